import PyProof.Rows.All
import Wide.All
import OpenK.AllK
import Wide.FinOn
import HandS.ForMost
import HandS.Exc
import HandS.WordsExc
import HandS.Wide
import HandS.IsInst
import HandS.Defaults
import HandS.MakeKwOnly
import HandS.Flow
import HandS.SortInts
import HandS.Conv
import HandS.SetFor
import HandS.Strs
import HandS.Walk
import HandS.Style
import HandS.OwnEq
import HandS.NamedTupSort
import KE.KCallOwn
import KE.KExcIs
import KE.KMinKey
import KE.KNestM
import HandS.Lambda
import HandS.EndTab
import HandS.SortKw
import HandS.Codes
import HandS.AnyAll
import HandS.HotCalls
import HandS.ClsMeth
import HandS.ExcInit
import HandS.ExcField
import HandS.ExcIs
import HandS.ExcCtx
import HandS.CallSlots
import HandS.TryMany
import HandS.Rev
import HandS.Defaults
import HandS.ListItems
import HandS.MakeKw
import HandS.MakeKwOnly
import KE.KDictCopyH
import HandS.RaiseMore
import HandS.TryOnly
import HandS.DictComp
import HandS.Finally
import HandS.SortRule
import HandS.Conv
import KE.KItemsList
import HandS.Zip
import HandS.RepeatKit
import HandS.ExcValue
import HandS.Small
import HandS.TupMul
import HandS.DictEq
import HandS.WordsDict
import HandS.More
import HandS.DictTup
import HandS.RaiseFrom
import HandS.FStr
import KE.KTupSum
import HandS.Deep
import PySem.Challenge.RW_latestow_k43_papers_judged
set_option Elab.async false
set_option linter.all false
set_option maxRecDepth 100000
set_option maxHeartbeats 4000000
/-! own rules over the hand layer -/
namespace Lt
open PySem PySem.Spec PyProof.Rows L2

theorem cx_no {P : Program} {w : World} {H : Hp} {s : Shared} {e : Value} {s' : Shared} (h : L2.CX P w [] H s (fun _ _ _ => False) e s') : False := by
  obtain ⟨_, _, _, _, _, _, _, _, _, _, _, _, z⟩ := h
  exact z

section
variable {X : Cx}
/-- a constant of the module -/
theorem pe_gl {x : Str} {v : V} {pos : Pos} (hg : Gl X x) (hm : ∃ u, X.mg x = some u ∧ RelV v u) (hd : (x == ("__debug__" : Str)) = false := by decide) : PE X (.Name x pos) (tC v) := by
  obtain ⟨u, h1, h2⟩ := hm
  exact pe_glob hg h1 h2 hd
/-- xs[k], 0 ≤ k, for xs[k] op= e -/
def rGetL (K : PySem.W.Frag) : V → V → Hp → VK → Prop := fun o i H Q => ∃ (p : Addr) (xs : List V) (k : Int) (v : V), o = .ref p ∧ i = .int k ∧ SqL K H p xs ∧ 0 ≤ k ∧ xs[k.toNat]? = some v ∧ Q v H
theorem gt_list : PGet X (rGetL X.K) := by
  intro pins s σ H o i ov iv Q I ro ri hw
  obtain ⟨p, xs, k, v, rfl, rfl, hx, h0, hv, hq⟩ := hw
  cases ro
  obtain ⟨tk, rfl⟩ := ri
  obtain ⟨its, rv, pl, hz⟩ := I.list hx
  obtain ⟨u, hu, ru⟩ := rv.get hv
  have hlt : k.toNat < xs.length := (List.getElem?_eq_some_iff.mp hv).1
  have hs : (sizeLine : Nat) < 2 ^ 63 := line63
  exact PySem.wpAny_getItem_list pl.isList h0 (by omega) (by simpa using hu) ⟨v, H, I, ru, hq⟩
theorem ip_of {op : Operator} {t : TIp} (h : OpR X (inplaceOp op) t) : PIp X op t := fun pins s σ H x y v u Q I rx ry q => h pins s σ H x y v u Q I rx ry q
theorem ps_augL {o i e : Expr} {to ti te : TE} {tip : TIp} {op : Operator} {tpos pos : Pos} (ho : PE X o to) (hi : PE X i ti) (he : PE X e te) (hp : OpR X (inplaceOp op) tip)
    (ha : ∀ ov iv new, augStore i ov iv new = (do holding [new, ov, iv] (setItem ov iv new); release [new, ov, iv] []; pure .next) := by intros; rfl) : PS X (.AugAssign (.Subscript o i tpos) op e pos) (tAugS to ti te (rGetL X.K) tip rSetL) :=
  ps_augS ho hi gt_list he (ip_of hp) set_list ha
/-- a statement, then a word of the state, then what follows from the word -/
def tMid (t u : TS) : TS := fun D σ H => ∃ M : L2.St → Hp → Prop, t { D with nx := M } σ H ∧ ∀ σ1 H1, M σ1 H1 → u D σ1 H1
theorem pss_mid {st : Stmt} {rest : List Stmt} {t u : TS} (hs : PS X st t) (hr : PSs X rest u) : PSs X (st :: rest) (tMid t u) := by
  refine ⟨fun pins s σ H D I hw => ?_⟩
  obtain ⟨M, h1, h2⟩ := hw
  exact wpAny_execs_cons (thn (hs.run pins s σ H { D with nx := M } I h1) fun f s1 hf => by
    cases f
    case next =>
      obtain ⟨σ1, H1, I1, m⟩ := hf
      exact hr.run pins s1 σ1 H1 D I1 (h2 σ1 H1 m)
    all_goals exact hf)
end

/-! ### heaps: all but b as it was -/
def SameB (b : Addr) (H H' : Hp) : Prop := ∀ a o, a ≠ b → H a = some o → H' a = some o
theorem SameB.refl (b : Addr) (H : Hp) : SameB b H H := fun _ _ _ h => h
theorem SameB.trans {b : Addr} {H H1 H2 : Hp} (x : SameB b H H1) (y : SameB b H1 H2) : SameB b H H2 := fun a o n h => y a o n (x a o n h)
theorem Same.toB {b : Addr} {H H' : Hp} (x : Same H H') : SameB b H H' := fun a o _ h => x a o h
theorem SameB.upd {b : Addr} {H H' : Hp} {o : HO} (x : SameB b H H') : SameB b H (upd H' b o) := fun a u n h => by rw [upd_ne n]; exact x a u n h
theorem SameB.new {b p : Addr} {H H' : Hp} {o : HO} (x : SameB b H H') (hp : H' p = none) : SameB b H (L2.upd H' p o) := fun a u n h => by
  have h1 := x a u n h
  rw [upd_ne (ne_of_none h1 hp)]
  exact h1
theorem SameB.mut {b p : Addr} {H H' : Hp} {o : HO} (x : SameB b H H') (hp : H p = none) : SameB b H (L2.upd H' p o) := fun a u n h => by
  rw [upd_ne (ne_of_none h hp)]
  exact x a u n h
theorem SameB.free {b p : Addr} {H H' : Hp} (x : SameB b H H') (n : p ≠ b) (hp : H' p = none) : H p = none := by
  cases e : H p with
  | none => rfl
  | some o =>
    have q := x p o n e
    rw [hp] at q
    cases q
theorem same_new {H : Hp} {p : Addr} {o : HO} (h : H p = none) : Same H (upd H p o) := fun b x e => by
  rw [upd_ne (ne_of_none e h)]
  exact e
theorem Same.new {p : Addr} {H H' : Hp} {o : HO} (x : Same H H') (hp : H' p = none) : Same H (L2.upd H' p o) := fun a u h => by
  have h1 := x a u h
  rw [upd_ne (ne_of_none h1 hp)]
  exact h1
/-- an object that H does not know may be written -/
theorem Same.mut {p : Addr} {H H' : Hp} {o : HO} (x : Same H H') (hp : H p = none) : Same H (L2.upd H' p o) := fun a u h => by
  rw [upd_ne (ne_of_none h hp)]
  exact x a u h
theorem SameB.seq {K : PySem.W.Frag} {b a : Addr} {H H' : Hp} {xs : List V} (x : SameB b H H') (n : a ≠ b) (h : SqL K H a xs) : SqL K H' a xs := by
  rcases h with (h | ⟨o, h⟩) | h
  · exact .inl (.inl (x _ _ n h))
  · exact .inl (.inr ⟨o, x _ _ n h⟩)
  · exact .inr h

/-! ### the bag of draws -/
/-- the bag at b over the numbers at l -/
def Bag (H : Hp) (b l : Addr) (ns : List Int) : Prop := ∃ (i r z : Int), 0 ≤ i ∧ H b = some (.lst [.ref l, .int i, .int r, .int z]) ∧ H l = some (.lst (ns.map V.int)) ∧ ns.length ≤ 63
theorem Bag.ne {H : Hp} {b l : Addr} {ns : List Int} (h : Bag H b l ns) : l ≠ b := by
  obtain ⟨i, r, z, _, h1, h2, _⟩ := h
  intro e
  subst e
  rw [h1] at h2
  cases ns with
  | nil => cases h2
  | cons n ns => cases h2
theorem Bag.mk {H : Hp} {b l : Addr} {ns : List Int} {i r z : Int} (h0 : 0 ≤ i) (h1 : H b = some (.lst [.ref l, .int i, .int r, .int z])) (h2 : H l = some (.lst (ns.map V.int))) (h3 : ns.length ≤ 63) : Bag H b l ns := ⟨i, r, z, h0, h1, h2, h3⟩
theorem Bag.keep {H H' : Hp} {b l : Addr} {ns : List Int} (h : Bag H b l ns) (s : Same H H') : Bag H' b l ns := by
  obtain ⟨i, r, z, h0, h1, h2, h3⟩ := h
  exact ⟨i, r, z, h0, s _ _ h1, s _ _ h2, h3⟩
/-- another list may turn -/
theorem Bag.updL {H : Hp} {b l D : Addr} {ns : List Int} {xs ys : List V} (h : Bag H b l ns) (hD : H D = some (.lst xs)) (n : D ≠ b) (n2 : D ≠ l := by first | assumption | skip) : Bag (upd H D (.lst ys)) b l ns := by
  obtain ⟨i, r, z, h0, h1, h2, h3⟩ := h
  exact ⟨i, r, z, h0, by rw [upd_ne n.symm]; exact h1, by rw [upd_ne n2.symm]; exact h2, h3⟩
theorem Bag.fresh {H : Hp} {b l D : Addr} {ns : List Int} (h : Bag H b l ns) (nD : H D = none) : D ≠ b ∧ D ≠ l := by
  obtain ⟨i, r, z, h0, h1, h2, h3⟩ := h
  exact ⟨(ne_of_none h1 nD).symm, (ne_of_none h2 nD).symm⟩
theorem Bag.put {H : Hp} {b l D : Addr} {ns : List Int} {o : HO} (h : Bag H b l ns) (n : D ≠ b) (n2 : D ≠ l) : Bag (L2.upd H D o) b l ns := by
  obtain ⟨i, r, z, h0, h1, h2, h3⟩ := h
  exact ⟨i, r, z, h0, by rw [upd_ne n.symm]; exact h1, by rw [upd_ne n2.symm]; exact h2, h3⟩
/-- what is no list stays where the bag alone turns -/
theorem Bag.tup {H H' : Hp} {a b l : Addr} {ns : List Int} {u : List V} (h : Bag H b l ns) (s : SameB b H H') (e : H a = some (.tup u)) : H' a = some (.tup u) := s a _ (fun z => by
  obtain ⟨i, r, z', h0, h1, h2, h3⟩ := h
  rw [z, h1] at e
  cases e) e
theorem cut_none (xs : List V) (n : Nat) : cutV xs none (some (n : Int)) = xs.take n := by
  unfold cutV
  rw [HT.sIx_none, show HT.sIx xs.length xs.length (some (n : Int)) = min n xs.length from HT.sIx_nat _ _ n, List.drop_zero, Nat.sub_zero]
  by_cases h : n ≤ xs.length
  · rw [Nat.min_eq_left h]
  · rw [Nat.min_eq_right (by omega), List.take_length, List.take_of_length_le (by omega)]
theorem sz {n : Nat} (h : n ≤ 1000) : n ≤ sizeLine := Nat.le_trans h (by decide)
theorem pull_pick {xs : List V} {v n : Int} (lo hi : Int) (h0 : 0 ≤ v) (h1 : v < n) (hn : n = (xs.length : Int)) (hP : ∀ x ∈ xs, ∃ t, x = V.int t ∧ lo ≤ t ∧ t ≤ hi) : ∃ t, atI xs v = some (.int t) ∧ lo ≤ t ∧ t ≤ hi := by
  have hl : v.toNat < xs.length := by omega
  have e : (v.toNat : Int) = v := Int.toNat_of_nonneg h0
  obtain ⟨t, et, h2⟩ := hP _ (List.getElem_mem hl)
  refine ⟨t, ?_, h2⟩
  have q := atI_nat (xs := xs) (List.getElem?_eq_getElem hl)
  rw [e, et] at q
  exact q
theorem atI_pick {xs : List V} {v : Int} (P : V → Prop) (h0 : 0 ≤ v) (h1 : v < (xs.length : Int)) (hP : ∀ x ∈ xs, P x) : ∃ x, atI xs v = some x ∧ P x := by
  have hl : v.toNat < xs.length := by omega
  have e : (v.toNat : Int) = v := Int.toNat_of_nonneg h0
  refine ⟨xs[v.toNat], ?_, hP _ (List.getElem_mem hl)⟩
  have q := atI_nat (xs := xs) (List.getElem?_eq_getElem hl)
  rw [e] at q
  exact q
end Lt
namespace Lt
open PySem PySem.Spec PyProof.Rows L2
/-! the readings, one combinator a step -/
section
variable {K : PySem.W.Frag} {D : Ends} {σ : L2.St} {H : Hp} {Q : VK} {ta tb te tx : TE} {t u : TS} {c : TT} {i j : Int} {v x y : V} {p a : Addr} {xs : List V} {E : XK}
theorem k_seq (h : t { D with nx := u D } σ H) : tSeq t u D σ H := h
theorem k_next (h : D.nx σ H) : tNext D σ H := h
theorem k_ifS (h : c σ H fun b H1 => if b = true then t D σ H1 else u D σ H1) : tIfS c t u D σ H := h
theorem k_ret (h : te σ H D.rt) : tRet te D σ H := h
theorem k_drop (h : te σ H fun _ H1 => D.nx σ H1) : tDrop te D σ H := h
theorem k_asg {g : TG} (h : te σ H fun x H1 => g x σ H1 D.nx) : tAsg te g D σ H := h
theorem k_gName {n : Nat} {Qs : L2.St → Hp → Prop} (h : Qs (σ.set n (some v)) H) : gName n v σ H Qs := h
theorem k_gSub {to ti : TE} {tt : TSet} {Qs : L2.St → Hp → Prop} (h : to σ H fun o H1 => ti σ H1 fun i H2 => tt o i v H2 fun H3 => Qs σ H3) : gSub to ti tt v σ H Qs := h
theorem k_setL {xs : List V} {k : Int} {n : Nat} {Qh : Hp → Prop} (h1 : H p = some (.lst xs)) (h2 : ixN xs.length k = some n) (h : Qh (upd H p (.lst (xs.set n v)))) : rSetL (.ref p) (.int k) v H Qh := ⟨p, xs, k, n, rfl, rfl, h1, h2, h⟩
theorem k_var {n : Nat} (h1 : σ[n]? = some (some v)) (h : Q v H) : tVar n σ H Q := ⟨v, h1, h⟩
theorem k_c (h : Q v H) : tC v σ H Q := h
theorem k_op {r : R2} (h : ta σ H fun x H1 => tb σ H1 fun y H2 => r x y H2 Q) : tOp r ta tb σ H Q := h
theorem k_un {r : V → Hp → VK → Prop} (h : ta σ H fun x H1 => r x H1 Q) : tUn r ta σ H Q := h
theorem k_I0 {g : Int → Int → V} (h : Q (g i j) H) : rI0 g (.int i) (.int j) H Q := ⟨i, j, rfl, rfl, h⟩
theorem k_I {C : Int → Int → Prop} {g : Int → Int → V} (hc : C i j) (h : Q (g i j) H) : rI C g (.int i) (.int j) H Q := ⟨i, j, rfl, rfl, hc, h⟩
theorem k_U {g : Int → V} (h : Q (g i) H) : rU g (.int i) H Q := ⟨i, rfl, h⟩
theorem k_ixL (h1 : SqL K H p xs) (h2 : atI xs i = some v) (h : Q v H) : rIxL K (.ref p) (.int i) H Q := ⟨p, xs, i, v, rfl, rfl, h1, h2, h⟩
theorem k_ixT (h1 : SqT K H p xs) (h2 : atI xs i = some v) (h : Q v H) : rIxT K (.ref p) (.int i) H Q := ⟨p, xs, i, v, rfl, rfl, h1, h2, h⟩
theorem k_getL {k : Int} (h1 : SqL K H p xs) (h0 : 0 ≤ k) (h2 : xs[k.toNat]? = some v) (h : Q v H) : rGetL K (.ref p) (.int k) H Q := ⟨p, xs, k, v, rfl, rfl, h1, h0, h2, h⟩
theorem k_tst {Qb : Bool → Hp → Prop} (h : te σ H fun x H' => ∃ k, x = .bl k ∧ Qb k H') : tTest te σ H Qb := h
theorem k_tB {Qb : Bool → Hp → Prop} (h : te σ H fun x H' => ∃ k, x = .bl k ∧ Qb k H') : tB te σ H Qb := h
theorem k_bl {b : Bool} {Qb : Bool → Hp → Prop} (h : Qb b H) : ∃ k, V.bl b = .bl k ∧ Qb k H := ⟨b, rfl, h⟩
theorem k_cb {r : List V → Hp → VK → Prop} {ts : TA} (h : ts σ H fun vs H1 => r vs H1 Q) : tCB r ts σ H Q := h
theorem k_cons {ts : TA} {Ql : List V → Hp → Prop} (h : te σ H fun x H1 => ts σ H1 fun xs H2 => Ql (x :: xs) H2) : tCons te ts σ H Ql := h
theorem k_nil {Ql : List V → Hp → Prop} (h : Ql [] H) : tNil σ H Ql := h
theorem k_call {sp : Sp} {dvs : List V} {ts : TA} (h : ts σ H fun vs H1 => sp (vs ++ dvs) H1 Q E) : tCall sp dvs E ts σ H Q := h
theorem k_callN {n m : Nat} {sp : Sp} {gV : List V → List V → List V} {t1 t2 : TA} (h : t1 σ H fun vs H1 => t2 σ H1 fun zs H2 => vs.length = n ∧ zs.length = m ∧ sp (gV vs zs) H2 Q E) : tCallN n m sp gV E t1 t2 σ H Q := h
theorem k_isi {b : Bool} {n m : String} (ht : TyX K H x (.type m)) (hk : kitB m n = some b) (h : Q (.bl b) H) : rIsi K [x, .ty n] H Q := ⟨x, .ty n, _, _, b, rfl, .ty n, ht, kit_ty hk, h⟩
theorem isi_ii : kitB "int" "int" = some true := by decide +kernel
theorem isi_ib : kitB "int" "bool" = some false := by decide +kernel
theorem isi_bi : kitB "bool" "int" = some true := by decide +kernel
theorem isi_bb : kitB "bool" "bool" = some true := by decide +kernel
theorem isi_is : kitB "int" "str" = some false := by decide +kernel
theorem isi_si : kitB "str" "int" = some false := by decide +kernel
theorem isi_ss : kitB "str" "str" = some true := by decide +kernel
theorem isi_ll : kitB "list" "list" = some true := by decide +kernel
theorem isi_tt : kitB "tuple" "tuple" = some true := by decide +kernel
theorem isi_lt : kitB "list" "tuple" = some false := by decide +kernel
theorem isi_tl : kitB "tuple" "list" = some false := by decide +kernel
theorem isi_ni : kitB "NoneType" "int" = some false := by decide +kernel
theorem isi_dd : kitB "dict" "dict" = some true := by decide +kernel
theorem k_lst {ts : TA} (h : ts σ H fun xs H1 => xs.length ≤ sizeLine ∧ ∀ p, H1 p = none → Q (.ref p) (upd H1 p (.lst xs))) : tLst ts σ H Q := h
theorem k_tup {ts : TA} (h : ts σ H fun xs H1 => xs.length ≤ sizeLine ∧ ∀ p, H1 p = none → Q (.ref p) (upd H1 p (.tup xs))) : tTup ts σ H Q := h
theorem k_and {tt uu : TT} {Qb : Bool → Hp → Prop} (h : tt σ H fun c H1 => if c = true then uu σ H1 Qb else Qb false H1) : tAnd tt uu σ H Qb := h
theorem k_or {tt uu : TT} {Qb : Bool → Hp → Prop} (h : tt σ H fun c H1 => if c = true then Qb true H1 else uu σ H1 Qb) : tOr tt uu σ H Qb := h
theorem k_not {tt : TT} {Qb : Bool → Hp → Prop} (h : tt σ H fun c H1 => Qb (!c) H1) : tNot tt σ H Qb := h
theorem k_andV (h : ta σ H fun x H1 => ∃ c, x = .bl c ∧ if c = true then tb σ H1 Q else Q (.bl false) H1) : tAndV ta tb σ H Q := h
theorem k_orV (h : ta σ H fun x H1 => ∃ c, x = .bl c ∧ if c = true then Q (.bl true) H1 else tb σ H1 Q) : tOrV ta tb σ H Q := h
theorem k_notV (h : ta σ H fun x H1 => ∃ c, x = .bl c ∧ Q (.bl (!c)) H1) : tNotV ta σ H Q := h
theorem k_ifE {tt : TT} (h : tt σ H fun c H1 => if c = true then ta σ H1 Q else tb σ H1 Q) : tIf tt ta tb σ H Q := h
theorem k_eqV (hs : scal x y = true) (h : Q (.bl (decide (x = y))) H) : rEq x y H Q := ⟨hs, h⟩
theorem k_neV (hs : scal x y = true) (h : Q (.bl (!decide (x = y))) H) : rNe x y H Q := ⟨hs, h⟩
theorem k_augS {to ti te : TE} {tget : V → V → Hp → VK → Prop} {tip : TIp} {tset : TSet} (h : to σ H fun o H1 => ti σ H1 fun i H2 => tget o i H2 fun x H3 => te σ H3 fun y H4 => tip x y H4 fun z H5 => tset o i z H5 fun H6 => D.nx σ H6) : tAugS to ti te tget tip tset D σ H := h
theorem k_aug {n : Nat} {ti : TIp} (h1 : σ[n]? = some (some x)) (h : te σ H fun y H1 => ti x y H1 fun z H2 => D.nx (σ.set n (some z)) H2) : tAug n te ti D σ H := ⟨x, h1, h⟩
theorem k_ipI {f : Int → Int → Int} (h : Q (.int (f i j)) H) : ipI f (.int i) (.int j) H Q := ⟨i, j, rfl, rfl, h⟩
theorem k_sl {r : V → Option Int → Option Int → Hp → VK → Prop} {tl th : TO} (h : te σ H fun x H1 => tl σ H1 fun lo H2 => th σ H2 fun hi H3 => r x lo hi H3 Q) : tSl r te tl th σ H Q := h
theorem k_noPart {Qo : Option Int → Hp → Prop} (h : Qo none H) : tNoPart σ H Qo := h
theorem k_part {Qo : Option Int → Hp → Prop} (h : te σ H fun x H1 => ∃ i, x = .int i ∧ Qo (some i) H1) : tPart te σ H Qo := h
theorem k_int {Qi : Int → Hp → Prop} (h : Qi i H) : ∃ k, V.int i = .int k ∧ Qi k H := ⟨i, rfl, h⟩
theorem k_slL {lo hi : Option Int} (h1 : SqL K H p xs) (h : ∀ q, H q = none → Q (.ref q) (upd H q (.lst (cutV xs lo hi)))) : rSlL K (.ref p) lo hi H Q := ⟨p, xs, rfl, h1, h⟩
theorem k_iteD {q A B : Prop} [Decidable q] (h1 : q → A) (h2 : ¬ q → B) : if decide q = true then A else B := by
  by_cases h : q
  · rw [decide_eq_true h]
    exact h1 h
  · rw [decide_eq_false h]
    exact h2 h
theorem k_iteN {q A B : Prop} [Decidable q] (h1 : ¬ q → A) (h2 : q → B) : if (!decide q) = true then A else B := by
  by_cases h : q
  · rw [decide_eq_true h]
    exact h2 h
  · rw [decide_eq_false h]
    exact h1 h
theorem k_iteB {b : Bool} {A B : Prop} (h1 : b = true → A) (h2 : b = false → B) : if b = true then A else B := by
  cases b
  · exact h2 rfl
  · exact h1 rfl
theorem k_ite0 {A B : Prop} (h : B) : if false = true then A else B := h
theorem k_ite1 {A B : Prop} (h : A) : if true = true then A else B := h
theorem k_iteN1 {A B : Prop} (h : B) : if (!true) = true then A else B := h
theorem k_iteN0 {A B : Prop} (h : A) : if (!false) = true then A else B := h
theorem k_iteT {b : Bool} {A B : Prop} (e : b = true) (h : A) : if b = true then A else B := by
  rw [if_pos e]
  exact h
theorem k_iteF {b : Bool} {A B : Prop} (e : b = false) (h : B) : if b = true then A else B := by
  rw [e]
  exact h
theorem k_iteD1 {q A B : Prop} [Decidable q] (e : q) (h : A) : if decide q = true then A else B := k_iteT (decide_eq_true e) h
theorem k_iteD2 {q A B : Prop} [Decidable q] (e : ¬ q) (h : B) : if decide q = true then A else B := k_iteF (decide_eq_false e) h
theorem k_bm {T : String} {r : V → List V → Hp → VK → Prop} {ts : TA} (h : te σ H fun x H1 => tyV K T x H1 ∧ ts σ H1 fun xs H2 => r x xs H2 Q) : tBM K T r te ts σ H Q := h
theorem k_bm0 {T : String} {r : V → List V → Hp → VK → Prop} (h : te σ H fun x H1 => tyV K T x H1 ∧ r x [] H1 Q) : tBM0 K T r te σ H Q := h
theorem k_tyL {A : Prop} (h1 : H p = some (.lst xs)) (h : A) : tyV K "list" (.ref p) H ∧ A := ⟨.inl ⟨rfl, _, SqL.of h1⟩, h⟩
theorem k_app (h1 : H p = some (.lst xs)) (h2 : xs.length ≤ 1000) (h : Q .non (upd H p (.lst (xs ++ [v])))) : rAppend (.ref p) [v] H Q := ⟨p, xs, v, rfl, rfl, h1, small1000 h2, h⟩
theorem k_lstRg {tr : L2.St → Hp → (Int → Int → Hp → Prop) → Prop} (h : tr σ H fun a b H1 => RgOk a b ∧ ∀ q, H1 q = none → Q (.ref q) (upd H1 q (.lst (rgV a b)))) : tLstRg tr σ H Q := h
theorem k_rg1 {Qr : Int → Int → Hp → Prop} (h : ta σ H fun x H1 => ∃ n, x = .int n ∧ Qr 0 n H1) : tRg1 ta σ H Qr := h
theorem k_rg2 {Qr : Int → Int → Hp → Prop} (h : ta σ H fun x H1 => tb σ H1 fun y H2 => ∃ i j, x = .int i ∧ y = .int j ∧ Qr i j H2) : tRg2 ta tb σ H Qr := h
theorem k_cat {xs ys : List V} {q : Addr} (h1 : H p = some (.lst xs)) (h2 : H q = some (.lst ys)) (h3 : xs.length + ys.length ≤ 100000) (h : ∀ r, H r = none → Q (.ref r) (upd H r (.lst (xs ++ ys)))) : rCat (.ref p) (.ref q) H Q :=
  ⟨p, q, xs, ys, rfl, rfl, h1, h2, Nat.le_trans h3 (by decide), h⟩
theorem k_iteNN {q A B : Prop} [Decidable q] (e : ¬ q) (h : A) : if (!decide q) = true then A else B := k_iteT (by rw [decide_eq_false e]; rfl) h
theorem k_iteNY {q A B : Prop} [Decidable q] (e : q) (h : B) : if (!decide q) = true then A else B := k_iteF (by rw [decide_eq_true e]; rfl) h
theorem k_rfl {x : V} {A : Prop} (h : A) : x = x ∧ A := ⟨rfl, h⟩
theorem k_iteE {A B : Prop} {x : V} (h : A) : if decide (x = x) = true then A else B := k_iteT (decide_eq_true rfl) h
theorem k_iteNE {A B : Prop} {x : V} (h : B) : if (!decide (x = x)) = true then A else B := k_iteF (by rw [decide_eq_true rfl]; rfl) h
theorem k_for {wi : TI} {g : TG} {tb : TS} (h : wi σ H fun J H1 => ∃ W : Nat → Nat → L2.St → Hp → Prop, (∃ m, W 0 m σ H1) ∧ ∀ i m σ H, W i m σ H →
    (J.stop i H ∧ D.nx σ H) ∨ (J.go i H ∧ ∃ N : L2.St → Hp → Prop, (∀ σ' H', N σ' H' → ∃ m', m' < m ∧ W (i + 1) m' σ' H') ∧ ∀ x H', J.yld i H x H' → g x σ H' fun σ2 H2 => tb { D with nx := N, ct := N, bk := D.nx } σ2 H2)) : tFor wi g tb D σ H := h
theorem k_iL {R : It → Hp → Prop} (h : te σ H fun x H1 => ∃ a, x = .ref a ∧ (∃ xs, SqL K H1 a xs) ∧ R (Itl K a) H1) : iList K te σ H R := h
theorem k_iT {R : It → Hp → Prop} (h : te σ H fun x H1 => ∃ a, x = .ref a ∧ (∃ xs, SqT K H1 a xs) ∧ R (Itt K a) H1) : iTup K te σ H R := h
theorem k_iR1 {ts : TA} {R : It → Hp → Prop} (h : ts σ H fun vs H1 => ∃ j : Int, vs = [.int j] ∧ -(2 ^ 62) ≤ j ∧ j < 2 ^ 62 ∧ R (Itr 0 j.toNat) H1) : iRng1 ts σ H R := h
theorem k_iR2 {ts : TA} {R : It → Hp → Prop} (h : ts σ H fun vs H1 => ∃ i j : Int, vs = [.int i, .int j] ∧ (-(2 ^ 62) ≤ i ∧ i < 2 ^ 62 ∧ -(2 ^ 62) ≤ j ∧ j < 2 ^ 62) ∧ R (Itr i (j - i).toNat) H1) : iRng2 ts σ H R := h
/-- a for over a list: what is left behind the steps -/
theorem k_inL {g : TG} {tb : TS} {Nx : L2.St → Hp → Prop} {R : VK} (Pv : Nat → L2.St → Hp → Prop) (hq : SqL K H a xs) (h0 : Pv 0 σ H) (hl : ∀ i σ H, i ≤ xs.length → Pv i σ H → SqL K H a xs)
    (hs : ∀ i x σ H, xs[i]? = some x → Pv i σ H → g x σ H fun σ2 H2 => tb { nx := Pv (i + 1), rt := R, bk := Nx, ct := Pv (i + 1) } σ2 H2) (hd : ∀ σ H, Pv xs.length σ H → Nx σ H) :
    (∃ xs, SqL K H a xs) ∧ ∃ W : Nat → Nat → L2.St → Hp → Prop, (∃ m, W 0 m σ H) ∧ ∀ i m σ H, W i m σ H →
      ((Itl K a).stop i H ∧ Nx σ H) ∨ ((Itl K a).go i H ∧ ∃ N : L2.St → Hp → Prop, (∀ σ' H', N σ' H' → ∃ m', m' < m ∧ W (i + 1) m' σ' H') ∧ ∀ x H', (Itl K a).yld i H x H' → g x σ H' fun σ2 H2 => tb { nx := N, rt := R, bk := Nx, ct := N } σ2 H2) :=
  ⟨⟨xs, hq⟩, for_list (D := { nx := Nx, rt := R }) Pv h0 hl hs hd⟩
theorem k_inT {g : TG} {tb : TS} {Nx : L2.St → Hp → Prop} {R : VK} (Pv : Nat → L2.St → Hp → Prop) (hq : SqT K H a xs) (h0 : Pv 0 σ H) (hl : ∀ i σ H, i ≤ xs.length → Pv i σ H → SqT K H a xs)
    (hs : ∀ i x σ H, xs[i]? = some x → Pv i σ H → g x σ H fun σ2 H2 => tb { nx := Pv (i + 1), rt := R, bk := Nx, ct := Pv (i + 1) } σ2 H2) (hd : ∀ σ H, Pv xs.length σ H → Nx σ H) :
    (∃ xs, SqT K H a xs) ∧ ∃ W : Nat → Nat → L2.St → Hp → Prop, (∃ m, W 0 m σ H) ∧ ∀ i m σ H, W i m σ H →
      ((Itt K a).stop i H ∧ Nx σ H) ∨ ((Itt K a).go i H ∧ ∃ N : L2.St → Hp → Prop, (∀ σ' H', N σ' H' → ∃ m', m' < m ∧ W (i + 1) m' σ' H') ∧ ∀ x H', (Itt K a).yld i H x H' → g x σ H' fun σ2 H2 => tb { nx := N, rt := R, bk := Nx, ct := N } σ2 H2) :=
  ⟨⟨xs, hq⟩, for_tup (D := { nx := Nx, rt := R }) Pv h0 hl hs hd⟩
/-- range(n), range(lo, hi) -/
theorem k_inR {lo : Int} {n : Nat} {g : TG} {tb : TS} {Nx : L2.St → Hp → Prop} {R : VK} (Pv : Nat → L2.St → Hp → Prop) (h0 : Pv 0 σ H)
    (hs : ∀ i σ H, i < n → Pv i σ H → g (.int (lo + i)) σ H fun σ2 H2 => tb { nx := Pv (i + 1), rt := R, bk := Nx, ct := Pv (i + 1) } σ2 H2) (hd : ∀ σ H, Pv n σ H → Nx σ H) :
    ∃ W : Nat → Nat → L2.St → Hp → Prop, (∃ m, W 0 m σ H) ∧ ∀ i m σ H, W i m σ H →
      ((Itr lo n).stop i H ∧ Nx σ H) ∨ ((Itr lo n).go i H ∧ ∃ N : L2.St → Hp → Prop, (∀ σ' H', N σ' H' → ∃ m', m' < m ∧ W (i + 1) m' σ' H') ∧ ∀ x H', (Itr lo n).yld i H x H' → g x σ H' fun σ2 H2 => tb { nx := N, rt := R, bk := Nx, ct := N } σ2 H2) :=
  for_range (D := { nx := Nx, rt := R }) Pv h0 hs hd
theorem k_lenL {B : Addr → List V → Prop} (h1 : SqL K H a xs) (h : B a xs) : ∃ p ys, [V.ref a] = [V.ref p] ∧ (SqL K H p ys ∨ SqT K H p ys) ∧ B p ys := ⟨a, xs, rfl, .inl h1, h⟩
theorem k_lenT {B : Addr → List V → Prop} (h1 : SqT K H a xs) (h : B a xs) : ∃ p ys, [V.ref a] = [V.ref p] ∧ (SqL K H p ys ∨ SqT K H p ys) ∧ B p ys := ⟨a, xs, rfl, .inr h1, h⟩
theorem k_chain {r r' : R2} {tc : TE} (h : ta σ H fun x H1 => tb σ H1 fun y H2 => r x y H2 fun z H3 => ∃ k, z = .bl k ∧ (if k = true then tc σ H3 fun u H4 => r' y u H4 Q else Q (.bl false) H3)) : tChain r r' ta tb tc σ H Q := h
theorem k_expr {sp : Sp} (h : sp [] H Q E) : sp [] H Q E := h
theorem k_tup1 {K : PySem.W.Frag} {n : Nat} {ts : TGs} {Qs : L2.St → Hp → Prop} (h1 : SqT K H a xs) (h2 : xs.length = n) (h : ts xs σ H Qs) : gTup K n ts (.ref a) σ H Qs := ⟨a, xs, rfl, h1, h2, h⟩
theorem k_gCons {g : TG} {gs : TGs} {r : List V} {Qs : L2.St → Hp → Prop} (h : g v σ H fun σ' H' => gs r σ' H' Qs) : gCons g gs (v :: r) σ H Qs := ⟨v, r, rfl, h⟩
theorem k_gNil {Qs : L2.St → Hp → Prop} (h : Qs σ H) : gNil [] σ H Qs := ⟨rfl, h⟩
theorem k_fld {C dx : Addr} {f : Str} {fs : List (Str × V)} (h : ta σ H fun x H1 => ∃ a C dx fs v, x = .ref a ∧ H1 a = some (.ins C dx fs) ∧ Cls K C ∧ NoAttr K C f ∧ fs.lookup f = some v ∧ Q v H1) : tFld K ta f σ H Q := h
theorem Same.get {H H' : Hp} {o : HO} (s : Same H H') (h : H a = some o) : H' a = some o := s _ _ h
theorem SameB.get {b : Addr} {H H' : Hp} {o : HO} (s : SameB b H H') (n : a ≠ b) (h : H a = some o) : H' a = some o := s _ _ n h
theorem ne_upd {b : Addr} {o u : HO} (h : a ≠ b) (e : H a = some u) : upd H b o a = some u := by
  rw [upd_ne h]
  exact e
end
end Lt
/-! list comprehensions -/
namespace Lt
open PySem PySem.Spec PyProof.Rows L2
/-- behind i turns the list at D holds acc -/
def LcP (Pv : Addr → Nat → List V → Hp → Prop) (D : Addr) (i : Nat) (H : Hp) : Prop := ∃ acc, H D = some (.lst acc) ∧ acc.length ≤ i ∧ Pv D i acc H
section
variable {K : PySem.W.Frag} {σ : L2.St} {H : Hp} {Q : VK} {te : TE} {tt : TT} {g : TG} {vs : List Nat} {a : Addr} {xs : List V} {wi : TI}
theorem lc_end {Pv : Addr → Nat → List V → Hp → Prop} {D : Addr} {i : Nat} {y : V} {acc : List V} (h1 : H D = some (.lst acc)) (h2 : acc.length ≤ i) (hi : i < 1000) (h3 : Pv D (i + 1) (acc ++ [y]) (upd H D (.lst (acc ++ [y])))) :
    ∃ acc, H D = some (.lst acc) ∧ acc.length < sizeLine ∧ LcP Pv D (i + 1) (upd H D (.lst (acc ++ [y]))) :=
  ⟨acc, h1, small1000 (by omega), acc ++ [y], upd_same, (by rw [List.length_append, List.length_singleton]; omega), h3⟩
theorem lc_skip {Pv : Addr → Nat → List V → Hp → Prop} {D : Addr} {i : Nat} {acc : List V} (h1 : H D = some (.lst acc)) (h2 : acc.length ≤ i) (h3 : Pv D (i + 1) acc H) : LcP Pv D (i + 1) H := ⟨acc, h1, by omega, h3⟩
theorem k_lc (h : wi σ H fun J H1 => ∀ D, H1 D = none → ∃ W : Nat → Nat → Hp → Prop, (∃ m, W 0 m (upd H1 D (.lst []))) ∧ ∀ i m H, W i m H →
    (J.stop i H ∧ Q (.ref D) H) ∨ (J.go i H ∧ ∃ Nx : Hp → Prop, (∀ H', Nx H' → ∃ m', m' < m ∧ W (i + 1) m' H') ∧ ∀ x H', J.yld i H x H' → g x (wipe σ vs) H' fun σ2 H2 => wipe σ2 vs = wipe σ vs ∧ tt σ2 H2 fun b H3 =>
      if b = true then te σ2 H3 fun y H4 => ∃ acc, H4 D = some (.lst acc) ∧ acc.length < sizeLine ∧ Nx (upd H4 D (.lst (acc ++ [y]))) else Nx H3)) : tLc wi g tt te vs σ H Q := h
theorem k_wipe {σ1 σ2 : L2.St} {ws : List Nat} {A : Prop} (e : wipe σ1 ws = wipe σ2 ws) (h : A) : wipe σ1 ws = wipe σ2 ws ∧ A := ⟨e, h⟩
theorem k_allT {n : Nat} (hx : H a = some (.lst (List.replicate n (V.bl true)))) (h : Q (.bl true) H) : rAll K [.ref a] H Q := by
  refine ⟨a, List.replicate n true, rfl, SqL.of (by rw [hx, List.map_replicate]), ?_⟩
  rw [show (List.replicate n true).all id = true by simp]
  exact h
theorem k_anyF {n : Nat} (hx : H a = some (.lst (List.replicate n (V.bl false)))) (h : Q (.bl false) H) : rAny K [.ref a] H Q := by
  refine ⟨a, List.replicate n false, rfl, SqL.of (by rw [hx, List.map_replicate]), ?_⟩
  rw [show (List.replicate n false).any id = false by simp]
  exact h
theorem int_at {ks : List Int} {i : Nat} {x : V} (h : (ks.map V.int)[i]? = some x) : ∃ k, x = V.int k ∧ ks[i]? = some k := by
  rw [List.getElem?_map] at h
  cases e : ks[i]? with
  | none =>
    rw [e] at h
    cases h
  | some k =>
    rw [e] at h
    exact ⟨k, (Option.some.inj h).symm, rfl⟩
theorem k_yes {Qb : Bool → Hp → Prop} (h : Qb true H) : tYes σ H Qb := h
theorem k_lcL {Qd : Addr → Hp → Prop} (Pv : Addr → Nat → List V → Hp → Prop) (hq : SqL K H a xs) (h0 : ∀ D, H D = none → Pv D 0 [] (upd H D (.lst []))) (hl : ∀ D i acc H', H D = none → H' D = some (.lst acc) → Pv D i acc H' → SqL K H' a xs)
    (hs : ∀ D i x acc H', H D = none → i < xs.length → xs[i]? = some x → H' D = some (.lst acc) → acc.length ≤ i → Pv D i acc H' → g x (wipe σ vs) H' fun σ2 H2 => wipe σ2 vs = wipe σ vs ∧ tt σ2 H2 fun b H3 =>
      if b = true then te σ2 H3 fun y H4 => ∃ acc, H4 D = some (.lst acc) ∧ acc.length < sizeLine ∧ LcP Pv D (i + 1) (upd H4 D (.lst (acc ++ [y]))) else LcP Pv D (i + 1) H3)
    (h : ∀ D acc H', H D = none → H' D = some (.lst acc) → acc.length ≤ xs.length → Pv D xs.length acc H' → Qd D H') :
    (∃ xs, SqL K H a xs) ∧ ∀ D, H D = none → ∃ W : Nat → Nat → Hp → Prop, (∃ m, W 0 m (upd H D (.lst []))) ∧ ∀ i m H, W i m H →
      ((Itl K a).stop i H ∧ Qd D H) ∨ ((Itl K a).go i H ∧ ∃ Nx : Hp → Prop, (∀ H', Nx H' → ∃ m', m' < m ∧ W (i + 1) m' H') ∧ ∀ x H', (Itl K a).yld i H x H' → g x (wipe σ vs) H' fun σ2 H2 => wipe σ2 vs = wipe σ vs ∧ tt σ2 H2 fun b H3 =>
        if b = true then te σ2 H3 fun y H4 => ∃ acc, H4 D = some (.lst acc) ∧ acc.length < sizeLine ∧ Nx (upd H4 D (.lst (acc ++ [y]))) else Nx H3) := by
  refine ⟨⟨xs, hq⟩, fun D nD => lc_list (xs := xs) (LcP Pv D) ⟨[], upd_same, Nat.le_refl _, h0 D nD⟩ (fun i H' _ hp => ?_) (fun i x H' hx hp => ?_) fun H' hp => ?_⟩
  · obtain ⟨acc, e1, _, e3⟩ := hp
    exact hl D i acc H' nD e1 e3
  · obtain ⟨acc, e1, e2, e3⟩ := hp
    exact hs D i x acc H' nD (List.getElem?_eq_some_iff.mp hx).1 hx e1 e2 e3
  · obtain ⟨acc, e1, e2, e3⟩ := hp
    exact h D acc H' nD e1 e2 e3
theorem k_lcT {Qd : Addr → Hp → Prop} (Pv : Addr → Nat → List V → Hp → Prop) (hq : SqT K H a xs) (h0 : ∀ D, H D = none → Pv D 0 [] (upd H D (.lst []))) (hl : ∀ D i acc H', H D = none → H' D = some (.lst acc) → Pv D i acc H' → SqT K H' a xs)
    (hs : ∀ D i x acc H', H D = none → i < xs.length → xs[i]? = some x → H' D = some (.lst acc) → acc.length ≤ i → Pv D i acc H' → g x (wipe σ vs) H' fun σ2 H2 => wipe σ2 vs = wipe σ vs ∧ tt σ2 H2 fun b H3 =>
      if b = true then te σ2 H3 fun y H4 => ∃ acc, H4 D = some (.lst acc) ∧ acc.length < sizeLine ∧ LcP Pv D (i + 1) (upd H4 D (.lst (acc ++ [y]))) else LcP Pv D (i + 1) H3)
    (h : ∀ D acc H', H D = none → H' D = some (.lst acc) → acc.length ≤ xs.length → Pv D xs.length acc H' → Qd D H') :
    (∃ xs, SqT K H a xs) ∧ ∀ D, H D = none → ∃ W : Nat → Nat → Hp → Prop, (∃ m, W 0 m (upd H D (.lst []))) ∧ ∀ i m H, W i m H →
      ((Itt K a).stop i H ∧ Qd D H) ∨ ((Itt K a).go i H ∧ ∃ Nx : Hp → Prop, (∀ H', Nx H' → ∃ m', m' < m ∧ W (i + 1) m' H') ∧ ∀ x H', (Itt K a).yld i H x H' → g x (wipe σ vs) H' fun σ2 H2 => wipe σ2 vs = wipe σ vs ∧ tt σ2 H2 fun b H3 =>
        if b = true then te σ2 H3 fun y H4 => ∃ acc, H4 D = some (.lst acc) ∧ acc.length < sizeLine ∧ Nx (upd H4 D (.lst (acc ++ [y]))) else Nx H3) := by
  refine ⟨⟨xs, hq⟩, fun D nD => lc_tup (xs := xs) (LcP Pv D) ⟨[], upd_same, Nat.le_refl _, h0 D nD⟩ (fun i H' _ hp => ?_) (fun i x H' hx hp => ?_) fun H' hp => ?_⟩
  · obtain ⟨acc, e1, _, e3⟩ := hp
    exact hl D i acc H' nD e1 e3
  · obtain ⟨acc, e1, e2, e3⟩ := hp
    exact hs D i x acc H' nD (List.getElem?_eq_some_iff.mp hx).1 hx e1 e2 e3
  · obtain ⟨acc, e1, e2, e3⟩ := hp
    exact h D acc H' nD e1 e2 e3
theorem k_lcR {Qd : Addr → Hp → Prop} {lo : Int} {n : Nat} (Pv : Addr → Nat → List V → Hp → Prop) (h0 : ∀ D, H D = none → Pv D 0 [] (upd H D (.lst [])))
    (hs : ∀ D i acc H', H D = none → i < n → H' D = some (.lst acc) → acc.length ≤ i → Pv D i acc H' → g (.int (lo + i)) (wipe σ vs) H' fun σ2 H2 => wipe σ2 vs = wipe σ vs ∧ tt σ2 H2 fun b H3 =>
      if b = true then te σ2 H3 fun y H4 => ∃ acc, H4 D = some (.lst acc) ∧ acc.length < sizeLine ∧ LcP Pv D (i + 1) (upd H4 D (.lst (acc ++ [y]))) else LcP Pv D (i + 1) H3)
    (h : ∀ D acc H', H D = none → H' D = some (.lst acc) → acc.length ≤ n → Pv D n acc H' → Qd D H') :
    ∀ D, H D = none → ∃ W : Nat → Nat → Hp → Prop, (∃ m, W 0 m (upd H D (.lst []))) ∧ ∀ i m H, W i m H →
      ((Itr lo n).stop i H ∧ Qd D H) ∨ ((Itr lo n).go i H ∧ ∃ Nx : Hp → Prop, (∀ H', Nx H' → ∃ m', m' < m ∧ W (i + 1) m' H') ∧ ∀ x H', (Itr lo n).yld i H x H' → g x (wipe σ vs) H' fun σ2 H2 => wipe σ2 vs = wipe σ vs ∧ tt σ2 H2 fun b H3 =>
        if b = true then te σ2 H3 fun y H4 => ∃ acc, H4 D = some (.lst acc) ∧ acc.length < sizeLine ∧ Nx (upd H4 D (.lst (acc ++ [y]))) else Nx H3) := by
  intro D nD
  refine lc_range (LcP Pv D) ⟨[], upd_same, Nat.le_refl _, h0 D nD⟩ (fun i H' hi hp => ?_) fun H' hp => ?_
  · obtain ⟨acc, e1, e2, e3⟩ := hp
    exact hs D i acc H' nD hi e1 e2 e3
  · obtain ⟨acc, e1, e2, e3⟩ := hp
    exact h D acc H' nD e1 e2 e3
end
end Lt
/-! set(xs) of a list of whole numbers, sorted(set(..)) -/
namespace Lt
open PySem PySem.Spec PyProof.Rows L2
/-- a new empty set's object -/
def setO0 (w : World) : Obj := { cls := .type "set", dict := none, data := .set #[] 0 (.fresh 0 0 (!w.params.followText "set-order")) }
section
variable {P : Program} {w : World} {A : Around} {E : Value → Shared → Prop} {s : Shared}
set_option maxRecDepth 100000 in
set_option maxHeartbeats 6400000 in
theorem set_of_list {p : Addr} {xs : Array Value} (ks : List Int) {Q : Value → Shared → Prop} (nh : A.handled = none) (ip : s.heap.IsList p xs) (ii : IntsAre xs.toList ks) (kb : ks.length + 1 < scanBound)
    (q : ∀ (g : Heap) (tk c : Nat), SetR w g s.heap.objs.size (fun j => decide (j ∈ ks)) c → c ≤ ks.length → (∀ b o, s.heap.get? b = some o → g.get? b = some o) → Q (.ref s.heap.objs.size) { s with heap := g, toks := tk }) :
    wpAny (model P w) A (call (.type "set") [.ref p]) Q E s := by
  have xsz : xs.size = ks.length := (Array.length_toList (xs := xs)).symm.trans (IntsAre.length ii)
  obtain ⟨c0, tl0, mro0⟩ := F.called_set.mro
  have made0 := F.called_set.made
  have sub0 := F.called_set.sub
  have new0 := F.typeCall_set_1 (.ref p)
  have nt0 := F.called_set.notType
  have cc0 := F.called_set.canCreate
  refine wpAny_call ?_
  refine codeAny_of_tree ?_
  show wpAny _ _ (callAny (.type "set") _) _ _ _
  refine wpAny_pure ⟨Code.quiet_builtin _ (by decide +kernel), ?_⟩
  refine codeAny_builtin F.entry_type_call ?_
  rw [Around.under_plain (weight_type_call_type "set" [.ref p] []) rfl]
  repeat (any_goals (first | wp_step | assumption))
  refine codeAny_mono (code_set_led1 (P := P) (.ref p) (E := E) (Q₁ := fun ob t => ob = .ref s.heap.objs.size ∧ t = { s with heap := s.heap.push (setO0 w) }) ⟨rfl, rfl⟩) fun r t hr => ?_
  cases r with
  | error e => exact hr
  | ok fl =>
    cases fl with
    | ret ob =>
      obtain ⟨rfl, rfl⟩ := hr
      have hN : (s.heap.push (setO0 w)).get? s.heap.objs.size = some (setO0 w) := Heap.get?_push_size _ rfl
      have hY : Shared.TypeIs { s with heap := s.heap.push (setO0 w) } (.ref s.heap.objs.size) "set" := ⟨_, hN, rfl⟩
      have il0 := F.called_set.init.lookup
      have ib0 := F.called_set.init.bind (.ref s.heap.objs.size)
      repeat (any_goals (first | wp_step | assumption))
      refine codeAny_mono (codeAny_call_builtin (R := wants (fun v t => v = .none ∧ ∃ g tk c, t = { s with heap := g, toks := tk } ∧ SetR w g s.heap.objs.size (fun j => decide (j ∈ ks)) c ∧ c ≤ ks.length ∧
          (∀ b o, s.heap.get? b = some o → g.get? b = some o)) E) F.called_set.init.plain F.entry_set_init (check_set_init_1 hY ?_)) fun r2 t2 hr2 => ?_
      · obtain ⟨ol, gl, tl, nl, al⟩ := ip
        obtain ⟨ocl, odi, oda, osl⟩ := ol
        simp only at tl al
        subst tl al
        have gl1 : (s.heap.push (setO0 w)).get? p = some { cls := .type "list", dict := odi, data := .seq xs nl, slots := osl } := Heap.get?_push_of_some _ gl
        have s1 := F.sub_list_set
        have s2 := F.sub_list_frozenset
        have ne1 : (Value.type "list" == Value.type "dict") = false := by decide
        have li1 : (s.heap.push (setO0 w)).IsList p xs := ⟨_, gl1, rfl, nl, rfl⟩
        unfold Builtin.«set.__init__» noKeywords Builtin.Frozenset.updateFrom
        generalize hIter : pyIter = IT
        wp_walk
        subst hIter
        refine wpAny_pyIter_list li1 ?_
        refine wpAny_bind ?_
        refine wpAny_runValue ?_
        have plt : p < s.heap.objs.size := Heap.lt_size gl
        have nh3 : A.in1.in1.in1.handled = none := by simp [nh]
        have szN : (s.heap.push (setO0 w)).objs.size = s.heap.objs.size + 1 := Heap.size_push ..
        have pI : p ≠ (s.heap.push (setO0 w)).objs.size := by
          rw [szN]
          exact Nat.ne_of_lt (Nat.lt_succ_of_lt plt)
        have notin : s.heap.objs.size ∉ [(s.heap.push (setO0 w)).objs.size, p] := by
          intro z
          rcases List.mem_cons.mp z with z | z
          · rw [szN] at z
            exact absurd z (Nat.ne_of_lt (Nat.lt_succ_self _))
          · exact absurd (List.mem_singleton.mp z) (Nat.ne_of_gt plt)
        have vals : ∀ (i : Nat) (v : Value), xs[i]? = some v → ∃ k t, ks[i]? = some k ∧ v = .int k t := by
          intro i v hv
          have il : i < ks.length := by
            rw [← xsz]
            exact (Array.getElem?_eq_some_iff.mp hv).1
          obtain ⟨t, e⟩ := PyProof.Rows.IntsAre.int_at ii i v (by rw [Array.getElem?_toList]; exact hv)
          refine ⟨ks[i], t, List.getElem?_eq_getElem il, ?_⟩
          rw [e, List.getD_eq_getElem?_getD, List.getElem?_eq_getElem il]
          all_goals rfl
        have hN2 : ((s.heap.push (setO0 w)).push { cls := .type "list_iterator", data := .fields #[.ref p, .int 0 0] }).get? s.heap.objs.size = some (setO0 w) := Heap.get?_push_of_some _ hN
        refine set_update_ints ((Walks.list nh3 _ p pI xs).toS) s.heap.objs.size notin ks xsz kb vals (xs.size - 0) 0 _ (by omega) (Nat.zero_le _)
          ⟨⟨_, Heap.get?_push_size _ rfl, rfl, rfl⟩, li1.push _⟩ ⟨0, Nat.le_refl 0, setR_new_at hN2⟩ ?_
        intro t3 c3 mv le3 R3
        obtain ⟨g3, gn3, dr3, tk3, os3⟩ := t3
        have e1 : gn3 = s.gens := mv.gens
        have e2 : dr3 = s.drawn := mv.drawn
        have e3 : os3 = s.os := mv.os
        subst e1 e2 e3
        show wpAny _ _ _ _ _ _
        refine wpAny_pure ?_
        show wpAny _ _ (ret Value.none) _ _ _
        rw [xsz] at le3
        refine wpAny_pure ⟨rfl, g3, tk3, c3, rfl, R3, le3, fun b o e => ?_⟩
        have bl : b < s.heap.objs.size := Heap.lt_size e
        refine mv.heap b o (fun z => ?_) (Heap.get?_push_of_some _ (Heap.get?_push_of_some _ e))
        rcases List.mem_cons.mp z with z | z
        · exact absurd z (Nat.ne_of_lt bl)
        · have z2 := List.mem_singleton.mp z
          rw [szN] at z2
          exact absurd z2 (Nat.ne_of_lt (Nat.lt_succ_of_lt bl))
      · cases r2 with
        | error e => exact hr2
        | ok fl2 =>
          cases fl2 with
          | ret r =>
            obtain ⟨rfl, g, tk, c, rfl, R4, le4, kp4⟩ := hr2
            repeat (any_goals (first | wp_step | assumption))
            exact q _ _ _ R4 le4 kp4
          | _ => exact hr2.elim
    | _ => exact hr.elim
end
section
variable {X : Cx}
/-- set(xs), whole numbers -/
def rMkSet (K : PySem.W.Frag) (w : World) : List V → Hp → VK → Prop := fun vs H Q => ∃ (a : Addr) (ks : List Int), vs = [V.ref a] ∧ SqL K H a (ks.map V.int) ∧ ks.length ≤ 1000 ∧
  ∀ p c, H p = none → c ≤ ks.length → Q (.ref p) (upd H p (SetO w p (fun j => decide (j ∈ ks)) c))
theorem cr_setL (hc : X.calm = true) : CallR X (.type "set") (rMkSet X.K X.w) := by
  intro pins s σ H vs us Q I r hw
  obtain ⟨a, ks, rfl, hx, hk, hq⟩ := hw
  obtain ⟨its, rv, pl, hz⟩ := I.list hx
  rw [Vals.ref1 r]
  refine set_of_list ks (I.ok.hd hc) pl.isList rv.ints (by unfold scanBound; omega) fun g tk c R le kp => ?_
  exact ⟨.ref _, upd H s.heap.objs.size (SetO X.w s.heap.objs.size (fun j => decide (j ∈ ks)) c), I.laid (t' := tk) kp (Nat.le_refl _) (setO_new R), rfl, hq _ c (I.hok.fresh (Nat.le_refl _)) le⟩
end
/-! ### the unlike numbers in order -/
def insU (k : Int) : List Int → List Int
  | [] => [k]
  | x :: r => if k < x then k :: x :: r else if k = x then x :: r else x :: insU k r
def ascOf : List Int → List Int
  | [] => []
  | k :: r => insU k (ascOf r)
theorem mem_insU {k j : Int} : ∀ {l : List Int}, j ∈ insU k l ↔ j = k ∨ j ∈ l
  | [] => by simp [insU]
  | x :: r => by
    unfold insU
    split
    · simp
    · split
      · rename_i h
        subst h
        simp
      · have ih := mem_insU (k := k) (j := j) (l := r)
        rw [List.mem_cons, ih, List.mem_cons]
        exact ⟨fun h => h.elim (fun a => .inr (.inl a)) fun h => h.elim .inl fun b => .inr (.inr b), fun h => h.elim (fun a => .inr (.inl a)) fun h => h.elim .inl fun b => .inr (.inr b)⟩
theorem asc_insU {k : Int} : ∀ {l : List Int}, l.Pairwise (· < ·) → (insU k l).Pairwise (· < ·)
  | [], _ => by simp [insU]
  | x :: r, h => by
    obtain ⟨h1, h2⟩ := List.pairwise_cons.mp h
    unfold insU
    split
    · rename_i h3
      refine List.pairwise_cons.mpr ⟨fun y hy => ?_, h⟩
      rcases List.mem_cons.mp hy with rfl | hy
      · exact h3
      · exact Int.lt_trans h3 (h1 y hy)
    · split
      · exact h
      · rename_i h3 h4
        refine List.pairwise_cons.mpr ⟨fun y hy => ?_, asc_insU h2⟩
        rcases mem_insU.mp hy with rfl | hy
        · omega
        · exact h1 y hy
theorem mem_asc {j : Int} : ∀ {l : List Int}, j ∈ ascOf l ↔ j ∈ l
  | [] => Iff.rfl
  | k :: r => by
    unfold ascOf
    rw [mem_insU, mem_asc, List.mem_cons]
theorem asc_asc : ∀ (l : List Int), (ascOf l).Pairwise (· < ·)
  | [] => List.Pairwise.nil
  | k :: r => asc_insU (asc_asc r)
/-- two ascending lists with the same members are one -/
theorem asc_one : ∀ {l m : List Int}, l.Pairwise (· < ·) → m.Pairwise (· < ·) → (∀ k, k ∈ l ↔ k ∈ m) → l = m
  | [], [], _, _, _ => rfl
  | [], y :: m, _, _, h => by
    have q := (h y).mpr List.mem_cons_self
    simp at q
  | x :: l, [], _, _, h => by
    have q := (h x).mp List.mem_cons_self
    simp at q
  | x :: l, y :: m, hl, hm, h => by
    obtain ⟨l1, l2⟩ := List.pairwise_cons.mp hl
    obtain ⟨m1, m2⟩ := List.pairwise_cons.mp hm
    have e : x = y := by
      have a := (h x).mp List.mem_cons_self
      have b := (h y).mpr List.mem_cons_self
      rcases List.mem_cons.mp a with a | a
      · exact a
      · rcases List.mem_cons.mp b with b | b
        · exact b.symm
        · have c1 := m1 x a
          have c2 := l1 y b
          omega
    subst e
    refine congrArg (x :: ·) (asc_one l2 m2 fun k => ?_)
    constructor
    · intro hk
      have c := l1 k hk
      rcases List.mem_cons.mp ((h k).mp (List.mem_cons_of_mem _ hk)) with z | z
      · omega
      · exact z
    · intro hk
      have c := m1 k hk
      rcases List.mem_cons.mp ((h k).mpr (List.mem_cons_of_mem _ hk)) with z | z
      · omega
      · exact z
theorem asc_eq {l ks : List Int} (h1 : l.Pairwise (· < ·)) (h2 : ∀ k, k ∈ l ↔ k ∈ ks) : l = ascOf ks := asc_one h1 (asc_asc ks) fun k => (h2 k).trans mem_asc.symm
theorem len_insU (k : Int) : ∀ l : List Int, (insU k l).length ≤ l.length + 1
  | [] => Nat.le_refl _
  | x :: r => by
    unfold insU
    split
    · simp
    · split
      · simp
      · have := len_insU k r
        simp only [List.length_cons]
        omega
theorem len_asc : ∀ l : List Int, (ascOf l).length ≤ l.length
  | [] => Nat.le_refl _
  | k :: r => by
    have a := len_insU k (ascOf r)
    have b := len_asc r
    show (insU k (ascOf r)).length ≤ r.length + 1
    omega
/-- sorted(set(xs)), fewer than 64 -/
theorem k_sortSet {K : PySem.W.Frag} {w : World} {σ : L2.St} {H : Hp} {Q : VK} {a : Addr} {ks : List Int} (hx : SqL K H a (ks.map V.int)) (h64 : ks.length < 64)
    (hq : ∀ H' p, Same H H' → H p = none → H' p = some (.lst ((ascOf ks).map V.int)) → Q (.ref p) H') : rMkSet K w [V.ref a] H fun x H1 => tNil σ H1 fun xs H2 => rSortedSet w (x :: xs) H2 Q := by
  refine ⟨a, ks, rfl, hx, by omega, fun p c np hc => ?_⟩
  show rSortedSet w [V.ref p] (upd H p _) Q
  refine ⟨p, _, c, rfl, upd_same, by omega, fun ns p2 h1 h2 h3 np2 => ?_⟩
  have e : ns = ascOf ks := asc_eq h1 fun k => (h2 k).trans (by simp)
  rw [e]
  have s1 := same_new (o := SetO w p (fun j => decide (j ∈ ks)) c) np
  exact hq _ p2 (Same.new s1 np2) (s1.free np2) upd_same
end Lt/-! lists of things that stand for data -/
namespace Lt
open PySem PySem.Spec PyProof.Rows L2
def AllR {α β : Type} (R : α → β → Prop) : List α → List β → Prop
  | [], [] => True
  | x :: xs, p :: ps => R x p ∧ AllR R xs ps
  | _, _ => False
section
variable {α β : Type} {R R' : α → β → Prop}
theorem AllR.nil : AllR R [] [] := True.intro
theorem AllR.cons {x : α} {p : β} {xs : List α} {ps : List β} (h : R x p) (t : AllR R xs ps) : AllR R (x :: xs) (p :: ps) := ⟨h, t⟩
theorem AllR.length : ∀ {xs : List α} {ps : List β}, AllR R xs ps → xs.length = ps.length
  | [], [], _ => rfl
  | [], _ :: _, h => h.elim
  | _ :: _, [], h => h.elim
  | _ :: xs, _ :: ps, h => congrArg Nat.succ (AllR.length (xs := xs) (ps := ps) h.2)
theorem AllR.mono (f : ∀ x p, R x p → R' x p) : ∀ {xs : List α} {ps : List β}, AllR R xs ps → AllR R' xs ps
  | [], [], _ => True.intro
  | [], _ :: _, h => h.elim
  | _ :: _, [], h => h.elim
  | x :: xs, p :: ps, h => ⟨f x p h.1, AllR.mono f (xs := xs) (ps := ps) h.2⟩
theorem AllR.append : ∀ {xs ys : List α} {ps qs : List β}, AllR R xs ps → AllR R ys qs → AllR R (xs ++ ys) (ps ++ qs)
  | [], _, [], _, _, h => h
  | [], _, _ :: _, _, h, _ => h.elim
  | _ :: _, _, [], _, h, _ => h.elim
  | _ :: xs, _, _ :: ps, _, h, t => ⟨h.1, AllR.append (xs := xs) (ps := ps) h.2 t⟩
theorem AllR.snoc {xs : List α} {ps : List β} {x : α} {p : β} (h : AllR R xs ps) (t : R x p) : AllR R (xs ++ [x]) (ps ++ [p]) := AllR.append h ⟨t, True.intro⟩
theorem AllR.get : ∀ {xs : List α} {ps : List β} {i : Nat} {x : α}, AllR R xs ps → xs[i]? = some x → ∃ p, ps[i]? = some p ∧ R x p
  | [], _, _, _, _, e => by simp at e
  | _ :: _, [], _, _, h, _ => h.elim
  | y :: xs, p :: ps, 0, x, h, e => by
    have e1 : y = x := Option.some.inj (by simpa using e)
    exact ⟨p, rfl, e1 ▸ h.1⟩
  | _ :: xs, _ :: ps, i + 1, x, h, e => by
    obtain ⟨q, h1, h2⟩ := AllR.get (xs := xs) (ps := ps) (i := i) (x := x) h.2 (by simpa using e)
    exact ⟨q, by simpa using h1, h2⟩
theorem AllR.get2 : ∀ {xs : List α} {ps : List β} {i : Nat} {p : β}, AllR R xs ps → ps[i]? = some p → ∃ x, xs[i]? = some x ∧ R x p
  | _, [], _, _, _, e => by simp at e
  | [], _ :: _, _, _, h, _ => h.elim
  | x :: xs, q :: ps, 0, p, h, e => by
    have e1 : q = p := Option.some.inj (by simpa using e)
    exact ⟨x, rfl, e1 ▸ h.1⟩
  | _ :: xs, _ :: ps, i + 1, p, h, e => by
    obtain ⟨y, h1, h2⟩ := AllR.get2 (xs := xs) (ps := ps) (i := i) (p := p) h.2 (by simpa using e)
    exact ⟨y, by simpa using h1, h2⟩
theorem AllR.mem {xs : List α} {ps : List β} {x : α} (h : AllR R xs ps) (m : x ∈ xs) : ∃ p, p ∈ ps ∧ R x p := by
  obtain ⟨i, e⟩ := List.getElem?_of_mem m
  obtain ⟨p, h1, h2⟩ := h.get e
  exact ⟨p, List.mem_of_getElem? h1, h2⟩
/-- the last ones of both -/
theorem AllR.split {xs : List α} {ps : List β} (h : AllR R xs ps) : (xs = [] ∧ ps = []) ∨ ∃ ys y qs q, xs = ys ++ [y] ∧ ps = qs ++ [q] ∧ AllR R ys qs ∧ R y q := by
  induction xs generalizing ps with
  | nil =>
    cases ps with
    | nil => exact .inl ⟨rfl, rfl⟩
    | cons p ps => exact (show False from h).elim
  | cons x xs ih =>
    cases ps with
    | nil => exact (show False from h).elim
    | cons p ps =>
      have h : R x p ∧ AllR R xs ps := h
      rcases ih h.2 with ⟨rfl, rfl⟩ | ⟨ys, y, qs, q, rfl, rfl, t, r⟩
      · exact .inr ⟨[], x, [], p, rfl, rfl, True.intro, h.1⟩
      · exact .inr ⟨x :: ys, y, p :: qs, q, rfl, rfl, ⟨h.1, t⟩, r⟩
end
/-- a tuple of whole numbers -/
def TupAt (H : Hp) (x : V) (p : List Int) : Prop := ∃ t, x = V.ref t ∧ H t = some (.tup (p.map V.int))
/-- a pair of whole numbers -/
def PairAt (H : Hp) (x : V) (p : Int × Int) : Prop := ∃ t, x = V.ref t ∧ H t = some (.tup [.int p.1, .int p.2])
theorem PairAt.keep {H H' : Hp} {x : V} {p : Int × Int} (s : Same H H') (h : PairAt H x p) : PairAt H' x p := by
  obtain ⟨t, e, h1⟩ := h
  exact ⟨t, e, s _ _ h1⟩
/-- a list at o may turn -/
theorem PairAt.updL {H : Hp} {x : V} {p : Int × Int} {o : Addr} {xs ys : List V} (ho : H o = some (.lst xs)) (h : PairAt H x p) : PairAt (upd H o (.lst ys)) x p := by
  obtain ⟨t, e, h1⟩ := h
  refine ⟨t, e, ?_⟩
  rw [upd_ne (ne_of h1 ho (fun z => by cases z))]
  exact h1
abbrev Pairs (H : Hp) : List V → List (Int × Int) → Prop := AllR (PairAt H)
theorem Pairs.keep {H H' : Hp} {xs : List V} {ps : List (Int × Int)} (s : Same H H') (h : Pairs H xs ps) : Pairs H' xs ps := h.mono fun _ _ => PairAt.keep s
theorem Pairs.updL {H : Hp} {xs : List V} {ps : List (Int × Int)} {o : Addr} {us ys : List V} (ho : H o = some (.lst us)) (h : Pairs H xs ps) : Pairs (upd H o (.lst ys)) xs ps := h.mono fun _ _ => PairAt.updL ho
theorem ixN_last {α : Type} (xs : List α) (v : α) : ixN (xs ++ [v]).length (-1) = some xs.length := by
  unfold ixN
  rw [if_neg (by decide), if_pos (by rw [List.length_append, List.length_singleton]; omega), List.length_append, List.length_singleton]
  congr 1
  omega
theorem set_last {α : Type} : ∀ (xs : List α) (v u : α), (xs ++ [v]).set xs.length u = xs ++ [u]
  | [], _, _ => rfl
  | x :: xs, v, u => congrArg (x :: ·) (set_last xs v u)
theorem take_snoc {α : Type} {l : List α} {i : Nat} {x : α} (h : l[i]? = some x) : l.take (i + 1) = l.take i ++ [x] := by
  rw [List.take_add_one, h]
  rfl
end Lt
/-! stretches: plain Lean -/
namespace Lt
/-- f, f + 1, .., many of them -/
def rgI (f : Int) (m : Int) : List Int := (List.range m.toNat).map fun (i : Nat) => f + (i : Int)
theorem rgI_len (f m : Int) : (rgI f m).length = m.toNat := by simp [rgI]
theorem rgI_succ {f m : Int} (h : 0 ≤ m) : rgI f (m + 1) = rgI f m ++ [f + m] := by
  unfold rgI
  have e : (m + 1).toNat = m.toNat + 1 := by omega
  rw [e, List.range_succ, List.map_append]
  simp
  omega
theorem rgI_one (f : Int) : rgI f 1 = [f] := by simp [rgI, List.range_succ]
theorem mem_rgI {f m k : Int} : k ∈ rgI f m ↔ f ≤ k ∧ k < f + m := by
  unfold rgI
  rw [List.mem_map]
  constructor
  · rintro ⟨i, hi, rfl⟩
    have := List.mem_range.mp hi
    omega
  · rintro ⟨h1, h2⟩
    exact ⟨(k - f).toNat, List.mem_range.mpr (by omega), by omega⟩
/-- one step of the stretches -/
def strStep (out : List (Int × Int)) (b : Int) : List (Int × Int) := match out.getLast? with
  | some (f, m) => if f + m = b then out.dropLast ++ [(f, m + 1)] else out ++ [(b, 1)]
  | none => out ++ [(b, 1)]
def strOf (ks : List Int) : List (Int × Int) := (ascOf ks).foldl strStep []
theorem strStep_snoc (qs : List (Int × Int)) (f m k : Int) : strStep (qs ++ [(f, m)]) k = if f + m = k then qs ++ [(f, m + 1)] else qs ++ [(f, m)] ++ [(k, 1)] := by
  unfold strStep
  rw [List.getLast?_concat]
  simp only [List.dropLast_concat]
theorem strStep_len : ∀ (l : List Int) (out : List (Int × Int)), (l.foldl strStep out).length ≤ out.length + l.length
  | [], _ => Nat.le_refl _
  | b :: l, out => by
    have ih := strStep_len l (strStep out b)
    have h1 : (strStep out b).length ≤ out.length + 1 := by
      unfold strStep
      split
      · split
        · simp only [List.length_append, List.length_dropLast, List.length_cons, List.length_nil]
          omega
        · simp
      · simp
    simp only [List.foldl_cons, List.length_cons]
    omega
/-- the blocks of some stretches -/
def catS (qs : List (Int × Int)) : List Int := qs.flatMap fun p => rgI p.1 p.2
theorem catS_snoc (qs : List (Int × Int)) (p : Int × Int) : catS (qs ++ [p]) = catS qs ++ rgI p.1 p.2 := by simp [catS]
/-- each begins beyond the end of the one ahead -/
def SepFrom : Option Int → List (Int × Int) → Prop
  | _, [] => True
  | o, (f, m) :: r => (∀ x, o = some x → x < f) ∧ SepFrom (some (f + m)) r
def endOf : Option Int → List (Int × Int) → Option Int
  | o, [] => o
  | _, (f, m) :: r => endOf (some (f + m)) r
theorem endOf_snoc : ∀ (o : Option Int) (qs : List (Int × Int)) (f m : Int), endOf o (qs ++ [(f, m)]) = some (f + m)
  | _, [], _, _ => rfl
  | _, (a, b) :: r, f, m => endOf_snoc (some (a + b)) r f m
theorem sep_snoc : ∀ (o : Option Int) (qs : List (Int × Int)) (f m : Int), SepFrom o (qs ++ [(f, m)]) ↔ SepFrom o qs ∧ ∀ x, endOf o qs = some x → x < f
  | o, [], f, m => by simp [SepFrom, endOf]
  | o, (a, b) :: r, f, m => by
    show ((∀ x, o = some x → x < a) ∧ SepFrom (some (a + b)) (r ++ [(f, m)])) ↔ ((∀ x, o = some x → x < a) ∧ SepFrom (some (a + b)) r) ∧ ∀ x, endOf (some (a + b)) r = some x → x < f
    rw [sep_snoc (some (a + b)) r f m, and_assoc]
/-- what stretches of l are -/
structure StrOk (l : List Int) (qs : List (Int × Int)) : Prop where
  cat : catS qs = l
  pos : ∀ p ∈ qs, 1 ≤ p.2
  sep : SepFrom none qs
theorem strOk_step {l : List Int} {qs : List (Int × Int)} {b : Int} (h : StrOk l qs) (hb : ∀ x ∈ l, x < b) : StrOk (l ++ [b]) (strStep qs b) := by
  rcases List.eq_nil_or_concat qs with rfl | ⟨rs, ⟨f, m⟩, rfl⟩
  · have e : l = [] := h.cat.symm
    subst e
    exact ⟨by simp [strStep, catS, rgI_one], by simp [strStep], by simp [strStep, SepFrom]⟩
  · rw [List.concat_eq_append] at h ⊢
    rw [strStep_snoc]
    have m1 : 1 ≤ m := h.pos (f, m) (by simp)
    have s1 := (sep_snoc none rs f m).mp h.sep
    have c1 := h.cat
    rw [catS_snoc] at c1
    split
    · rename_i e
      refine ⟨?_, fun p hp => ?_, (sep_snoc none rs f (m + 1)).mpr s1⟩
      · rw [catS_snoc]
        show catS rs ++ rgI f (m + 1) = l ++ [b]
        rw [rgI_succ (by omega), ← List.append_assoc, c1, e]
      · rcases List.mem_append.mp hp with hp | hp
        · exact h.pos p (List.mem_append_left _ hp)
        · rw [List.mem_singleton.mp hp]
          show 1 ≤ m + 1
          omega
    · rename_i e
      have hlt : f + m - 1 < b := hb _ (by
        rw [← c1]
        exact List.mem_append_right _ (mem_rgI.mpr ⟨by show f ≤ f + m - 1; omega, by show f + m - 1 < f + m; omega⟩))
      refine ⟨?_, fun p hp => ?_, (sep_snoc none _ b 1).mpr ⟨h.sep, fun x hx => ?_⟩⟩
      · rw [catS_snoc, h.cat]
        show l ++ rgI b 1 = l ++ [b]
        rw [rgI_one]
      · rcases List.mem_append.mp hp with hp | hp
        · exact h.pos p hp
        · rw [List.mem_singleton.mp hp]
          exact Int.le_refl 1
      · rw [endOf_snoc] at hx
        have hx := Option.some.inj hx
        omega
theorem strOk_fold : ∀ (r l : List Int) (qs : List (Int × Int)), StrOk l qs → (l ++ r).Pairwise (· < ·) → StrOk (l ++ r) (r.foldl strStep qs)
  | [], l, qs, h, _ => by simpa using h
  | b :: r, l, qs, h, p => by
    have e : l ++ b :: r = (l ++ [b]) ++ r := by simp
    rw [e] at p ⊢
    refine strOk_fold r (l ++ [b]) _ (strOk_step h fun x hx => ?_) p
    have q := (List.pairwise_append.mp (List.pairwise_append.mp p).1).2.2
    exact q x hx b (List.mem_singleton_self b)
theorem strOk (ks : List Int) : StrOk (ascOf ks) (strOf ks) := by
  have h := strOk_fold (ascOf ks) [] [] ⟨rfl, fun p hp => by simp at hp, True.intro⟩ (by simpa using asc_asc ks)
  rw [List.nil_append] at h
  exact h
theorem catS_len_mem {qs : List (Int × Int)} {p : Int × Int} (h : p ∈ qs) : p.2.toNat ≤ (catS qs).length := by
  induction qs with
  | nil => simp at h
  | cons q r ih =>
    have e : catS (q :: r) = rgI q.1 q.2 ++ catS r := by simp [catS]
    rw [e, List.length_append, rgI_len]
    rcases List.mem_cons.mp h with rfl | h
    · omega
    · have := ih h
      omega
end Lt
namespace Lt
theorem sep_take : ∀ {o : Option Int} {qs : List (Int × Int)} {i : Nat} {f m : Int}, SepFrom o qs → qs[i]? = some (f, m) → ∀ x, endOf o (qs.take i) = some x → x < f
  | _, [], _, _, _, _, e => by simp at e
  | o, (a, b) :: r, 0, f, m, h, e => by
    have e1 : (a, b) = (f, m) := Option.some.inj (by simpa using e)
    cases e1
    exact h.1
  | o, (a, b) :: r, i + 1, f, m, h, e => by
    have e1 : r[i]? = some (f, m) := by simpa using e
    exact sep_take (o := some (a + b)) h.2 e1
theorem catS_mem {qs : List (Int × Int)} {p : Int × Int} {k : Int} (h : p ∈ qs) (h1 : p.1 ≤ k) (h2 : k < p.1 + p.2) : k ∈ catS qs := by
  unfold catS
  exact List.mem_flatMap.mpr ⟨p, h, mem_rgI.mpr ⟨h1, h2⟩⟩
theorem catS_take_len (qs : List (Int × Int)) (i : Nat) : (catS (qs.take i)).length ≤ (catS qs).length := by
  have e : catS qs = catS (qs.take i) ++ catS (qs.drop i) := by
    unfold catS
    rw [← List.flatMap_append, List.take_append_drop]
  rw [e, List.length_append]
  omega
end Lt
/-! == of data: whole numbers, texts, None, lists and tuples of these (no truths within) -/
namespace Lt
open PySem PySem.Spec PyProof.Rows L2
mutual
/-- no truths, no dicts; texts that can stand -/
def tidy : PyData → Bool
  | .none => true
  | .int _ => true
  | .str x => PyData.canLay0 (.str x)
  | .list xs => tidyAll xs
  | .tuple xs => tidyAll xs
  | _ => false
def tidyAll : List PyData → Bool
  | [] => true
  | x :: xs => tidy x && tidyAll xs
end
mutual
theorem tidy_lay : ∀ d : PyData, tidy d = true → d.canLay0 = true
  | .none, _ => rfl
  | .int _, _ => rfl
  | .str _, h => by simpa [tidy] using h
  | .list xs, h => by
    rw [PyData.canLay0]
    exact tidy_layAll xs (by simpa [tidy] using h)
  | .tuple xs, h => by
    rw [PyData.canLay0]
    exact tidy_layAll xs (by simpa [tidy] using h)
  | .bool _, h => by simp [tidy] at h
  | .dict _, h => by simp [tidy] at h
theorem tidy_layAll : ∀ xs : List PyData, tidyAll xs = true → PyData.canLayAll0 xs = true
  | [], _ => rfl
  | x :: xs, h => by
    have h2 : tidy x = true ∧ tidyAll xs = true := by simpa [tidyAll] using h
    rw [PyData.canLayAll0, tidy_lay x h2.1, tidy_layAll xs h2.2]
    rfl
end
mutual
theorem eqv_of : ∀ d e : PyData, tidy d = true → PyData.eqv d e = true → tidy e = true → d = e
  | .none, .none, _, _, _ => rfl
  | .int i, .int j, _, h, _ => by
    simp only [PyData.eqv, beq_iff_eq] at h
    rw [h]
  | .str x, .str y, _, h, _ => by
    simp only [PyData.eqv, beq_iff_eq] at h
    rw [h]
  | .list xs, .list ys, h1, h, h2 => by
    rw [eqv_ofAll xs ys (by simpa [tidy] using h1) (by simpa [PyData.eqv] using h) (by simpa [tidy] using h2)]
  | .tuple xs, .tuple ys, h1, h, h2 => by
    rw [eqv_ofAll xs ys (by simpa [tidy] using h1) (by simpa [PyData.eqv] using h) (by simpa [tidy] using h2)]
  | .bool _, _, h, _, _ => by simp [tidy] at h
  | .dict _, _, h, _, _ => by simp [tidy] at h
  | .none, .int _, _, h, _ => by simp [PyData.eqv] at h
  | .none, .str _, _, h, _ => by simp [PyData.eqv] at h
  | .none, .list _, _, h, _ => by simp [PyData.eqv] at h
  | .none, .tuple _, _, h, _ => by simp [PyData.eqv] at h
  | .none, .bool _, _, _, h => by simp [tidy] at h
  | .none, .dict _, _, _, h => by simp [tidy] at h
  | .int _, .none, _, h, _ => by simp [PyData.eqv] at h
  | .int _, .str _, _, h, _ => by simp [PyData.eqv] at h
  | .int _, .list _, _, h, _ => by simp [PyData.eqv] at h
  | .int _, .tuple _, _, h, _ => by simp [PyData.eqv] at h
  | .int _, .bool _, _, _, h => by simp [tidy] at h
  | .int _, .dict _, _, _, h => by simp [tidy] at h
  | .str _, .none, _, h, _ => by simp [PyData.eqv] at h
  | .str _, .int _, _, h, _ => by simp [PyData.eqv] at h
  | .str _, .list _, _, h, _ => by simp [PyData.eqv] at h
  | .str _, .tuple _, _, h, _ => by simp [PyData.eqv] at h
  | .str _, .bool _, _, _, h => by simp [tidy] at h
  | .str _, .dict _, _, _, h => by simp [tidy] at h
  | .list _, .none, _, h, _ => by simp [PyData.eqv] at h
  | .list _, .int _, _, h, _ => by simp [PyData.eqv] at h
  | .list _, .str _, _, h, _ => by simp [PyData.eqv] at h
  | .list _, .tuple _, _, h, _ => by simp [PyData.eqv] at h
  | .list _, .bool _, _, _, h => by simp [tidy] at h
  | .list _, .dict _, _, _, h => by simp [tidy] at h
  | .tuple _, .none, _, h, _ => by simp [PyData.eqv] at h
  | .tuple _, .int _, _, h, _ => by simp [PyData.eqv] at h
  | .tuple _, .str _, _, h, _ => by simp [PyData.eqv] at h
  | .tuple _, .list _, _, h, _ => by simp [PyData.eqv] at h
  | .tuple _, .bool _, _, _, h => by simp [tidy] at h
  | .tuple _, .dict _, _, _, h => by simp [tidy] at h
theorem eqv_ofAll : ∀ xs ys : List PyData, tidyAll xs = true → PyData.eqvAll xs ys = true → tidyAll ys = true → xs = ys
  | [], [], _, _, _ => rfl
  | x :: xs, y :: ys, h1, h, h2 => by
    have a : tidy x = true ∧ tidyAll xs = true := by simpa [tidyAll] using h1
    have b : PyData.eqv x y = true ∧ PyData.eqvAll xs ys = true := by simpa [PyData.eqvAll] using h
    have c : tidy y = true ∧ tidyAll ys = true := by simpa [tidyAll] using h2
    rw [eqv_of x y a.1 b.1 c.1, eqv_ofAll xs ys a.2 b.2 c.2]
  | [], _ :: _, _, h, _ => by simp [PyData.eqvAll] at h
  | _ :: _, [], _, h, _ => by simp [PyData.eqvAll] at h
end
theorem eqv_true {d : PyData} (h : tidy d = true) : PyData.eqv d d = true := SeqAt.eqv_refl d (tidy_lay d h)
theorem eqv_false {d e : PyData} (h1 : tidy d = true) (h2 : tidy e = true) (n : d ≠ e) : PyData.eqv d e = false := by
  cases h : PyData.eqv d e with
  | false => rfl
  | true => exact absurd (eqv_of d e h1 h h2) n
theorem shaped_of {d : PyData} (h1 : tidy d = true) (h2 : d.depth ≤ 64) : SeqAt.shaped d = true := by
  unfold SeqAt.shaped
  rw [tidy_lay d h1, decide_eq_true h2]
  rfl
/-! the shapes one meets -/
theorem tidy_ints : ∀ ks : List Int, tidyAll (ks.map PyData.int) = true
  | [] => rfl
  | _ :: r => by simp [tidyAll, tidy, tidy_ints r]
theorem depth_map {α : Type} {f : α → PyData} {n : Nat} (h : ∀ a, (f a).depth ≤ n) : ∀ ks : List α, PyData.depthAll (ks.map f) ≤ n
  | [] => Nat.zero_le _
  | a :: r => by
    have h1 := h a
    have h2 := depth_map h r
    simp only [List.map_cons, PyData.depthAll]
    omega
theorem tidy_map {α : Type} {f : α → PyData} (h : ∀ a, tidy (f a) = true) : ∀ ks : List α, tidyAll (ks.map f) = true
  | [] => rfl
  | a :: r => by simp [tidyAll, h a, tidy_map h r]
theorem map_inj {α β : Type} {f : α → β} (h : ∀ a b, f a = f b → a = b) : ∀ {xs ys : List α}, xs.map f = ys.map f → xs = ys
  | [], [], _ => rfl
  | [], _ :: _, e => by simp at e
  | _ :: _, [], e => by simp at e
  | a :: r, b :: t, e => by
    simp only [List.map_cons, List.cons.injEq] at e
    rw [h a b e.1, map_inj h e.2]
/-- a shape: how data of α look -/
structure Shp (α : Type) (f : α → PyData) (n : Nat) : Prop where
  ti : ∀ a, tidy (f a) = true
  dp : ∀ a, (f a).depth ≤ n
  inj : ∀ a b, f a = f b → a = b
theorem shp_int : Shp Int PyData.int 0 := ⟨fun _ => rfl, fun _ => by simp [PyData.depth], fun _ _ e => by injection e⟩
theorem shp_list {α : Type} {f : α → PyData} {n : Nat} (S : Shp α f n) : Shp (List α) (fun xs => .list (xs.map f)) (n + 1) :=
  ⟨fun xs => by simpa [tidy] using tidy_map S.ti xs, fun xs => by
    have := depth_map S.dp xs
    simp only [PyData.depth]
    omega, fun xs ys e => map_inj S.inj (by injection e)⟩
abbrev dPair (p : Int × Int) : PyData := .tuple [.int p.1, .int p.2]
theorem shp_pair : Shp (Int × Int) dPair 1 := ⟨fun _ => rfl, fun _ => by simp [dPair, PyData.depth, PyData.depthAll], fun a b e => by
  show a = b
  have e : PyData.tuple [.int a.1, .int a.2] = PyData.tuple [.int b.1, .int b.2] := e
  injection e with e
  injection e with e1 e
  injection e with e2 _
  injection e1 with e1
  injection e2 with e2
  exact Prod.ext e1 e2⟩
theorem shp_tup {α : Type} {f : α → PyData} {n : Nat} (S : Shp α f n) : Shp (List α) (fun xs => .tuple (xs.map f)) (n + 1) :=
  ⟨fun xs => by simpa [tidy] using tidy_map S.ti xs, fun xs => by
    have := depth_map S.dp xs
    simp only [PyData.depth]
    omega, fun xs ys e => map_inj S.inj (by injection e)⟩
section
variable {K : PySem.W.Frag} {H : Hp} {Q : VK} {a b : Addr} {x y : V}
theorem dp_all {α : Type} {f : α → PyData} {R : V → α → Prop} (h : ∀ x p, R x p → Dp K H x (f p)) : ∀ {xs : List V} {ps : List α}, AllR R xs ps → DpAll K H xs (ps.map f)
  | [], [], _ => .nil
  | [], _ :: _, z => z.elim
  | _ :: _, [], z => z.elim
  | x :: xs, p :: ps, z => .cons (h x p z.1) (dp_all h z.2)
theorem dp_intsA : ∀ ks : List Int, DpAll K H (ks.map V.int) (ks.map PyData.int)
  | [] => .nil
  | k :: r => .cons (.int k) (dp_intsA r)
theorem dp_ints {ks : List Int} (h : SqL K H a (ks.map V.int)) : Dp K H (.ref a) (.list (ks.map PyData.int)) := .lst h (dp_intsA ks)
theorem dp_pair (x : V) (p : Int × Int) (h : PairAt H x p) : Dp K H x (dPair p) := by
  obtain ⟨t, rfl, ht⟩ := h
  exact .tup (SqT.of ht) (.cons (.int _) (.cons (.int _) .nil))
theorem dp_pairs {xs : List V} {ps : List (Int × Int)} (h1 : H a = some (.lst xs)) (h2 : Pairs H xs ps) : Dp K H (.ref a) (.list (ps.map dPair)) := .lst (SqL.of h1) (dp_all dp_pair h2)
/-- == of two things of one shape -/
theorem k_eqD {α : Type} {f : α → PyData} {n : Nat} (S : Shp α f n) (hn : n ≤ 64) {p q : α} [Decidable (p = q)] (h1 : Dp K H x (f p)) (h2 : Dp K H y (f q)) (h : Q (.bl (decide (p = q))) H) : rEqD K x y H Q := by
  refine ⟨f p, f q, h1, h2, shaped_of (S.ti p) (Nat.le_trans (S.dp p) hn), shaped_of (S.ti q) (Nat.le_trans (S.dp q) hn), ?_⟩
  by_cases e : p = q
  · rw [decide_eq_true e] at h
    rw [e, eqv_true (S.ti q)]
    exact h
  · rw [decide_eq_false e] at h
    rw [eqv_false (S.ti p) (S.ti q) fun z => e (S.inj _ _ z)]
    exact h
theorem k_neD {α : Type} {f : α → PyData} {n : Nat} (S : Shp α f n) (hn : n ≤ 64) {p q : α} [Decidable (p = q)] (h1 : Dp K H x (f p)) (h2 : Dp K H y (f q)) (h : Q (.bl (!decide (p = q))) H) : rNeD K x y H Q := by
  refine ⟨f p, f q, h1, h2, shaped_of (S.ti p) (Nat.le_trans (S.dp p) hn), shaped_of (S.ti q) (Nat.le_trans (S.dp q) hn), ?_⟩
  by_cases e : p = q
  · rw [decide_eq_true e] at h
    rw [e, eqv_true (S.ti q)]
    exact h
  · rw [decide_eq_false e] at h
    rw [eqv_false (S.ti p) (S.ti q) fun z => e (S.inj _ _ z)]
    exact h
theorem k_eqI {ks js : List Int} (h1 : SqL K H a (ks.map V.int)) (h2 : SqL K H b (js.map V.int)) (h : Q (.bl (decide (ks = js))) H) : rEqD K (.ref a) (.ref b) H Q :=
  k_eqD (shp_list shp_int) (by decide) (dp_ints h1) (dp_ints h2) h
theorem k_neI {ks js : List Int} (h1 : SqL K H a (ks.map V.int)) (h2 : SqL K H b (js.map V.int)) (h : Q (.bl (!decide (ks = js))) H) : rNeD K (.ref a) (.ref b) H Q :=
  k_neD (shp_list shp_int) (by decide) (dp_ints h1) (dp_ints h2) h
theorem k_eqP {xs ys : List V} {ps qs : List (Int × Int)} (h1 : H a = some (.lst xs)) (h3 : Pairs H xs ps) (h2 : H b = some (.lst ys)) (h4 : Pairs H ys qs) (h : Q (.bl (decide (ps = qs))) H) : rEqD K (.ref a) (.ref b) H Q :=
  k_eqD (shp_list shp_pair) (by decide) (dp_pairs h1 h3) (dp_pairs h2 h4) h
theorem k_neP {xs ys : List V} {ps qs : List (Int × Int)} (h1 : H a = some (.lst xs)) (h3 : Pairs H xs ps) (h2 : H b = some (.lst ys)) (h4 : Pairs H ys qs) (h : Q (.bl (!decide (ps = qs))) H) : rNeD K (.ref a) (.ref b) H Q :=
  k_neD (shp_list shp_pair) (by decide) (dp_pairs h1 h3) (dp_pairs h2 h4) h
theorem rgV_eq (a b : Int) : rgV a b = (rgI a (b - a)).map V.int := by
  unfold rgV rgI
  rw [List.map_map]
  rfl
end
end Lt
/-! what is never reached -/
namespace Lt
open PySem PySem.Spec PyProof.Rows L2
section
variable {X : Cx}
theorem pss_no {sts : List Stmt} : PSs X sts (fun _ _ _ => False) := ⟨fun _ _ _ _ _ _ h => False.elim h⟩
theorem ps_no {st : Stmt} : PS X st (fun _ _ _ => False) := ⟨fun _ _ _ _ _ _ h => False.elim h⟩
theorem pe_no {e : Expr} : PE X e (fun _ _ _ => False) := ⟨fun _ _ _ _ _ _ h => False.elim h⟩
theorem hu1 {k : Nat} {A : Around} (r : Room k A) : A.units + 1 < cLine := by
  have := r.units
  omega
end
end Lt
/-! a, *b = a list -/
namespace Lt
open PySem PySem.Spec PyProof.Rows L2
section
variable {P : Program} {w : World} {A : Around} {E : Value → Shared → Prop}
theorem draw_lst {I l : Addr} {xs : Array Value} (ne : l ≠ I) : ∀ (k j : Nat) (s : Shared) (Q : List Value → Shared → Prop), s.heap.IsListIter I l j → s.heap.IsList l xs → j + k ≤ xs.size →
    (∀ g, g.IsListIter I l (j + k) → Heap.SameBut I s.heap g → Q ((xs.toList.drop j).take k) { s with heap := g }) → wpAny (model P w) A (draw (.ref I) k) Q E s
  | 0, j, s, Q, it, _, _, hq => by
    have q := hq s.heap it (Heap.SameBut.refl ..)
    rw [List.take_zero] at q
    exact wpAny_pure q
  | k + 1, j, s, Q, it, il, le, hq => by
    have lt : j < xs.size := by omega
    show wpAny _ _ (pyNext (.ref I) >>= _) Q E s
    refine wpAny_bind (wpAny_pyNext_list_item it il (x := xs[j]) (by simp [lt]) fun g it1 sb => ?_)
    refine wpAny_bind ?_
    refine wpAny_holding ?_
    refine draw_lst ne k (j + 1) _ _ it1 (il.extBut sb.extBut ne) (by omega) fun g2 it2 sb2 => ?_
    refine wpAny_pure ?_
    have q := hq g2 (by rw [show j + (k + 1) = j + 1 + k by omega]; exact it2) (sb.trans sb2)
    have e : xs.toList.drop j = xs[j] :: xs.toList.drop (j + 1) := by simp [List.drop_eq_getElem_cons, lt]
    rw [e, List.take_succ_cons] at q
    exact q
/-- a walk that has gone d turns -/
theorem walk_from {I : Addr} {fp wr : List Addr} {G : Array GenState → Array GenState → Prop} {n d : Nat} {R : Nat → Value → Prop} {St : Nat → Shared → Prop} (hd : d ≤ n) (W : WalksS P w A I fp wr G n R St) :
    WalksS P w A I fp wr G (n - d) (fun i v => R (i + d) v) (fun i s => St (i + d) s) where
  sub := W.sub
  grefl := W.grefl
  gtrans := W.gtrans
  frame := fun i s h tk st ht hb => W.frame (i + d) s h tk st ht hb
  item := fun i s Q E hi st hq => W.item (i + d) s Q E (by omega) st fun v s' r st' m => hq v s' r (by rw [show i + 1 + d = i + d + 1 by omega]; exact st') m
  done := fun s Q E st hq => W.done s Q E (by rw [show n - d + d = n by omega] at st; exact st) hq
  self := fun i s Q E st hq => W.self (i + d) s Q E st hq
theorem collect_from {s : Shared} {I l : Addr} {xs : Array Value} {j : Nat} {Q : List Value → Shared → Prop} (nh : A.handled = none) (ne : l ≠ I) (it : s.heap.IsListIter I l j) (il : s.heap.IsList l xs) (lI : I < s.heap.objs.size) (ll : l < s.heap.objs.size) (hj : j ≤ xs.size) (hz : xs.size ≤ sizeLine)
    (hq : ∀ s', (∀ b o, b ≠ I → s.heap.get? b = some o → s'.heap.get? b = some o) → s'.gens = s.gens → s'.drawn = s.drawn → s'.os = s.os → Q (xs.toList.drop j) s') : wpAny (model P w) A (collect (.ref I)) Q E s := by
  have W := walk_from hj ((Walks.list (prog := P) (w := w) (A := A.in1) (by simpa using nh) I l ne xs).toS)
  refine wpAny_collect_iter (T := "list_iterator") (.inr (.inr (.inl rfl))) W (fun i s st => st.1.typeIs) ?_ (fun b hb => ?_) List.mem_cons_self (fun s' acc mv ia => ?_) (by omega)
  · rw [Nat.zero_add]
    exact ⟨it, il⟩
  · rcases List.mem_cons.mp hb with rfl | hb
    · exact lI
    · rw [List.mem_singleton.mp hb]
      exact ll
  · have e : acc.toList = xs.toList.drop j := by
      apply List.ext_getElem?
      intro i
      rw [List.getElem?_drop]
      by_cases hi : i < acc.size
      · have h1 := ia.2 i acc[i] (by simp [hi])
        have h2 : xs[i + j]? = some acc[i] := h1
        rw [Array.getElem?_toList, Array.getElem?_toList, Nat.add_comm j i, h2]
        simp [hi]
      · rw [Array.getElem?_toList, Array.getElem?_toList, Array.getElem?_eq_none (by omega), Array.getElem?_eq_none]
        have h3 : acc.size = xs.size - j := ia.1
        omega
    rw [e]
    exact hq s' (fun b o hb e => mv.heap b o (fun z => hb (List.mem_singleton.mp z)) e) mv.gens mv.drawn mv.os
end
section
variable {X : Cx}
/-- the first i ones, the others as a new list -/
def gStar (K : PySem.W.Frag) (i : Nat) (t : TGs) : TG := fun v σ H Q => ∃ a xs, v = .ref a ∧ SqL K H a xs ∧ i ≤ xs.length ∧ ∀ p, H p = none → t (xs.take i ++ [.ref p]) σ (upd H p (.lst (xs.drop i))) Q
theorem pg_star {es ts : List Expr} {k : Nat} {pos : Pos} {t : TGs} (i : Nat) (hc : X.calm = true) (h : PGs X ts t) (hn : (assignEach es X.env).length = i + 1 := by rfl) (hst : (assignEach es X.env).findIdx? (·.1) = some i := by rfl)
    (he : (assignEach es X.env).map (·.2) = (assignEach ts X.env).map (·.2) := by rfl) : PG X (.Tuple es k pos) (gStar X.K i t) := by
  refine ⟨fun pins s σ H v u Q I r hw => ?_⟩
  obtain ⟨a, xs, rfl, hx, hi, hw⟩ := hw
  cases r
  obtain ⟨its, rv, pl, hz⟩ := I.list hx
  have len := rv.length
  have alt : a < s.heap.objs.size := by
    obtain ⟨o, ho, _⟩ := pl.isList
    exact Heap.lt_size ho
  rw [assign_Tuple]
  refine wpAny_bind (wpAny_standAt ?_)
  unfold unpack
  rw [hn, hst]
  refine wpAny_bind (wpAny_holding ?_)
  unfold unpackItems
  refine wpAny_bind ?_
  unfold notIterableAtAll
  refine wpAny_bind (wpAny_specialOf pl.isList.typeIs slot_list_iter.lookup ?_)
  refine wpAny_pure ?_
  simp only [Bool.false_eq_true, if_false]
  refine wpAny_bind (wpAny_holding (wpAny_pyIter_list pl.isList ?_))
  have ne : a ≠ s.heap.objs.size := Nat.ne_of_lt alt
  refine wpAny_bind (wpAny_holding (draw_lst ne i 0 _ _ ⟨_, Heap.get?_push_size _ rfl, rfl, rfl⟩ (pl.isList.push _) (by simp; omega) fun g it sb => ?_))
  rw [List.drop_zero]
  have il : g.IsList a its.toArray := (pl.isList.push _).extBut sb.extBut ne
  have lI : s.heap.objs.size < g.objs.size := by
    obtain ⟨o, ho, _⟩ := it
    exact Heap.lt_size ho
  rw [if_neg (by simp; omega)]
  refine wpAny_bind (wpAny_holding (collect_from (I.ok.hd hc) ne it il lI (Nat.lt_trans alt lI) (by simp; omega) (by simp; omega) fun s' kp g1 d1 o1 => ?_))
  dsimp only
  rw [if_neg (by omega)]
  have I1 : Inv X pins σ H s' := by
    obtain ⟨h', g', d', t', o'⟩ := s'
    dsimp only at g1 d1 o1
    subst g1 d1 o1
    exact I.kept fun b o e => kp b o (Nat.ne_of_lt (Heap.lt_size e)) (by
      have q := sb.extBut b o (Nat.ne_of_lt (Heap.lt_size e)) (Heap.get?_push_of_some _ e)
      exact q)
  rw [Nat.zero_add]
  have e1 : ∀ (l : List Value), l.take (l.length - (i + 1 - 1 - i)) = l := fun l => by
    rw [show i + 1 - 1 - i = 0 by omega, Nat.sub_zero, List.take_length]
  have e2 : ∀ (l : List Value), l.drop (l.length - (i + 1 - 1 - i)) = [] := fun l => by
    rw [show i + 1 - 1 - i = 0 by omega, Nat.sub_zero, List.drop_length]
  rw [e1, e2]
  refine wpAny_bind (wpAny_newList ?_ (by rw [List.length_drop]; simp; omega))
  refine wpAny_pure ?_
  rw [he]
  have nf : H s'.heap.objs.size = none := I1.hok.fresh (Nat.le_refl _)
  have I2 : Inv X pins σ (upd H s'.heap.objs.size (.lst (xs.drop i))) { s' with heap := s'.heap.push { cls := .type "list", data := .seq (its.drop i).toArray } } :=
    I1.laid (t' := s'.toks) (fun b o e => Heap.get?_push_of_some _ e) (Nat.le_refl _) ⟨by rw [List.length_drop]; omega, its.drop i, 0, rv.drop i, Heap.get?_push_size _ rfl⟩
  have q := hw _ nf
  refine h.run pins _ σ _ (xs.take i ++ [.ref s'.heap.objs.size]) _ Q ?_ ?_ q
  · simpa using I2
  · simpa using (rv.take i).append (.cons (show RelV (.ref s'.heap.objs.size) (.ref s'.heap.objs.size) from rfl) .nil)
end
end Lt
/-! texts by their signs -/
namespace Lt
open PySem PySem.Spec PyProof.Rows L2 SX
theorem str_eq {a b : List Nat} : decide (V.str (S a) = V.str (S b)) = decide (a = b) := by
  by_cases h : a = b
  · rw [h, decide_eq_true rfl, decide_eq_true rfl]
  · rw [decide_eq_false h, decide_eq_false fun z => h (S_inj (V.str.inj z))]
theorem cut_to (a : List Nat) {i : Int} (h : 0 ≤ i) : cutS (S a) none (some i) = S (a.take i.toNat) := by
  rw [C8.cutS_slice]
  exact slice_to h
theorem cut_from (a : List Nat) {i : Int} (h : 0 ≤ i) : cutS (S a) (some i) none = S (a.drop i.toNat) := by
  rw [C8.cutS_slice]
  exact slice_from h
theorem cut_to1 (a : List Nat) : cutS (S a) none (some 1) = S (a.take 1) := cut_to a (by decide)
theorem cut_from1 (a : List Nat) : cutS (S a) (some 1) none = S (a.drop 1) := cut_from a (by decide)
section
variable {K : PySem.W.Frag} {D : Ends} {σ : L2.St} {H : Hp} {Q : VK} {te : TE} {t u : TS} {tt : TT} {g : TG} {vs : List Nat} {l : List Nat} {a : Addr} {xs : List V}
theorem k_iS {R : It → Hp → Prop} (h : te σ H fun v H1 => ∃ x, v = .str x ∧ R (Its x) H1) : iStr te σ H R := h
theorem k_inS {tb : TS} {Nx : L2.St → Hp → Prop} {R : VK} (Pv : Nat → L2.St → Hp → Prop) (h0 : Pv 0 σ H)
    (hs : ∀ i c σ H, l[i]? = some c → Pv i σ H → g (.str (S [c])) σ H fun σ2 H2 => tb { nx := Pv (i + 1), rt := R, bk := Nx, ct := Pv (i + 1) } σ2 H2) (hd : ∀ σ H, Pv l.length σ H → Nx σ H) :
    ∃ W : Nat → Nat → L2.St → Hp → Prop, (∃ m, W 0 m σ H) ∧ ∀ i m σ H, W i m σ H →
      ((Its (S l)).stop i H ∧ Nx σ H) ∨ ((Its (S l)).go i H ∧ ∃ N : L2.St → Hp → Prop, (∀ σ' H', N σ' H' → ∃ m', m' < m ∧ W (i + 1) m' σ' H') ∧ ∀ x H', (Its (S l)).yld i H x H' → g x σ H' fun σ2 H2 => tb { nx := N, rt := R, bk := Nx, ct := N } σ2 H2) := by
  refine for_it (D := { nx := Nx, rt := R }) (walk_str (z := S l)) Pv h0 (fun _ _ _ _ _ => True.intro) ?_ ?_
  · rintro i x σ H H' _ p ⟨rfl, c, hc, rfl⟩
    exact hs i c σ _ (by simpa using hc) p
  · exact hd
theorem k_lcS {Qd : Addr → Hp → Prop} (Pv : Addr → Nat → List V → Hp → Prop) (h0 : ∀ D, H D = none → Pv D 0 [] (upd H D (.lst [])))
    (hs : ∀ D i c acc H', H D = none → i < l.length → l[i]? = some c → H' D = some (.lst acc) → acc.length ≤ i → Pv D i acc H' → g (.str (S [c])) (wipe σ vs) H' fun σ2 H2 => wipe σ2 vs = wipe σ vs ∧ tt σ2 H2 fun b H3 =>
      if b = true then te σ2 H3 fun y H4 => ∃ acc, H4 D = some (.lst acc) ∧ acc.length < sizeLine ∧ LcP Pv D (i + 1) (upd H4 D (.lst (acc ++ [y]))) else LcP Pv D (i + 1) H3)
    (h : ∀ D acc H', H D = none → H' D = some (.lst acc) → acc.length ≤ l.length → Pv D l.length acc H' → Qd D H') :
    ∀ D, H D = none → ∃ W : Nat → Nat → Hp → Prop, (∃ m, W 0 m (upd H D (.lst []))) ∧ ∀ i m H, W i m H →
      ((Its (S l)).stop i H ∧ Qd D H) ∨ ((Its (S l)).go i H ∧ ∃ Nx : Hp → Prop, (∀ H', Nx H' → ∃ m', m' < m ∧ W (i + 1) m' H') ∧ ∀ x H', (Its (S l)).yld i H x H' → g x (wipe σ vs) H' fun σ2 H2 => wipe σ2 vs = wipe σ vs ∧ tt σ2 H2 fun b H3 =>
        if b = true then te σ2 H3 fun y H4 => ∃ acc, H4 D = some (.lst acc) ∧ acc.length < sizeLine ∧ Nx (upd H4 D (.lst (acc ++ [y]))) else Nx H3) := by
  intro D nD
  refine lc_it (Qd := Qd D) (walk_str (z := S l)) (LcP Pv D) ⟨[], upd_same, Nat.le_refl _, h0 D nD⟩ (fun _ _ _ _ => True.intro) ?_ ?_
  · rintro i x H1 H' hi ⟨acc, e1, e2, e3⟩ ⟨rfl, c, hc, rfl⟩
    exact hs D i c acc _ nD (by simpa using hi) (by simpa using hc) e1 e2 e3
  · rintro H' ⟨acc, e1, e2, e3⟩
    exact h D acc H' nD e1 e2 e3
theorem k_m1 {r : V → List V → Hp → VK → Prop} {to : TE} (h : to σ H fun x H1 => (∃ a, x = .str a) ∧ te σ H1 fun y H2 => r x [y] H2 Q) : tM1 r to te σ H Q := h
theorem k_isS {x : Str} {A : Prop} (h : A) : (∃ a, V.str x = .str a) ∧ A := ⟨⟨x, rfl⟩, h⟩
theorem k_slS {lo hi : Option Int} (hl : l.length ≤ 100000) (h : Q (.str (cutS (S l) lo hi)) H) : rSlS (.str (S l)) lo hi H Q := ⟨_, rfl, by rw [S_len]; exact Nat.le_trans hl (by decide), h⟩
theorem k_ixS {i : Int} {c : Nat} {z : Str} (hl : z.cps.toList.length ≤ 100000) (hc : atI z.cps.toList i = some c) (h : Q (.str (S [c])) H) : rIxS (.str z) (.int i) H Q := ⟨z, i, c, rfl, rfl, Nat.le_trans (by show z.cps.size ≤ 100000; rw [← Array.length_toList]; exact hl) (by decide : 100000 ≤ sizeLine), hc, h⟩
/-- text.split(a sign) -/
theorem k_split {c : Nat} (hl : l.length ≤ 100000) (hc : c < 256) (h : ∀ p, H p = none → Q (.ref p) (upd H p (.lst ((TL.spl [c] 0 [] l).map fun z => V.str (S z))))) :
    ((S [c]).length == 0) = false ∧ (S l).length + 2 ≤ sizeLine ∧ rNewStrs (Txt.split (S l) (S [c])) H Q := by
  refine ⟨rfl, ?_, fun p np => ?_⟩
  · rw [S_len]
    exact Nat.le_trans (Nat.add_le_add_right hl 2) (by decide)
  · rw [split_S (by simp) (by simp [hc]), List.map_map]
    exact h p np
/-- ''.join(list of texts) -/
theorem k_join0 {ys : List (List Nat)} {w : Str} (hw : w = S []) (hp : H a = some (.lst (ys.map fun z => V.str (S z)))) (hz : (ys.map List.length).sum ≤ 100000) (hn : ys.length ≤ 100000) (h : Q (.str (S ys.flatten)) H) :
    ∃ x p, ∃ zs : List Str, V.str w = .str x ∧ [V.ref a] = [.ref p] ∧ (SqL K H p (zs.map V.str) ∨ SqT K H p (zs.map V.str)) ∧ (zs.map (·.length)).sum + zs.length * x.length ≤ 16777216 ∧ Q (.str (Txt.join x zs)) H := by
  subst hw
  refine ⟨_, _, ys.map S, rfl, rfl, .inl (SqL.of (by rw [hp, List.map_map]; rfl)), ?_, ?_⟩
  · rw [lens, S_len, List.length_nil, Nat.mul_zero]
    exact Nat.le_trans hz (by decide)
  · rw [join_S]
    have e : ∀ zs : List (List Nat), TL.joinL [] zs = zs.flatten := by
      intro zs
      induction zs with
      | nil => rfl
      | cons x zs ih =>
        cases zs with
        | nil => simp [TL.joinL]
        | cons y zs =>
          show x ++ ([] ++ TL.joinL [] (y :: zs)) = _
          rw [ih]
          simp
    rw [e]
    exact h
theorem k_szS {A : Prop} (hl : l.length ≤ 100000) (h : A) : (S l).length ≤ sizeLine ∧ A := ⟨by rw [S_len]; exact Nat.le_trans hl (by decide), h⟩
theorem k_addS {A : Prop} {x y : List Nat} (hz : x.length + y.length ≤ 100000) (h : A) : (S x).length + (S y).length ≤ sizeLine ∧ A := ⟨by rw [S_len, S_len]; exact Nat.le_trans hz (by decide), h⟩
theorem k_any {bs : List Bool} (hp : H a = some (.lst (bs.map V.bl))) (h : Q (.bl (bs.any id)) H) : rAny K [.ref a] H Q := ⟨a, bs, rfl, SqL.of hp, h⟩
theorem k_all {bs : List Bool} (hp : H a = some (.lst (bs.map V.bl))) (h : Q (.bl (bs.all id)) H) : rAll K [.ref a] H Q := ⟨a, bs, rfl, SqL.of hp, h⟩
theorem k_star {i : Nat} {t : TGs} {Qs : L2.St → Hp → Prop} (h1 : SqL K H a xs) (h2 : i ≤ xs.length) (h : ∀ p, H p = none → t (xs.take i ++ [.ref p]) σ (upd H p (.lst (xs.drop i))) Qs) : gStar K i t (.ref a) σ H Qs := ⟨a, xs, rfl, h1, h2, h⟩
end
/-! paths -/
def signs36 : List Nat := [97,98,99,100,101,102,103,104,105,106,107,108,109,110,111,112,113,114,115,116,117,118,119,120,121,122,48,49,50,51,52,53,54,55,56,57]
def nameB (n : List Nat) : Bool := decide (1 ≤ n.length) && decide (n.length ≤ 8) && n.all fun c => decide (c ∈ signs36)
def pathB : List Nat → Bool
  | 47 :: r => if r = [] then true else decide ((TL.spl [47] 0 [] r).length ≤ 5) && (TL.spl [47] 0 [] r).all nameB
  | _ => false
theorem lit_sl : Str.ofString "/" = S [47] := by decide +kernel
theorem lit_e : Str.ofString "" = S [] := by decide +kernel
def someL : List Nat := [32, 33, 34, 35, 36, 38, 39, 40, 41, 42, 43, 44, 45, 46, 47, 48, 49, 50, 51, 52, 53, 54, 55, 56, 57, 58, 59, 60, 61, 62, 63, 64, 65, 66, 67, 68, 69, 70, 71, 72, 73, 74, 75, 76, 77, 78, 79, 80, 81, 82, 83, 84, 85, 86, 87, 88, 89, 90, 91, 92, 93, 94, 95, 96, 123, 124, 125, 126, 97, 122, 47]
theorem lit_some : Str.ofString " !\"#$&'()*+,-./0123456789:;<=>?@ABCDEFGHIJKLMNOPQRSTUVWXYZ[\\]^_`{|}~az/" = S someL := by decide +kernel
theorem lit_ss : Str.ofString "//" = S [47, 47] := by decide +kernel
theorem lit_nl : Str.ofString "\n" = S [10] := by decide +kernel
theorem lit_36 : Str.ofString "abcdefghijklmnopqrstuvwxyz0123456789" = S signs36 := by decide +kernel
theorem take_snocT {α : Type} {l : List α} {i : Nat} {x : α} (h : l[i]? = some x) : l.take (i + 1) = l.take i ++ [x] := by
  rw [List.take_add_one, h]
  rfl
theorem spl_ne {s : List Nat} : ∀ (k : Nat) (acc l : List Nat), TL.spl s k acc l ≠ []
  | k, acc, [] => by rw [TL.spl_nil]; simp
  | 0, acc, c :: r => by
    show (if TL.pre s (c :: r) = true then acc :: TL.spl s (s.length - 1) [] r else TL.spl s 0 (acc ++ [c]) r) ≠ []
    split
    · simp
    · exact spl_ne 0 _ r
  | k + 1, acc, c :: r => spl_ne k acc r
theorem spl_acc {s : List Nat} : ∀ (acc l : List Nat), ∃ p q, TL.spl s 0 acc l = (acc ++ p) :: q
  | acc, [] => ⟨[], [], by rw [TL.spl_nil]; simp⟩
  | acc, c :: r => by
    by_cases h : TL.pre s (c :: r) = true
    · exact ⟨[], _, by rw [TL.spl_hit h, List.append_nil]⟩
    · obtain ⟨p, q, e⟩ := spl_acc (s := s) (acc ++ [c]) r
      exact ⟨c :: p, q, by rw [TL.spl_miss (Bool.eq_false_iff.mpr h), e]; simp⟩
theorem spl_hit1 {d : Nat} {r : List Nat} : TL.spl [d] 0 [] (d :: r) = [] :: TL.spl [d] 0 [] r := by
  rw [TL.spl_hit (by simp [TL.pre])]
  rfl
theorem spl_miss1 {c d : Nat} {r : List Nat} (h : c ≠ d) : ∃ p q, TL.spl [d] 0 [] (c :: r) = (c :: p) :: q := by
  rw [TL.spl_miss (TL.pre_of_head _ _ h)]
  obtain ⟨p, q, e⟩ := spl_acc (s := [d]) ([] ++ [c]) r
  exact ⟨p, q, by rw [e]; rfl⟩
theorem path_spl {l : List Nat} (h : l ≠ [47]) : ∃ root names, TL.spl [47] 0 [] l = root :: names ∧ pathB l = (decide (root = []) && decide (1 ≤ names.length) && decide (names.length ≤ 5) && names.all nameB) := by
  cases l with
  | nil => exact ⟨[], [], rfl, rfl⟩
  | cons c r =>
    by_cases hc : c = 47
    · subst hc
      have hr : r ≠ [] := fun z => h (by rw [z])
      refine ⟨[], _, spl_hit1, ?_⟩
      have h1 : 1 ≤ (TL.spl [47] 0 [] r).length := List.length_pos_iff.mpr (spl_ne 0 [] r)
      rw [show pathB (47 :: r) = if r = [] then true else decide ((TL.spl [47] 0 [] r).length ≤ 5) && (TL.spl [47] 0 [] r).all nameB from rfl, if_neg hr, decide_eq_true h1]
      rfl
    · obtain ⟨p, q, e⟩ := spl_miss1 (r := r) hc
      refine ⟨c :: p, q, e, ?_⟩
      rw [show pathB (c :: r) = false by unfold pathB; split <;> simp_all, decide_eq_false (by simp)]
      rfl
/-- what the law's own reckoning sees -/
theorem path_law {l : List Nat} (h : l ≠ [47]) : pathB l = (decide (l.take 1 = [47]) && decide ((TL.spl [47] 0 [] (l.drop 1)).length ≤ 5) && (TL.spl [47] 0 [] (l.drop 1)).all nameB) := by
  cases l with
  | nil => rfl
  | cons c r =>
    by_cases hc : c = 47
    · subst hc
      have hr : r ≠ [] := fun z => h (by rw [z])
      rw [show pathB (47 :: r) = if r = [] then true else decide ((TL.spl [47] 0 [] r).length ≤ 5) && (TL.spl [47] 0 [] r).all nameB from rfl, if_neg hr]
      rfl
    · rw [show pathB (c :: r) = false by unfold pathB; split <;> simp_all]
      simp [hc]
theorem all_no {α : Type} {f : α → Bool} {l : List α} {i : Nat} {x : α} (h : l[i]? = some x) (e : f x = false) : l.all f = false := by
  rw [List.all_eq_false]
  exact ⟨x, List.mem_of_getElem? h, by rw [e]; simp⟩
theorem all_snoc {α : Type} {f : α → Bool} {l : List α} {i : Nat} {x : α} (h : l[i]? = some x) (h1 : (l.take i).all f = true) (e : f x = true) : (l.take (i + 1)).all f = true := by
  rw [take_snocT h, List.all_append, h1]
  simp [e]
theorem any_not {l : List Nat} {f : Nat → Bool} : (l.map fun c => !f c).any id = !l.all f := by
  induction l with
  | nil => rfl
  | cons c l ih => simp [ih]
theorem str_at {ks : List (List Nat)} {i : Nat} {x : V} (h : (ks.map fun z => V.str (S z))[i]? = some x) : ∃ k, x = V.str (S k) ∧ ks[i]? = some k := by
  rw [List.getElem?_map] at h
  cases e : ks[i]? with
  | none =>
    rw [e] at h
    cases h
  | some k =>
    rw [e] at h
    exact ⟨k, (Option.some.inj h).symm, rfl⟩
theorem spl_len {s : List Nat} : ∀ (k : Nat) (acc l p : List Nat), p ∈ TL.spl s k acc l → p.length ≤ acc.length + l.length
  | k, acc, [], p, h => by
    rw [TL.spl_nil, List.mem_singleton] at h
    rw [h]
    exact Nat.le_add_right _ _
  | 0, acc, c :: r, p, h => by
    rw [show TL.spl s 0 acc (c :: r) = if TL.pre s (c :: r) = true then acc :: TL.spl s (s.length - 1) [] r else TL.spl s 0 (acc ++ [c]) r from rfl] at h
    split at h
    · rcases List.mem_cons.mp h with rfl | h
      · exact Nat.le_add_right _ _
      · have := spl_len _ [] r p h
        simp only [List.length_nil, List.length_cons] at this ⊢
        omega
    · have := spl_len 0 (acc ++ [c]) r p h
      simp only [List.length_append, List.length_cons, List.length_nil] at this ⊢
      omega
  | k + 1, acc, c :: r, p, h => by
    have := spl_len k acc r p h
    rw [List.length_cons]
    omega
theorem str_len {l : List Nat} : ((S l).cps.toList) = l := rfl
end Lt
/-! what stands in the heap, piece by piece: pieces that may change stand apart, tuples may be shared -/
namespace Lt
open PySem PySem.Spec PyProof.Rows L2
abbrev Asn := Hp → Prop
def Dj (H1 H2 : Hp) : Prop := ∀ a o, H1 a = some o → H2 a = none ∨ ∃ xs, o = .tup xs
def Hs : List Asn → Hp → Prop
  | [], _ => True
  | A :: L, H => ∃ H1 H2 : Hp, Same H1 H ∧ Same H2 H ∧ Dj H1 H2 ∧ A H1 ∧ Hs L H2
def un (H1 H2 : Hp) : Hp := fun a => match H1 a with
  | some o => some o
  | none => H2 a
theorem un_l {H1 H2 : Hp} : Same H1 (un H1 H2) := fun a o e => by
  unfold un
  rw [e]
theorem un_r {H1 H2 H : Hp} (s1 : Same H1 H) (s2 : Same H2 H) : Same H2 (un H1 H2) := fun a o e => by
  unfold un
  cases h : H1 a with
  | none => exact e
  | some u =>
    have h1 := s1 a u h
    have h2 := s2 a o e
    rw [h1] at h2
    exact h2
theorem un_le {H1 H2 H : Hp} (s1 : Same H1 H) (s2 : Same H2 H) : Same (un H1 H2) H := fun a o e => by
  unfold un at e
  cases h : H1 a with
  | none =>
    rw [h] at e
    exact s2 a o e
  | some u =>
    rw [h] at e
    have e2 : u = o := Option.some.inj e
    rw [← e2]
    exact s1 a u h
def tups (H : Hp) : Hp := fun a => match H a with
  | some (.tup xs) => some (.tup xs)
  | _ => none
theorem tups_le {H : Hp} : Same (tups H) H := fun a o e => by
  unfold tups at e
  cases h : H a with
  | none =>
    rw [h] at e
    cases e
  | some u =>
    rw [h] at e
    cases u with
    | tup xs =>
      cases e
      rfl
    | _ => cases e
theorem tups_at {H : Hp} {a : Addr} {xs : List V} (h : H a = some (.tup xs)) : tups H a = some (.tup xs) := by
  unfold tups
  rw [h]
theorem tups_tup {H : Hp} {a : Addr} {o : HO} (h : tups H a = some o) : ∃ xs, o = .tup xs := by
  unfold tups at h
  cases e : H a with
  | none =>
    rw [e] at h
    cases h
  | some u =>
    rw [e] at h
    cases u with
    | tup xs =>
      cases h
      exact ⟨xs, rfl⟩
    | _ => cases h
theorem Hs.sub {H H' : Hp} (s : Same H H') : ∀ {L : List Asn}, Hs L H → Hs L H'
  | [], _ => True.intro
  | _ :: _, ⟨H1, H2, s1, s2, d, a, h⟩ => ⟨H1, H2, s1.trans s, s2.trans s, d, a, h⟩
section
variable {A B : Asn} {L L' R : List Asn} {H H' : Hp} {p : Addr} {o : HO}
theorem Hs.tl (h : Hs (A :: L) H) : Hs L H := by
  obtain ⟨H1, H2, s1, s2, d, a, h⟩ := h
  exact h.sub s2
theorem Hs.under (f : ∀ H, Hs L H → Hs L' H) (h : Hs (A :: L) H) : Hs (A :: L') H := by
  obtain ⟨H1, H2, s1, s2, d, a, h⟩ := h
  exact ⟨H1, H2, s1, s2, d, a, f _ h⟩
theorem Hs.swap (h : Hs (A :: B :: L) H) : Hs (B :: A :: L) H := by
  obtain ⟨H1, H2, s1, s2, d, a, H21, H22, t1, t2, e, b, h⟩ := h
  have r1 := t1.trans s2
  have r2 := t2.trans s2
  refine ⟨H21, un H1 H22, r1, un_le s1 r2, fun c o hc => ?_, b, H1, H22, un_l, un_r s1 r2, fun c o hc => ?_, a, h⟩
  · rcases e c o hc with z | z
    · cases h1 : H1 c with
      | none =>
        left
        unfold un
        rw [h1]
        exact z
      | some u =>
        rcases d c u h1 with y | ⟨xs, rfl⟩
        · rw [t1 c o hc] at y
          cases y
        · right
          have q1 := s1 c _ h1
          have q2 := r1 c _ hc
          rw [q1] at q2
          exact ⟨xs, (Option.some.inj q2).symm⟩
    · exact .inr z
  · rcases d c o hc with z | z
    · left
      cases h2 : H22 c with
      | none => rfl
      | some u =>
        rw [t2 c u h2] at z
        cases z
    · exact .inr z
/-- a piece is taken out of the list -/
inductive Pick : List Asn → Asn → List Asn → Prop
  | here {A : Asn} {L : List Asn} : Pick (A :: L) A L
  | there {A B : Asn} {L R : List Asn} : Pick L A R → Pick (B :: L) A (B :: R)
theorem Pick.go (k : Pick L A R) : ∀ {H : Hp}, Hs L H → Hs (A :: R) H := by
  induction k with
  | here => exact fun h => h
  | there k ih => exact fun h => (Hs.under (fun _ => ih) h).swap
class Mono (A : Asn) : Prop where
  mono : ∀ {H H' : Hp}, Same H H' → A H → A H'
class Tup (A : Asn) : Prop where
  tup : ∀ {H : Hp}, A H → A (tups H)
theorem Hs.hd [m : Mono A] (h : Hs (A :: L) H) : A H := by
  obtain ⟨H1, H2, s1, s2, d, a, h⟩ := h
  exact m.mono s1 a
theorem Hs.at_ [Mono A] (h : Hs L H) (k : Pick L A R) : A H := (k.go h).hd
theorem Hs.add [t : Tup A] (a : A H) (h : Hs L H) : Hs (A :: L) H := ⟨tups H, H, tups_le, Same.refl H, fun _ _ e => .inr (tups_tup e), t.tup a, h⟩
def cell (p : Addr) (o : HO) : Asn := fun H => H p = some o
instance : Mono (cell p o) := ⟨fun s h => s _ _ h⟩
instance {xs : List V} : Tup (cell p (.tup xs)) := ⟨fun h => tups_at h⟩
def solo (p : Addr) (o : HO) : Hp := fun a => if a = p then some o else none
theorem solo_at : solo p o p = some o := if_pos rfl
theorem solo_of {a : Addr} {u : HO} (h : solo p o a = some u) : a = p ∧ u = o := by
  unfold solo at h
  by_cases e : a = p
  · rw [if_pos e] at h
    exact ⟨e, (Option.some.inj h).symm⟩
  · rw [if_neg e] at h
    cases h
theorem solo_le (h : H p = some o) : Same (solo p o) H := fun a u e => by
  obtain ⟨rfl, rfl⟩ := solo_of e
  exact h
theorem Hs.new (n : H p = none) (h : Hs L H) : Hs (cell p o :: L) (upd H p o) :=
  ⟨solo p o, H, solo_le upd_same, same_new n, fun a u e => by
    obtain ⟨rfl, rfl⟩ := solo_of e
    exact .inl n, solo_at, h⟩
theorem Hs.put {o' : HO} (nt : ∀ xs, o ≠ .tup xs) (h : Hs (cell p o :: L) H) : Hs (cell p o' :: L) (upd H p o') := by
  obtain ⟨H1, H2, s1, s2, d, a, h⟩ := h
  have n2 : H2 p = none := by
    rcases d p o a with z | ⟨xs, z⟩
    · exact z
    · exact absurd z (nt xs)
  refine ⟨solo p o', H2, solo_le upd_same, fun b u e => ?_, fun b u e => ?_, solo_at, h⟩
  · rw [upd_ne (ne_of_none e n2)]
    exact s2 b u e
  · obtain ⟨rfl, rfl⟩ := solo_of e
    exact .inl n2
/-- a piece that knows the tuples -/
theorem Hs.pack (f : ∀ H1, Same H1 H → H1 p = some o → (∀ a xs, H a = some (.tup xs) → H1 a = some (.tup xs)) → A H1) (h : Hs (cell p o :: L) H) : Hs (A :: L) H := by
  obtain ⟨H1, H2, s1, s2, d, a, h⟩ := h
  have hp : H p = some o := s1 _ _ a
  have s0 := solo_le hp
  have st := tups_le (H := H)
  refine ⟨un (solo p o) (tups H), H2, un_le s0 st, s2, fun b u e => ?_, f _ (un_le s0 st) (un_l _ _ solo_at) (fun b xs e => un_r s0 st _ _ (tups_at e)), h⟩
  unfold un at e
  cases h1 : solo p o b with
  | none =>
    rw [h1] at e
    exact .inr (tups_tup e)
  | some v =>
    rw [h1] at e
    have e2 : v = u := Option.some.inj e
    rw [← e2]
    obtain ⟨rfl, rfl⟩ := solo_of h1
    exact d b v a
theorem Hs.weak (f : ∀ H1, A H1 → B H1) (h : Hs (A :: L) H) : Hs (B :: L) H := by
  obtain ⟨H1, H2, s1, s2, d, a, h⟩ := h
  exact ⟨H1, H2, s1, s2, d, f _ a, h⟩
theorem Hs.ex {α : Sort _} {A : α → Asn} (h : Hs ((fun H => ∃ x, A x H) :: L) H) : ∃ x, Hs (A x :: L) H := by
  obtain ⟨H1, H2, s1, s2, d, ⟨x, a⟩, h⟩ := h
  exact ⟨x, H1, H2, s1, s2, d, a, h⟩
/-- a piece and a fact that speaks of tuples alone -/
theorem Hs.fact {F : Prop} (h : Hs ((fun H => A H ∧ F) :: L) H) : Hs (A :: L) H ∧ F := by
  obtain ⟨H1, H2, s1, s2, d, ⟨a, x⟩, h⟩ := h
  exact ⟨⟨H1, H2, s1, s2, d, a, h⟩, x⟩
/-- two pieces as one -/
def both (A B : Asn) : Asn := Hs [A, B]
theorem Hs.join (h : Hs (A :: B :: L) H) : Hs (Hs [A, B] :: L) H := by
  obtain ⟨H1, H2, s1, s2, d, a, H21, H22, t1, t2, e, b, h⟩ := h
  have r1 := t1.trans s2
  have r2 := t2.trans s2
  refine ⟨un H1 H21, H22, un_le s1 r1, r2, fun c o hc => ?_, ⟨H1, H21, un_l, un_r s1 r1, fun c o hc => ?_, a, H21, fun _ => none, Same.refl _, (fun _ _ z => by cases z), (fun _ _ _ => .inl rfl), b, True.intro⟩, h⟩
  · unfold un at hc
    cases h1 : H1 c with
    | none =>
      rw [h1] at hc
      exact e c o hc
    | some u =>
      rw [h1] at hc
      have e2 : u = o := Option.some.inj hc
      rw [← e2]
      rcases d c u h1 with z | z
      · left
        cases h2 : H22 c with
        | none => rfl
        | some v =>
          rw [t2 c v h2] at z
          cases z
      · exact .inr z
  · rcases d c o hc with z | z
    · left
      cases h2 : H21 c with
      | none => rfl
      | some v =>
        rw [t1 c v h2] at z
        cases z
    · exact .inr z
theorem Hs.split (h : Hs (Hs [A, B] :: L) H) : Hs (A :: B :: L) H := by
  obtain ⟨H1, H2, s1, s2, d, ⟨H3, H4, t1, t2, e, a, H5, H6, u1, u2, e2, b, _⟩, h⟩ := h
  have v5 : Same H5 H := (u1.trans t2).trans s1
  have v3 : Same H3 H := t1.trans s1
  refine ⟨H3, un H5 H2, v3, un_le v5 s2, fun c o hc => ?_, a, H5, H2, un_l, un_r v5 s2, fun c o hc => d c o (t2 c o (u1 c o hc)), b, h⟩
  cases h5 : H5 c with
  | none =>
    rcases d c o (t1 c o hc) with z | z
    · left
      unfold un
      rw [h5]
      exact z
    · exact .inr z
  | some v =>
    rcases e c o hc with z | z
    · rw [u1 c v h5] at z
      cases z
    · exact .inr z
end
/-! ### data: scalars and tuples of them -/
mutual
inductive Dv (H : Hp) : V → PyData → Prop
  | non : Dv H .non .none
  | bl (b : Bool) : Dv H (.bl b) (.bool b)
  | int (i : Int) : Dv H (.int i) (.int i)
  | str (x : Str) : Dv H (.str x) (.str x)
  | tup {t : Addr} {xs : List V} {ds : List PyData} : H t = some (.tup xs) → DvAll H xs ds → Dv H (.ref t) (.tuple ds)
inductive DvAll (H : Hp) : List V → List PyData → Prop
  | nil : DvAll H [] []
  | cons {x : V} {d : PyData} {xs : List V} {ds : List PyData} : Dv H x d → DvAll H xs ds → DvAll H (x :: xs) (d :: ds)
end
mutual
theorem Dv.map {H H' : Hp} (s : ∀ a xs, H a = some (.tup xs) → H' a = some (.tup xs)) : ∀ {x : V} {d : PyData}, Dv H x d → Dv H' x d
  | _, _, .non => .non
  | _, _, .bl b => .bl b
  | _, _, .int i => .int i
  | _, _, .str x => .str x
  | _, _, .tup h t => .tup (s _ _ h) (DvAll.map s t)
theorem DvAll.map {H H' : Hp} (s : ∀ a xs, H a = some (.tup xs) → H' a = some (.tup xs)) : ∀ {xs : List V} {ds : List PyData}, DvAll H xs ds → DvAll H' xs ds
  | _, _, .nil => .nil
  | _, _, .cons h t => .cons (Dv.map s h) (DvAll.map s t)
end
mutual
theorem Dv.dp {K : PySem.W.Frag} {H : Hp} : ∀ {x : V} {d : PyData}, Dv H x d → Dp K H x d
  | _, _, .non => .non
  | _, _, .bl b => .bl b
  | _, _, .int i => .int i
  | _, _, .str x => .str x
  | _, _, .tup h t => .tup (SqT.of h) (DvAll.dp t)
theorem DvAll.dp {K : PySem.W.Frag} {H : Hp} : ∀ {xs : List V} {ds : List PyData}, DvAll H xs ds → DpAll K H xs ds
  | _, _, .nil => .nil
  | _, _, .cons h t => .cons (Dv.dp h) (DvAll.dp t)
end
theorem Dv.sub {H H' : Hp} {x : V} {d : PyData} (s : Same H H') (h : Dv H x d) : Dv H' x d := h.map fun a xs e => s a _ e
theorem DvAll.sub {H H' : Hp} {xs : List V} {ds : List PyData} (s : Same H H') (h : DvAll H xs ds) : DvAll H' xs ds := h.map fun a xs e => s a _ e
def dv (x : V) (d : PyData) : Asn := fun H => Dv H x d
def dvs (xs : List V) (ds : List PyData) : Asn := fun H => DvAll H xs ds
section
variable {L R : List Asn} {H : Hp} {p : Addr} {o : HO} {x : V} {d : PyData} {xs vs : List V} {ds : List PyData}
instance : Mono (dv x d) := ⟨fun s h => Dv.sub s h⟩
instance : Mono (dvs xs ds) := ⟨fun s h => DvAll.sub s h⟩
instance : Tup (dv x d) := ⟨fun h => h.map fun _ _ e => tups_at e⟩
instance : Tup (dvs xs ds) := ⟨fun h => h.map fun _ _ e => tups_at e⟩
theorem DvAll.length : ∀ {xs : List V} {ds : List PyData}, DvAll H xs ds → xs.length = ds.length
  | _, _, .nil => rfl
  | _, _, .cons _ t => congrArg Nat.succ (DvAll.length t)
theorem DvAll.append : ∀ {xs ys : List V} {ds es : List PyData}, DvAll H xs ds → DvAll H ys es → DvAll H (xs ++ ys) (ds ++ es)
  | _, _, _, _, .nil, h => h
  | _, _, _, _, .cons a t, h => .cons a (DvAll.append t h)
theorem DvAll.get : ∀ {xs : List V} {ds : List PyData} {i : Nat} {x : V}, DvAll H xs ds → xs[i]? = some x → ∃ d, ds[i]? = some d ∧ Dv H x d
  | _, _, _, _, .nil, e => by simp at e
  | _, _, 0, _, .cons a _, e => by
    have e1 := Option.some.inj (show some _ = some _ from by simpa using e)
    subst e1
    exact ⟨_, rfl, a⟩
  | _, _, i + 1, _, .cons _ t, e => by
    obtain ⟨d, h1, h2⟩ := DvAll.get (i := i) t (by simpa using e)
    exact ⟨d, by simpa using h1, h2⟩
theorem DvAll.get2 : ∀ {xs : List V} {ds : List PyData} {i : Nat} {d : PyData}, DvAll H xs ds → ds[i]? = some d → ∃ x, xs[i]? = some x ∧ Dv H x d
  | _, _, _, _, .nil, e => by simp at e
  | _, _, 0, _, .cons a _, e => by
    have e1 := Option.some.inj (show some _ = some _ from by simpa using e)
    subst e1
    exact ⟨_, rfl, a⟩
  | _, _, i + 1, _, .cons _ t, e => by
    obtain ⟨d, h1, h2⟩ := DvAll.get2 (i := i) t (by simpa using e)
    exact ⟨d, by simpa using h1, h2⟩
theorem DvAll.take : ∀ {xs : List V} {ds : List PyData} (n : Nat), DvAll H xs ds → DvAll H (xs.take n) (ds.take n)
  | _, _, 0, _ => .nil
  | _, _, _ + 1, .nil => .nil
  | _, _, n + 1, .cons a t => .cons a (DvAll.take n t)
theorem DvAll.drop : ∀ {xs : List V} {ds : List PyData} (n : Nat), DvAll H xs ds → DvAll H (xs.drop n) (ds.drop n)
  | _, _, 0, h => h
  | _, _, _ + 1, .nil => .nil
  | _, _, n + 1, .cons _ t => DvAll.drop n t
theorem DvAll.set {x : V} {d : PyData} (h : Dv H x d) : ∀ {xs : List V} {ds : List PyData} (n : Nat), DvAll H xs ds → DvAll H (xs.set n x) (ds.set n d)
  | _, _, _, .nil => .nil
  | _, _, 0, .cons _ t => .cons h t
  | _, _, n + 1, .cons a t => .cons a (DvAll.set h n t)
theorem DvAll.rev : ∀ {xs : List V} {ds : List PyData}, DvAll H xs ds → DvAll H xs.reverse ds.reverse
  | _, _, .nil => .nil
  | _, _, .cons a t => by
    rw [List.reverse_cons, List.reverse_cons]
    exact (DvAll.rev t).append (.cons a .nil)
theorem DvAll.ints : ∀ ks : List Int, DvAll H (ks.map V.int) (ks.map PyData.int)
  | [] => .nil
  | _ :: r => .cons (.int _) (DvAll.ints r)
theorem DvAll.strs : ∀ ks : List Str, DvAll H (ks.map V.str) (ks.map PyData.str)
  | [] => .nil
  | _ :: r => .cons (.str _) (DvAll.strs r)
theorem DvAll.bls : ∀ ks : List Bool, DvAll H (ks.map V.bl) (ks.map PyData.bool)
  | [] => .nil
  | _ :: r => .cons (.bl _) (DvAll.bls r)
/-- a scalar's value -/
def sca : PyData → Option V
  | .none => some .non
  | .bool b => some (.bl b)
  | .int i => some (.int i)
  | .str x => some (.str x)
  | _ => none
theorem Dv.sca (h : Dv H x d) {v : V} (e : sca d = some v) : x = v := by
  cases h with
  | tup _ _ => cases e
  | _ => exact Option.some.inj e
theorem Dv.ofSca {v : V} (e : Lt.sca d = some v) : Dv H v d := by
  cases d with
  | none =>
    cases e
    exact .non
  | bool b =>
    cases e
    exact .bl b
  | int b =>
    cases e
    exact .int b
  | str b =>
    cases e
    exact .str b
  | _ => cases e
def scas : List PyData → Option (List V)
  | [] => some []
  | d :: ds => match sca d, scas ds with
    | some v, some vs => some (v :: vs)
    | _, _ => none
theorem DvAll.scas : ∀ {xs vs : List V} {ds : List PyData}, DvAll H xs ds → scas ds = some vs → xs = vs
  | _, _, _, .nil, e => Option.some.inj e
  | _, _, _, .cons (d := d) (ds := ds) h t, e => by
    unfold Lt.scas at e
    cases e1 : Lt.sca d with
    | none =>
      rw [e1] at e
      cases e
    | some v =>
      cases e2 : Lt.scas ds with
      | none =>
        rw [e1, e2] at e
        cases e
      | some vs =>
        rw [e1, e2] at e
        cases e
        rw [h.sca e1, DvAll.scas t e2]
theorem scas_ints (ks : List Int) : scas (ks.map PyData.int) = some (ks.map V.int) := by
  induction ks with
  | nil => rfl
  | cons k r ih =>
    rw [List.map_cons, List.map_cons]
    unfold scas
    rw [ih]
    rfl
theorem scas_strs (ks : List Str) : scas (ks.map PyData.str) = some (ks.map V.str) := by
  induction ks with
  | nil => rfl
  | cons k r ih =>
    rw [List.map_cons, List.map_cons]
    unfold scas
    rw [ih]
    rfl
theorem DvAll.intsEq {ks : List Int} (h : DvAll H xs (ks.map PyData.int)) : xs = ks.map V.int := h.scas (scas_ints ks)
theorem DvAll.strsEq {ks : List Str} (h : DvAll H xs (ks.map PyData.str)) : xs = ks.map V.str := h.scas (scas_strs ks)
/-- a list of data; one whose values are told -/
def isL (p : Addr) (ds : List PyData) : Asn := fun H => ∃ vs, H p = some (.lst vs) ∧ DvAll H vs ds
def isV (p : Addr) (vs : List V) (ds : List PyData) : Asn := fun H => H p = some (.lst vs) ∧ DvAll H vs ds
abbrev isI (p : Addr) (ks : List Int) : Asn := isL p (ks.map PyData.int)
abbrev isS (p : Addr) (ks : List Str) : Asn := isL p (ks.map PyData.str)
instance : Mono (isL p ds) := ⟨fun s ⟨vs, h1, h2⟩ => ⟨vs, s _ _ h1, h2.sub s⟩⟩
instance : Mono (isV p vs ds) := ⟨fun s ⟨h1, h2⟩ => ⟨s _ _ h1, h2.sub s⟩⟩
theorem Hs.openL (h : Hs (isL p ds :: L) H) : ∃ vs, Hs (isV p vs ds :: L) H := h.ex (A := fun vs => isV p vs ds)
theorem Hs.closeL (h : Hs (isV p vs ds :: L) H) : Hs (isL p ds :: L) H := h.weak fun _ a => ⟨vs, a⟩
theorem Hs.cellV (h : Hs (isV p vs ds :: L) H) : Hs (cell p (.lst vs) :: L) H ∧ DvAll H vs ds := ⟨h.weak fun _ a => a.1, h.hd.2⟩
theorem Hs.packV (h : Hs (cell p (.lst vs) :: L) H) (hd : DvAll H vs ds) : Hs (isV p vs ds :: L) H := h.pack fun _ _ h1 h2 => ⟨h1, hd.map h2⟩
theorem Hs.packL (h : Hs (cell p (.lst vs) :: L) H) (hd : DvAll H vs ds) : Hs (isL p ds :: L) H := (h.packV hd).closeL
theorem Hs.newL (n : H p = none) (h : Hs L H) (hd : DvAll H vs ds) : Hs (isL p ds :: L) (upd H p (.lst vs)) := (h.new n).packL (hd.sub (same_new n))
theorem Hs.putL {us : List V} {es : List PyData} (h : Hs (isL p ds :: L) H) (hd : DvAll H us es) : Hs (isL p es :: L) (upd H p (.lst us)) := by
  obtain ⟨vs, h⟩ := h.openL
  have hp := h.hd.1
  refine Hs.packL ((h.cellV.1).put fun xs z => by cases z) (hd.map fun a xs e => ?_)
  rw [upd_ne (ne_of e hp fun z => by cases z)]
  exact e
theorem Hs.newT (n : H p = none) (h : Hs L H) (hd : DvAll H vs ds) : Hs (dv (.ref p) (.tuple ds) :: L) (upd H p (.tup vs)) :=
  (h.sub (same_new n)).add (Dv.tup upd_same (hd.sub (same_new n)))
theorem Hs.ints {ks : List Int} (h : Hs (isI p ks :: L) H) : H p = some (.lst (ks.map V.int)) := by
  obtain ⟨vs, h1, h2⟩ := h.hd
  rw [h1, h2.intsEq]
end
end Lt
/-! the rules by pieces -/
namespace Lt
open PySem PySem.Spec PyProof.Rows L2
inductive HasL : List Asn → Addr → List PyData → Prop
  | l {L R : List Asn} {p : Addr} {ds : List PyData} : Pick L (isL p ds) R → HasL L p ds
  | v {L R : List Asn} {p : Addr} {vs : List V} {ds : List PyData} : Pick L (isV p vs ds) R → HasL L p ds
theorem HasL.there {A : Asn} {L : List Asn} {p : Addr} {ds : List PyData} (h : HasL L p ds) : HasL (A :: L) p ds := by
  cases h with
  | l k => exact .l (.there k)
  | v k => exact .v (.there k)
/-- an instance, its dict's address hidden -/
def obj (C a : Addr) (fs : List (Str × V)) : Asn := fun H => ∃ dx, H a = some (.ins C dx fs)
instance {C a : Addr} {fs : List (Str × V)} : Mono (obj C a fs) := ⟨fun s ⟨dx, h⟩ => ⟨dx, s _ _ h⟩⟩
/-- the bag -/
def isBag (b : Addr) (ns : List Int) : Asn := fun H => ∃ l, Bag H b l ns
instance {b : Addr} {ns : List Int} : Mono (isBag b ns) := ⟨fun s ⟨l, h⟩ => ⟨l, h.keep s⟩⟩
inductive Sel : List Asn → List Asn → Prop
  | nil {L : List Asn} : Sel L []
  | refl {L : List Asn} : Sel L L
  | cons {L R M : List Asn} {A : Asn} : Pick L A R → Sel R M → Sel L (A :: M)
  | drop {L M : List Asn} {A : Asn} : Sel L M → Sel (A :: L) M
theorem Sel.go {L M : List Asn} (s : Sel L M) : ∀ {H : Hp}, Hs L H → Hs M H := by
  induction s with
  | nil => exact fun _ => True.intro
  | refl => exact fun h => h
  | cons k s ih => exact fun h => Hs.under (fun _ z => ih z) (k.go h)
  | drop s ih => exact fun h => ih h.tl
section
variable {K : PySem.W.Frag} {L R R2 L' M : List Asn} {H : Hp} {Q : VK} {E : XK} {D : Ends} {σ : L2.St} {p q a b : Addr} {ds es : List PyData} {d : PyData} {v x y : V} {vs xs : List V} {ks js ns : List Int}
theorem HasL.at_ (k : HasL L p ds) (h : Hs L H) : ∃ vs, H p = some (.lst vs) ∧ DvAll H vs ds := by
  cases k with
  | l k => exact h.at_ k
  | v k => exact ⟨_, h.at_ k⟩
theorem HasL.ints (k : HasL L p (ks.map PyData.int)) (h : Hs L H) : H p = some (.lst (ks.map V.int)) := by
  obtain ⟨vs, h1, h2⟩ := k.at_ h
  rw [h1, h2.intsEq]
theorem HasL.strs {ks : List Str} (k : HasL L p (ks.map PyData.str)) (h : Hs L H) : H p = some (.lst (ks.map V.str)) := by
  obtain ⟨vs, h1, h2⟩ := k.at_ h
  rw [h1, h2.strsEq]
theorem Hs.dvAt (h : Hs L H) (k : Pick L (dv x d) R) : Dv H x d := h.at_ k
theorem Dv.tupOf {ds : List PyData} (h : Dv H x (.tuple ds)) : ∃ t xs, x = .ref t ∧ H t = some (.tup xs) ∧ DvAll H xs ds := by
  cases h with
  | tup h t => exact ⟨_, _, rfl, h, t⟩
/-! the bag -/
theorem Hs.bag (h : Hs (isBag b ns :: L) H) : ∃ l, Bag H b l ns ∧ ∀ H', SameB b H H' → Bag H' b l ns → Hs (isBag b ns :: L) H' := by
  obtain ⟨H1, H2, s1, s2, d, ⟨l, i, r, z, h0, h1, h2, h3⟩, h⟩ := h
  refine ⟨l, ⟨i, r, z, h0, s1 _ _ h1, s1 _ _ h2, h3⟩, fun H' s hb => ?_⟩
  obtain ⟨i', r', z', g0, g1, g2, g3⟩ := hb
  have n2 : H2 b = none := by
    rcases d b _ h1 with z | ⟨_, z⟩
    · exact z
    · cases z
  have n3 : H2 l = none := by
    rcases d l _ h2 with z | ⟨_, z⟩
    · exact z
    · cases z
  have sb := solo_le g1
  have sl := solo_le g2
  refine ⟨un (solo b (.lst [.ref l, .int i', .int r', .int z'])) (solo l (.lst (ns.map V.int))), H2, un_le sb sl, fun c o hc => s c o (ne_of_none hc n2) (s2 c o hc), fun c o hc => ?_, ⟨l, i', r', z', g0, un_l _ _ solo_at, un_r sb sl _ _ solo_at, g3⟩, h⟩
  unfold un at hc
  cases e : solo b (.lst [.ref l, .int i', .int r', .int z']) c with
  | some u =>
    obtain ⟨rfl, _⟩ := solo_of e
    exact .inl n2
  | none =>
    rw [e] at hc
    obtain ⟨rfl, rfl⟩ := solo_of hc
    exact .inl n3
theorem Hs.bagNew {l : Addr} {H' : Hp} (h : Hs L H) (s : Same H H') (nb : H b = none) (nl : H l = none) (hb : Bag H' b l ns) : Hs (isBag b ns :: L) H' := by
  obtain ⟨i, r, z, g0, g1, g2, g3⟩ := hb
  have sb := solo_le g1
  have sl := solo_le g2
  refine ⟨un (solo b (.lst [.ref l, .int i, .int r, .int z])) (solo l (.lst (ns.map V.int))), H, un_le sb sl, s, fun c o hc => ?_, ⟨l, i, r, z, g0, un_l _ _ solo_at, un_r sb sl _ _ solo_at, g3⟩, h⟩
  unfold un at hc
  cases e : solo b (.lst [.ref l, .int i, .int r, .int z]) c with
  | some u =>
    obtain ⟨rfl, _⟩ := solo_of e
    exact .inl nb
  | none =>
    rw [e] at hc
    obtain ⟨rfl, rfl⟩ := solo_of hc
    exact .inl nl
/-! rules: any wish that a reading brings -/
section
variable {X : Cx} {e : Expr} {es : List Expr} {t t' : TE} {u : TA} {pos : Pos}
theorem weakPE (h : PE X e t) (f : ∀ σ H Q, t' σ H Q → t σ H Q) : PE X e t' := ⟨fun pins s σ H Q I z => h.run pins s σ H Q I (f σ H Q z)⟩
def mcA (u : TA) : TA := fun σ H Q => ∃ Q0, u σ H Q0 ∧ ∀ xs H, Q0 xs H → Q xs H
theorem mcPA (h : PA X es u) : PA X es (mcA u) := ⟨fun pos pins s σ H Q I ⟨Q0, z, f⟩ => thn (h.run pos pins s σ H Q0 I z) fun us s' ⟨xs, H', I', r, q⟩ => ⟨xs, H', I', r, f _ _ q⟩⟩
def mcE (t : TE) : TE := fun σ H Q => ∃ Q0, t σ H Q0 ∧ ∀ x H, Q0 x H → Q x H
theorem mcPE (h : PE X e t) : PE X e (mcE t) := ⟨fun pins s σ H Q I ⟨Q0, z, f⟩ => thn (h.run pins s σ H Q0 I z) fun us s' ⟨xs, H', I', r, q⟩ => ⟨xs, H', I', r, f _ _ q⟩⟩
def sLst (u : TA) : TE := fun σ H Q => u σ H fun xs H1 => ∃ L ds, Hs L H1 ∧ DvAll H1 xs ds ∧ xs.length ≤ 100000 ∧ ∀ p H', Hs (isL p ds :: L) H' → Q (.ref p) H'
def sLstC (u : TA) : TE := fun σ H Q => u σ H fun xs H1 => ∃ L, Hs L H1 ∧ xs.length ≤ 100000 ∧ ∀ p H', Hs (cell p (.lst xs) :: L) H' → Q (.ref p) H'
def sTup (u : TA) : TE := fun σ H Q => u σ H fun xs H1 => ∃ L ds, Hs L H1 ∧ DvAll H1 xs ds ∧ xs.length ≤ 100000 ∧ ∀ p H', Hs (dv (.ref p) (.tuple ds) :: L) H' → Q (.ref p) H'
def sTupC (u : TA) : TE := fun σ H Q => u σ H fun xs H1 => ∃ L, Hs L H1 ∧ xs.length ≤ 100000 ∧ ∀ p H', Hs (cell p (.tup xs) :: L) H' → Q (.ref p) H'
theorem le_line {n : Nat} (h : n ≤ 100000) : n ≤ sizeLine := Nat.le_trans h (by decide)
theorem lt_line {n : Nat} (h : n ≤ 100000) : n < sizeLine := Nat.lt_of_le_of_lt h (by decide)
theorem pe_lstS (h : PA X es u) : PE X (.List es pos) (sLst u) := weakPE (pe_lst (mcPA h)) fun σ H Q z => ⟨_, z, fun xs H1 ⟨L, ds, hS, hd, hl, q⟩ => ⟨le_line hl, fun p np => q p _ (hS.newL np hd)⟩⟩
theorem pe_lstC (h : PA X es u) : PE X (.List es pos) (sLstC u) := weakPE (pe_lst (mcPA h)) fun σ H Q z => ⟨_, z, fun xs H1 ⟨L, hS, hl, q⟩ => ⟨le_line hl, fun p np => q p _ (hS.new np)⟩⟩
theorem pe_tupS {x1} (h : PA X es u) : PE X (.Tuple es x1 pos) (sTup u) := weakPE (pe_tup (mcPA h)) fun σ H Q z => ⟨_, z, fun xs H1 ⟨L, ds, hS, hd, hl, q⟩ => ⟨le_line hl, fun p np => q p _ (hS.newT np hd)⟩⟩
theorem pe_tupC {x1} (h : PA X es u) : PE X (.Tuple es x1 pos) (sTupC u) := weakPE (pe_tup (mcPA h)) fun σ H Q z => ⟨_, z, fun xs H1 ⟨L, hS, hl, q⟩ => ⟨le_line hl, fun p np => q p _ (hS.new np)⟩⟩
/-- list(range(..)) -/
def sLstRg (tr : L2.St → Hp → (Int → Int → Hp → Prop) → Prop) : TE := fun σ H Q => tr σ H fun a b H1 => ∃ L, Hs L H1 ∧ RgOk a b ∧ ∀ p H', Hs (isL p ((rgI a (b - a)).map PyData.int) :: L) H' → Q (.ref p) H'
theorem pe_listRgS {te : L2.St → Hp → (Int → Int → Hp → Prop) → Prop} {p pos : Pos} (hc : X.calm = true) (hg : Gl X "list") (hm : X.mg "list" = none) (he : PRg X e te) (na : starEach [e] X.env = (false, eval e X.env) :: starEach [] X.env := by rfl) : PE X (.Call (.Name "list" p) [e] [] pos) (sLstRg te) := by
  have he' : PRg X e (fun σ H R => ∃ R0, te σ H R0 ∧ ∀ a b H, R0 a b H → R a b H) := by
    intro pins s σ H R I ⟨R0, z, f⟩
    refine thn (he pins s σ H R0 I z) fun x s' hx => ?_
    obtain ⟨r, a, b, t, u, v, H1, ex, hr, I1, q⟩ := hx
    exact ⟨r, a, b, t, u, v, H1, ex, hr, I1, f _ _ _ q⟩
  refine weakPE (pe_listRg hc hg hm he' na) fun σ H Q z => ⟨_, z, fun a b H1 ⟨L, hS, hr, q⟩ => ⟨hr, fun p np => q p _ ?_⟩⟩
  rw [rgV_eq]
  exact hS.newL np (DvAll.ints _)
/-- xs[::-1] -/
def sRevL (K : PySem.W.Frag) (te : TE) : TE := fun σ H Q => te σ H fun x H1 => ∃ a L ds, x = .ref a ∧ Hs L H1 ∧ HasL L a ds ∧ ∀ p H', Hs (isL p ds.reverse :: L) H' → Q (.ref p) H'
theorem pe_revLS {te : TE} {k : Nat} {p1 p2 p3 pos : Pos} (he : PE X e te) : PE X (.Subscript e (.Slice none none (some (.UnaryOp .USub (.Constant (.int 1) k p1) p2)) p3) pos) (sRevL X.K te) := weakPE (pe_revL (mcPE he)) fun σ H Q z => ⟨_, z, fun x H1 ⟨a, L, ds, e, hS, k, q⟩ => by
  obtain ⟨vs, h1, h2⟩ := k.at_ hS
  exact ⟨a, vs, e, SqL.of h1, fun p np => q p _ (hS.newL np h2.rev)⟩⟩
/-- C(..) -/
def sMake (C : Addr) (sp : Sp) (dvs : List V) (E : XK) (t : TA) : TE := fun σ H Q => t σ H fun vs H1 => ∃ L, Hs L H1 ∧ ∀ x H', Hs (obj C x [] :: L) H' → sp (.ref x :: (vs ++ dvs)) H' (fun v H2 => v = .non ∧ Q (.ref x) H2) E
theorem make_new {C x dx : Addr} (hS : Hs L H) (nx : H x = none) (nd : H dx = none) (ne : dx ≠ x) : Hs (obj C x [] :: L) (upd (upd H dx (.own x)) x (.ins C dx [])) := by
  have n2 : upd H dx (.own x) x = none := by
    rw [upd_ne ne.symm]
    exact nx
  exact ((hS.sub (same_new nd)).new n2).weak fun _ a => ⟨dx, a⟩
/-- e.f = value -/
def sFldS (K : PySem.W.Frag) (ta tv : TE) (f : Str) : TS := fun D σ H => tv σ H fun y H1 => ta σ H1 fun x H2 => ∃ a C fs L R, x = .ref a ∧ Hs L H2 ∧ Pick L (obj C a fs) R ∧ Cls K C ∧ NoAttr K C f ∧ fs.length < 1000 ∧ ∀ H', Hs (obj C a (putF f y fs) :: R) H' → D.nx σ H'
theorem ps_fldS {o value : Expr} {f : Str} {pos' pos : Pos} {ta tv : TE} (ha : PE X o ta) (hv : PE X value tv) (hs : swapsWith value (some (.Attribute o f pos')) pos.line X.env = pure false) : PS X (.Assign [.Attribute o f pos'] value pos) (sFldS X.K ta tv f) := by
  refine ⟨fun pins s σ H D I h => (ps_fld (mcPE ha) (mcPE hv) hs).run pins s σ H D I ⟨_, h, fun y H1 z => ⟨_, z, fun x H2 z2 => ?_⟩⟩⟩
  obtain ⟨a, C, fs, L, R, e, hS, k, c, n, l, q⟩ := z2
  have h1 := k.go hS
  obtain ⟨dx, h2⟩ := Hs.ex (A := fun dx => cell a (.ins C dx fs)) h1
  exact ⟨a, C, dx, fs, e, h2.hd, c, n, l, q _ ((h2.put (fun _ z => by cases z)).weak fun _ z => ⟨dx, z⟩)⟩
end
end
end Lt
/-! loops by pieces: the word speaks of the slots and of the pieces beside what is walked -/
namespace Lt
open PySem PySem.Spec PyProof.Rows L2
section
variable {K : PySem.W.Frag} {L R L0 R0 : List Asn} {H : Hp} {Q : VK} {σ : L2.St} {a : Addr} {ds : List PyData} {ks : List Int} {α : Type} {f : α → PyData} {xs : List α} {g : TG} {tb : TS} {Nx : L2.St → Hp → Prop} {R1 : VK}
def LpP (A : Asn) (P : Nat → L2.St → List Asn → Prop) (i : Nat) (σ : L2.St) (H : Hp) : Prop := ∃ L, P i σ L ∧ Hs (A :: L) H
def LpR (P : Nat → L2.St → List Asn → Prop) (i : Nat) (σ : L2.St) (H : Hp) : Prop := ∃ L, P i σ L ∧ Hs L H
/-- for x in a list of data -/
theorem s_forL (P : Nat → L2.St → List Asn → Prop) (hS : Hs L0 H) (k : Pick L0 (isL a (xs.map f)) R0) (h0 : P 0 σ R0)
    (hs : ∀ i x y vs σ H L, xs[i]? = some x → P i σ L → Hs (dv y (f x) :: isV a vs (xs.map f) :: L) H → g y σ H fun σ2 H2 => tb { nx := LpP (isV a vs (xs.map f)) P (i + 1), rt := R1, bk := Nx, ct := LpP (isV a vs (xs.map f)) P (i + 1) } σ2 H2)
    (hd : ∀ σ H L, P xs.length σ L → Hs (isL a (xs.map f) :: L) H → Nx σ H) :
    (∃ xs, SqL K H a xs) ∧ ∃ W : Nat → Nat → L2.St → Hp → Prop, (∃ m, W 0 m σ H) ∧ ∀ i m σ H, W i m σ H →
      ((Itl K a).stop i H ∧ Nx σ H) ∨ ((Itl K a).go i H ∧ ∃ N : L2.St → Hp → Prop, (∀ σ' H', N σ' H' → ∃ m', m' < m ∧ W (i + 1) m' σ' H') ∧ ∀ x H', (Itl K a).yld i H x H' → g x σ H' fun σ2 H2 => tb { nx := N, rt := R1, bk := Nx, ct := N } σ2 H2) := by
  obtain ⟨vs, h⟩ := (k.go hS).openL
  have hl := h.hd.2.length
  refine k_inL (K := K) (a := a) (xs := vs) (LpP (isV a vs (xs.map f)) P) (SqL.of h.hd.1) ⟨_, h0, h⟩ (fun i σ H _ ⟨L, _, h⟩ => SqL.of h.hd.1) (fun i y σ H hx ⟨L, hP, h⟩ => ?_) (fun σ H ⟨L, hP, h⟩ => ?_)
  · obtain ⟨d, e, hd⟩ := h.hd.2.get hx
    rw [List.getElem?_map] at e
    cases e1 : xs[i]? with
    | none =>
      rw [e1] at e
      cases e
    | some x =>
      rw [e1] at e
      have e2 : f x = d := Option.some.inj e
      rw [← e2] at hd
      exact hs i x y vs σ H L e1 hP (h.add (A := dv y (f x)) hd)
  · rw [hl, List.length_map] at hP
    exact hd σ H L hP h.closeL
/-- for k in a list of whole numbers -/
theorem s_forI (P : Nat → L2.St → List Asn → Prop) (hS : Hs L0 H) (k : Pick L0 (isL a (ks.map PyData.int)) R0) (h0 : P 0 σ R0)
    (hs : ∀ i k σ H L, ks[i]? = some k → P i σ L → Hs (isL a (ks.map PyData.int) :: L) H → g (.int k) σ H fun σ2 H2 => tb { nx := LpP (isL a (ks.map PyData.int)) P (i + 1), rt := R1, bk := Nx, ct := LpP (isL a (ks.map PyData.int)) P (i + 1) } σ2 H2)
    (hd : ∀ σ H L, P ks.length σ L → Hs (isL a (ks.map PyData.int) :: L) H → Nx σ H) :
    (∃ xs, SqL K H a xs) ∧ ∃ W : Nat → Nat → L2.St → Hp → Prop, (∃ m, W 0 m σ H) ∧ ∀ i m σ H, W i m σ H →
      ((Itl K a).stop i H ∧ Nx σ H) ∨ ((Itl K a).go i H ∧ ∃ N : L2.St → Hp → Prop, (∀ σ' H', N σ' H' → ∃ m', m' < m ∧ W (i + 1) m' σ' H') ∧ ∀ x H', (Itl K a).yld i H x H' → g x σ H' fun σ2 H2 => tb { nx := N, rt := R1, bk := Nx, ct := N } σ2 H2) := by
  have h := k.go hS
  refine k_inL (K := K) (a := a) (xs := ks.map V.int) (LpP (isL a (ks.map PyData.int)) P) (SqL.of h.ints) ⟨_, h0, h⟩ (fun i σ H _ ⟨L, _, h⟩ => SqL.of h.ints) (fun i y σ H hx ⟨L, hP, h⟩ => ?_) (fun σ H ⟨L, hP, h⟩ => ?_)
  · obtain ⟨k, rfl, hk⟩ := int_at hx
    exact hs i k σ H L hk hP h
  · rw [List.length_map] at hP
    exact hd σ H L hP h
/-- for i in range(..) -/
theorem s_forR {lo : Int} {n : Nat} (P : Nat → L2.St → List Asn → Prop) (hS : Hs L0 H) (h0 : P 0 σ L0)
    (hs : ∀ i σ H L, i < n → P i σ L → Hs L H → g (.int (lo + (i : Nat))) σ H fun σ2 H2 => tb { nx := LpR P (i + 1), rt := R1, bk := Nx, ct := LpR P (i + 1) } σ2 H2)
    (hd : ∀ σ H L, P n σ L → Hs L H → Nx σ H) :
    ∃ W : Nat → Nat → L2.St → Hp → Prop, (∃ m, W 0 m σ H) ∧ ∀ i m σ H, W i m σ H →
      ((Itr lo n).stop i H ∧ Nx σ H) ∨ ((Itr lo n).go i H ∧ ∃ N : L2.St → Hp → Prop, (∀ σ' H', N σ' H' → ∃ m', m' < m ∧ W (i + 1) m' σ' H') ∧ ∀ x H', (Itr lo n).yld i H x H' → g x σ H' fun σ2 H2 => tb { nx := N, rt := R1, bk := Nx, ct := N } σ2 H2) :=
  k_inR (LpR P) ⟨_, h0, hS⟩ (fun i σ H hi ⟨L, hP, h⟩ => hs i σ H L hi hP h) (fun σ H ⟨L, hP, h⟩ => hd σ H L hP h)
/-! comprehensions: acc is what stands in the new list -/
def LcS (A : List Asn) (P : Nat → List PyData → List Asn → Prop) (D : Addr) (i : Nat) (H : Hp) : Prop := ∃ L acc, P i acc L ∧ acc.length ≤ i ∧ Hs (isL D acc :: (A ++ L)) H
theorem lc_add {Pv : Nat → Hp → Prop} {D : Addr} {acc : List PyData} {y : V} {d : PyData} (hS : Hs L H) (k : Pick L (isL D acc) R) (hv : Dv H y d) (hl : acc.length ≤ 100000) (h : ∀ H', Hs (isL D (acc ++ [d]) :: R) H' → Pv 0 H') :
    ∃ us, H D = some (.lst us) ∧ us.length < sizeLine ∧ Pv 0 (upd H D (.lst (us ++ [y]))) := by
  have h1 := k.go hS
  obtain ⟨us, h2⟩ := h1.openL
  have h3 := h2.hd
  refine ⟨us, h3.1, lt_line (by rw [h3.2.length]; exact hl), h _ (h1.putL (h3.2.append (.cons hv .nil)))⟩
section
variable {vs : List Nat} {tt : TT} {te : TE} {Qd : Addr → Hp → Prop} {A : List Asn}
/-- the end of a turn that keeps an item -/
theorem lc_put {P : Nat → List PyData → List Asn → Prop} {D : Addr} {acc : List PyData} {y : V} {d : PyData} {i : Nat} (hS : Hs L H) (k : Pick L (isL D acc) R) (hv : Dv H y d) (hl : acc.length ≤ i) (hi : i < 100000) (h : ∃ L', P (i + 1) (acc ++ [d]) L' ∧ Sel R (A ++ L')) :
    ∃ us, H D = some (.lst us) ∧ us.length < sizeLine ∧ LcS A P D (i + 1) (upd H D (.lst (us ++ [y]))) := by
  have h1 := k.go hS
  obtain ⟨us, h2⟩ := h1.openL
  have h3 := h2.hd
  obtain ⟨L', hP, hs⟩ := h
  exact ⟨us, h3.1, lt_line (by rw [h3.2.length]; omega), L', _, hP, by rw [List.length_append, List.length_singleton]; omega, Hs.under (fun _ z => hs.go z) (h1.putL (h3.2.append (.cons hv .nil)))⟩
theorem lc_non {P : Nat → List PyData → List Asn → Prop} {D : Addr} {acc : List PyData} {i : Nat} (hS : Hs L H) (k : Pick L (isL D acc) R) (hl : acc.length ≤ i) (h : ∃ L', P (i + 1) acc L' ∧ Sel R (A ++ L')) : LcS A P D (i + 1) H := by
  obtain ⟨L', hP, hs⟩ := h
  exact ⟨L', _, hP, by omega, Hs.under (fun _ z => hs.go z) (k.go hS)⟩
theorem s_lcL (P : Nat → List PyData → List Asn → Prop) (hS : Hs L0 H) (k : Pick L0 (isL a (xs.map f)) R0) (h0 : P 0 [] R0)
    (hs : ∀ D i x y acc us H' L, xs[i]? = some x → P i acc L → acc.length ≤ i → Hs (dv y (f x) :: isL D acc :: isV a us (xs.map f) :: L) H' → g y (wipe σ vs) H' fun σ2 H2 => wipe σ2 vs = wipe σ vs ∧ tt σ2 H2 fun b H3 =>
      if b = true then te σ2 H3 fun y H4 => ∃ acc, H4 D = some (.lst acc) ∧ acc.length < sizeLine ∧ LcS [isV a us (xs.map f)] P D (i + 1) (upd H4 D (.lst (acc ++ [y]))) else LcS [isV a us (xs.map f)] P D (i + 1) H3)
    (h : ∀ D acc H' L, P xs.length acc L → acc.length ≤ xs.length → Hs (isL D acc :: isL a (xs.map f) :: L) H' → Qd D H') :
    (∃ xs, SqL K H a xs) ∧ ∀ D, H D = none → ∃ W : Nat → Nat → Hp → Prop, (∃ m, W 0 m (upd H D (.lst []))) ∧ ∀ i m H, W i m H →
      ((Itl K a).stop i H ∧ Qd D H) ∨ ((Itl K a).go i H ∧ ∃ Nx : Hp → Prop, (∀ H', Nx H' → ∃ m', m' < m ∧ W (i + 1) m' H') ∧ ∀ x H', (Itl K a).yld i H x H' → g x (wipe σ vs) H' fun σ2 H2 => wipe σ2 vs = wipe σ vs ∧ tt σ2 H2 fun b H3 =>
        if b = true then te σ2 H3 fun y H4 => ∃ acc, H4 D = some (.lst acc) ∧ acc.length < sizeLine ∧ Nx (upd H4 D (.lst (acc ++ [y]))) else Nx H3) := by
  obtain ⟨us, h1⟩ := (k.go hS).openL
  have hl := h1.hd.2.length
  rw [List.length_map] at hl
  refine ⟨⟨us, SqL.of h1.hd.1⟩, fun D nD => lc_it (Qd := Qd D) (walk_list (K := K) (a := a) (xs := us)) (LcS [isV a us (xs.map f)] P D) ⟨R0, [], h0, Nat.le_refl _, h1.newL nD .nil⟩ (fun i H' _ hp => ?_) (fun i x H1 H' hi hp hy => ?_) fun H' hp => ?_⟩
  · obtain ⟨L, acc, _, _, z⟩ := hp
    exact SqL.of z.tl.hd.1
  · obtain ⟨L, acc, hP, hal, z⟩ := hp
    obtain ⟨rfl, hx⟩ := hy
    obtain ⟨d, e, hd⟩ := z.tl.hd.2.get hx
    rw [List.getElem?_map] at e
    cases e1 : xs[i]? with
    | none =>
      rw [e1] at e
      cases e
    | some w =>
      rw [e1] at e
      have e2 : f w = d := Option.some.inj e
      rw [← e2] at hd
      exact hs D i w x acc us _ L e1 hP hal (z.add (A := dv x (f w)) hd)
  · obtain ⟨L, acc, hP, hal, z⟩ := hp
    rw [hl] at hP hal
    exact h D acc H' L hP hal (Hs.under (fun _ z => z.closeL) z)
theorem s_lcI (P : Nat → List PyData → List Asn → Prop) (hS : Hs L0 H) (k : Pick L0 (isL a (ks.map PyData.int)) R0) (h0 : P 0 [] R0)
    (hs : ∀ D i k acc H' L, ks[i]? = some k → P i acc L → acc.length ≤ i → Hs (isL D acc :: isL a (ks.map PyData.int) :: L) H' → g (.int k) (wipe σ vs) H' fun σ2 H2 => wipe σ2 vs = wipe σ vs ∧ tt σ2 H2 fun b H3 =>
      if b = true then te σ2 H3 fun y H4 => ∃ acc, H4 D = some (.lst acc) ∧ acc.length < sizeLine ∧ LcS [isL a (ks.map PyData.int)] P D (i + 1) (upd H4 D (.lst (acc ++ [y]))) else LcS [isL a (ks.map PyData.int)] P D (i + 1) H3)
    (h : ∀ D acc H' L, P ks.length acc L → acc.length ≤ ks.length → Hs (isL D acc :: isL a (ks.map PyData.int) :: L) H' → Qd D H') :
    (∃ xs, SqL K H a xs) ∧ ∀ D, H D = none → ∃ W : Nat → Nat → Hp → Prop, (∃ m, W 0 m (upd H D (.lst []))) ∧ ∀ i m H, W i m H →
      ((Itl K a).stop i H ∧ Qd D H) ∨ ((Itl K a).go i H ∧ ∃ Nx : Hp → Prop, (∀ H', Nx H' → ∃ m', m' < m ∧ W (i + 1) m' H') ∧ ∀ x H', (Itl K a).yld i H x H' → g x (wipe σ vs) H' fun σ2 H2 => wipe σ2 vs = wipe σ vs ∧ tt σ2 H2 fun b H3 =>
        if b = true then te σ2 H3 fun y H4 => ∃ acc, H4 D = some (.lst acc) ∧ acc.length < sizeLine ∧ Nx (upd H4 D (.lst (acc ++ [y]))) else Nx H3) := by
  have h1 := k.go hS
  refine ⟨⟨_, SqL.of h1.ints⟩, fun D nD => lc_it (Qd := Qd D) (walk_list (K := K) (a := a) (xs := ks.map V.int)) (LcS [isL a (ks.map PyData.int)] P D) ⟨R0, [], h0, Nat.le_refl _, h1.newL nD .nil⟩ (fun i H' _ hp => ?_) (fun i x H1 H' hi hp hy => ?_) fun H' hp => ?_⟩
  · obtain ⟨L, acc, _, _, z⟩ := hp
    exact SqL.of (Hs.ints z.tl)
  · obtain ⟨L, acc, hP, hal, z⟩ := hp
    obtain ⟨rfl, hx⟩ := hy
    obtain ⟨k, rfl, hk⟩ := int_at hx
    exact hs D i k acc _ L hk hP hal z
  · obtain ⟨L, acc, hP, hal, z⟩ := hp
    rw [List.length_map] at hP hal
    exact h D acc H' L hP hal z
theorem s_lcR {lo : Int} {n : Nat} (P : Nat → List PyData → List Asn → Prop) (hS : Hs L0 H) (h0 : P 0 [] L0)
    (hs : ∀ D i acc H' L, i < n → P i acc L → acc.length ≤ i → Hs (isL D acc :: L) H' → g (.int (lo + (i : Nat))) (wipe σ vs) H' fun σ2 H2 => wipe σ2 vs = wipe σ vs ∧ tt σ2 H2 fun b H3 =>
      if b = true then te σ2 H3 fun y H4 => ∃ acc, H4 D = some (.lst acc) ∧ acc.length < sizeLine ∧ LcS [] P D (i + 1) (upd H4 D (.lst (acc ++ [y]))) else LcS [] P D (i + 1) H3)
    (h : ∀ D acc H' L, P n acc L → acc.length ≤ n → Hs (isL D acc :: L) H' → Qd D H') :
    ∀ D, H D = none → ∃ W : Nat → Nat → Hp → Prop, (∃ m, W 0 m (upd H D (.lst []))) ∧ ∀ i m H, W i m H →
      ((Itr lo n).stop i H ∧ Qd D H) ∨ ((Itr lo n).go i H ∧ ∃ Nx : Hp → Prop, (∀ H', Nx H' → ∃ m', m' < m ∧ W (i + 1) m' H') ∧ ∀ x H', (Itr lo n).yld i H x H' → g x (wipe σ vs) H' fun σ2 H2 => wipe σ2 vs = wipe σ vs ∧ tt σ2 H2 fun b H3 =>
        if b = true then te σ2 H3 fun y H4 => ∃ acc, H4 D = some (.lst acc) ∧ acc.length < sizeLine ∧ Nx (upd H4 D (.lst (acc ++ [y]))) else Nx H3) := by
  refine fun D nD => lc_it (Qd := Qd D) (walk_range (lo := lo) (n := n)) (LcS [] P D) ⟨_, [], h0, Nat.le_refl _, hS.newL nD .nil⟩ (fun _ _ _ _ => True.intro) (fun i x H1 H' hi hp hy => ?_) fun H' hp => ?_
  · obtain ⟨L, acc, hP, hal, z⟩ := hp
    obtain ⟨rfl, rfl⟩ := hy
    exact hs D i acc _ L hi hP hal z
  · obtain ⟨L, acc, hP, hal, z⟩ := hp
    exact h D acc H' L hP hal z
end
end
end Lt
namespace Lt
open PySem PySem.Spec PyProof.Rows L2
section
variable {α : Type} {L R R0 A L' : List Asn} {H : Hp} {D : Addr} {acc : List PyData} {y : V} {i : Nat} {x : α} {xs : List α} {p : α → Bool} {e : α → PyData}
/-- [e x for x in xs if p x], nothing else changes -/
def Fm (xs : List α) (p : α → Bool) (e : α → PyData) (R0 : List Asn) : Nat → List PyData → List Asn → Prop := fun i acc L' => acc = ((xs.take i).filter p).map e ∧ L' = R0
theorem Fm.start : Fm xs p e R0 0 [] R0 := ⟨rfl, rfl⟩
theorem Fm.all {n : Nat} (h : Fm xs p e R0 n acc L') (hn : n = xs.length) : acc = (xs.filter p).map e ∧ L' = R0 := by
  obtain ⟨h1, h2⟩ := h
  rw [hn, List.take_length] at h1
  exact ⟨h1, h2⟩
theorem lc_putF (h : Fm xs p e R0 i acc L') (hx : xs[i]? = some x) (hp : p x = true) (hS : Hs L H) (k : Pick L (isL D acc) R) (hl : acc.length ≤ i) (hi : i < 100000) (hv : Dv H y (e x)) (hs : Sel R (A ++ R0)) :
    ∃ us, H D = some (.lst us) ∧ us.length < sizeLine ∧ LcS A (Fm xs p e R0) D (i + 1) (upd H D (.lst (us ++ [y]))) := by
  refine lc_put hS k hv hl hi ⟨R0, ⟨?_, rfl⟩, hs⟩
  rw [h.1, take_snoc hx, List.filter_append, List.map_append]
  congr 1
  show [e x] = ([x].filter p).map e
  rw [List.filter_cons_of_pos hp]
  rfl
theorem lc_nonF (h : Fm xs p e R0 i acc L') (hx : xs[i]? = some x) (hp : p x = false) (hS : Hs L H) (k : Pick L (isL D acc) R) (hl : acc.length ≤ i) (hs : Sel R (A ++ R0)) : LcS A (Fm xs p e R0) D (i + 1) H := by
  refine lc_non hS k hl ⟨R0, ⟨?_, rfl⟩, hs⟩
  rw [h.1, take_snoc hx, List.filter_append, List.map_append]
  have z : [x].filter p = [] := List.filter_cons_of_neg (by rw [hp]; decide)
  rw [z, List.map_nil, List.append_nil]
theorem filter_true (xs : List α) : xs.filter (fun _ => true) = xs := List.filter_eq_self.mpr fun _ _ => rfl
end
end Lt
/-! readings by pieces: lists, tuples, fields -/
namespace Lt
open PySem PySem.Spec PyProof.Rows L2
def cutD {α : Type} (xs : List α) (lo hi : Option Int) : List α := (xs.drop (HT.sIx xs.length 0 lo)).take (HT.sIx xs.length xs.length hi - HT.sIx xs.length 0 lo)
theorem cutV_D (xs : List V) (lo hi : Option Int) : cutV xs lo hi = cutD xs lo hi := rfl
theorem cutD_map {α β : Type} (f : α → β) (xs : List α) (lo hi : Option Int) : cutD (xs.map f) lo hi = (cutD xs lo hi).map f := by
  unfold cutD
  rw [List.length_map, List.map_take, List.map_drop]
theorem cutD_drop {α : Type} (xs : List α) (n : Nat) : cutD xs (some (n : Int)) none = xs.drop n := by
  unfold cutD
  rw [HT.sIx_none, show HT.sIx xs.length 0 (some (n : Int)) = min n xs.length from HT.sIx_nat _ _ n]
  by_cases h : n ≤ xs.length
  · rw [Nat.min_eq_left h, List.take_of_length_le (by rw [List.length_drop]; omega)]
  · rw [Nat.min_eq_right (by omega), List.drop_eq_nil_of_le (Nat.le_refl _), List.take_nil, List.drop_eq_nil_of_le (by omega)]
theorem cutD_take {α : Type} (xs : List α) (n : Nat) : cutD xs none (some (n : Int)) = xs.take n := by
  unfold cutD
  rw [HT.sIx_none, show HT.sIx xs.length xs.length (some (n : Int)) = min n xs.length from HT.sIx_nat _ _ n, List.drop_zero, Nat.sub_zero]
  by_cases h : n ≤ xs.length
  · rw [Nat.min_eq_left h]
  · rw [Nat.min_eq_right (by omega), List.take_length, List.take_of_length_le (by omega)]
theorem cutD_takeI {α : Type} (xs : List α) {n : Int} (h : 0 ≤ n) : cutD xs none (some n) = xs.take n.toNat := by
  have e := cutD_take xs n.toNat
  rw [Int.toNat_of_nonneg h] at e
  exact e
theorem cutD_dropI {α : Type} (xs : List α) {n : Int} (h : 0 ≤ n) : cutD xs (some n) none = xs.drop n.toNat := by
  have e := cutD_drop xs n.toNat
  rw [Int.toNat_of_nonneg h] at e
  exact e
/-- sorted whole numbers -/
def sortI (ks : List Int) : List Int := ks.mergeSort fun a b => decide (a ≤ b)
theorem sortI_perm (ks : List Int) : (sortI ks).Perm ks := List.mergeSort_perm _ _
theorem sortI_asc (ks : List Int) : (sortI ks).Pairwise (· ≤ ·) := by
  have h := List.pairwise_mergeSort (le := fun a b : Int => decide (a ≤ b)) (fun a b c h1 h2 => by simp at *; omega) (fun a b => by simp; omega) ks
  exact h.imp fun z => by simpa using z
theorem sort_one {xs ys : List Int} (p : xs.Perm ys) (h1 : xs.Pairwise (· ≤ ·)) (h2 : ys.Pairwise (· ≤ ·)) : xs = ys := by
  exact p.eq_of_pairwise (le := (· ≤ ·)) (fun a b _ _ h1 h2 => Int.le_antisymm h1 h2) h1 h2
theorem sortI_eq {ks ns : List Int} (p : ns.Perm ks) (h : ns.Pairwise (· ≤ ·)) : ns = sortI ks := sort_one (p.trans (sortI_perm ks).symm) h (sortI_asc ks)
section
variable {K : PySem.W.Frag} {L R R2 L' M : List Asn} {H : Hp} {Q : VK} {E : XK} {D : Ends} {σ : L2.St} {p q a b : Addr} {ds es : List PyData} {d e : PyData} {v x y : V} {vs xs : List V} {ks js ns : List Int} {i : Int}
theorem DvAll.getI (h : DvAll H xs ds) (e : atI ds i = some d) : ∃ x, atI xs i = some x ∧ Dv H x d := by
  unfold atI at e ⊢
  rw [h.length]
  cases h1 : ixN ds.length i with
  | none =>
    rw [h1] at e
    cases e
  | some j =>
    rw [h1] at e
    obtain ⟨x, h2, h3⟩ := h.get2 (i := j) e
    exact ⟨x, h2, h3⟩
theorem DvAll.cut (h : DvAll H xs ds) (lo hi : Option Int) : DvAll H (cutV xs lo hi) (cutD ds lo hi) := by
  rw [cutV_D]
  unfold cutD
  rw [h.length]
  exact (h.drop _).take _
/-- a value that stands for d: told, or a tuple that is held -/
def Hold (L : List Asn) (H : Hp) (d : PyData) (G : V → Hp → Prop) : Prop := match sca d with
  | some v => G v H
  | none => ∀ t, Hs (dv (.ref t) d :: L) H → G (.ref t) H
theorem Hold.go {G : V → Hp → Prop} (hS : Hs L H) (hv : Dv H x d) (h : Hold L H d G) : G x H := by
  unfold Hold at h
  cases e : sca d with
  | some v =>
    rw [e] at h
    rw [hv.sca e]
    exact h
  | none =>
    rw [e] at h
    cases hv with
    | tup h1 h2 => exact h _ (hS.add (A := dv _ _) (.tup h1 h2))
    | _ => cases e
theorem s_pull {top : Int} (hS : Hs L H) (k : Pick L (isBag b ns) R) (h0 : 0 < top) (h1 : top ≤ 1000000000000000000000000000000)
    (h : ∀ H' v, 0 ≤ v → v < top → Hs (isBag b ns :: R) H' → Q (.int v) H') : ∃ (b' l : Addr) (ns' : List Int) (top' : Int), [V.ref b, .int top] ++ [] = [.ref b', .int top'] ∧ Bag H b' l ns' ∧ 0 < top' ∧ top' ≤ 1000000000000000000000000000000 ∧ ∀ H' v, 0 ≤ v → v < top' → SameB b' H H' → Bag H' b' l ns' → Q (.int v) H' := by
  obtain ⟨l, hb, f⟩ := (k.go hS).bag
  exact ⟨b, l, ns, top, rfl, hb, h0, h1, fun H' v v0 v1 s hb' => h H' v v0 v1 (f H' s hb')⟩
theorem s_app (hS : Hs L H) (k : Pick L (isL p ds) R) (hv : Dv H x d) (hl : ds.length ≤ 100000) (h : ∀ H', Hs (isL p (ds ++ [d]) :: R) H' → Q .non H') : rAppend (.ref p) [x] H Q := by
  obtain ⟨us, h2⟩ := (k.go hS).openL
  have h3 := h2.hd
  exact ⟨p, us, x, rfl, rfl, h3.1, lt_line (by rw [h3.2.length]; exact hl), h _ ((k.go hS).putL (h3.2.append (.cons hv .nil)))⟩
theorem s_appC (hS : Hs L H) (k : Pick L (cell p (.lst xs)) R) (hl : xs.length ≤ 100000) (h : ∀ H', Hs (cell p (.lst (xs ++ [x])) :: R) H' → Q .non H') : rAppend (.ref p) [x] H Q :=
  ⟨p, xs, x, rfl, rfl, (k.go hS).hd, lt_line hl, h _ ((k.go hS).put fun _ z => by cases z)⟩
theorem s_cat (hS : Hs L H) (k1 : HasL L p ds) (k2 : HasL L q es) (hl : ds.length + es.length ≤ 100000) (h : ∀ r H', Hs (isL r (ds ++ es) :: L) H' → Q (.ref r) H') : rCat (.ref p) (.ref q) H Q := by
  obtain ⟨us, h1, h2⟩ := k1.at_ hS
  obtain ⟨ws, h3, h4⟩ := k2.at_ hS
  exact ⟨p, q, us, ws, rfl, rfl, h1, h3, le_line (by rw [h2.length, h4.length]; exact hl), fun r nr => h r _ (hS.newL nr (h2.append h4))⟩
theorem s_slL {lo hi : Option Int} (hS : Hs L H) (k : HasL L p ds) (h : ∀ q H', Hs (isL q (cutD ds lo hi) :: L) H' → Q (.ref q) H') : rSlL K (.ref p) lo hi H Q := by
  obtain ⟨us, h1, h2⟩ := k.at_ hS
  exact ⟨p, us, rfl, SqL.of h1, fun q nq => h q _ (hS.newL nq (h2.cut lo hi))⟩
theorem s_rev {B : Addr → Hp → Prop} (hS : Hs L H) (k : HasL L p ds) (h : ∀ q H', Hs (isL q ds.reverse :: L) H' → B q H') : ∃ a L ds, V.ref p = .ref a ∧ Hs L H ∧ HasL L a ds ∧ ∀ q H', Hs (isL q ds.reverse :: L) H' → B q H' := ⟨p, L, ds, rfl, hS, k, h⟩
theorem s_ixL (hS : Hs L H) (k : HasL L p ds) (e : atI ds i = some d) (h : Hold L H d Q) : rIxL K (.ref p) (.int i) H Q := by
  obtain ⟨us, h1, h2⟩ := k.at_ hS
  obtain ⟨x, h3, h4⟩ := h2.getI e
  exact ⟨p, us, i, x, rfl, rfl, SqL.of h1, h3, h.go hS h4⟩
theorem s_ixT (hS : Hs L H) (k : Pick L (dv (.ref p) (.tuple ds)) R) (e : atI ds i = some d) (h : Hold L H d Q) : rIxT K (.ref p) (.int i) H Q := by
  obtain ⟨t, us, et, h1, h2⟩ := (hS.dvAt k).tupOf
  cases et
  obtain ⟨x, h3, h4⟩ := h2.getI e
  exact ⟨p, us, i, x, rfl, rfl, SqT.of h1, h3, h.go hS h4⟩
theorem s_ixTc (hS : Hs L H) (k : Pick L (cell p (.tup xs)) R) (e : atI xs i = some x) (h : Q x H) : rIxT K (.ref p) (.int i) H Q := ⟨p, xs, i, x, rfl, rfl, SqT.of (hS.at_ k), e, h⟩
theorem s_ixLc (hS : Hs L H) (k : Pick L (cell p (.lst xs)) R) (e : atI xs i = some x) (h : Q x H) : rIxL K (.ref p) (.int i) H Q := ⟨p, xs, i, x, rfl, rfl, SqL.of (hS.at_ k), e, h⟩
theorem s_setL {j : Nat} {Qh : Hp → Prop} (hS : Hs L H) (k : Pick L (isL p ds) R) (hv : Dv H x d) (e : ixN ds.length i = some j) (h : ∀ H', Hs (isL p (ds.set j d) :: R) H' → Qh H') : rSetL (.ref p) (.int i) x H Qh := by
  obtain ⟨us, h2⟩ := (k.go hS).openL
  have h3 := h2.hd
  exact ⟨p, us, i, j, rfl, rfl, h3.1, by rw [h3.2.length]; exact e, h _ ((k.go hS).putL (DvAll.set hv j h3.2))⟩
/-- the parts of a tuple, one after another -/
def Holds : List PyData → List Asn → Hp → (List V → Hp → Prop) → Prop
  | [], L, H, G => G [] H
  | d :: ds, L, H, G => match sca d with
    | some v => Holds ds L H fun vs H => G (v :: vs) H
    | none => ∀ t, Hs (dv (.ref t) d :: L) H → Holds ds (dv (.ref t) d :: L) H fun vs H => G (.ref t :: vs) H
theorem Holds.go : ∀ {ds : List PyData} {xs : List V} {L : List Asn} {G : List V → Hp → Prop}, Hs L H → DvAll H xs ds → Holds ds L H G → G xs H
  | _, _, _, _, _, .nil, h => h
  | _, _, L, G, hS, .cons (x := x) (d := d) (ds := ds) hv t, h => by
    unfold Holds at h
    cases e : sca d with
    | some v =>
      rw [e] at h
      rw [hv.sca e]
      exact Holds.go (G := fun vs H => G (v :: vs) H) hS t h
    | none =>
      rw [e] at h
      cases hv with
      | tup h1 h2 =>
        have h3 := hS.add (A := dv _ _) (.tup h1 h2)
        exact Holds.go (G := fun vs H => G (.ref _ :: vs) H) h3 t (h _ h3)
      | _ => cases e
theorem s_gTup {n : Nat} {ts : TGs} {Qs : L2.St → Hp → Prop} (hS : Hs L H) (k : Pick L (dv (.ref p) (.tuple ds)) R) (hn : ds.length = n) (h : Holds ds L H fun vs H' => ts vs σ H' Qs) : gTup K n ts (.ref p) σ H Qs := by
  obtain ⟨t, us, et, h1, h2⟩ := (hS.dvAt k).tupOf
  cases et
  exact ⟨p, us, rfl, SqT.of h1, by rw [h2.length]; exact hn, Holds.go hS h2 h⟩
theorem s_gTupC {n : Nat} {ts : TGs} {Qs : L2.St → Hp → Prop} (hS : Hs L H) (k : Pick L (cell p (.tup xs)) R) (hn : xs.length = n) (h : ts xs σ H Qs) : gTup K n ts (.ref p) σ H Qs := ⟨p, xs, rfl, SqT.of (hS.at_ k), hn, h⟩
theorem s_clear (hS : Hs L H) (k : Pick L (isL p ds) R) (h : ∀ H', Hs (isL p [] :: R) H' → Q .non H') : rClear (.ref p) [] H Q := by
  obtain ⟨us, h2⟩ := (k.go hS).openL
  exact ⟨p, us, rfl, rfl, h2.hd.1, h _ ((k.go hS).putL .nil)⟩
theorem s_reverse (hS : Hs L H) (k : Pick L (isL p ds) R) (h : ∀ H', Hs (isL p ds.reverse :: R) H' → Q .non H') : rReverse (.ref p) [] H Q := by
  obtain ⟨us, h2⟩ := (k.go hS).openL
  exact ⟨p, us, rfl, rfl, h2.hd.1, h _ ((k.go hS).putL h2.hd.2.rev)⟩
theorem s_extend (hS : Hs L H) (k : Pick L (isL p ds) R) (k2 : HasL L q es) (hl : ds.length + es.length ≤ 100000) (h : ∀ H', Hs (isL p (ds ++ es) :: R) H' → Q .non H') : rExtend (.ref p) [.ref q] H Q := by
  obtain ⟨us, h2⟩ := (k.go hS).openL
  obtain ⟨ws, h3, h4⟩ := k2.at_ hS
  have h5 := h2.hd
  exact ⟨p, q, us, ws, rfl, rfl, h5.1, h3, le_line (by rw [h5.2.length, h4.length]; exact hl), h _ ((k.go hS).putL (h5.2.append h4))⟩
/-! == -/
theorem HasL.dp (k : HasL L p ds) (hS : Hs L H) : Dp K H (.ref p) (.list ds) := by
  obtain ⟨us, h1, h2⟩ := k.at_ hS
  exact .lst (SqL.of h1) h2.dp
theorem s_eqL {α : Type} {f : α → PyData} {n : Nat} {xs ys : List α} [DecidableEq α] (S : Shp α f n) (hn : n + 1 ≤ 64) (hS : Hs L H) (k1 : HasL L p (xs.map f)) (k2 : HasL L q (ys.map f)) (h : Q (.bl (decide (xs = ys))) H) : rEqD K (.ref p) (.ref q) H Q :=
  k_eqD (shp_list S) hn (k1.dp hS) (k2.dp hS) h
theorem s_neL {α : Type} {f : α → PyData} {n : Nat} {xs ys : List α} [DecidableEq α] (S : Shp α f n) (hn : n + 1 ≤ 64) (hS : Hs L H) (k1 : HasL L p (xs.map f)) (k2 : HasL L q (ys.map f)) (h : Q (.bl (!decide (xs = ys))) H) : rNeD K (.ref p) (.ref q) H Q :=
  k_neD (shp_list S) hn (k1.dp hS) (k2.dp hS) h
theorem s_eqT {α : Type} {f : α → PyData} {n : Nat} {u w : α} [DecidableEq α] (S : Shp α f n) (hn : n ≤ 64) (h1 : Dv H x (f u)) (h2 : Dv H y (f w)) (h : Q (.bl (decide (u = w))) H) : rEqD K x y H Q := k_eqD S hn h1.dp h2.dp h
theorem s_neT {α : Type} {f : α → PyData} {n : Nat} {u w : α} [DecidableEq α] (S : Shp α f n) (hn : n ≤ 64) (h1 : Dv H x (f u)) (h2 : Dv H y (f w)) (h : Q (.bl (!decide (u = w))) H) : rNeD K x y H Q := k_neD S hn h1.dp h2.dp h
/-! in -/
theorem inV_int (n : Int) (ks : List Int) : inV (.int n) (ks.map V.int) = decide (n ∈ ks) := by
  unfold inV
  induction ks with
  | nil => simp
  | cons k r ih =>
    rw [List.map_cons, List.any_cons, ih]
    by_cases h : n = k
    · subst h
      simp [eqV]
    · have h2 : eqV (.int k) (.int n) = false := by simp [eqV, Ne.symm h]
      rw [h2]
      simp [h]
theorem flat_ints (ks : List Int) : (ks.map V.int).all flatV = true := by
  rw [List.all_map]
  exact List.all_eq_true.mpr fun _ _ => rfl
theorem s_inI {n : Int} (hS : Hs L H) (k : HasL L p (ks.map PyData.int)) (h : Q (.bl (decide (n ∈ ks))) H) : rIn K false (.int n) (.ref p) H Q :=
  ⟨p, _, rfl, .inl (SqL.of (k.ints hS)), rfl, flat_ints ks, by rw [inV_int]; exact h⟩
theorem s_ninI {n : Int} (hS : Hs L H) (k : HasL L p (ks.map PyData.int)) (h : Q (.bl (!decide (n ∈ ks))) H) : rIn K true (.int n) (.ref p) H Q :=
  ⟨p, _, rfl, .inl (SqL.of (k.ints hS)), rfl, flat_ints ks, by rw [inV_int]; exact h⟩
/-! sums, sorts -/
theorem s_sum (hS : Hs L H) (k : HasL L p (ks.map PyData.int)) (h : Q (.int ks.sum) H) : rSum K [.ref p] H Q := ⟨p, ks, rfl, SqL.of (k.ints hS), h⟩
theorem s_sorted (hS : Hs L H) (k : HasL L p (ks.map PyData.int)) (h : ∀ q H', Hs (isL q ((sortI ks).map PyData.int) :: L) H' → Q (.ref q) H') : rSortedI K [.ref p] H Q :=
  ⟨p, ks, rfl, SqL.of (k.ints hS), fun ns q h1 h2 nq => by
    have e := sortI_eq h1 h2
    subst e
    exact h q _ (hS.newL nq (DvAll.ints _))⟩
theorem s_sortSet {w : World} (hS : Hs L H) (k : HasL L p (ks.map PyData.int)) (h64 : ks.length < 64) (h : ∀ q H', Hs (isL q ((ascOf ks).map PyData.int) :: L) H' → Q (.ref q) H') : rMkSet K w [V.ref p] H fun x H1 => tNil σ H1 fun xs H2 => rSortedSet w (x :: xs) H2 Q :=
  k_sortSet (SqL.of (k.ints hS)) h64 fun H' q s nq hq => h q H' (by
    refine ⟨solo q (.lst ((ascOf ks).map V.int)), H, solo_le hq, s, fun c o hc => ?_, ⟨_, solo_at, DvAll.ints _⟩, hS⟩
    obtain ⟨rfl, rfl⟩ := solo_of hc
    exact .inl nq)
theorem s_all {bs : List Bool} (hS : Hs L H) (k : HasL L p (bs.map PyData.bool)) (h : Q (.bl (bs.all id)) H) : rAll K [.ref p] H Q := by
  obtain ⟨us, h1, h2⟩ := k.at_ hS
  have e : us = bs.map V.bl := h2.scas (by
    clear h1 h2 h k
    induction bs with
    | nil => rfl
    | cons b r ih =>
      rw [List.map_cons, List.map_cons]
      unfold scas
      rw [ih]
      rfl)
  rw [e] at h1
  exact ⟨p, bs, rfl, SqL.of h1, h⟩
theorem s_any {bs : List Bool} (hS : Hs L H) (k : HasL L p (bs.map PyData.bool)) (h : Q (.bl (bs.any id)) H) : rAny K [.ref p] H Q := by
  obtain ⟨us, h1, h2⟩ := k.at_ hS
  have e : us = bs.map V.bl := h2.scas (by
    clear h1 h2 h k
    induction bs with
    | nil => rfl
    | cons b r ih =>
      rw [List.map_cons, List.map_cons]
      unfold scas
      rw [ih]
      rfl)
  rw [e] at h1
  exact ⟨p, bs, rfl, SqL.of h1, h⟩
/-! len, list(), tuple() -/
def sLen : List V → Hp → VK → Prop := fun xs H Q => ∃ p L ds, xs = [.ref p] ∧ Hs L H ∧ HasL L p ds ∧ Q (.int ds.length) H
theorem c_len {X : Cx} : CallR X (.builtin "len") sLen := fun pins s σ H xs us Q I r ⟨p, L, ds, e, hS, k, q⟩ => call_len_seq pins s σ H xs us Q I r (by
  obtain ⟨us, h1, h2⟩ := k.at_ hS
  exact ⟨p, us, e, .inl (SqL.of h1), by rw [h2.length]; exact q⟩)
theorem s_len (hS : Hs L H) (k : HasL L p ds) (h : Q (.int ds.length) H) : sLen [.ref p] H Q := ⟨p, L, ds, rfl, hS, k, h⟩
def sLenT : List V → Hp → VK → Prop := fun xs H Q => ∃ p ds, xs = [.ref p] ∧ Dv H (.ref p) (.tuple ds) ∧ Q (.int ds.length) H
theorem c_lenT {X : Cx} : CallR X (.builtin "len") sLenT := fun pins s σ H xs us Q I r ⟨p, ds, e, k, q⟩ => call_len_seq pins s σ H xs us Q I r (by
  obtain ⟨t, us, et, h1, h2⟩ := k.tupOf
  cases et
  exact ⟨p, us, e, .inr (SqT.of h1), by rw [h2.length]; exact q⟩)
theorem s_lenT (hS : Hs L H) (k : Pick L (dv (.ref p) (.tuple ds)) R) (h : Q (.int ds.length) H) : sLenT [.ref p] H Q := ⟨p, ds, rfl, hS.dvAt k, h⟩
def sListOf : List V → Hp → VK → Prop := fun xs H Q => ∃ p L ds, xs = [.ref p] ∧ Hs L H ∧ (HasL L p ds ∨ Dv H (.ref p) (.tuple ds)) ∧ ∀ q H', Hs (isL q ds :: L) H' → Q (.ref q) H'
theorem c_listOf {X : Cx} : CallR X (.type "list") sListOf := fun pins s σ H xs us Q I r ⟨p, L, ds, e, hS, k, q⟩ => call_list_of pins s σ H xs us Q I r (by
  rcases k with k | k
  · obtain ⟨us, h1, h2⟩ := k.at_ hS
    exact ⟨p, us, e, .inl (SqL.of h1), fun l nl => q l _ (hS.newL nl h2)⟩
  · obtain ⟨t, us, et, h1, h2⟩ := k.tupOf
    cases et
    exact ⟨p, us, e, .inr (SqT.of h1), fun l nl => q l _ (hS.newL nl h2)⟩)
theorem s_listOf (hS : Hs L H) (k : HasL L p ds) (h : ∀ q H', Hs (isL q ds :: L) H' → Q (.ref q) H') : sListOf [.ref p] H Q := ⟨p, L, ds, rfl, hS, .inl k, h⟩
theorem s_listOfT (hS : Hs L H) (k : Pick L (dv (.ref p) (.tuple ds)) R) (h : ∀ q H', Hs (isL q ds :: L) H' → Q (.ref q) H') : sListOf [.ref p] H Q := ⟨p, L, ds, rfl, hS, .inr (hS.dvAt k), h⟩
def sTupOf : List V → Hp → VK → Prop := fun xs H Q => ∃ p L ds, xs = [.ref p] ∧ Hs L H ∧ HasL L p ds ∧ ∀ q H', Hs (dv (.ref q) (.tuple ds) :: L) H' → Q (.ref q) H'
theorem c_tupOf {X : Cx} : CallR X (.type "tuple") sTupOf := fun pins s σ H xs us Q I r ⟨p, L, ds, e, hS, k, q⟩ => call_tuple_of pins s σ H xs us Q I r (by
  obtain ⟨us, h1, h2⟩ := k.at_ hS
  exact ⟨p, us, e, .inl ⟨SqL.of h1, fun l nl => q l _ (hS.newT nl h2)⟩⟩)
theorem s_tupOf (hS : Hs L H) (k : HasL L p ds) (h : ∀ q H', Hs (dv (.ref q) (.tuple ds) :: L) H' → Q (.ref q) H') : sTupOf [.ref p] H Q := ⟨p, L, ds, rfl, hS, k, h⟩
/-! displays -/
theorem s_lst {vs : List V} (hS : Hs L H) (hd : DvAll H vs ds) (hl : vs.length ≤ 100000) {B : Addr → Hp → Prop} (h : ∀ p H', Hs (isL p ds :: L) H' → B p H') : ∃ L ds, Hs L H ∧ DvAll H vs ds ∧ vs.length ≤ 100000 ∧ ∀ p H', Hs (isL p ds :: L) H' → B p H' := ⟨L, ds, hS, hd, hl, h⟩
theorem s_tup {vs : List V} (hS : Hs L H) (hd : DvAll H vs ds) (hl : vs.length ≤ 100000) {B : Addr → Hp → Prop} (h : ∀ p H', Hs (dv (.ref p) (.tuple ds) :: L) H' → B p H') : ∃ L ds, Hs L H ∧ DvAll H vs ds ∧ vs.length ≤ 100000 ∧ ∀ p H', Hs (dv (.ref p) (.tuple ds) :: L) H' → B p H' := ⟨L, ds, hS, hd, hl, h⟩
theorem s_lstC {vs : List V} (hS : Hs L H) (hl : vs.length ≤ 100000) {B : Addr → Hp → Prop} (h : ∀ p H', Hs (cell p (.lst vs) :: L) H' → B p H') : ∃ L, Hs L H ∧ vs.length ≤ 100000 ∧ ∀ p H', Hs (cell p (.lst vs) :: L) H' → B p H' := ⟨L, hS, hl, h⟩
theorem s_tupC {vs : List V} (hS : Hs L H) (hl : vs.length ≤ 100000) {B : Addr → Hp → Prop} (h : ∀ p H', Hs (cell p (.tup vs) :: L) H' → B p H') : ∃ L, Hs L H ∧ vs.length ≤ 100000 ∧ ∀ p H', Hs (cell p (.tup vs) :: L) H' → B p H' := ⟨L, hS, hl, h⟩
theorem s_lstRg {i j : Int} (hS : Hs L H) (hr : RgOk i j) {B : Addr → Hp → Prop} (h : ∀ p H', Hs (isL p ((rgI i (j - i)).map PyData.int) :: L) H' → B p H') : ∃ L, Hs L H ∧ RgOk i j ∧ ∀ p H', Hs (isL p ((rgI i (j - i)).map PyData.int) :: L) H' → B p H' := ⟨L, hS, hr, h⟩
theorem s_lstRgA {i m : Int} (hS : Hs L H) (hr : RgOk i (i + m)) {B : Addr → Hp → Prop} (h : ∀ p H', Hs (isL p ((rgI i m).map PyData.int) :: L) H' → B p H') : ∃ L, Hs L H ∧ RgOk i (i + m) ∧ ∀ p H', Hs (isL p ((rgI i (i + m - i)).map PyData.int) :: L) H' → B p H' := ⟨L, hS, hr, by
  rw [show i + m - i = m by omega]
  exact h⟩
theorem s_make {C : Addr} {B : Addr → Hp → Prop} (hS : Hs L H) (h : ∀ x H', Hs (obj C x [] :: L) H' → B x H') : ∃ L, Hs L H ∧ ∀ x H', Hs (obj C x [] :: L) H' → B x H' := ⟨L, hS, h⟩
/-! fields -/
theorem s_fld {C : Addr} {f : Str} {fs : List (Str × V)} {B : V → Prop} (hS : Hs L H) (k : Pick L (obj C a fs) R) (c : Cls K C) (n : NoAttr K C f) (e : fs.lookup f = some v) (h : B v) : ∃ b C dx fs v, V.ref a = .ref b ∧ H b = some (.ins C dx fs) ∧ Cls K C ∧ NoAttr K C f ∧ fs.lookup f = some v ∧ B v := by
  obtain ⟨dx, h1⟩ := hS.at_ k
  exact ⟨a, C, dx, fs, v, rfl, h1, c, n, e, h⟩
theorem s_fldSet {C : Addr} {f : Str} {fs : List (Str × V)} {N : Hp → Prop} (hS : Hs L H) (k : Pick L (obj C a fs) R) (c : Cls K C) (n : NoAttr K C f) (hl : fs.length < 1000) (h : ∀ H', Hs (obj C a (putF f y fs) :: R) H' → N H') :
    ∃ b C fs L R, V.ref a = .ref b ∧ Hs L H ∧ Pick L (obj C b fs) R ∧ Cls K C ∧ NoAttr K C f ∧ fs.length < 1000 ∧ ∀ H', Hs (obj C b (putF f y fs) :: R) H' → N H' := ⟨a, C, fs, L, R, rfl, hS, k, c, n, hl, h⟩
theorem s_meth {C : Addr} {m : Str} {fs : List (Str × V)} {B : Prop} (h1 : ∃ dx, H a = some (.ins C dx fs)) (e : fs.lookup m = none) (h : B) : ∃ b dx fs, V.ref a = .ref b ∧ H b = some (.ins C dx fs) ∧ fs.lookup m = none ∧ B := by
  obtain ⟨dx, h1⟩ := h1
  exact ⟨a, dx, fs, rfl, h1, e, h⟩
theorem hold_int {n : Int} {G : V → Hp → Prop} (h : G (.int n) H) : Hold L H (.int n) G := h
theorem hold_str {n : Str} {G : V → Hp → Prop} (h : G (.str n) H) : Hold L H (.str n) G := h
theorem hold_bl {n : Bool} {G : V → Hp → Prop} (h : G (.bl n) H) : Hold L H (.bool n) G := h
theorem hold_non {G : V → Hp → Prop} (h : G .non H) : Hold L H .none G := h
theorem hold_tup {G : V → Hp → Prop} (h : ∀ t, Hs (dv (.ref t) (.tuple ds) :: L) H → G (.ref t) H) : Hold L H (.tuple ds) G := h
theorem holds_nil {G : List V → Hp → Prop} (h : G [] H) : Holds [] L H G := h
theorem holds_int {n : Int} {G : List V → Hp → Prop} (h : Holds ds L H fun vs H => G (.int n :: vs) H) : Holds (.int n :: ds) L H G := h
theorem holds_str {n : Str} {G : List V → Hp → Prop} (h : Holds ds L H fun vs H => G (.str n :: vs) H) : Holds (.str n :: ds) L H G := h
theorem holds_bl {n : Bool} {G : List V → Hp → Prop} (h : Holds ds L H fun vs H => G (.bl n :: vs) H) : Holds (.bool n :: ds) L H G := h
theorem holds_non {G : List V → Hp → Prop} (h : Holds ds L H fun vs H => G (.non :: vs) H) : Holds (.none :: ds) L H G := h
theorem holds_tup {G : List V → Hp → Prop} (h : ∀ t, Hs (dv (.ref t) (.tuple es) :: L) H → Holds ds (dv (.ref t) (.tuple es) :: L) H fun vs H => G (.ref t :: vs) H) : Holds (.tuple es :: ds) L H G := h
theorem k_tFld {ta : TE} {f : Str} (h : ta σ H fun x H1 => ∃ a C dx fs v, x = .ref a ∧ H1 a = some (.ins C dx fs) ∧ Cls K C ∧ NoAttr K C f ∧ fs.lookup f = some v ∧ Q v H1) : tFld K ta f σ H Q := h
theorem k_sLst {u : TA} (h : u σ H fun xs H1 => ∃ L ds, Hs L H1 ∧ DvAll H1 xs ds ∧ xs.length ≤ 100000 ∧ ∀ p H', Hs (isL p ds :: L) H' → Q (.ref p) H') : sLst u σ H Q := h
theorem k_sLstC {u : TA} (h : u σ H fun xs H1 => ∃ L, Hs L H1 ∧ xs.length ≤ 100000 ∧ ∀ p H', Hs (cell p (.lst xs) :: L) H' → Q (.ref p) H') : sLstC u σ H Q := h
theorem k_sTup {u : TA} (h : u σ H fun xs H1 => ∃ L ds, Hs L H1 ∧ DvAll H1 xs ds ∧ xs.length ≤ 100000 ∧ ∀ p H', Hs (dv (.ref p) (.tuple ds) :: L) H' → Q (.ref p) H') : sTup u σ H Q := h
theorem k_sTupC {u : TA} (h : u σ H fun xs H1 => ∃ L, Hs L H1 ∧ xs.length ≤ 100000 ∧ ∀ p H', Hs (cell p (.tup xs) :: L) H' → Q (.ref p) H') : sTupC u σ H Q := h
theorem k_sLstRg {tr : L2.St → Hp → (Int → Int → Hp → Prop) → Prop} (h : tr σ H fun a b H1 => ∃ L, Hs L H1 ∧ RgOk a b ∧ ∀ p H', Hs (isL p ((rgI a (b - a)).map PyData.int) :: L) H' → Q (.ref p) H') : sLstRg tr σ H Q := h
theorem k_sRevL {te : TE} (h : te σ H fun x H1 => ∃ a L ds, x = .ref a ∧ Hs L H1 ∧ HasL L a ds ∧ ∀ p H', Hs (isL p ds.reverse :: L) H' → Q (.ref p) H') : sRevL K te σ H Q := h
theorem k_sMake {C : Addr} {sp : Sp} {dvs : List V} {t : TA} (h : t σ H fun vs H1 => ∃ L, Hs L H1 ∧ ∀ x H', Hs (obj C x [] :: L) H' → sp (.ref x :: (vs ++ dvs)) H' (fun v H2 => v = .non ∧ Q (.ref x) H2) E) : sMake C sp dvs E t σ H Q := h
theorem k_sFldS {ta tv : TE} {f : Str} (h : tv σ H fun y H1 => ta σ H1 fun x H2 => ∃ a C fs L R, x = .ref a ∧ Hs L H2 ∧ Pick L (obj C a fs) R ∧ Cls K C ∧ NoAttr K C f ∧ fs.length < 1000 ∧ ∀ H', Hs (obj C a (putF f y fs) :: R) H' → D.nx σ H') : sFldS K ta tv f D σ H := h
theorem k_tMeth {C : Addr} {m : Str} {sp : Sp} {dvs : List V} {ta : TE} {t : TA} (h : ta σ H fun x H1 => ∃ a dx fs, x = .ref a ∧ H1 a = some (.ins C dx fs) ∧ fs.lookup m = none ∧ t σ H1 fun vs H2 => sp (x :: (vs ++ dvs)) H2 Q E) : tMeth C m sp dvs E ta t σ H Q := h
end
section
variable {X : Cx} {e : Expr} {t : TA} {C : Addr} {sp : Sp} {dvs : List V} {E : XK}
theorem mkS (h : PE X e (tMake C sp dvs E (mcA t))) : PE X e (sMake C sp dvs E t) := weakPE h fun σ H Q z => ⟨_, z, fun vs H1 ⟨L, hS, q⟩ x dx nx nd ne => q x _ (make_new hS nx nd ne)⟩
theorem mk0S (h : PE X e (tMake C sp dvs E tNil)) : PE X e (sMake C sp dvs E tNil) := weakPE h fun σ H Q ⟨L, hS, q⟩ => fun x dx nx nd ne => q x _ (make_new hS nx nd ne)
end
end Lt
namespace Lt
open PySem PySem.Spec PyProof.Rows L2
section
variable {L R : List Asn} {A : Asn} {H : Hp}
theorem Pick.back (k : Pick L A R) : ∀ {H : Hp}, Hs (A :: R) H → Hs L H := by
  induction k with
  | here => exact fun h => h
  | there k ih => exact fun h => Hs.under (fun _ z => ih z) h.swap
theorem Hs.swap12 {B C : Asn} (h : Hs (A :: B :: C :: L) H) : Hs (A :: C :: B :: L) H := Hs.under (fun _ z => z.swap) h
theorem k_bnd {A B C : Prop} (h1 : A) (h2 : B) (h : C) : A ∧ B ∧ C := ⟨h1, h2, h⟩
/-- a word of the state, kept as it is written -/
def Wd (P : L2.St → Hp → Prop) : L2.St → Hp → Prop := P
/-- a set of blocks, ascending -/
def isSp (C a : Addr) (ks : List Int) : Asn := fun H => ∃ l, Hs [obj C a [("inside", .ref l)], isL l (ks.map PyData.int)] H
instance {C a : Addr} {ks : List Int} : Mono (isSp C a ks) := ⟨fun s ⟨l, h⟩ => ⟨l, h.sub s⟩⟩
theorem Hs.openSp {C a : Addr} {ks : List Int} (h : Hs (isSp C a ks :: L) H) : ∃ l, Hs (obj C a [("inside", .ref l)] :: isL l (ks.map PyData.int) :: L) H := by
  obtain ⟨l, h⟩ := Hs.ex (A := fun l => Hs [obj C a [("inside", .ref l)], isL l (ks.map PyData.int)]) h
  exact ⟨l, h.split⟩
theorem Hs.closeSp {C a l : Addr} {ks : List Int} (h : Hs (obj C a [("inside", .ref l)] :: isL l (ks.map PyData.int) :: L) H) : Hs (isSp C a ks :: L) H := h.join.weak fun _ z => ⟨l, z⟩
theorem Hs.insSp {C a : Addr} {ks : List Int} (h : Hs (isSp C a ks :: L) H) : ∃ dx fs, H a = some (.ins C dx fs) ∧ (∀ m : Str, m ≠ "inside" → fs.lookup m = none) := by
  obtain ⟨l, h⟩ := h.openSp
  obtain ⟨dx, e⟩ := h.hd
  refine ⟨dx, _, e, fun m hm => ?_⟩
  show (match m == ("inside" : Str) with | true => some (V.ref l) | false => none) = none
  rw [beq_eq_false_iff_ne.mpr hm]
theorem s_methSp {C a : Addr} {ks : List Int} {m : Str} {B : Prop} (hS : Hs L H) (k : Pick L (isSp C a ks) R) (hm : (m == ("inside" : Str)) = false) (h : B) : ∃ b dx fs, V.ref a = .ref b ∧ H b = some (.ins C dx fs) ∧ fs.lookup m = none ∧ B := by
  obtain ⟨dx, fs, e, f⟩ := (k.go hS).insSp
  exact ⟨a, dx, fs, rfl, e, f m (beq_eq_false_iff_ne.mp hm), h⟩
theorem s_tyL {K : PySem.W.Frag} {p : Addr} {ds : List PyData} {B : Prop} (hS : Hs L H) (k : HasL L p ds) (h : B) : tyV K "list" (.ref p) H ∧ B := by
  obtain ⟨vs, h1, _⟩ := k.at_ hS
  exact ⟨.inl ⟨rfl, _, SqL.of h1⟩, h⟩
theorem s_tyLc {K : PySem.W.Frag} {p : Addr} {xs : List V} {B : Prop} (hS : Hs L H) (k : Pick L (cell p (.lst xs)) R) (h : B) : tyV K "list" (.ref p) H ∧ B := ⟨.inl ⟨rfl, _, SqL.of (hS.at_ k)⟩, h⟩
theorem tyx_L {K : PySem.W.Frag} {p : Addr} {ds : List PyData} (hS : Hs L H) (k : HasL L p ds) : TyX K H (.ref p) (.type "list") := by
  obtain ⟨vs, h1, _⟩ := k.at_ hS
  exact .base (.lst h1)
theorem tyx_T {K : PySem.W.Frag} {p : Addr} {ds : List PyData} (hS : Hs L H) (k : Pick L (dv (.ref p) (.tuple ds)) R) : TyX K H (.ref p) (.type "tuple") := by
  obtain ⟨t, us, et, h1, h2⟩ := (hS.dvAt k).tupOf
  cases et
  exact .base (.tup h1)
theorem tyx_Lc {K : PySem.W.Frag} {p : Addr} {xs : List V} (hS : Hs L H) (k : Pick L (cell p (.lst xs)) R) : TyX K H (.ref p) (.type "list") := .base (.lst (hS.at_ k))
end
end Lt
namespace Lt
open PySem PySem.Spec PyProof.Rows L2
theorem mapP_snoc (qs : List (Int × Int)) (f m : Int) : (qs ++ [(f, m)]).map dPair = qs.map dPair ++ [.tuple [.int f, .int m]] := by rw [List.map_append] <;> rfl
theorem mapP_one (f m : Int) : [(f, m)].map dPair = [.tuple [.int f, .int m]] := rfl
end Lt
namespace Lt
open PySem PySem.Spec PyProof.Rows L2
section
variable {K : PySem.W.Frag} {L R : List Asn} {H : Hp} {Q : VK} {p q C : Addr} {ks js : List Int} {ps qs : List (Int × Int)} {x : V} {t : Value}
theorem s_eqI (hS : Hs L H) (k1 : HasL L p (ks.map PyData.int)) (k2 : HasL L q (js.map PyData.int)) (h : Q (.bl (decide (ks = js))) H) : rEqD K (.ref p) (.ref q) H Q := s_eqL shp_int (by decide) hS k1 k2 h
theorem s_neI (hS : Hs L H) (k1 : HasL L p (ks.map PyData.int)) (k2 : HasL L q (js.map PyData.int)) (h : Q (.bl (!decide (ks = js))) H) : rNeD K (.ref p) (.ref q) H Q := s_neL shp_int (by decide) hS k1 k2 h
theorem s_eqP (hS : Hs L H) (k1 : HasL L p (ps.map dPair)) (k2 : HasL L q (qs.map dPair)) (h : Q (.bl (decide (ps = qs))) H) : rEqD K (.ref p) (.ref q) H Q := s_eqL shp_pair (by decide) hS k1 k2 h
theorem s_neP (hS : Hs L H) (k1 : HasL L p (ps.map dPair)) (k2 : HasL L q (qs.map dPair)) (h : Q (.bl (!decide (ps = qs))) H) : rNeD K (.ref p) (.ref q) H Q := s_neL shp_pair (by decide) hS k1 k2 h
theorem k_isiO {b : Bool} (ht : TyX K H x t) (hk : PySem.W.kitOne K t (.ref C) = some b) (h : Q (.bl b) H) : rIsi K [x, .ref C] H Q := ⟨x, .ref C, _, _, b, rfl, .own C, ht, hk, h⟩
end
end Lt
namespace Lt
open PySem PySem.Spec PyProof.Rows L2
/-- k in xs, whole numbers -/
def sInI (neg : Bool) : R2 := fun x y H Q => ∃ (n : Int) (p : Addr) (L : List Asn) (ks : List Int), x = .int n ∧ y = .ref p ∧ Hs L H ∧ HasL L p (ks.map PyData.int) ∧ Q (.bl (if neg then !decide (n ∈ ks) else decide (n ∈ ks))) H
theorem op_inS {X : Cx} : OpR X (compareOp .In) (sInI false) := fun pins s σ H x y v u Q I rx ry ⟨n, p, L, ks, ex, ey, hS, k, q⟩ => op_in_seq pins s σ H x y v u Q I rx ry (by
  rw [ex, ey]
  exact ⟨p, _, rfl, .inl (SqL.of (k.ints hS)), rfl, flat_ints ks, by rw [inV_int]; exact q⟩)
theorem op_ninS {X : Cx} : OpR X (compareOp .NotIn) (sInI true) := fun pins s σ H x y v u Q I rx ry ⟨n, p, L, ks, ex, ey, hS, k, q⟩ => op_notIn_seq pins s σ H x y v u Q I rx ry (by
  rw [ex, ey]
  exact ⟨p, _, rfl, .inl (SqL.of (k.ints hS)), rfl, flat_ints ks, by rw [inV_int]; exact q⟩)
section
variable {L : List Asn} {H : Hp} {Q : VK} {p : Addr} {ks : List Int} {n : Int}
theorem s_inS (hS : Hs L H) (k : HasL L p (ks.map PyData.int)) (h : Q (.bl (decide (n ∈ ks))) H) : sInI false (.int n) (.ref p) H Q := ⟨n, p, L, ks, rfl, rfl, hS, k, h⟩
theorem s_ninS (hS : Hs L H) (k : HasL L p (ks.map PyData.int)) (h : Q (.bl (!decide (n ∈ ks))) H) : sInI true (.int n) (.ref p) H Q := ⟨n, p, L, ks, rfl, rfl, hS, k, h⟩
end
end Lt
namespace Lt
open PySem PySem.Spec PyProof.Rows L2
section
variable {K : PySem.W.Frag} {L R : List Asn} {H : Hp} {Q : VK} {p q : Addr} {α : Type} {f : α → PyData} {xs ys : List α} {n : Int} {ks : List Int}
theorem s_catM (hS : Hs L H) (k1 : HasL L p (xs.map f)) (k2 : HasL L q (ys.map f)) (hl : xs.length + ys.length ≤ 100000) (h : ∀ r H', Hs (isL r ((xs ++ ys).map f) :: L) H' → Q (.ref r) H') : rCat (.ref p) (.ref q) H Q :=
  s_cat hS k1 k2 (by rw [List.length_map, List.length_map]; exact hl) fun r H' h1 => h r H' (by rw [List.map_append]; exact h1)
theorem s_slTake (hS : Hs L H) (k : HasL L p (xs.map f)) (hn : 0 ≤ n) (h : ∀ q H', Hs (isL q ((xs.take n.toNat).map f) :: L) H' → Q (.ref q) H') : rSlL K (.ref p) none (some n) H Q :=
  s_slL hS k fun q H' h1 => h q H' (by rw [cutD_takeI _ hn, ← List.map_take] at h1; exact h1)
theorem s_slDrop (hS : Hs L H) (k : HasL L p (xs.map f)) (hn : 0 ≤ n) (h : ∀ q H', Hs (isL q ((xs.drop n.toNat).map f) :: L) H' → Q (.ref q) H') : rSlL K (.ref p) (some n) none H Q :=
  s_slL hS k fun q H' h1 => h q H' (by rw [cutD_dropI _ hn, ← List.map_drop] at h1; exact h1)
theorem s_revM {B : Addr → Hp → Prop} (hS : Hs L H) (k : HasL L p (xs.map f)) (h : ∀ q H', Hs (isL q (xs.reverse.map f) :: L) H' → B q H') : ∃ a L ds, V.ref p = .ref a ∧ Hs L H ∧ HasL L a ds ∧ ∀ q H', Hs (isL q ds.reverse :: L) H' → B q H' :=
  s_rev hS k fun q H' h1 => h q H' (by rw [List.map_reverse]; exact h1)
theorem s_lenM (hS : Hs L H) (k : HasL L p (xs.map f)) (h : Q (.int xs.length) H) : sLen [.ref p] H Q := s_len hS k (by rw [List.length_map]; exact h)
theorem s_appI (hS : Hs L H) (k : Pick L (isL p (ks.map PyData.int)) R) (hl : ks.length ≤ 100000) (h : ∀ H', Hs (isL p ((ks ++ [n]).map PyData.int) :: R) H' → Q .non H') : rAppend (.ref p) [.int n] H Q :=
  s_app hS k (.int n) (by rw [List.length_map]; exact hl) fun H' h1 => h H' (by rw [List.map_append]; exact h1)
end
end Lt
/-! ==, !=, len, truth, repr, str of an own instance by its class's own defs -/
namespace Lt
open PySem PySem.Spec PyProof.Rows L2
/-- what the other side of a comparison is -/
inductive Oth (H : Hp) : V → Value → Prop
  | ins {b C dx : Addr} {fs : List (Str × V)} : H b = some (.ins C dx fs) → Oth H (.ref b) (.ref C)
  | lst {b : Addr} {xs : List V} : H b = some (.lst xs) → Oth H (.ref b) (.type "list")
  | str (x : Str) : Oth H (.str x) (.type "str")
section
variable {X : Cx} {CX : CXT} {n : Nat} {C f : Addr} {fd : FuncData} {ps : List Str} {sp : Sp} {E : XK} {pins : List (Addr × Obj)} {σ : L2.St} {H : Hp} {s : Shared} {A : Around}
theorem Oth.look {M : Model} {y : V} {u tb : Value} (I : Inv X pins σ H s) (ry : RelV y u) (o : Oth H y tb) : PySem.W.Looks M s.heap (typeOf u) tb := by
  cases o with
  | ins h =>
    cases ry
    obtain ⟨mA, J, _⟩ := ins_get I.hok h
    obtain ⟨od, J, _⟩ := J.look
    exact J.type
  | @lst b xs h =>
    cases ry
    obtain ⟨_, its, n, _, h1⟩ := (show ObjOk X.prog X.w H s.heap b (.lst xs) from I.hok b _ h)
    exact (PySem.W.Looks.ld h1).andThen .now
  | str x =>
    obtain ⟨t, rfl⟩ := ry
    exact .now
/-- a def called somewhere below -/
theorem run_in (F : FnOk X.prog X.w X.K X.mg X.base CX n f fd ps sp) (hb : Binds X.K fd ps []) (hx : Passes CX X E) (sb : Sub X n A) (I : Inv X pins σ H s) {vs : List V} {us : List Value} {Q : VK} (r2 : Vals vs us) (hsp : sp vs H Q E) :
    wpAny (model X.prog X.w) A (call (.ref f) us) (fun r s' => ∃ v H', Inv X pins σ H' s' ∧ RelV v r ∧ Q v H') X.xe s := by
  have e0 : Env0 X.prog X.w X.K X.mg X.base A X.stack s H := by
    have e := I.env0
    exact ⟨by rw [sb.fr]; exact e.frames, e.mod, e.bs, e.bsz, e.funs, e.frf, e.hok, e.bare⟩
  have hl := F.len _ _ _ _ hsp
  have hl2 : us.length = ps.length := by rw [← r2.length]; exact hl
  refine wpAny_call (codeAny_mono (F.run A X.stack s H ⟨us, []⟩ us vs Q E sb.room e0 (by
    have := hb s us I.kIn (by simpa using hl2)
    simpa using this) r2 hsp) fun r s' hq => ?_)
  cases r with
  | error e => exact hx pins σ H s e s' I hq
  | ok fl =>
    cases fl with
    | ret w =>
      obtain ⟨z, H', I', rz, q⟩ := I.after hq
      exact ⟨z, H', I', rz, q⟩
    | next => exact False.elim hq
    | brk => exact False.elim hq
    | cont => exact False.elim hq
def rEqO (K : PySem.W.Frag) (C : Addr) (sp : Sp) (E : XK) : R2 := fun x y H Q => ∃ a dx fs tb, x = .ref a ∧ H a = some (.ins C dx fs) ∧ Oth H y tb ∧ PySem.W.notFirst K C tb = true ∧ sp [x, y] H (fun v H' => ∃ b, v = .bl b ∧ Q (.bl b) H') E
def rNeO (K : PySem.W.Frag) (C : Addr) (sp : Sp) (E : XK) : R2 := fun x y H Q => ∃ a dx fs tb, x = .ref a ∧ H a = some (.ins C dx fs) ∧ Oth H y tb ∧ PySem.W.notFirst K C tb = true ∧ sp [x, y] H (fun v H' => ∃ b, v = .bl b ∧ Q (.bl (!b)) H') E
theorem op_eqO (F : FnOk X.prog X.w X.K X.mg X.base CX n f fd ps sp) (hs : PySem.W.findIn X.K (.ref C) "__eq__" = some (some (.ref f))) (hf : PySem.W.isFn X.K (.ref f) = true) (hb : Binds X.K fd ps []) (hx : Passes CX X E) (hr : Room n X.A) : OpR X (compareOp .Eq) (rEqO X.K C sp E) := by
  intro pins s σ H x y v u Q I rx ry h
  obtain ⟨a, dx, fs, tb, rfl, ha, o, nf, hsp⟩ := h
  cases rx
  obtain ⟨mA, J, _⟩ := ins_get I.hok ha
  obtain ⟨od, J, _⟩ := J.look
  obtain ⟨m, hF⟩ := I.fr
  show wpAny (model X.prog X.w) X.A (richCompare .Eq (.ref a) u) _ _ _
  refine PySem.W.cmp_K (op := .Eq) (tb := tb) hr.units0 hF I.ok.mod.kin J (o.look I ry) nf hs hf (thn (run_in F hb hx ⟨hr, rfl⟩ I (.cons (show RelV (.ref _) (.ref _) from rfl) (.cons ry .nil)) hsp) fun r s' z => ?_)
  obtain ⟨v, H', I', rv, b, rfl, q⟩ := z
  cases rv
  exact ⟨.bl b, H', I', rfl, q⟩
theorem bind_ne (self : Value) : bindSpecial (.builtin "object.__ne__") self = pure (.builtin "object.__ne__", [self]) := PySem.F.slot_object_ne.bind self
theorem op_neO (F : FnOk X.prog X.w X.K X.mg X.base CX n f fd ps sp) (hs : PySem.W.findIn X.K (.ref C) "__eq__" = some (some (.ref f))) (hn : PySem.W.findIn X.K (.ref C) "__ne__" = some (some (.builtin "object.__ne__"))) (ho : PySem.W.mroIn X.K C (.type "object") = some true)
    (hf : PySem.W.isFn X.K (.ref f) = true) (hb : Binds X.K fd ps []) (hx : Passes CX X E) (hr : Room (n + 1) X.A) : OpR X (compareOp .NotEq) (rNeO X.K C sp E) := by
  intro pins s σ H x y v u Q I rx ry h
  obtain ⟨a, dx, fs, tb, rfl, ha, o, nf, hsp⟩ := h
  cases rx
  obtain ⟨mA, J, _⟩ := ins_get I.hok ha
  obtain ⟨od, J, _⟩ := J.look
  show wpAny (model X.prog X.w) X.A (richCompare .NotEq (.ref a) u) _ _ _
  have K0 := I.kIn
  have one : wpAny (model X.prog X.w) X.A (tryCompare (.ref a) (cmpInfo .NotEq).2.1 u) (fun r s' => ∃ v, r = some v ∧ EP X pins σ Q v s') X.xe s := by
    unfold tryCompare
    refine wpAny_bind (NtL.csib (id := "object.__ne__") (J.type.andThen (PySem.W.looks_findIn K0 hn)) (bind_ne _) ?_)
    refine wpAny_call (codeAny_call_builtin PySem.F.slot_object_ne.plain PySem.F.entry_object_ne (@PySem.W.check_slot (model X.prog X.w) _ _ _ "object.__ne__" "object" "__ne__" (.ref a) [u] [] _ (by decide +kernel) (by decide +kernel) (J.type.andThen (PySem.W.looks_mroIn K0 ho)) (PySem.F.args_object_ne_2 _ _) ?_))
    unfold Builtin.«object.__ne__»
    refine wpAny_bind (m := slotArgs "__ne__" 1 _) (wpAny_pure ?_)
    refine wpAny_bind (wpAny_cRoomFor hr.in1.units0 ?_)
    refine wpAny_bind (PySem.W.ifBound_K (name := "__eq__") K0 J hs hf (thn (run_in F hb hx (Sub.in1 ⟨hr, rfl⟩) I (.cons (show RelV (.ref _) (.ref _) from rfl) (.cons ry .nil)) hsp) fun r s' z => ?_))
    obtain ⟨v, H', I', rv, b, rfl, q⟩ := z
    cases rv
    refine wpAny_bind (wpAny_truthy_bool ?_)
    exact wpAny_pure (wpAny_pure ⟨_, rfl, .bl (!b), H', I', rfl, q⟩)
  unfold richCompare
  simp only [oneThing_ref]
  refine wpAny_holding (wpAny_bind (wpAny_cRoomFor hr.units0 ?_))
  refine wpAny_bind (J.type.here (wpAny_bind ((o.look I ry).here ?_)))
  split
  · rename_i q
    have e : PySem.W.subIn X.K tb (.ref C) = some false := by
      rcases Bool.or_eq_true_iff.mp nf with e | e
      · rw [beq_iff_eq.mp e] at q; simp at q
      · exact beq_iff_eq.mp e
    refine wpAny_bind ((PySem.W.looks_subIn K0 e).here ?_)
    simp only [Bool.false_eq_true, if_false]
    refine wpAny_bind (wpAny_mono one (fun r s' z => ?_) fun _ _ e => e)
    obtain ⟨v, rfl, hq⟩ := z
    exact wpAny_pure hq
  · refine wpAny_bind (wpAny_pure ?_)
    simp only [Bool.false_eq_true, if_false]
    refine wpAny_bind (wpAny_mono one (fun r s' z => ?_) fun _ _ e => e)
    obtain ⟨v, rfl, hq⟩ := z
    exact wpAny_pure hq
/-- len(o) -/
def rLenO (C : Addr) (sp : Sp) (E : XK) : List V → Hp → VK → Prop := fun xs H Q => ∃ a dx fs, xs = [.ref a] ∧ H a = some (.ins C dx fs) ∧ sp [.ref a] H (fun v H' => ∃ n : Nat, v = .int n ∧ (n : Int) < 2 ^ 63 ∧ Q (.int n) H') E
theorem call_lenO (F : FnOk X.prog X.w X.K X.mg X.base CX n f fd ps sp) (hs : PySem.W.findIn X.K (.ref C) "__len__" = some (some (.ref f))) (hf : PySem.W.isFn X.K (.ref f) = true) (hb : Binds X.K fd ps []) (hx : Passes CX X E) (hr : Room (n + 1) X.A) : CallR X (.builtin "len") (rLenO C sp E) := by
  intro pins s σ H xs us Q I r h
  obtain ⟨a, dx, fs, rfl, ha, hsp⟩ := h
  obtain ⟨u, rfl, rx⟩ := vals1 r
  cases rx
  obtain ⟨mA, J, _⟩ := ins_get I.hok ha
  obtain ⟨od, J, _⟩ := J.look
  obtain ⟨m, hF⟩ := I.fr
  refine PySem.W.len_K hF I.ok.mod.kin J hs hf (thn (run_in F hb hx (Sub.in1 ⟨hr, rfl⟩) I (.cons (show RelV (.ref _) (.ref _) from rfl) .nil) hsp) fun r s' z => ?_)
  obtain ⟨v, H', I', rv, k, rfl, hk, q⟩ := z
  obtain ⟨t, rfl⟩ := rv
  exact ⟨⟨by omega, hk⟩, .int k, H', I'.tok _, ⟨_, rfl⟩, q⟩
/-- the truth of o by its __len__ -/
theorem truthy_O {a dx : Addr} {fs : List (Str × V)} (F : FnOk X.prog X.w X.K X.mg X.base CX n f fd ps sp) (hs : PySem.W.findIn X.K (.ref C) "__len__" = some (some (.ref f))) (hn : PySem.W.findIn X.K (.ref C) "__bool__" = some none) (hf : PySem.W.isFn X.K (.ref f) = true) (hb : Binds X.K fd ps []) (hx : Passes CX X E) (sb : Sub X (n + 1) A)
    (I : Inv X pins σ H s) (ha : H a = some (.ins C dx fs)) {Qb : Bool → Shared → Prop} (hsp : sp [.ref a] H (fun v H' => ∃ n : Nat, v = .int n ∧ (n : Int) < 2 ^ 63 ∧ ∀ s', Inv X pins σ H' s' → Qb (n != 0) s') E) : wpAny (model X.prog X.w) A (truthy (.ref a)) Qb X.xe s := by
  obtain ⟨mA, J, _⟩ := ins_get I.hok ha
  obtain ⟨od, J, _⟩ := J.look
  have K0 := I.kIn
  unfold truthy
  refine wpAny_bind (m := callSpecial? (.ref a) (Str.ofString "__bool__")) (wpAny_bind (wpAny_bind (J.type.here ((PySem.W.looks_findIn K0 hn).here (wpAny_pure ?_)))))
  refine wpAny_bind (wpAny_bind (J.type.here ((PySem.W.looks_findIn K0 hs).here ?_)))
  show wpAny _ _ (if (some (Value.ref f)).isNone = true then _ else _) _ _ _
  rw [if_neg (by simp)]
  refine wpAny_bind (wpAny_runValue (codeAny_builtin PySem.entry_len ?_))
  rw [Around.under_plainId PySem.plain_len _]
  unfold Builtin.«len»
  refine wpAny_bind (m := oneArg "len" _) (wpAny_pure ?_)
  refine wpAny_bind (m := callSpecial? (.ref a) (Str.ofString "__len__")) (PySem.W.special_fn K0 J hs (beq_iff_eq.mp hf) (thn (run_in F hb hx sb.in1 I (.cons (show RelV (.ref _) (.ref _) from rfl) .nil) hsp) fun r s' z => ?_))
  obtain ⟨v, H', I', rv, k, rfl, hk, q⟩ := z
  obtain ⟨t, rfl⟩ := rv
  refine wpAny_bind (wpAny_holding (wpAny_pure ?_))
  refine wpAny_bind (wpAny_letGo ?_)
  show wpAny _ _ (if (k : Int) < 0 then _ else _) _ _ _
  rw [if_neg (by omega)]
  show wpAny _ _ (if (k : Int) ≥ 2 ^ 63 then _ else _) _ _ _
  rw [if_neg (by omega)]
  refine wpAny_bind (wpAny_mkInt (wpAny_pure ?_))
  refine wpAny_pure ?_
  have e : ((k : Int) != 0) = (k != 0) := by
    by_cases h : k = 0
    · subst h
      rfl
    · have h2 : (k : Int) ≠ 0 := by omega
      rw [bne_iff_ne.mpr h, bne_iff_ne.mpr h2]
  rw [e]
  exact q _ (I'.tok _)
/-- repr(o), str(o) -/
def rStrO (C : Addr) (sp : Sp) (E : XK) : List V → Hp → VK → Prop := fun xs H Q => ∃ a dx fs, xs = [.ref a] ∧ H a = some (.ins C dx fs) ∧ sp [.ref a] H (fun v H' => ∃ z, v = .str z ∧ Q (.str z) H') E
theorem call_reprO (F : FnOk X.prog X.w X.K X.mg X.base CX n f fd ps sp) (hs : PySem.W.findIn X.K (.ref C) "__repr__" = some (some (.ref f))) (hf : PySem.W.isFn X.K (.ref f) = true) (hb : Binds X.K fd ps []) (hx : Passes CX X E) (hr : Room (n + 1) X.A) : CallR X (.builtin "repr") (rStrO C sp E) := by
  intro pins s σ H xs us Q I r h
  obtain ⟨a, dx, fs, rfl, ha, hsp⟩ := h
  obtain ⟨u, rfl, rx⟩ := vals1 r
  cases rx
  obtain ⟨mA, J, _⟩ := ins_get I.hok ha
  obtain ⟨od, J, _⟩ := J.look
  obtain ⟨m, hF⟩ := I.fr
  refine PySem.W.repr_K hr.in1.units0 hF I.ok.mod.kin J hs hf (thn (run_in F hb hx (Sub.in1 ⟨hr, rfl⟩) I (.cons (show RelV (.ref _) (.ref _) from rfl) .nil) hsp) fun r s' z => ?_)
  obtain ⟨v, H', I', rv, k, rfl, q⟩ := z
  obtain ⟨t, rfl⟩ := rv
  exact ⟨.str k, H', I', ⟨_, rfl⟩, q⟩
theorem call_strO (F : FnOk X.prog X.w X.K X.mg X.base CX n f fd ps sp) (hs : PySem.W.findIn X.K (.ref C) "__str__" = some (some (.ref f))) (hf : PySem.W.isFn X.K (.ref f) = true) (hb : Binds X.K fd ps []) (hx : Passes CX X E) (hr : Room (n + 2) X.A) : CallR X (.type "str") (rStrO C sp E) := by
  intro pins s σ H xs us Q I r h
  obtain ⟨a, dx, fs, rfl, ha, hsp⟩ := h
  obtain ⟨u, rfl, rx⟩ := vals1 r
  cases rx
  obtain ⟨mA, J, _⟩ := ins_get I.hok ha
  obtain ⟨od, J, _⟩ := J.look
  refine PySem.W.kso_call hr.in1.in1.units0 I.kIn J hs hf (thn (run_in F hb hx (Sub.in1 (Sub.in1 ⟨hr, rfl⟩)) I (.cons (show RelV (.ref _) (.ref _) from rfl) .nil) hsp) fun r s' z => ?_)
  obtain ⟨v, H', I', rv, k, rfl, q⟩ := z
  obtain ⟨t, rfl⟩ := rv
  exact ⟨.str k, H', I', ⟨_, rfl⟩, q⟩
end
end Lt
namespace Lt
open PySem PySem.Spec PyProof.Rows L2
/-- an own class: what isinstance asks -/
structure OwnC (K : PySem.W.Frag) (C : Addr) : Prop where
  cl : Cls K C
  ha : PySem.W.findIn K (.ref C) "__class__" = some (some (.builtin "object.__class__"))
  hn : PySem.W.specialIn K (.builtin "object.__class__") "__get__" = some (some (.builtin "getset_descriptor.__get__"))
  ht : PySem.W.takesIn K (.builtin "object.__class__") = some true
  mo : PySem.W.mroIn K C (.type "object") = some true
  ty : PySem.W.typeIn K (.ref C) = some (.type "type")
section
variable {K : PySem.W.Frag} {C : Addr} {H : Hp} {a dx : Addr} {fs : List (Str × V)}
theorem OwnC.tyx (o : OwnC K C) (h : H a = some (.ins C dx fs)) : TyX K H (.ref a) (.ref C) := .base (.ins h o.cl o.ha o.hn o.ht o.mo)
theorem OwnC.self (o : OwnC K C) : PySem.W.kitOne K (.ref C) (.ref C) = some true := if_pos (beq_self_eq_true _)
theorem OwnC.other (o : OwnC K C) {T : String} (h : PySem.W.subIn K (.type T) (.ref C) = some false) : PySem.W.kitOne K (.type T) (.ref C) = some false := by
  obtain ⟨cd, hc, _⟩ := PySem.W.any_some o.cl.hd
  have e2 : ((PySem.W.clsIn K C).isSome && PySem.W.typeIn K (.ref C) == some (.type "type")) = true := by
    rw [hc, o.ty] <;> rfl
  unfold PySem.W.kitOne
  rw [if_neg (by
    intro z
    have := beq_iff_eq.mp z
    cases this)]
  show (if ((PySem.W.clsIn K C).isSome && PySem.W.typeIn K (.ref C) == some (.type "type")) = true then PySem.W.subIn K (.type T) (.ref C) else none) = some false
  rw [if_pos e2]
  exact h
theorem sub_list (K : PySem.W.Frag) (C : Addr) : PySem.W.subIn K (.type "list") (.ref C) = some false := by kernel_rfl
theorem sub_str (K : PySem.W.Frag) (C : Addr) : PySem.W.subIn K (.type "str") (.ref C) = some false := by kernel_rfl
theorem nf_self (K : PySem.W.Frag) (C : Addr) : PySem.W.notFirst K C (.ref C) = true := by
  unfold PySem.W.notFirst
  rw [beq_self_eq_true]
  rfl
theorem nf_list (K : PySem.W.Frag) (C : Addr) : PySem.W.notFirst K C (.type "list") = true := by
  unfold PySem.W.notFirst
  rw [sub_list]
  rfl
theorem nf_str (K : PySem.W.Frag) (C : Addr) : PySem.W.notFirst K C (.type "str") = true := by
  unfold PySem.W.notFirst
  rw [sub_str]
  rfl
end
end Lt
namespace Lt
open PySem PySem.Spec PyProof.Rows L2
section
variable {X : Cx}
/-- set(xs) of a list or a tuple of whole numbers -/
def rMkSet2 (K : PySem.W.Frag) (w : World) : List V → Hp → VK → Prop := fun vs H Q => ∃ (a : Addr) (ks : List Int), vs = [V.ref a] ∧ (SqL K H a (ks.map V.int) ∨ SqT K H a (ks.map V.int)) ∧ ks.length ≤ 1000 ∧
  ∀ p c, H p = none → c ≤ ks.length → Q (.ref p) (upd H p (SetO w p (fun j => decide (j ∈ ks)) c))
theorem cr_set2 (hc : X.calm = true) : CallR X (.type "set") (rMkSet2 X.K X.w) := by
  intro pins s σ H vs us Q I r hw
  obtain ⟨a, ks, rfl, hx, hk, hq⟩ := hw
  rcases hx with hx | hx
  · exact cr_setL hc pins s σ H _ us Q I r ⟨a, ks, rfl, hx, hk, hq⟩
  · obtain ⟨its, rv, pl, hz⟩ := I.tuple hx
    rw [Vals.ref1 r]
    refine call_set_tupI ks (I.ok.hd hc) (show s.heap.IsTuple a its.toArray from pl) (ints_of_vals rv) (by unfold scanBound; omega) fun g tk c R le kp => ?_
    exact ⟨.ref _, upd H s.heap.objs.size (SetO X.w s.heap.objs.size (fun j => decide (j ∈ ks)) c), I.laid (t' := tk) kp (Nat.le_refl _) (setO_new R), rfl, hq _ c (I.hok.fresh (Nat.le_refl _)) le⟩
end
section
variable {K : PySem.W.Frag} {L : List Asn} {H : Hp} {Q : VK} {a : Addr} {ks : List Int} {σ : L2.St}
/-- a list or a tuple of whole numbers that is handed in -/
def ArgI (K : PySem.W.Frag) (L : List Asn) (H : Hp) (a : Addr) (ks : List Int) : Prop := HasL L a (ks.map PyData.int) ∨ SqT K H a (ks.map V.int)
theorem s_sortSet2 {w : World} (hS : Hs L H) (k : ArgI K L H a ks) (h64 : ks.length < 64) (h : ∀ q H', Hs (isL q ((ascOf ks).map PyData.int) :: L) H' → Q (.ref q) H') : rMkSet2 K w [V.ref a] H fun x H1 => tNil σ H1 fun xs H2 => rSortedSet w (x :: xs) H2 Q := by
  have h1 : SqL K H a (ks.map V.int) ∨ SqT K H a (ks.map V.int) := by
    rcases k with k | k
    · exact .inl (SqL.of (k.ints hS))
    · exact .inr k
  refine ⟨a, ks, rfl, h1, by omega, fun p c np hc => ?_⟩
  show rSortedSet w [V.ref p] (upd H p _) Q
  refine ⟨p, _, c, rfl, upd_same, by omega, fun ns p2 h1 h2 h3 np2 => ?_⟩
  have e : ns = ascOf ks := asc_eq h1 fun k => (h2 k).trans (by simp)
  rw [e]
  exact h p2 _ ((hS.sub (same_new np)).newL np2 (DvAll.ints _))
end
end Lt
/-! sorted(a set of whole numbers), any size -/
namespace Lt
open PySem PySem.Spec PyProof.Rows L2
section
variable {P : Program} {w : World} {A : Around} {E : Value → Shared → Prop} {s : Shared} {a : Addr}
theorem sorted_setA {S : Int → Bool} {n : Nat} {Q : Value → Shared → Prop} (R : SetR w s.heap a S n) (hh : A.handled = none) (h64 : n ≤ 100000)
    (hQ : ∀ s' p (out : Array Value) (c : Nat) (ns : List Int), (∀ b o, s.heap.get? b = some o → s'.heap.get? b = some o) → s'.gens = s.gens → s'.os = s.os → s.heap.objs.size ≤ p →
      s'.heap.get? p = some (seqObj "list" out c) → IntsAre out.toList ns → ns.Pairwise (· < ·) → (∀ k, k ∈ ns ↔ S k = true) → ns.length = n → Q (.ref p) s') :
    wpAny (model P w) A (call (.builtin "sorted") [.ref a]) Q E s := by
  obtain ⟨o, es, ep, t, ho, hex, hd, g, nd, hm, hb, hf, hn, hr, hl⟩ := R
  refine Calls.call_function_entry kind_sorted plain_sorted entry_sorted (args_sorted1 _) ?_
  unfold Builtin.«sorted»
  refine wpAny_bind (m := checkCount "sorted" 1 1 _) (wpAny_pure ?_)
  refine wpAny_bind (collect_set (A := A.in1) hh ⟨o, ho, hex.1, hd⟩ hf hb hr hl fun s1 vs k1 hz g1 o1 pm => ?_)
  have hvl : vs.length = n := by rw [pm.length_eq, List.length_map, Array.length_toList]; exact hn
  have hI : IntsAre vs (vs.map Builtin.Re.reRawOf) := ints_of vs fun v hv => by
    obtain ⟨e, he, q⟩ := List.mem_map.mp (pm.mem_iff.mp hv)
    obtain ⟨k, tk, h1, _⟩ := g e he
    exact ⟨k, tk, by rw [← q]; exact h1⟩
  have pk : (vs.map Builtin.Re.reRawOf).Perm (es.toList.map keyOf) := by
    have q := pm.map Builtin.Re.reRawOf
    rw [List.map_map] at q
    exact q
  refine wpAny_bind (wpAny_newList ?_ (by rw [hvl, sizeLine_eq]; omega))
  have hoL : (s1.heap.push (seqObj "list" vs.toArray 0)).get? s1.heap.objs.size = some (seqObj "list" vs.toArray 0) := Heap.get?_push_size _ rfl
  refine wpAny_bind (wpAny_holding (wpAny_call_entry slot_list_sort ⟨_, hoL, rfl⟩ entry_list_sort (SrtO.list_sort_ord SrtO.swo_int hoL (by rw [hvl, sizeLine_eq]; omega) (fun h2 => SrtO.ints_sortable hI h2) fun out h1 h2 => ⟨_, rfl, ?_⟩) (args_list_sort _)))
  obtain ⟨a1, a2, a3⟩ := SrtO.ints_out hI h1 h2
  obtain ⟨c, hc⟩ := sortedHeap_at (vs := vs) (out := out.toArray) hoL
  have pn : (out.map SrtO.iv).Perm (es.toList.map keyOf) := a2.trans pk
  refine wpAny_pure ⟨_, rfl, hQ _ s1.heap.objs.size out.toArray c (out.map SrtO.iv) (fun b u e => ?_) g1 o1 hz hc a1 (lt_of_le_nodup _ a3 (pn.nodup_iff.mpr nd)) (fun k => by rw [pn.mem_iff, ← hm k]) ?_⟩
  · have q := k1 b u e
    have hlt := Heap.lt_size q
    show (sortedHeap (s1.heap.push (seqObj "list" vs.toArray 0)) s1.heap.objs.size vs out.toArray).get? b = some u
    rw [sortedHeap_old (Nat.ne_of_lt hlt) (by rw [size_push']; exact Nat.lt_succ_of_lt hlt)]
    exact Heap.get?_push_of_some _ q
  · rw [pn.length_eq, List.length_map, Array.length_toList]; exact hn
end
section
variable {X : Cx}
def rSortedSetA (w : World) : List V → Hp → VK → Prop := fun vs H Q => ∃ (a : Addr) (S : Int → Bool) (n : Nat), vs = [V.ref a] ∧ H a = some (SetO w a S n) ∧ n ≤ 100000 ∧
  ∀ (ns : List Int) (p : Addr), ns.Pairwise (· < ·) → (∀ k, k ∈ ns ↔ S k = true) → ns.length = n → H p = none → Q (.ref p) (upd H p (.lst (ns.map V.int)))
theorem cr_sortedSetA (hc : X.calm = true) : CallR X (.builtin "sorted") (rSortedSetA X.w) := by
  intro pins s σ H vs us Q I r h
  obtain ⟨a, S, n, rfl, ha, h64, q⟩ := h
  have R := setO_get I ha
  rw [Vals.ref1 r]
  refine sorted_setA R (I.ok.hd hc) h64 fun s' p out c ns k g o hp hg hi hs hm hl => ?_
  have hlen : (ns.map V.int).length ≤ sizeLine := by rw [List.length_map, hl, sizeLine_eq]; omega
  have hn : H p = none := I.hok.fresh hp
  have J : Inv X pins σ (upd H p (.lst (ns.map V.int))) { s with heap := s'.heap, gens := s'.gens, drawn := s'.drawn, toks := s'.toks } :=
    I.call (ch := []) (Un.laid k hp hn) (I.hok.laid k hp ⟨hlen, out.toList, c, vals_of_ints hi, hg⟩) (by rw [g]; exact I.bare) (fun _ z => nomatch z)
  have e : s' = { s with heap := s'.heap, gens := s'.gens, drawn := s'.drawn, toks := s'.toks } := by
    cases s'
    cases s
    cases o
    rfl
  rw [e]
  exact ⟨.ref p, _, J, rfl, q ns p hs hm hl hn⟩
end
section
variable {K : PySem.W.Frag} {L : List Asn} {H : Hp} {Q : VK} {a : Addr} {ks : List Int} {σ : L2.St}
theorem s_sortSetA {w : World} (hS : Hs L H) (k : ArgI K L H a ks) (hl : ks.length ≤ 1000) (h : ∀ q H', Hs (isL q ((ascOf ks).map PyData.int) :: L) H' → Q (.ref q) H') : rMkSet2 K w [V.ref a] H fun x H1 => tNil σ H1 fun xs H2 => rSortedSetA w (x :: xs) H2 Q := by
  have h1 : SqL K H a (ks.map V.int) ∨ SqT K H a (ks.map V.int) := by
    rcases k with k | k
    · exact .inl (SqL.of (k.ints hS))
    · exact .inr k
  refine ⟨a, ks, rfl, h1, hl, fun p c np hc => ?_⟩
  show rSortedSetA w [V.ref p] (upd H p _) Q
  refine ⟨p, _, c, rfl, upd_same, by omega, fun ns p2 h1 h2 h3 np2 => ?_⟩
  have e : ns = ascOf ks := asc_eq h1 fun k => (h2 k).trans (by simp)
  rw [e]
  exact h p2 _ ((hS.sub (same_new np)).newL np2 (DvAll.ints _))
end
end Lt
namespace Lt
theorem asc_ext {xs ys : List Int} (h : ∀ k, k ∈ xs ↔ k ∈ ys) : ascOf xs = ascOf ys := asc_one (asc_asc xs) (asc_asc ys) fun k => by rw [mem_asc, mem_asc, h]
theorem asc_idem (xs : List Int) : ascOf (ascOf xs) = ascOf xs := asc_ext fun k => mem_asc
theorem asc_of_asc {xs : List Int} (h : xs.Pairwise (· < ·)) : ascOf xs = xs := asc_one (asc_asc xs) h fun k => mem_asc
theorem sortI_nd {xs : List Int} (h : xs.Nodup) : sortI xs = ascOf xs := by
  have p := sortI_perm xs
  refine asc_one ?_ (asc_asc xs) fun k => by rw [p.mem_iff, mem_asc]
  have nd : (sortI xs).Nodup := p.symm.nodup h
  exact (sortI_asc xs).imp₂ (fun a b h1 h2 => by omega) nd
theorem asc_nd (xs : List Int) : (ascOf xs).Nodup := (asc_asc xs).imp fun h e => by omega
theorem strOf_asc (xs : List Int) : strOf (ascOf xs) = strOf xs := by
  unfold strOf
  rw [asc_idem]
end Lt
/-! a slot stored, the slots written out -/
namespace Lt
open PySem PySem.Spec PyProof.Rows L2
section
variable {v : V} {H : Hp} {Qs : L2.St → Hp → Prop} {σ : L2.St} {te : TE} {ti : TIp} {D : Ends} {x : V}
theorem gn0 {a0 : Option V} (h : Qs (some v :: σ) H) : gName 0 v (a0 :: σ) H Qs := h
theorem ag0 (h : te (some x :: σ) H fun y H1 => ti x y H1 fun z H2 => D.nx (some z :: σ) H2) : tAug 0 te ti D (some x :: σ) H := ⟨x, rfl, h⟩
theorem gn1 {a0 a1 : Option V} (h : Qs (a0 :: some v :: σ) H) : gName 1 v (a0 :: a1 :: σ) H Qs := h
theorem ag1 {a0 : Option V} (h : te (a0 :: some x :: σ) H fun y H1 => ti x y H1 fun z H2 => D.nx (a0 :: some z :: σ) H2) : tAug 1 te ti D (a0 :: some x :: σ) H := ⟨x, rfl, h⟩
theorem gn2 {a0 a1 a2 : Option V} (h : Qs (a0 :: a1 :: some v :: σ) H) : gName 2 v (a0 :: a1 :: a2 :: σ) H Qs := h
theorem ag2 {a0 a1 : Option V} (h : te (a0 :: a1 :: some x :: σ) H fun y H1 => ti x y H1 fun z H2 => D.nx (a0 :: a1 :: some z :: σ) H2) : tAug 2 te ti D (a0 :: a1 :: some x :: σ) H := ⟨x, rfl, h⟩
theorem gn3 {a0 a1 a2 a3 : Option V} (h : Qs (a0 :: a1 :: a2 :: some v :: σ) H) : gName 3 v (a0 :: a1 :: a2 :: a3 :: σ) H Qs := h
theorem ag3 {a0 a1 a2 : Option V} (h : te (a0 :: a1 :: a2 :: some x :: σ) H fun y H1 => ti x y H1 fun z H2 => D.nx (a0 :: a1 :: a2 :: some z :: σ) H2) : tAug 3 te ti D (a0 :: a1 :: a2 :: some x :: σ) H := ⟨x, rfl, h⟩
theorem gn4 {a0 a1 a2 a3 a4 : Option V} (h : Qs (a0 :: a1 :: a2 :: a3 :: some v :: σ) H) : gName 4 v (a0 :: a1 :: a2 :: a3 :: a4 :: σ) H Qs := h
theorem ag4 {a0 a1 a2 a3 : Option V} (h : te (a0 :: a1 :: a2 :: a3 :: some x :: σ) H fun y H1 => ti x y H1 fun z H2 => D.nx (a0 :: a1 :: a2 :: a3 :: some z :: σ) H2) : tAug 4 te ti D (a0 :: a1 :: a2 :: a3 :: some x :: σ) H := ⟨x, rfl, h⟩
theorem gn5 {a0 a1 a2 a3 a4 a5 : Option V} (h : Qs (a0 :: a1 :: a2 :: a3 :: a4 :: some v :: σ) H) : gName 5 v (a0 :: a1 :: a2 :: a3 :: a4 :: a5 :: σ) H Qs := h
theorem ag5 {a0 a1 a2 a3 a4 : Option V} (h : te (a0 :: a1 :: a2 :: a3 :: a4 :: some x :: σ) H fun y H1 => ti x y H1 fun z H2 => D.nx (a0 :: a1 :: a2 :: a3 :: a4 :: some z :: σ) H2) : tAug 5 te ti D (a0 :: a1 :: a2 :: a3 :: a4 :: some x :: σ) H := ⟨x, rfl, h⟩
theorem gn6 {a0 a1 a2 a3 a4 a5 a6 : Option V} (h : Qs (a0 :: a1 :: a2 :: a3 :: a4 :: a5 :: some v :: σ) H) : gName 6 v (a0 :: a1 :: a2 :: a3 :: a4 :: a5 :: a6 :: σ) H Qs := h
theorem ag6 {a0 a1 a2 a3 a4 a5 : Option V} (h : te (a0 :: a1 :: a2 :: a3 :: a4 :: a5 :: some x :: σ) H fun y H1 => ti x y H1 fun z H2 => D.nx (a0 :: a1 :: a2 :: a3 :: a4 :: a5 :: some z :: σ) H2) : tAug 6 te ti D (a0 :: a1 :: a2 :: a3 :: a4 :: a5 :: some x :: σ) H := ⟨x, rfl, h⟩
theorem gn7 {a0 a1 a2 a3 a4 a5 a6 a7 : Option V} (h : Qs (a0 :: a1 :: a2 :: a3 :: a4 :: a5 :: a6 :: some v :: σ) H) : gName 7 v (a0 :: a1 :: a2 :: a3 :: a4 :: a5 :: a6 :: a7 :: σ) H Qs := h
theorem ag7 {a0 a1 a2 a3 a4 a5 a6 : Option V} (h : te (a0 :: a1 :: a2 :: a3 :: a4 :: a5 :: a6 :: some x :: σ) H fun y H1 => ti x y H1 fun z H2 => D.nx (a0 :: a1 :: a2 :: a3 :: a4 :: a5 :: a6 :: some z :: σ) H2) : tAug 7 te ti D (a0 :: a1 :: a2 :: a3 :: a4 :: a5 :: a6 :: some x :: σ) H := ⟨x, rfl, h⟩
theorem gn8 {a0 a1 a2 a3 a4 a5 a6 a7 a8 : Option V} (h : Qs (a0 :: a1 :: a2 :: a3 :: a4 :: a5 :: a6 :: a7 :: some v :: σ) H) : gName 8 v (a0 :: a1 :: a2 :: a3 :: a4 :: a5 :: a6 :: a7 :: a8 :: σ) H Qs := h
theorem ag8 {a0 a1 a2 a3 a4 a5 a6 a7 : Option V} (h : te (a0 :: a1 :: a2 :: a3 :: a4 :: a5 :: a6 :: a7 :: some x :: σ) H fun y H1 => ti x y H1 fun z H2 => D.nx (a0 :: a1 :: a2 :: a3 :: a4 :: a5 :: a6 :: a7 :: some z :: σ) H2) : tAug 8 te ti D (a0 :: a1 :: a2 :: a3 :: a4 :: a5 :: a6 :: a7 :: some x :: σ) H := ⟨x, rfl, h⟩
theorem gn9 {a0 a1 a2 a3 a4 a5 a6 a7 a8 a9 : Option V} (h : Qs (a0 :: a1 :: a2 :: a3 :: a4 :: a5 :: a6 :: a7 :: a8 :: some v :: σ) H) : gName 9 v (a0 :: a1 :: a2 :: a3 :: a4 :: a5 :: a6 :: a7 :: a8 :: a9 :: σ) H Qs := h
theorem ag9 {a0 a1 a2 a3 a4 a5 a6 a7 a8 : Option V} (h : te (a0 :: a1 :: a2 :: a3 :: a4 :: a5 :: a6 :: a7 :: a8 :: some x :: σ) H fun y H1 => ti x y H1 fun z H2 => D.nx (a0 :: a1 :: a2 :: a3 :: a4 :: a5 :: a6 :: a7 :: a8 :: some z :: σ) H2) : tAug 9 te ti D (a0 :: a1 :: a2 :: a3 :: a4 :: a5 :: a6 :: a7 :: a8 :: some x :: σ) H := ⟨x, rfl, h⟩
theorem gn10 {a0 a1 a2 a3 a4 a5 a6 a7 a8 a9 a10 : Option V} (h : Qs (a0 :: a1 :: a2 :: a3 :: a4 :: a5 :: a6 :: a7 :: a8 :: a9 :: some v :: σ) H) : gName 10 v (a0 :: a1 :: a2 :: a3 :: a4 :: a5 :: a6 :: a7 :: a8 :: a9 :: a10 :: σ) H Qs := h
theorem ag10 {a0 a1 a2 a3 a4 a5 a6 a7 a8 a9 : Option V} (h : te (a0 :: a1 :: a2 :: a3 :: a4 :: a5 :: a6 :: a7 :: a8 :: a9 :: some x :: σ) H fun y H1 => ti x y H1 fun z H2 => D.nx (a0 :: a1 :: a2 :: a3 :: a4 :: a5 :: a6 :: a7 :: a8 :: a9 :: some z :: σ) H2) : tAug 10 te ti D (a0 :: a1 :: a2 :: a3 :: a4 :: a5 :: a6 :: a7 :: a8 :: a9 :: some x :: σ) H := ⟨x, rfl, h⟩
theorem gn11 {a0 a1 a2 a3 a4 a5 a6 a7 a8 a9 a10 a11 : Option V} (h : Qs (a0 :: a1 :: a2 :: a3 :: a4 :: a5 :: a6 :: a7 :: a8 :: a9 :: a10 :: some v :: σ) H) : gName 11 v (a0 :: a1 :: a2 :: a3 :: a4 :: a5 :: a6 :: a7 :: a8 :: a9 :: a10 :: a11 :: σ) H Qs := h
theorem ag11 {a0 a1 a2 a3 a4 a5 a6 a7 a8 a9 a10 : Option V} (h : te (a0 :: a1 :: a2 :: a3 :: a4 :: a5 :: a6 :: a7 :: a8 :: a9 :: a10 :: some x :: σ) H fun y H1 => ti x y H1 fun z H2 => D.nx (a0 :: a1 :: a2 :: a3 :: a4 :: a5 :: a6 :: a7 :: a8 :: a9 :: a10 :: some z :: σ) H2) : tAug 11 te ti D (a0 :: a1 :: a2 :: a3 :: a4 :: a5 :: a6 :: a7 :: a8 :: a9 :: a10 :: some x :: σ) H := ⟨x, rfl, h⟩
theorem gn12 {a0 a1 a2 a3 a4 a5 a6 a7 a8 a9 a10 a11 a12 : Option V} (h : Qs (a0 :: a1 :: a2 :: a3 :: a4 :: a5 :: a6 :: a7 :: a8 :: a9 :: a10 :: a11 :: some v :: σ) H) : gName 12 v (a0 :: a1 :: a2 :: a3 :: a4 :: a5 :: a6 :: a7 :: a8 :: a9 :: a10 :: a11 :: a12 :: σ) H Qs := h
theorem ag12 {a0 a1 a2 a3 a4 a5 a6 a7 a8 a9 a10 a11 : Option V} (h : te (a0 :: a1 :: a2 :: a3 :: a4 :: a5 :: a6 :: a7 :: a8 :: a9 :: a10 :: a11 :: some x :: σ) H fun y H1 => ti x y H1 fun z H2 => D.nx (a0 :: a1 :: a2 :: a3 :: a4 :: a5 :: a6 :: a7 :: a8 :: a9 :: a10 :: a11 :: some z :: σ) H2) : tAug 12 te ti D (a0 :: a1 :: a2 :: a3 :: a4 :: a5 :: a6 :: a7 :: a8 :: a9 :: a10 :: a11 :: some x :: σ) H := ⟨x, rfl, h⟩
theorem gn13 {a0 a1 a2 a3 a4 a5 a6 a7 a8 a9 a10 a11 a12 a13 : Option V} (h : Qs (a0 :: a1 :: a2 :: a3 :: a4 :: a5 :: a6 :: a7 :: a8 :: a9 :: a10 :: a11 :: a12 :: some v :: σ) H) : gName 13 v (a0 :: a1 :: a2 :: a3 :: a4 :: a5 :: a6 :: a7 :: a8 :: a9 :: a10 :: a11 :: a12 :: a13 :: σ) H Qs := h
theorem ag13 {a0 a1 a2 a3 a4 a5 a6 a7 a8 a9 a10 a11 a12 : Option V} (h : te (a0 :: a1 :: a2 :: a3 :: a4 :: a5 :: a6 :: a7 :: a8 :: a9 :: a10 :: a11 :: a12 :: some x :: σ) H fun y H1 => ti x y H1 fun z H2 => D.nx (a0 :: a1 :: a2 :: a3 :: a4 :: a5 :: a6 :: a7 :: a8 :: a9 :: a10 :: a11 :: a12 :: some z :: σ) H2) : tAug 13 te ti D (a0 :: a1 :: a2 :: a3 :: a4 :: a5 :: a6 :: a7 :: a8 :: a9 :: a10 :: a11 :: a12 :: some x :: σ) H := ⟨x, rfl, h⟩
theorem gn14 {a0 a1 a2 a3 a4 a5 a6 a7 a8 a9 a10 a11 a12 a13 a14 : Option V} (h : Qs (a0 :: a1 :: a2 :: a3 :: a4 :: a5 :: a6 :: a7 :: a8 :: a9 :: a10 :: a11 :: a12 :: a13 :: some v :: σ) H) : gName 14 v (a0 :: a1 :: a2 :: a3 :: a4 :: a5 :: a6 :: a7 :: a8 :: a9 :: a10 :: a11 :: a12 :: a13 :: a14 :: σ) H Qs := h
theorem ag14 {a0 a1 a2 a3 a4 a5 a6 a7 a8 a9 a10 a11 a12 a13 : Option V} (h : te (a0 :: a1 :: a2 :: a3 :: a4 :: a5 :: a6 :: a7 :: a8 :: a9 :: a10 :: a11 :: a12 :: a13 :: some x :: σ) H fun y H1 => ti x y H1 fun z H2 => D.nx (a0 :: a1 :: a2 :: a3 :: a4 :: a5 :: a6 :: a7 :: a8 :: a9 :: a10 :: a11 :: a12 :: a13 :: some z :: σ) H2) : tAug 14 te ti D (a0 :: a1 :: a2 :: a3 :: a4 :: a5 :: a6 :: a7 :: a8 :: a9 :: a10 :: a11 :: a12 :: a13 :: some x :: σ) H := ⟨x, rfl, h⟩
theorem gn15 {a0 a1 a2 a3 a4 a5 a6 a7 a8 a9 a10 a11 a12 a13 a14 a15 : Option V} (h : Qs (a0 :: a1 :: a2 :: a3 :: a4 :: a5 :: a6 :: a7 :: a8 :: a9 :: a10 :: a11 :: a12 :: a13 :: a14 :: some v :: σ) H) : gName 15 v (a0 :: a1 :: a2 :: a3 :: a4 :: a5 :: a6 :: a7 :: a8 :: a9 :: a10 :: a11 :: a12 :: a13 :: a14 :: a15 :: σ) H Qs := h
theorem ag15 {a0 a1 a2 a3 a4 a5 a6 a7 a8 a9 a10 a11 a12 a13 a14 : Option V} (h : te (a0 :: a1 :: a2 :: a3 :: a4 :: a5 :: a6 :: a7 :: a8 :: a9 :: a10 :: a11 :: a12 :: a13 :: a14 :: some x :: σ) H fun y H1 => ti x y H1 fun z H2 => D.nx (a0 :: a1 :: a2 :: a3 :: a4 :: a5 :: a6 :: a7 :: a8 :: a9 :: a10 :: a11 :: a12 :: a13 :: a14 :: some z :: σ) H2) : tAug 15 te ti D (a0 :: a1 :: a2 :: a3 :: a4 :: a5 :: a6 :: a7 :: a8 :: a9 :: a10 :: a11 :: a12 :: a13 :: a14 :: some x :: σ) H := ⟨x, rfl, h⟩
theorem gn16 {a0 a1 a2 a3 a4 a5 a6 a7 a8 a9 a10 a11 a12 a13 a14 a15 a16 : Option V} (h : Qs (a0 :: a1 :: a2 :: a3 :: a4 :: a5 :: a6 :: a7 :: a8 :: a9 :: a10 :: a11 :: a12 :: a13 :: a14 :: a15 :: some v :: σ) H) : gName 16 v (a0 :: a1 :: a2 :: a3 :: a4 :: a5 :: a6 :: a7 :: a8 :: a9 :: a10 :: a11 :: a12 :: a13 :: a14 :: a15 :: a16 :: σ) H Qs := h
theorem ag16 {a0 a1 a2 a3 a4 a5 a6 a7 a8 a9 a10 a11 a12 a13 a14 a15 : Option V} (h : te (a0 :: a1 :: a2 :: a3 :: a4 :: a5 :: a6 :: a7 :: a8 :: a9 :: a10 :: a11 :: a12 :: a13 :: a14 :: a15 :: some x :: σ) H fun y H1 => ti x y H1 fun z H2 => D.nx (a0 :: a1 :: a2 :: a3 :: a4 :: a5 :: a6 :: a7 :: a8 :: a9 :: a10 :: a11 :: a12 :: a13 :: a14 :: a15 :: some z :: σ) H2) : tAug 16 te ti D (a0 :: a1 :: a2 :: a3 :: a4 :: a5 :: a6 :: a7 :: a8 :: a9 :: a10 :: a11 :: a12 :: a13 :: a14 :: a15 :: some x :: σ) H := ⟨x, rfl, h⟩
theorem gn17 {a0 a1 a2 a3 a4 a5 a6 a7 a8 a9 a10 a11 a12 a13 a14 a15 a16 a17 : Option V} (h : Qs (a0 :: a1 :: a2 :: a3 :: a4 :: a5 :: a6 :: a7 :: a8 :: a9 :: a10 :: a11 :: a12 :: a13 :: a14 :: a15 :: a16 :: some v :: σ) H) : gName 17 v (a0 :: a1 :: a2 :: a3 :: a4 :: a5 :: a6 :: a7 :: a8 :: a9 :: a10 :: a11 :: a12 :: a13 :: a14 :: a15 :: a16 :: a17 :: σ) H Qs := h
theorem ag17 {a0 a1 a2 a3 a4 a5 a6 a7 a8 a9 a10 a11 a12 a13 a14 a15 a16 : Option V} (h : te (a0 :: a1 :: a2 :: a3 :: a4 :: a5 :: a6 :: a7 :: a8 :: a9 :: a10 :: a11 :: a12 :: a13 :: a14 :: a15 :: a16 :: some x :: σ) H fun y H1 => ti x y H1 fun z H2 => D.nx (a0 :: a1 :: a2 :: a3 :: a4 :: a5 :: a6 :: a7 :: a8 :: a9 :: a10 :: a11 :: a12 :: a13 :: a14 :: a15 :: a16 :: some z :: σ) H2) : tAug 17 te ti D (a0 :: a1 :: a2 :: a3 :: a4 :: a5 :: a6 :: a7 :: a8 :: a9 :: a10 :: a11 :: a12 :: a13 :: a14 :: a15 :: a16 :: some x :: σ) H := ⟨x, rfl, h⟩
theorem gn18 {a0 a1 a2 a3 a4 a5 a6 a7 a8 a9 a10 a11 a12 a13 a14 a15 a16 a17 a18 : Option V} (h : Qs (a0 :: a1 :: a2 :: a3 :: a4 :: a5 :: a6 :: a7 :: a8 :: a9 :: a10 :: a11 :: a12 :: a13 :: a14 :: a15 :: a16 :: a17 :: some v :: σ) H) : gName 18 v (a0 :: a1 :: a2 :: a3 :: a4 :: a5 :: a6 :: a7 :: a8 :: a9 :: a10 :: a11 :: a12 :: a13 :: a14 :: a15 :: a16 :: a17 :: a18 :: σ) H Qs := h
theorem ag18 {a0 a1 a2 a3 a4 a5 a6 a7 a8 a9 a10 a11 a12 a13 a14 a15 a16 a17 : Option V} (h : te (a0 :: a1 :: a2 :: a3 :: a4 :: a5 :: a6 :: a7 :: a8 :: a9 :: a10 :: a11 :: a12 :: a13 :: a14 :: a15 :: a16 :: a17 :: some x :: σ) H fun y H1 => ti x y H1 fun z H2 => D.nx (a0 :: a1 :: a2 :: a3 :: a4 :: a5 :: a6 :: a7 :: a8 :: a9 :: a10 :: a11 :: a12 :: a13 :: a14 :: a15 :: a16 :: a17 :: some z :: σ) H2) : tAug 18 te ti D (a0 :: a1 :: a2 :: a3 :: a4 :: a5 :: a6 :: a7 :: a8 :: a9 :: a10 :: a11 :: a12 :: a13 :: a14 :: a15 :: a16 :: a17 :: some x :: σ) H := ⟨x, rfl, h⟩
theorem gn19 {a0 a1 a2 a3 a4 a5 a6 a7 a8 a9 a10 a11 a12 a13 a14 a15 a16 a17 a18 a19 : Option V} (h : Qs (a0 :: a1 :: a2 :: a3 :: a4 :: a5 :: a6 :: a7 :: a8 :: a9 :: a10 :: a11 :: a12 :: a13 :: a14 :: a15 :: a16 :: a17 :: a18 :: some v :: σ) H) : gName 19 v (a0 :: a1 :: a2 :: a3 :: a4 :: a5 :: a6 :: a7 :: a8 :: a9 :: a10 :: a11 :: a12 :: a13 :: a14 :: a15 :: a16 :: a17 :: a18 :: a19 :: σ) H Qs := h
theorem ag19 {a0 a1 a2 a3 a4 a5 a6 a7 a8 a9 a10 a11 a12 a13 a14 a15 a16 a17 a18 : Option V} (h : te (a0 :: a1 :: a2 :: a3 :: a4 :: a5 :: a6 :: a7 :: a8 :: a9 :: a10 :: a11 :: a12 :: a13 :: a14 :: a15 :: a16 :: a17 :: a18 :: some x :: σ) H fun y H1 => ti x y H1 fun z H2 => D.nx (a0 :: a1 :: a2 :: a3 :: a4 :: a5 :: a6 :: a7 :: a8 :: a9 :: a10 :: a11 :: a12 :: a13 :: a14 :: a15 :: a16 :: a17 :: a18 :: some z :: σ) H2) : tAug 19 te ti D (a0 :: a1 :: a2 :: a3 :: a4 :: a5 :: a6 :: a7 :: a8 :: a9 :: a10 :: a11 :: a12 :: a13 :: a14 :: a15 :: a16 :: a17 :: a18 :: some x :: σ) H := ⟨x, rfl, h⟩
theorem gn20 {a0 a1 a2 a3 a4 a5 a6 a7 a8 a9 a10 a11 a12 a13 a14 a15 a16 a17 a18 a19 a20 : Option V} (h : Qs (a0 :: a1 :: a2 :: a3 :: a4 :: a5 :: a6 :: a7 :: a8 :: a9 :: a10 :: a11 :: a12 :: a13 :: a14 :: a15 :: a16 :: a17 :: a18 :: a19 :: some v :: σ) H) : gName 20 v (a0 :: a1 :: a2 :: a3 :: a4 :: a5 :: a6 :: a7 :: a8 :: a9 :: a10 :: a11 :: a12 :: a13 :: a14 :: a15 :: a16 :: a17 :: a18 :: a19 :: a20 :: σ) H Qs := h
theorem ag20 {a0 a1 a2 a3 a4 a5 a6 a7 a8 a9 a10 a11 a12 a13 a14 a15 a16 a17 a18 a19 : Option V} (h : te (a0 :: a1 :: a2 :: a3 :: a4 :: a5 :: a6 :: a7 :: a8 :: a9 :: a10 :: a11 :: a12 :: a13 :: a14 :: a15 :: a16 :: a17 :: a18 :: a19 :: some x :: σ) H fun y H1 => ti x y H1 fun z H2 => D.nx (a0 :: a1 :: a2 :: a3 :: a4 :: a5 :: a6 :: a7 :: a8 :: a9 :: a10 :: a11 :: a12 :: a13 :: a14 :: a15 :: a16 :: a17 :: a18 :: a19 :: some z :: σ) H2) : tAug 20 te ti D (a0 :: a1 :: a2 :: a3 :: a4 :: a5 :: a6 :: a7 :: a8 :: a9 :: a10 :: a11 :: a12 :: a13 :: a14 :: a15 :: a16 :: a17 :: a18 :: a19 :: some x :: σ) H := ⟨x, rfl, h⟩
theorem gn21 {a0 a1 a2 a3 a4 a5 a6 a7 a8 a9 a10 a11 a12 a13 a14 a15 a16 a17 a18 a19 a20 a21 : Option V} (h : Qs (a0 :: a1 :: a2 :: a3 :: a4 :: a5 :: a6 :: a7 :: a8 :: a9 :: a10 :: a11 :: a12 :: a13 :: a14 :: a15 :: a16 :: a17 :: a18 :: a19 :: a20 :: some v :: σ) H) : gName 21 v (a0 :: a1 :: a2 :: a3 :: a4 :: a5 :: a6 :: a7 :: a8 :: a9 :: a10 :: a11 :: a12 :: a13 :: a14 :: a15 :: a16 :: a17 :: a18 :: a19 :: a20 :: a21 :: σ) H Qs := h
theorem ag21 {a0 a1 a2 a3 a4 a5 a6 a7 a8 a9 a10 a11 a12 a13 a14 a15 a16 a17 a18 a19 a20 : Option V} (h : te (a0 :: a1 :: a2 :: a3 :: a4 :: a5 :: a6 :: a7 :: a8 :: a9 :: a10 :: a11 :: a12 :: a13 :: a14 :: a15 :: a16 :: a17 :: a18 :: a19 :: a20 :: some x :: σ) H fun y H1 => ti x y H1 fun z H2 => D.nx (a0 :: a1 :: a2 :: a3 :: a4 :: a5 :: a6 :: a7 :: a8 :: a9 :: a10 :: a11 :: a12 :: a13 :: a14 :: a15 :: a16 :: a17 :: a18 :: a19 :: a20 :: some z :: σ) H2) : tAug 21 te ti D (a0 :: a1 :: a2 :: a3 :: a4 :: a5 :: a6 :: a7 :: a8 :: a9 :: a10 :: a11 :: a12 :: a13 :: a14 :: a15 :: a16 :: a17 :: a18 :: a19 :: a20 :: some x :: σ) H := ⟨x, rfl, h⟩
theorem gn22 {a0 a1 a2 a3 a4 a5 a6 a7 a8 a9 a10 a11 a12 a13 a14 a15 a16 a17 a18 a19 a20 a21 a22 : Option V} (h : Qs (a0 :: a1 :: a2 :: a3 :: a4 :: a5 :: a6 :: a7 :: a8 :: a9 :: a10 :: a11 :: a12 :: a13 :: a14 :: a15 :: a16 :: a17 :: a18 :: a19 :: a20 :: a21 :: some v :: σ) H) : gName 22 v (a0 :: a1 :: a2 :: a3 :: a4 :: a5 :: a6 :: a7 :: a8 :: a9 :: a10 :: a11 :: a12 :: a13 :: a14 :: a15 :: a16 :: a17 :: a18 :: a19 :: a20 :: a21 :: a22 :: σ) H Qs := h
theorem ag22 {a0 a1 a2 a3 a4 a5 a6 a7 a8 a9 a10 a11 a12 a13 a14 a15 a16 a17 a18 a19 a20 a21 : Option V} (h : te (a0 :: a1 :: a2 :: a3 :: a4 :: a5 :: a6 :: a7 :: a8 :: a9 :: a10 :: a11 :: a12 :: a13 :: a14 :: a15 :: a16 :: a17 :: a18 :: a19 :: a20 :: a21 :: some x :: σ) H fun y H1 => ti x y H1 fun z H2 => D.nx (a0 :: a1 :: a2 :: a3 :: a4 :: a5 :: a6 :: a7 :: a8 :: a9 :: a10 :: a11 :: a12 :: a13 :: a14 :: a15 :: a16 :: a17 :: a18 :: a19 :: a20 :: a21 :: some z :: σ) H2) : tAug 22 te ti D (a0 :: a1 :: a2 :: a3 :: a4 :: a5 :: a6 :: a7 :: a8 :: a9 :: a10 :: a11 :: a12 :: a13 :: a14 :: a15 :: a16 :: a17 :: a18 :: a19 :: a20 :: a21 :: some x :: σ) H := ⟨x, rfl, h⟩
theorem gn23 {a0 a1 a2 a3 a4 a5 a6 a7 a8 a9 a10 a11 a12 a13 a14 a15 a16 a17 a18 a19 a20 a21 a22 a23 : Option V} (h : Qs (a0 :: a1 :: a2 :: a3 :: a4 :: a5 :: a6 :: a7 :: a8 :: a9 :: a10 :: a11 :: a12 :: a13 :: a14 :: a15 :: a16 :: a17 :: a18 :: a19 :: a20 :: a21 :: a22 :: some v :: σ) H) : gName 23 v (a0 :: a1 :: a2 :: a3 :: a4 :: a5 :: a6 :: a7 :: a8 :: a9 :: a10 :: a11 :: a12 :: a13 :: a14 :: a15 :: a16 :: a17 :: a18 :: a19 :: a20 :: a21 :: a22 :: a23 :: σ) H Qs := h
theorem ag23 {a0 a1 a2 a3 a4 a5 a6 a7 a8 a9 a10 a11 a12 a13 a14 a15 a16 a17 a18 a19 a20 a21 a22 : Option V} (h : te (a0 :: a1 :: a2 :: a3 :: a4 :: a5 :: a6 :: a7 :: a8 :: a9 :: a10 :: a11 :: a12 :: a13 :: a14 :: a15 :: a16 :: a17 :: a18 :: a19 :: a20 :: a21 :: a22 :: some x :: σ) H fun y H1 => ti x y H1 fun z H2 => D.nx (a0 :: a1 :: a2 :: a3 :: a4 :: a5 :: a6 :: a7 :: a8 :: a9 :: a10 :: a11 :: a12 :: a13 :: a14 :: a15 :: a16 :: a17 :: a18 :: a19 :: a20 :: a21 :: a22 :: some z :: σ) H2) : tAug 23 te ti D (a0 :: a1 :: a2 :: a3 :: a4 :: a5 :: a6 :: a7 :: a8 :: a9 :: a10 :: a11 :: a12 :: a13 :: a14 :: a15 :: a16 :: a17 :: a18 :: a19 :: a20 :: a21 :: a22 :: some x :: σ) H := ⟨x, rfl, h⟩
theorem gn24 {a0 a1 a2 a3 a4 a5 a6 a7 a8 a9 a10 a11 a12 a13 a14 a15 a16 a17 a18 a19 a20 a21 a22 a23 a24 : Option V} (h : Qs (a0 :: a1 :: a2 :: a3 :: a4 :: a5 :: a6 :: a7 :: a8 :: a9 :: a10 :: a11 :: a12 :: a13 :: a14 :: a15 :: a16 :: a17 :: a18 :: a19 :: a20 :: a21 :: a22 :: a23 :: some v :: σ) H) : gName 24 v (a0 :: a1 :: a2 :: a3 :: a4 :: a5 :: a6 :: a7 :: a8 :: a9 :: a10 :: a11 :: a12 :: a13 :: a14 :: a15 :: a16 :: a17 :: a18 :: a19 :: a20 :: a21 :: a22 :: a23 :: a24 :: σ) H Qs := h
theorem ag24 {a0 a1 a2 a3 a4 a5 a6 a7 a8 a9 a10 a11 a12 a13 a14 a15 a16 a17 a18 a19 a20 a21 a22 a23 : Option V} (h : te (a0 :: a1 :: a2 :: a3 :: a4 :: a5 :: a6 :: a7 :: a8 :: a9 :: a10 :: a11 :: a12 :: a13 :: a14 :: a15 :: a16 :: a17 :: a18 :: a19 :: a20 :: a21 :: a22 :: a23 :: some x :: σ) H fun y H1 => ti x y H1 fun z H2 => D.nx (a0 :: a1 :: a2 :: a3 :: a4 :: a5 :: a6 :: a7 :: a8 :: a9 :: a10 :: a11 :: a12 :: a13 :: a14 :: a15 :: a16 :: a17 :: a18 :: a19 :: a20 :: a21 :: a22 :: a23 :: some z :: σ) H2) : tAug 24 te ti D (a0 :: a1 :: a2 :: a3 :: a4 :: a5 :: a6 :: a7 :: a8 :: a9 :: a10 :: a11 :: a12 :: a13 :: a14 :: a15 :: a16 :: a17 :: a18 :: a19 :: a20 :: a21 :: a22 :: a23 :: some x :: σ) H := ⟨x, rfl, h⟩
theorem gn25 {a0 a1 a2 a3 a4 a5 a6 a7 a8 a9 a10 a11 a12 a13 a14 a15 a16 a17 a18 a19 a20 a21 a22 a23 a24 a25 : Option V} (h : Qs (a0 :: a1 :: a2 :: a3 :: a4 :: a5 :: a6 :: a7 :: a8 :: a9 :: a10 :: a11 :: a12 :: a13 :: a14 :: a15 :: a16 :: a17 :: a18 :: a19 :: a20 :: a21 :: a22 :: a23 :: a24 :: some v :: σ) H) : gName 25 v (a0 :: a1 :: a2 :: a3 :: a4 :: a5 :: a6 :: a7 :: a8 :: a9 :: a10 :: a11 :: a12 :: a13 :: a14 :: a15 :: a16 :: a17 :: a18 :: a19 :: a20 :: a21 :: a22 :: a23 :: a24 :: a25 :: σ) H Qs := h
theorem ag25 {a0 a1 a2 a3 a4 a5 a6 a7 a8 a9 a10 a11 a12 a13 a14 a15 a16 a17 a18 a19 a20 a21 a22 a23 a24 : Option V} (h : te (a0 :: a1 :: a2 :: a3 :: a4 :: a5 :: a6 :: a7 :: a8 :: a9 :: a10 :: a11 :: a12 :: a13 :: a14 :: a15 :: a16 :: a17 :: a18 :: a19 :: a20 :: a21 :: a22 :: a23 :: a24 :: some x :: σ) H fun y H1 => ti x y H1 fun z H2 => D.nx (a0 :: a1 :: a2 :: a3 :: a4 :: a5 :: a6 :: a7 :: a8 :: a9 :: a10 :: a11 :: a12 :: a13 :: a14 :: a15 :: a16 :: a17 :: a18 :: a19 :: a20 :: a21 :: a22 :: a23 :: a24 :: some z :: σ) H2) : tAug 25 te ti D (a0 :: a1 :: a2 :: a3 :: a4 :: a5 :: a6 :: a7 :: a8 :: a9 :: a10 :: a11 :: a12 :: a13 :: a14 :: a15 :: a16 :: a17 :: a18 :: a19 :: a20 :: a21 :: a22 :: a23 :: a24 :: some x :: σ) H := ⟨x, rfl, h⟩
theorem gn26 {a0 a1 a2 a3 a4 a5 a6 a7 a8 a9 a10 a11 a12 a13 a14 a15 a16 a17 a18 a19 a20 a21 a22 a23 a24 a25 a26 : Option V} (h : Qs (a0 :: a1 :: a2 :: a3 :: a4 :: a5 :: a6 :: a7 :: a8 :: a9 :: a10 :: a11 :: a12 :: a13 :: a14 :: a15 :: a16 :: a17 :: a18 :: a19 :: a20 :: a21 :: a22 :: a23 :: a24 :: a25 :: some v :: σ) H) : gName 26 v (a0 :: a1 :: a2 :: a3 :: a4 :: a5 :: a6 :: a7 :: a8 :: a9 :: a10 :: a11 :: a12 :: a13 :: a14 :: a15 :: a16 :: a17 :: a18 :: a19 :: a20 :: a21 :: a22 :: a23 :: a24 :: a25 :: a26 :: σ) H Qs := h
theorem ag26 {a0 a1 a2 a3 a4 a5 a6 a7 a8 a9 a10 a11 a12 a13 a14 a15 a16 a17 a18 a19 a20 a21 a22 a23 a24 a25 : Option V} (h : te (a0 :: a1 :: a2 :: a3 :: a4 :: a5 :: a6 :: a7 :: a8 :: a9 :: a10 :: a11 :: a12 :: a13 :: a14 :: a15 :: a16 :: a17 :: a18 :: a19 :: a20 :: a21 :: a22 :: a23 :: a24 :: a25 :: some x :: σ) H fun y H1 => ti x y H1 fun z H2 => D.nx (a0 :: a1 :: a2 :: a3 :: a4 :: a5 :: a6 :: a7 :: a8 :: a9 :: a10 :: a11 :: a12 :: a13 :: a14 :: a15 :: a16 :: a17 :: a18 :: a19 :: a20 :: a21 :: a22 :: a23 :: a24 :: a25 :: some z :: σ) H2) : tAug 26 te ti D (a0 :: a1 :: a2 :: a3 :: a4 :: a5 :: a6 :: a7 :: a8 :: a9 :: a10 :: a11 :: a12 :: a13 :: a14 :: a15 :: a16 :: a17 :: a18 :: a19 :: a20 :: a21 :: a22 :: a23 :: a24 :: a25 :: some x :: σ) H := ⟨x, rfl, h⟩
theorem gn27 {a0 a1 a2 a3 a4 a5 a6 a7 a8 a9 a10 a11 a12 a13 a14 a15 a16 a17 a18 a19 a20 a21 a22 a23 a24 a25 a26 a27 : Option V} (h : Qs (a0 :: a1 :: a2 :: a3 :: a4 :: a5 :: a6 :: a7 :: a8 :: a9 :: a10 :: a11 :: a12 :: a13 :: a14 :: a15 :: a16 :: a17 :: a18 :: a19 :: a20 :: a21 :: a22 :: a23 :: a24 :: a25 :: a26 :: some v :: σ) H) : gName 27 v (a0 :: a1 :: a2 :: a3 :: a4 :: a5 :: a6 :: a7 :: a8 :: a9 :: a10 :: a11 :: a12 :: a13 :: a14 :: a15 :: a16 :: a17 :: a18 :: a19 :: a20 :: a21 :: a22 :: a23 :: a24 :: a25 :: a26 :: a27 :: σ) H Qs := h
theorem ag27 {a0 a1 a2 a3 a4 a5 a6 a7 a8 a9 a10 a11 a12 a13 a14 a15 a16 a17 a18 a19 a20 a21 a22 a23 a24 a25 a26 : Option V} (h : te (a0 :: a1 :: a2 :: a3 :: a4 :: a5 :: a6 :: a7 :: a8 :: a9 :: a10 :: a11 :: a12 :: a13 :: a14 :: a15 :: a16 :: a17 :: a18 :: a19 :: a20 :: a21 :: a22 :: a23 :: a24 :: a25 :: a26 :: some x :: σ) H fun y H1 => ti x y H1 fun z H2 => D.nx (a0 :: a1 :: a2 :: a3 :: a4 :: a5 :: a6 :: a7 :: a8 :: a9 :: a10 :: a11 :: a12 :: a13 :: a14 :: a15 :: a16 :: a17 :: a18 :: a19 :: a20 :: a21 :: a22 :: a23 :: a24 :: a25 :: a26 :: some z :: σ) H2) : tAug 27 te ti D (a0 :: a1 :: a2 :: a3 :: a4 :: a5 :: a6 :: a7 :: a8 :: a9 :: a10 :: a11 :: a12 :: a13 :: a14 :: a15 :: a16 :: a17 :: a18 :: a19 :: a20 :: a21 :: a22 :: a23 :: a24 :: a25 :: a26 :: some x :: σ) H := ⟨x, rfl, h⟩
theorem gn28 {a0 a1 a2 a3 a4 a5 a6 a7 a8 a9 a10 a11 a12 a13 a14 a15 a16 a17 a18 a19 a20 a21 a22 a23 a24 a25 a26 a27 a28 : Option V} (h : Qs (a0 :: a1 :: a2 :: a3 :: a4 :: a5 :: a6 :: a7 :: a8 :: a9 :: a10 :: a11 :: a12 :: a13 :: a14 :: a15 :: a16 :: a17 :: a18 :: a19 :: a20 :: a21 :: a22 :: a23 :: a24 :: a25 :: a26 :: a27 :: some v :: σ) H) : gName 28 v (a0 :: a1 :: a2 :: a3 :: a4 :: a5 :: a6 :: a7 :: a8 :: a9 :: a10 :: a11 :: a12 :: a13 :: a14 :: a15 :: a16 :: a17 :: a18 :: a19 :: a20 :: a21 :: a22 :: a23 :: a24 :: a25 :: a26 :: a27 :: a28 :: σ) H Qs := h
theorem ag28 {a0 a1 a2 a3 a4 a5 a6 a7 a8 a9 a10 a11 a12 a13 a14 a15 a16 a17 a18 a19 a20 a21 a22 a23 a24 a25 a26 a27 : Option V} (h : te (a0 :: a1 :: a2 :: a3 :: a4 :: a5 :: a6 :: a7 :: a8 :: a9 :: a10 :: a11 :: a12 :: a13 :: a14 :: a15 :: a16 :: a17 :: a18 :: a19 :: a20 :: a21 :: a22 :: a23 :: a24 :: a25 :: a26 :: a27 :: some x :: σ) H fun y H1 => ti x y H1 fun z H2 => D.nx (a0 :: a1 :: a2 :: a3 :: a4 :: a5 :: a6 :: a7 :: a8 :: a9 :: a10 :: a11 :: a12 :: a13 :: a14 :: a15 :: a16 :: a17 :: a18 :: a19 :: a20 :: a21 :: a22 :: a23 :: a24 :: a25 :: a26 :: a27 :: some z :: σ) H2) : tAug 28 te ti D (a0 :: a1 :: a2 :: a3 :: a4 :: a5 :: a6 :: a7 :: a8 :: a9 :: a10 :: a11 :: a12 :: a13 :: a14 :: a15 :: a16 :: a17 :: a18 :: a19 :: a20 :: a21 :: a22 :: a23 :: a24 :: a25 :: a26 :: a27 :: some x :: σ) H := ⟨x, rfl, h⟩
theorem gn29 {a0 a1 a2 a3 a4 a5 a6 a7 a8 a9 a10 a11 a12 a13 a14 a15 a16 a17 a18 a19 a20 a21 a22 a23 a24 a25 a26 a27 a28 a29 : Option V} (h : Qs (a0 :: a1 :: a2 :: a3 :: a4 :: a5 :: a6 :: a7 :: a8 :: a9 :: a10 :: a11 :: a12 :: a13 :: a14 :: a15 :: a16 :: a17 :: a18 :: a19 :: a20 :: a21 :: a22 :: a23 :: a24 :: a25 :: a26 :: a27 :: a28 :: some v :: σ) H) : gName 29 v (a0 :: a1 :: a2 :: a3 :: a4 :: a5 :: a6 :: a7 :: a8 :: a9 :: a10 :: a11 :: a12 :: a13 :: a14 :: a15 :: a16 :: a17 :: a18 :: a19 :: a20 :: a21 :: a22 :: a23 :: a24 :: a25 :: a26 :: a27 :: a28 :: a29 :: σ) H Qs := h
theorem ag29 {a0 a1 a2 a3 a4 a5 a6 a7 a8 a9 a10 a11 a12 a13 a14 a15 a16 a17 a18 a19 a20 a21 a22 a23 a24 a25 a26 a27 a28 : Option V} (h : te (a0 :: a1 :: a2 :: a3 :: a4 :: a5 :: a6 :: a7 :: a8 :: a9 :: a10 :: a11 :: a12 :: a13 :: a14 :: a15 :: a16 :: a17 :: a18 :: a19 :: a20 :: a21 :: a22 :: a23 :: a24 :: a25 :: a26 :: a27 :: a28 :: some x :: σ) H fun y H1 => ti x y H1 fun z H2 => D.nx (a0 :: a1 :: a2 :: a3 :: a4 :: a5 :: a6 :: a7 :: a8 :: a9 :: a10 :: a11 :: a12 :: a13 :: a14 :: a15 :: a16 :: a17 :: a18 :: a19 :: a20 :: a21 :: a22 :: a23 :: a24 :: a25 :: a26 :: a27 :: a28 :: some z :: σ) H2) : tAug 29 te ti D (a0 :: a1 :: a2 :: a3 :: a4 :: a5 :: a6 :: a7 :: a8 :: a9 :: a10 :: a11 :: a12 :: a13 :: a14 :: a15 :: a16 :: a17 :: a18 :: a19 :: a20 :: a21 :: a22 :: a23 :: a24 :: a25 :: a26 :: a27 :: a28 :: some x :: σ) H := ⟨x, rfl, h⟩
theorem gn30 {a0 a1 a2 a3 a4 a5 a6 a7 a8 a9 a10 a11 a12 a13 a14 a15 a16 a17 a18 a19 a20 a21 a22 a23 a24 a25 a26 a27 a28 a29 a30 : Option V} (h : Qs (a0 :: a1 :: a2 :: a3 :: a4 :: a5 :: a6 :: a7 :: a8 :: a9 :: a10 :: a11 :: a12 :: a13 :: a14 :: a15 :: a16 :: a17 :: a18 :: a19 :: a20 :: a21 :: a22 :: a23 :: a24 :: a25 :: a26 :: a27 :: a28 :: a29 :: some v :: σ) H) : gName 30 v (a0 :: a1 :: a2 :: a3 :: a4 :: a5 :: a6 :: a7 :: a8 :: a9 :: a10 :: a11 :: a12 :: a13 :: a14 :: a15 :: a16 :: a17 :: a18 :: a19 :: a20 :: a21 :: a22 :: a23 :: a24 :: a25 :: a26 :: a27 :: a28 :: a29 :: a30 :: σ) H Qs := h
theorem ag30 {a0 a1 a2 a3 a4 a5 a6 a7 a8 a9 a10 a11 a12 a13 a14 a15 a16 a17 a18 a19 a20 a21 a22 a23 a24 a25 a26 a27 a28 a29 : Option V} (h : te (a0 :: a1 :: a2 :: a3 :: a4 :: a5 :: a6 :: a7 :: a8 :: a9 :: a10 :: a11 :: a12 :: a13 :: a14 :: a15 :: a16 :: a17 :: a18 :: a19 :: a20 :: a21 :: a22 :: a23 :: a24 :: a25 :: a26 :: a27 :: a28 :: a29 :: some x :: σ) H fun y H1 => ti x y H1 fun z H2 => D.nx (a0 :: a1 :: a2 :: a3 :: a4 :: a5 :: a6 :: a7 :: a8 :: a9 :: a10 :: a11 :: a12 :: a13 :: a14 :: a15 :: a16 :: a17 :: a18 :: a19 :: a20 :: a21 :: a22 :: a23 :: a24 :: a25 :: a26 :: a27 :: a28 :: a29 :: some z :: σ) H2) : tAug 30 te ti D (a0 :: a1 :: a2 :: a3 :: a4 :: a5 :: a6 :: a7 :: a8 :: a9 :: a10 :: a11 :: a12 :: a13 :: a14 :: a15 :: a16 :: a17 :: a18 :: a19 :: a20 :: a21 :: a22 :: a23 :: a24 :: a25 :: a26 :: a27 :: a28 :: a29 :: some x :: σ) H := ⟨x, rfl, h⟩
theorem gn31 {a0 a1 a2 a3 a4 a5 a6 a7 a8 a9 a10 a11 a12 a13 a14 a15 a16 a17 a18 a19 a20 a21 a22 a23 a24 a25 a26 a27 a28 a29 a30 a31 : Option V} (h : Qs (a0 :: a1 :: a2 :: a3 :: a4 :: a5 :: a6 :: a7 :: a8 :: a9 :: a10 :: a11 :: a12 :: a13 :: a14 :: a15 :: a16 :: a17 :: a18 :: a19 :: a20 :: a21 :: a22 :: a23 :: a24 :: a25 :: a26 :: a27 :: a28 :: a29 :: a30 :: some v :: σ) H) : gName 31 v (a0 :: a1 :: a2 :: a3 :: a4 :: a5 :: a6 :: a7 :: a8 :: a9 :: a10 :: a11 :: a12 :: a13 :: a14 :: a15 :: a16 :: a17 :: a18 :: a19 :: a20 :: a21 :: a22 :: a23 :: a24 :: a25 :: a26 :: a27 :: a28 :: a29 :: a30 :: a31 :: σ) H Qs := h
theorem ag31 {a0 a1 a2 a3 a4 a5 a6 a7 a8 a9 a10 a11 a12 a13 a14 a15 a16 a17 a18 a19 a20 a21 a22 a23 a24 a25 a26 a27 a28 a29 a30 : Option V} (h : te (a0 :: a1 :: a2 :: a3 :: a4 :: a5 :: a6 :: a7 :: a8 :: a9 :: a10 :: a11 :: a12 :: a13 :: a14 :: a15 :: a16 :: a17 :: a18 :: a19 :: a20 :: a21 :: a22 :: a23 :: a24 :: a25 :: a26 :: a27 :: a28 :: a29 :: a30 :: some x :: σ) H fun y H1 => ti x y H1 fun z H2 => D.nx (a0 :: a1 :: a2 :: a3 :: a4 :: a5 :: a6 :: a7 :: a8 :: a9 :: a10 :: a11 :: a12 :: a13 :: a14 :: a15 :: a16 :: a17 :: a18 :: a19 :: a20 :: a21 :: a22 :: a23 :: a24 :: a25 :: a26 :: a27 :: a28 :: a29 :: a30 :: some z :: σ) H2) : tAug 31 te ti D (a0 :: a1 :: a2 :: a3 :: a4 :: a5 :: a6 :: a7 :: a8 :: a9 :: a10 :: a11 :: a12 :: a13 :: a14 :: a15 :: a16 :: a17 :: a18 :: a19 :: a20 :: a21 :: a22 :: a23 :: a24 :: a25 :: a26 :: a27 :: a28 :: a29 :: a30 :: some x :: σ) H := ⟨x, rfl, h⟩
theorem gn32 {a0 a1 a2 a3 a4 a5 a6 a7 a8 a9 a10 a11 a12 a13 a14 a15 a16 a17 a18 a19 a20 a21 a22 a23 a24 a25 a26 a27 a28 a29 a30 a31 a32 : Option V} (h : Qs (a0 :: a1 :: a2 :: a3 :: a4 :: a5 :: a6 :: a7 :: a8 :: a9 :: a10 :: a11 :: a12 :: a13 :: a14 :: a15 :: a16 :: a17 :: a18 :: a19 :: a20 :: a21 :: a22 :: a23 :: a24 :: a25 :: a26 :: a27 :: a28 :: a29 :: a30 :: a31 :: some v :: σ) H) : gName 32 v (a0 :: a1 :: a2 :: a3 :: a4 :: a5 :: a6 :: a7 :: a8 :: a9 :: a10 :: a11 :: a12 :: a13 :: a14 :: a15 :: a16 :: a17 :: a18 :: a19 :: a20 :: a21 :: a22 :: a23 :: a24 :: a25 :: a26 :: a27 :: a28 :: a29 :: a30 :: a31 :: a32 :: σ) H Qs := h
theorem ag32 {a0 a1 a2 a3 a4 a5 a6 a7 a8 a9 a10 a11 a12 a13 a14 a15 a16 a17 a18 a19 a20 a21 a22 a23 a24 a25 a26 a27 a28 a29 a30 a31 : Option V} (h : te (a0 :: a1 :: a2 :: a3 :: a4 :: a5 :: a6 :: a7 :: a8 :: a9 :: a10 :: a11 :: a12 :: a13 :: a14 :: a15 :: a16 :: a17 :: a18 :: a19 :: a20 :: a21 :: a22 :: a23 :: a24 :: a25 :: a26 :: a27 :: a28 :: a29 :: a30 :: a31 :: some x :: σ) H fun y H1 => ti x y H1 fun z H2 => D.nx (a0 :: a1 :: a2 :: a3 :: a4 :: a5 :: a6 :: a7 :: a8 :: a9 :: a10 :: a11 :: a12 :: a13 :: a14 :: a15 :: a16 :: a17 :: a18 :: a19 :: a20 :: a21 :: a22 :: a23 :: a24 :: a25 :: a26 :: a27 :: a28 :: a29 :: a30 :: a31 :: some z :: σ) H2) : tAug 32 te ti D (a0 :: a1 :: a2 :: a3 :: a4 :: a5 :: a6 :: a7 :: a8 :: a9 :: a10 :: a11 :: a12 :: a13 :: a14 :: a15 :: a16 :: a17 :: a18 :: a19 :: a20 :: a21 :: a22 :: a23 :: a24 :: a25 :: a26 :: a27 :: a28 :: a29 :: a30 :: a31 :: some x :: σ) H := ⟨x, rfl, h⟩
theorem gn33 {a0 a1 a2 a3 a4 a5 a6 a7 a8 a9 a10 a11 a12 a13 a14 a15 a16 a17 a18 a19 a20 a21 a22 a23 a24 a25 a26 a27 a28 a29 a30 a31 a32 a33 : Option V} (h : Qs (a0 :: a1 :: a2 :: a3 :: a4 :: a5 :: a6 :: a7 :: a8 :: a9 :: a10 :: a11 :: a12 :: a13 :: a14 :: a15 :: a16 :: a17 :: a18 :: a19 :: a20 :: a21 :: a22 :: a23 :: a24 :: a25 :: a26 :: a27 :: a28 :: a29 :: a30 :: a31 :: a32 :: some v :: σ) H) : gName 33 v (a0 :: a1 :: a2 :: a3 :: a4 :: a5 :: a6 :: a7 :: a8 :: a9 :: a10 :: a11 :: a12 :: a13 :: a14 :: a15 :: a16 :: a17 :: a18 :: a19 :: a20 :: a21 :: a22 :: a23 :: a24 :: a25 :: a26 :: a27 :: a28 :: a29 :: a30 :: a31 :: a32 :: a33 :: σ) H Qs := h
theorem ag33 {a0 a1 a2 a3 a4 a5 a6 a7 a8 a9 a10 a11 a12 a13 a14 a15 a16 a17 a18 a19 a20 a21 a22 a23 a24 a25 a26 a27 a28 a29 a30 a31 a32 : Option V} (h : te (a0 :: a1 :: a2 :: a3 :: a4 :: a5 :: a6 :: a7 :: a8 :: a9 :: a10 :: a11 :: a12 :: a13 :: a14 :: a15 :: a16 :: a17 :: a18 :: a19 :: a20 :: a21 :: a22 :: a23 :: a24 :: a25 :: a26 :: a27 :: a28 :: a29 :: a30 :: a31 :: a32 :: some x :: σ) H fun y H1 => ti x y H1 fun z H2 => D.nx (a0 :: a1 :: a2 :: a3 :: a4 :: a5 :: a6 :: a7 :: a8 :: a9 :: a10 :: a11 :: a12 :: a13 :: a14 :: a15 :: a16 :: a17 :: a18 :: a19 :: a20 :: a21 :: a22 :: a23 :: a24 :: a25 :: a26 :: a27 :: a28 :: a29 :: a30 :: a31 :: a32 :: some z :: σ) H2) : tAug 33 te ti D (a0 :: a1 :: a2 :: a3 :: a4 :: a5 :: a6 :: a7 :: a8 :: a9 :: a10 :: a11 :: a12 :: a13 :: a14 :: a15 :: a16 :: a17 :: a18 :: a19 :: a20 :: a21 :: a22 :: a23 :: a24 :: a25 :: a26 :: a27 :: a28 :: a29 :: a30 :: a31 :: a32 :: some x :: σ) H := ⟨x, rfl, h⟩
theorem gn34 {a0 a1 a2 a3 a4 a5 a6 a7 a8 a9 a10 a11 a12 a13 a14 a15 a16 a17 a18 a19 a20 a21 a22 a23 a24 a25 a26 a27 a28 a29 a30 a31 a32 a33 a34 : Option V} (h : Qs (a0 :: a1 :: a2 :: a3 :: a4 :: a5 :: a6 :: a7 :: a8 :: a9 :: a10 :: a11 :: a12 :: a13 :: a14 :: a15 :: a16 :: a17 :: a18 :: a19 :: a20 :: a21 :: a22 :: a23 :: a24 :: a25 :: a26 :: a27 :: a28 :: a29 :: a30 :: a31 :: a32 :: a33 :: some v :: σ) H) : gName 34 v (a0 :: a1 :: a2 :: a3 :: a4 :: a5 :: a6 :: a7 :: a8 :: a9 :: a10 :: a11 :: a12 :: a13 :: a14 :: a15 :: a16 :: a17 :: a18 :: a19 :: a20 :: a21 :: a22 :: a23 :: a24 :: a25 :: a26 :: a27 :: a28 :: a29 :: a30 :: a31 :: a32 :: a33 :: a34 :: σ) H Qs := h
theorem ag34 {a0 a1 a2 a3 a4 a5 a6 a7 a8 a9 a10 a11 a12 a13 a14 a15 a16 a17 a18 a19 a20 a21 a22 a23 a24 a25 a26 a27 a28 a29 a30 a31 a32 a33 : Option V} (h : te (a0 :: a1 :: a2 :: a3 :: a4 :: a5 :: a6 :: a7 :: a8 :: a9 :: a10 :: a11 :: a12 :: a13 :: a14 :: a15 :: a16 :: a17 :: a18 :: a19 :: a20 :: a21 :: a22 :: a23 :: a24 :: a25 :: a26 :: a27 :: a28 :: a29 :: a30 :: a31 :: a32 :: a33 :: some x :: σ) H fun y H1 => ti x y H1 fun z H2 => D.nx (a0 :: a1 :: a2 :: a3 :: a4 :: a5 :: a6 :: a7 :: a8 :: a9 :: a10 :: a11 :: a12 :: a13 :: a14 :: a15 :: a16 :: a17 :: a18 :: a19 :: a20 :: a21 :: a22 :: a23 :: a24 :: a25 :: a26 :: a27 :: a28 :: a29 :: a30 :: a31 :: a32 :: a33 :: some z :: σ) H2) : tAug 34 te ti D (a0 :: a1 :: a2 :: a3 :: a4 :: a5 :: a6 :: a7 :: a8 :: a9 :: a10 :: a11 :: a12 :: a13 :: a14 :: a15 :: a16 :: a17 :: a18 :: a19 :: a20 :: a21 :: a22 :: a23 :: a24 :: a25 :: a26 :: a27 :: a28 :: a29 :: a30 :: a31 :: a32 :: a33 :: some x :: σ) H := ⟨x, rfl, h⟩
theorem gn35 {a0 a1 a2 a3 a4 a5 a6 a7 a8 a9 a10 a11 a12 a13 a14 a15 a16 a17 a18 a19 a20 a21 a22 a23 a24 a25 a26 a27 a28 a29 a30 a31 a32 a33 a34 a35 : Option V} (h : Qs (a0 :: a1 :: a2 :: a3 :: a4 :: a5 :: a6 :: a7 :: a8 :: a9 :: a10 :: a11 :: a12 :: a13 :: a14 :: a15 :: a16 :: a17 :: a18 :: a19 :: a20 :: a21 :: a22 :: a23 :: a24 :: a25 :: a26 :: a27 :: a28 :: a29 :: a30 :: a31 :: a32 :: a33 :: a34 :: some v :: σ) H) : gName 35 v (a0 :: a1 :: a2 :: a3 :: a4 :: a5 :: a6 :: a7 :: a8 :: a9 :: a10 :: a11 :: a12 :: a13 :: a14 :: a15 :: a16 :: a17 :: a18 :: a19 :: a20 :: a21 :: a22 :: a23 :: a24 :: a25 :: a26 :: a27 :: a28 :: a29 :: a30 :: a31 :: a32 :: a33 :: a34 :: a35 :: σ) H Qs := h
theorem ag35 {a0 a1 a2 a3 a4 a5 a6 a7 a8 a9 a10 a11 a12 a13 a14 a15 a16 a17 a18 a19 a20 a21 a22 a23 a24 a25 a26 a27 a28 a29 a30 a31 a32 a33 a34 : Option V} (h : te (a0 :: a1 :: a2 :: a3 :: a4 :: a5 :: a6 :: a7 :: a8 :: a9 :: a10 :: a11 :: a12 :: a13 :: a14 :: a15 :: a16 :: a17 :: a18 :: a19 :: a20 :: a21 :: a22 :: a23 :: a24 :: a25 :: a26 :: a27 :: a28 :: a29 :: a30 :: a31 :: a32 :: a33 :: a34 :: some x :: σ) H fun y H1 => ti x y H1 fun z H2 => D.nx (a0 :: a1 :: a2 :: a3 :: a4 :: a5 :: a6 :: a7 :: a8 :: a9 :: a10 :: a11 :: a12 :: a13 :: a14 :: a15 :: a16 :: a17 :: a18 :: a19 :: a20 :: a21 :: a22 :: a23 :: a24 :: a25 :: a26 :: a27 :: a28 :: a29 :: a30 :: a31 :: a32 :: a33 :: a34 :: some z :: σ) H2) : tAug 35 te ti D (a0 :: a1 :: a2 :: a3 :: a4 :: a5 :: a6 :: a7 :: a8 :: a9 :: a10 :: a11 :: a12 :: a13 :: a14 :: a15 :: a16 :: a17 :: a18 :: a19 :: a20 :: a21 :: a22 :: a23 :: a24 :: a25 :: a26 :: a27 :: a28 :: a29 :: a30 :: a31 :: a32 :: a33 :: a34 :: some x :: σ) H := ⟨x, rfl, h⟩
theorem isGN {n : Nat} (h : gName n v σ H Qs) : gName n v σ H Qs := h
theorem isAG {n : Nat} (h : tAug n te ti D σ H) : tAug n te ti D σ H := h
end
end Lt
/-! min(rows, key=lambda row: (a, b)) -/
namespace Lt
open PySem PySem.Spec PyProof.Rows L2
def klt (a b : Int × Int) : Bool := HT.lexLt [a.1, a.2] [b.1, b.2]
theorem klt_iff {a b : Int × Int} : klt a b = true ↔ a.1 < b.1 ∨ (a.1 = b.1 ∧ a.2 < b.2) := by
  unfold klt
  rw [HT.lexLt_cons]
  by_cases h : a.1 = b.1
  · rw [if_pos h, HT.lexLt_cons]
    by_cases h2 : a.2 = b.2
    · rw [if_pos h2, HT.lexLt_nil_nil]
      constructor
      · intro z
        cases z
      · intro z
        omega
    · rw [if_neg h2, decide_eq_true_eq]
      omega
  · rw [if_neg h, decide_eq_true_eq]
    omega
theorem klt_no {a b : Int × Int} : klt a b = false ↔ ¬ (a.1 < b.1 ∨ (a.1 = b.1 ∧ a.2 < b.2)) := by
  rw [← klt_iff]
  cases klt a b <;> simp
/-- i is the first least one -/
def Least (kf : Nat → Int × Int) (n i : Nat) : Prop := ∀ j, j < n → klt (kf j) (kf i) = false ∧ (j < i → klt (kf i) (kf j) = true)
section
variable {prog : Program} {w : World} {A : Around} {E : Value → Shared → Prop} {l q I S : Addr} {vs : List Value} {R : Result → Shared → Prop} {Q : Value → Shared → Prop} {G : List (Addr × Int × Int) → Shared → Prop}
theorem ml_loop (kf : Nat → Int × Int) (hh : A.handled = none) (hlI : l ≠ I) (hSI : S ≠ I) (hl : ∀ ks s, G ks s → s.heap.IsList l vs.toArray)
    (hfr : ∀ ks (s : Shared) (h' : Heap) (tk : Nat) (it : Addr), it = I ∨ it = S → G ks s → (∀ b o, b ≠ it → s.heap.get? b = some o → h'.get? b = some o) → (∃ o, h'.get? it = some o) → G ks { s with heap := h', toks := tk })
    (hlt : ∀ ks (s : Shared) p1 p2, G ks s → p1 ∈ ks → p2 ∈ ks → ∀ (E : Value → Shared → Prop) (Q : Value → Shared → Prop), Q (.bool (klt p1.2 p2.2)) s → wpAny (model prog w) A.in1 (richCompare .Lt (.ref p1.1) (.ref p2.1)) Q E s)
    (turn : ∀ (i : Nat) (v : Value) ks (s : Shared), vs[i]? = some v → G ks s →
      wpAny (model prog w) A.in1 (call (.ref q) [v]) (fun u s' => ∃ t, u = .ref t ∧ G ((t, kf i) :: ks) s' ∧ (∀ o, s.heap.get? I = some o → s'.heap.get? I = some o) ∧ ∀ o, s.heap.get? S = some o → s'.heap.get? S = some o) (fun _ _ => False) s)
    (hR : ∀ i v ks s (h1 h' : Heap) (t1 t' : Nat), vs[i]? = some v → Least kf vs.length i → G ks s → (∀ b o, b ≠ I → s.heap.get? b = some o → h1.get? b = some o) → (∀ b o, b ≠ S → h1.get? b = some o → h'.get? b = some o) → R (.ok (.ret v)) { s with heap := h', toks := t' }) :
    ∀ (r j i : Nat) (s : Shared) (ks : List (Addr × Int × Int)) (vb : Value) (tb : Addr) (c : Nat), vs.length - (j + 1) = r → j + 1 ≤ vs.length → G ks s →
      s.heap.get? S = some (seqObj "list" #[vb, .ref tb] c) → s.heap.IsListIter I l (j + 1) → (tb, kf i) ∈ ks → vs[i]? = some vb → i ≤ j → (∀ j', j' ≤ j → klt (kf j') (kf i) = false ∧ (j' < i → klt (kf i) (kf j') = true)) →
      codeAny (model prog w) A (.builtin "min.loop" ⟨[.ref I, .ref q, .ref S], []⟩) R s := by
  have hname : (toString "min" ++ toString ".loop" : String) = "min.loop" := by decide
  have W := Walks.list (prog := prog) (w := w) (A := A.in1) hh I l hlI vs.toArray
  have hsz : vs.toArray.size = vs.length := List.size_toArray ..
  intro r
  induction r with
  | zero =>
    intro j i s ks vb tb c hr hj hG nS hit hk hvb hij hbest
    have hin : j + 1 = vs.length := by omega
    refine codeAny_builtin PySem.F.entry_min_loop ?_
    rw [Around.under_plainId PySem.F.plain_min_loop _]
    show wpAny _ A.in1 (seqItems? (.ref S) >>= _) _ _ _
    refine wpAny_bind (wpAny_seqItems nS rfl ?_)
    show wpAny _ A.in1 (tryCatch (pyNext (.ref I)) _ >>= _) _ _ _
    refine wpAny_bind (wpAny_tryCatch (W.done _ _ _ ⟨by rw [hsz, ← hin]; exact hit, hl ks s hG⟩ fun h' tk' hk' => ?_))
    have hS' := hk' S _ (by simpa using hSI) nS
    have s1 := Heap.SameBut.update h' S (Obj.mapSeq fun _ => (#[] : Array Value))
    show wpAny _ A.in1 (updateSeq S (fun _ => #[]) >>= _) _ _ _
    refine wpAny_bind ?_
    refine wpAny_updateSeq hS' rfl (wpAny_bind (wpAny_letGo (wpAny_pure ?_)))
    exact hR i vb ks s h' _ tk' _ hvb (fun j' hj' => hbest j' (by omega)) hG (fun b o hb e => hk' b o (by simpa using hb) e) fun b o hb e => (s1.2 b hb).trans e
  | succ r ih =>
    intro j i s ks vb tb c hr hj hG nS hit hk hvb hij hbest
    have hlt1 : j + 1 < vs.length := by omega
    refine codeAny_builtin PySem.F.entry_min_loop ?_
    rw [Around.under_plainId PySem.F.plain_min_loop _]
    show wpAny _ A.in1 (seqItems? (.ref S) >>= _) _ _ _
    refine wpAny_bind (wpAny_seqItems nS rfl ?_)
    show wpAny _ A.in1 (tryCatch (pyNext (.ref I)) _ >>= _) _ _ _
    refine wpAny_bind (wpAny_tryCatch (W.item (j + 1) _ _ _ (by rw [hsz]; exact hlt1) ⟨hit, hl ks s hG⟩ fun v h' tk' hP hst' hk' => ?_))
    have hv : vs[j + 1]? = some v := by simpa using hP
    obtain ⟨oI', hoI', hoc, hod⟩ := id hst'.1
    have nS' := hk' S _ (by simpa using hSI) nS
    have G1 := hfr ks s h' tk' I (.inl rfl) hG (fun b o hb e => hk' b o (by simpa using hb) e) ⟨_, hoI'⟩
    show wpAny _ A.in1 (tryCatch (holding [v] (call (.ref q) [v])) _ >>= _) _ _ _
    refine wpAny_bind (wpAny_tryCatch (wpAny_holding (wpAny_mono (turn (j + 1) v ks _ hv G1) (fun x s2 he => ?_) fun _ _ hF => hF.elim)))
    obtain ⟨t2, rfl, G2, kI, kS⟩ := he
    have nS2 := kS _ nS'
    have nI2 := kI _ hoI'
    have hit2 : s2.heap.IsListIter I l (j + 1 + 1) := ⟨oI', nI2, hoc, hod⟩
    show wpAny _ A.in1 (tryCatch (holding [v, .ref t2] (richCompare .Lt (.ref t2) (.ref tb) >>= _)) _ >>= _) _ _ _
    refine wpAny_bind (wpAny_tryCatch (wpAny_holding (wpAny_bind (hlt _ s2 (t2, kf (j + 1)) (tb, kf i) G2 (.head _) (.tail _ hk) _ _ ?_))))
    refine wpAny_bind (wpAny_holding (wpAny_truthy_bool ?_))
    refine wpAny_bind (wpAny_letGo (wpAny_pure ?_))
    cases hb' : klt (kf (j + 1)) (kf i) with
    | true =>
      have s1 := Heap.SameBut.update s2.heap S (Obj.mapSeq fun _ => #[v, .ref t2])
      obtain ⟨c2, hc2⟩ : ∃ c2, (s2.heap.update S (Obj.mapSeq fun _ => #[v, .ref t2])).get? S = some (seqObj "list" #[v, .ref t2] c2) := ⟨_, get?_update_seq nS2 fun _ => #[v, .ref t2]⟩
      simp only [if_true]
      refine wpAny_bind ?_
      refine wpAny_updateSeq nS2 rfl (wpAny_bind (wpAny_letGo ?_))
      rw [hname]
      refine wpAny_pure ⟨plainId_quiet PySem.F.plain_min_loop _, ih (j + 1) (j + 1) _ ((t2, kf (j + 1)) :: ks) v t2 c2 (by omega) hlt1 (hfr _ _ _ _ S (.inr rfl) G2 (fun b o hb e => (s1.2 b hb).trans e) ⟨_, hc2⟩) hc2 ⟨oI', (s1.2 I hSI.symm).trans nI2, hoc, hod⟩ (.head _) hv (Nat.le_refl _) fun j' hj' => ?_⟩
      rw [klt_iff] at hb'
      by_cases e : j' = j + 1
      · subst e
        exact ⟨by rw [klt_no]; omega, fun z => absurd z (Nat.lt_irrefl _)⟩
      · obtain ⟨b1, b2⟩ := hbest j' (by omega)
        rw [klt_no] at b1
        refine ⟨by rw [klt_no]; omega, fun _ => by rw [klt_iff]; omega⟩
    | false =>
      simp only [Bool.false_eq_true, if_false]
      refine wpAny_bind (wpAny_letGo ?_)
      rw [hname]
      refine wpAny_pure ⟨plainId_quiet PySem.F.plain_min_loop _, ih (j + 1) i _ ((t2, kf (j + 1)) :: ks) vb tb c (by omega) hlt1 G2 nS2 hit2 (.tail _ hk) hvb (by omega) fun j' hj' => ?_⟩
      by_cases e : j' = j + 1
      · subst e
        exact ⟨hb', fun z => by omega⟩
      · exact hbest j' (by omega)
theorem ml_call {s : Shared} {G : Addr → Addr → List (Addr × Int × Int) → Shared → Prop} (kf : Nat → Int × Int) (hh : A.handled = none) (hne : 0 < vs.length) (hls : s.heap.IsList l vs.toArray)
    (hl : ∀ I S ks s', G I S ks s' → s'.heap.IsList l vs.toArray)
    (hfr : ∀ I S ks (s' : Shared) (h' : Heap) (tk : Nat) (it : Addr), it = I ∨ it = S → G I S ks s' → (∀ b o, b ≠ it → s'.heap.get? b = some o → h'.get? b = some o) → (∃ o, h'.get? it = some o) → G I S ks { s' with heap := h', toks := tk })
    (hlt : ∀ I S ks (s' : Shared) p1 p2, G I S ks s' → p1 ∈ ks → p2 ∈ ks → ∀ (E : Value → Shared → Prop) (Q : Value → Shared → Prop), Q (.bool (klt p1.2 p2.2)) s' → wpAny (model prog w) A.in1 (richCompare .Lt (.ref p1.1) (.ref p2.1)) Q E s')
    (turn : ∀ I S (i : Nat) (v : Value) ks (s' : Shared), vs[i]? = some v → G I S ks s' →
      wpAny (model prog w) A.in1 (call (.ref q) [v]) (fun u s2 => ∃ t, u = .ref t ∧ G I S ((t, kf i) :: ks) s2 ∧ (∀ o, s'.heap.get? I = some o → s2.heap.get? I = some o) ∧ ∀ o, s'.heap.get? S = some o → s2.heap.get? S = some o) (fun _ _ => False) s')
    (hG : ∀ (h' : Heap), (∀ b o, s.heap.get? b = some o → h'.get? b = some o) → (∃ o, h'.get? s.heap.objs.size = some o) → (∃ o, h'.get? (s.heap.objs.size + 1) = some o) → G s.heap.objs.size (s.heap.objs.size + 1) [] { s with heap := h' })
    (hQ : ∀ I S i v ks s' (h1 h' : Heap) (t1 t' : Nat), vs[i]? = some v → Least kf vs.length i → G I S ks s' → (∀ b o, b ≠ I → s'.heap.get? b = some o → h1.get? b = some o) → (∀ b o, b ≠ S → h1.get? b = some o → h'.get? b = some o) → Q v { s' with heap := h', toks := t' }) :
    wpAny (model prog w) A (call (.builtin "min") [.ref l] [(Str.ofString "key", .ref q)]) Q E s := by
  have hname : (toString "min" ++ toString ".loop" : String) = "min.loop" := by decide
  obtain ⟨ol, hol, _⟩ := id hls
  have hll : l < s.heap.objs.size := Heap.lt_size hol
  refine kmk_tree PySem.F.kind_min PySem.F.plain_min PySem.F.entry_min (kmk_min_key _ _) ?_
  show wpAny _ A.in1 (Builtin.Builtins.bindParams "min" ["key", "default"] 0 ⟨[], [(Str.ofString "key", .ref q)]⟩ >>= _) _ _ s
  refine wpAny_bind (wpAny_of_eq (show Builtin.Builtins.bindParams "min" ["key", "default"] 0 ⟨[], [(Str.ofString "key", .ref q)]⟩ = pure [some (.ref q), none] from rfl) ?_)
  refine wpAny_bind (wpAny_pure ?_)
  refine wpAny_bind (wpAny_pyIter_list hls ?_)
  refine wpAny_bind (wpAny_newList ?_ (Nat.zero_le _))
  rw [hname]
  have hS : (s.heap.push { cls := .type "list_iterator", data := .fields #[.ref l, .int 0 0] }).objs.size = s.heap.objs.size + 1 := size_push' ..
  have hlI : l ≠ s.heap.objs.size := Nat.ne_of_lt hll
  have hSI : s.heap.objs.size + 1 ≠ s.heap.objs.size := Nat.ne_of_gt (Nat.lt_succ_self _)
  refine wpAny_pure ⟨plainId_quiet PySem.F.plain_min_loop _, ?_⟩
  have gI : ((s.heap.push { cls := .type "list_iterator", data := .fields #[.ref l, .int 0 0] }).push (seqObj "list" #[] 0)).get? s.heap.objs.size = some { cls := .type "list_iterator", data := .fields #[.ref l, .int 0 0] } :=
    Heap.get?_push_of_some _ (Heap.get?_push_size _ rfl)
  have gS : ((s.heap.push { cls := .type "list_iterator", data := .fields #[.ref l, .int 0 0] }).push (seqObj "list" #[] 0)).get? (s.heap.objs.size + 1) = some (seqObj "list" #[] 0) := by
    rw [← hS]
    exact Heap.get?_push_size _ rfl
  have GH := hG ((s.heap.push { cls := .type "list_iterator", data := .fields #[.ref l, .int 0 0] }).push (seqObj "list" #[] 0)) (fun b x e => Heap.get?_push_of_some _ (Heap.get?_push_of_some _ e)) ⟨_, gI⟩ ⟨_, gS⟩
  have W := Walks.list (prog := prog) (w := w) (A := A.in1) hh s.heap.objs.size l hlI vs.toArray
  have hsz : vs.toArray.size = vs.length := List.size_toArray ..
  refine codeAny_builtin PySem.F.entry_min_loop ?_
  rw [Around.under_plainId PySem.F.plain_min_loop _, hS]
  show wpAny _ A.in1 (seqItems? (.ref _) >>= _) _ _ _
  refine wpAny_bind (wpAny_seqItems gS rfl ?_)
  show wpAny _ A.in1 (tryCatch (pyNext (.ref s.heap.objs.size)) _ >>= _) _ _ _
  refine wpAny_bind (wpAny_tryCatch (W.item 0 _ _ _ (by rw [hsz]; exact hne) ⟨⟨_, gI, rfl, rfl⟩, hl _ _ _ _ GH⟩ fun v h' tk' hP hst' hk' => ?_))
  have hv : vs[0]? = some v := by simpa using hP
  obtain ⟨oI', hoI', hoc, hod⟩ := id hst'.1
  have gS' := hk' _ _ (by simpa using hSI) gS
  have G1 := hfr _ _ _ _ h' tk' _ (.inl rfl) GH (fun b o hb e => hk' b o (by simpa using hb) e) ⟨_, hoI'⟩
  show wpAny _ A.in1 (tryCatch (holding [v] (call (.ref q) [v])) _ >>= _) _ _ _
  refine wpAny_bind (wpAny_tryCatch (wpAny_holding (wpAny_mono (turn _ _ 0 v _ _ hv G1) (fun x s2 he => ?_) fun _ _ hF => hF.elim)))
  obtain ⟨t2, rfl, G2, kI, kS⟩ := he
  have nS2 := kS _ gS'
  have nI2 := kI _ hoI'
  have s1 := Heap.SameBut.update s2.heap (s.heap.objs.size + 1) (Obj.mapSeq fun _ => #[v, .ref t2])
  obtain ⟨c2, hc2⟩ : ∃ c2, (s2.heap.update (s.heap.objs.size + 1) (Obj.mapSeq fun _ => #[v, .ref t2])).get? (s.heap.objs.size + 1) = some (seqObj "list" #[v, .ref t2] c2) := ⟨_, get?_update_seq nS2 fun _ => #[v, .ref t2]⟩
  show wpAny _ A.in1 (updateSeq (s.heap.objs.size + 1) (fun _ => #[v, .ref t2]) >>= _) _ _ _
  refine wpAny_bind ?_
  refine wpAny_updateSeq nS2 rfl ?_
  rw [hname]
  refine wpAny_pure ⟨plainId_quiet PySem.F.plain_min_loop _, ml_loop (G := G s.heap.objs.size (s.heap.objs.size + 1)) kf hh hlI hSI (hl _ _) (hfr _ _) (hlt _ _) (turn _ _) (fun i v ks s' h1 h2 u1 u2 a b c d e => hQ _ _ i v ks s' h1 h2 u1 u2 a b c d e) _ 0 0 _ ((t2, kf 0) :: []) v t2 c2 rfl hne (hfr _ _ _ _ _ _ _ (.inr rfl) G2 (fun b o hb e => (s1.2 b hb).trans e) ⟨_, hc2⟩) hc2 ⟨oI', (s1.2 _ hSI.symm).trans nI2, hoc, hod⟩ (.head _) hv (Nat.le_refl _) fun j' hj' => ?_⟩
  have e : j' = 0 := by omega
  subst e
  exact ⟨by rw [klt_no]; omega, fun h => absurd h (Nat.lt_irrefl _)⟩
end

/-! ### in a def -/
section
variable {CX : CXT} {P : Program} {w : World} {K : PySem.W.Frag} {mg : Str → Option Value} {base : Heap} {k : Nat} {f c' : Addr} {qual : Str} {params : Arguments} {body : Expr} {scope : Scope} {pm ctv : Value} {N ps : List Str} {A : Around} {outer : List Env} {s : Shared} {H : Hp} {args : Args} {us : List Value} {vs : List V} {Q : VK} {E : XK}
/-- a lambda without captured names is called -/
theorem run_lam (ho : s.heap.get? f = some (PySem.W.kla_obj "<lambda>" qual params body scope [] pm c' ctv)) (hco : H c' = some (LamX.CodeO c' qual)) (S : FnScope N ps scope) (hr : Room (k + 1) A) (e0 : Env0 P w K mg base A outer s H)
    (hb : bindArgs (PySem.W.kla_fn "<lambda>" qual params body scope [] pm (.ref c') ctv) args = pure (ps.zip us)) (r : Vals vs us) (hl : vs.length = ps.length)
    (hbody : Room k (A.deeper (envOfC qual scope s.heap.objs.size f (.ref c'))) → ∃ t, PE (cxOf CX P w K mg base N qual scope f (.ref c') A outer s H E) body t ∧ t (L2.start N vs) H Q) :
    codeAny (model P w) A (.call (.ref f) args) (CR CX outer P w H s Q E) s := by
  have lim : s.heap.NoLimit := e0.mod.nolimit.keeps fun b o e => (e0.bs b o e).1
  have hkind : ∀ y ∈ ps.zip us, scope.names.lookup y.1 = some .local ∨ (scope.names.lookup y.1 = some .cell ∧ ((cellsFrom (s.heap.objs.size + 1) scope.names []).lookup y.1).isSome = true) := fun ⟨n, v⟩ hy => by
    rcases S.par n (List.of_mem_zip hy).1 with q | q
    · exact .inl q
    · exact .inr ⟨q, PySem.W.cellsFrom_some _ _ _ (.inl q)⟩
  obtain ⟨⟨oc, vs', t, hoc, hdc, hvc⟩, _, _⟩ := e0.hok c' _ hco
  refine PySem.W.kla_callFunE hr.depth ho rfl S.co S.gen rfl ⟨c', oc, vs', t, rfl, hoc, hdc, hvc⟩ ?_
  rw [hb]
  refine wpAny_pure ?_
  refine wpAny_newFunctionEnv_cells S.kind hkind fun env he s1 x => ?_
  subst he
  refine ⟨lim.keeps x.toInCall.keep, ?_⟩
  obtain ⟨t, ht, hq⟩ := hbody (hr.deeper _)
  have I : Inv (cxOf CX P w K mg base N qual scope f (.ref c') A outer s H E) [] (L2.start N vs) H s1 := inv_start S hr.hd e0 hl r x
  refine PySem.W.kla_codeExpr (wpAny_mono (ht.run [] s1 (L2.start N vs) H _ I hq) (fun u s' hs => ?_) fun e s' hs => hs)
  obtain ⟨v, H', J, rv, q⟩ := hs
  exact ⟨v, H', J.os, J.bare, J.base, J.hok, rv, q⟩
end
structure Lone (X : Cx) (pins : List (Addr × Obj)) (H : Hp) (s : Shared) (it : Addr) : Prop where
  no : H it = none
  loc : it ≠ X.env.locals
  new : X.s_0.heap.objs.size ≤ it
  cel : ∀ x c, X.env.cells.lookup x = some c → c ≠ it
  pin : ∀ p ∈ X.pn ++ pins, p.1 ≠ it
  frm : it ∉ frs X.stack
  has : ∃ o, s.heap.get? it = some o
section
variable {X : Cx} {pins : List (Addr × Obj)} {σ : L2.St} {H H' : Hp} {s : Shared} {it : Addr}
theorem big_ne {n a b : Nat} (h : n ≤ a) (h2 : b < n) : a ≠ b := fun z => by omega
theorem lone_new {h' : Heap} (I : Inv X pins σ H s) (h : s.heap.objs.size ≤ it) (hh : ∃ o, h'.get? it = some o) : Lone X pins H { s with heap := h' } it :=
  ⟨I.hok.fresh h, big_ne h I.lt, Nat.le_trans I.sz h, fun x c e => by
    obtain ⟨v, o, ho, _⟩ := I.cell x c e
    exact (big_ne h (Heap.lt_size ho)).symm, fun p hp => (big_ne h (Heap.lt_size (I.pin p hp).1)).symm, fun z => by
      rcases List.mem_cons.mp (I.stkSub _ z) with e | e
      · exact big_ne h I.lt e
      · exact I.nofs h e, hh⟩
/-- what holds as the rows are walked -/
def MinG (X : Cx) (pins : List (Addr × Obj)) (σ : L2.St) (H : Hp) (f : Addr) (fo : Obj) (I S : Addr) (ks : List (Addr × Int × Int)) (s : Shared) : Prop :=
  ∃ H', Inv X pins σ H' s ∧ Same H H' ∧ (∀ p ∈ ks, H' p.1 = some (.tup [.int p.2.1, .int p.2.2])) ∧ s.heap.get? f = some fo ∧ H' f = none ∧ f ∉ frs X.stack ∧ f ≠ I ∧ f ≠ S ∧ Lone X pins H' s I ∧ Lone X pins H' s S
variable {f I S a : Addr} {fo : Obj} {ks : List (Addr × Int × Int)} {h' : Heap} {tk : Nat}
theorem Lone.keep (l : Lone X pins H s a) (k : ∀ b o, b ≠ it → s.heap.get? b = some o → h'.get? b = some o) (hh : ∃ o, h'.get? it = some o) : Lone X pins H { s with heap := h', toks := tk } a :=
  ⟨l.no, l.loc, l.new, l.cel, l.pin, l.frm, by
    by_cases e : a = it
    · rw [e]
      exact hh
    · obtain ⟨o, ho⟩ := l.has
      exact ⟨o, k a o e ho⟩⟩
theorem minG_fr (g : MinG X pins σ H f fo I S ks s) (hit : it = I ∨ it = S) (k : ∀ b o, b ≠ it → s.heap.get? b = some o → h'.get? b = some o) (hh : ∃ o, h'.get? it = some o) : MinG X pins σ H f fo I S ks { s with heap := h', toks := tk } := by
  obtain ⟨H', J, sm, hk, hf, nf, ff, f1, f2, lI, lS⟩ := g
  have l : Lone X pins H' s it ∧ f ≠ it := by
    rcases hit with rfl | rfl
    · exact ⟨lI, f1⟩
    · exact ⟨lS, f2⟩
  exact ⟨H', J.turned k l.1.no l.1.loc (.inr l.1.new) l.1.cel l.1.pin, sm, hk, k f _ l.2 hf, nf, ff, f1, f2, lI.keep k hh, lS.keep k hh⟩
theorem minG_end {h1 : Heap} {t1 : Nat} (g : MinG X pins σ H f fo I S ks s) (k1 : ∀ b o, b ≠ I → s.heap.get? b = some o → h1.get? b = some o) (k2 : ∀ b o, b ≠ S → h1.get? b = some o → h'.get? b = some o) :
    ∃ H', Inv X pins σ H' { s with heap := h', toks := tk } ∧ Same H H' := by
  obtain ⟨H', J, sm, hk, hf, nf, ff, f1, f2, lI, lS⟩ := g
  have J1 := J.turned (t' := t1) k1 lI.no lI.loc (.inr lI.new) lI.cel lI.pin
  exact ⟨H', J1.turned (t' := tk) k2 lS.no lS.loc (.inr lS.new) lS.cel lS.pin, sm⟩
theorem minG_lt (g : MinG X pins σ H f fo I S ks s) {p1 p2 : Addr × Int × Int} (m1 : p1 ∈ ks) (m2 : p2 ∈ ks) (hu : X.A.in1.units < cLine) {E : Value → Shared → Prop} {Q : Value → Shared → Prop} (q : Q (.bool (klt p1.2 p2.2)) s) :
    wpAny (model X.prog X.w) X.A.in1 (richCompare .Lt (.ref p1.1) (.ref p2.1)) Q E s := by
  obtain ⟨H', J, sm, hk, _⟩ := g
  obtain ⟨its, r1, q1, _⟩ := J.tuple (.inl (.inl (hk p1 m1)) : SqT X.K H' p1.1 [.int p1.2.1, .int p1.2.2])
  obtain ⟨its2, r2, q2, _⟩ := J.tuple (.inl (.inl (hk p2 m2)) : SqT X.K H' p2.1 [.int p2.2.1, .int p2.2.2])
  have i1 : IntsAre its.toArray.toList [p1.2.1, p1.2.2] := intsAre_of (ns := [p1.2.1, p1.2.2]) r1
  have i2 : IntsAre its2.toArray.toList [p2.2.1, p2.2.2] := intsAre_of (ns := [p2.2.1, p2.2.2]) r2
  exact HT.lt_tupInts q1 q2 i1 i2 hu q
variable {k : Nat} {c' : Addr} {qual x : Str} {params : Arguments} {body : Expr} {scope : Scope} {pm ctv : Value} {N : List Str} {tb : TE} {kp : Int × Int}
def tKey (N : List Str) (tb : TE) (H : Hp) (a : Addr) (kp : Int × Int) : Prop := ∀ H3, Same H H3 → tb (L2.start N [.ref a]) H3 (fun v H4 => ∃ kt, v = .ref kt ∧ Same H3 H4 ∧ H4 kt = some (.tup [.int kp.1, .int kp.2]))
theorem minG_turn (g : MinG X pins σ H f (PySem.W.kla_obj "<lambda>" qual params body scope [] pm c' ctv) I S ks s) (hco : H c' = some (LamX.CodeO c' qual)) (Sc : FnScope N [x] scope) (hr : Room (k + 2) X.A)
    (hb : ∀ u, bindArgs (PySem.W.kla_fn "<lambda>" qual params body scope [] pm (.ref c') ctv) ⟨[u], []⟩ = pure [(x, u)])
    (hp : ∀ (A : Around) (outer : List Env) (s : Shared) (H : Hp), Room k (A.deeper (envOfC qual scope s.heap.objs.size f (.ref c'))) → PE (cxOf C8.CX0 X.prog X.w X.K X.mg X.base N qual scope f (.ref c') A outer s H C8.E0) body tb)
    (ht : tKey N tb H a kp) :
    wpAny (model X.prog X.w) X.A.in1 (call (.ref f) [.ref a]) (fun u s2 => ∃ t, u = .ref t ∧ MinG X pins σ H f (PySem.W.kla_obj "<lambda>" qual params body scope [] pm c' ctv) I S ((t, kp) :: ks) s2 ∧ (∀ o, s.heap.get? I = some o → s2.heap.get? I = some o) ∧ ∀ o, s.heap.get? S = some o → s2.heap.get? S = some o) (fun _ _ => False) s := by
  obtain ⟨H', J, sm, hk, hf, nf, ff, f1, f2, lI, lS⟩ := g
  refine wpAny_call (codeAny_mono (run_lam (CX := C8.CX0) (E := C8.E0) (us := [.ref a]) (vs := [.ref a]) (ps := [x]) hf (sm _ _ hco) Sc hr.in1 J.env0.in1 (hb _) (.cons rfl .nil) rfl fun hr' => ⟨tb, hp _ _ _ _ hr', ht H' sm⟩) fun r s2 hq => ?_)
  cases r with
  | error e => exact (show False from hq).elim
  | ok fl =>
    cases fl with
    | ret u =>
      obtain ⟨v, H4, os, bare, un, hok, rv, kt, rfl, sm2, hkt⟩ := hq
      obtain rfl : u = .ref kt := rv
      obtain ⟨hh, g, d, t, os'⟩ := s2
      obtain rfl : os' = s.os := os
      have kk : ∀ b o, H' b = none → b ∉ frs X.stack → s.heap.get? b = some o → hh.get? b = some o := fun b o h1 h2 e => un.keep b o e h1 h2 (by simp)
      have ll : ∀ b, Lone X pins H' s b → Lone X pins H4 ⟨hh, g, d, t, s.os⟩ b := fun b l => by
        obtain ⟨o, ho⟩ := l.has
        exact ⟨un.free b o ho l.no (by simp), l.loc, l.new, l.cel, l.pin, l.frm, o, kk b o l.no l.frm ho⟩
      refine ⟨kt, rfl, ⟨H4, J.call (h' := hh) (g' := g) (d' := d) (t' := t) (ch := []) un hok bare (fun b z => absurd z (by simp)), sm.trans sm2, fun p hp => ?_, kk f _ nf ff hf, un.free f _ hf nf (by simp), ff, f1, f2, ll I lI, ll S lS⟩, fun o e => kk I o lI.no lI.frm e, fun o e => kk S o lS.no lS.frm e⟩
      rcases List.mem_cons.mp hp with rfl | hp
      · exact hkt
      · exact sm2 _ _ (hk p hp)
    | next => exact False.elim hq
    | brk => exact False.elim hq
    | cont => exact False.elim hq
end
/-! ### a lambda is made: what becomes of the table -/
/-- the table at P has grown by a code object, or all is as it was -/
def TabStep (P : Addr) (q : Str) (H H1 : Hp) : Prop := H1 = H ∨ ∃ (ps : Array Value) (pos : Pos) (c : Addr), H P = some (.tbl ps) ∧ H c = none ∧ H1 = upd (upd H P (.tbl (ps ++ #[rawInt pos.line, rawInt pos.col, .ref c]))) c (LamX.CodeO c q)
section
variable {X : Cx} {pins : List (Addr × Obj)} {σ : L2.St} {H : Hp} {s : Shared}
theorem make_lam {c P : Addr} {params : Arguments} {body : Expr} {scope : Scope} {pos : Pos} {E : Value → Shared → Prop} {Q : Value → Shared → Prop} (I : Inv X pins σ H s) (TB : LamX.TabB X.base X.mg c P) (hcode : X.env.code = .ref c)
    (hT : LamX.TabS H P (X.env.qual ++ "<lambda>")) (hdef : defaultsOf params X.env = ([], [])) (hfree : ∀ y ∈ scope.names, y.2 = .free → ∃ c, X.env.cells.lookup y.1 = some c)
    (h : ∀ (f c' : Addr) (pm ctv : Value) (H1 : Hp) (s' : Shared), Inv X pins σ H1 s' → TabStep P (X.env.qual ++ "<lambda>") H H1 → LamX.TabS H1 P (X.env.qual ++ "<lambda>") →
      s'.heap.get? f = some (PySem.W.kla_obj "<lambda>" (X.env.qual ++ "<lambda>") params body scope (cloFrom X.env.cells scope.names []) pm c' ctv) → H1 f = none → f ∉ frs X.stack → H1 c' = some (LamX.CodeO c' (X.env.qual ++ "<lambda>")) → Q (.ref f) s') :
    wpAny (model X.prog X.w) X.A (eval (.Lambda params body scope pos) X.env) Q E s := by
  obtain ⟨ps, hP, ht, ha⟩ := id hT
  have bP : s.heap.BuiltinsAt X.mg P := TB.bm.keeps I.bk
  have hP' : s.heap.get? P = some { cls := .none, data := .fields ps } := I.hok P _ hP
  have away : ∀ f, s.heap.objs.size ≤ f → f ∉ frs X.stack := fun f hf z => by
    rcases List.mem_cons.mp (I.stkSub _ z) with e | e
    · exact big_ne hf I.lt e
    · exact I.nofs hf e
  refine PySem.W.kla_eval hdef ?_
  cases hc : codeAmong pos ps.toList with
  | some cv =>
    obtain ⟨c', rfl, hco⟩ := ha pos cv hc
    refine PySem.W.kla_makeFunctionHit (mg := X.mg) (c := c) (P := P) (ps := ps) (closure_ok hfree) I.ok.glob (I.mod.glob.keeps I.bk) hcode (TB.code.keeps I.bk) hP' ht hc bP fun ctv h' tk hx hsz => ?_
    exact h h'.objs.size c' _ ctv H _ (I.kept fun b o e => Heap.get?_push_of_some _ (hx b o e)) (.inl rfl) hT (Heap.get?_push_size _ rfl) (I.hok.fresh hsz) (away _ hsz) hco
  | none =>
    refine PySem.W.kla_makeFunction (mg := X.mg) (c := c) (P := P) (ps := ps) (closure_ok hfree) I.ok.glob (I.mod.glob.keeps I.bk) hcode (TB.code.keeps I.bk) hP' ht hc TB.gP bP fun c' ctv h' tk hx hge hlt hrec htb => ?_
    obtain ⟨c2, oc, vs, t, e2, hoc, hd, hv⟩ := hrec
    cases e2
    have hsz : s.heap.objs.size ≤ h'.objs.size := Nat.le_trans hge (Nat.le_of_lt hlt)
    have nC : H c' = none := I.hok.fresh hge
    have nPc : P ≠ c' := ne_of_none hP nC
    have I1 := LamX.inv_table (t' := tk) (more := #[rawInt pos.line, rawInt pos.col, .ref c']) (h' := h'.push (PySem.W.kla_obj "<lambda>" (X.env.qual ++ "<lambda>") params body scope (cloFrom X.env.cells scope.names []) ((X.mg "__name__").getD .none) c' ctv)) I hP
      (fun b o hb e => Heap.get?_push_of_some _ (hx b o hb e)) (Heap.get?_push_of_some _ htb) hge ⟨oc, vs, t, Heap.get?_push_of_some _ hoc, hd, hv⟩
    have n2 : h'.objs.size ≠ P := big_ne hsz (Heap.lt_size hP')
    have keepC : ∀ b q, H b = some (LamX.CodeO b q) → upd (upd H P (.tbl (ps ++ #[rawInt pos.line, rawInt pos.col, .ref c']))) c' (LamX.CodeO c' (X.env.qual ++ "<lambda>")) b = some (LamX.CodeO b q) := fun b q e => by
      rw [upd_ne (ne_of_none e nC), upd_ne fun z => LamX.codeO_ne ps (Option.some.inj (e.symm.trans (by rw [z]; exact hP)))]
      exact e
    refine h h'.objs.size c' _ ctv _ _ I1 (.inr ⟨ps, _, c', hP, nC, rfl⟩) ⟨_, by rw [upd_ne nPc, upd_same], ?_, fun p' cv hcv => ?_⟩ (Heap.get?_push_size _ rfl) ?_ (away _ hsz) upd_same
    · rw [Array.toList_append]
      exact PySem.TriplesOk_snoc _ _ _ _ ht
    · rw [Array.toList_append] at hcv
      rcases LamX.among_app _ ht hcv with z | z
      · obtain ⟨c0, e1, e2⟩ := ha p' cv z
        exact ⟨c0, e1, keepC _ _ e2⟩
      · exact ⟨c', z, upd_same⟩
    · rw [upd_ne (Nat.ne_of_gt hlt), upd_ne n2]
      exact I.hok.fresh hsz
end
/-! ### the rule -/
def rMinK (P : Addr) (lq : Str) (N : List Str) (tb : TE) (vs : List V) (H1 : Hp) (Q : VK) : Prop := ∃ (l : Addr) (as : List Addr) (kf : Nat → Int × Int), vs = [.ref l] ∧ 0 < as.length ∧ LamX.TabS H1 P lq ∧ H1 l = some (.lst (as.map V.ref)) ∧
  ∀ H2, TabStep P lq H1 H2 → LamX.TabS H2 P lq → H2 l = some (.lst (as.map V.ref)) ∧ (∀ i a, as[i]? = some a → tKey N tb H2 a (kf i)) ∧ ∀ i a H3, as[i]? = some a → Least kf as.length i → Same H2 H3 → Q (.ref a) H3
def tMinK (P : Addr) (lq : Str) (N : List Str) (tb : TE) (t : TA) : TE := fun σ H Q => t σ H fun vs H1 => rMinK P lq N tb vs H1 Q
section
variable {X : Cx} {c P : Addr} {k : Nat} {mn x : Str} {params : Arguments} {body : Expr} {scope : Scope} {N : List Str} {e : Expr} {t : TA} {tb : TE} {nm : Option Str} {p lpos kpos pos : Pos}
theorem vals_refs : ∀ {as : List Addr} {us : List Value}, Vals (as.map V.ref) us → us = as.map Value.ref
  | [], _, .nil => rfl
  | a :: as, _, .cons r t => by
    obtain rfl := r
    rw [vals_refs t]
    rfl
theorem clo_nil {cells : List (Str × Addr)} : ∀ {names : List (Str × NameKind)} {acc : List (Str × Addr)}, (∀ y ∈ names, y.2 ≠ .free) → cloFrom cells names acc = acc
  | [], _, _ => rfl
  | (n, k) :: r, acc, h => by
    have h1 : k ≠ .free := h (n, k) (.head _)
    unfold cloFrom
    rw [if_neg (by simpa using h1)]
    exact clo_nil fun y hy => h y (.tail _ hy)
theorem pe_minK (TB : LamX.TabB X.base X.mg c P) (hcode : X.env.code = .ref c) (hr : Room (k + 2) X.A)
    (hg : Gl X mn) (hm : X.mg mn = none) (hv : bootBuiltins mn = some (.builtin "min")) (ha : PA X [e] t) (hdef : defaultsOf params X.env = ([], [])) (Sc : FnScope N [x] scope) (hb : ∀ (q : Str) (pm cv ctv : Value) u, bindArgs (PySem.W.kla_fn "<lambda>" q params body scope [] pm cv ctv) ⟨[u], []⟩ = pure [(x, u)])
    (hp : ∀ (f c' : Addr) (A : Around) (outer : List Env) (s : Shared) (H : Hp), Room k (A.deeper (envOfC (X.env.qual ++ "<lambda>") scope s.heap.objs.size f (.ref c'))) → PE (cxOf C8.CX0 X.prog X.w X.K X.mg X.base N (X.env.qual ++ "<lambda>") scope f (.ref c') A outer s H C8.E0) body tb)
    (hn : mn ≠ "__name__" := by decide) (hdb : (mn == ("__debug__" : Str)) = false := by decide)
    (hkw : nm = some (Str.ofString "key") := by rfl)
    (he : backTo pos (starEach [e] X.env) = (false, eval e X.env) :: backTo pos (starEach [] X.env) := by rfl) (hpl : (backTo pos (starEach [e] X.env)).any (·.1) = false := by rfl) :
    PE X (.Call (.Name mn p) [e] [⟨nm, .Lambda params body scope lpos, kpos⟩] pos) (tMinK P (X.env.qual ++ "<lambda>") N tb t) := by
  subst hkw
  have hfree : ∀ y ∈ scope.names, y.2 = .free → ∃ c, X.env.cells.lookup y.1 = some c := fun y hy z => absurd z (Sc.nofree y hy)
  have hclo : cloFrom X.env.cells scope.names [] = [] := clo_nil Sc.nofree
  refine ⟨fun pins s σ H Q I h => ?_⟩
  refine wpAny_Call_Name_kw (ld_blt I hg hm hv ?_ hn hdb)
  refine PyProof.Rows.callWith_kw (thn (ha.run pos pins s σ H _ I h) fun us s1 ⟨vs, H1, I1, r1, q1⟩ => ?_) he hpl rfl rfl
  obtain ⟨l, as, kf, rfl, hne, hT, hl, q1⟩ := q1
  obtain rfl := Vals.ref1 r1
  show wpAny _ _ (evalAll ((do let v ← eval (.Lambda params body scope lpos) X.env; standAt pos; pure v) :: [])) _ _ _
  refine wpAny_evalAll_cons (wpAny_bind (make_lam I1 TB hcode hT hdef hfree fun f c' pm ctv H2 s2 I2 eN T2 hf hfn hfr hco => wpAny_bind (wpAny_standAt (wpAny_pure (wpAny_evalAll_nil ?_)))))
  rw [hclo] at hf
  obtain ⟨hl2, q2, q3⟩ := q1 H2 eN T2
  show wpAny _ _ (call (.builtin "min") [.ref l] [(Str.ofString "key", .ref f)]) _ _ _
  have hls : ∀ {H' : Hp} {s' : Shared}, Inv X pins σ H' s' → H' l = some (.lst (as.map V.ref)) → s'.heap.IsList l (as.map Value.ref).toArray := fun {H' s'} J e => by
    obtain ⟨its, rv, pl, _⟩ := J.list (.inl (.inl e))
    rw [← vals_refs rv]
    exact pl.isList
  have hlen : (as.map Value.ref).length = as.length := List.length_map ..
  have at_ : ∀ {i : Nat} {v : Value}, (as.map Value.ref)[i]? = some v → ∃ a, as[i]? = some a ∧ v = .ref a := fun {i v} e => by
    rw [List.getElem?_map] at e
    cases h : as[i]? with
    | none =>
      rw [h] at e
      cases e
    | some a =>
      rw [h] at e
      cases e
      exact ⟨a, rfl, rfl⟩
  have szf : f < s2.heap.objs.size := Heap.lt_size hf
  refine ml_call (G := MinG X pins σ H2 f (PySem.W.kla_obj "<lambda>" (X.env.qual ++ "<lambda>") params body scope [] pm c' ctv)) kf hr.hd (by rw [hlen]; exact hne) (hls I2 hl2) (fun I S ks s' g => ?_)
    (fun I S ks s' h' tk it hit g k hh => minG_fr g hit k hh) (fun I S ks s' p1 p2 g m1 m2 E Q q => minG_lt g m1 m2 ?_ q) (fun I S i v ks s' hv g => ?_) (fun h' kk e1 e2 => ?_) (fun I S i v ks s' h1 h' t1 t' hv hlst g k1 k2 => ?_)
  · obtain ⟨H', J, sm, _⟩ := g
    exact hls J (sm _ _ hl2)
  · have := hr.in1.un
    omega
  · obtain ⟨a, ha', rfl⟩ := at_ hv
    exact minG_turn g hco Sc hr (hb _ _ _ _) (hp f c') (q2 i a ha')
  · refine ⟨H2, I2.kept kk, Same.refl _, fun p hp => absurd hp (by simp), kk _ _ hf, hfn, hfr, Nat.ne_of_lt szf, Nat.ne_of_lt (Nat.lt_succ_of_lt szf), ?_, ?_⟩
    · exact lone_new I2 (Nat.le_refl _) e1
    · exact lone_new I2 (Nat.le_succ _) e2
  · obtain ⟨a, ha', rfl⟩ := at_ hv
    obtain ⟨H', J, sm⟩ := minG_end (tk := t') (t1 := t1) g k1 k2
    exact ⟨.ref a, H', J, rfl, q3 i a H' ha' (by rw [hlen] at hlst; exact hlst) sm⟩
end

/-! ### by pieces -/
def tab (P : Addr) (q : Str) : Asn := fun H => LamX.TabS H P q
section
variable {L R : List Asn} {H H1 : Hp} {P : Addr} {q : Str}
instance : Mono (tab P q) := ⟨fun s t => t.ext s⟩
theorem Hs.tabStep (h : Hs (tab P q :: L) H) (st : TabStep P q H H1) (t : LamX.TabS H1 P q) : Hs (tab P q :: L) H1 := by
  rcases st with rfl | ⟨ps, pos, c, hP, nc, rfl⟩
  · exact h
  · obtain ⟨Ha, Hb, s1, s2, d, ta, hb⟩ := h
    obtain ⟨ps', hPa, tr, ha⟩ := id ta
    have e1 := s1 _ _ hPa
    rw [hP] at e1
    obtain rfl : ps = ps' := by
      injection e1 with e1
      injection e1
    have nb : Hb P = none := by
      rcases d _ _ hPa with z | ⟨xs, z⟩
      · exact z
      · cases z
    have nca : Ha c = none := by
      cases e : Ha c with
      | none => rfl
      | some o =>
        have := s1 _ _ e
        rw [nc] at this
        cases this
    have ncb : Hb c = none := by
      cases e : Hb c with
      | none => rfl
      | some o =>
        have := s2 _ _ e
        rw [nc] at this
        cases this
    have nPc : P ≠ c := ne_of_none hP nc
    refine ⟨upd (upd Ha P (.tbl (ps ++ #[rawInt pos.line, rawInt pos.col, .ref c]))) c (LamX.CodeO c q), Hb, fun a o e => ?_, fun a o e => ?_, fun a o e => ?_, ?_, hb⟩
    · by_cases h1 : a = c
      · rw [h1, upd_same] at e ⊢
        exact e
      · rw [upd_ne h1] at e ⊢
        by_cases h2 : a = P
        · rw [h2, upd_same] at e ⊢
          exact e
        · rw [upd_ne h2] at e ⊢
          exact s1 _ _ e
    · rw [upd_ne (fun z => by rw [z, ncb] at e; cases e), upd_ne (fun z => by rw [z, nb] at e; cases e)]
      exact s2 _ _ e
    · by_cases h1 : a = c
      · rw [h1]
        exact .inl ncb
      · by_cases h2 : a = P
        · rw [h2]
          exact .inl nb
        · rw [upd_ne h1, upd_ne h2] at e
          exact d _ _ e
    · obtain ⟨ps2, hP2, tr2, ha2⟩ := t
      rw [upd_ne nPc, upd_same] at hP2
      obtain rfl : ps ++ #[rawInt pos.line, rawInt pos.col, .ref c] = ps2 := by
        injection hP2 with z
        injection z
      refine ⟨_, by rw [upd_ne nPc, upd_same], tr2, fun pos' cv hc => ?_⟩
      rw [Array.toList_append] at hc
      rcases LamX.among_app _ tr hc with z | z
      · obtain ⟨c0, e0, hc0⟩ := ha _ _ z
        refine ⟨c0, e0, ?_⟩
        rw [upd_ne (ne_of_none hc0 nca), upd_ne fun z => LamX.codeO_ne ps (Option.some.inj (hc0.symm.trans (by rw [z]; exact hPa)))]
        exact hc0
      · exact ⟨c, z, upd_same⟩
/-- all of H0 is there -/
def below (H0 : Hp) : Asn := fun H => Same H0 H
instance {H0 : Hp} : Mono (below H0) := ⟨fun s h => h.trans s⟩
theorem Hs.below : Hs [below H] H := ⟨H, fun _ => none, Same.refl H, (fun _ _ e => by cases e), (fun _ _ _ => .inl rfl), Same.refl H, True.intro⟩
theorem dv_pair {x : V} {u : Int × Int} (h : Dv H x (dPair u)) : ∃ a, x = .ref a ∧ H a = some (.tup [.int u.1, .int u.2]) := by
  cases h with
  | tup ha hs =>
    cases hs with
    | cons h1 t =>
      cases t with
      | cons h2 t2 =>
        cases t2
        cases h1
        cases h2
        exact ⟨_, rfl, ha⟩
theorem dv_refs : ∀ {us : List V} {ps : List (Int × Int)}, DvAll H us (ps.map dPair) → ∃ as : List Addr, us = as.map V.ref ∧ as.length = ps.length ∧ ∀ (i : Nat) (a : Addr), as[i]? = some a → ∃ u, ps[i]? = some u ∧ Dv H (.ref a) (dPair u)
  | [], [], _ => ⟨[], rfl, rfl, fun i a e => by simp at e⟩
  | _ :: _, _ :: _, .cons h t => by
    obtain ⟨as, rfl, h2, h3⟩ := dv_refs t
    obtain ⟨a, rfl, _⟩ := dv_pair h
    refine ⟨a :: as, rfl, congrArg (· + 1) h2, fun i b e => ?_⟩
    rcases i with _ | i
    · obtain rfl : a = b := Option.some.inj e
      exact ⟨_, rfl, h⟩
    · exact h3 i b e
theorem s_minK {p : Addr} {N : List Str} {tb : TE} {Q : VK} {ps : List (Int × Int)} {kf : Int × Int → Int × Int} (hS : Hs L H) (kt : Pick L (tab P q) R) (kl : HasL R p (ps.map dPair)) (hne : 0 < ps.length)
    (hk : ∀ (u : Int × Int) (r : Addr) (H3 : Hp), Hs [dv (.ref r) (dPair u), below H3] H3 → tb (L2.start N [.ref r]) H3 (fun v H4 => Dv H4 v (dPair (kf u)) ∧ Same H3 H4))
    (h : ∀ (H' : Hp) (r : Addr) (u : Int × Int), u ∈ ps → (∀ y ∈ ps, klt (kf y) (kf u) = false) → Hs (dv (.ref r) (dPair u) :: tab P q :: R) H' → Q (.ref r) H') : rMinK P q N tb [.ref p] H Q := by
  have hT := kt.go hS
  obtain ⟨us, hp, hd⟩ := kl.at_ hT.tl
  obtain ⟨as, rfl, hlen, hat⟩ := dv_refs hd
  refine ⟨p, as, fun i => kf (ps.getD i (0, 0)), rfl, by rw [hlen]; exact hne, hT.hd, hp, fun H2 st t2 => ?_⟩
  have hT2 := hT.tabStep st t2
  obtain ⟨us2, hp2, hd2⟩ := kl.at_ hT2.tl
  have e2 : H2 p = some (.lst (as.map V.ref)) := by
    rcases st with rfl | ⟨w, pos, c, hP, nc, rfl⟩
    · exact hp
    · rw [upd_ne (ne_of_none hp nc), upd_ne fun z => by rw [z, hP] at hp; cases hp]
      exact hp
  rw [e2] at hp2
  obtain rfl : as.map V.ref = us2 := by
    injection hp2 with z
    injection z
  have hat2 : ∀ (i : Nat) (a : Addr), as[i]? = some a → ∃ u, ps[i]? = some u ∧ Dv H2 (.ref a) (dPair u) := by
    obtain ⟨as2, e3, _, h3⟩ := dv_refs hd2
    have : as = as2 := by
      have inj : ∀ {l1 l2 : List Addr}, l1.map V.ref = l2.map V.ref → l1 = l2 := fun {l1 l2} e => map_inj (fun a b e => by injection e) e
      exact inj e3
    subst this
    exact h3
  refine ⟨e2, fun i a ha H3 sm => ?_, fun i a H3 ha hl sm => ?_⟩
  · obtain ⟨u, hu, hv⟩ := hat2 i a ha
    have eu : ps.getD i (0, 0) = u := by simp [hu]
    have hv3 := hv.sub sm
    have hb : Hs [dv (.ref a) (dPair u), below H3] H3 := Hs.add (A := dv (.ref a) (dPair u)) hv3 Hs.below
    have key := hk u a H3 hb
    have post : (fun v H4 => Dv H4 v (dPair (kf u)) ∧ Same H3 H4) = (fun v H4 => ∃ kt, v = V.ref kt ∧ Same H3 H4 ∧ H4 kt = some (.tup [.int (kf (ps.getD i (0, 0))).1, .int (kf (ps.getD i (0, 0))).2])) := by
      rw [eu]
      funext v H4
      refine propext ⟨fun ⟨z1, z2⟩ => ?_, fun ⟨kt, z1, z2, z3⟩ => ?_⟩
      · obtain ⟨kt, e, e'⟩ := dv_pair z1
        exact ⟨kt, e, z2, e'⟩
      · subst z1
        exact ⟨.tup z3 (.cons (.int _) (.cons (.int _) .nil)), z2⟩
    rw [post] at key
    exact key
  · obtain ⟨u, hu, hv⟩ := hat2 i a ha
    have eu : ps.getD i (0, 0) = u := by simp [hu]
    refine h H3 a u (List.mem_of_getElem? hu) (fun y hy => ?_) (Hs.add (hv.sub sm) (hT2.sub sm))
    obtain ⟨j, hj, ej⟩ := List.getElem_of_mem hy
    have hj2 : ps[j]? = some y := by rw [List.getElem?_eq_getElem hj, ej]
    have ey : ps.getD j (0, 0) = y := by simp [hj2]
    have z := (hl j (by rw [hlen]; exact hj)).1
    have z : klt (kf (ps.getD j (0, 0))) (kf (ps.getD i (0, 0))) = false := z
    rw [ey, eu] at z
    exact z
end

/-- a def whose code object is named -/
theorem okC {P : Program} {w : World} {K : PySem.W.Frag} {mg : Str → Option Value} {base : Heap} {x qual : Str} {params : Arguments} {body : List Stmt} {scope : Scope} {dvs : List V} {kws : List (Str × V)} {f c : Addr} {fd : FuncData} {CX : CXT} {N ps : List Str} {k : Nat} {sp : Sp}
    (F : FunD K x qual params body scope dvs kws f fd) (hc : fd.code = .ref c) (S : FnScope N ps scope) (len : ∀ vs H Q E, sp vs H Q E → vs.length = ps.length)
    (hbody : ∀ (A : Around) (outer : List Env) (s : Shared) (H : Hp) (vs : List V) (Q : VK) (E : XK), Room k (A.deeper (envOfC qual scope s.heap.objs.size f (.ref c))) → sp vs H Q E →
      ∃ t, PSs (cxOf CX P w K mg base N qual scope f (.ref c) A outer s H E) body t ∧ t { nx := fun _ H' => Q .non H', rt := Q } (L2.start N vs) H) : FnOk P w K mg base CX (k + 1) f fd ps sp := by
  obtain ⟨oc, od, dV, kV, doc, pm, an, cdv, ct, osl, rfl, lk, hcd, _, _⟩ := F.ex
  obtain rfl : cdv = .ref c := hc
  exact fn_of lk hcd S len fun A outer s H vs Q E hr hsp => hbody A outer s H vs Q E hr hsp
/-- the table of the code object at c -/
def tabIn (K : PySem.W.Frag) (c : Addr) : Option Addr := match K.lookup c with
  | some ⟨_, _, .fields vs, _⟩ => (match (vs[11]? : Option Value) with
    | some (.ref P) => some P
    | _ => none)
  | _ => none
end Lt
/-! xs.remove(t): items are data -/
namespace Lt
open PySem PySem.Spec PyProof.Rows L2 SeqAt MeetsSeq
theorem rm_loop (l : Addr) (items : Array Value) (n : Nat) (x : Value) (e : Value → Bool) (j : Nat) (hj : j < items.size) (hit : e items[j] = true) (k : Nat) (hs1 : items.size ≤ sizeLine) :
    ∀ i : Nat, j - i = k → i ≤ j → (∀ m (hm : m < items.size), i ≤ m → m < j → e items[m] = false) → Meets (Builtin.«list.remove.loop» ⟨[.ref l, x, rawInt i], []⟩)
      (fun A R s => s.heap.get? l = some { cls := .type "list", dict := none, data := .seq items n, slots := #[] } ∧ (∀ y, y ∈ items → EqAt A.in1 s y x (e y)) ∧ R (.ok (.ret .none)) { s with heap := s.heap.update l (Obj.mapSeq fun xs => xs.eraseIdxIfInBounds j) }) := by
  induction k with
  | zero =>
    intro i hk hij hno prog w A R s h
    obtain ⟨hp, g, d, tk, os⟩ := s
    obtain ⟨hl, he, h⟩ := h
    have hij' : i = j := by omega
    subst hij'
    wp_walk using AutoSeq1.wpAny_loadPart' hl
    have hi : items[((i : Nat) : Int).toNat]? = some items[i] := by simp [hj]
    rw [hi]
    refine wpAny_bind (he _ (Array.getElem_mem hj) prog w _ _ ?_)
    rw [hit]
    have hz' : (items.eraseIdxIfInBounds i).size ≤ sizeLine + 1 := Nat.le_trans (size_erased items _) (Nat.le_succ_of_le hs1)
    wp_walk using (wpAny_updateSeq hl rfl (hz := hs1) (_hz' := hz')), AutoSeq1.wpAny_loadPart' hl
    simpa using h
  | succ k ih =>
    intro i hk hij hno prog w A R s h
    obtain ⟨hp, g, d, tk, os⟩ := s
    obtain ⟨hl, he, h⟩ := h
    have hlt : i < items.size := by omega
    wp_walk using AutoSeq1.wpAny_loadPart' hl
    have hi : items[((i : Nat) : Int).toNat]? = some items[i] := by simp [hlt]
    have hc : ((i : Int) + 1) = ((i + 1 : Nat) : Int) := by push_cast; rfl
    rw [hi]
    refine wpAny_bind (he _ (Array.getElem_mem hlt) prog w _ _ ?_)
    rw [hno i hlt (Nat.le_refl _) (by omega)]
    wp_walk
    rw [hc]
    exact ⟨plainId_quiet plain_remove_loop _, codeAny_builtin entry_remove_loop (by
      rw [Around.under_plainId plain_remove_loop _]
      exact ih (i + 1) (by omega) (by omega) (fun m hm h1 h2 => hno m hm (by omega) h2) prog w A R _ ⟨hl, he, h⟩)⟩
theorem rm_at (l : Addr) (items : Array Value) (n : Nat) (x : Value) (e : Value → Bool) (j : Nat) (hj : j < items.size)
    (hit : e items[j] = true) (hno : ∀ m (hm : m < items.size), m < j → e items[m] = false) (hs1 : items.size ≤ sizeLine) :
    Meets (Builtin.«list.remove» ⟨[.ref l, x], []⟩)
      (fun A R s => s.heap.get? l = some { cls := .type "list", dict := none, data := .seq items n, slots := #[] } ∧ (∀ y, y ∈ items → EqAt A.in1 s y x (e y)) ∧ R (.ok (.ret .none)) { s with heap := s.heap.update l (Obj.mapSeq fun xs => xs.eraseIdxIfInBounds j) }) := by
  intro prog w A R s h
  obtain ⟨hp, g, d, tk, os⟩ := s
  obtain ⟨hl, he, h⟩ := h
  wp_walk using AutoSeq1.wpAny_loadPart' hl
  exact ⟨plainId_quiet plain_remove_loop _, codeAny_builtin entry_remove_loop (by
    rw [Around.under_plainId plain_remove_loop _]
    exact rm_loop l items n x e j hj hit _ hs1 0 rfl (Nat.zero_le _) (fun m hm _ h2 => hno m hm h2) prog w A R _ ⟨hl, he, h⟩)⟩
section
variable {X : Cx}
def rRemD (K : PySem.W.Frag) : V → List V → Hp → VK → Prop := fun x xs H Q => ∃ (a : Addr) (y : V) (d : PyData) (us : List V) (ds : List PyData) (j : Nat) (z : PyData), x = V.ref a ∧ xs = [y] ∧ H a = some (.lst us) ∧ DpAll K H us ds ∧ Dp K H y d ∧
  SeqAt.shaped (.list ds) = true ∧ SeqAt.shaped d = true ∧ ds[j]? = some z ∧ PyData.eqv z d = true ∧ (∀ (m : Nat) (z' : PyData), m < j → ds[m]? = some z' → PyData.eqv z' d = false) ∧ Q .non (upd H a (.lst (us.eraseIdx j)))
theorem mt_remD (hu : X.A.units + 65 < cLine) : MtM X "list.remove" (rRemD X.K) := by
  intro pins s σ H x xs v us Q I rx rxs h
  obtain ⟨a, y, d, ws, ds, j, z, rfl, rfl, hH, ha, hy, sl, sd, hz, hzj, hno, q⟩ := h
  cases rx
  obtain ⟨uy, rfl, ry⟩ := rxs.one
  obtain ⟨bs, r1⟩ := Dp.reads I d y uy hy ry
  have hxs : PyData.canLayAll0 ds = true := SeqAt.canLay_of_shaped sl
  have hroom : X.A.units + 1 + min (PyData.depthAll ds) d.depth < cLine := room_in_shaped sd hu
  obtain ⟨hlen, its, n, rv, hl, e⟩ := I.lstM hH
  obtain ⟨as, h4⟩ := Dp.readsAll I ds _ its ha rv
  have hn : its.length = ds.length := SeqAt.ReadsAll.length ds its as h4
  have hmap : its.map (SeqAt.readOf s.heap) = ds := SeqAt.readsAll_map ds its as hxs h4
  obtain ⟨hjd, _⟩ := List.getElem?_eq_some_iff.mp hz
  have hjl : j < its.length := by omega
  have hj : j < its.toArray.size := by simpa using hjl
  have at_ : ∀ (m : Nat) (hm : m < its.toArray.size) (z' : PyData), ds[m]? = some z' → SeqAt.readOf s.heap its.toArray[m] = z' := by
    intro m hm z' hz'
    have hml : m < its.length := by simpa using hm
    rw [← hmap, List.getElem?_map, List.getElem?_eq_getElem hml] at hz'
    have e1 : SeqAt.readOf s.heap its[m] = z' := Option.some.inj (show some (SeqAt.readOf s.heap its[m]) = some z' from hz')
    simpa using e1
  refine call_meets PySem.F.slot_list_remove ⟨_, e, rfl⟩ PySem.F.entry_list_remove (PySem.F.args_list_remove_2 _ _)
    (rm_at a its.toArray n uy (fun u => PyData.eqv (SeqAt.readOf s.heap u) d) j hj ?_ ?_ (by rw [List.size_toArray]; omega)) ⟨e, SeqAt.items_eqAt (vs := its.toArray) (show ReadsAll s.heap its.toArray.toList ds as from h4) r1 hxs (SeqAt.canLay_of_shaped sd) hroom, ?_⟩
  · show PyData.eqv (SeqAt.readOf s.heap its.toArray[j]) d = true
    rw [at_ j hj z hz]
    exact hzj
  · intro m hm hmj
    have hmd : m < ds.length := by
      have := hm
      rw [List.size_toArray] at this
      omega
    have hz' : ds[m]? = some ds[m] := List.getElem?_eq_getElem hmd
    show PyData.eqv (SeqAt.readOf s.heap its.toArray[m]) d = false
    rw [at_ m hm _ hz']
    exact hno m _ hmj hz'
  · have rr := rv.eraseIdx j
    refine ⟨.non, _, I.lset (its' := its.eraseIdx j) (t' := s.toks) hH e ?_ rr ?_, rfl, q⟩
    · show its.toArray.eraseIdxIfInBounds j = (its.eraseIdx j).toArray
      rw [List.eraseIdxIfInBounds_toArray]
    · have z2 := len_erase ws j
      omega
end

theorem DvAll.erase {H : Hp} : ∀ {us : List V} {ds : List PyData} (j : Nat), DvAll H us ds → DvAll H (us.eraseIdx j) (ds.eraseIdx j)
  | _, _, _, .nil => .nil
  | _, _, 0, .cons _ t => t
  | _, _, j + 1, .cons h t => .cons h (DvAll.erase j t)
theorem map_erase {α : Type} (f : α → PyData) : ∀ (xs : List α) (j : Nat), (xs.map f).eraseIdx j = (xs.eraseIdx j).map f
  | [], _ => rfl
  | _ :: _, 0 => rfl
  | x :: xs, j + 1 => congrArg (f x :: ·) (map_erase f xs j)
theorem first_of {α : Type} [DecidableEq α] : ∀ {xs : List α} {w : α}, w ∈ xs → ∃ j : Nat, xs[j]? = some w ∧ (∀ m z, m < j → xs[m]? = some z → z ≠ w) ∧ xs.eraseIdx j = xs.erase w
  | [], _, h => absurd h (by simp)
  | x :: xs, w, h => by
    by_cases e : x = w
    · subst e
      exact ⟨0, rfl, fun m z hm => absurd hm (Nat.not_lt_zero _), by simp⟩
    · have h2 : w ∈ xs := by
        rcases List.mem_cons.mp h with z | z
        · exact absurd z.symm e
        · exact z
      obtain ⟨j, h1, h3, h4⟩ := first_of h2
      refine ⟨j + 1, h1, fun m z hm hz => ?_, ?_⟩
      · rcases m with _ | m
        · rw [← Option.some.inj (show some x = some z from hz)]
          exact e
        · exact h3 m z (by omega) hz
      · rw [List.erase_cons, if_neg (by simpa using e), List.eraseIdx_cons_succ, h4]
section
variable {K : PySem.W.Frag} {H : Hp} {Q : VK} {p : Addr} {x : V} {L R : List Asn}
theorem eqv_shp {α : Type} {f : α → PyData} {n : Nat} (S : Shp α f n) (a b : α) [Decidable (a = b)] : PyData.eqv (f a) (f b) = decide (a = b) := by
  by_cases e : a = b
  · rw [decide_eq_true e, e, eqv_true (S.ti b)]
  · rw [decide_eq_false e]
    exact eqv_false (S.ti a) (S.ti b) fun z => e (S.inj _ _ z)
theorem s_remD {α : Type} {f : α → PyData} {n : Nat} {xs : List α} {w : α} [DecidableEq α] (S : Shp α f n) (hn : n + 1 ≤ 64) (hS : Hs L H) (k : Pick L (isL p (xs.map f)) R) (hx : Dv H x (f w)) (hm : w ∈ xs) (h : ∀ H', Hs (isL p ((xs.erase w).map f) :: R) H' → Q .non H') : rRemD K (.ref p) [x] H Q := by
  obtain ⟨us, h2⟩ := (k.go hS).openL
  have h5 := h2.hd
  obtain ⟨j, h3, h4, h6⟩ := first_of hm
  have sl : SeqAt.shaped (.list (xs.map f)) = true := shaped_of ((shp_list S).ti xs) (Nat.le_trans ((shp_list S).dp xs) hn)
  refine ⟨p, x, f w, us, xs.map f, j, f w, rfl, rfl, h5.1, h5.2.dp, hx.dp, sl, shaped_of (S.ti w) (Nat.le_trans (S.dp w) (by omega)), by rw [List.getElem?_map, h3] <;> rfl, eqv_true (S.ti w), fun m z hm' hz => ?_, h _ ?_⟩
  · rw [List.getElem?_map] at hz
    cases e : xs[m]? with
    | none =>
      rw [e] at hz
      cases hz
    | some y =>
      rw [e] at hz
      obtain rfl : f y = z := Option.some.inj hz
      rw [eqv_shp S, decide_eq_false (h4 m y hm' e)]
  · rw [← h6, ← map_erase]
    exact (k.go hS).putL (h5.2.erase j)
end
theorem hu65 {k : Nat} {A : Around} (r : Room k A) : A.units + 65 < cLine := by
  have := r.un
  omega
end Lt
/-! while, by pieces -/
namespace Lt
open PySem PySem.Spec PyProof.Rows L2
section
variable {L : List Asn} {H : Hp} {σ : L2.St} {D : Ends} {c : TT} {tb : TS}
/-- a turn has ended: the word W holds with a smaller measure -/
def Nx (W : Nat → L2.St → List Asn → Prop) (m : Nat) : L2.St → Hp → Prop := fun σ' H' => ∃ m' L', (m' < m ∧ W m' σ' L') ∧ Hs L' H'
def Wh (W : Nat → L2.St → List Asn → Prop) : Nat → L2.St → Hp → Prop := fun m σ H => ∃ L, W m σ L ∧ Hs L H
theorem Nx.out {W : Nat → L2.St → List Asn → Prop} {m : Nat} : ∀ σ' H', Nx W m σ' H' → ∃ m', m' < m ∧ Wh W m' σ' H' := fun _ _ ⟨m', L', ⟨h1, h2⟩, h3⟩ => ⟨m', h1, L', h2, h3⟩
/-- a turn goes on: refine s_turn ?_ -/
theorem s_turn {W : Nat → L2.St → List Asn → Prop} {m : Nat} {nx : L2.St → Hp → Prop} (h : tb { D with nx := Nx W m, ct := Nx W m, bk := nx } σ H) :
    ∃ N : L2.St → Hp → Prop, (∀ σ' H', N σ' H' → ∃ m', m' < m ∧ Wh W m' σ' H') ∧ tb { D with nx := N, ct := N, bk := nx } σ H := ⟨Nx W m, Nx.out, h⟩
theorem s_while (W : Nat → L2.St → List Asn → Prop) (hS : Hs L H) (h0 : ∃ m, W m σ L)
    (turn : ∀ m σ L H, W m σ L → Hs L H → c σ H fun b H1 => if b = true then ∃ N : L2.St → Hp → Prop, (∀ σ' H', N σ' H' → ∃ m', m' < m ∧ Wh W m' σ' H') ∧ tb { D with nx := N, ct := N, bk := D.nx } σ H1 else D.nx σ H1) : tWhile c tb D σ H := by
  obtain ⟨m0, w0⟩ := h0
  exact ⟨Wh W, ⟨m0, L, w0, hS⟩, fun m σ H ⟨L, w, hS⟩ => turn m σ L H w hS⟩
end
end Lt
/-! pieces: plain Lean -/
namespace Lt
theorem klt_anti {a b : Int × Int} (h1 : klt a b = false) (h2 : klt b a = false) : a = b := by
  rw [klt_no] at h1 h2
  obtain ⟨a1, a2⟩ := a
  obtain ⟨b1, b2⟩ := b
  simp only at h1 h2
  rw [Prod.mk.injEq]
  omega
/-- the pieces as the rule tells them -/
inductive Pcs : List (Int × Int) → Int → List (Int × Int) → Prop
  | done {rows : List (Int × Int)} {rest : Int} : rest ≤ 0 → Pcs rows rest []
  | last {rows : List (Int × Int)} {rest : Int} {u : Int × Int} : 0 < rest → u ∈ rows → rest ≤ u.2 → (∀ y ∈ rows, rest ≤ y.2 → klt (y.2, y.1) (u.2, u.1) = false) → Pcs rows rest [(u.1, rest)]
  | more {rows out : List (Int × Int)} {rest : Int} {u : Int × Int} : 0 < rest → (∀ y ∈ rows, y.2 < rest) → u ∈ rows → (∀ y ∈ rows, klt (-y.2, y.1) (-u.2, u.1) = false) → Pcs (rows.erase u) (rest - u.2) out → Pcs rows rest (u :: out)
theorem Pcs.uniq {rows out : List (Int × Int)} {rest : Int} (h : Pcs rows rest out) : ∀ {out2 : List (Int × Int)}, Pcs rows rest out2 → out = out2 := by
  induction h with
  | done h0 =>
    intro out2 h2
    cases h2 with
    | done _ => rfl
    | last h1 => omega
    | more h1 => omega
  | @last rows rest u h0 hm hw hl =>
    intro out2 h2
    cases h2 with
    | done h1 => omega
    | @last _ _ w _ hm2 hw2 hl2 =>
      have e := klt_anti (hl _ hm2 hw2) (hl2 _ hm hw)
      rw [Prod.mk.injEq] at e
      rw [e.2]
    | more _ h1 => have := h1 _ hm; omega
  | @more rows out rest u h0 ha hm hl _ ih =>
    intro out2 h2
    cases h2 with
    | done h1 => omega
    | last _ hm2 hw2 => have := ha _ hm2; omega
    | @more _ out3 _ w _ _ hm2 hl2 ht2 =>
      have e := klt_anti (hl _ hm2) (hl2 _ hm)
      rw [Prod.mk.injEq] at e
      have e2 : u = w := Prod.ext (by omega) (by omega)
      subst e2
      rw [ih ht2]
/-! sizes -/
def sizes (rows : List (Int × Int)) : Int := (rows.map (·.2)).sum
theorem sizes_cons (p : Int × Int) (r : List (Int × Int)) : sizes (p :: r) = p.2 + sizes r := by simp [sizes]
theorem sizes_erase {rows : List (Int × Int)} {u : Int × Int} (h : u ∈ rows) : sizes (rows.erase u) = sizes rows - u.2 := by
  induction rows with
  | nil => simp at h
  | cons p r ih =>
    by_cases e : p = u
    · subst e
      rw [List.erase_cons_head, sizes_cons]
      omega
    · rw [List.erase_cons_tail (by simpa using e), sizes_cons, sizes_cons, ih ((List.mem_cons.mp h).resolve_left (Ne.symm e))]
      omega
theorem sizes_cat : ∀ {rows : List (Int × Int)}, (∀ p ∈ rows, 1 ≤ p.2) → sizes rows = (catS rows).length
  | [], _ => rfl
  | p :: r, h => by
    have e : catS (p :: r) = rgI p.1 p.2 ++ catS r := by simp [catS]
    have h1 := h p (by simp)
    rw [sizes_cons, sizes_cat fun q hq => h q (by simp [hq]), e, List.length_append, rgI_len]
    omega
theorem sizes_str (ks : List Int) : sizes (strOf ks) = (ascOf ks).length := by
  rw [sizes_cat (strOk ks).pos, (strOk ks).cat]
theorem sizes_pos {rows : List (Int × Int)} (h : 0 < sizes rows) : 0 < rows.length := by
  cases rows with
  | nil => exact absurd h (by decide)
  | cons _ _ => exact Nat.succ_pos _
/-- the first blocks ascend -/
theorem sep_first : ∀ {o : Option Int} {qs : List (Int × Int)}, SepFrom o qs → (∀ p ∈ qs, 1 ≤ p.2) → (∀ x, o = some x → ∀ p ∈ qs, x < p.1) ∧ qs.Pairwise (·.1 < ·.1)
  | _, [], _, _ => ⟨fun _ _ p hp => by simp at hp, .nil⟩
  | o, (f, m) :: r, ⟨h1, h2⟩, hp => by
    have h0 := hp (f, m) (by simp)
    obtain ⟨i1, i2⟩ := sep_first h2 fun p z => hp p (by simp [z])
    have i3 := i1 _ rfl
    refine ⟨fun x hx p z => ?_, .cons (fun p z => ?_) i2⟩
    · have h3 := h1 x hx
      rcases List.mem_cons.mp z with rfl | z
      · exact h3
      · have := i3 p z
        simp only at h0
        omega
    · have := i3 p z
      simp only at h0 ⊢
      omega
theorem str_first (ks : List Int) : (strOf ks).Pairwise (·.1 < ·.1) := (sep_first (strOk ks).sep (strOk ks).pos).2
theorem first_nd {rows : List (Int × Int)} (h : rows.Pairwise (·.1 < ·.1)) : rows.Nodup := h.imp fun z e => by rw [e] at z; omega
theorem nd_filter {rows : List (Int × Int)} (h : rows.Nodup) (u : Int × Int) : rows.filter (fun p => !decide (p = u)) = rows.erase u := by
  rw [h.erase_eq_filter]
  congr 1
  funext p
  by_cases e : p = u <;> simp [e]
/-! the law's own walk: the best so far -/
def bestStep (rest : Int) (b : Option (Int × Int)) (p : Int × Int) : Option (Int × Int) := match b with
  | none => some p
  | some b => if rest ≤ b.2 then (if rest ≤ p.2 ∧ p.2 < b.2 then some p else some b) else (if b.2 < p.2 then some p else some b)
def BestOk (rest : Int) (qs : List (Int × Int)) (b : Int × Int) : Prop := b ∈ qs ∧
  ((rest ≤ b.2 ∧ ∀ y ∈ qs, rest ≤ y.2 → b.2 < y.2 ∨ (y.2 = b.2 ∧ b.1 ≤ y.1)) ∨ (b.2 < rest ∧ ∀ y ∈ qs, y.2 < b.2 ∨ (y.2 = b.2 ∧ b.1 ≤ y.1)))
theorem best_step {rest : Int} {qs : List (Int × Int)} {b : Option (Int × Int)} {p : Int × Int} (h : match b with | none => qs = [] | some b => BestOk rest qs b) (ha : ∀ y ∈ qs, y.1 < p.1) :
    ∃ c, bestStep rest b p = some c ∧ BestOk rest (qs ++ [p]) c := by
  have mp : p ∈ qs ++ [p] := List.mem_append_right _ (List.mem_singleton_self p)
  cases b with
  | none =>
    subst h
    refine ⟨p, rfl, by simp, ?_⟩
    by_cases e : rest ≤ p.2
    · exact .inl ⟨e, fun y hy _ => by rw [List.mem_singleton.mp hy]; omega⟩
    · exact .inr ⟨by omega, fun y hy => by rw [List.mem_singleton.mp hy]; omega⟩
  | some b =>
    obtain ⟨hb, h⟩ := h
    have mb : b ∈ qs ++ [p] := List.mem_append_left _ hb
    have hab := ha b hb
    have key : ∀ {y : Int × Int} {C : Prop}, y ∈ qs ++ [p] → (y ∈ qs → C) → (y = p → C) → C := fun hy c1 c2 => by
      rcases List.mem_append.mp hy with z | z
      · exact c1 z
      · exact c2 (List.mem_singleton.mp z)
    by_cases e1 : rest ≤ b.2
    · rcases h with ⟨_, h⟩ | ⟨h, _⟩
      · by_cases e2 : rest ≤ p.2 ∧ p.2 < b.2
        · refine ⟨p, by simp [bestStep, e1, e2], mp, .inl ⟨e2.1, fun y hy hr => key hy (fun z => ?_) fun z => ?_⟩⟩
          · have := h y z hr
            omega
          · subst z
            omega
        · refine ⟨b, by simp only [bestStep, e1, e2]; simp, mb, .inl ⟨e1, fun y hy hr => key hy (fun z => h y z hr) fun z => ?_⟩⟩
          subst z
          omega
      · omega
    · rcases h with ⟨h, _⟩ | ⟨_, h⟩
      · omega
      · by_cases e2 : b.2 < p.2
        · refine ⟨p, by simp [bestStep, e1, e2], mp, ?_⟩
          by_cases e3 : rest ≤ p.2
          · refine .inl ⟨e3, fun y hy hr => key hy (fun z => ?_) fun z => ?_⟩
            · have := h y z
              omega
            · subst z
              omega
          · refine .inr ⟨by omega, fun y hy => key hy (fun z => ?_) fun z => ?_⟩
            · have := h y z
              omega
            · subst z
              omega
        · refine ⟨b, by simp only [bestStep, e1, e2]; simp, mb, .inr ⟨by omega, fun y hy => key hy (h y) fun z => ?_⟩⟩
          subst z
          omega
theorem best_take {rest : Int} {rows : List (Int × Int)} (hp : rows.Pairwise (·.1 < ·.1)) : ∀ i : Nat, i ≤ rows.length → match (rows.take i).foldl (bestStep rest) none with | none => rows.take i = [] | some b => BestOk rest (rows.take i) b
  | 0, _ => rfl
  | i + 1, hi => by
    have ih := best_take (rest := rest) hp i (by omega)
    have hx : rows[i]? = some rows[i] := List.getElem?_eq_getElem (by omega)
    obtain ⟨c, e, hc⟩ := best_step (p := rows[i]) ih fun y hy => by
      obtain ⟨j, hj, rfl⟩ := List.mem_iff_getElem.mp hy
      rw [List.length_take] at hj
      rw [List.getElem_take]
      exact List.pairwise_iff_getElem.mp hp j i (by omega) (by omega) (by omega)
    rw [take_snoc hx, List.foldl_append]
    show match bestStep rest ((rows.take i).foldl (bestStep rest) none) rows[i] with | none => _ | some b => _
    rw [e]
    exact hc
theorem best_all {rest : Int} {rows : List (Int × Int)} (hp : rows.Pairwise (·.1 < ·.1)) (h : 0 < rows.length) : ∃ b, rows.foldl (bestStep rest) none = some b ∧ BestOk rest rows b := by
  have z := best_take (rest := rest) hp rows.length (Nat.le_refl _)
  rw [List.take_length] at z
  cases e : rows.foldl (bestStep rest) none with
  | none =>
    rw [e] at z
    rw [z] at h
    exact absurd h (by decide)
  | some b =>
    rw [e] at z
    exact ⟨b, rfl, z⟩
theorem Pcs.ofBest {rest : Int} {rows : List (Int × Int)} {b : Int × Int} (hr : 0 < rest) (h : BestOk rest rows b) :
    (rest ≤ b.2 → Pcs rows rest [(b.1, rest)]) ∧ (b.2 < rest → ∀ out, Pcs (rows.erase b) (rest - b.2) out → Pcs rows rest (b :: out)) := by
  obtain ⟨hm, h⟩ := h
  refine ⟨fun e => .last hr hm e fun y hy hw => ?_, fun e out ho => .more hr (fun y hy => ?_) hm (fun y hy => ?_) ho⟩
  · rw [klt_no]
    rcases h with ⟨_, h⟩ | ⟨h, _⟩
    · have := h y hy hw
      simp only
      omega
    · omega
  · rcases h with ⟨h, _⟩ | ⟨_, h⟩
    · omega
    · have := h y hy
      omega
  · rw [klt_no]
    rcases h with ⟨h, _⟩ | ⟨_, h⟩
    · omega
    · have := h y hy
      simp only
      omega
theorem strOf_len (ks : List Int) : (strOf ks).length ≤ ks.length := by
  have a2 := strStep_len (ascOf ks) []
  have a3 := len_asc ks
  unfold strOf
  simp only [List.length_nil] at a2
  omega
/-- midway: acc is told, rest is still to be told by rows -/
structure PcsIn (ks : List Int) (n : Int) (rows : List (Int × Int)) (rest : Int) (acc : List (Int × Int)) : Prop where
  pos : ∀ p ∈ rows, 1 ≤ p.2
  fst : rows.Pairwise (·.1 < ·.1)
  r0 : 0 ≤ rest
  r1 : rest ≤ sizes rows
  len : acc.length ≤ 501
  len1 : 0 < rest → acc.length + rows.length ≤ 500
  go : ∀ out, Pcs rows rest out → Pcs (strOf ks) n (acc ++ out)
theorem PcsIn.start {ks : List Int} {n : Int} (h : ks.Pairwise (· < ·)) (h5 : ks.length ≤ 500) (n0 : 0 ≤ n) (n1 : n ≤ ks.length) : PcsIn ks n (strOf ks) n [] :=
  ⟨(strOk ks).pos, str_first ks, n0, by rw [sizes_str, asc_of_asc h]; exact n1, by simp, fun _ => by have := strOf_len ks; simp; omega, fun out h => h⟩
theorem PcsIn.start2 {ks : List Int} {n : Int} (h : ks.Nodup) (h5 : ks.length ≤ 500) (n0 : 0 ≤ n) (n1 : n ≤ ks.length) : PcsIn ks n (strOf ks) n [] :=
  ⟨(strOk ks).pos, str_first ks, n0, by rw [sizes_str, ← sortI_nd h, (sortI_perm ks).length_eq]; exact n1, by simp, fun _ => by have := strOf_len ks; simp; omega, fun out h => h⟩
section
variable {ks : List Int} {n rest : Int} {rows acc : List (Int × Int)} {u : Int × Int}
theorem sizes_nn {rows : List (Int × Int)} (h : ∀ p ∈ rows, 1 ≤ p.2) : 0 ≤ sizes rows := by
  rw [sizes_cat h]
  omega
theorem PcsIn.ne (h : PcsIn ks n rows rest acc) (r : 0 < rest) : 0 < rows.length := sizes_pos (by have := h.r1; omega)
theorem PcsIn.last (h : PcsIn ks n rows rest acc) (r : 0 < rest) (hm : u ∈ rows) (hw : rest ≤ u.2) (hl : ∀ y ∈ rows, rest ≤ y.2 → klt (y.2, y.1) (u.2, u.1) = false) (rows2 : List (Int × Int)) (hs : ∀ p ∈ rows2, 1 ≤ p.2) (hf : rows2.Pairwise (·.1 < ·.1)) : PcsIn ks n rows2 0 (acc ++ [(u.1, rest)]) := by
  have h1 := h.len1 r
  have h2 := h.ne r
  refine ⟨hs, hf, Int.le_refl _, sizes_nn hs, by rw [List.length_append, List.length_singleton]; omega, fun z => absurd z (by decide), fun out ho => ?_⟩
  cases ho with
  | done _ =>
    rw [List.append_nil]
    exact h.go _ (.last r hm hw hl)
  | last z => exact absurd z (by decide)
  | more z => exact absurd z (by decide)
theorem PcsIn.more (h : PcsIn ks n rows rest acc) (r : 0 < rest) (ha : ∀ y ∈ rows, y.2 < rest) (hm : u ∈ rows) (hl : ∀ y ∈ rows, klt (-y.2, y.1) (-u.2, u.1) = false) : PcsIn ks n (rows.erase u) (rest - u.2) (acc ++ [u]) := by
  have h1 := h.len1 r
  have h2 := h.ne r
  have h3 := ha u hm
  have h4 := h.r1
  have h5 : (rows.erase u).length = rows.length - 1 := List.length_erase_of_mem hm
  refine ⟨fun p hp => h.pos p (List.mem_of_mem_erase hp), h.fst.sublist (List.erase_sublist ..), by omega, by rw [sizes_erase hm]; omega, by rw [List.length_append, List.length_singleton]; omega, fun _ => by rw [List.length_append, List.length_singleton]; omega, fun out ho => ?_⟩
  rw [List.append_assoc]
  exact h.go _ (.more r ha hm hl ho)
theorem PcsIn.best (h : PcsIn ks n rows rest acc) (r : 0 < rest) : ∃ b, rows.foldl (bestStep rest) none = some b ∧ BestOk rest rows b := best_all h.fst (h.ne r)
theorem PcsIn.lawStep (h : PcsIn ks n rows rest acc) (r : 0 < rest) (hb : BestOk rest rows u) : PcsIn ks n (rows.erase u) (rest - min rest u.2) (acc ++ [(u.1, min rest u.2)]) := by
  have h1 := h.len1 r
  have h2 := h.ne r
  have hm := hb.1
  have key := Pcs.ofBest r hb
  have pe : ∀ p ∈ rows.erase u, 1 ≤ p.2 := fun p hp => h.pos p (List.mem_of_mem_erase hp)
  have fe := h.fst.sublist (List.erase_sublist (a := u))
  by_cases e : rest ≤ u.2
  · rw [show min rest u.2 = rest by omega, show rest - rest = 0 by omega]
    refine ⟨pe, fe, Int.le_refl _, sizes_nn pe, by rw [List.length_append, List.length_singleton]; omega, fun z => absurd z (by decide), fun out ho => ?_⟩
    cases ho with
    | done _ =>
      rw [List.append_nil]
      exact h.go _ (key.1 e)
    | last z => exact absurd z (by decide)
    | more z => exact absurd z (by decide)
  · have h3 : u.2 < rest := by omega
    have h4 := h.r1
    have h5 : (rows.erase u).length = rows.length - 1 := List.length_erase_of_mem hm
    rw [show min rest u.2 = u.2 by omega]
    refine ⟨pe, fe, by omega, by rw [sizes_erase hm]; omega, by rw [List.length_append, List.length_singleton]; omega, fun _ => by rw [List.length_append, List.length_singleton]; omega, fun out ho => ?_⟩
    rw [List.append_assoc]
    exact h.go _ (key.2 h3 out ho)
theorem PcsIn.done (h : PcsIn ks n rows rest acc) (r : ¬ 0 < rest) : Pcs (strOf ks) n acc := by
  have z := h.go [] (.done (by omega))
  rwa [List.append_nil] at z
end
end Lt
/-! rules with the written part told: for what stands within a comprehension -/
namespace Lt
open PySem PySem.Spec PyProof.Rows L2
section
variable {X : Cx} (K : PySem.W.Frag) (h : X.K = K)
include h
theorem slL_K : SlR X (rSlL K) := by
  subst h
  exact sl_list
theorem slT_K : SlR X (rSlT K) := by
  subst h
  exact sl_tup
theorem ixL_K : IxR X (rIxL K) := by
  subst h
  exact ix_list
theorem ixT_K : IxR X (rIxT K) := by
  subst h
  exact ix_tup
theorem len_K : CallR X (.builtin "len") (fun xs H Q => ∃ p ys, xs = [.ref p] ∧ (SqL K H p ys ∨ SqT K H p ys) ∧ Q (.int ys.length) H) := by
  subst h
  exact call_len_seq
theorem listOf_K : CallR X (.type "list") (fun xs H Q => ∃ p ys, xs = [.ref p] ∧ (SqL K H p ys ∨ SqT K H p ys) ∧ ∀ l, H l = none → Q (.ref l) (upd H l (.lst ys))) := by
  subst h
  exact call_list_of
theorem tupOf_K : CallR X (.type "tuple") (fun xs H Q => ∃ p ys, xs = [.ref p] ∧ ((SqL K H p ys ∧ ∀ l, H l = none → Q (.ref l) (upd H l (.tup ys))) ∨ (SqT K H p ys ∧ Q (.ref p) H))) := by
  subst h
  exact call_tuple_of
end
end Lt
/-! comprehensions over a tuple, by pieces -/
namespace Lt
open PySem PySem.Spec PyProof.Rows L2
section
variable {K : PySem.W.Frag} {L R L0 R0 : List Asn} {H : Hp} {Q : VK} {σ : L2.St} {a : Addr} {ks : List Int} {g : TG} {vs : List Nat} {tt : TT} {te : TE} {Qd : Addr → Hp → Prop}
theorem Dv.tupInts (h : Dv H (.ref a) (.tuple (ks.map PyData.int))) : H a = some (.tup (ks.map V.int)) := by
  obtain ⟨t, us, e, h1, h2⟩ := h.tupOf
  cases e
  rw [h1, h2.intsEq]
theorem s_lcTI (P : Nat → List PyData → List Asn → Prop) (hS : Hs L0 H) (k : Pick L0 (dv (.ref a) (.tuple (ks.map PyData.int))) R0) (h0 : P 0 [] R0)
    (hs : ∀ D i k acc H' L, ks[i]? = some k → P i acc L → acc.length ≤ i → Hs (isL D acc :: dv (.ref a) (.tuple (ks.map PyData.int)) :: L) H' → g (.int k) (wipe σ vs) H' fun σ2 H2 => wipe σ2 vs = wipe σ vs ∧ tt σ2 H2 fun b H3 =>
      if b = true then te σ2 H3 fun y H4 => ∃ acc, H4 D = some (.lst acc) ∧ acc.length < sizeLine ∧ LcS [dv (.ref a) (.tuple (ks.map PyData.int))] P D (i + 1) (upd H4 D (.lst (acc ++ [y]))) else LcS [dv (.ref a) (.tuple (ks.map PyData.int))] P D (i + 1) H3)
    (h : ∀ D acc H' L, P ks.length acc L → acc.length ≤ ks.length → Hs (isL D acc :: dv (.ref a) (.tuple (ks.map PyData.int)) :: L) H' → Qd D H') :
    (∃ xs, SqT K H a xs) ∧ ∀ D, H D = none → ∃ W : Nat → Nat → Hp → Prop, (∃ m, W 0 m (upd H D (.lst []))) ∧ ∀ i m H, W i m H →
      ((Itt K a).stop i H ∧ Qd D H) ∨ ((Itt K a).go i H ∧ ∃ Nx : Hp → Prop, (∀ H', Nx H' → ∃ m', m' < m ∧ W (i + 1) m' H') ∧ ∀ x H', (Itt K a).yld i H x H' → g x (wipe σ vs) H' fun σ2 H2 => wipe σ2 vs = wipe σ vs ∧ tt σ2 H2 fun b H3 =>
        if b = true then te σ2 H3 fun y H4 => ∃ acc, H4 D = some (.lst acc) ∧ acc.length < sizeLine ∧ Nx (upd H4 D (.lst (acc ++ [y]))) else Nx H3) := by
  have h1 := k.go hS
  have d0 : Dv H (.ref a) (.tuple (ks.map PyData.int)) := h1.hd
  refine ⟨⟨_, SqT.of d0.tupInts⟩, fun D nD => lc_it (Qd := Qd D) (walk_tup (K := K) (a := a) (xs := ks.map V.int)) (LcS [dv (.ref a) (.tuple (ks.map PyData.int))] P D) ⟨R0, [], h0, Nat.le_refl _, h1.newL nD .nil⟩ (fun i H' _ hp => ?_) (fun i x H1 H' hi hp hy => ?_) fun H' hp => ?_⟩
  · obtain ⟨L, acc, _, _, z⟩ := hp
    have d1 : Dv H' (.ref a) (.tuple (ks.map PyData.int)) := z.tl.hd
    exact SqT.of d1.tupInts
  · obtain ⟨L, acc, hP, hal, z⟩ := hp
    obtain ⟨rfl, hx⟩ := hy
    obtain ⟨k, rfl, hk⟩ := int_at hx
    exact hs D i k acc _ L hk hP hal z
  · obtain ⟨L, acc, hP, hal, z⟩ := hp
    rw [List.length_map] at hP hal
    exact h D acc H' L hP hal z
end
theorem k_tMinK {P : Addr} {lq : Str} {N : List Str} {tb : TE} {t : TA} {σ : L2.St} {H : Hp} {Q : VK} (h : t σ H fun vs H1 => rMinK P lq N tb vs H1 Q) : tMinK P lq N tb t σ H Q := h
theorem beq_pair : (instBEqOfDecidableEq : BEq (Int × Int)) = instBEqProd := by
  have h : ∀ (b1 b2 : BEq (Int × Int)), (∀ a b, b1.beq a b = b2.beq a b) → b1 = b2 := fun b1 b2 h => by
    cases b1
    cases b2
    congr
    funext a b
    exact h a b
  refine h _ _ fun a b => ?_
  obtain ⟨a1, a2⟩ := a
  obtain ⟨b1, b2⟩ := b
  show decide ((a1, a2) = (b1, b2)) = (a1 == b1 && a2 == b2)
  by_cases h1 : a1 = b1
  · by_cases h2 : a2 = b2
    · simp [h1, h2]
    · simp [h1, h2]
  · simp [h1]
theorem s_remP {K : PySem.W.Frag} {H : Hp} {Q : VK} {p : Addr} {x : V} {L R : List Asn} {xs : List (Int × Int)} {w : Int × Int} (hS : Hs L H) (k : Pick L (isL p (xs.map dPair)) R) (hx : Dv H x (dPair w)) (hm : w ∈ xs) (h : ∀ H', Hs (isL p ((xs.erase w).map dPair) :: R) H' → Q .non H') : rRemD K (.ref p) [x] H Q :=
  s_remD shp_pair (by decide) hS k hx hm fun H' h1 => h H' (by
    rw [beq_pair] at h1
    exact h1)
theorem eqD_K {X : Cx} (K : PySem.W.Frag) (h : X.K = K) (hu : X.A.units + 64 < cLine) : OpR X (compareOp .Eq) (rEqD K) := by
  subst h
  exact op_eqD hu
theorem neD_K {X : Cx} (K : PySem.W.Frag) (h : X.K = K) (hu : X.A.units + 64 < cLine) : OpR X (compareOp .NotEq) (rNeD K) := by
  subst h
  exact op_neD hu
def rMin2 : List V → Hp → VK → Prop := fun xs H Q => ∃ i j : Int, xs = [.int i, .int j] ∧ Q (.int (min i j)) H
def rMax2 : List V → Hp → VK → Prop := fun xs H Q => ∃ i j : Int, xs = [.int i, .int j] ∧ Q (.int (max i j)) H
theorem c_min2 {X : Cx} (hc : X.calm = true) : CallR X (.builtin "min") rMin2 := fun pins s σ H xs us Q I r ⟨i, j, e, q⟩ => call_min2 hc pins s σ H xs us Q I r ⟨i, j, e, by
  rw [show (if j < i then j else i) = min i j by split <;> omega]
  exact q⟩
theorem c_max2 {X : Cx} (hc : X.calm = true) : CallR X (.builtin "max") rMax2 := fun pins s σ H xs us Q I r ⟨i, j, e, q⟩ => call_max2 hc pins s σ H xs us Q I r ⟨i, j, e, by
  rw [show (if i < j then j else i) = max i j by split <;> omega]
  exact q⟩
theorem s_min2 {i j : Int} {H : Hp} {Q : VK} (h : Q (.int (min i j)) H) : rMin2 [.int i, .int j] H Q := ⟨i, j, rfl, h⟩
theorem s_max2 {i j : Int} {H : Hp} {Q : VK} (h : Q (.int (max i j)) H) : rMax2 [.int i, .int j] H Q := ⟨i, j, rfl, h⟩
theorem pg_tupK {X : Cx} (K : PySem.W.Frag) (n : Nat) {es : List Expr} {k : Nat} {t : TGs} {pos : Pos} (hK : X.K = K) (hc : X.calm = true) (h : PGs X es t)
    (hn : (assignEach es X.env).length = n := by rfl) (hst : (assignEach es X.env).findIdx? (·.1) = none := by rfl) : PG X (.Tuple es k pos) (gTup K n t) := by
  subst hK
  exact pg_tup hc h hn hst
end Lt
/-! a def read off an own class, called with the instance told -/
namespace Lt
open PySem PySem.Spec PyProof.Rows L2
/-- C.m(e, ..), m a def of C or of a class behind it -/
def tCfn (C : Addr) (sp : Sp) (dvs : List V) (E : XK) (ta : TE) (t : TA) : TE := fun σ H Q => ta σ H fun x H1 => x = .ref C ∧ t σ H1 fun vs H2 => sp (vs ++ dvs) H2 Q E
section
variable {X : Cx} {CX : CXT} {k : Nat} {C f : Addr} {mc : Value} {sp : Sp} {E : XK} {o e : Expr} {es : List Expr} {m : Str} {pos apos : Pos} {ta : TE} {t : TA} {fd : FuncData} {ps : List Str} {ds : List Value} {dvs : List V}
theorem pe_cfn {pl : Sem Bool} (he : PE X o ta) (r : ClX.CRead X.K C mc) (c : ClX.CVal X.K C mc m (.ref f) (.ref f)) (F : FnOk X.prog X.w X.K X.mg X.base CX k f fd ps sp) (hr : Room k X.A) (hk : PySem.W.keepIn X.K (.ref f) = true) (hb : Binds X.K fd ps ds) (hd : Vals dvs ds)
    (hx : Passes CX X E) (ha : PA X (e :: es) t) (hst : starEach (e :: es) X.env = (false, eval e X.env) :: starEach es X.env := by rfl) (hpl : (backTo pos (starEach es X.env)).any (·.1) = false := by rfl)
    (ht : eval (.Call (.Attribute o m apos) (e :: es) [] pos) X.env = (do
      let ov ← eval o X.env
      standAt apos.atName
      let (f, first) ← holding [ov] (getMethod ov m pl)
      callWith pos f first (backTo pos (starEach (e :: es) X.env)) (backToKw pos (keywordEach [] X.env))) := by rfl) : PE X (.Call (.Attribute o m apos) (e :: es) [] pos) (tCfn C sp dvs E ta t) := by
  refine ⟨fun pins s σ H Q I h => PySem.W.methodCall_KW (pl := pl) (thn (he.run pins s σ H _ I h) fun u s1 hu => ?_) ht⟩
  obtain ⟨x, H1, I1, rx, rfl, q⟩ := hu
  cases rx
  refine PySem.W.method_cls I1.kIn r.ga (ClX.getcval_ok I1 r c fun s2 I2 => ?_)
  refine PySem.W.callWith_K (h₀ := X.base) I2.ok.mod.kin hk (thn (ha.run pos pins s2 σ H1 _ I2 q) fun us s3 hu => ?_) hst hpl
  obtain ⟨vs, H2, I3, rv, q2⟩ := hu
  exact ⟨I3.kIn, run_fn F hr hb hd hx I3 rv q2⟩
end
end Lt
/-! own exceptions that bear fields: what an except suite asks of the one it holds -/
namespace Lt
open PySem PySem.Spec PyProof.Rows L2
/-- isinstance of the held exception, at a, of the class cls, its dict told -/
def rIsD (K : PySem.W.Frag) (a : Addr) (cls : Value) (d : Option Addr) : List V → Hp → VK → Prop := fun xs H Q => ∃ (C : Addr) (c : V) (cv : Value) (b : Bool) (dd : Addr) (fs : List (Str × V)), xs = [.ref a, c] ∧ cls = .ref C ∧ ExcC K C ∧ (∀ u, RelV c u → u = cv) ∧
  PySem.W.kitOne K (.ref C) cv = some b ∧ d = some dd ∧ H dd = some (.xd fs) ∧ Q (.bl b) H
theorem call_isD {X : Cx} {a : Addr} {cls : Value} {d : Option Addr} {oe : Obj} {pn : List (Addr × Obj)} (hz : Zc cls d oe) (hf : ∃ vs, oe.data = .fields vs) : CallR (X.suite a ((a, oe) :: pn)) (.builtin "isinstance") (rIsD X.K a cls d) := by
  intro pins s σ H xs us Q I r h
  obtain ⟨C, c, cv, b, dd, fs, rfl, rfl, F, hcv, e, rfl, hd, q⟩ := h
  cases r with
  | cons ra rest =>
    cases rest with
    | cons rc rest =>
      cases rest
      cases ra
      have ec := hcv _ rc
      subst ec
      have at_ : s.heap.get? a = some oe := (I.pin (a, oe) (List.mem_append_left _ List.mem_cons_self)).1
      have xd : ObjOk X.prog X.w H s.heap dd (.xd fs) := I.hok dd _ hd
      obtain ⟨mA, hns, _⟩ := xd
      obtain ⟨od, ho, _⟩ := lookIn_ns hns
      obtain ⟨vs, hv⟩ := hf
      have J : PySem.W.InstAt s.heap a oe C (some od) := ⟨at_, hz.1, by unfold PySem.W.notCls; rw [hv] <;> rfl, by rw [hz.2]; exact ho⟩
      have hcl : (PySem.W.clsIn X.K C).isSome = true := by
        obtain ⟨cd, hc, _⟩ := PySem.W.any_some F.hd
        rw [hc]
        rfl
      exact PySem.W.kia_one (PySem.W.kitx_exc hcl F.hg F.hk F.hs F.ha F.hn F.ht F.hm) I.kIn J e (fun z => nomatch z) fun tk => ⟨.bl b, H, I.kept (t' := tk) fun _ _ z => z, rfl, q⟩
/-- isinstance of an own class's instance and an own class -/
theorem kit_ref {K : PySem.W.Frag} {C D : Addr} {b : Bool} (hd : PySem.W.hasDictIn K D = true) (ty : PySem.W.typeIn K (.ref D) = some (.type "type")) (es : PySem.W.subIn K (.ref C) (.ref D) = some b) (self : b = false → PySem.W.subIn K (.ref C) (.ref C) = some true) : PySem.W.kitOne K (.ref C) (.ref D) = some b := by
  obtain ⟨cd, hc, _⟩ := PySem.W.any_some hd
  have e2 : ((PySem.W.clsIn K D).isSome && PySem.W.typeIn K (.ref D) == some (.type "type")) = true := by
    rw [hc, ty] <;> rfl
  have e3 : PySem.W.kitCls K (.ref C) (.ref D) = some b := by
    show (if ((PySem.W.clsIn K D).isSome && PySem.W.typeIn K (.ref D) == some (.type "type")) = true then PySem.W.subIn K (.ref C) (.ref D) else none) = some b
    rw [if_pos e2]
    exact es
  unfold PySem.W.kitOne
  by_cases h : C = D
  · subst h
    rw [if_pos (beq_self_eq_true _)]
    cases b with
    | true => rfl
    | false =>
      rw [self rfl] at es
      cases es
  · rw [if_neg (by
      intro z
      exact h (Value.ref.inj (beq_iff_eq.mp z)))]
    exact e3
end Lt
/-! a tuple's iterator at its end while an exception is handled -/
namespace Lt
open PySem PySem.Spec PyProof.Rows L2
section
variable {prog : Program} {w : World} {A : Around} {E : Value → Shared → Prop} {s : Shared}
theorem tup_end_hot {a I T : Addr} {k : Nat} {xs : Array Value} {Q : Option Value → Shared → Prop} (hot : HotX.HotAt A a s.heap) (it : s.heap.IsTupleIter I T k) (tp : s.heap.IsTuple T xs) (out : xs[k]? = none) (nI : a ≠ I)
    (hQ : ∀ h', Heap.ExtBut I s.heap h' → Q none { s with heap := h' }) : wpAny (model prog w) A (pyNext (.ref I)) Q E s := by
  have ty := it.typeIs
  obtain ⟨oI, gI, cI, dI⟩ := it
  obtain ⟨oT, gT, _, nT, dT⟩ := tp
  obtain ⟨hh, o1, v1, g1, d1, c1⟩ := hot
  unfold pyNext
  refine wpAny_bind (wpAny_attempt (wpAny_callSpecial?_slot (name := Str.ofString "__next__") ty F.slot_tuple_iterator_next (wpAny_call_entry F.slot_tuple_iterator_next ty F.entry_tuple_iterator_next ?go (F.args_tuple_iterator_next_1 _))))
  case go =>
    show wpAny _ _ (field (.ref I) 0 >>= _) _ _ s
    refine wpAny_bind (wpAny_field gI dI (x := .ref T) rfl ?_)
    show wpAny _ _ (if (Value.ref T == Value.none) = true then _ else _) _ _ s
    have neT : ¬ (Value.ref T == Value.none) = true := fun z => Bool.noConfusion (show false = true from z)
    rw [if_neg neT]
    show wpAny _ _ (field (.ref I) 1 >>= _) _ _ s
    refine wpAny_bind (wpAny_field gI dI (x := .int k 0) rfl ?_)
    show wpAny _ _ (seqItems? (.ref T) >>= _) _ _ s
    refine wpAny_bind (wpAny_seqItems gT dT ?_)
    simp only [Int.toNat_natCast, out]
    refine wpAny_bind (wpAny_rule (wpAny_bind (wpAny_setField gI dI (by simp) ?_)))
    have g1' : (s.heap.update I (Obj.mapFields (·.setIfInBounds 0 .none))).get? a = some o1 := by
      rw [Heap.get?_update_other _ _ (Ne.symm nI)]
      exact g1
    show wpAny _ _ (newExc (.type "StopIteration") [] >>= _) _ _ _
    refine wpAny_bind ?_
    simp only [newExc, newTuple]
    refine wpAny_bind (wpAny_newObj_type (wpAny_bind (m := firstArgMember _ _) (wpAny_of_eq (a := Value.none) (by first | rfl | (simp only [firstArgMember]; rfl)) (wpAny_newObj_type ?_ (by size_fits)))) (by size_fits))
    have g2 := Heap.get?_push_of_some { cls := .type "tuple", data := .seq ([] : List Value).toArray } g1'
    have g3 := fun o => Heap.get?_push_of_some o g2
    refine HotX.raiseNew_hot ⟨hh, o1, v1, g3 _, d1, c1⟩ (Nat.ne_of_lt (Heap.lt_size g2)) (Heap.get?_push_size _ rfl) rfl (by first | (simp; done) | (simp; omega) | (simp only [Array.size_append]; simp; omega)) ?_
    refine wpAny_bind (wpAny_isInstance (T := "StopIteration") (b := true) ⟨_, Heap.get?_update_self _ (Heap.get?_push_size _ rfl) rfl, rfl⟩ isSubtype_stop (wpAny_pure (hQ _ ?_)))
    intro b o nb e
    have e1 := Heap.get?_push_of_some { cls := .type "tuple", data := .seq ([] : List Value).toArray } ((Heap.get?_update_other s.heap (Obj.mapFields (·.setIfInBounds 0 .none)) (Ne.symm nb)).trans e)
    rw [Heap.get?_update_other _ _ (Nat.ne_of_gt (Heap.lt_size e1))]
    exact Heap.get?_push_of_some _ e1
end
end Lt
/-! [e for x in t], t a tuple, while an exception is handled -/
namespace Lt
open PySem PySem.Spec PyProof.Rows L2
/-- each item's answer is f of it, and the heap stays -/
def tLcH (K : PySem.W.Frag) (ti : TE) (i : Nat) (te : TE) (vs : List Nat) : TE := fun σ H Q => ti σ H fun x H1 => ∃ (a : Addr) (xs : List V) (f : V → V), x = .ref a ∧ SqT K H1 a xs ∧ xs.length ≤ 1000 ∧
  ∀ D, H1 D = none → (∀ (k : Nat) (y : V) (acc : List V), xs[k]? = some y → wipe ((wipe σ vs).set i (some y)) vs = wipe σ vs ∧ te ((wipe σ vs).set i (some y)) (upd H1 D (.lst acc)) fun z H2 => z = f y ∧ H2 = upd H1 D (.lst acc)) ∧ Q (.ref D) (upd H1 D (.lst (xs.map f)))
theorem upd_upd {H : Hp} {D : Addr} {o u : HO} : upd (upd H D o) D u = upd H D u := by
  funext b
  by_cases h : b = D
  · rw [h, upd_same, upd_same]
  · rw [upd_ne h, upd_ne h, upd_ne h]
section
variable {X : Cx} {p : Addr × Obj} {elt tg iter : Expr} {scope : Scope} {own : List (Str × Nat)} {pos : Pos} {ti te : TE} {i : Nat}
theorem pe_lcHot (hot : L2H.Hot1 X.A p) (hp : p ∈ X.pn) (hN : X.N.Nodup) (hi : PE X iter ti) (ok : BlkOk X.N X.env.scope scope own)
    (hg : ∀ (s : Shared) (H : Hp) (C : Addr) (cl : List (Str × Addr)) (fp : List Addr), PG (X.blk s H scope (compEnvC scope cl C X.env) fp) tg (gName i))
    (he : ∀ (s : Shared) (H : Hp) (C : Addr) (cl : List (Str × Addr)) (fp : List Addr), PE (X.blk s H scope (compEnvC scope cl C X.env) fp) elt te) (hs : ∀ x, foldedSetIterable iter X.env x = pure x := by intro _; rfl) :
    PE X (.ListComp elt [⟨tg, iter, [], 0⟩] scope pos) (tLcH X.K ti i te (own.map (·.2))) := by
  refine ⟨fun pins s σ H Q I h => ?_⟩
  have caught : ∀ y ∈ scope.names, y.2 = .free → ∃ c, X.env.cells.lookup y.1 = some c := fun y hy e => (ok.free y hy e).elim (fun k => I.ok.has _ (.inl k)) fun k => I.ok.has _ (.inr k)
  rw [eval_ListComp]
  refine wpAny_comprehension_free rfl hs (closure_ok caught) ok.kind (fun y hy e => by rw [ok.uniq y hy, e]) (thn (hi.run pins s σ H _ I (show ti σ H _ from h)) fun v s1 hv => ?_)
  obtain ⟨x, H1, I1, rx, a, xs, f, rfl, hx, hl, q⟩ := hv
  cases rx
  obtain ⟨its, rv, pl, _⟩ := I1.tuple hx
  refine wpAny_pyIter_tuple (show s1.heap.IsTuple a its.toArray from pl) ?_
  generalize hIt : s1.heap.objs.size = It
  generalize hs2 : ({ s1 with heap := s1.heap.push { cls := .type "tuple_iterator", data := .fields #[.ref a, .int 0 0] } } : Shared) = s2
  have I2 : Inv X pins σ H1 s2 := by
    rw [← hs2]
    exact I1.kept (t' := s1.toks) fun b o e => Heap.get?_push_of_some _ e
  have it2 : s2.heap.IsTupleIter It a 0 := by
    rw [← hs2, ← hIt]
    exact ⟨_, Heap.get?_push_size _ rfl, rfl, rfl⟩
  have f2 : FpOk X pins H1 It := by
    rw [← hIt]
    exact I1.fpOk (Nat.le_refl _) (I1.hok.fresh (Nat.le_refl _))
  refine wpAny_newObj_type (newEnv_comp ?_) (by show 0 ≤ sizeLine; decide)
  generalize hD : s2.heap.objs.size = D
  have nD : H1 D = none := I2.hok.fresh (Nat.le_of_eq hD)
  obtain ⟨hE, hQ⟩ := q D nD
  generalize hs3 : ({ s2 with heap := s2.heap.push { cls := .type "list", data := .seq ([] : List Value).toArray } } : Shared) = s3
  have e3 : s3.heap = s2.heap.push { cls := .type "list", data := .seq ([] : List Value).toArray } := by rw [← hs3]
  have I3 : Inv X pins σ (upd H1 D (.lst [])) s3 := by
    rw [← hs3]
    exact I2.laid (t' := s2.toks) (fun b o e => Heap.get?_push_of_some _ e) (Nat.le_of_eq hD) ⟨Nat.zero_le _, [], 0, .nil, by rw [← hD]; exact Heap.get?_push_size _ rfl⟩
  have ltI : It < s2.heap.objs.size := by
    obtain ⟨o, e, _⟩ := it2
    exact Heap.lt_size e
  have neD : It ≠ D := by
    rw [← hD]
    exact Nat.ne_of_lt ltI
  have nI : ∀ acc, (upd H1 D (.lst acc)) It = none := fun acc => by
    rw [upd_ne neD]
    exact f2.1
  have f3 : ∀ b ∈ [It], FpOk X pins (upd H1 D (.lst [])) b ∧ b < s3.heap.objs.size := fun b hb => by
    rw [List.mem_singleton.mp hb]
    exact ⟨⟨nI [], f2.2⟩, by rw [e3, Heap.size_push]; exact Nat.lt_succ_of_lt ltI⟩
  have it3 : s3.heap.IsTupleIter It a 0 := by
    obtain ⟨o, e, c, d⟩ := it2
    exact ⟨o, by rw [e3]; exact Heap.get?_push_of_some _ e, c, d⟩
  have I4 := block_start I3 ok hN f3
  have pg := hg s3 (upd H1 D (.lst [])) s3.heap.objs.size (cellsFrom (s3.heap.objs.size + 1) scope.names (cloFrom X.env.cells scope.names [])) [It]
  have pe := he s3 (upd H1 D (.lst [])) s3.heap.objs.size (cellsFrom (s3.heap.objs.size + 1) scope.names (cloFrom X.env.cells scope.names [])) [It]
  have pin3 : s3.heap.get? p.1 = some p.2 ∧ (upd H1 D (.lst [])) p.1 = none ∧ p.1 ≠ It := by
    have z := I3.pin p (List.mem_append_left _ hp)
    refine ⟨z.1, z.2.1, f2.2.2.2.2.2 p (List.mem_append_left _ hp)⟩
  show codeAny _ _ (.compStart (.ListComp elt [⟨tg, iter, [], 0⟩] scope pos) 0 (.ref It) (.ref D) (compEnvC scope (cellsFrom (s3.heap.objs.size + 1) scope.names (cloFrom X.env.cells scope.names [])) s3.heap.objs.size X.env)) (compPost (model X.prog X.w) X.A X.xe _ _ (.ref D) s3.heap.objs.size) { s3 with heap := pushCells (s3.heap.push { cls := .type "dict", data := .dict #[] }) scope.names }
  generalize hce : compEnvC scope (cellsFrom (s3.heap.objs.size + 1) scope.names (cloFrom X.env.cells scope.names [])) s3.heap.objs.size X.env = ce at I4 pg pe ⊢
  have cL : ce.locals = s3.heap.objs.size := by subst hce; rfl
  generalize hs4 : ({ s3 with heap := pushCells (s3.heap.push { cls := .type "dict", data := .dict #[] }) scope.names } : Shared) = s4 at I4 ⊢
  have it4 : s4.heap.IsTupleIter It a 0 := by
    obtain ⟨o, e, c, d⟩ := it3
    exact ⟨o, by rw [← hs4]; exact pushCells_keeps _ _ _ _ (Heap.get?_push_of_some _ e), c, d⟩
  have onB : ∀ {σ' : L2.St} {H' : Hp} {s' : Shared}, Inv (X.blk s3 (upd H1 D (.lst [])) scope ce [It]) [] σ' H' s' → H' It = none → FpOk (X.blk s3 (upd H1 D (.lst [])) scope ce [It]) [] H' It := fun {σ' H' s'} J n =>
    ⟨n, (J.ok.exf It List.mem_cons_self).1, J.ok.exfs It List.mem_cons_self, .inl List.mem_cons_self, fun x c e => (J.ok.exf It List.mem_cons_self).2 x c e, fun r hr => absurd (show r ∈ ([] : List (Addr × Obj)) ++ [] from hr) (by simp)⟩
  have tupK : ∀ acc, SqT X.K (upd H1 D (.lst acc)) a xs := fun acc => by
    rcases hx with (e | ⟨o, e⟩) | e
    · exact .inl (.inl (by rw [upd_ne (ne_of_none e nD)]; exact e))
    · exact .inl (.inr ⟨o, by rw [upd_ne (ne_of_none e nD)]; exact e⟩)
    · exact .inr e
  have loop : codeAny (model X.prog X.w) X.A (.compLoop (.ListComp elt [⟨tg, iter, [], 0⟩] scope pos) 0 (.ref It) (.ref D) ce) (compPost (model X.prog X.w) X.A X.xe none (EP X pins σ Q) (.ref D) s3.heap.objs.size) s4 := by
    refine compLoop_any (fun n s' => ∃ k, n = xs.length - k ∧ k ≤ xs.length ∧ Inv (X.blk s3 (upd H1 D (.lst [])) scope ce [It]) [] (wipe σ (own.map (·.2))) (upd H1 D (.lst ((xs.take k).map f))) s' ∧ s'.heap.IsTupleIter It a k) ?_ xs.length ⟨0, rfl, Nat.zero_le _, I4, it4⟩
    rintro n s5 ⟨k, rfl, hk, I5, it5⟩
    obtain ⟨its5, rv5, pl5, _⟩ := I5.tuple (tupK ((xs.take k).map f))
    by_cases hlt : k < xs.length
    · have hy : xs[k]? = some xs[k] := List.getElem?_eq_getElem hlt
      obtain ⟨u, hu, ru⟩ := rv5.get hy
      refine wpAny_pyNext_tuple_item it5 (show s5.heap.IsTuple a its5.toArray from pl5) (x := u) (by simpa using hu) fun h6 it6 sb => ?_
      obtain ⟨F0, F1, F2, F3, F4, F5⟩ := onB I5 (nI _)
      have I6 : Inv (X.blk s3 (upd H1 D (.lst [])) scope ce [It]) [] (wipe σ (own.map (·.2))) (upd H1 D (.lst ((xs.take k).map f))) { s5 with heap := h6 } := I5.turned (t' := s5.toks) (fun b o nb e => (sb.2 b nb).trans e) F0 F1 F3 F4 F5
      obtain ⟨oI, gI, cI, dI⟩ := id it6
      have pinI : ∀ b ∈ [It], ∃ o, h6.get? b = some o ∧ ∀ v, o.data ≠ .cell v := fun b hb => by
        rw [List.mem_singleton.mp hb]
        exact ⟨oI, gI, fun v z => by rw [dI] at z; cases z⟩
      have I6p := I6.pinned (fp := [It]) (fun b hb => by rw [List.mem_singleton.mp hb]; exact onB I6 (nI _)) pinI
      obtain ⟨hw, hev⟩ := hE k xs[k] ((xs.take k).map f) hy
      refine go_of (s := { s5 with heap := h6 }) gI cI dI (by decide) ?_
      refine thnF (pg.run _ { s5 with heap := h6 } _ _ xs[k] u _ I6p ru (show gName i xs[k] _ _ (fun σ8 H8 => σ8 = (wipe σ (own.map (·.2))).set i (some xs[k]) ∧ H8 = upd H1 D (.lst ((xs.take k).map f))) from ⟨rfl, rfl⟩)) fun _ s8 ⟨σ8, H8, I8, e8, eH8⟩ => ?_
      subst e8 eH8
      refine thnF ((pts_nil (X := X.blk s3 (upd H1 D (.lst [])) scope ce [It])).run _ s8 _ _ (fun b H9 => b = true ∧ H9 = upd H1 D (.lst ((xs.take k).map f))) I8 ⟨rfl, rfl⟩) fun b s9 ⟨H9, I9, eb, eH9⟩ => ?_
      subst eb eH9
      rw [if_pos rfl]
      refine thnF (pe.run _ s9 _ _ _ I9 hev) fun z s10 ⟨yv, H10, I10, r10, ey, eH10⟩ => ?_
      subst ey eH10
      refine app_ok (X := X.blk s3 (upd H1 D (.lst [])) scope ce [It]) I10 upd_same (by rw [List.length_map, List.length_take]; exact Nat.lt_of_le_of_lt (Nat.min_le_left _ _) (Nat.lt_of_lt_of_le hlt (Nat.le_trans hl (by decide)))) r10 fun s11 I11 => ?_
      rw [upd_upd, show (xs.take k).map f ++ [f xs[k]] = (xs.take (k + 1)).map f by rw [List.take_add_one, hy, List.map_append]; rfl] at I11
      have z := I11.pin (It, oI) (List.mem_append_right _ (List.mem_append_right _ (mem_pinsAt List.mem_cons_self gI)))
      refine ⟨xs.length - (k + 1), by omega, k + 1, rfl, hlt, (I11.unpinned (pins := [])).weak ?_ (fun j v e => ?_), oI, z.1, cI, dI⟩
      · have e := congrArg List.length hw
        rw [wipe_length] at e
        exact e.symm
      · rw [← hw] at e
        exact (wipe_some e).1
    · have ek : k = xs.length := by omega
      subst ek
      obtain ⟨hh, vs2, dv, cv⟩ := hot
      have P3 := I3.pin p (List.mem_append_left _ hp)
      have nfr : p.1 ∉ frs X.stack := fun hm => (List.mem_cons.mp (I3.stkSub p.1 hm)).elim P3.2.2.1 P3.2.2.2.1
      have g5 := I5.base.keep p.1 p.2 pin3.1 pin3.2.1 nfr (fun z => pin3.2.2 (List.mem_singleton.mp z))
      refine tup_end_hot (a := p.1) ⟨hh, p.2, vs2, g5, dv, cv⟩ it5 (show s5.heap.IsTuple a its5.toArray from pl5) (by have := rv5.length; simp; omega) pin3.2.2 fun h6 eb => ?_
      obtain ⟨F0, F1, F2, F3, F4, F5⟩ := onB I5 (nI _)
      have I6 : Inv (X.blk s3 (upd H1 D (.lst [])) scope ce [It]) [] (wipe σ (own.map (·.2))) (upd H1 D (.lst ((xs.take xs.length).map f))) { s5 with heap := h6 } := I5.turned (t' := s5.toks) (fun b o nb e => eb b o nb e) F0 F1 F3 F4 F5
      rw [List.take_length] at I6
      have G := (f3 It List.mem_cons_self).1
      have I7 : Inv X pins σ (upd H1 D (.lst (xs.map f))) { s5 with heap := h6 } := I3.call' (ch := [It]) I6.os I6.base I6.hok I6.bare fun b hb => by
        rw [List.mem_singleton.mp hb]
        exact ⟨G.2.2.2.1, G.2.1, G.2.2.2.2.1, G.2.2.2.2.2⟩
      have nC : (upd H1 D (.lst (xs.map f))) s3.heap.objs.size = none := by
        have z : (upd H1 D (.lst (xs.map f))) ce.locals = none := I6.free
        rw [cL] at z
        exact z
      obtain ⟨m, hn, _⟩ := I6.loc
      have hn : h6.Ns ce.locals m := hn
      rw [cL] at hn
      refine ⟨m, hn, fun h7 sb => ?_⟩
      obtain ⟨G0, G1, G2, G3, G4, G5⟩ := I3.fpOk (H' := upd H1 D (.lst (xs.map f))) (Nat.le_refl _) nC
      exact ⟨.ref D, _, I7.turned (t' := s5.toks) (fun b o nb e => (sb.2 b nb).trans e) G0 G1 G3 G4 G5, rfl, hQ⟩
  exact codeAny_compStart_list loop (wpAny_pyIter_tupleiter it4 loop)
end
end Lt
/-! a def called while an exception is handled, the exception known to the def -/
namespace Lt
open PySem PySem.Spec PyProof.Rows L2 L2H
section
variable {CX : CXT} {P : Program} {w : World} {K : PySem.W.Frag} {mg : Str → Option Value} {base : Heap} {f : Addr} {x qual : Str} {params : Arguments} {body : List Stmt} {scope : Scope} {dvs : List V} {kws : List (Str × V)} {fd : FuncData} {N ps : List Str}
theorem fn_pin {A : Around} {outer : List Env} {s : Shared} {H : Hp} {args : Args} {us : List Value} {vs : List V} {Q : VK} {E : XK} {p : Addr × Obj} (F : FunD K x qual params body scope dvs kws f fd) (S : FnScope N ps scope) (room : RoomH 1 A) (hot : Hot1 A p) (pin : PinOk outer H s p)
    (e0 : Env0 P w K mg base A outer s H) (bd : BindsTo s fd args (ps.zip us)) (rv : Vals vs us) (len : vs.length = ps.length)
    (run : ∀ cdv, ∃ t, PSs (cxH CX P w K mg base N qual scope f cdv A outer s H E p) body t ∧ t { nx := fun _ H' => Q .non H', rt := Q } (L2.start N vs) H) : codeAny (model P w) A (.call (.ref f) args) (CR CX outer P w H s Q E) s := by
  obtain ⟨oc, od, dV, kV, doc, pm, an, cdv, ct, osl, rfl, lk, hcd, _, _⟩ := F.ex
  have inK : K.In s.heap := e0.mod.kin.keeps fun b o e => (e0.bs b o e).1
  have noLim : s.heap.NoLimit := e0.mod.nolimit.keeps fun b o e => (e0.bs b o e).1
  have par : ∀ y ∈ ps.zip us, scope.names.lookup y.1 = some .local ∨ (scope.names.lookup y.1 = some .cell ∧ ((cellsFrom (s.heap.objs.size + 1) scope.names []).lookup y.1).isSome = true) := fun ⟨n, v⟩ hy => (S.par n (List.of_mem_zip hy).1).imp id fun q => ⟨q, PySem.W.cellsFrom_some _ _ _ (.inl q)⟩
  refine codeAny_call_function room.depth (inK _ _ lk) rfl S.co S.gen rfl (PySem.W.codeRec_of inK hcd) (bd _ _ _ _ (wpAny_newFunctionEnv_cells S.kind par fun env he s1 y => ?_))
  subst he
  refine ⟨noLim.keeps y.toInCall.keep, codeAny_func ?_⟩
  obtain ⟨t, ht, ask⟩ := run cdv
  refine wpAny_mono (ht.run [] s1 _ H _ (inv_startH S pin e0 len rv y) ask) (fun fl s' hs => ?_) fun e s' hs => hs
  cases fl with
  | ret u =>
    obtain ⟨v, σ', H', J, r, q⟩ := hs
    exact ⟨v, H', J.os, J.bare, J.base, J.hok, r, q⟩
  | next =>
    obtain ⟨σ', H', J, q⟩ := hs
    exact ⟨.non, H', J.os, J.bare, J.base, J.hok, rfl, q⟩
  | brk =>
    obtain ⟨_, _, _, z⟩ := hs
    exact (show False from z).elim
  | cont =>
    obtain ⟨_, _, _, z⟩ := hs
    exact (show False from z).elim
end
/-- str of a whole number or a text -/
def rStrV : List V → Hp → VK → Prop := fun xs H Q => (∃ i : Int, xs = [.int i] ∧ i.natAbs.log2 < 1920 ∧ Q (.str (toString i)) H) ∨ ∃ a : Str, xs = [.str a] ∧ Q (.str a) H
theorem call_strV {X : Cx} : CallR X (.type "str") rStrV := by
  intro pins s σ H xs us Q I r h
  rcases h with ⟨i, rfl, hz, q⟩ | ⟨a, rfl, q⟩
  · obtain ⟨u, rfl, t, rfl⟩ := vals1 r
    exact PySem.P.str_of_int hz ⟨.str _, H, I.tok _, ⟨_, rfl⟩, q⟩
  · obtain ⟨u, rfl, t, rfl⟩ := vals1 r
    exact PySem.P.str_of_str ⟨.str a, H, I, ⟨t, rfl⟩, q⟩
/-- self.f, self the exception that is pinned -/
theorem pe_xfP {X : Cx} {a C : Addr} {oe : Obj} {d : Option Addr} {e : Expr} {te : TE} {pos : Pos} {n : Str} (T : XfC X.K C) (hno : PySem.W.findIn X.K (.ref C) n = some none) (hz : Zc (.ref C) d oe) (hf : ∃ vs, oe.data = .fields vs) (hp : (a, oe) ∈ X.pn)
    (he : PE X e te) (hb : attributeBase e n X.env (eval e X.env) = eval e X.env := by rfl) : PE X (.Attribute e n pos) (fun σ H Q => te σ H fun x H1 => x = .ref a ∧ ∃ (dd : Addr) (fs : List (Str × V)) (v : V), d = some dd ∧ H1 dd = some (.xd fs) ∧ fs.lookup n = some v ∧ Q v H1) := by
  refine ⟨fun pins s σ H Q I h => attr_of hb (thn (he.run pins s σ H _ I h) fun u s1 hu => ?_)⟩
  obtain ⟨x, H1, I1, rx, rfl, dd, fs, v, rfl, hd, hl, q⟩ := hu
  cases rx
  obtain ⟨vs, dat⟩ := hf
  have xd : ObjOk X.prog X.w H1 s1.heap dd (.xd fs) := I1.hok dd _ hd
  obtain ⟨mA, ns, rel⟩ := xd
  obtain ⟨od, god, look⟩ := lookIn_ns ns
  obtain ⟨u, eu, ru⟩ := RelO.some_of (v := v) (o := mA n) (by rw [← hl]; exact rel n)
  have J : PySem.W.InstAt s1.heap a oe C (some od) := ⟨(I1.pin (a, oe) (List.mem_append_left _ hp)).1, hz.1, by unfold PySem.W.notCls; rw [dat] <;> rfl, by rw [hz.2]; exact god⟩
  exact HandSPX.exc_get I1.kIn J T.ga T.gg T.exC (PySem.W.findObj_own T.hdC hno rfl (by rw [look, eu])) (handed_of ru) ⟨v, H1, I1.tok _, ru, q⟩
/-- str of the exception that the suite holds: its own __str__ at fS; what it is to tell is asked of its body, with the exception pinned -/
def rStrE (B : (Addr × Obj) → Value → Option Addr → Hp → VK → Prop) (a : Addr) (oe : Obj) (cls : Value) (d : Option Addr) : List V → Hp → VK → Prop := fun xs H Q => xs = [.ref a] ∧ B (a, oe) cls d H Q
theorem call_strE {X : Cx} {a : Addr} {oe : Obj} {cls : Value} {d : Option Addr} {pn : List (Addr × Obj)} {fS : Addr} {fd : FuncData} {x qual : Str} {params : Arguments} {body : List Stmt} {scope : Scope} {N : List Str} {B : (Addr × Obj) → Value → Option Addr → Hp → VK → Prop}
    (hz : L2N.Zn cls d oe) (hf : ∃ vs, oe.data = .fields vs) (F : FunD X.K x qual params body scope [] [] fS fd) (S : FnScope N ["self"] scope) (bd : Binds X.K fd ["self"] []) (room : Room 2 X.A) (fn : PySem.W.isFn X.K (.ref fS) = true)
    (hB : ∀ H Q, B (a, oe) cls d H Q → ∃ (C dd : Addr) (fs : List (Str × V)), cls = .ref C ∧ d = some dd ∧ H dd = some (.xd fs) ∧ PySem.W.findIn X.K (.ref C) "__str__" = some (some (.ref fS)) ∧
      ∀ (A : Around) (cdv : Value) (s : Shared), Hot1 A (a, oe) → ∃ t, PSs (cxH (L2N.CX X.prog X.w) X.prog X.w X.K X.mg X.base N qual scope fS cdv A X.stack s H (fun _ _ _ => False) (a, oe)) body t ∧
        t { nx := fun _ H' => ∃ z, V.non = .str z ∧ Q (.str z) H', rt := fun v H' => ∃ z, v = .str z ∧ Q (.str z) H' } (L2.start N [.ref a]) H) :
    CallR (X.suite a ((a, oe) :: pn)) (.type "str") (rStrE B a oe cls d) := by
  intro pins s σ H xs us Q I r h
  obtain ⟨rfl, hb⟩ := h
  obtain ⟨C, dd, fs, rfl, rfl, hd, hs, run⟩ := hB H Q hb
  obtain ⟨u, rfl, ru⟩ := vals1 r
  cases ru
  obtain ⟨vs, dat⟩ := hf
  have P := I.pin (a, oe) (List.mem_append_left _ List.mem_cons_self)
  have xd : ObjOk X.prog X.w H s.heap dd (.xd fs) := I.hok dd _ hd
  obtain ⟨mA, ns, rel⟩ := xd
  obtain ⟨od, god, look⟩ := lookIn_ns ns
  have J : PySem.W.InstAt s.heap a oe C (some od) := ⟨P.1, hz.1, by unfold PySem.W.notCls; rw [dat] <;> rfl, by rw [hz.2.1]; exact god⟩
  have hot : Hot1 (X.suite a ((a, oe) :: pn)).A (a, oe) := ⟨rfl, vs, dat, hz.2.2 vs dat⟩
  have pin : PinOk (X.suite a ((a, oe) :: pn)).stack H s (a, oe) := ⟨P.1, P.2.1, fun hm => (List.mem_cons.mp (I.stkSub a hm)).elim P.2.2.1 P.2.2.2.1, P.2.2.2.2⟩
  refine PySem.W.kso_call ?_ I.kIn J hs fn (wpAny_call (codeAny_mono (fn_pin (CX := L2N.CX X.prog X.w) (E := fun _ _ _ => False) (Q := fun v H' => ∃ z, v = .str z ∧ Q (.str z) H') (args := ⟨[.ref a], []⟩) (us := [.ref a]) (vs := [.ref a]) F S ?_ hot pin I.env0.in1.in1 ?_ (.cons rfl .nil) rfl (fun cdv => ?_)) fun r s' hq => ?_))
  · have := room.un
    show (X.A.units + 1) + 1 < cLine
    omega
  · refine ⟨?_, ?_⟩
    · have := room.dp
      show X.A.depth + 3 * 1 + 5 < recursionLimit
      omega
    · have := room.un
      show (X.A.units + 1) + 1 + 16 * 1 + 200 < cLine
      omega
  · have := bd s [.ref a] I.kIn rfl
    simpa using this
  · obtain ⟨t, ht, hq⟩ := run (X.suite a ((a, oe) :: pn)).A.in1.in1 cdv s ⟨rfl, vs, dat, hz.2.2 vs dat⟩
    exact ⟨t, ht, hq⟩
  · cases r with
    | error e =>
      obtain ⟨_, _, _, _, _, _, _, _, _, _, _, _, z⟩ := hq
      exact z.elim
    | ok fl =>
      cases fl with
      | ret u =>
        obtain ⟨v, H', J2, rv, z, ev, q⟩ := I.after hq
        subst ev
        obtain ⟨t, rfl⟩ := rv
        exact ⟨.str z, H', J2, ⟨t, rfl⟩, q⟩
      | next => exact hq.elim
      | brk => exact hq.elim
      | cont => exact hq.elim
end Lt
/-! C(e, ..): an own exception class, its __init__ a def; the context is told to be None -/
namespace Lt
open PySem PySem.Spec PyProof.Rows L2
section
variable {X : Cx} {CX : CXT} {x : Str} {e : Expr} {es : List Expr} {ta : TA} {p pos : Pos} {C fI : Addr} {k : Nat} {fd : FuncData} {ps : List Str} {sp : Sp} {ds : List Value} {dvs : List V}
theorem pmk_oexN (T : OexC X.K C) (iC : PySem.W.findIn X.K (.ref C) "__init__" = some (some (.ref fI))) (tI : PySem.W.typeIn X.K (.ref fI) = some (.type "function")) (Fn : FnOk X.prog X.w X.K X.mg X.base CX k fI fd ps sp) (hr : Room (k + 1) X.A) (hb : Binds X.K fd ps ds) (hd : Vals dvs ds)
    (hx : Passes CX X (fun _ _ _ => False)) (hg : Gl X x) (hm : X.mg x = some (.ref C)) (ha : PA X (e :: es) ta) (hdb : (x == ("__debug__" : Str)) = false := by decide) (he : starEach (e :: es) X.env = (false, eval e X.env) :: starEach es X.env := by rfl)
    (hpl : (backTo pos (starEach es X.env)).any (·.1) = false := by rfl) : L2N.PMk X (.Call (.Name x p) (e :: es) [] pos) (tMkO C sp dvs ta) := by
  intro pins s σ H Q I h
  obtain ⟨nm, q, N, bs, bm, sn, sub, ab, col, dd, k0, k1, k2, k3, k5, hC, hbm⟩ := T.cls
  refine wpAny_Call_Name_kw (ld_glob I hg hm (PySem.W.callWith_K (h₀ := X.base) I.ok.mod.kin T.kC (thn (ha.run pos pins s σ H _ I h) fun us s1 hu => ?_) he hpl) hdb)
  obtain ⟨vs, H1, I1, rv, small, ask⟩ := hu
  refine ⟨I1.kIn, ?_⟩
  show wpAny _ _ (call (.ref C) us) _ _ _
  obtain ⟨hp, g, dr, tk, os⟩ := s1
  have le : hp.objs.size ≤ hp.objs.size + 1 := Nat.le_succ _
  have nE : H1 (hp.objs.size + 1) = none := I1.hok.fresh le
  have old : ∀ b o, hp.get? b = some o → ((hp.push (PySem.W.kdv_tup us)).push (PySem.HandSPX.excO C hp.objs.size)).get? b = some o := fun b o z => Heap.get?_push_of_some _ (Heap.get?_push_of_some _ z)
  have I2 : Inv X pins σ (upd H1 (hp.objs.size + 1) (exo (hp.objs.size + 1) C none)) ⟨(hp.push (PySem.W.kdv_tup us)).push (PySem.HandSPX.excO C hp.objs.size), g, dr, tk, os⟩ :=
    I1.laid (t' := tk) (a := hp.objs.size + 1) (o := exo (hp.objs.size + 1) C none) (h' := (hp.push (PySem.W.kdv_tup us)).push (PySem.HandSPX.excO C hp.objs.size)) old le (exo_ok (by heap_get))
  have rself : Vals (V.ref (hp.objs.size + 1) :: (vs ++ dvs)) (Value.ref (hp.objs.size + 1) :: (us ++ ds)) := .cons rfl (rv.append hd)
  have asked := ask (hp.objs.size + 1) nE
  have nUs : us.length ≤ sizeLine := by
    rw [← Paired.length rv, sizeLine_eq]
    omega
  have nPs : (Value.ref (hp.objs.size + 1) :: us ++ ds).length = ps.length := by
    have z := rself.length
    rw [Fn.len _ _ _ _ asked] at z
    exact z.symm
  refine wpAny_call (PySem.HandSPX.call_own F.excBase_ValueError (fun Y => PySem.HandSPX.refsVE_contains Y bm hbm) (I1.kIn _ _ hC) (PySem.W.looks_findIn I1.kIn iC) (fun self => PySem.W.bind_fn I1.kIn self tI) nUs (codeAny_mono (Fn.run _ X.stack _ _ ⟨Value.ref (hp.objs.size + 1) :: us, []⟩ (Value.ref (hp.objs.size + 1) :: (us ++ ds)) _ _ (fun _ _ _ => False) (hr.make C us []) (I2.env0.make C us []) (hb _ (Value.ref (hp.objs.size + 1) :: us) I2.kIn nPs) rself asked) fun r s' hq => ?_))
  cases r with
  | error er => exact hx pins σ _ _ er s' I2 hq
  | ok fl =>
    cases fl with
    | ret u =>
      obtain ⟨v, H2, e1, e2, un, hok, ru, ev, d, fs, ea, ed, nd, q2⟩ := hq
      subst ev
      obtain ⟨h2, g2, d2, t2, o2⟩ := s'
      obtain ⟨t0, G, J, kG, ge, hoe, na⟩ := mk_end0 (d2 := d2) (t2 := t2) I1 le old un hok e1 e2 ea ed nd
      refine ⟨ru, hp.objs.size + 1, _, _, ⟨G, g2, d2, t2, o2⟩, _, .ref C, some d, rfl, J, kG, ge, hoe, ⟨rfl, rfl, fun vs hv => ?_⟩, rfl, rfl, na, rfl, e2, raises_own T.exC T.tyC, q2⟩
      cases hv
      rfl
    | next => exact hq.elim
    | brk => exact hq.elim
    | cont => exact hq.elim
/-- no exception leaves -/
theorem passN : Passes (L2N.CX X.prog X.w) X E0 := fun _ _ _ _ _ _ _ h => by
  obtain ⟨_, _, _, _, _, _, _, _, _, _, _, _, z⟩ := h
  exact z.elim
theorem takesN0 : L2N.Takes X (fun _ _ _ _ => False) := fun _ _ z => by
  obtain ⟨_, _, _, _, _, _, _, _, _, _, _, _, _, _, _, _, z⟩ := z
  exact z.elim
end
theorem cxn_no {P : Program} {w : World} {H : Hp} {s : Shared} {e : Value} {s' : Shared} (h : L2N.CX P w [] H s (fun _ _ _ => False) e s') : False := by
  obtain ⟨_, _, _, _, _, _, _, _, _, _, _, _, z⟩ := h
  exact z
end Lt
/-! own exceptions by pieces -/
namespace Lt
open PySem PySem.Spec PyProof.Rows L2
theorem exo_nt {e C : Addr} {d : Option Addr} (xs : List V) : exo e C d ≠ .tup xs := fun z => by
  have z' : HO.ext _ = HO.tup xs := z
  cases z'
/-- an exception that is being made -/
def exP (a C : Addr) (fs : List (Str × V)) : Asn := fun H => (fs = [] ∧ H a = some (exo a C none)) ∨ (fs ≠ [] ∧ ∃ dx, Hs [cell a (exo a C (some dx)), cell dx (exd dx fs)] H)
section
variable {K : PySem.W.Frag} {L R : List Asn} {H H1 H2 : Hp} {a C dx : Addr} {fs : List (Str × V)} {f : Str} {y : V}
instance : Mono (exP a C fs) := ⟨fun s h => h.imp (fun z => ⟨z.1, s _ _ z.2⟩) fun ⟨z, dx, h⟩ => ⟨z, dx, h.sub s⟩⟩
theorem Hs.exStart (h : Hs (cell a (exo a C none) :: L) H) : Hs (exP a C [] :: L) H := h.weak fun _ z => .inl ⟨rfl, z⟩
theorem Hs.exPut0 (h : Hs (exP a C [] :: L) H) (n : H dx = none) : H a = some (exo a C none) ∧ Hs (exP a C [(f, y)] :: L) (upd (upd H dx (exd dx [(f, y)])) a (exo a C (some dx))) := by
  have h1 : Hs (cell a (exo a C none) :: L) H := h.weak fun _ z => z.elim (·.2) fun z => absurd rfl z.1
  have h2 := (h1.new (o := exd dx [(f, y)]) n).swap.put (o' := exo a C (some dx)) fun xs => exo_nt xs
  exact ⟨h1.hd, h2.join.weak fun _ z => .inr ⟨by simp, dx, z⟩⟩
theorem Hs.exOpen (h : Hs (exP a C fs :: L) H) (ne : fs ≠ []) : ∃ dx, Hs (cell a (exo a C (some dx)) :: cell dx (exd dx fs) :: L) H := by
  have h1 : Hs ((fun H => ∃ dx, Hs [cell a (exo a C (some dx)), cell dx (exd dx fs)] H) :: L) H := h.weak fun _ z => z.elim (fun z => absurd z.1 ne) fun z => z.2
  obtain ⟨dx, h2⟩ := Hs.ex (A := fun dx => Hs [cell a (exo a C (some dx)), cell dx (exd dx fs)]) h1
  exact ⟨dx, h2.split⟩
theorem s_ost {B : Hp → Prop} (hS : Hs L H) (k : Pick L (exP a C fs) R) (o : OexC K C) (n : PySem.W.findIn K (.ref C) f = some none) (hl : fs.length ≤ 900) (h : ∀ H', Hs (exP a C ((f, y) :: fs) :: R) H' → B H') :
    ∃ a' C' : Addr, V.ref a = .ref a' ∧ OexC K C' ∧ PySem.W.findIn K (.ref C') f = some none ∧
      ((H a' = some (exo a' C' none) ∧ ∀ dx, H dx = none → dx ≠ a' → B (upd (upd H dx (exd dx [(f, y)])) a' (exo a' C' (some dx)))) ∨
        ∃ (dx : Addr) (fs : List (Str × V)), H a' = some (exo a' C' (some dx)) ∧ H dx = some (exd dx fs) ∧ fs.length ≤ 900 ∧ B (upd H dx (exd dx ((f, y) :: fs)))) := by
  refine ⟨a, C, rfl, o, n, ?_⟩
  have h1 := k.go hS
  by_cases e : fs = []
  · subst e
    have h2 : Hs (cell a (exo a C none) :: R) H := h1.weak fun _ z => z.elim (·.2) fun z => absurd rfl z.1
    exact .inl ⟨h2.hd, fun dx nd _ => h _ (h1.exPut0 nd).2⟩
  · obtain ⟨dx, h2⟩ := h1.exOpen e
    refine .inr ⟨dx, fs, h2.hd, h2.tl.hd, hl, h _ ?_⟩
    have h3 := (h2.swap.put (o' := exd dx ((f, y) :: fs)) fun xs => exd_tup).swap
    exact h3.join.weak fun _ z => .inr ⟨by simp, dx, z⟩
/-- the fields of an exception of ours: the row last -/
def exF (fns : List Str) (ws : List V) (t : Addr) : List (Str × V) := (fns.zip ws).reverse ++ [(("row" : Str), V.ref t)]
/-- C.__init__(self, ..): the row and the fields -/
def sp_ex (C : Addr) (nm : Str) (fns : List Str) : Sp := fun vs H Q _ => ∃ (a : Addr) (ws : List V) (ds : List PyData) (L : List Asn), vs = .ref a :: ws ∧ ws.length = fns.length ∧ Hs (exP a C [] :: L) H ∧ DvAll H ws ds ∧
  ∀ t H', Hs (exP a C (exF fns ws t) :: dv (.ref t) (.tuple (.str nm :: ds)) :: L) H' → Q .non H'
/-- StowError.__init__(self, row) -/
def sp_exRow (K : PySem.W.Frag) : Sp := fun vs H Q _ => ∃ (a C : Addr) (y : V) (L : List Asn), vs = [.ref a, y] ∧ OexC K C ∧ PySem.W.findIn K (.ref C) "row" = some none ∧ Hs (exP a C [] :: L) H ∧ ∀ H', Hs (exP a C [("row", y)] :: L) H' → Q .non H'
theorem k_tOst {to te : TE} {D : Ends} {σ : L2.St} (h : te σ H fun y H1 => to σ H1 fun x H2 => ∃ a C : Addr, x = .ref a ∧ OexC K C ∧ PySem.W.findIn K (.ref C) f = some none ∧
  ((H2 a = some (exo a C none) ∧ ∀ dx, H2 dx = none → dx ≠ a → D.nx σ (upd (upd H2 dx (exd dx [(f, y)])) a (exo a C (some dx)))) ∨
    ∃ (dx : Addr) (fs : List (Str × V)), H2 a = some (exo a C (some dx)) ∧ H2 dx = some (exd dx fs) ∧ fs.length ≤ 900 ∧ D.nx σ (upd H2 dx (exd dx ((f, y) :: fs))))) : tOst K f to te D σ H := h
theorem k_tCfn {sp : Sp} {dvs : List V} {E : XK} {ta : TE} {t : TA} {σ : L2.St} {Q : VK} (h : ta σ H fun x H1 => x = .ref C ∧ t σ H1 fun vs H2 => sp (vs ++ dvs) H2 Q E) : tCfn C sp dvs E ta t σ H Q := h
theorem ex_end (hS : Hs L H1) (na : H1 a = none) {t : Addr} {row : PyData} (h : Hs [exP a C fs, dv (.ref t) row, below H1] H2) (ne : fs ≠ []) :
    ∃ dx, H2 a = some (exo a C (some dx)) ∧ H2 dx = some (exd dx fs) ∧ H1 dx = none ∧ Hs (cell dx (.xd fs) :: dv (.ref t) row :: L) (upd (del H2 a) dx (.xd fs)) := by
  obtain ⟨dx, h2⟩ := h.exOpen ne
  have ea := h2.hd
  have h3 := h2.swap
  have ed := h3.hd
  have sm : Same H1 H2 := h2.tl.tl.tl.hd
  have hd2 : Dv H2 (.ref t) row := h2.tl.tl.hd
  have nd : H1 dx = none := by
    obtain ⟨Ha, Hb, s1, s2, dj, ca, hb⟩ := h3
    have sb : Same H1 Hb := hb.tl.tl.hd
    cases e : H1 dx with
    | none => rfl
    | some o =>
      rcases dj dx _ ca with z | ⟨xs, z⟩
      · rw [sb dx o e] at z
        cases z
      · exact absurd z exd_tup
  refine ⟨dx, ea, ed, nd, ?_⟩
  generalize hG : del (del H2 a) dx = G
  have eG : upd (del H2 a) dx (.xd fs) = upd G dx (.xd fs) := by
    funext b
    by_cases hb : b = dx
    · rw [hb, upd_same, upd_same]
    · rw [upd_ne hb, upd_ne hb, ← hG]
      show _ = if b = dx then none else del H2 a b
      rw [if_neg hb]
  have keep : ∀ b o, b ≠ a → b ≠ dx → H2 b = some o → G b = some o := fun b o n1 n2 e => by
    rw [← hG]
    show (if b = dx then none else if b = a then none else H2 b) = _
    rw [if_neg n2, if_neg n1]
    exact e
  have sG : Same H1 G := fun b o e => keep b o (ne_of_none e na) (ne_of_none e nd) (sm b o e)
  have nG : G dx = none := by
    rw [← hG]
    exact if_pos rfl
  have hdG : Dv G (.ref t) row := hd2.map fun b xs e => keep b _ (fun z => by
    rw [z, ea] at e
    exact exo_nt xs (Option.some.inj e)) (fun z => by
    rw [z, ed] at e
    exact exd_tup (Option.some.inj e)) e
  rw [eG]
  exact ((hS.sub sG).add (A := dv (.ref t) row) hdG).new nG
theorem s_mkE {nm : Str} {fns : List Str} {ws : List V} {ds : List PyData} {Q : XK} (hS : Hs L H1) (hv : DvAll H1 ws ds) (hl : ws.length = fns.length) (hl2 : ws.length ≤ 1000)
    (h : ∀ d t H4, Hs (cell d (.xd (exF fns ws t)) :: dv (.ref t) (.tuple (.str nm :: ds)) :: L) H4 → Q (.ref C) (some d) H4) :
    ws.length ≤ 1000 ∧ ∀ a, H1 a = none → sp_ex C nm fns (.ref a :: (ws ++ [])) (upd H1 a (exo a C none))
      (fun v H2 => v = .non ∧ ∃ (d : Addr) (fs : List (Str × V)), H2 a = some (exo a C (some d)) ∧ H2 d = some (exd d fs) ∧ H1 d = none ∧ Q (.ref C) (some d) (upd (del H2 a) d (.xd fs))) (fun _ _ _ => False) := by
  refine ⟨hl2, fun a na => ?_⟩
  rw [List.append_nil]
  refine ⟨a, ws, ds, [below H1], rfl, hl, (Hs.new na Hs.below).exStart, hv.sub (same_new na), fun t H2 h2 => ⟨rfl, ?_⟩⟩
  obtain ⟨dx, e1, e2, e3, e4⟩ := ex_end hS na h2 (by simp [exF])
  exact ⟨dx, _, e1, e2, e3, h _ _ _ e4⟩
end
end Lt
/-! dicts by pieces: keys whole numbers and texts -/
namespace Lt
open PySem PySem.Spec PyProof.Rows L2
section
variable {κ α : Type} [DecidableEq κ]
def valG (kvs : List (κ × α)) (k : κ) : Option α := (kvs.find? fun kv => decide (kv.1 = k)).map (·.2)
def putG (kvs : List (κ × α)) (k : κ) (v : α) : List (κ × α) := if (kvs.any fun kv => decide (kv.1 = k)) = true then kvs.map (fun kv => if kv.1 = k then (kv.1, v) else kv) else kvs ++ [(k, v)]
def dropG (kvs : List (κ × α)) (k : κ) : List (κ × α) := kvs.filter fun kv => decide (kv.1 ≠ k)
theorem valG_nil {k : κ} : valG ([] : List (κ × α)) k = none := rfl
theorem valG_pos {p : κ × α} {r : List (κ × α)} {k : κ} (e : p.1 = k) : valG (p :: r) k = some p.2 := by simp [valG, List.find?_cons, e]
theorem valG_neg {p : κ × α} {r : List (κ × α)} {k : κ} (e : ¬ p.1 = k) : valG (p :: r) k = valG r k := by simp [valG, List.find?_cons, e]
theorem valG_some {k : κ} {d : α} : ∀ {kvs : List (κ × α)}, valG kvs k = some d → (k, d) ∈ kvs
  | [], h => by cases h
  | p :: r, h => by
    by_cases e : p.1 = k
    · rw [valG_pos e] at h
      have h := Option.some.inj h
      rw [← e, ← h]
      exact List.mem_cons_self
    · rw [valG_neg e] at h
      exact List.mem_cons_of_mem _ (valG_some h)
theorem valG_none {k : κ} : ∀ {kvs : List (κ × α)}, valG kvs k = none ↔ k ∉ kvs.map (·.1)
  | [] => by simp [valG]
  | p :: r => by
    by_cases e : p.1 = k
    · rw [valG_pos e]
      simp [e]
    · rw [valG_neg e, valG_none, List.map_cons, List.mem_cons]
      constructor
      · exact fun h z => z.elim (fun z => e z.symm) h
      · exact fun h z => h (.inr z)
theorem valG_nd {k : κ} {d : α} : ∀ {kvs : List (κ × α)}, (kvs.map (·.1)).Nodup → (k, d) ∈ kvs → valG kvs k = some d
  | [], _, h => by cases h
  | p :: r, nd, h => by
    rw [List.map_cons, List.nodup_cons] at nd
    rcases List.mem_cons.mp h with rfl | h
    · exact valG_pos rfl
    · rw [valG_neg fun e => nd.1 (by rw [e]; exact List.mem_map.mpr ⟨_, h, rfl⟩)]
      exact valG_nd nd.2 h
theorem any_val (k : κ) : ∀ kvs : List (κ × α), (kvs.any fun kv => decide (kv.1 = k)) = (valG kvs k).isSome
  | [] => rfl
  | p :: r => by
    rw [List.any_cons]
    by_cases e : p.1 = k
    · simp only [valG_pos e, decide_eq_true e, Bool.true_or, Option.isSome_some]
    · rw [valG_neg e, decide_eq_false e, Bool.false_or]
      exact any_val k r
theorem putG_new {kvs : List (κ × α)} {k : κ} {v : α} (h : k ∉ kvs.map (·.1)) : putG kvs k v = kvs ++ [(k, v)] := by
  unfold putG
  rw [any_val, valG_none.mpr h]
  rfl
theorem putG_keys_old {kvs : List (κ × α)} {k : κ} {v : α} (h : k ∈ kvs.map (·.1)) : (putG kvs k v).map (·.1) = kvs.map (·.1) := by
  have e : (kvs.any fun kv => decide (kv.1 = k)) = true := by
    obtain ⟨p, hp, e⟩ := List.mem_map.mp h
    exact List.any_eq_true.mpr ⟨p, hp, decide_eq_true e⟩
  unfold putG
  rw [if_pos e, List.map_map]
  refine List.map_congr_left fun p _ => ?_
  by_cases q : p.1 = k
  · simp [q]
  · simp [q]
theorem putG_nd {kvs : List (κ × α)} {k : κ} {v : α} (h : (kvs.map (·.1)).Nodup) : ((putG kvs k v).map (·.1)).Nodup := by
  by_cases hk : k ∈ kvs.map (·.1)
  · rw [putG_keys_old hk]
    exact h
  · rw [putG_new hk, List.map_append]
    refine List.nodup_append.mpr ⟨h, by simp, fun a ha b hb => ?_⟩
    rw [List.map_singleton, List.mem_singleton] at hb
    intro e
    have hb : b = k := hb
    exact hk (hb ▸ e ▸ ha)
theorem dropG_nd {kvs : List (κ × α)} {k : κ} (h : (kvs.map (·.1)).Nodup) : ((dropG kvs k).map (·.1)).Nodup := h.sublist (List.filter_sublist.map _)
theorem putG_len (kvs : List (κ × α)) (k : κ) (v : α) : (putG kvs k v).length ≤ kvs.length + 1 := by
  unfold putG
  split
  · rw [List.length_map]
    omega
  · simp
theorem valG_map (k j : κ) (y : α) : ∀ kvs : List (κ × α), valG (kvs.map fun kv => if kv.1 = k then (kv.1, y) else kv) j = (valG kvs j).map fun x => if j = k then y else x
  | [] => rfl
  | p :: r => by
    have ih := valG_map k j y r
    rw [List.map_cons]
    by_cases h : p.1 = k
    · rw [if_pos h]
      by_cases e : p.1 = j
      · rw [valG_pos (p := (p.1, y)) e, valG_pos e, Option.map_some, if_pos (e.symm.trans h)]
      · rw [valG_neg (p := (p.1, y)) e, valG_neg e, ih]
    · rw [if_neg h]
      by_cases e : p.1 = j
      · rw [valG_pos (p := p) e, valG_pos e, Option.map_some, if_neg (fun z => h (e.trans z))]
      · rw [valG_neg (p := p) e, valG_neg e, ih]
theorem valG_snoc (k j : κ) (y : α) : ∀ kvs : List (κ × α), valG kvs k = none → valG (kvs ++ [(k, y)]) j = if j = k then some y else valG kvs j
  | [], _ => by
    by_cases e : k = j
    · rw [if_pos e.symm]
      exact valG_pos (p := (k, y)) e
    · rw [if_neg (fun z => e z.symm)]
      exact valG_neg (p := (k, y)) e
  | p :: r, hn => by
    rw [List.cons_append]
    have hk : ¬ p.1 = k := fun z => by
      rw [valG_pos z] at hn
      cases hn
    rw [valG_neg hk] at hn
    have ih := valG_snoc k j y r hn
    by_cases e : p.1 = j
    · rw [valG_pos (p := p) e, valG_pos e, if_neg (fun z => hk (e.trans z))]
    · rw [valG_neg (p := p) e, valG_neg e, ih]
theorem valG_put (k j : κ) (y : α) (kvs : List (κ × α)) : valG (putG kvs k y) j = if j = k then some y else valG kvs j := by
  cases h : valG kvs k with
  | none =>
    unfold putG
    rw [any_val, h]
    exact valG_snoc k j y kvs h
  | some u =>
    unfold putG
    rw [any_val, h]
    show valG (kvs.map fun kv => if kv.1 = k then (kv.1, y) else kv) j = _
    rw [valG_map]
    by_cases e : j = k
    · subst e
      rw [h, if_pos rfl]
      simp
    · rw [if_neg e]
      cases valG kvs j <;> simp [e]
theorem valG_drop (k j : κ) : ∀ kvs : List (κ × α), valG (dropG kvs k) j = if j = k then none else valG kvs j
  | [] => by
    by_cases e : j = k
    · rw [if_pos e]
      rfl
    · rw [if_neg e]
      rfl
  | p :: r => by
    have ih := valG_drop k j r
    unfold dropG at ih ⊢
    by_cases h : p.1 = k
    · rw [List.filter_cons_of_neg (by simp [h]), ih]
      by_cases e : j = k
      · rw [if_pos e, if_pos e]
      · rw [if_neg e, if_neg e, valG_neg fun z => e (z.symm.trans h)]
    · rw [List.filter_cons_of_pos (by simp [h])]
      by_cases e : p.1 = j
      · rw [valG_pos e, valG_pos e, if_neg fun z => h (e.trans z)]
      · rw [valG_neg e, valG_neg e, ih]
end
section
variable {κ : Type} [DecidableEq κ]
inductive KvAll (H : Hp) : List (κ × V) → List (κ × PyData) → Prop
  | nil : KvAll H [] []
  | cons {k : κ} {v : V} {d : PyData} {r : List (κ × V)} {rs : List (κ × PyData)} : Dv H v d → KvAll H r rs → KvAll H ((k, v) :: r) ((k, d) :: rs)
namespace KvAll
variable {H H' : Hp}
theorem map (s : ∀ a xs, H a = some (.tup xs) → H' a = some (.tup xs)) : ∀ {kvs : List (κ × V)} {ds : List (κ × PyData)}, KvAll H kvs ds → KvAll H' kvs ds
  | _, _, .nil => .nil
  | _, _, .cons h t => .cons (h.map s) (map s t)
theorem sub (s : Same H H') {kvs : List (κ × V)} {ds : List (κ × PyData)} (h : KvAll H kvs ds) : KvAll H' kvs ds := h.map fun a xs e => s a _ e
theorem keys : ∀ {kvs : List (κ × V)} {ds : List (κ × PyData)}, KvAll H kvs ds → kvs.map (·.1) = ds.map (·.1)
  | _, _, .nil => rfl
  | _, _, .cons _ t => congrArg (_ :: ·) (keys t)
theorem length : ∀ {kvs : List (κ × V)} {ds : List (κ × PyData)}, KvAll H kvs ds → kvs.length = ds.length
  | _, _, .nil => rfl
  | _, _, .cons _ t => congrArg Nat.succ (length t)
theorem get {k : κ} {d : PyData} : ∀ {kvs : List (κ × V)} {ds : List (κ × PyData)}, KvAll H kvs ds → valG ds k = some d → ∃ v, valV kvs k = some v ∧ Dv H v d
  | _, _, .nil, e => by cases e
  | _, _, .cons (k := j) h t, e => by
    by_cases z : j = k
    · rw [valG_pos z] at e
      exact ⟨_, valV_pos z, (Option.some.inj e) ▸ h⟩
    · rw [valG_neg z] at e
      obtain ⟨v, h1, h2⟩ := get t e
      exact ⟨v, by rw [valV_neg z]; exact h1, h2⟩
theorem none {k : κ} : ∀ {kvs : List (κ × V)} {ds : List (κ × PyData)}, KvAll H kvs ds → valG ds k = .none → valV kvs k = .none
  | _, _, .nil, _ => rfl
  | _, _, .cons (k := j) h t, e => by
    by_cases z : j = k
    · rw [valG_pos z] at e
      cases e
    · rw [valG_neg z] at e
      rw [valV_neg z]
      exact none t e
theorem any {k : κ} : ∀ {kvs : List (κ × V)} {ds : List (κ × PyData)}, KvAll H kvs ds → (kvs.any fun kv => decide (kv.1 = k)) = ds.any fun kv => decide (kv.1 = k)
  | _, _, .nil => rfl
  | _, _, .cons h t => by
    rw [List.any_cons, List.any_cons, any t]
theorem app : ∀ {kvs us : List (κ × V)} {ds es : List (κ × PyData)}, KvAll H kvs ds → KvAll H us es → KvAll H (kvs ++ us) (ds ++ es)
  | _, _, _, _, .nil, h => h
  | _, _, _, _, .cons a t, h => .cons a (app t h)
theorem mapv {k : κ} {v : V} {d : PyData} (hv : Dv H v d) : ∀ {kvs : List (κ × V)} {ds : List (κ × PyData)}, KvAll H kvs ds → KvAll H (kvs.map fun kv => if kv.1 = k then (kv.1, v) else kv) (ds.map fun kv => if kv.1 = k then (kv.1, d) else kv)
  | _, _, .nil => .nil
  | _, _, .cons (k := j) h t => by
    rw [List.map_cons, List.map_cons]
    by_cases z : j = k
    · rw [if_pos z, if_pos z]
      exact .cons hv (mapv hv t)
    · rw [if_neg z, if_neg z]
      exact .cons h (mapv hv t)
theorem put {k : κ} {v : V} {d : PyData} (hv : Dv H v d) {kvs : List (κ × V)} {ds : List (κ × PyData)} (h : KvAll H kvs ds) : KvAll H (putK kvs k v) (putG ds k d) := by
  unfold putK putG
  rw [h.any]
  by_cases z : (ds.any fun kv => decide (kv.1 = k)) = true
  · rw [if_pos z, if_pos z]
    exact h.mapv hv
  · rw [if_neg z, if_neg z]
    exact h.app (.cons hv .nil)
theorem drop {k : κ} : ∀ {kvs : List (κ × V)} {ds : List (κ × PyData)}, KvAll H kvs ds → KvAll H (dropK kvs k) (dropG ds k)
  | _, _, .nil => .nil
  | _, _, .cons (k := j) h t => by
    have ih := drop (k := k) t
    unfold dropK dropG at ih ⊢
    by_cases z : j = k
    · rw [List.filter_cons_of_neg (by simp [z]), List.filter_cons_of_neg (by simp [z])]
      exact ih
    · rw [List.filter_cons_of_pos (by simp [z]), List.filter_cons_of_pos (by simp [z])]
      exact .cons h ih
end KvAll
/-- the two kinds of dicts -/
class DKey (κ : Type) [DecidableEq κ] where
  ho : List (κ × V) → HO
  nt : ∀ l xs, ho l ≠ .tup xs
instance : DKey Key := ⟨.dK, fun _ _ e => by cases e⟩
instance : DKey (List Key) := ⟨.dT, fun _ _ e => by cases e⟩
variable [DKey κ] {L R : List Asn} {H : Hp} {p : Addr} {kvs us : List (κ × V)} {ds es : List (κ × PyData)}
def isDG (p : Addr) (ds : List (κ × PyData)) : Asn := fun H => ∃ kvs, H p = some (DKey.ho kvs) ∧ KvAll H kvs ds
def isDV (p : Addr) (kvs : List (κ × V)) (ds : List (κ × PyData)) : Asn := fun H => H p = some (DKey.ho kvs) ∧ KvAll H kvs ds
instance : Mono (isDG p ds) := ⟨fun s ⟨vs, h1, h2⟩ => ⟨vs, s _ _ h1, h2.sub s⟩⟩
instance : Mono (isDV p kvs ds) := ⟨fun s ⟨h1, h2⟩ => ⟨s _ _ h1, h2.sub s⟩⟩
theorem Hs.openD (h : Hs (isDG p ds :: L) H) : ∃ kvs, Hs (isDV p kvs ds :: L) H := h.ex (A := fun vs => isDV p vs ds)
theorem Hs.closeD (h : Hs (isDV p kvs ds :: L) H) : Hs (isDG p ds :: L) H := h.weak fun _ a => ⟨kvs, a⟩
theorem Hs.packDV (h : Hs (cell p (DKey.ho kvs) :: L) H) (hd : KvAll H kvs ds) : Hs (isDV p kvs ds :: L) H := h.pack fun _ _ h1 h2 => ⟨h1, hd.map h2⟩
theorem Hs.newD (n : H p = none) (h : Hs L H) (hd : KvAll H kvs ds) : Hs (isDG p ds :: L) (upd H p (DKey.ho kvs)) := ((h.new n).packDV (hd.sub (same_new n))).closeD
theorem Hs.putD (h : Hs (isDG p ds :: L) H) (hd : KvAll H us es) : Hs (isDG p es :: L) (upd H p (DKey.ho us)) := by
  obtain ⟨vs, h⟩ := h.openD
  have hp := h.hd.1
  refine Hs.closeD (kvs := us) (Hs.packDV ((h.weak (B := cell p (DKey.ho vs)) fun _ a => a.1).put fun xs z => DKey.nt _ _ z) (hd.map fun a xs e => ?_))
  rw [upd_ne (ne_of e hp fun z => DKey.nt _ _ z.symm)]
  exact e
end
abbrev isD (p : Addr) (ds : List (Key × PyData)) : Asn := isDG p ds
abbrev isT (p : Addr) (ds : List (List Key × PyData)) : Asn := isDG p ds
/-- whole numbers to data -/
abbrev kI {α : Type} (f : α → PyData) (kvs : List (Int × α)) : List (Key × PyData) := kvs.map fun kv => (.inl kv.1, f kv.2)
abbrev kS {α : Type} (f : α → PyData) (kvs : List (Str × α)) : List (Key × PyData) := kvs.map fun kv => (.inr kv.1, f kv.2)
section
variable {α : Type} {f : α → PyData}
theorem kI_val (k : Int) : ∀ kvs : List (Int × α), valG (kI f kvs) (.inl k) = (valG kvs k).map f
  | [] => rfl
  | p :: r => by
    by_cases e : p.1 = k
    · rw [valG_pos e]
      exact valG_pos (congrArg Sum.inl e)
    · rw [valG_neg e, ← kI_val k r]
      exact valG_neg fun z => e (Sum.inl.inj z)
theorem kI_any (k : Int) (kvs : List (Int × α)) : ((kI f kvs).any fun kv => decide (kv.1 = .inl k)) = kvs.any fun kv => decide (kv.1 = k) := by
  rw [any_val, any_val, kI_val]
  cases valG kvs k <;> rfl
theorem kI_put (k : Int) (y : α) (kvs : List (Int × α)) : putG (kI f kvs) (.inl k) (f y) = kI f (putG kvs k y) := by
  unfold putG
  rw [kI_any]
  split
  · unfold kI
    rw [List.map_map, List.map_map]
    refine List.map_congr_left fun q _ => ?_
    by_cases e : q.1 = k
    · simp [e]
    · simp [e]
  · simp [kI]
theorem kI_drop (k : Int) (kvs : List (Int × α)) : dropG (kI f kvs) (.inl k) = kI f (dropG kvs k) := by
  unfold dropG kI
  rw [List.filter_map]
  congr 1
  refine List.filter_congr fun q _ => ?_
  simp
theorem kI_len (kvs : List (Int × α)) : (kI f kvs).length = kvs.length := List.length_map _
theorem kI_keys (kvs : List (Int × α)) : (kI f kvs).map (·.1) = (kvs.map (·.1)).map Sum.inl := by
  unfold kI
  rw [List.map_map, List.map_map]
  rfl
end
section
variable {K : PySem.W.Frag} {L R : List Asn} {H : Hp} {Q : VK} {p q : Addr} {ds : List (Key × PyData)} {d : PyData} {x : V} {n : Int} {z : Str} {key : Key} {α : Type} {f : α → PyData} {kvs : List (Int × α)} {u : α}
theorem s_dget0 {y : V} {B : Addr → V → Prop} (hS : Hs L H) (k : Pick L (isD p ds) R) (ey : y = kV key) (e : valG ds key = some d) (h : Hold L H d fun v H' => H' = H → B p v) : ∃ a v, V.ref p = .ref a ∧ DGet H a y (some v) ∧ B a v := by
  obtain ⟨us, h1, h2⟩ := hS.at_ k
  obtain ⟨v, h3, h4⟩ := h2.get e
  exact ⟨p, v, rfl, .inl ⟨us, key, .inl h1, ey, h3.symm⟩, Hold.go (G := fun v H' => H' = H → B p v) hS h4 h rfl⟩
theorem s_dget {B : V → Prop} (hS : Hs L H) (k : Pick L (isD p (kI f kvs)) R) (e : valG kvs n = some u) (h : Hold L H (f u) fun v _ => B v) : ∃ a v, V.ref p = .ref a ∧ DGet H a (.int n) (some v) ∧ B v := by
  obtain ⟨us, h1, h2⟩ := hS.at_ k
  obtain ⟨v, h3, h4⟩ := h2.get (k := .inl n) (d := f u) (by rw [kI_val, e] <;> rfl)
  exact ⟨p, v, rfl, .inl ⟨us, .inl n, .inl h1, rfl, h3.symm⟩, Hold.go (G := fun v _ => B v) hS h4 h⟩
theorem s_din {B : Option V → Prop} (hS : Hs L H) (k : Pick L (isD p (kI f kvs)) R) (h : ∀ o : Option V, o.isSome = (valG kvs n).isSome → B o) : ∃ a o, V.ref p = .ref a ∧ DGet H a (.int n) o ∧ B o := by
  obtain ⟨us, h1, h2⟩ := hS.at_ k
  refine ⟨p, _, rfl, .inl ⟨us, .inl n, .inl h1, rfl, rfl⟩, h _ ?_⟩
  cases e : valG kvs n with
  | none =>
    rw [h2.none (by rw [kI_val, e] <;> rfl)]
    rfl
  | some u =>
    obtain ⟨v, h3, h4⟩ := h2.get (k := .inl n) (d := f u) (by rw [kI_val, e] <;> rfl)
    rw [h3]
    rfl
theorem s_dput {N : Hp → Prop} (hS : Hs L H) (k : Pick L (isD p (kI f kvs)) R) (hv : Dv H x (f u)) (hl : kvs.length ≤ 1000) (h : ∀ H', Hs (isD p (kI f (putG kvs n u)) :: R) H' → N H') : ∃ a H4, V.ref p = .ref a ∧ DPut H a (.int n) x H4 ∧ N H4 := by
  obtain ⟨us, h1, h2⟩ := hS.at_ k
  refine ⟨p, _, rfl, .inl ⟨us, .inl n, h1, rfl, small1000 (by rw [h2.length, kI_len]; exact hl), rfl⟩, h _ ?_⟩
  have h3 := (k.go hS).putD (h2.put (k := .inl n) hv)
  rw [kI_put] at h3
  exact h3
theorem s_isD {A : Addr → Prop} (hS : Hs L H) (k : Pick L (isD p ds) R) (h : A p) : ∃ b, V.ref p = .ref b ∧ IsD H b ∧ A b := by
  obtain ⟨us, h1, _⟩ := hS.at_ k
  exact ⟨p, rfl, .inl ⟨us, .inl h1⟩, h⟩
theorem s_dpop {B : V → Hp → Prop} (hS : Hs L H) (k : Pick L (isD p (kI f kvs)) R) (e : valG kvs n = some u) (h : ∀ v H', Dv H' v (f u) → Hs (isD p (kI f (dropG kvs n)) :: R) H' → B v H') : ∃ us j v, H p = some (.dK us) ∧ V.int n = kV j ∧ valV us j = some v ∧ B v (upd H p (.dK (dropK us j))) := by
  obtain ⟨us, h1, h2⟩ := hS.at_ k
  obtain ⟨v, h3, h4⟩ := h2.get (k := .inl n) (d := f u) (by rw [kI_val, e] <;> rfl)
  have h5 := (k.go hS).putD (h2.drop (k := .inl n))
  rw [kI_drop] at h5
  refine ⟨us, .inl n, v, h1, rfl, h3, h v _ (h4.map fun a xs e => ?_) h5⟩
  rw [upd_ne (ne_of e h1 fun z => by cases z)]
  exact e
end
end Lt
/-! calls that may raise, from where they are taken; the text of the held exception -/
namespace Lt
open PySem PySem.Spec PyProof.Rows L2
def tMethT (C : Addr) (m : Str) (sp : Sp) (dvs : List V) (E : L2.St → XK) (ta : TE) (t : TA) : TE := fun σ H Q => ta σ H fun x H1 => ∃ a dx fs, x = .ref a ∧ H1 a = some (.ins C dx fs) ∧ fs.lookup m = none ∧ t σ H1 fun vs H2 => sp (x :: (vs ++ dvs)) H2 Q (E σ)
section
variable {X : Cx} {CX : CXT} {k : Nat} {C f : Addr} {sp : Sp} {E : L2.St → XK} {o e : Expr} {es : List Expr} {m : Str} {pos apos : Pos} {ta : TE} {t : TA} {fd : FuncData} {ps : List Str} {ds : List Value} {dvs : List V}
theorem pe_methT {pl : Sem Bool} (he : PE X o ta) (c : Cls X.K C) (hm : Meth X.K C m f) (F : FnOk X.prog X.w X.K X.mg X.base CX k f fd ps sp) (hr : Room k X.A) (hb : Binds X.K fd ps ds) (hd : Vals dvs ds) (hx : ∀ σ, PassesAt CX X σ (E σ)) (ha : PA X (e :: es) t)
    (hst : starEach (e :: es) X.env = (false, eval e X.env) :: starEach es X.env := by rfl) (hpl : (backTo pos (starEach es X.env)).any (·.1) = false := by rfl)
    (ht : eval (.Call (.Attribute o m apos) (e :: es) [] pos) X.env = (do
      let ov ← eval o X.env
      standAt apos.atName
      let (f, first) ← holding [ov] (getMethod ov m pl)
      callWith pos f first (backTo pos (starEach (e :: es) X.env)) (backToKw pos (keywordEach [] X.env))) := by rfl) :
    PE X (.Call (.Attribute o m apos) (e :: es) [] pos) (tMethT C m sp dvs E ta t) := by
  refine ⟨fun pins s σ H Q I h => ?_⟩
  refine PySem.W.methodCall_KW (pl := pl) (thn (he.run pins s σ H _ I h) fun u s1 ⟨x, H1, I1, rx, a, dx, fs, ex, ea, l, q⟩ => ?_) ht
  subst ex
  obtain rfl : u = Value.ref a := rx
  refine getmeth_ok I1 ea c hm l ?_
  refine PySem.W.callWith_K (first := [.ref a]) (h₀ := X.base) I.ok.mod.kin hm.kp (thn (ha.run pos pins s1 σ H1 _ I1 q) fun us s2 ⟨vs, H2, I2, r, q2⟩ => ⟨I2.kIn, ?_⟩) hst hpl
  exact run_fnSD (us := .ref a :: us) (vs := .ref a :: vs) F hr hb hd (hx σ) I2 (.cons rfl r) q2
theorem pe_methT0 {pl : Sem Bool} (he : PE X o ta) (c : Cls X.K C) (hm : Meth X.K C m f) (F : FnOk X.prog X.w X.K X.mg X.base CX k f fd ps sp) (hr : Room k X.A) (hb : Binds X.K fd ps ds) (hd : Vals dvs ds) (hx : ∀ σ, PassesAt CX X σ (E σ))
    (ht : eval (.Call (.Attribute o m apos) [] [] pos) X.env = (do
      let ov ← eval o X.env
      standAt apos.atName
      let (f, first) ← holding [ov] (getMethod ov m pl)
      callWith pos f first (backTo pos (starEach [] X.env)) (backToKw pos (keywordEach [] X.env))) := by rfl) :
    PE X (.Call (.Attribute o m apos) [] [] pos) (tMethT C m sp dvs E ta tNil) := by
  refine ⟨fun pins s σ H Q I h => ?_⟩
  refine PySem.W.methodCall_KW (pl := pl) (thn (he.run pins s σ H _ I h) fun u s1 ⟨x, H1, I1, rx, a, dx, fs, ex, ea, l, q⟩ => ?_) ht
  subst ex
  obtain rfl : u = Value.ref a := rx
  refine getmeth_ok I1 ea c hm l ?_
  exact PySem.W.callWith_K0 (first := [.ref a]) I1.kIn hm.kp (run_fnSD (us := [.ref a]) (vs := [.ref a]) F hr hb hd (hx σ) I1 (.cons rfl .nil) q)
end
section
variable {K : PySem.W.Frag} {C : Addr} {m : Str} {sp : Sp} {dvs : List V} {ta : TE} {t : TA} {σ : L2.St} {H : Hp} {Q : VK}
theorem k_tMethT {E : L2.St → XK} (h : ta σ H fun x H1 => ∃ a dx fs, x = .ref a ∧ H1 a = some (.ins C dx fs) ∧ fs.lookup m = none ∧ t σ H1 fun vs H2 => sp (x :: (vs ++ dvs)) H2 Q (E σ)) : tMethT C m sp dvs E ta t σ H Q := h
theorem k_tCallSD {E : L2.St → XK} (h : t σ H fun vs H1 => sp (vs ++ dvs) H1 Q (E σ)) : tCallSD sp dvs E t σ H Q := h
theorem kit_bi {T : String} {b : Bool} (hm : PySem.W.kitMeta T = true) (h : PySem.W.subIn K (.ref C) (.type T) = some b) : PySem.W.kitOne K (.ref C) (.type T) = some b := by
  unfold PySem.W.kitOne
  rw [if_neg (by
    intro z
    have := beq_iff_eq.mp z
    cases this)]
  show (if PySem.W.kitMeta T = true then PySem.W.subIn K (.ref C) (.type T) else none) = some b
  rw [if_pos hm]
  exact h
end
/-! the text of a row -/
inductive RowT : List PyData → List Str → Prop
  | nil : RowT [] []
  | int {i : Int} {ds : List PyData} {zs : List Str} : i.natAbs.log2 < 1920 → RowT ds zs → RowT (.int i :: ds) (toString i :: zs)
  | str {z : Str} {ds : List PyData} {zs : List Str} : RowT ds zs → RowT (.str z :: ds) (z :: zs)
def strV : V → V
  | .int i => .str (toString i)
  | x => x
theorem RowT.vals {H : Hp} : ∀ {ds : List PyData} {zs : List Str} {xs : List V}, RowT ds zs → DvAll H xs ds → xs.map strV = zs.map V.str ∧ xs.length = zs.length ∧ ∀ (k : Nat) (y : V), xs[k]? = some y → (∃ i : Int, y = .int i ∧ i.natAbs.log2 < 1920) ∨ ∃ a : Str, y = .str a
  | _, _, _, .nil, .nil => ⟨rfl, rfl, fun k y e => by simp at e⟩
  | _, _, _, .int hz r, .cons hv t => by
    cases hv
    obtain ⟨e1, e2, e3⟩ := r.vals t
    refine ⟨by rw [List.map_cons, List.map_cons, e1]; rfl, by rw [List.length_cons, List.length_cons, e2], fun k y e => ?_⟩
    rcases k with _ | k
    · exact .inl ⟨_, (Option.some.inj e).symm, hz⟩
    · exact e3 k y e
  | _, _, _, .str r, .cons hv t => by
    cases hv
    obtain ⟨e1, e2, e3⟩ := r.vals t
    refine ⟨by rw [List.map_cons, List.map_cons, e1]; rfl, by rw [List.length_cons, List.length_cons, e2], fun k y e => ?_⟩
    rcases k with _ | k
    · exact .inr ⟨_, (Option.some.inj e).symm⟩
    · exact e3 k y e
/-- str(e), e the held exception, its __str__ at fS -/
def bStrX (K : PySem.W.Frag) (fS : Addr) (cls : Value) (d : Option Addr) (H : Hp) (Q : VK) : Prop := ∃ (C dd t : Addr) (fs : List (Str × V)) (row : List PyData) (zs : List Str) (L R R2 : List Asn), cls = .ref C ∧ d = some dd ∧
  PySem.W.findIn K (.ref C) "__str__" = some (some (.ref fS)) ∧ XfC K C ∧ PySem.W.findIn K (.ref C) "row" = some none ∧ Hs L H ∧ Pick L (cell dd (.xd fs)) R ∧ fs.lookup ("row" : Str) = some (.ref t) ∧ Pick L (dv (.ref t) (.tuple row)) R2 ∧
  RowT row zs ∧ row.length ≤ 900 ∧ (zs.map (·.length)).sum + zs.length * 1 ≤ 16777216 ∧ ∀ H', Hs L H' → Q (.str (Txt.join " " zs)) H'
theorem k_eqTo {α : Type} {a : α} {B : Prop} (h : B) : a = a ∧ B := ⟨rfl, h⟩
theorem k_tMkO {C : Addr} {sp : Sp} {dvs : List V} {ta : TA} {σ : L2.St} {H : Hp} {Q : XK} (h : ta σ H fun vs H1 => vs.length ≤ 1000 ∧ ∀ a, H1 a = none → sp (.ref a :: (vs ++ dvs)) (upd H1 a (exo a C none))
  (fun v H2 => v = .non ∧ ∃ (d : Addr) (fs : List (Str × V)), H2 a = some (exo a C (some d)) ∧ H2 d = some (exd d fs) ∧ H1 d = none ∧ Q (.ref C) (some d) (upd (del H2 a) d (.xd fs))) (fun _ _ _ => False)) : tMkO C sp dvs ta σ H Q := h
def rStrX (K : PySem.W.Frag) (fS a : Addr) (cls : Value) (d : Option Addr) : List V → Hp → VK → Prop := fun xs H Q => xs = [.ref a] ∧ bStrX K fS cls d H Q
section
variable {K : PySem.W.Frag} {L R R2 : List Asn} {H : Hp} {Q : VK} {a b C D dd t fS : Addr} {cls : Value} {d : Option Addr} {fs : List (Str × V)} {f : Str} {v : V} {σ : L2.St}
theorem k_tXf {te : TE} (h : te σ H fun x H1 => x = .ref a ∧ cls = .ref C ∧ ∃ (dd : Addr) (fs : List (Str × V)) (v : V), d = some dd ∧ H1 dd = some (.xd fs) ∧ fs.lookup f = some v ∧ Q v H1) : tXf a cls d C f te σ H Q := h
theorem s_xf {B : V → Prop} (hS : Hs L H) (k : Pick L (cell dd (.xd fs)) R) (e : fs.lookup f = some v) (h : B v) : ∃ (dd' : Addr) (fs : List (Str × V)) (v : V), some dd = some dd' ∧ H dd' = some (.xd fs) ∧ fs.lookup f = some v ∧ B v := ⟨dd, fs, v, rfl, hS.at_ k, e, h⟩
theorem s_isX {bb : Bool} (ec : ExcC K C) (ki : PySem.W.kitOne K (.ref C) (.ref D) = some bb) (hS : Hs L H) (k : Pick L (cell dd (.xd fs)) R) (h : Q (.bl bb) H) : rIsD K a (.ref C) (some dd) [.ref a, .ref D] H Q :=
  ⟨C, .ref D, .ref D, bb, dd, fs, rfl, rfl, ec, fun u r => r, ki, rfl, hS.at_ k, h⟩
theorem s_isXT {bb : Bool} {T : String} (ec : ExcC K C) (ki : PySem.W.kitOne K (.ref C) (.type T) = some bb) (hS : Hs L H) (k : Pick L (cell dd (.xd fs)) R) (h : Q (.bl bb) H) : rIsD K a (.ref C) (some dd) [.ref a, .ty T] H Q :=
  ⟨C, .ty T, .type T, bb, dd, fs, rfl, rfl, ec, fun u r => r, ki, rfl, hS.at_ k, h⟩
theorem s_strX {row : List PyData} {zs : List Str} (hS : Hs L H) (k1 : Pick L (cell dd (.xd fs)) R) (el : fs.lookup ("row" : Str) = some (.ref t)) (k2 : Pick L (dv (.ref t) (.tuple row)) R2) (hs : PySem.W.findIn K (.ref C) "__str__" = some (some (.ref fS))) (xf : XfC K C) (hno : PySem.W.findIn K (.ref C) "row" = some none)
    (hr : RowT row zs) (hl : row.length ≤ 900) (hz : (zs.map (·.length)).sum + zs.length * 1 ≤ 16777216) (h : ∀ H', Hs L H' → Q (.str (Str.join " " zs)) H') : rStrX K fS a (.ref C) (some dd) [.ref a] H Q :=
  ⟨rfl, C, dd, t, fs, row, zs, L, R, R2, rfl, rfl, hs, xf, hno, hS, k1, el, k2, hr, hl, hz, fun H' h1 => by
    have e : Txt.join " " zs = Str.join " " zs := StrLaws.glued_eq_join _ _
    rw [e]
    exact h H' h1⟩
/-- the text of a whole number -/
def numS (i : Int) : Str := Str.ofString (toString i)
theorem numS_len {i : Int} (h0 : 0 ≤ i) (h1 : i < 10 ^ 20) : (Str.ofString (toString i)).length ≤ 20 := toString_length_le h0 (by decide) h1
theorem ofS_app (a b : String) : Str.ofString (a ++ b) = Str.ofString a ++ Str.ofString b := by
  apply Str.ext'
  rw [Str.cps_append]
  unfold Str.ofString
  rw [cpsOfBytes_string, cpsOfBytes_string, cpsOfBytes_string, String.toList_append, List.map_append]
  simp
theorem numS_neg {i : Int} (h0 : 0 < i) : numS (-i) = "-" ++ numS i := by
  obtain ⟨k, rfl⟩ : ∃ k : Nat, i = ((k + 1 : Nat) : Int) := ⟨i.toNat - 1, by omega⟩
  show Str.ofString (toString (Int.negSucc k)) = Str.ofString "-" ++ Str.ofString (toString ((k + 1 : Nat) : Int))
  have e1 : toString (Int.negSucc k) = "-" ++ toString (k + 1) := rfl
  have e2 : toString ((k + 1 : Nat) : Int) = toString (k + 1) := rfl
  rw [e1, e2, ofS_app]
theorem numLog {i : Int} (h0 : i.natAbs < 10 ^ 20) : i.natAbs.log2 < 1920 := by
  by_cases e : i.natAbs = 0
  · rw [e]
    decide
  · rw [Nat.log2_lt e]
    exact Nat.lt_of_lt_of_le h0 (by decide +kernel)
theorem k_addStr {a b : Str} {B : Str → Str → Prop} (hl : a.length + b.length ≤ 100000) (h : B a b) : ∃ i j, V.str a = V.str i ∧ V.str b = V.str j ∧ i.length + j.length ≤ sizeLine ∧ B i j := ⟨a, b, rfl, rfl, Nat.le_trans hl (by decide), h⟩
theorem k_log {i : Int} {B : Prop} (hl : i.natAbs < 100000000000000000000) (h : B) : i.natAbs.log2 < 1920 ∧ B := ⟨numLog hl, h⟩
theorem k_szL {n : Nat} {B : Prop} (hl : n ≤ 100000) (h : B) : n ≤ sizeLine ∧ B := ⟨Nat.le_trans hl (by decide), h⟩
end
end Lt
/-! for k in d, the dict locked, by pieces -/
namespace Lt
open PySem PySem.Spec PyProof.Rows L2
def isDF (p : Addr) (od : Obj) (kvs : List (Key × V)) (ds : List (Key × PyData)) : Asn := fun H => H p = some (.frz od (.dK kvs)) ∧ KvAll H kvs ds
instance {p : Addr} {od : Obj} {kvs : List (Key × V)} {ds : List (Key × PyData)} : Mono (isDF p od kvs ds) := ⟨fun s ⟨h1, h2⟩ => ⟨s _ _ h1, h2.sub s⟩⟩
section
variable {K : PySem.W.Frag} {L R L0 R0 : List Asn} {H : Hp} {Q : VK} {D : Ends} {σ : L2.St} {p : Addr} {od : Obj} {us : List (Key × V)} {ds : List (Key × PyData)} {g : TG} {tb : TS} {td : TE} {α : Type} {f : α → PyData} {kvs : List (Int × α)} {n : Int} {u : α}
theorem Hs.lockD (h : Hs (isDV p us ds :: L) H) : Hs (isDF p od us ds :: L) (upd H p (.frz od (.dK us))) := by
  have hp : H p = some (.dK us) := h.hd.1
  have h2 := h.hd.2
  have h3 := (h.weak (B := cell p (.dK us)) fun _ a => a.1).put (o' := .frz od (.dK us)) fun xs z => by cases z
  refine h3.pack fun H1 s1 e1 tu => ⟨e1, ?_⟩
  refine h2.map fun a xs e => tu a xs ?_
  rw [upd_ne (ne_of e hp fun z => by cases z)]
  exact e
theorem Hs.unlockD (h : Hs (isDF p od us ds :: L) H) : H p = some (.frz od (.dK us)) ∧ Hs (isD p ds :: L) (upd H p (.dK us)) := by
  have hp : H p = some (.frz od (.dK us)) := h.hd.1
  have h2 := h.hd.2
  have h3 := (h.weak (B := cell p (.frz od (.dK us))) fun _ a => a.1).put (o' := .dK us) fun xs z => by cases z
  refine ⟨hp, Hs.closeD (kvs := us) (Hs.packDV (κ := Key) h3 (h2.map fun a xs e => ?_))⟩
  rw [upd_ne (ne_of e hp fun z => by cases z)]
  exact e
theorem s_dgetF {B : V → Prop} (hS : Hs L H) (k : Pick L (isDF p od us (kI f kvs)) R) (e : valG kvs n = some u) (h : Hold L H (f u) fun v _ => B v) : ∃ a v, V.ref p = .ref a ∧ DGet H a (.int n) (some v) ∧ B v := by
  obtain ⟨h1, h2⟩ := hS.at_ k
  obtain ⟨v, h3, h4⟩ := h2.get (k := .inl n) (d := f u) (by rw [kI_val, e] <;> rfl)
  exact ⟨p, v, rfl, .inl ⟨us, .inl n, .inr ⟨od, h1⟩, rfl, h3.symm⟩, Hold.go (G := fun v _ => B v) hS h4 h⟩
def LkE (p : Addr) (od : Obj) (us : List (Key × V)) (N : L2.St → Hp → Prop) : L2.St → Hp → Prop := fun σ' H' => H' p = some (.frz od (.dK us)) ∧ N σ' (upd H' p (.dK us))
def LkR (p : Addr) (od : Obj) (us : List (Key × V)) (N : VK) : VK := fun v H' => H' p = some (.frz od (.dK us)) ∧ N v (upd H' p (.dK us))
theorem s_forKI (P : Nat → L2.St → List Asn → Prop) (hS : Hs L0 H) (k : Pick L0 (isD p (kI f kvs)) R0) (ht : ∀ H' Q, Q (V.ref p) H' → td σ H' Q) (h0 : P 0 σ R0)
    (hs : ∀ od us i u σ H L, kvs[i]? = some u → P i σ L → Hs (isDF p od us (kI f kvs) :: L) H → g (.int u.1) σ H fun σ2 H2 => tb { nx := LpP (isDF p od us (kI f kvs)) P (i + 1), rt := LkR p od us D.rt, bk := LkE p od us D.nx, ct := LpP (isDF p od us (kI f kvs)) P (i + 1) } σ2 H2)
    (hd : ∀ σ H L, P kvs.length σ L → Hs (isD p (kI f kvs) :: L) H → D.nx σ H) : tLock (tFor (iKeys td) g tb) D σ H := by
  obtain ⟨us, h1⟩ := (k.go hS).openD
  have hp : H p = some (.dK us) := h1.hd.1
  have hk := h1.hd.2
  have hlen : us.length = kvs.length := by rw [hk.length, kI_len]
  refine ⟨p, .dK us, hp, True.intro, fun od => ?_⟩
  have h2 := h1.lockD (od := od)
  refine ht _ _ ⟨p, od, rfl, .inl ⟨us, upd_same, ?_⟩⟩
  refine for_it (D := ⟨LkE p od us D.nx, LkR p od us D.rt, LkE p od us D.bk, LkE p od us D.ct⟩) (walk_keys (d := p) (o := od) (kvs := us)) (LpP (isDF p od us (kI f kvs)) P) ⟨R0, h0, h2⟩ (fun i σ H _ ⟨L, _, z⟩ => z.hd.1) (fun i x σ H H' hi ⟨L, hP, z⟩ hy => ?_) (fun σ H ⟨L, hP, z⟩ => ?_)
  · obtain ⟨rfl, key, v, hx, rfl⟩ := hy
    have hk2 : us.map (·.1) = (kvs.map (·.1)).map Sum.inl := by rw [hk.keys, kI_keys]
    have e1 : (us.map (·.1))[i]? = some key := by rw [List.getElem?_map, hx]; rfl
    rw [hk2, List.map_map, List.getElem?_map] at e1
    cases e2 : kvs[i]? with
    | none =>
      rw [e2] at e1
      cases e1
    | some u =>
      rw [e2] at e1
      obtain rfl : (.inl u.1 : Key) = key := Option.some.inj e1
      exact hs od us i u σ _ L e2 hP z
  · rw [hlen] at hP
    obtain ⟨e, z2⟩ := z.unlockD
    exact ⟨e, hd σ _ L hP z2⟩
theorem s_dnew {f : α → PyData} (hS : Hs L H) (h : ∀ p H', Hs (isD p (kI f ([] : List (Int × α))) :: L) H' → Q (.ref p) H') : tDNewK σ H Q := fun p np => h p _ (Hs.newD (κ := Key) np hS .nil)
theorem k_dget {td ty : TE} (h : td σ H fun x H1 => ty σ H1 fun y H2 => ∃ a v, x = .ref a ∧ DGet H2 a y (some v) ∧ Q v H2) : tDGet td ty σ H Q := h
theorem k_dput {td ty tv : TE} (h : tv σ H fun v H1 => td σ H1 fun x H2 => ty σ H2 fun y H3 => ∃ a H4, x = .ref a ∧ DPut H3 a y v H4 ∧ D.nx σ H4) : sDPut td ty tv D σ H := h
theorem k_dpop1 {td ty : TE} (h : td σ H fun x H1 => ∃ a, x = .ref a ∧ IsD H1 a ∧ ty σ H1 fun y H2 => ∃ kvs k v, H2 a = some (.dK kvs) ∧ y = kV k ∧ valV kvs k = some v ∧ Q v (upd H2 a (.dK (dropK kvs k)))) : tDPop1 td ty σ H Q := h
theorem k_tCKw {r : List V → List V → Hp → VK → Prop} {t tk : TA} (h : t σ H fun vs H1 => tk σ H1 fun zs H2 => r vs zs H2 Q) : tCKw r t tk σ H Q := h
theorem s_sortRev {ks : List Int} (hS : Hs L H) (k : HasL L p (ks.map PyData.int)) (h : ∀ (ns : List Int) q H', ns.Perm ks → ns.Pairwise (· ≥ ·) → Hs (isL q (ns.map PyData.int) :: L) H' → Q (.ref q) H') : rSortedKw K true [.bl true] [.ref p] [.bl true] H Q :=
  ⟨p, ks, rfl, rfl, SqL.of (k.ints hS), fun ns q h1 h2 nq => h ns q _ h1 h2 (hS.newL nq (DvAll.ints _))⟩
end
end Lt
/-! calls that may raise, where they are taken: C(..), o.m(.., k = v) -/
namespace Lt
open PySem PySem.Spec PyProof.Rows L2
def tMakeT (C : Addr) (sp : Sp) (dvs : List V) (E : L2.St → XK) (t : TA) : TE := fun σ H Q => t σ H fun vs H1 => ∀ x dx, H1 x = none → H1 dx = none → dx ≠ x →
  sp (.ref x :: (vs ++ dvs)) (upd (upd H1 dx (.own x)) x (.ins C dx [])) (fun v H2 => v = .non ∧ Q (.ref x) H2) (E σ)
def sMakeT (C : Addr) (sp : Sp) (dvs : List V) (E : L2.St → XK) (t : TA) : TE := fun σ H Q => t σ H fun vs H1 => ∃ L, Hs L H1 ∧ ∀ x H', Hs (obj C x [] :: L) H' → sp (.ref x :: (vs ++ dvs)) H' (fun v H2 => v = .non ∧ Q (.ref x) H2) (E σ)
def tMethKT (C : Addr) (m : Str) (n j : Nat) (sp : Sp) (gV : List V → List V → List V) (E : L2.St → XK) (ta : TE) (t tk : TA) : TE := fun σ H Q => ta σ H fun x H1 => ∃ a dx fs, x = .ref a ∧ H1 a = some (.ins C dx fs) ∧ fs.lookup m = none ∧
  t σ H1 fun vs H2 => tk σ H2 fun zs H3 => vs.length + 1 = n ∧ zs.length = j ∧ sp (gV (x :: vs) zs) H3 Q (E σ)
section
variable {X : Cx} {CX : CXT} {k n : Nat} {C f : Addr} {sp : Sp} {E : L2.St → XK} {o e : Expr} {es : List Expr} {kws : List Keyword} {x m : Str} {p pos apos : Pos} {ta : TE} {t tk : TA} {fd : FuncData} {ps ks : List Str} {ds : List Value} {dvs : List V} {g : List Value → List Value → List Value} {gV : List V → List V → List V}
theorem end_at {pins : List (Addr × Obj)} {σ : L2.St} {H : Hp} {s s' : Shared} {Q : VK} {E : XK} {r : Result} (hx : PassesAt CX X σ E) (I : Inv X pins σ H s) (hq : CR CX X.stack X.prog X.w H s Q E r s') : wants (EP X pins σ Q) X.xe r s' := by
  cases r with
  | error e => exact hx pins H s e s' I hq
  | ok fl =>
    cases fl with
    | ret u => exact I.after hq
    | next => exact False.elim hq
    | brk => exact False.elim hq
    | cont => exact False.elim hq
theorem pe_makeT (M : Mk X.K C f) (F : FnOk X.prog X.w X.K X.mg X.base CX k f fd ps sp) (hr : Room (k + 1) X.A) (hg : Gl X x) (hm : X.mg x = some (.ref C)) (hb : Binds X.K fd ps ds) (hd : Vals dvs ds) (hx : ∀ σ, PassesAt CX X σ (E σ))
    (ha : PA X (e :: es) t) (hdb : (x == ("__debug__" : Str)) = false := by decide) (he : starEach (e :: es) X.env = (false, eval e X.env) :: starEach es X.env := by rfl) (hpl : (backTo pos (starEach es X.env)).any (·.1) = false := by rfl) :
    PE X (.Call (.Name x p) (e :: es) [] pos) (tMakeT C sp dvs E t) := by
  refine ⟨fun pins s σ H Q I h => wpAny_Call_Name_kw (ld_glob I hg hm (PySem.W.callWith_K (h₀ := X.base) I.ok.mod.kin M.kp (thn (ha.run pos pins s σ H _ I h) fun us s1 ⟨vs, H1, I1, r, q⟩ => ⟨I1.kIn, ?_⟩) he hpl) hdb)⟩
  have hn := I1.hok.fresh (Nat.le_succ s1.heap.objs.size)
  have hq := q (s1.heap.objs.size + 1) s1.heap.objs.size hn (I1.hok.fresh (Nat.le_refl _)) (Nat.ne_of_lt (Nat.lt_succ_self _))
  have I2 := Inv.made (C := C) I1
  have r2 : Vals (V.ref (s1.heap.objs.size + 1) :: (vs ++ dvs)) (Value.ref (s1.heap.objs.size + 1) :: (us ++ ds)) := .cons rfl (r.append hd)
  have hl := r2.length.symm.trans (F.len _ _ _ _ hq)
  have run := F.run _ X.stack _ _ ⟨Value.ref (s1.heap.objs.size + 1) :: us, []⟩ _ _ _ _ (hr.make C us []) (I2.env0.make C us []) (hb _ (Value.ref (s1.heap.objs.size + 1) :: us) I2.kIn hl) r2 hq
  exact wpAny_call (make_map (f := f) I1.kIn M.makes M.init (beq_iff_eq.mp M.fn) (codeAny_mono run fun r s' z => by
    have y := end_at (hx σ) I2 z
    cases r with
    | error e => exact y
    | ok fl =>
      cases fl with
      | ret u =>
        obtain ⟨v, H', I3, rv, ev, q3⟩ := y
        subst ev
        exact ⟨rv, ⟨V.ref (s1.heap.objs.size + 1), H', I3, rfl, q3⟩⟩
      | next => exact y
      | brk => exact y
      | cont => exact y))
theorem mkST (h : PE X e (tMakeT C sp dvs E (mcA t))) : PE X e (sMakeT C sp dvs E t) := weakPE h fun σ H Q z => ⟨_, z, fun vs H1 ⟨L, hS, q⟩ x dx nx nd ne => q x _ (make_new hS nx nd ne)⟩
theorem pe_methKT {pl : Sem Bool} (he : PE X o ta) (c : Cls X.K C) (hm : Meth X.K C m f) (F : FnOk X.prog X.w X.K X.mg X.base CX k f fd ps sp) (hr : Room k X.A) (hb : KBn X.K fd ps n ks g gV) (hx : ∀ σ, PassesAt CX X σ (E σ)) (ha : PA X (e :: es) t) (hkw : PK X kws tk)
    (hall : (backToKw pos (keywordEach kws X.env)).all (·.1.isSome) = true := by rfl) (hks : (backToKw pos (keywordEach kws X.env)).filterMap (·.1) = ks := by rfl) (hst : starEach (e :: es) X.env = (false, eval e X.env) :: starEach es X.env := by rfl)
    (hpl : ((backTo pos (starEach (e :: es) X.env)).any (·.1) || (backToKw pos (keywordEach kws X.env)).any (·.1.isNone)) = false := by rfl)
    (ht : eval (.Call (.Attribute o m apos) (e :: es) kws pos) X.env = (do
      let ov ← eval o X.env
      standAt apos.atName
      let (f, first) ← holding [ov] (getMethod ov m pl)
      callWith pos f first (backTo pos (starEach (e :: es) X.env)) (backToKw pos (keywordEach kws X.env))) := by rfl) :
    PE X (.Call (.Attribute o m apos) (e :: es) kws pos) (tMethKT C m n ks.length sp gV E ta t tk) := by
  refine ⟨fun pins s σ H Q I h => PySem.W.methodCall_KW (pl := pl) (thn (he.run pins s σ H _ I h) fun u s1 ⟨x, H1, I1, rx, a, dx, fs, ex, ea, l, q⟩ => ?_) ht⟩
  subst ex
  obtain rfl : u = Value.ref a := rx
  refine getmeth_ok I1 ea c hm l (PySem.W.callWith_KW (first := [.ref a]) (h₀ := X.base) I.ok.mod.kin hm.kp hall (thn (ha.run pos pins s1 σ H1 _ I1 q) fun us s2 ⟨vs, H2, I2, r, q2⟩ => thn (hkw.run pos pins s2 σ H2 _ I2 q2) fun ws s3 ⟨zs, H3, I3, rz, l1, l2, q3⟩ => ⟨I3.kIn, ?_⟩) hpl hst)
  rw [hks]
  have r2 : Vals (V.ref a :: vs) (Value.ref a :: us) := .cons rfl r
  exact wpAny_call (codeAny_mono (F.run X.A X.stack s3 H3 ⟨Value.ref a :: us, ks.zip ws⟩ (g (Value.ref a :: us) ws) (gV (V.ref a :: vs) zs) Q (E σ) hr I3.env0 (hb.to s3 _ ws I3.kIn (by rw [← r2.length]; exact l1) (rz.length.symm.trans l2)) (hb.rel r2 rz) q3) fun r s' z => end_at (hx σ) I3 z)
end
section
variable {C : Addr} {m : Str} {n j : Nat} {sp : Sp} {dvs : List V} {E : L2.St → XK} {ta : TE} {t tk : TA} {gV : List V → List V → List V} {σ : L2.St} {H : Hp} {Q : VK}
theorem k_sMakeT (h : t σ H fun vs H1 => ∃ L, Hs L H1 ∧ ∀ x H', Hs (obj C x [] :: L) H' → sp (.ref x :: (vs ++ dvs)) H' (fun v H2 => v = .non ∧ Q (.ref x) H2) (E σ)) : sMakeT C sp dvs E t σ H Q := h
theorem k_tMethKT (h : ta σ H fun x H1 => ∃ a dx fs, x = .ref a ∧ H1 a = some (.ins C dx fs) ∧ fs.lookup m = none ∧ t σ H1 fun vs H2 => tk σ H2 fun zs H3 => vs.length + 1 = n ∧ zs.length = j ∧ sp (gV (x :: vs) zs) H3 Q (E σ)) : tMethKT C m n j sp gV E ta t tk σ H Q := h
end
end Lt
namespace Lt
open PySem PySem.Spec PyProof.Rows L2
/-- a new instance by pieces, keywords alone -/
def sMakeK (C : Addr) (m : Nat) (sp : Sp) (gV : List V → List V → List V) (E : XK) (tk : TA) : TE := fun σ H Q => tk σ H fun zs H2 => zs.length = m ∧ ∃ L, Hs L H2 ∧ ∀ x H', Hs (obj C x [] :: L) H' → sp (gV [.ref x] zs) H' (fun v H3 => v = .non ∧ Q (.ref x) H3) E
section
variable {X : Cx} {CX : CXT} {k n : Nat} {C f : Addr} {sp : Sp} {E : L2.St → XK} {E0 : XK} {o e : Expr} {kws : List Keyword} {m : Str} {pos apos : Pos} {ta : TE} {t tk : TA} {fd : FuncData} {ps ks : List Str} {g : List Value → List Value → List Value} {gV : List V → List V → List V}
theorem passLT (hx : Passes CX X (fun _ _ _ => False)) (σ : L2.St) : PassesAt CX X σ (fun _ _ _ => False) := fun pins H s e s' I c => hx pins σ H s e s' I c
theorem pe_methKT0 {pl : Sem Bool} (he : PE X o ta) (c : Cls X.K C) (hm : Meth X.K C m f) (F : FnOk X.prog X.w X.K X.mg X.base CX k f fd ps sp) (hr : Room k X.A) (hb : KBn X.K fd ps 1 ks g gV) (hx : ∀ σ, PassesAt CX X σ (E σ)) (hkw : PK X kws tk)
    (hall : (backToKw pos (keywordEach kws X.env)).all (·.1.isSome) = true := by rfl) (hks : (backToKw pos (keywordEach kws X.env)).filterMap (·.1) = ks := by rfl)
    (hpl : ((backTo pos (starEach [] X.env)).any (·.1) || (backToKw pos (keywordEach kws X.env)).any (·.1.isNone)) = false := by rfl)
    (ht : eval (.Call (.Attribute o m apos) [] kws pos) X.env = (do
      let ov ← eval o X.env
      standAt apos.atName
      let (f, first) ← holding [ov] (getMethod ov m pl)
      callWith pos f first (backTo pos (starEach [] X.env)) (backToKw pos (keywordEach kws X.env))) := by rfl) :
    PE X (.Call (.Attribute o m apos) [] kws pos) (tMethKT C m 1 ks.length sp gV E ta tNil tk) := by
  refine ⟨fun pins s σ H Q I h => PySem.W.methodCall_KW (pl := pl) (thn (he.run pins s σ H _ I h) fun u s1 ⟨x, H1, I1, rx, a, dx, fs, ex, ea, l, q⟩ => ?_) ht⟩
  subst ex
  obtain rfl : u = Value.ref a := rx
  refine getmeth_ok I1 ea c hm l (PySem.W.callWith_KW0 (first := [.ref a]) (h₀ := X.base) I.ok.mod.kin hm.kp hall (thn (hkw.run pos pins s1 σ H1 _ I1 q) fun ws s3 ⟨zs, H3, I3, rz, l1, l2, q3⟩ => ⟨I3.kIn, ?_⟩) hpl)
  rw [hks]
  have r2 : Vals [V.ref a] [Value.ref a] := .cons rfl .nil
  exact wpAny_call (codeAny_mono (F.run X.A X.stack s3 H3 ⟨[Value.ref a], ks.zip ws⟩ (g [Value.ref a] ws) (gV [V.ref a] zs) Q (E σ) hr I3.env0 (hb.to s3 _ ws I3.kIn rfl (rz.length.symm.trans l2)) (hb.rel r2 rz) q3) fun r s' z => end_at (hx σ) I3 z)
theorem mcPK (h : PK X kws t) : PK X kws (mcA t) := ⟨fun pos pins s σ H Q I ⟨Q0, z, f⟩ => thn (h.run pos pins s σ H Q0 I z) fun us s' ⟨xs, H', I', r, q⟩ => ⟨xs, H', I', r, f _ _ q⟩⟩
theorem mkSK (h : PE X e (tMakeK C 0 n sp gV E0 tNil (mcA tk))) : PE X e (sMakeK C n sp gV E0 tk) := weakPE h fun σ H Q z => show mcA tk σ H _ from ⟨_, z, fun zs H1 ⟨el, L, hS, q⟩ => ⟨rfl, el, fun x dx nx nd ne => q x _ (make_new hS nx nd ne)⟩⟩
theorem k_sMakeK {σ : L2.St} {H : Hp} {Q : VK} (h : tk σ H fun zs H2 => zs.length = n ∧ ∃ L, Hs L H2 ∧ ∀ x H', Hs (obj C x [] :: L) H' → sp (gV [.ref x] zs) H' (fun v H3 => v = .non ∧ Q (.ref x) H3) E0) : sMakeK C n sp gV E0 tk σ H Q := h
end
end Lt
/-! dicts keyed by tuples, by pieces: store, get, list(d), dict(d) of one key at most -/
namespace Lt
open PySem PySem.Spec PyProof.Rows L2
def kD : Key → PyData
  | .inl i => .int i
  | .inr z => .str z
abbrev dKey (k : List Key) : PyData := .tuple (k.map kD)
theorem scas_keys : ∀ k : List Key, scas (k.map kD) = some (k.map kV)
  | [] => rfl
  | .inl i :: r => by
    rw [List.map_cons, List.map_cons]
    unfold scas
    rw [scas_keys r]
    rfl
  | .inr z :: r => by
    rw [List.map_cons, List.map_cons]
    unfold scas
    rw [scas_keys r]
    rfl
theorem key_dvs {H : Hp} : ∀ k : List Key, DvAll H (k.map kV) (k.map kD)
  | [] => .nil
  | .inl i :: r => .cons (.int i) (key_dvs r)
  | .inr z :: r => .cons (.str z) (key_dvs r)
section
variable {K : PySem.W.Frag} {L R : List Asn} {H : Hp} {Q : VK} {a b p : Addr} {key : List Key} {ds : List (List Key × PyData)} {u : PyData} {x : V} {σ : L2.St}
theorem key_at (h : Dv H (.ref b) (dKey key)) : H b = some (.tup (key.map kV)) := by
  cases h with
  | tup ha hs =>
    have e := hs.scas (scas_keys key)
    rw [e] at ha
    exact ha
theorem s_dnewT (hS : Hs L H) (h : ∀ p H', Hs (isT p [] :: L) H' → Q (.ref p) H') : tDNewT σ H Q := fun p np => h p _ (Hs.newD (κ := List Key) np hS .nil)
theorem s_isT {A : Addr → Prop} (hS : Hs L H) (k : Pick L (isT p ds) R) (h : A p) : ∃ b, V.ref p = .ref b ∧ IsD H b ∧ A b := by
  obtain ⟨us, h1, _⟩ := hS.at_ k
  exact ⟨p, rfl, .inr ⟨us, .inl h1⟩, h⟩
theorem s_putT {N : Hp → Prop} (hS : Hs L H) (k : Pick L (isT p ds) R) (hk : Dv H (.ref b) (dKey key)) (hv : Dv H x u) (hl : ds.length ≤ 1000) (h : ∀ H', Hs (isT p (putG ds key u) :: R) H' → N H') : ∃ a H4, V.ref p = .ref a ∧ DPut H a (.ref b) x H4 ∧ N H4 := by
  obtain ⟨us, h1, h2⟩ := hS.at_ k
  exact ⟨p, _, rfl, .inr ⟨us, key, b, h1, rfl, key_at hk, small1000 (by rw [h2.length]; exact hl), rfl⟩, h _ (Hs.putD (κ := List Key) (k.go hS) (h2.put hv))⟩
theorem s_getT (hS : Hs L H) (k : Pick L (isT p ds) R) (hk : Dv H (.ref b) (dKey key)) (e : valG ds key = some u) (h : Hold L H u Q) : ∃ o, DGet H p (.ref b) o ∧ Q (o.getD .non) H := by
  obtain ⟨us, h1, h2⟩ := hS.at_ k
  obtain ⟨v, h3, h4⟩ := h2.get e
  exact ⟨some v, .inr ⟨us, key, b, .inl h1, rfl, key_at hk, h3.symm⟩, Hold.go hS h4 h⟩
theorem s_getT0 (hS : Hs L H) (k : Pick L (isT p ds) R) (hk : Dv H (.ref b) (dKey key)) (e : valG ds key = none) (h : Q .non H) : ∃ o, DGet H p (.ref b) o ∧ Q (o.getD .non) H := by
  obtain ⟨us, h1, h2⟩ := hS.at_ k
  exact ⟨none, .inr ⟨us, key, b, .inl h1, rfl, key_at hk, (h2.none e).symm⟩, h⟩
/-- list(d) -/
def rListT : List V → Hp → VK → Prop := fun vs H Q => ∃ (a : Addr) (us : List (List Key × V)), vs = [V.ref a] ∧ H a = some (.dT us) ∧
  ∀ p bs, Paired (fun (b : Addr) (q : List Key × V) => H b = some (.tup (q.1.map kV))) bs us → H p = none → Q (.ref p) (upd H p (.lst (bs.map V.ref)))
/-- dict(d), one key at most -/
def rDictT1 : List V → Hp → VK → Prop := fun vs H Q => ∃ (a : Addr) (us : List (List Key × V)), vs = [V.ref a] ∧ H a = some (.dT us) ∧ us.length ≤ 1 ∧ ∀ p, H p = none → Q (.ref p) (upd H p (.dT us))
theorem kt_keys : ∀ {us : List (List Key × V)} {xs : List (List Key × Addr × Value)}, KT H us xs → Paired (fun (b : Addr) (q : List Key × V) => H b = some (.tup (q.1.map kV))) (xs.map fun x => x.2.1) us
  | _, _, .nil => .nil
  | _, _, .cons h t => .cons h.2.1 (kt_keys t)
theorem keys_dv : ∀ {us : List (List Key × V)} {ds : List (List Key × PyData)} {bs : List Addr}, Paired (fun (b : Addr) (q : List Key × V) => H b = some (.tup (q.1.map kV))) bs us → KvAll H us ds → DvAll H (bs.map V.ref) (ds.map fun q => dKey q.1)
  | _, _, _, .nil, .nil => .nil
  | _, _, _, .cons h t, .cons hv tv => .cons (.tup h (key_dvs _)) (keys_dv t tv)
end
section
variable {X : Cx}
theorem cr_listT (hc : X.calm = true) : CallR X (.type "list") rListT := by
  intro pins s σ H vs us Q I r q
  obtain ⟨a, kvs, rfl, hd, q⟩ := q
  obtain ⟨u, rfl, rx⟩ := vals1 r
  obtain rfl : u = Value.ref a := rx
  obtain ⟨z, lo, xs, rel, dd⟩ := dt_of I.hok hd
  obtain ⟨o, es, ep, ho, hx, hdat, he, his, hn⟩ := id dd
  have hes : es.size = xs.length := by
    rw [← Array.length_toList, he, List.length_map]
  have hxs : kvs.length = xs.length := Paired.length rel
  refine PySem.W.kdl_call (KdlSrc.rawDict (es := es) (ep := ep) lo) (I.ok.hd hc) ⟨o, ho, hx, hdat⟩ (by omega) fun h' tk acc c hk hD hacc => ?_
  have ea : acc.toList = (xs.map fun x => x.2.1).map Value.ref := by
    refine List.ext_getElem? fun j => ?_
    by_cases hj : j < xs.length
    · have hja : j < acc.size := by rw [hacc.1]; omega
      obtain ⟨hi, e⟩ := hacc.2 j acc[j] (Array.getElem?_eq_getElem hja)
      rw [Array.getElem?_toList, Array.getElem?_eq_getElem hja, e]
      have e2 := entry_at he j
      rw [Array.getElem?_eq_getElem hi, List.getElem?_eq_getElem hj] at e2
      rw [List.getElem?_map, List.getElem?_map, List.getElem?_eq_getElem hj]
      have e3 := Option.some.inj e2
      rw [e3]
      rfl
    · rw [Array.getElem?_toList, Array.getElem?_eq_none (by rw [hacc.1]; omega), List.getElem?_eq_none_iff.mpr (by rw [List.length_map, List.length_map]; omega)]
  have hv : Vals ((xs.map fun x => x.2.1).map V.ref) acc.toList := by
    rw [ea]
    exact LiI.vals_refs _
  refine ⟨.ref _, upd H s.heap.objs.size (.lst ((xs.map fun x => x.2.1).map V.ref)), I.laid (t' := tk) hk (Nat.le_refl _) (show ObjOk X.prog X.w _ _ _ (.lst _) from ⟨by rw [List.length_map, List.length_map]; omega, acc.toList, c, hv, by rw [Array.toArray_toList]; exact hD⟩), rfl, q _ _ (kt_keys rel) (I.hok.fresh (Nat.le_refl _))⟩
theorem cr_dictT1 (hu : X.A.units + 65 < cLine) : CallR X (.type "dict") rDictT1 := by
  intro pins s σ H vs us Q I r q
  obtain ⟨a, kvs, rfl, hd, h1, q⟩ := q
  obtain ⟨u, rfl, rx⟩ := vals1 r
  obtain rfl : u = Value.ref a := rx
  obtain ⟨z, lo, xs, rel, dd⟩ := dt_of I.hok hd
  have hxs : kvs.length = xs.length := Paired.length rel
  have hne : s.heap.objs.size ≠ a := fun e => by
    obtain ⟨o, _, _, ho, _⟩ := id dd
    exact absurd (e ▸ Heap.lt_size ho) (Nat.lt_irrefl _)
  refine callType_codes (Q₁ := fun obj s₁ => obj = .ref s.heap.objs.size ∧ s₁ = { s with heap := s.heap.push { cls := .type "dict", data := .dict #[] } }) F.kt_called_dict (F.kt_typeCall_dict_1 _) F.entry_dict_init (kt_code_dict_new _ ⟨rfl, rfl⟩) ?_
  rintro obj s₁ ⟨rfl, rfl⟩
  have hT : Shared.TypeIs { s with heap := s.heap.push { cls := .type "dict", data := .dict #[] } } (.ref s.heap.objs.size) "dict" := ⟨_, Heap.get?_push_size _ rfl, rfl⟩
  refine ⟨hT, F.args_dict_init_2 _ _, ?_⟩
  unfold Builtin.«dict.__init__»
  refine wpAny_bind ?_
  unfold Builtin.Dict.selfAndRest
  refine wpAny_bind (wpAny_notOrdered_dict hT ?_)
  show wpAny _ _ (pure (s.heap.objs.size, [Value.ref a])) _ _ _
  refine wpAny_pure ?_
  have I1 : L2.Inv X pins σ H { s with heap := s.heap.push { cls := .type "dict", data := .dict #[] } } := I.kept (t' := s.toks) fun b ob e => Heap.get?_push_of_some _ e
  obtain ⟨z1, lo1, ys, rel1, dd1⟩ := dt_of I1.hok hd
  have hys : kvs.length = ys.length := Paired.length rel1
  refine updateFrom_dictH (A := X.A.in1) (knd := tupleKind (mixKind X.prog X.w)) (kvs := []) .none (by show X.A.units + 1 + 1 < cLine; omega) hne lo (Heap.DictOfH.new s.heap) dd1 (.inr ⟨fun y hy => ?_, ?_⟩) (by simp only [List.length_nil]; omega) fun h' hd' ho' hs' => ?_
  · obtain ⟨o, es, ep, _, _, _, _, his, _⟩ := id dd1
    obtain ⟨ob, _, _, e1, e2, _⟩ := his y hy
    exact ⟨ob, e1, e2⟩
  · match ys, hys with
    | [], _ => exact List.nodup_nil
    | [y], _ => simp
    | y :: y2 :: r, e => simp only [List.length_cons] at e; omega
  · rw [storedAllH_nil_of_nodup ys dd1.nodup] at hd'
    have hk : ∀ b o, s.heap.get? b = some o → h'.get? b = some o := fun b o e => (hs'.2 b (Nat.ne_of_lt (Heap.lt_size e))).trans (Heap.get?_push_of_some _ e)
    have hm : (s.heap.objs.size == sysModules) = false := beq_eq_false_iff_ne.mpr (Nat.ne_of_gt I.big)
    have hf := I.hok.fresh (Nat.le_refl s.heap.objs.size)
    have rel2 : KT (upd H s.heap.objs.size (.dT kvs)) kvs ys := Paired.mapP rel1 fun p q z => ⟨z.1, same_new hf _ _ z.2.1, z.2.2⟩
    obtain ⟨o, es, ep, e1, e2, e3, e4, _, e6⟩ := id hd'
    exact ⟨rfl, .ref s.heap.objs.size, upd H s.heap.objs.size (.dT kvs), I.laid (t' := s.toks) hk (Nat.le_refl _) (show ObjOk X.prog X.w _ _ _ (.dT kvs) from ⟨z, hm, ys, rel2, o, es, ep, e1, e2, e3, e4, e6⟩), rfl, q _ hf⟩
end
end Lt
namespace Lt
open PySem PySem.Spec PyProof.Rows L2
section
variable {K : PySem.W.Frag} {L R : List Asn} {H : Hp} {a C : Addr} {f : Str} {y : V}
theorem s_fldN {fs fs2 : List (Str × V)} {N : Hp → Prop} (hS : Hs L H) (k : Pick L (obj C a fs) R) (c : Cls K C) (n : NoAttr K C f) (e : putF f y fs = fs2) (hl : fs.length ≤ 100) (h : ∀ H', Hs (obj C a fs2 :: R) H' → N H') :
    ∃ b C fs L R, V.ref a = .ref b ∧ Hs L H ∧ Pick L (obj C b fs) R ∧ Cls K C ∧ NoAttr K C f ∧ fs.length < 1000 ∧ ∀ H', Hs (obj C b (putF f y fs) :: R) H' → N H' := ⟨a, C, fs, L, R, rfl, hS, k, c, n, by omega, fun H' z => h H' (by rw [← e]; exact z)⟩
end
end Lt
/-! methods and fields of an object by pieces -/
namespace Lt
open PySem PySem.Spec PyProof.Rows L2
section
variable {K : PySem.W.Frag} {L R : List Asn} {H : Hp} {a C : Addr} {f m : Str} {fs fs2 : List (Str × V)} {D : Ends} {σ : L2.St}
theorem s_methO {B : Prop} (hS : Hs L H) (k : Pick L (obj C a fs) R) (e : fs.lookup m = none) (h : B) : ∃ b dx fs, V.ref a = .ref b ∧ H b = some (.ins C dx fs) ∧ fs.lookup m = none ∧ B := by
  obtain ⟨dx, z⟩ := hS.at_ k
  exact ⟨a, dx, fs, rfl, z, e, h⟩
theorem s_fldAug {i j : Int} {n0 : Nat} (hS : Hs L H) (k : Pick L (obj C a fs) R) (hv : σ[n0]? = some (some (.ref a))) (c : Cls K C) (n : NoAttr K C f) (e : fs.lookup f = some (.int i)) (e2 : putF f (.int (i + j)) fs = fs2) (hl : fs.length ≤ 100) (h : ∀ H', Hs (obj C a fs2 :: R) H' → D.nx σ H') : sFldAug K (tVar n0) (tC (.int j)) rAdd f D σ H := by
  have h1 := k.go hS
  obtain ⟨dx, h2⟩ := Hs.ex (A := fun dx => cell a (.ins C dx fs)) h1
  refine ⟨.ref a, hv, a, C, dx, fs, .int i, rfl, h2.hd, c, n, e, i, j, rfl, rfl, dx, fs, h2.hd, by omega, ?_⟩
  rw [e2]
  exact h _ ((h2.put (fun _ z => by cases z)).weak fun _ z => ⟨dx, z⟩)
theorem s_fldAugV {i j : Int} {n0 n1 : Nat} (hS : Hs L H) (k : Pick L (obj C a fs) R) (hv : σ[n0]? = some (some (.ref a))) (hj : σ[n1]? = some (some (.int j))) (c : Cls K C) (n : NoAttr K C f) (e : fs.lookup f = some (.int i)) (e2 : putF f (.int (i + j)) fs = fs2) (hl : fs.length ≤ 100) (h : ∀ H', Hs (obj C a fs2 :: R) H' → D.nx σ H') : sFldAug K (tVar n0) (tVar n1) rAdd f D σ H := by
  have h1 := k.go hS
  obtain ⟨dx, h2⟩ := Hs.ex (A := fun dx => cell a (.ins C dx fs)) h1
  refine ⟨.ref a, hv, a, C, dx, fs, .int i, rfl, h2.hd, c, n, e, .int j, hj, i, j, rfl, rfl, dx, fs, h2.hd, by omega, ?_⟩
  rw [e2]
  exact h _ ((h2.put (fun _ z => by cases z)).weak fun _ z => ⟨dx, z⟩)
theorem k_iRev0 {ta : TE} {B : It → Hp → Prop} (h : ta σ H fun x H1 => ∃ a xs, [x] = [V.ref a] ∧ SqL K H1 a xs ∧ B (Itv K a xs.length) H1) : iRev K (tCons ta tNil) σ H B := h
theorem k_tDGet1 {td ty : TE} {Q : VK} (h : td σ H fun x H1 => ∃ a, x = .ref a ∧ IsD H1 a ∧ ty σ H1 fun y H2 => ∃ o, DGet H2 a y o ∧ Q (o.getD .non) H2) : tDGet1 td ty σ H Q := h
theorem s_dictT1 {p : Addr} {ds : List (List Key × PyData)} {B : Addr → Hp → Prop} (hS : Hs L H) (k : Pick L (isT p ds) R) (hl : ds.length ≤ 1) (h : ∀ q H', Hs (isT q ds :: L) H' → B q H') : ∃ (a : Addr) (us : List (List Key × V)), [V.ref p] = [V.ref a] ∧ H a = some (.dT us) ∧ us.length ≤ 1 ∧ ∀ q, H q = none → B q (upd H q (.dT us)) := by
  obtain ⟨us, h1, h2⟩ := hS.at_ k
  exact ⟨p, us, rfl, h1, by rw [h2.length]; exact hl, fun q n => h q _ (Hs.newD (κ := List Key) n hS h2)⟩
theorem s_listT {p : Addr} {ds : List (List Key × PyData)} {Q : VK} (hS : Hs L H) (k : Pick L (isT p ds) R) (h : ∀ q H', Hs (isL q (ds.map fun u => dKey u.1) :: L) H' → Q (.ref q) H') : rListT [V.ref p] H Q := by
  obtain ⟨us, h1, h2⟩ := hS.at_ k
  exact ⟨p, us, rfl, h1, fun q bs hb n => h q _ (hS.newL n (keys_dv hb h2))⟩
theorem s_dictT {p : Addr} {ds : List (List Key × PyData)} {Q : VK} (hS : Hs L H) (k : Pick L (isT p ds) R) (hl : ds.length ≤ 1) (h : ∀ q H', Hs (isT q ds :: L) H' → Q (.ref q) H') : rDictT1 [V.ref p] H Q := s_dictT1 (B := fun q H' => Q (.ref q) H') hS k hl h
theorem s_rev0 {l : Addr} (hS : Hs L H) (k : HasL L l []) : SqL K H l [] ∧ (Itv K l 0).stop 0 H := by
  obtain ⟨xs, hx, hd⟩ := k.at_ hS
  have e : xs = [] := by
    cases hd
    rfl
  subst e
  have hq : SqL K H l [] := SqL.of hx
  exact ⟨hq, (walk_rev (K := K) (a := l) (xs := [])).stops H hq⟩
end
end Lt
/-! dicts keyed by whole numbers and texts, values data: get, in, store, pop, walked in a comprehension; optional numbers -/
namespace Lt
open PySem PySem.Spec PyProof.Rows L2
/-- keys to data -/
abbrev kG {α : Type} (f : α → PyData) (kvs : List (Key × α)) : List (Key × PyData) := kvs.map fun kv => (kv.1, f kv.2)
section
variable {α : Type} {f : α → PyData}
theorem kG_val (k : Key) : ∀ kvs : List (Key × α), valG (kG f kvs) k = (valG kvs k).map f
  | [] => rfl
  | p :: r => by
    by_cases e : p.1 = k
    · rw [valG_pos e]
      exact valG_pos (p := (p.1, f p.2)) e
    · rw [valG_neg e, ← kG_val k r]
      exact valG_neg (p := (p.1, f p.2)) e
theorem kG_any (k : Key) (kvs : List (Key × α)) : ((kG f kvs).any fun kv => decide (kv.1 = k)) = kvs.any fun kv => decide (kv.1 = k) := by
  rw [any_val, any_val, kG_val]
  cases valG kvs k <;> rfl
theorem kG_put (k : Key) (y : α) (kvs : List (Key × α)) : putG (kG f kvs) k (f y) = kG f (putG kvs k y) := by
  unfold putG
  rw [kG_any]
  split
  · unfold kG
    rw [List.map_map, List.map_map]
    refine List.map_congr_left fun q _ => ?_
    by_cases e : q.1 = k
    · simp [e]
    · simp [e]
  · simp [kG]
theorem kG_drop (k : Key) (kvs : List (Key × α)) : dropG (kG f kvs) k = kG f (dropG kvs k) := by
  unfold dropG kG
  rw [List.filter_map]
  congr 1
theorem kG_len (kvs : List (Key × α)) : (kG f kvs).length = kvs.length := List.length_map _
theorem kG_keys (kvs : List (Key × α)) : (kG f kvs).map (·.1) = kvs.map (·.1) := by
  unfold kG
  rw [List.map_map]
  rfl
end
theorem dropG_none {α : Type} {k : Key} : ∀ {kvs : List (Key × α)}, valG kvs k = none → dropG kvs k = kvs
  | [], _ => rfl
  | p :: r, h => by
    by_cases e : p.1 = k
    · rw [valG_pos e] at h
      cases h
    · rw [valG_neg e] at h
      have ih := dropG_none h
      unfold dropG at ih ⊢
      rw [List.filter_cons_of_pos (by simp [e]), ih]
section
variable {K : PySem.W.Frag} {L R : List Asn} {H : Hp} {Q : VK} {p d : Addr} {x y : V} {key : Key} {α : Type} {f : α → PyData} {kvs : List (Key × α)} {u : α} {σ : L2.St} {D : Ends}
theorem s_dgetG {B : V → Prop} (hS : Hs L H) (k : Pick L (isD p (kG f kvs)) R) (ey : y = kV key) (e : valG kvs key = some u) (h : Hold L H (f u) fun v _ => B v) : ∃ a v, V.ref p = .ref a ∧ DGet H a y (some v) ∧ B v := by
  obtain ⟨us, h1, h2⟩ := hS.at_ k
  obtain ⟨v, h3, h4⟩ := h2.get (k := key) (d := f u) (by rw [kG_val, e] <;> rfl)
  exact ⟨p, v, rfl, .inl ⟨us, key, .inl h1, ey, h3.symm⟩, Hold.go (G := fun v _ => B v) hS h4 h⟩
theorem s_dinG {B : Option V → Prop} (hS : Hs L H) (k : Pick L (isD p (kG f kvs)) R) (ey : y = kV key) (h : ∀ o : Option V, o.isSome = (valG kvs key).isSome → B o) : ∃ a o, V.ref p = .ref a ∧ DGet H a y o ∧ B o := by
  obtain ⟨us, h1, h2⟩ := hS.at_ k
  refine ⟨p, _, rfl, .inl ⟨us, key, .inl h1, ey, rfl⟩, h _ ?_⟩
  cases e : valG kvs key with
  | none =>
    rw [h2.none (by rw [kG_val, e] <;> rfl)]
    rfl
  | some u =>
    obtain ⟨v, h3, h4⟩ := h2.get (k := key) (d := f u) (by rw [kG_val, e] <;> rfl)
    rw [h3]
    rfl
/-- k in d, where it is told -/
theorem s_dinGb {b : Bool} (hS : Hs L H) (k : Pick L (isD p (kG f kvs)) R) (ey : y = kV key) (e : (valG kvs key).isSome = b) (h : Q (.bl b) H) : ∃ a o, V.ref p = .ref a ∧ DGet H a y o ∧ Q (.bl o.isSome) H :=
  s_dinG (B := fun o => Q (.bl o.isSome) H) hS k ey fun o eo => by rw [eo, e]; exact h
theorem s_dinGc {b : Bool} {G : Bool → Prop} (hS : Hs L H) (k : Pick L (isD p (kG f kvs)) R) (ey : y = kV key) (e : (valG kvs key).isSome = b) (h : G b) : ∃ a o, V.ref p = .ref a ∧ DGet H a y o ∧ ∃ c, V.bl o.isSome = .bl c ∧ G c :=
  s_dinG (B := fun o => ∃ c, V.bl o.isSome = .bl c ∧ G c) hS k ey fun o eo => ⟨b, by rw [eo, e], h⟩
theorem s_dputG {N : Hp → Prop} (hS : Hs L H) (k : Pick L (isD p (kG f kvs)) R) (ey : y = kV key) (hv : Dv H x (f u)) (hl : kvs.length ≤ 1000) (h : ∀ H', Hs (isD p (kG f (putG kvs key u)) :: R) H' → N H') : ∃ a H4, V.ref p = .ref a ∧ DPut H a y x H4 ∧ N H4 := by
  obtain ⟨us, h1, h2⟩ := hS.at_ k
  refine ⟨p, _, rfl, .inl ⟨us, key, h1, ey, small1000 (by rw [h2.length, kG_len]; exact hl), rfl⟩, h _ ?_⟩
  have h3 := (k.go hS).putD (h2.put (k := key) hv)
  rw [kG_put] at h3
  exact h3
/-- d.pop(k, x), what it tells is dropped -/
theorem s_dpopG {B : Hp → Prop} (hS : Hs L H) (k : Pick L (isD p (kG f kvs)) R) (ey : y = kV key) (h : ∀ H', Hs (isD p (kG f (dropG kvs key)) :: R) H' → B H') :
    ∃ us j, H p = some (.dK us) ∧ y = kV j ∧ (∀ v, valV us j = some v → B (upd H p (.dK (dropK us j)))) ∧ (valV us j = none → B H) := by
  obtain ⟨us, h1, h2⟩ := hS.at_ k
  refine ⟨us, key, h1, ey, fun v _ => h _ ?_, fun e => h _ ?_⟩
  · have h5 := (k.go hS).putD (h2.drop (k := key))
    rw [kG_drop] at h5
    exact h5
  · have e2 : valG kvs key = none := by
      cases z : valG kvs key with
      | none => rfl
      | some u =>
        obtain ⟨v, h3, h4⟩ := h2.get (k := key) (d := f u) (by rw [kG_val, z] <;> rfl)
        rw [h3] at e
        cases e
    rw [dropG_none e2]
    exact k.go hS
theorem k_tDIn {ty td : TE} (h : ty σ H fun y H1 => td σ H1 fun x H2 => ∃ a o, x = .ref a ∧ DGet H2 a y o ∧ Q (.bl o.isSome) H2) : tDIn ty td σ H Q := h
theorem k_tDPop2 {td ty tx : TE} (h : td σ H fun x H1 => ∃ a, x = .ref a ∧ IsD H1 a ∧ ty σ H1 fun y H2 => tx σ H2 fun z H3 => ∃ kvs k, H3 a = some (.dK kvs) ∧ y = kV k ∧
  (∀ v, valV kvs k = some v → Q v (upd H3 a (.dK (dropK kvs k)))) ∧ (valV kvs k = none → Q z H3)) : tDPop2 td ty tx σ H Q := h
end
/-- a number or None -/
def oV : Option Int → V
  | none => .non
  | some i => .int i
def oD : Option Int → PyData
  | none => .none
  | some i => .int i
theorem oV_n : oV none = .non := rfl
theorem oV_s {i : Int} : oV (some i) = .int i := rfl
theorem oV_ne {i : Int} {x : Option Int} (h : x = some i) : oV x ≠ .non := by
  subst h
  intro z
  cases z
theorem sca_oD (o : Option Int) : sca (oD o) = some (oV o) := by cases o <;> rfl
theorem sca_kD (k : Key) : sca (kD k) = some (kV k) := by cases k <;> rfl
section
variable {L : List Asn} {H : Hp} {G : V → Hp → Prop} {F : List V → Hp → Prop} {o : Option Int} {k : Key} {ds : List PyData}
theorem hold_oD (h : G (oV o) H) : Hold L H (oD o) G := by
  unfold Hold
  rw [sca_oD]
  exact h
theorem hold_kD (h : G (kV k) H) : Hold L H (kD k) G := by
  unfold Hold
  rw [sca_kD]
  exact h
theorem holds_oD (h : Holds ds L H fun vs H => F (oV o :: vs) H) : Holds (oD o :: ds) L H F := by
  unfold Holds
  rw [sca_oD]
  exact h
theorem holds_kD (h : Holds ds L H fun vs H => F (kV k :: vs) H) : Holds (kD k :: ds) L H F := by
  unfold Holds
  rw [sca_kD]
  exact h
theorem dv_oD : Dv H (oV o) (oD o) := Dv.ofSca (sca_oD o)
theorem dv_kD : Dv H (kV k) (kD k) := Dv.ofSca (sca_kD k)
end
/-! a comprehension over a dict -/
section
variable {K : PySem.W.Frag} {L0 R0 : List Asn} {H : Hp} {Q : VK} {σ : L2.St} {d : Addr} {ds : List (Key × PyData)} {g : TG} {tt : TT} {te td : TE} {vs : List Nat}
theorem s_lcK (P : Nat → List PyData → List Asn → Prop) (hS : Hs L0 H) (k : Pick L0 (isD d ds) R0) (ht : ∀ od us H' B, Hs (isDF d od us ds :: R0) H' → B (V.ref d) H' → td σ H' B) (h0 : P 0 [] R0)
    (hs : ∀ od us A i key acc H' L, (ds.map (·.1))[i]? = some key → P i acc L → acc.length ≤ i → Hs (isL A acc :: isDF d od us ds :: L) H' → g (kV key) (wipe σ vs) H' fun σ2 H2 => wipe σ2 vs = wipe σ vs ∧ tt σ2 H2 fun b H3 =>
      if b = true then te σ2 H3 fun y H4 => ∃ acc, H4 A = some (.lst acc) ∧ acc.length < sizeLine ∧ LcS [isDF d od us ds] P A (i + 1) (upd H4 A (.lst (acc ++ [y]))) else LcS [isDF d od us ds] P A (i + 1) H3)
    (h : ∀ A acc H' L, P ds.length acc L → acc.length ≤ ds.length → Hs (isL A acc :: isD d ds :: L) H' → Q (.ref A) H') : tLockE (tLc (iKeys td) g tt te vs) σ H Q := by
  obtain ⟨us, h1⟩ := (k.go hS).openD
  have hk := h1.hd.2
  have hlen : us.length = ds.length := hk.length
  refine ⟨d, .dK us, h1.hd.1, True.intro, fun od => ?_⟩
  have h2 := h1.lockD (od := od)
  refine ht od us _ _ h2 ⟨d, od, rfl, .inl ⟨us, upd_same, fun A nA => lc_it (Qd := fun H' => H' d = some (.frz od (.dK us)) ∧ Q (.ref A) (upd H' d (.dK us))) (walk_keys (d := d) (o := od) (kvs := us)) (LcS [isDF d od us ds] P A) ⟨R0, [], h0, Nat.le_refl _, h2.newL nA .nil⟩ (fun i H' _ hp => ?_) (fun i x H1 H' hi hp hy => ?_) fun H' hp => ?_⟩⟩
  · obtain ⟨L, acc, _, _, z⟩ := hp
    exact z.tl.hd.1
  · obtain ⟨L, acc, hP, hal, z⟩ := hp
    obtain ⟨rfl, key, v, hx, rfl⟩ := hy
    exact hs od us A i key acc _ L (by rw [← hk.keys, List.getElem?_map, hx]; rfl) hP hal z
  · obtain ⟨L, acc, hP, hal, z⟩ := hp
    rw [hlen] at hP hal
    obtain ⟨e, z2⟩ := z.swap.unlockD
    exact ⟨e, h A acc _ L hP hal z2.swap⟩
end
end Lt
namespace Lt
open PySem PySem.Spec PyProof.Rows L2
theorem catT_K {X : Cx} (K : PySem.W.Frag) (h : X.K = K) : OpR X (binaryOp .Add) (rCatT K) := by
  subst h
  exact op_catT
section
variable {K : PySem.W.Frag} {L R R2 : List Asn} {H : Hp} {Q : VK} {p q : Addr} {ds es : List PyData} {zs : List Str}
/-- t + u of two tuples of data, neither empty -/
theorem s_catT (hS : Hs L H) (k1 : Pick L (dv (.ref p) (.tuple ds)) R) (k2 : Pick L (dv (.ref q) (.tuple es)) R2) (n1 : ds ≠ []) (n2 : es ≠ []) (hl : ds.length + es.length ≤ 100000) (h : ∀ r H', Hs (dv (.ref r) (.tuple (ds ++ es)) :: L) H' → Q (.ref r) H') : rCatT K (.ref p) (.ref q) H Q := by
  obtain ⟨t, us, et, h1, h2⟩ := (hS.dvAt k1).tupOf
  cases et
  obtain ⟨t, ws, et, h3, h4⟩ := (hS.dvAt k2).tupOf
  cases et
  refine ⟨p, q, us, ws, rfl, rfl, SqT.of h1, SqT.of h3, fun e => n1 ?_, le_line (by rw [h2.length, h4.length]; exact hl), fun e => absurd ?_ n2, fun _ r nr => h r _ ?_⟩
  · exact List.length_eq_zero_iff.mp (by rw [← h2.length, e]; rfl)
  · exact List.length_eq_zero_iff.mp (by rw [← h4.length, e]; rfl)
  · exact (hS.sub (same_new nr)).add (A := dv (.ref r) (.tuple (ds ++ es))) (.tup upd_same ((h2.append h4).sub (same_new nr)))
/-- sorted(list of texts) -/
theorem s_sortedS (hS : Hs L H) (k : HasL L p (zs.map PyData.str)) (h64 : zs.length < 64) (h : ∀ (ys : List Str) q H', ys.Perm zs → sortedS ys = true → Hs (isL q (ys.map PyData.str) :: L) H' → Q (.ref q) H') : rSortedS K [.ref p] H Q := by
  obtain ⟨us, h1, h2⟩ := k.at_ hS
  have e := h2.scas (scas_strs zs)
  subst e
  exact ⟨p, zs, rfl, SqL.of h1, h64, fun ys q h3 h4 nq => h ys q _ h3 h4 (hS.newL nq (DvAll.strs _))⟩
end
def isIK : Key → Bool
  | .inl _ => true
  | .inr _ => false
def intsK (ks : List Key) : List Int := ks.filterMap fun k => match k with
  | .inl i => some i
  | .inr _ => none
def strsK (ks : List Key) : List Str := ks.filterMap fun k => match k with
  | .inl _ => none
  | .inr z => some z
theorem intsK_map : ∀ ks : List Key, (ks.filter isIK).map kD = (intsK ks).map PyData.int
  | [] => rfl
  | .inl i :: r => by
    rw [List.filter_cons_of_pos (by rfl), List.map_cons, intsK_map r]
    rfl
  | .inr z :: r => by
    rw [List.filter_cons_of_neg (by simp [isIK]), intsK_map r]
    rfl
theorem strsK_map : ∀ ks : List Key, (ks.filter fun k => !isIK k).map kD = (strsK ks).map PyData.str
  | [] => rfl
  | .inr i :: r => by
    rw [List.filter_cons_of_pos (by rfl), List.map_cons, strsK_map r]
    rfl
  | .inl z :: r => by
    rw [List.filter_cons_of_neg (by simp [isIK]), strsK_map r]
    rfl
end Lt
namespace Lt
open PySem PySem.Spec PyProof.Rows L2
theorem isi_K {X : Cx} (K : PySem.W.Frag) (h : X.K = K) : CallR X (.builtin "isinstance") (rIsi K) := by
  subst h
  exact call_isi
theorem pe_fldK {X : Cx} (K : PySem.W.Frag) {e : Expr} {ta : TE} {f : Str} {pos : Pos} (h : X.K = K) (he : PE X e ta) (hb : attributeBase e f X.env (eval e X.env) = eval e X.env) : PE X (.Attribute e f pos) (tFld K ta f) := by
  subst h
  exact pe_fld he hb
end Lt
/-! try with several clauses, each with a name -/
namespace Lt
open PySem PySem.Spec PyProof.Rows L2
abbrev Clause := Value × Nat × (Addr → Value → Option Addr → TS)
/-- what the clauses, one after the other, wish of an exception of the body -/
def wNm (K : PySem.W.Frag) (Wout : WX) (D : Ends) (l : List Clause) : WX := l.foldr (fun q W => wAs K q.1 q.2.1 q.2.2 W D) Wout
inductive Clauses (X : Cx) : List ExceptHandler → List Clause → Prop
  | nil : Clauses X [] []
  | cons {x n : Str} {c : Value} {i : Nat} {ts : Addr → Value → Option Addr → TS} {b₀ : Stmt} {suite : List Stmt} {np at_ : Pos} {hds : List ExceptHandler} {l : List Clause} (hi : X.N[i]? = some n) (hl : X.env.kindOf n = some .local) (hc : Names X x c)
      (hsu : ∀ (a : Addr) (oe : Obj) (cls : Value) (d : Option Addr) (pn : List (Addr × Obj)), L2N.Zn cls d oe → (∃ vs, oe.data = .fields vs) → PSs (X.suite a ((a, oe) :: pn)) (b₀ :: suite) (ts a cls d)) (r : Clauses X hds l) :
      Clauses X (.ExceptHandler (some (.Name x np)) (some n) (b₀ :: suite) at_ :: hds) ((c, i, ts) :: l)
/-- the exception at a is held: sI is the state of before, B what a frame's slots do not reach -/
structure Held (X : Cx) (pins : List (Addr × Obj)) (σ : L2.St) (H : Hp) (cls : Value) (d : Option Addr) (a : Addr) (B : Heap) (sI s : Shared) : Prop where
  inv : Inv X pins σ H sI
  nb : ∀ b o, sI.heap.get? b = some o → b ∉ frs X.stack → B.get? b = some o
  up : sI.heap.UpToSlots s.heap
  fl : HandSPX.FlyingZ B (X.env :: X.outer) a (L2N.Zn cls d) s.heap
  na : H a = none
  os : s.os = sI.os
  ag : AllBare s.gens
section
variable {X : Cx} {pins : List (Addr × Obj)} {σ : L2.St} {H : Hp} {cls : Value} {d : Option Addr} {a : Addr} {B : Heap} {sI s : Shared} {D : Ends}
theorem Held.here (h : Held X pins σ H cls d a B sI s) : Inv X pins σ H s := h.inv.landed h.nb h.fl.1 h.up h.os h.ag
/-- the state within a suite -/
theorem Held.within (h : Held X pins σ H cls d a B sI s) (hf : X.env.frame = some X.env.locals) : ∃ oe vs, s.heap.get? a = some oe ∧ L2N.Zn cls d oe ∧ oe.data = .fields vs ∧ Inv (X.suite a ((a, oe) :: (X.pn ++ pins))) [] σ H s := by
  obtain ⟨oe, vs, e1, z, e2⟩ := h.fl.there
  have no : a ∉ frs (X.env :: X.outer) := fun hm => by
    obtain ⟨_, o, e3, q⟩ := h.fl.2.2.1.mem hm
    rw [e1] at e3
    cases e3
    exact q _ e2
  refine ⟨oe, vs, e1, z, e2, h.here.suite e1 e2 h.na (fun e => no (List.mem_filterMap.mpr ⟨_, List.mem_cons_self, by rw [hf, e]⟩)) fun hm => ?_⟩
  obtain ⟨e, he, q⟩ := List.mem_filterMap.mp hm
  exact no (List.mem_filterMap.mpr ⟨e, List.mem_cons_of_mem _ he, q⟩)
/-- no clause is left -/
theorem Held.out {W : WX} (h : Held X pins σ H cls d a B sI s) (hs : X.stack = X.env :: X.outer) (hf : X.env.frame = some X.env.locals) (tk : L2N.Takes X W) (w : W cls d σ H) : wpAny (model X.prog X.w) X.A (handleBy (.ref a) X.env []) (SP X pins D) X.xe s := by
  refine wpAny_handleBy_nil ?_
  have up := h.up
  have fl := h.fl
  obtain ⟨_, _, _, oe, vs, T, oT, ts, e1, _, e2, e3, _⟩ := id fl
  have last : wpAny (model X.prog X.w) X.A (setFlight (.ref a) X.env.frame) (fun _ s4 => wpAny (model X.prog X.w) X.A (throw (.ref a) : Sem Flow) (SP X pins D) X.xe s4) X.xe s := by
    rw [hf]
    exact HandSPX.setFlight_upZ fl fun h4 held up4 => wpAny_throw (tk _ _ ⟨a, B, sI, pins, σ, H, cls, d, rfl, h.inv, h.nb, up.trans up4, .inr (.inr (by rw [hs]; exact held)), h.na, h.os, h.ag, w⟩)
  unfold PySem.passOn
  refine wpAny_bind (wpAny_field e1 e2 e3 ?_)
  rw [if_neg (show ¬ ((Value.ref T == Value.none) = true) from by simp)]
  first
    | exact wpAny_bind (wpAny_pure (wpAny_bind last))
    | exact wpAny_bind last
/-- the suite of a clause with a name -/
theorem Held.suite_as {n : Str} {i : Nat} {b₀ : Stmt} {suite : List Stmt} {at_ : Pos} {ts : Addr → Value → Option Addr → TS} (h : Held X pins σ H cls d a B sI s) (hf : X.env.frame = some X.env.locals) (hN : X.N.Nodup) (hi : X.N[i]? = some n) (hl : X.env.kindOf n = some .local)
    (hsu : ∀ (a : Addr) (oe : Obj) (cls : Value) (d : Option Addr) (pn : List (Addr × Obj)), L2N.Zn cls d oe → (∃ vs, oe.data = .fields vs) → PSs (X.suite a ((a, oe) :: pn)) (b₀ :: suite) (ts a cls d))
    (q : ts a cls d { nx := fun σ' H' => D.nx (σ'.set i none) H', rt := D.rt, bk := fun σ' H' => D.bk (σ'.set i none) H', ct := fun σ' H' => D.ct (σ'.set i none) H' } (σ.set i (some (.ref a))) H)
    {R : Result → Shared → Prop} (hR : ∀ f s6, wpAny (model X.prog X.w) X.A (do bindName X.env n .none; unbindBehindTheSuite X.env n at_) (fun _ s7 => SP X pins D f s7) X.xe s6 → R (.ok f) s6) :
    codeAny (model X.prog X.w) (X.A.mark (some (.ref a))) (.handlers (.ref a) [.ExceptHandler none (some n) (b₀ :: suite) at_] X.env) R s := by
  refine codeAny_handlers_suite_as (HandSPX.lands_againZ h.fl fun h4 fl4 up4 => ?_)
  have h4 : Held X pins σ H cls d a B sI { s with heap := h4 } := ⟨h.inv, h.nb, h.up.trans up4, fl4, h.na, h.os, h.ag⟩
  obtain ⟨oe, vs, e1, z, e2, I⟩ := h4.within hf
  refine store_ok (X := X.suite a ((a, oe) :: (X.pn ++ pins))) (v := .ref a) I hN hi (.inl hl) rfl (fun s5 I5 => ?_) (.inr hl)
  refine wpAny_mono ((hsu a oe cls d (X.pn ++ pins) z ⟨_, e2⟩).run [] s5 _ H _ I5 q) (fun f s6 y => hR f s6 ?_) fun _ _ z => False.elim z
  have ok := h.inv.ok
  have gone : ∀ {σ6 : L2.St} {H6 : Hp} {T : Shared → Prop}, Inv (X.suite a ((a, oe) :: (X.pn ++ pins))) [] σ6 H6 s6 → (∀ s7, Inv X pins (σ6.set i none) H6 s7 → T s7) → wpAny (model X.prog X.w) X.A (do bindName X.env n .none; unbindBehindTheSuite X.env n at_) (fun _ s7 => T s7) X.xe s6 := fun J k => gone_ok (J.unsuite ok) hN hi hl k
  cases f with
  | ret u =>
    obtain ⟨v, _, _, J, r, q⟩ := y
    exact gone J fun s7 J7 => ⟨v, _, _, J7, r, q⟩
  | next =>
    obtain ⟨_, _, J, q⟩ := y
    exact gone J fun s7 J7 => ⟨_, _, J7, q⟩
  | brk =>
    obtain ⟨_, _, J, q⟩ := y
    exact gone J fun s7 J7 => ⟨_, _, J7, q⟩
  | cont =>
    obtain ⟨_, _, J, q⟩ := y
    exact gone J fun s7 J7 => ⟨_, _, J7, q⟩
/-- the clauses, one after the other -/
theorem Held.clauses {W : WX} (hs : X.stack = X.env :: X.outer) (hf : X.env.frame = some X.env.locals) (hN : X.N.Nodup) (tk : L2N.Takes X W) {hds : List ExceptHandler} {l : List Clause} (k : Clauses X hds l) :
    ∀ {s : Shared}, Held X pins σ H cls d a B sI s → wNm X.K W D l cls d σ H → wpAny (model X.prog X.w) X.A (handleBy (.ref a) X.env hds) (SP X pins D) X.xe s := by
  induction k with
  | nil => exact fun h w => h.out hs hf tk w
  | @cons x n c i ts b₀ suite np at_ hds l hi hl hc hsu r ih =>
    intro s h w
    obtain ⟨b, eb, yes, no⟩ := w
    obtain ⟨oe, vs, e1, z, e2, I⟩ := h.within hf
    have ty : PySem.W.Looks (model X.prog X.w) s.heap (typeOf (.ref a)) cls := fun A Q E s k q => wpAny_typeOf_ref (k _ _ e1) (by rw [z.1]; exact q)
    have m := PySem.W.exm_one (M := model X.prog X.w) h.here.kIn ty eb
    refine wpAny_handleBy_cons (codeAny_handlers_test ?_) (by intro q; cases q)
    have name : ∀ {Q : Value → Shared → Prop} {E : Value → Shared → Prop}, Q c s → wpAny (model X.prog X.w) (X.A.mark (some (.ref a))) (eval (.Name x np) X.env) Q E s := fun {Q E} q => by
      obtain ⟨hg, hd, e | ⟨e, hv, hn⟩⟩ := hc
      · exact ld_glob (X := X.suite a ((a, oe) :: (X.pn ++ pins))) I hg e q hd
      · exact ld_blt (X := X.suite a ((a, oe) :: (X.pn ++ pins))) I hg e hv q hn hd
    refine name (m.here ?_)
    cases b with
    | true => exact h.suite_as hf hN hi hl hsu (yes rfl a h.na) fun f s6 y => y
    | false => exact ih h (no rfl)
end
section
variable {X : Cx} {body : List Stmt} {h₀ : ExceptHandler} {hds : List ExceptHandler} {l : List Clause} {pos : Pos} {tb : WX → TS} {Wout : WX}
theorem ps_try_named (hs : X.stack = X.env :: X.outer) (hf : X.env.frame = some X.env.locals) (hN : X.N.Nodup) (tk : L2N.Takes X Wout)
    (hb : ∀ (W : WX) (pn : List (Addr × Obj)) (xe : Value → Shared → Prop), L2N.Takes (X.tr pn xe) W → PassesOwn (model X.prog X.w) X.A X.env xe → PSs (X.tr pn xe) body (tb W)) (hk : Clauses X (h₀ :: hds) l) :
    PS X (.Try body (h₀ :: hds) [] [] pos) (fun D σ H => tb (wNm X.K Wout D l) D σ H) := by
  refine ⟨fun pins s σ H D I h => wpAny_Try_except ?_⟩
  have ok := I.ok
  have back : ∀ {σ' : L2.St} {H' : Hp} {s1 : Shared} {xe : Value → Shared → Prop}, Inv (X.tr (X.pn ++ pins) xe) [] σ' H' s1 → Inv X pins σ' H' s1 := fun J => J.ofTry ok
  refine wpAny_mono ((hb (wNm X.K Wout D l) (X.pn ++ pins) (fun e s₁ => wpAny (model X.prog X.w) X.A (noteFrame e X.env) (fun _ s₂ => wpAny (model X.prog X.w) X.A (setFlight e none) (fun _ s₃ => wpAny (model X.prog X.w) X.A (handleBy e X.env (h₀ :: hds)) (SP X pins D) X.xe s₃) X.xe s₂) X.xe s₁) (fun u s' y => ?_) PassesOwn.looking).run [] s σ H D (I.toTry _) h) (fun f s1 y => ?_) fun e s1 z => z
  · obtain ⟨a, B, sI, pins', σ', H', cls, d, rfl, J, nb, up, sky, na, os, ag, w⟩ := y
    have sky2 : L2.Sky B (X.env :: X.outer) a (L2N.Zn cls d) X.env.locals s'.heap := by
      rw [← hs]
      exact sky
    exact L2N.Sky.land L2N.Zn.steady (by rw [ok.frames, hs]) hf sky2 fun h3 fl3 up3 => Held.clauses hs hf hN tk hk ⟨J.ofTry ok, nb, up.trans up3, fl3, na, os, ag⟩ w
  · cases f with
    | ret u =>
      obtain ⟨v, _, _, J, r, q⟩ := y
      exact ⟨v, _, _, back J, r, q⟩
    | next =>
      obtain ⟨_, _, J, q⟩ := y
      exact wpAny_execs_nil ⟨_, _, back J, q⟩
    | brk =>
      obtain ⟨_, _, J, q⟩ := y
      exact ⟨_, _, back J, q⟩
    | cont =>
      obtain ⟨_, _, J, q⟩ := y
      exact ⟨_, _, back J, q⟩
end
end Lt
/-! dicts whose values are lists, each list of its own; many pieces as one -/
namespace Lt
open PySem PySem.Spec PyProof.Rows L2
theorem Hs.nest {M : List Asn} {H : Hp} (h : Hs M H) : Hs [Hs M] H := ⟨H, fun _ => none, Same.refl _, (fun _ _ z => nomatch z), fun _ _ _ => .inl rfl, h, True.intro⟩
theorem Hs.splitM : ∀ {M L : List Asn} {H : Hp}, Hs (Hs M :: L) H → Hs (M ++ L) H
  | [], _, _, h => h.tl
  | A :: M, L, H, h => by
    have h2 : Hs (Hs [A, Hs M] :: L) H := h.weak fun H1 a => Hs.under (fun _ z => Hs.nest z) a
    exact Hs.under (fun _ z => Hs.splitM z) h2.split
theorem Hs.joinM : ∀ {M L : List Asn} {H : Hp}, Hs (M ++ L) H → Hs (Hs M :: L) H
  | [], L, H, h => ⟨fun _ => none, H, (fun _ _ z => nomatch z), Same.refl _, (fun _ _ z => nomatch z), True.intro, h⟩
  | A :: M, L, H, h => by
    have h2 : Hs (A :: Hs M :: L) H := Hs.under (fun _ z => Hs.joinM z) h
    refine h2.join.weak fun H1 a => Hs.under (fun H2 z => ?_) a
    have := Hs.splitM z
    rwa [List.append_nil] at this
theorem Pick.mid {A : Asn} {R : List Asn} : ∀ {M : List Asn}, Pick (M ++ A :: R) A (M ++ R)
  | [] => .here
  | _ :: M => .there (Pick.mid (M := M))
section
variable {κ α : Type} [DecidableEq κ]
theorem putG_neg {p : κ × α} {r : List (κ × α)} {k : κ} {v : α} (h : ¬ p.1 = k) : putG (p :: r) k v = p :: putG r k v := by
  unfold putG
  rw [List.any_cons, decide_eq_false h, Bool.false_or]
  split
  · rw [List.map_cons, if_neg h]
  · rfl
theorem putG_pos {p : κ × α} {r : List (κ × α)} {k : κ} {v : α} (h : p.1 = k) (n : k ∉ r.map (·.1)) : putG (p :: r) k v = (p.1, v) :: r := by
  unfold putG
  rw [List.any_cons, decide_eq_true h, Bool.true_or, if_pos rfl, List.map_cons, if_pos h]
  congr 1
  have e : ∀ q ∈ r, (if q.1 = k then (q.1, v) else q) = q := fun q hq => if_neg fun z => n (List.mem_map.mpr ⟨q, hq, z⟩)
  rw [List.map_congr_left e, List.map_id']
theorem putG_same {k : κ} {v : α} : ∀ {kvs : List (κ × α)}, (kvs.map (·.1)).Nodup → valG kvs k = some v → putG kvs k v = kvs
  | [], _, h => by cases h
  | p :: r, nd, h => by
    rw [List.map_cons, List.nodup_cons] at nd
    by_cases e : p.1 = k
    · rw [valG_pos e] at h
      rw [putG_pos e (e ▸ nd.1), ← Option.some.inj h]
    · rw [valG_neg e] at h
      rw [putG_neg e, putG_same nd.2 h]
end
section
variable {α : Type} {g : α → List PyData} {d p q : Addr} {kvs : List (Key × α)} {L R : List Asn} {H : Hp} {ws : List (Key × Addr × α)} {key : Key} {r : α}
abbrev rwP (g : α → List PyData) (w : Key × Addr × α) : Asn := isL w.2.1 (g w.2.2)
abbrev rwV (ws : List (Key × Addr × α)) : List (Key × V) := ws.map fun w => (w.1, V.ref w.2.1)
abbrev rwK (ws : List (Key × Addr × α)) : List (Key × α) := ws.map fun w => (w.1, w.2.2)
theorem rwV_keys (ws : List (Key × Addr × α)) : (rwV ws).map (·.1) = (rwK ws).map (·.1) := by
  unfold rwV rwK
  rw [List.map_map, List.map_map]
  rfl
theorem rwV_len (ws : List (Key × Addr × α)) : (rwV ws).length = (rwK ws).length := by
  unfold rwV rwK
  rw [List.length_map, List.length_map]
def isDL (g : α → List PyData) (d : Addr) (kvs : List (Key × α)) : Asn := fun H => ∃ ws, (rwK ws = kvs ∧ (kvs.map (·.1)).Nodup) ∧ Hs (cell d (.dK (rwV ws)) :: ws.map (rwP g)) H
instance : Mono (isDL g d kvs) := ⟨fun s ⟨ws, e, h⟩ => ⟨ws, e, h.sub s⟩⟩
theorem Hs.openDL (h : Hs (isDL g d kvs :: L) H) : ∃ ws, rwK ws = kvs ∧ (kvs.map (·.1)).Nodup ∧ Hs (cell d (.dK (rwV ws)) :: (ws.map (rwP g) ++ L)) H := by
  obtain ⟨ws, h⟩ := Hs.ex (A := fun (ws : List (Key × Addr × α)) H => (rwK ws = kvs ∧ (kvs.map fun x : Key × α => x.1).Nodup) ∧ Hs (cell d (.dK (rwV ws)) :: ws.map (rwP g)) H) h
  have h1 : Hs ((fun H => Hs (cell d (.dK (rwV ws)) :: ws.map (rwP g)) H ∧ (rwK ws = kvs ∧ (kvs.map (·.1)).Nodup)) :: L) H := h.weak fun _ a => ⟨a.2, a.1⟩
  obtain ⟨h2, e, n⟩ := h1.fact
  exact ⟨ws, e, n, h2.splitM⟩
theorem Hs.closeDL (e : rwK ws = kvs) (n : (kvs.map (·.1)).Nodup) (h : Hs (cell d (.dK (rwV ws)) :: (ws.map (rwP g) ++ L)) H) : Hs (isDL g d kvs :: L) H :=
  (Hs.joinM (M := cell d (.dK (rwV ws)) :: ws.map (rwP g)) h).weak fun _ a => ⟨ws, ⟨e, n⟩, a⟩
theorem rows_get (g : α → List PyData) (L : List Asn) {k : Key} {r : α} : ∀ {ws : List (Key × Addr × α)}, ((rwK ws).map (·.1)).Nodup → valG (rwK ws) k = some r → ∃ p R, valV (rwV ws) k = some (.ref p) ∧ (∀ H, Hs (ws.map (rwP g) ++ L) H → Hs (isL p (g r) :: R) H) ∧
    ∀ r', ∃ ws', rwK ws' = putG (rwK ws) k r' ∧ rwV ws' = rwV ws ∧ ∀ H, Hs (isL p (g r') :: R) H → Hs (ws'.map (rwP g) ++ L) H
  | [], _, h => by cases h
  | w :: ws, nd, h => by
    have nd2 : w.1 ∉ (rwK ws).map (·.1) ∧ ((rwK ws).map (·.1)).Nodup := List.nodup_cons.mp nd
    by_cases e : w.1 = k
    · have h2 : w.2.2 = r := Option.some.inj ((valG_pos (p := (w.1, w.2.2)) e).symm.trans h)
      subst h2
      exact ⟨w.2.1, ws.map (rwP g) ++ L, valG_pos (p := (w.1, V.ref w.2.1)) e, fun _ z => z, fun r' => ⟨(w.1, w.2.1, r') :: ws, (putG_pos (p := (w.1, w.2.2)) e (e ▸ nd2.1)).symm, rfl, fun _ z => z⟩⟩
    · have h2 : valG (rwK ws) k = some r := (valG_neg (p := (w.1, w.2.2)) e).symm.trans h
      obtain ⟨p, R, h3, h4, h5⟩ := rows_get g L nd2.2 h2
      refine ⟨p, rwP g w :: R, (valG_neg (p := (w.1, V.ref w.2.1)) e).trans h3, fun _ z => (Hs.under h4 z).swap, fun r' => ?_⟩
      obtain ⟨ws', e1, e2, e3⟩ := h5 r'
      refine ⟨w :: ws', ?_, ?_, fun _ z => Hs.under e3 z.swap⟩
      · show (w.1, w.2.2) :: rwK ws' = _
        rw [e1]
        exact (putG_neg (p := (w.1, w.2.2)) e).symm
      · show (w.1, V.ref w.2.1) :: rwV ws' = _
        rw [e2]
        rfl
theorem DL_get (hS : Hs L H) (k : Pick L (isDL g d kvs) R) (e : valG kvs key = some r) : ∃ us p R', H d = some (.dK us) ∧ valV us key = some (.ref p) ∧ Hs (isL p (g r) :: R') H ∧
    (∀ H', Hs (isL p (g r) :: R') H' → Hs L H') ∧ ∀ r' H', Hs (isL p (g r') :: R') H' → Hs (isDL g d (putG kvs key r') :: R) H' := by
  obtain ⟨ws, rfl, nd, h⟩ := (k.go hS).openDL
  obtain ⟨p, R', h1, h2, h3⟩ := rows_get g R nd e
  have bk : ∀ r' H', Hs (isL p (g r') :: cell d (.dK (rwV ws)) :: R') H' → Hs (isDL g d (putG (rwK ws) key r') :: R) H' := fun r' H' z => by
    obtain ⟨ws', e1, e2, e3⟩ := h3 r'
    rw [← e2] at z
    exact Hs.closeDL e1 (putG_nd nd) (Hs.under e3 z.swap)
  refine ⟨rwV ws, p, cell d (.dK (rwV ws)) :: R', h.hd, h1, (Hs.under h2 h).swap, fun H' z => ?_, bk⟩
  have z2 := bk r H' z
  rw [putG_same nd e] at z2
  exact k.back z2
theorem DL_none (hS : Hs L H) (k : Pick L (isDL g d kvs) R) (e : valG kvs key = none) : ∃ us, H d = some (.dK us) ∧ valV us key = none := by
  obtain ⟨ws, rfl, nd, h⟩ := (k.go hS).openDL
  refine ⟨rwV ws, h.hd, ?_⟩
  show valG (rwV ws) key = none
  rw [valG_none, rwV_keys]
  exact valG_none.mp e
theorem rows_put (g : α → List PyData) (R : List Asn) {k : Key} {q : Addr} {r : α} : ∀ {ws : List (Key × Addr × α)}, ((rwK ws).map (·.1)).Nodup → ∃ ws', rwK ws' = putG (rwK ws) k r ∧ rwV ws' = putG (rwV ws) k (.ref q) ∧ ∀ H, Hs (ws.map (rwP g) ++ isL q (g r) :: R) H → Hs (ws'.map (rwP g) ++ R) H
  | [], _ => ⟨[(k, q, r)], rfl, rfl, fun _ z => z⟩
  | w :: ws, nd => by
    have nd2 : w.1 ∉ (rwK ws).map (·.1) ∧ ((rwK ws).map (·.1)).Nodup := List.nodup_cons.mp nd
    by_cases e : w.1 = k
    · refine ⟨(w.1, q, r) :: ws, (putG_pos (p := (w.1, w.2.2)) e (e ▸ nd2.1)).symm, (putG_pos (p := (w.1, V.ref w.2.1)) e ?_).symm, fun _ z => Pick.mid.go z.tl⟩
      rw [rwV_keys]
      exact e ▸ nd2.1
    · obtain ⟨ws', e1, e2, e3⟩ := rows_put g R (k := k) (q := q) (r := r) nd2.2
      refine ⟨w :: ws', ?_, ?_, fun _ z => Hs.under e3 z⟩
      · show (w.1, w.2.2) :: rwK ws' = _
        rw [e1]
        exact (putG_neg (p := (w.1, w.2.2)) e).symm
      · show (w.1, V.ref w.2.1) :: rwV ws' = _
        rw [e2]
        exact (putG_neg (p := (w.1, V.ref w.2.1)) e).symm
theorem DL_put (hS : Hs (isL q (g r) :: L) H) (k : Pick L (isDL g d kvs) R) : ∃ us, H d = some (.dK us) ∧ us.length = kvs.length ∧ Hs (isDL g d (putG kvs key r) :: R) (upd H d (.dK (putK us key (.ref q)))) := by
  obtain ⟨ws, rfl, nd, h⟩ := (Hs.under (fun _ z => k.go z) hS).swap.openDL
  obtain ⟨ws', e1, e2, e3⟩ := rows_put g R (k := key) (q := q) (r := r) nd
  refine ⟨rwV ws, h.hd, rwV_len ws, Hs.closeDL e1 (putG_nd nd) ?_⟩
  rw [e2]
  exact Hs.under e3 (h.put fun xs z => by cases z)
theorem rows_drop (g : α → List PyData) (R : List Asn) (k : Key) : ∀ (ws : List (Key × Addr × α)), ∃ ws', rwK ws' = dropG (rwK ws) k ∧ rwV ws' = dropG (rwV ws) k ∧ ∀ H, Hs (ws.map (rwP g) ++ R) H → Hs (ws'.map (rwP g) ++ R) H
  | [] => ⟨[], rfl, rfl, fun _ z => z⟩
  | w :: ws => by
    obtain ⟨ws', e1, e2, e3⟩ := rows_drop g R k ws
    unfold dropG at e1 e2 ⊢
    by_cases e : w.1 = k
    · refine ⟨ws', ?_, ?_, fun _ z => e3 _ z.tl⟩
      · rw [e1]
        exact (List.filter_cons_of_neg (by simp [e])).symm
      · rw [e2]
        exact (List.filter_cons_of_neg (by simp [e])).symm
    · refine ⟨w :: ws', ?_, ?_, fun _ z => Hs.under e3 z⟩
      · show (w.1, w.2.2) :: rwK ws' = _
        rw [e1]
        exact (List.filter_cons_of_pos (by simp [e])).symm
      · show (w.1, V.ref w.2.1) :: rwV ws' = _
        rw [e2]
        exact (List.filter_cons_of_pos (by simp [e])).symm
theorem DL_drop (key : Key) (hS : Hs L H) (k : Pick L (isDL g d kvs) R) : ∃ us, H d = some (.dK us) ∧ (valV us key = none → Hs (isDL g d (dropG kvs key) :: R) H) ∧ Hs (isDL g d (dropG kvs key) :: R) (upd H d (.dK (dropK us key))) := by
  obtain ⟨ws, rfl, nd, h⟩ := (k.go hS).openDL
  obtain ⟨ws', e1, e2, e3⟩ := rows_drop g R key ws
  refine ⟨rwV ws, h.hd, fun z => ?_, Hs.closeDL e1 (dropG_nd nd) ?_⟩
  · have z2 : valG (rwV ws) key = none := z
    rw [valG_none, rwV_keys, ← valG_none] at z2
    rw [dropG_none z2]
    exact k.go hS
  · show Hs (cell d (.dK (rwV ws')) :: _) _
    rw [e2]
    exact Hs.under e3 (h.put fun xs z => by cases z)
theorem DL_new (n : H d = none) (hS : Hs L H) : Hs (isDL g d [] :: L) (upd H d (.dK [])) := Hs.closeDL (ws := []) rfl (by simp) (hS.new n)
end
section
variable {K : PySem.W.Frag} {L0 R0 : List Asn} {H : Hp} {Q : VK} {σ : L2.St} {d : Addr} {us : List (Key × V)} {g : TG} {tt : TT} {te td : TE} {vs : List Nat}
theorem s_lcC (P : Nat → List PyData → List Asn → Prop) (hS : Hs L0 H) (k : Pick L0 (cell d (.dK us)) R0) (ht : ∀ od H' B, Hs (cell d (.frz od (.dK us)) :: R0) H' → B (V.ref d) H' → td σ H' B) (h0 : P 0 [] R0)
    (hs : ∀ od A i key acc H' L, (us.map (·.1))[i]? = some key → P i acc L → acc.length ≤ i → Hs (isL A acc :: cell d (.frz od (.dK us)) :: L) H' → g (kV key) (wipe σ vs) H' fun σ2 H2 => wipe σ2 vs = wipe σ vs ∧ tt σ2 H2 fun b H3 =>
      if b = true then te σ2 H3 fun y H4 => ∃ acc, H4 A = some (.lst acc) ∧ acc.length < sizeLine ∧ LcS [cell d (.frz od (.dK us))] P A (i + 1) (upd H4 A (.lst (acc ++ [y]))) else LcS [cell d (.frz od (.dK us))] P A (i + 1) H3)
    (h : ∀ A acc H' L, P us.length acc L → acc.length ≤ us.length → Hs (isL A acc :: cell d (.dK us) :: L) H' → Q (.ref A) H') : tLockE (tLc (iKeys td) g tt te vs) σ H Q := by
  have h1 := k.go hS
  refine ⟨d, .dK us, h1.hd, True.intro, fun od => ?_⟩
  have h2 := h1.put (o' := .frz od (.dK us)) fun xs z => by cases z
  refine ht od _ _ h2 ⟨d, od, rfl, .inl ⟨us, upd_same, fun A nA => lc_it (Qd := fun H' => H' d = some (.frz od (.dK us)) ∧ Q (.ref A) (upd H' d (.dK us))) (walk_keys (d := d) (o := od) (kvs := us)) (LcS [cell d (.frz od (.dK us))] P A) ⟨R0, [], h0, Nat.le_refl _, h2.newL nA .nil⟩ (fun i H' _ hp => ?_) (fun i x H1 H' hi hp hy => ?_) fun H' hp => ?_⟩⟩
  · obtain ⟨L, acc, _, _, z⟩ := hp
    exact z.tl.hd
  · obtain ⟨L, acc, hP, hal, z⟩ := hp
    obtain ⟨rfl, key, v, hx, rfl⟩ := hy
    exact hs od A i key acc _ L (by rw [List.getElem?_map, hx]; rfl) hP hal z
  · obtain ⟨L, acc, hP, hal, z⟩ := hp
    exact ⟨z.tl.hd, h A acc _ L hP hal (z.swap.put fun xs w => by cases w).swap⟩
end
section
variable {K : PySem.W.Frag} {α : Type} {g : α → List PyData} {d q : Addr} {kvs : List (Key × α)} {L R : List Asn} {H : Hp} {Q : VK} {key : Key} {r : α} {y : V} {σ : L2.St}
theorem s_DLin {B : Option V → Prop} (hS : Hs L H) (k : Pick L (isDL g d kvs) R) (ey : y = kV key) (h : ∀ o : Option V, o.isSome = (valG kvs key).isSome → B o) : ∃ a o, V.ref d = .ref a ∧ DGet H a y o ∧ B o := by
  cases e : valG kvs key with
  | none =>
    obtain ⟨us, h1, h2⟩ := DL_none hS k e
    exact ⟨d, _, rfl, .inl ⟨us, key, .inl h1, ey, rfl⟩, h _ (by rw [h2, e] <;> rfl)⟩
  | some r =>
    obtain ⟨us, p, R', h1, h2, _⟩ := DL_get hS k e
    exact ⟨d, _, rfl, .inl ⟨us, key, .inl h1, ey, rfl⟩, h _ (by rw [h2, e] <;> rfl)⟩
theorem s_DLinb {b : Bool} (hS : Hs L H) (k : Pick L (isDL g d kvs) R) (ey : y = kV key) (e : (valG kvs key).isSome = b) (h : Q (.bl b) H) : ∃ a o, V.ref d = .ref a ∧ DGet H a y o ∧ Q (.bl o.isSome) H :=
  s_DLin (B := fun o => Q (.bl o.isSome) H) hS k ey fun o eo => by rw [eo, e]; exact h
theorem s_DLinc {b : Bool} {G : Bool → Prop} (hS : Hs L H) (k : Pick L (isDL g d kvs) R) (ey : y = kV key) (e : (valG kvs key).isSome = b) (h : G b) : ∃ a o, V.ref d = .ref a ∧ DGet H a y o ∧ ∃ c, V.bl o.isSome = .bl c ∧ G c :=
  s_DLin (B := fun o => ∃ c, V.bl o.isSome = .bl c ∧ G c) hS k ey fun o eo => ⟨b, by rw [eo, e], h⟩
theorem s_DLget {B : V → Prop} (hS : Hs L H) (k : Pick L (isDL g d kvs) R) (ey : y = kV key) (e : valG kvs key = some r)
    (h : ∀ p R', Hs (isL p (g r) :: R') H → (∀ H', Hs (isL p (g r) :: R') H' → Hs L H') → (∀ r' H', Hs (isL p (g r') :: R') H' → Hs (isDL g d (putG kvs key r') :: R) H') → B (.ref p)) : ∃ a v, V.ref d = .ref a ∧ DGet H a y (some v) ∧ B v := by
  obtain ⟨us, p, R', h1, h2, h3, h4, h5⟩ := DL_get hS k e
  exact ⟨d, _, rfl, .inl ⟨us, key, .inl h1, ey, h2.symm⟩, h p R' h3 h4 h5⟩
/-- what d.get(k, z) gives, d's lists -/
theorem s_DLgetO {B : Option V → Prop} (hS : Hs L H) (k : Pick L (isDL g d kvs) R) (ey : y = kV key) (h0 : valG kvs key = none → B none)
    (h : ∀ r p R', valG kvs key = some r → Hs (isL p (g r) :: R') H → (∀ H', Hs (isL p (g r) :: R') H' → Hs L H') → B (some (.ref p))) : ∃ o, DGet H d y o ∧ B o := by
  cases e : valG kvs key with
  | none =>
    obtain ⟨us, h1, h2⟩ := DL_none hS k e
    exact ⟨_, .inl ⟨us, key, .inl h1, ey, h2.symm⟩, h0 e⟩
  | some r =>
    obtain ⟨us, p, R', h1, h2, h3, h4, _⟩ := DL_get hS k e
    exact ⟨_, .inl ⟨us, key, .inl h1, ey, h2.symm⟩, h r p R' e h3 h4⟩
theorem s_DLisD {A : Addr → Prop} (hS : Hs L H) (k : Pick L (isDL g d kvs) R) (h : A d) : ∃ b, V.ref d = .ref b ∧ IsD H b ∧ A b := by
  obtain ⟨ws, e, n, h1⟩ := (k.go hS).openDL
  exact ⟨d, rfl, .inl ⟨_, .inl h1.hd⟩, h⟩
theorem s_DLis {A : Prop} (hS : Hs L H) (k : Pick L (isDL g d kvs) R) (h : A) : IsD H d ∧ A := by
  obtain ⟨ws, e, n, h1⟩ := (k.go hS).openDL
  exact ⟨.inl ⟨_, .inl h1.hd⟩, h⟩
theorem s_DLput {N : Hp → Prop} (hS : Hs (isL q (g r) :: L) H) (k : Pick L (isDL g d kvs) R) (ey : y = kV key) (hl : kvs.length ≤ 1000) (h : ∀ H', Hs (isDL g d (putG kvs key r) :: R) H' → N H') : ∃ a H4, V.ref d = .ref a ∧ DPut H a y (.ref q) H4 ∧ N H4 := by
  obtain ⟨us, h1, h2, h3⟩ := DL_put (key := key) hS k
  exact ⟨d, _, rfl, .inl ⟨us, key, h1, ey, small1000 (by rw [h2]; exact hl), rfl⟩, h _ h3⟩
/-- d.pop(k, x), what it tells is dropped -/
theorem s_DLpop {B : Hp → Prop} (hS : Hs L H) (k : Pick L (isDL g d kvs) R) (ey : y = kV key) (h : ∀ H', Hs (isDL g d (dropG kvs key) :: R) H' → B H') :
    ∃ us j, H d = some (.dK us) ∧ y = kV j ∧ (∀ v, valV us j = some v → B (upd H d (.dK (dropK us j)))) ∧ (valV us j = none → B H) := by
  obtain ⟨us, h1, h2, h3⟩ := DL_drop key hS k
  exact ⟨us, key, h1, ey, fun v _ => h _ h3, fun e => h _ (h2 e)⟩
theorem s_DLnew (hS : Hs L H) (h : ∀ p H', Hs (isDL g p [] :: L) H' → Q (.ref p) H') : tDNewK σ H Q := fun p np => h p _ (DL_new np hS)
/-- a comprehension over d's keys, d's lists stand apart -/
theorem s_lcDL {gg : TG} {tt : TT} {te td : TE} {vs : List Nat} (pr : Key → Bool) (ef : Key → PyData) (hS : Hs L H) (k : Pick L (isDL g d kvs) R)
    (ht : ∀ (o : HO) H' L0 B, Hs (cell d o :: L0) H' → B (V.ref d) H' → td σ H' B)
    (hs : ∀ od us A i key acc H' L0, (kvs.map (·.1))[i]? = some key → Fm (kvs.map (·.1)) pr ef L0 i acc L0 → acc.length ≤ i → i < kvs.length → Hs (isL A acc :: cell d (.frz od (.dK us)) :: L0) H' → gg (kV key) (wipe σ vs) H' fun σ2 H2 => wipe σ2 vs = wipe σ vs ∧ tt σ2 H2 fun b H3 =>
      if b = true then te σ2 H3 fun y H4 => ∃ acc, H4 A = some (.lst acc) ∧ acc.length < sizeLine ∧ LcS [cell d (.frz od (.dK us))] (Fm (kvs.map (·.1)) pr ef L0) A (i + 1) (upd H4 A (.lst (acc ++ [y]))) else LcS [cell d (.frz od (.dK us))] (Fm (kvs.map (·.1)) pr ef L0) A (i + 1) H3)
    (h : ∀ A H', Hs (isL A (((kvs.map (·.1)).filter pr).map ef) :: isDL g d kvs :: R) H' → Q (.ref A) H') :
    tLockE (tLc (iKeys td) gg tt te vs) σ H Q := by
  obtain ⟨ws, e, n, h1⟩ := (k.go hS).openDL
  have ek : (rwV ws).map (·.1) = kvs.map (·.1) := by rw [rwV_keys, e]
  have el : (rwV ws).length = kvs.length := by rw [rwV_len, e]
  refine s_lcC (us := rwV ws) (Fm (kvs.map (·.1)) pr ef (ws.map (rwP g) ++ R)) h1 .here (fun od H' B z b => ht _ H' _ B z b) Fm.start (fun od A i key acc H' L' hx hP hl hS' => ?_) (fun A acc H' L' hP hl hS' => ?_)
  · obtain rfl := hP.2
    have hi : i < kvs.length := by
      have := (List.getElem?_eq_some_iff.mp hx).1
      rwa [List.length_map, el] at this
    rw [ek] at hx
    exact hs od _ A i key acc H' _ hx hP hl hi hS'
  · rw [el, ← List.length_map (f := (·.1))] at hP
    obtain ⟨rfl, rfl⟩ := hP.all rfl
    exact h A H' (Hs.under (fun _ z => Hs.closeDL e n z) hS')
end
end Lt
/-! texts in order: one sorted row alone; the text of a key; two things of the same data -/
namespace Lt
open PySem PySem.Spec PyProof.Rows L2
theorem risingS_pw : ∀ (p : Str) (l : List Str), risingS p l = true → (p :: l).Pairwise fun a b : Str => a.cps.toList ≤ b.cps.toList
  | p, [], _ => by simp
  | p, x :: r, h => by
    have h' : (!ltCps x.cps.toList p.cps.toList && risingS x r) = true := h
    rw [Bool.and_eq_true, ltCps_eq] at h'
    have h1 : p.cps.toList ≤ x.cps.toList := by
      have h2 := h'.1
      simp only [Bool.not_eq_true', decide_eq_false_iff_not] at h2
      exact h2
    have ih := risingS_pw x r h'.2
    refine List.pairwise_cons.mpr ⟨fun b hb => ?_, ih⟩
    rcases List.mem_cons.mp hb with rfl | hb
    · exact h1
    · exact List.le_trans h1 ((List.pairwise_cons.mp ih).1 b hb)
theorem sortedS_pw : ∀ {l : List Str}, sortedS l = true → l.Pairwise fun a b : Str => a.cps.toList ≤ b.cps.toList
  | [], _ => .nil
  | x :: r, h => risingS_pw x r h
theorem str_le_antisymm {a b : Str} (h1 : a.cps.toList ≤ b.cps.toList) (h2 : b.cps.toList ≤ a.cps.toList) : a = b :=
  Str.ext' (Array.toList_inj.mp (List.le_antisymm h1 h2))
/-- there is one sorted row of the same texts -/
theorem sortedS_one {xs ys : List Str} (p : xs.Perm ys) (h1 : sortedS xs = true) (h2 : sortedS ys = true) : xs = ys :=
  p.eq_of_pairwise (le := fun a b : Str => a.cps.toList ≤ b.cps.toList) (fun a b _ _ => str_le_antisymm) (sortedS_pw h1) (sortedS_pw h2)
/-- str of a whole number or a text -/
def keyS : Key → Str
  | .inl i => Str.ofString (toString i)
  | .inr z => z
def rStrKey : List V → Hp → VK → Prop := fun xs H Q => ∃ k : Key, xs = [kV k] ∧ (∀ i, k = .inl i → i.natAbs < 100000000000000000000) ∧ Q (.str (keyS k)) H
theorem call_str_key {X : Cx} : CallR X (.type "str") rStrKey := by
  intro pins s σ H xs us Q I r ⟨k, e, hz, q⟩
  cases k with
  | inl i => exact call_str_int pins s σ H xs us Q I r ⟨i, e, numLog (hz i rfl), q⟩
  | inr z => exact SkE.call_str_str pins s σ H xs us Q I r ⟨z, e, q⟩
section
variable {K : PySem.W.Frag} {L R R2 : List Asn} {H : Hp} {Q : VK} {p r : Addr} {ds : List PyData} {k : Key}
theorem s_strKey (hz : ∀ i, k = .inl i → i.natAbs < 100000000000000000000) (h : Q (.str (keyS k)) H) : rStrKey [kV k] H Q := ⟨k, rfl, hz, h⟩
theorem shp_unit {d : PyData} {n : Nat} (h1 : tidy d = true) (h2 : d.depth ≤ n) : Shp Unit (fun _ => d) n := ⟨fun _ => h1, fun _ => h2, fun _ _ _ => rfl⟩
theorem s_neSame (hS : Hs L H) (h1 : tidyAll ds = true) (h2 : PyData.depthAll ds ≤ 60) (k1 : HasL L p ds) (k2 : HasL L r ds) (h : Q (.bl false) H) : rNeD K (.ref p) (.ref r) H Q :=
  k_neD (f := fun _ => .list ds) (p := ()) (q := ()) (shp_unit (by simpa [tidy] using h1) (Nat.le_refl _)) (by simp only [PyData.depth]; omega) (k1.dp hS) (k2.dp hS) (by rw [decide_eq_true rfl]; exact h)
theorem s_eqSame (hS : Hs L H) (h1 : tidyAll ds = true) (h2 : PyData.depthAll ds ≤ 60) (k1 : HasL L p ds) (k2 : HasL L r ds) (h : Q (.bl true) H) : rEqD K (.ref p) (.ref r) H Q :=
  k_eqD (f := fun _ => .list ds) (p := ()) (q := ()) (shp_unit (by simpa [tidy] using h1) (Nat.le_refl _)) (by simp only [PyData.depth]; omega) (k1.dp hS) (k2.dp hS) (by rw [decide_eq_true rfl]; exact h)
end
end Lt
/-! pieces: more -/
namespace Lt
theorem Pcs.sum {rows out : List (Int × Int)} {rest : Int} (h : Pcs rows rest out) : 0 ≤ rest → sizes out = rest := by
  induction h with
  | @done rows rest h0 =>
    intro h1
    show (0 : Int) = rest
    omega
  | @last rows rest u h0 =>
    intro _
    simp [sizes]
  | @more rows out rest u h0 ha hm _ _ ih =>
    intro _
    have := ha u hm
    rw [sizes_cons, ih (by omega)]
    omega
/-- one row after another is taken out, a longest one each time -/
inductive Er : List (Int × Int) → List (Int × Int) → List (Int × Int) → Prop
  | nil {rows : List (Int × Int)} : Er rows [] rows
  | cons {rows pre rows2 : List (Int × Int)} {u : Int × Int} : u ∈ rows → (∀ y ∈ rows, y.2 ≤ u.2) → Er (rows.erase u) pre rows2 → Er rows (u :: pre) rows2
/-- how pieces end -/
structure PEnd (rows : List (Int × Int)) (rest : Int) (out pre : List (Int × Int)) (u : Int × Int) (r : Int) (rows2 : List (Int × Int)) : Prop where
  er : Er rows pre rows2
  out : out = pre ++ [(u.1, r)]
  mem : u ∈ rows2
  r1 : 1 ≤ r
  r2 : r ≤ u.2
  min : ∀ y ∈ rows2, r ≤ y.2 → u.2 ≤ y.2
  sum : sizes pre + r = rest
theorem Pcs.ends {rows out : List (Int × Int)} {rest : Int} (h : Pcs rows rest out) : 0 < rest → ∃ pre u r rows2, PEnd rows rest out pre u r rows2 := by
  induction h with
  | @done rows rest h0 =>
    intro h1
    omega
  | @last rows rest u h0 hm hw hl =>
    intro _
    refine ⟨[], u, rest, rows, .nil, rfl, hm, by omega, hw, fun y hy hr => ?_, by simp [sizes]⟩
    have z := hl y hy hr
    rw [klt_no] at z
    simp only at z
    omega
  | @more rows out rest u h0 ha hm hl ht ih =>
    intro _
    have h1 := ha u hm
    obtain ⟨pre, v, r, rows2, er, ho, hv, r1, r2, hmin, hs⟩ := ih (by omega)
    refine ⟨u :: pre, v, r, rows2, .cons hm (fun y hy => ?_) er, by rw [ho]; rfl, hv, r1, r2, hmin, by rw [sizes_cons]; omega⟩
    have z := hl y hy
    rw [klt_no] at z
    simp only at z
    omega
theorem Pcs.zero {rows out : List (Int × Int)} (h : Pcs rows 0 out) : out = [] := by
  cases h with
  | done _ => rfl
  | last h => exact absurd h (by decide)
  | more h => exact absurd h (by decide)
theorem Er.sub {rows pre rows2 : List (Int × Int)} (h : Er rows pre rows2) : rows2.Sublist rows := by
  induction h with
  | nil => exact List.Sublist.refl _
  | cons _ _ _ ih => exact ih.trans (List.erase_sublist ..)
theorem Er.mem {rows pre rows2 : List (Int × Int)} (h : Er rows pre rows2) : ∀ p ∈ pre, p ∈ rows := by
  induction h with
  | nil => exact fun p hp => by simp at hp
  | cons hm _ _ ih =>
    intro p hp
    rcases List.mem_cons.mp hp with rfl | hp
    · exact hm
    · exact List.mem_of_mem_erase (ih p hp)
/-- no first block twice -/
theorem first_inj {rows : List (Int × Int)} (h : rows.Pairwise (·.1 < ·.1)) {p q : Int × Int} (hp : p ∈ rows) (hq : q ∈ rows) (e : p.1 = q.1) : p = q := by
  obtain ⟨i, hi, rfl⟩ := List.mem_iff_getElem.mp hp
  obtain ⟨j, hj, rfl⟩ := List.mem_iff_getElem.mp hq
  have key := List.pairwise_iff_getElem.mp h
  rcases Nat.lt_trichotomy i j with z | z | z
  · have := key i j hi hj z
    omega
  · subst z
    rfl
  · have := key j i hj hi z
    omega
theorem not_mem_erase {rows : List (Int × Int)} (h : rows.Pairwise (·.1 < ·.1)) {p u : Int × Int} (hu : u ∈ rows) (hp : p ∈ rows.erase u) : p.1 ≠ u.1 := fun e => by
  have e2 := first_inj h (List.mem_of_mem_erase hp) hu e
  subst e2
  exact ((first_nd h).mem_erase_iff.mp hp).1 rfl
theorem Er.firsts {rows pre rows2 : List (Int × Int)} (h : Er rows pre rows2) : rows.Pairwise (·.1 < ·.1) → (pre.map (·.1)).Nodup ∧ ∀ p ∈ pre, ∀ q ∈ rows2, q.1 ≠ p.1 := by
  induction h with
  | nil => exact fun _ => ⟨.nil, fun p hp => by simp at hp⟩
  | @cons rows pre rows2 u hm _ he ih =>
    intro hf
    have hf2 : (rows.erase u).Pairwise (·.1 < ·.1) := hf.sublist (List.erase_sublist ..)
    obtain ⟨i1, i2⟩ := ih hf2
    refine ⟨?_, fun p hp q hq => ?_⟩
    · rw [List.map_cons, List.nodup_cons]
      refine ⟨fun z => ?_, i1⟩
      obtain ⟨p, hp, e⟩ := List.mem_map.mp z
      exact not_mem_erase hf hm (he.mem p hp) e
    · rcases List.mem_cons.mp hp with rfl | hp
      · exact not_mem_erase hf hm (he.sub.subset hq)
      · exact i2 p hp q hq
theorem PEnd.within {rows out pre rows2 : List (Int × Int)} {rest r : Int} {u : Int × Int} (h : PEnd rows rest out pre u r rows2) (hp : ∀ p ∈ rows, 1 ≤ p.2) (hf : rows.Pairwise (·.1 < ·.1)) :
    (out.map (·.1)).Nodup ∧ ∀ p ∈ out, 1 ≤ p.2 ∧ ∃ s, (p.1, s) ∈ rows ∧ p.2 ≤ s := by
  obtain ⟨h1, h2⟩ := h.er.firsts hf
  rw [h.out]
  refine ⟨?_, fun p hp' => ?_⟩
  · rw [List.map_append]
    refine List.nodup_append.mpr ⟨h1, by simp, fun a ha b hb => ?_⟩
    obtain ⟨q, hq, rfl⟩ := List.mem_map.mp ha
    rw [List.map_singleton, List.mem_singleton] at hb
    subst hb
    exact fun e => h2 q hq u h.mem e.symm
  · rcases List.mem_append.mp hp' with z | z
    · have hm := h.er.mem p z
      exact ⟨hp p hm, p.2, hm, Int.le_refl _⟩
    · rw [List.mem_singleton] at z
      subst z
      exact ⟨h.r1, u.2, h.er.sub.subset h.mem, h.r2⟩
theorem filter_first {rows : List (Int × Int)} (h : rows.Pairwise (·.1 < ·.1)) {f s : Int} (hm : (f, s) ∈ rows) : rows.filter (fun p => decide (p.1 = f)) = [(f, s)] := by
  induction rows with
  | nil => simp at hm
  | cons p r ih =>
    rw [List.pairwise_cons] at h
    rcases List.mem_cons.mp hm with e | hm
    · subst e
      rw [List.filter_cons_of_pos (by simp), List.filter_eq_nil_iff.mpr fun q hq => by have := h.1 q hq; simp only at this; simp; omega]
    · have := h.1 _ hm
      rw [List.filter_cons_of_neg (by simp only at this; simp; omega)]
      exact ih h.2 hm
/-- the longest ones -/
theorem Er.longest {rows pre rows2 : List (Int × Int)} (h : Er rows pre rows2) : ∀ {ds : List Int}, ds.Perm (rows.map (·.2)) → ds.Pairwise (· ≥ ·) → (ds.take pre.length).sum = sizes pre := by
  induction h with
  | nil => exact fun _ _ => rfl
  | @cons rows pre rows2 u hm ha he ih =>
    intro ds hp hd
    cases ds with
    | nil =>
      have := hp.length_eq
      rw [List.length_map] at this
      rw [List.length_eq_zero_iff.mp this.symm] at hm
      simp at hm
    | cons d ds =>
      rw [List.pairwise_cons] at hd
      have hu : u.2 ∈ d :: ds := hp.symm.subset (List.mem_map.mpr ⟨u, hm, rfl⟩)
      have hdm : d ∈ rows.map (·.2) := hp.subset List.mem_cons_self
      obtain ⟨y, hy, e⟩ := List.mem_map.mp hdm
      have e2 : d = u.2 := by
        have := ha y hy
        rcases List.mem_cons.mp hu with z | z
        · exact z.symm
        · have := hd.1 _ z
          omega
      have hp2 : ds.Perm ((rows.erase u).map (·.2)) := by
        have h1 : (rows.map (·.2)).Perm (u.2 :: (rows.erase u).map (·.2)) := (List.perm_cons_erase hm).map _
        rw [e2] at hp
        exact List.Perm.cons_inv (hp.trans h1)
      rw [List.length_cons, List.take_succ_cons, List.sum_cons, ih hp2 hd.2, sizes_cons, e2]
theorem Er.snoc_split {rows pre rows2 : List (Int × Int)} (h : Er rows pre rows2) : ∀ i : Nat, i ≤ pre.length → ∃ mid, Er rows (pre.take i) mid ∧ Er mid (pre.drop i) rows2 := by
  induction h with
  | @nil rows =>
    intro i hi
    have : i = 0 := by simpa using hi
    subst this
    exact ⟨rows, .nil, .nil⟩
  | @cons rows pre rows2 u hm ha he ih =>
    intro i hi
    rcases i with _ | i
    · exact ⟨rows, .nil, .cons hm ha he⟩
    · obtain ⟨mid, h1, h2⟩ := ih i (by simpa using hi)
      exact ⟨mid, .cons hm ha h1, h2⟩
theorem cutD_front {α : Type} (xs : List α) : cutD xs none (some (-1)) = xs.dropLast := by
  unfold cutD
  rw [HT.sIx_none]
  have e : HT.sIx xs.length xs.length (some (-1)) = xs.length - 1 := by
    cases xs with
    | nil => rfl
    | cons x r =>
      unfold HT.sIx
      simp
      try omega
  rw [e, List.drop_zero, Nat.sub_zero, List.dropLast_eq_take]
theorem cutD_last {α : Type} (xs : List α) : cutD xs (some (-1)) none = xs.drop (xs.length - 1) := by
  unfold cutD
  rw [HT.sIx_none]
  have e : HT.sIx xs.length 0 (some (-1)) = xs.length - 1 := by
    cases xs with
    | nil => rfl
    | cons x r =>
      unfold HT.sIx
      simp
      try omega
  rw [e, List.take_of_length_le (by rw [List.length_drop]; omega)]
end Lt
namespace Lt
theorem fst_map_nd {rows : List (Int × Int)} (h : rows.Pairwise (·.1 < ·.1)) : (rows.map (·.1)).Nodup := by
  unfold List.Nodup
  rw [List.pairwise_map]
  exact h.imp fun z e => by omega
theorem dropG_erase {rows : List (Int × Int)} (h : rows.Pairwise (·.1 < ·.1)) {u : Int × Int} (hu : u ∈ rows) : dropG rows u.1 = rows.erase u := by
  rw [(first_nd h).erase_eq_filter]
  unfold dropG
  refine List.filter_congr fun p hp => ?_
  by_cases e : p = u
  · simp [e]
  · have : p.1 ≠ u.1 := fun z => e (first_inj h hp hu z)
    simp [e, this]
/-- the pieces' front and the last one -/
structure PSplit (rows out pre tl rows2 : List (Int × Int)) : Prop where
  er : Er rows pre rows2
  front : out.dropLast = pre
  last : out.drop (out.length - 1) = tl
  one : tl.length ≤ 1
  min : ∀ p ∈ tl, ∃ u ∈ rows2, p.1 = u.1 ∧ ∀ y ∈ rows2, p.2 ≤ y.2 → u.2 ≤ y.2
theorem Pcs.split {rows out : List (Int × Int)} {n : Int} (h : Pcs rows n out) (n0 : 0 ≤ n) : ∃ pre tl rows2, PSplit rows out pre tl rows2 := by
  by_cases e : n = 0
  · subst e
    rw [h.zero]
    exact ⟨[], [], rows, .nil, rfl, rfl, by simp, fun p hp => by simp at hp⟩
  · obtain ⟨pre, u, r, rows2, hE⟩ := h.ends (by omega)
    refine ⟨pre, [(u.1, r)], rows2, hE.er, by rw [hE.out, List.dropLast_concat], ?_, by simp, fun p hp => ?_⟩
    · rw [hE.out, List.length_append, List.length_singleton, Nat.add_sub_cancel, List.drop_left]
    · rw [List.mem_singleton] at hp
      subst hp
      exact ⟨u, hE.mem, rfl, hE.min⟩
end Lt
/-! list(zip(range(a, b), xs)) -/
namespace Zr
open PySem PySem.Spec PyProof.Rows
section
variable {prog : Program} {w : World} {A : Around} {E : Value → Shared → Prop} {s : Shared}
theorem next_item {it : Addr} {x left step : Int} {Q : Value → Shared → Prop} (hit : IsRangeIter s.heap it x left step) (h0 : 0 < left)
    (hQ : ∀ h', IsRangeIter h' it (x + step) (left - 1) step → Heap.SameBut it s.heap h' → Q (.int x s.toks) { s with heap := h', toks := s.toks + 1 }) :
    wpAny (model prog w) A (Builtin.SmallTypes.nextOf (.ref it)) Q E s := by
  unfold Builtin.SmallTypes.nextOf
  exact wpAny_bind (CpRep.range_item hit h0 fun h' a b => wpAny_pure (hQ h' a b))
theorem next_end {it : Addr} {x left step : Int} {Q : Value → Shared → Prop} (hh : A.handled = none) (hit : IsRangeIter s.heap it x left step) (h0 : left ≤ 0)
    (hE : ∀ h' e, Heap.ExtBut it s.heap h' → (∃ o, h'.get? e = some o ∧ o.cls = .type "StopIteration") → E (.ref e) { s with heap := h' }) :
    wpAny (model prog w) A (Builtin.SmallTypes.nextOf (.ref it)) Q E s := by
  unfold Builtin.SmallTypes.nextOf
  exact wpAny_bind (CpRep.range_end hh hit h0 fun e h' ⟨a, o, vs, ea, e1, e2, _⟩ b => by rw [ea]; exact hE h' a b ⟨o, e1, e2⟩)
/-- a zip whose tuple is held -/
abbrev IsZipO (h : Heap) (z TI TO a : Addr) (f : Bool) : Prop :=
  h.get? z = some { cls := .type "zip", dict := none, data := .fields #[rawInt a, .bool f, .bool false, .ref TI, .ref TO], slots := #[] }
variable {z TI TO i1 i2 l1 l2 : Addr} {x n : Int} {k : Nat} {ys : Array Value} {y a b : Value}
theorem item_free {Q : Value → Shared → Prop} (D : ZipApart z TI TO i1 i2 l1 l2)
    (hz : IsZip s.heap z TI TO .none) (hTI : IsPair s.heap TI (.ref i1) (.ref i2)) (hTO : IsPair s.heap TO a b)
    (h1 : IsRangeIter s.heap i1 x n 1) (h2 : s.heap.IsListIter i2 l2 k) (hl2 : s.heap.IsList l2 ys) (hn : 0 < n) (hy : ys[k]? = some y)
    (hQ : ∀ h', IsZipO h' z TI TO s.heap.objs.size false → IsRangeIter h' i1 (x + 1) (n - 1) 1 → h'.IsListIter i2 l2 (k + 1) → IsPair h' s.heap.objs.size (.int x s.toks) y → h'.objs.size = s.heap.objs.size + 1 →
      (∀ c o, c ≠ z → c ≠ TO → c ≠ i1 → c ≠ i2 → s.heap.get? c = some o → h'.get? c = some o) → Q (.ref s.heap.objs.size) { s with heap := h', toks := s.toks + 1 }) :
    wpAny (model prog w) A (Builtin.«zip.__next__» ⟨[.ref z], []⟩) (fun fin s' => ∃ v, fin = .done (.ret v) ∧ Q v s') E s := by
  show wpAny _ _ (field (.ref z) 2 >>= _) _ _ _
  refine wpAny_bind (wpAny_field hz rfl (x := .bool false) rfl ?_)
  show wpAny _ _ (field (.ref z) 3 >>= _) _ _ _
  refine wpAny_bind (wpAny_field hz rfl (x := .ref TI) rfl ?_)
  refine wpAny_bind (wpAny_seqItems hTI rfl ?_)
  show wpAny _ _ (Builtin.SmallTypes.ownedTupleIsFree (.ref z) >>= _) _ _ _
  refine wpAny_bind ?_
  unfold Builtin.SmallTypes.ownedTupleIsFree
  refine wpAny_bind (wpAny_field hz rfl (x := .none) rfl (wpAny_pure ?_))
  simp only [if_true]
  refine wpAny_bind (wpAny_rule ?_)
  refine wpAny_bind (wpAny_field hz rfl (x := .ref TO) rfl ?_)
  refine wpAny_bind (wpAny_setField_rec hz (by simp) fun h₁ hz₁ hs₁ => ?_)
  replace hz₁ : IsZip h₁ z TI TO .ellipsis := hz₁
  refine wpAny_bind ?_
  simp only [List.zipIdx_cons, List.zipIdx_nil, List.forIn_cons, List.forIn_nil]
  refine wpAny_bind (wpAny_bind (wpAny_onRaise ?_))
  show wpAny _ _ (Builtin.SmallTypes.nextOf (.ref i1) >>= _) _ _ _
  refine wpAny_bind (next_item (s := { s with heap := h₁ }) (hs₁.extBut _ _ D.i1z h1) hn fun h₂ h1₂ hs₂ => wpAny_pure ?_)
  replace hs₂ : Heap.SameBut i1 h₁ h₂ := hs₂
  have hTO₂ : IsPair h₂ TO a b := hs₂.extBut _ _ D.TOi1 (hs₁.extBut _ _ D.TOz hTO)
  refine wpAny_bind (wpAny_seqItems hTO₂ rfl ?_)
  refine wpAny_bind (wpAny_updateSeq_pair hTO₂ fun h₃ hTO₃ hs₃ => ?_)
  replace hTO₃ : IsPair h₃ TO (.int x s.toks) b := hTO₃
  refine wpAny_bind (wpAny_letGo (wpAny_pure ?_))
  refine wpAny_bind (wpAny_bind (wpAny_onRaise ?_))
  show wpAny _ _ (Builtin.SmallTypes.nextOf (.ref i2) >>= _) _ _ _
  refine wpAny_bind (wpAny_nextOf_list_item (((h2.extBut hs₁.extBut D.i2z).extBut hs₂.extBut D.i12.symm).extBut hs₃.extBut D.TOi2.symm)
    (((hl2.extBut hs₁.extBut D.l2z).extBut hs₂.extBut D.l2i1).extBut hs₃.extBut D.l2TO) hy fun h₄ h2₄ hs₄ => wpAny_pure ?_)
  have hTO₄ : IsPair h₄ TO (.int x s.toks) b := hs₄.extBut _ _ D.TOi2 hTO₃
  refine wpAny_bind (wpAny_seqItems hTO₄ rfl ?_)
  refine wpAny_bind (wpAny_updateSeq_pair hTO₄ fun h₅ hTO₅ hs₅ => ?_)
  replace hTO₅ : IsPair h₅ TO (.int x s.toks) y := hTO₅
  refine wpAny_bind (wpAny_letGo (wpAny_pure (wpAny_pure ?_)))
  refine wpAny_bind (wpAny_seqItems hTO₅ rfl ?_)
  refine wpAny_bind (wpAny_newTuple ?_)
  have hsz : h₅.objs.size = s.heap.objs.size := by rw [hs₅.1, hs₄.1, hs₃.1, hs₂.1, hs₁.1]
  have hz₅ : IsZip h₅ z TI TO .ellipsis := hs₅.extBut _ _ D.TOz.symm (hs₄.extBut _ _ D.i2z.symm (hs₃.extBut _ _ D.TOz.symm (hs₂.extBut _ _ D.i1z.symm hz₁)))
  have hk₅ : ∀ c o, c ≠ z → c ≠ TO → c ≠ i1 → c ≠ i2 → s.heap.get? c = some o → h₅.get? c = some o := fun c o c1 c2 c3 c4 e =>
    hs₅.extBut _ _ c2 (hs₄.extBut _ _ c4 (hs₃.extBut _ _ c2 (hs₂.extBut _ _ c3 (hs₁.extBut _ _ c1 e))))
  have h1₅ : IsRangeIter h₅ i1 (x + 1) (n - 1) 1 := hs₅.extBut _ _ D.TOi1.symm (hs₄.extBut _ _ D.i12 (hs₃.extBut _ _ D.TOi1.symm h1₂))
  have h2₅ : h₅.IsListIter i2 l2 (k + 1) := h2₄.extBut hs₅.extBut D.TOi2.symm
  have hzlt : z < h₅.objs.size := Heap.lt_size hz₅
  show wpAny _ _ (Builtin.SmallTypes.ownedTupleHandOut (.ref z) (.ref h₅.objs.size) >>= _) _ _ _
  refine wpAny_bind ?_
  unfold Builtin.SmallTypes.ownedTupleHandOut
  have hz₆ : IsZip (h₅.push { cls := .type "tuple", data := .seq #[.int x s.toks, y] }) z TI TO .ellipsis := Heap.get?_push_of_some _ hz₅
  refine wpAny_bind (wpAny_setField_rec hz₆ (by simp) fun h₇ hz₇ hs₇ => ?_)
  replace hz₇ : IsZip h₇ z TI TO (rawInt h₅.objs.size) := hz₇
  refine wpAny_setField_rec hz₇ (by simp) fun h₈ hz₈ hs₈ => ?_
  replace hz₈ : IsZipO h₈ z TI TO h₅.objs.size false := hz₈
  have up : ∀ c o, c ≠ z → h₅.get? c = some o → h₈.get? c = some o := fun c o c1 e => hs₈.extBut _ _ c1 (hs₇.extBut _ _ c1 (Heap.get?_push_of_some _ e))
  have hT₈ : IsPair h₈ h₅.objs.size (.int x s.toks) y := hs₈.extBut _ _ (Nat.ne_of_gt hzlt) (hs₇.extBut _ _ (Nat.ne_of_gt hzlt) (Heap.get?_push_size _ rfl))
  have hz8 : h₈.objs.size = h₅.objs.size + 1 := by rw [hs₈.1, hs₇.1, Heap.size_push]
  rw [hsz] at hz₈ hT₈ hz8
  refine wpAny_pure ⟨_, rfl, ?_⟩
  show Q (.ref h₅.objs.size) _
  rw [hsz]
  exact hQ h₈ hz₈ (up _ _ D.i1z h1₅) (h2₅.at fun o e => up _ o D.i2z e) hT₈ hz8 fun c o c1 c2 c3 c4 e => up c o c1 (hk₅ c o c1 c2 c3 c4 e)
theorem item_held {T : Addr} {f : Bool} {oT : Obj} {Q : Value → Shared → Prop} (D : ZipApart z TI TO i1 i2 l1 l2)
    (hz : IsZipO s.heap z TI TO T f) (hTa : s.heap.get? T = some oT) (hTI : IsPair s.heap TI (.ref i1) (.ref i2))
    (h1 : IsRangeIter s.heap i1 x n 1) (h2 : s.heap.IsListIter i2 l2 k) (hl2 : s.heap.IsList l2 ys) (hn : 0 < n) (hy : ys[k]? = some y)
    (hQ : ∀ h', IsZipO h' z TI TO T true → IsRangeIter h' i1 (x + 1) (n - 1) 1 → h'.IsListIter i2 l2 (k + 1) → IsPair h' s.heap.objs.size (.int x s.toks) y → h'.objs.size = s.heap.objs.size + 1 →
      (∀ c o, c ≠ z → c ≠ TO → c ≠ i1 → c ≠ i2 → s.heap.get? c = some o → h'.get? c = some o) → Q (.ref s.heap.objs.size) { s with heap := h', toks := s.toks + 1 }) :
    wpAny (model prog w) A (Builtin.«zip.__next__» ⟨[.ref z], []⟩) (fun fin s' => ∃ v, fin = .done (.ret v) ∧ Q v s') E s := by
  show wpAny _ _ (field (.ref z) 2 >>= _) _ _ _
  refine wpAny_bind (wpAny_field hz rfl (x := .bool false) rfl ?_)
  show wpAny _ _ (field (.ref z) 3 >>= _) _ _ _
  refine wpAny_bind (wpAny_field hz rfl (x := .ref TI) rfl ?_)
  refine wpAny_bind (wpAny_seqItems hTI rfl ?_)
  show wpAny _ _ (Builtin.SmallTypes.ownedTupleIsFree (.ref z) >>= _) _ _ _
  refine wpAny_bind ?_
  unfold Builtin.SmallTypes.ownedTupleIsFree
  refine wpAny_bind (wpAny_field hz rfl (x := rawInt T) rfl ?_)
  show wpAny _ _ (loadIfAlive ((T : Int).toNat) >>= _) _ _ _
  rw [Int.toNat_natCast]
  refine wpAny_bind (PySem.W.kdx_alive hTa ?_)
  simp only [Option.isNone_some, Bool.false_eq_true, if_false]
  refine wpAny_bind (wpAny_field hz rfl (x := .bool f) rfl ?_)
  cases f with
  | true =>
    rw [if_neg (show ¬ ((Value.bool true != Value.bool true) = true) from Bool.false_ne_true)]
    have hz₁ : IsZipO s.heap z TI TO T true := hz
    have hs₁ : Heap.SameBut z s.heap s.heap := Heap.SameBut.refl _ _
    refine wpAny_pure ?_
    simp only [Bool.false_eq_true, if_false]
    simp only [List.forIn_toArray, List.forIn_cons, List.forIn_nil]
    refine wpAny_bind (wpAny_bind (wpAny_bind (wpAny_holding ?_)))
    show wpAny _ _ (Builtin.SmallTypes.nextOf (.ref i1) >>= _) _ _ _
    refine wpAny_bind (next_item (s := s) (hs₁.extBut _ _ D.i1z h1) hn fun h₂ h1₂ hs₂ => wpAny_pure (wpAny_pure ?_))
    replace hs₂ : Heap.SameBut i1 s.heap h₂ := hs₂
    refine wpAny_bind (wpAny_bind (wpAny_holding ?_))
    show wpAny _ _ (Builtin.SmallTypes.nextOf (.ref i2) >>= _) _ _ _
    refine wpAny_bind (wpAny_nextOf_list_item ((h2.extBut hs₁.extBut D.i2z).extBut hs₂.extBut D.i12.symm) ((hl2.extBut hs₁.extBut D.l2z).extBut hs₂.extBut D.l2i1) hy fun h₃ h2₃ hs₃ => wpAny_pure (wpAny_pure (wpAny_pure ?_)))
    replace hs₃ : Heap.SameBut i2 h₂ h₃ := hs₃
    show wpAny _ _ (newTuple [Value.int x s.toks, y] >>= _) _ _ _
    refine wpAny_bind (wpAny_newTuple ?_)
    have hsz : h₃.objs.size = s.heap.objs.size := by rw [hs₃.1, hs₂.1, hs₁.1]
    refine wpAny_pure ⟨_, rfl, ?_⟩
    show Q (.ref h₃.objs.size) _
    have hT : IsPair (h₃.push { cls := .type "tuple", data := .seq #[.int x s.toks, y] }) h₃.objs.size (.int x s.toks) y := Heap.get?_push_size _ rfl
    have hk : ∀ c o, c ≠ z → c ≠ TO → c ≠ i1 → c ≠ i2 → s.heap.get? c = some o → (h₃.push { cls := .type "tuple", data := .seq #[.int x s.toks, y] }).get? c = some o := fun c o c1 c2 c3 c4 e =>
      Heap.get?_push_of_some _ (hs₃.extBut _ _ c4 (hs₂.extBut _ _ c3 (hs₁.extBut _ _ c1 e)))
    rw [hsz] at hT ⊢
    exact hQ _ (Heap.get?_push_of_some _ (hs₃.extBut _ _ D.i2z.symm (hs₂.extBut _ _ D.i1z.symm hz₁))) (Heap.get?_push_of_some _ (hs₃.extBut _ _ D.i12 h1₂)) (h2₃.at fun o e => Heap.get?_push_of_some _ e) hT (by rw [Heap.size_push, hsz]) hk
  | false =>
    rw [if_pos (show (Value.bool false != Value.bool true) = true from rfl)]
    refine wpAny_bind (wpAny_setField_rec hz (by simp) fun h₁ hz₁ hs₁ => ?_)
    replace hs₁ : Heap.SameBut z s.heap h₁ := hs₁
    replace hz₁ : IsZipO h₁ z TI TO T true := hz₁
    refine wpAny_pure ?_
    simp only [Bool.false_eq_true, if_false]
    simp only [List.forIn_toArray, List.forIn_cons, List.forIn_nil]
    refine wpAny_bind (wpAny_bind (wpAny_bind (wpAny_holding ?_)))
    show wpAny _ _ (Builtin.SmallTypes.nextOf (.ref i1) >>= _) _ _ _
    refine wpAny_bind (next_item (s := { s with heap := h₁ }) (hs₁.extBut _ _ D.i1z h1) hn fun h₂ h1₂ hs₂ => wpAny_pure (wpAny_pure ?_))
    replace hs₂ : Heap.SameBut i1 h₁ h₂ := hs₂
    refine wpAny_bind (wpAny_bind (wpAny_holding ?_))
    show wpAny _ _ (Builtin.SmallTypes.nextOf (.ref i2) >>= _) _ _ _
    refine wpAny_bind (wpAny_nextOf_list_item ((h2.extBut hs₁.extBut D.i2z).extBut hs₂.extBut D.i12.symm) ((hl2.extBut hs₁.extBut D.l2z).extBut hs₂.extBut D.l2i1) hy fun h₃ h2₃ hs₃ => wpAny_pure (wpAny_pure (wpAny_pure ?_)))
    replace hs₃ : Heap.SameBut i2 h₂ h₃ := hs₃
    show wpAny _ _ (newTuple [Value.int x s.toks, y] >>= _) _ _ _
    refine wpAny_bind (wpAny_newTuple ?_)
    have hsz : h₃.objs.size = s.heap.objs.size := by rw [hs₃.1, hs₂.1, hs₁.1]
    refine wpAny_pure ⟨_, rfl, ?_⟩
    show Q (.ref h₃.objs.size) _
    have hT : IsPair (h₃.push { cls := .type "tuple", data := .seq #[.int x s.toks, y] }) h₃.objs.size (.int x s.toks) y := Heap.get?_push_size _ rfl
    have hk : ∀ c o, c ≠ z → c ≠ TO → c ≠ i1 → c ≠ i2 → s.heap.get? c = some o → (h₃.push { cls := .type "tuple", data := .seq #[.int x s.toks, y] }).get? c = some o := fun c o c1 c2 c3 c4 e =>
      Heap.get?_push_of_some _ (hs₃.extBut _ _ c4 (hs₂.extBut _ _ c3 (hs₁.extBut _ _ c1 e)))
    rw [hsz] at hT ⊢
    exact hQ _ (Heap.get?_push_of_some _ (hs₃.extBut _ _ D.i2z.symm (hs₂.extBut _ _ D.i1z.symm hz₁))) (Heap.get?_push_of_some _ (hs₃.extBut _ _ D.i12 h1₂)) (h2₃.at fun o e => Heap.get?_push_of_some _ e) hT (by rw [Heap.size_push, hsz]) hk
/-- the zip ahead of its pair number k -/
def ZSt (h : Heap) (z TI TO i1 i2 l2 : Addr) (x0 : Int) (m : Nat) (S : Addr) (k : Nat) : Prop :=
  IsPair h TI (.ref i1) (.ref i2) ∧ IsRangeIter h i1 (x0 + k) (m - k) 1 ∧ h.IsListIter i2 l2 k ∧
  ((k = 0 ∧ IsZip h z TI TO .none ∧ ∃ a b, IsPair h TO a b) ∨ ∃ T f oT, IsZipO h z TI TO T f ∧ h.get? T = some oT ∧ T ≠ z ∧ T ≠ TO ∧ T ≠ i1 ∧ T ≠ i2 ∧ T ≠ S)
structure ZAp (z TI TO i1 i2 l1 l2 S : Addr) : Prop extends ZipApart z TI TO i1 i2 l1 l2 where
  zS : z ≠ S
  TIS : TI ≠ S
  TOS : TO ≠ S
  i1S : i1 ≠ S
  i2S : i2 ≠ S
  l2S : l2 ≠ S
theorem ZSt.keep {h h' : Heap} {x0 : Int} {m k : Nat} {S : Addr} (D : ZAp z TI TO i1 i2 l1 l2 S) (st : ZSt h z TI TO i1 i2 l2 x0 m S k) (hk : ∀ b o, b ≠ S → h.get? b = some o → h'.get? b = some o) : ZSt h' z TI TO i1 i2 l2 x0 m S k := by
  obtain ⟨h1, h2, h3, h4⟩ := st
  refine ⟨hk _ _ D.TIS h1, hk _ _ D.i1S h2, h3.at fun o e => hk _ o D.i2S e, ?_⟩
  rcases h4 with ⟨e, h4, a, b, h5⟩ | ⟨T, f, oT, h4, h5, c1, c2, c3, c4, c5⟩
  · exact .inl ⟨e, hk _ _ D.zS h4, a, b, hk _ _ D.TOS h5⟩
  · exact .inr ⟨T, f, oT, hk _ _ D.zS h4, hk _ _ c5 h5, c1, c2, c3, c4, c5⟩
theorem zs_type {h : Heap} {x0 : Int} {m : Nat} {S : Addr} (st : ZSt h z TI TO i1 i2 l2 x0 m S k) {s : Shared} (e : s.heap = h) : s.TypeIs (.ref z) "zip" := by
  obtain ⟨h1, h2, h3, h4⟩ := st
  rcases h4 with ⟨_, h4, _⟩ | ⟨T, f, oT, h4, _⟩
  · exact ⟨_, by rw [e]; exact h4, rfl⟩
  · exact ⟨_, by rw [e]; exact h4, rfl⟩
theorem zs_item {x0 : Int} {m : Nat} {S : Addr} {Q : Option Value → Shared → Prop} (D : ZAp z TI TO i1 i2 l1 l2 S) (st : ZSt s.heap z TI TO i1 i2 l2 x0 m S k) (hl2 : s.heap.IsList l2 ys) (hS : S < s.heap.objs.size) (hn : k < m) (hy : ys[k]? = some y)
    (hQ : ∀ h', ZSt h' z TI TO i1 i2 l2 x0 m S (k + 1) → IsPair h' s.heap.objs.size (.int (x0 + k) s.toks) y → h'.objs.size = s.heap.objs.size + 1 →
      (∀ c o, c ≠ z → c ≠ TO → c ≠ i1 → c ≠ i2 → s.heap.get? c = some o → h'.get? c = some o) → Q (some (.ref s.heap.objs.size)) { s with heap := h', toks := s.toks + 1 }) :
    wpAny (model prog w) A (pyNext (.ref z)) Q E s := by
  have hT := zs_type st (s := s) rfl
  obtain ⟨h1, h2, h3, h4⟩ := st
  have ex : x0 + (k : Int) + 1 = x0 + ((k + 1 : Nat) : Int) := by omega
  have em : (m : Int) - (k : Int) - 1 = (m : Int) - ((k + 1 : Nat) : Int) := by omega
  unfold pyNext
  refine wpAny_bind (wpAny_attempt (wpAny_callSpecial?_slot (name := Str.ofString "__next__") hT F.slot_zip_next
    (wpAny_call_entry F.slot_zip_next hT F.entry_zip_next ?_ (F.args_zip_next_1 _))))
  have lt : ∀ {c o}, s.heap.get? c = some o → s.heap.objs.size ≠ c := fun e => Nat.ne_of_gt (Heap.lt_size e)
  rcases h4 with ⟨e, h4, a, b, h5⟩ | ⟨T, f, oT, h4, h5, c1, c2, c3, c4, c5⟩
  · refine item_free D.toZipApart h4 h1 h5 h2 h3 hl2 (by omega) hy fun h' a1 a2 a3 a4 a5 a6 => wpAny_pure (hQ h' ⟨a6 _ _ D.TIz D.TITO D.TIi1 D.TIi2 h1, by rw [← ex, ← em]; exact a2, a3, .inr ⟨_, _, _, a1, a4, lt h4, lt h5, lt h2, ?_, Nat.ne_of_gt hS⟩⟩ a4 a5 a6)
    obtain ⟨_, e3, _⟩ := h3
    exact lt e3
  · exact item_held D.toZipApart h4 h5 h1 h2 h3 hl2 (by omega) hy fun h' a1 a2 a3 a4 a5 a6 => wpAny_pure (hQ h' ⟨a6 _ _ D.TIz D.TITO D.TIi1 D.TIi2 h1, by rw [← ex, ← em]; exact a2, a3, .inr ⟨T, _, _, a1, a6 _ _ c1 c2 c3 c4 h5, c1, c2, c3, c4, c5⟩⟩ a4 a5 a6)
theorem end_free {Q : Fin → Shared → Prop} (hh : A.handled = none) (D : ZipApart z TI TO i1 i2 l1 l2)
    (hz : IsZip s.heap z TI TO .none) (hTI : IsPair s.heap TI (.ref i1) (.ref i2)) (h1 : IsRangeIter s.heap i1 x n 1) (hn : n ≤ 0)
    (hE : ∀ h' e, (∀ c o, c ≠ z → c ≠ TO → c ≠ i1 → c ≠ i2 → s.heap.get? c = some o → h'.get? c = some o) → (∃ o, h'.get? e = some o ∧ o.cls = .type "StopIteration") → E (.ref e) { s with heap := h' }) :
    wpAny (model prog w) A (Builtin.«zip.__next__» ⟨[.ref z], []⟩) Q E s := by
  show wpAny _ _ (field (.ref z) 2 >>= _) _ _ _
  refine wpAny_bind (wpAny_field hz rfl (x := .bool false) rfl ?_)
  show wpAny _ _ (field (.ref z) 3 >>= _) _ _ _
  refine wpAny_bind (wpAny_field hz rfl (x := .ref TI) rfl ?_)
  refine wpAny_bind (wpAny_seqItems hTI rfl ?_)
  show wpAny _ _ (Builtin.SmallTypes.ownedTupleIsFree (.ref z) >>= _) _ _ _
  refine wpAny_bind ?_
  unfold Builtin.SmallTypes.ownedTupleIsFree
  refine wpAny_bind (wpAny_field hz rfl (x := .none) rfl (wpAny_pure ?_))
  simp only [if_true]
  refine wpAny_bind (wpAny_rule ?_)
  refine wpAny_bind (wpAny_field hz rfl (x := .ref TO) rfl ?_)
  refine wpAny_bind (wpAny_setField_rec hz (by simp) fun h₁ hz₁ hs₁ => ?_)
  replace hz₁ : IsZip h₁ z TI TO .ellipsis := hz₁
  refine wpAny_bind ?_
  simp only [List.zipIdx_cons, List.zipIdx_nil, List.forIn_cons, List.forIn_nil]
  refine wpAny_bind (wpAny_bind (wpAny_onRaise ?_))
  show wpAny _ _ (Builtin.SmallTypes.nextOf (.ref i1) >>= _) _ _ _
  refine wpAny_bind (next_end (s := { s with heap := h₁ }) hh (hs₁.extBut _ _ D.i1z h1) hn fun h₂ e hs₂ he => ?_)
  obtain ⟨oe, hoe, hce⟩ := he
  have hz₂ : IsZip h₂ z TI TO .ellipsis := hs₂ _ _ D.i1z.symm hz₁
  have hez : e ≠ z := fun x => by subst x; rw [hz₂] at hoe; cases hoe; simp at hce
  refine wpAny_setField_rec hz₂ (by simp) fun h₃ _ hs₃ => hE h₃ e (fun c o c1 _ c3 _ x => hs₃.extBut _ _ c1 (hs₂ _ _ c3 (hs₁.extBut _ _ c1 x))) ⟨oe, hs₃.extBut _ _ hez hoe, hce⟩
theorem end_held {T : Addr} {f : Bool} {oT : Obj} {Q : Fin → Shared → Prop} (hh : A.handled = none) (D : ZipApart z TI TO i1 i2 l1 l2)
    (hz : IsZipO s.heap z TI TO T f) (hTa : s.heap.get? T = some oT) (hTI : IsPair s.heap TI (.ref i1) (.ref i2)) (h1 : IsRangeIter s.heap i1 x n 1) (hn : n ≤ 0)
    (hE : ∀ h' e, (∀ c o, c ≠ z → c ≠ TO → c ≠ i1 → c ≠ i2 → s.heap.get? c = some o → h'.get? c = some o) → (∃ o, h'.get? e = some o ∧ o.cls = .type "StopIteration") → E (.ref e) { s with heap := h' }) :
    wpAny (model prog w) A (Builtin.«zip.__next__» ⟨[.ref z], []⟩) Q E s := by
  show wpAny _ _ (field (.ref z) 2 >>= _) _ _ _
  refine wpAny_bind (wpAny_field hz rfl (x := .bool false) rfl ?_)
  show wpAny _ _ (field (.ref z) 3 >>= _) _ _ _
  refine wpAny_bind (wpAny_field hz rfl (x := .ref TI) rfl ?_)
  refine wpAny_bind (wpAny_seqItems hTI rfl ?_)
  show wpAny _ _ (Builtin.SmallTypes.ownedTupleIsFree (.ref z) >>= _) _ _ _
  refine wpAny_bind ?_
  unfold Builtin.SmallTypes.ownedTupleIsFree
  refine wpAny_bind (wpAny_field hz rfl (x := rawInt T) rfl ?_)
  show wpAny _ _ (loadIfAlive ((T : Int).toNat) >>= _) _ _ _
  rw [Int.toNat_natCast]
  refine wpAny_bind (PySem.W.kdx_alive hTa ?_)
  simp only [Option.isNone_some, Bool.false_eq_true, if_false]
  refine wpAny_bind (wpAny_field hz rfl (x := .bool f) rfl ?_)
  cases f with
  | true =>
    rw [if_neg (show ¬ ((Value.bool true != Value.bool true) = true) from Bool.false_ne_true)]
    refine wpAny_pure ?_
    simp only [Bool.false_eq_true, if_false]
    simp only [List.forIn_toArray, List.forIn_cons, List.forIn_nil]
    refine wpAny_bind (wpAny_bind (wpAny_bind (wpAny_holding ?_)))
    show wpAny _ _ (Builtin.SmallTypes.nextOf (.ref i1) >>= _) _ _ _
    exact wpAny_bind (next_end hh h1 hn fun h₂ e hs₂ he => hE h₂ e (fun c o c1 _ c3 _ x => hs₂ _ _ c3 x) he)
  | false =>
    rw [if_pos (show (Value.bool false != Value.bool true) = true from rfl)]
    refine wpAny_bind (wpAny_setField_rec hz (by simp) fun h₁ hz₁ hs₁ => ?_)
    replace hs₁ : Heap.SameBut z s.heap h₁ := hs₁
    refine wpAny_pure ?_
    simp only [Bool.false_eq_true, if_false]
    simp only [List.forIn_toArray, List.forIn_cons, List.forIn_nil]
    refine wpAny_bind (wpAny_bind (wpAny_bind (wpAny_holding ?_)))
    show wpAny _ _ (Builtin.SmallTypes.nextOf (.ref i1) >>= _) _ _ _
    exact wpAny_bind (next_end (s := { s with heap := h₁ }) hh (hs₁.extBut _ _ D.i1z h1) hn fun h₂ e hs₂ he => hE h₂ e (fun c o c1 _ c3 _ x => hs₂ _ _ c3 (hs₁.extBut _ _ c1 x)) he)
theorem zs_done {x0 : Int} {m : Nat} {S : Addr} {Q : Option Value → Shared → Prop} (hh : A.handled = none) (D : ZAp z TI TO i1 i2 l1 l2 S) (st : ZSt s.heap z TI TO i1 i2 l2 x0 m S m)
    (hQ : ∀ h', (∀ c o, c ≠ z → c ≠ TO → c ≠ i1 → c ≠ i2 → s.heap.get? c = some o → h'.get? c = some o) → Q none { s with heap := h' }) :
    wpAny (model prog w) A (pyNext (.ref z)) Q E s := by
  have hT := zs_type st (s := s) rfl
  obtain ⟨h1, h2, h3, h4⟩ := st
  unfold pyNext
  refine wpAny_bind (wpAny_attempt (wpAny_callSpecial?_slot (name := Str.ofString "__next__") hT F.slot_zip_next
    (wpAny_call_entry F.slot_zip_next hT F.entry_zip_next ?_ (F.args_zip_next_1 _))))
  rcases h4 with ⟨e, h4, a, b, h5⟩ | ⟨T, f, oT, h4, h5, c1, c2, c3, c4, c5⟩
  · refine end_free hh D.toZipApart h4 h1 h2 (by omega) fun h' e hk ⟨o, ho, hc⟩ => ?_
    exact wpAny_bind (wpAny_isInstance (T := "StopIteration") (b := true) ⟨o, ho, hc⟩ isSubtype_stop (wpAny_pure (hQ _ hk)))
  · refine end_held hh D.toZipApart h4 h5 h1 h2 (by omega) fun h' e hk ⟨o, ho, hc⟩ => ?_
    exact wpAny_bind (wpAny_isInstance (T := "StopIteration") (b := true) ⟨o, ho, hc⟩ isSubtype_stop (wpAny_pure (hQ _ hk)))
/-- the pairs, in tuples of their own -/
structure ZG (x0 : Int) (ys : Array Value) (lo : Addr) (h : Heap) (as : List Addr) : Prop where
  rise : as.Pairwise (· < ·)
  above : ∀ a ∈ as, lo < a
  pairs : ∀ (j : Nat) (a : Addr), as[j]? = some a → ∃ t y, ys[j]? = some y ∧ h.get? a = some { cls := .type "tuple", data := .seq #[.int (x0 + (j : Nat)) t, y] }
theorem ZG.there {x0 : Int} {lo : Addr} {h : Heap} {as : List Addr} (g : ZG x0 ys lo h as) {a : Addr} (ha : a ∈ as) : a < h.objs.size := by
  obtain ⟨j, hj⟩ := List.mem_iff_getElem?.mp ha
  obtain ⟨_, _, _, e⟩ := g.pairs j a hj
  exact Heap.lt_size e
end
section
variable {prog : Program} {w : World} {A : Around} {s : Shared} {R : Result → Shared → Prop} {z TI TO i1 i2 l1 l2 S : Addr} {x0 : Int} {m : Nat} {ys : Array Value}
theorem zs_loop (hh : A.handled = none) (D : ZAp z TI TO i1 i2 l1 l2 S) (bz : z < S) (bTO : TO < S) (b1 : i1 < S) (b2 : i2 < S) (hm : m ≤ ys.size) (hn : m ≤ sizeLine) (res : Value) {h₁ : Heap}
    (hR : ∀ h' tk acc c as, (∀ b o, b ≠ S → b ≠ z → b ≠ TO → b ≠ i1 → b ≠ i2 → h₁.get? b = some o → h'.get? b = some o) → h'.get? S = some { cls := .type "list", dict := none, data := .seq acc c, slots := #[] } → as.length = m → ZG x0 ys S h' as →
      acc.toList = as.map Value.ref → R (.ok (.ret res)) { s with heap := h', toks := tk }) :
    ∀ (k i : Nat) (h : Heap) (tk c : Nat) (acc : Array Value) (as : List Addr), m - i = k → i ≤ m → ZSt h z TI TO i1 i2 l2 x0 m S i → h.IsList l2 ys → (∀ b o, b ≠ S → b ≠ z → b ≠ TO → b ≠ i1 → b ≠ i2 → h₁.get? b = some o → h.get? b = some o) →
      h.get? S = some { cls := .type "list", dict := none, data := .seq acc c, slots := #[] } → acc.toList = as.map Value.ref → as.length = i → ZG x0 ys S h as →
      codeAny (model prog w) A (.builtin "list.extend.loop" ⟨[.ref S, .ref z, res], []⟩) R { s with heap := h, toks := tk } := by
  intro k
  induction k with
  | zero =>
    intro i h tk c acc as hk hi hst hL hkeep hS hacc hal hG
    obtain rfl : i = m := by omega
    refine codeAny_builtin PySem.F.entry_extend_loop ?_
    rw [Around.under_plainId PySem.F.plain_extend_loop _]
    show wpAny _ A.in1 (pyNext (.ref z) >>= _) _ _ _
    refine wpAny_bind (zs_done (s := { s with heap := h, toks := tk }) (A := A.in1) hh D hst fun h' he => ?_)
    refine wpAny_pure (hR h' tk acc c as (fun b o h1 h2 h3 h4 h5 e => he b o h2 h3 h4 h5 (hkeep b o h1 h2 h3 h4 h5 e)) (he S _ D.zS.symm D.TOS.symm D.i1S.symm D.i2S.symm hS) hal ⟨hG.rise, hG.above, fun j a hj => ?_⟩ hacc)
    obtain ⟨t, y, e2, e3⟩ := hG.pairs j a hj
    have ha := hG.above a (List.mem_of_getElem? hj)
    exact ⟨t, y, e2, he a _ (Nat.ne_of_gt (Nat.lt_trans bz ha)) (Nat.ne_of_gt (Nat.lt_trans bTO ha)) (Nat.ne_of_gt (Nat.lt_trans b1 ha)) (Nat.ne_of_gt (Nat.lt_trans b2 ha)) e3⟩
  | succ k ih =>
    intro i h tk c acc as hk hi hst hL hkeep hS hacc hal hG
    have hlt : i < m := by omega
    obtain ⟨y, hy⟩ : ∃ y, ys[i]? = some y := ⟨ys[i]'(by omega), Array.getElem?_eq_getElem (by omega)⟩
    have hsz : acc.size = i := by rw [← Array.length_toList, hacc, List.length_map, hal]
    refine codeAny_builtin PySem.F.entry_extend_loop ?_
    rw [Around.under_plainId PySem.F.plain_extend_loop _]
    show wpAny _ A.in1 (pyNext (.ref z) >>= _) _ _ _
    refine wpAny_bind (zs_item (s := { s with heap := h, toks := tk }) D hst hL (Heap.lt_size hS) hlt hy fun h' hst' ht hz hkp => ?_)
    dsimp only at ht hz hkp ⊢
    have hS' := hkp S _ D.zS.symm D.TOS.symm D.i1S.symm D.i2S.symm hS
    have up : ∀ b o, b ≠ S → h'.get? b = some o → (h'.update S (Obj.mapSeq (·.push (Value.ref h.objs.size)))).get? b = some o := fun b o hb e => (Heap.get?_update_other _ _ (Ne.symm hb)).trans e
    have hSl : S < h.objs.size := Heap.lt_size hS
    show wpAny _ A.in1 (updateSeq S (·.push (Value.ref h.objs.size)) >>= _) _ _ _
    refine wpAny_bind ?_
    refine wpAny_updateSeq hS' rfl (wpAny_pure ⟨plainId_quiet PySem.F.plain_extend_loop _, ih (i + 1) _ (tk + 1) _ (acc.push (Value.ref h.objs.size)) (as ++ [h.objs.size]) (by omega) hlt (hst'.keep D up) (hL.at fun o e => up l2 o D.l2S (hkp l2 o D.l2z D.l2TO D.l2i1 D.l2i2 e))
      (fun b o h1 h2 h3 h4 h5 e => up b o h1 (hkp b o h2 h3 h4 h5 (hkeep b o h1 h2 h3 h4 h5 e))) (Heap.get?_update_self _ hS' rfl) (by rw [Array.toList_push, hacc, List.map_append]; rfl) (by rw [List.length_append, hal]; rfl) ⟨?_, ?_, ?_⟩⟩) (by rw [hsz]; omega) (by show (acc.push (Value.ref h.objs.size)).size ≤ sizeLine + 1; rw [Array.size_push, hsz]; omega)
    · refine List.pairwise_append.mpr ⟨hG.rise, List.pairwise_singleton _ _, fun a ha b hb => ?_⟩
      rw [List.mem_singleton.mp hb]
      exact hG.there ha
    · intro a ha
      rcases List.mem_append.mp ha with ha | ha
      · exact hG.above a ha
      · rw [List.mem_singleton.mp ha]; exact hSl
    · intro j b hj
      rcases Nat.lt_trichotomy j as.length with h1 | h1 | h1
      · rw [List.getElem?_append_left h1] at hj
        obtain ⟨t', y', e2, e3⟩ := hG.pairs j b hj
        have hb := hG.above b (List.mem_of_getElem? hj)
        exact ⟨t', y', e2, up b _ (Nat.ne_of_gt hb) (hkp b _ (Nat.ne_of_gt (Nat.lt_trans bz hb)) (Nat.ne_of_gt (Nat.lt_trans bTO hb)) (Nat.ne_of_gt (Nat.lt_trans b1 hb)) (Nat.ne_of_gt (Nat.lt_trans b2 hb)) e3)⟩
      · subst h1
        have hb : h.objs.size = b := by simpa using hj
        subst hb
        exact ⟨tk, y, by rw [hal]; exact hy, by rw [hal]; exact up _ _ (Nat.ne_of_gt hSl) ht⟩
      · have hnone : (as ++ [h.objs.size])[j]? = none := List.getElem?_eq_none (by rw [List.length_append, List.length_singleton]; omega)
        rw [hnone] at hj; cases hj
end
theorem nolen_zip : typeLookup (.type "zip") "__len__" = pure none := by rw [typeLookup_type, builtinLookup_eq_fast]; kernel_rfl
theorem nohint_zip : typeLookup (.type "zip") "__length_hint__" = pure none := by rw [typeLookup_type, builtinLookup_eq_fast]; kernel_rfl
section
variable {prog : Program} {w : World} {A : Around} {E : Value → Shared → Prop} {s : Shared} {z TI TO i1 i2 l1 l2 S : Addr} {x0 : Int} {m : Nat} {ys : Array Value}
theorem zs_extend {R : Result → Shared → Prop} (hh : A.handled = none) (D : ZAp z TI TO i1 i2 l1 l2 S) (bz : z < S) (bTO : TO < S) (b1 : i1 < S) (b2 : i2 < S) (hz : IsZip s.heap z TI TO .none) (hTI : IsPair s.heap TI (.ref i1) (.ref i2)) (hTO : IsPair s.heap TO .none .none)
    (h1 : IsRangeIter s.heap i1 x0 m 1) (h2 : s.heap.IsListIter i2 l2 0) (hl2 : s.heap.IsList l2 ys) (hm : m ≤ ys.size) (res : Value) (c₀ : Nat) (hS : s.heap.get? S = some { cls := .type "list", data := .seq #[] c₀ })
    (hR : ∀ h' tk acc c as, (∀ b o, b ≠ S → b ≠ z → b ≠ TO → b ≠ i1 → b ≠ i2 → s.heap.get? b = some o → h'.get? b = some o) → h'.get? S = some { cls := .type "list", dict := none, data := .seq acc c, slots := #[] } → as.length = m → ZG x0 ys S h' as →
      acc.toList = as.map Value.ref → R (.ok (.ret res)) { s with heap := h', toks := tk }) (hn : m ≤ sizeLine) :
    wpAny (model prog w) A.in1 (Builtin.List.listExtendWith (.ref S) (.ref z) res)
      (fun fin s' => match fin with | .done f => R (.ok f) s' | .again c' => c'.quiet = true ∧ codeAny (model prog w) A c' R s') (fun e s' => R (.error e) s') s := by
  have hT : s.TypeIs (.ref z) "zip" := ⟨_, hz, rfl⟩
  unfold Builtin.List.listExtendWith
  refine wpAny_bind (wpAny_typeOf hT ?_)
  have e1 : Builtin.List.listSameRef (.ref S) (.ref z) = false := by simp [Builtin.List.listSameRef, D.zS.symm]
  have e2 : (Value.type "zip" == Value.type "list") = false := by decide
  have e3 : (Value.type "zip" == Value.type "tuple") = false := by decide
  simp only [e1, e2, e3, Bool.or_false, Bool.false_eq_true, if_false]
  refine wpAny_bind (wpAny_pyIter_zip hz ?_)
  refine wpAny_bind (wpAny_holding ?_)
  unfold Builtin.List.listLengthHint
  refine wpAny_bind (wpAny_specialOf hT nolen_zip ?_)
  show wpAny _ A.in1 (specialOf (Value.ref z) (Str.ofString "__length_hint__") >>= _) _ _ _
  refine wpAny_bind (wpAny_specialOf hT nohint_zip ?_)
  refine wpAny_pure ?_
  show wpAny _ A.in1 (rule "list.extend.makes-room" >>= fun _ => Builtin.List.listTouch (.ref S) >>= fun _ =>
    again (.builtin "list.extend.loop" ⟨[.ref S, .ref z, res], []⟩)) _ _ _
  refine wpAny_bind (wpAny_rule ?_)
  refine wpAny_bind ?_
  show wpAny _ A.in1 (updateSeq S (·.push .none) >>= fun _ => updateSeq S (·.pop)) _ _ _
  refine wpAny_bind (wpAny_updateSeq hS rfl ?_)
  have hS₂ := Heap.get?_update_self (Obj.mapSeq (·.push Value.none)) hS rfl
  refine wpAny_updateSeq (hz := by seq_fits) hS₂ rfl ?_
  have hS₃ := Heap.get?_update_self (Obj.mapSeq (·.pop)) hS₂ rfl
  have oth : ∀ b o, b ≠ S → s.heap.get? b = some o → ((s.heap.update S (Obj.mapSeq (·.push Value.none))).update S (Obj.mapSeq (·.pop))).get? b = some o :=
    fun b o hb e => (Heap.get?_update_other _ _ (Ne.symm hb)).trans ((Heap.get?_update_other _ _ (Ne.symm hb)).trans e)
  refine wpAny_pure ⟨plainId_quiet PySem.F.plain_extend_loop _, zs_loop (x0 := x0) (m := m) (ys := ys) (s := s) (h₁ := s.heap) hh D bz bTO b1 b2 hm hn res hR m 0 _ s.toks _ #[] [] (Nat.sub_zero _) (Nat.zero_le _) ⟨oth _ _ D.TIS hTI, ?_, h2.at fun o e => oth _ o D.i2S e, .inl ⟨rfl, oth _ _ D.zS hz, _, _, oth _ _ D.TOS hTO⟩⟩ (hl2.at fun o e => oth _ o D.l2S e)
    (fun b o hb _ _ _ _ e => oth b o hb e) hS₃ rfl rfl ⟨List.Pairwise.nil, (fun _ ha => nomatch ha), (fun j a hj => by simp at hj)⟩⟩
  have q := oth _ _ D.i1S h1
  have ex : x0 + ((0 : Nat) : Int) = x0 := by omega
  have em : (m : Int) - ((0 : Nat) : Int) = m := by omega
  rw [ex, em]
  exact q
theorem zs_init {R : Result → Shared → Prop} (hh : A.handled = none) (D : ZAp z TI TO i1 i2 l1 l2 S) (bz : z < S) (bTO : TO < S) (b1 : i1 < S) (b2 : i2 < S) (hz : IsZip s.heap z TI TO .none) (hTI : IsPair s.heap TI (.ref i1) (.ref i2)) (hTO : IsPair s.heap TO .none .none)
    (h1 : IsRangeIter s.heap i1 x0 m 1) (h2 : s.heap.IsListIter i2 l2 0) (hl2 : s.heap.IsList l2 ys) (hm : m ≤ ys.size) (hS : s.heap.get? S = some { cls := .type "list", data := .seq #[] })
    (hR : ∀ h' tk acc c as, (∀ b o, b ≠ S → b ≠ z → b ≠ TO → b ≠ i1 → b ≠ i2 → s.heap.get? b = some o → h'.get? b = some o) → h'.get? S = some { cls := .type "list", dict := none, data := .seq acc c, slots := #[] } → as.length = m → ZG x0 ys S h' as →
      acc.toList = as.map Value.ref → R (.ok (.ret .none)) { s with heap := h', toks := tk }) (hn : m ≤ sizeLine) :
    wpAny (model prog w) A.in1 (Builtin.«list.__init__» ⟨[.ref S, .ref z], []⟩)
      (fun fin s' => match fin with | .done f => R (.ok f) s' | .again c' => c'.quiet = true ∧ codeAny (model prog w) A c' R s') (fun e s' => R (.error e) s') s := by
  show wpAny _ _ (do let old ← Builtin.List.listItems (.ref S); Builtin.List.listUpdate (.ref S) (fun _ => #[]); letGo old.toList.reverse; Builtin.List.listExtendWith (.ref S) (.ref z) .none) _ _ s
  refine wpAny_bind ?_
  unfold Builtin.List.listItems
  refine wpAny_bind (wpAny_seqItems hS rfl (wpAny_pure ?_))
  show wpAny _ _ (updateSeq S (fun _ => #[]) >>= fun _ => letGo (#[] : Array Value).toList.reverse >>= fun _ => Builtin.List.listExtendWith (.ref S) (.ref z) .none) _ _ s
  refine wpAny_bind (wpAny_updateSeq hS rfl ?_)
  have hS₂ := Heap.get?_update_self (Obj.mapSeq (fun _ => (#[] : Array Value))) hS rfl
  have oth : ∀ b o, b ≠ S → s.heap.get? b = some o → (s.heap.update S (Obj.mapSeq (fun _ => (#[] : Array Value)))).get? b = some o :=
    fun b o hb e => (Heap.get?_update_other _ _ (Ne.symm hb)).trans e
  refine wpAny_bind (wpAny_letGo ?_)
  exact zs_extend (s := { s with heap := s.heap.update S (Obj.mapSeq (fun _ => (#[] : Array Value))) }) hh D bz bTO b1 b2 (oth _ _ D.zS hz) (oth _ _ D.TIS hTI) (oth _ _ D.TOS hTO) (oth _ _ D.i1S h1) (h2.at fun o e => oth _ o D.i2S e) (hl2.at fun o e => oth _ o D.l2S e) hm .none _ hS₂
    (fun h' tk acc c as hk hS' hl hG hacc => hR h' tk acc c as (fun b o n1 n2 n3 n4 n5 e => hk b o n1 n2 n3 n4 n5 (oth b o n1 e)) hS' hl hG hacc) hn
/-- list(z), z = zip(range, xs) just made -/
theorem call_list_z {Q : Value → Shared → Prop} (hh : A.handled = none) (D : ZipApart z TI TO i1 i2 l1 l2) (hz : IsZip s.heap z TI TO .none) (hTI : IsPair s.heap TI (.ref i1) (.ref i2)) (hTO : IsPair s.heap TO .none .none)
    (h1 : IsRangeIter s.heap i1 x0 m 1) (h2 : s.heap.IsListIter i2 l2 0) (hl2 : s.heap.IsList l2 ys) (hm : m ≤ ys.size) (hn : m ≤ sizeLine)
    (hQ : ∀ h' tk acc c as, (∀ b o, b ≠ z → b ≠ TO → b ≠ i1 → b ≠ i2 → s.heap.get? b = some o → h'.get? b = some o) → h'.get? s.heap.objs.size = some { cls := .type "list", dict := none, data := .seq acc c, slots := #[] } → as.length = m → ZG x0 ys s.heap.objs.size h' as →
      acc.toList = as.map Value.ref → Q (.ref s.heap.objs.size) { s with heap := h', toks := tk }) :
    wpAny (model prog w) A (call (.type "list") [.ref z]) Q E s := by
  have lt : ∀ {c o}, s.heap.get? c = some o → c < s.heap.objs.size := fun e => Heap.lt_size e
  have b2 : i2 < s.heap.objs.size := by obtain ⟨_, e, _⟩ := h2; exact lt e
  have b3 : l2 < s.heap.objs.size := by obtain ⟨_, e, _⟩ := hl2; exact lt e
  have D' : ZAp z TI TO i1 i2 l1 l2 s.heap.objs.size := ⟨D, Nat.ne_of_lt (lt hz), Nat.ne_of_lt (lt hTI), Nat.ne_of_lt (lt hTO), Nat.ne_of_lt (lt h1), Nat.ne_of_lt b2, Nat.ne_of_lt b3⟩
  refine callType_codes (Q₁ := fun obj s₁ => obj = .ref s.heap.objs.size ∧ s₁ = { s with heap := s.heap.push { cls := .type "list", data := .seq #[] } }) PySem.F.called_list (PySem.F.typeCall_list_1 _) PySem.F.entry_list_init
    (code_list_new _ ⟨rfl, rfl⟩) fun obj s₁ h₁ => ?_
  obtain ⟨rfl, rfl⟩ := h₁
  have hS : (s.heap.push { cls := .type "list", data := .seq #[] }).get? s.heap.objs.size = some { cls := .type "list", data := .seq #[] } := Heap.get?_push_size _ rfl
  refine ⟨⟨_, hS, rfl⟩, PySem.F.args_list_init_2 _ _, zs_init (A := A.in1) (s := { s with heap := s.heap.push { cls := .type "list", data := .seq #[] } }) hh D' (lt hz) (lt hTO) (lt h1) b2 (Heap.get?_push_of_some _ hz) (Heap.get?_push_of_some _ hTI) (Heap.get?_push_of_some _ hTO) (Heap.get?_push_of_some _ h1) (h2.at fun o e => Heap.get?_push_of_some _ e) (hl2.at fun o e => Heap.get?_push_of_some _ e) hm hS (fun h' tk acc c as hk hS' hl hG hacc => ?_) hn⟩
  exact ⟨rfl, hQ h' tk acc c as (fun b o n1 n2 n3 n4 e => hk b o (Nat.ne_of_lt (Heap.lt_size e)) n1 n2 n3 n4 (Heap.get?_push_of_some _ e)) hS' hl hG hacc⟩
end
abbrev zH1 (h : Heap) (x n : Int) : Heap := h.push { cls := .type "range_iterator", data := .fields #[rawInt x, rawInt n, rawInt 1] }
abbrev zH2 (h : Heap) (x n : Int) (l2 : Addr) : Heap := (zH1 h x n).push { cls := .type "list_iterator", data := .fields #[.ref l2, .int 0 0] }
abbrev zH3 (h : Heap) (x n : Int) (l2 : Addr) : Heap := (zH2 h x n l2).push { cls := .type "tuple", data := .seq #[.ref h.objs.size, .ref (zH1 h x n).objs.size] }
abbrev zH4 (h : Heap) (x n : Int) (l2 : Addr) : Heap := (zH3 h x n l2).push { cls := .type "tuple", data := .seq #[.none, .none] }
abbrev zH5 (h : Heap) (x n : Int) (l2 : Addr) : Heap := (zH4 h x n l2).push { cls := .type "zip", data := .fields #[.none, .bool false, .bool false, .ref (zH2 h x n l2).objs.size, .ref (zH3 h x n l2).objs.size] }
theorem meets_z_new (r l2 : Addr) (a b : Int) (t u v : Tok) (ys : Array Value) (hs : Builtin.Range.small a b 1 = true) :
    Meets (Builtin.«zip.__new__» ⟨[.type "zip", .ref r, .ref l2], []⟩) (fun _ R s => IsRange s.heap r a b 1 t u v ∧ s.heap.IsList l2 ys ∧
      R (.ok (.ret (.ref (zH4 s.heap a (Builtin.Range.rangeSize a b 1) l2).objs.size))) { s with heap := zH5 s.heap a (Builtin.Range.rangeSize a b 1) l2 }) :=
  .of_wp fun prog w A R s h => by
    obtain ⟨hp, g, d, tk, os⟩ := s; obtain ⟨hr, hl2, h⟩ := h
    have hsub := sub_zip
    have hR : IsRange (Shared.heap ⟨hp, g, d, tk, os⟩) r a b 1 t u v := hr
    have hL2 : Heap.IsList (Shared.heap ⟨hp.push { cls := .type "range_iterator", data := .fields #[rawInt a, rawInt (Builtin.Range.rangeSize a b 1), rawInt 1] }, g, d, tk, os⟩) l2 ys := Heap.IsList.push hl2 _
    wp_walk using wpAny_pyIter_range hR hs, wpAny_pyIter_list hL2
    exact ⟨_, rfl, h⟩
section
variable {prog : Program} {w : World} {A : Around} {E : Value → Shared → Prop} {s : Shared}
theorem call_zipR {r l2 : Addr} {a b : Int} {t u v : Tok} {ys : Array Value} {Q : Value → Shared → Prop} (hr : IsRange s.heap r a b 1 t u v) (hl2 : s.heap.IsList l2 ys) (hs : Builtin.Range.small a b 1 = true)
    (h : ∀ h', IsZip h' (s.heap.objs.size + 4) (s.heap.objs.size + 2) (s.heap.objs.size + 3) .none → IsPair h' (s.heap.objs.size + 2) (.ref s.heap.objs.size) (.ref (s.heap.objs.size + 1)) →
      IsPair h' (s.heap.objs.size + 3) .none .none → IsRangeIter h' s.heap.objs.size a (Builtin.Range.rangeSize a b 1) 1 → h'.IsListIter (s.heap.objs.size + 1) l2 0 → h'.objs.size = s.heap.objs.size + 5 →
      (∀ c o, s.heap.get? c = some o → h'.get? c = some o) → Q (.ref (s.heap.objs.size + 4)) { s with heap := h' }) :
    wpAny (model prog w) A (call (.type "zip") [.ref r, .ref l2]) Q E s := by
  refine callType_new F.called_zip (by decide) (F.typeCall_zip_2 _ _) (F.newCall_zip_2 _ _) (fun obj => F.args_object_init_3 obj _ _) F.entry_zip_new
    (meets_z_new r l2 a b t u v ys hs) ⟨hr, hl2, ?_⟩
  generalize hN : Builtin.Range.rangeSize a b 1 = N at h ⊢
  have z1 : (zH1 s.heap a N).objs.size = s.heap.objs.size + 1 := Heap.size_push ..
  have z2 : (zH2 s.heap a N l2).objs.size = s.heap.objs.size + 2 := by rw [Heap.size_push, z1]
  have z3 : (zH3 s.heap a N l2).objs.size = s.heap.objs.size + 3 := by rw [Heap.size_push, z2]
  have z4 : (zH4 s.heap a N l2).objs.size = s.heap.objs.size + 4 := by rw [Heap.size_push, z3]
  have z5 : (zH5 s.heap a N l2).objs.size = s.heap.objs.size + 5 := by rw [Heap.size_push, z4]
  have g5 : (zH5 s.heap a N l2).get? (zH4 s.heap a N l2).objs.size = some _ := Heap.get?_push_size _ rfl
  have g4 : (zH5 s.heap a N l2).get? (zH3 s.heap a N l2).objs.size = some _ := Heap.get?_push_of_some _ (Heap.get?_push_size _ rfl)
  have g3 : (zH5 s.heap a N l2).get? (zH2 s.heap a N l2).objs.size = some _ := Heap.get?_push_of_some _ (Heap.get?_push_of_some _ (Heap.get?_push_size _ rfl))
  have g2 : (zH5 s.heap a N l2).get? (zH1 s.heap a N).objs.size = some _ := Heap.get?_push_of_some _ (Heap.get?_push_of_some _ (Heap.get?_push_of_some _ (Heap.get?_push_size _ rfl)))
  have g1 : (zH5 s.heap a N l2).get? s.heap.objs.size = some _ := Heap.get?_push_of_some _ (Heap.get?_push_of_some _ (Heap.get?_push_of_some _ (Heap.get?_push_of_some _ (Heap.get?_push_size _ rfl))))
  show _ ∧ _
  rw [z2, z3, z4] at g5
  rw [z1, z2] at g3
  rw [z3] at g4
  rw [z1] at g2
  rw [z4]
  exact ⟨⟨_, g5, rfl⟩, h _ g5 g3 g4 g1 ⟨_, g2, rfl, rfl⟩ z5 fun c o x =>
    Heap.get?_push_of_some _ (Heap.get?_push_of_some _ (Heap.get?_push_of_some _ (Heap.get?_push_of_some _ (Heap.get?_push_of_some _ x))))⟩
end
section
open PySem.Calls L2 Lt
variable {X : Cx} {pins : List (Addr × Obj)} {σ : L2.St} {H : Hp} {s : Shared} {h' : Heap} {tk : Nat}
/-- a, a + 1, .. each with its number of ys -/
def zipF : Int → List Int → List (Int × Int)
  | _, [] => []
  | a, y :: r => (a, y) :: zipF (a + 1) r
theorem zipF_len : ∀ (a : Int) (ys : List Int), (zipF a ys).length = ys.length
  | _, [] => rfl
  | a, _ :: r => congrArg Nat.succ (zipF_len (a + 1) r)
theorem zipF_get : ∀ (a : Int) (ys : List Int) (j : Nat), (zipF a ys)[j]? = ys[j]?.map fun y => (a + (j : Nat), y)
  | a, [], j => by simp [zipF]
  | a, y :: r, 0 => by
    simp only [zipF, List.getElem?_cons_zero, Option.map_some]
    congr 2
    omega
  | a, y :: r, j + 1 => by
    simp only [zipF, List.getElem?_cons_succ, zipF_get (a + 1) r j]
    congr 1
    funext y
    congr 1
    omega
def kvs2 (ps : List (Int × Int)) : List (Key × V) := ps.map fun p => (.inl p.1, .int p.2)
theorem dvRefs {H : Hp} : ∀ {as : List Addr} {ps : List (Int × Int)}, Paired (fun (t : Addr) (p : Key × V) => H t = some (.tup [kV p.1, p.2])) as (kvs2 ps) → DvAll H (as.map V.ref) (ps.map dPair)
  | [], [], _ => .nil
  | [], _ :: _, h => by cases h
  | _ :: _, [], h => by cases h
  | a :: as, p :: ps, .cons h t => .cons (.tup h (.cons (.int _) (.cons (.int _) .nil))) (dvRefs t)
theorem zs_laid {a : Int} {ys : List Int} {us : Array Value} {acc : Array Value} {c : Nat} {as : List Addr} {S : Addr} (I : Inv X pins σ H s) (hS0 : s.heap.objs.size ≤ S) (hz : ys.length ≤ sizeLine) (hv : Vals (ys.map V.int) us.toList)
    (hk : ∀ b o, s.heap.get? b = some o → h'.get? b = some o) (hS : h'.get? S = some { cls := .type "list", dict := none, data := .seq acc c, slots := #[] }) (hl : as.length = ys.length) (hG : ZG a us S h' as) (hacc : acc.toList = as.map Value.ref) :
    ∃ H' : Hp, Same H H' ∧ H' S = none ∧ DvAll H' (as.map V.ref) ((zipF a ys).map dPair) ∧ Inv X pins σ (upd H' S (.lst (as.map V.ref))) { s with heap := h', toks := tk } := by
  have hSn : S ∉ as := fun z => Nat.lt_irrefl _ (hG.above _ z)
  have nd : as.Nodup := List.Pairwise.imp (fun {a b} (h : a < b) => Nat.ne_of_lt h) hG.rise
  have new : ∀ t ∈ as, H t = none := fun t ht => I.hok.fresh (Nat.le_of_lt (Nat.lt_of_le_of_lt hS0 (hG.above t ht)))
  have newS : H S = none := I.hok.fresh hS0
  have ll : as.length = (kvs2 (zipF a ys)).length := by unfold kvs2; rw [List.length_map, zipF_len, hl]
  have atP := LiI.putT_at as (kvs2 (zipF a ys)) H ll nd
  have off : ∀ b, b ∉ as → LiI.putT H as (kvs2 (zipF a ys)) b = H b := fun b h1 => LiI.putT_off as _ H h1
  have low : ∀ b o, s.heap.get? b = some o → b ∉ as ∧ b ≠ S := fun b o e => ⟨fun z => absurd (Heap.lt_size e) (Nat.not_lt.mpr (Nat.le_of_lt (Nat.lt_of_le_of_lt hS0 (hG.above b z)))), Nat.ne_of_lt (Nat.lt_of_lt_of_le (Heap.lt_size e) hS0)⟩
  have kp : Same H (LiI.putT H as (kvs2 (zipF a ys))) := fun b u e => by
    rw [off b fun z => by rw [new b z] at e; cases e]
    exact e
  have eS : LiI.putT H as (kvs2 (zipF a ys)) S = none := (off S hSn).trans newS
  refine ⟨LiI.putT H as (kvs2 (zipF a ys)), kp, eS, dvRefs atP, ?_⟩
  have kp2 : ∀ b u, H b = some u → upd (LiI.putT H as (kvs2 (zipF a ys))) S (.lst (as.map V.ref)) b = some u := fun b u e => by
    rw [upd_ne fun z => by rw [z, newS] at e; cases e]
    exact kp b u e
  refine I.call' (ch := []) rfl ⟨fun b o q _ _ _ => hk b o q, fun b o q _ _ _ => ⟨o.slots, hk b o q⟩, fun b o q n _ => ?_, fun b o q _ => ⟨o, hk b o q⟩, fun b xs q => kp2 b _ q, fun b o u q => kp2 b _ q, fun b ps q => ⟨#[], by rw [kp2 b _ q]; simp⟩⟩ (fun b u q => ?_) I.bare fun b z => by simp at z
  · obtain ⟨z1, z2⟩ := low b o q
    rw [upd_ne z2, off b z1]
    exact n
  · by_cases hb2 : b = S
    · rw [hb2] at q ⊢
      rw [upd_same] at q
      cases q
      refine ⟨by rw [List.length_map]; omega, acc.toList, c, by rw [hacc]; exact LiI.vals_refs as, ?_⟩
      rw [Array.toArray_toList]
      exact hS
    · rw [upd_ne hb2] at q
      by_cases hb : b ∈ as
      · obtain ⟨j, pk, e1, e2, e3⟩ := LiI.paired_ix atP hb
        rw [e3] at q
        cases q
        obtain ⟨t, y, f1, f3⟩ := hG.pairs j b e1
        unfold kvs2 at e2
        rw [List.getElem?_map, zipF_get] at e2
        cases e4 : ys[j]? with
        | none => rw [e4] at e2; simp at e2
        | some n =>
          rw [e4] at e2
          obtain rfl := Option.some.inj e2
          obtain ⟨u, g1, g2⟩ := hv.get (i := j) (x := V.int n) (by rw [List.getElem?_map, e4]; rfl)
          rw [Array.getElem?_toList, f1] at g1
          obtain rfl := Option.some.inj g1
          exact ⟨by show 2 ≤ sizeLine; decide, [.int (a + (j : Nat)) t, y], .cons ⟨t, rfl⟩ (.cons g2 .nil), ⟨_, f3, rfl, _, rfl⟩⟩
      · rw [off b hb] at q
        exact (I.hok b u q).stay (fun d v _ y => hk d v y) (fun d y => kp2 d _ y) fun d xs y => kp2 d _ y
def sZip (ta tb tx : TE) : TE := fun σ H Q => ta σ H fun x H1 => tb σ H1 fun y H2 => ∃ a b : Int, x = .int a ∧ y = .int b ∧ tx σ H2 fun z H3 => ∃ (p : Addr) (L : List Asn) (ys : List Int), z = .ref p ∧ Hs L H3 ∧ HasL L p (ys.map PyData.int) ∧ RgOk a b ∧ b - a = ys.length ∧
  ∀ q H', Hs (isL q ((zipF a ys).map dPair) :: L) H' → Q (.ref q) H'
theorem pe_zip {ea eb ex : Expr} {ta tb tx : TE} {p p2 p3 pos pos2 pos3 : Pos} (hc : X.calm = true) (hg : Gl X "list") (hm : X.mg "list" = none) (hg2 : Gl X "zip") (hm2 : X.mg "zip" = none) (hg3 : Gl X "range") (hm3 : X.mg "range" = none)
    (ha : PE X ea ta) (hb : PE X eb tb) (hx : PE X ex tx)
    (na : starEach [ea, eb] X.env = (false, eval ea X.env) :: starEach [eb] X.env := by rfl) (nb : starEach [eb] X.env = (false, eval eb X.env) :: starEach [] X.env := by rfl) (hp : (backTo pos3 (starEach [eb] X.env)).any (·.1) = false := by rfl)
    (nr : starEach [.Call (.Name "range" p3) [ea, eb] [] pos3, ex] X.env = (false, eval (.Call (.Name "range" p3) [ea, eb] [] pos3) X.env) :: starEach [ex] X.env := by rfl) (nx : starEach [ex] X.env = (false, eval ex X.env) :: starEach [] X.env := by rfl) (hp2 : (backTo pos2 (starEach [ex] X.env)).any (·.1) = false := by rfl)
    (nz : starEach [.Call (.Name "zip" p2) [.Call (.Name "range" p3) [ea, eb] [] pos3, ex] [] pos2] X.env = (false, eval (.Call (.Name "zip" p2) [.Call (.Name "range" p3) [ea, eb] [] pos3, ex] [] pos2) X.env) :: starEach [] X.env := by rfl) :
    PE X (.Call (.Name "list" p) [.Call (.Name "zip" p2) [.Call (.Name "range" p3) [ea, eb] [] pos3, ex] [] pos2] [] pos) (sZip ta tb tx) := by
  refine ⟨fun pins s σ H Q I h => ?_⟩
  refine Call_ (ld_blt I hg hm boot_list (PyProof.Rows.callWith_type1 (args_cons ?_ nz) nz))
  refine Call_ (ld_blt I hg2 hm2 PyProof.Rows.boot_zip (PyProof.Rows.callWith_type1 (args_cons ?_ nr) nr hp2))
  refine Call_ (ld_blt I hg3 hm3 boot_range (PyProof.Rows.callWith_type1 (args_cons (thn (ha.run pins s σ H _ I h) fun v s1 ⟨x, H1, I1, r1, q1⟩ => one_arg hb I1 q1 (fun u s2 y H2 I2 r2 q => ?_) nb) na) na hp))
  obtain ⟨a, b, rfl, rfl, q⟩ := q
  obtain ⟨t, rfl⟩ := r1
  obtain ⟨t', rfl⟩ := r2
  refine call_range_2 ?_
  have I3 : L2.Inv X ((s2.heap.objs.size, ({ cls := .type "range", dict := none, data := .fields #[.int a t, .int b t', .int 1 s2.toks], slots := #[] } : Obj)) :: pins) σ H2 { s2 with heap := s2.heap.push { cls := .type "range", data := .fields #[.int a t, .int b t', .int 1 s2.toks] }, toks := s2.toks + 1 } := by
    have J : L2.Inv X pins σ H2 { s2 with heap := s2.heap.push { cls := .type "range", data := .fields #[.int a t, .int b t', .int 1 s2.toks] }, toks := s2.toks + 1 } := I2.kept fun b u e => Heap.get?_push_of_some _ e
    refine J.pins_of fun p hp => ?_
    rcases List.mem_cons.mp hp with rfl | hp
    · obtain ⟨f1, f2, f3, _⟩ := I2.fpOk (Nat.le_refl _) (I2.hok.fresh (Nat.le_refl _))
      exact ⟨Heap.get?_push_size _ rfl, f1, f2, f3, fun v z => by cases z⟩
    · exact J.pin p (List.mem_append_right _ hp)
  refine one_arg hx I3 q (fun v4 s4 z H4 I4 r4 q4 => ?_) nx
  obtain ⟨p, L, ys, rfl, hS, k, hr, hl, q4⟩ := q4
  obtain rfl : v4 = Value.ref p := r4
  obtain ⟨its, rv, pl, hz⟩ := I4.list (SqL.of (k.ints hS))
  have hrg := (I4.pin _ (List.mem_append_right _ List.mem_cons_self)).1
  obtain ⟨b1, b2, b3, b4, b5⟩ := hr
  have I5 : L2.Inv X pins σ H4 s4 := I4.pins_of fun p hp => I4.pin p (List.mem_append_right _ (List.mem_cons_of_mem _ hp))
  have eN : Builtin.Range.rangeSize a b 1 = (ys.length : Int) := by
    have e := rangeSize_nat a b
    omega
  have hys : ys.length = its.length := by
    have := rv.length
    rw [List.length_map] at this
    exact this
  have hyl : ys.length ≤ sizeLine := by
    rw [List.length_map] at hz
    exact hz
  have hlp : p < s4.heap.objs.size := by
    obtain ⟨_, e, _⟩ := pl.isList
    exact Heap.lt_size e
  have hrp : s2.heap.objs.size < s4.heap.objs.size := Heap.lt_size hrg
  refine call_zipR hrg pl.isList (small_one b1 b2 b3 b4) fun h' hz hTI hTO h1 h2 hsz hk => args_nil ?_
  rw [eN] at h1
  refine call_list_z (s := { s4 with heap := h' }) (I1.ok.hd hc) (PyProof.Rows.zipApart_new hlp hlp) hz hTI hTO h1 h2 (pl.isList.at fun o e => hk _ o e) (by rw [List.size_toArray, hys]; exact Nat.le_refl _) hyl fun h5 tk acc c as hk5 hS5 hl5 hG hacc => ?_
  have hk6 : ∀ b o, s4.heap.get? b = some o → h5.get? b = some o := fun b o e => by
    have l := Heap.lt_size e
    exact hk5 b o (Nat.ne_of_lt (Nat.lt_of_lt_of_le l (Nat.le_add_right _ 4))) (Nat.ne_of_lt (Nat.lt_of_lt_of_le l (Nat.le_add_right _ 3))) (Nat.ne_of_lt l) (Nat.ne_of_lt (Nat.lt_of_lt_of_le l (Nat.le_add_right _ 1))) (hk b o e)
  obtain ⟨H', e1, e2, e3, e4⟩ := zs_laid (tk := tk) (ys := ys) (us := its.toArray) (S := h'.objs.size) I5 (by omega) hyl (by rw [List.toList_toArray]; exact rv) hk6 hS5 hl5 hG hacc
  exact ⟨.ref _, _, e4, rfl, q4 _ _ ((hS.sub e1).newL e2 e3)⟩
theorem k_sZip {ta tb tx : TE} {Q : VK} (h : ta σ H fun x H1 => tb σ H1 fun y H2 => ∃ a b : Int, x = .int a ∧ y = .int b ∧ tx σ H2 fun z H3 => ∃ (p : Addr) (L : List Asn) (ys : List Int), z = .ref p ∧ Hs L H3 ∧ HasL L p (ys.map PyData.int) ∧ RgOk a b ∧ b - a = ys.length ∧
  ∀ q H', Hs (isL q ((zipF a ys).map dPair) :: L) H' → Q (.ref q) H') : sZip ta tb tx σ H Q := h
end
end Zr
/-! slices with a step; comprehensions with two fors -/
namespace Lt
open PySem PySem.Spec PyProof.Rows L2
def stepD {α : Type} (lo hi st : Option Int) (xs : List α) : List α :=
  (sliceRange (sliceBounds lo hi st xs.length).1 (sliceBounds lo hi st xs.length).2.1 (sliceBounds lo hi st xs.length).2.2).filterMap (xs[·]?)
theorem stepD_map {α β : Type} (f : α → β) (lo hi st : Option Int) (xs : List α) : stepD lo hi st (xs.map f) = (stepD lo hi st xs).map f := by
  unfold stepD
  rw [List.length_map, List.map_filterMap]
  congr 1
  funext i
  rw [List.getElem?_map]
theorem perm_fm {α : Type} {is js : List Nat} (xs : List α) (h : is.Perm js) : (is.filterMap (xs[·]?)).Perm (js.filterMap (xs[·]?)) := h.filterMap _
theorem fm_range {α : Type} : ∀ xs : List α, (List.range xs.length).filterMap (xs[·]?) = xs := by
  intro xs
  induction xs with
  | nil => rfl
  | cons x r ih =>
    rw [List.length_cons, List.range_succ_eq_map, List.filterMap_cons]
    simp only [List.getElem?_cons_zero, List.filterMap_map]
    congr 1
/-- every second one from the first two on: all of them -/
theorem step_perm {α : Type} (xs : List α) : (stepD (some 1) none (some 2) xs ++ stepD none none (some 2) xs).Perm xs := by
  unfold stepD
  rw [← List.filterMap_append]
  refine (perm_fm xs ?_).trans (List.Perm.of_eq (fm_range xs))
  generalize xs.length = n
  have b1 : sliceBounds (some 1) none (some 2) n = (max 0 (min 1 (n : Int)), (n : Int), 2) := rfl
  have b2 : sliceBounds none none (some 2) n = (0, (n : Int), 2) := rfl
  have e1 : sliceRange (sliceBounds (some 1) none (some 2) n).1 (sliceBounds (some 1) none (some 2) n).2.1 (sliceBounds (some 1) none (some 2) n).2.2 = (List.range (n / 2)).map fun k => 1 + 2 * k := by
    rw [b1]
    unfold sliceRange
    dsimp only
    rw [if_pos (by decide)]
    by_cases h : 1 < n
    · rw [if_pos (by omega)]
      rw [show ((n : Int) - max 0 (min 1 (n : Int)) + 2 - 1) / 2 = ((n / 2 : Nat) : Int) by omega, Int.toNat_natCast]
      refine List.map_congr_left fun k _ => ?_
      omega
    · rw [if_neg (by omega), show n / 2 = 0 by omega]
      rfl
  have e2 : sliceRange (sliceBounds none none (some 2) n).1 (sliceBounds none none (some 2) n).2.1 (sliceBounds none none (some 2) n).2.2 = (List.range ((n + 1) / 2)).map fun k => 2 * k := by
    rw [b2]
    unfold sliceRange
    dsimp only
    rw [if_pos (by decide)]
    by_cases h : 0 < n
    · rw [if_pos (by omega)]
      rw [show ((n : Int) - 0 + 2 - 1) / 2 = (((n + 1) / 2 : Nat) : Int) by omega, Int.toNat_natCast]
      refine List.map_congr_left fun k _ => ?_
      omega
    · rw [if_neg (by omega), show (n + 1) / 2 = 0 by omega]
      rfl
  rw [e1, e2]
  refine (List.perm_ext_iff_of_nodup ?_ List.nodup_range).mpr fun a => ?_
  · refine List.nodup_append.mpr ⟨?_, ?_, ?_⟩
    · exact List.pairwise_map.mpr (List.nodup_range.imp fun h z => h (by omega))
    · exact List.pairwise_map.mpr (List.nodup_range.imp fun h z => h (by omega))
    · intro a ha b hb e
      obtain ⟨c, _, rfl⟩ := List.mem_map.mp ha
      obtain ⟨d, _, e2⟩ := List.mem_map.mp hb
      omega
  · rw [List.mem_append, List.mem_map, List.mem_map, List.mem_range]
    constructor
    · rintro (⟨c, hc, rfl⟩ | ⟨c, hc, rfl⟩)
      · have := List.mem_range.mp hc
        omega
      · have := List.mem_range.mp hc
        omega
    · intro h
      by_cases e : a % 2 = 1
      · exact .inl ⟨a / 2, List.mem_range.mpr (by omega), by omega⟩
      · exact .inr ⟨a / 2, List.mem_range.mpr (by omega), by omega⟩
theorem stepD_len {α : Type} (xs : List α) : (stepD (some 1) none (some 2) xs).length + (stepD none none (some 2) xs).length = xs.length := by
  rw [← List.length_append]
  exact (step_perm xs).length_eq
section
variable {X : Cx} {e : Expr} {te : TE} {H : Hp}
theorem vals_fm {xs : List V} {us : List Value} (r : Vals xs us) : ∀ is : List Nat, Vals (is.filterMap (xs[·]?)) (is.filterMap (us[·]?))
  | [] => .nil
  | i :: is => by
    have ih := vals_fm r is
    cases h : xs[i]? with
    | none =>
      rw [List.filterMap_cons_none h, List.filterMap_cons_none (r.none_of h)]
      exact ih
    | some x =>
      obtain ⟨u, hu, ru⟩ := r.get h
      rw [List.filterMap_cons_some h, List.filterMap_cons_some hu]
      exact .cons ru ih
theorem dv_fm {xs : List V} {ds : List PyData} (r : DvAll H xs ds) : ∀ is : List Nat, DvAll H (is.filterMap (xs[·]?)) (is.filterMap (ds[·]?))
  | [] => .nil
  | i :: is => by
    have ih := dv_fm r is
    cases h : xs[i]? with
    | none =>
      have h2 : ds[i]? = none := by
        rw [List.getElem?_eq_none_iff, ← r.length]
        exact List.getElem?_eq_none_iff.mp h
      rw [List.filterMap_cons_none h, List.filterMap_cons_none h2]
      exact ih
    | some x =>
      obtain ⟨u, hu, ru⟩ := r.get h
      rw [List.filterMap_cons_some h, List.filterMap_cons_some hu]
      exact .cons ru ih
def sStep (te : TE) (tl : TO) (n : Int) : TE := fun σ H Q => te σ H fun x H1 => tl σ H1 fun lo H2 => ∃ a L ds, x = .ref a ∧ Hs L H2 ∧ HasL L a ds ∧ ∀ p H', Hs (isL p (stepD lo none (some n) ds) :: L) H' → Q (.ref p) H'
theorem pe_stepS {lo : Option Expr} {tl : TO} {n : Int} {k : Nat} {p1 p3 pos : Pos} (he : PE X e te) (hl : PO X lo tl) (h0 : n ≠ 0) (ht : ∀ o i, ∃ ops, subscripted (.Slice lo none (some (.Constant (.int n) k p1)) p3) false o i = operate ops (getItem o i) := by intro _ _; exact ⟨_, by with_unfolding_all rfl⟩) : PE X (.Subscript e (.Slice lo none (some (.Constant (.int n) k p1)) p3) pos) (sStep te tl n) := by
  refine ⟨fun pins s σ H Q I h => ?_⟩
  refine Subscript_ (thn (he.run pins s σ H _ I h) fun v s1 ⟨x, H1, I1, r1, q1⟩ => ?_)
  have hst : PO X (some (.Constant (.int n) k p1)) (tPart (tC (.int n))) := po_some pe_int
  refine wpAny_Slice (thn (hl.run pins s1 σ H1 _ I1 q1) fun vl s2 ⟨l, H2, I2, pl, q2⟩ => ?_)
  refine thn (po_none.run pins s2 σ H2 (fun o H3 => o = none ∧ H3 = H2) I2 ⟨rfl, rfl⟩) fun vu s3 ⟨u, H3, I3, pu, eu, e3⟩ => ?_
  subst eu e3
  refine thn (hst.run pins s3 σ H3 (fun o H4 => o = some n ∧ H4 = H3) I3 ⟨n, rfl, rfl, rfl⟩) fun vs s4 ⟨o, H4, I4, ps, eo, e4⟩ => ?_
  subst eo e4
  obtain ⟨a, L, ds, ex, hS, kL, q⟩ := q2
  subst ex
  obtain rfl : v = Value.ref a := r1
  have I5 : L2.Inv X pins σ H4 { s4 with heap := s4.heap.push { cls := .type "slice", data := .fields #[vl, vu, vs] } } := I4.kept (t' := s4.toks) fun b ob q => Heap.get?_push_of_some _ q
  obtain ⟨xs, hx, hd⟩ := kL.at_ hS
  obtain ⟨its, r, hI, hz⟩ := I5.list (SqL.of (K := X.K) hx)
  have hlen := r.length
  show wpAny (model X.prog X.w) X.A (subscriptTail e (.Slice lo none (some (.Constant (.int n) k p1)) p3) (.ref a) (.ref s4.heap.objs.size)) (EP X pins σ Q) X.xe { s4 with heap := s4.heap.push { cls := .type "slice", data := .fields #[vl, vu, vs] } }
  obtain ⟨ops, hops⟩ := ht (.ref a) (.ref s4.heap.objs.size)
  refine tail_any (ops := ops) hI.isList.typeIs (PySem.slot_list_getitem.lookup) ?_ hops
  refine wpAny_getItem_list_slice hI.isList (Heap.IsSliceOf.new _ vl vu vs) pl pu ps (fun z => h0 (Option.some.inj z)) ?_ (by rw [List.size_toArray]; omega)
  have hp : slicePick its.toArray l none (some n) = (stepD l none (some n) its).toArray := by
    unfold slicePick stepD
    simp only [List.size_toArray, List.getElem?_toArray]
  have hr : Vals (stepD l none (some n) xs) (stepD l none (some n) its) := by
    unfold stepD
    rw [hlen]
    exact vals_fm r _
  have hdd : DvAll H4 (stepD l none (some n) xs) (stepD l none (some n) ds) := by
    unfold stepD
    rw [hd.length]
    exact dv_fm hd _
  have hsz : (stepD l none (some n) xs).length ≤ sizeLine := by
    have h1 := slicePick_size_le its.toArray l none (some n)
    rw [hp, List.size_toArray, List.size_toArray, ← hr.length, ← hlen] at h1
    omega
  rw [hp]
  refine ⟨.ref _, _, I5.laid (t' := s4.toks) (o := .lst (stepD l none (some n) xs)) (fun b ob q => Heap.get?_push_of_some _ q) (Nat.le_refl _) ?_, rfl, q _ _ (hS.newL (I5.hok.fresh (Nat.le_refl _)) hdd)⟩
  exact ⟨hsz, _, 0, hr, Heap.get?_push_size _ rfl⟩
theorem k_sStep {σ : L2.St} {Q : VK} {tl : TO} {n : Int} (h : te σ H fun x H1 => tl σ H1 fun lo H2 => ∃ a L ds, x = .ref a ∧ Hs L H2 ∧ HasL L a ds ∧ ∀ p H', Hs (isL p (stepD lo none (some n) ds) :: L) H' → Q (.ref p) H') : sStep te tl n σ H Q := h
theorem s_step {p : Addr} {L : List Asn} {α : Type} {f : α → PyData} {xs : List α} {lo : Option Int} {n : Int} {B : Addr → Hp → Prop} (hS : Hs L H) (k : HasL L p (xs.map f)) (h : ∀ q H', Hs (isL q ((stepD lo none (some n) xs).map f) :: L) H' → B q H') :
    ∃ a L ds, V.ref p = .ref a ∧ Hs L H ∧ HasL L a ds ∧ ∀ q H', Hs (isL q (stepD lo none (some n) ds) :: L) H' → B q H' := ⟨p, L, _, rfl, hS, k, fun q H' z => h q H' (by rw [← stepD_map]; exact z)⟩
end
/-! two fors -/
section
variable {J : It} {n : Nat} {G : Hp → Prop} {Y : Nat → Hp → V → Hp → Prop}
theorem itW (w : Walk J n G Y) {C : (Hp → Prop) → V → Hp → Prop} {Qd : Hp → Prop} {H0 : Hp} (Pv : Nat → Hp → Prop) (h0 : Pv 0 H0) (hG : ∀ i H, i ≤ n → Pv i H → G H)
    (hs : ∀ i x H H', i < n → Pv i H → Y i H x H' → C (Pv (i + 1)) x H') (hd : ∀ H, Pv n H → Qd H) :
    ∃ W : Nat → Nat → Hp → Prop, (∃ m, W 0 m H0) ∧ ∀ i m H, W i m H →
      (J.stop i H ∧ Qd H) ∨ (J.go i H ∧ ∃ Nx : Hp → Prop, (∀ H', Nx H' → ∃ m', m' < m ∧ W (i + 1) m' H') ∧ ∀ x H', J.yld i H x H' → C Nx x H') := by
  refine ⟨fun i m H => m = n - i ∧ i ≤ n ∧ Pv i H, ⟨n, by simp, Nat.zero_le _, h0⟩, ?_⟩
  rintro i m H ⟨rfl, hi, p⟩
  have q := hG i H hi p
  by_cases hlt : i < n
  · refine .inr ⟨w.goes i H hlt q, Pv (i + 1), fun H' p' => ⟨n - (i + 1), by omega, rfl, hlt, p'⟩, fun x H' y => hs i x H H' hlt p (w.yields i H x H' hlt q y)⟩
  · have e : i = n := by omega
    subst e
    exact .inl ⟨w.stops H q, hd H p⟩
end
section
variable {K : PySem.W.Frag} {L L0 R R0 : List Asn} {H : Hp} {a : Addr} {α : Type} {f : α → PyData} {xs : List α}
/-- behind i turns of the outer for -/
def Lc2 (A : List Asn) (P : Nat → List PyData → List Asn → Prop) (D : Addr) (i : Nat) (H : Hp) : Prop := ∃ L acc, P i acc L ∧ Hs (isL D acc :: (A ++ L)) H
theorem s_lc2L {C : Addr → (Hp → Prop) → V → Hp → Prop} {Qd : Addr → Hp → Prop} (P : Nat → List PyData → List Asn → Prop) (hS : Hs L0 H) (k : Pick L0 (isL a (xs.map f)) R0) (h0 : P 0 [] R0)
    (hs : ∀ D i x y acc us H' L, xs[i]? = some x → P i acc L → Hs (dv y (f x) :: isL D acc :: isV a us (xs.map f) :: L) H' → C D (Lc2 [isV a us (xs.map f)] P D (i + 1)) y H')
    (h : ∀ D acc H' L, P xs.length acc L → Hs (isL D acc :: isL a (xs.map f) :: L) H' → Qd D H') :
    (∃ xs, SqL K H a xs) ∧ ∀ D, H D = none → ∃ W : Nat → Nat → Hp → Prop, (∃ m, W 0 m (upd H D (.lst []))) ∧ ∀ i m H, W i m H →
      ((Itl K a).stop i H ∧ Qd D H) ∨ ((Itl K a).go i H ∧ ∃ Nx : Hp → Prop, (∀ H', Nx H' → ∃ m', m' < m ∧ W (i + 1) m' H') ∧ ∀ x H', (Itl K a).yld i H x H' → C D Nx x H') := by
  obtain ⟨us, h1⟩ := (k.go hS).openL
  have hl := h1.hd.2.length
  rw [List.length_map] at hl
  refine ⟨⟨us, SqL.of h1.hd.1⟩, fun D nD => itW (C := C D) (Qd := Qd D) (walk_list (K := K) (a := a) (xs := us)) (Lc2 [isV a us (xs.map f)] P D) ⟨R0, [], h0, h1.newL nD .nil⟩ (fun i H' _ hp => ?_) (fun i x H1 H' hi hp hy => ?_) fun H' hp => ?_⟩
  · obtain ⟨L, acc, _, z⟩ := hp
    exact SqL.of z.tl.hd.1
  · obtain ⟨L, acc, hP, z⟩ := hp
    obtain ⟨rfl, hx⟩ := hy
    obtain ⟨d, e, hd⟩ := z.tl.hd.2.get hx
    rw [List.getElem?_map] at e
    cases e1 : xs[i]? with
    | none =>
      rw [e1] at e
      cases e
    | some w =>
      rw [e1] at e
      have e2 : f w = d := Option.some.inj e
      rw [← e2] at hd
      exact hs D i w x acc us _ L e1 hP (z.add (A := dv x (f w)) hd)
  · obtain ⟨L, acc, hP, z⟩ := hp
    rw [hl] at hP
    exact h D acc H' L hP (Hs.under (fun _ z => z.closeL) z)
/-- behind i turns of the inner for -/
def LcR (Pv : Nat → List Asn → Prop) (i : Nat) (H : Hp) : Prop := ∃ L, Pv i L ∧ Hs L H
/-- the inner for over a range -/
theorem s_lc2R {lo : Int} {n : Nat} {C : (Hp → Prop) → V → Hp → Prop} {Qd : Hp → Prop} (Pv : Nat → List Asn → Prop) (hS : Hs L0 H) (h0 : Pv 0 L0)
    (hs : ∀ i L H, i < n → Pv i L → Hs L H → C (LcR Pv (i + 1)) (.int (lo + (i : Nat))) H) (hd : ∀ L H, Pv n L → Hs L H → Qd H) :
    ∃ W : Nat → Nat → Hp → Prop, (∃ m, W 0 m H) ∧ ∀ i m H, W i m H →
      ((Itr lo n).stop i H ∧ Qd H) ∨ ((Itr lo n).go i H ∧ ∃ Nx : Hp → Prop, (∀ H', Nx H' → ∃ m', m' < m ∧ W (i + 1) m' H') ∧ ∀ x H', (Itr lo n).yld i H x H' → C Nx x H') := by
  refine itW (C := C) (Qd := Qd) (walk_range (lo := lo) (n := n)) (LcR Pv) ⟨_, h0, hS⟩ (fun _ _ _ _ => True.intro) (fun i x H1 H' hi ⟨L, hP, z⟩ hy => ?_) fun H ⟨L, hP, z⟩ => hd L H hP z
  obtain ⟨rfl, rfl⟩ := hy
  exact hs i L _ hi hP z
theorem lc_addB {Pv : Nat → List Asn → Prop} {i : Nat} {D : Addr} {acc : List PyData} {y : V} {d : PyData} (hS : Hs L H) (k : Pick L (isL D acc) R) (hv : Dv H y d) (hl : acc.length ≤ 100000) (h : ∀ H', Hs (isL D (acc ++ [d]) :: R) H' → ∃ L', Pv i L' ∧ Hs L' H') :
    ∃ us, H D = some (.lst us) ∧ us.length < sizeLine ∧ LcR Pv i (upd H D (.lst (us ++ [y]))) := by
  have h1 := k.go hS
  obtain ⟨us, h2⟩ := h1.openL
  have h3 := h2.hd
  exact ⟨us, h3.1, lt_line (by rw [h3.2.length]; exact hl), h _ (h1.putL (h3.2.append (.cons hv .nil)))⟩
theorem k_lc2 {wi : TI} {g : TG} {tt : TT} {wi1 : TI} {g1 : TG} {tt1 : TT} {te : TE} {vs vs1 : List Nat} {σ : L2.St} {Q : VK} (h : wi σ H fun J H1 => ∀ D, H1 D = none → ∃ W : Nat → Nat → Hp → Prop, (∃ m, W 0 m (upd H1 D (.lst []))) ∧ ∀ i m H, W i m H →
  (J.stop i H ∧ Q (.ref D) H) ∨ (J.go i H ∧ ∃ Nx : Hp → Prop, (∀ H', Nx H' → ∃ m', m' < m ∧ W (i + 1) m' H') ∧ ∀ x H', J.yld i H x H' → g x (wipe σ vs) H' fun σ2 H2 => wipe σ2 vs = wipe σ vs ∧ tt σ2 H2 fun b H3 =>
    if b = true then wi1 σ2 H3 fun J1 H4 => ∃ W1 : Nat → Nat → Hp → Prop, (∃ m, W1 0 m H4) ∧ ∀ j k H, W1 j k H →
      (J1.stop j H ∧ Nx H) ∨ (J1.go j H ∧ ∃ Nx1 : Hp → Prop, (∀ H', Nx1 H' → ∃ k', k' < k ∧ W1 (j + 1) k' H') ∧ ∀ x H', J1.yld j H x H' → g1 x (wipe σ2 vs1) H' fun σ3 H5 => wipe σ3 vs1 = wipe σ2 vs1 ∧ tt1 σ3 H5 fun b H6 =>
        if b = true then te σ3 H6 fun y H7 => ∃ acc, H7 D = some (.lst acc) ∧ acc.length < sizeLine ∧ Nx1 (upd H7 D (.lst (acc ++ [y]))) else Nx1 H6)
    else Nx H3)) : tLc2 wi g tt wi1 g1 tt1 te vs vs1 σ H Q := h
end
end Lt
/-! placing: plain Lean -/
namespace Lt
theorem Er.perm {rows pre rows2 : List (Int × Int)} (h : Er rows pre rows2) : rows.Perm (pre ++ rows2) := by
  induction h with
  | nil => exact List.Perm.refl _
  | cons hm _ _ ih => exact (List.perm_cons_erase hm).trans (ih.cons _)
theorem catS_perm {xs ys : List (Int × Int)} (h : xs.Perm ys) : (catS xs).Perm (catS ys) := h.flatMap_right _
theorem catS_app (xs ys : List (Int × Int)) : catS (xs ++ ys) = catS xs ++ catS ys := List.flatMap_append
theorem rgI_get {f m : Int} {l : Nat} (h : l < m.toNat) : (rgI f m)[l]? = some (f + (l : Nat)) := by
  unfold rgI
  rw [List.getElem?_map, List.getElem?_range h]
  rfl
theorem rgI_snoc {f m : Int} {l : Nat} (h : l < m.toNat) : (rgI f m).take (l + 1) = (rgI f m).take l ++ [f + (0 + (l : Int))] := by
  rw [take_snoc (rgI_get h), Int.zero_add]
theorem rgI_all (f m : Int) : (rgI f m).take m.toNat = rgI f m := List.take_of_length_le (by rw [rgI_len]; exact Nat.le_refl _)
theorem catS_one (p : Int × Int) : catS [p] = rgI p.1 p.2 := by simp [catS]
theorem asc_len {ks : List Int} (h : ks.Nodup) : (ascOf ks).length = ks.length := by rw [← sortI_nd h, (sortI_perm ks).length_eq]
theorem rgI_pre {f r s : Int} (h : r ≤ s) : (rgI f r).Sublist (rgI f s) := by
  unfold rgI
  refine List.Sublist.map _ ?_
  have : List.range r.toNat = (List.range s.toNat).take r.toNat := by
    rw [List.take_range, Nat.min_eq_left (by omega)]
  rw [this]
  exact List.take_sublist _ _
structure PcsB (ks : List Int) (m : Int) (ps : List (Int × Int)) : Prop where
  nd : (catS ps).Nodup
  sub : ∀ b ∈ catS ps, b ∈ ks
  len : ((catS ps).length : Int) = m
  pos : ∀ p ∈ ps, 1 ≤ p.2
theorem Pcs.blocks {ks : List Int} {m : Int} {ps : List (Int × Int)} (h : Pcs (strOf ks) m ps) (m0 : 0 ≤ m) : PcsB ks m ps := by
  by_cases e : 0 < m
  · obtain ⟨pre, u, r, rows2, h2⟩ := h.ends e
    have hp := (strOk ks).pos
    have hpos : ∀ p ∈ ps, 1 ≤ p.2 := fun p hm => by
      rw [h2.out] at hm
      rcases List.mem_append.mp hm with z | z
      · exact hp p (h2.er.mem p z)
      · rw [List.mem_singleton.mp z]
        exact h2.r1
    have p1 := h2.er.perm.trans ((List.perm_cons_erase h2.mem).append_left pre)
    have p2 := catS_perm p1
    rw [(strOk ks).cat, catS_app, show catS (u :: rows2.erase u) = rgI u.1 u.2 ++ catS (rows2.erase u) from rfl] at p2
    have nd1 := p2.nodup (asc_nd ks)
    have sb : (catS ps).Sublist (catS pre ++ (rgI u.1 u.2 ++ catS (rows2.erase u))) := by
      rw [h2.out, catS_app, catS_one]
      exact (List.Sublist.refl _).append ((rgI_pre h2.r2).trans (List.sublist_append_left _ _))
    refine ⟨nd1.sublist sb, fun b hb => mem_asc.mp (p2.symm.subset (sb.subset hb)), ?_, hpos⟩
    rw [← sizes_cat hpos]
    exact h.sum m0
  · obtain rfl : m = 0 := by omega
    rw [h.zero]
    exact ⟨List.nodup_nil, (fun b hb => absurd hb List.not_mem_nil), rfl, (fun p hp => absurd hp List.not_mem_nil)⟩
open Classical in
noncomputable def pcs (ks : List Int) (m : Int) : List (Int × Int) := if h : ∃ out, Pcs (strOf ks) m out then h.choose else []
theorem Pcs.eq {ks : List Int} {m : Int} {out : List (Int × Int)} (h : Pcs (strOf ks) m out) : pcs ks m = out := by
  have e : ∃ out, Pcs (strOf ks) m out := ⟨out, h⟩
  unfold pcs
  rw [dif_pos e]
  exact e.choose_spec.uniq h
noncomputable def plStep (s : List Int × List (Int × Int)) (q : Int × Int) : List Int × List (Int × Int) :=
  (s.1.filter fun b => !decide (b ∈ catS (pcs s.1 q.2)), s.2 ++ Zr.zipF q.1 (catS (pcs s.1 q.2)))
noncomputable def plAll (ks : List Int) (rows : List (Int × Int)) : List (Int × Int) := (rows.foldl plStep (ks, [])).2
structure PlI (ks : List Int) (rows : List (Int × Int)) (i : Nat) (fr : List Int) (out : List (Int × Int)) : Prop where
  eq : (rows.take i).foldl plStep (ks, []) = (fr, out)
  asc : fr.Pairwise (· < ·)
  len : (fr.length : Int) + sizes (rows.take i) = ks.length
  olen : (out.length : Int) = sizes (rows.take i)
theorem PlI.start {ks : List Int} {rows : List (Int × Int)} (h : ks.Pairwise (· < ·)) : PlI ks rows 0 ks [] := ⟨rfl, h, by simp [sizes], by simp [sizes]⟩
theorem filter_two (p : Int → Bool) : ∀ xs : List Int, (xs.filter fun b => !p b).length + (xs.filter p).length = xs.length
  | [] => rfl
  | x :: r => by
    have ih := filter_two p r
    cases h : p x <;> simp [h] <;> omega
theorem filter_out_len {fr bs : List Int} (h1 : fr.Nodup) (h2 : bs.Nodup) (h3 : ∀ b ∈ bs, b ∈ fr) : (fr.filter fun b => !decide (b ∈ bs)).length + bs.length = fr.length := by
  have p : (fr.filter fun b => decide (b ∈ bs)).Perm bs := (List.perm_ext_iff_of_nodup (h1.filter _) h2).mpr fun a => by
    rw [List.mem_filter]
    simp only [decide_eq_true_eq]
    exact ⟨fun z => z.2, fun z => ⟨h3 a z, z⟩⟩
  rw [← p.length_eq]
  exact filter_two _ fr
theorem asc_nodup {xs : List Int} (h : xs.Pairwise (· < ·)) : xs.Nodup := h.imp fun z e => by omega
theorem sizes_snoc (xs : List (Int × Int)) (p : Int × Int) : sizes (xs ++ [p]) = sizes xs + p.2 := by simp [sizes]
theorem sizes_app (xs ys : List (Int × Int)) : sizes (xs ++ ys) = sizes xs + sizes ys := by simp [sizes]
theorem sizes_take {rows : List (Int × Int)} (h : ∀ p ∈ rows, 1 ≤ p.2) (i : Nat) : sizes (rows.take i) ≤ sizes rows := by
  have e : sizes rows = sizes (rows.take i) + sizes (rows.drop i) := by rw [← sizes_app, List.take_append_drop]
  have := sizes_nn (rows := rows.drop i) fun p hp => h p (List.mem_of_mem_drop hp)
  omega
theorem PlI.room {ks : List Int} {rows : List (Int × Int)} {i : Nat} {fr : List Int} {out : List (Int × Int)} {f m : Int} (h : PlI ks rows i fr out) (hp : ∀ p ∈ rows, 1 ≤ p.2) (ht : sizes rows ≤ ks.length) (hx : rows[i]? = some (f, m)) : m ≤ fr.length ∧ 1 ≤ m := by
  have h1 := sizes_take hp (i + 1)
  rw [take_snoc hx, sizes_snoc] at h1
  have := h.len
  exact ⟨by simp only at h1; omega, hp (f, m) (List.mem_of_getElem? hx)⟩
theorem PlI.step {ks : List Int} {rows : List (Int × Int)} {i : Nat} {fr : List Int} {out ps : List (Int × Int)} {f m : Int} (h : PlI ks rows i fr out) (hx : rows[i]? = some (f, m)) (m1 : 1 ≤ m) (hP : Pcs (strOf fr) m ps) :
    PlI ks rows (i + 1) (fr.filter fun b => !decide (b ∈ catS ps)) (out ++ Zr.zipF f (catS ps)) := by
  have hb := hP.blocks (by omega)
  refine ⟨?_, h.asc.filter _, ?_, ?_⟩
  · rw [take_snoc hx, List.foldl_append, h.eq]
    show plStep (fr, out) (f, m) = _
    unfold plStep
    rw [hP.eq]
  · rw [take_snoc hx, sizes_snoc]
    have h1 := filter_out_len (asc_nodup h.asc) hb.nd hb.sub
    have h2 := hb.len
    have h3 := h.len
    simp only
    omega
  · rw [take_snoc hx, sizes_snoc, List.length_append, Zr.zipF_len]
    have h2 := hb.len
    have h3 := h.olen
    simp only
    omega
theorem PlI.all {ks : List Int} {rows : List (Int × Int)} {fr : List Int} {out : List (Int × Int)} (h : PlI ks rows rows.length fr out) : out = plAll ks rows := by
  have e := h.eq
  rw [List.take_length] at e
  unfold plAll
  rw [e]
theorem asc_filter (xs : List Int) (p : Int → Bool) : ascOf (xs.filter p) = (ascOf xs).filter p := asc_one (asc_asc _) ((asc_asc xs).filter p) fun k => by
  rw [mem_asc, List.mem_filter, List.mem_filter, mem_asc]
theorem zipF_take (f : Int) : ∀ (ys : List Int) (i : Nat) (y : Int), ys[i]? = some y → (Zr.zipF f ys).take (i + 1) = (Zr.zipF f ys).take i ++ [(f + (i : Nat), y)] := fun ys i y h => by
  refine take_snoc ?_
  rw [Zr.zipF_get, h]
  rfl
end Lt
/-! fewest pieces over a placing: plain Lean -/
namespace Lt
theorem pcs_ex : ∀ (k : Nat) {rows : List (Int × Int)} {n : Int}, rows.length ≤ k → rows.Pairwise (·.1 < ·.1) → (∀ p ∈ rows, 1 ≤ p.2) → n ≤ sizes rows → ∃ out, Pcs rows n out
  | k, rows, n, hl, hf, hp, hn => by
    by_cases h : 0 < n
    · have h1 := sizes_pos (rows := rows) (by omega)
      obtain ⟨b, _, hb⟩ := best_all (rest := n) hf h1
      have key := Pcs.ofBest h hb
      by_cases e : n ≤ b.2
      · exact ⟨_, key.1 e⟩
      · have h5 : (rows.erase b).length = rows.length - 1 := List.length_erase_of_mem hb.1
        cases k with
        | zero => omega
        | succ k =>
          obtain ⟨out, ho⟩ := pcs_ex k (rows := rows.erase b) (n := n - b.2) (by omega) (hf.sublist (List.erase_sublist ..)) (fun p hq => hp p (List.mem_of_mem_erase hq)) (by rw [sizes_erase hb.1]; omega)
          exact ⟨_, key.2 (by omega) _ ho⟩
    · exact ⟨[], .done (by omega)⟩
theorem pcs_has {fr : List Int} {n : Int} (h : fr.Nodup) (hn : n ≤ fr.length) : ∃ out, Pcs (strOf fr) n out :=
  pcs_ex _ (Nat.le_refl _) (str_first fr) (strOk fr).pos (by rw [sizes_str, ← sortI_nd h, (sortI_perm fr).length_eq]; exact hn)
theorem pl_pre : ∀ (rows : List (Int × Int)) (s : List Int × List (Int × Int)), s.2 <+: (rows.foldl plStep s).2
  | [], s => List.prefix_refl _
  | q :: r, s => (List.prefix_append s.2 _).trans (pl_pre r (plStep s q))
theorem PlI.pre {ks : List Int} {rows : List (Int × Int)} {i : Nat} {fr : List Int} {out : List (Int × Int)} (h : PlI ks rows i fr out) : out <+: plAll ks rows := by
  have e : plAll ks rows = ((rows.drop i).foldl plStep (fr, out)).2 := by
    unfold plAll
    rw [← h.eq, ← List.foldl_append, List.take_append_drop]
  rw [e]
  exact pl_pre (rows.drop i) (fr, out)
theorem zipF_fst : ∀ (f : Int) (ys : List Int), (Zr.zipF f ys).map (·.1) = rgI f ys.length := fun f ys => by
  refine List.ext_getElem? fun i => ?_
  rw [List.getElem?_map, Zr.zipF_get]
  by_cases h : i < ys.length
  · rw [List.getElem?_eq_getElem h, rgI_get (by omega)]
    rfl
  · rw [List.getElem?_eq_none_iff.mpr (by omega), List.getElem?_eq_none_iff.mpr (by rw [rgI_len]; omega)]
    rfl
theorem zipF_snd (f : Int) (ys : List Int) : (Zr.zipF f ys).map (·.2) = ys := by
  refine List.ext_getElem? fun i => ?_
  rw [List.getElem?_map, Zr.zipF_get]
  cases ys[i]? <;> rfl
theorem filter_out_perm {fr bs : List Int} (h1 : fr.Nodup) (h2 : bs.Nodup) (h3 : ∀ b ∈ bs, b ∈ fr) : (bs ++ fr.filter fun b => !decide (b ∈ bs)).Perm fr := by
  have p : (fr.filter fun b => decide (b ∈ bs)).Perm bs := (List.perm_ext_iff_of_nodup (h1.filter _) h2).mpr fun a => by
    rw [List.mem_filter]
    simp only [decide_eq_true_eq]
    exact ⟨fun z => z.2, fun z => ⟨h3 a z, z⟩⟩
  exact (p.symm.append_right _).trans (List.filter_append_perm (fun b => decide (b ∈ bs)) fr)
structure PlX (ks : List Int) (rows : List (Int × Int)) (i : Nat) (fr : List Int) (out : List (Int × Int)) : Prop where
  pl : PlI ks rows i fr out
  fst : out.map (·.1) = catS (rows.take i)
  prm : (out.map (·.2) ++ fr).Perm ks
theorem PlX.start {ks : List Int} {rows : List (Int × Int)} (h : ks.Pairwise (· < ·)) : PlX ks rows 0 ks [] := ⟨.start h, rfl, List.Perm.refl _⟩
theorem PlX.step {ks : List Int} {rows : List (Int × Int)} {i : Nat} {fr : List Int} {out ps : List (Int × Int)} {f m : Int} (h : PlX ks rows i fr out) (hx : rows[i]? = some (f, m)) (m1 : 1 ≤ m) (hP : Pcs (strOf fr) m ps) :
    PlX ks rows (i + 1) (fr.filter fun b => !decide (b ∈ catS ps)) (out ++ Zr.zipF f (catS ps)) := by
  have hb := hP.blocks (by omega)
  refine ⟨h.pl.step hx m1 hP, ?_, ?_⟩
  · rw [take_snoc hx, catS_snoc, List.map_append, h.fst, zipF_fst, hb.len]
  · rw [List.map_append, zipF_snd, List.append_assoc]
    exact ((filter_out_perm (asc_nodup h.pl.asc) hb.nd hb.sub).append_left _).trans h.prm
theorem pl_chain {ks : List Int} {rows : List (Int × Int)} (hk : ks.Pairwise (· < ·)) (hp : ∀ p ∈ rows, 1 ≤ p.2) (ht : sizes rows ≤ ks.length) : ∀ i, i ≤ rows.length → ∃ fr out, PlX ks rows i fr out
  | 0, _ => ⟨ks, [], .start hk⟩
  | i + 1, hi => by
    obtain ⟨fr, out, h⟩ := pl_chain hk hp ht i (by omega)
    have hx : rows[i]? = some (rows[i].1, rows[i].2) := List.getElem?_eq_getElem (by omega)
    obtain ⟨r1, r2⟩ := h.pl.room hp ht hx
    obtain ⟨ps, hP⟩ := pcs_has (asc_nodup h.pl.asc) r1
    exact ⟨_, _, h.step hx r2 hP⟩
theorem pl_end {ks : List Int} {rows : List (Int × Int)} (hk : ks.Pairwise (· < ·)) (hp : ∀ p ∈ rows, 1 ≤ p.2) (ht : sizes rows ≤ ks.length) : (plAll ks rows).map (·.1) = catS rows ∧ ((plAll ks rows).map (·.2)).Nodup ∧ ∀ b ∈ (plAll ks rows).map (·.2), b ∈ ks := by
  obtain ⟨fr, out, h⟩ := pl_chain hk hp ht rows.length (Nat.le_refl _)
  rw [← h.pl.all]
  refine ⟨?_, ?_, fun b hb => h.prm.subset (List.mem_append_left _ hb)⟩
  · have e := h.fst
    rwa [List.take_length] at e
  · exact (List.nodup_append.mp (h.prm.symm.nodup (asc_nodup hk))).1
/-- breaks: the next one is not the next number -/
def brkL : List Int → Int
  | x :: y :: r => (if y = x + 1 then 0 else 1) + brkL (y :: r)
  | _ => 0
theorem brk_snoc : ∀ (xs : List Int) (x y : Int), brkL (xs ++ [x, y]) = brkL (xs ++ [x]) + if y = x + 1 then 0 else 1
  | [], x, y => by simp [brkL]
  | [a], x, y => by simp [brkL]
  | a :: b :: r, x, y => by
    have ih := brk_snoc (b :: r) x y
    simp only [List.cons_append, brkL] at ih ⊢
    omega
theorem brk_take {bs : List Int} {j : Nat} {x y : Int} (h1 : bs[j]? = some x) (h2 : bs[j + 1]? = some y) : brkL (bs.take (j + 2)) = brkL (bs.take (j + 1)) + if y = x + 1 then 0 else 1 := by
  rw [take_snoc h2, take_snoc h1, List.append_assoc]
  exact brk_snoc _ _ _
theorem brk_rg : ∀ (n : Nat) (f : Int) (t : List Int), brkL ((List.range' 0 n).map (fun i => f + (i : Nat)) ++ t) ≤ 1 + brkL t
  | 0, f, t => by simp only [List.range'_zero, List.map_nil, List.nil_append]; omega
  | 1, f, t => by
    cases t with
    | nil => simp [brkL]
    | cons y r =>
      simp only [List.range'_succ, List.range'_zero, List.map_cons, List.map_nil, List.cons_append, List.nil_append, brkL]
      split <;> omega
  | n + 2, f, t => by
    have ih := brk_rg (n + 1) (f + 1) t
    have e : (List.range' 0 (n + 2)).map (fun i => f + ((i : Nat) : Int)) = f :: (List.range' 0 (n + 1)).map (fun i => f + 1 + ((i : Nat) : Int)) := by
      rw [List.range'_succ, List.map_cons]
      congr 1
      · simp
      · rw [show (0 + 1 : Nat) = 0 + 1 from rfl, List.range'_eq_map_range, List.range'_eq_map_range, List.map_map, List.map_map]
        refine List.map_congr_left fun i _ => ?_
        simp only [Function.comp]
        omega
    rw [e]
    simp only [List.range'_succ, List.map_cons, List.cons_append] at ih ⊢
    simp only [brkL]
    rw [if_pos (by omega)]
    omega
theorem brk_rgI (f m : Int) (t : List Int) : brkL (rgI f m ++ t) ≤ 1 + brkL t := by
  have e := brk_rg m.toNat f t
  rw [← List.range_eq_range'] at e
  exact e
theorem brk_rg1 (f m : Int) : brkL (rgI f m) ≤ 0 := by
  have key : ∀ (n : Nat) (f : Int), brkL ((List.range' 0 n).map (fun i => f + ((i : Nat) : Int))) ≤ 0 := fun n => by
    induction n with
    | zero => intro f; simp [brkL]
    | succ n ih =>
      intro f
      cases n with
      | zero => simp [brkL]
      | succ n =>
        have ih := ih (f + 1)
        have e : (List.range' 0 (n + 2)).map (fun i => f + ((i : Nat) : Int)) = f :: (List.range' 0 (n + 1)).map (fun i => f + 1 + ((i : Nat) : Int)) := by
          rw [List.range'_succ, List.map_cons]
          congr 1
          · simp
          · rw [List.range'_eq_map_range, List.range'_eq_map_range, List.map_map, List.map_map]
            refine List.map_congr_left fun i _ => ?_
            simp only [Function.comp]
            omega
        rw [e]
        simp only [List.range'_succ, List.map_cons] at ih ⊢
        simp only [brkL]
        rw [if_pos (by omega)]
        omega
  have e := key m.toNat f
  rw [← List.range_eq_range'] at e
  exact e
theorem brk_cat : ∀ (ps : List (Int × Int)), ps ≠ [] → brkL (catS ps) + 1 ≤ ps.length
  | [], h => absurd rfl h
  | [p], _ => by
    rw [catS_one]
    have := brk_rg1 p.1 p.2
    simp only [List.length_singleton]
    omega
  | p :: q :: r, _ => by
    have ih := brk_cat (q :: r) (by simp)
    have e := brk_rgI p.1 p.2 (catS (q :: r))
    rw [show catS (p :: q :: r) = rgI p.1 p.2 ++ catS (q :: r) from rfl]
    simp only [List.length_cons] at ih ⊢
    omega
/-- no fewer: the longest ones -/
theorem sum_take_mono : ∀ (ds : List Int), (∀ d ∈ ds, 0 ≤ d) → ∀ i j : Nat, i ≤ j → (ds.take i).sum ≤ (ds.take j).sum
  | [], _, i, j, _ => by simp
  | d :: r, h, 0, j, _ => by
    have e : ∀ xs : List Int, (∀ d ∈ xs, 0 ≤ d) → 0 ≤ xs.sum := fun xs => by
      induction xs with
      | nil => intro _; simp
      | cons x t ih =>
        intro hx
        rw [List.sum_cons]
        have := hx x (by simp)
        have := ih fun d hd => hx d (by simp [hd])
        omega
    rw [List.take_zero, List.sum_nil]
    exact e _ fun x hx => h x (List.mem_of_mem_take hx)
  | d :: r, h, i + 1, 0, z => by omega
  | d :: r, h, i + 1, j + 1, z => by
    rw [List.take_succ_cons, List.take_succ_cons, List.sum_cons, List.sum_cons]
    have := sum_take_mono r (fun x hx => h x (by simp [hx])) i j (by omega)
    omega
theorem Pcs.few {rows out : List (Int × Int)} {n : Int} {ds : List Int} {k : Nat} (h : Pcs rows n out) (hn : 0 < n) (hp : ∀ p ∈ rows, 1 ≤ p.2) (h1 : ds.Perm (rows.map (·.2))) (h2 : ds.Pairwise (· ≥ ·)) (hk : n ≤ (ds.take k).sum ∨ k = ds.length) : out.length ≤ k := by
  obtain ⟨pre, u, r, rows2, hE⟩ := h.ends hn
  have z := hE.er.longest h1 h2
  have e2 : out.length = pre.length + 1 := by rw [hE.out, List.length_append, List.length_singleton]
  have hs := hE.sum
  have hr := hE.r1
  refine Decidable.byContradiction fun hc => ?_
  rcases hk with hk | hk
  · have hm := sum_take_mono ds (fun d hd => by
      obtain ⟨p, hq, rfl⟩ := List.mem_map.mp (h1.subset hd)
      have := hp p hq
      omega) k pre.length (by omega)
    omega
  · have h3 := h1.length_eq
    have h4 := hE.er.perm.length_eq
    have h5 := List.length_pos_of_mem hE.mem
    rw [List.length_map] at h3
    rw [List.length_append] at h4
    omega
theorem Pcs.ne {rows out : List (Int × Int)} {n : Int} (h : Pcs rows n out) (hn : 0 < n) : out ≠ [] := by
  obtain ⟨pre, u, r, rows2, hE⟩ := h.ends hn
  rw [hE.out]
  simp
end Lt
/-! which run lacks blocks: plain Lean -/
namespace Lt
def dueStep (s : Int × Option (Int × Int)) (q : Int × Int) : Int × Option (Int × Int) := (s.1 - q.2, match s.2 with | some u => some u | none => if s.1 < q.2 then some (q.2, s.1) else none)
theorem due_left : ∀ (rows : List (Int × Int)) (s : Int × Option (Int × Int)), (rows.foldl dueStep s).1 = s.1 - sizes rows
  | [], s => by simp [sizes]
  | p :: r, s => by
    rw [List.foldl_cons, due_left r, sizes_cons]
    show s.1 - p.2 - sizes r = _
    omega
theorem due_some (u : Int × Int) : ∀ (rows : List (Int × Int)) (k : Int), (rows.foldl dueStep (k, some u)).2 = some u
  | [], _ => rfl
  | p :: r, k => due_some u r (k - p.2)
theorem due_none : ∀ (rows : List (Int × Int)) (k : Int), (∀ p ∈ rows, 1 ≤ p.2) → 0 ≤ k → (rows.foldl dueStep (k, none)).2 = none → sizes rows ≤ k
  | [], k, _, hk, _ => hk
  | p :: r, k, hp, hk, h => by
    rw [List.foldl_cons] at h
    by_cases e : k < p.2
    · rw [show dueStep (k, none) p = (k - p.2, some (p.2, k)) by simp [dueStep, e], due_some] at h
      cases h
    · rw [show dueStep (k, none) p = (k - p.2, none) by simp [dueStep, e]] at h
      have := due_none r (k - p.2) (fun q hq => hp q (List.mem_cons_of_mem _ hq)) (by omega) h
      rw [sizes_cons]
      omega
theorem due_first : ∀ (rows : List (Int × Int)) (i : Nat) (k f m : Int), (∀ p ∈ rows, 1 ≤ p.2) → rows[i]? = some (f, m) → sizes (rows.take i) ≤ k → k - sizes (rows.take i) < m → (rows.foldl dueStep (k, none)).2 = some (m, k - sizes (rows.take i))
  | [], i, k, f, m, _, hx, _, _ => by simp at hx
  | p :: r, 0, k, f, m, _, hx, h1, h2 => by
    rw [List.getElem?_cons_zero] at hx
    have hx := Option.some.inj hx
    subst hx
    rw [List.take_zero] at h2 ⊢
    have e0 : sizes ([] : List (Int × Int)) = 0 := rfl
    rw [e0] at h2 ⊢
    rw [List.foldl_cons, show dueStep (k, none) (f, m) = (k - m, some (m, k)) by simp [dueStep]; omega, due_some, Int.sub_zero]
  | p :: r, i + 1, k, f, m, hp, hx, h1, h2 => by
    rw [List.getElem?_cons_succ] at hx
    rw [List.take_succ_cons, sizes_cons] at h1 h2 ⊢
    have hpr : ∀ q ∈ r, 1 ≤ q.2 := fun q hq => hp q (List.mem_cons_of_mem _ hq)
    have h3 := sizes_nn (rows := r.take i) fun q hq => hpr q (List.mem_of_mem_take hq)
    rw [List.foldl_cons, show dueStep (k, none) p = (k - p.2, none) by simp [dueStep]; omega, due_first r i (k - p.2) f m hpr hx (by omega) (by omega)]
    congr 2
    omega
def dueAt (rows : List (Int × Int)) (k : Int) (i : Nat) : Int × Option (Int × Int) := (rows.take i).foldl dueStep (k, none)
theorem dueAt_succ {rows : List (Int × Int)} {k : Int} {i : Nat} {q : Int × Int} (h : rows[i]? = some q) : dueAt rows k (i + 1) = dueStep (dueAt rows k i) q := by
  unfold dueAt
  rw [take_snoc h, List.foldl_append]
  rfl
theorem dueAt_all (rows : List (Int × Int)) (k : Int) : dueAt rows k rows.length = rows.foldl dueStep (k, none) := by
  unfold dueAt
  rw [List.take_length]
/-- pages as the law lays them -/
structure PgAsc (n : Nat) (pg : Int) (gs : List Int) : Prop where
  asc : gs.Pairwise (· < ·)
  lo : ∀ k ∈ gs, 0 ≤ k ∧ k < pg
  len : gs.length = n
  pg0 : 0 ≤ pg
  pg1 : pg ≤ 3 + 4 * n
theorem PgAsc.step {n : Nat} {pg g : Int} {gs : List Int} (h : PgAsc n pg gs) (h1 : 1 ≤ g) (h2 : g ≤ 4) : PgAsc (n + 1) (pg + g) (gs ++ [pg]) := by
  have a := h.pg0
  have b := h.pg1
  refine ⟨?_, fun k hk => ?_, by rw [List.length_append, h.len]; rfl, by omega, by omega⟩
  · refine List.pairwise_append.mpr ⟨h.asc, List.pairwise_singleton _ _, fun x hx y hy => ?_⟩
    rw [List.mem_singleton.mp hy]
    exact (h.lo x hx).2
  · rcases List.mem_append.mp hk with z | z
    · have := h.lo k z
      omega
    · rw [List.mem_singleton.mp z]
      omega
theorem asc_rev (xs : List Int) : ascOf xs.reverse = ascOf xs := asc_one (asc_asc _) (asc_asc _) fun k => by rw [mem_asc, mem_asc, List.mem_reverse]
theorem str_rev (xs : List Int) : strOf xs.reverse = strOf xs := by rw [← strOf_asc xs.reverse, asc_rev, strOf_asc]
end Lt
/-! dict(list of pairs); len(set(list)) -/
namespace Lt
open PySem PySem.Spec PyProof.Rows L2
section
variable {K : PySem.W.Frag} {L R : List Asn} {H : Hp} {Q : VK} {a : Addr} {ta : TE} {σ : L2.St} {ps : List (Int × Int)}
theorem putK_fresh {kvs : List (Key × V)} {k : Key} {v : V} (h : k ∉ kvs.map (·.1)) : putK kvs k v = kvs ++ [(k, v)] := by
  have e : (kvs.any fun kv => decide (kv.1 = k)) = false := by
    refine List.any_eq_false.mpr fun p hp z => h ?_
    rw [← of_decide_eq_true z]
    exact List.mem_map.mpr ⟨p, hp, rfl⟩
  unfold putK
  rw [e]
  rfl
theorem mergeK_nd : ∀ (more kvs : List (Key × V)), ((kvs ++ more).map (·.1)).Nodup → mergeK kvs more = kvs ++ more
  | [], kvs, _ => (List.append_nil kvs).symm
  | p :: r, kvs, h => by
    have h1 : putK kvs p.1 p.2 = kvs ++ [p] := putK_fresh fun z => by
      rw [List.map_append, List.nodup_append] at h
      exact h.2.2 _ z p.1 (by simp) rfl
    have h2 : ((kvs ++ [p] ++ r).map (·.1)).Nodup := by
      rw [List.append_assoc]
      exact h
    show mergeK (putK kvs p.1 p.2) r = _
    rw [h1, mergeK_nd r (kvs ++ [p]) h2, List.append_assoc]
    rfl
abbrev vI (ps : List (Int × Int)) : List (Key × V) := ps.map fun u => (Sum.inl u.1, V.int u.2)
theorem pairs_at : ∀ {ps : List (Int × Int)} {xs : List V}, DvAll H xs (ps.map dPair) → ∃ qs : List Addr, xs = qs.map V.ref ∧ Paired (fun p kv => SqT K H p [kV kv.1, kv.2]) qs (vI ps)
  | [], _, .nil => ⟨[], rfl, .nil⟩
  | u :: r, _, .cons h t => by
    obtain ⟨p, rfl, hp⟩ := dv_pair h
    obtain ⟨qs, rfl, hq⟩ := pairs_at t
    exact ⟨p :: qs, rfl, .cons (SqT.of hp) hq⟩
theorem kv_ints : ∀ ps : List (Int × Int), KvAll H (vI ps) (kI PyData.int ps)
  | [] => .nil
  | u :: r => .cons (.int u.2) (kv_ints r)
theorem s_dpairs {B : Addr → Hp → Prop} (hS : Hs L H) (k : HasL L a (ps.map dPair)) (hn : (ps.map (·.1)).Nodup) (h : ∀ p H', Hs (isD p (kI PyData.int ps) :: L) H' → B p H') :
    ∃ (b : Addr) (qs : List Addr) (kvs : List (Key × V)), [V.ref a] = [.ref b] ∧ SqL K H b (qs.map V.ref) ∧ Paired (fun p kv => SqT K H p [kV kv.1, kv.2]) qs kvs ∧ ∀ p, H p = none → B p (upd H p (.dK (mergeK [] kvs))) := by
  obtain ⟨xs, hx, hd⟩ := k.at_ hS
  obtain ⟨qs, rfl, hp⟩ := pairs_at (K := K) hd
  refine ⟨a, qs, _, rfl, SqL.of hx, hp, fun p n => h p _ ?_⟩
  rw [mergeK_nd (vI ps) [] (by
    rw [List.nil_append, List.map_map]
    have e : (Prod.fst ∘ fun u : Int × Int => ((Sum.inl u.1 : Key), V.int u.2)) = Sum.inl ∘ fun u : Int × Int => u.1 := rfl
    rw [e, ← List.map_map]
    exact List.pairwise_map.mpr (hn.imp fun z w => z (Sum.inl.inj w)))]
  exact Hs.newD (κ := Key) n hS (kv_ints ps)
theorem k_lenSetV {i : Nat} {v : V} (hv : σ[i]? = some (some v)) (h : ∃ (l : Addr) (L : List Asn) (ns : List Int), v = .ref l ∧ Hs L H ∧ HasL L l (ns.map PyData.int) ∧ ns.Nodup ∧ ns.length ≤ 4000 ∧ Q (.int (ns.length : Nat)) H) : RZ.tLenSetI K (tVar i) σ H Q := by
  obtain ⟨l, L, ns, rfl, hS, hk, nd, hl, q⟩ := h
  exact ⟨.ref l, hv, l, ns, rfl, SqL.of (hk.ints hS), nd, hl, q⟩
end
end Lt
/-! sorted(list of (whole number, any)), the numbers unlike -/
namespace SrtO
open PySem PyProof.Rows Srt
section
variable {prog : Program} {w : World} {A : Around} {E : Value → Shared → Prop} {s : Shared}
def IsKv (h : Heap) (v : Value) (x : Int) : Prop := ∃ a o t u n, v = .ref a ∧ h.get? a = some o ∧ o.cls = .type "tuple" ∧ o.data = .seq #[.int x t, u] n
theorem IsKv.keeps {h h' : Heap} {v : Value} {x : Int} (p : IsKv h v x) (k : ∀ b o, h.get? b = some o → o.cls = .type "tuple" → h'.get? b = some o) : IsKv h' v x := by
  obtain ⟨a, o, t, u, n, e, ho, hc, hd⟩ := p
  exact ⟨a, o, t, u, n, e, k _ _ ho hc, hc, hd⟩
theorem swo_kv (k : Value → Int) : Swo fun v u => decide (k v < k u) := by
  refine ⟨fun x y h => ?_, fun x y z h1 h2 => ?_⟩
  · have a := of_decide_eq_true h
    exact decide_eq_false (by omega)
  · have a := of_decide_eq_false h1
    have b := of_decide_eq_false h2
    exact decide_eq_false (by omega)
theorem kv_cmp {vs : List Value} {k : Value → Int} (hp : ∀ v ∈ vs, IsKv s.heap v (k v)) (hi : ∀ v ∈ vs, ∀ u ∈ vs, k v = k u → v = u) : Cmp prog w A s (tuples' true) (fun p => p.1 ∈ vs) (lt2 fun v u => decide (k v < k u)) := by
  intro p q hm hm'
  obtain ⟨a, o, t, u, n, e, ho, hc, hd⟩ := hp _ hm
  obtain ⟨a', o', t', u', n', e', ho', hc', hd'⟩ := hp _ hm'
  show wpAny (model prog w) A (keyLt' (tuples' true) p.1 q.1) (fun r s' => s' = s ∧ r = decide (k p.1 < k q.1)) (fun _ _ => False) s
  have hs : k p.1 = k q.1 → u = u' := fun z => by
    have z2 := hi _ hm _ hm' z
    rw [e, e'] at z2
    cases z2
    rw [ho] at ho'
    cases ho'
    rw [hd] at hd'
    injection hd' with h1 h2
    have h3 := congrArg Array.toList h1
    simp at h3
    exact h3.2
  generalize k p.1 = x at *
  generalize k q.1 = x' at *
  rw [e, e']
  refine PySem.W.kat_lt ho hd ho' hd' ?_
  show PySem.W.KatLex prog w A true (decide (2 < 2)) _ [(.int x t, .int x' t'), (u, u')] 0 s
  refine PySem.W.kat_cons (SeqAt.EqAt.int_int x t x' t' prog w _ _ ?_)
  refine PySem.W.kat_go (fun e1 => ?_) (fun e1 => ?_)
  · have ex : x = x' := by simpa using e1
    obtain rfl := hs ex
    subst ex
    refine PySem.W.kat_yes (PySem.W.kat_cons (SeqAt.EqAt.same u prog w _ _ ?_))
    exact PySem.W.kat_yes (PySem.W.kat_nil ⟨rfl, (decide_eq_false (Int.lt_irrefl _)).symm⟩)
  · exact PySem.W.kat_no (oneLt_int ⟨rfl, rfl⟩)
theorem firsts_kv {h : Heap} : ∀ {vs : List Value}, (∀ v ∈ vs, ∃ x, IsKv h v x) → ∃ fs : List Value, PySem.W.KatTups h vs fs ∧ fs.length = vs.length ∧ ∀ f ∈ fs, ∃ x t, f = Value.int x t
  | [], _ => ⟨[], PySem.W.KatTups.nil, rfl, fun _ hm => by simp at hm⟩
  | v :: vs, hp => by
    obtain ⟨fs, h1, h2, h3⟩ := firsts_kv (vs := vs) fun v' hm => hp v' (List.mem_cons_of_mem _ hm)
    obtain ⟨x, a, o, t, u, n, e, ho, hc, hd⟩ := hp v (List.mem_cons_self ..)
    subst e
    refine ⟨.int x t :: fs, PySem.W.KatTups.cons ho hc hd rfl h1, by rw [List.length_cons, List.length_cons, h2], fun f hm => ?_⟩
    rcases List.mem_cons.mp hm with rfl | hm
    · exact ⟨x, t, rfl⟩
    · exact h3 f hm
theorem kv_sortable {a : Addr} {vs : List Value} {k : Value → Int} (h0 : 0 < vs.length) (hp : ∀ v ∈ vs, IsKv s.heap v (k v)) (hi : ∀ v ∈ vs, ∀ u ∈ vs, k v = k u → v = u) (ha : ∀ o, s.heap.get? a = some o → o.cls ≠ .type "tuple") : SortableO prog w A s a vs fun v u => decide (k v < k u) := by
  intro h' keep
  have hp' : ∀ v ∈ vs, IsKv h' v (k v) := fun v hm => (hp v hm).keeps fun b o e c => keep b o (fun z => by subst z; exact ha o e c) e
  obtain ⟨fs, h1, h2, h3⟩ := firsts_kv fun v hm => ⟨_, hp' v hm⟩
  refine ⟨tuples' true, fun Q E hq => ?_, kv_cmp hp' hi⟩
  refine PySem.W.kat_kind (T := .type "int") h1 (by omega) (fun f hm => ?_) (by rfl) ?_
  · obtain ⟨x, t, rfl⟩ := h3 f hm
    exact PySem.W.Looks.now
  · have e : (Value.type "int" != Value.type "tuple") = true := by first | decide +kernel | rfl | decide
    rw [e]
    exact hq
theorem sorted_kv {l : Addr} {vs : List Value} {k : Value → Int} {Q : Value → Shared → Prop} (hl : s.heap.IsList l vs.toArray) (hz : vs.length ≤ sizeLine) (hp : ∀ v ∈ vs, IsKv s.heap v (k v)) (hi : ∀ v ∈ vs, ∀ u ∈ vs, k v = k u → v = u)
    (h : ∀ (h' : Heap) (d : Addr) (out : List Value), Srtd (fun v u => decide (k v < k u)) out → Stb (fun v u => decide (k v < k u)) out vs → (∀ b o, s.heap.get? b = some o → h'.get? b = some o) → s.heap.objs.size ≤ d → (∃ n, h'.get? d = some (seqObj "list" out.toArray n)) → Q (.ref d) { s with heap := h' }) :
    wpAny (model prog w) A (call (.builtin "sorted") [.ref l]) Q E s := by
  refine sorted_ord (swo_kv k) hl hz (fun h2 h₁ a ha kk => ?_) fun out hs hb => ?_
  · refine kv_sortable (s := { s with heap := h₁ }) (by omega) (fun v hm => (hp v hm).keeps fun b o e _ => (kk b o e).2) hi fun o e => ?_
    have e' : some o = some (seqObj "list" vs.toArray 0) := e.symm.trans ha
    cases e'
    intro c
    exact absurd (Value.type.inj c) (by decide)
  · exact h _ _ out hs hb (fun b o e => sortedAll_old e) (Nat.le_succ _) (sortedAll_at s.heap vs out.toArray)
end
end SrtO
namespace Lt
open PySem PySem.Spec PyProof.Rows L2
def rSortedKv (K : PySem.W.Frag) : List V → Hp → VK → Prop := fun vs H Q => ∃ (a : Addr) (xs : List V) (k : V → Int), vs = [V.ref a] ∧ SqL K H a xs ∧ (∀ x ∈ xs, ∃ t y, x = V.ref t ∧ H t = some (.tup [.int (k x), y])) ∧ (xs.map k).Nodup ∧
  ∀ ys p, ys.Pairwise (fun x y => k x < k y) → ys.Perm xs → H p = none → Q (.ref p) (upd H p (.lst ys))
theorem nd_inj {α : Type} {k : α → Int} : ∀ {xs : List α}, (xs.map k).Nodup → ∀ x ∈ xs, ∀ y ∈ xs, k x = k y → x = y
  | z :: r, h, x, hx, y, hy, e => by
    rw [List.map_cons, List.nodup_cons] at h
    rcases List.mem_cons.mp hx with e1 | hx2
    · rcases List.mem_cons.mp hy with e2 | hy2
      · rw [e1, e2]
      · exact absurd (List.mem_map.mpr ⟨y, hy2, by rw [← e, e1]⟩) h.1
    · rcases List.mem_cons.mp hy with e2 | hy2
      · exact absurd (List.mem_map.mpr ⟨x, hx2, by rw [e, e2]⟩) h.1
      · exact nd_inj h.2 x hx2 y hy2 e
section
variable {X : Cx}
theorem cr_sortedKv : CallR X (.builtin "sorted") (rSortedKv X.K) := by
  intro pins s σ H vs us Q I r h
  obtain ⟨a, xs, k, rfl, hs, hx, hnd, q⟩ := h
  obtain ⟨its, rv, hl, hz⟩ := I.list hs
  obtain ⟨u, rfl, ru⟩ := vals1 r
  obtain rfl : u = Value.ref a := ru
  obtain ⟨e1, e2⟩ := refs_back rv fun x m => by
    obtain ⟨t, _, e, _⟩ := hx x m
    exact ⟨t, e⟩
  refine SrtO.sorted_kv (k := fun u => k (backV u)) hl.isList (by rw [← rv.length]; exact hz) (fun v hv => ?_) (fun v hv u hu e => ?_) fun h' d out h1 h2 kp hd hn => ?_
  · obtain ⟨t, rfl⟩ := e2 v hv
    have hm : V.ref t ∈ xs := by rw [e1]; exact List.mem_map.mpr ⟨_, hv, rfl⟩
    obtain ⟨t', y, e, ht⟩ := hx _ hm
    cases e
    obtain ⟨_, its2, r2, o, ho, hc, n, hd⟩ := I.hok _ _ ht
    obtain ⟨u1, u2, rfl, ri, rj⟩ := vals2 r2
    obtain ⟨t1, rfl⟩ := ri
    exact ⟨t, o, t1, u2, n, rfl, ho, hc, hd⟩
  · obtain ⟨t, rfl⟩ := e2 v hv
    obtain ⟨t', rfl⟩ := e2 u hu
    have hm : V.ref t ∈ xs := by rw [e1]; exact List.mem_map.mpr ⟨_, hv, rfl⟩
    have hm' : V.ref t' ∈ xs := by rw [e1]; exact List.mem_map.mpr ⟨_, hu, rfl⟩
    have z := nd_inj hnd _ hm _ hm' e
    cases z
    rfl
  · have h3 : ∀ u ∈ out, ∃ a, u = Value.ref a := fun u hu => e2 u (h2.perm.mem_iff.mp hu)
    obtain ⟨n, hn⟩ := hn
    have hpm : (out.map backV).Perm xs := by
      rw [e1]
      exact h2.perm.map backV
    have hsr : (out.map backV).Pairwise (fun x y => k x < k y) := by
      have hnd2 : ((out.map backV).map k).Nodup := (hpm.map k).symm.nodup hnd
      have hs1 : (out.map backV).Pairwise (fun x y => k x ≤ k y) := List.pairwise_map.mpr (h1.imp fun z => by
        have := of_decide_eq_false z
        omega)
      have hs2 : (out.map backV).Pairwise (fun x y => k x ≠ k y) := List.pairwise_map.mp hnd2
      exact hs1.imp₂ (fun a b c => by omega) hs2
    refine ⟨.ref d, upd H d (.lst (out.map backV)), I.laid (t' := s.toks) kp hd ⟨?_, out, n, vals_back h3, hn⟩, rfl, q _ d hsr hpm (I.hok.fresh hd)⟩
    rw [hpm.length_eq]
    exact hz
end
end Lt
/-! dicts whose values are data: dict(pairs), list(d.items()), sorted(d), d.clear(); lists of (number, data) sorted -/
namespace Lt
open PySem PySem.Spec PyProof.Rows L2
abbrev dKv {α : Type} (f : α → PyData) (u : Int × α) : PyData := .tuple [.int u.1, f u.2]
theorem shp_kv {α : Type} {f : α → PyData} {n : Nat} (S : Shp α f n) : Shp (Int × α) (dKv f) (n + 1) := ⟨fun u => by simp [dKv, tidy, tidyAll, S.ti], fun u => by
  have := S.dp u.2
  simp only [dKv, PyData.depth, PyData.depthAll]
  omega, fun a b e => by
  have e : PyData.tuple [.int a.1, f a.2] = PyData.tuple [.int b.1, f b.2] := e
  injection e with e
  injection e with e1 e
  injection e with e2 _
  injection e1 with e1
  exact Prod.ext e1 (S.inj _ _ e2)⟩
section
variable {K : PySem.W.Frag} {L R : List Asn} {H : Hp} {Q : VK} {a d : Addr} {σ : L2.St} {α : Type} {f : α → PyData} {ps kvs : List (Int × α)}
theorem dv_kv {x : V} {u : Int × α} (h : Dv H x (dKv f u)) : ∃ t y, x = .ref t ∧ H t = some (.tup [.int u.1, y]) ∧ Dv H y (f u.2) := by
  cases h with
  | tup ha hs =>
    cases hs with
    | cons h1 t =>
      cases t with
      | cons h2 t2 =>
        cases t2
        cases h1
        exact ⟨_, _, rfl, ha, h2⟩
theorem kvs_at : ∀ {ps : List (Int × α)} {xs : List V}, DvAll H xs (ps.map (dKv f)) → ∃ (qs : List Addr) (kvs : List (Key × V)), xs = qs.map V.ref ∧ Paired (fun p kv => SqT K H p [kV kv.1, kv.2]) qs kvs ∧ KvAll H kvs (kI f ps)
  | [], _, .nil => ⟨[], [], rfl, .nil, .nil⟩
  | u :: r, _, .cons h t => by
    obtain ⟨p, y, rfl, hp, hy⟩ := dv_kv h
    obtain ⟨qs, kvs, rfl, hq, hk⟩ := kvs_at t
    exact ⟨p :: qs, (.inl u.1, y) :: kvs, rfl, .cons (SqT.of hp) hq, .cons hy hk⟩
theorem kI_nd (hn : (ps.map (·.1)).Nodup) : ((kI f ps).map (·.1)).Nodup := by
  rw [kI_keys]
  exact List.pairwise_map.mpr (hn.imp fun z w => z (Sum.inl.inj w))
theorem s_dkv {B : Addr → Hp → Prop} (hS : Hs L H) (k : HasL L a (ps.map (dKv f))) (hn : (ps.map (·.1)).Nodup) (h : ∀ p H', Hs (isD p (kI f ps) :: L) H' → B p H') :
    ∃ (b : Addr) (qs : List Addr) (kvs : List (Key × V)), [V.ref a] = [.ref b] ∧ SqL K H b (qs.map V.ref) ∧ Paired (fun p kv => SqT K H p [kV kv.1, kv.2]) qs kvs ∧ ∀ p, H p = none → B p (upd H p (.dK (mergeK [] kvs))) := by
  obtain ⟨xs, hx, hd⟩ := k.at_ hS
  obtain ⟨qs, kvs, rfl, hp, hk⟩ := kvs_at (K := K) hd
  refine ⟨a, qs, kvs, rfl, SqL.of hx, hp, fun p n => h p _ ?_⟩
  rw [mergeK_nd kvs [] (by rw [List.nil_append, hk.keys]; exact kI_nd hn)]
  exact Hs.newD (κ := Key) n hS hk
theorem s_dkv0 (K : PySem.W.Frag) (hS : Hs L H) (k : HasL L a (ps.map (dKv f))) (hn : (ps.map (·.1)).Nodup) :
    ∃ (qs : List Addr) (kvs : List (Key × V)), SqL K H a (qs.map V.ref) ∧ Paired (fun p kv => SqT K H p [kV kv.1, kv.2]) qs kvs ∧ ∀ p, H p = none → Hs (isD p (kI f ps) :: L) (upd H p (.dK (mergeK [] kvs))) := by
  obtain ⟨_, qs, kvs, e, h1, h2, h3⟩ := s_dkv (K := K) (B := fun p H' => Hs (isD p (kI f ps) :: L) H') hS k hn fun p H' h => h
  cases e
  exact ⟨qs, kvs, h1, h2, h3⟩
/-- list(d.items()) -/
theorem k_items {te : TE} (h : te σ H fun x H1 => LiI.rItemsL x H1 Q) : LiI.tListItems te σ H Q := h
theorem items_dv {H' : Hp} (hs : Same H H') : ∀ {ps : List (Int × α)} {kvs : List (Key × V)} {ts : List Addr}, KvAll H kvs (kI f ps) → Paired (fun (t : Addr) (q : Key × V) => H' t = some (.tup [kV q.1, q.2])) ts kvs → DvAll H' (ts.map V.ref) (ps.map (dKv f))
  | [], _, _, .nil, .nil => .nil
  | u :: r, _, _, .cons hv t, .cons ht tt => .cons (.tup ht (.cons (.int _) (.cons (hv.sub hs) .nil))) (items_dv hs t tt)
theorem newAt {p : Addr} {vs : List V} {ds : List PyData} {H' : Hp} (hs : Same H H') (n : H p = none) (e : H' p = some (.lst vs)) (hS : Hs L H) (hd : DvAll H' vs ds) : Hs (isL p ds :: L) H' := by
  have s0 := solo_le e
  have st := tups_le (H := H')
  refine ⟨un (solo p (.lst vs)) (tups H'), H, un_le s0 st, hs, fun b u z => ?_, ⟨vs, un_l _ _ solo_at, hd.map fun b xs e => un_r s0 st _ _ (tups_at e)⟩, hS⟩
  unfold un at z
  cases h1 : solo p (.lst vs) b with
  | none =>
    rw [h1] at z
    exact .inr (tups_tup z)
  | some o =>
    obtain ⟨rfl, _⟩ := solo_of h1
    exact .inl n
theorem s_items (hS : Hs L H) (k : Pick L (isD d (kI f kvs)) R) (h : ∀ p H', Hs (isL p (kvs.map (dKv f)) :: L) H' → Q (.ref p) H') : LiI.rItemsL (.ref d) H Q := by
  obtain ⟨us, h1, h2⟩ := hS.at_ k
  exact ⟨d, us, rfl, h1, fun H' p ts hk np nt hp e1 e2 => h p H' (newAt hk np e1 hS (items_dv hk h2 e2))⟩
theorem s_sortD {B : Addr → Hp → Prop} (hS : Hs L H) (k : Pick L (isD d (kI f kvs)) R) (hl : kvs.length < 64) (h : ∀ (ys : List Int) p H', ys.Perm (kvs.map (·.1)) → ys.Pairwise (· ≤ ·) → Hs (isL p (ys.map PyData.int) :: L) H' → B p H') :
    ∃ (b : Addr) (us : List (Key × V)) (ks : List Int), [V.ref d] = [.ref b] ∧ Rd H b (.dK us) ∧ us.map (·.1) = ks.map Sum.inl ∧ ks.length < 64 ∧ ∀ (ys : List Int) (p : Addr), ys.Perm ks → ys.Pairwise (· ≤ ·) → H p = none → B p (upd H p (.lst (ys.map V.int))) := by
  obtain ⟨us, h1, h2⟩ := hS.at_ k
  refine ⟨d, us, kvs.map (·.1), rfl, .inl h1, ?_, by rw [List.length_map]; exact hl, fun ys p hp hs n => h ys p _ hp hs (hS.newL n (DvAll.ints ys))⟩
  rw [h2.keys, kI_keys]
theorem s_clearD (hS : Hs L H) (k : Pick L (isD d (kI f kvs)) R) (h : ∀ H', Hs (isD d (kI f ([] : List (Int × α))) :: R) H' → Q .non H') : tyV K "dict" (.ref d) H ∧ rDClear (.ref d) [] H Q := by
  obtain ⟨us, h1, h2⟩ := hS.at_ k
  exact ⟨.inr (.inr (.inl ⟨rfl, .inl ⟨us, h1⟩⟩)), d, us, rfl, rfl, h1, h _ (Hs.putD (κ := Key) (us := []) (es := []) (k.go hS) .nil)⟩
def kvKey (H : Hp) (x : V) : Int := match x with
  | .ref t => match H t with
    | some (.tup (.int i :: _)) => i
    | _ => 0
  | _ => 0
/-- sorted(list of (number, data)), the numbers unlike -/
theorem s_sortKv (hS : Hs L H) (k : HasL L a (ps.map (dKv f))) (hn : (ps.map (·.1)).Nodup) (h : ∀ (qs : List (Int × α)) p H', qs.Pairwise (fun x y => x.1 < y.1) → qs.Perm ps → Hs (isL p (qs.map (dKv f)) :: L) H' → Q (.ref p) H') : rSortedKv K [V.ref a] H Q := by
  obtain ⟨xs, hx, hd⟩ := k.at_ hS
  have key : ∀ {ps : List (Int × α)} {xs : List V}, DvAll H xs (ps.map (dKv f)) → xs.map (kvKey H) = ps.map (·.1) ∧ ∀ x ∈ xs, ∃ t y, x = V.ref t ∧ H t = some (.tup [.int (kvKey H x), y]) := by
    intro ps
    induction ps with
    | nil =>
      intro xs hd
      cases hd
      exact ⟨rfl, fun x hx => by cases hx⟩
    | cons u r ih =>
      intro xs hd
      cases hd with
      | cons h1 t =>
        obtain ⟨p, y, rfl, hp, hy⟩ := dv_kv h1
        have ek : kvKey H (.ref p) = u.1 := by
          show (match H p with
            | some (.tup (.int i :: _)) => i
            | _ => 0) = u.1
          rw [hp]
        obtain ⟨i1, i2⟩ := ih t
        refine ⟨by rw [List.map_cons, List.map_cons, i1, ek], fun x hx => ?_⟩
        rcases List.mem_cons.mp hx with rfl | hx
        · exact ⟨p, y, rfl, by rw [ek]; exact hp⟩
        · exact i2 x hx
  obtain ⟨e1, e2⟩ := key hd
  refine ⟨a, xs, kvKey H, rfl, SqL.of hx, e2, by rw [e1]; exact hn, fun ys p hs hp n => ?_⟩
  have back : ∀ {ys : List V}, (∀ y ∈ ys, y ∈ xs) → ∃ qs : List (Int × α), DvAll H ys (qs.map (dKv f)) ∧ (∀ q ∈ qs, q ∈ ps) := by
    intro ys
    induction ys with
    | nil => exact fun _ => ⟨[], .nil, fun q hq => by cases hq⟩
    | cons y r ih =>
      intro hm
      obtain ⟨qs, h1, h2⟩ := ih fun z hz => hm z (List.mem_cons_of_mem _ hz)
      obtain ⟨j, hj, ej⟩ := List.mem_iff_getElem.mp (hm y List.mem_cons_self)
      obtain ⟨dd, e3, e4⟩ := hd.get (List.getElem?_eq_some_iff.mpr ⟨hj, ej⟩)
      rw [List.getElem?_map] at e3
      cases e5 : ps[j]? with
      | none =>
        rw [e5] at e3
        cases e3
      | some u =>
        rw [e5] at e3
        have e6 : dKv f u = dd := Option.some.inj e3
        rw [← e6] at e4
        refine ⟨u :: qs, .cons e4 h1, fun q hq => ?_⟩
        rcases List.mem_cons.mp hq with rfl | hq
        · exact List.mem_of_getElem? e5
        · exact h2 q hq
  obtain ⟨qs, h1, h2⟩ := back fun y hy => hp.mem_iff.mp hy
  obtain ⟨e3, _⟩ := key h1
  have hsq : qs.Pairwise (fun x y => x.1 < y.1) := by
    have z : (ys.map (kvKey H)).Pairwise (· < ·) := List.pairwise_map.mpr hs
    rw [e3] at z
    exact List.pairwise_map.mp z
  have hnq : qs.Nodup := hsq.imp fun z e => by rw [e] at z; omega
  have hkp : (qs.map (·.1)).Perm (ps.map (·.1)) := by
    rw [← e3, ← e1]
    exact hp.map (kvKey H)
  have hpq : qs.Perm ps := by
    refine (List.perm_ext_iff_of_nodup hnq ((List.pairwise_map.mp hn).imp fun z e => z (by rw [e]))).mpr fun u => ⟨h2 u, fun hu => ?_⟩
    obtain ⟨v, hv, ev⟩ := List.mem_map.mp (hkp.symm.subset (List.mem_map.mpr ⟨u, hu, rfl⟩))
    have hvp := h2 v hv
    have : v = u := nd_inj (k := (·.1)) hn v hvp u hu ev
    rw [← this]
    exact hv
  exact h qs p _ hsq hpq (hS.newL n h1)
end
end Lt
/-! rows of a map: plain Lean -/
namespace Lt
abbrev Ent : Type := Int × Int × Int
abbrev Row4 : Type := Int × Int × Int × Int
def Jn (r : Row4) (e : Ent) : Prop := r.1 + r.2.2.1 = e.1 ∧ r.2.1 + r.2.2.1 = e.2.1 ∧ r.2.2.2 = e.2.2
instance (r : Row4) (e : Ent) : Decidable (Jn r e) := inferInstanceAs (Decidable (_ ∧ _ ∧ _))
def rowStep (out : List Row4) (e : Ent) : List Row4 := match out.getLast? with
  | some r => if Jn r e then out.dropLast ++ [(r.1, r.2.1, r.2.2.1 + 1, r.2.2.2)] else out ++ [(e.1, e.2.1, 1, e.2.2)]
  | none => out ++ [(e.1, e.2.1, 1, e.2.2)]
def rowsOf (es : List Ent) : List Row4 := es.foldl rowStep []
def flatR (r : Row4) : List Ent := (List.range r.2.2.1.toNat).map fun (k : Nat) => (r.1 + (k : Int), r.2.1 + (k : Int), r.2.2.2)
def flat (rs : List Row4) : List Ent := rs.flatMap flatR
theorem flat_snoc (rs : List Row4) (r : Row4) : flat (rs ++ [r]) = flat rs ++ flatR r := by simp [flat]
theorem step_nil (e : Ent) : rowStep [] e = [(e.1, e.2.1, 1, e.2.2)] := rfl
theorem step_yes {out : List Row4} {r : Row4} {e : Ent} (h : Jn r e) : rowStep (out ++ [r]) e = out ++ [(r.1, r.2.1, r.2.2.1 + 1, r.2.2.2)] := by
  unfold rowStep
  rw [List.getLast?_append]
  simp [h]
theorem step_no {out : List Row4} {r : Row4} {e : Ent} (h : ¬ Jn r e) : rowStep (out ++ [r]) e = out ++ [r] ++ [(e.1, e.2.1, 1, e.2.2)] := by
  unfold rowStep
  rw [List.getLast?_append]
  simp [h]
theorem flatR_one (a b k : Int) : flatR (a, b, 1, k) = [(a, b, k)] := by simp [flatR, List.range_succ]
theorem flatR_more {r : Row4} (h : 0 ≤ r.2.2.1) : flatR (r.1, r.2.1, r.2.2.1 + 1, r.2.2.2) = flatR r ++ [(r.1 + r.2.2.1, r.2.1 + r.2.2.1, r.2.2.2)] := by
  unfold flatR
  simp only
  rw [show (r.2.2.1 + 1).toNat = r.2.2.1.toNat + 1 by omega, List.range_succ, List.map_append]
  congr 1
  simp only [List.map_singleton]
  rw [show ((r.2.2.1.toNat : Nat) : Int) = r.2.2.1 by omega]
theorem flatR_len (r : Row4) : (flatR r).length = r.2.2.1.toNat := by simp [flatR]
structure RowsOk (es : List Ent) (out : List Row4) : Prop where
  flat : flat out = es
  pos : ∀ r ∈ out, 1 ≤ r.2.2.1
  sep : ∀ (i : Nat) (r1 r2 : Row4), out[i]? = some r1 → out[i + 1]? = some r2 → ¬ Jn r1 (r2.1, r2.2.1, r2.2.2.2)
theorem get_snoc {α : Type} {xs : List α} {x y : α} {i : Nat} (h : (xs ++ [x])[i]? = some y) : xs[i]? = some y ∨ (i = xs.length ∧ y = x) := by
  by_cases e : i < xs.length
  · rw [List.getElem?_append_left e] at h
    exact .inl h
  · rw [List.getElem?_append_right (by omega)] at h
    by_cases e2 : i = xs.length
    · subst e2
      simp at h
      exact .inr ⟨rfl, h.symm⟩
    · rw [List.getElem?_eq_none_iff.mpr (by simp; omega)] at h
      cases h
theorem snoc_cases {α : Type} (xs : List α) : xs = [] ∨ ∃ o r, xs = o ++ [r] := by
  rcases List.eq_nil_or_concat xs with h | ⟨o, r, h⟩
  · exact .inl h
  · exact .inr ⟨o, r, by rw [h, List.concat_eq_append]⟩
theorem RowsOk.nil : RowsOk [] [] := ⟨rfl, (fun r h => by cases h), fun i r1 r2 h => by simp at h⟩
theorem RowsOk.step {es : List Ent} {out : List Row4} (h : RowsOk es out) (e : Ent) : RowsOk (es ++ [e]) (rowStep out e) := by
  rcases snoc_cases out with rfl | ⟨o, r, rfl⟩
  · have e0 : es = [] := h.flat.symm
    subst e0
    rw [step_nil]
    refine ⟨?_, fun r hr => ?_, fun i r1 r2 h1 h2 => ?_⟩
    · show Lt.flat ([] ++ [_]) = _
      rw [flat_snoc, flatR_one]
      rfl
    · rw [List.mem_singleton.mp hr]
      exact Int.le_refl _
    · simp at h2
  · have hr := h.pos r (List.mem_append_right _ (List.mem_singleton_self r))
    by_cases j : Jn r e
    · rw [step_yes j]
      refine ⟨?_, fun x hx => ?_, fun i r1 r2 h1 h2 => ?_⟩
      · rw [flat_snoc, flatR_more (by omega), ← List.append_assoc, ← flat_snoc, h.flat]
        congr 2
        exact Prod.ext j.1 (Prod.ext j.2.1 j.2.2)
      · rcases List.mem_append.mp hx with z | z
        · exact h.pos x (List.mem_append_left _ z)
        · rw [List.mem_singleton.mp z]
          simp only
          omega
      · rcases get_snoc h2 with h2 | ⟨z2, rfl⟩
        · have hi : i + 1 < o.length := (List.getElem?_eq_some_iff.mp h2).1
          rw [List.getElem?_append_left (by omega)] at h1
          exact h.sep i r1 r2 (by rw [List.getElem?_append_left (by omega)]; exact h1) (by rw [List.getElem?_append_left (by omega)]; exact h2)
        · rw [List.getElem?_append_left (by omega)] at h1
          exact h.sep i r1 r (by rw [List.getElem?_append_left (by omega)]; exact h1) (by rw [List.getElem?_append_right (by omega), z2]; simp)
    · rw [step_no j]
      refine ⟨?_, fun x hx => ?_, fun i r1 r2 h1 h2 => ?_⟩
      · rw [flat_snoc, flatR_one, h.flat]
      · rcases List.mem_append.mp hx with z | z
        · exact h.pos x z
        · rw [List.mem_singleton.mp z]
          exact Int.le_refl _
      · rcases get_snoc h2 with h2 | ⟨z2, rfl⟩
        · have hi := (List.getElem?_eq_some_iff.mp h2).1
          rw [List.getElem?_append_left (by omega)] at h1
          exact h.sep i r1 r2 h1 h2
        · rw [List.length_append, List.length_singleton] at z2
          have z3 : i = o.length := by omega
          subst z3
          rw [List.getElem?_append_left (by simp), List.getElem?_append_right (Nat.le_refl _)] at h1
          simp at h1
          rw [← h1]
          exact j
theorem rows_ok (es : List Ent) : RowsOk es (rowsOf es) := by
  have key : ∀ i, i ≤ es.length → RowsOk (es.take i) ((es.take i).foldl rowStep []) := fun i => by
    induction i with
    | zero => exact fun _ => .nil
    | succ i ih =>
      intro hi
      have hx : es[i]? = some es[i] := List.getElem?_eq_getElem (by omega)
      rw [take_snoc hx, List.foldl_append]
      exact (ih (by omega)).step _
  have z := key es.length (Nat.le_refl _)
  rw [List.take_length] at z
  exact z
theorem step_len (out : List Row4) (e : Ent) : (rowStep out e).length ≤ out.length + 1 := by
  rcases snoc_cases out with rfl | ⟨o, r, rfl⟩
  · simp [step_nil]
  · by_cases j : Jn r e
    · rw [step_yes j]
      simp
    · rw [step_no j]
      simp
theorem rows_take {es : List Ent} {i : Nat} {e : Ent} (h : es[i]? = some e) : rowsOf (es.take (i + 1)) = rowStep (rowsOf (es.take i)) e := by
  unfold rowsOf
  rw [take_snoc h, List.foldl_append]
  rfl
theorem rows_len : ∀ (es : List Ent) (i : Nat), (rowsOf (es.take i)).length ≤ i
  | es, 0 => by simp [rowsOf]
  | es, i + 1 => by
    cases h : es[i]? with
    | none =>
      have hl := List.getElem?_eq_none_iff.mp h
      have := rows_len es i
      rw [List.take_of_length_le (by omega)] at this ⊢
      omega
    | some e =>
      rw [rows_take h]
      have := step_len (rowsOf (es.take i)) e
      have := rows_len es i
      omega
theorem flatR_mem {r : Row4} {k : Int} (h0 : 0 ≤ k) (h1 : k < r.2.2.1) : (r.1 + k, r.2.1 + k, r.2.2.2) ∈ flatR r := by
  refine List.mem_map.mpr ⟨k.toNat, List.mem_range.mpr (by omega), ?_⟩
  rw [show ((k.toNat : Nat) : Int) = k by omega]
theorem RowsOk.next {es : List Ent} {out : List Row4} (h : RowsOk es out) (ha : es.Pairwise (·.1 < ·.1)) {i : Nat} {r1 r2 : Row4} (h1 : out[i]? = some r1) (h2 : out[i + 1]? = some r2) : r1.1 + r1.2.2.1 ≤ r2.1 := by
  have p1 := h.pos r1 (List.mem_of_getElem? h1)
  have p2 := h.pos r2 (List.mem_of_getElem? h2)
  have e : out = out.take (i + 1) ++ out.drop (i + 1) := (List.take_append_drop _ _).symm
  have hf := h.flat
  rw [e] at hf
  have hf2 : Lt.flat (out.take (i + 1)) ++ Lt.flat (out.drop (i + 1)) = es := by
    rw [← hf]
    exact (List.flatMap_append ..).symm
  rw [← hf2, List.pairwise_append] at ha
  have m1 : (r1.1 + (r1.2.2.1 - 1), r1.2.1 + (r1.2.2.1 - 1), r1.2.2.2) ∈ Lt.flat (out.take (i + 1)) := List.mem_flatMap.mpr ⟨r1, by rw [take_snoc h1]; simp, flatR_mem (by omega) (by omega)⟩
  have m2 : (r2.1 + 0, r2.2.1 + 0, r2.2.2.2) ∈ Lt.flat (out.drop (i + 1)) := List.mem_flatMap.mpr ⟨r2, by
    rw [List.mem_iff_getElem?]
    exact ⟨0, by rw [List.getElem?_drop]; exact h2⟩, flatR_mem (Int.le_refl _) (by omega)⟩
  have := ha.2.2 _ m1 _ m2
  simp only at this
  omega
theorem RowsOk.many {es : List Ent} {out : List Row4} (h : RowsOk es out) {r : Row4} (hr : r ∈ out) : r.2.2.1 ≤ es.length := by
  have e : (flatR r).Sublist (Lt.flat out) := List.sublist_flatten_of_mem (List.mem_map.mpr ⟨r, hr, rfl⟩) |>.trans (by rw [← List.flatMap_def]; exact List.Sublist.refl _)
  have := e.length_le
  rw [h.flat, flatR_len] at this
  omega
theorem RowsOk.page {es : List Ent} {out : List Row4} (h : RowsOk es out) {r : Row4} (hr : r ∈ out) : ∃ e ∈ es, e.1 = r.1 := by
  have p := h.pos r hr
  refine ⟨(r.1 + 0, r.2.1 + 0, r.2.2.2), ?_, by simp⟩
  rw [← h.flat]
  exact List.mem_flatMap.mpr ⟨r, hr, flatR_mem (Int.le_refl _) (by omega)⟩
theorem perm_lift {α β : Type} {f : α → β} {ys zs : List β} (h : ys.Perm zs) : ∀ kvs : List α, kvs.map f = zs → ∃ es : List α, es.Perm kvs ∧ es.map f = ys := by
  induction h with
  | nil =>
    intro kvs e
    cases kvs with
    | nil => exact ⟨[], .nil, rfl⟩
    | cons _ _ => cases e
  | cons x _ ih =>
    intro kvs e
    cases kvs with
    | nil => cases e
    | cons u r =>
      injection e with e1 e2
      obtain ⟨es, h1, h2⟩ := ih r e2
      exact ⟨u :: es, h1.cons u, by rw [List.map_cons, e1, h2]⟩
  | swap x y l =>
    intro kvs e
    match kvs, e with
    | u :: v :: r, e =>
      injection e with e1 e2
      injection e2 with e2 e3
      exact ⟨v :: u :: r, .swap u v r, by rw [List.map_cons, List.map_cons, e1, e2, e3]⟩
  | trans _ _ ih1 ih2 =>
    intro kvs e
    obtain ⟨es2, h1, h2⟩ := ih2 kvs e
    obtain ⟨es1, h3, h4⟩ := ih1 es2 h2
    exact ⟨es1, h3.trans h1, h4⟩
theorem asc_lift {α : Type} {kvs : List (Int × α)} {ys : List Int} (hn : (kvs.map (·.1)).Nodup) (hp : ys.Perm (kvs.map (·.1))) (hs : ys.Pairwise (· ≤ ·)) : ∃ es : List (Int × α), es.Perm kvs ∧ es.map (·.1) = ys ∧ es.Pairwise (·.1 < ·.1) := by
  obtain ⟨es, h1, h2⟩ := perm_lift hp kvs rfl
  refine ⟨es, h1, h2, ?_⟩
  have hny := hp.symm.nodup hn
  have : ys.Pairwise (· < ·) := hs.imp₂ (fun a b c => by omega) hny
  rw [← h2] at this
  exact List.pairwise_map.mp this
theorem asc_uniq {α : Type} {xs ys : List (Int × α)} (h : xs.Perm ys) (h1 : xs.Pairwise (·.1 < ·.1)) (h2 : ys.Pairwise (·.1 < ·.1)) : xs = ys :=
  h.eq_of_pairwise (fun a b _ _ c d => by omega) h1 h2
end Lt
/-! drawn rows of a map: plain Lean -/
namespace Lt
structure SegOk (rs : List Row4) : Prop where
  sz : ∀ r ∈ rs, 1 ≤ r.2.2.1 ∧ r.2.2.1 ≤ 4
  lo : ∀ r ∈ rs, 0 ≤ r.1 ∧ r.1 + r.2.2.1 ≤ 60
  asc : rs.Pairwise fun r s => r.1 + r.2.2.1 ≤ s.1
  len : rs.length ≤ 15
structure SegUp (n : Nat) (pg : Int) (rs : List Row4) : Prop where
  sz : ∀ r ∈ rs, 1 ≤ r.2.2.1 ∧ r.2.2.1 ≤ 4
  lo : ∀ r ∈ rs, 0 ≤ r.1 ∧ r.1 + r.2.2.1 ≤ 60 ∧ r.1 + r.2.2.1 ≤ pg
  asc : rs.Pairwise fun r s => r.1 + r.2.2.1 ≤ s.1
  len : rs.length ≤ n
  pg : 0 ≤ pg
theorem SegUp.start {pg : Int} (h : 0 ≤ pg) : SegUp 0 pg [] := ⟨(fun r hr => by cases hr), (fun r hr => by cases hr), .nil, Nat.le_refl _, h⟩
theorem SegUp.add {n : Nat} {pg b m k g : Int} {rs : List Row4} (h : SegUp n pg rs) (h1 : 1 ≤ m) (h2 : m ≤ 4) (h3 : pg + m ≤ 60) (h4 : 0 ≤ g) : SegUp (n + 1) (pg + (m + g)) (rs ++ [(pg, b, m, k)]) := by
  have p := h.pg
  refine ⟨fun r hr => ?_, fun r hr => ?_, ?_, by rw [List.length_append, List.length_singleton]; have := h.len; omega, by omega⟩
  · rcases List.mem_append.mp hr with z | z
    · exact h.sz r z
    · rw [List.mem_singleton.mp z]
      exact ⟨h1, h2⟩
  · rcases List.mem_append.mp hr with z | z
    · have := h.lo r z
      omega
    · rw [List.mem_singleton.mp z]
      simp only
      omega
  · refine List.pairwise_append.mpr ⟨h.asc, List.pairwise_singleton _ _, fun r hr s hs => ?_⟩
    rw [List.mem_singleton.mp hs]
    exact (h.lo r hr).2.2
theorem SegUp.skip {n : Nat} {pg m g : Int} {rs : List Row4} (h : SegUp n pg rs) (h1 : 1 ≤ m) (h4 : 0 ≤ g) : SegUp (n + 1) (pg + (m + g)) rs :=
  ⟨h.sz, (fun r hr => by have := h.lo r hr; omega), h.asc, Nat.le_succ_of_le h.len, by have := h.pg; omega⟩
theorem SegUp.ok {n : Nat} {pg : Int} {rs : List Row4} (h : SegUp n pg rs) (hn : n ≤ 15) : SegOk rs := ⟨h.sz, (fun r hr => ⟨(h.lo r hr).1, (h.lo r hr).2.1⟩), h.asc, Nat.le_trans h.len hn⟩
theorem flatR_in {r : Row4} {e : Ent} (h : e ∈ flatR r) : r.1 ≤ e.1 ∧ e.1 < r.1 + r.2.2.1 := by
  obtain ⟨k, hk, rfl⟩ := List.mem_map.mp h
  have := List.mem_range.mp hk
  simp only
  omega
theorem flatR_asc (r : Row4) : (flatR r).Pairwise (·.1 < ·.1) := List.pairwise_map.mpr (List.pairwise_lt_range.imp fun {a b} z => by
  simp only
  omega)
theorem flat_asc : ∀ {rs : List Row4}, (rs.Pairwise fun r s => r.1 + r.2.2.1 ≤ s.1) → (flat rs).Pairwise (·.1 < ·.1)
  | [], _ => .nil
  | r :: t, h => by
    rw [List.pairwise_cons] at h
    show (flatR r ++ flat t).Pairwise _
    refine List.pairwise_append.mpr ⟨flatR_asc r, flat_asc h.2, fun a ha b hb => ?_⟩
    obtain ⟨s, hs, hb⟩ := List.mem_flatMap.mp hb
    have h1 := flatR_in ha
    have h2 := flatR_in hb
    have h3 := h.1 s hs
    omega
theorem flat_len : ∀ {rs : List Row4}, (∀ r ∈ rs, 1 ≤ r.2.2.1 ∧ r.2.2.1 ≤ 4) → (flat rs).length ≤ 4 * rs.length
  | [], _ => Nat.le_refl _
  | r :: t, h => by
    have ih := flat_len fun s hs => h s (List.mem_cons_of_mem _ hs)
    have := h r List.mem_cons_self
    show (flatR r ++ flat t).length ≤ _
    rw [List.length_append, flatR_len, List.length_cons]
    omega
theorem flat_pg {rs : List Row4} (h : SegOk rs) {e : Ent} (he : e ∈ flat rs) : 0 ≤ e.1 ∧ e.1 < 60 := by
  obtain ⟨r, hr, he⟩ := List.mem_flatMap.mp he
  have := flatR_in he
  have := h.lo r hr
  omega
theorem nd_of_asc {α : Type} {es : List (Int × α)} (h : es.Pairwise (·.1 < ·.1)) : (es.map (·.1)).Nodup := List.pairwise_map.mpr (h.imp fun z e => by omega)
theorem flat_take {rs : List Row4} {i : Nat} {r : Row4} (h : rs[i]? = some r) : flat (rs.take (i + 1)) = flat (rs.take i) ++ flatR r := by rw [take_snoc h, flat_snoc]
theorem flatR_get {r : Row4} {k : Nat} (h : k < r.2.2.1.toNat) : (flatR r)[k]? = some (r.1 + (k : Int), r.2.1 + (k : Int), r.2.2.2) := by
  unfold flatR
  rw [List.getElem?_map, List.getElem?_range h]
  rfl
theorem flatR_snoc {r : Row4} {k : Nat} (h : k < r.2.2.1.toNat) : (flatR r).take (k + 1) = (flatR r).take k ++ [(r.1 + (0 + (k : Int)), r.2.1 + (0 + (k : Int)), r.2.2.2)] := by
  rw [take_snoc (flatR_get h), Int.zero_add]
theorem flatR_all (r : Row4) : (flatR r).take r.2.2.1.toNat = flatR r := List.take_of_length_le (by rw [flatR_len]; exact Nat.le_refl _)
/-- the row ahead -/
def aheadOf (rs : List Row4) : Nat → Row4
  | 0 => (-9, -9, 0, 2)
  | i + 1 => (rs[i]?).getD (-9, -9, 0, 2)
theorem ahead_succ {rs : List Row4} {i : Nat} {r : Row4} (h : rs[i]? = some r) : aheadOf rs (i + 1) = r := by
  show (rs[i]?).getD _ = r
  rw [h]
  rfl
theorem RowsOk.ahead {es : List Ent} {out : List Row4} (h : RowsOk es out) (ha : es.Pairwise (·.1 < ·.1)) (hp : ∀ e ∈ es, 0 ≤ e.1) {i : Nat} {r : Row4} (hx : out[i]? = some r) : (aheadOf out i).1 + (aheadOf out i).2.2.1 ≤ r.1 ∧ ¬ Jn (aheadOf out i) (r.1, r.2.1, r.2.2.2) := by
  cases i with
  | zero =>
    obtain ⟨e, he, e1⟩ := h.page (List.mem_of_getElem? hx)
    have := hp e he
    refine ⟨?_, fun z => ?_⟩
    · show -9 + 0 ≤ r.1
      omega
    · have z1 : (-9 : Int) + 0 = r.1 := z.1
      omega
  | succ i =>
    have hi := (List.getElem?_eq_some_iff.mp hx).1
    have h1 : out[i]? = some out[i] := List.getElem?_eq_getElem (by omega)
    rw [ahead_succ h1]
    exact ⟨h.next ha h1 hx, h.sep i _ _ h1 hx⟩
end Lt
/-! paths by their names: plain Lean -/
namespace Lt
def pT (ns : List (List Nat)) : List Nat := ns.flatMap (47 :: ·)
theorem pT_cons (n : List Nat) (ns : List (List Nat)) : pT (n :: ns) = 47 :: (n ++ pT ns) := rfl
theorem pT_snoc (ns : List (List Nat)) (n : List Nat) : pT (ns ++ [n]) = pT ns ++ 47 :: n := by simp [pT]
theorem pT_app (ns ms : List (List Nat)) : pT (ns ++ ms) = pT ns ++ pT ms := by simp [pT]
theorem spl_word {n u : List Nat} : ∀ {acc : List Nat}, 47 ∉ n → TL.spl [47] 0 acc (n ++ 47 :: u) = (acc ++ n) :: TL.spl [47] 0 [] u := by
  induction n with
  | nil =>
    intro acc _
    rw [List.nil_append, TL.spl_hit (by simp [TL.pre]), List.append_nil]
    rfl
  | cons c n ih =>
    intro acc h
    rw [List.cons_append, TL.spl_miss (TL.pre_of_head _ _ fun z => h (by rw [z]; simp)), ih fun z => h (List.mem_cons_of_mem _ z)]
    simp
theorem spl_end {n : List Nat} : ∀ {acc : List Nat}, 47 ∉ n → TL.spl [47] 0 acc n = [acc ++ n] := by
  induction n with
  | nil =>
    intro acc _
    rw [TL.spl_nil, List.append_nil]
  | cons c n ih =>
    intro acc h
    rw [TL.spl_miss (TL.pre_of_head _ _ fun z => h (by rw [z]; simp)), ih fun z => h (List.mem_cons_of_mem _ z)]
    simp
theorem spl_pT : ∀ {ns : List (List Nat)} {n : List Nat}, 47 ∉ n → (∀ m ∈ ns, 47 ∉ m) → TL.spl [47] 0 [] (n ++ pT ns) = n :: ns
  | [], n, h, _ => by
    show TL.spl [47] 0 [] (n ++ []) = [n]
    rw [List.append_nil, spl_end h]
    rfl
  | m :: ns, n, h, hs => by
    rw [pT_cons, spl_word h, spl_pT (hs m (by simp)) fun k hk => hs k (by simp [hk])]
    rfl
theorem pathB_pT {n : List Nat} {ns : List (List Nat)} (h : 47 ∉ n) (hs : ∀ m ∈ ns, 47 ∉ m) (ne : pT (n :: ns) ≠ [47]) : pathB (pT (n :: ns)) = (decide (ns.length + 1 ≤ 5) && (n :: ns).all nameB) := by
  have hr : n ++ pT ns ≠ [] := fun z => ne (by rw [pT_cons, z])
  rw [pT_cons, show pathB (47 :: (n ++ pT ns)) = if n ++ pT ns = [] then true else decide ((TL.spl [47] 0 [] (n ++ pT ns)).length ≤ 5) && (TL.spl [47] 0 [] (n ++ pT ns)).all nameB from rfl, if_neg hr, spl_pT h hs]
  rfl
theorem nameB_no {n : List Nat} (h : nameB n = true) : 47 ∉ n ∧ n ≠ [] ∧ n.length ≤ 8 ∧ ∀ c ∈ n, c ∈ signs36 := by
  unfold nameB at h
  simp only [Bool.and_eq_true, decide_eq_true_eq, List.all_eq_true] at h
  obtain ⟨⟨h1, h2⟩, h3⟩ := h
  exact ⟨fun z => absurd (h3 47 z) (by decide), fun z => by subst z; simp at h1, h2, h3⟩
/-- names of a path -/
structure GoodN (ns : List (List Nat)) : Prop where
  l1 : 1 ≤ ns.length
  l5 : ns.length ≤ 5
  all : ∀ n ∈ ns, nameB n = true
theorem GoodN.no {ns : List (List Nat)} (h : GoodN ns) : ∀ n ∈ ns, 47 ∉ n := fun n hn => (nameB_no (h.all n hn)).1
theorem GoodN.take {ns : List (List Nat)} (h : GoodN ns) {k : Nat} (h1 : 1 ≤ k) : GoodN (ns.take k) := ⟨by have := h.l1; rw [List.length_take]; omega, by have := h.l5; rw [List.length_take]; omega, fun n hn => h.all n (List.mem_of_mem_take hn)⟩
theorem GoodN.ne {ns : List (List Nat)} (h : GoodN ns) : pT ns ≠ [47] := by
  cases ns with
  | nil => exact absurd h.l1 (by decide)
  | cons n ns =>
    have := (nameB_no (h.all n (by simp))).2.1
    rw [pT_cons]
    intro z
    have z := (List.cons.inj z).2
    exact this (List.append_eq_nil_iff.mp z).1
theorem GoodN.path {ns : List (List Nat)} (h : GoodN ns) : pathB (pT ns) = true := by
  cases ns with
  | nil => exact absurd h.l1 (by decide)
  | cons n ns =>
    rw [pathB_pT (h.no n (by simp)) (fun m hm => h.no m (by simp [hm])) h.ne, decide_eq_true (by have := h.l5; simpa using this), Bool.true_and]
    exact List.all_eq_true.mpr h.all
theorem GoodN.len {ns : List (List Nat)} (h : GoodN ns) : 2 ≤ (pT ns).length ∧ (pT ns).length ≤ 45 := by
  have key : ∀ ms : List (List Nat), (∀ n ∈ ms, nameB n = true) → 2 * ms.length ≤ (pT ms).length ∧ (pT ms).length ≤ 9 * ms.length := by
    intro ms hm
    induction ms with
    | nil => exact ⟨Nat.le_refl _, Nat.le_refl _⟩
    | cons n ms ih =>
      have h1 := ih fun m z => hm m (by simp [z])
      obtain ⟨_, h2, h3, _⟩ := nameB_no (hm n (by simp))
      have h4 := List.length_pos_iff.mpr h2
      rw [pT_cons]
      simp only [List.length_cons, List.length_append]
      omega
  have := key ns h.all
  have := h.l1
  have := h.l5
  omega
/-- the folder above -/
def upT (ns : List (List Nat)) : List Nat := if ns.length ≤ 1 then [47] else pT ns.dropLast
/-- all folders above -/
def chT (ns : List (List Nat)) : List (List Nat) := (List.range ns.length).reverse.map fun k => if k = 0 then [47] else pT (ns.take k)
theorem chT_len (ns : List (List Nat)) : (chT ns).length = ns.length := by simp [chT]
theorem chT_get {ns : List (List Nat)} {i : Nat} (h : i < ns.length) : (chT ns)[i]? = some (if ns.length - 1 - i = 0 then [47] else pT (ns.take (ns.length - 1 - i))) := by
  unfold chT
  rw [List.getElem?_map, List.getElem?_reverse (by simpa using h), List.length_range, List.getElem?_range (by omega)]
  rfl
theorem chT_snoc (ns : List (List Nat)) (n : List Nat) : chT (ns ++ [n]) = (if ns = [] then [47] else pT ns) :: chT ns := by
  unfold chT
  rw [List.length_append, List.length_singleton, List.range_succ, List.reverse_append, List.reverse_singleton, List.singleton_append, List.map_cons]
  congr 1
  · by_cases e : ns = []
    · subst e
      rfl
    · have : ns.length ≠ 0 := fun z => e (List.length_eq_zero_iff.mp z)
      rw [if_neg this, if_neg e, List.take_left]
  · refine List.map_congr_left fun k hk => ?_
    have hk : k < ns.length := by simpa using hk
    rw [List.take_append_of_le_length (by omega)]
theorem chT_drop {ns : List (List Nat)} {k : Nat} (h : k ≤ ns.length) : (chT ns).drop k = chT (ns.take (ns.length - k)) := by
  induction k generalizing ns with
  | zero => rw [Nat.sub_zero, List.take_length]; rfl
  | succ k ih =>
    rcases List.eq_nil_or_concat ns with rfl | ⟨ms, n, rfl⟩
    · simp at h
    · rw [List.concat_eq_append] at h ⊢
      rw [chT_snoc, List.drop_succ_cons, ih (by simp at h; omega), List.length_append, List.length_singleton]
      rw [List.take_append_of_le_length (by omega), show ms.length + 1 - (k + 1) = ms.length - k by omega]
/-- a sign that stands in no path -/
theorem spl_chars {c : Nat} : ∀ (acc l : List Nat), c ∈ l → c = 47 ∨ ∃ p ∈ TL.spl [47] 0 acc l, c ∈ p
  | acc, [], h => by simp at h
  | acc, d :: r, h => by
    by_cases e : d = 47
    · subst e
      rw [TL.spl_hit (by simp [TL.pre])]
      rcases List.mem_cons.mp h with rfl | h
      · exact .inl rfl
      · rcases spl_chars [] r h with z | ⟨p, hp, hc⟩
        · exact .inl z
        · exact .inr ⟨p, List.mem_cons_of_mem _ hp, hc⟩
    · rw [TL.spl_miss (TL.pre_of_head _ _ e)]
      rcases List.mem_cons.mp h with rfl | h
      · obtain ⟨p, q, e2⟩ := spl_acc (s := [47]) (acc ++ [c]) r
        exact .inr ⟨_, by rw [e2]; exact List.mem_cons_self, by simp⟩
      · exact spl_chars (acc ++ [d]) r h
theorem pathB_chars {l : List Nat} (h : pathB l = true) : ∀ c ∈ l, c = 47 ∨ c ∈ signs36 := fun c hc => by
  cases l with
  | nil => simp at hc
  | cons d r =>
    by_cases e : d = 47
    · subst e
      by_cases hr : r = []
      · subst hr
        exact .inl (List.mem_singleton.mp hc)
      · rw [show pathB (47 :: r) = if r = [] then true else decide ((TL.spl [47] 0 [] r).length ≤ 5) && (TL.spl [47] 0 [] r).all nameB from rfl, if_neg hr, Bool.and_eq_true] at h
        rcases List.mem_cons.mp hc with rfl | hc
        · exact .inl rfl
        · rcases spl_chars [] r hc with z | ⟨p, hp, hcp⟩
          · exact .inl z
          · exact .inr ((nameB_no (List.all_eq_true.mp h.2 p hp)).2.2.2 c hcp)
    · rw [show pathB (d :: r) = false by unfold pathB; split <;> simp_all] at h
      cases h
theorem pathB_head {c : Nat} {r : List Nat} (h : c ≠ 47) : pathB (c :: r) = false := by
  unfold pathB
  split <;> simp_all
section
variable {ns : List (List Nat)}
theorem GoodN.bad_drop (h : GoodN ns) : pathB ((pT ns).drop 1) = false := by
  cases ns with
  | nil => exact absurd h.l1 (by decide)
  | cons n ns =>
    obtain ⟨h1, h2, _⟩ := nameB_no (h.all n (by simp))
    rw [pT_cons]
    cases n with
    | nil => exact absurd rfl h2
    | cons c n => exact pathB_head fun z => h1 (by rw [z]; simp)
theorem bad_names {ms : List (List Nat)} (hn : ∀ m ∈ ms, 47 ∉ m) (ne : pT ms ≠ [47]) (hne : ms ≠ []) (h : 5 < ms.length ∨ ∃ m ∈ ms, nameB m = false) : pathB (pT ms) = false := by
  cases ms with
  | nil => exact absurd rfl hne
  | cons m ms =>
    rw [pathB_pT (hn m (by simp)) (fun k hk => hn k (by simp [hk])) ne]
    rcases h with h | ⟨k, hk, e⟩
    · rw [decide_eq_false (by simp at h; omega), Bool.false_and]
    · rw [Bool.and_eq_false_iff]
      right
      rw [List.all_eq_false]
      exact ⟨k, hk, by rw [e]; decide⟩
theorem GoodN.bad_app (h : GoodN ns) {ms : List (List Nat)} (hn : ∀ m ∈ ms, 47 ∉ m) (hb : 5 < ns.length + ms.length ∨ ∃ m ∈ ms, nameB m = false) : pathB (pT ns ++ pT ms) = false := by
  rw [← pT_app]
  have hl := h.len.1
  refine bad_names (fun m hm => ?_) (fun z => ?_) (fun z => ?_) ?_
  · rcases List.mem_append.mp hm with z | z
    · exact h.no m z
    · exact hn m z
  · rw [pT_app] at z
    have := congrArg List.length z
    rw [List.length_append, List.length_singleton] at this
    omega
  · have z2 := congrArg List.length z
    rw [List.length_append, List.length_nil] at z2
    have := h.l1
    omega
  · rcases hb with hb | ⟨m, hm, e⟩
    · exact .inl (by rw [List.length_append]; omega)
    · exact .inr ⟨m, List.mem_append_right _ hm, e⟩
theorem GoodN.bad_front (h : GoodN ns) : pathB (47 :: pT ns) = false := by
  have e : 47 :: pT ns = pT ([] :: ns) := rfl
  have hl := h.len.1
  rw [e]
  refine bad_names (fun m hm => ?_) (fun z => ?_) (by simp) (.inr ⟨[], by simp, by decide⟩)
  · rcases List.mem_cons.mp hm with rfl | z
    · simp
    · exact h.no m z
  · have z2 : (47 :: pT ns).length = 1 := congrArg List.length z
    rw [List.length_cons] at z2
    omega
theorem bad_char {l : List Nat} {c : Nat} (hc : c ∈ l) (h1 : c ≠ 47) (h2 : c ∉ signs36) : pathB l = false := by
  cases e : pathB l with
  | false => rfl
  | true =>
    rcases pathB_chars e c hc with z | z
    · exact absurd z h1
    · exact absurd z h2
end
/-! the law's own chain, sign by sign -/
def lawCh (m : List Nat) : List (List Nat) := if m = [47] then [[47]] else if m.getLast? = some 47 then [m.dropLast] else []
/-- what is told from n signs on -/
def lawAt (l : List Nat) : Nat → List (List Nat)
  | 0 => []
  | j + 1 => if j = 0 then [] else lawCh (l.take j) ++ lawAt l j
end Lt
namespace Lt
theorem lawAt_take {l m : List Nat} : ∀ {k : Nat}, l.take k = m.take k → lawAt l k = lawAt m k
  | 0, _ => rfl
  | k + 1, h => by
    have h2 : l.take k = m.take k := by
      have z := congrArg (List.take k) h
      rwa [List.take_take, List.take_take, Nat.min_eq_left (Nat.le_succ k)] at z
    show (if k = 0 then [] else lawCh (l.take k) ++ lawAt l k) = (if k = 0 then [] else lawCh (m.take k) ++ lawAt m k)
    rw [h2, lawAt_take h2]
theorem lawCh_no {p : List Nat} {c : Nat} (h : c ≠ 47) : lawCh (p ++ [c]) = [] := by
  unfold lawCh
  rw [if_neg fun z => ?_, List.getLast?_concat, if_neg fun z => h (Option.some.inj z)]
  have z2 := congrArg List.getLast? z
  rw [List.getLast?_concat] at z2
  exact h (Option.some.inj z2)
theorem lawAt_word {p n : List Nat} (hn : 47 ∉ n) : ∀ i, i + 1 ≤ n.length → lawAt (p ++ 47 :: n) (p.length + 1 + (i + 1)) = lawCh (p ++ [47]) ++ lawAt (p ++ 47 :: n) (p.length + 1)
  | 0, _ => by
    show (if p.length + 1 = 0 then [] else lawCh ((p ++ 47 :: n).take (p.length + 1)) ++ lawAt (p ++ 47 :: n) (p.length + 1)) = _
    rw [if_neg (by omega)]
    congr 2
    rw [List.take_append, List.take_of_length_le (by omega), show p.length + 1 - p.length = 1 by omega]
    rfl
  | i + 1, h => by
    show (if p.length + 1 + (i + 1) = 0 then [] else lawCh ((p ++ 47 :: n).take (p.length + 1 + (i + 1))) ++ lawAt (p ++ 47 :: n) (p.length + 1 + (i + 1))) = _
    rw [if_neg (by omega), lawAt_word hn i (by omega)]
    have e : (p ++ 47 :: n).take (p.length + 1 + (i + 1)) = (p ++ 47 :: n.take i) ++ [n[i]'(by omega)] := by
      rw [List.take_append, List.take_of_length_le (by omega), show p.length + 1 + (i + 1) - p.length = (i + 1) + 1 by omega, List.take_succ_cons, List.take_succ_eq_append_getElem (by omega), List.append_assoc]
      rfl
    rw [e, lawCh_no fun z => hn (by rw [← z]; exact List.getElem_mem _)]
    rfl
theorem law_chain_eq : ∀ (k : Nat) {ns : List (List Nat)}, ns.length = k → (∀ n ∈ ns, nameB n = true) → lawAt (pT ns) (pT ns).length = chT ns
  | 0, ns, h, _ => by
    rw [List.length_eq_zero_iff.mp h]
    rfl
  | k + 1, ns, h, hn => by
    rcases List.eq_nil_or_concat ns with rfl | ⟨ms, n, rfl⟩
    · cases h
    rw [List.concat_eq_append] at h hn ⊢
    obtain ⟨h1, h2, _⟩ := nameB_no (hn n (by simp))
    have hms : ∀ m ∈ ms, nameB m = true := fun m z => hn m (by simp [z])
    have h3 := List.length_pos_iff.mpr h2
    have ih := law_chain_eq k (ns := ms) (by simpa using h) hms
    obtain ⟨i, hi⟩ : ∃ i, n.length = i + 1 := ⟨n.length - 1, by omega⟩
    rw [pT_snoc, chT_snoc, List.length_append, List.length_cons, show (pT ms).length + (n.length + 1) = (pT ms).length + 1 + (i + 1) by omega, lawAt_word h1 i (by omega)]
    have e2 : lawAt (pT ms ++ 47 :: n) ((pT ms).length + 1) = chT ms := by
      show (if (pT ms).length = 0 then [] else lawCh ((pT ms ++ 47 :: n).take (pT ms).length) ++ lawAt (pT ms ++ 47 :: n) (pT ms).length) = _
      rw [List.take_left]
      rcases List.eq_nil_or_concat ms with rfl | ⟨ks, m, rfl⟩
      · rfl
      rw [List.concat_eq_append] at ih hms ⊢
      obtain ⟨m1, m2, _⟩ := nameB_no (hms m (by simp))
      obtain ⟨m0, c, rfl⟩ : ∃ m0 c, m = m0 ++ [c] := by
        rcases List.eq_nil_or_concat m with rfl | ⟨m0, c, rfl⟩
        · exact absurd rfl m2
        · exact ⟨m0, c, List.concat_eq_append⟩
      have e3 : lawCh (pT (ks ++ [m0 ++ [c]])) = [] := by
        rw [pT_snoc, show pT ks ++ 47 :: (m0 ++ [c]) = (pT ks ++ 47 :: m0) ++ [c] by simp]
        exact lawCh_no fun z => m1 (by rw [z]; simp)
      rw [if_neg (by rw [pT_snoc]; simp), e3, lawAt_take (l := pT (ks ++ [m0 ++ [c]]) ++ 47 :: n) (m := pT (ks ++ [m0 ++ [c]])) (by rw [List.take_left, List.take_length]), ih]
      rfl
    rw [e2]
    congr 1
    unfold lawCh
    by_cases e : ms = []
    · subst e
      rfl
    · rw [if_neg e, if_neg fun z => ?_, List.getLast?_concat, if_pos rfl, List.dropLast_concat]
      · rfl
      · have z2 := congrArg List.length z
        rw [List.length_append, List.length_singleton] at z2
        have z3 : pT ms = [] := by simpa using z2
        cases ms with
        | nil => exact e rfl
        | cons a b => cases z3
end Lt
/-! text.rpartition(sign) -/
namespace Lt
open PySem PySem.Spec PyProof.Rows L2 SX
theorem at_one {l : List Nat} {c i : Nat} : StrLaws.At (S l) (S [c]) (S l).length i ↔ l[i]? = some c := by
  unfold StrLaws.At
  rw [StrLaws.subAt_eq, S_len, S_len]
  show (i + 1 ≤ l.length ∧ ((l.drop i).take 1 == [c]) = true) ↔ _
  constructor
  · rintro ⟨h1, h2⟩
    have h3 : (l.drop i).take 1 = [c] := by simpa using h2
    have h4 : l[i]? = some l[i] := List.getElem?_eq_getElem (by omega)
    rw [List.drop_eq_getElem_cons (by omega), List.take_succ_cons, List.take_zero] at h3
    rw [h4, (List.cons.inj h3).1]
  · intro h
    obtain ⟨h1, h2⟩ := List.getElem?_eq_some_iff.mp h
    refine ⟨h1, ?_⟩
    rw [List.drop_eq_getElem_cons h1, List.take_succ_cons, List.take_zero, h2]
    simp
def rRpart : V → List V → Hp → VK → Prop := fun x xs H Q => ∃ (l m r : List Nat) (c : Nat), x = .str (S l) ∧ xs = [.str (S [c])] ∧ l.length ≤ 100000 ∧ l = m ++ c :: r ∧ c ∉ r ∧ ∀ p, H p = none → Q (.ref p) (upd H p (.tup [.str (S m), .str (S [c]), .str (S r)]))
theorem last_one {l m r : List Nat} {c : Nat} (e : l = m ++ c :: r) (h : c ∉ r) : Builtin.Str.lastOccurrence (S l) (S [c]) 0 (S l).length = some m.length := by
  have hm : l[m.length]? = some c := by
    rw [e]
    simp
  rcases StrLaws.last_spec (S l) (S [c]) with ⟨_, z⟩ | ⟨i, h1, h2, h3⟩
  · exact absurd (at_one.mpr hm) (z _)
  · rw [h1]
    have h4 := at_one.mp h2
    rcases Nat.lt_trichotomy i m.length with z | z | z
    · exact absurd (at_one.mpr hm) (h3 _ z)
    · rw [z]
    · rw [e, List.getElem?_append_right (by omega)] at h4
      obtain ⟨k, hk⟩ : ∃ k, i - m.length = k + 1 := ⟨i - m.length - 1, by omega⟩
      rw [hk, List.getElem?_cons_succ] at h4
      exact absurd (List.mem_of_getElem? h4) h
theorem mt_rpart {X : Cx} : MtR X "str.rpartition" rRpart := by
  intro pins s σ H x xs v us Q I rx rs h
  obtain ⟨l, m, r, c, rfl, rfl, hl, e, hc, h⟩ := h
  obtain ⟨t, rfl⟩ := rx
  cases rs with
  | cons r1 rs =>
    cases rs
    obtain ⟨u, rfl⟩ := r1
    refine call_meets PySem.F.slot_str_rpartition (typeIs_str _ _ _) PySem.F.entry_str_rpartition (PySem.F.args_str_rpartition_2 _ _) (meets_str_rpartition (S l) (S [c]) t u rfl (by rw [S_len]; exact Nat.le_trans hl (by decide))) ?_
    rw [last_one e hc]
    have e1 : Builtin.Str.strSub (S l) 0 m.length = S m := by
      have z : TL.tl (Builtin.Str.strSub (S l) 0 m.length) = m := by
        rw [TL.tl_strSub, List.drop_zero, Nat.sub_zero]
        show l.take m.length = m
        rw [e, List.take_left]
      exact TL.ext_tl (by rw [z])
    have e2 : Builtin.Str.strSub (S l) (m.length + (S [c]).length) (S l).length = S r := by
      have z : TL.tl (Builtin.Str.strSub (S l) (m.length + (S [c]).length) (S l).length) = r := by
        rw [TL.tl_strSub_end]
        show l.drop (m.length + (S [c]).length) = r
        rw [S_len, e, List.drop_append]
        simp
      exact TL.ext_tl (by rw [z])
    show EP X pins σ Q _ { s with toks := _, heap := s.heap.push { cls := .type "tuple", data := .seq [Value.str (Builtin.Str.strSub (S l) 0 m.length) s.toks, .str (S [c]) u, .str (Builtin.Str.strSub (S l) (m.length + (S [c]).length) (S l).length) (s.toks + 1)].toArray } }
    rw [e1, e2]
    exact laid_parts I h
section
variable {X : Cx} {o e : Expr} {to te : TE} {apos pos : Pos}
theorem pe_rpart (ho : PE X o to) (he : PE X e te) (hs : starEach [e] X.env = [(false, eval e X.env)] := by rfl) (hbase : attributeBase o "rpartition" X.env (eval o X.env) = eval o X.env := by rfl) (hline : (apos.endLine == pos.line) = true := by rfl) :
    PE X (.Call (.Attribute o "rpartition" apos) [e] [] pos) (tM1 rRpart to te) := pe_m1 PySem.F.slot_str_rpartition PySem.F.type_str_rpartition mt_rpart ho he hs hbase hline
end
theorem s_rpart {L : List Asn} {H : Hp} {Q : VK} {l m r : List Nat} {c : Nat} (hS : Hs L H) (hl : l.length ≤ 100000) (e : l = m ++ c :: r) (hc : c ∉ r) (h : ∀ p H', Hs (dv (.ref p) (.tuple [.str (S m), .str (S [c]), .str (S r)]) :: L) H' → Q (.ref p) H') : rRpart (.str (S l)) [.str (S [c])] H Q :=
  ⟨l, m, r, c, rfl, rfl, hl, e, hc, fun p np => h p _ (hS.newT np (.cons (.str _) (.cons (.str _) (.cons (.str _) .nil))))⟩
end Lt
/-! {k: v for a in xs for b in ys}: dict comprehensions with two fors; one lemma serves both loops of the block -/
namespace Lt
open PySem PySem.Spec PyProof.Rows L2
/-- σ9 knows what σ0 knows -/
def Agr (σ0 σ9 : L2.St) : Prop := σ0.length = σ9.length ∧ ∀ (j : Nat) (v : V), σ0[j]? = some (some v) → σ9[j]? = some (some v)
theorem Agr.of {σ0 σ2 : L2.St} {vs : List Nat} (h : wipe σ2 vs = σ0) : Agr σ0 σ2 := by
  subst h
  exact ⟨wipe_length _ _, fun j v e => (wipe_some e).1⟩
theorem Agr.trans {a b c : L2.St} (x : Agr a b) (y : Agr b c) : Agr a c := ⟨x.1.trans y.1, fun j v e => y.2 j v (x.2 j v e)⟩
/-- what the block of a comprehension does once it stands at one of its loops -/
def turnTree (tg : Expr) (ifs : List Expr) (it : Addr) (ce : Env) (ip : Pos) (body stay : Sem Fin) : Sem Fin := standAt ip >>= fun _ => pyNext (.ref it) >>= fun r => match r with
  | none => pure (.done .next)
  | some v => letOwnedTupleGo tg (.ref it) v >>= fun _ => assign tg ce v >>= fun _ =>
    (forIn ifs true fun c r => if r = true then (do let b ← isTrue c ce (eval c ce); pure (ForInStep.yield b)) else pure (ForInStep.yield r)) >>= fun b => if b = true then body else stay
section
variable {X : Cx} {B : Shared} {G : Hp} {sc : Scope} {ce : Env} {fb : List Addr}
theorem blk_loop (hc : X.calm = true) {ps : List (Addr × Obj)} {σ0 : L2.St} {vs : List Nat} {tg : Expr} {ifs : List Expr} {g : TG} {tt : TT} {J : It} {fp : List Addr} {it : Addr} {tn : Nat → Heap → Prop}
    {kx vx : Expr} {gs : List Comprehension} {pos : Pos} {k : Nat} {acc : Value} {ip : Pos} {body : Sem Fin} {R : Result → Shared → Prop} {W : Nat → Nat → Hp → Prop} {Dn : Hp → Prop} {Bd : (Hp → Prop) → L2.St → Hp → Prop}
    (pg : PG (X.blk B G sc ce fb) tg g) (pt : PTs (X.blk B G sc ce fb) ifs tt) (T : L2.Turn X.prog X.w X.K tg J fp it tn)
    (ok : ∀ {σ' : L2.St} {H' : Hp} {s' : Shared}, Inv (X.blk B G sc ce fb) ps σ' H' s' → (∀ b ∈ fp, H' b = none) → ∀ b ∈ fp, FpOk (X.blk B G sc ce fb) ps H' b)
    (tree : compTurn (.DictComp kx vx gs sc pos) k (.ref it) acc ce = turnTree tg ifs it ce ip body (again (.compLoop (.DictComp kx vx gs sc pos) k (.ref it) acc ce)))
    (walk : ∀ i m H, W i m H → (J.stop i H ∧ Dn H) ∨ (J.go i H ∧ ∃ Nx : Hp → Prop, (∀ H', Nx H' → ∃ m', m' < m ∧ W (i + 1) m' H') ∧
      ∀ x H', J.yld i H x H' → g x σ0 H' fun σ2 H2 => wipe σ2 vs = σ0 ∧ tt σ2 H2 fun b H3 => if b = true then Bd Nx σ2 H3 else Nx H3))
    (run : ∀ {Nx : Hp → Prop} {σ2 : L2.St} {H3 : Hp} {s : Shared} {P : List (Addr × Obj)} {Z : Shared → Prop}, Inv (X.blk B G sc ce fb) (ps ++ P) σ2 H3 s → wipe σ2 vs = σ0 → Bd Nx σ2 H3 →
      (∀ {σ9 : L2.St} {H' : Hp} {s' : Shared}, Inv (X.blk B G sc ce fb) (ps ++ P) σ9 H' s' → Agr σ0 σ9 → Nx H' → Z s') → wpAny (model X.prog X.w) X.A body (fun f s' => f = .again (.compLoop (.DictComp kx vx gs sc pos) k (.ref it) acc ce) ∧ Z s') (fun _ _ => False) s)
    {i0 m0 : Nat} {H4 : Hp} {s4 : Shared} (w0 : W i0 m0 H4) (I4 : Inv (X.blk B G sc ce fb) ps σ0 H4 s4) (t4 : tn i0 s4.heap) (n4 : ∀ b ∈ fp, H4 b = none)
    (fin : ∀ {H' : Hp} {s' : Shared}, Inv (X.blk B G sc ce fb) ps σ0 H' s' → Dn H' → R (.ok .next) s') :
    codeAny (model X.prog X.w) X.A (.compLoop (.DictComp kx vx gs sc pos) k (.ref it) acc ce) R s4 := by
  refine codeAny_loop rfl (fun n s' => ∃ i H', Inv (X.blk B G sc ce fb) ps σ0 H' s' ∧ tn i s'.heap ∧ (∀ b ∈ fp, H' b = none) ∧ W i n H') ?_ m0 ⟨i0, H4, I4, t4, n4, w0⟩
  rintro n s5 ⟨i, H5, I5, st5, n5, w5⟩
  show wpAny _ X.A ((compTurn (.DictComp kx vx gs sc pos) k (.ref it) acc ce).onRaise (fun x => do noteFrame x ce; theTreesLotGoes x)) _ _ s5
  refine wpAny_noted ?_
  rw [tree]
  unfold turnTree
  refine wpAny_bind (wpAny_standAt (wpAny_bind ?_))
  rcases walk i n H5 w5 with ⟨stop, qd⟩ | ⟨go, Nx, hNx, step⟩
  · refine thnF (T.done (X.blk B G sc ce fb) rfl rfl rfl hc i ps s5 _ H5 (fun _ _ => False) I5 (ok I5 n5) st5 stop) fun r s6 ⟨hr, I6⟩ => ?_
    subst hr
    exact wpAny_pure (fin I6 qd)
  · refine thnF (T.item (X.blk B G sc ce fb) rfl rfl rfl hc i ps s5 _ H5 (fun _ _ => False) I5 (ok I5 n5) st5 go) fun r s6 ⟨u, hr, h6⟩ => ?_
    subst hr
    refine wpAny_bind (thnF h6 fun _ s7 ⟨x, H7, I7, r7, y7, st7, n7⟩ => ?_)
    have I7' := I7.pinned (ok I7 n7) (T.obj _ _ st7)
    refine wpAny_bind (thnF (pg.run _ s7 _ H7 x u _ I7' r7 (step x H7 y7)) fun _ s8 ⟨σ8, H8, I8, hw8, q8⟩ => ?_)
    refine wpAny_bind (thnF (pt.run _ s8 σ8 H8 _ I8 q8) fun b s9 ⟨H9, I9, q9⟩ => ?_)
    have back : ∀ {σ9 : L2.St} {H' : Hp} {s' : Shared}, Inv (X.blk B G sc ce fb) (ps ++ pinsAt fp s7.heap) σ9 H' s' → Agr σ0 σ9 → Nx H' → ∃ m, m < n ∧ ∃ i H', Inv (X.blk B G sc ce fb) ps σ0 H' s' ∧ tn i s'.heap ∧ (∀ b ∈ fp, H' b = none) ∧ W i m H' := fun {σ9 H' s'} J9 ag nx => by
      obtain ⟨m', hm, w'⟩ := hNx H' nx
      have at_ := fun b (hb : b ∈ fp) o (e : s7.heap.get? b = some o) => J9.pin (b, o) (List.mem_append_right _ (List.mem_append_right _ (mem_pinsAt hb e)))
      refine ⟨m', hm, i + 1, H', J9.unpinned.weak ag.1 ag.2, T.keep _ _ _ st7 fun b hb o e => (at_ b hb o e).1, fun b hb => ?_, w'⟩
      obtain ⟨o, e, _⟩ := T.obj _ _ st7 b hb
      exact (at_ b hb o e).2.1
    cases b with
    | false =>
      rw [if_neg Bool.false_ne_true] at q9 ⊢
      exact wpAny_pure ⟨rfl, back I9 (Agr.of hw8) q9⟩
    | true =>
      rw [if_pos rfl] at q9 ⊢
      refine thnF (run I9 hw8 q9 fun J9 ag nx => back J9 ag nx) fun f s' ⟨ef, z⟩ => ?_
      subst ef
      exact ⟨rfl, z⟩
end
section
variable {prog : Program} {w : World} {A : Around} {R : Result → Shared → Prop} {s : Shared} {kx vx t0 i0 t1 i1 : Expr} {ifs0 ifs1 : List Expr} {scope : Scope} {pos : Pos} {ce : Env} {D : Addr} {it : Addr}
/-- the second for comes up over an iterator that is one -/
theorem start2 (h0 : codeAny (model prog w) A (.compLoop (.DictComp kx vx [⟨t0, i0, ifs0, 0⟩, ⟨t1, i1, ifs1, 0⟩] scope pos) 1 (.ref it) (.ref D) ce) R s)
    (self : ∀ (Q : Value → Shared → Prop) (E : Value → Shared → Prop), Q (.ref it) s → wpAny (model prog w) A (pyIter (.ref it)) Q E s) :
    codeAny (model prog w) A (.compStart (.DictComp kx vx [⟨t0, i0, ifs0, 0⟩, ⟨t1, i1, ifs1, 0⟩] scope pos) 1 (.ref it) (.ref D) ce) R s := by
  refine codeAny_of_tree ?_
  show wpAny _ _ ((compStart (.DictComp kx vx [⟨t0, i0, ifs0, 0⟩, ⟨t1, i1, ifs1, 0⟩] scope pos) 1 (.ref it) (.ref D) ce).onRaise _) _ _ s
  refine wpAny_notedAt ?_
  unfold compStart
  show wpAny _ _ (ask >>= _) _ _ s
  refine wpAny_bind (wpAny_askSetting (wpAny_ite ?_))
  split
  · first
      | exact wpAny_bind (wpAny_pure (wpAny_pure ⟨rfl, h0⟩))
      | exact wpAny_pure ⟨rfl, h0⟩
  · refine wpAny_bind (wpAny_rule ?_)
    first
      | exact wpAny_bind (wpAny_standAt (wpAny_bind (self _ _ (wpAny_pure ⟨rfl, h0⟩))))
      | (show wpAny _ _ (standAt i1.pos >>= _) _ _ s; exact wpAny_bind (wpAny_standAt (wpAny_bind (self _ _ (wpAny_pure ⟨rfl, h0⟩)))))
theorem treeOut : compTurn (.DictComp kx vx [⟨t0, i0, ifs0, 0⟩, ⟨t1, i1, ifs1, 0⟩] scope pos) 0 (.ref it) (.ref D) ce = turnTree t0 ifs0 it ce i0.pos
    (eval i1 ce >>= fun x => standAt i1.pos >>= fun _ => foldedSetIterable i1 ce x >>= fun x => holding [x] (pyIter x) >>= fun j => runOwn (.compStart (.DictComp kx vx [⟨t0, i0, ifs0, 0⟩, ⟨t1, i1, ifs1, 0⟩] scope pos) 1 j (.ref D) ce) ce >>= fun _ =>
      again (.compLoop (.DictComp kx vx [⟨t0, i0, ifs0, 0⟩, ⟨t1, i1, ifs1, 0⟩] scope pos) 0 (.ref it) (.ref D) ce))
    (again (.compLoop (.DictComp kx vx [⟨t0, i0, ifs0, 0⟩, ⟨t1, i1, ifs1, 0⟩] scope pos) 0 (.ref it) (.ref D) ce)) := by rfl
theorem treeIn : compTurn (.DictComp kx vx [⟨t0, i0, ifs0, 0⟩, ⟨t1, i1, ifs1, 0⟩] scope pos) 1 (.ref it) (.ref D) ce = turnTree t1 ifs1 it ce i1.pos
    ((eval kx ce >>= fun a => holding [a] (eval vx ce) >>= fun b => standAt { kx.pos with endLine := vx.pos.endLine, endCol := vx.pos.endCol } >>= fun _ => holding [a, b] (dictSet D a b)) >>= fun _ =>
      again (.compLoop (.DictComp kx vx [⟨t0, i0, ifs0, 0⟩, ⟨t1, i1, ifs1, 0⟩] scope pos) 1 (.ref it) (.ref D) ce))
    (again (.compLoop (.DictComp kx vx [⟨t0, i0, ifs0, 0⟩, ⟨t1, i1, ifs1, 0⟩] scope pos) 1 (.ref it) (.ref D) ce)) := by rfl
end
section
variable {X : Cx}
/-- {tk: tv for g in wi if tt for g1 in wi1 if tt1}; vs the block's names, vs1 those of the second target -/
def tDc2 (wi : TI) (g : TG) (tt : TT) (wi1 : TI) (g1 : TG) (tt1 : TT) (tk tv : TE) (vs vs1 : List Nat) : TE := fun σ H Q => wi σ H fun J H1 => ∀ D, H1 D = none → ∃ W : Nat → Nat → Hp → Prop, (∃ m, W 0 m (upd H1 D (.dK []))) ∧ ∀ i m H, W i m H →
  (J.stop i H ∧ Q (.ref D) H) ∨ (J.go i H ∧ ∃ Nx : Hp → Prop, (∀ H', Nx H' → ∃ m', m' < m ∧ W (i + 1) m' H') ∧ ∀ x H', J.yld i H x H' → g x (wipe σ vs) H' fun σ2 H2 => wipe σ2 vs = wipe σ vs ∧ tt σ2 H2 fun b H3 =>
    if b = true then wi1 σ2 H3 fun J1 H4 => ∃ W1 : Nat → Nat → Hp → Prop, (∃ m, W1 0 m H4) ∧ ∀ j k H, W1 j k H →
      (J1.stop j H ∧ Nx H) ∨ (J1.go j H ∧ ∃ Nx1 : Hp → Prop, (∀ H', Nx1 H' → ∃ k', k' < k ∧ W1 (j + 1) k' H') ∧ ∀ x H', J1.yld j H x H' → g1 x (wipe σ2 vs1) H' fun σ3 H5 => wipe σ3 vs1 = wipe σ2 vs1 ∧ tt1 σ3 H5 fun b H6 =>
        if b = true then tk σ3 H6 fun y H7 => tv σ3 H7 fun z H8 => ∃ kvs k, y = kV k ∧ H8 D = some (.dK kvs) ∧ kvs.length < sizeLine ∧ Nx1 (upd H8 D (.dK (putK kvs k z))) else Nx1 H6)
    else Nx H3)
abbrev Blk1 (X : Cx) (scope : Scope) (φ : Cx → Prop) : Prop := ∀ (s : Shared) (H : Hp) (C : Addr) (cl : List (Str × Addr)) (fp : List Addr), φ (X.blk s H scope (compEnvC scope cl C X.env) fp)
theorem pe_dc2 {kx vx tg iter tg1 iter1 : Expr} {ifs ifs1 : List Expr} {scope : Scope} {own : List (Str × Nat)} {vs1 : List Nat} {pos : Pos} {wi wi1 : TI} {g g1 : TG} {tt tt1 : TT} {tk tv : TE}
    (hc : X.calm = true) (hN : X.N.Nodup) (hi : PI X tg iter wi) (ok : BlkOk X.N X.env.scope scope own) (hv : ∀ i ∈ vs1, i ∈ own.map (·.2))
    (hg : Blk1 X scope fun Y => PG Y tg g) (ht : Blk1 X scope fun Y => PTs Y ifs tt) (hi1 : Blk1 X scope fun Y => PI Y tg1 iter1 wi1) (hg1 : Blk1 X scope fun Y => PG Y tg1 g1) (ht1 : Blk1 X scope fun Y => PTs Y ifs1 tt1)
    (hk : Blk1 X scope fun Y => PE Y kx tk) (he : Blk1 X scope fun Y => PE Y vx tv)
    (hs : ∀ x, foldedSetIterable iter X.env x = pure x := by intro _; rfl) (hs1 : ∀ env x, foldedSetIterable iter1 env x = pure x := by intro _ _; rfl) :
    PE X (.DictComp kx vx [⟨tg, iter, ifs, 0⟩, ⟨tg1, iter1, ifs1, 0⟩] scope pos) (tDc2 wi g tt wi1 g1 tt1 tk tv (own.map (·.2)) vs1) := by
  refine ⟨fun pins s σ H Q I h => ?_⟩
  rw [arm_eval_DictComp]
  have hfree : ∀ y ∈ scope.names, y.2 = .free → ∃ c, X.env.cells.lookup y.1 = some c := fun y hy e => (ok.free y hy e).elim (fun k => I.ok.has _ (.inl k)) fun k => I.ok.has _ (.inr k)
  refine wpAny_comprehension_free rfl hs (closure_ok hfree) ok.kind (fun y hy e => by rw [ok.uniq y hy, e]) (thn (hi.run pins s σ H _ I h) fun xv s1 hx => thn hx fun itv s2 h2 => ?_)
  obtain ⟨it, fp, tn, J, H2, e, I2, T, st2, f2, q⟩ := h2
  subst e
  refine wpAny_newObj_type (newEnv_comp ?_)
  -- the new dict
  generalize hD : s2.heap.objs.size = D
  have hDn : H2 D = none := I2.hok.fresh (Nat.le_of_eq hD)
  obtain ⟨W, ⟨m0, w0⟩, walk⟩ := q D hDn
  have young : ∀ b ∈ fp, b < s2.heap.objs.size := fun b hb => by
    obtain ⟨o, e, _⟩ := T.obj _ _ st2 b hb
    exact Heap.lt_size e
  have I3 : Inv X pins σ (upd H2 D (.dK [])) { s2 with heap := s2.heap.push { cls := .type "dict", data := .dict #[] } } := by
    refine I2.laid (t' := s2.toks) (fun b o e => Heap.get?_push_of_some _ e) (Nat.le_of_eq hD) ?_
    rw [← hD]
    exact dk_empty s2.heap I2.big
  have f3 : ∀ b ∈ fp, FpOk X pins (upd H2 D (.dK [])) b ∧ b < (s2.heap.push { cls := .type "dict", data := .dict #[] }).objs.size := fun b hb => by
    have lt := young b hb
    refine ⟨⟨?_, (f2 b hb).2⟩, by rw [Heap.size_push]; exact Nat.lt_succ_of_lt lt⟩
    rw [upd_ne (by rw [← hD]; exact Nat.ne_of_lt lt)]
    exact (f2 b hb).1
  have st3 : tn 0 (s2.heap.push { cls := .type "dict", data := .dict #[] }) := T.keep _ _ _ st2 fun b _ o e => Heap.get?_push_of_some _ e
  generalize hs3 : ({ s2 with heap := s2.heap.push { cls := .type "dict", data := .dict #[] } } : Shared) = s3 at I3
  have e3 : s2.heap.push { cls := .type "dict", data := .dict #[] } = s3.heap := by rw [← hs3]
  rw [e3] at f3 st3
  generalize hH3 : upd H2 D (.dK []) = H3 at I3 f3 w0
  -- the block
  have I4 := block_start I3 ok hN f3
  have pg := hg s3 H3 s3.heap.objs.size (cellsFrom (s3.heap.objs.size + 1) scope.names (cloFrom X.env.cells scope.names [])) fp
  have pt := ht s3 H3 s3.heap.objs.size (cellsFrom (s3.heap.objs.size + 1) scope.names (cloFrom X.env.cells scope.names [])) fp
  have pk := hk s3 H3 s3.heap.objs.size (cellsFrom (s3.heap.objs.size + 1) scope.names (cloFrom X.env.cells scope.names [])) fp
  have pv := he s3 H3 s3.heap.objs.size (cellsFrom (s3.heap.objs.size + 1) scope.names (cloFrom X.env.cells scope.names [])) fp
  have pi1 := hi1 s3 H3 s3.heap.objs.size (cellsFrom (s3.heap.objs.size + 1) scope.names (cloFrom X.env.cells scope.names [])) fp
  have pg1 := hg1 s3 H3 s3.heap.objs.size (cellsFrom (s3.heap.objs.size + 1) scope.names (cloFrom X.env.cells scope.names [])) fp
  have pt1 := ht1 s3 H3 s3.heap.objs.size (cellsFrom (s3.heap.objs.size + 1) scope.names (cloFrom X.env.cells scope.names [])) fp
  have st4 : tn 0 (pushCells (s3.heap.push { cls := .type "dict", data := .dict #[] }) scope.names) := T.keep _ _ _ st3 fun b _ o e => pushCells_keeps _ _ _ _ (Heap.get?_push_of_some _ e)
  show codeAny _ _ (.compStart _ 0 (.ref it) (.ref D) (compEnvC scope (cellsFrom (s3.heap.objs.size + 1) scope.names (cloFrom X.env.cells scope.names [])) s3.heap.objs.size X.env)) (compPost (model X.prog X.w) X.A X.xe _ _ (.ref D) s3.heap.objs.size) { s3 with heap := pushCells (s3.heap.push { cls := .type "dict", data := .dict #[] }) scope.names }
  generalize hce : compEnvC scope (cellsFrom (s3.heap.objs.size + 1) scope.names (cloFrom X.env.cells scope.names [])) s3.heap.objs.size X.env = ce at I4 pg pt pk pv pi1 pg1 pt1 ⊢
  have cL : ce.locals = s3.heap.objs.size := by rw [← hce] <;> rfl
  refine codeAny_compStart_dict ?loop (T.self X.A 0 _ _ _ st4 ?loop)
  refine blk_loop (Dn := Q (.ref D)) hc pg pt T ?ok treeOut walk ?run w0 I4 st4 (fun b hb => (f3 b hb).1.1) ?fin
  case ok => exact fun I' hn b hb => ⟨hn b hb, (I'.ok.exf b hb).1, I'.ok.exfs b hb, .inl hb, fun x c e => (I'.ok.exf b hb).2 x c e, fun p hp => absurd (show p ∈ ([] : List (Addr × Obj)) ++ [] from hp) (by simp)⟩
  case fin =>
    intro H5 s6 I6 qq
    have I7 : Inv X pins σ H5 s6 := I3.call' (ch := fp) I6.os I6.base I6.hok I6.bare fun b hb => ⟨(f3 b hb).1.2.2.2.1, (f3 b hb).1.2.1, (f3 b hb).1.2.2.2.2.1, (f3 b hb).1.2.2.2.2.2⟩
    obtain ⟨m, hn, _⟩ := I6.loc
    have hn : s6.heap.Ns ce.locals m := hn
    have nC : H5 ce.locals = none := I6.free
    rw [cL] at hn nC
    obtain ⟨g0, g1, g2, g3, g4, g5⟩ := I3.fpOk (Nat.le_refl _) nC
    exact ⟨m, hn, fun h'' sb => ⟨.ref D, H5, I7.turned (t' := s6.toks) (fun b o hb e => (sb.2 b hb).trans e) g0 g1 g3 g4 g5, rfl, qq⟩⟩
  case run =>
    intro Nx σ2 H5 s9 P Z I9 hw q9 back
    refine wpAny_bind (thnF (pi1.run _ s9 σ2 H5 _ I9 q9) fun xv s10 hx => wpAny_bind (wpAny_standAt (wpAny_bind (wpAny_of_eq (hs1 ce xv) (wpAny_bind (wpAny_holding (thnF hx fun itv s11 h11 => ?_)))))))
    obtain ⟨it1, fp1, tn1, J1, H11, e1, I11, T1, st11, f11, W1, ⟨m1, w1⟩, walk1⟩ := h11
    subst e1
    refine wpAny_bind (wpAny_runOwn ?_)
    rw [Around.mark_none]
    refine codeAny_mono (start2 (R := fun r s' => match r with
      | .ok _ => Z s'
      | .error _ => False) ?loop1 fun Q E q => T1.self X.A 0 _ _ _ st11 q) fun r s' hr => ?end1
    case end1 =>
      cases r with
      | ok f => exact wpAny_pure ⟨rfl, hr⟩
      | error e => exact hr.elim
    case loop1 =>
      have ag2 := Agr.of hw
      have agw : Agr (wipe σ (own.map (·.2))) (wipe σ2 vs1) := ⟨ag2.1.trans (wipe_length _ _).symm, fun j v e => by
        rw [← hw] at e
        obtain ⟨e1, e2⟩ := wipe_some e
        rw [wipe_out fun z => e2 (hv j z)]
        exact e1⟩
      refine blk_loop (Dn := Nx) (vs := vs1) hc pg1 pt1 T1 (fun I' hn b hb => ⟨hn b hb, (f11 b hb).2⟩) treeIn walk1 ?run1 w1 (I11.weak (wipe_length _ _) fun j v e => (wipe_some e).1) st11 (fun b hb => (f11 b hb).1) fun I' nx => back I' agw nx
      case run1 =>
        intro Nx1 σ3 H6 s16 P1 Z1 I16 hw3 q16 back1
        refine wpAny_bind (wpAny_bind (thnF (pk.run _ s16 σ3 H6 _ I16 q16) fun kv s17 ⟨y, H7, I17, r17, q17⟩ => wpAny_bind (wpAny_holding (thnF (pv.run _ s17 σ3 H7 _ I17 q17) fun vv s18 ⟨z, H8, I18, r18, kvs, k, ek, hD8, hz8, nx⟩ => wpAny_bind (wpAny_standAt (wpAny_holding ?_))))))
        subst ek
        exact d_dictSet (X := X.blk s3 H3 scope ce fp) I18 hD8 hz8 r17 r18 fun s19 I19 => wpAny_pure ⟨rfl, back1 I19 (Agr.of hw3) nx⟩
end
end Lt
/-! dict == dict, keys whole numbers and texts, values data, in any order -/
namespace Lt
open PySem PySem.Spec PyProof.Rows L2
def sameD (ka kb : List (Key × PyData)) : Bool := ka.all fun p => match valG kb p.1 with
  | some d => PyData.eqv p.2 d
  | none => false
def shapedAll (ka : List (Key × PyData)) : Prop := ∀ p ∈ ka, SeqAt.shaped p.2 = true
def dictsAt (H : Hp) (x y : V) (B : Bool → Prop) : Prop := ∃ a b us ws ka kb, x = .ref a ∧ y = .ref b ∧ H a = some (.dK us) ∧ H b = some (.dK ws) ∧ KvAll H us ka ∧ KvAll H ws kb ∧ shapedAll ka ∧ shapedAll kb ∧ B (decide (ka.length = kb.length) && sameD ka kb)
def rEqDD : R2 := fun x y H Q => dictsAt H x y fun b => Q (.bl b) H
def rNeDD : R2 := fun x y H Q => dictsAt H x y fun b => Q (.bl (!b)) H
section
variable {X : Cx} {pins : List (Addr × Obj)} {σ : L2.St} {H : Hp} {s : Shared}
theorem eq_one (I : Inv X pins σ H s) (hu : X.A.units + 65 < cLine) {x z : V} {v y : Value} {d e : PyData} (hx : Dv H x d) (hz : Dv H z e) (rx : RelV x v) (rz : RelV z y) (sd : SeqAt.shaped d = true) (se : SeqAt.shaped e = true) : SeqAt.EqAt X.A.in1 s v y (PyData.eqv d e) := by
  obtain ⟨as, r1⟩ := Dp.readsAll I [d] [x] [v] (.cons hx.dp .nil) (.cons rx .nil)
  obtain ⟨bs, r2⟩ := Dp.reads I e z y hz.dp rz
  have hl : PyData.canLayAll0 [d] = true := by
    have := SeqAt.canLay_of_shaped sd
    simp only [PyData.canLayAll0, this, Bool.and_self]
  have q := SeqAt.items_eqAt (vs := #[v]) (A := X.A) r1 r2 hl (SeqAt.canLay_of_shaped se) (room_in_shaped se hu) v (by simp)
  have m := SeqAt.readsAll_map [d] [v] as hl r1
  have e1 : SeqAt.readOf s.heap v = d := (List.cons.inj m).1
  rw [e1] at q
  exact q
theorem hitsD (I : Inv X pins σ H s) (hu : X.A.units + 65 < cLine) {ws : List (Key × V)} {vb : List (Key × Value)} {kb : List (Key × PyData)} (rb : KV ws vb) (hb : KvAll H ws kb) (sb : shapedAll kb) {us : List (Key × V)} {va : List (Key × Value)} (ra : KV us va) :
    ∀ {ka : List (Key × PyData)}, KvAll H us ka → shapedAll ka → PySem.W.KeqHits X.A.in1 s vb va (sameD ka kb) := by
  unfold KV at ra
  induction ra with
  | nil =>
    intro ka h _
    cases h
    exact .nil
  | @cons p q ps qs h t ih =>
    intro ka hk sa
    obtain ⟨h1, h2⟩ := h
    cases hk with
    | @cons k v d _ rs hv hr =>
      have ihh := ih hr fun p hp => sa p (List.mem_cons_of_mem _ hp)
      obtain ⟨k2, y2⟩ := q
      obtain rfl : k = k2 := h1
      cases e : valG kb k with
      | none =>
        have e2 : RelO (valV ws k) (valueAt vb k) := rb.val k
        rw [hb.none e] at e2
        have e3 : valueAt vb k = none := by
          cases z : valueAt vb k with
          | none => rfl
          | some y =>
            rw [z] at e2
            cases e2
        have e4 : sameD ((k, d) :: rs) kb = false := by
          unfold sameD
          rw [List.all_cons, e]
          rfl
        rw [e4]
        exact .miss e3
      | some d' =>
        obtain ⟨z, e1, hz⟩ := hb.get e
        have e2 : RelO (valV ws k) (valueAt vb k) := rb.val k
        rw [e1] at e2
        obtain ⟨y, hy, ry⟩ := e2.some_of
        have e4 : sameD ((k, d) :: rs) kb = (PyData.eqv d d' && sameD rs kb) := by
          unfold sameD
          rw [List.all_cons, e]
        rw [e4]
        exact .hit hy (eq_one I hu hv hz h2 ry (sa (k, d) List.mem_cons_self) (sb (k, d') (valG_some e))) ihh
theorem op_eqDD (hu : X.A.units + 65 < cLine) : OpR X (compareOp .Eq) rEqDD := by
  intro pins s σ H x y v u Q I rx ry h
  obtain ⟨a, b, us, ws, ka, kb, rfl, rfl, ea, eb, ha, hb, sa, sb, q⟩ := h
  obtain rfl : v = Value.ref a := rx
  obtain rfl : u = Value.ref b := ry
  obtain ⟨_, ya, va, ra, da⟩ := (show ObjOk X.prog X.w H s.heap a (.dK us) from I.hok a _ ea)
  obtain ⟨_, yb, vb, rb, db⟩ := (show ObjOk X.prog X.w H s.heap b (.dK ws) from I.hok b _ eb)
  refine PySem.W.keq_eq (knd := mixKind X.prog X.w) (r := sameD ka kb) ya yb da db (by omega) (fun _ => hitsD I hu rb hb sb ra ha sa) (fin_bl I q ?_)
  have l1 : va.length = ka.length := ra.length.symm.trans ha.length
  have l2 : vb.length = kb.length := rb.length.symm.trans hb.length
  rw [l1, l2]
  congr 1
theorem op_neDD (hu : X.A.units + 65 < cLine) : OpR X (compareOp .NotEq) rNeDD := by
  intro pins s σ H x y v u Q I rx ry h
  obtain ⟨a, b, us, ws, ka, kb, rfl, rfl, ea, eb, ha, hb, sa, sb, q⟩ := h
  obtain rfl : v = Value.ref a := rx
  obtain rfl : u = Value.ref b := ry
  obtain ⟨_, ya, va, ra, da⟩ := (show ObjOk X.prog X.w H s.heap a (.dK us) from I.hok a _ ea)
  obtain ⟨_, yb, vb, rb, db⟩ := (show ObjOk X.prog X.w H s.heap b (.dK ws) from I.hok b _ eb)
  refine PySem.W.keq_ne (knd := mixKind X.prog X.w) (r := sameD ka kb) ya yb da db (by omega) (fun _ => hitsD I hu rb hb sb ra ha sa) (fin_bl I q ?_)
  have l1 : va.length = ka.length := ra.length.symm.trans ha.length
  have l2 : vb.length = kb.length := rb.length.symm.trans hb.length
  rw [l1, l2]
  congr 1
end
section
variable {L R R2 : List Asn} {H : Hp} {Q : VK} {p q : Addr} {ka kb : List (Key × PyData)}
/-- two rows of the same keys and data, each key once -/
theorem sameD_perm (h : ka.Perm kb) (n : (kb.map (·.1)).Nodup) (t : ∀ p ∈ ka, tidy p.2 = true) : (decide (ka.length = kb.length) && sameD ka kb) = true := by
  rw [decide_eq_true h.length_eq, Bool.true_and]
  unfold sameD
  rw [List.all_eq_true]
  intro p hp
  rw [valG_nd n (show (p.1, p.2) ∈ kb from h.subset hp)]
  exact eqv_true (t p hp)
theorem shapedAll_of (t : ∀ p ∈ ka, tidy p.2 = true) (d : ∀ p ∈ ka, p.2.depth ≤ 60) : shapedAll ka := fun p hp => shaped_of (t p hp) (Nat.le_trans (d p hp) (by decide))
theorem s_eqDP (hS : Hs L H) (k1 : Pick L (isD p ka) R) (k2 : Pick L (isD q kb) R2) (hp : ka.Perm kb) (n : (kb.map (·.1)).Nodup) (t : ∀ p ∈ ka, tidy p.2 = true) (d : ∀ p ∈ ka, p.2.depth ≤ 60) (h : Q (.bl true) H) : rEqDD (.ref p) (.ref q) H Q := by
  obtain ⟨us, h1, h2⟩ := hS.at_ k1
  obtain ⟨ws, h3, h4⟩ := hS.at_ k2
  refine ⟨p, q, us, ws, ka, kb, rfl, rfl, h1, h3, h2, h4, shapedAll_of t d, shapedAll_of (fun p hm => t p (hp.symm.subset hm)) (fun p hm => d p (hp.symm.subset hm)), ?_⟩
  rw [sameD_perm hp n t]
  exact h
theorem s_neDP (hS : Hs L H) (k1 : Pick L (isD p ka) R) (k2 : Pick L (isD q kb) R2) (hp : ka.Perm kb) (n : (kb.map (·.1)).Nodup) (t : ∀ p ∈ ka, tidy p.2 = true) (d : ∀ p ∈ ka, p.2.depth ≤ 60) (h : Q (.bl false) H) : rNeDD (.ref p) (.ref q) H Q := by
  obtain ⟨us, h1, h2⟩ := hS.at_ k1
  obtain ⟨ws, h3, h4⟩ := hS.at_ k2
  refine ⟨p, q, us, ws, ka, kb, rfl, rfl, h1, h3, h2, h4, shapedAll_of t d, shapedAll_of (fun p hm => t p (hp.symm.subset hm)) (fun p hm => d p (hp.symm.subset hm)), ?_⟩
  rw [sameD_perm hp n t]
  exact h
end
/-! dict comprehensions with two fors, by pieces: the outer over a list, the inner over a range -/
section
variable {K : PySem.W.Frag} {L L0 R R0 : List Asn} {H : Hp} {a : Addr} {α : Type} {f : α → PyData} {xs : List α}
def Dc2 (A : List Asn) (P : Nat → List (Key × PyData) → List Asn → Prop) (D : Addr) (i : Nat) (H : Hp) : Prop := ∃ L acc, P i acc L ∧ Hs (isD D acc :: (A ++ L)) H
theorem s_dc2L {C : Addr → (Hp → Prop) → V → Hp → Prop} {Qd : Addr → Hp → Prop} (P : Nat → List (Key × PyData) → List Asn → Prop) (hS : Hs L0 H) (k : Pick L0 (isL a (xs.map f)) R0) (h0 : P 0 [] R0)
    (hs : ∀ D i x y acc us H' L, xs[i]? = some x → P i acc L → Hs (dv y (f x) :: isD D acc :: isV a us (xs.map f) :: L) H' → C D (Dc2 [isV a us (xs.map f)] P D (i + 1)) y H')
    (h : ∀ D acc H' L, P xs.length acc L → Hs (isD D acc :: isL a (xs.map f) :: L) H' → Qd D H') :
    (∃ xs, SqL K H a xs) ∧ ∀ D, H D = none → ∃ W : Nat → Nat → Hp → Prop, (∃ m, W 0 m (upd H D (.dK []))) ∧ ∀ i m H, W i m H →
      ((Itl K a).stop i H ∧ Qd D H) ∨ ((Itl K a).go i H ∧ ∃ Nx : Hp → Prop, (∀ H', Nx H' → ∃ m', m' < m ∧ W (i + 1) m' H') ∧ ∀ x H', (Itl K a).yld i H x H' → C D Nx x H') := by
  obtain ⟨us, h1⟩ := (k.go hS).openL
  have hl := h1.hd.2.length
  rw [List.length_map] at hl
  refine ⟨⟨us, SqL.of h1.hd.1⟩, fun D nD => itW (C := C D) (Qd := Qd D) (walk_list (K := K) (a := a) (xs := us)) (Dc2 [isV a us (xs.map f)] P D) ⟨R0, [], h0, Hs.newD (κ := Key) nD h1 .nil⟩ (fun i H' _ hp => ?_) (fun i x H1 H' hi hp hy => ?_) fun H' hp => ?_⟩
  · obtain ⟨L, acc, _, z⟩ := hp
    exact SqL.of z.tl.hd.1
  · obtain ⟨L, acc, hP, z⟩ := hp
    obtain ⟨rfl, hx⟩ := hy
    obtain ⟨d, e, hd⟩ := z.tl.hd.2.get hx
    rw [List.getElem?_map] at e
    cases e1 : xs[i]? with
    | none =>
      rw [e1] at e
      cases e
    | some w =>
      rw [e1] at e
      have e2 : f w = d := Option.some.inj e
      rw [← e2] at hd
      exact hs D i w x acc us _ L e1 hP (z.add (A := dv x (f w)) hd)
  · obtain ⟨L, acc, hP, z⟩ := hp
    rw [hl] at hP
    exact h D acc H' L hP (Hs.under (fun _ z => z.closeL) z)
theorem dc_put {Pv : Nat → List Asn → Prop} {i : Nat} {D : Addr} {acc : List (Key × PyData)} {key : Key} {y : V} {d : PyData} (hS : Hs L H) (k : Pick L (isD D acc) R) (hv : Dv H y d) (hl : acc.length ≤ 1000) (h : ∀ H', Hs (isD D (putG acc key d) :: R) H' → ∃ L', Pv i L' ∧ Hs L' H') :
    ∃ kvs k, kV key = kV k ∧ H D = some (.dK kvs) ∧ kvs.length < sizeLine ∧ LcR Pv i (upd H D (.dK (putK kvs k y))) := by
  obtain ⟨us, h1, h2⟩ := hS.at_ k
  exact ⟨us, key, rfl, h1, lt_line (by rw [h2.length]; omega), h _ ((k.go hS).putD (h2.put (k := key) hv))⟩
theorem k_dc2 {wi : TI} {g : TG} {tt : TT} {wi1 : TI} {g1 : TG} {tt1 : TT} {tk tv : TE} {vs vs1 : List Nat} {σ : L2.St} {Q : VK} (h : wi σ H fun J H1 => ∀ D, H1 D = none → ∃ W : Nat → Nat → Hp → Prop, (∃ m, W 0 m (upd H1 D (.dK []))) ∧ ∀ i m H, W i m H →
  (J.stop i H ∧ Q (.ref D) H) ∨ (J.go i H ∧ ∃ Nx : Hp → Prop, (∀ H', Nx H' → ∃ m', m' < m ∧ W (i + 1) m' H') ∧ ∀ x H', J.yld i H x H' → g x (wipe σ vs) H' fun σ2 H2 => wipe σ2 vs = wipe σ vs ∧ tt σ2 H2 fun b H3 =>
    if b = true then wi1 σ2 H3 fun J1 H4 => ∃ W1 : Nat → Nat → Hp → Prop, (∃ m, W1 0 m H4) ∧ ∀ j k H, W1 j k H →
      (J1.stop j H ∧ Nx H) ∨ (J1.go j H ∧ ∃ Nx1 : Hp → Prop, (∀ H', Nx1 H' → ∃ k', k' < k ∧ W1 (j + 1) k' H') ∧ ∀ x H', J1.yld j H x H' → g1 x (wipe σ2 vs1) H' fun σ3 H5 => wipe σ3 vs1 = wipe σ2 vs1 ∧ tt1 σ3 H5 fun b H6 =>
        if b = true then tk σ3 H6 fun y H7 => tv σ3 H7 fun z H8 => ∃ kvs k, y = kV k ∧ H8 D = some (.dK kvs) ∧ kvs.length < sizeLine ∧ Nx1 (upd H8 D (.dK (putK kvs k z))) else Nx1 H6)
    else Nx H3)) : tDc2 wi g tt wi1 g1 tt1 tk tv vs vs1 σ H Q := h
end
end Lt
/-! a comprehension over a range with a step; the inner for over a tuple; pages, sheets: plain -/
namespace Lt
open PySem PySem.Spec PyProof.Rows L2
theorem walk_rangeC {lo c : Int} {n : Nat} : Walk (Itc lo c n) n (fun _ => True) (YFn fun i => .int (lo + (i : Nat) * c)) := ⟨fun _ _ hi _ => hi, fun _ _ => Nat.le_refl n, fun _ _ _ _ _ _ y => y⟩
section
variable {K : PySem.W.Frag} {L R L0 R0 : List Asn} {H : Hp} {Q : VK} {σ : L2.St} {g : TG} {vs : List Nat} {tt : TT} {te : TE} {Qd : Addr → Hp → Prop}
theorem s_lcRC {lo c : Int} {n : Nat} (P : Nat → List PyData → List Asn → Prop) (hS : Hs L0 H) (h0 : P 0 [] L0)
    (hs : ∀ D i acc H' L, i < n → P i acc L → acc.length ≤ i → Hs (isL D acc :: L) H' → g (.int (lo + (i : Nat) * c)) (wipe σ vs) H' fun σ2 H2 => wipe σ2 vs = wipe σ vs ∧ tt σ2 H2 fun b H3 =>
      if b = true then te σ2 H3 fun y H4 => ∃ acc, H4 D = some (.lst acc) ∧ acc.length < sizeLine ∧ LcS [] P D (i + 1) (upd H4 D (.lst (acc ++ [y]))) else LcS [] P D (i + 1) H3)
    (h : ∀ D acc H' L, P n acc L → acc.length ≤ n → Hs (isL D acc :: L) H' → Qd D H') :
    ∀ D, H D = none → ∃ W : Nat → Nat → Hp → Prop, (∃ m, W 0 m (upd H D (.lst []))) ∧ ∀ i m H, W i m H →
      ((Itc lo c n).stop i H ∧ Qd D H) ∨ ((Itc lo c n).go i H ∧ ∃ Nx : Hp → Prop, (∀ H', Nx H' → ∃ m', m' < m ∧ W (i + 1) m' H') ∧ ∀ x H', (Itc lo c n).yld i H x H' → g x (wipe σ vs) H' fun σ2 H2 => wipe σ2 vs = wipe σ vs ∧ tt σ2 H2 fun b H3 =>
        if b = true then te σ2 H3 fun y H4 => ∃ acc, H4 D = some (.lst acc) ∧ acc.length < sizeLine ∧ Nx (upd H4 D (.lst (acc ++ [y]))) else Nx H3) := by
  refine fun D nD => lc_it (Qd := Qd D) (walk_rangeC (lo := lo) (c := c) (n := n)) (LcS [] P D) ⟨_, [], h0, Nat.le_refl _, hS.newL nD .nil⟩ (fun _ _ _ _ => True.intro) (fun i x H1 H' hi hp hy => ?_) fun H' hp => ?_
  · obtain ⟨L, acc, hP, hal, z⟩ := hp
    obtain ⟨rfl, rfl⟩ := hy
    exact hs D i acc _ L hi hP hal z
  · obtain ⟨L, acc, hP, hal, z⟩ := hp
    exact h D acc H' L hP hal z
theorem k_iRng3 {ta : TA} {R : It → Hp → Prop} (h : ta σ H fun vs H1 => ∃ (i j c : Int) (n : Nat), vs = [.int i, .int j, .int c] ∧ RgC i j c n ∧ R (Itc i c n) H1) : iRng3 ta σ H R := h
theorem rg3 {j c : Int} {n : Nat} (h0 : 0 ≤ j) (h1 : j < 1000000) (c0 : 0 < c) (c1 : c < 1000000) (e : (if 0 < j then (j - 1) / c + 1 else 0) = (n : Int)) : RgC 0 j c n := by
  have sz : Builtin.Range.rangeSize 0 j c = n := by
    unfold Builtin.Range.rangeSize
    rw [if_pos c0, ← e]
    by_cases h : 0 < j
    · rw [if_pos h, if_pos h, Int.sub_zero]
    · rw [if_neg h, if_neg h]
  have hd : (j - 1) / c ≤ j := by
    by_cases h : 0 < j
    · exact Int.le_trans (Int.ediv_le_self _ (by omega)) (by omega)
    · have : j = 0 := by omega
      subst this
      exact Int.le_of_lt (Int.ediv_neg_of_neg_of_pos (by omega) c0)
  have hn : (n : Int) ≤ j + 1 := by
    split at e
    · omega
    · omega
  refine ⟨by omega, by omega, ?_, sz⟩
  unfold Builtin.Range.small
  rw [sz]
  have c2 : c > 0 := c0
  simp only [if_pos c2, Builtin.Range.rangeFitsLong, Bool.and_eq_true, Bool.or_eq_true, decide_eq_true_eq, beq_iff_eq]
  omega
/-- behind i turns of the inner for, A the pieces of what is walked -/
def LcA (A : List Asn) (Pv : Nat → List Asn → Prop) (i : Nat) (H : Hp) : Prop := ∃ L, Pv i L ∧ Hs (A ++ L) H
/-- the inner for over a tuple of data -/
theorem s_lc2T {α : Type} {f : α → PyData} {xs : List α} {t : Addr} {C : (Hp → Prop) → V → Hp → Prop} {Qn : Hp → Prop} (Pv : Nat → List Asn → Prop) (hS : Hs L0 H) (k : Pick L0 (dv (.ref t) (.tuple (xs.map f))) R0) (h0 : Pv 0 R0)
    (hs : ∀ us i x y L H, xs[i]? = some x → Pv i L → Hs (dv y (f x) :: cell t (.tup us) :: dv (.ref t) (.tuple (xs.map f)) :: L) H → C (LcA [cell t (.tup us), dv (.ref t) (.tuple (xs.map f))] Pv (i + 1)) y H)
    (hd : ∀ L H, Pv xs.length L → Hs (dv (.ref t) (.tuple (xs.map f)) :: L) H → Qn H) :
    (∃ xs, SqT K H t xs) ∧ ∃ W : Nat → Nat → Hp → Prop, (∃ m, W 0 m H) ∧ ∀ i m H, W i m H →
      ((Itt K t).stop i H ∧ Qn H) ∨ ((Itt K t).go i H ∧ ∃ Nx : Hp → Prop, (∀ H', Nx H' → ∃ m', m' < m ∧ W (i + 1) m' H') ∧ ∀ x H', (Itt K t).yld i H x H' → C Nx x H') := by
  have h1 := k.go hS
  obtain ⟨t', us, e, ht, hu⟩ := (Hs.hd (A := dv (.ref t) (.tuple (xs.map f))) h1).tupOf
  cases e
  have hl := hu.length
  rw [List.length_map] at hl
  refine ⟨⟨us, SqT.of ht⟩, itW (C := C) (Qd := Qn) (walk_tup (K := K) (a := t) (xs := us)) (LcA [cell t (.tup us), dv (.ref t) (.tuple (xs.map f))] Pv) ⟨R0, h0, h1.add (A := cell t (.tup us)) ht⟩ (fun i H' _ hp => ?_) (fun i y H1 H' hi hp hy => ?_) fun H' hp => ?_⟩
  · obtain ⟨L, _, z⟩ := hp
    exact SqT.of (Hs.hd (A := cell t (.tup us)) z)
  · obtain ⟨L, hP, z⟩ := hp
    obtain ⟨rfl, hx⟩ := hy
    obtain ⟨t2, us2, e2, ht2, hu2⟩ := (Hs.hd (A := dv (.ref t) (.tuple (xs.map f))) (Hs.tl z)).tupOf
    cases e2
    have e1 : H' t = some (.tup us) := Hs.hd (A := cell t (.tup us)) z
    obtain rfl : us = us2 := by
      rw [ht2] at e1
      cases e1
      rfl
    obtain ⟨d, ed, hd'⟩ := hu2.get hx
    rw [List.getElem?_map] at ed
    cases e3 : xs[i]? with
    | none =>
      rw [e3] at ed
      cases ed
    | some w =>
      rw [e3] at ed
      have e2 : f w = d := Option.some.inj ed
      rw [← e2] at hd'
      exact hs us i w y L H' e3 hP (Hs.add (A := dv y (f w)) hd' z)
  · obtain ⟨L, hP, z⟩ := hp
    rw [hl] at hP
    exact hd L H' hP (Hs.tl z)
theorem k_lenTc {p : Addr} {us : List V} {R : List Asn} (hS : Hs L H) (k : Pick L (cell p (.tup us)) R) (h : Q (.int us.length) H) : (∃ a xs, [V.ref p] = [V.ref a] ∧ SqT K H a xs ∧ Q (.int xs.length) H) := ⟨p, us, rfl, SqT.of (hS.at_ k), h⟩
theorem tyx_Tc {p : Addr} {us : List V} {R : List Asn} (hS : Hs L H) (k : Pick L (cell p (.tup us)) R) : TyX K H (.ref p) (.type "tuple") := .base (.tup (hS.at_ k))
theorem tyx_D {p : Addr} {ds : List (Key × PyData)} {R : List Asn} (hS : Hs L H) (k : Pick L (isD p ds) R) : TyX K H (.ref p) (.type "dict") := by
  obtain ⟨us, h1, _⟩ := hS.at_ k
  exact .base (.dK h1)
end
/-! pages and sheets: plain -/
/-- the sheets of the rows that have no room in the file's own row -/
def shts {α : Type} (rest : List α) : List (List α) := (List.range ((rest.length + 5) / 6)).map fun i => (rest.drop (6 * i)).take 6
theorem shts_len {α : Type} (rest : List α) : (shts rest).length = (rest.length + 5) / 6 := by simp [shts]
theorem shts_get {α : Type} {rest : List α} {i : Nat} (h : i < (rest.length + 5) / 6) : (shts rest)[i]? = some ((rest.drop (6 * i)).take 6) := by
  unfold shts
  rw [List.getElem?_map, List.getElem?_range h]
  rfl
theorem shts_take {α : Type} {rest : List α} {i : Nat} (h : i < (rest.length + 5) / 6) : (shts rest).take (i + 1) = (shts rest).take i ++ [(rest.drop (6 * i)).take 6] := take_snoc (shts_get h)
theorem flatten_shts {α : Type} (rest : List α) : ∀ n, ((List.range n).map fun i => (rest.drop (6 * i)).take 6).flatten = rest.take (6 * n)
  | 0 => rfl
  | n + 1 => by
    rw [List.range_succ, List.map_append, List.flatten_append, flatten_shts rest n, List.map_singleton, List.flatten_singleton, show 6 * (n + 1) = 6 * n + 6 by omega, List.take_add]
theorem shts_flat {α : Type} (rest : List α) : (shts rest).flatten = rest := by
  unfold shts
  rw [flatten_shts, List.take_of_length_le (by omega)]
theorem rg_sheets {n : Nat} : (if (0 : Int) < (n : Int) then ((n : Int) - 1) / 6 + 1 else 0) = (((n + 5) / 6 : Nat) : Int) := by
  split
  · omega
  · omega
theorem flat_cut {rs : List Row4} {i j : Nat} {r : Row4} (hx : rs[i]? = some r) (hj : j < r.2.2.1.toNat) : ∃ rest, flat rs = (flat (rs.take i) ++ (flatR r).take j) ++ (r.1 + (0 + (j : Int)), r.2.1 + (0 + (j : Int)), r.2.2.2) :: rest := by
  refine ⟨(flatR r).drop (j + 1) ++ flat (rs.drop (i + 1)), ?_⟩
  have e1 : flat rs = flat (rs.take (i + 1)) ++ flat (rs.drop (i + 1)) := by
    unfold flat
    rw [← List.flatMap_append, List.take_append_drop]
  have e2 : flatR r = (flatR r).take j ++ (r.1 + (0 + (j : Int)), r.2.1 + (0 + (j : Int)), r.2.2.2) :: (flatR r).drop (j + 1) := by
    conv => lhs; rw [← List.take_append_drop (j + 1) (flatR r), flatR_snoc hj]
    rw [List.append_assoc]
    rfl
  rw [e1, flat_take hx]
  conv => lhs; rw [e2]
  simp only [List.append_assoc, List.cons_append]
theorem flat_new {rs : List Row4} {i j : Nat} {r : Row4} (hn : ((flat rs).map (·.1)).Nodup) (hx : rs[i]? = some r) (hj : j < r.2.2.1.toNat) : (r.1 + (0 + (j : Int))) ∉ (flat (rs.take i) ++ (flatR r).take j).map (·.1) ∧ (flat (rs.take i) ++ (flatR r).take j).length ≤ (flat rs).length := by
  obtain ⟨rest, e⟩ := flat_cut hx hj
  rw [e] at hn ⊢
  rw [List.map_append, List.map_cons] at hn
  refine ⟨fun h => (List.nodup_append.mp hn).2.2 _ h _ List.mem_cons_self rfl, ?_⟩
  rw [List.length_append (bs := _ :: rest)]
  omega
theorem cutD_mid {α : Type} (xs : List α) (a b : Nat) : cutD xs (some (a : Int)) (some ((a : Int) + (b : Int))) = (xs.drop a).take b := by
  unfold cutD
  rw [show HT.sIx xs.length 0 (some (a : Int)) = min a xs.length from HT.sIx_nat _ _ a, show (a : Int) + (b : Int) = ((a + b : Nat) : Int) by omega, show HT.sIx xs.length xs.length (some ((a + b : Nat) : Int)) = min (a + b) xs.length from HT.sIx_nat _ _ (a + b)]
  by_cases h : a ≤ xs.length
  · rw [Nat.min_eq_left h]
    by_cases h2 : a + b ≤ xs.length
    · rw [Nat.min_eq_left h2, Nat.add_sub_cancel_left]
    · rw [Nat.min_eq_right (by omega), List.take_of_length_le (by rw [List.length_drop]; omega), List.take_of_length_le (by rw [List.length_drop]; omega)]
  · rw [Nat.min_eq_right (by omega), Nat.min_eq_right (by omega), List.drop_eq_nil_of_le (Nat.le_refl _), List.drop_eq_nil_of_le (by omega), List.take_nil, List.take_nil]
theorem cutD_sheet {α β : Type} (f : α → β) (xs : List α) (i : Nat) : cutD (xs.map f) (some (0 + (i : Int) * 6)) (some (0 + (i : Int) * 6 + 6)) = ((xs.drop (6 * i)).take 6).map f := by
  rw [cutD_map, show (0 : Int) + (i : Int) * 6 = ((6 * i : Nat) : Int) by omega, show ((6 * i : Nat) : Int) + 6 = ((6 * i : Nat) : Int) + ((6 : Nat) : Int) by omega, cutD_mid]
theorem pi_tupK {X : Cx} (K : PySem.W.Frag) (h : X.K = K) {tg l : Expr} {tl : TE} (hl : PE X l tl) : PI X tg l (iTup K tl) := by
  subst h
  exact pi_tup hl
theorem pi_listK {X : Cx} (K : PySem.W.Frag) (h : X.K = K) {tg l : Expr} {tl : TE} (hl : PE X l tl) : PI X tg l (iList K tl) := by
  subst h
  exact pi_list hl
end Lt
/-! xs.count(d) of data; sum of a tuple, from a start -/
namespace Lt
open PySem PySem.Spec PyProof.Rows L2
section
variable {X : Cx}
def rCntD (K : PySem.W.Frag) : V → List V → Hp → VK → Prop := fun x xs H Q => ∃ (a : Addr) (y : V) (d : PyData) (ds : List PyData), x = V.ref a ∧ xs = [y] ∧ Dp K H (V.ref a) (.list ds) ∧ Dp K H y d ∧ SeqAt.shaped (.list ds) = true ∧ SeqAt.shaped d = true ∧ Q (.int (ds.countP fun z => PyData.eqv z d : Nat)) H
theorem mt_countD (hu : X.A.units + 65 < cLine) : MtR X "list.count" (rCntD X.K) := by
  intro pins s σ H x xs v us Q I rx rxs h
  obtain ⟨a, y, d, ds, rfl, rfl, hl, hy, sl, sd, q⟩ := h
  cases rx
  cases rxs with
  | cons ry rt =>
    rename_i uy ut
    cases rt
    obtain ⟨bs, r1⟩ := Dp.reads I d y uy hy ry
    have hxs : PyData.canLayAll0 ds = true := SeqAt.canLay_of_shaped sl
    have hroom : X.A.units + 1 + min (PyData.depthAll ds) d.depth < cLine := room_in_shaped sd hu
    cases hl with
    | lst hs ha =>
      obtain ⟨its, rv, ⟨⟨cls, dd, data, sls⟩, n, ho, hc, hdn, hdt⟩, hlen⟩ := I.list hs
      simp only at hc hdt
      subst hc hdt
      obtain ⟨as, h4⟩ := Dp.readsAll I ds _ its ha rv
      have hmap : its.map (SeqAt.readOf s.heap) = ds := SeqAt.readsAll_map ds its as hxs h4
      refine call_meets PySem.F.slot_list_count ⟨_, ho, rfl⟩ PySem.F.entry_list_count (PySem.F.args_list_count_2 _ _)
        (SeqAt.list_countAt a its.toArray n dd sls uy (fun u => PyData.eqv (SeqAt.readOf s.heap u) d)) ⟨ho, SeqAt.items_eqAt (vs := its.toArray) (show ReadsAll s.heap its.toArray.toList ds as from h4) r1 hxs (SeqAt.canLay_of_shaped sd) hroom, ?_⟩
      refine ⟨.int _, H, I.tok _, ⟨_, rfl⟩, ?_⟩
      have e : ((its.toArray.toList.countP fun u => PyData.eqv (SeqAt.readOf s.heap u) d : Nat) : Int) = (ds.countP fun z => PyData.eqv z d : Nat) := by
        rw [← hmap, List.countP_map]
        rfl
      rw [e]
      exact q
/-- sum(t) -/
def rSumT (K : PySem.W.Frag) : List V → Hp → VK → Prop := fun vs H Q => ∃ (a : Addr) (ns : List Int), vs = [V.ref a] ∧ SqT K H a (ns.map V.int) ∧ Q (.int ns.sum) H
theorem cr_sumT (hc : X.calm = true) : CallR X (.builtin "sum") (rSumT X.K) := by
  intro pins s σ H vs us Q I r h
  obtain ⟨a, ns, rfl, hs, q⟩ := h
  obtain ⟨its, rv, pl, _⟩ := I.tuple hs
  rw [Vals.ref1 r]
  have hi := ints_of_vals rv
  obtain ⟨xs, hx⟩ := hi.allInts.items
  have hn : numsOf its.toArray.toList = ns := by rw [show its.toArray.toList = its from rfl, hi.numsOf]
  have hl : s.heap.IsTuple a its.toArray := pl
  rw [hx] at hl hn
  rw [nums_intItems] at hn
  refine PySem.W.ktm_sumG (I.ok.hd hc) hl fun h' tk t' hk => ?_
  refine ⟨.int _, H, I.kept hk, ⟨t', rfl⟩, ?_⟩
  rw [preSum_eq, List.take_of_length_le (by simp), hn]
  exact q
end
section
variable {prog : Program} {w : World} {A : Around} {E : Value → Shared → Prop} {s : Shared} {I : Addr} {fp wr : List Addr} {G : Array GenState → Array GenState → Prop} {n : Nat} {P : Nat → Value → Prop} {St : Nat → Shared → Prop}
/-- a walk with one turn ahead that is never asked -/
theorem walk_ahead (W : WalksS prog w A I fp wr G n P St) : WalksS prog w A I fp wr G (n + 1) (fun i v => 0 < i ∧ P (i - 1) v) (fun i s => 0 < i ∧ St (i - 1) s) where
  sub := W.sub
  grefl := W.grefl
  gtrans := W.gtrans
  frame := fun i s h' tk st le k => ⟨st.1, W.frame (i - 1) s h' tk st.2 le k⟩
  item := fun i s Q E hi st hQ => W.item (i - 1) s Q E (by omega) st.2 fun v s' hP hs hm => hQ v s' ⟨st.1, hP⟩ ⟨by omega, by
    have e : i + 1 - 1 = i - 1 + 1 := by omega
    rw [e]
    exact hs⟩ hm
  done := fun s Q E st hQ => W.done s Q E st.2 hQ
  self := fun i s Q E st hQ => W.self (i - 1) s Q E st.2 hQ
def valA (k : Int) (val : Nat → Int) : Nat → Int
  | 0 => k
  | i + 1 => val i
theorem preSum_ahead (k : Int) (val : Nat → Int) : ∀ i, preSum (valA k val) (i + 1) = k + preSum val i
  | 0 => by show 0 + k = k + 0; omega
  | i + 1 => by
    show preSum (valA k val) (i + 1) + val i = k + (preSum val i + val i)
    rw [preSum_ahead k val i]
    omega
theorem call_sum_start {x : Value} {k : Int} {u : Tok} {Q : Value → Shared → Prop}
    (h : wpAny (model prog w) A.in1 (pyIter x) (fun it s₂ => ∃ I fp wr G n P St val, it = .ref I ∧ WalksS prog w A.in1 I fp wr G n P St ∧ St 0 s₂ ∧ (∀ b ∈ fp, b < s₂.heap.objs.size) ∧
      (∀ i v, P i v → ∃ t, v = .int (val i) t) ∧
      ∀ s' t', Moved wr G s₂ s' → Q (.int (k + preSum val n) t') s') E s) :
    wpAny (model prog w) A (call (.builtin "sum") [x] [("start", .int k u)]) Q E s := by
  refine wpAny_call (codeAny_call_builtin F.plain_sum F.entry_sum ?_)
  show wpAny _ A.in1 (checkBuiltinCall "sum" ⟨[x], [("start", .int k u)]⟩) _ _ s
  refine wpAny_of_eq (show checkBuiltinCall "sum" ⟨[x], [("start", .int k u)]⟩ = pure () by kernel_rfl) ?_
  unfold Builtin.«sum»
  simp only [List.length_cons, List.length_nil]
  rw [if_neg (by decide)]
  refine wpAny_bind (wpAny_of_eq (show Builtin.Builtins.bindParams "sum" ["start"] 0 ⟨[], [("start", .int k u)]⟩ = pure [some (.int k u)] from rfl) ?_)
  refine wpAny_bind (wpAny_mono h (fun it s₂ h₂ => ?_) fun _ _ e => e)
  obtain ⟨I, fp, wr, G, n, P, St, val, rfl, W, hst, hfp, hval, hQ⟩ := h₂
  have hval2 : ∀ i v, P (i - 1) v → 0 < i → ∃ t, v = .int (valA k val i) t := fun i v hP hi => by
    obtain ⟨j, rfl⟩ : ∃ j, i = j + 1 := ⟨i - 1, by omega⟩
    exact hval j v hP
  have fin : ∀ (st : Int) (u' : Tok) (tk : Tok), (st = 0 ∨ st = 2) → s₂.toks ≤ tk →
      wpAny (model prog w) A.in1 (newList [.int k u'] >>= fun l => again (.builtin "sum.loop" ⟨[.ref I, l, rawInt st, rawInt 0], []⟩)) (fun fin s' => match fin with
        | .done f => (match (Except.ok f : Result) with | .ok (.ret v) => Q v s' | .ok _ => False | .error e => E e s')
        | .again c' => c'.quiet = true ∧ codeAny (model prog w) A c' (fun r s' => match r with | .ok (.ret v) => Q v s' | .ok _ => False | .error e => E e s') s') E { s₂ with toks := tk } := by
    intro st u' tk hst2 le
    refine wpAny_bind (wpAny_newObj_type ?_)
    have hSf : s₂.heap.objs.size ∉ fp := fun hm => Nat.lt_irrefl _ (hfp _ hm)
    have e0 : preSum (valA k val) 1 = k := by
      rw [preSum_ahead]
      show k + 0 = k
      omega
    refine wpAny_pure ⟨plainId_quiet F.plain_sum_loop _, codeAny_sum_loopAnyS (walk_ahead W) (valA k val) (fun i v hP => ?_) s₂.heap.objs.size hSf n 1 _ u' 0 st hst2 (by omega) (by omega)
      ⟨Nat.one_pos, W.frame 0 s₂ _ _ hst le fun b _ o e => Heap.get?_push_of_some _ e⟩ (by rw [e0]; exact Heap.get?_push_size _ rfl) fun s' t' hm => ?_⟩
    · exact hval2 i v hP.2 hP.1
    · rw [preSum_ahead]
      exact hQ s' t' (hm.drop_new (by first | exact Nat.le_refl _ | exact Nat.le_succ _ | omega))
  show wpAny _ _ (if (_ : Bool) = true then _ else _) _ _ _
  split
  · refine wpAny_bind (wpAny_rule ?_)
    refine wpAny_bind (wpAny_mkInt ?_)
    refine wpAny_bind (wpAny_pure ?_)
    simp only [List.forIn_cons, List.forIn_nil]
    refine wpAny_bind (wpAny_bind (wpAny_bind (wpAny_isInstance (T := "int") (b := false) (typeIs_int _ _ _) PySem.sub_int_str ?_)))
    simp only [Bool.false_eq_true, if_false]
    refine wpAny_pure (wpAny_bind (wpAny_bind (wpAny_isInstance (T := "int") (b := false) (typeIs_int _ _ _) sub_int_bytes ?_)))
    simp only [Bool.false_eq_true, if_false]
    refine wpAny_pure (wpAny_bind (wpAny_bind (wpAny_isInstance (T := "int") (b := false) (typeIs_int _ _ _) sub_int_bytearray ?_)))
    simp only [Bool.false_eq_true, if_false]
    refine wpAny_pure (wpAny_pure ?_)
    exact fin 0 _ _ (.inl rfl) (Nat.le_succ _)
  · refine wpAny_bind (wpAny_pure ?_)
    simp only [List.forIn_cons, List.forIn_nil]
    refine wpAny_bind (wpAny_bind (wpAny_bind (wpAny_isInstance (T := "int") (b := false) (typeIs_int _ _ _) PySem.sub_int_str ?_)))
    simp only [Bool.false_eq_true, if_false]
    refine wpAny_pure (wpAny_bind (wpAny_bind (wpAny_isInstance (T := "int") (b := false) (typeIs_int _ _ _) sub_int_bytes ?_)))
    simp only [Bool.false_eq_true, if_false]
    refine wpAny_pure (wpAny_bind (wpAny_bind (wpAny_isInstance (T := "int") (b := false) (typeIs_int _ _ _) sub_int_bytearray ?_)))
    simp only [Bool.false_eq_true, if_false]
    refine wpAny_pure (wpAny_pure ?_)
    exact fin 2 _ _ (.inr rfl) (Nat.le_refl _)
end
section
variable {X : Cx}
/-- sum(t, start=k) -/
def rSumTS (K : PySem.W.Frag) : List V → List V → Hp → VK → Prop := fun vs zs H Q => ∃ (a : Addr) (ns : List Int) (k : Int), vs = [V.ref a] ∧ zs = [.int k] ∧ SqT K H a (ns.map V.int) ∧ Q (.int (k + ns.sum)) H
theorem cr_sumTS (hc : X.calm = true) : CallRK X (.builtin "sum") ["start"] (rSumTS X.K) := by
  intro pins s σ H vs zs us ws Q I r rz h
  obtain ⟨a, ns, k, rfl, rfl, hs, q⟩ := h
  obtain ⟨its, rv, pl, _⟩ := I.tuple hs
  rw [Vals.ref1 r]
  obtain ⟨u, rfl, u2, rfl⟩ := vals1 rz
  have hi := ints_of_vals rv
  obtain ⟨xs, hx⟩ := hi.allInts.items
  have hn : numsOf its.toArray.toList = ns := by rw [show its.toArray.toList = its from rfl, hi.numsOf]
  have ht : s.heap.IsTuple a its.toArray := pl
  rw [hx] at ht hn
  rw [nums_intItems] at hn
  obtain ⟨o, ho, hcl, n, hd⟩ := id ht
  have hne : a ≠ s.heap.objs.size := Nat.ne_of_lt (Heap.lt_size ho)
  have hsz : (intItems xs).size = xs.size := by simp [intItems]
  have W := (Walks.tuple (prog := X.prog) (w := X.w) (A := X.A.in1) (I.ok.hd hc) s.heap.objs.size a hne (intItems xs)).toS
  rw [hsz] at W
  show wpAny _ _ (call (.builtin "sum") [.ref a] [("start", .int k u2)]) _ _ _
  refine call_sum_start (wpAny_pyIter_tuple ht ?_)
  refine ⟨s.heap.objs.size, _, _, _, _, _, _, numAt xs, rfl, W, ⟨⟨_, Heap.get?_push_size _ rfl, rfl, rfl⟩, ht.at fun o e => Heap.get?_push_of_some _ e⟩, fun b hb => ?_, fun i v hP => intItems_at hP, fun s' t' hm => ?_⟩
  · rcases List.mem_cons.mp hb with rfl | hb
    · exact Heap.lt_size (Heap.get?_push_size _ rfl)
    · obtain rfl := List.mem_singleton.mp hb
      exact Heap.lt_size (Heap.get?_push_of_some _ ho)
  · obtain ⟨h', g', d', tk', os'⟩ := s'
    have e1 : g' = s.gens := hm.gens
    have e2 : d' = s.drawn := hm.drawn
    have e3 : os' = s.os := hm.os
    subst e1 e2 e3
    refine ⟨.int _, H, I.kept (fun b o e => hm.heap b o (fun hb => absurd (Heap.lt_size e) ((List.mem_singleton.mp hb) ▸ Nat.lt_irrefl _)) (Heap.get?_push_of_some _ e)), ⟨t', rfl⟩, ?_⟩
    rw [preSum_eq, List.take_of_length_le (by simp), hn]
    exact q
end
end Lt
/-! a plan bears a census: by its rows one by one, and by counting (plain) -/
namespace Lt
inductive Nm
  | e | a | b | z
  deriving DecidableEq
abbrev Pr : Type := Nm × Int × Int
inductive Ky
  | pg (n : Nm) | sh (n : Nm) | tk (t : Int)
  deriving DecidableEq
def keyOf (u : Pr) : Ky := if u.2.1 = -1 then .sh u.1 else if u.1 = .e then .tk u.2.1 else .pg u.1
def wishes (put : List Pr) (pled : List (Int × Int)) : List (Ky × Int) := put.flatMap (fun u => [(.pg u.1, u.2.1), (.sh u.1, u.2.2)]) ++ pled.map fun v => (.tk v.1, v.2)
def cntK (k : Ky) (plan : List Pr) : Nat := plan.countP fun u => decide (keyOf u = k)
def pagesOf (plan : List Pr) (n : Nm) : List Int := (plan.filter fun v => decide (v.1 = n)).map (·.2.1)
def seenOf (plan : List Pr) (n : Nm) : List Int := (pagesOf plan n).filter fun p => decide (0 ≤ p) && decide (n ≠ .e)
structure Fit (ok : Int → Prop) (put : List Pr) (pled : List (Int × Int)) (plan : List Pr) : Prop where
  row : ∀ (i : Nat) (u : Pr), plan[i]? = some u → (∃ w, (keyOf u, w) ∈ wishes put pled ∧ 1 ≤ w - cntK (keyOf u) (plan.take i)) ∧ (0 ≤ u.2.1 → u.1 ≠ .e → ∀ v ∈ plan.take i, ¬ (v.1 = u.1 ∧ v.2.1 = u.2.1)) ∧ ok u.2.2
  nd : (plan.map (·.2.2)).Nodup
  zero : ∀ q ∈ wishes put pled, q.2 - cntK q.1 plan = 0
structure Bear (ok : Int → Prop) (put : List Pr) (pled : List (Int × Int)) (plan : List Pr) : Prop where
  nd : (plan.map (·.2.2)).Nodup
  len : (plan.length : Int) = (put.map fun u => u.2.1 + u.2.2).sum + (pled.map (·.2)).sum
  ok : ∀ u ∈ plan, ok u.2.2
  sheets : ∀ u ∈ put, (((pagesOf plan u.1).count (-1) : Nat) : Int) = u.2.2
  seen : ∀ u ∈ put, ((seenOf plan u.1).length : Int) = u.2.1
  seenNd : ∀ u ∈ put, (seenOf plan u.1).Nodup
  tick : ∀ v ∈ pled, (((plan.map fun u => (u.1, u.2.1)).count (Nm.e, v.1) : Nat) : Int) = v.2
/-- what is known of a census and a plan of ours -/
structure Tame (put : List Pr) (pled : List (Int × Int)) (plan : List Pr) : Prop where
  nd : (put.map (·.1)).Nodup
  tnd : (pled.map (·.1)).Nodup
  t0 : ∀ v ∈ pled, 0 ≤ v.1
  lo : ∀ u ∈ plan, -1 ≤ u.2.1
  root : ∀ u ∈ put, u.1 = .e → u.2.1 = 0
section
variable {put : List Pr} {pled : List (Int × Int)} {plan : List Pr} {ok : Int → Prop}
theorem key_sh {u : Pr} {n : Nm} : keyOf u = .sh n ↔ u.2.1 = -1 ∧ u.1 = n := by
  unfold keyOf
  split
  · rename_i h
    simp [h]
  · rename_i h
    split <;> simp [h]
theorem key_tk {u : Pr} {t : Int} (h0 : 0 ≤ t) : keyOf u = .tk t ↔ u.1 = .e ∧ u.2.1 = t := by
  unfold keyOf
  split
  · rename_i h
    constructor
    · intro z
      cases z
    · rintro ⟨_, z⟩
      omega
  · rename_i h
    split
    · rename_i h2
      simp [h2]
    · rename_i h2
      simp [h2]
theorem key_pg {u : Pr} {n : Nm} (hn : n ≠ .e) (lo : -1 ≤ u.2.1) : keyOf u = .pg n ↔ u.1 = n ∧ 0 ≤ u.2.1 := by
  unfold keyOf
  split
  · rename_i h
    constructor
    · intro z
      cases z
    · rintro ⟨_, z⟩
      omega
  · rename_i h
    split
    · rename_i h2
      constructor
      · intro z
        cases z
      · rintro ⟨z, _⟩
        exact absurd (z.symm.trans h2) hn
    · rename_i h2
      constructor
      · intro z
        injection z with z
        exact ⟨z, by omega⟩
      · rintro ⟨z, _⟩
        rw [z]
theorem key_pgE (u : Pr) : keyOf u ≠ .pg .e := by
  unfold keyOf
  split
  · intro z
    cases z
  · split
    · intro z
      cases z
    · rename_i h2
      intro z
      injection z with z
      exact h2 z
theorem cnt_sh (n : Nm) : cntK (.sh n) plan = (pagesOf plan n).count (-1) := by
  unfold cntK pagesOf List.count
  rw [List.countP_map, List.countP_filter]
  refine List.countP_congr fun u _ => ?_
  simp only [decide_eq_true_eq, Function.comp, beq_iff_eq, Bool.and_eq_true, key_sh]
theorem cnt_pg {n : Nm} (hn : n ≠ .e) (lo : ∀ u ∈ plan, -1 ≤ u.2.1) : cntK (.pg n) plan = (seenOf plan n).length := by
  unfold cntK seenOf pagesOf
  rw [← List.countP_eq_length_filter, List.countP_map, List.countP_filter]
  refine List.countP_congr fun u hu => ?_
  simp only [decide_eq_true_eq, Function.comp, Bool.and_eq_true, key_pg hn (lo u hu)]
  exact ⟨fun z => ⟨⟨z.2, hn⟩, z.1⟩, fun z => ⟨z.2, z.1.1⟩⟩
theorem cnt_pgE : cntK (.pg .e) plan = 0 := by
  unfold cntK
  rw [List.countP_eq_zero]
  intro u _
  simp [key_pgE u]
theorem seen_e : seenOf plan .e = [] := by
  unfold seenOf
  rw [List.filter_eq_nil_iff]
  intro p _
  simp
theorem cnt_tk {t : Int} (h0 : 0 ≤ t) : cntK (.tk t) plan = (plan.map fun u => (u.1, u.2.1)).count (Nm.e, t) := by
  unfold cntK List.count
  rw [List.countP_map]
  refine List.countP_congr fun u _ => ?_
  simp only [decide_eq_true_eq, Function.comp, beq_iff_eq, key_tk h0, Prod.mk.injEq]
/-- the sum over unlike keys -/
theorem cnt_sum {ks : List Ky} (nd : ks.Nodup) : ∀ plan : List Pr, (ks.map fun k => cntK k plan).sum = plan.countP fun u => decide (keyOf u ∈ ks)
  | [] => by
    have e : ∀ l : List Ky, (l.map fun k => cntK k []).sum = 0 := fun l => by
      induction l with
      | nil => rfl
      | cons _ _ ih =>
        rw [List.map_cons, List.sum_cons, ih]
        rfl
    exact e ks
  | u :: plan => by
    have e1 : ∀ l : List Ky, l.Nodup → (l.map fun k => cntK k (u :: plan)).sum = (l.map fun k => cntK k plan).sum + if keyOf u ∈ l then 1 else 0 := fun l hl => by
      induction l with
      | nil => rfl
      | cons k l ih =>
        rw [List.nodup_cons] at hl
        rw [List.map_cons, List.sum_cons, List.map_cons, List.sum_cons, ih hl.2]
        have e2 : cntK k (u :: plan) = cntK k plan + if keyOf u = k then 1 else 0 := by
          unfold cntK
          rw [List.countP_cons]
          simp
        rw [e2]
        by_cases h : keyOf u = k
        · have h2 : keyOf u ∉ l := by
            rw [h]
            exact hl.1
          simp [h, h2]
          rw [if_neg (by rw [← h]; exact h2)]
          omega
        · simp only [List.mem_cons, h, false_or, if_false]
          omega
    rw [e1 ks nd, cnt_sum nd plan, List.countP_cons]
    simp
theorem wish_mem {q : Ky × Int} : q ∈ wishes put pled ↔ (∃ u ∈ put, q = (.pg u.1, u.2.1) ∨ q = (.sh u.1, u.2.2)) ∨ ∃ v ∈ pled, q = (.tk v.1, v.2) := by
  unfold wishes
  rw [List.mem_append, List.mem_flatMap, List.mem_map]
  constructor
  · rintro (⟨u, hu, h⟩ | ⟨v, hv, rfl⟩)
    · exact .inl ⟨u, hu, by simpa using h⟩
    · exact .inr ⟨v, hv, rfl⟩
  · rintro (⟨u, hu, h⟩ | ⟨v, hv, rfl⟩)
    · exact .inl ⟨u, hu, by simpa using h⟩
    · exact .inr ⟨v, hv, rfl⟩
theorem wish_ndP : ∀ {put : List Pr}, (put.map (·.1)).Nodup → (put.flatMap fun u => [Ky.pg u.1, .sh u.1]).Nodup
  | [], _ => .nil
  | u :: put, h => by
    rw [List.map_cons, List.nodup_cons] at h
    rw [List.flatMap_cons, List.nodup_append]
    refine ⟨by simp, wish_ndP h.2, fun a ha b hb e => ?_⟩
    obtain ⟨v, hv, hb⟩ := List.mem_flatMap.mp hb
    have hn : v.1 ≠ u.1 := fun z => h.1 (List.mem_map.mpr ⟨v, hv, z⟩)
    subst e
    simp only [List.mem_cons, List.not_mem_nil, or_false] at ha hb
    rcases ha with rfl | rfl <;> rcases hb with hb | hb <;> first | (injection hb with hb; exact hn hb.symm) | cases hb
theorem wish_nd (T : Tame put pled plan) : ((wishes put pled).map (·.1)).Nodup := by
  have e : (wishes put pled).map (·.1) = (put.flatMap fun u => [Ky.pg u.1, .sh u.1]) ++ (pled.map (·.1)).map Ky.tk := by
    unfold wishes
    rw [List.map_append, List.map_flatMap, List.map_map, List.map_map]
    rfl
  rw [e, List.nodup_append]
  refine ⟨wish_ndP T.nd, ?_, fun a ha b hb z => ?_⟩
  · rw [List.Nodup, List.pairwise_map]
    exact T.tnd.imp fun h z => h (by injection z)
  · obtain ⟨u, _, ha⟩ := List.mem_flatMap.mp ha
    obtain ⟨t, _, rfl⟩ := List.mem_map.mp hb
    subst z
    simp at ha
theorem wish_sum : ((wishes put pled).map (·.2)).sum = (put.map fun u => u.2.1 + u.2.2).sum + (pled.map (·.2)).sum := by
  unfold wishes
  rw [List.map_append, List.sum_append, List.map_map]
  congr 1
  induction put with
  | nil => rfl
  | cons u put ih =>
    rw [List.flatMap_cons, List.map_append, List.sum_append, ih, List.map_cons, List.sum_cons]
    simp
theorem cnt_all (T : Tame put pled plan) (hc : ∀ q ∈ wishes put pled, (cntK q.1 plan : Int) = q.2) : (((plan.countP fun u => decide (keyOf u ∈ (wishes put pled).map (·.1))) : Nat) : Int) = (put.map fun u => u.2.1 + u.2.2).sum + (pled.map (·.2)).sum := by
  rw [← cnt_sum (wish_nd T) plan, ← wish_sum, List.map_map]
  have e : ∀ l : List (Ky × Int), (∀ q ∈ l, (cntK q.1 plan : Int) = q.2) → (((l.map ((fun k => cntK k plan) ∘ (·.1))).sum : Nat) : Int) = (l.map (·.2)).sum := fun l hl => by
    induction l with
    | nil => rfl
    | cons q l ih =>
      rw [List.map_cons, List.sum_cons, List.map_cons, List.sum_cons, ← ih fun q hq => hl q (List.mem_cons_of_mem _ hq), ← hl q List.mem_cons_self]
      push_cast
      rfl
  exact e _ hc
theorem cnt_take {i : Nat} {u : Pr} (h : plan[i]? = some u) : cntK (keyOf u) (plan.take i) + 1 ≤ cntK (keyOf u) plan := by
  have h1 : plan.take (i + 1) = plan.take i ++ [u] := by rw [List.take_add_one, h]; rfl
  have h2 : cntK (keyOf u) (plan.take (i + 1)) ≤ cntK (keyOf u) plan := List.Sublist.countP_le (List.take_sublist _ _)
  rw [h1] at h2
  unfold cntK at h2 ⊢
  rw [List.countP_append] at h2
  simp at h2
  omega
theorem seen_pw {n : Nm} : (seenOf plan n).Nodup ↔ plan.Pairwise fun v u => (v.1 = n ∧ 0 ≤ v.2.1 ∧ n ≠ .e) → (u.1 = n ∧ 0 ≤ u.2.1 ∧ n ≠ .e) → v.2.1 ≠ u.2.1 := by
  unfold seenOf pagesOf
  rw [List.filter_map, List.Nodup, List.pairwise_map, List.filter_filter, List.pairwise_filter]
  constructor <;> refine fun h => h.imp ?_
  · intro v u h a b
    refine h ?_ ?_ <;> simp only [Function.comp, Bool.and_eq_true, decide_eq_true_eq]
    · exact ⟨⟨a.2.1, a.2.2⟩, a.1⟩
    · exact ⟨⟨b.2.1, b.2.2⟩, b.1⟩
  · intro v u h a b
    simp only [Function.comp, Bool.and_eq_true, decide_eq_true_eq] at a b
    exact h ⟨a.2, a.1.1, a.1.2⟩ ⟨b.2, b.1.1, b.1.2⟩
theorem bear_fit (T : Tame put pled plan) : Bear ok put pled plan ↔ Fit ok put pled plan := by
  constructor
  · intro B
    have hc : ∀ q ∈ wishes put pled, (cntK q.1 plan : Int) = q.2 := fun q hq => by
      rcases wish_mem.mp hq with ⟨u, hu, rfl | rfl⟩ | ⟨v, hv, rfl⟩
      · by_cases he : u.1 = .e
        · show (cntK (.pg u.1) plan : Int) = u.2.1
          rw [he, cnt_pgE, T.root u hu he]
          rfl
        · show (cntK (.pg u.1) plan : Int) = u.2.1
          rw [cnt_pg he T.lo]
          exact B.seen u hu
      · show (cntK (.sh u.1) plan : Int) = u.2.2
        rw [cnt_sh]
        exact B.sheets u hu
      · show (cntK (.tk v.1) plan : Int) = v.2
        rw [cnt_tk (T.t0 v hv)]
        exact B.tick v hv
    have hall := cnt_all T hc
    rw [← B.len] at hall
    have hall2 := List.countP_eq_length.mp (Int.ofNat.inj hall)
    have hin : ∀ u ∈ plan, keyOf u ∈ (wishes put pled).map (·.1) := fun u hu => of_decide_eq_true (hall2 u hu)
    refine ⟨fun i u h => ⟨?_, fun p0 ne v hv hvu => ?_, B.ok u (List.mem_of_getElem? h)⟩, B.nd, fun q hq => by rw [hc q hq]; omega⟩
    · obtain ⟨q, hq, e⟩ := List.mem_map.mp (hin u (List.mem_of_getElem? h))
      have h1 := hc q hq
      have h2 := cnt_take h
      refine ⟨q.2, by rw [← e]; exact hq, ?_⟩
      rw [← e] at h2 ⊢
      omega
    · have hk := hin u (List.mem_of_getElem? h)
      rw [(key_pg ne (T.lo u (List.mem_of_getElem? h))).mpr ⟨rfl, p0⟩] at hk
      obtain ⟨q, hq, e⟩ := List.mem_map.mp hk
      have hput : ∃ u0 ∈ put, u0.1 = u.1 := by
        rcases wish_mem.mp hq with ⟨u0, hu, rfl | rfl⟩ | ⟨v, hv, rfl⟩
        · exact ⟨u0, hu, by injection e⟩
        · cases e
        · cases e
      obtain ⟨u0, hu0, e0⟩ := hput
      have pw := seen_pw.mp (B.seenNd u0 hu0)
      obtain ⟨j, hj, rfl⟩ := List.mem_iff_getElem.mp hv
      rw [List.length_take] at hj
      obtain ⟨hi, e3⟩ := List.getElem?_eq_some_iff.mp h
      have hjp : j < plan.length := by omega
      have e4 : (plan.take i)[j] = plan[j] := List.getElem_take
      rw [e4] at hvu
      have z := List.pairwise_iff_getElem.mp pw j i hjp hi (by omega)
      rw [e3, e0] at z
      exact z ⟨hvu.1, by rw [hvu.2]; exact p0, ne⟩ ⟨rfl, p0, ne⟩ hvu.2
  · intro F
    have hc : ∀ q ∈ wishes put pled, (cntK q.1 plan : Int) = q.2 := fun q hq => by
      have := F.zero q hq
      omega
    have hin : ∀ u ∈ plan, keyOf u ∈ (wishes put pled).map (·.1) := fun u hu => by
      obtain ⟨i, hi, rfl⟩ := List.mem_iff_getElem.mp hu
      obtain ⟨⟨w, hw, _⟩, _⟩ := F.row i _ (List.getElem?_eq_getElem hi)
      exact List.mem_map.mpr ⟨_, hw, rfl⟩
    have hall := cnt_all T hc
    rw [List.countP_eq_length.mpr fun u hu => decide_eq_true (hin u hu)] at hall
    refine ⟨F.nd, hall, fun u hu => ?_, fun u hu => ?_, fun u hu => ?_, fun u hu => ?_, fun v hv => ?_⟩
    · obtain ⟨i, hi, rfl⟩ := List.mem_iff_getElem.mp hu
      exact (F.row i _ (List.getElem?_eq_getElem hi)).2.2
    · rw [← cnt_sh]
      exact hc (.sh u.1, u.2.2) (wish_mem.mpr (.inl ⟨u, hu, .inr rfl⟩))
    · by_cases he : u.1 = .e
      · rw [he, seen_e, T.root u hu he]
        rfl
      · rw [← cnt_pg he T.lo]
        exact hc (.pg u.1, u.2.1) (wish_mem.mpr (.inl ⟨u, hu, .inl rfl⟩))
    · rw [seen_pw, List.pairwise_iff_getElem]
      intro j i hj hi lt a b z
      obtain ⟨_, h, _⟩ := F.row i _ (List.getElem?_eq_getElem hi)
      refine h b.2.1 (by rw [b.1]; exact b.2.2) plan[j] ?_ ⟨a.1.trans b.1.symm, z⟩
      have hjt : j < (plan.take i).length := by
        rw [List.length_take]
        omega
      have e4 : (plan.take i)[j] = plan[j] := List.getElem_take
      rw [← e4]
      exact List.getElem_mem hjt
    · rw [← cnt_tk (T.t0 v hv)]
      exact hc (.tk v.1, v.2) (wish_mem.mpr (.inr ⟨v, hv, rfl⟩))
end
end Lt
/-! len(set(xs)) of whole numbers, some perhaps told twice -/
namespace Lt
open PySem PySem.Spec PyProof.Rows L2
theorem met_nodup {ns : List Int} : ∀ i, i ≤ ns.length → (firstMet (fun i => ns.getD i 0) i).length = i → (ns.take i).Nodup
  | 0, _, _ => by
    rw [List.take_zero]
    exact .nil
  | i + 1, hi, h => by
    have hl := firstMet_length_le (fun i => ns.getD i 0) i
    have ha := firstMet_any (fun i => ns.getD i 0) i (ns.getD i 0)
    rw [firstMet_succ] at h
    unfold step_dedup at h
    have hx : ns[i]? = some (ns.getD i 0) := by
      rw [List.getD_eq_getElem?_getD, List.getElem?_eq_getElem (by omega)]
      rfl
    by_cases z : (firstMet (fun i => ns.getD i 0) i).any (· == ns.getD i 0) = true
    · simp only [z, if_true] at h
      omega
    · have zf := Bool.eq_false_iff.mpr z
      simp only [zf, Bool.false_eq_true, if_false, List.length_append, List.length_cons, List.length_nil] at h
      have ih := met_nodup (ns := ns) i (by omega) (by omega)
      rw [List.take_add_one, hx, List.nodup_append]
      refine ⟨ih, by simp, fun a ham b hb e => ?_⟩
      simp only [Option.toList, List.mem_cons, List.not_mem_nil, or_false] at hb
      subst e
      subst hb
      rw [zf] at ha
      have hn := List.any_eq_false.mp ha.symm
      obtain ⟨j, hj, ej⟩ := List.mem_iff_getElem.mp ham
      rw [List.length_take] at hj
      refine hn (ns.getD j 0) (List.mem_map.mpr ⟨j, List.mem_range.mpr (by omega), rfl⟩) ?_
      rw [List.getElem_take] at ej
      rw [List.getD_eq_getElem?_getD, List.getElem?_eq_getElem (by omega), Option.getD_some, ej]
      exact beq_self_eq_true _
def tLenSetD (K : PySem.W.Frag) (ta : TE) : TE := fun σ H Q => ta σ H fun x H1 => ∃ (l : Addr) (ns : List Int), x = .ref l ∧ SqL K H1 l (ns.map V.int) ∧ ns.length ≤ 4000 ∧ ∀ n : Nat, (n = ns.length ↔ ns.Nodup) → n ≤ ns.length → Q (.int n) H1
theorem pe_lenSetD {X : Cx} {a : Expr} {ta : TE} {p p2 q pos : Pos} (hg : Gl X "len") (hm : X.mg "len" = none) (hg2 : Gl X "set") (hm2 : X.mg "set" = none) (ha : PE X a ta) (hc : X.calm = true := by rfl)
    (na : starEach [a] X.env = (false, eval a X.env) :: starEach [] X.env := by rfl) : PE X (.Call (.Name "len" p) [.Call (.Name "set" p2) [a] [] q] [] pos) (tLenSetD X.K ta) := by
  refine ⟨fun pins s σ H Q I h => ?_⟩
  refine Call_ (ld_blt I hg hm boot_len ?_)
  refine PyProof.Rows.callWith_builtin1 (PyProof.Rows.args_cons ?_ rfl) rfl rfl
  refine Call_ (ld_blt I hg2 hm2 boot_set ?_)
  refine PyProof.Rows.callWith_type1 (PyProof.Rows.args_cons (thn (ha.run pins s σ H _ I h) fun v s1 ⟨x, H1, I1, r1, q1⟩ => PyProof.Rows.args_nil ?_) na) na rfl
  obtain ⟨l, ns, rfl, hq, hl, q1⟩ := q1
  cases r1
  obtain ⟨its, r, pl, hz⟩ := I1.list hq
  have hlen : its.toArray.size = ns.length := by rw [List.size_toArray, ← r.length, List.length_map]
  refine call_set_list (I1.ok.hd hc) pl.isList (by simpa using ints_of_vals r) (by rw [hlen]; unfold scanBound; omega) fun h' tk hS hk => ?_
  refine PyProof.Rows.args_nil ?_
  rw [hlen] at hS
  have hle := firstMet_length_le (fun i => ns.getD i 0) ns.length
  obtain ⟨o, es, ep, t, ho, hex, hd, _, _, _, hf, hn⟩ := hS
  have I2 : Inv X pins σ H1 { s1 with heap := h', toks := tk } := I1.kept fun b o e => hk b o (Heap.lt_size e) e
  refine call_len_set ho hex hd hf (by rw [hn] <;> omega) ⟨.int (firstMet (fun i => ns.getD i 0) ns.length).length, H1, I2.tok _, ⟨_, by rw [hn]⟩, q1 _ ⟨fun z => ?_, fun z => ?_⟩ hle⟩
  · have := met_nodup ns.length (Nat.le_refl _) z
    rwa [List.take_length] at this
  · rw [RZ.firstMet_nodup z ns.length (Nat.le_refl _), List.take_length]
section
variable {K : PySem.W.Frag} {L : List Asn} {H : Hp} {Q : VK} {ns : List Int} {σ : L2.St}
theorem k_lenSetD {ta : TE} (h : ta σ H fun x H1 => ∃ (l : Addr) (ns : List Int), x = .ref l ∧ SqL K H1 l (ns.map V.int) ∧ ns.length ≤ 4000 ∧ ∀ n : Nat, (n = ns.length ↔ ns.Nodup) → n ≤ ns.length → Q (.int n) H1) : tLenSetD K ta σ H Q := h
theorem s_lenSetD {l : Addr} {B : Nat → Prop} (hS : Hs L H) (k : HasL L l (ns.map PyData.int)) (hl : ns.length ≤ 4000) (h : ∀ n : Nat, (n = ns.length ↔ ns.Nodup) → n ≤ ns.length → B n) : ∃ (l' : Addr) (ns : List Int), V.ref l = .ref l' ∧ SqL K H l' (ns.map V.int) ∧ ns.length ≤ 4000 ∧ ∀ n : Nat, (n = ns.length ↔ ns.Nodup) → n ≤ ns.length → B n :=
  ⟨l, ns, rfl, SqL.of (k.ints hS), hl, h⟩
end
end Lt
/-! dicts with tuple keys by pieces: walked in a comprehension, d[k], d[k] -= n, d.get(k, z); t in a list -/
namespace Lt
open PySem PySem.Spec PyProof.Rows L2
def isTF (p : Addr) (od : Obj) (kvs : List (List Key × V)) (ds : List (List Key × PyData)) : Asn := fun H => H p = some (.frz od (.dT kvs)) ∧ KvAll H kvs ds
instance {p : Addr} {od : Obj} {kvs : List (List Key × V)} {ds : List (List Key × PyData)} : Mono (isTF p od kvs ds) := ⟨fun s ⟨h1, h2⟩ => ⟨s _ _ h1, h2.sub s⟩⟩
section
variable {K : PySem.W.Frag} {L R L0 R0 : List Asn} {H : Hp} {Q : VK} {σ : L2.St} {p d : Addr} {od : Obj} {us : List (List Key × V)} {ds : List (List Key × PyData)} {key : List Key} {u : PyData}
theorem Hs.lockT (h : Hs (isDV p us ds :: L) H) : Hs (isTF p od us ds :: L) (upd H p (.frz od (.dT us))) := by
  have hp : H p = some (.dT us) := h.hd.1
  have h2 := h.hd.2
  have h3 := (h.weak (B := cell p (.dT us)) fun _ a => a.1).put (o' := .frz od (.dT us)) fun xs z => by cases z
  refine h3.pack fun H1 s1 e1 tu => ⟨e1, ?_⟩
  refine h2.map fun a xs e => tu a xs ?_
  rw [upd_ne (ne_of e hp fun z => by cases z)]
  exact e
theorem Hs.unlockT (h : Hs (isTF p od us ds :: L) H) : H p = some (.frz od (.dT us)) ∧ Hs (isT p ds :: L) (upd H p (.dT us)) := by
  have hp : H p = some (.frz od (.dT us)) := h.hd.1
  have h2 := h.hd.2
  have h3 := (h.weak (B := cell p (.frz od (.dT us))) fun _ a => a.1).put (o' := .dT us) fun xs z => by cases z
  refine ⟨hp, Hs.closeD (kvs := us) (Hs.packDV (κ := List Key) h3 (h2.map fun a xs e => ?_))⟩
  rw [upd_ne (ne_of e hp fun z => by cases z)]
  exact e
theorem dv_key {q : Addr} {key : List Key} (h : H q = some (.tup (key.map kV))) : Dv H (.ref q) (dKey key) := .tup h (key_dvs key)
theorem s_lcT {g : TG} {tt : TT} {te td : TE} {vs : List Nat} (P : Nat → List PyData → List Asn → Prop) (hS : Hs L0 H) (k : Pick L0 (isT d ds) R0) (ht : ∀ od us H' B, Hs (isTF d od us ds :: R0) H' → B (V.ref d) H' → td σ H' B) (h0 : P 0 [] R0)
    (hs : ∀ od us A i key q acc H' L, (ds.map (·.1))[i]? = some key → P i acc L → acc.length ≤ i → Hs (isL A acc :: isTF d od us ds :: dv (.ref q) (dKey key) :: L) H' → g (.ref q) (wipe σ vs) H' fun σ2 H2 => wipe σ2 vs = wipe σ vs ∧ tt σ2 H2 fun b H3 =>
      if b = true then te σ2 H3 fun y H4 => ∃ acc, H4 A = some (.lst acc) ∧ acc.length < sizeLine ∧ LcS [isTF d od us ds] P A (i + 1) (upd H4 A (.lst (acc ++ [y]))) else LcS [isTF d od us ds] P A (i + 1) H3)
    (h : ∀ A acc H' L, P ds.length acc L → acc.length ≤ ds.length → Hs (isL A acc :: isT d ds :: L) H' → Q (.ref A) H') : tLockE (tLc (iKeys td) g tt te vs) σ H Q := by
  obtain ⟨us, h1⟩ := (k.go hS).openD
  have hk := h1.hd.2
  have hlen : us.length = ds.length := hk.length
  refine ⟨d, .dT us, h1.hd.1, True.intro, fun od => ?_⟩
  have h2 := h1.lockT (od := od)
  refine ht od us _ _ h2 ⟨d, od, rfl, .inr ⟨us, upd_same, fun A nA => lc_it (Qd := fun H' => H' d = some (.frz od (.dT us)) ∧ Q (.ref A) (upd H' d (.dT us))) (walk_keysT (d := d) (o := od) (kvs := us)) (LcS [isTF d od us ds] P A) ⟨R0, [], h0, Nat.le_refl _, h2.newL nA .nil⟩ (fun i H' _ hp => ?_) (fun i x H1 H' hi hp hy => ?_) fun H' hp => ?_⟩⟩
  · obtain ⟨L, acc, _, _, z⟩ := hp
    exact z.tl.hd.1
  · obtain ⟨L, acc, hP, hal, z⟩ := hp
    obtain ⟨rfl, key, v, q, hx, rfl, hq⟩ := hy
    have z2 : Hs (dv (.ref q) (dKey key) :: isL A acc :: isTF d od us ds :: L) H' := z.add (dv_key hq)
    exact hs od us A i key q acc _ L (by rw [← hk.keys, List.getElem?_map, hx]; rfl) hP hal (Sel.go (.cons (.there .here) (.cons (.there .here) .refl)) z2)
  · obtain ⟨L, acc, hP, hal, z⟩ := hp
    rw [hlen] at hP hal
    obtain ⟨e, z2⟩ := z.swap.unlockT
    exact ⟨e, h A acc _ L hP hal z2.swap⟩
theorem s_dgetTF {b : Addr} {B : V → Prop} (hS : Hs L H) (k : Pick L (isTF p od us ds) R) (hk : Dv H (.ref b) (dKey key)) (e : valG ds key = some u) (h : Hold L H u fun v _ => B v) : ∃ a v, V.ref p = .ref a ∧ DGet H a (.ref b) (some v) ∧ B v := by
  obtain ⟨h1, h2⟩ := hS.at_ k
  obtain ⟨v, h3, h4⟩ := h2.get e
  exact ⟨p, v, rfl, .inr ⟨us, key, b, .inr ⟨od, h1⟩, rfl, key_at hk, h3.symm⟩, Hold.go (G := fun v _ => B v) hS h4 h⟩
theorem s_dgetT {b : Addr} {B : Addr → V → Prop} (hS : Hs L H) (k : Pick L (isT p ds) R) (hk : Dv H (.ref b) (dKey key)) (e : valG ds key = some u) (h : Hold L H u fun v _ => B p v) : ∃ a v, V.ref p = .ref a ∧ DGet H a (.ref b) (some v) ∧ B a v := by
  obtain ⟨us, h1, h2⟩ := hS.at_ k
  obtain ⟨v, h3, h4⟩ := h2.get e
  exact ⟨p, v, rfl, .inr ⟨us, key, b, .inl h1, rfl, key_at hk, h3.symm⟩, Hold.go (G := fun v _ => B p v) hS h4 h⟩
theorem k_dget2 {td ty tx : TE} (h : td σ H fun x H1 => ∃ a, x = .ref a ∧ IsD H1 a ∧ ty σ H1 fun y H2 => tx σ H2 fun z H3 => ∃ o, DGet H3 a y o ∧ Q (o.getD z) H3) : tDGet2 td ty tx σ H Q := h
theorem k_daug {D : Ends} {td ty tv : TE} {rd : V → V → Hp → VK → Prop} (h : td σ H fun x H1 => ty σ H1 fun y H2 => ∃ a v, x = .ref a ∧ DGet H2 a y (some v) ∧
  tv σ H2 fun y2 H3 => rd v y2 H3 fun z H4 => ∃ H5, DPut H4 a y z H5 ∧ D.nx σ H5) : sDAug td ty tv rd D σ H := h
theorem s_getOr {b : Addr} {G : Option V → Prop} (hS : Hs L H) (k : Pick L (isT p ds) R) (hk : Dv H (.ref b) (dKey key)) (h1 : ∀ u, valG ds key = some u → Hold L H u fun v _ => G (some v)) (h2 : valG ds key = none → G none) : ∃ o, DGet H p (.ref b) o ∧ G o := by
  obtain ⟨us, g1, g2⟩ := hS.at_ k
  cases e : valG ds key with
  | none => exact ⟨none, .inr ⟨us, key, b, .inl g1, rfl, key_at hk, (g2.none e).symm⟩, h2 e⟩
  | some u =>
    obtain ⟨v, h3, h4⟩ := g2.get e
    exact ⟨some v, .inr ⟨us, key, b, .inl g1, rfl, key_at hk, h3.symm⟩, Hold.go (G := fun v _ => G (some v)) hS h4 (h1 u e)⟩
theorem s_putT2 {b : Addr} {x : V} {N : Hp → Prop} (hS : Hs L H) (k : Pick L (isT p ds) R) (hk : Dv H (.ref b) (dKey key)) (hv : Dv H x u) (hl : ds.length ≤ 1000) (h : ∀ H', Hs (isT p (putG ds key u) :: R) H' → N H') : ∃ H5, DPut H p (.ref b) x H5 ∧ N H5 := by
  obtain ⟨a, H4, e, h1, h2⟩ := s_putT hS k hk hv hl h
  cases e
  exact ⟨H4, h1, h2⟩
theorem s_inD {α : Type} {f : α → PyData} {n : Nat} (S : Shp α f n) (hn : n + 1 ≤ 64) {y : V} {xs : List α} {w : α} (hS : Hs L H) (hy : Dv H y (f w)) (k : HasL L p (xs.map f)) (h : ∀ b, (b = true ↔ w ∈ xs) → Q (.bl b) H) : rInD K y (.ref p) H Q := by
  refine ⟨f w, xs.map f, hy.dp, k.dp hS, shaped_of (S.ti w) (Nat.le_trans (S.dp w) (by omega)), shaped_of ((shp_list S).ti xs) (Nat.le_trans ((shp_list S).dp xs) hn), ?_⟩
  have e : ((xs.map f).any fun z => PyData.eqv z (f w)) = true ↔ w ∈ xs := by
    classical
    rw [List.any_map, List.any_eq_true]
    constructor
    · rintro ⟨z, hz, e⟩
      by_cases h : z = w
      · exact h ▸ hz
      · simp only [Function.comp] at e
        rw [eqv_false (S.ti z) (S.ti w) fun y => h (S.inj _ _ y)] at e
        cases e
    · exact fun hz => ⟨w, hz, eqv_true (S.ti w)⟩
  exact h _ e
end
/-! the plain side: values less what is counted -/
section
variable {κ : Type} [DecidableEq κ] {ξ : Type} [DecidableEq ξ] {g : ξ → κ} {v v' : ξ × Int → PyData}
theorem valG_map2 (hg : ∀ a b, g a = g b → a = b) (k : ξ) : ∀ qs : List (ξ × Int), valG (qs.map fun q => (g q.1, v q)) (g k) = (valG qs k).map fun w => v (k, w)
  | [] => rfl
  | q :: r => by
    rw [List.map_cons]
    by_cases e : q.1 = k
    · rw [valG_pos (p := q) e, valG_pos (p := (g q.1, v q)) (congrArg g e)]
      obtain ⟨a, b⟩ := q
      cases e
      rfl
    · rw [valG_neg (p := q) e, valG_neg (p := (g q.1, v q)) (fun z => e (hg _ _ z))]
      exact valG_map2 hg k r
theorem putG_map2 (hg : ∀ a b, g a = g b → a = b) {k : ξ} {w : Int} {qs : List (ξ × Int)} {u : PyData} (nd : (qs.map (·.1)).Nodup) (hm : (k, w) ∈ qs) (hu : v' (k, w) = u) (hv : ∀ q ∈ qs, q.1 ≠ k → v' q = v q) : putG (qs.map fun q => (g q.1, v q)) (g k) u = qs.map fun q => (g q.1, v' q) := by
  have ha : ((qs.map fun q => (g q.1, v q)).any fun kv => decide (kv.1 = g k)) = true := List.any_eq_true.mpr ⟨(g k, v (k, w)), List.mem_map.mpr ⟨(k, w), hm, rfl⟩, by simp⟩
  unfold putG
  rw [if_pos ha, List.map_map]
  refine List.map_congr_left fun q hq => ?_
  by_cases e : q.1 = k
  · simp only [Function.comp, e, if_true]
    have e1 := valG_nd nd hm
    have e2 := valG_nd nd (show (q.1, q.2) ∈ qs from hq)
    rw [e, e1] at e2
    have e3 : q = (k, w) := by
      obtain ⟨a, b⟩ := q
      cases e
      injection e2 with e2
      rw [e2]
    rw [e3, hu]
  · simp only [Function.comp]
    rw [if_neg fun z => e (hg _ _ z), hv q hq e]
end
end Lt
/-! tactics: rd a step, go steps, hp an object of the heap -/
local macro_rules | `(tactic| walk_at "ne") => `(tactic| first
  | assumption
  | (apply Ne.symm; assumption)
  | exact L2.ne_of_none (by assumption) (by assumption)
  | exact Ne.symm (L2.ne_of_none (by assumption) (by assumption)))
local macro_rules | `(tactic| walk_at "hp") => `(tactic| first
  | assumption
  | exact L2.upd_same
  | exact L2.SqL.of L2.upd_same
  | exact L2.SqT.of L2.upd_same
  | exact L2.SqL.of (by assumption)
  | exact L2.SqT.of (by assumption)
  | exact Lt.ne_upd (by walk_at "ne") (by assumption)
  | exact Lt.ne_upd (by walk_at "ne") L2.upd_same)
local macro_rules | `(tactic| walk_at "ic") => `(tactic| first
  | assumption
  | exact ⟨by decide, by decide, by decide⟩
  | exact ⟨by decide, by decide⟩
  | exact Or.inl ⟨by decide, by decide⟩
  | exact Or.inr ⟨by decide, by decide⟩
  | exact Or.inl ⟨by omega, by omega⟩
  | exact Or.inr ⟨by omega, by omega⟩
  | (show (0 : Int) < _; first | decide | omega)
  | exact ⟨by omega, by omega⟩)
local macro_rules | `(tactic| walk_at "sz") => `(tactic| exact Lt.sz (by first | decide | (simp only [List.length_cons, List.length_nil]; decide)))
local macro_rules | `(tactic| walk_at "ty") => `(tactic| first
  | exact L2.TyX.base (L2.TyOf.int _)
  | exact L2.TyX.base (L2.TyOf.bl _)
  | exact L2.TyX.base (L2.TyOf.str _)
  | exact L2.TyX.base L2.TyOf.non
  | exact L2.TyX.base (L2.TyOf.lst (by walk_at "hp"))
  | exact L2.TyX.base (L2.TyOf.tup (by walk_at "hp"))
  | exact L2.TyX.base (L2.TyOf.dK (by walk_at "hp"))
  | exact L2.TyX.base (L2.TyOf.dT (by walk_at "hp")))
local macro_rules | `(tactic| walk_at "isi") => `(tactic| first
  | exact Lt.isi_ii | exact Lt.isi_ib | exact Lt.isi_bi | exact Lt.isi_bb | exact Lt.isi_is | exact Lt.isi_si | exact Lt.isi_ss | exact Lt.isi_ll | exact Lt.isi_tt | exact Lt.isi_lt | exact Lt.isi_tl | exact Lt.isi_ni | exact Lt.isi_dd)
local macro_rules | `(tactic| walk_at "om") => `(tactic| first
  | omega
  | (simp only [List.length_append, List.length_cons, List.length_nil, List.length_map, List.length_replicate] at *; omega))
local macro_rules | `(tactic| walk_at "rd") => `(tactic| first
  | (with_reducible refine Lt.k_seq ?_)
  | (with_reducible refine Lt.k_next ?_)
  | (with_reducible refine Lt.k_c ?_)
  | (with_reducible refine Lt.k_op ?_)
  | (with_reducible refine Lt.k_I0 ?_)
  | (with_reducible refine Lt.k_ifS ?_)
  | (with_reducible refine Lt.k_tst ?_)
  | (with_reducible refine Lt.k_tB ?_)
  | (with_reducible refine Lt.k_asg ?_)
  | (with_reducible refine Lt.k_gName ?_)
  | (with_reducible refine Lt.k_gSub ?_)
  | (with_reducible refine Lt.k_cb ?_)
  | (with_reducible refine Lt.k_cons ?_)
  | (with_reducible refine Lt.k_nil ?_)
  | (with_reducible refine Lt.k_call ?_)
  | (with_reducible refine Lt.k_ret ?_)
  | (with_reducible refine Lt.k_drop ?_)
  | (with_reducible refine Lt.k_lst ?_)
  | (with_reducible refine Lt.k_tup ?_)
  | (with_reducible refine Lt.k_and ?_)
  | (with_reducible refine Lt.k_or ?_)
  | (with_reducible refine Lt.k_not ?_)
  | (with_reducible refine Lt.k_andV ?_)
  | (with_reducible refine Lt.k_orV ?_)
  | (with_reducible refine Lt.k_notV ?_)
  | (with_reducible refine Lt.k_ifE ?_)
  | (with_reducible refine Lt.k_augS ?_)
  | (with_reducible refine Lt.k_ipI ?_)
  | (with_reducible refine Lt.k_un ?_)
  | (with_reducible refine Lt.k_U ?_)
  | (with_reducible refine Lt.k_sl ?_)
  | (with_reducible refine Lt.k_noPart ?_)
  | (with_reducible refine Lt.k_part ?_)
  | (with_reducible refine Lt.k_for ?_)
  | (with_reducible refine Lt.k_iL ?_)
  | (with_reducible refine Lt.k_iT ?_)
  | (with_reducible refine Lt.k_iR1 ?_)
  | (with_reducible refine Lt.k_iR2 ?_)
  | (with_reducible refine Lt.k_lc ?_)
  | (with_reducible refine Lt.k_yes ?_)
  | (with_reducible refine Lt.k_bm ?_)
  | (with_reducible refine Lt.k_bm0 ?_)
  | ((with_reducible refine' Lt.k_tyL ?h1 ?_); (case h1 => walk_at "hp"))
  | ((with_reducible refine' Lt.k_app ?h1 ?h2 ?_); (case h1 => walk_at "hp"); (case h2 => walk_at "om"))
  | (with_reducible refine Lt.k_lstRg ?_)
  | (with_reducible refine Lt.k_rg1 ?_)
  | (with_reducible refine Lt.k_rg2 ?_)
  | ((with_reducible refine' Lt.k_tup1 ?h1 ?h2 ?_); (case h1 => walk_at "hp"); (case h2 => exact rfl))
  | (with_reducible refine Lt.k_rfl ?_)
  | (with_reducible refine Lt.k_ite0 ?_)
  | (with_reducible refine Lt.k_ite1 ?_)
  | (with_reducible refine Lt.k_iteN1 ?_)
  | (with_reducible refine Lt.k_iteN0 ?_)
  | (with_reducible refine Lt.k_gCons ?_)
  | (with_reducible refine Lt.k_gNil ?_)
  | ((with_reducible refine' Lt.k_var ?h1 ?_); (case h1 => exact rfl))
  | ((with_reducible refine' Lt.k_I ?hc ?_); (case hc => walk_at "ic"))
  | ((with_reducible refine' Lt.k_isi ?ht ?hk ?_); (case ht => walk_at "ty"); (case hk => walk_at "isi"))
  | (with_reducible refine Lt.k_chain ?_)
  | (with_reducible refine Lt.k_callN ?_)
  | ((with_reducible refine' Lt.k_aug ?h1 ?_); (case h1 => exact rfl))
  | ((with_reducible refine' Lt.k_eqV ?h1 ?_); (case h1 => exact rfl))
  | ((with_reducible refine' Lt.k_neV ?h1 ?_); (case h1 => exact rfl))
  | ((with_reducible refine' Lt.k_ixL ?h1 ?h2 ?_); (case h1 => walk_at "hp"); (case h2 => first | exact rfl | exact L2.atI_last _ _))
  | ((with_reducible refine' Lt.k_ixT ?h1 ?h2 ?_); (case h1 => walk_at "hp"); (case h2 => exact rfl))
  | ((with_reducible refine' Lt.k_getL ?h1 ?h0 ?h2 ?_); (case h1 => walk_at "hp"); (case h0 => decide); (case h2 => exact rfl))
  | ((with_reducible refine' Lt.k_setL ?h1 ?h2 ?_); (case h1 => walk_at "hp"); (case h2 => first | exact rfl | exact Lt.ixN_last _ _))
  | ((with_reducible refine' Lt.k_wipe ?h1 ?_); (case h1 => exact rfl))
  | ((with_reducible refine' Lt.k_lenL ?h1 ?_); (case h1 => walk_at "hp"))
  | ((with_reducible refine' Lt.k_lenT ?h1 ?_); (case h1 => walk_at "hp"))
  | ((with_reducible refine' ⟨_, _, rfl, Or.inl ?h1, ?_⟩); (case h1 => walk_at "hp"))
  | ((with_reducible refine' ⟨_, _, rfl, Or.inr ?h1, ?_⟩); (case h1 => walk_at "hp"))
  | (with_reducible refine ⟨_, rfl, ?_⟩)
  | (with_reducible refine ⟨_, _, rfl, rfl, ?_⟩)
  | (with_reducible refine Lt.k_iteE ?_)
  | (with_reducible refine Lt.k_iteNE ?_)
  | ((with_reducible refine' Lt.k_iteT ?h1 ?_); (case h1 => first | decide | (simp; done)))
  | ((with_reducible refine' Lt.k_iteF ?h1 ?_); (case h1 => first | decide | (simp; done)))
  | ((with_reducible refine' Lt.k_iteD1 ?h1 ?_); (case h1 => walk_at "om"))
  | ((with_reducible refine' Lt.k_iteD2 ?h1 ?_); (case h1 => walk_at "om"))
  | ((with_reducible refine' Lt.k_iteNN ?h1 ?_); (case h1 => (intro z; cases z)))
  | ((with_reducible refine' Lt.k_iteD2 ?h1 ?_); (case h1 => (intro z; cases z)))
  | refine ⟨rfl, rfl, ?_⟩)
local macro_rules | `(tactic| walk_at "go") => `(tactic| ((repeat walk_at "rd"); try dsimp only))
local macro_rules | `(tactic| walk_at "gn") => `(tactic| first
  | (with_reducible refine Lt.gn0 ?_)
  | (with_reducible refine Lt.gn1 ?_)
  | (with_reducible refine Lt.gn2 ?_)
  | (with_reducible refine Lt.gn3 ?_)
  | (with_reducible refine Lt.gn4 ?_)
  | (with_reducible refine Lt.gn5 ?_)
  | (with_reducible refine Lt.gn6 ?_)
  | (with_reducible refine Lt.gn7 ?_)
  | (with_reducible refine Lt.gn8 ?_)
  | (with_reducible refine Lt.gn9 ?_)
  | (with_reducible refine Lt.gn10 ?_)
  | (with_reducible refine Lt.gn11 ?_)
  | (with_reducible refine Lt.gn12 ?_)
  | (with_reducible refine Lt.gn13 ?_)
  | (with_reducible refine Lt.gn14 ?_)
  | (with_reducible refine Lt.gn15 ?_)
  | (with_reducible refine Lt.gn16 ?_)
  | (with_reducible refine Lt.gn17 ?_)
  | (with_reducible refine Lt.gn18 ?_)
  | (with_reducible refine Lt.gn19 ?_)
  | (with_reducible refine Lt.gn20 ?_)
  | (with_reducible refine Lt.gn21 ?_)
  | (with_reducible refine Lt.gn22 ?_)
  | (with_reducible refine Lt.gn23 ?_)
  | (with_reducible refine Lt.gn24 ?_)
  | (with_reducible refine Lt.gn25 ?_)
  | (with_reducible refine Lt.gn26 ?_)
  | (with_reducible refine Lt.gn27 ?_)
  | (with_reducible refine Lt.gn28 ?_)
  | (with_reducible refine Lt.gn29 ?_)
  | (with_reducible refine Lt.gn30 ?_)
  | (with_reducible refine Lt.gn31 ?_)
  | (with_reducible refine Lt.gn32 ?_)
  | (with_reducible refine Lt.gn33 ?_)
  | (with_reducible refine Lt.gn34 ?_)
  | (with_reducible refine Lt.gn35 ?_))
local macro_rules | `(tactic| walk_at "ag") => `(tactic| first
  | (with_reducible refine Lt.ag0 ?_)
  | (with_reducible refine Lt.ag1 ?_)
  | (with_reducible refine Lt.ag2 ?_)
  | (with_reducible refine Lt.ag3 ?_)
  | (with_reducible refine Lt.ag4 ?_)
  | (with_reducible refine Lt.ag5 ?_)
  | (with_reducible refine Lt.ag6 ?_)
  | (with_reducible refine Lt.ag7 ?_)
  | (with_reducible refine Lt.ag8 ?_)
  | (with_reducible refine Lt.ag9 ?_)
  | (with_reducible refine Lt.ag10 ?_)
  | (with_reducible refine Lt.ag11 ?_)
  | (with_reducible refine Lt.ag12 ?_)
  | (with_reducible refine Lt.ag13 ?_)
  | (with_reducible refine Lt.ag14 ?_)
  | (with_reducible refine Lt.ag15 ?_)
  | (with_reducible refine Lt.ag16 ?_)
  | (with_reducible refine Lt.ag17 ?_)
  | (with_reducible refine Lt.ag18 ?_)
  | (with_reducible refine Lt.ag19 ?_)
  | (with_reducible refine Lt.ag20 ?_)
  | (with_reducible refine Lt.ag21 ?_)
  | (with_reducible refine Lt.ag22 ?_)
  | (with_reducible refine Lt.ag23 ?_)
  | (with_reducible refine Lt.ag24 ?_)
  | (with_reducible refine Lt.ag25 ?_)
  | (with_reducible refine Lt.ag26 ?_)
  | (with_reducible refine Lt.ag27 ?_)
  | (with_reducible refine Lt.ag28 ?_)
  | (with_reducible refine Lt.ag29 ?_)
  | (with_reducible refine Lt.ag30 ?_)
  | (with_reducible refine Lt.ag31 ?_)
  | (with_reducible refine Lt.ag32 ?_)
  | (with_reducible refine Lt.ag33 ?_)
  | (with_reducible refine Lt.ag34 ?_)
  | (with_reducible refine Lt.ag35 ?_))
local macro_rules | `(tactic| walk_at "rd0") => `(tactic| first
  | (with_reducible refine Lt.k_seq ?_)
  | (with_reducible refine Lt.k_next ?_)
  | (with_reducible refine Lt.k_c ?_)
  | (with_reducible refine Lt.k_op ?_)
  | (with_reducible refine Lt.k_I0 ?_)
  | (with_reducible refine Lt.k_ifS ?_)
  | (with_reducible refine Lt.k_tst ?_)
  | (with_reducible refine Lt.k_tB ?_)
  | (with_reducible refine Lt.k_asg ?_)
  | ((with_reducible refine Lt.isGN ?_); walk_at "gn")
  | (with_reducible refine Lt.k_gName ?_)
  | (with_reducible refine Lt.k_gSub ?_)
  | (with_reducible refine Lt.k_cb ?_)
  | (with_reducible refine Lt.k_cons ?_)
  | (with_reducible refine Lt.k_nil ?_)
  | (with_reducible refine Lt.k_call ?_)
  | (with_reducible refine Lt.k_ret ?_)
  | (with_reducible refine Lt.k_drop ?_)
  | (with_reducible refine Lt.k_and ?_)
  | (with_reducible refine Lt.k_or ?_)
  | (with_reducible refine Lt.k_not ?_)
  | (with_reducible refine Lt.k_andV ?_)
  | (with_reducible refine Lt.k_orV ?_)
  | (with_reducible refine Lt.k_notV ?_)
  | (with_reducible refine Lt.k_ifE ?_)
  | (with_reducible refine Lt.k_augS ?_)
  | (with_reducible refine Lt.k_ipI ?_)
  | (with_reducible refine Lt.k_un ?_)
  | (with_reducible refine Lt.k_U ?_)
  | (with_reducible refine Lt.k_sl ?_)
  | (with_reducible refine Lt.k_noPart ?_)
  | (with_reducible refine Lt.k_part ?_)
  | (with_reducible refine Lt.k_for ?_)
  | (with_reducible refine Lt.k_iL ?_)
  | (with_reducible refine Lt.k_iT ?_)
  | (with_reducible refine Lt.k_iR1 ?_)
  | (with_reducible refine Lt.k_iR2 ?_)
  | (with_reducible refine Lt.k_lc ?_)
  | (with_reducible refine Lt.k_yes ?_)
  | (with_reducible refine Lt.k_bm ?_)
  | (with_reducible refine Lt.k_bm0 ?_)
  | (with_reducible refine Lt.k_rg1 ?_)
  | (with_reducible refine Lt.k_rg2 ?_)
  | (with_reducible refine Lt.k_rfl ?_)
  | (with_reducible refine Lt.k_gCons ?_)
  | (with_reducible refine Lt.k_gNil ?_)
  | ((with_reducible refine' Lt.k_var ?h1 ?_); (case h1 => exact rfl))
  | ((with_reducible refine' Lt.k_I ?hc ?_); (case hc => walk_at "ic"))
  | ((with_reducible refine' Lt.k_isi ?ht ?hk ?_); (case ht => walk_at "ty"); (case hk => walk_at "isi"))
  | (with_reducible refine Lt.k_chain ?_)
  | (with_reducible refine Lt.k_callN ?_)
  | ((with_reducible refine Lt.isAG ?_); walk_at "ag")
  | ((with_reducible refine' Lt.k_aug ?h1 ?_); (case h1 => exact rfl))
  | ((with_reducible refine' Lt.k_eqV ?h1 ?_); (case h1 => exact rfl))
  | ((with_reducible refine' Lt.k_neV ?h1 ?_); (case h1 => exact rfl))
  | ((with_reducible refine' Lt.k_wipe ?h1 ?_); (case h1 => exact rfl)))
local macro_rules | `(tactic| walk_at "rdz") => `(tactic| first
  | (with_reducible refine Lt.k_ite0 ?_)
  | (with_reducible refine Lt.k_ite1 ?_)
  | (with_reducible refine Lt.k_iteN1 ?_)
  | (with_reducible refine Lt.k_iteN0 ?_)
  | (with_reducible refine ⟨_, rfl, ?_⟩)
  | (with_reducible refine ⟨_, _, rfl, rfl, ?_⟩)
  | (with_reducible refine Lt.k_iteE ?_)
  | (with_reducible refine Lt.k_iteNE ?_)
  | ((with_reducible refine' Lt.k_iteT ?h1 ?_); (case h1 => first | decide | (simp; done)))
  | ((with_reducible refine' Lt.k_iteF ?h1 ?_); (case h1 => first | decide | (simp; done)))
  | ((with_reducible refine' Lt.k_iteD1 ?h1 ?_); (case h1 => walk_at "om"))
  | ((with_reducible refine' Lt.k_iteD2 ?h1 ?_); (case h1 => walk_at "om"))
  | ((with_reducible refine' Lt.k_iteNN ?h1 ?_); (case h1 => (intro z; cases z)))
  | ((with_reducible refine' Lt.k_iteD2 ?h1 ?_); (case h1 => (intro z; cases z)))
  | refine ⟨rfl, rfl, ?_⟩)
local macro_rules | `(tactic| walk_at "pk") => `(tactic| first
  | (with_reducible exact Lt.Pick.here)
  | (with_reducible exact Lt.Pick.there Lt.Pick.here)
  | (with_reducible exact Lt.Pick.there (Lt.Pick.there Lt.Pick.here))
  | (with_reducible exact Lt.Pick.there (Lt.Pick.there (Lt.Pick.there Lt.Pick.here)))
  | (with_reducible exact Lt.Pick.there (Lt.Pick.there (Lt.Pick.there (Lt.Pick.there Lt.Pick.here))))
  | (with_reducible exact Lt.Pick.there (Lt.Pick.there (Lt.Pick.there (Lt.Pick.there (Lt.Pick.there Lt.Pick.here)))))
  | (with_reducible exact Lt.Pick.there (Lt.Pick.there (Lt.Pick.there (Lt.Pick.there (Lt.Pick.there (Lt.Pick.there Lt.Pick.here))))))
  | (with_reducible exact Lt.Pick.there (Lt.Pick.there (Lt.Pick.there (Lt.Pick.there (Lt.Pick.there (Lt.Pick.there (Lt.Pick.there Lt.Pick.here)))))))
  | (with_reducible exact Lt.Pick.there (Lt.Pick.there (Lt.Pick.there (Lt.Pick.there (Lt.Pick.there (Lt.Pick.there (Lt.Pick.there (Lt.Pick.there Lt.Pick.here))))))))
  | (with_reducible exact Lt.Pick.there (Lt.Pick.there (Lt.Pick.there (Lt.Pick.there (Lt.Pick.there (Lt.Pick.there (Lt.Pick.there (Lt.Pick.there (Lt.Pick.there Lt.Pick.here)))))))))
  | (with_reducible exact Lt.Pick.there (Lt.Pick.there (Lt.Pick.there (Lt.Pick.there (Lt.Pick.there (Lt.Pick.there (Lt.Pick.there (Lt.Pick.there (Lt.Pick.there (Lt.Pick.there Lt.Pick.here))))))))))
  | (with_reducible exact Lt.Pick.there (Lt.Pick.there (Lt.Pick.there (Lt.Pick.there (Lt.Pick.there (Lt.Pick.there (Lt.Pick.there (Lt.Pick.there (Lt.Pick.there (Lt.Pick.there (Lt.Pick.there Lt.Pick.here)))))))))))
  | (with_reducible exact Lt.Pick.there (Lt.Pick.there (Lt.Pick.there (Lt.Pick.there (Lt.Pick.there (Lt.Pick.there (Lt.Pick.there (Lt.Pick.there (Lt.Pick.there (Lt.Pick.there (Lt.Pick.there (Lt.Pick.there Lt.Pick.here))))))))))))
  | (with_reducible exact Lt.Pick.there (Lt.Pick.there (Lt.Pick.there (Lt.Pick.there (Lt.Pick.there (Lt.Pick.there (Lt.Pick.there (Lt.Pick.there (Lt.Pick.there (Lt.Pick.there (Lt.Pick.there (Lt.Pick.there (Lt.Pick.there Lt.Pick.here)))))))))))))
  | (with_reducible exact Lt.Pick.there (Lt.Pick.there (Lt.Pick.there (Lt.Pick.there (Lt.Pick.there (Lt.Pick.there (Lt.Pick.there (Lt.Pick.there (Lt.Pick.there (Lt.Pick.there (Lt.Pick.there (Lt.Pick.there (Lt.Pick.there (Lt.Pick.there Lt.Pick.here))))))))))))))
  | (with_reducible exact Lt.Pick.there (Lt.Pick.there (Lt.Pick.there (Lt.Pick.there (Lt.Pick.there (Lt.Pick.there (Lt.Pick.there (Lt.Pick.there (Lt.Pick.there (Lt.Pick.there (Lt.Pick.there (Lt.Pick.there (Lt.Pick.there (Lt.Pick.there (Lt.Pick.there Lt.Pick.here)))))))))))))))
  | (with_reducible exact Lt.Pick.there (Lt.Pick.there (Lt.Pick.there (Lt.Pick.there (Lt.Pick.there (Lt.Pick.there (Lt.Pick.there (Lt.Pick.there (Lt.Pick.there (Lt.Pick.there (Lt.Pick.there (Lt.Pick.there (Lt.Pick.there (Lt.Pick.there (Lt.Pick.there (Lt.Pick.there Lt.Pick.here))))))))))))))))
  | (with_reducible exact Lt.Pick.there (Lt.Pick.there (Lt.Pick.there (Lt.Pick.there (Lt.Pick.there (Lt.Pick.there (Lt.Pick.there (Lt.Pick.there (Lt.Pick.there (Lt.Pick.there (Lt.Pick.there (Lt.Pick.there (Lt.Pick.there (Lt.Pick.there (Lt.Pick.there (Lt.Pick.there (Lt.Pick.there Lt.Pick.here)))))))))))))))))
  | (with_reducible exact Lt.Pick.there (Lt.Pick.there (Lt.Pick.there (Lt.Pick.there (Lt.Pick.there (Lt.Pick.there (Lt.Pick.there (Lt.Pick.there (Lt.Pick.there (Lt.Pick.there (Lt.Pick.there (Lt.Pick.there (Lt.Pick.there (Lt.Pick.there (Lt.Pick.there (Lt.Pick.there (Lt.Pick.there (Lt.Pick.there Lt.Pick.here))))))))))))))))))
  | (with_reducible exact Lt.Pick.there (Lt.Pick.there (Lt.Pick.there (Lt.Pick.there (Lt.Pick.there (Lt.Pick.there (Lt.Pick.there (Lt.Pick.there (Lt.Pick.there (Lt.Pick.there (Lt.Pick.there (Lt.Pick.there (Lt.Pick.there (Lt.Pick.there (Lt.Pick.there (Lt.Pick.there (Lt.Pick.there (Lt.Pick.there (Lt.Pick.there Lt.Pick.here)))))))))))))))))))
  | (with_reducible exact Lt.Pick.there (Lt.Pick.there (Lt.Pick.there (Lt.Pick.there (Lt.Pick.there (Lt.Pick.there (Lt.Pick.there (Lt.Pick.there (Lt.Pick.there (Lt.Pick.there (Lt.Pick.there (Lt.Pick.there (Lt.Pick.there (Lt.Pick.there (Lt.Pick.there (Lt.Pick.there (Lt.Pick.there (Lt.Pick.there (Lt.Pick.there (Lt.Pick.there Lt.Pick.here))))))))))))))))))))
  | (with_reducible exact Lt.Pick.there (Lt.Pick.there (Lt.Pick.there (Lt.Pick.there (Lt.Pick.there (Lt.Pick.there (Lt.Pick.there (Lt.Pick.there (Lt.Pick.there (Lt.Pick.there (Lt.Pick.there (Lt.Pick.there (Lt.Pick.there (Lt.Pick.there (Lt.Pick.there (Lt.Pick.there (Lt.Pick.there (Lt.Pick.there (Lt.Pick.there (Lt.Pick.there (Lt.Pick.there Lt.Pick.here)))))))))))))))))))))
  | (with_reducible exact Lt.Pick.there (Lt.Pick.there (Lt.Pick.there (Lt.Pick.there (Lt.Pick.there (Lt.Pick.there (Lt.Pick.there (Lt.Pick.there (Lt.Pick.there (Lt.Pick.there (Lt.Pick.there (Lt.Pick.there (Lt.Pick.there (Lt.Pick.there (Lt.Pick.there (Lt.Pick.there (Lt.Pick.there (Lt.Pick.there (Lt.Pick.there (Lt.Pick.there (Lt.Pick.there (Lt.Pick.there Lt.Pick.here))))))))))))))))))))))
  | (with_reducible exact Lt.Pick.there (Lt.Pick.there (Lt.Pick.there (Lt.Pick.there (Lt.Pick.there (Lt.Pick.there (Lt.Pick.there (Lt.Pick.there (Lt.Pick.there (Lt.Pick.there (Lt.Pick.there (Lt.Pick.there (Lt.Pick.there (Lt.Pick.there (Lt.Pick.there (Lt.Pick.there (Lt.Pick.there (Lt.Pick.there (Lt.Pick.there (Lt.Pick.there (Lt.Pick.there (Lt.Pick.there (Lt.Pick.there Lt.Pick.here)))))))))))))))))))))))
  | (with_reducible exact Lt.Pick.there (Lt.Pick.there (Lt.Pick.there (Lt.Pick.there (Lt.Pick.there (Lt.Pick.there (Lt.Pick.there (Lt.Pick.there (Lt.Pick.there (Lt.Pick.there (Lt.Pick.there (Lt.Pick.there (Lt.Pick.there (Lt.Pick.there (Lt.Pick.there (Lt.Pick.there (Lt.Pick.there (Lt.Pick.there (Lt.Pick.there (Lt.Pick.there (Lt.Pick.there (Lt.Pick.there (Lt.Pick.there (Lt.Pick.there Lt.Pick.here))))))))))))))))))))))))
  | (with_reducible exact Lt.Pick.there (Lt.Pick.there (Lt.Pick.there (Lt.Pick.there (Lt.Pick.there (Lt.Pick.there (Lt.Pick.there (Lt.Pick.there (Lt.Pick.there (Lt.Pick.there (Lt.Pick.there (Lt.Pick.there (Lt.Pick.there (Lt.Pick.there (Lt.Pick.there (Lt.Pick.there (Lt.Pick.there (Lt.Pick.there (Lt.Pick.there (Lt.Pick.there (Lt.Pick.there (Lt.Pick.there (Lt.Pick.there (Lt.Pick.there (Lt.Pick.there Lt.Pick.here)))))))))))))))))))))))))
  | (with_reducible exact Lt.Pick.there (Lt.Pick.there (Lt.Pick.there (Lt.Pick.there (Lt.Pick.there (Lt.Pick.there (Lt.Pick.there (Lt.Pick.there (Lt.Pick.there (Lt.Pick.there (Lt.Pick.there (Lt.Pick.there (Lt.Pick.there (Lt.Pick.there (Lt.Pick.there (Lt.Pick.there (Lt.Pick.there (Lt.Pick.there (Lt.Pick.there (Lt.Pick.there (Lt.Pick.there (Lt.Pick.there (Lt.Pick.there (Lt.Pick.there (Lt.Pick.there (Lt.Pick.there Lt.Pick.here))))))))))))))))))))))))))
  | (with_reducible exact Lt.Pick.there (Lt.Pick.there (Lt.Pick.there (Lt.Pick.there (Lt.Pick.there (Lt.Pick.there (Lt.Pick.there (Lt.Pick.there (Lt.Pick.there (Lt.Pick.there (Lt.Pick.there (Lt.Pick.there (Lt.Pick.there (Lt.Pick.there (Lt.Pick.there (Lt.Pick.there (Lt.Pick.there (Lt.Pick.there (Lt.Pick.there (Lt.Pick.there (Lt.Pick.there (Lt.Pick.there (Lt.Pick.there (Lt.Pick.there (Lt.Pick.there (Lt.Pick.there (Lt.Pick.there Lt.Pick.here))))))))))))))))))))))))))))
local macro_rules | `(tactic| walk_at "hl") => `(tactic| first
  | (with_reducible exact Lt.HasL.l (by walk_at "pk"))
  | (with_reducible exact Lt.HasL.v (by walk_at "pk")))
local macro_rules | `(tactic| walk_at "dv1") => `(tactic| first
  | (with_reducible exact Lt.Dv.int _)
  | (with_reducible exact Lt.Dv.str _)
  | (with_reducible exact Lt.Dv.non)
  | (with_reducible exact Lt.Dv.bl _)
  | (with_reducible exact Lt.Hs.dvAt (by assumption) (by walk_at "pk"))
  | assumption)
local macro_rules | `(tactic| walk_at "dv") => `(tactic| first
  | (with_reducible exact Lt.DvAll.nil)
  | ((with_reducible refine' Lt.DvAll.cons ?h1 ?h2); (case h1 => walk_at "dv1"); (case h2 => walk_at "dv"))
  | walk_at "dv1")
local macro_rules | `(tactic| walk_at "selt") => `(tactic| first
  | (with_reducible exact Lt.Sel.refl)
  | ((with_reducible refine' Lt.Sel.drop ?h1); walk_at "selt"))
local macro_rules | `(tactic| walk_at "sel") => `(tactic| first
  | (with_reducible exact Lt.Sel.nil)
  | ((with_reducible refine' Lt.Sel.cons ?h1 ?h2); (case h1 => walk_at "pk"); (case h2 => walk_at "sel"))
  | walk_at "selt")
local macro_rules | `(tactic| walk_at "pk0") => `(tactic| first
  | (exact Lt.Pick.here)
  | (exact Lt.Pick.there Lt.Pick.here)
  | (exact Lt.Pick.there (Lt.Pick.there Lt.Pick.here))
  | (exact Lt.Pick.there (Lt.Pick.there (Lt.Pick.there Lt.Pick.here)))
  | (exact Lt.Pick.there (Lt.Pick.there (Lt.Pick.there (Lt.Pick.there Lt.Pick.here)))))
local macro_rules | `(tactic| walk_at "sel0") => `(tactic| first
  | (with_reducible exact Lt.Sel.nil)
  | ((with_reducible refine' Lt.Sel.cons ?h1 ?h2); (case h1 => first | walk_at "pk" | walk_at "pk0"); (case h2 => walk_at "sel0"))
  | walk_at "selt")
local macro_rules | `(tactic| walk_at "pm0") => `(tactic| (rename Lt.Hs _ _ => hS0; exact Lt.Sel.go (by walk_at "sel0") hS0))
local macro_rules | `(tactic| walk_at "pm") => `(tactic| (rename Lt.Hs _ _ => hS0; exact Lt.Sel.go (by walk_at "sel") hS0))
local macro_rules | `(tactic| walk_at "ln") => `(tactic| first
  | omega
  | (simp only [List.length_append, List.length_cons, List.length_nil, List.length_map, List.length_replicate, List.length_reverse, List.length_take, List.length_drop, Lt.rgI_len]; omega)
  | (simp only [List.length_append, List.length_cons, List.length_nil, List.length_map, List.length_replicate, List.length_reverse, List.length_take, List.length_drop, Lt.rgI_len] at *; omega))
local macro_rules | `(tactic| walk_at "sl") => `(tactic| first
  | omega
  | (simp only [PySem.Str.length_append]; omega))
local macro_rules | `(tactic| walk_at "rs") => `(tactic| first
  | walk_at "rd0"
  | ((rename Lt.Hs _ _ => hS0); (with_reducible refine' Lt.s_catM hS0 ?k1 ?k2 ?hl ?_); (case k1 => walk_at "hl"); (case k2 => walk_at "hl"); (case hl => walk_at "ln"); intro _ _ _; clear hS0)
  | ((rename Lt.Hs _ _ => hS0); (with_reducible refine' Lt.s_slTake hS0 ?k ?hn ?_); (case k => walk_at "hl"); (case hn => omega); intro _ _ _; clear hS0)
  | ((rename Lt.Hs _ _ => hS0); (with_reducible refine' Lt.s_slDrop hS0 ?k ?hn ?_); (case k => walk_at "hl"); (case hn => omega); intro _ _ _; clear hS0)
  | ((rename Lt.Hs _ _ => hS0); (with_reducible refine' Lt.s_revM hS0 ?k ?_); (case k => walk_at "hl"); intro _ _ _; clear hS0)
  | ((rename Lt.Hs _ _ => hS0); (with_reducible refine' Lt.s_step hS0 ?k ?_); (case k => walk_at "hl"); intro _ _ _; clear hS0)
  | ((rename Lt.Hs _ _ => hS0); (with_reducible refine' Lt.s_appI hS0 ?k ?hl ?_); (case k => walk_at "pk"); (case hl => walk_at "ln"); intro _ _; clear hS0)
  | ((rename Lt.Hs _ _ => hS0); (with_reducible refine' Lt.s_app hS0 ?k ?hv ?hl ?_); (case k => walk_at "pk"); (case hv => walk_at "dv1"); (case hl => walk_at "ln"); intro _ _; clear hS0)
  | ((rename Lt.Hs _ _ => hS0); (with_reducible refine' Lt.s_appC hS0 ?k ?hl ?_); (case k => walk_at "pk"); (case hl => walk_at "ln"); intro _ _; clear hS0)
  | ((rename Lt.Hs _ _ => hS0); (with_reducible refine' Lt.s_cat hS0 ?k1 ?k2 ?hl ?_); (case k1 => walk_at "hl"); (case k2 => walk_at "hl"); (case hl => walk_at "ln"); intro _ _ _; clear hS0)
  | ((rename Lt.Hs _ _ => hS0); (with_reducible refine' Lt.s_slL hS0 ?k ?_); (case k => walk_at "hl"); intro _ _ _; clear hS0)
  | ((rename Lt.Hs _ _ => hS0); (with_reducible refine' Lt.s_rev hS0 ?k ?_); (case k => walk_at "hl"); intro _ _ _; clear hS0)
  | ((rename Lt.Hs _ _ => hS0); (with_reducible refine' Lt.s_clear hS0 ?k ?_); (case k => walk_at "pk"); intro _ _; clear hS0)
  | ((rename Lt.Hs _ _ => hS0); (with_reducible refine' Lt.s_reverse hS0 ?k ?_); (case k => walk_at "pk"); intro _ _; clear hS0)
  | ((rename Lt.Hs _ _ => hS0); (with_reducible refine' Lt.s_extend hS0 ?k ?k2 ?hl ?_); (case k => walk_at "pk"); (case k2 => walk_at "hl"); (case hl => walk_at "ln"); intro _ _; clear hS0)
  | ((rename Lt.Hs _ _ => hS0); (with_reducible refine' Lt.s_sorted hS0 ?k ?_); (case k => walk_at "hl"); intro _ _ _; clear hS0)
  | ((rename Lt.Hs _ _ => hS0); (with_reducible refine' Lt.s_listOf hS0 ?k ?_); (case k => walk_at "hl"); intro _ _ _; clear hS0)
  | ((rename Lt.Hs _ _ => hS0); (with_reducible refine' Lt.s_listOfT hS0 ?k ?_); (case k => walk_at "pk"); intro _ _ _; clear hS0)
  | ((rename Lt.Hs _ _ => hS0); (with_reducible refine' Lt.s_tupOf hS0 ?k ?_); (case k => walk_at "hl"); intro _ _ _; clear hS0)
  | ((rename Lt.Hs _ _ => hS0); (with_reducible refine' Lt.s_lst hS0 ?hd ?hl ?_); (case hd => walk_at "dv"); (case hl => walk_at "ln"); intro _ _ _; clear hS0)
  | ((rename Lt.Hs _ _ => hS0); (with_reducible refine' Lt.s_tup hS0 ?hd ?hl ?_); (case hd => walk_at "dv"); (case hl => walk_at "ln"); intro _ _ _; clear hS0)
  | ((rename Lt.Hs _ _ => hS0); (with_reducible refine' Lt.s_lstC hS0 ?hl ?_); (case hl => walk_at "ln"); intro _ _ _; clear hS0)
  | ((rename Lt.Hs _ _ => hS0); (with_reducible refine' Lt.s_tupC hS0 ?hl ?_); (case hl => walk_at "ln"); intro _ _ _; clear hS0)
  | ((rename Lt.Hs _ _ => hS0); (with_reducible refine' Lt.s_make hS0  ?_); intro _ _ _; clear hS0)
  | ((with_reducible refine' Lt.s_lenM ?hS ?k ?_); (case hS => assumption); (case k => walk_at "hl"))
  | ((with_reducible refine' Lt.s_len ?hS ?k ?_); (case hS => assumption); (case k => walk_at "hl"))
  | ((with_reducible refine' Lt.s_lenT ?hS ?k ?_); (case hS => assumption); (case k => walk_at "pk"))
  | ((with_reducible refine' Lt.s_sum ?hS ?k ?_); (case hS => assumption); (case k => walk_at "hl"))
  | ((with_reducible refine' Lt.s_all ?hS ?k ?_); (case hS => assumption); (case k => walk_at "hl"))
  | ((with_reducible refine' Lt.s_any ?hS ?k ?_); (case hS => assumption); (case k => walk_at "hl"))
  | ((with_reducible refine' Lt.s_inI ?hS ?k ?_); (case hS => assumption); (case k => walk_at "hl"))
  | ((with_reducible refine' Lt.s_ninI ?hS ?k ?_); (case hS => assumption); (case k => walk_at "hl"))
  | ((with_reducible refine' Lt.s_ixT ?hS ?k ?e ?_); (case hS => assumption); (case k => walk_at "pk"); (case e => exact rfl))
  | ((with_reducible refine' Lt.s_ixTc ?hS ?k ?e ?_); (case hS => assumption); (case k => walk_at "pk"); (case e => exact rfl))
  | ((with_reducible refine' Lt.s_ixLc ?hS ?k ?e ?_); (case hS => assumption); (case k => walk_at "pk"); (case e => exact rfl))
  | ((with_reducible refine' Lt.s_ixL ?hS ?k ?e ?_); (case hS => assumption); (case k => walk_at "hl"); (case e => first | exact rfl | exact L2.atI_last _ _))
  | ((with_reducible refine' Lt.s_gTup ?hS ?k ?hn ?_); (case hS => assumption); (case k => walk_at "pk"); (case hn => exact rfl))
  | ((with_reducible refine' Lt.s_gTupC ?hS ?k ?hn ?_); (case hS => assumption); (case k => walk_at "pk"); (case hn => exact rfl))
  | ((with_reducible refine' Lt.s_fld ?hS ?k ?c ?n ?e ?_); (case hS => assumption); (case k => walk_at "pk"); (case c => assumption); (case n => assumption); (case e => exact rfl))
  | ((rename Lt.Hs _ _ => hS0); (with_reducible refine' Lt.s_fldSet hS0 ?k ?c ?n ?hl ?_); (case k => walk_at "pk"); (case c => assumption); (case n => assumption); (case hl => walk_at "ln"); intro _ _; clear hS0)
  | ((rename Lt.Hs _ _ => hS0); (with_reducible refine' Lt.s_setL hS0 ?k ?hv ?e ?_); (case k => walk_at "pk"); (case hv => walk_at "dv1"); (case e => first | exact rfl | exact Lt.ixN_last _ _); intro _ _; clear hS0)
  | (with_reducible refine Lt.k_tOst ?_)
  | (with_reducible refine Lt.k_tCfn ?_)
  | (with_reducible refine Lt.k_tMkO ?_)
  | ((rename Lt.Hs _ _ => hS0); (with_reducible refine' Lt.s_mkE hS0 ?hv ?hl ?h2 ?_); (case hv => walk_at "dv"); (case hl => rfl); (case h2 => walk_at "ln"); intro _ _ _ _; clear hS0)
  | ((with_reducible refine' Lt.k_addStr ?hl ?_); (case hl => walk_at "sl"))
  | ((with_reducible refine' Lt.k_log ?hl ?_); (case hl => omega))
  | ((with_reducible refine' Lt.k_szL ?hl ?_); (case hl => walk_at "sl"))
  | (with_reducible refine Lt.k_tCKw ?_)
  | ((rename Lt.Hs _ _ => hS0); (with_reducible refine' Lt.s_sortRev hS0 ?k ?_); (case k => walk_at "hl"); intro _ _ _ _ _ _; clear hS0)
  | (with_reducible refine Lt.k_dget ?_)
  | (with_reducible refine Lt.k_dput ?_)
  | (with_reducible refine Lt.k_dpop1 ?_)
  | ((with_reducible refine' Lt.s_isD ?hS ?k ?_); (case hS => assumption); (case k => walk_at "pk"))
  | (with_reducible refine Lt.k_iS ?_)
  | (with_reducible refine Lt.k_m1 ?_)
  | (with_reducible refine Lt.k_isS ?_)
  | (with_reducible refine Lt.k_tXf ?_)
  | ((with_reducible refine' Lt.s_xf ?hS ?k ?e ?_); (case hS => assumption); (case k => walk_at "pk"); (case e => rfl))
  | ((with_reducible refine' Lt.s_isX ?ec ?ki ?hS ?k ?_); (case ec => assumption); (case ki => assumption); (case hS => assumption); (case k => walk_at "pk"))
  | ((with_reducible refine' Lt.s_isXT ?ec ?ki ?hS ?k ?_); (case ec => assumption); (case ki => assumption); (case hS => assumption); (case k => walk_at "pk"))
  | (with_reducible refine Lt.k_tMethT ?_)
  | (with_reducible refine Lt.k_tMethKT ?_)
  | (with_reducible refine Lt.k_sMakeT ?_)
  | (with_reducible refine Lt.k_tCallSD ?_)
  | ((with_reducible refine' Lt.k_eqTo ?_))
  | (with_reducible refine Lt.s_min2 ?_)
  | (with_reducible refine Lt.s_max2 ?_)
  | (with_reducible refine Lt.k_sLst ?_)
  | (with_reducible refine Lt.k_tFld ?_)
  | (with_reducible refine Lt.k_sLstC ?_)
  | (with_reducible refine Lt.k_sTup ?_)
  | (with_reducible refine Lt.k_sTupC ?_)
  | (with_reducible refine Lt.k_sLstRg ?_)
  | (with_reducible refine Lt.k_sRevL ?_)
  | (with_reducible refine Lt.k_sStep ?_)
  | (with_reducible refine Lt.k_lc2 ?_)
  | (with_reducible refine Zr.k_sZip ?_)
  | (with_reducible refine Lt.k_items ?_)
  | (with_reducible refine Lt.k_sMake ?_)
  | (with_reducible refine Lt.k_sFldS ?_)
  | (with_reducible refine Lt.k_tMeth ?_)
  | (with_reducible refine Lt.hold_int ?_)
  | (with_reducible refine Lt.hold_str ?_)
  | (with_reducible refine Lt.hold_bl ?_)
  | (with_reducible refine Lt.hold_non ?_)
  | (with_reducible refine Lt.holds_nil ?_)
  | (with_reducible refine Lt.holds_int ?_)
  | (with_reducible refine Lt.holds_str ?_)
  | (with_reducible refine Lt.holds_bl ?_)
  | (with_reducible refine Lt.holds_non ?_)
  | ((with_reducible refine Lt.hold_tup ?_); intro _ _)
  | ((with_reducible refine Lt.holds_tup ?_); intro _ _)
  | ((with_reducible refine' Lt.s_tyL ?hS ?k ?_); (case hS => assumption); (case k => walk_at "hl"))
  | ((with_reducible refine' Lt.s_tyLc ?hS ?k ?_); (case hS => assumption); (case k => walk_at "pk"))
  | ((with_reducible refine' Lt.s_methSp ?hS ?k ?hm ?_); (case hS => assumption); (case k => walk_at "pk"); (case hm => decide))
  | ((with_reducible refine' Lt.k_isi ?ht ?hk ?_); (case ht => first | exact Lt.tyx_L (by assumption) (by walk_at "hl") | exact Lt.tyx_T (by assumption) (by walk_at "pk") | exact Lt.tyx_Lc (by assumption) (by walk_at "pk")); (case hk => walk_at "isi"))
  | ((rename Lt.Hs _ _ => hS0); (with_reducible refine' Lt.s_lstRgA hS0 ?hr ?_); (case hr => exact ⟨by omega, by omega, by omega, by omega, by omega⟩); intro _ _ _; clear hS0)
  | ((rename Lt.Hs _ _ => hS0); (with_reducible refine' Lt.s_lstRg hS0 ?hr ?_); (case hr => exact ⟨by omega, by omega, by omega, by omega, by omega⟩); intro _ _ _; clear hS0)
  | ((with_reducible refine' Lt.s_eqI ?hS ?k1 ?k2 ?_); (case hS => assumption); (case k1 => walk_at "hl"); (case k2 => walk_at "hl"))
  | ((with_reducible refine' Lt.s_neI ?hS ?k1 ?k2 ?_); (case hS => assumption); (case k1 => walk_at "hl"); (case k2 => walk_at "hl"))
  | ((with_reducible refine' Lt.s_eqP ?hS ?k1 ?k2 ?_); (case hS => assumption); (case k1 => walk_at "hl"); (case k2 => walk_at "hl"))
  | ((with_reducible refine' Lt.s_neP ?hS ?k1 ?k2 ?_); (case hS => assumption); (case k1 => walk_at "hl"); (case k2 => walk_at "hl"))
  | ((with_reducible refine' Lt.s_inS ?hS ?k ?_); (case hS => assumption); (case k => walk_at "hl"))
  | ((with_reducible refine' Lt.s_ninS ?hS ?k ?_); (case hS => assumption); (case k => walk_at "hl"))
  | ((with_reducible refine' Lt.k_iteD1 ?h1 ?_); (case h1 => with_reducible rfl))
  | ((with_reducible refine' Lt.k_iteNY ?h1 ?_); (case h1 => with_reducible rfl))
  | ((rename Lt.Hs _ _ => hS0); (with_reducible refine' Lt.s_sortSetA hS0 ?k ?hl ?_); (case k => exact Or.inl (by walk_at "hl")); (case hl => walk_at "ln"); intro _ _ _; clear hS0)
  | walk_at "rdz"
  | ((with_reducible refine' Lt.k_bnd ?h1 ?h2 ?_); (case h1 => omega); (case h2 => omega)))
local macro_rules | `(tactic| walk_at "fr") => `(tactic| (rename Lt.Hs _ _ => hS0; exact Lt.Pick.go (by walk_at "pk") hS0))
local macro_rules | `(tactic| walk_at "gs") => `(tactic| ((repeat walk_at "rs"); try dsimp only))
/- rules of single parts: each part adds its own to "rq" (the latest is tried first) -/
local macro_rules | `(tactic| walk_at "rq") => `(tactic| fail "no rule of a part")
local macro_rules | `(tactic| walk_at "rp") => `(tactic| first | walk_at "rs" | walk_at "rq")
local macro_rules | `(tactic| walk_at "gp") => `(tactic| ((repeat walk_at "rp"); try dsimp only))
local macro_rules | `(tactic| walk_at "rdT") => `(tactic| first
  | walk_at "rd"
  | (with_reducible refine Lt.k_iS ?_)
  | (with_reducible refine Lt.k_m1 ?_)
  | (with_reducible refine Lt.k_isS ?_)
  | (with_reducible refine ⟨_, _, rfl, rfl, ?_⟩))
local macro_rules | `(tactic| walk_at "gt") => `(tactic| ((repeat walk_at "rdT"); try dsimp only))
namespace K43
open PySem PySem.Spec PyProof.Rows L2 Lt
def topS (i : Nat) : Stmt := PySem.Challenge.pw_latestow_k43_papers_judged.main.body.getD i (.Pass ⟨0, 0, 0, 0⟩)
abbrev s_Censusx_initx : Stmt := inClass (topS 1) 0
abbrev N_Censusx_initx : List Str := ["self", "size", "held", "put_by", "pledged", "spare"]
theorem sc_Censusx_initx : FnScope N_Censusx_initx ["self", "size", "held", "put_by", "pledged", "spare"] (defScope s_Censusx_initx) := ⟨rfl, rfl, rfl, by decide +kernel, rfl, by decide +kernel, by decide +kernel⟩
abbrev s_Censusx_lenx : Stmt := inClass (topS 1) 1
abbrev N_Censusx_lenx : List Str := ["self"]
theorem sc_Censusx_lenx : FnScope N_Censusx_lenx ["self"] (defScope s_Censusx_lenx) := ⟨rfl, rfl, rfl, by decide +kernel, rfl, by decide +kernel, by decide +kernel⟩
abbrev s_Censusx_eqx : Stmt := inClass (topS 1) 2
abbrev N_Censusx_eqx : List Str := ["self", "other", "mine"]
theorem sc_Censusx_eqx : FnScope N_Censusx_eqx ["self", "other"] (defScope s_Censusx_eqx) := ⟨rfl, rfl, rfl, by decide +kernel, rfl, by decide +kernel, by decide +kernel⟩
abbrev s_Censusx_strx : Stmt := inClass (topS 1) 3
abbrev N_Censusx_strx : List Str := ["self", "held", "owed", "pledged"]
theorem sc_Censusx_strx : FnScope N_Censusx_strx ["self"] (defScope s_Censusx_strx) := ⟨rfl, rfl, rfl, by decide +kernel, rfl, by decide +kernel, by decide +kernel⟩
abbrev s_sums_of : Stmt := topS 2
abbrev N_sums_of : List Str := ["census", "held", "owed", "row", "path", "wants", "sheets", "ticket", "many"]
theorem sc_sums_of : FnScope N_sums_of ["census"] (defScope s_sums_of) := ⟨rfl, rfl, rfl, by decide +kernel, rfl, by decide +kernel, by decide +kernel⟩
abbrev s_adds_up : Stmt := topS 3
abbrev N_adds_up : List Str := ["census"]
theorem sc_adds_up : FnScope N_adds_up ["census"] (defScope s_adds_up) := ⟨rfl, rfl, rfl, by decide +kernel, rfl, by decide +kernel, by decide +kernel⟩
abbrev s_bears : Stmt := topS 4
abbrev N_bears : List Str := ["census", "plan", "blocks", "block", "path", "wants", "sheets", "pages", "seen", "ticket", "many", "page", "told", "row"]
theorem sc_bears : FnScope N_bears ["census", "plan"] (defScope s_bears) := ⟨rfl, rfl, rfl, by decide +kernel, rfl, by decide +kernel, by decide +kernel⟩
abbrev s_law_bag : Stmt := topS 6
abbrev N_law_bag : List Str := ["_law_script"]
theorem sc_law_bag : FnScope N_law_bag ["_law_script"] (defScope s_law_bag) := ⟨rfl, rfl, rfl, by decide +kernel, rfl, by decide +kernel, by decide +kernel⟩
abbrev s_law_pull : Stmt := topS 7
abbrev N_law_pull : List Str := ["_law_bag_here", "_law_top", "_law_cell", "_law_got"]
theorem sc_law_pull : FnScope N_law_pull ["_law_bag_here", "_law_top"] (defScope s_law_pull) := ⟨rfl, rfl, rfl, by decide +kernel, rfl, by decide +kernel, by decide +kernel⟩
abbrev s_law_truth : Stmt := topS 8
abbrev N_law_truth : List Str := ["_law_told", "_law_due"]
theorem sc_law_truth : FnScope N_law_truth ["_law_told", "_law_due"] (defScope s_law_truth) := ⟨rfl, rfl, rfl, by decide +kernel, rfl, by decide +kernel, by decide +kernel⟩
abbrev s_law_fit : Stmt := topS 9
abbrev N_law_fit : List Str := ["_law_census_here", "_law_plan", "_law_wished", "_law_path", "_law_wants", "_law_sheets", "_law_ticket", "_law_count", "_law_used", "_law_page", "_law_block", "_law_key", "_law_blocks", "_law_row"]
theorem sc_law_fit : FnScope N_law_fit ["_law_census_here", "_law_plan"] (defScope s_law_fit) := ⟨rfl, rfl, rfl, by decide +kernel, rfl, by decide +kernel, by decide +kernel⟩
abbrev s_law_census : Stmt := topS 10
abbrev N_law_census : List Str := ["_law_bag_here", "_law_size", "_law_held", "_law_put_by", "_law_path", "_law_wants", "_law_sheets", "_law_pledged", "_law_due", "_law_left", "_law_block", "_law_k", "_law_row"]
theorem sc_law_census : FnScope N_law_census ["_law_bag_here", "_law_size"] (defScope s_law_census) := ⟨rfl, rfl, rfl, by decide +kernel, rfl, by decide +kernel, by decide +kernel⟩
abbrev s_law_good_plan : Stmt := topS 11
abbrev N_law_good_plan : List Str := ["_law_census_here", "_law_free", "_law_items_due", "_law_path", "_law_wants", "_law_sheets", "_law_ticket", "_law_count", "_law_block", "_law_k"]
theorem sc_law_good_plan : FnScope N_law_good_plan ["_law_census_here"] (defScope s_law_good_plan) := ⟨rfl, rfl, rfl, by decide +kernel, rfl, by decide +kernel, by decide +kernel⟩
abbrev s_law_spoilt : Stmt := topS 12
abbrev N_law_spoilt : List Str := ["_law_bag_here", "_law_plan", "_law_size", "_law_out", "_law_kind", "_law_at", "_law_path", "_law_page", "_law_block", "_law_rows"]
theorem sc_law_spoilt : FnScope N_law_spoilt ["_law_bag_here", "_law_plan", "_law_size"] (defScope s_law_spoilt) := ⟨rfl, rfl, rfl, by decide +kernel, rfl, by decide +kernel, by decide +kernel⟩
abbrev s_law_fields_apart : Stmt := topS 13
abbrev N_law_fields_apart : List Str := ["_law_census_here", "_law_base", "_law_more", "_law_k", "_law_parts", "_law_other"]
theorem sc_law_fields_apart : FnScope N_law_fields_apart ["_law_census_here"] (defScope s_law_fields_apart) := ⟨rfl, rfl, rfl, by decide +kernel, rfl, by decide +kernel, by decide +kernel⟩
abbrev s_law_own_lists : Stmt := topS 14
abbrev N_law_own_lists : List Str := ["_law_census_here", "_law_rows", "_law_one", "_law_two"]
theorem sc_law_own_lists : FnScope N_law_own_lists ["_law_census_here"] (defScope s_law_own_lists) := ⟨rfl, rfl, rfl, by decide +kernel, rfl, by decide +kernel, by decide +kernel⟩
abbrev s_law_below : Stmt := topS 15
abbrev N_law_below : List Str := ["_law_census_here", "_law_plan", "_law_at", "_law_path", "_law_page", "_law_block", "_law_bent"]
theorem sc_law_below : FnScope N_law_below ["_law_census_here", "_law_plan"] (defScope s_law_below) := ⟨rfl, rfl, rfl, by decide +kernel, rfl, by decide +kernel, by decide +kernel⟩
abbrev s_law : Stmt := topS 16
abbrev N_law : List Str := ["_law_script", "_law_bag_here", "_law_size", "_law_census_here", "_law_plan", "_law_spoilt_here", "_law_kept", "_law_other", "_law_short"]
theorem sc_law : FnScope N_law ["_law_script"] (defScope s_law) := ⟨rfl, rfl, rfl, by decide +kernel, rfl, by decide +kernel, by decide +kernel⟩
structure Txt (K : PySem.W.Frag) (mg : Str → Option Value) where
  f_Censusx_initx : Addr
  d_Censusx_initx : FuncData
  F_Censusx_initx : FunD K "__init__" "Census.__init__" (defArgs s_Censusx_initx) (defBody s_Censusx_initx) (defScope s_Censusx_initx) [] [] f_Censusx_initx d_Censusx_initx
  f_Censusx_lenx : Addr
  d_Censusx_lenx : FuncData
  F_Censusx_lenx : FunD K "__len__" "Census.__len__" (defArgs s_Censusx_lenx) (defBody s_Censusx_lenx) (defScope s_Censusx_lenx) [] [] f_Censusx_lenx d_Censusx_lenx
  f_Censusx_eqx : Addr
  d_Censusx_eqx : FuncData
  F_Censusx_eqx : FunD K "__eq__" "Census.__eq__" (defArgs s_Censusx_eqx) (defBody s_Censusx_eqx) (defScope s_Censusx_eqx) [] [] f_Censusx_eqx d_Censusx_eqx
  f_Censusx_strx : Addr
  d_Censusx_strx : FuncData
  F_Censusx_strx : FunD K "__str__" "Census.__str__" (defArgs s_Censusx_strx) (defBody s_Censusx_strx) (defScope s_Censusx_strx) [] [] f_Censusx_strx d_Censusx_strx
  f_sums_of : Addr
  d_sums_of : FuncData
  F_sums_of : FunD K "sums_of" "sums_of" (defArgs s_sums_of) (defBody s_sums_of) (defScope s_sums_of) [] [] f_sums_of d_sums_of
  g_sums_of : mg "sums_of" = some (.ref f_sums_of)
  f_adds_up : Addr
  d_adds_up : FuncData
  F_adds_up : FunD K "adds_up" "adds_up" (defArgs s_adds_up) (defBody s_adds_up) (defScope s_adds_up) [] [] f_adds_up d_adds_up
  g_adds_up : mg "adds_up" = some (.ref f_adds_up)
  f_bears : Addr
  d_bears : FuncData
  F_bears : FunD K "bears" "bears" (defArgs s_bears) (defBody s_bears) (defScope s_bears) [] [] f_bears d_bears
  g_bears : mg "bears" = some (.ref f_bears)
  f_law_bag : Addr
  d_law_bag : FuncData
  F_law_bag : FunD K "_law_bag" "_law_bag" (defArgs s_law_bag) (defBody s_law_bag) (defScope s_law_bag) [] [] f_law_bag d_law_bag
  g_law_bag : mg "_law_bag" = some (.ref f_law_bag)
  f_law_pull : Addr
  d_law_pull : FuncData
  F_law_pull : FunD K "_law_pull" "_law_pull" (defArgs s_law_pull) (defBody s_law_pull) (defScope s_law_pull) [] [] f_law_pull d_law_pull
  g_law_pull : mg "_law_pull" = some (.ref f_law_pull)
  f_law_truth : Addr
  d_law_truth : FuncData
  F_law_truth : FunD K "_law_truth" "_law_truth" (defArgs s_law_truth) (defBody s_law_truth) (defScope s_law_truth) [] [] f_law_truth d_law_truth
  g_law_truth : mg "_law_truth" = some (.ref f_law_truth)
  f_law_fit : Addr
  d_law_fit : FuncData
  F_law_fit : FunD K "_law_fit" "_law_fit" (defArgs s_law_fit) (defBody s_law_fit) (defScope s_law_fit) [] [] f_law_fit d_law_fit
  g_law_fit : mg "_law_fit" = some (.ref f_law_fit)
  f_law_census : Addr
  d_law_census : FuncData
  F_law_census : FunD K "_law_census" "_law_census" (defArgs s_law_census) (defBody s_law_census) (defScope s_law_census) [] [] f_law_census d_law_census
  g_law_census : mg "_law_census" = some (.ref f_law_census)
  f_law_good_plan : Addr
  d_law_good_plan : FuncData
  F_law_good_plan : FunD K "_law_good_plan" "_law_good_plan" (defArgs s_law_good_plan) (defBody s_law_good_plan) (defScope s_law_good_plan) [] [] f_law_good_plan d_law_good_plan
  g_law_good_plan : mg "_law_good_plan" = some (.ref f_law_good_plan)
  f_law_spoilt : Addr
  d_law_spoilt : FuncData
  F_law_spoilt : FunD K "_law_spoilt" "_law_spoilt" (defArgs s_law_spoilt) (defBody s_law_spoilt) (defScope s_law_spoilt) [] [] f_law_spoilt d_law_spoilt
  g_law_spoilt : mg "_law_spoilt" = some (.ref f_law_spoilt)
  f_law_fields_apart : Addr
  d_law_fields_apart : FuncData
  F_law_fields_apart : FunD K "_law_fields_apart" "_law_fields_apart" (defArgs s_law_fields_apart) (defBody s_law_fields_apart) (defScope s_law_fields_apart) [] [] f_law_fields_apart d_law_fields_apart
  g_law_fields_apart : mg "_law_fields_apart" = some (.ref f_law_fields_apart)
  f_law_own_lists : Addr
  d_law_own_lists : FuncData
  F_law_own_lists : FunD K "_law_own_lists" "_law_own_lists" (defArgs s_law_own_lists) (defBody s_law_own_lists) (defScope s_law_own_lists) [] [] f_law_own_lists d_law_own_lists
  g_law_own_lists : mg "_law_own_lists" = some (.ref f_law_own_lists)
  f_law_below : Addr
  d_law_below : FuncData
  F_law_below : FunD K "_law_below" "_law_below" (defArgs s_law_below) (defBody s_law_below) (defScope s_law_below) [] [] f_law_below d_law_below
  g_law_below : mg "_law_below" = some (.ref f_law_below)
  f_law : Addr
  d_law : FuncData
  F_law : FunD K "law" "law" (defArgs s_law) (defBody s_law) (defScope s_law) [] [] f_law d_law
  g_law : mg "law" = some (.ref f_law)
  c_Census : Addr
  g_Census : mg "Census" = some (.ref c_Census)
  cl_Census : Cls K c_Census
  mk_Census : Mk K c_Census f_Censusx_initx
  m_Census_len : Meth K c_Census "__len__" f_Censusx_lenx
  m_Census_eq : Meth K c_Census "__eq__" f_Censusx_eqx
  m_Census_str : Meth K c_Census "__str__" f_Censusx_strx
  ne_Census : PySem.W.findIn K (.ref c_Census) "__ne__" = some (some (.builtin "object.__ne__"))
  nb_Census : PySem.W.findIn K (.ref c_Census) "__bool__" = some none
  ow_Census : OwnC K c_Census
  n_Census_size : NoAttr K c_Census "size"
  n_Census_held : NoAttr K c_Census "held"
  n_Census_put_by : NoAttr K c_Census "put_by"
  n_Census_pledged : NoAttr K c_Census "pledged"
  n_Census_spare : NoAttr K c_Census "spare"
  z_all : mg "all" = none
  z_bool : mg "bool" = none
  z_int : mg "int" = none
  z_isinstance : mg "isinstance" = none
  z_len : mg "len" = none
  z_list : mg "list" = none
  z_min : mg "min" = none
  z_range : mg "range" = none
  z_set : mg "set" = none
  z_sum : mg "sum" = none
theorem Txt.b_Censusx_initx {K : PySem.W.Frag} {mg : Str → Option Value} (T : Txt K mg) : Binds K T.d_Censusx_initx ["self", "size", "held", "put_by", "pledged", "spare"] [] := T.F_Censusx_initx.bindsN fun _ _ _ _ _ _ us hl => match us, hl with | [_, _, _, _, _, _], _ => rfl
theorem Txt.k_Censusx_initx {K : PySem.W.Frag} {mg : Str → Option Value} (T : Txt K mg) : PySem.W.keepIn K (.ref T.f_Censusx_initx) = true := T.F_Censusx_initx.kp
theorem Txt.b_Censusx_lenx {K : PySem.W.Frag} {mg : Str → Option Value} (T : Txt K mg) : Binds K T.d_Censusx_lenx ["self"] [] := T.F_Censusx_lenx.bindsN fun _ _ _ _ _ _ us hl => match us, hl with | [_], _ => rfl
theorem Txt.k_Censusx_lenx {K : PySem.W.Frag} {mg : Str → Option Value} (T : Txt K mg) : PySem.W.keepIn K (.ref T.f_Censusx_lenx) = true := T.F_Censusx_lenx.kp
theorem Txt.b_Censusx_eqx {K : PySem.W.Frag} {mg : Str → Option Value} (T : Txt K mg) : Binds K T.d_Censusx_eqx ["self", "other"] [] := T.F_Censusx_eqx.bindsN fun _ _ _ _ _ _ us hl => match us, hl with | [_, _], _ => rfl
theorem Txt.k_Censusx_eqx {K : PySem.W.Frag} {mg : Str → Option Value} (T : Txt K mg) : PySem.W.keepIn K (.ref T.f_Censusx_eqx) = true := T.F_Censusx_eqx.kp
theorem Txt.b_Censusx_strx {K : PySem.W.Frag} {mg : Str → Option Value} (T : Txt K mg) : Binds K T.d_Censusx_strx ["self"] [] := T.F_Censusx_strx.bindsN fun _ _ _ _ _ _ us hl => match us, hl with | [_], _ => rfl
theorem Txt.k_Censusx_strx {K : PySem.W.Frag} {mg : Str → Option Value} (T : Txt K mg) : PySem.W.keepIn K (.ref T.f_Censusx_strx) = true := T.F_Censusx_strx.kp
theorem Txt.b_sums_of {K : PySem.W.Frag} {mg : Str → Option Value} (T : Txt K mg) : Binds K T.d_sums_of ["census"] [] := T.F_sums_of.bindsN fun _ _ _ _ _ _ us hl => match us, hl with | [_], _ => rfl
theorem Txt.k_sums_of {K : PySem.W.Frag} {mg : Str → Option Value} (T : Txt K mg) : PySem.W.keepIn K (.ref T.f_sums_of) = true := T.F_sums_of.kp
theorem Txt.b_adds_up {K : PySem.W.Frag} {mg : Str → Option Value} (T : Txt K mg) : Binds K T.d_adds_up ["census"] [] := T.F_adds_up.bindsN fun _ _ _ _ _ _ us hl => match us, hl with | [_], _ => rfl
theorem Txt.k_adds_up {K : PySem.W.Frag} {mg : Str → Option Value} (T : Txt K mg) : PySem.W.keepIn K (.ref T.f_adds_up) = true := T.F_adds_up.kp
theorem Txt.b_bears {K : PySem.W.Frag} {mg : Str → Option Value} (T : Txt K mg) : Binds K T.d_bears ["census", "plan"] [] := T.F_bears.bindsN fun _ _ _ _ _ _ us hl => match us, hl with | [_, _], _ => rfl
theorem Txt.k_bears {K : PySem.W.Frag} {mg : Str → Option Value} (T : Txt K mg) : PySem.W.keepIn K (.ref T.f_bears) = true := T.F_bears.kp
theorem Txt.b_law_bag {K : PySem.W.Frag} {mg : Str → Option Value} (T : Txt K mg) : Binds K T.d_law_bag ["_law_script"] [] := T.F_law_bag.bindsN fun _ _ _ _ _ _ us hl => match us, hl with | [_], _ => rfl
theorem Txt.k_law_bag {K : PySem.W.Frag} {mg : Str → Option Value} (T : Txt K mg) : PySem.W.keepIn K (.ref T.f_law_bag) = true := T.F_law_bag.kp
theorem Txt.b_law_pull {K : PySem.W.Frag} {mg : Str → Option Value} (T : Txt K mg) : Binds K T.d_law_pull ["_law_bag_here", "_law_top"] [] := T.F_law_pull.bindsN fun _ _ _ _ _ _ us hl => match us, hl with | [_, _], _ => rfl
theorem Txt.k_law_pull {K : PySem.W.Frag} {mg : Str → Option Value} (T : Txt K mg) : PySem.W.keepIn K (.ref T.f_law_pull) = true := T.F_law_pull.kp
theorem Txt.b_law_truth {K : PySem.W.Frag} {mg : Str → Option Value} (T : Txt K mg) : Binds K T.d_law_truth ["_law_told", "_law_due"] [] := T.F_law_truth.bindsN fun _ _ _ _ _ _ us hl => match us, hl with | [_, _], _ => rfl
theorem Txt.k_law_truth {K : PySem.W.Frag} {mg : Str → Option Value} (T : Txt K mg) : PySem.W.keepIn K (.ref T.f_law_truth) = true := T.F_law_truth.kp
theorem Txt.b_law_fit {K : PySem.W.Frag} {mg : Str → Option Value} (T : Txt K mg) : Binds K T.d_law_fit ["_law_census_here", "_law_plan"] [] := T.F_law_fit.bindsN fun _ _ _ _ _ _ us hl => match us, hl with | [_, _], _ => rfl
theorem Txt.k_law_fit {K : PySem.W.Frag} {mg : Str → Option Value} (T : Txt K mg) : PySem.W.keepIn K (.ref T.f_law_fit) = true := T.F_law_fit.kp
theorem Txt.b_law_census {K : PySem.W.Frag} {mg : Str → Option Value} (T : Txt K mg) : Binds K T.d_law_census ["_law_bag_here", "_law_size"] [] := T.F_law_census.bindsN fun _ _ _ _ _ _ us hl => match us, hl with | [_, _], _ => rfl
theorem Txt.k_law_census {K : PySem.W.Frag} {mg : Str → Option Value} (T : Txt K mg) : PySem.W.keepIn K (.ref T.f_law_census) = true := T.F_law_census.kp
theorem Txt.b_law_good_plan {K : PySem.W.Frag} {mg : Str → Option Value} (T : Txt K mg) : Binds K T.d_law_good_plan ["_law_census_here"] [] := T.F_law_good_plan.bindsN fun _ _ _ _ _ _ us hl => match us, hl with | [_], _ => rfl
theorem Txt.k_law_good_plan {K : PySem.W.Frag} {mg : Str → Option Value} (T : Txt K mg) : PySem.W.keepIn K (.ref T.f_law_good_plan) = true := T.F_law_good_plan.kp
theorem Txt.b_law_spoilt {K : PySem.W.Frag} {mg : Str → Option Value} (T : Txt K mg) : Binds K T.d_law_spoilt ["_law_bag_here", "_law_plan", "_law_size"] [] := T.F_law_spoilt.bindsN fun _ _ _ _ _ _ us hl => match us, hl with | [_, _, _], _ => rfl
theorem Txt.k_law_spoilt {K : PySem.W.Frag} {mg : Str → Option Value} (T : Txt K mg) : PySem.W.keepIn K (.ref T.f_law_spoilt) = true := T.F_law_spoilt.kp
theorem Txt.b_law_fields_apart {K : PySem.W.Frag} {mg : Str → Option Value} (T : Txt K mg) : Binds K T.d_law_fields_apart ["_law_census_here"] [] := T.F_law_fields_apart.bindsN fun _ _ _ _ _ _ us hl => match us, hl with | [_], _ => rfl
theorem Txt.k_law_fields_apart {K : PySem.W.Frag} {mg : Str → Option Value} (T : Txt K mg) : PySem.W.keepIn K (.ref T.f_law_fields_apart) = true := T.F_law_fields_apart.kp
theorem Txt.b_law_own_lists {K : PySem.W.Frag} {mg : Str → Option Value} (T : Txt K mg) : Binds K T.d_law_own_lists ["_law_census_here"] [] := T.F_law_own_lists.bindsN fun _ _ _ _ _ _ us hl => match us, hl with | [_], _ => rfl
theorem Txt.k_law_own_lists {K : PySem.W.Frag} {mg : Str → Option Value} (T : Txt K mg) : PySem.W.keepIn K (.ref T.f_law_own_lists) = true := T.F_law_own_lists.kp
theorem Txt.b_law_below {K : PySem.W.Frag} {mg : Str → Option Value} (T : Txt K mg) : Binds K T.d_law_below ["_law_census_here", "_law_plan"] [] := T.F_law_below.bindsN fun _ _ _ _ _ _ us hl => match us, hl with | [_, _], _ => rfl
theorem Txt.k_law_below {K : PySem.W.Frag} {mg : Str → Option Value} (T : Txt K mg) : PySem.W.keepIn K (.ref T.f_law_below) = true := T.F_law_below.kp
theorem Txt.b_law {K : PySem.W.Frag} {mg : Str → Option Value} (T : Txt K mg) : Binds K T.d_law ["_law_script"] [] := T.F_law.bindsN fun _ _ _ _ _ _ us hl => match us, hl with | [_], _ => rfl
theorem Txt.k_law {K : PySem.W.Frag} {mg : Str → Option Value} (T : Txt K mg) : PySem.W.keepIn K (.ref T.f_law) = true := T.F_law.kp
def sp_lawT (K : PySem.W.Frag) (ps : List Addr) : Sp := fun vs H Q _ => ∃ (a : Addr) (ns : List Int), vs = [.ref a] ∧ (∀ P ∈ ps, H P = some (.tbl #[])) ∧ SqL K H a (ns.map V.int) ∧ ns.length ≤ 63 ∧ ∀ H', Q (.bl true) H'
def sp_law (K : PySem.W.Frag) : Sp := fun vs H Q _ => ∃ (a : Addr) (ns : List Int), vs = [.ref a] ∧ SqL K H a (ns.map V.int) ∧ ns.length ≤ 63 ∧ ∀ H', Q (.bl true) H'
section
variable {P : Program} {w : World} {K : PySem.W.Frag} {mg : Str → Option Value} {base : Heap}
/-! the bag, a draw, is it a whole number -/
def sp_law_bag (K : PySem.W.Frag) : Sp := fun vs H Q _ => ∃ (a : Addr) (ns : List Int), vs = [.ref a] ∧ SqL K H a (ns.map V.int) ∧ ns.length ≤ 63 ∧ ∀ H' b l, Same H H' → H b = none → H l = none → Bag H' b l ns → Q (.ref b) H'
theorem cut63 (ns : List Int) (h : ns.length ≤ 63) : cutV (ns.map V.int) none (some 63) = ns.map V.int := by
  unfold cutV
  rw [HT.sIx_none, show HT.sIx (ns.map V.int).length (ns.map V.int).length (some 63) = min 63 (ns.map V.int).length from HT.sIx_nat _ _ 63, List.length_map, Nat.min_eq_right h]
  rw [List.drop_zero, Nat.sub_zero, show ns.length = (ns.map V.int).length from (List.length_map ..).symm, List.take_length]
theorem ok_law_bag (T : Txt K mg) : FnOk P w K mg base (L2.CX P w) 1 T.f_law_bag T.d_law_bag ["_law_script"] (sp_law_bag K) := by
  refine T.F_law_bag.ok sc_law_bag (fun vs H Q E h => ?_) (fun cdv A outer s H vs Q E hr h => ?_)
  · obtain ⟨a, ns, rfl, _⟩ := h
    rfl
  · obtain ⟨a, ns, rfl, hS, hl, q⟩ := h
    refine ⟨_, PSs.nox (pss_one (ps_ret (pe_lst (pa_cons (pe_callTy call_list_of (by rfl) T.z_list (by decide +kernel) (pa_cons (pe_slice sl_list (pv 0) po_none (po_some pe_int)) pa_nil)) (pa_cons pe_int (pa_cons pe_int (pa_cons pe_int pa_nil))))))), ?_⟩
    refine ⟨_, rfl, _, rfl, _, _, rfl, hS, fun c nc => ⟨c, _, rfl, .inl (SqL.of upd_same), fun l nl => ⟨(by show 4 ≤ sizeLine; decide), fun b nb => ?_⟩⟩⟩
    rw [cut63 ns hl] at nl nb ⊢
    have nlc : c ≠ l := ne_of_none upd_same nl
    have nbl : l ≠ b := ne_of_none upd_same nb
    have s1 := same_new (o := .lst (ns.map V.int)) nc
    have s2 := Same.new (o := .lst (ns.map V.int)) s1 nl
    refine q _ b l (Same.new s2 nb) (s2.free nb) (s1.free nl) ⟨0, 0, 7, by decide, upd_same, by rw [upd_ne nbl, upd_same], hl⟩
def sp_law_pull : Sp := fun vs H Q _ => ∃ (b l : Addr) (ns : List Int) (top : Int), vs = [.ref b, .int top] ∧ Bag H b l ns ∧ 0 < top ∧ top ≤ 1000000000000000000000000000000 ∧ ∀ H' v, 0 ≤ v → v < top → SameB b H H' → Bag H' b l ns → Q (.int v) H'
theorem ok_law_pull (T : Txt K mg) : FnOk P w K mg base (L2.CX P w) 1 T.f_law_pull T.d_law_pull ["_law_bag_here", "_law_top"] sp_law_pull := by
  refine T.F_law_pull.ok sc_law_pull (fun vs H Q E h => ?_) (fun cdv A outer s H vs Q E hr h => ?_)
  · obtain ⟨b, l, ns, top, rfl, _⟩ := h
    rfl
  · obtain ⟨b, l, ns, top, rfl, hB, h0, hT, q⟩ := h
    have hlb := hB.ne
    obtain ⟨i, r, z, hi, hb, hl, hn⟩ := hB
    refine ⟨_, PSs.nox (pss_cons (ps_if (pt_cmpR op_lt (pe_ix ix_list (pv 0) pe_int (fun _ _ => rfl)) pe_int (nomark _))
 (pss_cons (ps_set (i := 2) sc_law_pull.nd rfl (Or.inl rfl) pe_int)
 (pss_mid (ps_if (pt_cmpR op_lt (pe_ix ix_list (pv 0) pe_int (fun _ _ => rfl)) (pe_callB call_len_seq (by rfl) T.z_len (by decide +kernel) (pa_cons (pe_ix ix_list (pv 0) pe_int (fun _ _ => rfl)) pa_nil)) (nomark _))
 (pss_one (ps_set (i := 2) sc_law_pull.nd rfl (Or.inl rfl) (pe_ix ix_list (pe_ix ix_list (pv 0) pe_int (fun _ _ => rfl)) (pe_ix ix_list (pv 0) pe_int (fun _ _ => rfl)) (fun _ _ => rfl))))
 pss_nil)
 (pss_cons (ps_augL (pv 0) pe_int pe_int iop_add)
 (pss_cons (ps_if (pt_cmpR op_lt (pv 2) (pe_op op_pow pe_int pe_int) (nomark _))
 (pss_cons (ps_asg (pe_op op_mod (pe_op op_add (pe_op op_add (pe_op op_mul (pe_ix ix_list (pv 0) pe_int (fun _ _ => rfl)) pe_int) (pe_op op_mul (pv 2) pe_int)) pe_int) pe_int) (pg_sub (pv 0) pe_int set_list))
 (pss_one (ps_ret (pe_op op_mod (pe_op op_fdiv (pe_ix ix_list (pv 0) pe_int (fun _ _ => rfl)) pe_int) (pv 1)))))
 pss_nil)
 (pss_one (ps_asg (pe_op op_sub (pv 2) (pe_op op_pow pe_int pe_int)) (pg_sub (pv 0) pe_int set_list)))))))
 pss_nil)
 (pss_cons (ps_set (i := 3) sc_law_pull.nd rfl (Or.inl rfl) (pe_op op_mod (pe_ix ix_list (pv 0) pe_int (fun _ _ => rfl)) (pv 1)))
 (pss_cons (ps_asg (pe_op op_fdivW (pe_ix ix_list (pv 0) pe_int (fun _ _ => rfl)) (pv 1)) (pg_sub (pv 0) pe_int set_list))
 (pss_one (ps_ret (pv 3)))))), ?_⟩
    have hT' : CDivW r top := wide_div (b := 100) h0 (by omega) (by decide) (by decide)
    walk_at "go"
    refine k_iteD (fun hr1 => ?_) (fun hr1 => ?_)
    · walk_at "go"
      -- a cell is taken
      refine ⟨fun σ1 H1 => H1 = H ∧ ∃ c : Int, σ1 = [some (.ref b), some (.int top), some (.int c), none], ?_, ?_⟩
      · walk_at "go"
        refine k_iteD (fun h1 => ?_) (fun h1 => ?_)
        · obtain ⟨c, hc⟩ : ∃ c, ns[i.toNat]? = some c := by
            rw [List.length_map] at h1
            exact ⟨ns[i.toNat]'(by omega), List.getElem?_eq_getElem (by omega)⟩
          walk_at "go"
          refine k_ixL (v := .int c) (SqL.of hl) (at_of (j := i.toNat) (by omega) (by rw [List.getElem?_map, hc]; rfl)) ?_
          walk_at "go"
          exact ⟨rfl, c, rfl⟩
        · walk_at "go"
          exact ⟨rfl, 0, rfl⟩
      · rintro σ1 H1 ⟨rfl, c, rfl⟩
        walk_at "go"
        refine k_iteD (fun h2 => ?_) (fun h2 => ?_)
        · walk_at "go"
          have hne : l ≠ b := hlb
          refine q _ _ (Int.emod_nonneg _ (by omega)) (Int.emod_lt_of_pos _ h0) (SameB.upd (SameB.upd (SameB.refl b H1))) (Bag.mk (i := i + 1) (by omega) upd_same ?_ hn)
          rw [upd_ne hne, upd_ne hne]
          exact hl
        · walk_at "go"
          have hne : l ≠ b := hlb
          refine q _ _ (Int.emod_nonneg _ (by omega)) (Int.emod_lt_of_pos _ h0) (SameB.upd (SameB.upd (SameB.upd (SameB.refl b H1)))) (Bag.mk (i := i + 1) (by omega) upd_same ?_ hn)
          rw [upd_ne hne, upd_ne hne, upd_ne hne]
          exact hl
    · walk_at "go"
      refine q _ _ (Int.emod_nonneg _ (by omega)) (Int.emod_lt_of_pos _ h0) (SameB.upd (SameB.refl b H)) (Bag.mk hi upd_same ?_ hn)
      rw [upd_ne hlb]
      exact hl
theorem k_pull {b l : Addr} {ns : List Int} {top : Int} {H : Hp} {Q : VK} {E : XK} (hB : Bag H b l ns) (h0 : 0 < top) (h1 : top ≤ 1000000000000000000000000000000)
    (h : ∀ H' v, 0 ≤ v → v < top → SameB b H H' → Bag H' b l ns → Q (.int v) H') : sp_law_pull ([.ref b, .int top] ++ []) H Q E := ⟨b, l, ns, top, rfl, hB, h0, h1, h⟩
/-- [x, ..][pull(bag, n)]: ints between lo and hi -/
theorem k_menu {K : PySem.W.Frag} {b l : Addr} {ns : List Int} {i : Nat} {n : Int} {xs : List V} {σ : L2.St} {H : Hp} {Q : VK} {E : XK} (lo hi : Int) (hσ : σ[i]? = some (some (.ref b))) (hB : Bag H b l ns) (hn : n = (xs.length : Int)) (h0 : 0 < n) (hz : xs.length ≤ 1000)
    (hP : ∀ x ∈ xs, ∃ t, x = V.int t ∧ lo ≤ t ∧ t ≤ hi) (h : ∀ H' t, lo ≤ t → t ≤ hi → SameB b H H' → Bag H' b l ns → Q (.int t) H') :
    xs.length ≤ sizeLine ∧ ∀ p, H p = none → tCall sp_law_pull [] E (tCons (tVar i) (tCons (tC (.int n)) tNil)) σ (upd H p (.lst xs)) fun y H2 => rIxL K (.ref p) y H2 Q := by
  refine ⟨sz hz, fun p np => ⟨.ref b, hσ, ?_⟩⟩
  show sp_law_pull ([.ref b, .int n] ++ []) (upd H p (.lst xs)) (fun y H2 => rIxL K (.ref p) y H2 Q) E
  refine k_pull (hB.keep (same_new np)) h0 (by omega) fun H2 v v0 v1 b2 hB2 => ?_
  obtain ⟨t, e1, t0, t1⟩ := pull_pick lo hi v0 v1 hn hP
  have npb : p ≠ b := fun z => by
    obtain ⟨_, _, _, _, hb, _⟩ := hB
    rw [z, hb] at np
    cases np
  exact k_ixL (SqL.of (b2.get npb upd_same)) e1 (h _ t t0 t1 (fun c o nc hc => b2 c o nc (same_new np c o hc)) hB2)
/-- [x, ..][pull(bag, n)]: any ints -/
theorem k_menuZ {K : PySem.W.Frag} {b l : Addr} {ns : List Int} {i : Nat} {n : Int} {xs : List V} {σ : L2.St} {H : Hp} {Q : VK} {E : XK} (hσ : σ[i]? = some (some (.ref b))) (hB : Bag H b l ns) (hn : n = (xs.length : Int)) (h0 : 0 < n) (hz : xs.length ≤ 1000)
    (hP : ∀ x ∈ xs, ∃ t, x = V.int t) (h : ∀ H' t, SameB b H H' → Bag H' b l ns → Q (.int t) H') :
    xs.length ≤ sizeLine ∧ ∀ p, H p = none → tCall sp_law_pull [] E (tCons (tVar i) (tCons (tC (.int n)) tNil)) σ (upd H p (.lst xs)) fun y H2 => rIxL K (.ref p) y H2 Q := by
  refine ⟨sz hz, fun p np => ⟨.ref b, hσ, ?_⟩⟩
  show sp_law_pull ([.ref b, .int n] ++ []) (upd H p (.lst xs)) (fun y H2 => rIxL K (.ref p) y H2 Q) E
  refine k_pull (hB.keep (same_new np)) h0 (by omega) fun H2 v v0 v1 b2 hB2 => ?_
  obtain ⟨x, e1, t, rfl⟩ := atI_pick (fun x => ∃ t, x = V.int t) v0 (by omega) hP
  have npb : p ≠ b := fun z => by
    obtain ⟨_, _, _, _, hb, _⟩ := hB
    rw [z, hb] at np
    cases np
  exact k_ixL (SqL.of (b2.get npb upd_same)) e1 (h _ t (fun c o nc hc => b2 c o nc (same_new np c o hc)) hB2)
theorem menu_in {xs : List V} {lo hi : Int} (h : xs.all (fun x => match x with | .int t => decide (lo ≤ t) && decide (t ≤ hi) | _ => false) = true) : ∀ x ∈ xs, ∃ t, x = V.int t ∧ lo ≤ t ∧ t ≤ hi := by
  intro x hx
  have q := List.all_eq_true.mp h x hx
  cases x with
  | int t =>
    simp only [Bool.and_eq_true, decide_eq_true_eq] at q
    exact ⟨t, rfl, q⟩
  | _ => cases q
/-- the bag at the start of a law -/
theorem s_bag {K : PySem.W.Frag} {a : Addr} {ns : List Int} {H : Hp} {Q : VK} {E : XK} (hS : SqL K H a (ns.map V.int)) (hl : ns.length ≤ 63) (h : ∀ H' b, Hs [isBag b ns] H' → Q (.ref b) H') : sp_law_bag K ([.ref a] ++ []) H Q E :=
  ⟨a, ns, rfl, hS, hl, fun H' b l s nb nl hb => h H' b ((Hs.bagNew (L := []) (H := fun _ => none) True.intro (fun _ _ z => by cases z) rfl rfl hb))⟩
theorem k_pullS {L R : List Asn} {b : Addr} {ns : List Int} {top : Int} {H : Hp} {Q : VK} {E : XK} (hS : Hs L H) (k : Pick L (isBag b ns) R) (h0 : 0 < top) (h1 : top ≤ 1000000000000000000000000000000)
    (h : ∀ H' v, 0 ≤ v → v < top → Hs (isBag b ns :: R) H' → Q (.int v) H') : sp_law_pull ([.ref b, .int top] ++ []) H Q E := s_pull hS k h0 h1 h
/-! papers: what a census and a plan hold -/
def nmS : Nm → Str
  | .e => ""
  | .a => "/a"
  | .b => "/b"
  | .z => "/z"
abbrev nmD (n : Nm) : PyData := .str (nmS n)
theorem nmS_inj : ∀ m n : Nm, nmS m = nmS n → m = n := by
  intro m n h
  cases m <;> cases n <;> first | rfl | (exfalso; revert h; decide +kernel)
inductive Hd
  | free | file | dead
  deriving DecidableEq
def hdD : Hd → PyData
  | .free => .tuple []
  | .file => .tuple [.tuple [.str "/a", .int 3]]
  | .dead => .tuple [.tuple [.str "", .int (-1)]]
abbrev prD (u : Pr) : PyData := .tuple [nmD u.1, .int u.2.1, .int u.2.2]
theorem tidy_nm (n : Nm) : tidy (nmD n) = true := by cases n <;> kernel_rfl
theorem shp_hd : Shp Hd hdD 2 := ⟨fun h => by cases h <;> kernel_rfl, fun h => by cases h <;> simp [hdD, PyData.depth, PyData.depthAll], fun a b e => by
  cases a <;> cases b <;> first | rfl | (simp [hdD] at e)⟩
theorem shp_nm : Shp Nm nmD 0 := ⟨tidy_nm, fun n => by simp [PyData.depth], fun m n h => nmS_inj m n (by injection h)⟩
theorem shp_pr : Shp Pr prD 1 := ⟨fun u => by
  show (tidy (nmD u.1) && (tidy (.int u.2.1) && (tidy (.int u.2.2) && true))) = true
  rw [tidy_nm]
  rfl, fun u => by simp [prD, PyData.depth, PyData.depthAll], fun u v h => by
  obtain ⟨u1, u2, u3⟩ := u
  obtain ⟨v1, v2, v3⟩ := v
  simp only [prD, PyData.tuple.injEq, List.cons.injEq, PyData.int.injEq, PyData.str.injEq, and_true] at h
  obtain ⟨h1, h2, h3⟩ := h
  rw [nmS_inj _ _ h1, h2, h3]⟩
structure Cen where
  size : Int
  held : List Hd
  put : List Pr
  pled : List (Int × Int)
  spare : Int
  deriving DecidableEq
def cenD (c : Cen) : PyData := .tuple [.int c.size, .list (c.held.map hdD), .list (c.put.map prD), .list (c.pled.map dPair), .int c.spare]
theorem shp_cen : Shp Cen cenD 4 := ⟨fun c => by simp [cenD, tidy, tidyAll, tidy_map shp_hd.ti, tidy_map shp_pr.ti, tidy_map shp_pair.ti], fun c => by
  have h1 := depth_map shp_hd.dp c.held
  have h2 := depth_map shp_pr.dp c.put
  have h3 := depth_map shp_pair.dp c.pled
  simp only [cenD, PyData.depth, PyData.depthAll]
  omega, fun a b h => by
  obtain ⟨a1, a2, a3, a4, a5⟩ := a
  obtain ⟨b1, b2, b3, b4, b5⟩ := b
  simp only [cenD, PyData.tuple.injEq, List.cons.injEq, PyData.int.injEq, PyData.list.injEq, and_true] at h
  obtain ⟨h1, h2, h3, h4, h5⟩ := h
  rw [h1, map_inj shp_hd.inj h2, map_inj shp_pr.inj h3, map_inj shp_pair.inj h4, h5]⟩
def cenF (n : Int) (h p g : Addr) (s : Int) : List (Str × V) := [("size", .int n), ("held", .ref h), ("put_by", .ref p), ("pledged", .ref g), ("spare", .int s)]
def sp_Census_init (C : Addr) : Sp := fun vs H Q _ => ∃ (x a1 a2 a3 : Addr) (n s : Int) (d1 d2 d3 : List PyData) (L : List Asn), vs = [.ref x, .int n, .ref a1, .ref a2, .ref a3, .int s] ∧ Hs (obj C x [] :: L) H ∧ HasL L a1 d1 ∧ HasL L a2 d2 ∧ HasL L a3 d3 ∧
  d1.length ≤ 500 ∧ d2.length ≤ 500 ∧ d3.length ≤ 500 ∧ ∀ l1 l2 l3 H', Hs (obj C x (cenF n l1 l2 l3 s) :: isL l1 d1 :: isL l2 d2 :: isL l3 d3 :: L) H' → Q .non H'
theorem ok_Censusx_initx (T : Txt K mg) : FnOk P w K mg base (L2.CX P w) 1 T.f_Censusx_initx T.d_Censusx_initx ["self", "size", "held", "put_by", "pledged", "spare"] (sp_Census_init T.c_Census) := by
  refine T.F_Censusx_initx.ok sc_Censusx_initx (fun vs H Q E h => ?_) (fun cdv A outer s H vs Q E hr h => ?_)
  · obtain ⟨x, a1, a2, a3, n, s, d1, d2, d3, L, rfl, _⟩ := h
    rfl
  · obtain ⟨x, a1, a2, a3, n, s, d1, d2, d3, L, rfl, hS, k1, k2, k3, l1, l2, l3, q⟩ := h
    have cl := T.cl_Census
    have n1 := T.n_Census_size
    have n2 := T.n_Census_held
    have n3 := T.n_Census_put_by
    have n4 := T.n_Census_pledged
    have n5 := T.n_Census_spare
    refine ⟨_, PSs.nox (pss_cons (ps_fldS (pv 0) (pv 1) rfl)
 (pss_cons (ps_fldS (pv 0) (pe_callTy c_listOf (by rfl) T.z_list (by decide +kernel) (pa_cons (pv 2) pa_nil)) rfl)
 (pss_cons (ps_fldS (pv 0) (pe_callTy c_listOf (by rfl) T.z_list (by decide +kernel) (pa_cons (pv 3) pa_nil)) rfl)
 (pss_cons (ps_fldS (pv 0) (pe_callTy c_listOf (by rfl) T.z_list (by decide +kernel) (pa_cons (pv 4) pa_nil)) rfl)
 (pss_one (ps_fldS (pv 0) (pv 5) rfl)))))), ?_⟩
    show (_ : TS) _ [some _, some _, some _, some _, some _, some _] _
    walk_at "gs"
    rename Hs _ _ => hS1
    refine s_listOf hS1 k1.there fun p1 H1 hS2 => ?_
    clear hS1
    walk_at "gs"
    refine s_fldN (fs := [("size", .int n)]) hS2 (.there .here) cl n2 rfl (by simp) fun H3 hS3 => ?_
    clear hS2
    walk_at "gs"
    refine s_listOf hS3 k2.there.there fun p2 H4 hS4 => ?_
    clear hS3
    walk_at "gs"
    refine s_fldN (fs := [("size", .int n), ("held", .ref p1)]) hS4 (.there .here) cl n3 rfl (by simp) fun H5 hS5 => ?_
    clear hS4
    walk_at "gs"
    refine s_listOf hS5 k3.there.there.there fun p3 H6 hS6 => ?_
    clear hS5
    walk_at "gs"
    refine s_fldN (fs := [("size", .int n), ("held", .ref p1), ("put_by", .ref p2)]) hS6 (.there .here) cl n4 rfl (by simp) fun H7 hS7 => ?_
    clear hS6
    walk_at "gs"
    refine s_fldN (fs := [("size", .int n), ("held", .ref p1), ("put_by", .ref p2), ("pledged", .ref p3)]) hS7 .here cl n5 rfl (by simp) fun H8 hS8 => ?_
    walk_at "gs"
    exact q p1 p2 p3 _ (by walk_at "pm0")
def sp_Census_len (C : Addr) : Sp := fun vs H Q _ => ∃ (x l1 l2 l3 : Addr) (n s : Int) (d1 : List PyData) (L : List Asn), vs = [.ref x] ∧ Hs (obj C x (cenF n l1 l2 l3 s) :: isL l1 d1 :: L) H ∧ d1.length ≤ 500 ∧ Q (.int d1.length) H
theorem ok_Censusx_lenx (T : Txt K mg) : FnOk P w K mg base (L2.CX P w) 1 T.f_Censusx_lenx T.d_Censusx_lenx ["self"] (sp_Census_len T.c_Census) := by
  refine T.F_Censusx_lenx.ok sc_Censusx_lenx (fun vs H Q E h => ?_) (fun cdv A outer s H vs Q E hr h => ?_)
  · obtain ⟨x, l1, l2, l3, n, s, d1, L, rfl, _⟩ := h
    rfl
  · obtain ⟨x, l1, l2, l3, n, s, d1, L, rfl, hS, hl, q⟩ := h
    have cl := T.cl_Census
    have n2 := T.n_Census_held
    refine ⟨_, PSs.nox (pss_one (ps_ret (pe_callB c_len (by rfl) T.z_len (by decide +kernel) (pa_cons (pe_fld (pv 0) rfl) pa_nil)))), ?_⟩
    show (_ : TS) _ [some _] _
    unfold cenF at hS
    walk_at "gs"
    exact q
/-- what == of two censuses asks -/
theorem cen_dp {K : PySem.W.Frag} {H : Hp} {L : List Asn} {t l1 l2 l3 : Addr} {c : Cen} (ht : H t = some (.tup [.int c.size, .ref l1, .ref l2, .ref l3, .int c.spare])) (hS : Hs L H) (k1 : HasL L l1 (c.held.map hdD)) (k2 : HasL L l2 (c.put.map prD)) (k3 : HasL L l3 (c.pled.map dPair)) : Dp K H (.ref t) (cenD c) :=
  .tup (SqT.of ht) (.cons (.int _) (.cons (k1.dp hS) (.cons (k2.dp hS) (.cons (k3.dp hS) (.cons (.int _) .nil)))))
def sp_Census_eq (C : Addr) : Sp := fun vs H Q _ => ∃ (x y l1 l2 l3 m1 m2 m3 : Addr) (c d : Cen) (L : List Asn), vs = [.ref x, .ref y] ∧ Hs (obj C x (cenF c.size l1 l2 l3 c.spare) :: isL l1 (c.held.map hdD) :: isL l2 (c.put.map prD) :: isL l3 (c.pled.map dPair) ::
    obj C y (cenF d.size m1 m2 m3 d.spare) :: isL m1 (d.held.map hdD) :: isL m2 (d.put.map prD) :: isL m3 (d.pled.map dPair) :: L) H ∧ ∀ H', Hs (obj C x (cenF c.size l1 l2 l3 c.spare) :: isL l1 (c.held.map hdD) :: isL l2 (c.put.map prD) :: isL l3 (c.pled.map dPair) ::
    obj C y (cenF d.size m1 m2 m3 d.spare) :: isL m1 (d.held.map hdD) :: isL m2 (d.put.map prD) :: isL m3 (d.pled.map dPair) :: L) H' → Q (.bl (decide (c = d))) H'
theorem ok_Censusx_eqx (T : Txt K mg) : FnOk P w K mg base (L2.CX P w) 1 T.f_Censusx_eqx T.d_Censusx_eqx ["self", "other"] (sp_Census_eq T.c_Census) := by
  refine T.F_Censusx_eqx.ok sc_Censusx_eqx (fun vs H Q E h => ?_) (fun cdv A outer s H vs Q E hr h => ?_)
  · obtain ⟨x, y, l1, l2, l3, m1, m2, m3, c, d, L, rfl, _⟩ := h
    rfl
  · obtain ⟨x, y, l1, l2, l3, m1, m2, m3, c, d, L, rfl, hS, q⟩ := h
    have cl := T.cl_Census
    have n1 := T.n_Census_size
    have n2 := T.n_Census_held
    have n3 := T.n_Census_put_by
    have n4 := T.n_Census_pledged
    have n5 := T.n_Census_spare
    unfold cenF at hS q
    refine ⟨_, PSs.nox (pss_cons (ps_if (pt_not (pt_val (pe_callB call_isi (by rfl) T.z_isinstance (by decide +kernel) (pa_cons (pv 1) (pa_cons (pe_glob (v := .ref T.c_Census) (by rfl) T.g_Census rfl) pa_nil)))))
 (pss_one (ps_ret pe_bl))
 pss_nil)
 (pss_cons (ps_set (i := 2) sc_Censusx_eqx.nd rfl (Or.inl rfl) (pe_tupC (pa_cons (pe_fld (pv 0) rfl) (pa_cons (pe_fld (pv 0) rfl) (pa_cons (pe_fld (pv 0) rfl) (pa_cons (pe_fld (pv 0) rfl) (pa_cons (pe_fld (pv 0) rfl) pa_nil)))))))
 (pss_one (ps_ret (pe_cmpR (op_eqD hr.units) (pv 2) (pe_tupC (pa_cons (pe_fld (pv 1) rfl) (pa_cons (pe_fld (pv 1) rfl) (pa_cons (pe_fld (pv 1) rfl) (pa_cons (pe_fld (pv 1) rfl) (pa_cons (pe_fld (pv 1) rfl) pa_nil)))))) (nomark _)))))), ?_⟩
    show (_ : TS) _ [some _, some _, none] _
    walk_at "gs"
    obtain ⟨dy, ey⟩ := Hs.at_ hS (k := .there (.there (.there (.there .here))))
    refine k_isiO (T.ow_Census.tyx ey) T.ow_Census.self ?_
    walk_at "gs"
    rename_i t1 _ t2 H9 hS2
    have a1 : H9 t1 = some (.tup [.int c.size, .ref l1, .ref l2, .ref l3, .int c.spare]) := Hs.at_ hS2 (A := cell t1 _) (k := by walk_at "pk")
    have a2 : H9 t2 = some (.tup [.int d.size, .ref m1, .ref m2, .ref m3, .int d.spare]) := Hs.at_ hS2 (A := cell t2 _) (k := by walk_at "pk")
    refine k_eqD shp_cen (by decide) (p := c) (q := d) (cen_dp a1 hS2 (by walk_at "hl") (by walk_at "hl") (by walk_at "hl")) (cen_dp a2 hS2 (by walk_at "hl") (by walk_at "hl") (by walk_at "hl")) ?_
    exact q _ (by walk_at "pm0")
/-! sums -/
theorem dv_pr {H : Hp} {y : V} {u : Pr} (h : Dv H y (prD u)) : ∃ t, y = .ref t ∧ H t = some (.tup [.str (nmS u.1), .int u.2.1, .int u.2.2]) := by
  obtain ⟨t, us, rfl, h1, h2⟩ := h.tupOf
  cases h2 with
  | cons a h2 =>
    cases h2 with
    | cons b h2 =>
      cases h2 with
      | cons c h2 =>
        cases h2
        cases a
        cases b
        cases c
        exact ⟨t, rfl, h1⟩
def owed (c : Cen) : Int := (c.put.map fun u => u.2.1 + u.2.2).sum
def plSum (c : Cen) : Int := (c.pled.map (·.2)).sum
def heldN (c : Cen) : Nat := (c.held.filter fun h => decide (h ≠ .free)).length
/-- the pieces of a census -/
abbrev cenP (C x l1 l2 l3 : Addr) (c : Cen) (L : List Asn) : List Asn := obj C x (cenF c.size l1 l2 l3 c.spare) :: isL l1 (c.held.map hdD) :: isL l2 (c.put.map prD) :: isL l3 (c.pled.map dPair) :: L
structure Fits (c : Cen) : Prop where
  h : c.held.length ≤ 100
  p : c.put.length ≤ 100
  g : c.pled.length ≤ 100
def sp_sums_of (C : Addr) : Sp := fun vs H Q _ => ∃ (x l1 l2 l3 : Addr) (c : Cen) (L : List Asn), vs = [.ref x] ∧ Hs (cenP C x l1 l2 l3 c L) H ∧ Fits c ∧
  ∀ t H', Hs (dv (.ref t) (.tuple [.int (heldN c), .int (owed c), .int (plSum c)]) :: cenP C x l1 l2 l3 c L) H' → Q (.ref t) H'
theorem ok_sums_of (T : Txt K mg) : FnOk P w K mg base (L2.CX P w) 1 T.f_sums_of T.d_sums_of ["census"] (sp_sums_of T.c_Census) := by
  refine T.F_sums_of.ok sc_sums_of (fun vs H Q E h => ?_) (fun cdv A outer s H vs Q E hr h => ?_)
  · obtain ⟨x, l1, l2, l3, c, L, rfl, _⟩ := h
    rfl
  · obtain ⟨x, l1, l2, l3, c, L, rfl, hS, f, q⟩ := h
    have cl := T.cl_Census
    have n1 := T.n_Census_size
    have n2 := T.n_Census_held
    have n3 := T.n_Census_put_by
    have n4 := T.n_Census_pledged
    have n5 := T.n_Census_spare
    have f1 := f.h
    have f2 := f.p
    have f3 := f.g
    unfold cenP cenF at hS
    refine ⟨_, PSs.nox (pss_cons (ps_set (i := 1) sc_sums_of.nd rfl (Or.inl rfl) (pe_callB c_len (by rfl) T.z_len (by decide +kernel) (pa_cons (pe_lc (own := [("row", 3)]) (g := gName 3) (by rfl) sc_sums_of.nd (pi_list (pe_fld (pv 0) rfl)) (blkOk_by (own := [("row", 3)]) (N := N_sums_of) (sc := defScope s_sums_of) (by decide +kernel)) (fun _ _ _ _ _ => (pg_name (i := 3) sc_sums_of.nd rfl (Or.inl rfl))) (fun _ _ _ _ _ => (pts_one (pt_cmpR (neD_K K rfl hr.units) (pv 3) (pe_tupS pa_nil) (nomark _)))) (fun _ _ _ _ _ => (pv 3))) pa_nil)))
 (pss_cons (ps_set (i := 2) sc_sums_of.nd rfl (Or.inl rfl) (pe_callB (cr_sum rfl) (by rfl) T.z_sum (by decide +kernel) (pa_cons (pe_lc (own := [("path", 4), ("wants", 5), ("sheets", 6)]) (tt := tYes) (by rfl) sc_sums_of.nd (pi_list (pe_fld (pv 0) rfl)) (blkOk_by (own := [("path", 4), ("wants", 5), ("sheets", 6)]) (N := N_sums_of) (sc := defScope s_sums_of) (by decide +kernel)) (fun _ _ _ _ _ => (pg_tupK K 3 rfl rfl (pgs_cons (pg_name (i := 4) sc_sums_of.nd rfl (Or.inl rfl)) (pgs_cons (pg_name (i := 5) sc_sums_of.nd rfl (Or.inl rfl)) (pgs_cons (pg_name (i := 6) sc_sums_of.nd rfl (Or.inl rfl)) pgs_nil))))) (fun _ _ _ _ _ => pts_nil) (fun _ _ _ _ _ => (pe_op op_add (pv 5) (pv 6)))) pa_nil)))
 (pss_one (ps_ret (pe_tupS (pa_cons (pv 1) (pa_cons (pv 2) (pa_cons (pe_callB (cr_sum rfl) (by rfl) T.z_sum (by decide +kernel) (pa_cons (pe_lc (own := [("ticket", 7), ("many", 8)]) (tt := tYes) (by rfl) sc_sums_of.nd (pi_list (pe_fld (pv 0) rfl)) (blkOk_by (own := [("ticket", 7), ("many", 8)]) (N := N_sums_of) (sc := defScope s_sums_of) (by decide +kernel)) (fun _ _ _ _ _ => (pg_tupK K 2 rfl rfl (pgs_cons (pg_name (i := 7) sc_sums_of.nd rfl (Or.inl rfl)) (pgs_cons (pg_name (i := 8) sc_sums_of.nd rfl (Or.inl rfl)) pgs_nil)))) (fun _ _ _ _ _ => pts_nil) (fun _ _ _ _ _ => (pv 8))) pa_nil)) pa_nil)))))))), ?_⟩
    show (_ : TS) _ [some _, none, none, none, none, none, none, none, none] _
    walk_at "gs"
    refine s_lcL (Fm c.held (fun h => decide (h ≠ .free)) hdD _) hS (by walk_at "pk") Fm.start ?_ ?_
    · rintro D i u y acc us H10 L' hu hF hl2 hS14
      obtain rfl := hF.2
      have hi := (List.getElem?_eq_some_iff.mp hu).1
      walk_at "gs"
      rename Hs _ _ => hS15
      refine s_neT shp_hd (by decide) (u := u) (w := .free) (hS15.dvAt (.there .here)) (hS15.dvAt .here) ?_
      refine ⟨_, rfl, ?_⟩
      refine k_iteN (fun h1 => ?_) (fun h1 => ?_)
      · walk_at "gs"
        exact lc_putF hF hu (by simp [h1]) hS15 (.there (.there .here)) hl2 (by omega) (hS15.dvAt (.there .here)) (.drop (.drop .refl))
      · exact lc_nonF hF hu (by simp [h1]) hS15 (.there (.there .here)) hl2 (.drop (.drop .refl))
    rintro D acc H10 L' hF hl2 hS14
    obtain ⟨rfl, rfl⟩ := hF.all rfl
    clear hS
    walk_at "gs"
    refine s_lcL (Fm c.put (fun _ => true) (fun u => .int (u.2.1 + u.2.2)) _) hS14 (by walk_at "pk") Fm.start ?_ ?_
    · rintro D2 i u y acc us H11 L' hu hF hl2 hS15
      obtain rfl := hF.2
      obtain ⟨t, rfl, _⟩ := dv_pr hS15.hd
      have hi := (List.getElem?_eq_some_iff.mp hu).1
      walk_at "gs"
      exact lc_putF hF hu rfl hS15 (.there .here) hl2 (by omega) (.int _) (.drop .refl)
    rintro D2 acc H11 L' hF2 hl2 hS15
    obtain ⟨rfl, rfl⟩ := hF2.all rfl
    rw [filter_true, show (c.put.map fun u => PyData.int (u.2.1 + u.2.2)) = (c.put.map fun u => u.2.1 + u.2.2).map .int by rw [List.map_map]; rfl] at hS15
    clear hS14
    walk_at "gs"
    refine s_lcL (Fm c.pled (fun _ => true) (fun u => .int u.2) _) hS15 (by walk_at "pk") Fm.start ?_ ?_
    · rintro D3 i u y acc us H12 L' hu hF hl2 hS16
      obtain rfl := hF.2
      obtain ⟨t, rfl, _⟩ := dv_pair hS16.hd
      have hi := (List.getElem?_eq_some_iff.mp hu).1
      walk_at "gs"
      exact lc_putF hF hu rfl hS16 (.there .here) hl2 (by omega) (.int _) (.drop .refl)
    rintro D3 acc H12 L' hF3 hl2 hS16
    obtain ⟨rfl, rfl⟩ := hF3.all rfl
    rw [filter_true, show (c.pled.map fun u => PyData.int u.2) = (c.pled.map (·.2)).map .int by rw [List.map_map]; rfl] at hS16
    clear hS15
    walk_at "gs"
    exact q _ _ (by walk_at "pm0")
/-! adds_up -/
def addsB (c : Cen) : Bool := decide ((c.held.length : Int) = c.size) && decide (0 ≤ c.spare) && decide (c.spare + ((heldN c : Int) + (owed c + plSum c)) = c.size)
theorem s_sumTS {K : PySem.W.Frag} {L R : List Asn} {H : Hp} {Q : VK} {a : Addr} {k : Int} {ns : List Int} (hS : Hs L H) (h1 : Pick L (dv (.ref a) (.tuple (ns.map PyData.int))) R) (h : Q (.int (k + ns.sum)) H) : rSumTS K [.ref a] [.int k] H Q :=
  ⟨a, ns, k, rfl, rfl, SqT.of (Dv.tupInts (hS.dvAt h1)), h⟩
theorem s_sumT {K : PySem.W.Frag} {L R : List Asn} {H : Hp} {Q : VK} {a : Addr} {ns : List Int} (hS : Hs L H) (h1 : Pick L (dv (.ref a) (.tuple (ns.map PyData.int))) R) (h : Q (.int ns.sum) H) : rSumT K [.ref a] H Q :=
  ⟨a, ns, rfl, SqT.of (Dv.tupInts (hS.dvAt h1)), h⟩
theorem s_sums {L : List Asn} {H : Hp} {Q : VK} {E : XK} {C x l1 l2 l3 : Addr} {c : Cen} (hS : Hs (cenP C x l1 l2 l3 c L) H) (f : Fits c) (h : ∀ t H', Hs (dv (.ref t) (.tuple [.int (heldN c), .int (owed c), .int (plSum c)]) :: cenP C x l1 l2 l3 c L) H' → Q (.ref t) H') : sp_sums_of C ([.ref x] ++ []) H Q E :=
  ⟨x, l1, l2, l3, c, L, rfl, hS, f, h⟩
def sp_adds_up (C : Addr) : Sp := fun vs H Q _ => ∃ (x l1 l2 l3 : Addr) (c : Cen) (L : List Asn), vs = [.ref x] ∧ Hs (cenP C x l1 l2 l3 c L) H ∧ Fits c ∧ ∀ H', Hs (cenP C x l1 l2 l3 c L) H' → Q (.bl (addsB c)) H'
theorem ok_adds_up (T : Txt K mg) : FnOk P w K mg base (L2.CX P w) 3 T.f_adds_up T.d_adds_up ["census"] (sp_adds_up T.c_Census) := by
  refine T.F_adds_up.ok sc_adds_up (fun vs H Q E h => ?_) (fun cdv A outer s H vs Q E hr h => ?_)
  · obtain ⟨x, l1, l2, l3, c, L, rfl, _⟩ := h
    rfl
  · obtain ⟨x, l1, l2, l3, c, L, rfl, hS, f, q⟩ := h
    have cl := T.cl_Census
    have n1 := T.n_Census_size
    have n2 := T.n_Census_held
    have n5 := T.n_Census_spare
    have f1 := f.h
    have hS0 := hS
    unfold cenP cenF at hS
    refine ⟨_, PSs.nox (pss_cons (ps_if (PW.pt (pw_or (pt_cmpR op_ne (pe_callB c_len (by rfl) T.z_len (by decide +kernel) (pa_cons (pe_fld (pv 0) rfl) pa_nil)) (pe_fld (pv 0) rfl) (nomark _)) (pw_or1 (pt_cmpR op_lt (pe_fld (pv 0) rfl) pe_int (nomark _)))))
 (pss_one (ps_ret pe_bl))
 pss_nil)
 (pss_one (ps_ret (pe_cmpR op_eq (pe_callBK (cr_sumTS rfl) (by rfl) T.z_sum (by decide +kernel) (pa_cons (pe_call (ok_sums_of (base := base) T) (hr.mono (by decide)) (by rfl) T.g_sums_of T.k_sums_of T.b_sums_of .nil passL (pa_cons (pv 0) pa_nil)) pa_nil) (pk_cons (pe_fld (pv 0) rfl) pk_nil)) (pe_fld (pv 0) rfl) (nomark _))))), ?_⟩
    show (_ : TS) _ [some _] _
    walk_at "gs"
    refine k_iteN (fun h1 => ?_) (fun h1 => ?_)
    · walk_at "gs"
      have e : addsB c = false := by
        unfold addsB
        rw [decide_eq_false (fun z => h1 (by rw [z]))]
        rfl
      rw [← e]
      exact q _ hS0
    · have h2 : (c.held.length : Int) = c.size := by injection h1
      walk_at "gs"
      refine k_iteD (fun h3 => ?_) (fun h3 => ?_)
      · walk_at "gs"
        have e : addsB c = false := by
          unfold addsB
          rw [decide_eq_false (p := 0 ≤ c.spare) (by omega), Bool.and_false]
          rfl
        rw [← e]
        exact q _ hS0
      · walk_at "gs"
        clear hS
        refine s_sums hS0 f fun t H1 hS1 => ?_
        unfold cenP cenF at hS1
        walk_at "gs"
        refine s_sumTS (ns := [(heldN c : Int), owed c, plSum c]) hS1 .here ?_
        walk_at "gs"
        have e : decide (V.int (c.spare + [(heldN c : Int), owed c, plSum c].sum) = V.int c.size) = addsB c := by
          have e2 : [(heldN c : Int), owed c, plSum c].sum = (heldN c : Int) + (owed c + plSum c) := by simp
          unfold addsB
          rw [e2, decide_eq_true h2, decide_eq_true (p := 0 ≤ c.spare) (by omega)]
          by_cases z : c.spare + ((heldN c : Int) + (owed c + plSum c)) = c.size
          · rw [decide_eq_true (by rw [z]), decide_eq_true z]
            rfl
          · rw [decide_eq_false (fun y => z (by injection y)), decide_eq_false z]
            rfl
        rw [e]
        exact q _ hS1.tl
/-! bears -/
theorem s_cntI {K : PySem.W.Frag} {L : List Asn} {H : Hp} {Q : VK} {p : Addr} {ks : List Int} {j : Int} (hS : Hs L H) (k : HasL L p (ks.map PyData.int)) (h : Q (.int (ks.count j : Nat)) H) : rCntD K (.ref p) [.int j] H Q := by
  refine ⟨p, .int j, .int j, ks.map PyData.int, rfl, rfl, k.dp hS, .int j, shaped_of ((shp_list shp_int).ti ks) (Nat.le_trans ((shp_list shp_int).dp ks) (by decide)), shaped_of (shp_int.ti j) (Nat.le_trans (shp_int.dp j) (by decide)), ?_⟩
  have e : (ks.map PyData.int).countP (fun z => PyData.eqv z (.int j)) = ks.count j := by
    rw [List.countP_map]
    unfold List.count
    refine List.countP_congr fun k _ => ?_
    simp only [Function.comp, beq_iff_eq]
    constructor
    · intro z
      by_cases h : k = j
      · exact h
      · rw [eqv_false (shp_int.ti k) (shp_int.ti j) fun y => h (by injection y)] at z
        cases z
    · rintro rfl
      exact eqv_true (shp_int.ti k)
  rw [e]
  exact h
theorem s_sl13 {K : PySem.W.Frag} {L R : List Asn} {H : Hp} {Q : VK} {t : Addr} {d1 d2 d3 : PyData} (hS : Hs L H) (k : Pick L (dv (.ref t) (.tuple [d1, d2, d3])) R) (h : ∀ p H', Hs (dv (.ref p) (.tuple [d2, d3]) :: L) H' → Q (.ref p) H') : rSlT K (.ref t) (some 1) none H Q := by
  obtain ⟨t', us, e, h1, h2⟩ := (hS.dvAt k).tupOf
  cases e
  cases h2 with
  | cons a h2 =>
    rename_i x1 r1
    have h2' := h2
    cases h2 with
    | cons b h2 =>
      cases h2 with
      | cons c h2 =>
        cases h2
        exact ⟨t, _, rfl, SqT.of h1, (fun z => absurd z.1 (by show ¬ (HT.sIx 3 0 (some 1) = 0); decide)), fun p np => h p _ (Hs.newT np hS h2')⟩
def okB (c : Cen) (b : Int) : Prop := 0 ≤ b ∧ b < c.held.length ∧ c.held[b.toNat]? = some .free
theorem s_cntT {α : Type} {f : α → PyData} {n : Nat} [DecidableEq α] (S : Shp α f n) (hn : n + 1 ≤ 64) {K : PySem.W.Frag} {L : List Asn} {H : Hp} {Q : VK} {p : Addr} {y : V} {xs : List α} {u : α} (hS : Hs L H) (k : HasL L p (xs.map f)) (hy : Dv H y (f u)) (h : Q (.int (xs.countP fun z => decide (z = u) : Nat)) H) : rCntD K (.ref p) [y] H Q := by
  refine ⟨p, y, f u, xs.map f, rfl, rfl, k.dp hS, hy.dp, shaped_of ((shp_list S).ti xs) (Nat.le_trans ((shp_list S).dp xs) hn), shaped_of (S.ti u) (Nat.le_trans (S.dp u) (by omega)), ?_⟩
  have e : (xs.map f).countP (fun z => PyData.eqv z (f u)) = xs.countP fun z => decide (z = u) := by
    rw [List.countP_map]
    refine List.countP_congr fun k _ => ?_
    simp only [Function.comp, decide_eq_true_eq]
    constructor
    · intro z
      by_cases h : k = u
      · exact h
      · rw [eqv_false (S.ti k) (S.ti u) fun y => h (S.inj _ _ y)] at z
        cases z
    · rintro rfl
      exact eqv_true (S.ti k)
  rw [e]
  exact h
theorem s_sl32 {K : PySem.W.Frag} {L R : List Asn} {H : Hp} {Q : VK} {t : Addr} {d1 d2 d3 : PyData} (hS : Hs L H) (k : Pick L (dv (.ref t) (.tuple [d1, d2, d3])) R) (h : ∀ p H', Hs (dv (.ref p) (.tuple [d1, d2]) :: L) H' → Q (.ref p) H') : rSlT K (.ref t) none (some 2) H Q := by
  obtain ⟨t', us, e, h1, h2⟩ := (hS.dvAt k).tupOf
  cases e
  cases h2 with
  | cons a h2 =>
    cases h2 with
    | cons b h2 =>
      cases h2 with
      | cons c h2 =>
        cases h2
        exact ⟨t, _, rfl, SqT.of h1, (fun z => absurd z.2 (by show ¬ (HT.sIx 3 3 (some 2) = 3); decide)), fun p np => h p _ (Hs.newT np hS (.cons a (.cons b .nil)))⟩
abbrev p2D (u : Nm × Int) : PyData := .tuple [nmD u.1, .int u.2]
theorem shp_p2 : Shp (Nm × Int) p2D 1 := ⟨fun u => by
  show (tidy (nmD u.1) && (tidy (.int u.2) && true)) = true
  rw [tidy_nm]
  rfl, fun u => by simp [p2D, PyData.depth, PyData.depthAll], fun u v h => by
  obtain ⟨u1, u2⟩ := u
  obtain ⟨v1, v2⟩ := v
  simp only [p2D, PyData.tuple.injEq, List.cons.injEq, PyData.int.injEq, PyData.str.injEq, and_true] at h
  obtain ⟨h1, h2⟩ := h
  rw [nmS_inj _ _ h1, h2]⟩
theorem put_back {C x l1 l2 l3 p : Addr} {c : Cen} {plan : List Pr} {L : List Asn} {us : List V} {H : Hp} (h : Hs (isV l2 us (c.put.map prD) :: obj C x (cenF c.size l1 l2 l3 c.spare) :: isL l1 (c.held.map hdD) :: isL l3 (c.pled.map dPair) :: isL p (plan.map prD) :: L) H) : Hs (cenP C x l1 l2 l3 c (isL p (plan.map prD) :: L)) H := by
  have z := h.closeL
  walk_at "pm0"
theorem tick_back {C x l1 l2 l3 p : Addr} {c : Cen} {plan : List Pr} {L : List Asn} {us : List V} {H : Hp} (h : Hs (isV l3 us (c.pled.map dPair) :: obj C x (cenF c.size l1 l2 l3 c.spare) :: isL l1 (c.held.map hdD) :: isL l2 (c.put.map prD) :: isL p (plan.map prD) :: L) H) : Hs (cenP C x l1 l2 l3 c (isL p (plan.map prD) :: L)) H := by
  have z := h.closeL
  walk_at "pm0"
theorem tick_cnt {plan : List Pr} {t : Int} : ((plan.map fun u => (u.1, u.2.1)).count (Nm.e, t)) = (plan.map fun u => (u.1, u.2.1)).countP fun z => decide (z = (Nm.e, t)) := by
  unfold List.count
  refine List.countP_congr fun z _ => ?_
  simp only [beq_iff_eq, decide_eq_true_eq]
def sp_bears (C : Addr) : Sp := fun vs H Q _ => ∃ (x l1 l2 l3 p : Addr) (c : Cen) (plan : List Pr) (L : List Asn), vs = [.ref x, .ref p] ∧ Hs (cenP C x l1 l2 l3 c (isL p (plan.map prD) :: L)) H ∧ Fits c ∧ plan.length ≤ 100 ∧
  ∀ b H', (b = true ↔ Bear (okB c) c.put c.pled plan) → Hs (cenP C x l1 l2 l3 c (isL p (plan.map prD) :: L)) H' → Q (.bl b) H'
theorem ok_bears (T : Txt K mg) : FnOk P w K mg base (L2.CX P w) 3 T.f_bears T.d_bears ["census", "plan"] (sp_bears T.c_Census) := by
  refine T.F_bears.ok sc_bears (fun vs H Q E h => ?_) (fun cdv A outer s H vs Q E hr h => ?_)
  · obtain ⟨x, l1, l2, l3, p, c, plan, L, rfl, _⟩ := h
    rfl
  · obtain ⟨x, l1, l2, l3, p, c, plan, L, rfl, hS, f, hp, q⟩ := h
    have cl := T.cl_Census
    have n1 := T.n_Census_size
    have n2 := T.n_Census_held
    have n3 := T.n_Census_put_by
    have n4 := T.n_Census_pledged
    have n5 := T.n_Census_spare
    have f1 := f.h
    have f2 := f.p
    have f3 := f.g
    refine ⟨_, PSs.nox (pss_cons (ps_setLc (i := 2) (own := [("path", 4), ("page", 11), ("block", 3)]) (tt := tYes) (by rfl) sc_bears.nd rfl rfl (sw_true rfl rfl rfl (by decide +kernel)) (pi_list (pv 1)) (blkOk_by (own := [("path", 4), ("page", 11), ("block", 3)]) (N := N_bears) (sc := defScope s_bears) (by decide +kernel)) (fun _ _ _ _ _ => (pg_tupK K 3 rfl rfl (pgs_cons (pg_name (i := 4) sc_bears.nd rfl (Or.inl rfl)) (pgs_cons (pg_name (i := 11) sc_bears.nd rfl (Or.inl rfl)) (pgs_cons (pg_name (i := 3) sc_bears.nd rfl (Or.inl rfl)) pgs_nil))))) (fun _ _ _ _ _ => pts_nil) (fun _ _ _ _ _ => (pv 3)))
 (pss_cons (ps_if (PW.pt (pw_or (pt_cmpR op_ne (pe_lenSetD (by rfl) T.z_len (by rfl) T.z_set (pv 2)) (pe_callB c_len (by rfl) T.z_len (by decide +kernel) (pa_cons (pv 2) pa_nil)) (nomark _)) (pw_or1 (pt_cmpR op_ne (pe_callB c_len (by rfl) T.z_len (by decide +kernel) (pa_cons (pv 1) pa_nil)) (pe_callB (cr_sumT rfl) (by rfl) T.z_sum (by decide +kernel) (pa_cons (pe_slice sl_tup (pe_call (ok_sums_of (base := base) T) (hr.mono (by decide)) (by rfl) T.g_sums_of T.k_sums_of T.b_sums_of .nil passL (pa_cons (pv 0) pa_nil)) (po_some pe_int) po_none) pa_nil)) (nomark _)))))
 (pss_one (ps_ret pe_bl))
 pss_nil)
 (pss_cons (ps_for PassesOwn.never rfl (pi_list (pv 2)) (pg_name (i := 3) sc_bears.nd rfl (Or.inl rfl))
 (pss_one (ps_if (PW.pt (pw_or (pt_cmpR op_lt (pv 3) pe_int (nomark _)) (pw_or (pt_cmpR op_ge (pv 3) (pe_callB c_len (by rfl) T.z_len (by decide +kernel) (pa_cons (pe_fld (pv 0) rfl) pa_nil)) (nomark _)) (pw_or1 (pt_cmpR (op_neD hr.units) (pe_ix ix_list (pe_fld (pv 0) rfl) (pv 3) (fun _ _ => rfl)) (pe_tupS pa_nil) (nomark _))))))
 (pss_one (ps_ret pe_bl))
 pss_nil)))
 (pss_cons (ps_for PassesOwn.never rfl (pi_list (pe_fld (pv 0) rfl)) (pg_tup rfl (pgs_cons (pg_name (i := 4) sc_bears.nd rfl (Or.inr rfl)) (pgs_cons (pg_name (i := 5) sc_bears.nd rfl (Or.inl rfl)) (pgs_cons (pg_name (i := 6) sc_bears.nd rfl (Or.inl rfl)) pgs_nil))))
 (pss_cons (ps_setLc (i := 7) (own := [("told", 12), ("page", 11), ("block", 3)]) (by rfl) sc_bears.nd rfl rfl (sw_true rfl rfl rfl (by decide +kernel)) (pi_list (pv 1)) (blkOk_by (own := [("told", 12), ("page", 11), ("block", 3)]) (N := N_bears) (sc := defScope s_bears) (by decide +kernel)) (fun _ _ _ _ _ => (pg_tupK K 3 rfl rfl (pgs_cons (pg_name (i := 12) sc_bears.nd rfl (Or.inl rfl)) (pgs_cons (pg_name (i := 11) sc_bears.nd rfl (Or.inl rfl)) (pgs_cons (pg_name (i := 3) sc_bears.nd rfl (Or.inl rfl)) pgs_nil))))) (fun _ _ _ _ _ => (pts_one (pt_cmpR op_eq (pv 12) (pv 4) (nomark _)))) (fun _ _ _ _ _ => (pv 11)))
 (pss_cons (ps_if (pt_cmpR op_ne (pe_bm PySem.F.plainAttrs_list PySem.F.slot_list_count PySem.F.type_list_count (mt_countD (hu65 hr)) (pv 7) (pa_cons (pe_un un_neg pe_int) pa_nil)) (pv 6) (nomark _))
 (pss_one (ps_ret pe_bl))
 pss_nil)
 (pss_cons (ps_setLc (i := 8) (own := [("page", 11)]) (g := gName 11) (by rfl) sc_bears.nd rfl rfl (sw_true rfl rfl rfl (by decide +kernel)) (pi_list (pv 7)) (blkOk_by (own := [("page", 11)]) (N := N_bears) (sc := defScope s_bears) (by decide +kernel)) (fun _ _ _ _ _ => (pg_name (i := 11) sc_bears.nd rfl (Or.inl rfl))) (fun _ _ _ _ _ => (pts_one (PW.pt (pw_and (pt_cmpR op_ge (pv 11) pe_int (nomark _)) (pw_and1 (pt_cmpR op_ne (pv 4) pe_str (nomark _))))))) (fun _ _ _ _ _ => (pv 11)))
 (pss_one (ps_if (PW.pt (pw_or (pt_cmpR op_ne (pe_callB c_len (by rfl) T.z_len (by decide +kernel) (pa_cons (pv 8) pa_nil)) (pv 5) (nomark _)) (pw_or1 (pt_cmpR op_ne (pe_lenSetD (by rfl) T.z_len (by rfl) T.z_set (pv 8)) (pv 5) (nomark _)))))
 (pss_one (ps_ret pe_bl))
 pss_nil))))))
 (pss_cons (ps_for PassesOwn.never rfl (pi_list (pe_fld (pv 0) rfl)) (pg_tup rfl (pgs_cons (pg_name (i := 9) sc_bears.nd rfl (Or.inl rfl)) (pgs_cons (pg_name (i := 10) sc_bears.nd rfl (Or.inl rfl)) pgs_nil)))
 (pss_one (ps_if (pt_cmpR op_ne (pe_bm PySem.F.plainAttrs_list PySem.F.slot_list_count PySem.F.type_list_count (mt_countD (hu65 hr)) (pe_lc (own := [("row", 13)]) (g := gName 13) (tt := tYes) (by rfl) sc_bears.nd (pi_list (pv 1)) (blkOk_by (own := [("row", 13)]) (N := N_bears) (sc := defScope s_bears) (by decide +kernel)) (fun _ _ _ _ _ => (pg_name (i := 13) sc_bears.nd rfl (Or.inl rfl))) (fun _ _ _ _ _ => pts_nil) (fun _ _ _ _ _ => (pe_slice (slT_K K rfl) (pv 13) po_none (po_some pe_int)))) (pa_cons (pe_tupS (pa_cons pe_str (pa_cons (pv 9) pa_nil))) pa_nil)) (pv 10) (nomark _))
 (pss_one (ps_ret pe_bl))
 pss_nil)))
 (pss_one (ps_ret pe_bl))))))), ?_⟩
    show (_ : TS) _ [some _, some _, none, none, none, none, none, none, none, none, none, none, none, none] _
    walk_at "gs"
    refine s_lcL (Fm plan (fun _ => true) (fun u => .int u.2.2) _) hS (by walk_at "pk") Fm.start ?_ ?_
    · rintro D i u y acc us H10 L' hu hF hl2 hS14
      obtain rfl := hF.2
      obtain ⟨t, rfl, _⟩ := dv_pr hS14.hd
      have hi := (List.getElem?_eq_some_iff.mp hu).1
      walk_at "gs"
      exact lc_putF hF hu rfl hS14 (.there .here) hl2 (by omega) (.int _) (.drop .refl)
    rintro D acc H10 L' hF hl2 hS14
    obtain ⟨rfl, rfl⟩ := hF.all rfl
    rw [filter_true, show (plan.map fun u => PyData.int u.2.2) = (plan.map (·.2.2)).map .int by rw [List.map_map]; rfl] at hS14
    clear hS
    walk_at "gs"
    refine k_lenSetD ?_
    walk_at "gs"
    refine s_lenSetD (ns := plan.map (·.2.2)) hS14 (by walk_at "hl") (by rw [List.length_map]; omega) fun n0 hn0 hn1 => ?_
    walk_at "gs"
    rw [List.length_map] at hn0 hn1
    refine k_iteN (fun h1 => ?_) (fun h1 => ?_)
    · walk_at "gs"
      refine q false _ ⟨(fun z => by cases z), fun B => absurd (hn0.mpr B.nd) (fun e => h1 (by rw [e, List.length_map]))⟩ (by walk_at "pm0")
    have hnd : (plan.map (·.2.2)).Nodup := hn0.mp (by
      have e : (n0 : Int) = ((plan.map (·.2.2)).length : Nat) := by injection h1
      rw [List.length_map] at e
      omega)
    walk_at "gs"
    refine s_sums (L := isL D ((plan.map (·.2.2)).map .int) :: isL p (plan.map prD) :: L) (by walk_at "pm0") f fun t H1 hS15 => ?_
    clear hS14
    walk_at "gs"
    refine s_sl13 hS15 .here fun t2 H2 hS16 => ?_
    clear hS15
    walk_at "gs"
    refine s_sumT (ns := [owed c, plSum c]) hS16 .here ?_
    walk_at "gs"
    refine k_iteN (fun h2 => ?_) (fun h2 => ?_)
    · walk_at "gs"
      refine q false _ ⟨(fun z => by cases z), fun B => absurd B.len (fun e => h2 (by rw [e]; simp [owed, plSum]))⟩ (by walk_at "pm0")
    have hlen : (plan.length : Int) = (c.put.map fun u => u.2.1 + u.2.2).sum + (c.pled.map (·.2)).sum := by
      have e : (plan.length : Int) = [owed c, plSum c].sum := by injection h2
      rw [e]
      simp [owed, plSum]
    have hS17 : Hs (isL D ((plan.map (·.2.2)).map .int) :: cenP T.c_Census x l1 l2 l3 c (isL p (plan.map prD) :: L)) H2 := by walk_at "pm0"
    clear hS16
    unfold cenP cenF at hS17
    walk_at "gs"
    refine s_forI (fun i σ L' => (∃ z2 z3 z4 z5 z6 z7 z8 z9 z10 z11 z12 z13 : Option V, σ = [some (.ref x), some (.ref p), z2, z3, z4, z5, z6, z7, z8, z9, z10, z11, z12, z13]) ∧ L' = cenP T.c_Census x l1 l2 l3 c (isL p (plan.map prD) :: L) ∧ ∀ u ∈ plan.take i, okB c u.2.2) hS17 .here ⟨⟨_, _, _, _, _, _, _, _, _, _, _, _, rfl⟩, rfl, by simp⟩ ?_ ?_
    · rintro i b σ H3 L' hb ⟨⟨z2, z3, z4, z5, z6, z7, z8, z9, z10, z11, z12, z13, rfl⟩, rfl, hok⟩ hS18
      rw [List.getElem?_map] at hb
      obtain ⟨u, hu, rfl⟩ := Option.map_eq_some_iff.mp hb
      have hum := List.mem_of_getElem? hu
      unfold cenP cenF at hS18
      walk_at "gs"
      refine k_iteD (fun h3 => ?_) (fun h3 => ?_)
      · walk_at "gs"
        exact q false _ ⟨(fun z => by cases z), fun B => by have := (B.ok u hum).1; omega⟩ (by walk_at "pm0")
      walk_at "gs"
      refine k_iteD (fun h4 => ?_) (fun h4 => ?_)
      · walk_at "gs"
        exact q false _ ⟨(fun z => by cases z), fun B => by have := (B.ok u hum).2.1; omega⟩ (by walk_at "pm0")
      walk_at "gs"
      obtain ⟨hh, hg⟩ : ∃ hh, c.held[u.2.2.toNat]? = some hh := ⟨_, List.getElem?_eq_getElem (by omega)⟩
      have hat : atI (c.held.map hdD) u.2.2 = some (hdD hh) := by
        have e6 := atI_nat (xs := c.held.map hdD) (j := u.2.2.toNat) (v := hdD hh) (by rw [List.getElem?_map, hg]; rfl)
        rwa [Int.toNat_of_nonneg (by omega)] at e6
      have e5 : sca (hdD hh) = none := by cases hh <;> rfl
      refine s_ixL hS18 (by walk_at "hl") hat ?_
      unfold Hold
      rw [e5]
      intro y hS19
      walk_at "gs"
      rename Hs _ _ => hS20
      refine s_neT shp_hd (by decide) (u := hh) (w := .free) (hS20.dvAt (.there .here)) (hS20.dvAt .here) ?_
      refine ⟨_, rfl, ?_⟩
      refine k_iteN (fun h5 => ?_) (fun h5 => ?_)
      · walk_at "gs"
        exact q false _ ⟨(fun z => by cases z), fun B => absurd (by
          have z := (B.ok u hum).2.2
          rw [hg] at z
          injection z) h5⟩ (by walk_at "pm0")
      walk_at "gs"
      refine ⟨_, ⟨⟨_, _, _, _, _, _, _, _, _, _, _, _, rfl⟩, rfl, fun v hv => ?_⟩, by walk_at "pm0"⟩
      rw [take_snoc hu, List.mem_append, List.mem_singleton] at hv
      rcases hv with hv | rfl
      · exact hok v hv
      · exact ⟨by omega, by omega, by rw [hg, h5]⟩
    rintro σ H3 L' ⟨⟨z2, z3, z4, z5, z6, z7, z8, z9, z10, z11, z12, z13, rfl⟩, rfl, hok⟩ hS18
    rw [List.length_map, List.take_length] at hok
    walk_at "gs"
    refine s_forL (fun i σ L' => (∃ z2 z3 z4 z5 z6 z7 z8 z9 z10 z11 z12 z13 : Option V, σ = [some (.ref x), some (.ref p), z2, z3, z4, z5, z6, z7, z8, z9, z10, z11, z12, z13]) ∧ L' = isL D ((plan.map (·.2.2)).map .int) :: obj T.c_Census x (cenF c.size l1 l2 l3 c.spare) :: isL l1 (c.held.map hdD) :: isL l3 (c.pled.map dPair) :: isL p (plan.map prD) :: L ∧
      ∀ u ∈ c.put.take i, (((pagesOf plan u.1).count (-1) : Nat) : Int) = u.2.2 ∧ ((seenOf plan u.1).length : Int) = u.2.1 ∧ (seenOf plan u.1).Nodup) hS18 (by walk_at "pk") ⟨⟨_, _, _, _, _, _, _, _, _, _, _, _, rfl⟩, rfl, by simp⟩ ?_ ?_
    · rintro i u y us σ H4 L' hu ⟨⟨z2, z3, z4, z5, z6, z7, z8, z9, z10, z11, z12, z13, rfl⟩, rfl, hgood⟩ hS19
      obtain ⟨t4, rfl, _⟩ := dv_pr hS19.hd
      have hi := (List.getElem?_eq_some_iff.mp hu).1
      have hum := List.mem_of_getElem? hu
      walk_at "gs"
      have hpl := Nat.le_trans (List.length_filter_le (fun v : Pr => decide (v.1 = u.1)) plan) hp
      refine s_lcL (Fm plan (fun v => decide (v.1 = u.1)) (fun v => .int v.2.1) _) hS19 (by walk_at "pk") Fm.start ?_ ?_
      · rintro D2 j v y2 acc us2 H11 L' hv hF hl2 hS20
        obtain rfl := hF.2
        obtain ⟨t5, rfl, _⟩ := dv_pr hS20.hd
        have hj := (List.getElem?_eq_some_iff.mp hv).1
        walk_at "gs"
        refine k_iteD (fun h6 => ?_) (fun h6 => ?_)
        · have h7 : v.1 = u.1 := nmS_inj _ _ (by injection h6)
          walk_at "gs"
          exact lc_putF hF hv (by simp [h7]) hS20 (.there .here) hl2 (by omega) (.int _) (.drop .refl)
        · have h7 : v.1 ≠ u.1 := fun z => h6 (by rw [z])
          exact lc_nonF hF hv (by simp [h7]) hS20 (.there .here) hl2 (.drop .refl)
      rintro D2 acc H11 L' hF2 hl2 hS20
      obtain ⟨rfl, rfl⟩ := hF2.all rfl
      rw [show ((plan.filter fun v => decide (v.1 = u.1)).map fun v => PyData.int v.2.1) = (pagesOf plan u.1).map .int by unfold pagesOf; rw [List.map_map]; rfl] at hS20
      have hpg : (pagesOf plan u.1).length ≤ 100 := by
        unfold pagesOf
        rw [List.length_map]
        exact hpl
      clear hS19
      walk_at "gs"
      refine s_cntI hS20 (by walk_at "hl") ?_
      walk_at "gs"
      refine k_iteN (fun h8 => ?_) (fun h8 => ?_)
      · walk_at "gs"
        exact q false _ ⟨(fun z => by cases z), fun B => absurd (by rw [B.sheets u hum]) h8⟩ (put_back (us := us) (by walk_at "pm0"))
      have hsh : (((pagesOf plan u.1).count (-1) : Nat) : Int) = u.2.2 := by injection h8
      walk_at "gs"
      refine s_lcI (Fm (pagesOf plan u.1) (fun k => decide (0 ≤ k) && decide (u.1 ≠ .e)) .int _) hS20 .here Fm.start ?_ ?_
      · rintro D3 j k acc H12 L' hv hF hl2 hS21
        obtain rfl := hF.2
        have hj := (List.getElem?_eq_some_iff.mp hv).1
        walk_at "gs"
        refine k_iteD (fun h9 => ?_) (fun h9 => ?_)
        · walk_at "gs"
          refine k_iteN (fun h10 => ?_) (fun h10 => ?_)
          · have h11 : u.1 ≠ .e := fun z => h10 (by rw [z]; rfl)
            walk_at "gs"
            exact lc_putF hF hv (by simp [h9, h11]) hS21 .here hl2 (by omega) (.int _) .refl
          · have h11 : u.1 = .e := nmS_inj _ .e (by injection h10)
            exact lc_nonF hF hv (by simp [h11]) hS21 .here hl2 .refl
        · exact lc_nonF hF hv (by simp [h9]) hS21 .here hl2 .refl
      rintro D3 acc H12 L' hF3 hl2 hS21
      obtain ⟨rfl, rfl⟩ := hF3.all rfl
      clear hS20
      rw [show (((pagesOf plan u.1).filter fun k => decide (0 ≤ k) && decide (u.1 ≠ .e)).map PyData.int) = (seenOf plan u.1).map .int from rfl] at hS21
      have hsn : (seenOf plan u.1).length ≤ 100 := Nat.le_trans (List.length_filter_le _ _) hpg
      walk_at "gs"
      refine k_iteN (fun h12 => ?_) (fun h12 => ?_)
      · walk_at "gs"
        exact q false _ ⟨(fun z => by cases z), fun B => absurd (by rw [B.seen u hum]) h12⟩ (put_back (us := us) (by walk_at "pm0"))
      have hse : ((seenOf plan u.1).length : Int) = u.2.1 := by injection h12
      walk_at "gs"
      refine k_lenSetD ?_
      walk_at "gs"
      refine s_lenSetD (ns := seenOf plan u.1) hS21 (by walk_at "hl") (by omega) fun n1 hm1 hm2 => ?_
      walk_at "gs"
      refine k_iteN (fun h13 => ?_) (fun h13 => ?_)
      · walk_at "gs"
        exact q false _ ⟨(fun z => by cases z), fun B => absurd (by rw [hm1.mpr (B.seenNd u hum), hse]) h13⟩ (put_back (us := us) (by walk_at "pm0"))
      have hnd2 : (seenOf plan u.1).Nodup := hm1.mp (by
        have e : (n1 : Int) = u.2.1 := by injection h13
        omega)
      walk_at "gs"
      refine ⟨_, ⟨⟨_, _, _, _, _, _, _, _, _, _, _, _, rfl⟩, rfl, fun v hv => ?_⟩, by walk_at "pm0"⟩
      rw [take_snoc hu, List.mem_append, List.mem_singleton] at hv
      rcases hv with hv | rfl
      · exact hgood v hv
      · exact ⟨hsh, hse, hnd2⟩
    rintro σ H4 L' ⟨⟨z2, z3, z4, z5, z6, z7, z8, z9, z10, z11, z12, z13, rfl⟩, rfl, hgood⟩ hS19
    rw [List.take_length] at hgood
    walk_at "gs"
    refine s_forL (fun i σ L' => (∃ z2 z3 z4 z5 z6 z7 z8 z9 z10 z11 z12 z13 : Option V, σ = [some (.ref x), some (.ref p), z2, z3, z4, z5, z6, z7, z8, z9, z10, z11, z12, z13]) ∧ L' = isL l2 (c.put.map prD) :: isL D ((plan.map (·.2.2)).map .int) :: obj T.c_Census x (cenF c.size l1 l2 l3 c.spare) :: isL l1 (c.held.map hdD) :: isL p (plan.map prD) :: L ∧
      ∀ v ∈ c.pled.take i, (((plan.map fun u => (u.1, u.2.1)).countP fun z => decide (z = (Nm.e, v.1)) : Nat) : Int) = v.2) hS19 (by walk_at "pk") ⟨⟨_, _, _, _, _, _, _, _, _, _, _, _, rfl⟩, rfl, by simp⟩ ?_ ?_
    · rintro i v y us σ H5 L' hv ⟨⟨z2, z3, z4, z5, z6, z7, z8, z9, z10, z11, z12, z13, rfl⟩, rfl, htick⟩ hS20
      obtain ⟨t4, rfl, _⟩ := dv_pair hS20.hd
      have hi := (List.getElem?_eq_some_iff.mp hv).1
      have hvm := List.mem_of_getElem? hv
      walk_at "gs"
      refine s_lcL (Fm plan (fun _ => true) (fun u => p2D (u.1, u.2.1)) _) hS20 (by walk_at "pk") Fm.start ?_ ?_
      · rintro D2 j u y2 acc us2 H11 L' hu hF hl2 hS21
        obtain rfl := hF.2
        obtain ⟨t5, rfl, _⟩ := dv_pr hS21.hd
        have hj := (List.getElem?_eq_some_iff.mp hu).1
        walk_at "gs"
        refine s_sl32 hS21 .here fun t6 H12 hS22 => ?_
        exact lc_putF hF hu rfl hS22 (.there (.there .here)) hl2 (by omega) (hS22.dvAt .here) (.drop (.drop .refl))
      rintro D2 acc H11 L' hF2 hl2 hS21
      obtain ⟨rfl, rfl⟩ := hF2.all rfl
      rw [filter_true, show (plan.map fun u => p2D (u.1, u.2.1)) = (plan.map fun u => (u.1, u.2.1)).map p2D by rw [List.map_map]; rfl] at hS21
      clear hS20
      walk_at "gs"
      rename Hs _ _ => hS22
      refine s_cntT shp_p2 (by decide) (u := (Nm.e, v.1)) hS22 (by walk_at "hl") (hS22.dvAt .here) ?_
      walk_at "gs"
      refine k_iteN (fun h14 => ?_) (fun h14 => ?_)
      · walk_at "gs"
        exact q false _ ⟨(fun z => by cases z), fun B => absurd (by rw [← tick_cnt, B.tick v hvm]) h14⟩ (tick_back (us := us) (by walk_at "pm0"))
      have hti : (((plan.map fun u => (u.1, u.2.1)).countP fun z => decide (z = (Nm.e, v.1)) : Nat) : Int) = v.2 := by injection h14
      walk_at "gs"
      refine ⟨_, ⟨⟨_, _, _, _, _, _, _, _, _, _, _, _, rfl⟩, rfl, fun z hz => ?_⟩, by walk_at "pm0"⟩
      rw [take_snoc hv, List.mem_append, List.mem_singleton] at hz
      rcases hz with hz | rfl
      · exact htick z hz
      · exact hti
    rintro σ H5 L' ⟨⟨z2, z3, z4, z5, z6, z7, z8, z9, z10, z11, z12, z13, rfl⟩, rfl, htick⟩ hS20
    rw [List.take_length] at htick
    walk_at "gs"
    exact q true _ ⟨fun _ => ⟨hnd, hlen, hok, fun u hu => (hgood u hu).1, fun u hu => (hgood u hu).2.1, fun u hu => (hgood u hu).2.2, fun v hv => by rw [tick_cnt]; exact htick v hv⟩, fun _ => rfl⟩ (by walk_at "pm0")
/-! the law's: fit -/
def kyL : Ky → List Key
  | .pg n => [.inr (nmS n), .inr "page"]
  | .sh n => [.inr (nmS n), .inr "sheet"]
  | .tk t => [.inr "", .inl t]
abbrev wR (q : Ky × Int) : List Key × PyData := (kyL q.1, .int q.2)
theorem kyL_inj : ∀ a b : Ky, kyL a = kyL b → a = b := fun a b h => by
  have e1 : ("page" : Str) ≠ "sheet" := by decide +kernel
  cases a <;> cases b <;> simp only [kyL, List.cons.injEq, Sum.inr.injEq, Sum.inl.injEq, and_true] at h
  · rw [nmS_inj _ _ h]
  · exact absurd h.2 e1
  · exact absurd h.2 (fun z => by cases z)
  · exact absurd h.2.symm e1
  · rw [nmS_inj _ _ h]
  · exact absurd h.2 (fun z => by cases z)
  · exact absurd h.2 (fun z => by cases z)
  · exact absurd h.2 (fun z => by cases z)
  · rw [h.2]
theorem putG_ky {qs : List (Ky × Int)} {k : Ky} {w : Int} (h : k ∉ qs.map (·.1)) : putG (qs.map wR) (kyL k) (.int w) = (qs ++ [(k, w)]).map wR := by
  rw [putG_new (fun z => h (by
    rw [List.map_map] at z
    obtain ⟨q, hq, e⟩ := List.mem_map.mp z
    exact List.mem_map.mpr ⟨q, hq, kyL_inj _ _ e⟩)), List.map_append]
  rfl
theorem wish_snoc {put : List Pr} {i : Nat} {u : Pr} (h : put[i]? = some u) : wishes (put.take (i + 1)) [] = wishes (put.take i) [] ++ [(.pg u.1, u.2.1)] ++ [(.sh u.1, u.2.2)] := by
  unfold wishes
  rw [take_snoc h, List.flatMap_append]
  simp
theorem wish_new {put : List Pr} {i : Nat} {u : Pr} (nd : (put.map (·.1)).Nodup) (h : put[i]? = some u) : Ky.pg u.1 ∉ (wishes (put.take i) []).map (·.1) ∧ Ky.sh u.1 ∉ (wishes (put.take i) []).map (·.1) := by
  have hn : u.1 ∉ (put.take i).map (·.1) := by
    have z : ((put.take (i + 1)).map (·.1)).Nodup := nd.sublist ((List.take_sublist _ _).map _)
    rw [take_snoc h, List.map_append, List.nodup_append] at z
    exact fun m => z.2.2 _ m _ (by simp) rfl
  constructor <;> intro z <;> obtain ⟨q, hq, e⟩ := List.mem_map.mp z <;> rcases wish_mem.mp hq with ⟨v, hv, rfl | rfl⟩ | ⟨v, hv, _⟩
  · exact hn (List.mem_map.mpr ⟨v, hv, by injection e⟩)
  · cases e
  · cases hv
  · cases e
  · exact hn (List.mem_map.mpr ⟨v, hv, by injection e⟩)
  · cases hv
theorem wish_len (put : List Pr) : (wishes put []).length = 2 * put.length := by
  unfold wishes
  rw [List.map_nil, List.append_nil]
  induction put with
  | nil => rfl
  | cons u put ih =>
    rw [List.flatMap_cons, List.length_append, ih]
    show 2 + 2 * put.length = 2 * (put.length + 1)
    omega
theorem wish_snocT {put : List Pr} {pled : List (Int × Int)} {i : Nat} {v : Int × Int} (h : pled[i]? = some v) : wishes put (pled.take (i + 1)) = wishes put (pled.take i) ++ [(.tk v.1, v.2)] := by
  unfold wishes
  rw [take_snoc h, List.map_append]
  simp
theorem wish_newT {put : List Pr} {pled : List (Int × Int)} {i : Nat} {v : Int × Int} (nd : (pled.map (·.1)).Nodup) (h : pled[i]? = some v) : Ky.tk v.1 ∉ (wishes put (pled.take i)).map (·.1) := by
  have hn : v.1 ∉ (pled.take i).map (·.1) := by
    have z : ((pled.take (i + 1)).map (·.1)).Nodup := nd.sublist ((List.take_sublist _ _).map _)
    rw [take_snoc h, List.map_append, List.nodup_append] at z
    exact fun m => z.2.2 _ m _ (by simp) rfl
  intro z
  obtain ⟨q, hq, e⟩ := List.mem_map.mp z
  rcases wish_mem.mp hq with ⟨u, hu, rfl | rfl⟩ | ⟨w, hw, rfl⟩
  · cases e
  · cases e
  · exact hn (List.mem_map.mpr ⟨w, hw, by injection e⟩)
theorem wish_lenT (put : List Pr) (pled : List (Int × Int)) : (wishes put pled).length = 2 * put.length + pled.length := by
  have h := wish_len put
  unfold wishes at h ⊢
  rw [List.map_nil, List.append_nil] at h
  rw [List.length_append, h, List.length_map]
def RowOk (ok : Int → Prop) (put : List Pr) (pled : List (Int × Int)) (plan : List Pr) (i : Nat) (u : Pr) : Prop := (∃ w, (keyOf u, w) ∈ wishes put pled ∧ 1 ≤ w - cntK (keyOf u) (plan.take i)) ∧ (0 ≤ u.2.1 → u.1 ≠ .e → ∀ v ∈ plan.take i, ¬ (v.1 = u.1 ∧ v.2.1 = u.2.1)) ∧ ok u.2.2
def curL (put : List Pr) (pled : List (Int × Int)) (pl : List Pr) : List (List Key × PyData) := (wishes put pled).map fun q => (kyL q.1, .int (q.2 - cntK q.1 pl))
theorem cur_nil (put : List Pr) (pled : List (Int × Int)) : (wishes put pled).map wR = curL put pled [] := by
  unfold curL
  refine List.map_congr_left fun q _ => ?_
  show (kyL q.1, PyData.int q.2) = (kyL q.1, PyData.int (q.2 - ((0 : Nat) : Int)))
  rw [show q.2 - ((0 : Nat) : Int) = q.2 by omega]
theorem cur_get (put : List Pr) (pled : List (Int × Int)) (pl : List Pr) (k : Ky) : valG (curL put pled pl) (kyL k) = (valG (wishes put pled) k).map fun w => .int (w - cntK k pl) := valG_map2 (v := fun q => .int (q.2 - cntK q.1 pl)) kyL_inj k _
theorem cnt_snoc (k : Ky) (pl : List Pr) (u : Pr) : cntK k (pl ++ [u]) = cntK k pl + if keyOf u = k then 1 else 0 := by
  unfold cntK
  rw [List.countP_append, List.countP_singleton]
  by_cases h : keyOf u = k <;> simp [h]
theorem cur_put {put : List Pr} {pled : List (Int × Int)} {plan pl : List Pr} {u : Pr} {w : Int} (T : Tame put pled plan) (hm : (keyOf u, w) ∈ wishes put pled) : putG (curL put pled pl) (kyL (keyOf u)) (.int (w - cntK (keyOf u) pl - 1)) = curL put pled (pl ++ [u]) := by
  refine putG_map2 (v' := fun q => .int (q.2 - cntK q.1 (pl ++ [u]))) kyL_inj (wish_nd T) hm ?_ ?_
  · show PyData.int (w - cntK (keyOf u) (pl ++ [u])) = .int (w - cntK (keyOf u) pl - 1)
    rw [cnt_snoc, if_pos rfl]
    congr 1
    omega
  · intro q hq ne
    show PyData.int (q.2 - cntK q.1 (pl ++ [u])) = .int (q.2 - cntK q.1 pl)
    rw [cnt_snoc, if_neg fun z => ne z.symm]
    rfl
theorem key_isSh {u : Pr} (h : u.2.1 = -1) : keyOf u = .sh u.1 := by
  unfold Lt.keyOf
  rw [if_pos h]
theorem key_isTk {u : Pr} (h : ¬ u.2.1 = -1) (h2 : u.1 = .e) : keyOf u = .tk u.2.1 := by
  unfold Lt.keyOf
  rw [if_neg h, if_pos h2]
theorem key_isPg {u : Pr} (h : ¬ u.2.1 = -1) (h2 : ¬ u.1 = .e) : keyOf u = .pg u.1 := by
  unfold Lt.keyOf
  rw [if_neg h, if_neg h2]
def sp_law_fit (C : Addr) : Sp := fun vs H Q _ => ∃ (x l1 l2 l3 p : Addr) (c : Cen) (plan : List Pr) (L : List Asn), vs = [.ref x, .ref p] ∧ Hs (cenP C x l1 l2 l3 c (isL p (plan.map prD) :: L)) H ∧ Fits c ∧ plan.length ≤ 100 ∧ Tame c.put c.pled plan ∧
  ∀ b H', (b = true ↔ Fit (okB c) c.put c.pled plan) → Hs (cenP C x l1 l2 l3 c (isL p (plan.map prD) :: L)) H' → Q (.bl b) H'
theorem ok_law_fit (T : Txt K mg) : FnOk P w K mg base (L2.CX P w) 2 T.f_law_fit T.d_law_fit ["_law_census_here", "_law_plan"] (sp_law_fit T.c_Census) := by
  refine T.F_law_fit.ok sc_law_fit (fun vs H Q E h => ?_) (fun cdv A outer s H vs Q E hr h => ?_)
  · obtain ⟨x, l1, l2, l3, p, c, plan, L, rfl, _⟩ := h
    rfl
  · obtain ⟨x, l1, l2, l3, p, c, plan, L, rfl, hS, f, hp, tame, q⟩ := h
    have cl := T.cl_Census
    have n1 := T.n_Census_size
    have n2 := T.n_Census_held
    have n3 := T.n_Census_put_by
    have n4 := T.n_Census_pledged
    have n5 := T.n_Census_spare
    have f1 := f.h
    have f2 := f.p
    have f3 := f.g
    refine ⟨_, PSs.nox (pss_cons (ps_set (i := 2) sc_law_fit.nd rfl (Or.inr rfl) pe_dnewT)
 (pss_cons (ps_for PassesOwn.never rfl (pi_list (pe_fld (pv 0) rfl)) (pg_tup rfl (pgs_cons (pg_name (i := 3) sc_law_fit.nd rfl (Or.inl rfl)) (pgs_cons (pg_name (i := 4) sc_law_fit.nd rfl (Or.inl rfl)) (pgs_cons (pg_name (i := 5) sc_law_fit.nd rfl (Or.inl rfl)) pgs_nil))))
 (pss_cons (ps_dput (hu1 hr) (pv 2) (pe_tupS (pa_cons (pv 3) (pa_cons pe_str pa_nil))) (pv 4) rfl)
 (pss_one (ps_dput (hu1 hr) (pv 2) (pe_tupS (pa_cons (pv 3) (pa_cons pe_str pa_nil))) (pv 5) rfl))))
 (pss_cons (ps_for PassesOwn.never rfl (pi_list (pe_fld (pv 0) rfl)) (pg_tup rfl (pgs_cons (pg_name (i := 6) sc_law_fit.nd rfl (Or.inl rfl)) (pgs_cons (pg_name (i := 7) sc_law_fit.nd rfl (Or.inl rfl)) pgs_nil)))
 (pss_one (ps_dput (hu1 hr) (pv 2) (pe_tupS (pa_cons pe_str (pa_cons (pv 6) pa_nil))) (pv 7) rfl)))
 (pss_cons (ps_set (i := 8) sc_law_fit.nd rfl (Or.inl rfl) (pe_lstS pa_nil))
 (pss_cons (ps_for PassesOwn.never rfl (pi_list (pv 1)) (pg_tup rfl (pgs_cons (pg_name (i := 3) sc_law_fit.nd rfl (Or.inl rfl)) (pgs_cons (pg_name (i := 9) sc_law_fit.nd rfl (Or.inl rfl)) (pgs_cons (pg_name (i := 10) sc_law_fit.nd rfl (Or.inl rfl)) pgs_nil))))
 (pss_cons (ps_set (i := 11) sc_law_fit.nd rfl (Or.inl rfl) (pe_tupS (pa_cons (pv 3) (pa_cons pe_str pa_nil))))
 (pss_mid (ps_if (pt_cmpR op_eq (pv 9) (pe_un un_neg pe_int) (nomark _))
 (pss_one (ps_set (i := 11) sc_law_fit.nd rfl (Or.inl rfl) (pe_tupS (pa_cons (pv 3) (pa_cons pe_str pa_nil)))))
 (pss_one (ps_if (pt_cmpR op_eq (pv 3) pe_str (nomark _))
 (pss_one (ps_set (i := 11) sc_law_fit.nd rfl (Or.inl rfl) (pe_tupS (pa_cons pe_str (pa_cons (pv 9) pa_nil)))))
 pss_nil)))
 (pss_mid (ps_if (PW.pt (pw_or (pt_cmpR op_lt (pe_dget2 (hu1 hr) (pv 2) (pv 11) pe_int (by exact ⟨by rfl, by rfl, by rfl, by rfl⟩)) pe_int (nomark _)) (pw_or1 (PW.pt (pw_and (pt_cmpR (op_inD (hu65 hr)) (pe_tupS (pa_cons (pv 3) (pa_cons (pv 9) pa_nil))) (pv 8) (by rfl)) (pw_and (pt_cmpR op_ge (pv 9) pe_int (nomark _)) (pw_and1 (pt_cmpR op_ne (pv 3) pe_str (nomark _)))))))))
 (pss_one (ps_ret pe_bl))
 pss_nil)
 (pss_cons (ps_daug (hu1 hr) (pv 2) (pv 11) pe_int in_sub (fun _ _ _ => rfl))
 (pss_cons (ps_expr (pe_bm PySem.F.plainAttrs_list PySem.F.slot_list_append PySem.F.type_list_append mt_append (pv 8) (pa_cons (pe_tupS (pa_cons (pv 3) (pa_cons (pv 9) pa_nil))) pa_nil)))
 (pss_one (ps_if (PW.pt (pw_or (pt_cmpR op_lt (pv 10) pe_int (nomark _)) (pw_or (pt_cmpR op_ge (pv 10) (pe_callB c_len (by rfl) T.z_len (by decide +kernel) (pa_cons (pe_fld (pv 0) rfl) pa_nil)) (nomark _)) (pw_or1 (pt_cmpR (op_neD hr.units) (pe_ix ix_list (pe_fld (pv 0) rfl) (pv 10) (fun _ _ => rfl)) (pe_tupS pa_nil) (nomark _))))))
 (pss_one (ps_ret pe_bl))
 pss_nil))))))))
 (pss_cons (ps_setLc (i := 12) (own := [("_law_row", 13)]) (g := gName 13) (tt := tYes) (by rfl) sc_law_fit.nd rfl rfl (sw_true rfl rfl rfl (by decide +kernel)) (pi_list (pv 1)) (blkOk_by (own := [("_law_row", 13)]) (N := N_law_fit) (sc := defScope s_law_fit) (by decide +kernel)) (fun _ _ _ _ _ => (pg_name (i := 13) sc_law_fit.nd rfl (Or.inl rfl))) (fun _ _ _ _ _ => pts_nil) (fun _ _ _ _ _ => (pe_ix (ixT_K K rfl) (pv 13) pe_int (fun _ _ => rfl))))
 (pss_one (ps_ret (pe_and (pe_cmpR op_eq (pe_lenSetD (by rfl) T.z_len (by rfl) T.z_set (pv 12)) (pe_callB c_len (by rfl) T.z_len (by decide +kernel) (pa_cons (pv 12) pa_nil)) (nomark _)) (pe_one (pe_callB (cr_all rfl) (by rfl) T.z_all (by decide +kernel) (pa_cons (pe_lock (pe_lc (own := [("_law_key", 11)]) (g := gName 11) (tt := tYes) (by rfl) sc_law_fit.nd (pi_keys (pv 2)) (blkOk_by (own := [("_law_key", 11)]) (N := N_law_fit) (sc := defScope s_law_fit) (by decide +kernel)) (fun _ _ _ _ _ => (pg_name (i := 11) sc_law_fit.nd rfl (Or.inl rfl))) (fun _ _ _ _ _ => pts_nil) (fun _ _ _ _ _ => (pe_cmpR op_eq (pe_dget (hu1 hr) (pv 2) (pv 11) (fun _ _ => rfl)) pe_int (nomark _))))) pa_nil)))))))))))), ?_⟩
    show (_ : TS) _ [some _, some _, none, none, none, none, none, none, none, none, none, none, none, none] _
    walk_at "gs"
    refine s_dnewT hS fun d H1 hS1 => ?_
    walk_at "gs"
    refine s_forL (fun i σ L' => (∃ z3 z4 z5 z6 z7 z8 z9 z10 z11 z12 z13 : Option V, σ = [some (.ref x), some (.ref p), some (.ref d), z3, z4, z5, z6, z7, z8, z9, z10, z11, z12, z13]) ∧ L' = isT d ((wishes (c.put.take i) []).map wR) :: obj T.c_Census x (cenF c.size l1 l2 l3 c.spare) :: isL l1 (c.held.map hdD) :: isL l3 (c.pled.map dPair) :: isL p (plan.map prD) :: L) hS1 (.there (.there (.there .here))) ⟨⟨_, _, _, _, _, _, _, _, _, _, _, rfl⟩, rfl⟩ ?_ ?_
    · rintro i u y us σ H3 L' hu ⟨⟨z3, z4, z5, z6, z7, z8, z9, z10, z11, z12, z13, rfl⟩, rfl⟩ hS2
      obtain ⟨t4, rfl, _⟩ := dv_pr hS2.hd
      have hi := (List.getElem?_eq_some_iff.mp hu).1
      obtain ⟨w1, w2⟩ := wish_new tame.nd hu
      have wl := wish_len (c.put.take i)
      rw [List.length_take] at wl
      walk_at "gs"
      rename Hs _ _ => hS3
      refine s_putT (key := kyL (.pg u.1)) (u := .int u.2.1) hS3 (by walk_at "pk") (hS3.dvAt .here) (.int _) (by rw [List.length_map]; omega) fun H4 hS4 => ?_
      rw [putG_ky w1] at hS4
      walk_at "gs"
      rename Hs _ _ => hS5
      refine s_putT (key := kyL (.sh u.1)) (u := .int u.2.2) hS5 (by walk_at "pk") (hS5.dvAt .here) (.int _) (by rw [List.length_map, List.length_append]; show _ + 1 ≤ _; omega) fun H6 hS6 => ?_
      rw [putG_ky (by
        rw [List.map_append, List.mem_append]
        rintro (z | z)
        · exact w2 z
        · simp at z), ← wish_snoc hu] at hS6
      exact ⟨_, ⟨⟨_, _, _, _, _, _, _, _, _, _, _, rfl⟩, rfl⟩, by walk_at "pm"⟩
    rintro σ H3 L' ⟨⟨z3, z4, z5, z6, z7, z8, z9, z10, z11, z12, z13, rfl⟩, rfl⟩ hS2
    rw [List.take_length] at hS2
    walk_at "gs"
    refine s_forL (fun i σ L' => (∃ z3 z4 z5 z6 z7 z8 z9 z10 z11 z12 z13 : Option V, σ = [some (.ref x), some (.ref p), some (.ref d), z3, z4, z5, z6, z7, z8, z9, z10, z11, z12, z13]) ∧ L' = isL l2 (c.put.map prD) :: isT d ((wishes c.put (c.pled.take i)).map wR) :: obj T.c_Census x (cenF c.size l1 l2 l3 c.spare) :: isL l1 (c.held.map hdD) :: isL p (plan.map prD) :: L) hS2 (.there (.there (.there (.there .here)))) ⟨⟨_, _, _, _, _, _, _, _, _, _, _, rfl⟩, rfl⟩ ?_ ?_
    · rintro i v y us σ H4 L' hv ⟨⟨z3, z4, z5, z6, z7, z8, z9, z10, z11, z12, z13, rfl⟩, rfl⟩ hS3
      obtain ⟨t4, rfl, _⟩ := dv_pair hS3.hd
      have hi := (List.getElem?_eq_some_iff.mp hv).1
      have w1 := wish_newT (put := c.put) tame.tnd hv
      have wl := wish_lenT c.put (c.pled.take i)
      rw [List.length_take] at wl
      walk_at "gs"
      rename Hs _ _ => hS4
      refine s_putT (key := kyL (.tk v.1)) (u := .int v.2) hS4 (by walk_at "pk") (hS4.dvAt .here) (.int _) (by rw [List.length_map]; omega) fun H5 hS5 => ?_
      rw [putG_ky w1, ← wish_snocT hv] at hS5
      exact ⟨_, ⟨⟨_, _, _, _, _, _, _, _, _, _, _, rfl⟩, rfl⟩, by walk_at "pm"⟩
    rintro σ H4 L' ⟨⟨z3, z4, z5, z6, z7, z8, z9, z10, z11, z12, z13, rfl⟩, rfl⟩ hS3
    rw [List.take_length] at hS3
    rw [cur_nil] at hS3
    walk_at "gs"
    rename_i e H5 hS4
    refine s_forL (fun i σ L' => (∃ z3 z4 z5 z6 z7 z9 z10 z11 z12 z13 : Option V, σ = [some (.ref x), some (.ref p), some (.ref d), z3, z4, z5, z6, z7, some (.ref e), z9, z10, z11, z12, z13]) ∧ L' = isL e ((plan.take i).map fun u => p2D (u.1, u.2.1)) :: isT d (curL c.put c.pled (plan.take i)) :: obj T.c_Census x (cenF c.size l1 l2 l3 c.spare) :: isL l1 (c.held.map hdD) :: isL l2 (c.put.map prD) :: isL l3 (c.pled.map dPair) :: L ∧
      ∀ j u, j < i → plan[j]? = some u → RowOk (okB c) c.put c.pled plan j u) (show Hs (isL p (plan.map prD) :: isL e [] :: isT d (curL c.put c.pled []) :: obj T.c_Census x (cenF c.size l1 l2 l3 c.spare) :: isL l1 (c.held.map hdD) :: isL l2 (c.put.map prD) :: isL l3 (c.pled.map dPair) :: L) H5 by walk_at "pm0") .here ⟨⟨_, _, _, _, _, _, _, _, _, _, rfl⟩, rfl, fun j u hj => absurd hj (Nat.not_lt_zero _)⟩ ?_ ?_
    · rintro i u y us σ H6 L' hu ⟨⟨z3, z4, z5, z6, z7, z9, z10, z11, z12, z13, rfl⟩, rfl, hrows⟩ hS5
      obtain ⟨t4, rfl, _⟩ := dv_pr hS5.hd
      have hi := (List.getElem?_eq_some_iff.mp hu).1
      have wl := wish_lenT c.put c.pled
      walk_at "gs"
      rename Hs _ _ => hS6
      refine ⟨Wd fun σ H' => ∃ q, (∃ z4 z5 z6 z7 z12 z13 : Option V, σ = [some (.ref x), some (.ref p), some (.ref d), some (.str (nmS u.1)), z4, z5, z6, z7, some (.ref e), some (.int u.2.1), some (.int u.2.2), some (.ref q), z12, z13]) ∧ Hs (dv (.ref q) (dKey (kyL (keyOf u))) :: isV p us (plan.map prD) :: isL e ((plan.take i).map fun u => p2D (u.1, u.2.1)) :: isT d (curL c.put c.pled (plan.take i)) :: obj T.c_Census x (cenF c.size l1 l2 l3 c.spare) :: isL l1 (c.held.map hdD) :: isL l2 (c.put.map prD) :: isL l3 (c.pled.map dPair) :: L) H', ?_, ?_⟩
      · walk_at "gs"
        simp only [V.int.injEq]
        refine k_iteD (fun h1 => ?_) (fun h1 => ?_)
        · walk_at "gs"
          refine ⟨_, ⟨_, _, _, _, _, _, rfl⟩, ?_⟩
          rw [key_isSh h1]
          walk_at "pm0"
        · walk_at "gs"
          refine k_iteD (fun h2 => ?_) (fun h2 => ?_)
          · have h3 : u.1 = .e := nmS_inj _ .e (by injection h2)
            walk_at "gs"
            refine ⟨_, ⟨_, _, _, _, _, _, rfl⟩, ?_⟩
            rw [key_isTk h1 h3]
            walk_at "pm0"
          · have h3 : u.1 ≠ .e := fun z => h2 (by rw [z]; rfl)
            walk_at "gs"
            refine ⟨_, ⟨_, _, _, _, _, _, rfl⟩, ?_⟩
            rw [key_isPg h1 h3]
            walk_at "pm0"
      · rintro σ H7 ⟨q1, ⟨z4, z5, z6, z7, z12, z13, rfl⟩, hS7⟩
        obtain ⟨us2, g1, _⟩ := hS7.at_ (k := .there (.there (.there .here)))
        have hno : ¬ RowOk (okB c) c.put c.pled plan i u → (false = true ↔ Fit (okB c) c.put c.pled plan) := fun hn => ⟨(fun z => by cases z), fun F => absurd (F.row i u hu) hn⟩
        have hback : ∀ {H' : Hp}, Hs (isV p us (plan.map prD) :: obj T.c_Census x (cenF c.size l1 l2 l3 c.spare) :: isL l1 (c.held.map hdD) :: isL l2 (c.put.map prD) :: isL l3 (c.pled.map dPair) :: L) H' → Hs (cenP T.c_Census x l1 l2 l3 c (isL p (plan.map prD) :: L)) H' := fun z => by
          have z2 := z.closeL
          walk_at "pm0"
        refine ⟨Wd fun σ H' => ∃ w, (∃ z4 z5 z6 z7 z12 z13 : Option V, σ = [some (.ref x), some (.ref p), some (.ref d), some (.str (nmS u.1)), z4, z5, z6, z7, some (.ref e), some (.int u.2.1), some (.int u.2.2), some (.ref q1), z12, z13]) ∧ (Lt.keyOf u, w) ∈ wishes c.put c.pled ∧ 1 ≤ w - cntK (Lt.keyOf u) (plan.take i) ∧ (0 ≤ u.2.1 → u.1 ≠ .e → ∀ v ∈ plan.take i, ¬ (v.1 = u.1 ∧ v.2.1 = u.2.1)) ∧ Hs (dv (.ref q1) (dKey (kyL (Lt.keyOf u))) :: isV p us (plan.map prD) :: isL e ((plan.take i).map fun u => p2D (u.1, u.2.1)) :: isT d (curL c.put c.pled (plan.take i)) :: obj T.c_Census x (cenF c.size l1 l2 l3 c.spare) :: isL l1 (c.held.map hdD) :: isL l2 (c.put.map prD) :: isL l3 (c.pled.map dPair) :: L) H', ?_, ?_⟩
        · walk_at "gs"
          refine k_dget2 ?_
          walk_at "gs"
          refine ⟨.inr ⟨us2, .inl g1⟩, ?_⟩
          walk_at "gs"
          refine s_getOr hS7 (by walk_at "pk") (hS7.dvAt .here) (fun v hv => ?_) (fun hv => ?_)
          · rw [cur_get] at hv
            obtain ⟨w, hw, rfl⟩ := Option.map_eq_some_iff.mp hv
            have hm := valG_some hw
            unfold Hold
            rw [show sca (.int (w - cntK (Lt.keyOf u) (plan.take i))) = some (.int (w - cntK (Lt.keyOf u) (plan.take i))) from rfl]
            simp only [Option.getD_some]
            walk_at "gs"
            refine k_iteD (fun h3 => ?_) (fun h3 => ?_)
            · walk_at "gs"
              refine q false _ (hno fun hr => ?_) (hback (by walk_at "pm0"))
              obtain ⟨w', hm', hw'⟩ := hr.1
              have e1 := valG_nd (wish_nd tame) hm
              rw [valG_nd (wish_nd tame) hm'] at e1
              injection e1 with e1
              omega
            walk_at "gs"
            refine s_inD shp_p2 (by decide) (xs := (plan.take i).map fun u => (u.1, u.2.1)) (w := (u.1, u.2.1)) (by assumption) (Hs.dvAt (by assumption) .here) (show HasL _ e (((plan.take i).map fun u => (u.1, u.2.1)).map p2D) by rw [List.map_map]; exact .l (.there (.there (.there .here)))) fun b hb => ?_
            have hmem : (u.1, u.2.1) ∈ (plan.take i).map (fun u => (u.1, u.2.1)) ↔ ∃ v ∈ plan.take i, v.1 = u.1 ∧ v.2.1 = u.2.1 := by
              rw [List.mem_map]
              constructor
              · rintro ⟨v, hv, e⟩
                simp only [Prod.mk.injEq] at e
                exact ⟨v, hv, e.1, e.2⟩
              · rintro ⟨v, hv, e1, e2⟩
                exact ⟨v, hv, by rw [e1, e2]⟩
            refine ⟨_, rfl, ?_⟩
            cases b
            case' true => have h4 := hb.mp rfl
            case' false => have h4 : ¬ _ := fun z => absurd (hb.mpr z) (by decide)
            rotate_left
            · walk_at "gs"
              refine k_iteD (fun h5 => ?_) (fun h5 => ?_)
              · walk_at "gs"
                refine k_iteN (fun h6 => ?_) (fun h6 => ?_)
                · walk_at "gs"
                  refine q false _ (hno fun hr => ?_) (hback (by walk_at "pm0"))
                  obtain ⟨v, hv, e1, e2⟩ := hmem.mp h4
                  exact hr.2.1 (by omega) (fun z => h6 (by rw [z]; rfl)) v hv ⟨e1, e2⟩
                · walk_at "gs"
                  exact ⟨w, ⟨_, _, _, _, _, _, rfl⟩, hm, by omega, fun _ hn => absurd (nmS_inj _ .e (by injection h6)) hn, by walk_at "pm0"⟩
              · walk_at "gs"
                exact ⟨w, ⟨_, _, _, _, _, _, rfl⟩, hm, by omega, fun h0 => by omega, by walk_at "pm0"⟩
            · walk_at "gs"
              exact ⟨w, ⟨_, _, _, _, _, _, rfl⟩, hm, by omega, fun _ _ v hv hvu => h4 (hmem.mpr ⟨v, hv, hvu⟩), by walk_at "pm0"⟩
          · rw [cur_get] at hv
            have hv2 := Option.map_eq_none_iff.mp hv
            simp only [Option.getD_none]
            walk_at "gs"
            refine q false _ (hno fun hr => ?_) (hback (by walk_at "pm0"))
            obtain ⟨w', hm', hw'⟩ := hr.1
            exact valG_none.mp hv2 (List.mem_map.mpr ⟨_, hm', rfl⟩)
        · rintro σ H8 ⟨w, ⟨z4, z5, z6, z7, z12, z13, rfl⟩, hm, hw, hdup, hS8⟩
          clear hS7
          walk_at "gs"
          refine k_daug ?_
          walk_at "gs"
          refine s_dgetT hS8 (by walk_at "pk") (hS8.dvAt .here) (u := .int (w - cntK (Lt.keyOf u) (plan.take i))) (by rw [cur_get, valG_nd (wish_nd tame) hm]; rfl) ?_
          unfold Hold
          rw [show sca (.int (w - cntK (Lt.keyOf u) (plan.take i))) = some (.int (w - cntK (Lt.keyOf u) (plan.take i))) from rfl]
          walk_at "gs"
          refine ⟨_, _, rfl, rfl, ?_⟩
          refine s_putT2 hS8 (by walk_at "pk") (hS8.dvAt .here) (u := .int (w - cntK (Lt.keyOf u) (plan.take i) - 1)) (.int _) (by unfold curL; rw [List.length_map]; omega) fun H9 hS9 => ?_
          rw [cur_put tame hm, ← take_snoc hu] at hS9
          clear hS8
          walk_at "gs"
          refine k_iteD (fun h7 => ?_) (fun h7 => ?_)
          · walk_at "gs"
            refine q false _ (hno fun hr => ?_) (hback (by walk_at "pm0"))
            have := hr.2.2.1
            omega
          walk_at "gs"
          refine k_iteD (fun h8 => ?_) (fun h8 => ?_)
          · walk_at "gs"
            refine q false _ (hno fun hr => ?_) (hback (by walk_at "pm0"))
            have := hr.2.2.2.1
            omega
          walk_at "gs"
          rename Hs _ _ => hS10
          obtain ⟨hh, hg⟩ : ∃ hh, c.held[u.2.2.toNat]? = some hh := ⟨_, List.getElem?_eq_getElem (by omega)⟩
          have hat : atI (c.held.map hdD) u.2.2 = some (hdD hh) := by
            have e6 := atI_nat (xs := c.held.map hdD) (j := u.2.2.toNat) (v := hdD hh) (by rw [List.getElem?_map, hg]; rfl)
            rwa [Int.toNat_of_nonneg (by omega)] at e6
          have e5 : sca (hdD hh) = none := by cases hh <;> rfl
          refine s_ixL hS10 (by walk_at "hl") hat ?_
          unfold Hold
          rw [e5]
          intro y hS11
          walk_at "gs"
          rename Hs _ _ => hS12
          refine s_neT shp_hd (by decide) (u := hh) (w := .free) (hS12.dvAt (.there .here)) (hS12.dvAt .here) ?_
          refine ⟨_, rfl, ?_⟩
          refine k_iteN (fun h9 => ?_) (fun h9 => ?_)
          · walk_at "gs"
            refine q false _ (hno fun hr => ?_) (hback (by walk_at "pm0"))
            have z := hr.2.2.2.2
            rw [hg] at z
            exact h9 (by injection z)
          walk_at "gs"
          have eu : (plan.take i).map (fun u => p2D (u.1, u.2.1)) ++ [.tuple [.str (nmS u.1), .int u.2.1]] = (plan.take (i + 1)).map fun u => p2D (u.1, u.2.1) := by
            rw [take_snoc hu, List.map_append]
            rfl
          rw [eu] at hS12
          refine ⟨_, ⟨⟨_, _, _, _, _, _, _, _, _, _, rfl⟩, rfl, fun j v hj hv => ?_⟩, by walk_at "pm0"⟩
          rcases Nat.lt_succ_iff_lt_or_eq.mp hj with z | rfl
          · exact hrows j v z hv
          · rw [hu] at hv
            cases hv
            exact ⟨⟨w, hm, hw⟩, hdup, by omega, by omega, by rw [hg, h9]⟩
    rintro σ H6 L' ⟨⟨z3, z4, z5, z6, z7, z9, z10, z11, z12, z13, rfl⟩, rfl, hrows⟩ hS5
    rw [List.take_length] at hS5
    clear hS4
    walk_at "gs"
    refine s_lcL (Fm plan (fun _ => true) (fun u => .int u.2.2) _) hS5 (by walk_at "pk") Fm.start ?_ ?_
    · rintro D i u y acc us H10 L' hu hF hl2 hS14
      obtain rfl := hF.2
      obtain ⟨t, rfl, _⟩ := dv_pr hS14.hd
      have hi := (List.getElem?_eq_some_iff.mp hu).1
      walk_at "gs"
      exact lc_putF hF hu rfl hS14 (.there .here) hl2 (by omega) (.int _) (.drop .refl)
    rintro D acc H10 L' hF hl2 hS14
    obtain ⟨rfl, rfl⟩ := hF.all rfl
    rw [filter_true, show (plan.map fun u => PyData.int u.2.2) = (plan.map (·.2.2)).map .int by rw [List.map_map]; rfl] at hS14
    clear hS5
    walk_at "gs"
    refine k_lenSetD ?_
    walk_at "gs"
    refine s_lenSetD (ns := plan.map (·.2.2)) hS14 (by walk_at "hl") (by rw [List.length_map]; omega) fun n0 hn0 hn1 => ?_
    walk_at "gs"
    rw [List.length_map] at hn0 hn1
    refine k_iteD (fun h1 => ?_) (fun h1 => ?_)
    rotate_left
    · refine q false _ ⟨(fun z => by cases z), fun F => absurd (hn0.mpr F.nd) (fun e => h1 (by rw [e, List.length_map]))⟩ (by walk_at "pm0")
    have hnd : (plan.map (·.2.2)).Nodup := hn0.mp (by
      have e : (n0 : Int) = ((plan.map (·.2.2)).length : Nat) := by injection h1
      rw [List.length_map] at e
      omega)
    have wl := wish_lenT c.put c.pled
    walk_at "gs"
    refine s_lcT (Fm (wishes c.put c.pled) (fun _ => true) (fun q => .bool (decide (q.2 - cntK q.1 plan = 0))) _) hS14 (by walk_at "pk") (fun od us H' B hS15 hB => ?_) Fm.start (fun od us A i key t acc H11 L1 hx hF hal hS15 => ?_) (fun A acc H11 L1 hF hal hS15 => ?_)
    · walk_at "gs"
      exact hB
    · obtain rfl := hF.2
      have hx2 : ∃ q, (wishes c.put c.pled)[i]? = some q ∧ key = kyL q.1 := by
        unfold curL at hx
        rw [List.map_map, List.getElem?_map] at hx
        obtain ⟨q, h1, h2⟩ := Option.map_eq_some_iff.mp hx
        exact ⟨q, h1, h2.symm⟩
      obtain ⟨kw, hkw, rfl⟩ := hx2
      have hm := List.mem_of_getElem? hkw
      have hi := (List.getElem?_eq_some_iff.mp hkw).1
      walk_at "gs"
      refine s_dgetTF hS15 (.there .here) (hS15.dvAt (.there (.there .here))) (u := .int (kw.2 - cntK kw.1 plan)) (by rw [cur_get, valG_nd (wish_nd tame) (show (kw.1, kw.2) ∈ wishes c.put c.pled from hm)]; rfl) ?_
      unfold Hold
      rw [show sca (.int (kw.2 - cntK kw.1 plan)) = some (.int (kw.2 - cntK kw.1 plan)) from rfl]
      walk_at "gs"
      refine lc_putF hF hkw rfl hS15 .here hal (by omega) ?_ (.cons .here (.drop .refl))
      rw [show decide (V.int (kw.2 - cntK kw.1 plan) = V.int 0) = decide (kw.2 - (cntK kw.1 plan : Int) = 0) by simp]
      exact .bl _
    · unfold curL at hF
      rw [List.length_map] at hF
      obtain ⟨rfl, rfl⟩ := hF.all rfl
      rw [filter_true, show ((wishes c.put c.pled).map fun q => PyData.bool (decide (q.2 - (cntK q.1 plan : Int) = 0))) = ((wishes c.put c.pled).map fun q => decide (q.2 - (cntK q.1 plan : Int) = 0)).map PyData.bool by rw [List.map_map]; rfl] at hS15
      walk_at "gs"
      refine q _ _ ⟨fun h2 => ⟨fun i u hu => hrows i u (List.getElem?_eq_some_iff.mp hu).1 hu, hnd, fun q hq => ?_⟩, fun F => ?_⟩ (by walk_at "pm0")
      · have h3 := List.all_eq_true.mp h2 _ (List.mem_map.mpr ⟨q, hq, rfl⟩)
        simpa using h3
      · rw [List.all_eq_true]
        intro b hb
        obtain ⟨q, hq, rfl⟩ := List.mem_map.mp hb
        simpa using F.zero q hq
/-! the law's: a census -/
structure GoodC (n : Int) (c : Cen) : Prop where
  size : c.size = n
  len : (c.held.length : Int) = n
  nd : (c.put.map (·.1)).Nodup
  lo : ∀ u ∈ c.put, 0 ≤ u.2.1 ∧ u.2.1 ≤ 2 ∧ 0 ≤ u.2.2 ∧ u.2.2 ≤ 2 ∧ (u.1 = .e → u.2.1 = 0) ∧ u.1 ≠ .z
  pl : c.put.length ≤ 3
  tnd : (c.pled.map (·.1)).Nodup
  t0 : ∀ v ∈ c.pled, 0 ≤ v.1 ∧ v.1 ≤ 50 ∧ 1 ≤ v.2 ∧ v.2 ≤ 2
  gl : c.pled.length ≤ 2
  left : c.spare = n - (heldN c + owed c) - plSum c
def hd4 : List Hd := [.free, .free, .file, .dead]
def nm3 : List Nm := [.e, .a, .b]
def sp_law_census (C : Addr) : Sp := fun vs H Q _ => ∃ (b : Addr) (ns : List Int) (n : Int) (L : List Asn), vs = [.ref b, .int n] ∧ Hs (isBag b ns :: L) H ∧ 4 ≤ n ∧ n ≤ 23 ∧
  ∀ x l1 l2 l3 c H', GoodC n c → Hs (cenP C x l1 l2 l3 c (isBag b ns :: L)) H' → Q (.ref x) H'
theorem ok_law_census (T : Txt K mg) : FnOk P w K mg base (L2.CX P w) 4 T.f_law_census T.d_law_census ["_law_bag_here", "_law_size"] (sp_law_census T.c_Census) := by
  refine T.F_law_census.ok sc_law_census (fun vs H Q E h => ?_) (fun cdv A outer s H vs Q E hr h => ?_)
  · obtain ⟨b, ns, n, L, rfl, _⟩ := h
    rfl
  · obtain ⟨b, ns, n, L, rfl, hS, n1, n2, q⟩ := h
    refine ⟨_, PSs.nox (pss_cons (ps_setLc (i := 2) (own := [("_law_block", 10)]) (g := gName 10) (tt := tYes) (by rfl) sc_law_census.nd rfl rfl (sw_true rfl rfl rfl (by decide +kernel)) (pi_range1 (by rfl) T.z_range (pa_cons (pv 1) pa_nil)) (blkOk_by (own := [("_law_block", 10)]) (N := N_law_census) (sc := defScope s_law_census) (by decide +kernel)) (fun _ _ _ _ _ => (pg_name (i := 10) sc_law_census.nd rfl (Or.inl rfl))) (fun _ _ _ _ _ => pts_nil) (fun _ _ _ _ _ => (pe_ix (ixL_K K rfl) (pe_lstS (pa_cons (pe_tupS pa_nil) (pa_cons (pe_tupS pa_nil) (pa_cons (pe_tupS (pa_cons (pe_tupS (pa_cons pe_str (pa_cons pe_int pa_nil))) pa_nil)) (pa_cons (pe_tupS (pa_cons (pe_tupS (pa_cons pe_str (pa_cons (pe_un un_neg pe_int) pa_nil))) pa_nil)) pa_nil))))) (pe_call (ok_law_pull (base := base) T) (hr.mono (by decide)) (by rfl) T.g_law_pull T.k_law_pull T.b_law_pull .nil passL (pa_cons (pv 0) (pa_cons pe_int pa_nil))) (fun _ _ => rfl))))
 (pss_cons (ps_set (i := 3) sc_law_census.nd rfl (Or.inl rfl) (pe_lstS pa_nil))
 (pss_cons (ps_for PassesOwn.never rfl (pi_list (pe_lstS (pa_cons pe_str (pa_cons pe_str (pa_cons pe_str pa_nil))))) (pg_name (i := 4) sc_law_census.nd rfl (Or.inl rfl))
 (pss_cons (ps_set (i := 5) sc_law_census.nd rfl (Or.inl rfl) (pe_op op_mul (pe_call (ok_law_pull (base := base) T) (hr.mono (by decide)) (by rfl) T.g_law_pull T.k_law_pull T.b_law_pull .nil passL (pa_cons (pv 0) (pa_cons pe_int pa_nil))) (pe_callTy call_int1 (by rfl) T.z_int (by decide +kernel) (pa_cons (pe_cmpR op_ne (pv 4) pe_str (nomark _)) pa_nil))))
 (pss_cons (ps_set (i := 6) sc_law_census.nd rfl (Or.inl rfl) (pe_call (ok_law_pull (base := base) T) (hr.mono (by decide)) (by rfl) T.g_law_pull T.k_law_pull T.b_law_pull .nil passL (pa_cons (pv 0) (pa_cons pe_int pa_nil))))
 (pss_one (ps_if (pt_cmpR op_gt (pe_op op_add (pv 5) (pv 6)) pe_int (nomark _))
 (pss_one (ps_expr (pe_bm PySem.F.plainAttrs_list PySem.F.slot_list_append PySem.F.type_list_append mt_append (pv 3) (pa_cons (pe_tupS (pa_cons (pv 4) (pa_cons (pv 5) (pa_cons (pv 6) pa_nil)))) pa_nil))))
 pss_nil)))))
 (pss_cons (ps_setLc (i := 7) (own := [("_law_k", 11)]) (g := gName 11) (tt := tYes) (by rfl) sc_law_census.nd rfl rfl (sw_true rfl rfl rfl (by decide +kernel)) (pi_range1 (by rfl) T.z_range (pa_cons (pe_call (ok_law_pull (base := base) T) (hr.mono (by decide)) (by rfl) T.g_law_pull T.k_law_pull T.b_law_pull .nil passL (pa_cons (pv 0) (pa_cons pe_int pa_nil))) pa_nil)) (blkOk_by (own := [("_law_k", 11)]) (N := N_law_census) (sc := defScope s_law_census) (by decide +kernel)) (fun _ _ _ _ _ => (pg_name (i := 11) sc_law_census.nd rfl (Or.inl rfl))) (fun _ _ _ _ _ => pts_nil) (fun _ _ _ _ _ => (pe_tupS (pa_cons (pe_op op_add (pv 11) pe_int) (pa_cons (pe_op op_add pe_int (pe_call (ok_law_pull (base := base) T) (hr.mono (by decide)) (by rfl) T.g_law_pull T.k_law_pull T.b_law_pull .nil passL (pa_cons (pv 0) (pa_cons pe_int pa_nil)))) pa_nil)))))
 (pss_cons (ps_set (i := 8) sc_law_census.nd rfl (Or.inl rfl) (pe_op op_add (pe_callB c_len (by rfl) T.z_len (by decide +kernel) (pa_cons (pe_lc (own := [("_law_row", 12)]) (g := gName 12) (by rfl) sc_law_census.nd (pi_list (pv 2)) (blkOk_by (own := [("_law_row", 12)]) (N := N_law_census) (sc := defScope s_law_census) (by decide +kernel)) (fun _ _ _ _ _ => (pg_name (i := 12) sc_law_census.nd rfl (Or.inl rfl))) (fun _ _ _ _ _ => (pts_one (pt_cmpR (neD_K K rfl hr.units) (pv 12) (pe_tupS pa_nil) (nomark _)))) (fun _ _ _ _ _ => (pv 12))) pa_nil)) (pe_callB (cr_sum rfl) (by rfl) T.z_sum (by decide +kernel) (pa_cons (pe_lc (own := [("_law_row", 12)]) (g := gName 12) (tt := tYes) (by rfl) sc_law_census.nd (pi_list (pv 3)) (blkOk_by (own := [("_law_row", 12)]) (N := N_law_census) (sc := defScope s_law_census) (by decide +kernel)) (fun _ _ _ _ _ => (pg_name (i := 12) sc_law_census.nd rfl (Or.inl rfl))) (fun _ _ _ _ _ => pts_nil) (fun _ _ _ _ _ => (pe_op op_add (pe_ix (ixT_K K rfl) (pv 12) pe_int (fun _ _ => rfl)) (pe_ix (ixT_K K rfl) (pv 12) pe_int (fun _ _ => rfl))))) pa_nil))))
 (pss_cons (ps_set (i := 9) sc_law_census.nd rfl (Or.inl rfl) (pe_op op_sub (pe_op op_sub (pv 1) (pv 8)) (pe_callB (cr_sum rfl) (by rfl) T.z_sum (by decide +kernel) (pa_cons (pe_lc (own := [("_law_row", 12)]) (g := gName 12) (tt := tYes) (by rfl) sc_law_census.nd (pi_list (pv 7)) (blkOk_by (own := [("_law_row", 12)]) (N := N_law_census) (sc := defScope s_law_census) (by decide +kernel)) (fun _ _ _ _ _ => (pg_name (i := 12) sc_law_census.nd rfl (Or.inl rfl))) (fun _ _ _ _ _ => pts_nil) (fun _ _ _ _ _ => (pe_ix (ixT_K K rfl) (pv 12) pe_int (fun _ _ => rfl)))) pa_nil))))
 (pss_one (ps_ret (mkS (pe_make T.mk_Census (ok_Censusx_initx (base := base) T) (hr.mono (by decide)) (by rfl) T.g_Census T.b_Censusx_initx .nil passL (mcPA (pa_cons (pv 1) (pa_cons (pv 2) (pa_cons (pv 3) (pa_cons (pv 7) (pa_cons (pv 9) pa_nil)))))))))))))))), ?_⟩
    show (_ : TS) _ [some _, some _, none, none, none, none, none, none, none, none, none, none, none] _
    walk_at "gs"
    refine s_lcR (fun i acc L' => ∃ hs : List Hd, acc = hs.map hdD ∧ hs.length = i ∧ L' = isBag b ns :: L) hS ⟨[], rfl, rfl, rfl⟩ (fun D i acc H1 L1 hi hP hal hS1 => ?_) (fun D acc H1 L1 hP hal hS1 => ?_)
    · obtain ⟨hs, rfl, hl, rfl⟩ := hP
      walk_at "gs"
      rename Hs _ _ => hS2
      refine k_pullS hS2 (by walk_at "pk") (by decide) (by decide) fun H3 m m0 m1 hS3 => ?_
      obtain ⟨h, hm⟩ : ∃ h, atI [PyData.tuple [], PyData.tuple [], PyData.tuple [PyData.tuple [PyData.str "/a", PyData.int 3]], PyData.tuple [PyData.tuple [PyData.str "", PyData.int (-1)]]] m = some (hdD h) := by
        obtain rfl | rfl | rfl | rfl : m = 0 ∨ m = 1 ∨ m = 2 ∨ m = 3 := by omega
        · exact ⟨.free, rfl⟩
        · exact ⟨.free, rfl⟩
        · exact ⟨.file, rfl⟩
        · exact ⟨.dead, rfl⟩
      have e5 : sca (hdD h) = none := by cases h <;> rfl
      refine s_ixL hS3 (by walk_at "hl") hm ?_
      unfold Hold
      rw [e5]
      intro y hS4
      refine lc_put (A := []) (L := dv (.ref y) (hdD h) :: isL D (hs.map hdD) :: isBag b ns :: L) (by walk_at "pm0") (.there .here) (d := hdD h) (hS4.dvAt .here) (by rw [List.length_map]; omega) (by omega) ⟨_, ⟨hs ++ [h], by rw [List.map_append]; rfl, by rw [List.length_append, hl]; rfl, rfl⟩, .drop .refl⟩
    obtain ⟨hs, rfl, hl, rfl⟩ := hP
    rw [List.length_map] at hal
    have hlN : (hs.length : Int) = n := by omega
    walk_at "gs"
    rename_i pb _ o _ hS2
    refine s_forL (xs := nm3) (f := nmD) (fun i σ L' => ∃ put : List Pr, (∃ z4 z5 z6 z7 z8 z9 z10 z11 z12 : Option V, σ = [some (.ref b), some (.int n), some (.ref D), some (.ref pb), z4, z5, z6, z7, z8, z9, z10, z11, z12]) ∧ L' = isL pb (put.map prD) :: isBag b ns :: isL D (hs.map hdD) :: L ∧ (put.map (·.1)).Sublist (nm3.take i) ∧
      ∀ u ∈ put, 0 ≤ u.2.1 ∧ u.2.1 ≤ 2 ∧ 0 ≤ u.2.2 ∧ u.2.2 ≤ 2 ∧ (u.1 = .e → u.2.1 = 0) ∧ u.1 ≠ .z) (show Hs (isL o (nm3.map nmD) :: isL pb (([] : List Pr).map prD) :: isBag b ns :: isL D (hs.map hdD) :: L) _ by walk_at "pm0") .here ⟨[], ⟨_, _, _, _, _, _, _, _, _, rfl⟩, rfl, .slnil, by simp⟩ ?_ ?_
    · rintro i u y us σ H6 L' hu ⟨put, ⟨z4, z5, z6, z7, z8, z9, z10, z11, z12, rfl⟩, rfl, hsub, hlo⟩ hS5
      have hi := (List.getElem?_eq_some_iff.mp hu).1
      obtain rfl : y = .str (nmS u) := by
        have z := hS5.hd
        cases z
        rfl
      walk_at "gs"
      refine k_pullS hS5 (by walk_at "pk") (by decide) (by decide) fun H7 w w0 w1 hS6 => ?_
      clear hS5
      walk_at "gs"
      refine .inr ⟨_, rfl, ?_⟩
      walk_at "gs"
      have hk : ∃ k : Int, w * (if (!decide (V.str (nmS u) = V.str "")) = true then 1 else 0) = k ∧ 0 ≤ k ∧ k ≤ 2 ∧ (u = .e → k = 0) := by
        refine ⟨_, rfl, ?_, ?_, ?_⟩
        · split <;> omega
        · split <;> omega
        · rintro rfl
          rw [if_neg (by decide +kernel)]
          omega
      obtain ⟨k, ek, k0, k1, k2⟩ := hk
      rw [ek]
      clear ek
      refine k_pullS hS6 (by walk_at "pk") (by decide) (by decide) fun H8 s s0 s1 hS7 => ?_
      clear hS6
      have hsub1 : (put.map (·.1)).Sublist (nm3.take (i + 1)) := by
        rw [take_snoc hu]
        exact hsub.trans (List.sublist_append_left _ _)
      have hsub2 : ((put ++ [(u, k, s)]).map (·.1)).Sublist (nm3.take (i + 1)) := by
        rw [take_snoc hu, List.map_append]
        exact hsub.append (List.Sublist.refl _)
      have hpl : put.length ≤ 3 := by
        have z := hsub.length_le
        rw [List.length_map, List.length_take] at z
        exact Nat.le_trans z (Nat.min_le_right _ _)
      have hz : u ≠ .z := by
        rintro rfl
        exact absurd (List.mem_of_getElem? hu) (by decide)
      walk_at "gs"
      refine k_iteD (fun h1 => ?_) (fun h1 => ?_)
      · walk_at "gs"
        rename Hs _ _ => hS8
        have e9 : put.map prD ++ [.tuple [.str (nmS u), .int k, .int s]] = (put ++ [(u, k, s)]).map prD := by
          rw [List.map_append]
          rfl
        rw [e9] at hS8
        refine ⟨_, ⟨put ++ [(u, k, s)], ⟨_, _, _, _, _, _, _, _, _, rfl⟩, rfl, hsub2, fun v hv => ?_⟩, by walk_at "pm0"⟩
        rcases List.mem_append.mp hv with hv | hv
        · exact hlo v hv
        · rw [List.mem_singleton] at hv
          subst hv
          exact ⟨k0, k1, s0, Int.le_of_lt_add_one s1, k2, hz⟩
      · walk_at "gs"
        exact ⟨_, ⟨put, ⟨_, _, _, _, _, _, _, _, _, rfl⟩, rfl, hsub1, hlo⟩, by walk_at "pm0"⟩
    rintro σ H6 L' ⟨put, ⟨z4, z5, z6, z7, z8, z9, z10, z11, z12, rfl⟩, rfl, hsub, hlo⟩ hS5
    clear hS2
    walk_at "gs"
    refine k_pullS hS5 (by walk_at "pk") (by decide) (by decide) fun H8 g g0 g1 hS6 => ?_
    clear hS5
    walk_at "gs"
    refine s_lcR (fun i acc L' => ∃ pl : List (Int × Int), acc = pl.map dPair ∧ pl.map (·.1) = (List.range i).map (fun j : Nat => (j : Int) + 4) ∧ (∀ v ∈ pl, 1 ≤ v.2 ∧ v.2 ≤ 2) ∧ L' = isBag b ns :: isL pb (put.map prD) :: isL D (hs.map hdD) :: L) (L0 := isBag b ns :: isL pb (put.map prD) :: isL D (hs.map hdD) :: L) (by walk_at "pm0") ⟨[], rfl, rfl, by simp, rfl⟩ (fun D2 i acc H1 L1 hi hP hal hS1 => ?_) (fun D2 acc H1 L1 hP hal hS1 => ?_)
    · obtain ⟨pl, rfl, hp1, hp2, rfl⟩ := hP
      have hpi : pl.length = i := by
        have z := congrArg List.length hp1
        simpa using z
      walk_at "gs"
      refine k_pullS hS1 (by walk_at "pk") (by decide) (by decide) fun H3 m m0 m1 hS3 => ?_
      walk_at "gs"
      rename Hs _ _ => hS4
      refine lc_put (A := []) (L := dv _ (dPair (0 + (i : Int) + 4, 1 + m)) :: isL D2 (pl.map dPair) :: isBag b ns :: isL pb (put.map prD) :: isL D (hs.map hdD) :: L) (by walk_at "pm0") (.there .here) (d := dPair (0 + (i : Int) + 4, 1 + m)) (hS4.dvAt .here) (by rw [List.length_map]; omega) (by omega) ⟨_, ⟨pl ++ [(0 + (i : Int) + 4, 1 + m)], by rw [List.map_append]; rfl, ?_, fun v hv => ?_, rfl⟩, .drop .refl⟩
      · rw [List.map_append, hp1, List.range_succ, List.map_append]
        simp
      · rcases List.mem_append.mp hv with hv | hv
        · exact hp2 v hv
        · rw [List.mem_singleton] at hv
          subst hv
          exact ⟨by show 1 ≤ 1 + m; omega, by show 1 + m ≤ 2; omega⟩
    obtain ⟨pl, rfl, hp1, hp2, rfl⟩ := hP
    have hpl : pl.length = g.toNat := by
      have z := congrArg List.length hp1
      simpa using z
    have hpu : put.length ≤ 3 := by
      have z := hsub.length_le
      rw [List.length_map] at z
      exact Nat.le_trans z (List.length_take_le _ _)
    clear hS6
    walk_at "gs"
    refine s_lcL (Fm hs (fun h => decide (h ≠ .free)) hdD _) hS1 (by walk_at "pk") Fm.start ?_ ?_
    · rintro D3 i u y acc us H10 L' hu hF hl2 hS14
      obtain rfl := hF.2
      have hi := (List.getElem?_eq_some_iff.mp hu).1
      walk_at "gs"
      rename Hs _ _ => hS15
      refine s_neT shp_hd (by decide) (u := u) (w := .free) (hS15.dvAt (.there .here)) (hS15.dvAt .here) ?_
      refine ⟨_, rfl, ?_⟩
      refine k_iteN (fun h1 => ?_) (fun h1 => ?_)
      · walk_at "gs"
        exact lc_putF hF hu (by simp [h1]) hS15 (.there (.there .here)) hl2 (by omega) (hS15.dvAt (.there .here)) (.drop (.drop .refl))
      · exact lc_nonF hF hu (by simp [h1]) hS15 (.there (.there .here)) hl2 (.drop (.drop .refl))
    rintro D3 acc H10 L' hF hl2 hS14
    obtain ⟨rfl, rfl⟩ := hF.all rfl
    clear hS1
    walk_at "gs"
    refine s_lcL (Fm put (fun _ => true) (fun u => .int (u.2.1 + u.2.2)) _) hS14 (by walk_at "pk") Fm.start ?_ ?_
    · rintro D4 i u y acc us H11 L' hu hF hl2 hS15
      obtain rfl := hF.2
      obtain ⟨t, rfl, _⟩ := dv_pr hS15.hd
      have hi := (List.getElem?_eq_some_iff.mp hu).1
      walk_at "gs"
      exact lc_putF hF hu rfl hS15 (.there .here) hl2 (by omega) (.int _) (.drop .refl)
    rintro D4 acc H11 L' hF2 hl2 hS15
    obtain ⟨rfl, rfl⟩ := hF2.all rfl
    rw [filter_true, show (put.map fun u => PyData.int (u.2.1 + u.2.2)) = (put.map fun u => u.2.1 + u.2.2).map .int by rw [List.map_map]; rfl] at hS15
    clear hS14
    walk_at "gs"
    refine s_lcL (Fm pl (fun _ => true) (fun u => .int u.2) _) hS15 (by walk_at "pk") Fm.start ?_ ?_
    · rintro D5 i u y acc us H12 L' hu hF hl2 hS16
      obtain rfl := hF.2
      obtain ⟨t, rfl, _⟩ := dv_pair hS16.hd
      have hi := (List.getElem?_eq_some_iff.mp hu).1
      walk_at "gs"
      exact lc_putF hF hu rfl hS16 (.there .here) hl2 (by omega) (.int _) (.drop .refl)
    rintro D5 acc H12 L' hF3 hl2 hS16
    obtain ⟨rfl, rfl⟩ := hF3.all rfl
    rw [filter_true, show (pl.map fun u => PyData.int u.2) = (pl.map (·.2)).map .int by rw [List.map_map]; rfl] at hS16
    clear hS15
    walk_at "gs"
    rename_i x H9 _
    refine ⟨x, D, pb, D2, n, _, hs.map hdD, put.map prD, pl.map dPair, isL D (hs.map hdD) :: isL pb (put.map prD) :: isL D2 (pl.map dPair) :: isBag b ns :: L, rfl, by walk_at "pm0", .l .here, .l (.there .here), .l (.there (.there .here)), by rw [List.length_map]; omega, by rw [List.length_map]; omega, by rw [List.length_map]; omega, fun l1 l2 l3 H' hS' => ⟨rfl, ?_⟩⟩
    refine q x l1 l2 l3 ⟨n, hs, put, pl, _⟩ H' ⟨rfl, hlN, ?_, hlo, hpu, ?_, fun v hv => ?_, by show pl.length ≤ 2; omega, rfl⟩ (by walk_at "pm0")
    · exact hsub.nodup (by decide)
    · show (pl.map (·.1)).Nodup
      rw [hp1]
      rw [List.Nodup, List.pairwise_map]
      exact List.nodup_range.imp fun {a b} h z => h (by omega)
    · have z : v.1 ∈ pl.map (·.1) := List.mem_map.mpr ⟨v, hv, rfl⟩
      rw [hp1] at z
      obtain ⟨j, hj, e⟩ := List.mem_map.mp z
      rw [List.mem_range] at hj
      exact ⟨by omega, by omega, hp2 v hv⟩
/-! the law's: a good plan -/
theorem s_rep1 {L R : List Asn} {H : Hp} {Q : VK} {p : Addr} {d : PyData} {k : Int} (hS : Hs L H) (h1 : Pick L (isL p [d]) R) (k0 : 0 ≤ k) (k1 : k ≤ 1000) (h : ∀ r H', Hs (isL r (List.replicate k.toNat d) :: L) H' → Q (.ref r) H') : rRep (.ref p) (.int k) H Q := by
  obtain ⟨us, g1, g2⟩ := hS.at_ h1
  cases g2 with
  | cons a g2 =>
    cases g2
    rename_i v
    refine ⟨p, k, [v], rfl, rfl, g1, by omega, by omega, le_line (by show 1 * k.toNat ≤ _; omega), fun r nr => h r _ ?_⟩
    have e : (List.replicate k.toNat [v]).flatten = List.replicate k.toNat v := by
      generalize k.toNat = n
      induction n with
      | zero => rfl
      | succ n ih =>
        rw [List.replicate_succ, List.flatten_cons, ih]
        rfl
    rw [e]
    have z : ∀ n : Nat, DvAll H (List.replicate n v) (List.replicate n d) := fun n => by
      induction n with
      | zero => exact .nil
      | succ n ih =>
        rw [List.replicate_succ, List.replicate_succ]
        exact .cons a ih
    exact hS.newL nr (z _)
def sp_law_good_plan (C : Addr) : Sp := fun vs H Q _ => ∃ (x l1 l2 l3 : Addr) (n : Int) (c : Cen) (L : List Asn), vs = [.ref x] ∧ Hs (cenP C x l1 l2 l3 c L) H ∧ GoodC n c ∧ n ≤ 23 ∧
  ∀ p (plan : List Pr) H', plan.length ≤ 23 → (∀ u ∈ plan, -1 ≤ u.2.1) → Hs (isL p (plan.map prD) :: cenP C x l1 l2 l3 c L) H' → Q (.ref p) H'
theorem ok_law_good_plan (T : Txt K mg) : FnOk P w K mg base (L2.CX P w) 1 T.f_law_good_plan T.d_law_good_plan ["_law_census_here"] (sp_law_good_plan T.c_Census) := by
  refine T.F_law_good_plan.ok sc_law_good_plan (fun vs H Q E h => ?_) (fun cdv A outer s H vs Q E hr h => ?_)
  · obtain ⟨x, l1, l2, l3, n, c, L, rfl, _⟩ := h
    rfl
  · obtain ⟨x, l1, l2, l3, n, c, L, rfl, hS, f, n2, q⟩ := h
    have cl := T.cl_Census
    have a2 := T.n_Census_held
    have a3 := T.n_Census_put_by
    have a4 := T.n_Census_pledged
    have f1 := f.len
    have f2 := f.pl
    have f3 := f.gl
    refine ⟨_, PSs.nox (pss_cons (ps_set (i := 1) sc_law_good_plan.nd rfl (Or.inr rfl) (pe_lc (own := [("_law_block", 8)]) (g := gName 8) (by rfl) sc_law_good_plan.nd (pi_range1 (by rfl) T.z_range (pa_cons (pe_callB c_len (by rfl) T.z_len (by decide +kernel) (pa_cons (pe_fld (pv 0) rfl) pa_nil)) pa_nil)) (blkOk_by (own := [("_law_block", 8)]) (N := N_law_good_plan) (sc := defScope s_law_good_plan) (by decide +kernel)) (fun _ _ _ _ _ => (pg_name (i := 8) sc_law_good_plan.nd rfl (Or.inl rfl))) (fun _ _ _ _ _ => (pts_one (pt_cmpR (eqD_K K rfl hr.units) (pe_ix (ixL_K K rfl) (pe_fldK K rfl (pv 0) rfl) (pv 8) (fun _ _ => rfl)) (pe_tupS pa_nil) (nomark _)))) (fun _ _ _ _ _ => (pv 8))))
 (pss_cons (ps_set (i := 2) sc_law_good_plan.nd rfl (Or.inr rfl) (pe_lstS pa_nil))
 (pss_cons (ps_for PassesOwn.never rfl (pi_list (pe_fld (pv 0) rfl)) (pg_tup rfl (pgs_cons (pg_name (i := 3) sc_law_good_plan.nd rfl (Or.inr rfl)) (pgs_cons (pg_name (i := 4) sc_law_good_plan.nd rfl (Or.inl rfl)) (pgs_cons (pg_name (i := 5) sc_law_good_plan.nd rfl (Or.inl rfl)) pgs_nil))))
 (pss_one (ps_set (i := 2) sc_law_good_plan.nd rfl (Or.inr rfl) (pe_op op_cat (pe_op op_cat (pv 2) (pe_lc (own := [("_law_k", 9)]) (g := gName 9) (tt := tYes) (by rfl) sc_law_good_plan.nd (pi_range1 (by rfl) T.z_range (pa_cons (pv 4) pa_nil)) (blkOk_by (own := [("_law_k", 9)]) (N := N_law_good_plan) (sc := defScope s_law_good_plan) (by decide +kernel)) (fun _ _ _ _ _ => (pg_name (i := 9) sc_law_good_plan.nd rfl (Or.inl rfl))) (fun _ _ _ _ _ => pts_nil) (fun _ _ _ _ _ => (pe_tupS (pa_cons (pv 3) (pa_cons (pe_op op_mul pe_int (pv 9)) pa_nil)))))) (pe_op op_rep (pe_lstS (pa_cons (pe_tupS (pa_cons (pv 3) (pa_cons (pe_un un_neg pe_int) pa_nil))) pa_nil)) (pv 5))))))
 (pss_cons (ps_for PassesOwn.never rfl (pi_list (pe_fld (pv 0) rfl)) (pg_tup rfl (pgs_cons (pg_name (i := 6) sc_law_good_plan.nd rfl (Or.inl rfl)) (pgs_cons (pg_name (i := 7) sc_law_good_plan.nd rfl (Or.inl rfl)) pgs_nil)))
 (pss_one (ps_set (i := 2) sc_law_good_plan.nd rfl (Or.inr rfl) (pe_op op_cat (pv 2) (pe_op op_rep (pe_lstS (pa_cons (pe_tupS (pa_cons pe_str (pa_cons (pv 6) pa_nil))) pa_nil)) (pv 7))))))
 (pss_one (ps_ret (pe_lc (own := [("_law_k", 9)]) (g := gName 9) (tt := tYes) (by rfl) sc_law_good_plan.nd (pi_range1 (by rfl) T.z_range (pa_cons (pe_callB (c_min2 rfl) (by rfl) T.z_min (by decide +kernel) (pa_cons (pe_callB c_len (by rfl) T.z_len (by decide +kernel) (pa_cons (pv 2) pa_nil)) (pa_cons (pe_callB c_len (by rfl) T.z_len (by decide +kernel) (pa_cons (pv 1) pa_nil)) pa_nil))) pa_nil)) (blkOk_by (own := [("_law_k", 9)]) (N := N_law_good_plan) (sc := defScope s_law_good_plan) (by decide +kernel)) (fun _ _ _ _ _ => (pg_name (i := 9) sc_law_good_plan.nd rfl (Or.inl rfl))) (fun _ _ _ _ _ => pts_nil) (fun _ _ _ _ _ => (pe_op (catT_K K rfl) (pe_ix (ixL_K K rfl) (pv 2) (pv 9) (fun _ _ => rfl)) (pe_tupS (pa_cons (pe_ix (ixL_K K rfl) (pv 1) (pv 9) (fun _ _ => rfl)) pa_nil))))))))))), ?_⟩
    show (_ : TS) _ [some _, none, none, none, none, none, none, none, none, none] _
    unfold cenP cenF at hS
    walk_at "gs"
    refine s_lcR (fun i acc L' => ∃ js : List Int, acc = js.map PyData.int ∧ L' = cenP T.c_Census x l1 l2 l3 c L) hS ⟨[], rfl, rfl⟩ (fun D i acc H1 L1 hi hP hal hS1 => ?_) (fun D acc H1 L1 hP hal hS1 => ?_)
    · obtain ⟨js, rfl, rfl⟩ := hP
      unfold cenP cenF at hS1
      walk_at "gs"
      obtain ⟨hh, hg⟩ : ∃ hh, c.held[i]? = some hh := ⟨_, List.getElem?_eq_getElem (by omega)⟩
      have e5 : sca (hdD hh) = none := by cases hh <;> rfl
      refine s_ixL hS1 (by walk_at "hl") (d := hdD hh) (by rw [Int.zero_add]; exact atI_nat (by rw [List.getElem?_map, hg]; rfl)) ?_
      unfold Hold
      rw [e5]
      intro y hS2
      walk_at "gs"
      rename Hs _ _ => hS3
      refine s_eqT shp_hd (by decide) (u := hh) (w := .free) (hS3.dvAt (.there .here)) (hS3.dvAt .here) ?_
      refine ⟨_, rfl, ?_⟩
      refine k_iteD (fun h5 => ?_) (fun h5 => ?_)
      · walk_at "gs"
        exact lc_put (A := []) (L := isL D (js.map .int) :: cenP T.c_Census x l1 l2 l3 c L) (by walk_at "pm0") .here (d := .int (0 + (i : Int))) (.int _) hal (by omega) ⟨_, ⟨js ++ [0 + (i : Int)], by rw [List.map_append]; rfl, rfl⟩, .refl⟩
      · exact lc_non (A := []) (L := isL D (js.map .int) :: cenP T.c_Census x l1 l2 l3 c L) (by walk_at "pm0") .here hal ⟨_, ⟨js, rfl, rfl⟩, .refl⟩
    obtain ⟨js, rfl, rfl⟩ := hP
    rw [List.length_map] at hal
    walk_at "gs"
    rename_i a0 _ hS1
    refine s_forL (xs := c.put) (f := prD) (fun i σ L' => ∃ (a : Addr) (it : List (Nm × Int)), (∃ z3 z4 z5 z6 z7 z8 z9 : Option V, σ = [some (.ref x), some (.ref D), some (.ref a), z3, z4, z5, z6, z7, z8, z9]) ∧ L' = isL a (it.map p2D) :: isL D (js.map .int) :: obj T.c_Census x (cenF c.size l1 l2 l3 c.spare) :: isL l1 (c.held.map hdD) :: isL l3 (c.pled.map dPair) :: L ∧ it.length ≤ 4 * i ∧ ∀ u ∈ it, -1 ≤ u.2)
      (show Hs (isL l2 (c.put.map prD) :: isL a0 (([] : List (Nm × Int)).map p2D) :: isL D (js.map .int) :: obj T.c_Census x (cenF c.size l1 l2 l3 c.spare) :: isL l1 (c.held.map hdD) :: isL l3 (c.pled.map dPair) :: L) _ by walk_at "pm0") .here ⟨a0, [], ⟨_, _, _, _, _, _, _, rfl⟩, rfl, by simp, by simp⟩ ?_ ?_
    · rintro i u y us σ H3 L' hu ⟨a, it, ⟨z3, z4, z5, z6, z7, z8, z9, rfl⟩, rfl, hln, hlo⟩ hS2
      obtain ⟨t4, rfl, _⟩ := dv_pr hS2.hd
      have hi := (List.getElem?_eq_some_iff.mp hu).1
      have hum := f.lo u (List.mem_of_getElem? hu)
      walk_at "gs"
      refine s_lcR (fun i acc L' => ∃ w : List (Nm × Int), acc = w.map p2D ∧ w.length = i ∧ (∀ u ∈ w, -1 ≤ u.2) ∧ L' = dv (.ref t4) (prD u) :: isV l2 us (c.put.map prD) :: isL a (it.map p2D) :: isL D (js.map .int) :: obj T.c_Census x (cenF c.size l1 l2 l3 c.spare) :: isL l1 (c.held.map hdD) :: isL l3 (c.pled.map dPair) :: L) hS2 ⟨[], rfl, rfl, by simp, rfl⟩ (fun D2 j acc H4 L1 hj hP hal hS3 => ?_) (fun D2 acc H4 L1 hP hal hS3 => ?_)
      · obtain ⟨w, rfl, hw, hw2, rfl⟩ := hP
        walk_at "gs"
        rename Hs _ _ => hS4
        refine lc_put (A := []) (L := dv _ (p2D (u.1, 7 * (0 + (j : Int)))) :: isL D2 (w.map p2D) :: dv (.ref t4) (prD u) :: isV l2 us (c.put.map prD) :: isL a (it.map p2D) :: isL D (js.map .int) :: obj T.c_Census x (cenF c.size l1 l2 l3 c.spare) :: isL l1 (c.held.map hdD) :: isL l3 (c.pled.map dPair) :: L) (by walk_at "pm0") (.there .here) (d := p2D (u.1, 7 * (0 + (j : Int)))) (hS4.dvAt .here) (by rw [List.length_map]; omega) (by omega) ⟨_, ⟨w ++ [(u.1, 7 * (0 + (j : Int)))], by rw [List.map_append]; rfl, by rw [List.length_append, hw]; rfl, fun v hv => ?_, rfl⟩, .drop .refl⟩
        rcases List.mem_append.mp hv with hv | hv
        · exact hw2 v hv
        · rw [List.mem_singleton] at hv
          subst hv
          show -1 ≤ 7 * (0 + (j : Int))
          omega
      obtain ⟨w, rfl, hw, hw2, rfl⟩ := hP
      rw [List.length_map] at hal
      walk_at "gs"
      rename Hs _ _ => hS4
      refine s_rep1 hS4 .here (by omega) (by omega) fun r H5 hS5 => ?_
      clear hS4
      rw [show List.replicate u.2.2.toNat (PyData.tuple [.str (nmS u.1), .int (-1)]) = (List.replicate u.2.2.toNat (u.1, (-1 : Int))).map p2D by rw [List.map_replicate]] at hS5
      walk_at "gs"
      rename Hs _ _ => hS6
      refine ⟨_, ⟨_, it ++ w ++ List.replicate u.2.2.toNat (u.1, (-1 : Int)), ⟨_, _, _, _, _, _, _, rfl⟩, rfl, ?_, fun v hv => ?_⟩, by walk_at "pm0"⟩
      · rw [List.length_append, List.length_append, List.length_replicate]
        omega
      · rcases List.mem_append.mp hv with hv | hv
        · rcases List.mem_append.mp hv with hv | hv
          · exact hlo v hv
          · exact hw2 v hv
        · rw [List.eq_of_mem_replicate hv]
          exact Int.le_refl _
    rintro σ H3 L' ⟨a, it, ⟨z3, z4, z5, z6, z7, z8, z9, rfl⟩, rfl, hln, hlo⟩ hS2
    clear hS1
    walk_at "gs"
    refine s_forL (xs := c.pled) (f := dPair) (fun i σ L' => ∃ (a : Addr) (it : List (Nm × Int)), (∃ z3 z4 z5 z6 z7 z8 z9 : Option V, σ = [some (.ref x), some (.ref D), some (.ref a), z3, z4, z5, z6, z7, z8, z9]) ∧ L' = isL a (it.map p2D) :: isL D (js.map .int) :: obj T.c_Census x (cenF c.size l1 l2 l3 c.spare) :: isL l1 (c.held.map hdD) :: isL l2 (c.put.map prD) :: L ∧ it.length ≤ 12 + 2 * i ∧ ∀ u ∈ it, -1 ≤ u.2)
      (show Hs (isL l3 (c.pled.map dPair) :: isL a (it.map p2D) :: isL D (js.map .int) :: obj T.c_Census x (cenF c.size l1 l2 l3 c.spare) :: isL l1 (c.held.map hdD) :: isL l2 (c.put.map prD) :: L) _ by walk_at "pm0") .here ⟨a, it, ⟨_, _, _, _, _, _, _, rfl⟩, rfl, by omega, hlo⟩ ?_ ?_
    · rintro i v y us σ H4 L' hv ⟨a, it, ⟨z3, z4, z5, z6, z7, z8, z9, rfl⟩, rfl, hln, hlo⟩ hS3
      obtain ⟨t4, rfl, _⟩ := dv_pair hS3.hd
      have hi := (List.getElem?_eq_some_iff.mp hv).1
      have hvm := f.t0 v (List.mem_of_getElem? hv)
      walk_at "gs"
      rename Hs _ _ => hS4
      refine s_rep1 hS4 .here (by omega) (by omega) fun r H5 hS5 => ?_
      clear hS4
      rw [show List.replicate v.2.toNat (PyData.tuple [.str "", .int v.1]) = (List.replicate v.2.toNat (Nm.e, v.1)).map p2D by rw [List.map_replicate]; rfl] at hS5
      walk_at "gs"
      rename Hs _ _ => hS6
      refine ⟨_, ⟨_, it ++ List.replicate v.2.toNat (Nm.e, v.1), ⟨_, _, _, _, _, _, _, rfl⟩, rfl, ?_, fun z hz => ?_⟩, by walk_at "pm0"⟩
      · rw [List.length_append, List.length_replicate]
        omega
      · rcases List.mem_append.mp hz with hz | hz
        · exact hlo z hz
        · rw [List.eq_of_mem_replicate hz]
          show -1 ≤ v.1
          omega
    rintro σ H4 L' ⟨a, it, ⟨z3, z4, z5, z6, z7, z8, z9, rfl⟩, rfl, hln, hlo⟩ hS3
    clear hS2
    walk_at "gs"
    refine s_lcR (fun i acc L' => ∃ w : List Pr, acc = w.map prD ∧ w.length = i ∧ (∀ u ∈ w, -1 ≤ u.2.1) ∧ L' = isL a (it.map p2D) :: isL D (js.map .int) :: cenP T.c_Census x l1 l2 l3 c L) (L0 := isL a (it.map p2D) :: isL D (js.map .int) :: cenP T.c_Census x l1 l2 l3 c L) (by walk_at "pm0") ⟨[], rfl, rfl, by simp, rfl⟩ (fun D2 j acc H5 L1 hj hP hal hS4 => ?_) (fun D2 acc H5 L1 hP hal hS4 => ?_)
    · obtain ⟨w, rfl, hw, hw2, rfl⟩ := hP
      have hj1 : j < it.length := by omega
      have hj2 : j < js.length := by omega
      walk_at "gs"
      refine s_ixL hS4 (by walk_at "hl") (d := p2D it[j]) (by rw [Int.zero_add]; exact atI_nat (by rw [List.getElem?_map, List.getElem?_eq_getElem hj1]; rfl)) ?_
      walk_at "gs"
      rename Hs _ _ => hS5
      refine s_ixL hS5 (by walk_at "hl") (d := .int js[j]) (by rw [Int.zero_add]; exact atI_nat (by rw [List.getElem?_map, List.getElem?_eq_getElem hj2]; rfl)) ?_
      walk_at "gs"
      rename Hs _ _ => hS6
      refine s_catT hS6 (.there .here) .here (by simp) (by simp) (by simp) fun r H6 hS7 => ?_
      refine lc_put (A := []) (L := dv (.ref r) (prD (it[j].1, it[j].2, js[j])) :: isL D2 (w.map prD) :: isL a (it.map p2D) :: isL D (js.map .int) :: cenP T.c_Census x l1 l2 l3 c L) (by walk_at "pm0") (.there .here) (d := prD (it[j].1, it[j].2, js[j])) (hS7.dvAt .here) (by rw [List.length_map]; omega) (by omega) ⟨_, ⟨w ++ [(it[j].1, it[j].2, js[j])], by rw [List.map_append]; rfl, by rw [List.length_append, hw]; rfl, fun v hv => ?_, rfl⟩, .drop .refl⟩
      rcases List.mem_append.mp hv with hv | hv
      · exact hw2 v hv
      · rw [List.mem_singleton] at hv
        subst hv
        exact hlo _ (List.getElem_mem hj1)
    obtain ⟨w, rfl, hw, hw2, rfl⟩ := hP
    refine q D2 w H5 (by omega) hw2 (by walk_at "pm0")
/-! the law's: a plan spoilt -/
theorem seqIx_nat {j n : Nat} (h : j < n) : seqIndex? (j : Int) n = some j := by
  have e : ¬ (j : Int) < 0 := by omega
  unfold seqIndex?
  simp [e, h]
theorem ixN_nat {j n : Nat} (h : j < n) : ixN n (j : Int) = some j := by
  unfold ixN
  simp [h]
theorem DvAll.eraseIx {H : Hp} : ∀ {xs : List V} {ds : List PyData} (n : Nat), DvAll H xs ds → DvAll H (xs.eraseIdx n) (ds.eraseIdx n)
  | _, _, _, .nil => .nil
  | _, _, 0, .cons _ t => t
  | _, _, n + 1, .cons a t => .cons a (DvAll.eraseIx n t)
theorem map_eraseIx {α β : Type} (f : α → β) : ∀ (xs : List α) (j : Nat), (xs.map f).eraseIdx j = (xs.eraseIdx j).map f
  | [], _ => rfl
  | _ :: _, 0 => rfl
  | x :: xs, j + 1 => congrArg (f x :: ·) (map_eraseIx f xs j)
theorem s_popAt {L R : List Asn} {H : Hp} {Q : VK} {p : Addr} {ds : List PyData} {d : PyData} {i : Int} {j : Nat} (hS : Hs L H) (k : Pick L (isL p ds) R) (ei : i = j) (e : ds[j]? = some d) (hl : ds.length ≤ 1000) (h : ∀ y H', Dv H' y d → Hs (isL p (ds.eraseIdx j) :: R) H' → Q y H') : rPopAt (.ref p) [.int i] H Q := by
  subst ei
  obtain ⟨us, g1, g2⟩ := hS.at_ k
  obtain ⟨y, e2, hy⟩ := g2.get2 e
  have hj := (List.getElem?_eq_some_iff.mp e2).1
  have hl2 := g2.length
  refine ⟨p, us, j, j, y, rfl, rfl, g1, by omega, by omega, seqIx_nat hj, e2, ?_⟩
  have z := (k.go hS).putL (DvAll.eraseIx j g2)
  refine h y _ (hy.map fun a xs e => ?_) z
  rw [upd_ne (ne_of e g1 fun z => by cases z)]
  exact e
def sp_law_spoilt : Sp := fun vs H Q _ => ∃ (b p : Addr) (ns : List Int) (n : Int) (plan : List Pr) (L : List Asn), vs = [.ref b, .ref p, .int n] ∧ Hs (isL p (plan.map prD) :: isBag b ns :: L) H ∧ 4 ≤ n ∧ n ≤ 23 ∧ plan.length ≤ 23 ∧ (∀ u ∈ plan, -1 ≤ u.2.1) ∧
  ∀ r (plan2 : List Pr) H', plan2.length ≤ 24 → (∀ u ∈ plan2, -1 ≤ u.2.1) → Hs (isL r (plan2.map prD) :: isL p (plan.map prD) :: isBag b ns :: L) H' → Q (.ref r) H'
theorem ok_law_spoilt (T : Txt K mg) : FnOk P w K mg base (L2.CX P w) 4 T.f_law_spoilt T.d_law_spoilt ["_law_bag_here", "_law_plan", "_law_size"] sp_law_spoilt := by
  refine T.F_law_spoilt.ok sc_law_spoilt (fun vs H Q E h => ?_) (fun cdv A outer s H vs Q E hr h => ?_)
  · obtain ⟨b, p, ns, n, plan, L, rfl, _⟩ := h
    rfl
  · obtain ⟨b, p, ns, n, plan, L, rfl, hS, n1, n2, hp, hlo, q⟩ := h
    refine ⟨_, PSs.nox (pss_cons (ps_set (i := 3) sc_law_spoilt.nd rfl (Or.inl rfl) (pe_callTy c_listOf (by rfl) T.z_list (by decide +kernel) (pa_cons (pv 1) pa_nil)))
 (pss_cons (ps_set (i := 4) sc_law_spoilt.nd rfl (Or.inl rfl) (pe_call (ok_law_pull (base := base) T) (hr.mono (by decide)) (by rfl) T.g_law_pull T.k_law_pull T.b_law_pull .nil passL (pa_cons (pv 0) (pa_cons pe_int pa_nil))))
 (pss_cons (ps_if (PW.pt (pw_or (pt_cmpR op_eq (pv 4) pe_int (nomark _)) (pw_or1 (pt_cmpR op_eq (pe_callB c_len (by rfl) T.z_len (by decide +kernel) (pa_cons (pv 3) pa_nil)) pe_int (nomark _)))))
 (pss_one (ps_ret (pe_op op_cat (pv 3) (pe_op op_rep (pe_lstS (pa_cons (pe_tupS (pa_cons pe_str (pa_cons pe_int (pa_cons (pe_call (ok_law_pull (base := base) T) (hr.mono (by decide)) (by rfl) T.g_law_pull T.k_law_pull T.b_law_pull .nil passL (pa_cons (pv 0) (pa_cons (pv 2) pa_nil))) pa_nil)))) pa_nil)) (pe_callTy call_int1 (by rfl) T.z_int (by decide +kernel) (pa_cons (pe_cmpR op_eq (pv 4) pe_int (nomark _)) pa_nil))))))
 pss_nil)
 (pss_cons (ps_set (i := 5) sc_law_spoilt.nd rfl (Or.inl rfl) (pe_call (ok_law_pull (base := base) T) (hr.mono (by decide)) (by rfl) T.g_law_pull T.k_law_pull T.b_law_pull .nil passL (pa_cons (pv 0) (pa_cons (pe_callB c_len (by rfl) T.z_len (by decide +kernel) (pa_cons (pv 3) pa_nil)) pa_nil))))
 (pss_cons (ps_asg (pe_ix ix_list (pv 3) (pv 5) (fun _ _ => rfl)) (pg_tup rfl (pgs_cons (pg_name (i := 6) sc_law_spoilt.nd rfl (Or.inl rfl)) (pgs_cons (pg_name (i := 7) sc_law_spoilt.nd rfl (Or.inl rfl)) (pgs_cons (pg_name (i := 8) sc_law_spoilt.nd rfl (Or.inl rfl)) pgs_nil)))))
 (pss_cons (ps_set (i := 9) sc_law_spoilt.nd rfl (Or.inl rfl) (pe_lstS (pa_cons (pe_ix ix_list (pv 3) (pe_call (ok_law_pull (base := base) T) (hr.mono (by decide)) (by rfl) T.g_law_pull T.k_law_pull T.b_law_pull .nil passL (pa_cons (pv 0) (pa_cons (pe_callB c_len (by rfl) T.z_len (by decide +kernel) (pa_cons (pv 3) pa_nil)) pa_nil))) (fun _ _ => rfl)) (pa_cons (pe_tupS (pa_cons (pv 6) (pa_cons (pv 7) (pa_cons (pe_call (ok_law_pull (base := base) T) (hr.mono (by decide)) (by rfl) T.g_law_pull T.k_law_pull T.b_law_pull .nil passL (pa_cons (pv 0) (pa_cons (pv 2) pa_nil))) pa_nil)))) (pa_cons (pe_tupS (pa_cons (pv 6) (pa_cons (pv 7) (pa_cons (pv 2) pa_nil)))) (pa_cons (pe_tupS (pa_cons (pv 6) (pa_cons (pv 7) (pa_cons (pe_un un_neg pe_int) pa_nil)))) pa_nil))))))
 (pss_cons (ps_set (i := 9) sc_law_spoilt.nd rfl (Or.inl rfl) (pe_op op_cat (pv 9) (pe_lstS (pa_cons (pe_tupS (pa_cons (pv 6) (pa_cons (pe_op op_mul pe_int (pe_call (ok_law_pull (base := base) T) (hr.mono (by decide)) (by rfl) T.g_law_pull T.k_law_pull T.b_law_pull .nil passL (pa_cons (pv 0) (pa_cons pe_int pa_nil)))) (pa_cons (pv 8) pa_nil)))) (pa_cons (pe_tupS (pa_cons (pv 6) (pa_cons (pe_un un_neg pe_int) (pa_cons (pv 8) pa_nil)))) (pa_cons (pe_tupS (pa_cons pe_str (pa_cons (pv 7) (pa_cons (pv 8) pa_nil)))) (pa_cons (pe_tupS (pa_cons pe_str (pa_cons pe_int (pa_cons (pv 8) pa_nil)))) pa_nil)))))))
 (pss_cons (ps_if (pt_cmpR op_lt (pv 4) pe_int (nomark _))
 (pss_one (ps_asg (pe_ix ix_list (pv 9) (pe_op op_sub (pv 4) pe_int) (fun _ _ => rfl)) (pg_sub (pv 3) (pv 5) set_list)))
 (pss_one (ps_if (pt_cmpR op_eq (pv 4) pe_int (nomark _))
 (pss_one (ps_expr (pe_bm PySem.F.plainAttrs_list PySem.F.slot_list_pop PySem.F.type_list_pop mt_popAt (pv 3) (pa_cons (pv 5) pa_nil))))
 (pss_one (ps_expr (pe_bm PySem.F.plainAttrs_list PySem.F.slot_list_append PySem.F.type_list_append mt_append (pv 3) (pa_cons (pe_ix ix_list (pv 9) pe_int (fun _ _ => rfl)) pa_nil)))))))
 (pss_one (ps_ret (pv 3))))))))))), ?_⟩
    show (_ : TS) _ [some _, some _, some _, none, none, none, none, none, none, none] _
    walk_at "gs"
    rename_i o H1 hS1
    refine k_pullS hS1 (by walk_at "pk") (by decide) (by decide) fun H2 kd kd0 kd1 hS2 => ?_
    clear hS1
    walk_at "gs"
    refine k_iteD (fun h1 => ?_) (fun h1 => ?_)
    · walk_at "gs"
      refine k_pullS hS2 (by walk_at "pk") (by omega) (by omega) fun H4 v v0 v1 hS3 => ?_
      walk_at "gs"
      refine .inr ⟨_, rfl, ?_⟩
      walk_at "gs"
      rename Hs _ _ => hS4
      have hk : ∃ k : Int, (if decide (V.int kd = V.int 1) = true then (1 : Int) else 0) = k ∧ 0 ≤ k ∧ k ≤ 1 := ⟨_, rfl, by split <;> decide, by split <;> decide⟩
      obtain ⟨k, ek, k0, k1⟩ := hk
      rw [ek]
      refine s_rep1 hS4 .here k0 (by omega) fun r H5 hS5 => ?_
      clear hS4
      rw [show List.replicate k.toNat (PyData.tuple [.str "/a", .int 50, .int v]) = (List.replicate k.toNat (Nm.a, (50 : Int), v)).map prD by rw [List.map_replicate]; rfl] at hS5
      walk_at "gs"
      refine q _ (plan ++ List.replicate k.toNat (Nm.a, (50 : Int), v)) _ (by rw [List.length_append, List.length_replicate]; omega) (fun z hz => ?_) (by walk_at "pm0")
      rcases List.mem_append.mp hz with hz | hz
      · exact hlo z hz
      · rw [List.eq_of_mem_replicate hz]
        show (-1 : Int) ≤ 50
        decide
    walk_at "gs"
    refine k_iteD (fun h2 => ?_) (fun h2 => ?_)
    · walk_at "gs"
      refine k_pullS hS2 (by walk_at "pk") (by omega) (by omega) fun H4 v v0 v1 hS3 => ?_
      walk_at "gs"
      refine .inr ⟨_, rfl, ?_⟩
      walk_at "gs"
      rename Hs _ _ => hS4
      have hk : ∃ k : Int, (if decide (V.int kd = V.int 1) = true then (1 : Int) else 0) = k ∧ 0 ≤ k ∧ k ≤ 1 := ⟨_, rfl, by split <;> decide, by split <;> decide⟩
      obtain ⟨k, ek, k0, k1⟩ := hk
      rw [ek]
      refine s_rep1 hS4 .here k0 (by omega) fun r H5 hS5 => ?_
      clear hS4
      rw [show List.replicate k.toNat (PyData.tuple [.str "/a", .int 50, .int v]) = (List.replicate k.toNat (Nm.a, (50 : Int), v)).map prD by rw [List.map_replicate]; rfl] at hS5
      walk_at "gs"
      refine q _ (plan ++ List.replicate k.toNat (Nm.a, (50 : Int), v)) _ (by rw [List.length_append, List.length_replicate]; omega) (fun z hz => ?_) (by walk_at "pm0")
      rcases List.mem_append.mp hz with hz | hz
      · exact hlo z hz
      · rw [List.eq_of_mem_replicate hz]
        show (-1 : Int) ≤ 50
        decide
    have h3 : 0 < plan.length := by
      rcases Nat.eq_zero_or_pos plan.length with z | z
      · exact absurd (by rw [z]; rfl) h2
      · exact z
    walk_at "gs"
    refine k_pullS hS2 (by walk_at "pk") (by omega) (by omega) fun H3 at_ at0 at1 hS3 => ?_
    clear hS2
    obtain ⟨j, rfl⟩ : ∃ j : Nat, at_ = j := ⟨at_.toNat, by omega⟩
    have hj : j < plan.length := by omega
    obtain ⟨u, hu⟩ : ∃ u, plan[j]? = some u := ⟨_, List.getElem?_eq_getElem hj⟩
    have hul := hlo u (List.mem_of_getElem? hu)
    walk_at "gs"
    refine s_ixL hS3 (by walk_at "hl") (d := prD u) (atI_nat (by rw [List.getElem?_map, hu]; rfl)) ?_
    walk_at "gs"
    rename Hs _ _ => hS4
    refine k_pullS hS4 (by walk_at "pk") (by omega) (by omega) fun H4 at2 at20 at21 hS5 => ?_
    clear hS4
    obtain ⟨j2, rfl⟩ : ∃ j : Nat, at2 = j := ⟨at2.toNat, by omega⟩
    have hj2 : j2 < plan.length := by omega
    obtain ⟨u2, hu2⟩ : ∃ u, plan[j2]? = some u := ⟨_, List.getElem?_eq_getElem hj2⟩
    have hul2 := hlo u2 (List.mem_of_getElem? hu2)
    walk_at "gs"
    refine s_ixL hS5 (by walk_at "hl") (d := prD u2) (atI_nat (by rw [List.getElem?_map, hu2]; rfl)) ?_
    unfold Hold
    rw [show sca (prD u2) = none from rfl]
    intro y2 hS6
    walk_at "gs"
    refine k_pullS hS6 (by walk_at "pk") (by omega) (by omega) fun H5 v v0 v1 hS7 => ?_
    clear hS5 hS6
    walk_at "gs"
    rename Hs _ _ => hS8
    refine k_pullS hS8 (by walk_at "pk") (by omega) (by omega) fun H6 g g0 g1 hS9 => ?_
    clear hS8
    walk_at "gs"
    rename_i r0 H7 _
    obtain ⟨rs, hrs⟩ : ∃ rs : List Pr, rs = [u2, (u.1, u.2.1, v), (u.1, u.2.1, n), (u.1, u.2.1, -1), (u.1, 7 * g, u.2.2), (u.1, -1, u.2.2), (.b, u.2.1, u.2.2), (.e, 5, u.2.2)] := ⟨_, rfl⟩
    have hrl : ∀ z ∈ rs, -1 ≤ z.2.1 := by
      intro z hz
      rw [hrs] at hz
      simp only [List.mem_cons, List.not_mem_nil, or_false] at hz
      rcases hz with rfl | rfl | rfl | rfl | rfl | rfl | rfl | rfl
      · exact hul2
      · exact hul
      · exact hul
      · exact hul
      · show -1 ≤ 7 * g
        omega
      · exact Int.le_refl _
      · exact hul
      · show (-1 : Int) ≤ 5
        decide
    have hr8 : rs.length = 8 := by
      rw [hrs]
      rfl
    have hS10 : Hs (isL r0 (rs.map prD) :: isBag b ns :: isL o (plan.map prD) :: isL p (plan.map prD) :: L) H7 := by
      rw [hrs]
      walk_at "pm0"
    clear hrs
    refine k_iteD (fun h4 => ?_) (fun h4 => ?_)
    · obtain ⟨jk, ejk⟩ : ∃ jk : Nat, kd - 1 = jk := ⟨(kd - 1).toNat, by have : kd ≠ 0 := fun z => h1 (by rw [z]); omega⟩
      obtain ⟨u3, hu3⟩ : ∃ u, rs[jk]? = some u := ⟨_, List.getElem?_eq_getElem (by omega)⟩
      have hul3 := hrl u3 (List.mem_of_getElem? hu3)
      walk_at "gs"
      refine s_ixL hS10 (by walk_at "hl") (d := prD u3) (by rw [ejk]; exact atI_nat (by rw [List.getElem?_map, hu3]; rfl)) ?_
      unfold Hold
      rw [show sca (prD u3) = none from rfl]
      intro y3 hS11
      walk_at "gs"
      refine s_setL (j := j) hS11 (.there (.there (.there .here))) (d := prD u3) (hS11.dvAt .here) (by rw [List.length_map]; exact ixN_nat hj) fun H8 hS12 => ?_
      rw [← List.map_set] at hS12
      walk_at "gs"
      refine q o (plan.set j u3) _ (by rw [List.length_set]; omega) (fun z hz => ?_) (by walk_at "pm0")
      rcases List.mem_or_eq_of_mem_set hz with hz | rfl
      · exact hlo z hz
      · exact hul3
    · walk_at "gs"
      refine k_iteD (fun h5 => ?_) (fun h5 => ?_)
      · walk_at "gs"
        refine s_popAt hS10 (.there (.there .here)) rfl (d := prD u) (by rw [List.getElem?_map, hu]; rfl) (by rw [List.length_map]; omega) fun y H8 hy hS11 => ?_
        have e9 : (plan.map prD).eraseIdx j = (plan.eraseIdx j).map prD := map_eraseIx _ _ _
        rw [e9] at hS11
        walk_at "gs"
        refine q o (plan.eraseIdx j) _ (Nat.le_trans (List.length_eraseIdx_le ..) (by omega)) (fun z hz => hlo z (List.mem_of_mem_eraseIdx hz)) (by walk_at "pm0")
      · obtain ⟨u3, hu3⟩ : ∃ u, rs[1]? = some u := ⟨_, List.getElem?_eq_getElem (by omega)⟩
        have hul3 := hrl u3 (List.mem_of_getElem? hu3)
        walk_at "gs"
        refine s_ixL hS10 (by walk_at "hl") (d := prD u3) (atI_nat (j := 1) (by rw [List.getElem?_map, hu3]; rfl)) ?_
        unfold Hold
        rw [show sca (prD u3) = none from rfl]
        intro y3 hS11
        walk_at "gs"
        rename Hs _ _ => hS12
        have e9 : plan.map prD ++ [prD u3] = (plan ++ [u3]).map prD := by
          rw [List.map_append]
          rfl
        rw [e9] at hS12
        refine q o (plan ++ [u3]) _ (by rw [List.length_append]; show _ + 1 ≤ _; omega) (fun z hz => ?_) (by walk_at "pm0")
        rcases List.mem_append.mp hz with hz | hz
        · exact hlo z hz
        · rw [List.mem_singleton] at hz
          rw [hz]
          exact hul3
/-! the law's: fields apart -/
section
variable {K : PySem.W.Frag} {L R R2 : List Asn} {H : Hp} {Q : VK} {E : XK} {C x y p q l1 l2 l3 m1 m2 m3 : Addr} {c d : Cen} {xs ys zs : List V}
theorem s_eqCen (hS : Hs (cenP C x l1 l2 l3 c (cenP C y m1 m2 m3 d L)) H) (h : ∀ H', Hs (cenP C x l1 l2 l3 c (cenP C y m1 m2 m3 d L)) H' → Q (.bl (decide (c = d))) H') : rEqO K C (sp_Census_eq C) E (.ref x) (.ref y) H Q := by
  obtain ⟨dx, ex⟩ := hS.at_ (k := .here)
  obtain ⟨dy, ey⟩ := hS.at_ (k := .there (.there (.there (.there .here))))
  exact ⟨x, dx, _, _, rfl, ex, .ins ey, nf_self K C, x, y, l1, l2, l3, m1, m2, m3, c, d, L, rfl, hS, fun H' h' => ⟨_, rfl, h H' h'⟩⟩
theorem s_neCen (hS : Hs (cenP C x l1 l2 l3 c (cenP C y m1 m2 m3 d L)) H) (h : ∀ H', Hs (cenP C x l1 l2 l3 c (cenP C y m1 m2 m3 d L)) H' → Q (.bl (!decide (c = d))) H') : rNeO K C (sp_Census_eq C) E (.ref x) (.ref y) H Q := by
  obtain ⟨dx, ex⟩ := hS.at_ (k := .here)
  obtain ⟨dy, ey⟩ := hS.at_ (k := .there (.there (.there (.there .here))))
  exact ⟨x, dx, _, _, rfl, ex, .ins ey, nf_self K C, x, y, l1, l2, l3, m1, m2, m3, c, d, L, rfl, hS, fun H' h' => ⟨_, rfl, h H' h'⟩⟩
theorem s_slC {lo hi : Option Int} (hS : Hs L H) (k : Pick L (cell p (.lst xs)) R) (e : cutV xs lo hi = ys) (h : ∀ q H', Hs (cell q (.lst ys) :: L) H' → Q (.ref q) H') : rSlL K (.ref p) lo hi H Q := by
  subst e
  exact ⟨p, xs, rfl, SqL.of (hS.at_ k), fun q nq => h q _ (hS.new nq)⟩
theorem s_catC (hS : Hs L H) (k1 : Pick L (cell p (.lst xs)) R) (k2 : Pick L (cell q (.lst zs)) R2) (hl : xs.length + zs.length ≤ 100000) (h : ∀ r H', Hs (cell r (.lst (xs ++ zs)) :: L) H' → Q (.ref r) H') : rCat (.ref p) (.ref q) H Q :=
  ⟨p, q, xs, zs, rfl, rfl, hS.at_ k1, hS.at_ k2, le_line hl, fun r nr => h r _ (hS.new nr)⟩
end
def sp_law_fields_apart (C : Addr) : Sp := fun vs H Q _ => ∃ (x l1 l2 l3 : Addr) (n : Int) (c : Cen) (L : List Asn), vs = [.ref x] ∧ Hs (cenP C x l1 l2 l3 c L) H ∧ GoodC n c ∧ n ≤ 23 ∧
  ∀ H', Hs (cenP C x l1 l2 l3 c L) H' → Q (.bl true) H'
theorem ok_law_fields_apart (T : Txt K mg) : FnOk P w K mg base (L2.CX P w) 4 T.f_law_fields_apart T.d_law_fields_apart ["_law_census_here"] (sp_law_fields_apart T.c_Census) := by
  refine T.F_law_fields_apart.ok sc_law_fields_apart (fun vs H Q E h => ?_) (fun cdv A outer s H vs Q E hr h => ?_)
  · obtain ⟨x, l1, l2, l3, n, c, L, rfl, _⟩ := h
    rfl
  · obtain ⟨x, l1, l2, l3, n, c, L, rfl, hS, f, n2, q⟩ := h
    have cl := T.cl_Census
    have a1 := T.n_Census_size
    have a2 := T.n_Census_held
    have a3 := T.n_Census_put_by
    have a4 := T.n_Census_pledged
    have a5 := T.n_Census_spare
    have f1 := f.len
    have f2 := f.pl
    have f3 := f.gl
    refine ⟨_, PSs.nox (pss_cons (ps_set (i := 1) sc_law_fields_apart.nd rfl (Or.inl rfl) (pe_lstC (pa_cons (pe_fld (pv 0) rfl) (pa_cons (pe_fld (pv 0) rfl) (pa_cons (pe_fld (pv 0) rfl) (pa_cons (pe_fld (pv 0) rfl) (pa_cons (pe_fld (pv 0) rfl) pa_nil)))))))
 (pss_cons (ps_set (i := 2) sc_law_fields_apart.nd rfl (Or.inl rfl) (pe_lstC (pa_cons (pe_op op_add (pe_ix ix_list (pv 1) pe_int (fun _ _ => rfl)) pe_int) (pa_cons (pe_op op_cat (pe_ix ix_list (pv 1) pe_int (fun _ _ => rfl)) (pe_lstS (pa_cons (pe_tupS pa_nil) pa_nil))) (pa_cons (pe_op op_cat (pe_ix ix_list (pv 1) pe_int (fun _ _ => rfl)) (pe_lstS (pa_cons (pe_tupS (pa_cons pe_str (pa_cons pe_int (pa_cons pe_int pa_nil)))) pa_nil))) (pa_cons (pe_op op_cat (pe_ix ix_list (pv 1) pe_int (fun _ _ => rfl)) (pe_lstS (pa_cons (pe_tupS (pa_cons pe_int (pa_cons pe_int pa_nil))) pa_nil))) (pa_cons (pe_op op_add (pe_ix ix_list (pv 1) pe_int (fun _ _ => rfl)) pe_int) pa_nil)))))))
 (pss_cons (ps_for PassesOwn.never rfl (pi_range1 (by rfl) T.z_range (pa_cons pe_int pa_nil)) (pg_name (i := 3) sc_law_fields_apart.nd rfl (Or.inl rfl))
 (pss_cons (ps_set (i := 4) sc_law_fields_apart.nd rfl (Or.inl rfl) (pe_op op_cat (pe_op op_cat (pe_slice sl_list (pv 1) po_none (po_some (pv 3))) (pe_lstC (pa_cons (pe_ix ix_list (pv 2) (pv 3) (fun _ _ => rfl)) pa_nil))) (pe_slice sl_list (pv 1) (po_some (pe_op op_add (pv 3) pe_int)) po_none)))
 (pss_cons (ps_set (i := 5) sc_law_fields_apart.nd rfl (Or.inl rfl) (mkS (pe_make T.mk_Census (ok_Censusx_initx (base := base) T) (hr.mono (by decide)) (by rfl) T.g_Census T.b_Censusx_initx .nil passL (mcPA (pa_cons (pe_ix ix_list (pv 4) pe_int (fun _ _ => rfl)) (pa_cons (pe_ix ix_list (pv 4) pe_int (fun _ _ => rfl)) (pa_cons (pe_ix ix_list (pv 4) pe_int (fun _ _ => rfl)) (pa_cons (pe_ix ix_list (pv 4) pe_int (fun _ _ => rfl)) (pa_cons (pe_ix ix_list (pv 4) pe_int (fun _ _ => rfl)) pa_nil)))))))))
 (pss_one (ps_if (PW.pt (pw_or (pt_cmpR op_notBl (pe_cmpR (op_eqO (ok_Censusx_eqx (base := base) T) T.m_Census_eq.at_ T.m_Census_eq.fn T.b_Censusx_eqx passL (hr.mono (by decide))) (pv 0) (pv 5) (nomark _)) pe_bl (nomark _)) (pw_or (pt_cmpR op_notBl (pe_cmpR (op_eqO (ok_Censusx_eqx (base := base) T) T.m_Census_eq.at_ T.m_Census_eq.fn T.b_Censusx_eqx passL (hr.mono (by decide))) (pv 5) (pv 0) (nomark _)) pe_bl (nomark _)) (pw_or1 (pt_cmpR op_notBl (pe_cmpR (op_neO (ok_Censusx_eqx (base := base) T) T.m_Census_eq.at_ T.ne_Census T.ow_Census.mo T.m_Census_eq.fn T.b_Censusx_eqx passL (hr.mono (by decide))) (pv 0) (pv 5) (nomark _)) pe_bl (nomark _))))))
 (pss_one (ps_ret pe_bl))
 pss_nil)))))
 (pss_one (ps_ret pe_bl))))), ?_⟩
    show (_ : TS) _ [some _, none, none, none, none, none] _
    walk_at "gs"
    rename_i bs _ _ _ _ _ h2 _ _ _ _ _ p2 _ _ _ _ _ g2 _ mo H1 hS1
    have eh : c.held.map hdD ++ [.tuple []] = (c.held ++ [Hd.free]).map hdD := by
      rw [List.map_append]
      rfl
    have ep : c.put.map prD ++ [.tuple [.str "/z", .int 1, .int 0]] = (c.put ++ [(Nm.z, 1, 0)]).map prD := by
      rw [List.map_append]
      rfl
    have eg : c.pled.map dPair ++ [.tuple [.int 99, .int 1]] = (c.pled ++ [(99, 1)]).map dPair := by
      rw [List.map_append]
      rfl
    rw [eh, ep, eg] at hS1
    refine s_forR (fun i σ L' => (∃ z3 z4 z5 : Option V, σ = [some (.ref x), some (.ref bs), some (.ref mo), z3, z4, z5]) ∧ L' = cell mo (.lst [.int (c.size + 1), .ref h2, .ref p2, .ref g2, .int (c.spare + 1)]) :: cell bs (.lst [.int c.size, .ref l1, .ref l2, .ref l3, .int c.spare]) :: isL h2 ((c.held ++ [Hd.free]).map hdD) :: isL p2 ((c.put ++ [(Nm.z, 1, 0)]).map prD) :: isL g2 ((c.pled ++ [(99, 1)]).map dPair) :: cenP T.c_Census x l1 l2 l3 c L)
      (L0 := cell mo (.lst [.int (c.size + 1), .ref h2, .ref p2, .ref g2, .int (c.spare + 1)]) :: cell bs (.lst [.int c.size, .ref l1, .ref l2, .ref l3, .int c.spare]) :: isL h2 ((c.held ++ [Hd.free]).map hdD) :: isL p2 ((c.put ++ [(Nm.z, 1, 0)]).map prD) :: isL g2 ((c.pled ++ [(99, 1)]).map dPair) :: cenP T.c_Census x l1 l2 l3 c L) (by walk_at "pm0") ⟨⟨_, _, _, rfl⟩, rfl⟩ ?_ ?_
    · rintro i σ H2 L' hi ⟨⟨z3, z4, z5, rfl⟩, rfl⟩ hS2
      clear hS1
      have hi : i < 5 := hi
      obtain rfl | rfl | rfl | rfl | rfl : i = 0 ∨ i = 1 ∨ i = 2 ∨ i = 3 ∨ i = 4 := by omega
      · rw [show (0 : Int) + ((0 : Nat) : Int) = 0 from rfl]
        obtain ⟨d, hd⟩ : ∃ d : Cen, d = ⟨c.size + 1, c.held, c.put, c.pled, c.spare⟩ := ⟨_, rfl⟩
        have hne : ¬ c = d := fun z => by
          rw [hd] at z
          have z := congrArg Cen.size z
          have z : c.size = c.size + 1 := z
          omega
        walk_at "gs"
        refine s_slC hS2 (by walk_at "pk") (ys := []) rfl fun q1 H3 hS3 => ?_
        clear hS2
        walk_at "gs"
        rename Hs _ _ => hS4
        refine s_catC hS4 (.there .here) .here (by simp) fun q2 H5 hS5 => ?_
        clear hS4
        walk_at "gs"
        refine s_slC hS5 (p := bs) (by walk_at "pk") (ys := [.ref l1, .ref l2, .ref l3, .int c.spare]) rfl fun q3 H6 hS6 => ?_
        clear hS5
        refine s_catC hS6 (.there .here) .here (by simp) fun q4 H7 hS7 => ?_
        have hS8 : Hs (cell q4 (.lst [.int (c.size + 1), .ref l1, .ref l2, .ref l3, .int c.spare]) :: cell mo (.lst [.int (c.size + 1), .ref h2, .ref p2, .ref g2, .int (c.spare + 1)]) :: cell bs (.lst [.int c.size, .ref l1, .ref l2, .ref l3, .int c.spare]) :: isL h2 ((c.held ++ [Hd.free]).map hdD) :: isL p2 ((c.put ++ [(Nm.z, 1, 0)]).map prD) :: isL g2 ((c.pled ++ [(99, 1)]).map dPair) :: cenP T.c_Census x l1 l2 l3 c L) H7 := by walk_at "pm0"
        clear hS6 hS7
        walk_at "gs"
        rename_i y H9 hS9
        refine ⟨y, l1, l2, l3, _, _, c.held.map hdD, c.put.map prD, c.pled.map dPair, cell mo (.lst [.int (c.size + 1), .ref h2, .ref p2, .ref g2, .int (c.spare + 1)]) :: cell bs (.lst [.int c.size, .ref l1, .ref l2, .ref l3, .int c.spare]) :: isL h2 ((c.held ++ [Hd.free]).map hdD) :: isL p2 ((c.put ++ [(Nm.z, 1, 0)]).map prD) :: isL g2 ((c.pled ++ [(99, 1)]).map dPair) :: cenP T.c_Census x l1 l2 l3 c L, rfl, by walk_at "pm0", by walk_at "hl", by walk_at "hl", by walk_at "hl", by simp; omega, by simp; omega, by simp; omega, fun m1 m2 m3 H10 hS10 => ⟨rfl, ?_⟩⟩
        have hS11 : Hs (cenP T.c_Census x l1 l2 l3 c (cenP T.c_Census y m1 m2 m3 d (cell mo (.lst [.int (c.size + 1), .ref h2, .ref p2, .ref g2, .int (c.spare + 1)]) :: cell bs (.lst [.int c.size, .ref l1, .ref l2, .ref l3, .int c.spare]) :: isL h2 ((c.held ++ [Hd.free]).map hdD) :: isL p2 ((c.put ++ [(Nm.z, 1, 0)]).map prD) :: isL g2 ((c.pled ++ [(99, 1)]).map dPair) :: L))) H10 := by
          rw [hd]
          walk_at "pm0"
        clear hS9 hS10 hd
        walk_at "gs"
        refine s_eqCen hS11 fun H11 hS12 => ?_
        clear hS11
        rw [decide_eq_false hne]
        walk_at "gs"
        refine ⟨_, _, rfl, rfl, ?_⟩
        walk_at "gs"
        refine s_eqCen (c := d) (d := c) (show Hs (cenP T.c_Census y m1 m2 m3 d (cenP T.c_Census x l1 l2 l3 c (cell mo (.lst [.int (c.size + 1), .ref h2, .ref p2, .ref g2, .int (c.spare + 1)]) :: cell bs (.lst [.int c.size, .ref l1, .ref l2, .ref l3, .int c.spare]) :: isL h2 ((c.held ++ [Hd.free]).map hdD) :: isL p2 ((c.put ++ [(Nm.z, 1, 0)]).map prD) :: isL g2 ((c.pled ++ [(99, 1)]).map dPair) :: L))) H11 by walk_at "pm0") fun H12 hS13 => ?_
        clear hS12
        rw [decide_eq_false fun z => hne z.symm]
        walk_at "gs"
        refine ⟨_, _, rfl, rfl, ?_⟩
        walk_at "gs"
        refine s_neCen (show Hs (cenP T.c_Census x l1 l2 l3 c (cenP T.c_Census y m1 m2 m3 d (cell mo (.lst [.int (c.size + 1), .ref h2, .ref p2, .ref g2, .int (c.spare + 1)]) :: cell bs (.lst [.int c.size, .ref l1, .ref l2, .ref l3, .int c.spare]) :: isL h2 ((c.held ++ [Hd.free]).map hdD) :: isL p2 ((c.put ++ [(Nm.z, 1, 0)]).map prD) :: isL g2 ((c.pled ++ [(99, 1)]).map dPair) :: L))) H12 by walk_at "pm0") fun H13 hS14 => ?_
        clear hS13
        rw [decide_eq_false hne]
        walk_at "gs"
        refine ⟨_, _, rfl, rfl, ?_⟩
        walk_at "gs"
        exact ⟨_, ⟨⟨_, _, _, rfl⟩, rfl⟩, by walk_at "pm0"⟩
      · rw [show (0 : Int) + ((1 : Nat) : Int) = 1 from rfl]
        obtain ⟨d, hd⟩ : ∃ d : Cen, d = ⟨c.size, c.held ++ [Hd.free], c.put, c.pled, c.spare⟩ := ⟨_, rfl⟩
        have hne : ¬ c = d := fun z => by
          rw [hd] at z
          have z := congrArg (fun c : Cen => c.held.length) z
          simp at z
        walk_at "gs"
        refine s_slC hS2 (by walk_at "pk") (ys := [.int c.size]) rfl fun q1 H3 hS3 => ?_
        clear hS2
        walk_at "gs"
        rename Hs _ _ => hS4
        refine s_catC hS4 (.there .here) .here (by simp) fun q2 H5 hS5 => ?_
        clear hS4
        walk_at "gs"
        refine s_slC hS5 (p := bs) (by walk_at "pk") (ys := [.ref l2, .ref l3, .int c.spare]) rfl fun q3 H6 hS6 => ?_
        clear hS5
        refine s_catC hS6 (.there .here) .here (by simp) fun q4 H7 hS7 => ?_
        have hS8 : Hs (cell q4 (.lst [.int c.size, .ref h2, .ref l2, .ref l3, .int c.spare]) :: cell mo (.lst [.int (c.size + 1), .ref h2, .ref p2, .ref g2, .int (c.spare + 1)]) :: cell bs (.lst [.int c.size, .ref l1, .ref l2, .ref l3, .int c.spare]) :: isL h2 ((c.held ++ [Hd.free]).map hdD) :: isL p2 ((c.put ++ [(Nm.z, 1, 0)]).map prD) :: isL g2 ((c.pled ++ [(99, 1)]).map dPair) :: cenP T.c_Census x l1 l2 l3 c L) H7 := by walk_at "pm0"
        clear hS6 hS7
        walk_at "gs"
        rename_i y H9 hS9
        refine ⟨y, h2, l2, l3, _, _, (c.held ++ [Hd.free]).map hdD, c.put.map prD, c.pled.map dPair, cell mo (.lst [.int (c.size + 1), .ref h2, .ref p2, .ref g2, .int (c.spare + 1)]) :: cell bs (.lst [.int c.size, .ref l1, .ref l2, .ref l3, .int c.spare]) :: isL h2 ((c.held ++ [Hd.free]).map hdD) :: isL p2 ((c.put ++ [(Nm.z, 1, 0)]).map prD) :: isL g2 ((c.pled ++ [(99, 1)]).map dPair) :: cenP T.c_Census x l1 l2 l3 c L, rfl, by walk_at "pm0", by walk_at "hl", by walk_at "hl", by walk_at "hl", by simp; omega, by simp; omega, by simp; omega, fun m1 m2 m3 H10 hS10 => ⟨rfl, ?_⟩⟩
        have hS11 : Hs (cenP T.c_Census x l1 l2 l3 c (cenP T.c_Census y m1 m2 m3 d (cell mo (.lst [.int (c.size + 1), .ref h2, .ref p2, .ref g2, .int (c.spare + 1)]) :: cell bs (.lst [.int c.size, .ref l1, .ref l2, .ref l3, .int c.spare]) :: isL h2 ((c.held ++ [Hd.free]).map hdD) :: isL p2 ((c.put ++ [(Nm.z, 1, 0)]).map prD) :: isL g2 ((c.pled ++ [(99, 1)]).map dPair) :: L))) H10 := by
          rw [hd]
          walk_at "pm0"
        clear hS9 hS10 hd
        walk_at "gs"
        refine s_eqCen hS11 fun H11 hS12 => ?_
        clear hS11
        rw [decide_eq_false hne]
        walk_at "gs"
        refine ⟨_, _, rfl, rfl, ?_⟩
        walk_at "gs"
        refine s_eqCen (c := d) (d := c) (show Hs (cenP T.c_Census y m1 m2 m3 d (cenP T.c_Census x l1 l2 l3 c (cell mo (.lst [.int (c.size + 1), .ref h2, .ref p2, .ref g2, .int (c.spare + 1)]) :: cell bs (.lst [.int c.size, .ref l1, .ref l2, .ref l3, .int c.spare]) :: isL h2 ((c.held ++ [Hd.free]).map hdD) :: isL p2 ((c.put ++ [(Nm.z, 1, 0)]).map prD) :: isL g2 ((c.pled ++ [(99, 1)]).map dPair) :: L))) H11 by walk_at "pm0") fun H12 hS13 => ?_
        clear hS12
        rw [decide_eq_false fun z => hne z.symm]
        walk_at "gs"
        refine ⟨_, _, rfl, rfl, ?_⟩
        walk_at "gs"
        refine s_neCen (show Hs (cenP T.c_Census x l1 l2 l3 c (cenP T.c_Census y m1 m2 m3 d (cell mo (.lst [.int (c.size + 1), .ref h2, .ref p2, .ref g2, .int (c.spare + 1)]) :: cell bs (.lst [.int c.size, .ref l1, .ref l2, .ref l3, .int c.spare]) :: isL h2 ((c.held ++ [Hd.free]).map hdD) :: isL p2 ((c.put ++ [(Nm.z, 1, 0)]).map prD) :: isL g2 ((c.pled ++ [(99, 1)]).map dPair) :: L))) H12 by walk_at "pm0") fun H13 hS14 => ?_
        clear hS13
        rw [decide_eq_false hne]
        walk_at "gs"
        refine ⟨_, _, rfl, rfl, ?_⟩
        walk_at "gs"
        exact ⟨_, ⟨⟨_, _, _, rfl⟩, rfl⟩, by walk_at "pm0"⟩
      · rw [show (0 : Int) + ((2 : Nat) : Int) = 2 from rfl]
        obtain ⟨d, hd⟩ : ∃ d : Cen, d = ⟨c.size, c.held, c.put ++ [(Nm.z, 1, 0)], c.pled, c.spare⟩ := ⟨_, rfl⟩
        have hne : ¬ c = d := fun z => by
          rw [hd] at z
          have z := congrArg (fun c : Cen => c.put.length) z
          simp at z
        walk_at "gs"
        refine s_slC hS2 (by walk_at "pk") (ys := [.int c.size, .ref l1]) rfl fun q1 H3 hS3 => ?_
        clear hS2
        walk_at "gs"
        rename Hs _ _ => hS4
        refine s_catC hS4 (.there .here) .here (by simp) fun q2 H5 hS5 => ?_
        clear hS4
        walk_at "gs"
        refine s_slC hS5 (p := bs) (by walk_at "pk") (ys := [.ref l3, .int c.spare]) rfl fun q3 H6 hS6 => ?_
        clear hS5
        refine s_catC hS6 (.there .here) .here (by simp) fun q4 H7 hS7 => ?_
        have hS8 : Hs (cell q4 (.lst [.int c.size, .ref l1, .ref p2, .ref l3, .int c.spare]) :: cell mo (.lst [.int (c.size + 1), .ref h2, .ref p2, .ref g2, .int (c.spare + 1)]) :: cell bs (.lst [.int c.size, .ref l1, .ref l2, .ref l3, .int c.spare]) :: isL h2 ((c.held ++ [Hd.free]).map hdD) :: isL p2 ((c.put ++ [(Nm.z, 1, 0)]).map prD) :: isL g2 ((c.pled ++ [(99, 1)]).map dPair) :: cenP T.c_Census x l1 l2 l3 c L) H7 := by walk_at "pm0"
        clear hS6 hS7
        walk_at "gs"
        rename_i y H9 hS9
        refine ⟨y, l1, p2, l3, _, _, c.held.map hdD, (c.put ++ [(Nm.z, 1, 0)]).map prD, c.pled.map dPair, cell mo (.lst [.int (c.size + 1), .ref h2, .ref p2, .ref g2, .int (c.spare + 1)]) :: cell bs (.lst [.int c.size, .ref l1, .ref l2, .ref l3, .int c.spare]) :: isL h2 ((c.held ++ [Hd.free]).map hdD) :: isL p2 ((c.put ++ [(Nm.z, 1, 0)]).map prD) :: isL g2 ((c.pled ++ [(99, 1)]).map dPair) :: cenP T.c_Census x l1 l2 l3 c L, rfl, by walk_at "pm0", by walk_at "hl", by walk_at "hl", by walk_at "hl", by simp; omega, by simp; omega, by simp; omega, fun m1 m2 m3 H10 hS10 => ⟨rfl, ?_⟩⟩
        have hS11 : Hs (cenP T.c_Census x l1 l2 l3 c (cenP T.c_Census y m1 m2 m3 d (cell mo (.lst [.int (c.size + 1), .ref h2, .ref p2, .ref g2, .int (c.spare + 1)]) :: cell bs (.lst [.int c.size, .ref l1, .ref l2, .ref l3, .int c.spare]) :: isL h2 ((c.held ++ [Hd.free]).map hdD) :: isL p2 ((c.put ++ [(Nm.z, 1, 0)]).map prD) :: isL g2 ((c.pled ++ [(99, 1)]).map dPair) :: L))) H10 := by
          rw [hd]
          walk_at "pm0"
        clear hS9 hS10 hd
        walk_at "gs"
        refine s_eqCen hS11 fun H11 hS12 => ?_
        clear hS11
        rw [decide_eq_false hne]
        walk_at "gs"
        refine ⟨_, _, rfl, rfl, ?_⟩
        walk_at "gs"
        refine s_eqCen (c := d) (d := c) (show Hs (cenP T.c_Census y m1 m2 m3 d (cenP T.c_Census x l1 l2 l3 c (cell mo (.lst [.int (c.size + 1), .ref h2, .ref p2, .ref g2, .int (c.spare + 1)]) :: cell bs (.lst [.int c.size, .ref l1, .ref l2, .ref l3, .int c.spare]) :: isL h2 ((c.held ++ [Hd.free]).map hdD) :: isL p2 ((c.put ++ [(Nm.z, 1, 0)]).map prD) :: isL g2 ((c.pled ++ [(99, 1)]).map dPair) :: L))) H11 by walk_at "pm0") fun H12 hS13 => ?_
        clear hS12
        rw [decide_eq_false fun z => hne z.symm]
        walk_at "gs"
        refine ⟨_, _, rfl, rfl, ?_⟩
        walk_at "gs"
        refine s_neCen (show Hs (cenP T.c_Census x l1 l2 l3 c (cenP T.c_Census y m1 m2 m3 d (cell mo (.lst [.int (c.size + 1), .ref h2, .ref p2, .ref g2, .int (c.spare + 1)]) :: cell bs (.lst [.int c.size, .ref l1, .ref l2, .ref l3, .int c.spare]) :: isL h2 ((c.held ++ [Hd.free]).map hdD) :: isL p2 ((c.put ++ [(Nm.z, 1, 0)]).map prD) :: isL g2 ((c.pled ++ [(99, 1)]).map dPair) :: L))) H12 by walk_at "pm0") fun H13 hS14 => ?_
        clear hS13
        rw [decide_eq_false hne]
        walk_at "gs"
        refine ⟨_, _, rfl, rfl, ?_⟩
        walk_at "gs"
        exact ⟨_, ⟨⟨_, _, _, rfl⟩, rfl⟩, by walk_at "pm0"⟩
      · rw [show (0 : Int) + ((3 : Nat) : Int) = 3 from rfl]
        obtain ⟨d, hd⟩ : ∃ d : Cen, d = ⟨c.size, c.held, c.put, c.pled ++ [(99, 1)], c.spare⟩ := ⟨_, rfl⟩
        have hne : ¬ c = d := fun z => by
          rw [hd] at z
          have z := congrArg (fun c : Cen => c.pled.length) z
          simp at z
        walk_at "gs"
        refine s_slC hS2 (by walk_at "pk") (ys := [.int c.size, .ref l1, .ref l2]) rfl fun q1 H3 hS3 => ?_
        clear hS2
        walk_at "gs"
        rename Hs _ _ => hS4
        refine s_catC hS4 (.there .here) .here (by simp) fun q2 H5 hS5 => ?_
        clear hS4
        walk_at "gs"
        refine s_slC hS5 (p := bs) (by walk_at "pk") (ys := [.int c.spare]) rfl fun q3 H6 hS6 => ?_
        clear hS5
        refine s_catC hS6 (.there .here) .here (by simp) fun q4 H7 hS7 => ?_
        have hS8 : Hs (cell q4 (.lst [.int c.size, .ref l1, .ref l2, .ref g2, .int c.spare]) :: cell mo (.lst [.int (c.size + 1), .ref h2, .ref p2, .ref g2, .int (c.spare + 1)]) :: cell bs (.lst [.int c.size, .ref l1, .ref l2, .ref l3, .int c.spare]) :: isL h2 ((c.held ++ [Hd.free]).map hdD) :: isL p2 ((c.put ++ [(Nm.z, 1, 0)]).map prD) :: isL g2 ((c.pled ++ [(99, 1)]).map dPair) :: cenP T.c_Census x l1 l2 l3 c L) H7 := by walk_at "pm0"
        clear hS6 hS7
        walk_at "gs"
        rename_i y H9 hS9
        refine ⟨y, l1, l2, g2, _, _, c.held.map hdD, c.put.map prD, (c.pled ++ [(99, 1)]).map dPair, cell mo (.lst [.int (c.size + 1), .ref h2, .ref p2, .ref g2, .int (c.spare + 1)]) :: cell bs (.lst [.int c.size, .ref l1, .ref l2, .ref l3, .int c.spare]) :: isL h2 ((c.held ++ [Hd.free]).map hdD) :: isL p2 ((c.put ++ [(Nm.z, 1, 0)]).map prD) :: isL g2 ((c.pled ++ [(99, 1)]).map dPair) :: cenP T.c_Census x l1 l2 l3 c L, rfl, by walk_at "pm0", by walk_at "hl", by walk_at "hl", by walk_at "hl", by simp; omega, by simp; omega, by simp; omega, fun m1 m2 m3 H10 hS10 => ⟨rfl, ?_⟩⟩
        have hS11 : Hs (cenP T.c_Census x l1 l2 l3 c (cenP T.c_Census y m1 m2 m3 d (cell mo (.lst [.int (c.size + 1), .ref h2, .ref p2, .ref g2, .int (c.spare + 1)]) :: cell bs (.lst [.int c.size, .ref l1, .ref l2, .ref l3, .int c.spare]) :: isL h2 ((c.held ++ [Hd.free]).map hdD) :: isL p2 ((c.put ++ [(Nm.z, 1, 0)]).map prD) :: isL g2 ((c.pled ++ [(99, 1)]).map dPair) :: L))) H10 := by
          rw [hd]
          walk_at "pm0"
        clear hS9 hS10 hd
        walk_at "gs"
        refine s_eqCen hS11 fun H11 hS12 => ?_
        clear hS11
        rw [decide_eq_false hne]
        walk_at "gs"
        refine ⟨_, _, rfl, rfl, ?_⟩
        walk_at "gs"
        refine s_eqCen (c := d) (d := c) (show Hs (cenP T.c_Census y m1 m2 m3 d (cenP T.c_Census x l1 l2 l3 c (cell mo (.lst [.int (c.size + 1), .ref h2, .ref p2, .ref g2, .int (c.spare + 1)]) :: cell bs (.lst [.int c.size, .ref l1, .ref l2, .ref l3, .int c.spare]) :: isL h2 ((c.held ++ [Hd.free]).map hdD) :: isL p2 ((c.put ++ [(Nm.z, 1, 0)]).map prD) :: isL g2 ((c.pled ++ [(99, 1)]).map dPair) :: L))) H11 by walk_at "pm0") fun H12 hS13 => ?_
        clear hS12
        rw [decide_eq_false fun z => hne z.symm]
        walk_at "gs"
        refine ⟨_, _, rfl, rfl, ?_⟩
        walk_at "gs"
        refine s_neCen (show Hs (cenP T.c_Census x l1 l2 l3 c (cenP T.c_Census y m1 m2 m3 d (cell mo (.lst [.int (c.size + 1), .ref h2, .ref p2, .ref g2, .int (c.spare + 1)]) :: cell bs (.lst [.int c.size, .ref l1, .ref l2, .ref l3, .int c.spare]) :: isL h2 ((c.held ++ [Hd.free]).map hdD) :: isL p2 ((c.put ++ [(Nm.z, 1, 0)]).map prD) :: isL g2 ((c.pled ++ [(99, 1)]).map dPair) :: L))) H12 by walk_at "pm0") fun H13 hS14 => ?_
        clear hS13
        rw [decide_eq_false hne]
        walk_at "gs"
        refine ⟨_, _, rfl, rfl, ?_⟩
        walk_at "gs"
        exact ⟨_, ⟨⟨_, _, _, rfl⟩, rfl⟩, by walk_at "pm0"⟩
      · rw [show (0 : Int) + ((4 : Nat) : Int) = 4 from rfl]
        obtain ⟨d, hd⟩ : ∃ d : Cen, d = ⟨c.size, c.held, c.put, c.pled, c.spare + 1⟩ := ⟨_, rfl⟩
        have hne : ¬ c = d := fun z => by
          rw [hd] at z
          have z := congrArg Cen.spare z
          have z : c.spare = c.spare + 1 := z
          omega
        walk_at "gs"
        refine s_slC hS2 (by walk_at "pk") (ys := [.int c.size, .ref l1, .ref l2, .ref l3]) rfl fun q1 H3 hS3 => ?_
        clear hS2
        walk_at "gs"
        rename Hs _ _ => hS4
        refine s_catC hS4 (.there .here) .here (by simp) fun q2 H5 hS5 => ?_
        clear hS4
        walk_at "gs"
        refine s_slC hS5 (p := bs) (by walk_at "pk") (ys := []) rfl fun q3 H6 hS6 => ?_
        clear hS5
        refine s_catC hS6 (.there .here) .here (by simp) fun q4 H7 hS7 => ?_
        have hS8 : Hs (cell q4 (.lst [.int c.size, .ref l1, .ref l2, .ref l3, .int (c.spare + 1)]) :: cell mo (.lst [.int (c.size + 1), .ref h2, .ref p2, .ref g2, .int (c.spare + 1)]) :: cell bs (.lst [.int c.size, .ref l1, .ref l2, .ref l3, .int c.spare]) :: isL h2 ((c.held ++ [Hd.free]).map hdD) :: isL p2 ((c.put ++ [(Nm.z, 1, 0)]).map prD) :: isL g2 ((c.pled ++ [(99, 1)]).map dPair) :: cenP T.c_Census x l1 l2 l3 c L) H7 := by walk_at "pm0"
        clear hS6 hS7
        walk_at "gs"
        rename_i y H9 hS9
        refine ⟨y, l1, l2, l3, _, _, c.held.map hdD, c.put.map prD, c.pled.map dPair, cell mo (.lst [.int (c.size + 1), .ref h2, .ref p2, .ref g2, .int (c.spare + 1)]) :: cell bs (.lst [.int c.size, .ref l1, .ref l2, .ref l3, .int c.spare]) :: isL h2 ((c.held ++ [Hd.free]).map hdD) :: isL p2 ((c.put ++ [(Nm.z, 1, 0)]).map prD) :: isL g2 ((c.pled ++ [(99, 1)]).map dPair) :: cenP T.c_Census x l1 l2 l3 c L, rfl, by walk_at "pm0", by walk_at "hl", by walk_at "hl", by walk_at "hl", by simp; omega, by simp; omega, by simp; omega, fun m1 m2 m3 H10 hS10 => ⟨rfl, ?_⟩⟩
        have hS11 : Hs (cenP T.c_Census x l1 l2 l3 c (cenP T.c_Census y m1 m2 m3 d (cell mo (.lst [.int (c.size + 1), .ref h2, .ref p2, .ref g2, .int (c.spare + 1)]) :: cell bs (.lst [.int c.size, .ref l1, .ref l2, .ref l3, .int c.spare]) :: isL h2 ((c.held ++ [Hd.free]).map hdD) :: isL p2 ((c.put ++ [(Nm.z, 1, 0)]).map prD) :: isL g2 ((c.pled ++ [(99, 1)]).map dPair) :: L))) H10 := by
          rw [hd]
          walk_at "pm0"
        clear hS9 hS10 hd
        walk_at "gs"
        refine s_eqCen hS11 fun H11 hS12 => ?_
        clear hS11
        rw [decide_eq_false hne]
        walk_at "gs"
        refine ⟨_, _, rfl, rfl, ?_⟩
        walk_at "gs"
        refine s_eqCen (c := d) (d := c) (show Hs (cenP T.c_Census y m1 m2 m3 d (cenP T.c_Census x l1 l2 l3 c (cell mo (.lst [.int (c.size + 1), .ref h2, .ref p2, .ref g2, .int (c.spare + 1)]) :: cell bs (.lst [.int c.size, .ref l1, .ref l2, .ref l3, .int c.spare]) :: isL h2 ((c.held ++ [Hd.free]).map hdD) :: isL p2 ((c.put ++ [(Nm.z, 1, 0)]).map prD) :: isL g2 ((c.pled ++ [(99, 1)]).map dPair) :: L))) H11 by walk_at "pm0") fun H12 hS13 => ?_
        clear hS12
        rw [decide_eq_false fun z => hne z.symm]
        walk_at "gs"
        refine ⟨_, _, rfl, rfl, ?_⟩
        walk_at "gs"
        refine s_neCen (show Hs (cenP T.c_Census x l1 l2 l3 c (cenP T.c_Census y m1 m2 m3 d (cell mo (.lst [.int (c.size + 1), .ref h2, .ref p2, .ref g2, .int (c.spare + 1)]) :: cell bs (.lst [.int c.size, .ref l1, .ref l2, .ref l3, .int c.spare]) :: isL h2 ((c.held ++ [Hd.free]).map hdD) :: isL p2 ((c.put ++ [(Nm.z, 1, 0)]).map prD) :: isL g2 ((c.pled ++ [(99, 1)]).map dPair) :: L))) H12 by walk_at "pm0") fun H13 hS14 => ?_
        clear hS13
        rw [decide_eq_false hne]
        walk_at "gs"
        refine ⟨_, _, rfl, rfl, ?_⟩
        walk_at "gs"
        exact ⟨_, ⟨⟨_, _, _, rfl⟩, rfl⟩, by walk_at "pm0"⟩
    rintro σ H2 L' ⟨⟨z3, z4, z5, rfl⟩, rfl⟩ hS2
    walk_at "gs"
    exact q _ (by walk_at "pm0")
/-! the law's: a page below -1 is none -/
theorem bent_no {put : List Pr} {pled : List (Int × Int)} {A B : List Pr} {n : Nm} {b : Int} {ok : Int → Prop} (T : Tame put pled (A ++ B)) (hn : n ≠ .e) : ¬ Bear ok put pled (A ++ [(n, -2, b)] ++ B) := by
  intro R
  have hp : ∀ m, pagesOf (A ++ [(n, -2, b)] ++ B) m = pagesOf A m ++ (if n = m then [-2] else []) ++ pagesOf B m := fun m => by
    unfold pagesOf
    rw [List.filter_append, List.filter_append, List.map_append, List.map_append]
    by_cases h : n = m
    · rw [if_pos h, List.filter_cons_of_pos (by simp [h])]
      rfl
    · rw [if_neg h, List.filter_cons_of_neg (by simp [h])]
      rfl
  have hp2 : ∀ m, pagesOf (A ++ B) m = pagesOf A m ++ pagesOf B m := fun m => by
    unfold pagesOf
    rw [List.filter_append, List.map_append]
  have hs : ∀ m, seenOf (A ++ [(n, -2, b)] ++ B) m = seenOf (A ++ B) m := fun m => by
    unfold seenOf
    rw [hp, hp2, List.filter_append, List.filter_append, List.filter_append]
    have e : (if n = m then [(-2 : Int)] else []).filter (fun p => decide (0 ≤ p) && decide (m ≠ .e)) = [] := by
      split <;> simp
    rw [e, List.append_nil]
  have hc1 : ∀ m, (pagesOf (A ++ [(n, -2, b)] ++ B) m).count (-1) = (pagesOf (A ++ B) m).count (-1) := fun m => by
    rw [hp, hp2, List.count_append, List.count_append, List.count_append]
    have e : (if n = m then [(-2 : Int)] else []).count (-1) = 0 := by
      split <;> simp
    rw [e, Nat.add_zero]
  have ht : ∀ t : Int, ((A ++ [(n, -2, b)] ++ B).map fun u : Pr => (u.1, u.2.1)).count (Nm.e, t) = ((A ++ B).map fun u => (u.1, u.2.1)).count (Nm.e, t) := fun t => by
    rw [List.map_append, List.map_append, List.map_append, List.count_append, List.count_append, List.count_append]
    have e : ([(n, -2, b)].map fun u : Pr => (u.1, u.2.1)).count (Nm.e, t) = 0 := by
      rw [List.count_eq_zero]
      intro z
      rw [List.map_singleton, List.mem_singleton] at z
      have z : Nm.e = n := by injection z
      exact hn z.symm
    rw [e, Nat.add_zero]
  have hc : ∀ q ∈ wishes put pled, (cntK q.1 (A ++ B) : Int) = q.2 := fun q hq => by
    rcases wish_mem.mp hq with ⟨u, hu, rfl | rfl⟩ | ⟨v, hv, rfl⟩
    · by_cases he : u.1 = .e
      · show (cntK (.pg u.1) (A ++ B) : Int) = u.2.1
        rw [he, cnt_pgE, T.root u hu he]
        rfl
      · show (cntK (.pg u.1) (A ++ B) : Int) = u.2.1
        rw [cnt_pg he T.lo, ← hs]
        exact R.seen u hu
    · show (cntK (.sh u.1) (A ++ B) : Int) = u.2.2
      rw [cnt_sh, ← hc1]
      exact R.sheets u hu
    · show (cntK (.tk v.1) (A ++ B) : Int) = v.2
      rw [cnt_tk (T.t0 v hv), ← ht]
      exact R.tick v hv
  have h1 := cnt_all T hc
  rw [← R.len] at h1
  have h3 := List.countP_le_length (p := fun u => decide (Lt.keyOf u ∈ (wishes put pled).map (·.1))) (l := A ++ B)
  simp only [List.length_append, List.length_cons, List.length_nil] at h1 h3
  omega
theorem plan_at {plan : List Pr} {i : Nat} {u : Pr} (h : plan[i]? = some u) : plan = plan.take i ++ [u] ++ plan.drop (i + 1) := by
  rw [← take_snoc h, List.take_append_drop]
theorem Tame.sub {put : List Pr} {pled : List (Int × Int)} {plan plan2 : List Pr} (T : Tame put pled plan) (h : ∀ u ∈ plan2, -1 ≤ u.2.1) : Tame put pled plan2 := ⟨T.nd, T.tnd, T.t0, h, T.root⟩
theorem GoodC.fits {n : Int} {c : Cen} (g : GoodC n c) (hn : n ≤ 23) : Fits c := ⟨by have := g.len; omega, by have := g.pl; omega, by have := g.gl; omega⟩
theorem GoodC.tame {n : Int} {c : Cen} {plan : List Pr} (g : GoodC n c) (h : ∀ u ∈ plan, -1 ≤ u.2.1) : Tame c.put c.pled plan := ⟨g.nd, g.tnd, fun v hv => (g.t0 v hv).1, h, fun u hu e => (g.lo u hu).2.2.2.2.1 e⟩
theorem s_brs {L : List Asn} {H : Hp} {Q : VK} {E : XK} {C x l1 l2 l3 p : Addr} {c : Cen} {plan : List Pr} (hS : Hs (cenP C x l1 l2 l3 c (isL p (plan.map prD) :: L)) H) (f : Fits c) (hp : plan.length ≤ 100) (h : ∀ b H', (b = true ↔ Bear (okB c) c.put c.pled plan) → Hs (cenP C x l1 l2 l3 c (isL p (plan.map prD) :: L)) H' → Q (.bl b) H') : sp_bears C ([.ref x, .ref p] ++ []) H Q E :=
  ⟨x, l1, l2, l3, p, c, plan, L, rfl, hS, f, hp, h⟩
theorem s_fits {L : List Asn} {H : Hp} {Q : VK} {E : XK} {C x l1 l2 l3 p : Addr} {c : Cen} {plan : List Pr} (hS : Hs (cenP C x l1 l2 l3 c (isL p (plan.map prD) :: L)) H) (f : Fits c) (hp : plan.length ≤ 100) (T : Tame c.put c.pled plan) (h : ∀ b H', (b = true ↔ Fit (okB c) c.put c.pled plan) → Hs (cenP C x l1 l2 l3 c (isL p (plan.map prD) :: L)) H' → Q (.bl b) H') : sp_law_fit C ([.ref x, .ref p] ++ []) H Q E :=
  ⟨x, l1, l2, l3, p, c, plan, L, rfl, hS, f, hp, T, h⟩
def sp_law_below (C : Addr) : Sp := fun vs H Q _ => ∃ (x l1 l2 l3 p : Addr) (n : Int) (c : Cen) (plan : List Pr) (L : List Asn), vs = [.ref x, .ref p] ∧ Hs (cenP C x l1 l2 l3 c (isL p (plan.map prD) :: L)) H ∧ GoodC n c ∧ n ≤ 23 ∧ plan.length ≤ 23 ∧ (∀ u ∈ plan, -1 ≤ u.2.1) ∧
  ∀ H', Hs (cenP C x l1 l2 l3 c (isL p (plan.map prD) :: L)) H' → Q (.bl true) H'
theorem ok_law_below (T : Txt K mg) : FnOk P w K mg base (L2.CX P w) 4 T.f_law_below T.d_law_below ["_law_census_here", "_law_plan"] (sp_law_below T.c_Census) := by
  refine T.F_law_below.ok sc_law_below (fun vs H Q E h => ?_) (fun cdv A outer s H vs Q E hr h => ?_)
  · obtain ⟨x, l1, l2, l3, p, n, c, plan, L, rfl, _⟩ := h
    rfl
  · obtain ⟨x, l1, l2, l3, p, n, c, plan, L, rfl, hS, f, n2, hp, hlo, q⟩ := h
    refine ⟨_, PSs.nox (pss_cons (ps_for PassesOwn.never rfl (pi_range1 (by rfl) T.z_range (pa_cons (pe_callB c_len (by rfl) T.z_len (by decide +kernel) (pa_cons (pv 1) pa_nil)) pa_nil)) (pg_name (i := 2) sc_law_below.nd rfl (Or.inl rfl))
 (pss_cons (ps_asg (pe_ix ix_list (pv 1) (pv 2) (fun _ _ => rfl)) (pg_tup rfl (pgs_cons (pg_name (i := 3) sc_law_below.nd rfl (Or.inl rfl)) (pgs_cons (pg_name (i := 4) sc_law_below.nd rfl (Or.inl rfl)) (pgs_cons (pg_name (i := 5) sc_law_below.nd rfl (Or.inl rfl)) pgs_nil)))))
 (pss_cons (ps_set (i := 6) sc_law_below.nd rfl (Or.inl rfl) (pe_op op_cat (pe_op op_cat (pe_slice sl_list (pv 1) po_none (po_some (pv 2))) (pe_lstS (pa_cons (pe_tupS (pa_cons (pv 3) (pa_cons (pe_un un_neg pe_int) (pa_cons (pv 5) pa_nil)))) pa_nil))) (pe_slice sl_list (pv 1) (po_some (pe_op op_add (pv 2) pe_int)) po_none)))
 (pss_one (ps_if (PW.pt (pw_and (pt_cmpR op_ne (pv 3) pe_str (nomark _)) (pw_and (pt_cmpR op_ge (pv 4) pe_int (nomark _)) (pw_and1 (pt_cmpR op_notBl (pe_call (ok_bears (base := base) T) (hr.mono (by decide)) (by rfl) T.g_bears T.k_bears T.b_bears .nil passL (pa_cons (pv 0) (pa_cons (pv 6) pa_nil))) pe_bl (nomark _))))))
 (pss_one (ps_ret pe_bl))
 pss_nil)))))
 (pss_one (ps_ret pe_bl))), ?_⟩
    show (_ : TS) _ [some _, some _, none, none, none, none, none] _
    walk_at "gs"
    refine s_forR (fun i σ L' => (∃ z2 z3 z4 z5 z6 : Option V, σ = [some (.ref x), some (.ref p), z2, z3, z4, z5, z6]) ∧ L' = cenP T.c_Census x l1 l2 l3 c (isL p (plan.map prD) :: L)) hS ⟨⟨_, _, _, _, _, rfl⟩, rfl⟩ ?_ ?_
    · rintro i σ H2 L' hi ⟨⟨z2, z3, z4, z5, z6, rfl⟩, rfl⟩ hS2
      clear hS
      have hi2 : i < plan.length := by omega
      obtain ⟨u, hu⟩ : ∃ u, plan[i]? = some u := ⟨_, List.getElem?_eq_getElem hi2⟩
      rw [show (0 : Int) + (i : Int) = i by omega]
      walk_at "gs"
      refine s_ixL hS2 (by walk_at "hl") (d := prD u) (atI_nat (by rw [List.getElem?_map, hu]; rfl)) ?_
      walk_at "gs"
      rename_i r H3 hS3
      have er : (plan.take (i : Int).toNat).map prD ++ [.tuple [.str (nmS u.1), .int (-2), .int u.2.2]] ++ (plan.drop ((i : Int) + 1).toNat).map prD = (plan.take i ++ [(u.1, -2, u.2.2)] ++ plan.drop (i + 1)).map prD := by
        rw [show ((i : Int) + 1).toNat = i + 1 by omega, Int.toNat_natCast, List.map_append, List.map_append]
        rfl
      rw [er] at hS3
      have hpl := congrArg List.length (plan_at hu)
      simp only [List.length_append, List.length_cons, List.length_nil] at hpl
      refine k_iteN (fun h1 => ?_) (fun h1 => ?_)
      · have h2 : u.1 ≠ .e := fun z => h1 (by rw [z]; rfl)
        walk_at "gs"
        refine k_iteD (fun h3 => ?_) (fun h3 => ?_)
        · walk_at "gs"
          refine s_brs (C := T.c_Census) (x := x) (p := r) (c := c) (plan := plan.take i ++ [(u.1, -2, u.2.2)] ++ plan.drop (i + 1)) (L := isL p (plan.map prD) :: L) (by walk_at "pm0") (f.fits n2) (by simp only [List.length_append, List.length_cons, List.length_nil]; omega) fun b H4 hb hS4 => ?_
          clear hS3
          have hf : b = false := by
            cases b with
            | false => rfl
            | true =>
              refine absurd (hb.mp rfl) (bent_no (f.tame fun v hv => ?_) h2)
              rcases List.mem_append.mp hv with hv | hv
              · exact hlo v (List.mem_of_mem_take hv)
              · exact hlo v (List.mem_of_mem_drop hv)
          subst hf
          walk_at "gs"
          refine ⟨_, _, rfl, rfl, ?_⟩
          walk_at "gs"
          exact ⟨_, ⟨⟨_, _, _, _, _, rfl⟩, rfl⟩, by walk_at "pm0"⟩
        · walk_at "gs"
          exact ⟨_, ⟨⟨_, _, _, _, _, rfl⟩, rfl⟩, by walk_at "pm0"⟩
      · walk_at "gs"
        exact ⟨_, ⟨⟨_, _, _, _, _, rfl⟩, rfl⟩, by walk_at "pm0"⟩
    rintro σ H2 L' ⟨⟨z2, z3, z4, z5, z6, rfl⟩, rfl⟩ hS2
    walk_at "gs"
    exact q _ (by walk_at "pm0")
/-! the law's: own lists -/
theorem s_adds {L : List Asn} {H : Hp} {Q : VK} {E : XK} {C x l1 l2 l3 : Addr} {c : Cen} (hS : Hs (cenP C x l1 l2 l3 c L) H) (f : Fits c) (h : ∀ H', Hs (cenP C x l1 l2 l3 c L) H' → Q (.bl (addsB c)) H') : sp_adds_up C ([.ref x] ++ []) H Q E := ⟨x, l1, l2, l3, c, L, rfl, hS, f, h⟩
def sp_law_own_lists (C : Addr) : Sp := fun vs H Q _ => ∃ (x l1 l2 l3 : Addr) (n : Int) (c : Cen) (L : List Asn), vs = [.ref x] ∧ Hs (cenP C x l1 l2 l3 c L) H ∧ GoodC n c ∧ n ≤ 23 ∧
  ∀ H', Hs (cenP C x l1 l2 l3 c L) H' → Q (.bl true) H'
theorem ok_law_own_lists (T : Txt K mg) : FnOk P w K mg base (L2.CX P w) 5 T.f_law_own_lists T.d_law_own_lists ["_law_census_here"] (sp_law_own_lists T.c_Census) := by
  refine T.F_law_own_lists.ok sc_law_own_lists (fun vs H Q E h => ?_) (fun cdv A outer s H vs Q E hr h => ?_)
  · obtain ⟨x, l1, l2, l3, n, c, L, rfl, _⟩ := h
    rfl
  · obtain ⟨x, l1, l2, l3, n, c, L, rfl, hS, f, n2, q⟩ := h
    have cl := T.cl_Census
    have a1 := T.n_Census_size
    have a2 := T.n_Census_held
    have a3 := T.n_Census_put_by
    have a4 := T.n_Census_pledged
    have a5 := T.n_Census_spare
    have f1 := f.len
    have f2 := f.pl
    have f3 := f.gl
    refine ⟨_, PSs.nox (pss_cons (ps_set (i := 1) sc_law_own_lists.nd rfl (Or.inl rfl) (pe_lstC (pa_cons (pe_callTy c_listOf (by rfl) T.z_list (by decide +kernel) (pa_cons (pe_fld (pv 0) rfl) pa_nil)) (pa_cons (pe_callTy c_listOf (by rfl) T.z_list (by decide +kernel) (pa_cons (pe_fld (pv 0) rfl) pa_nil)) (pa_cons (pe_callTy c_listOf (by rfl) T.z_list (by decide +kernel) (pa_cons (pe_fld (pv 0) rfl) pa_nil)) pa_nil)))))
 (pss_cons (ps_set (i := 2) sc_law_own_lists.nd rfl (Or.inl rfl) (mkS (pe_make T.mk_Census (ok_Censusx_initx (base := base) T) (hr.mono (by decide)) (by rfl) T.g_Census T.b_Censusx_initx .nil passL (mcPA (pa_cons (pe_fld (pv 0) rfl) (pa_cons (pe_ix ix_list (pv 1) pe_int (fun _ _ => rfl)) (pa_cons (pe_ix ix_list (pv 1) pe_int (fun _ _ => rfl)) (pa_cons (pe_ix ix_list (pv 1) pe_int (fun _ _ => rfl)) (pa_cons (pe_fld (pv 0) rfl) pa_nil)))))))))
 (pss_cons (ps_set (i := 3) sc_law_own_lists.nd rfl (Or.inl rfl) (mkS (pe_make T.mk_Census (ok_Censusx_initx (base := base) T) (hr.mono (by decide)) (by rfl) T.g_Census T.b_Censusx_initx .nil passL (mcPA (pa_cons (pe_fld (pv 0) rfl) (pa_cons (pe_fld (pv 2) rfl) (pa_cons (pe_fld (pv 2) rfl) (pa_cons (pe_fld (pv 2) rfl) (pa_cons (pe_fld (pv 0) rfl) pa_nil)))))))))
 (pss_cons (ps_expr (pe_bm PySem.F.plainAttrs_list PySem.F.slot_list_append PySem.F.type_list_append mt_append (pe_ix ix_list (pv 1) pe_int (fun _ _ => rfl)) (pa_cons (pe_tupS pa_nil) pa_nil)))
 (pss_cons (ps_expr (pe_bm PySem.F.plainAttrs_list PySem.F.slot_list_append PySem.F.type_list_append mt_append (pe_ix ix_list (pv 1) pe_int (fun _ _ => rfl)) (pa_cons (pe_tupS (pa_cons pe_str (pa_cons pe_int (pa_cons pe_int pa_nil)))) pa_nil)))
 (pss_cons (ps_expr (pe_bm0 PySem.F.plainAttrs_list PySem.F.slot_list_clear PySem.F.type_list_clear mt_clear (pe_ix ix_list (pv 1) pe_int (fun _ _ => rfl))))
 (pss_cons (ps_if (PW.pt (pw_or (pt_cmpR op_notBl (pe_cmpR (op_eqO (ok_Censusx_eqx (base := base) T) T.m_Census_eq.at_ T.m_Census_eq.fn T.b_Censusx_eqx passL (hr.mono (by decide))) (pv 2) (pv 0) (nomark _)) pe_bl (nomark _)) (pw_or (pt_cmpR op_ne (pe_callB (call_lenO (ok_Censusx_lenx (base := base) T) T.m_Census_len.at_ T.m_Census_len.fn T.b_Censusx_lenx passL (hr.mono (by decide))) (by rfl) T.z_len (by decide +kernel) (pa_cons (pv 2) pa_nil)) (pe_callB c_len (by rfl) T.z_len (by decide +kernel) (pa_cons (pe_fld (pv 0) rfl) pa_nil)) (nomark _)) (pw_or1 (pt_cmpR (OpR.or op_ne (op_neD hr.units)) (pe_call (ok_adds_up (base := base) T) (hr.mono (by decide)) (by rfl) T.g_adds_up T.k_adds_up T.b_adds_up .nil passL (pa_cons (pv 2) pa_nil)) (pe_call (ok_adds_up (base := base) T) (hr.mono (by decide)) (by rfl) T.g_adds_up T.k_adds_up T.b_adds_up .nil passL (pa_cons (pv 0) pa_nil)) (nomark _))))))
 (pss_one (ps_ret pe_bl))
 pss_nil)
 (pss_cons (ps_expr (pe_bm PySem.F.plainAttrs_list PySem.F.slot_list_append PySem.F.type_list_append mt_append (pe_fld (pv 2) rfl) (pa_cons (pe_tupS pa_nil) pa_nil)))
 (pss_cons (ps_expr (pe_bm PySem.F.plainAttrs_list PySem.F.slot_list_append PySem.F.type_list_append mt_append (pe_fld (pv 2) rfl) (pa_cons (pe_tupS (pa_cons pe_str (pa_cons pe_int (pa_cons pe_int pa_nil)))) pa_nil)))
 (pss_one (ps_ret (pe_and (pe_cmpR op_isBl (pe_cmpR (op_eqO (ok_Censusx_eqx (base := base) T) T.m_Census_eq.at_ T.m_Census_eq.fn T.b_Censusx_eqx passL (hr.mono (by decide))) (pv 2) (pv 0) (nomark _)) pe_bl (nomark _)) (pe_one (pe_cmpR op_isBl (pe_cmpR (op_eqO (ok_Censusx_eqx (base := base) T) T.m_Census_eq.at_ T.m_Census_eq.fn T.b_Censusx_eqx passL (hr.mono (by decide))) (pv 3) (pv 0) (nomark _)) pe_bl (nomark _))))))))))))))), ?_⟩
    show (_ : TS) _ [some _, none, none, none] _
    walk_at "gs"
    rename_i r1 _ r2 _ r3 _ rs _ y H1 hS1
    refine ⟨y, r1, r2, r3, _, _, c.held.map hdD, c.put.map prD, c.pled.map dPair, cell rs (.lst [.ref r1, .ref r2, .ref r3]) :: isL r1 (c.held.map hdD) :: isL r2 (c.put.map prD) :: isL r3 (c.pled.map dPair) :: cenP T.c_Census x l1 l2 l3 c L, rfl, by walk_at "pm0", by walk_at "hl", by walk_at "hl", by walk_at "hl", by simp; omega, by simp; omega, by simp; omega, fun m1 m2 m3 H2 hS2 => ⟨rfl, ?_⟩⟩
    clear hS1
    unfold cenF at hS2
    walk_at "gs"
    rename_i z H3 hS3
    refine ⟨z, m1, m2, m3, _, _, c.held.map hdD, c.put.map prD, c.pled.map dPair, cenP T.c_Census y m1 m2 m3 c (cell rs (.lst [.ref r1, .ref r2, .ref r3]) :: isL r1 (c.held.map hdD) :: isL r2 (c.put.map prD) :: isL r3 (c.pled.map dPair) :: cenP T.c_Census x l1 l2 l3 c L), rfl, by walk_at "pm0", by walk_at "hl", by walk_at "hl", by walk_at "hl", by simp; omega, by simp; omega, by simp; omega, fun k1 k2 k3 H4 hS4 => ⟨rfl, ?_⟩⟩
    clear hS3
    walk_at "gs"
    rename Hs _ _ => hS5
    refine s_eqCen (show Hs (cenP T.c_Census y m1 m2 m3 c (cenP T.c_Census x l1 l2 l3 c (cenP T.c_Census z k1 k2 k3 c L))) _ by walk_at "pm0") fun H6 hS6 => ?_
    clear hS5
    rw [decide_eq_true rfl]
    walk_at "gs"
    refine ⟨_, _, rfl, rfl, ?_⟩
    walk_at "gs"
    obtain ⟨dy, ey⟩ := hS6.at_ (k := .here)
    refine ⟨y, dy, _, rfl, ey, y, m1, m2, m3, c.size, c.spare, c.held.map hdD, isL m2 (c.put.map prD) :: isL m3 (c.pled.map dPair) :: cenP T.c_Census x l1 l2 l3 c (cenP T.c_Census z k1 k2 k3 c L), rfl, hS6, by rw [List.length_map]; omega, _, rfl, by rw [List.length_map]; omega, ?_⟩
    unfold cenF at hS6
    walk_at "gs"
    refine s_adds hS6 (f.fits n2) fun H7 hS7 => ?_
    clear hS6 ey
    walk_at "gs"
    refine s_adds (L := cenP T.c_Census y m1 m2 m3 c (cenP T.c_Census z k1 k2 k3 c L)) (by walk_at "pm0") (f.fits n2) fun H8 hS8 => ?_
    clear hS7
    refine .inl ?_
    walk_at "gs"
    obtain ⟨d, hd⟩ : ∃ d : Cen, d = ⟨c.size, c.held ++ [Hd.free], c.put ++ [(Nm.z, 1, 1)], c.pled, c.spare⟩ := ⟨_, rfl⟩
    have hne : ¬ d = c := fun z => by
      rw [hd] at z
      have z := congrArg (fun c : Cen => c.held.length) z
      simp at z
    have eh : c.held.map hdD ++ [PyData.tuple []] = d.held.map hdD := by
      rw [hd, List.map_append]
      rfl
    have ep : c.put.map prD ++ [.tuple [.str "/z", .int 1, .int 1]] = d.put.map prD := by
      rw [hd, List.map_append]
      rfl
    rename_i H9 hS9
    rw [eh, ep] at hS9
    have hS10 : Hs (cenP T.c_Census y m1 m2 m3 d (cenP T.c_Census x l1 l2 l3 c (cenP T.c_Census z k1 k2 k3 c L))) H9 := by
      have e1 : cenF d.size m1 m2 m3 d.spare = cenF c.size m1 m2 m3 c.spare := by rw [hd]
      have e2 : d.pled = c.pled := by rw [hd]
      unfold cenP
      rw [e1, e2]
      walk_at "pm0"
    clear hS9
    refine s_eqCen hS10 fun H10 hS11 => ?_
    clear hS10
    rw [decide_eq_false hne]
    walk_at "gs"
    refine ⟨_, _, rfl, rfl, ?_⟩
    walk_at "gs"
    refine s_eqCen (show Hs (cenP T.c_Census z k1 k2 k3 c (cenP T.c_Census x l1 l2 l3 c (cenP T.c_Census y m1 m2 m3 d L))) _ by walk_at "pm0") fun H11 hS12 => ?_
    clear hS11
    rw [decide_eq_true rfl]
    walk_at "gs"
    refine ⟨_, _, rfl, rfl, ?_⟩
    exact q _ (by walk_at "pm0")
/-! the law -/
def sp_law_truth : Sp := fun vs H Q _ => ∃ b : Bool, vs = [.bl b, .bl b] ∧ Q (.bl true) H
theorem ok_law_truth (T : Txt K mg) : FnOk P w K mg base (L2.CX P w) 1 T.f_law_truth T.d_law_truth ["_law_told", "_law_due"] sp_law_truth := by
  refine T.F_law_truth.ok sc_law_truth (fun vs H Q E h => ?_) (fun cdv A outer s H vs Q E hr h => ?_)
  · obtain ⟨b, rfl, _⟩ := h
    rfl
  · obtain ⟨b, rfl, q⟩ := h
    refine ⟨_, PSs.nox (pss_one (ps_ret (pe_and (pe_callB call_isi (by rfl) T.z_isinstance (by decide +kernel) (pa_cons (pv 0) (pa_cons (pe_bltn (v := .ty "bool") (by rfl) T.z_bool (by decide +kernel) rfl) pa_nil))) (pe_one (pe_cmpR op_eq (pv 0) (pv 1) (nomark _)))))), ?_⟩
    walk_at "go"
    rw [decide_eq_true rfl]
    exact q
theorem bool_iff {p q : Bool} {A : Prop} (h1 : p = true ↔ A) (h2 : q = true ↔ A) : p = q := by
  rw [Bool.eq_iff_iff, h1, h2]
theorem adds_good {n : Int} {c : Cen} (g : GoodC n c) : addsB c = decide (0 ≤ c.spare) := by
  unfold addsB
  have h1 := g.size
  have h2 := g.len
  have h3 := g.left
  rw [decide_eq_true (p := (c.held.length : Int) = c.size) (by omega), decide_eq_true (p := c.spare + ((heldN c : Int) + (owed c + plSum c)) = c.size) (by omega), Bool.true_and, Bool.and_true]
theorem adds_other {n v : Int} {c : Cen} (g : GoodC n c) (v0 : 0 ≤ v) : addsB ⟨n, c.held, c.put, c.pled, c.spare + 1 + v⟩ = false := by
  unfold addsB
  have h1 := g.size
  have h3 := g.left
  rw [decide_eq_false (p := (c.spare + 1 + v) + ((heldN ⟨n, c.held, c.put, c.pled, c.spare + 1 + v⟩ : Int) + (owed ⟨n, c.held, c.put, c.pled, c.spare + 1 + v⟩ + plSum ⟨n, c.held, c.put, c.pled, c.spare + 1 + v⟩)) = n) (by
    show ¬ c.spare + 1 + v + ((heldN c : Int) + (owed c + plSum c)) = n
    omega), Bool.and_false]
theorem adds_short {n s : Int} {c : Cen} (g : GoodC n c) (n1 : 4 ≤ n) : addsB ⟨n, c.held.drop 1, c.put, c.pled, s⟩ = false := by
  unfold addsB
  have h1 := g.size
  have h2 := g.len
  rw [decide_eq_false (p := (((c.held.drop 1).length : Nat) : Int) = n) (by rw [List.length_drop]; omega)]
  rfl
def nestD (plan plan2 : List Pr) (c : Cen) : PyData := .list [.list (plan.map prD), .list (plan2.map prD), .list (c.held.map hdD), .list (c.put.map prD), .list (c.pled.map dPair)]
theorem shp_nest (plan plan2 : List Pr) (c : Cen) : Shp Unit (fun _ => nestD plan plan2 c) 6 := ⟨fun _ => by simp [nestD, tidy, tidyAll, tidy_map shp_hd.ti, tidy_map shp_pr.ti, tidy_map shp_pair.ti], fun _ => by
  have h1 := depth_map shp_hd.dp c.held
  have h2 := depth_map shp_pr.dp c.put
  have h3 := depth_map shp_pair.dp c.pled
  have h4 := depth_map shp_pr.dp plan
  have h5 := depth_map shp_pr.dp plan2
  simp only [nestD, PyData.depth, PyData.depthAll]
  omega, fun _ _ _ => rfl⟩
theorem ok_law (T : Txt K mg) : FnOk P w K mg base (L2.CX P w) 8 T.f_law T.d_law ["_law_script"] (sp_law K) := by
  refine T.F_law.ok sc_law (fun vs H Q E h => ?_) (fun cdv A outer s H vs Q E hr h => ?_)
  · obtain ⟨a, ns, rfl, _⟩ := h
    rfl
  · obtain ⟨a, ns, rfl, hS, hl, q⟩ := h
    have cl := T.cl_Census
    have a1 := T.n_Census_size
    have a2 := T.n_Census_held
    have a3 := T.n_Census_put_by
    have a4 := T.n_Census_pledged
    have a5 := T.n_Census_spare
    refine ⟨_, PSs.nox (pss_cons (ps_set (i := 1) sc_law.nd rfl (Or.inl rfl) (pe_call (ok_law_bag (base := base) T) (hr.mono (by decide)) (by rfl) T.g_law_bag T.k_law_bag T.b_law_bag .nil passL (pa_cons (pv 0) pa_nil)))
 (pss_cons (ps_set (i := 2) sc_law.nd rfl (Or.inl rfl) (pe_op op_add pe_int (pe_call (ok_law_pull (base := base) T) (hr.mono (by decide)) (by rfl) T.g_law_pull T.k_law_pull T.b_law_pull .nil passL (pa_cons (pv 1) (pa_cons pe_int pa_nil)))))
 (pss_cons (ps_set (i := 3) sc_law.nd rfl (Or.inl rfl) (pe_call (ok_law_census (base := base) T) (hr.mono (by decide)) (by rfl) T.g_law_census T.k_law_census T.b_law_census .nil passL (pa_cons (pv 1) (pa_cons (pv 2) pa_nil))))
 (pss_cons (ps_set (i := 4) sc_law.nd rfl (Or.inl rfl) (pe_call (ok_law_good_plan (base := base) T) (hr.mono (by decide)) (by rfl) T.g_law_good_plan T.k_law_good_plan T.b_law_good_plan .nil passL (pa_cons (pv 3) pa_nil)))
 (pss_mid (ps_if (pt_cmpR op_eq (pe_call (ok_law_pull (base := base) T) (hr.mono (by decide)) (by rfl) T.g_law_pull T.k_law_pull T.b_law_pull .nil passL (pa_cons (pv 1) (pa_cons pe_int pa_nil))) pe_int (nomark _))
 (pss_one (ps_set (i := 4) sc_law.nd rfl (Or.inl rfl) (pe_revLS (pv 4))))
 pss_nil)
 (pss_cons (ps_set (i := 5) sc_law.nd rfl (Or.inl rfl) (pe_call (ok_law_spoilt (base := base) T) (hr.mono (by decide)) (by rfl) T.g_law_spoilt T.k_law_spoilt T.b_law_spoilt .nil passL (pa_cons (pv 1) (pa_cons (pv 4) (pa_cons (pv 2) pa_nil)))))
 (pss_cons (ps_set (i := 6) sc_law.nd rfl (Or.inl rfl) (pe_lstC (pa_cons (pe_callTy c_listOf (by rfl) T.z_list (by decide +kernel) (pa_cons (pv 4) pa_nil)) (pa_cons (pe_callTy c_listOf (by rfl) T.z_list (by decide +kernel) (pa_cons (pv 5) pa_nil)) (pa_cons (pe_callTy c_listOf (by rfl) T.z_list (by decide +kernel) (pa_cons (pe_fld (pv 3) rfl) pa_nil)) (pa_cons (pe_callTy c_listOf (by rfl) T.z_list (by decide +kernel) (pa_cons (pe_fld (pv 3) rfl) pa_nil)) (pa_cons (pe_callTy c_listOf (by rfl) T.z_list (by decide +kernel) (pa_cons (pe_fld (pv 3) rfl) pa_nil)) pa_nil)))))))
 (pss_cons (ps_if (pt_not (pt_val (pe_call (ok_law_truth (base := base) T) (hr.mono (by decide)) (by rfl) T.g_law_truth T.k_law_truth T.b_law_truth .nil passL (pa_cons (pe_call (ok_bears (base := base) T) (hr.mono (by decide)) (by rfl) T.g_bears T.k_bears T.b_bears .nil passL (pa_cons (pv 3) (pa_cons (pv 4) pa_nil))) (pa_cons (pe_call (ok_law_fit (base := base) T) (hr.mono (by decide)) (by rfl) T.g_law_fit T.k_law_fit T.b_law_fit .nil passL (pa_cons (pv 3) (pa_cons (pv 4) pa_nil))) pa_nil)))))
 (pss_one (ps_ret pe_bl))
 pss_nil)
 (pss_cons (ps_if (pt_not (pt_val (pe_call (ok_law_truth (base := base) T) (hr.mono (by decide)) (by rfl) T.g_law_truth T.k_law_truth T.b_law_truth .nil passL (pa_cons (pe_call (ok_bears (base := base) T) (hr.mono (by decide)) (by rfl) T.g_bears T.k_bears T.b_bears .nil passL (pa_cons (pv 3) (pa_cons (pv 5) pa_nil))) (pa_cons (pe_call (ok_law_fit (base := base) T) (hr.mono (by decide)) (by rfl) T.g_law_fit T.k_law_fit T.b_law_fit .nil passL (pa_cons (pv 3) (pa_cons (pv 5) pa_nil))) pa_nil)))))
 (pss_one (ps_ret pe_bl))
 pss_nil)
 (pss_cons (ps_if (pt_cmpR (op_neD hr.units) (pe_lstC (pa_cons (pv 4) (pa_cons (pv 5) (pa_cons (pe_fld (pv 3) rfl) (pa_cons (pe_fld (pv 3) rfl) (pa_cons (pe_fld (pv 3) rfl) pa_nil)))))) (pv 6) (nomark _))
 (pss_one (ps_ret pe_bl))
 pss_nil)
 (pss_cons (ps_if (pt_not (pt_val (pe_call (ok_law_truth (base := base) T) (hr.mono (by decide)) (by rfl) T.g_law_truth T.k_law_truth T.b_law_truth .nil passL (pa_cons (pe_call (ok_adds_up (base := base) T) (hr.mono (by decide)) (by rfl) T.g_adds_up T.k_adds_up T.b_adds_up .nil passL (pa_cons (pv 3) pa_nil)) (pa_cons (pe_cmpR op_ge (pe_fld (pv 3) rfl) pe_int (nomark _)) pa_nil)))))
 (pss_one (ps_ret pe_bl))
 pss_nil)
 (pss_cons (ps_if (PW.pt (pw_or (pt_not (pt_val (pe_call (ok_law_fields_apart (base := base) T) (hr.mono (by decide)) (by rfl) T.g_law_fields_apart T.k_law_fields_apart T.b_law_fields_apart .nil passL (pa_cons (pv 3) pa_nil)))) (pw_or (pt_not (pt_val (pe_call (ok_law_own_lists (base := base) T) (hr.mono (by decide)) (by rfl) T.g_law_own_lists T.k_law_own_lists T.b_law_own_lists .nil passL (pa_cons (pv 3) pa_nil)))) (pw_or1 (pt_not (pt_val (pe_call (ok_law_below (base := base) T) (hr.mono (by decide)) (by rfl) T.g_law_below T.k_law_below T.b_law_below .nil passL (pa_cons (pv 3) (pa_cons (pv 4) pa_nil)))))))))
 (pss_one (ps_ret pe_bl))
 pss_nil)
 (pss_cons (ps_set (i := 7) sc_law.nd rfl (Or.inl rfl) (mkS (pe_make T.mk_Census (ok_Censusx_initx (base := base) T) (hr.mono (by decide)) (by rfl) T.g_Census T.b_Censusx_initx .nil passL (mcPA (pa_cons (pv 2) (pa_cons (pe_fld (pv 3) rfl) (pa_cons (pe_fld (pv 3) rfl) (pa_cons (pe_fld (pv 3) rfl) (pa_cons (pe_op op_add (pe_op op_add (pe_fld (pv 3) rfl) pe_int) (pe_call (ok_law_pull (base := base) T) (hr.mono (by decide)) (by rfl) T.g_law_pull T.k_law_pull T.b_law_pull .nil passL (pa_cons (pv 1) (pa_cons pe_int pa_nil)))) pa_nil)))))))))
 (pss_cons (ps_set (i := 8) sc_law.nd rfl (Or.inl rfl) (mkS (pe_make T.mk_Census (ok_Censusx_initx (base := base) T) (hr.mono (by decide)) (by rfl) T.g_Census T.b_Censusx_initx .nil passL (mcPA (pa_cons (pv 2) (pa_cons (pe_slice sl_list (pe_fld (pv 3) rfl) (po_some pe_int) po_none) (pa_cons (pe_fld (pv 3) rfl) (pa_cons (pe_fld (pv 3) rfl) (pa_cons (pe_op op_add (pe_fld (pv 3) rfl) (pe_callTy call_int1 (by rfl) T.z_int (by decide +kernel) (pa_cons (pe_cmpR (op_neD hr.units) (pe_ix ix_list (pe_fld (pv 3) rfl) pe_int (fun _ _ => rfl)) (pe_tupS pa_nil) (nomark _)) pa_nil))) pa_nil)))))))))
 (pss_cons (ps_if (PW.pt (pw_or (pt_cmpR op_notBl (pe_call (ok_adds_up (base := base) T) (hr.mono (by decide)) (by rfl) T.g_adds_up T.k_adds_up T.b_adds_up .nil passL (pa_cons (pv 7) pa_nil)) pe_bl (nomark _)) (pw_or (pt_cmpR op_notBl (pe_call (ok_adds_up (base := base) T) (hr.mono (by decide)) (by rfl) T.g_adds_up T.k_adds_up T.b_adds_up .nil passL (pa_cons (pv 8) pa_nil)) pe_bl (nomark _)) (pw_or1 (pt_cmpR op_notBl (pe_cmpR (op_eqO (ok_Censusx_eqx (base := base) T) T.m_Census_eq.at_ T.m_Census_eq.fn T.b_Censusx_eqx passL (hr.mono (by decide))) (pv 3) (pv 7) (nomark _)) pe_bl (nomark _))))))
 (pss_one (ps_ret pe_bl))
 pss_nil)
 (pss_one (ps_ret (pe_cmpR (op_eqO (ok_Censusx_eqx (base := base) T) T.m_Census_eq.at_ T.m_Census_eq.fn T.b_Censusx_eqx passL (hr.mono (by decide))) (pv 3) (mkS (pe_make T.mk_Census (ok_Censusx_initx (base := base) T) (hr.mono (by decide)) (by rfl) T.g_Census T.b_Censusx_initx .nil passL (mcPA (pa_cons (pv 2) (pa_cons (pe_ix ix_list (pv 6) pe_int (fun _ _ => rfl)) (pa_cons (pe_ix ix_list (pv 6) pe_int (fun _ _ => rfl)) (pa_cons (pe_ix ix_list (pv 6) pe_int (fun _ _ => rfl)) (pa_cons (pe_fld (pv 3) rfl) pa_nil)))))))) (nomark _))))))))))))))))))), ?_⟩
    show (_ : TS) _ [some _, none, none, none, none, none, none, none, none] _
    walk_at "gs"
    refine s_bag hS hl fun H1 b hS1 => ?_
    walk_at "gs"
    refine k_pullS (by assumption) (by walk_at "pk") (by decide) (by decide) fun H2 m m0 m1 hS2 => ?_
    clear hS1
    walk_at "gs"
    refine ⟨b, ns, 4 + m, [], rfl, hS2, by omega, by omega, fun x l1 l2 l3 c H3 g hS3 => ?_⟩
    clear hS2
    obtain ⟨n, en⟩ : ∃ n, n = 4 + m := ⟨_, rfl⟩
    rw [← en] at g ⊢
    have gt := g.fits (by omega)
    walk_at "gs"
    refine ⟨x, l1, l2, l3, n, c, [isBag b ns], rfl, hS3, g, by omega, fun p0 plan0 H4 hp0 hlo0 hS4 => ?_⟩
    clear hS3
    walk_at "gs"
    refine ⟨Wd fun σ H' => ∃ (p : Addr) (plan : List Pr), (∃ z5 z6 z7 z8 : Option V, σ = [some (.ref a), some (.ref b), some (.int n), some (.ref x), some (.ref p), z5, z6, z7, z8]) ∧ plan.length ≤ 23 ∧ (∀ u ∈ plan, -1 ≤ u.2.1) ∧ Hs (isL p (plan.map prD) :: cenP T.c_Census x l1 l2 l3 c [isBag b ns]) H', ?_, ?_⟩
    · walk_at "gs"
      refine k_pullS (by assumption) (by walk_at "pk") (by decide) (by decide) fun H5 v v0 v1 hS5 => ?_
      clear hS4
      walk_at "gs"
      refine k_iteD (fun h1 => ?_) (fun h1 => ?_)
      · walk_at "gs"
        refine ⟨_, plan0.reverse, ⟨_, _, _, _, rfl⟩, by rw [List.length_reverse]; exact hp0, fun u hu => hlo0 u (List.mem_reverse.mp hu), by walk_at "pm0"⟩
      · walk_at "gs"
        exact ⟨_, plan0, ⟨_, _, _, _, rfl⟩, hp0, hlo0, by walk_at "pm0"⟩
    · rintro σ H5 ⟨p, plan, ⟨z5, z6, z7, z8, rfl⟩, hp, hlo, hS5⟩
      clear hS4
      walk_at "gs"
      refine ⟨b, p, ns, n, plan, cenP T.c_Census x l1 l2 l3 c [], rfl, by walk_at "pm0", by omega, by omega, hp, hlo, fun r plan2 H6 hp2 hlo2 hS6 => ?_⟩
      clear hS5
      walk_at "gs"
      rename_i k1 _ k2 _ k3 _ k4 _ k5 _ kp H7 hS7
      have hS8 : Hs (cenP T.c_Census x l1 l2 l3 c (isL p (plan.map prD) :: isL r (plan2.map prD) :: cell kp (.lst [.ref k1, .ref k2, .ref k3, .ref k4, .ref k5]) :: isL k1 (plan.map prD) :: isL k2 (plan2.map prD) :: isL k3 (c.held.map hdD) :: isL k4 (c.put.map prD) :: isL k5 (c.pled.map dPair) :: [isBag b ns])) H7 := by walk_at "pm0"
      clear hS7
      refine s_brs (plan := plan) (L := isL r (plan2.map prD) :: cell kp (.lst [.ref k1, .ref k2, .ref k3, .ref k4, .ref k5]) :: isL k1 (plan.map prD) :: isL k2 (plan2.map prD) :: isL k3 (c.held.map hdD) :: isL k4 (c.put.map prD) :: isL k5 (c.pled.map dPair) :: [isBag b ns]) (show Hs (cenP T.c_Census x l1 l2 l3 c (isL p (plan.map prD) :: isL r (plan2.map prD) :: cell kp (.lst [.ref k1, .ref k2, .ref k3, .ref k4, .ref k5]) :: isL k1 (plan.map prD) :: isL k2 (plan2.map prD) :: isL k3 (c.held.map hdD) :: isL k4 (c.put.map prD) :: isL k5 (c.pled.map dPair) :: [isBag b ns])) _ by walk_at "pm0") gt (by omega) fun b1 H8 hb1 hSa => ?_
      clear hS8
      walk_at "gs"
      refine s_fits hSa gt (by omega) (g.tame hlo) fun b2 H9 hb2 hS9 => ?_
      clear hSa
      obtain rfl := bool_iff hb1 (hb2.trans (bear_fit (g.tame hlo)).symm)
      walk_at "gs"
      refine ⟨b1, rfl, ?_⟩
      clear hb1 hb2
      walk_at "gs"
      refine s_brs (plan := plan2) (L := isL p (plan.map prD) :: cell kp (.lst [.ref k1, .ref k2, .ref k3, .ref k4, .ref k5]) :: isL k1 (plan.map prD) :: isL k2 (plan2.map prD) :: isL k3 (c.held.map hdD) :: isL k4 (c.put.map prD) :: isL k5 (c.pled.map dPair) :: [isBag b ns]) (show Hs (cenP T.c_Census x l1 l2 l3 c (isL r (plan2.map prD) :: isL p (plan.map prD) :: cell kp (.lst [.ref k1, .ref k2, .ref k3, .ref k4, .ref k5]) :: isL k1 (plan.map prD) :: isL k2 (plan2.map prD) :: isL k3 (c.held.map hdD) :: isL k4 (c.put.map prD) :: isL k5 (c.pled.map dPair) :: [isBag b ns])) _ by walk_at "pm0") gt (by omega) fun b1 H8b hb1 hSa => ?_
      clear hS9
      walk_at "gs"
      refine s_fits hSa gt (by omega) (g.tame hlo2) fun b2 H9b hb2 hS10 => ?_
      clear hSa
      obtain rfl := bool_iff hb1 (hb2.trans (bear_fit (g.tame hlo2)).symm)
      walk_at "gs"
      refine ⟨b1, rfl, ?_⟩
      clear hb1 hb2
      walk_at "gs"
      rename_i w1 H11 hS11
      have d1 : Dp K H11 (.ref w1) (nestD plan plan2 c) := .lst (SqL.of (hS11.at_ (k := .here))) (.cons (HasL.dp (by walk_at "hl") hS11) (.cons (HasL.dp (by walk_at "hl") hS11) (.cons (HasL.dp (by walk_at "hl") hS11) (.cons (HasL.dp (by walk_at "hl") hS11) (.cons (HasL.dp (by walk_at "hl") hS11) .nil)))))
      have d2 : Dp K H11 (.ref kp) (nestD plan plan2 c) := .lst (SqL.of (hS11.at_ (A := cell kp (.lst [.ref k1, .ref k2, .ref k3, .ref k4, .ref k5])) (k := by walk_at "pk"))) (.cons (HasL.dp (p := k1) (by walk_at "hl") hS11) (.cons (HasL.dp (p := k2) (by walk_at "hl") hS11) (.cons (HasL.dp (p := k3) (by walk_at "hl") hS11) (.cons (HasL.dp (p := k4) (by walk_at "hl") hS11) (.cons (HasL.dp (p := k5) (by walk_at "hl") hS11) .nil)))))
      refine k_neD (shp_nest plan plan2 c) (by decide) (p := ()) (q := ()) d1 d2 ?_
      clear d1 d2
      rw [decide_eq_true rfl]
      have hS12 : Hs (cenP T.c_Census x l1 l2 l3 c (isL p (plan.map prD) :: cell kp (.lst [.ref k1, .ref k2, .ref k3, .ref k4, .ref k5]) :: isL k1 (plan.map prD) :: isL k2 (plan2.map prD) :: isL k3 (c.held.map hdD) :: isL k4 (c.put.map prD) :: isL k5 (c.pled.map dPair) :: [isBag b ns])) H11 := by walk_at "pm0"
      clear hS11
      walk_at "gs"
      refine s_adds hS12 gt fun H12 hS13 => ?_
      clear hS12
      rw [adds_good g]
      unfold cenF at hS13
      walk_at "gs"
      refine ⟨decide (0 ≤ c.spare), rfl, ?_⟩
      walk_at "gs"
      refine ⟨x, l1, l2, l3, n, c, _, rfl, hS13, g, by omega, fun H13 hS14 => ?_⟩
      clear hS13
      walk_at "gs"
      refine ⟨x, l1, l2, l3, n, c, _, rfl, hS14, g, by omega, fun H14 hS15 => ?_⟩
      clear hS14
      walk_at "gs"
      refine ⟨x, l1, l2, l3, p, n, c, plan, cell kp (.lst [.ref k1, .ref k2, .ref k3, .ref k4, .ref k5]) :: isL k1 (plan.map prD) :: isL k2 (plan2.map prD) :: isL k3 (c.held.map hdD) :: isL k4 (c.put.map prD) :: isL k5 (c.pled.map dPair) :: [isBag b ns], rfl, hS15, g, by omega, hp, hlo, fun H15 hS16 => ?_⟩
      clear hS15
      unfold cenF at hS16
      walk_at "gs"
      refine k_pullS (by assumption) (by walk_at "pk") (by decide) (by decide) fun H16 v v0 v1 hS17 => ?_
      clear hS16
      walk_at "gs"
      rename_i y H17 hS18
      have g1 := g.len
      have g2 := g.pl
      have g3 := g.gl
      refine ⟨y, l1, l2, l3, _, _, c.held.map hdD, c.put.map prD, c.pled.map dPair, cenP T.c_Census x l1 l2 l3 c (cell kp (.lst [.ref k1, .ref k2, .ref k3, .ref k4, .ref k5]) :: isL k3 (c.held.map hdD) :: isL k4 (c.put.map prD) :: isL k5 (c.pled.map dPair) :: [isBag b ns]), rfl, by walk_at "pm0", by walk_at "hl", by walk_at "hl", by walk_at "hl", by simp; omega, by simp; omega, by simp; omega, fun m1 m2 m3 H18 hS19 => ⟨rfl, ?_⟩⟩
      clear hS18
      unfold cenP cenF at hS19
      walk_at "gs"
      rename_i q1 H19 hS20
      obtain ⟨hh, hg⟩ : ∃ hh, c.held[0]? = some hh := ⟨_, List.getElem?_eq_getElem (by omega)⟩
      have e5 : sca (hdD hh) = none := by cases hh <;> rfl
      refine s_ixL hS20 (by walk_at "hl") (d := hdD hh) (atI_nat (j := 0) (by rw [List.getElem?_map, hg]; rfl)) ?_
      unfold Hold
      rw [e5]
      intro w2 hS21
      walk_at "gs"
      rename Hs _ _ => hS22
      refine s_neT shp_hd (by decide) (u := hh) (w := .free) (hS22.dvAt (.there .here)) (hS22.dvAt .here) ?_
      walk_at "gs"
      refine .inr ⟨_, rfl, ?_⟩
      walk_at "gs"
      rename_i z H20 hS23
      refine ⟨z, q1, l2, l3, _, _, (c.held.drop 1).map hdD, c.put.map prD, c.pled.map dPair, cenP T.c_Census x l1 l2 l3 c (cenP T.c_Census y m1 m2 m3 ⟨n, c.held, c.put, c.pled, c.spare + 1 + v⟩ (isL q1 ((c.held.drop 1).map hdD) :: cell kp (.lst [.ref k1, .ref k2, .ref k3, .ref k4, .ref k5]) :: isL k3 (c.held.map hdD) :: isL k4 (c.put.map prD) :: isL k5 (c.pled.map dPair) :: [isBag b ns])), rfl, by walk_at "pm0", by walk_at "hl", by walk_at "hl", by walk_at "hl", by simp; omega, by simp; omega, by simp; omega, fun n1 n2 n3 H21 hS24 => ⟨rfl, ?_⟩⟩
      clear hS23
      obtain ⟨s, es⟩ : ∃ s, s = c.spare + (if (!decide (hh = Hd.free)) = true then (1 : Int) else 0) := ⟨_, rfl⟩
      rw [← es] at hS24
      clear es
      obtain ⟨d1, e1⟩ : ∃ d : Cen, d = ⟨n, c.held, c.put, c.pled, c.spare + 1 + v⟩ := ⟨_, rfl⟩
      obtain ⟨d2, e2⟩ : ∃ d : Cen, d = ⟨n, c.held.drop 1, c.put, c.pled, s⟩ := ⟨_, rfl⟩
      have t1 : Fits d1 := by
        rw [e1]
        exact ⟨gt.h, gt.p, gt.g⟩
      have t2 : Fits d2 := by
        rw [e2]
        exact ⟨by rw [List.length_drop]; have := gt.h; omega, gt.p, gt.g⟩
      have b1 : addsB d1 = false := by
        rw [e1]
        exact adds_other g v0
      have b2 : addsB d2 = false := by
        rw [e2]
        exact adds_short g (by omega)
      have hne : ¬ c = d1 := fun z => by
        rw [e1] at z
        have z := congrArg Cen.spare z
        have z : c.spare = c.spare + 1 + v := z
        omega
      have hS25 : Hs (cenP T.c_Census y m1 m2 m3 d1 (cenP T.c_Census z n1 n2 n3 d2 (cenP T.c_Census x l1 l2 l3 c (cell kp (.lst [.ref k1, .ref k2, .ref k3, .ref k4, .ref k5]) :: isL k3 (c.held.map hdD) :: isL k4 (c.put.map prD) :: isL k5 (c.pled.map dPair) :: [isBag b ns])))) H21 := by
        rw [e1, e2]
        walk_at "pm0"
      clear hS24 e1 e2
      walk_at "gs"
      refine s_adds hS25 t1 fun H22 hS26 => ?_
      clear hS25
      rw [b1]
      walk_at "gs"
      refine ⟨_, _, rfl, rfl, ?_⟩
      walk_at "gs"
      refine s_adds (L := cenP T.c_Census y m1 m2 m3 d1 (cenP T.c_Census x l1 l2 l3 c (cell kp (.lst [.ref k1, .ref k2, .ref k3, .ref k4, .ref k5]) :: isL k3 (c.held.map hdD) :: isL k4 (c.put.map prD) :: isL k5 (c.pled.map dPair) :: [isBag b ns]))) (by walk_at "pm0") t2 fun H23 hS27 => ?_
      clear hS26
      rw [b2]
      walk_at "gs"
      refine ⟨_, _, rfl, rfl, ?_⟩
      walk_at "gs"
      refine s_eqCen (show Hs (cenP T.c_Census x l1 l2 l3 c (cenP T.c_Census y m1 m2 m3 d1 (cell kp (.lst [.ref k1, .ref k2, .ref k3, .ref k4, .ref k5]) :: isL k3 (c.held.map hdD) :: isL k4 (c.put.map prD) :: isL k5 (c.pled.map dPair) :: [isBag b ns]))) _ by walk_at "pm0") fun H24 hS28 => ?_
      clear hS27
      rw [decide_eq_false hne]
      walk_at "gs"
      refine ⟨_, _, rfl, rfl, ?_⟩
      unfold cenF at hS28
      walk_at "gs"
      rename_i f0 H25 hS29
      refine ⟨f0, k3, k4, k5, _, _, c.held.map hdD, c.put.map prD, c.pled.map dPair, cenP T.c_Census x l1 l2 l3 c (cell kp (.lst [.ref k1, .ref k2, .ref k3, .ref k4, .ref k5]) :: isL k3 (c.held.map hdD) :: isL k4 (c.put.map prD) :: isL k5 (c.pled.map dPair) :: [isBag b ns]), rfl, by walk_at "pm0", by walk_at "hl", by walk_at "hl", by walk_at "hl", by simp; omega, by simp; omega, by simp; omega, fun o1 o2 o3 H26 hS30 => ⟨rfl, ?_⟩⟩
      clear hS29
      rw [← g.size] at hS30
      refine s_eqCen (show Hs (cenP T.c_Census x l1 l2 l3 c (cenP T.c_Census f0 o1 o2 o3 c (cell kp (.lst [.ref k1, .ref k2, .ref k3, .ref k4, .ref k5]) :: isL k3 (c.held.map hdD) :: isL k4 (c.put.map prD) :: isL k5 (c.pled.map dPair) :: [isBag b ns]))) H26 by walk_at "pm0") fun H27 hS31 => ?_
      rw [decide_eq_true rfl]
      exact q _
end
theorem all_mk {l : PySem.W.OpenLaw} {w : World} {K : PySem.W.Frag} {h : Heap} {mg : Str → Option Value} {fa : Addr} (X : K.In h) (G : h.Ns mainGlobals mg) (hfa : mg "law" = some (.ref fa))
  {C_Census : Addr}
  {f1 : Addr} {od1 an1 : Option Addr} {sl1 : Array (Option Value)} {oc1 kV1 dc1 pm1 cd1 ct1 : Value}
  {f2 : Addr} {od2 an2 : Option Addr} {sl2 : Array (Option Value)} {oc2 kV2 dc2 pm2 cd2 ct2 : Value}
  {f3 : Addr} {od3 an3 : Option Addr} {sl3 : Array (Option Value)} {oc3 kV3 dc3 pm3 cd3 ct3 : Value}
  {f4 : Addr} {od4 an4 : Option Addr} {sl4 : Array (Option Value)} {oc4 kV4 dc4 pm4 cd4 ct4 : Value}
  {f5 : Addr} {od5 an5 : Option Addr} {sl5 : Array (Option Value)} {oc5 kV5 dc5 pm5 cd5 ct5 : Value}
  {f6 : Addr} {od6 an6 : Option Addr} {sl6 : Array (Option Value)} {oc6 kV6 dc6 pm6 cd6 ct6 : Value}
  {f7 : Addr} {od7 an7 : Option Addr} {sl7 : Array (Option Value)} {oc7 kV7 dc7 pm7 cd7 ct7 : Value}
  {f8 : Addr} {od8 an8 : Option Addr} {sl8 : Array (Option Value)} {oc8 kV8 dc8 pm8 cd8 ct8 : Value}
  {f9 : Addr} {od9 an9 : Option Addr} {sl9 : Array (Option Value)} {oc9 kV9 dc9 pm9 cd9 ct9 : Value}
  {f10 : Addr} {od10 an10 : Option Addr} {sl10 : Array (Option Value)} {oc10 kV10 dc10 pm10 cd10 ct10 : Value}
  {f11 : Addr} {od11 an11 : Option Addr} {sl11 : Array (Option Value)} {oc11 kV11 dc11 pm11 cd11 ct11 : Value}
  {f12 : Addr} {od12 an12 : Option Addr} {sl12 : Array (Option Value)} {oc12 kV12 dc12 pm12 cd12 ct12 : Value}
  {f13 : Addr} {od13 an13 : Option Addr} {sl13 : Array (Option Value)} {oc13 kV13 dc13 pm13 cd13 ct13 : Value}
  {f14 : Addr} {od14 an14 : Option Addr} {sl14 : Array (Option Value)} {oc14 kV14 dc14 pm14 cd14 ct14 : Value}
  {f15 : Addr} {od15 an15 : Option Addr} {sl15 : Array (Option Value)} {oc15 kV15 dc15 pm15 cd15 ct15 : Value}
  {f16 : Addr} {od16 an16 : Option Addr} {sl16 : Array (Option Value)} {oc16 kV16 dc16 pm16 cd16 ct16 : Value}
  {f17 : Addr} {od17 an17 : Option Addr} {sl17 : Array (Option Value)} {oc17 kV17 dc17 pm17 cd17 ct17 : Value}
  {f18 : Addr} {od18 an18 : Option Addr} {sl18 : Array (Option Value)} {oc18 kV18 dc18 pm18 cd18 ct18 : Value}
  (a1 : PySem.W.findIn K (.ref C_Census) "__init__" = some (some (.ref f1)))
  (i1 : PySem.W.isFn K (.ref f1) = true)
  (l1 : K.lookup f1 = some ⟨oc1, od1, .func (PySem.W.fnOf "__init__" "Census.__init__" (defArgs s_Censusx_initx) (defBody s_Censusx_initx) (defScope s_Censusx_initx) .none kV1 dc1 pm1 an1 cd1 ct1), sl1⟩)
  (c1 : PySem.W.codeIn K cd1 "Census.__init__" = true)
  (k1 : PySem.W.keepIn K (.ref f1) = true)
  (a2 : PySem.W.findIn K (.ref C_Census) "__len__" = some (some (.ref f2)))
  (i2 : PySem.W.isFn K (.ref f2) = true)
  (l2 : K.lookup f2 = some ⟨oc2, od2, .func (PySem.W.fnOf "__len__" "Census.__len__" (defArgs s_Censusx_lenx) (defBody s_Censusx_lenx) (defScope s_Censusx_lenx) .none kV2 dc2 pm2 an2 cd2 ct2), sl2⟩)
  (c2 : PySem.W.codeIn K cd2 "Census.__len__" = true)
  (k2 : PySem.W.keepIn K (.ref f2) = true)
  (a3 : PySem.W.findIn K (.ref C_Census) "__eq__" = some (some (.ref f3)))
  (i3 : PySem.W.isFn K (.ref f3) = true)
  (l3 : K.lookup f3 = some ⟨oc3, od3, .func (PySem.W.fnOf "__eq__" "Census.__eq__" (defArgs s_Censusx_eqx) (defBody s_Censusx_eqx) (defScope s_Censusx_eqx) .none kV3 dc3 pm3 an3 cd3 ct3), sl3⟩)
  (c3 : PySem.W.codeIn K cd3 "Census.__eq__" = true)
  (k3 : PySem.W.keepIn K (.ref f3) = true)
  (a4 : PySem.W.findIn K (.ref C_Census) "__str__" = some (some (.ref f4)))
  (i4 : PySem.W.isFn K (.ref f4) = true)
  (l4 : K.lookup f4 = some ⟨oc4, od4, .func (PySem.W.fnOf "__str__" "Census.__str__" (defArgs s_Censusx_strx) (defBody s_Censusx_strx) (defScope s_Censusx_strx) .none kV4 dc4 pm4 an4 cd4 ct4), sl4⟩)
  (c4 : PySem.W.codeIn K cd4 "Census.__str__" = true)
  (k4 : PySem.W.keepIn K (.ref f4) = true)
  (a5 : PySem.W.nsIn K mainGlobals "sums_of" = some (some (.ref f5)))
  (l5 : K.lookup f5 = some ⟨oc5, od5, .func (PySem.W.fnOf "sums_of" "sums_of" (defArgs s_sums_of) (defBody s_sums_of) (defScope s_sums_of) .none kV5 dc5 pm5 an5 cd5 ct5), sl5⟩)
  (c5 : PySem.W.codeIn K cd5 "sums_of" = true)
  (k5 : PySem.W.keepIn K (.ref f5) = true)
  (a6 : PySem.W.nsIn K mainGlobals "adds_up" = some (some (.ref f6)))
  (l6 : K.lookup f6 = some ⟨oc6, od6, .func (PySem.W.fnOf "adds_up" "adds_up" (defArgs s_adds_up) (defBody s_adds_up) (defScope s_adds_up) .none kV6 dc6 pm6 an6 cd6 ct6), sl6⟩)
  (c6 : PySem.W.codeIn K cd6 "adds_up" = true)
  (k6 : PySem.W.keepIn K (.ref f6) = true)
  (a7 : PySem.W.nsIn K mainGlobals "bears" = some (some (.ref f7)))
  (l7 : K.lookup f7 = some ⟨oc7, od7, .func (PySem.W.fnOf "bears" "bears" (defArgs s_bears) (defBody s_bears) (defScope s_bears) .none kV7 dc7 pm7 an7 cd7 ct7), sl7⟩)
  (c7 : PySem.W.codeIn K cd7 "bears" = true)
  (k7 : PySem.W.keepIn K (.ref f7) = true)
  (a8 : PySem.W.nsIn K mainGlobals "_law_bag" = some (some (.ref f8)))
  (l8 : K.lookup f8 = some ⟨oc8, od8, .func (PySem.W.fnOf "_law_bag" "_law_bag" (defArgs s_law_bag) (defBody s_law_bag) (defScope s_law_bag) .none kV8 dc8 pm8 an8 cd8 ct8), sl8⟩)
  (c8 : PySem.W.codeIn K cd8 "_law_bag" = true)
  (k8 : PySem.W.keepIn K (.ref f8) = true)
  (a9 : PySem.W.nsIn K mainGlobals "_law_pull" = some (some (.ref f9)))
  (l9 : K.lookup f9 = some ⟨oc9, od9, .func (PySem.W.fnOf "_law_pull" "_law_pull" (defArgs s_law_pull) (defBody s_law_pull) (defScope s_law_pull) .none kV9 dc9 pm9 an9 cd9 ct9), sl9⟩)
  (c9 : PySem.W.codeIn K cd9 "_law_pull" = true)
  (k9 : PySem.W.keepIn K (.ref f9) = true)
  (a10 : PySem.W.nsIn K mainGlobals "_law_truth" = some (some (.ref f10)))
  (l10 : K.lookup f10 = some ⟨oc10, od10, .func (PySem.W.fnOf "_law_truth" "_law_truth" (defArgs s_law_truth) (defBody s_law_truth) (defScope s_law_truth) .none kV10 dc10 pm10 an10 cd10 ct10), sl10⟩)
  (c10 : PySem.W.codeIn K cd10 "_law_truth" = true)
  (k10 : PySem.W.keepIn K (.ref f10) = true)
  (a11 : PySem.W.nsIn K mainGlobals "_law_fit" = some (some (.ref f11)))
  (l11 : K.lookup f11 = some ⟨oc11, od11, .func (PySem.W.fnOf "_law_fit" "_law_fit" (defArgs s_law_fit) (defBody s_law_fit) (defScope s_law_fit) .none kV11 dc11 pm11 an11 cd11 ct11), sl11⟩)
  (c11 : PySem.W.codeIn K cd11 "_law_fit" = true)
  (k11 : PySem.W.keepIn K (.ref f11) = true)
  (a12 : PySem.W.nsIn K mainGlobals "_law_census" = some (some (.ref f12)))
  (l12 : K.lookup f12 = some ⟨oc12, od12, .func (PySem.W.fnOf "_law_census" "_law_census" (defArgs s_law_census) (defBody s_law_census) (defScope s_law_census) .none kV12 dc12 pm12 an12 cd12 ct12), sl12⟩)
  (c12 : PySem.W.codeIn K cd12 "_law_census" = true)
  (k12 : PySem.W.keepIn K (.ref f12) = true)
  (a13 : PySem.W.nsIn K mainGlobals "_law_good_plan" = some (some (.ref f13)))
  (l13 : K.lookup f13 = some ⟨oc13, od13, .func (PySem.W.fnOf "_law_good_plan" "_law_good_plan" (defArgs s_law_good_plan) (defBody s_law_good_plan) (defScope s_law_good_plan) .none kV13 dc13 pm13 an13 cd13 ct13), sl13⟩)
  (c13 : PySem.W.codeIn K cd13 "_law_good_plan" = true)
  (k13 : PySem.W.keepIn K (.ref f13) = true)
  (a14 : PySem.W.nsIn K mainGlobals "_law_spoilt" = some (some (.ref f14)))
  (l14 : K.lookup f14 = some ⟨oc14, od14, .func (PySem.W.fnOf "_law_spoilt" "_law_spoilt" (defArgs s_law_spoilt) (defBody s_law_spoilt) (defScope s_law_spoilt) .none kV14 dc14 pm14 an14 cd14 ct14), sl14⟩)
  (c14 : PySem.W.codeIn K cd14 "_law_spoilt" = true)
  (k14 : PySem.W.keepIn K (.ref f14) = true)
  (a15 : PySem.W.nsIn K mainGlobals "_law_fields_apart" = some (some (.ref f15)))
  (l15 : K.lookup f15 = some ⟨oc15, od15, .func (PySem.W.fnOf "_law_fields_apart" "_law_fields_apart" (defArgs s_law_fields_apart) (defBody s_law_fields_apart) (defScope s_law_fields_apart) .none kV15 dc15 pm15 an15 cd15 ct15), sl15⟩)
  (c15 : PySem.W.codeIn K cd15 "_law_fields_apart" = true)
  (k15 : PySem.W.keepIn K (.ref f15) = true)
  (a16 : PySem.W.nsIn K mainGlobals "_law_own_lists" = some (some (.ref f16)))
  (l16 : K.lookup f16 = some ⟨oc16, od16, .func (PySem.W.fnOf "_law_own_lists" "_law_own_lists" (defArgs s_law_own_lists) (defBody s_law_own_lists) (defScope s_law_own_lists) .none kV16 dc16 pm16 an16 cd16 ct16), sl16⟩)
  (c16 : PySem.W.codeIn K cd16 "_law_own_lists" = true)
  (k16 : PySem.W.keepIn K (.ref f16) = true)
  (a17 : PySem.W.nsIn K mainGlobals "_law_below" = some (some (.ref f17)))
  (l17 : K.lookup f17 = some ⟨oc17, od17, .func (PySem.W.fnOf "_law_below" "_law_below" (defArgs s_law_below) (defBody s_law_below) (defScope s_law_below) .none kV17 dc17 pm17 an17 cd17 ct17), sl17⟩)
  (c17 : PySem.W.codeIn K cd17 "_law_below" = true)
  (k17 : PySem.W.keepIn K (.ref f17) = true)
  (a18 : PySem.W.nsIn K mainGlobals "law" = some (some (.ref f18)))
  (l18 : K.lookup f18 = some ⟨oc18, od18, .func (PySem.W.fnOf "law" "law" (defArgs s_law) (defBody s_law) (defScope s_law) .none kV18 dc18 pm18 an18 cd18 ct18), sl18⟩)
  (c18 : PySem.W.codeIn K cd18 "law" = true)
  (k18 : PySem.W.keepIn K (.ref f18) = true)
  (aC_Census : PySem.W.nsIn K mainGlobals "Census" = some (some (.ref C_Census)))
  (pg_Census : PySem.W.plainGet K C_Census Str.empty = true)
  (hd_Census : PySem.W.hasDictIn K C_Census = true)
  (po_Census : PySem.W.plainOver K C_Census = true)
  (sa_Census : PySem.W.findIn K (.ref C_Census) "__setattr__" = some (some (.builtin "object.__setattr__")))
  (mk_Census : PySem.W.makesIn K C_Census = true)
  (kc_Census : PySem.W.keepIn K (.ref C_Census) = true)
  (ca_Census : PySem.W.findIn K (.ref C_Census) "__class__" = some (some (.builtin "object.__class__")))
  (mo_Census : PySem.W.mroIn K C_Census (.type "object") = some true)
  (ty_Census : PySem.W.typeIn K (.ref C_Census) = some (.type "type"))
  (ne_Census : PySem.W.findIn K (.ref C_Census) "__ne__" = some (some (.builtin "object.__ne__")))
  (nb_Census : PySem.W.findIn K (.ref C_Census) "__bool__" = some none)
  (cn_cls : PySem.W.specialIn K (.builtin "object.__class__") "__get__" = some (some (.builtin "getset_descriptor.__get__")))
  (ct_cls : PySem.W.takesIn K (.builtin "object.__class__") = some true)
  (nA_Census_size : PySem.W.findIn K (.ref C_Census) "size" = some none)
  (nA_Census_held : PySem.W.findIn K (.ref C_Census) "held" = some none)
  (nA_Census_put_by : PySem.W.findIn K (.ref C_Census) "put_by" = some none)
  (nA_Census_pledged : PySem.W.findIn K (.ref C_Census) "pledged" = some none)
  (nA_Census_spare : PySem.W.findIn K (.ref C_Census) "spare" = some none)
  (z_all : PySem.W.nsIn K mainGlobals "all" = some none)
  (z_bool : PySem.W.nsIn K mainGlobals "bool" = some none)
  (z_int : PySem.W.nsIn K mainGlobals "int" = some none)
  (z_isinstance : PySem.W.nsIn K mainGlobals "isinstance" = some none)
  (z_len : PySem.W.nsIn K mainGlobals "len" = some none)
  (z_list : PySem.W.nsIn K mainGlobals "list" = some none)
  (z_min : PySem.W.nsIn K mainGlobals "min" = some none)
  (z_range : PySem.W.nsIn K mainGlobals "range" = some none)
  (z_set : PySem.W.nsIn K mainGlobals "set" = some none)
  (z_sum : PySem.W.nsIn K mainGlobals "sum" = some none) :
  ∃ fd : FuncData, (∀ (s : Shared) (v : Value), BindsTo s fd ⟨[v], []⟩ [("_law_script", v)]) ∧ ∀ base : Heap, K.In base → base.Ns mainGlobals mg → FnOk l.prog w K mg base (L2.CX l.prog w) 8 fa fd ["_law_script"] (sp_law K) := by
  have e : f18 = fa := (Value.ref.inj (Option.some.inj (hfa.symm.trans (PySem.W.mg_of X G a18)))).symm
  subst e
  let T : Txt K mg := {
  f_Censusx_initx := f1,
  d_Censusx_initx := PySem.W.fnOf "__init__" "Census.__init__" (defArgs s_Censusx_initx) (defBody s_Censusx_initx) (defScope s_Censusx_initx) .none kV1 dc1 pm1 an1 cd1 ct1,
  F_Censusx_initx := ⟨⟨oc1, od1, .none, kV1, dc1, pm1, an1, cd1, ct1, sl1, rfl, l1, c1, .inl ⟨rfl, rfl⟩, .inl rfl⟩, k1⟩,
  f_Censusx_lenx := f2,
  d_Censusx_lenx := PySem.W.fnOf "__len__" "Census.__len__" (defArgs s_Censusx_lenx) (defBody s_Censusx_lenx) (defScope s_Censusx_lenx) .none kV2 dc2 pm2 an2 cd2 ct2,
  F_Censusx_lenx := ⟨⟨oc2, od2, .none, kV2, dc2, pm2, an2, cd2, ct2, sl2, rfl, l2, c2, .inl ⟨rfl, rfl⟩, .inl rfl⟩, k2⟩,
  f_Censusx_eqx := f3,
  d_Censusx_eqx := PySem.W.fnOf "__eq__" "Census.__eq__" (defArgs s_Censusx_eqx) (defBody s_Censusx_eqx) (defScope s_Censusx_eqx) .none kV3 dc3 pm3 an3 cd3 ct3,
  F_Censusx_eqx := ⟨⟨oc3, od3, .none, kV3, dc3, pm3, an3, cd3, ct3, sl3, rfl, l3, c3, .inl ⟨rfl, rfl⟩, .inl rfl⟩, k3⟩,
  f_Censusx_strx := f4,
  d_Censusx_strx := PySem.W.fnOf "__str__" "Census.__str__" (defArgs s_Censusx_strx) (defBody s_Censusx_strx) (defScope s_Censusx_strx) .none kV4 dc4 pm4 an4 cd4 ct4,
  F_Censusx_strx := ⟨⟨oc4, od4, .none, kV4, dc4, pm4, an4, cd4, ct4, sl4, rfl, l4, c4, .inl ⟨rfl, rfl⟩, .inl rfl⟩, k4⟩,
  g_sums_of := PySem.W.mg_of X G a5,
  f_sums_of := f5,
  d_sums_of := PySem.W.fnOf "sums_of" "sums_of" (defArgs s_sums_of) (defBody s_sums_of) (defScope s_sums_of) .none kV5 dc5 pm5 an5 cd5 ct5,
  F_sums_of := ⟨⟨oc5, od5, .none, kV5, dc5, pm5, an5, cd5, ct5, sl5, rfl, l5, c5, .inl ⟨rfl, rfl⟩, .inl rfl⟩, k5⟩,
  g_adds_up := PySem.W.mg_of X G a6,
  f_adds_up := f6,
  d_adds_up := PySem.W.fnOf "adds_up" "adds_up" (defArgs s_adds_up) (defBody s_adds_up) (defScope s_adds_up) .none kV6 dc6 pm6 an6 cd6 ct6,
  F_adds_up := ⟨⟨oc6, od6, .none, kV6, dc6, pm6, an6, cd6, ct6, sl6, rfl, l6, c6, .inl ⟨rfl, rfl⟩, .inl rfl⟩, k6⟩,
  g_bears := PySem.W.mg_of X G a7,
  f_bears := f7,
  d_bears := PySem.W.fnOf "bears" "bears" (defArgs s_bears) (defBody s_bears) (defScope s_bears) .none kV7 dc7 pm7 an7 cd7 ct7,
  F_bears := ⟨⟨oc7, od7, .none, kV7, dc7, pm7, an7, cd7, ct7, sl7, rfl, l7, c7, .inl ⟨rfl, rfl⟩, .inl rfl⟩, k7⟩,
  g_law_bag := PySem.W.mg_of X G a8,
  f_law_bag := f8,
  d_law_bag := PySem.W.fnOf "_law_bag" "_law_bag" (defArgs s_law_bag) (defBody s_law_bag) (defScope s_law_bag) .none kV8 dc8 pm8 an8 cd8 ct8,
  F_law_bag := ⟨⟨oc8, od8, .none, kV8, dc8, pm8, an8, cd8, ct8, sl8, rfl, l8, c8, .inl ⟨rfl, rfl⟩, .inl rfl⟩, k8⟩,
  g_law_pull := PySem.W.mg_of X G a9,
  f_law_pull := f9,
  d_law_pull := PySem.W.fnOf "_law_pull" "_law_pull" (defArgs s_law_pull) (defBody s_law_pull) (defScope s_law_pull) .none kV9 dc9 pm9 an9 cd9 ct9,
  F_law_pull := ⟨⟨oc9, od9, .none, kV9, dc9, pm9, an9, cd9, ct9, sl9, rfl, l9, c9, .inl ⟨rfl, rfl⟩, .inl rfl⟩, k9⟩,
  g_law_truth := PySem.W.mg_of X G a10,
  f_law_truth := f10,
  d_law_truth := PySem.W.fnOf "_law_truth" "_law_truth" (defArgs s_law_truth) (defBody s_law_truth) (defScope s_law_truth) .none kV10 dc10 pm10 an10 cd10 ct10,
  F_law_truth := ⟨⟨oc10, od10, .none, kV10, dc10, pm10, an10, cd10, ct10, sl10, rfl, l10, c10, .inl ⟨rfl, rfl⟩, .inl rfl⟩, k10⟩,
  g_law_fit := PySem.W.mg_of X G a11,
  f_law_fit := f11,
  d_law_fit := PySem.W.fnOf "_law_fit" "_law_fit" (defArgs s_law_fit) (defBody s_law_fit) (defScope s_law_fit) .none kV11 dc11 pm11 an11 cd11 ct11,
  F_law_fit := ⟨⟨oc11, od11, .none, kV11, dc11, pm11, an11, cd11, ct11, sl11, rfl, l11, c11, .inl ⟨rfl, rfl⟩, .inl rfl⟩, k11⟩,
  g_law_census := PySem.W.mg_of X G a12,
  f_law_census := f12,
  d_law_census := PySem.W.fnOf "_law_census" "_law_census" (defArgs s_law_census) (defBody s_law_census) (defScope s_law_census) .none kV12 dc12 pm12 an12 cd12 ct12,
  F_law_census := ⟨⟨oc12, od12, .none, kV12, dc12, pm12, an12, cd12, ct12, sl12, rfl, l12, c12, .inl ⟨rfl, rfl⟩, .inl rfl⟩, k12⟩,
  g_law_good_plan := PySem.W.mg_of X G a13,
  f_law_good_plan := f13,
  d_law_good_plan := PySem.W.fnOf "_law_good_plan" "_law_good_plan" (defArgs s_law_good_plan) (defBody s_law_good_plan) (defScope s_law_good_plan) .none kV13 dc13 pm13 an13 cd13 ct13,
  F_law_good_plan := ⟨⟨oc13, od13, .none, kV13, dc13, pm13, an13, cd13, ct13, sl13, rfl, l13, c13, .inl ⟨rfl, rfl⟩, .inl rfl⟩, k13⟩,
  g_law_spoilt := PySem.W.mg_of X G a14,
  f_law_spoilt := f14,
  d_law_spoilt := PySem.W.fnOf "_law_spoilt" "_law_spoilt" (defArgs s_law_spoilt) (defBody s_law_spoilt) (defScope s_law_spoilt) .none kV14 dc14 pm14 an14 cd14 ct14,
  F_law_spoilt := ⟨⟨oc14, od14, .none, kV14, dc14, pm14, an14, cd14, ct14, sl14, rfl, l14, c14, .inl ⟨rfl, rfl⟩, .inl rfl⟩, k14⟩,
  g_law_fields_apart := PySem.W.mg_of X G a15,
  f_law_fields_apart := f15,
  d_law_fields_apart := PySem.W.fnOf "_law_fields_apart" "_law_fields_apart" (defArgs s_law_fields_apart) (defBody s_law_fields_apart) (defScope s_law_fields_apart) .none kV15 dc15 pm15 an15 cd15 ct15,
  F_law_fields_apart := ⟨⟨oc15, od15, .none, kV15, dc15, pm15, an15, cd15, ct15, sl15, rfl, l15, c15, .inl ⟨rfl, rfl⟩, .inl rfl⟩, k15⟩,
  g_law_own_lists := PySem.W.mg_of X G a16,
  f_law_own_lists := f16,
  d_law_own_lists := PySem.W.fnOf "_law_own_lists" "_law_own_lists" (defArgs s_law_own_lists) (defBody s_law_own_lists) (defScope s_law_own_lists) .none kV16 dc16 pm16 an16 cd16 ct16,
  F_law_own_lists := ⟨⟨oc16, od16, .none, kV16, dc16, pm16, an16, cd16, ct16, sl16, rfl, l16, c16, .inl ⟨rfl, rfl⟩, .inl rfl⟩, k16⟩,
  g_law_below := PySem.W.mg_of X G a17,
  f_law_below := f17,
  d_law_below := PySem.W.fnOf "_law_below" "_law_below" (defArgs s_law_below) (defBody s_law_below) (defScope s_law_below) .none kV17 dc17 pm17 an17 cd17 ct17,
  F_law_below := ⟨⟨oc17, od17, .none, kV17, dc17, pm17, an17, cd17, ct17, sl17, rfl, l17, c17, .inl ⟨rfl, rfl⟩, .inl rfl⟩, k17⟩,
  g_law := PySem.W.mg_of X G a18,
  f_law := f18,
  d_law := PySem.W.fnOf "law" "law" (defArgs s_law) (defBody s_law) (defScope s_law) .none kV18 dc18 pm18 an18 cd18 ct18,
  F_law := ⟨⟨oc18, od18, .none, kV18, dc18, pm18, an18, cd18, ct18, sl18, rfl, l18, c18, .inl ⟨rfl, rfl⟩, .inl rfl⟩, k18⟩,
  c_Census := C_Census,
  g_Census := PySem.W.mg_of X G aC_Census,
  cl_Census := ⟨pg_Census, hd_Census, po_Census, sa_Census⟩,
  mk_Census := ⟨mk_Census, a1, i1, kc_Census⟩,
  m_Census_len := ⟨a2, i2, k2⟩,
  m_Census_eq := ⟨a3, i3, k3⟩,
  m_Census_str := ⟨a4, i4, k4⟩,
  ne_Census := ne_Census,
  nb_Census := nb_Census,
  ow_Census := ⟨⟨pg_Census, hd_Census, po_Census, sa_Census⟩, ca_Census, cn_cls, ct_cls, mo_Census, ty_Census⟩,
  n_Census_size := nA_Census_size,
  n_Census_held := nA_Census_held,
  n_Census_put_by := nA_Census_put_by,
  n_Census_pledged := nA_Census_pledged,
  n_Census_spare := nA_Census_spare,
  z_all := PySem.W.mg_none_of X G z_all,
  z_bool := PySem.W.mg_none_of X G z_bool,
  z_int := PySem.W.mg_none_of X G z_int,
  z_isinstance := PySem.W.mg_none_of X G z_isinstance,
  z_len := PySem.W.mg_none_of X G z_len,
  z_list := PySem.W.mg_none_of X G z_list,
  z_min := PySem.W.mg_none_of X G z_min,
  z_range := PySem.W.mg_none_of X G z_range,
  z_set := PySem.W.mg_none_of X G z_set,
  z_sum := PySem.W.mg_none_of X G z_sum }
  exact ⟨T.d_law, fun s v => T.F_law.bindsA (ps := ["_law_script"]) (fun _ _ _ _ _ _ us hl => match us, hl with | [_], _ => rfl) s [v] rfl, fun base _ _ => ok_law T⟩
end K43
open PySem PySem.W PyProof.Rows
set_option maxRecDepth 100000 in
set_option maxHeartbeats 0 in
theorem PySem.Challenge.cw_latestow_k43_papers_judged_holds : PySem.Challenge.rw_latestow_k43_papers_judged.Holds := by
  w_on; o_law; k_head; (case hw => w_witness2)
  k_fill
  refine L2.walk_of (l := PySem.Challenge.rw_latestow_k43_papers_judged) (n := 63) (k := 8) (x := "_law_script") (CX := fun w => L2.CX PySem.Challenge.rw_latestow_k43_papers_judged.prog w) (sp := fun w => K43.sp_law _) rfl (by decide) rfl ⟨rfl, by decide, by decide⟩ (fun w h Y => PySem.W.kIn_of Y) ?F (fun _ _ a ns hl _ hS => ⟨a, ns, rfl, hS, hl, fun _ => rfl⟩) (fun w _ _ _ _ h => Lt.cx_no h)
  case F =>
    intro w mg fa h KX G hmg
    refine' K43.all_mk KX G hmg ?a1 ?i1 ?l1 ?c1 ?k1 ?a2 ?i2 ?l2 ?c2 ?k2 ?a3 ?i3 ?l3 ?c3 ?k3 ?a4 ?i4 ?l4 ?c4 ?k4 ?a5 ?l5 ?c5 ?k5 ?a6 ?l6 ?c6 ?k6 ?a7 ?l7 ?c7 ?k7 ?a8 ?l8 ?c8 ?k8 ?a9 ?l9 ?c9 ?k9 ?a10 ?l10 ?c10 ?k10 ?a11 ?l11 ?c11 ?k11 ?a12 ?l12 ?c12 ?k12 ?a13 ?l13 ?c13 ?k13 ?a14 ?l14 ?c14 ?k14 ?a15 ?l15 ?c15 ?k15 ?a16 ?l16 ?c16 ?k16 ?a17 ?l17 ?c17 ?k17 ?a18 ?l18 ?c18 ?k18 ?aC_Census ?pg_Census ?hd_Census ?po_Census ?sa_Census ?mk_Census ?kc_Census ?ca_Census ?mo_Census ?ty_Census ?ne_Census ?nb_Census ?cn_cls ?ct_cls ?nA_Census_size ?nA_Census_held ?nA_Census_put_by ?nA_Census_pledged ?nA_Census_spare ?z_all ?z_bool ?z_int ?z_isinstance ?z_len ?z_list ?z_min ?z_range ?z_set ?z_sum
    (case aC_Census => k_is)
    (case a1 => k_is)
    (case l1 => k_is)
    (case a2 => k_is)
    (case l2 => k_is)
    (case a3 => k_is)
    (case l3 => k_is)
    (case a4 => k_is)
    (case l4 => k_is)
    (case a5 => k_is)
    (case l5 => k_is)
    (case a6 => k_is)
    (case l6 => k_is)
    (case a7 => k_is)
    (case l7 => k_is)
    (case a8 => k_is)
    (case l8 => k_is)
    (case a9 => k_is)
    (case l9 => k_is)
    (case a10 => k_is)
    (case l10 => k_is)
    (case a11 => k_is)
    (case l11 => k_is)
    (case a12 => k_is)
    (case l12 => k_is)
    (case a13 => k_is)
    (case l13 => k_is)
    (case a14 => k_is)
    (case l14 => k_is)
    (case a15 => k_is)
    (case l15 => k_is)
    (case a16 => k_is)
    (case l16 => k_is)
    (case a17 => k_is)
    (case l17 => k_is)
    (case a18 => k_is)
    (case l18 => k_is)
    (case i1 => k_is)
    (case c1 => k_is)
    (case k1 => k_is)
    (case i2 => k_is)
    (case c2 => k_is)
    (case k2 => k_is)
    (case i3 => k_is)
    (case c3 => k_is)
    (case k3 => k_is)
    (case i4 => k_is)
    (case c4 => k_is)
    (case k4 => k_is)
    (case c5 => k_is)
    (case k5 => k_is)
    (case c6 => k_is)
    (case k6 => k_is)
    (case c7 => k_is)
    (case k7 => k_is)
    (case c8 => k_is)
    (case k8 => k_is)
    (case c9 => k_is)
    (case k9 => k_is)
    (case c10 => k_is)
    (case k10 => k_is)
    (case c11 => k_is)
    (case k11 => k_is)
    (case c12 => k_is)
    (case k12 => k_is)
    (case c13 => k_is)
    (case k13 => k_is)
    (case c14 => k_is)
    (case k14 => k_is)
    (case c15 => k_is)
    (case k15 => k_is)
    (case c16 => k_is)
    (case k16 => k_is)
    (case c17 => k_is)
    (case k17 => k_is)
    (case c18 => k_is)
    (case k18 => k_is)
    (case pg_Census => k_is)
    (case hd_Census => k_is)
    (case po_Census => k_is)
    (case sa_Census => k_is)
    (case mk_Census => k_is)
    (case kc_Census => k_is)
    (case ca_Census => k_is)
    (case mo_Census => k_is)
    (case ty_Census => k_is)
    (case ne_Census => k_is)
    (case nb_Census => k_is)
    (case cn_cls => k_is)
    (case ct_cls => k_is)
    (case nA_Census_size => k_is)
    (case nA_Census_held => k_is)
    (case nA_Census_put_by => k_is)
    (case nA_Census_pledged => k_is)
    (case nA_Census_spare => k_is)
    (case z_all => k_is)
    (case z_bool => k_is)
    (case z_int => k_is)
    (case z_isinstance => k_is)
    (case z_len => k_is)
    (case z_list => k_is)
    (case z_min => k_is)
    (case z_range => k_is)
    (case z_set => k_is)
    (case z_sum => k_is)
#print axioms PySem.Challenge.cw_latestow_k43_papers_judged_holds
