import PyProof.Rows.All
import Wide.All
import OpenK.AllK
import Wide.FinOn
import HandS.ForMost
import HandS.ForExc
import HandS.IsInst
import HandS.Flow
import HandS.Deep
import HandS.Wide
import HandS.TupAny
import HandS.Style
import HandS.Conv
import KE.GoesEnum
import HandS.TupMul
import HandS.Lambda
import HandS.Zip
import HandS.ExcValue
import HandS.ExcIs
import HandS.Defaults
import HandS.SortInts
import HandS.EndTab
import HandS.HeadWalk
import HandS.ForSpec
import HandS.More
import HandS.Dict
import HandS.Head2
import HandS.HeadHook4
import PySem.Challenge.RW_asifcopied_k01_whole_lines_grafted
import HandS.Exc
set_option Elab.async false
set_option linter.all false
set_option maxRecDepth 100000
set_option maxHeartbeats 4000000
/-! The base: heaps that grow, data in heaps, readings step by step. -/
namespace A
open PySem PySem.Spec PyProof.Rows L2

/-! ### heaps -/
def Ex (H H' : Hp) : Prop := ∀ a o, H a = some o → H' a = some o
theorem Ex.refl (H : Hp) : Ex H H := fun _ _ h => h
theorem Ex.trans {H H1 H2 : Hp} (a : Ex H H1) (b : Ex H1 H2) : Ex H H2 := fun x o h => b x o (a x o h)
theorem Ex.new {G H : Hp} {p : Addr} {o : HO} (e : Ex G H) (h : H p = none) : Ex G (upd H p o) := fun a u q => by
  rw [upd_ne (ne_of_none (e a u q) h)]; exact e a u q
theorem Ex.wr {G H : Hp} {p : Addr} {o : HO} (e : Ex G H) (h : G p = none) : Ex G (upd H p o) := fun a u q => by
  rw [upd_ne (ne_of_none q h)]; exact e a u q
theorem Ex.lay {G H : Hp} {p : Addr} {o : HO} (e : Ex G H) (h : H p = some o) : Ex (upd G p o) H := fun a u q => by
  by_cases hb : a = p
  · subst hb; rw [upd_same] at q; rw [h]; exact q
  · rw [upd_ne hb] at q; exact e a u q
theorem upd_keep {H : Hp} {a p : Addr} {o x : HO} (h : H a = some x) (hp : H p = none) : upd H p o a = some x := by
  rw [upd_ne (ne_of_none h hp)]; exact h
theorem upd_keep2 {H : Hp} {a p : Addr} {o x : HO} (hn : a ≠ p) (h : H a = some x) : upd H p o a = some x := by
  rw [upd_ne hn]; exact h
theorem upd_none {H : Hp} {a p : Addr} {o : HO} (hn : a ≠ p) (h : H a = none) : upd H p o a = none := by
  rw [upd_ne hn]; exact h
theorem none_of_ex {G H : Hp} {a : Addr} (e : Ex G H) (h : H a = none) : G a = none := by
  cases q : G a with
  | none => rfl
  | some u => rw [e a u q] at h; cases h
theorem ne_none {H : Hp} {a b : Addr} {x : HO} (h : H a = some x) (hb : H b = none) : b ≠ a := fun e => by
  subst e; rw [h] at hb; cases hb

/-! ### data in a heap -/
section
variable {K : PySem.W.Frag} {G H : Hp}
theorem sqL_ex {a : Addr} {xs : List V} (e : Ex G H) (h : SqL K G a xs) : SqL K H a xs := by
  rcases h with (h | ⟨o, h⟩) | h
  · exact .inl (.inl (e _ _ h))
  · exact .inl (.inr ⟨o, e _ _ h⟩)
  · exact .inr h
theorem sqT_ex {a : Addr} {xs : List V} (e : Ex G H) (h : SqT K G a xs) : SqT K H a xs := by
  rcases h with (h | ⟨o, h⟩) | h
  · exact .inl (.inl (e _ _ h))
  · exact .inl (.inr ⟨o, e _ _ h⟩)
  · exact .inr h
mutual
theorem dp_ex (e : Ex G H) : ∀ {v : V} {d : PyData}, Dp K G v d → Dp K H v d
  | _, _, .non => .non
  | _, _, .bl b => .bl b
  | _, _, .int i => .int i
  | _, _, .str x => .str x
  | _, _, .lst h a => .lst (sqL_ex e h) (dpa_ex e a)
  | _, _, .tup h a => .tup (sqT_ex e h) (dpa_ex e a)
theorem dpa_ex (e : Ex G H) : ∀ {vs : List V} {ds : List PyData}, DpAll K G vs ds → DpAll K H vs ds
  | _, _, .nil => .nil
  | _, _, .cons h a => .cons (dp_ex e h) (dpa_ex e a)
end
theorem dpa_len : ∀ {vs : List V} {ds : List PyData}, DpAll K H vs ds → vs.length = ds.length
  | _, _, .nil => rfl
  | _, _, .cons _ a => by rw [List.length_cons, List.length_cons, dpa_len a]
theorem dpa_get : ∀ {vs : List V} {ds : List PyData} {i : Nat} {d : PyData}, DpAll K H vs ds → ds[i]? = some d → ∃ v, vs[i]? = some v ∧ Dp K H v d
  | _, _, _, _, .nil, e => by simp at e
  | _, _, 0, _, .cons h _, e => by simp at e; subst e; exact ⟨_, rfl, h⟩
  | _, _, i + 1, _, .cons _ a, e => by
    obtain ⟨v, h1, h2⟩ := dpa_get (i := i) a (by simpa using e)
    exact ⟨v, by simpa using h1, h2⟩
theorem dpa_getV : ∀ {vs : List V} {ds : List PyData} {i : Nat} {v : V}, DpAll K H vs ds → vs[i]? = some v → ∃ d, ds[i]? = some d ∧ Dp K H v d
  | _, _, _, _, .nil, e => by simp at e
  | _, _, 0, _, .cons h _, e => by simp at e; subst e; exact ⟨_, rfl, h⟩
  | _, _, i + 1, _, .cons _ a, e => by
    obtain ⟨v, h1, h2⟩ := dpa_getV (i := i) a (by simpa using e)
    exact ⟨v, by simpa using h1, h2⟩
theorem dpa_app : ∀ {vs ws : List V} {ds es : List PyData}, DpAll K H vs ds → DpAll K H ws es → DpAll K H (vs ++ ws) (ds ++ es)
  | _, _, _, _, .nil, b => b
  | _, _, _, _, .cons h a, b => .cons h (dpa_app a b)
theorem dpa_snoc {vs : List V} {ds : List PyData} {v : V} {d : PyData} (a : DpAll K H vs ds) (h : Dp K H v d) : DpAll K H (vs ++ [v]) (ds ++ [d]) := dpa_app a (.cons h .nil)
theorem dpa_take : ∀ {vs : List V} {ds : List PyData} (n : Nat), DpAll K H vs ds → DpAll K H (vs.take n) (ds.take n)
  | _, _, 0, _ => by simp; exact .nil
  | _, _, _ + 1, .nil => by simp; exact .nil
  | _, _, n + 1, .cons h a => by simp only [List.take_succ_cons]; exact .cons h (dpa_take n a)
theorem dpa_drop : ∀ {vs : List V} {ds : List PyData} (n : Nat), DpAll K H vs ds → DpAll K H (vs.drop n) (ds.drop n)
  | _, _, 0, a => a
  | _, _, _ + 1, .nil => by simp; exact .nil
  | _, _, n + 1, .cons h a => by simp only [List.drop_succ_cons]; exact dpa_drop n a
theorem dpa_rev : ∀ {vs : List V} {ds : List PyData}, DpAll K H vs ds → DpAll K H vs.reverse ds.reverse
  | _, _, .nil => .nil
  | _, _, .cons h a => by rw [List.reverse_cons, List.reverse_cons]; exact dpa_snoc (dpa_rev a) h
theorem dpa_ints : ∀ ns : List Int, DpAll K H (ns.map V.int) (ns.map PyData.int)
  | [] => .nil
  | _ :: r => .cons (.int _) (dpa_ints r)
theorem dpa_ints_inv : ∀ {vs : List V} {ns : List Int}, DpAll K H vs (ns.map PyData.int) → vs = ns.map V.int
  | _, [], .nil => rfl
  | _, _ :: r, .cons h a => by
    cases h
    rw [List.map_cons, dpa_ints_inv a]
theorem dpa_set : ∀ {vs : List V} {ds : List PyData} {v : V} {d : PyData} (i : Nat), DpAll K H vs ds → Dp K H v d → DpAll K H (vs.set i v) (ds.set i d)
  | _, _, _, _, _, .nil, _ => by simp; exact .nil
  | _, _, _, _, 0, .cons _ a, q => .cons q a
  | _, _, _, _, i + 1, .cons h a, q => .cons h (dpa_set i a q)
end
end A
set_option Elab.async false
set_option linter.all false
set_option maxRecDepth 100000
set_option maxHeartbeats 4000000
/-! Readings, one lemma a construct. -/
namespace A
open PySem PySem.Spec PyProof.Rows L2
section
variable {σ : L2.St} {H : Hp} {D : Ends} {Q : VK} {K : PySem.W.Frag} {te ta tb tc : TE} {v x y : V} {i j : Nat}
theorem r_seq {t u : TS} (k : t { D with nx := u D } σ H) : tSeq t u D σ H := k
theorem r_asg {g : TG} (k : te σ H fun x H1 => g x σ H1 D.nx) : tAsg te g D σ H := k
theorem r_asg2 {g1 g2 : TG} (k : te σ H fun x H1 => g1 x σ H1 fun σ1 H2 => g2 x σ1 H2 D.nx) : tAsg2 te g1 g2 D σ H := k
theorem r_gname {R : L2.St → Hp → Prop} (k : R (σ.set i (some v)) H) : gName i v σ H R := k
theorem r_gtup {a : Addr} {xs : List V} {n : Nat} {t : TGs} {R : L2.St → Hp → Prop} (h : SqT K H a xs) (hl : xs.length = n) (k : t xs σ H R) : gTup K n t (.ref a) σ H R := ⟨a, xs, rfl, h, hl, k⟩
theorem r_gcons {t : TG} {u : TGs} {r : List V} {R : L2.St → Hp → Prop} (k : t v σ H fun σ' H' => u r σ' H' R) : gCons t u (v :: r) σ H R := ⟨v, r, rfl, k⟩
theorem r_gnil {R : L2.St → Hp → Prop} (k : R σ H) : gNil [] σ H R := ⟨rfl, k⟩
theorem r_ret (k : te σ H D.rt) : tRet te D σ H := k
theorem r_retN (k : D.rt .non H) : tRetN D σ H := k
theorem r_drop (k : te σ H fun _ H1 => D.nx σ H1) : tDrop te D σ H := k
theorem r_next (k : D.nx σ H) : tNext D σ H := k
theorem r_ifS {c : TT} {t u : TS} (k : c σ H fun b H1 => if b = true then t D σ H1 else u D σ H1) : tIfS c t u D σ H := k
theorem r_par {ta : TA} (k : ta σ H fun vs H1 => ∃ v w, vs = [v, w] ∧ D.nx ((σ.set i (some v)).set j (some w)) H1) : tPar i j ta D σ H := k
theorem r_par' {w : V} {R : V → V → Prop} (k : R v w) : ∃ v' w', [v, w] = [v', w'] ∧ R v' w' := ⟨v, w, rfl, k⟩
theorem r_aug {ti : TIp} (h : σ[i]? = some (some x)) (k : te σ H fun y H1 => ti x y H1 fun z H2 => D.nx (σ.set i (some z)) H2) : tAug i te ti D σ H := ⟨x, h, k⟩
theorem r_ipI {f : Int → Int → Int} {a b : Int} (k : Q (.int (f a b)) H) : ipI f (.int a) (.int b) H Q := ⟨a, b, rfl, rfl, k⟩
theorem r_var (h : σ[i]? = some (some v)) (k : Q v H) : tVar i σ H Q := ⟨v, h, k⟩
theorem r_c (k : Q v H) : tC v σ H Q := k
theorem r_op {r : R2} (k : ta σ H fun x H1 => tb σ H1 fun y H2 => r x y H2 Q) : tOp r ta tb σ H Q := k
theorem r_un {r : V → Hp → VK → Prop} (k : ta σ H fun x H1 => r x H1 Q) : tUn r ta σ H Q := k
theorem r_cb {r : List V → Hp → VK → Prop} {t : TA} (k : t σ H fun vs H1 => r vs H1 Q) : tCB r t σ H Q := k
theorem r_call {sp : Sp} {dvs : List V} {E : XK} {t : TA} (k : t σ H fun vs H1 => sp (vs ++ dvs) H1 Q E) : tCall sp dvs E t σ H Q := k
theorem r_cons {tr : TA} {R : List V → Hp → Prop} (k : ta σ H fun x H1 => tr σ H1 fun xs H2 => R (x :: xs) H2) : tCons ta tr σ H R := k
theorem r_nil {R : List V → Hp → Prop} (k : R [] H) : tNil σ H R := k
theorem r_tup {t : TA} (k : t σ H fun xs H1 => xs.length ≤ sizeLine ∧ ∀ p, H1 p = none → Q (.ref p) (upd H1 p (.tup xs))) : tTup t σ H Q := k
theorem r_lst {t : TA} (k : t σ H fun xs H1 => xs.length ≤ sizeLine ∧ ∀ p, H1 p = none → Q (.ref p) (upd H1 p (.lst xs))) : tLst t σ H Q := k
theorem r_if {c : TT} (k : c σ H fun b H1 => if b = true then ta σ H1 Q else tb σ H1 Q) : tIf c ta tb σ H Q := k
theorem r_B {R : Bool → Hp → Prop} (k : te σ H fun x H1 => ∃ c, x = .bl c ∧ R c H1) : tB te σ H R := k
theorem r_test {R : Bool → Hp → Prop} (k : te σ H fun x H1 => ∃ c, x = .bl c ∧ R c H1) : tTest te σ H R := k
theorem r_bl {b : Bool} {R : Bool → Prop} (k : R b) : ∃ c, V.bl b = .bl c ∧ R c := ⟨b, rfl, k⟩
theorem r_not {c : TT} {R : Bool → Hp → Prop} (k : c σ H fun b H1 => R (!b) H1) : tNot c σ H R := k
theorem r_and {t u : TT} {R : Bool → Hp → Prop} (k : t σ H fun c H1 => if c = true then u σ H1 R else R false H1) : tAnd t u σ H R := k
theorem r_or {t u : TT} {R : Bool → Hp → Prop} (k : t σ H fun c H1 => if c = true then R true H1 else u σ H1 R) : tOr t u σ H R := k
theorem r_andV (k : ta σ H fun x H1 => ∃ c, x = .bl c ∧ if c = true then tb σ H1 Q else Q (.bl false) H1) : tAndV ta tb σ H Q := k
theorem r_orV (k : ta σ H fun x H1 => ∃ c, x = .bl c ∧ if c = true then Q (.bl true) H1 else tb σ H1 Q) : tOrV ta tb σ H Q := k
theorem r_notV (k : ta σ H fun x H1 => ∃ c, x = .bl c ∧ Q (.bl (!c)) H1) : tNotV ta σ H Q := k
theorem r_chain {r r' : R2} (k : ta σ H fun x H1 => tb σ H1 fun y H2 => r x y H2 fun z H3 => ∃ k, z = .bl k ∧ (if k = true then tc σ H3 fun w' H4 => r' y w' H4 Q else Q (.bl false) H3)) : tChain r r' ta tb tc σ H Q := k
theorem r_bm {T : String} {r : V → List V → Hp → VK → Prop} {t : TA} (k : te σ H fun x H1 => tyV K T x H1 ∧ t σ H1 fun xs H2 => r x xs H2 Q) : tBM K T r te t σ H Q := k
theorem r_bm0 {T : String} {r : V → List V → Hp → VK → Prop} (k : te σ H fun x H1 => tyV K T x H1 ∧ r x [] H1 Q) : tBM0 K T r te σ H Q := k
theorem r_sl {r : V → Option Int → Option Int → Hp → VK → Prop} {tl th : TO} (k : te σ H fun x H1 => tl σ H1 fun l H2 => th σ H2 fun u H3 => r x l u H3 Q) : tSl r te tl th σ H Q := k
theorem r_nopart {R : Option Int → Hp → Prop} (k : R none H) : tNoPart σ H R := k
theorem r_part {R : Option Int → Hp → Prop} (k : te σ H fun x H1 => ∃ i, x = .int i ∧ R (some i) H1) : tPart te σ H R := k
theorem r_int {a : Int} {R : Int → Prop} (k : R a) : ∃ i, V.int a = .int i ∧ R i := ⟨a, rfl, k⟩
theorem r_dget {td ty : TE} (k : td σ H fun x H1 => ty σ H1 fun y H2 => ∃ a v, x = .ref a ∧ DGet H2 a y (some v) ∧ Q v H2) : tDGet td ty σ H Q := k
theorem r_dput {td ty tv : TE} (k : tv σ H fun v H1 => td σ H1 fun x H2 => ty σ H2 fun y H3 => ∃ a H4, x = .ref a ∧ DPut H3 a y v H4 ∧ D.nx σ H4) : sDPut td ty tv D σ H := k
theorem r_then {kk : V → Hp → VK → Prop} (k : ta σ H fun x H1 => kk x H1 Q) : tThen ta kk σ H Q := k
/-! by values -/
theorem v_I0 {g : Int → Int → V} {a b : Int} (k : Q (g a b) H) : rI0 g (.int a) (.int b) H Q := ⟨a, b, rfl, rfl, k⟩
theorem v_I {C : Int → Int → Prop} {g : Int → Int → V} {a b : Int} (h : C a b) (k : Q (g a b) H) : rI C g (.int a) (.int b) H Q := ⟨a, b, rfl, rfl, h, k⟩
theorem v_U {g : Int → V} {a : Int} (k : Q (g a) H) : rU g (.int a) H Q := ⟨a, rfl, k⟩
theorem v_eq (h : scal x y = true) (k : Q (.bl (decide (x = y))) H) : rEq x y H Q := ⟨h, k⟩
theorem v_isN (k : Q (.bl (decide (x = .non))) H) : V.non = .non ∧ Q (.bl (decide (x = .non))) H := ⟨rfl, k⟩
theorem v_notN (k : Q (.bl (!decide (x = .non))) H) : V.non = .non ∧ Q (.bl (!decide (x = .non))) H := ⟨rfl, k⟩
theorem v_par {R : V → V → Prop} {v w : V} (k : R v w) : ∃ a b, [v, w] = [a, b] ∧ R a b := ⟨v, w, rfl, k⟩
theorem v_ixL {p : Addr} {xs : List V} {i : Int} (h : SqL K H p xs) (e : atI xs i = some v) (k : Q v H) : rIx K (.ref p) (.int i) H Q := .inl ⟨p, xs, i, v, rfl, rfl, h, e, k⟩
theorem v_ixT {p : Addr} {xs : List V} {i : Int} (h : SqT K H p xs) (e : atI xs i = some v) (k : Q v H) : rIx K (.ref p) (.int i) H Q := .inr (.inl ⟨p, xs, i, v, rfl, rfl, h, e, k⟩)
theorem v_cat {a b : Addr} {xs ys : List V} (h : H a = some (.lst xs)) (h' : H b = some (.lst ys)) (hl : xs.length + ys.length ≤ sizeLine) (k : ∀ p, H p = none → Q (.ref p) (upd H p (.lst (xs ++ ys)))) : rCat (.ref a) (.ref b) H Q := ⟨a, b, xs, ys, rfl, rfl, h, h', hl, k⟩
theorem v_app {l : Addr} {xs : List V} (h : H l = some (.lst xs)) (hl : xs.length < sizeLine) (k : Q .non (upd H l (.lst (xs ++ [v])))) : rAppend (.ref l) [v] H Q := ⟨l, xs, v, rfl, rfl, h, hl, k⟩
theorem v_eqD {d e : PyData} (h1 : Dp K H x d) (h2 : Dp K H y e) (s1 : SeqAt.shaped d = true) (s2 : SeqAt.shaped e = true) (k : Q (.bl (PyData.eqv d e)) H) : rEqD K x y H Q := ⟨d, e, h1, h2, s1, s2, k⟩
theorem v_neD {d e : PyData} (h1 : Dp K H x d) (h2 : Dp K H y e) (s1 : SeqAt.shaped d = true) (s2 : SeqAt.shaped e = true) (k : Q (.bl (!PyData.eqv d e)) H) : rNeD K x y H Q := ⟨d, e, h1, h2, s1, s2, k⟩
theorem v_eqI {a b : Int} (k : Q (.bl (decide (a = b))) H) : rEqD K (.int a) (.int b) H Q :=
  ⟨.int a, .int b, .int a, .int b, by rfl, by rfl, by rw [show PyData.eqv (.int a) (.int b) = (a == b) from rfl, Bool.beq_eq_decide_eq]; exact k⟩
theorem v_neI {a b : Int} (k : Q (.bl (!decide (a = b))) H) : rNeD K (.int a) (.int b) H Q :=
  ⟨.int a, .int b, .int a, .int b, by rfl, by rfl, by rw [show PyData.eqv (.int a) (.int b) = (a == b) from rfl, Bool.beq_eq_decide_eq]; exact k⟩
theorem ty_l {a : Addr} {xs : List V} (h : H a = some (.lst xs)) : tyV K "list" (.ref a) H := .inl ⟨rfl, _, SqL.of h⟩
end
theorem small {n : Nat} (h : n ≤ 100000) : n ≤ sizeLine := Nat.le_trans h (by decide)
theorem smaller {n : Nat} (h : n < 100000) : n < sizeLine := Nat.lt_of_lt_of_le h (by decide)
end A
set_option Elab.async false
set_option linter.all false
set_option maxRecDepth 100000
set_option maxHeartbeats 4000000
/-! Rules that cover several kinds at once; enumerate over tuples. -/
namespace A
open PySem PySem.Spec PyProof.Rows L2
theorem bt_int : bootBuiltins "int" = some (.type "int") := by decide +kernel
theorem bt_bool : bootBuiltins "bool" = some (.type "bool") := by decide +kernel
theorem bt_str : bootBuiltins "str" = some (.type "str") := by decide +kernel
theorem bt_tuple : bootBuiltins "tuple" = some (.type "tuple") := by decide +kernel
theorem bt_list : bootBuiltins "list" = some (.type "list") := by decide +kernel
theorem bt_dict : bootBuiltins "dict" = some (.type "dict") := by decide +kernel
theorem bb_len : bootBuiltins "len" = some (.builtin "len") := by decide +kernel
theorem bb_abs : bootBuiltins "abs" = some (.builtin "abs") := by decide +kernel
theorem bb_isinstance : bootBuiltins "isinstance" = some (.builtin "isinstance") := by decide +kernel
theorem bb_all : bootBuiltins "all" = some (.builtin "all") := by decide +kernel
theorem bb_any : bootBuiltins "any" = some (.builtin "any") := by decide +kernel
theorem bb_sum : bootBuiltins "sum" = some (.builtin "sum") := by decide +kernel
theorem bb_sorted : bootBuiltins "sorted" = some (.builtin "sorted") := by decide +kernel
theorem bb_repr : bootBuiltins "repr" = some (.builtin "repr") := by decide +kernel
theorem bb_max : bootBuiltins "max" = some (.builtin "max") := by decide +kernel
theorem bb_min : bootBuiltins "min" = some (.builtin "min") := by decide +kernel
theorem hu65 {A : Around} {k : Nat} (hr : Room k A) : A.units + 65 < cLine := by have := hr.un; omega
section
variable {X : Cx}
def rAddS : R2 := fun x y H Q => ∃ i j, x = .str i ∧ y = .str j ∧ i.length + j.length ≤ sizeLine ∧ Q (.str (i ++ j)) H
/-- + of ints, lists, tuples, texts -/
def rAddU (K : PySem.W.Frag) : R2 := fun x y H Q => rI0 (fun i j => .int (i + j)) x y H Q ∨ (rCat x y H Q ∨ (rCatA K x y H Q ∨ rAddS x y H Q))
theorem op_addU : OpR X (binaryOp .Add) (rAddU X.K) := OpR.or op_add (OpR.or op_cat (OpR.or op_catA op_add_str))
theorem tuple_mulOne (l : Addr) (items : Array Value) (n : Nat) (dd : Option Addr) (sl : Array (Option Value)) (u : Tok) :
    Meets (Builtin.«tuple.__mul__» ⟨[.ref l, .int 1 u], []⟩) (fun _ R s => s.heap.get? l = some { cls := .type "tuple", dict := dd, data := .seq items n, slots := sl } ∧
      R (.ok (.ret (Value.ref l))) s) :=
  .of_wp fun prog w A R s h => by
    obtain ⟨hp, g, d, tk, os⟩ := s
    obtain ⟨hl, h⟩ := h
    have f1 := AutoSeq1.idx_int
    wp_walk using AutoSeq1.wpAny_loadPart' hl
    have c0 : (decide ((1 : Int) < -(2 ^ 63)) || decide ((1 : Int) ≥ 2 ^ 63)) = false := by decide
    have c1 : (items.isEmpty || (1 : Int) == 1) = true := by simp
    repeat (first
      | (refine wpAny_ite_false (decide_eq_false (by rw [c0]; exact Bool.false_ne_true)) ?_; wp_walk using AutoSeq1.wpAny_loadPart' hl)
      | (refine wpAny_ite_true (decide_eq_true (by rw [c1])) ?_; wp_walk using AutoSeq1.wpAny_loadPart' hl))
    exact ⟨_, rfl, h⟩
/-- a tuple once -/
def rRepOne (K : PySem.W.Frag) : R2 := fun x y H Q => ∃ l xs, x = .ref l ∧ y = .int 1 ∧ SqT K H l xs ∧ Q (.ref l) H
theorem op_repOne : OpR X (binaryOp .Mult) (rRepOne X.K) := by
  intro pins s σ H x y v u Q I rx ry h
  obtain ⟨l, xs, rfl, rfl, hT, q⟩ := h
  cases rx
  obtain ⟨t, rfl⟩ := ry
  obtain ⟨its, r, ⟨⟨cls, dd, data, sl⟩, ho, hc, n, hd⟩, hs⟩ := I.tuple hT
  simp only at hc hd
  subst hc hd
  refine wpAny_binaryOp_repeat_ref (T := "tuple") (U := "int") (by decide) ⟨_, ho, rfl⟩ (fun s' => typeIs_int s' 1 t) noFill_tuple_mul F.fills_int_mul F.slot_int_rmul repeat_tuple F.slot_int_index.lookup
    (call_meets F.slot_int_rmul (typeIs_int s 1 t) F.entry_int_rmul (F.args_int_rmul_2 _ _) (int_rmul_tuple 1 t l its.toArray n dd sl)
      ⟨ho, rfl, ⟨_, ho, rfl⟩, call_meets F.slot_tuple_mul ⟨_, ho, rfl⟩ F.entry_tuple_mul (F.args_tuple_mul_2 _ _) (tuple_mulOne l its.toArray n dd sl t) ⟨ho, ?_⟩⟩)
  exact ⟨.ref l, H, I, rfl, q⟩
/-- * of ints, lists, tuples -/
def rMulU (K : PySem.W.Frag) : R2 := fun x y H Q => rI CMul (fun i j => .int (i * j)) x y H Q ∨ (rRep x y H Q ∨ (rRepT K x y H Q ∨ rRepOne K x y H Q))
theorem op_mulU : OpR X (binaryOp .Mult) (rMulU X.K) := OpR.or op_mul (OpR.or op_rep (OpR.or op_repT op_repOne))
def rSlU (K : PySem.W.Frag) : V → Option Int → Option Int → Hp → VK → Prop := fun x lo hi H Q => rSlL K x lo hi H Q ∨ rSlA K x lo hi H Q
theorem sl_U : SlR X (rSlU X.K) := SlR.or sl_list sl_tupA
/-- a list or a tuple walked -/
def iSeq (K : PySem.W.Frag) (tl : TE) : TI := fun σ H R => tl σ H fun x H1 => ∃ a, x = .ref a ∧ (((∃ xs, SqL K H1 a xs) ∧ R (Itl K a) H1) ∨ ((∃ xs, SqT K H1 a xs) ∧ R (Itt K a) H1))
theorem pi_seq {tg l : Expr} {tl : TE} (hl : PE X l tl) : PI X tg l (iSeq X.K tl) := by
  refine ⟨fun pins s σ H R I h => ?_⟩
  refine thn (hl.run pins s σ H _ I h) fun v s1 ⟨x, H1, I1, r1, q1⟩ => ?_
  obtain ⟨a, e, q⟩ := q1
  subst e
  cases r1
  rcases q with ⟨⟨xs, hq⟩, q⟩ | ⟨⟨xs, hq⟩, q⟩
  · obtain ⟨its, rv, p, hz⟩ := I1.list hq
    refine wpAny_pyIter_list p.isList ?_
    refine ⟨s1.heap.objs.size, [s1.heap.objs.size], _, _, H1, rfl, I1.kept (t' := s1.toks) fun b o e => Heap.get?_push_of_some _ e, turn_list a _, ⟨_, Heap.get?_push_size _ rfl, rfl, rfl⟩, fun b hb => ?_, q⟩
    have e : b = s1.heap.objs.size := by simpa using hb
    subst e
    exact I1.fpOk (Nat.le_refl _) (I1.hok.fresh (Nat.le_refl _))
  · obtain ⟨its, rv, p, hz⟩ := I1.tuple hq
    refine wpAny_pyIter_tuple (show s1.heap.IsTuple a its.toArray from p) ?_
    refine ⟨s1.heap.objs.size, [s1.heap.objs.size], _, _, H1, rfl, I1.kept (t' := s1.toks) fun b o e => Heap.get?_push_of_some _ e, turn_tuple a _, ⟨_, Heap.get?_push_size _ rfl, rfl, rfl⟩, fun b hb => ?_, q⟩
    have e : b = s1.heap.objs.size := by simpa using hb
    subst e
    exact I1.fpOk (Nat.le_refl _) (I1.hok.fresh (Nat.le_refl _))
end
/-! ### enumerate(tuple) -/
set_option maxHeartbeats 1000000 in
theorem meets_enumerate_newT (l : Addr) (items : Array Value) :
    Meets (Builtin.«enumerate.__new__» ⟨[.type "enumerate", .ref l], []⟩) (fun _ R s => s.heap.IsTuple l items ∧
      R (.ok (.ret (.ref (s.heap.push { cls := .type "tuple_iterator", data := .fields #[.ref l, .int 0 0] }).objs.size)))
        { s with heap := (s.heap.push { cls := .type "tuple_iterator", data := .fields #[.ref l, .int 0 0] }).push { cls := .type "enumerate", data := .fields #[.none, .bool false, .ref s.heap.objs.size, rawInt 0, .none, .none] } }) :=
  .of_wp fun prog w A R s h => by
    obtain ⟨hp, g, d, tk, os⟩ := s; obtain ⟨h1, h⟩ := h
    have hsub := sub_enumerate
    have q1 : ∀ {A' : Around} {E : Value → Shared → Prop} {Q : Value → Shared → Prop}, Q (.ref hp.objs.size) ⟨hp.push { cls := .type "tuple_iterator", data := .fields #[.ref l, .int 0 0] }, g, d, tk, os⟩ → wpAny (model prog w) A' (pyIter (.ref l)) Q E ⟨hp, g, d, tk, os⟩ :=
      fun q => wpAny_pyIter_tuple h1 q
    wp_walk using q1
    refine wpAny_stack_any fun st => wpAny_pure ?_
    split
    · rename_i c _ _ _ _ _
      cases (c == Value.type "enumerate")
      · wp_walk using q1
        exact ⟨_, rfl, h⟩
      · wp_walk using q1
        exact ⟨_, rfl, h⟩
    · wp_walk using q1
      exact ⟨_, rfl, h⟩
section
variable {prog : Program} {w : World} {A : Around} {E : Value → Shared → Prop} {s : Shared}
theorem call_enumerate_tuple {l : Addr} {items : Array Value} {Q : Value → Shared → Prop} (hL : s.heap.IsTuple l items)
    (h : ∀ h', IsEnum h' (s.heap.objs.size + 1) s.heap.objs.size 0 .none → h'.IsTupleIter s.heap.objs.size l 0 → h'.objs.size = s.heap.objs.size + 2 →
      (∀ b o, s.heap.get? b = some o → h'.get? b = some o) → Q (.ref (s.heap.objs.size + 1)) { s with heap := h' }) :
    wpAny (model prog w) A (call (.type "enumerate") [.ref l]) Q E s := by
  refine callType_new F.called_enumerate (by decide) (F.typeCall_enumerate_1 _) (F.newCall_enumerate_1 _) (fun obj => F.args_object_init_2 obj _) F.entry_enumerate_new
    (meets_enumerate_newT l items) ⟨hL, ?_⟩
  have hz : (s.heap.push { cls := .type "tuple_iterator", data := .fields #[.ref l, .int 0 0] }).objs.size = s.heap.objs.size + 1 := Heap.size_push ..
  show _ ∧ _
  rw [hz]
  have he : IsEnum ((s.heap.push { cls := .type "tuple_iterator", data := .fields #[.ref l, .int 0 0] }).push
      { cls := .type "enumerate", data := .fields #[.none, .bool false, .ref s.heap.objs.size, rawInt 0, .none, .none] }) (s.heap.objs.size + 1) s.heap.objs.size 0 .none := by
    have := Heap.get?_push_size (s.heap.push { cls := .type "tuple_iterator", data := .fields #[.ref l, .int 0 0] })
      (o := { cls := .type "enumerate", data := .fields #[.none, .bool false, .ref s.heap.objs.size, rawInt 0, .none, .none] }) rfl
    rw [hz] at this; exact this
  refine ⟨⟨_, he, rfl⟩, h _ he ⟨_, Heap.get?_push_of_some _ (Heap.get?_push_size _ rfl), rfl, rfl⟩ (by rw [Heap.size_push, hz]) fun b o x => Heap.get?_push_of_some _ (Heap.get?_push_of_some _ x)⟩
end
theorem wpAny_pyNext_enum_endT {prog : Program} {w : World} {A : Around} {E : Value → Shared → Prop} {s : Shared} {e it l : Addr} {i : Nat} {items : Array Value} {old : Value} {Q : Option Value → Shared → Prop} (hh : A.handled = none)
    (he : IsEnum s.heap e it i old) (hit : s.heap.IsTupleIter it l i) (hl : s.heap.IsTuple l items) (hx : items[i]? = none)
    (hQ : ∀ h', Heap.ExtBut it s.heap h' → Q none { s with heap := h' }) : wpAny (model prog w) A (pyNext (.ref e)) Q E s := by
  have hT : s.TypeIs (.ref e) "enumerate" := ⟨_, he, rfl⟩
  unfold pyNext
  refine wpAny_bind (wpAny_attempt (wpAny_callSpecial?_slot (name := Str.ofString "__next__") hT F.slot_enumerate_next
    (wpAny_call_entry F.slot_enumerate_next hT F.entry_enumerate_next ?_ (F.args_enumerate_next_1 _))))
  show wpAny _ _ (field (.ref e) 2 >>= _) _ _ _
  refine wpAny_bind (wpAny_field he rfl (x := .ref it) rfl ?_)
  refine wpAny_bind (wpAny_nextOf_tuple_end (show A.in1.handled = none from hh) hit hl hx fun h' x he' hx' => ?_)
  obtain ⟨o, ho, hc⟩ := hx'
  refine wpAny_bind (wpAny_isInstance (T := "StopIteration") (b := true) ⟨o, ho, hc⟩ isSubtype_stop ?_)
  exact wpAny_pure (hQ _ he')
/-- the tuple at a, each item in a new pair -/
def IteT (K : PySem.W.Frag) (a : Addr) : It :=
  ⟨fun i H => ∃ (xs : List V) (x : V), SqT K H a xs ∧ xs[i]? = some x, fun i H v H' => ∃ T x, v = .ref T ∧ H T = none ∧ H' = upd H T (.tup [.int (i : Nat), x]) ∧ ∀ xs, SqT K H a xs → xs[i]? = some x, fun i H => ∃ xs : List V, SqT K H a xs ∧ xs.length ≤ i⟩
theorem turn_enumT {P : Program} {w : World} {K : PySem.W.Frag} {elts : List Expr} {kk : Nat} {tpos : Pos} (a e it : Addr) (hai : a ≠ it) (hea : e ≠ a) :
    Turn P w K (.Tuple elts kk tpos) (IteT K a) [e, it] e (fun i h => (∃ old, IsEnum h e it ((i : Nat) : Int) old) ∧ h.IsTupleIter it a i ∧ e ≠ it) where
  mem := by simp
  obj := fun i h st b hb => by
    obtain ⟨⟨old, he⟩, ⟨o, ho, hc, hd⟩, _⟩ := st
    have e' : b = e ∨ b = it := by simpa using hb
    rcases e' with z | z
    · rw [z]; exact ⟨_, he, fun v q => nomatch q⟩
    · rw [z]; exact ⟨o, ho, fun v q => by rw [hd] at q; cases q⟩
  keep := fun i h h' st k => let ⟨⟨old, he⟩, hi, hne⟩ := st; ⟨⟨old, k e (by simp) _ he⟩, hi.at fun o q => k it (by simp) o q, hne⟩
  item := by
    intro X hP hw hK hc i pins s σ H E I hf st hg
    subst hP hw hK
    obtain ⟨⟨old, he⟩, hit, hne⟩ := st
    obtain ⟨xs, x, hq, hx⟩ := hg
    obtain ⟨its, rv, p, hz⟩ := I.tuple hq
    obtain ⟨u, hu, ru⟩ := rv.get hx
    have hel : e < s.heap.objs.size := Heap.lt_size he
    have hil : it < s.heap.objs.size := by obtain ⟨_, q, _⟩ := hit; exact Heap.lt_size q
    have hi : i < its.toArray.size := by
      have := (List.getElem?_eq_some_iff.mp hu).1
      simpa using this
    refine wpAny_pyNext_enum_itemC (Draws.tuple (A := X.A.in1) (show X.A.in1.handled = none from I.ok.hd hc) it a hai its.toArray) he ⟨hit, p⟩ hi hne (by simp [hne, hea]) fun u' h' tk hu' ho hs' hT hsz hk => ?_
    obtain ⟨hit', hp'⟩ := hs'
    have eu : u' = u := by
      have q1 : its.toArray[i]? = some u := by simpa using hu
      rw [q1] at hu'; exact (Option.some.inj hu').symm
    subst eu
    refine ⟨_, rfl, wpAny_letOwnedTupleGo_enum (s := { s with heap := h', toks := tk + 1 }) ho fun h'' he' sb => ?_⟩
    have hT2 : h''.get? s.heap.objs.size = some { cls := .type "tuple", data := .seq #[.int i tk, u'] } := (sb.2 _ (Nat.ne_of_gt hel)).trans hT
    have new : ObjOk X.prog X.w (upd H s.heap.objs.size (.tup [.int (i : Nat), x])) h'' s.heap.objs.size (.tup [.int (i : Nat), x]) :=
      ⟨by show 2 ≤ sizeLine; decide, [.int i tk, u'], .cons ⟨_, rfl⟩ (.cons ru .nil), ⟨_, hT2, rfl, _, rfl⟩⟩
    have I1 : Inv X pins σ (upd H s.heap.objs.size (.tup [.int (i : Nat), x])) { s with heap := h'', toks := tk + 1 } :=
      I.turnedNew (ch := [e, it]) (fun b ob hb q => (sb.2 b (fun z => hb (by simp [z]))).trans (hk b ob (fun z => hb (by simp [z])) (fun z => hb (by simp [z])) q)) hf (Nat.le_refl _) new
    refine ⟨.ref s.heap.objs.size, _, I1, rfl, ⟨_, x, rfl, I.hok.fresh (Nat.le_refl _), rfl, fun ys hy => by rw [I.tuple_inj hy hq]; exact hx⟩, ⟨⟨u', ?_⟩, hit'.at fun o q => (sb.2 it (Ne.symm hne)).trans q, hne⟩, fun b hb => ?_⟩
    · have e1 : ((i + 1 : Nat) : Int) = (i : Int) + 1 := by omega
      rw [e1]; exact he'
    · have hb' : b < s.heap.objs.size := by
        have e' : b = e ∨ b = it := by simpa using hb
        rcases e' with z | z
        · rw [z]; exact hel
        · rw [z]; exact hil
      rw [upd_ne (Nat.ne_of_lt hb')]
      exact (hf b hb).1
  done := by
    intro X hP hw hK hc i pins s σ H E I hf st hg
    subst hP hw hK
    obtain ⟨⟨old, he⟩, hit, hne⟩ := st
    obtain ⟨xs, hq, hx⟩ := hg
    obtain ⟨its, rv, p, hz⟩ := I.tuple hq
    obtain ⟨f0, f1, f2, f3, f4, f5⟩ := hf it (by simp)
    have hl := rv.length
    refine wpAny_pyNext_enum_endT (I.ok.hd hc) he hit p (by simp; omega) fun h' eb => ⟨rfl, I.turned (t' := s.toks) (fun b o hb q => eb b o hb q) f0 f1 f3 f4 f5⟩
  self := fun A i s Q E st h => let ⟨⟨_, he⟩, _⟩ := st; wpAny_pyIter_enum he h
/-- enumerate of a list or a tuple -/
def iEnumU (K : PySem.W.Frag) (ta : TA) : TI := fun σ H R => ta σ H fun vs H1 => ∃ a, vs = [.ref a] ∧ (((∃ xs, SqL K H1 a xs) ∧ R (Ite K a) H1) ∨ ((∃ xs, SqT K H1 a xs) ∧ R (IteT K a) H1))
theorem pi_enumU {X : Cx} {e : Expr} {ta : TA} {p pos tpos : Pos} {elts : List Expr} {kk : Nat} (hg : Gl X "enumerate") (hm : X.mg "enumerate" = none) (ha : PA X [e] ta) (hs : starEach [e] X.env = [(false, eval e X.env)] := by rfl) :
    PI X (.Tuple elts kk tpos) (.Call (.Name "enumerate" p) [e] [] pos) (iEnumU X.K ta) := by
  refine ⟨fun pins s σ H R I h => ?_⟩
  refine Call_ (ld_blt I hg hm boot_enumerate (PyProof.Rows.callWith_type1 (thn (ha.run pos pins s σ H _ I h) fun us s1 ⟨vs, H1, I1, r1, q1⟩ => ?_) hs rfl))
  obtain ⟨a, ex, q⟩ := q1
  subst ex
  cases r1 with
  | cons r rr =>
    cases rr
    cases r
    have fresh : ∀ b ∈ [s1.heap.objs.size + 1, s1.heap.objs.size], FpOk X pins H1 b := fun b hb => by
      have e' : b = s1.heap.objs.size + 1 ∨ b = s1.heap.objs.size := by simpa using hb
      have hle : s1.heap.objs.size ≤ b := by
        rcases e' with z | z
        · rw [z]; exact Nat.le_add_right _ _
        · rw [z]; exact Nat.le_refl _
      exact I1.fpOk hle (I1.hok.fresh hle)
    rcases q with ⟨⟨xs, hq⟩, q⟩ | ⟨⟨xs, hq⟩, q⟩
    · obtain ⟨its, rv, p', hz⟩ := I1.list hq
      refine call_enumerate_list p'.isList fun h' he hit hsz hk => wpAny_pyIter_enum he ?_
      have I2 : Inv X pins σ H1 { s1 with heap := h' } := I1.kept (t' := s1.toks) hk
      exact ⟨s1.heap.objs.size + 1, [s1.heap.objs.size + 1, s1.heap.objs.size], _, _, H1, rfl, I2, turn_enum a (s1.heap.objs.size + 1) s1.heap.objs.size, ⟨⟨.none, he⟩, hit, Nat.succ_ne_self _⟩, fresh, q⟩
    · obtain ⟨its, rv, p', hz⟩ := I1.tuple hq
      have hlt : a < s1.heap.objs.size := by obtain ⟨o, ho, _⟩ := id p'; exact Heap.lt_size ho
      refine call_enumerate_tuple (show s1.heap.IsTuple a its.toArray from p') fun h' he hit hsz hk => wpAny_pyIter_enum he ?_
      have I2 : Inv X pins σ H1 { s1 with heap := h' } := I1.kept (t' := s1.toks) hk
      exact ⟨s1.heap.objs.size + 1, [s1.heap.objs.size + 1, s1.heap.objs.size], _, _, H1, rfl, I2, turn_enumT a (s1.heap.objs.size + 1) s1.heap.objs.size (Nat.ne_of_lt hlt) (Nat.ne_of_gt (Nat.lt_succ_of_lt hlt)), ⟨⟨.none, he⟩, hit, Nat.succ_ne_self _⟩, fresh, q⟩
end A
set_option Elab.async false
set_option linter.all false
set_option maxRecDepth 100000
set_option maxHeartbeats 4000000
set_option autoImplicit false
/-! Calls by bundles, keywords alone; an exception that an except clause hands on. -/
namespace A
open PySem PySem.Spec PyProof.Rows L2
/-- a def that may be called by its name; nothing leaves it -/
structure Cl (P : Program) (w : World) (K : PySem.W.Frag) (mg : Str → Option Value) (base : Heap) (CX : CXT) (k : Nat) (x : Str) (st : Stmt) (ps : List Str) (sp : Sp) : Prop where
  ex : ∃ (f : Addr) (fd : FuncData), FnOk P w K mg base CX k f fd ps sp ∧ mg x = some (.ref f) ∧ FunD K x x (defArgs st) (defBody st) (defScope st) [] [] f fd ∧ Binds K fd ps []
/-- a def of the text as the head has it -/
def Df (K : PySem.W.Frag) (mg : Str → Option Value) (x : Str) (st : Stmt) : Prop := ∃ (f : Addr) (fd : FuncData), FunD K x x (defArgs st) (defBody st) (defScope st) [] [] f fd ∧ mg x = some (.ref f)
section
variable {P : Program} {w : World} {K : PySem.W.Frag} {mg : Str → Option Value} {base : Heap}
theorem mk_cl {x : Str} {st : Stmt} {N ps : List Str} {k : Nat} {sp : Sp} (F : Df K mg x st) (S : FnScope N ps (defScope st)) (len : ∀ vs H Q E, sp vs H Q E → vs.length = ps.length)
    (hb : ∀ (kV doc pm : Value) (an : Option Addr) (cdv ct : Value) (us : List Value), us.length = ps.length → bindArgs (PySem.W.fnOf x x (defArgs st) (defBody st) (defScope st) .none kV doc pm an cdv ct) ⟨us, []⟩ = pure (ps.zip us))
    (hbody : ∀ (f : Addr) (cdv : Value) (A : Around) (outer : List Env) (s : Shared) (H : Hp) (vs : List V) (Q : VK) (E : XK), Room k (A.deeper (envOfC x (defScope st) s.heap.objs.size f cdv)) → sp vs H Q E →
      ∃ t, PSs (cxOf CX0 P w K mg base N x (defScope st) f cdv A outer s H E).nox (defBody st) t ∧ t { nx := fun _ H' => Q .non H', rt := Q } (start N vs) H) : Cl P w K mg base CX0 (k + 1) x st ps sp := by
  obtain ⟨f, fd, F, hm⟩ := F
  refine ⟨f, fd, F.ok S len fun cdv A outer s H vs Q E hr hsp => ?_, hm, F, F.bindsN hb⟩
  obtain ⟨t, h, q⟩ := hbody f cdv A outer s H vs Q E hr hsp
  exact ⟨t, h.nox, q⟩
/-- .. that may raise -/
theorem mk_clX {x : Str} {st : Stmt} {N ps : List Str} {k : Nat} {sp : Sp} (F : Df K mg x st) (S : FnScope N ps (defScope st)) (len : ∀ vs H Q E, sp vs H Q E → vs.length = ps.length)
    (hb : ∀ (kV doc pm : Value) (an : Option Addr) (cdv ct : Value) (us : List Value), us.length = ps.length → bindArgs (PySem.W.fnOf x x (defArgs st) (defBody st) (defScope st) .none kV doc pm an cdv ct) ⟨us, []⟩ = pure (ps.zip us))
    (hbody : ∀ (f : Addr) (cdv : Value) (A : Around) (outer : List Env) (s : Shared) (H : Hp) (vs : List V) (Q : VK) (E : XK), Room k (A.deeper (envOfC x (defScope st) s.heap.objs.size f cdv)) → sp vs H Q E →
      ∃ t, PSs (cxOf (L2.CX P w) P w K mg base N x (defScope st) f cdv A outer s H E) (defBody st) t ∧ t { nx := fun _ H' => Q .non H', rt := Q } (start N vs) H) : Cl P w K mg base (L2.CX P w) (k + 1) x st ps sp := by
  obtain ⟨f, fd, F, hm⟩ := F
  exact ⟨f, fd, F.ok S len fun cdv A outer s H vs Q E hr hsp => hbody f cdv A outer s H vs Q E hr hsp, hm, F, F.bindsN hb⟩
theorem Cl.imp {CX : CXT} {k : Nat} {x : Str} {st : Stmt} {ps : List Str} {sp sp' : Sp} (c : Cl P w K mg base CX k x st ps sp) (h : ∀ vs H Q E, sp' vs H Q E → sp vs H Q E) : Cl P w K mg base CX k x st ps sp' := by
  obtain ⟨f, fd, F, r⟩ := c.ex
  exact ⟨f, fd, F.imp h, r⟩
end
section
variable {X : Cx} {CX : CXT} {k j : Nat} {x : Str} {st : Stmt} {ps : List Str} {sp : Sp} {E : XK} {p pos : Pos} {e : Expr} {es : List Expr} {t tk : TA} {kws : List Keyword}
theorem pe_cX (c : Cl X.prog X.w X.K X.mg X.base CX k x st ps sp) (hx : Passes CX X E) (hr : Room j X.A) (hk : k ≤ j) (hg : Gl X x) (ha : PA X (e :: es) t)
    (hdb : (x == ("__debug__" : Str)) = false := by decide) (he : starEach (e :: es) X.env = (false, eval e X.env) :: starEach es X.env := by rfl) (hpl : (backTo pos (starEach es X.env)).any (·.1) = false := by rfl) :
    PE X (.Call (.Name x p) (e :: es) [] pos) (tCall sp [] E t) := by
  obtain ⟨f, fd, F, hm, D, b⟩ := c.ex
  exact pe_call F (hr.mono hk) hg hm D.kp b .nil hx ha hdb he hpl
theorem pe_c (c : Cl X.prog X.w X.K X.mg X.base CX0 k x st ps sp) (hr : Room j X.A) (hk : k ≤ j) (hg : Gl X x) (ha : PA X (e :: es) t)
    (hdb : (x == ("__debug__" : Str)) = false := by decide) (he : starEach (e :: es) X.env = (false, eval e X.env) :: starEach es X.env := by rfl) (hpl : (backTo pos (starEach es X.env)).any (·.1) = false := by rfl) :
    PE X (.Call (.Name x p) (e :: es) [] pos) (tCall sp [] E0 t) := pe_cX c pass0 hr hk hg ha hdb he hpl
/-- the values in the parameters' order: the i-th is the (perm i)-th of the told ones -/
def pick {α : Type} (perm : List Nat) (us ws : List α) : List α := perm.filterMap fun i => (us ++ ws)[i]?
theorem pick_rel {α β : Type} {R : α → β → Prop} (perm : List Nat) {as : List α} {bs : List β} {cs : List α} {ds : List β} (h : Paired R as bs) (g : Paired R cs ds) : Paired R (pick perm as cs) (pick perm bs ds) := by
  have app : ∀ {as : List α} {bs : List β} {cs : List α} {ds : List β}, Paired R as bs → Paired R cs ds → Paired R (as ++ cs) (bs ++ ds) := by
    intro as bs cs ds h g
    induction h with
    | nil => exact g
    | cons r _ ih => exact .cons r ih
  have get : ∀ {as : List α} {bs : List β} (i : Nat), Paired R as bs → (∃ a b, as[i]? = some a ∧ bs[i]? = some b ∧ R a b) ∨ (as[i]? = none ∧ bs[i]? = none) := by
    intro as bs i h
    induction h generalizing i with
    | nil => exact .inr ⟨rfl, rfl⟩
    | cons r _ ih =>
      cases i with
      | zero => exact .inl ⟨_, _, rfl, rfl, r⟩
      | succ i => simpa using ih i
  unfold pick
  induction perm with
  | nil => exact .nil
  | cons i r ih =>
    rcases get i (app h g) with ⟨a, b, e1, e2, q⟩ | ⟨e1, e2⟩
    · rw [List.filterMap_cons_some e1, List.filterMap_cons_some e2]
      exact .cons q ih
    · rw [List.filterMap_cons_none e1, List.filterMap_cons_none e2]
      exact ih
theorem Cl.kb {P : Program} {w : World} {K : PySem.W.Frag} {mg : Str → Option Value} {base : Heap} {ks : List Str} {f : Addr} {fd : FuncData} (perm : List Nat) (D : FunD K x x (defArgs st) (defBody st) (defScope st) [] [] f fd)
    (h : ∀ (kV doc pm : Value) (an : Option Addr) (cdv ct : Value) (us ws : List Value), (pick perm us ws).length = ps.length → bindArgs (PySem.W.fnOf x x (defArgs st) (defBody st) (defScope st) .none kV doc pm an cdv ct) ⟨us, ks.zip ws⟩ = pure (ps.zip (pick perm us ws))) :
    KBinds K fd ps ks (pick perm) (pick perm) := by
  obtain ⟨oc, od, dV, kV, doc, pm, an, cdv, ct, osl, rfl, lk, hcd, hD, hK⟩ := D.ex
  rcases hD with ⟨_, rfl⟩ | ⟨e, _⟩
  · exact ⟨fun s us ws _ hl => .of_eq (h kV doc pm an cdv ct us ws hl), fun h g => pick_rel perm h g⟩
  · exact absurd rfl e
/-- f(k = v, ..), keywords alone -/
def tCallKK (sp : Sp) (perm : List Nat) (E : XK) (n : Nat) (tk : TA) : TE := fun σ H Q => tk σ H fun zs H1 => zs.length = n ∧ sp (pick perm [] zs) H1 Q E
theorem pe_cK0 {ks : List Str} {perm : List Nat} (c : Cl X.prog X.w X.K X.mg X.base CX k x st ps sp) (hx : Passes CX X E) (hr : Room j X.A) (hk : k ≤ j) (hg : Gl X x)
    (hkb : ∀ (kV doc pm : Value) (an : Option Addr) (cdv ct : Value) (ws : List Value), ws.length = ks.length → (pick perm [] ws).length = ps.length → bindArgs (PySem.W.fnOf x x (defArgs st) (defBody st) (defScope st) .none kV doc pm an cdv ct) ⟨[], ks.zip ws⟩ = pure (ps.zip (pick perm [] ws)))
    (hkw : PK X kws tk) (hall : (backToKw pos (keywordEach kws X.env)).all (·.1.isSome) = true := by rfl) (hks : (backToKw pos (keywordEach kws X.env)).filterMap (·.1) = ks := by rfl) (hdb : (x == ("__debug__" : Str)) = false := by decide)
    (hpl : ((backTo pos (starEach [] X.env)).any (·.1) || (backToKw pos (keywordEach kws X.env)).any (·.1.isNone)) = false := by rfl) :
    PE X (.Call (.Name x p) [] kws pos) (tCallKK sp perm E ks.length tk) := by
  obtain ⟨f, fd, F, hm, D, b⟩ := c.ex
  refine ⟨fun pins s σ H Q I h => ?_⟩
  refine wpAny_Call_Name_kw (ld_glob I hg hm ?_ hdb)
  refine PySem.W.callWith_KW0 (h₀ := X.base) I.ok.mod.kin D.kp hall ?_ hpl
  refine thn (hkw.run pos pins s σ H _ I h) fun ws s2 ⟨zs, H2, I2, rz, hl, q2⟩ => ⟨I2.kIn, ?_⟩
  rw [hks]
  obtain ⟨oc, od, dV, kV, doc, pm, an, cdv, ct, osl, rfl, lk, hcd, hD, hK⟩ := D.ex
  have hdV : dV = .none := by
    rcases hD with ⟨_, q⟩ | ⟨e, _⟩
    · exact q
    · exact absurd rfl e
  subst hdV
  have r2 : Vals (pick perm [] zs) (pick perm [] ws) := pick_rel perm .nil rz
  have hl2 : (pick perm [] ws).length = ps.length := by rw [← r2.length]; exact F.len _ _ _ _ q2
  refine wpAny_call (codeAny_mono (F.run X.A X.stack s2 H2 ⟨[], ks.zip ws⟩ (pick perm [] ws) (pick perm [] zs) Q E (hr.mono hk) I2.env0 (.of_eq (hkb kV doc pm an cdv ct ws (by rw [← rz.length]; exact hl) hl2)) r2 q2) fun r s' hq => ?_)
  cases r with
  | error e => exact hx pins σ H2 s2 e s' I2 hq
  | ok fl =>
    cases fl with
    | ret u => exact I2.after hq
    | next => exact False.elim hq
    | brk => exact False.elim hq
    | cont => exact False.elim hq
end
/-! ### dict.get -/
section
variable {X : Cx} {o e f : Expr} {apos cpos : Pos} {td ty tx : TE}
theorem pe_get2 (hu : X.A.units + 1 < cLine) (ho : PE X o td) (he : PE X e ty) (hf : PE X f tx)
    (h1 : attributeBase o "get" X.env (eval o X.env) = eval o X.env := by rfl)
    (h2 : ((backTo cpos (starEach [e, f] X.env)).all (fun x => !x.1) && (backToKw cpos (keywordEach [] X.env)).all (fun x => x.1.isSome) && decide (([e, f] : List Expr).length + ([] : List Keyword).length + (if ([] : List Keyword).isEmpty then 0 else 1) < 30)) = true := by rfl)
    (h3 : (apos.endLine == cpos.line) = true := by rfl) (h4 : backTo cpos (starEach [e, f] X.env) = [(false, eval e X.env), (false, eval f X.env)] := by rfl) :
    PE X (.Call (.Attribute o "get" apos) [e, f] [] cpos) (tDGet2 td ty tx) := pe_dget2 hu ho he hf ⟨h1, h2, h3, h4⟩
end
/-! ### an exception as a value -/
/-- an exception object of the class cls, its own dict d -/
def ExV (cls : Value) (d : Option Addr) (a : Addr) : HO := .ext fun h => ∃ (oe : Obj) (vs : Array Value), h.get? a = some oe ∧ Zc cls d oe ∧ oe.data = .fields vs
theorem exV_ok {P : Program} {w : World} {H : Hp} {h : Heap} {a : Addr} {cls : Value} {d : Option Addr} {oe : Obj} {vs : Array Value} (e : h.get? a = some oe) (z : Zc cls d oe) (dd : oe.data = .fields vs) : ObjOk P w H h a (ExV cls d a) :=
  ⟨⟨oe, vs, e, z, dd⟩, ⟨oe, e⟩, fun _ _ ⟨o, v, q, r⟩ k => ⟨o, v, k o q, r⟩⟩
section
variable {X : Cx} {pins : List (Addr × Obj)} {σ : L2.St} {H : Hp} {s : Shared} {a : Addr} {o : HO}
/-- an object of ours that was not tracked is tracked from now on -/
theorem Inv.track (I : Inv X pins σ H s) (hn : H a = none) (new : ObjOk X.prog X.w (upd H a o) s.heap a o) (nL : a ≠ X.env.locals) (nC : ∀ x c, X.env.cells.lookup x = some c → c ≠ a)
    (n0 : ∀ u, X.s_0.heap.get? a = some u → a ∈ X.ex) (np : ∀ p ∈ X.pn ++ pins, p.1 ≠ a) : Inv X pins σ (upd H a o) s := by
  refine ⟨I.ok, I.os, I.bare, ⟨I.base.keep, I.base.slot, fun b u q n hx => ?_, I.base.there, fun b xs q => ?_, fun b u xs q => ?_, fun b ps q => ?_⟩, I.loc, I.cell, ?_, fun x c e => ?_, fun p hp => ?_, fun b u q => ?_, I.len⟩
  · rw [upd_ne (fun z => hx (by rw [z]; rw [z] at q; exact n0 u q))]; exact I.base.free b u q n hx
  · have z := I.base.tups b xs q
    rw [upd_ne (ne_of_none z hn)]; exact z
  · have z := I.base.frzs b u xs q
    rw [upd_ne (ne_of_none z hn)]; exact z
  · obtain ⟨more, z⟩ := I.base.tbls b ps q
    exact ⟨more, by rw [upd_ne (ne_of_none z hn)]; exact z⟩
  · rw [upd_ne (Ne.symm nL)]; exact I.free
  · rw [upd_ne (nC x c e)]; exact I.freeC x c e
  · obtain ⟨q1, q2, q3⟩ := I.pin p hp
    exact ⟨q1, by rw [upd_ne (np p hp)]; exact q2, q3⟩
  · by_cases hb : b = a
    · subst hb; rw [upd_same] at q; cases q; exact new
    · rw [upd_ne hb] at q
      exact (I.hok b u q).stay (fun c v _ q => q) (fun c q => by rw [upd_ne (ne_of_none q hn)]; exact q) fun c xs q => by rw [upd_ne (ne_of_none q hn)]; exact q
end
/-- in the try's body a raise of the class c comes to the suite; behind it the name is gone, the exception is a value -/
def wAsK (K : PySem.W.Frag) (c : Value) (i : Nat) (ts : Addr → Value → Option Addr → TS) (Wout : WX) (D : Ends) : WX := fun cls d σ H =>
  ∃ b, PySem.W.exmOne K cls c = some b ∧ (b = true → ∀ a, H a = none → ts a cls d { nx := fun σ' H' => D.nx (σ'.set i none) (upd H' a (ExV cls d a)), rt := fun _ _ => False } (σ.set i (some (.ref a))) H) ∧ (b = false → Wout cls d σ H)
section
variable {X : Cx} {x n : Str} {c : Value} {i : Nat} {body suite : List Stmt} {b₀ : Stmt} {np pos pos' : Pos} {tb : WX → TS} {ts : Addr → Value → Option Addr → TS} {Wout : WX}
theorem ps_try_asK (hs : X.stack = X.env :: X.outer) (hf : X.env.frame = some X.env.locals) (hN : X.N.Nodup) (hi : X.N[i]? = some n) (hln : X.env.kindOf n = some .local) (hc : Names X x c) (tk : Takes X Wout) (hex : X.ex = [])
    (hb : ∀ (W : WX) (pn : List (Addr × Obj)) (xe : Value → Shared → Prop), Takes (X.tr pn xe) W → PassesOwn (model X.prog X.w) X.A X.env xe → PSs (X.tr pn xe) body (tb W))
    (hsu : ∀ (a : Addr) (oe : Obj) (cls : Value) (d : Option Addr) (pn : List (Addr × Obj)), Zc cls d oe → (∃ vs, oe.data = .fields vs) → PSs (X.suite a ((a, oe) :: pn)) (b₀ :: suite) (ts a cls d)) :
    PS X (.Try body [.ExceptHandler (some (.Name x np)) (some n) (b₀ :: suite) pos'] [] [] pos) (fun D σ H => tb (wAsK X.K c i ts Wout D) D σ H) := by
  refine ⟨fun pins s σ H D I h => ?_⟩
  have ok := I.ok
  have hfr : X.A.frames = some (X.env :: X.outer) := by rw [ok.frames, hs]
  have hloc : Loc X.env.scope n := .inl hln
  refine wpAny_Try_except ?_
  refine wpAny_mono ((hb (wAsK X.K c i ts Wout D) (X.pn ++ pins) (fun e s₁ => wpAny (model X.prog X.w) X.A (noteFrame e X.env) (fun _ s₂ => wpAny (model X.prog X.w) X.A (setFlight e none) (fun _ s₃ =>
    wpAny (model X.prog X.w) X.A (handleBy e X.env [.ExceptHandler (some (.Name x np)) (some n) (b₀ :: suite) pos']) (SP X pins D) X.xe s₃) X.xe s₂) X.xe s₁) (fun u s' xx => ?_) PassesOwn.looking).run [] s σ H D (I.toTry _) h) (fun f s1 hsp => ?_) (fun e s1 he => he)
  · -- the catch
    obtain ⟨a, B, sI, pins', σ', H', cls, d, rfl, J', nb, up, sky, na, os, ag, b, hb1, hyes, hno⟩ := xx
    have J : Inv X pins σ' H' sI := J'.ofTry ok
    have sky' : Sky B (X.env :: X.outer) a (Zc cls d) X.env.locals s'.heap := by rw [← hs]; exact sky
    show wpAny (model X.prog X.w) X.A (noteFrame (.ref a) X.env) _ _ _
    refine Sky.land Zc.steady hfr hf sky' fun h3 fl3 up3 => ?_
    have J3 : Inv X pins σ' H' { s' with heap := h3 } := J.landed nb fl3.1 (up.trans up3) os ag
    obtain ⟨oe3, vs3, he3, hz3, hd3⟩ := fl3.there
    have notFr : ∀ {h : Heap} {o : Obj} {vs : Array Value}, h.FunFrames B (X.env :: X.outer) → h.get? a = some o → o.data = .fields vs → a ∉ frs (X.env :: X.outer) := fun {h o vs} ff e dd hm => by
      obtain ⟨_, o', e', hnf⟩ := ff.mem hm
      rw [e] at e'; cases e'
      exact hnf _ dd
    have nfr := notFr fl3.2.2.1 he3 hd3
    have nL : a ≠ X.env.locals := fun z => nfr (List.mem_filterMap.mpr ⟨X.env, List.mem_cons_self, by rw [hf, z]⟩)
    have nF : a ∉ X.fs := fun hm => by
      obtain ⟨e, he, q⟩ := List.mem_filterMap.mp hm
      exact nfr (List.mem_filterMap.mpr ⟨e, List.mem_cons_of_mem _ he, q⟩)
    have aI : sI.heap.get? a = none := by
      cases q : sI.heap.get? a with
      | none => rfl
      | some o =>
        have z := nb a o q (by rw [hs]; exact nfr)
        have z2 : B.get? a = none := fl3.2.1
        rw [z2] at z; cases z
    have S3 := J3.suite he3 hd3 na nL nF
    refine wpAny_handleBy_cons (codeAny_handlers_test ?_) (by intro q; cases q)
    have LT : PySem.W.Looks (model X.prog X.w) h3 (typeOf (.ref a)) cls := fun A Q E s k q => wpAny_typeOf_ref (k _ _ he3) (by rw [hz3.1]; exact q)
    have LM := PySem.W.exm_one (M := model X.prog X.w) (J3.kIn) LT hb1
    have test : ∀ {Q : Value → Shared → Prop} {E : Value → Shared → Prop}, Q c { s' with heap := h3 } → wpAny (model X.prog X.w) (X.A.mark (some (.ref a))) (eval (.Name x np) X.env) Q E { s' with heap := h3 } := fun {Q E} q => by
      obtain ⟨hg, hdbg, hm | ⟨hm, hv, hnn⟩⟩ := hc
      · exact ld_glob (X := X.suite a ((a, oe3) :: (X.pn ++ pins))) S3 hg hm q hdbg
      · exact ld_blt (X := X.suite a ((a, oe3) :: (X.pn ++ pins))) S3 hg hm hv q hnn hdbg
    refine test (LM.here ?_)
    cases b with
    | true =>
      refine codeAny_handlers_suite_as ?_
      refine HandSPX.lands_againZ fl3 fun h4 fl4 up4 => ?_
      have J4 : Inv X pins σ' H' { s' with heap := h4 } := J.landed nb fl4.1 ((up.trans up3).trans up4) os ag
      obtain ⟨oe4, vs4, he4, hz4, hd4⟩ := fl4.there
      have S4 := J4.suite he4 hd4 na nL nF
      refine store_ok (X := X.suite a ((a, oe4) :: (X.pn ++ pins))) (v := .ref a) S4 hN hi hloc rfl (fun s5 S5 => ?_) (.inr hln)
      refine wpAny_mono ((hsu a oe4 cls d (X.pn ++ pins) hz4 ⟨_, hd4⟩).run [] s5 _ H' _ S5 (hyes rfl a na)) (fun f s6 hsp => ?_) (fun _ _ z => False.elim z)
      cases f with
      | next =>
        obtain ⟨σ6, H6, S6, q6⟩ := hsp
        have S6' : Inv X (pins ++ [(a, oe4)]) σ6 H6 s6 := ⟨ok, S6.os, S6.bare, S6.base, S6.loc, S6.cell, S6.free, S6.freeC, fun p hp => S6.pin p (by
          rw [List.append_nil]
          rcases List.mem_append.mp hp with z | z
          · exact List.mem_cons_of_mem _ (List.mem_append_left _ z)
          · rcases List.mem_append.mp z with z | z
            · exact List.mem_cons_of_mem _ (List.mem_append_right _ z)
            · rw [List.mem_singleton.mp z]; exact List.mem_cons_self), S6.hok, S6.len⟩
        refine gone_ok S6' hN hi hln fun s7 J7 => ?_
        obtain ⟨e1, e2, e3, e4, e5⟩ := J7.pin (a, oe4) (List.mem_append_right _ (List.mem_append_right _ (List.mem_singleton.mpr rfl)))
        have J8 : Inv X pins (σ6.set i none) H6 s7 := J7.pins_of fun p hp => J7.pin p (List.mem_append_right _ (List.mem_append_left _ hp))
        refine ⟨_, _, A.Inv.track J8 e2 (exV_ok e1 hz4 hd4) nL (fun y cc e z => ?_) (fun u q => ?_) (fun p hp z => ?_), q6⟩
        · obtain ⟨v, oc, ho, hdc⟩ := J8.cell y cc e
          rw [z, e1] at ho
          cases ho
          exact e5 v hdc
        · obtain ⟨o', z⟩ := J.base.there a u q (by rw [hex]; simp)
          rw [aI] at z; cases z
        · have z2 := (J.pin p hp).1
          rw [z, aI] at z2; cases z2
      | brk => obtain ⟨_, _, _, q6⟩ := hsp; exact False.elim q6
      | cont => obtain ⟨_, _, _, q6⟩ := hsp; exact False.elim q6
      | ret u => obtain ⟨_, _, _, _, _, q6⟩ := hsp; exact False.elim q6
    | false =>
      show wpAny _ X.A (handleBy (.ref a) X.env []) _ _ _
      refine wpAny_handleBy_nil ?_
      obtain ⟨k1, k2, k3, oe, vs, T, oT, ts', he, hz, hd, h1, hr⟩ := id fl3
      unfold PySem.passOn
      refine wpAny_bind (wpAny_field he hd h1 ?_)
      rw [if_neg (show ¬ ((Value.ref T == Value.none) = true) from by simp)]
      have fin : wpAny (model X.prog X.w) X.A (setFlight (.ref a) X.env.frame) (fun _ s4 => wpAny (model X.prog X.w) X.A (throw (.ref a) : Sem Flow) (SP X pins D) X.xe s4) X.xe { s' with heap := h3 } := by
        rw [hf]
        refine HandSPX.setFlight_upZ fl3 fun h4 hh4 up4 => wpAny_throw (tk _ _ ?_)
        exact ⟨a, B, sI, pins, σ', H', cls, d, rfl, J, nb, (up.trans up3).trans up4, .inr (.inr (by rw [hs]; exact hh4)), na, os, ag, hno rfl⟩
      first
        | exact wpAny_bind (wpAny_pure (wpAny_bind fin))
        | exact wpAny_bind fin
  · cases f with
    | next => obtain ⟨σ', H', J, q⟩ := hsp; exact wpAny_execs_nil ⟨σ', H', J.ofTry ok, q⟩
    | brk => obtain ⟨σ', H', J, q⟩ := hsp; exact ⟨σ', H', J.ofTry ok, q⟩
    | cont => obtain ⟨σ', H', J, q⟩ := hsp; exact ⟨σ', H', J.ofTry ok, q⟩
    | ret u => obtain ⟨v, σ', H', J, r, q⟩ := hsp; exact ⟨v, σ', H', J.ofTry ok, r, q⟩
end
end A
set_option Elab.async false
set_option linter.all false
set_option maxRecDepth 100000
set_option maxHeartbeats 4000000
set_option autoImplicit false
/-! sorted of a tuple, repr of data, isinstance of an exception held; defs that lean on no repr being under way. -/
namespace A
open PySem PySem.Spec PyProof.Rows L2
section
variable {prog : Program} {w : World} {A : Around} {E : Value → Shared → Prop} {s : Shared}
theorem collect_tuple {l : Addr} {vs : List Value} {Q : List Value → Shared → Prop} (hl : s.heap.IsTuple l vs.toArray)
    (h : Q vs { s with heap := (s.heap.push (seqObj "list" #[] 0)).update s.heap.objs.size (Obj.mapSeq (· ++ vs.toArray)) }) (hsz : vs.length ≤ sizeLine) :
    wpAny (model prog w) A (collect (.ref l)) Q E s := by
  obtain ⟨o, ho, hc, n, hd⟩ := id hl
  unfold collect
  refine wpAny_bind (wpAny_runValue (codeAny_builtin entry_proto_collect' ?_))
  show wpAny _ _ (do again (.builtin "list.__iadd__" ⟨[← newList [], .ref l], []⟩)) _ _ s
  refine wpAny_bind (wpAny_newList (wpAny_pure ⟨Code.quiet_builtin _ (by decide +kernel), codeAny_builtin entry_list_iadd' ?_⟩))
  show wpAny _ _ (Builtin.List.listExtendWith (.ref s.heap.objs.size) (.ref l) (.ref s.heap.objs.size)) _ _ { s with heap := s.heap.push (seqObj "list" #[] 0) }
  unfold Builtin.List.listExtendWith
  have ho' : (s.heap.push (seqObj "list" #[] 0)).get? l = some o := Heap.get?_push_of_some _ ho
  refine wpAny_bind (wpAny_typeOf (T := "tuple") ⟨o, ho', hc⟩ ?_)
  have ht : (Value.type "tuple" == Value.type "tuple") = true := by rfl
  rw [if_pos (by rw [ht]; simp)]
  refine wpAny_bind (listItems_at ho' hd ?_)
  refine wpAny_bind (listItems_at (xs := #[]) (n := 0) (Heap.get?_push_size _ rfl) rfl ?_)
  rw [if_neg (by simp)]
  refine wpAny_bind (listUpdate_at (xs := #[]) (n := 0) (Heap.get?_push_size _ rfl) rfl ?_ (Nat.zero_le _) (by show (#[] ++ vs.toArray).size ≤ sizeLine + 1; simp only [Array.size_append, List.size_toArray, List.length_nil]; omega))
  refine wpAny_pure ?_
  show wpAny (model prog w) A (do
      let o ← load s.heap.objs.size
      match o.data with
      | .seq xs _ => pure xs.toList
      | _ => unsupported "internal:collect") Q E { s with heap := (s.heap.push (seqObj "list" #[] 0)).update s.heap.objs.size (Obj.mapSeq (· ++ vs.toArray)) }
  refine wpAny_bind (wpAny_load (get?_update_seq (Heap.get?_push_size _ rfl) _) ?_)
  show wpAny _ _ (pure ((#[] : Array Value) ++ vs.toArray).toList) Q E _
  rw [show ((#[] : Array Value) ++ vs.toArray).toList = vs by simp]
  exact wpAny_pure h
theorem sorted_ordT {l : Addr} {vs : List Value} {ltv : Value → Value → Bool} {Q : Value → Shared → Prop} (O : SrtO.Swo ltv) (hl : s.heap.IsTuple l vs.toArray) (hz : vs.length ≤ sizeLine)
    (hS : 2 ≤ vs.length → ∀ (h₁ : Heap) (a : Addr), h₁.get? a = some (seqObj "list" vs.toArray 0) → (∀ b o, s.heap.get? b = some o → b ≠ a ∧ h₁.get? b = some o) → SrtO.SortableO prog w A.in1.in1 { s with heap := h₁ } a vs ltv)
    (h : ∀ out : List Value, SrtO.Srtd ltv out → SrtO.Stb ltv out vs → Q (.ref (s.heap.objs.size + 1)) { s with heap := sortedAll s.heap vs out.toArray }) :
    wpAny (model prog w) A (call (.builtin "sorted") [.ref l]) Q E s := by
  refine Calls.call_function_entry kind_sorted plain_sorted entry_sorted (args_sorted1 _) ?_
  unfold Builtin.«sorted»
  refine wpAny_bind (m := checkCount "sorted" 1 1 _) (wpAny_pure ?_)
  refine wpAny_bind (collect_tuple hl ?_ hz)
  refine wpAny_bind (wpAny_newList ?_ hz)
  have hsz : ((s.heap.push (seqObj "list" #[] 0)).update s.heap.objs.size (Obj.mapSeq (· ++ vs.toArray))).objs.size = s.heap.objs.size + 1 := by
    rw [Heap.size_update, size_push']
  have hoL : (((s.heap.push (seqObj "list" #[] 0)).update s.heap.objs.size (Obj.mapSeq (· ++ vs.toArray))).push (seqObj "list" vs.toArray 0)).get? (s.heap.objs.size + 1) = some (seqObj "list" vs.toArray 0) := by
    rw [← hsz]; exact Heap.get?_push_size _ rfl
  have keep : ∀ b o, s.heap.get? b = some o → b ≠ s.heap.objs.size + 1 ∧ (((s.heap.push (seqObj "list" #[] 0)).update s.heap.objs.size (Obj.mapSeq (· ++ vs.toArray))).push (seqObj "list" vs.toArray 0)).get? b = some o := fun b o q => by
    have hlt : b < s.heap.objs.size := Heap.lt_size q
    refine ⟨Nat.ne_of_lt (Nat.lt_succ_of_lt hlt), Heap.get?_push_of_some _ ?_⟩
    rw [Heap.get?_update_ne _ _ _ _ (Nat.ne_of_lt hlt)]
    exact Heap.get?_push_of_some _ q
  show wpAny _ _ _ _ _ { s with heap := ((s.heap.push (seqObj "list" #[] 0)).update s.heap.objs.size (Obj.mapSeq (· ++ vs.toArray))).push (seqObj "list" vs.toArray 0) }
  rw [hsz]
  refine wpAny_bind (wpAny_holding (wpAny_call_entry slot_list_sort ⟨_, hoL, rfl⟩ entry_list_sort (SrtO.list_sort_ord O hoL hz (fun h2 => hS h2 _ _ hoL keep) fun out hs hb => ⟨_, rfl, ?_⟩) (args_list_sort _)))
  exact wpAny_pure ⟨_, rfl, h out hs hb⟩
end
/-- sorted of a list or a tuple of ints -/
def rSortedU (K : PySem.W.Frag) : List V → Hp → VK → Prop := fun vs H Q => ∃ (a : Addr) (ns : List Int), vs = [V.ref a] ∧ (SqL K H a (ns.map V.int) ∨ SqT K H a (ns.map V.int)) ∧
  ∀ (ns' : List Int) (p : Addr), ns'.Perm ns → ns'.Pairwise (· ≤ ·) → H p = none → Q (.ref p) (upd H p (.lst (ns'.map V.int)))
section
variable {X : Cx}
theorem cr_sortedU : CallR X (.builtin "sorted") (rSortedU X.K) := by
  intro pins s σ H vs us Q I r h
  obtain ⟨a, ns, rfl, hs, q⟩ := h
  rcases hs with hs | hs
  · exact cr_sortedI pins s σ H _ us Q I r ⟨a, ns, rfl, hs, q⟩
  · obtain ⟨its, rv, hl, hz⟩ := I.tuple hs
    rw [Vals.ref1 r]
    have hi := rv.ints
    refine sorted_ordT SrtO.swo_int (show s.heap.IsTuple a its.toArray from hl) (by rw [← rv.length]; exact hz) (fun h2 h₁ a' _ _ => SrtO.ints_sortable hi h2) fun out h1 h2 => ?_
    obtain ⟨k1, k2, k3⟩ := SrtO.ints_out hi h1 h2
    obtain ⟨ep, he'⟩ := PyProof.Rows.sortedAll_at s.heap its out.toArray
    have hlen : ((out.map SrtO.iv).map V.int).length ≤ sizeLine := by
      rw [List.length_map, k2.length_eq]
      rw [List.length_map] at hz
      exact hz
    exact ⟨.ref _, upd H (s.heap.objs.size + 1) (.lst ((out.map SrtO.iv).map V.int)), I.laid (t' := s.toks) (fun _ _ => PyProof.Rows.sortedAll_old) (Nat.le_succ _) ⟨hlen, out, ep, vals_of_ints k1, he'⟩, rfl, q _ _ k2 k3 (I.hok.fresh (Nat.le_succ _))⟩
/-- repr of data, where no repr is under way -/
def rRepr (K : PySem.W.Frag) : List V → Hp → VK → Prop := fun vs H Q => ∃ (x : V) (d : PyData), vs = [x] ∧ Dp K H x d ∧ d.showable = true ∧ d.hasDict = false ∧ d.depth ≤ 100 ∧ d.shown.length ≤ sizeLine ∧ Q (.str d.shown) H
theorem cr_repr (hg : X.A.guards = some []) (hu : X.A.units + 102 < cLine) : CallR X (.builtin "repr") (rRepr X.K) := by
  intro pins s σ H vs us Q I r h
  obtain ⟨x, d, rfl, hd, hs, hn, hz, hl, q⟩ := h
  obtain ⟨u, rfl, rx⟩ := vals1 r
  obtain ⟨as, rd⟩ := Dp.reads I d x u hd rx
  have fin : ∀ (h' : Heap) (u' : Tok) (tk : Nat), (∀ b o, s.heap.get? b = some o → h'.get? b = some o) → EP X pins σ Q (.str d.shown u') { s with heap := h', toks := tk } := fun h' u' tk hk => ⟨.str d.shown, H, I.kept hk, ⟨_, rfl⟩, q⟩
  have heap : ∀ a, u = .ref a → wpAny (model X.prog X.w) X.A (call (.builtin "repr") [.ref a]) (EP X pins σ Q) X.xe s := fun a e => by
    subst e
    exact repr_of_reads' rd hs (PyData.noDict_hsm hn) hg (by omega) (fun _ _ e => e) (fun h' u' tk hk => fin h' u' tk hk) hl
  cases hd with
  | non => cases rx; exact PySem.P.repr_of_none ⟨.str (PyData.shown .none), H, I.tok _, ⟨_, rfl⟩, q⟩
  | bl b => cases rx; exact PySem.P.repr_of_bool ⟨.str (PyData.shown (.bool b)), H, I.tok _, ⟨_, rfl⟩, q⟩
  | int i =>
    obtain ⟨t, rfl⟩ := rx
    exact PySem.P.repr_of_int (by simpa [PyData.showable] using hs) ⟨.str (PyData.shown (.int i)), H, I.tok _, ⟨_, rfl⟩, q⟩
  | str y =>
    obtain ⟨t, rfl⟩ := rx
    exact PySem.P.repr_of_str ⟨.str (PyData.shown (.str y)), H, I.tok _, ⟨_, rfl⟩, q⟩ hl
  | lst h1 h2 => cases rx; exact heap _ rfl
  | tup h1 h2 => cases rx; exact heap _ rfl
end
end A
set_option Elab.async false
set_option linter.all false
set_option maxRecDepth 100000
set_option maxHeartbeats 4000000
set_option autoImplicit false
/-! isinstance of an exception held; defs that lean on no repr being under way; a lambda handed to a def that catches. -/
namespace A
open PySem PySem.Spec PyProof.Rows L2
/-- isinstance: any value that has a type, or an exception held -/
def rIsiV (K : PySem.W.Frag) : List V → Hp → VK → Prop := fun xs H Q => ∃ (a D : Addr) (c : V) (cv : Value) (b : Bool), xs = [.ref a, c] ∧ H a = some (ExV (.ref D) none a) ∧ ExcC K D ∧ ClsV c cv ∧ PySem.W.kitOne K (.ref D) cv = some b ∧ Q (.bl b) H
def rIsiU (K : PySem.W.Frag) : List V → Hp → VK → Prop := fun xs H Q => rIsi K xs H Q ∨ rIsiV K xs H Q
theorem call_isiU {X : Cx} : CallR X (.builtin "isinstance") (rIsiU X.K) := by
  intro pins s σ H xs us Q I r h
  rcases h with h | h
  · exact call_isi pins s σ H xs us Q I r h
  · obtain ⟨a, D, c, cv, b, rfl, hH, C, k, e, q⟩ := h
    obtain ⟨u1, u2, rfl, r1, r2⟩ := vals2 r
    cases r1
    have e2 := k.eq r2
    subst e2
    obtain ⟨⟨oe, vs, ha, hz, hd⟩, _⟩ := I.hok a _ hH
    have hno : PySem.W.notCls oe = true := by
      unfold PySem.W.notCls
      rw [hd]
    exact PySem.W.kia_one (PySem.W.handS_kitx_exc C.hg C.hk C.hs C.hd C.ha C.hn C.ht C.hm) I.kIn (show PySem.W.InstAt s.heap a oe D none from ⟨ha, hz.1, hno, by rw [hz.2]; trivial⟩) e (fun z => nomatch z) fun tk => ⟨.bl b, H, I.tok tk, rfl, q⟩
/-! ### defs called where no repr is under way -/
structure FnG (P : Program) (w : World) (K : PySem.W.Frag) (mg : Str → Option Value) (base : Heap) (CX : CXT) (k : Nat) (f : Addr) (fd : FuncData) (ps : List Str) (sp : Sp) : Prop where
  len : ∀ vs H Q E, sp vs H Q E → vs.length = ps.length
  run : ∀ (A : Around) (outer : List Env) (s : Shared) (H : Hp) (args : Args) (us : List Value) (vs : List V) (Q : VK) (E : XK), Room k A → A.guards = some [] → Env0 P w K mg base A outer s H → BindsTo s fd args (ps.zip us) → Vals vs us → sp vs H Q E →
    codeAny (model P w) A (.call (.ref f) args) (CR CX outer P w H s Q E) s
structure ClG (P : Program) (w : World) (K : PySem.W.Frag) (mg : Str → Option Value) (base : Heap) (CX : CXT) (k : Nat) (x : Str) (st : Stmt) (ps : List Str) (sp : Sp) : Prop where
  ex : ∃ (f : Addr) (fd : FuncData), FnG P w K mg base CX k f fd ps sp ∧ mg x = some (.ref f) ∧ FunD K x x (defArgs st) (defBody st) (defScope st) [] [] f fd ∧ ∀ (s : Shared) (us : List Value), us.length = ps.length → BindsTo s fd ⟨us, []⟩ (ps.zip us)
section
variable {P : Program} {w : World} {K : PySem.W.Frag} {mg : Str → Option Value} {base : Heap}
theorem mk_clG {x : Str} {st : Stmt} {N ps : List Str} {k : Nat} {sp : Sp} (F : Df K mg x st) (S : FnScope N ps (defScope st)) (len : ∀ vs H Q E, sp vs H Q E → vs.length = ps.length)
    (hb : ∀ (kV doc pm : Value) (an : Option Addr) (cdv ct : Value) (us : List Value), us.length = ps.length → bindArgs (PySem.W.fnOf x x (defArgs st) (defBody st) (defScope st) .none kV doc pm an cdv ct) ⟨us, []⟩ = pure (ps.zip us))
    (hbody : ∀ (f : Addr) (cdv : Value) (A : Around) (outer : List Env) (s : Shared) (H : Hp) (vs : List V) (Q : VK) (E : XK), PySem.W.codeIn K cdv x = true → Room k (A.deeper (envOfC x (defScope st) s.heap.objs.size f cdv)) → A.guards = some [] → sp vs H Q E →
      ∃ t, PSs (cxOf CX0 P w K mg base N x (defScope st) f cdv A outer s H E).nox (defBody st) t ∧ t { nx := fun _ H' => Q .non H', rt := Q } (start N vs) H) : ClG P w K mg base CX0 (k + 1) x st ps sp := by
  obtain ⟨f, fd, F, hm⟩ := F
  obtain ⟨oc, od, dV, kV, doc, pm, an, cdv, ct, osl, e, lk, hcd, hD, hK⟩ := F.ex
  subst e
  refine ⟨f, _, ⟨len, fun A outer s H args us vs Q E hr hg e0 hbi r hsp => ?_⟩, hm, F, fun s us hl => F.bindsA hb s us hl⟩
  refine LamX.run_ofS lk hcd S hr e0 hbi r (len vs H Q E hsp) fun hr' => ?_
  obtain ⟨t, h, q⟩ := hbody f cdv A outer s H vs Q E hcd hr' hg hsp
  exact ⟨t, h.nox, q⟩
end
section
variable {X : Cx} {CX : CXT} {k j : Nat} {x : Str} {st : Stmt} {ps : List Str} {sp : Sp} {E : XK} {p pos : Pos} {e : Expr} {es : List Expr} {t : TA}
theorem pe_cG (c : ClG X.prog X.w X.K X.mg X.base CX k x st ps sp) (hx : Passes CX X E) (hr : Room j X.A) (hgd : X.A.guards = some []) (hk : k ≤ j) (hg : Gl X x) (ha : PA X (e :: es) t)
    (hdb : (x == ("__debug__" : Str)) = false := by decide) (he : starEach (e :: es) X.env = (false, eval e X.env) :: starEach es X.env := by rfl) (hpl : (backTo pos (starEach es X.env)).any (·.1) = false := by rfl) :
    PE X (.Call (.Name x p) (e :: es) [] pos) (tCall sp [] E t) := by
  obtain ⟨f, fd, F, hm, D, hb⟩ := c.ex
  refine ⟨fun pins s σ H Q I h => ?_⟩
  refine wpAny_Call_Name_kw (ld_glob I hg hm ?_ hdb)
  refine PySem.W.callWith_K (h₀ := X.base) I.ok.mod.kin D.kp (thn (ha.run pos pins s σ H _ I h) fun us s1 ⟨vs, H1, I1, r, q⟩ => ⟨I1.kIn, ?_⟩) he hpl
  replace q : sp (vs ++ []) H1 Q E := q
  rw [List.append_nil] at q
  have hl : us.length = ps.length := by rw [← r.length]; exact F.len _ _ _ _ q
  refine wpAny_call (codeAny_mono (F.run X.A X.stack s1 H1 ⟨us, []⟩ us vs Q E (hr.mono hk) hgd I1.env0 (hb s1 us hl) r q) fun r s' hq => ?_)
  cases r with
  | error e => exact hx pins σ H1 s1 e s' I1 hq
  | ok fl =>
    cases fl with
    | ret u => exact I1.after hq
    | next => exact False.elim hq
    | brk => exact False.elim hq
    | cont => exact False.elim hq
end
/-! ### caught = None; try: work() except CopyError as error: caught = error; return caught -/
/-- what becomes of the work's reading: the exception of the class CS, or None -/
def TCaught (K : PySem.W.Frag) (CS : Addr) : (XK → Hp → VK → Prop) → Hp → VK → Prop := fun tl H Q =>
  tl (fun cls d H' => ∃ b, PySem.W.exmOne K cls (.ref CS) = some b ∧ (b = true → ∀ a, H' a = none → Q (.ref a) (upd H' a (ExV cls d a))) ∧ (b = false → False)) H (fun _ H' => ∃ v, (some (some V.non) : Option (Option V)) = some (some v) ∧ Q v H')
theorem takes_len {X : Cx} {W : WX} (tk : Takes X W) : Takes X (fun cls d σ H => σ.length = X.N.length → W cls d σ H) := fun u s' ⟨a, B, sI, pins, σ, H, cls, d, e, I, nb, up, sky, na, os, ag, w⟩ =>
  tk u s' ⟨a, B, sI, pins, σ, H, cls, d, e, I, nb, up, sky, na, os, ag, w I.len⟩
theorem caught_gives {X : Cx} {x q : Str} {sg : Scope} {g CS : Addr} {cdg : Value} {p1 p2 p3 p4 p5 p6 p7 p8 p9 p10 p11 p12 p13 p14 : Pos} {j : Nat}
    (k0 : sg.names.lookup ("work" : Str) = some .local) (k1 : sg.names.lookup ("caught" : Str) = some .local) (k2 : sg.names.lookup ("error" : Str) = some .local) (hge : sg.names.lookup ("CopyError" : Str) = some .globalImplicit) (hme : X.mg "CopyError" = some (.ref CS)) :
    LamX.GivesTo X ["work", "caught", "error"] x sg g cdg [.Assign [.Name "caught" p1] (.Constant .none j p2) p3,
      .Try [.Expr (.Call (.Name "work" p4) [] [] p5) p6] [.ExceptHandler (some (.Name "CopyError" p7)) (some "error") [.Assign [.Name "caught" p8] (.Name "error" p9) p10] p11] [] [] p12, .Return (some (.Name "caught" p13)) p14] "work" q (TCaught X.K CS) := by
  intro f c' s H Q tl act hc h
  have hN : (["work", "caught", "error"] : List Str).Nodup := by decide
  refine ⟨_, pss_cons (ps_set (i := 1) hN rfl (Or.inl k1) pe_non) (pss_cons
    (ps_try_asK (X := (cxOf C8.CX0 X.prog X.w X.K X.mg X.base ["work", "caught", "error"] x sg g cdg X.A X.stack s H C8.E0).nox) (c := .ref CS) (i := 2)
      (tb := fun W D σ H => ∃ Ech : XK, (∀ cls d σ' H', σ'.length = 3 → Ech cls d H' → W cls d σ' H') ∧ σ[0]? = some (some (.ref f)) ∧ H c' = some (LamX.CodeO c' q) ∧ tl Ech H (fun _ H' => D.nx σ H'))
      rfl rfl hN rfl k2 ⟨hge, by decide, .inl hme⟩ LamX.takes0 rfl (fun W pn xe tk _ => ?_) (fun a oe cls d pn _ _ => pss_one (ps_set (i := 1) hN rfl (Or.inl k1) (pe_var (i := 2) rfl (Or.inl k2)))))
    (pss_one (ps_ret (pe_var (i := 1) rfl (Or.inl k1))))), ?_⟩
  · refine ⟨fun pins s' σ H' D I h' => ?_⟩
    obtain ⟨Ech, hW, h1, h2, h3⟩ := h'
    have hp := act (fun cls d σ H => σ.length = 3 → W cls d σ H) pn xe Ech p4 p5 (takes_len tk) fun cls d σ' H' he hl => hW cls d σ' H' hl he
    exact (pss_one (ps_expr (pos := p6) hp)).run pins s' σ H' D I ⟨h1, h2, h3⟩
  · refine ⟨fun cls d H' => ∃ b, PySem.W.exmOne X.K cls (.ref CS) = some b ∧ (b = true → ∀ a, H' a = none → Q (.ref a) (upd H' a (ExV cls d a))) ∧ (b = false → False), fun cls d σ' H' hl ⟨b, e1, e2, e3⟩ => ?_, rfl, hc, ?_⟩
    · refine ⟨b, e1, fun hb a ha => ?_, fun hb => (e3 hb).elim⟩
      refine ⟨.ref a, by rw [List.getElem?_set_self (by omega)], ?_⟩
      refine ⟨.ref a, ?_, e2 hb a ha⟩
      rw [List.getElem?_set_ne (by decide), List.getElem?_set_self (by simp; omega)]
    · exact h
end A
set_option Elab.async false
set_option linter.all false
set_option maxRecDepth 100000
set_option maxHeartbeats 4000000
set_option autoImplicit false
/-! More readings by values. -/
namespace A
open PySem PySem.Spec PyProof.Rows L2
section
variable {σ : L2.St} {H G : Hp} {D : Ends} {Q : VK} {K : PySem.W.Frag} {v x y : V}
theorem v_addI {a b : Int} (k : Q (.int (a + b)) H) : rAddU K (.int a) (.int b) H Q := .inl ⟨a, b, rfl, rfl, k⟩
theorem v_catL {a b : Addr} {xs ys : List V} (h : H a = some (.lst xs)) (h' : H b = some (.lst ys)) (hl : xs.length + ys.length ≤ sizeLine) (k : ∀ p, H p = none → Q (.ref p) (upd H p (.lst (xs ++ ys)))) : rAddU K (.ref a) (.ref b) H Q := .inr (.inl ⟨a, b, xs, ys, rfl, rfl, h, h', hl, k⟩)
theorem v_mulI {a b : Int} (h : CMul a b) (k : Q (.int (a * b)) H) : rMulU K (.int a) (.int b) H Q := .inl ⟨a, b, rfl, rfl, h, k⟩
theorem v_isi {c : V} {cv t : Value} {b : Bool} (hc : ClsV c cv) (ht : TyX K H x t) (hk : PySem.W.kitOne K t cv = some b) (k : Q (.bl b) H) : rIsiU K [x, c] H Q := .inl ⟨x, c, t, cv, b, rfl, hc, ht, hk, k⟩
theorem v_abs {a : Int} {R : Int → Prop} (k : R a) : ∃ i, [V.int a] = [.int i] ∧ R i := ⟨a, rfl, k⟩
theorem v_int1 {a : Int} (k : Q (.int a) H) : (∃ i, [V.int a] = [.int i] ∧ Q (.int i) H) ∨ (∃ k, [V.int a] = [.bl k] ∧ Q (.int (if k then 1 else 0)) H) := .inl ⟨a, rfl, k⟩
/-- the built-in type of data -/
def tyD : PyData → String
  | .none => "NoneType"
  | .bool _ => "bool"
  | .int _ => "int"
  | .str _ => "str"
  | .list _ => "list"
  | .tuple _ => "tuple"
  | .dict _ => "dict"
theorem tyX_of {d : PyData} (h : Dp K H x d) : TyX K H x (.type (tyD d)) := by
  cases h with
  | non => exact .base .non
  | bl b => exact .base (.bl b)
  | int i => exact .base (.int i)
  | str s => exact .base (.str s)
  | lst h1 h2 =>
    rcases h1 with (h1 | ⟨o, h1⟩) | ⟨o, its, n, h1, hc, _⟩
    · exact .base (.lst h1)
    · exact .base (.frz h1)
    · exact .kList h1 hc
  | tup h1 h2 =>
    rcases h1 with (h1 | ⟨o, h1⟩) | ⟨o, its, n, h1, hc, _⟩
    · exact .base (.tup h1)
    · exact .fTuple h1
    · exact .kTuple h1 hc
def is_int : PyData → Bool
  | .int _ => true
  | .bool _ => true
  | _ => false
theorem k_int : ∀ d : PyData, PySem.W.kitOne K (.type (tyD d)) (.type "int") = some (is_int d)
  | .none => kit_ty (a := "NoneType") (b := "int") (r := false) (by decide +kernel)
  | .bool _ => kit_ty (a := "bool") (b := "int") (r := true) (by decide +kernel)
  | .int _ => kit_ty (a := "int") (b := "int") (r := true) (by decide +kernel)
  | .str _ => kit_ty (a := "str") (b := "int") (r := false) (by decide +kernel)
  | .list _ => kit_ty (a := "list") (b := "int") (r := false) (by decide +kernel)
  | .tuple _ => kit_ty (a := "tuple") (b := "int") (r := false) (by decide +kernel)
  | .dict _ => kit_ty (a := "dict") (b := "int") (r := false) (by decide +kernel)
def is_bool : PyData → Bool
  | .bool _ => true
  | _ => false
theorem k_bool : ∀ d : PyData, PySem.W.kitOne K (.type (tyD d)) (.type "bool") = some (is_bool d)
  | .none => kit_ty (a := "NoneType") (b := "bool") (r := false) (by decide +kernel)
  | .bool _ => kit_ty (a := "bool") (b := "bool") (r := true) (by decide +kernel)
  | .int _ => kit_ty (a := "int") (b := "bool") (r := false) (by decide +kernel)
  | .str _ => kit_ty (a := "str") (b := "bool") (r := false) (by decide +kernel)
  | .list _ => kit_ty (a := "list") (b := "bool") (r := false) (by decide +kernel)
  | .tuple _ => kit_ty (a := "tuple") (b := "bool") (r := false) (by decide +kernel)
  | .dict _ => kit_ty (a := "dict") (b := "bool") (r := false) (by decide +kernel)
def is_tuple : PyData → Bool
  | .tuple _ => true
  | _ => false
theorem k_tuple : ∀ d : PyData, PySem.W.kitOne K (.type (tyD d)) (.type "tuple") = some (is_tuple d)
  | .none => kit_ty (a := "NoneType") (b := "tuple") (r := false) (by decide +kernel)
  | .bool _ => kit_ty (a := "bool") (b := "tuple") (r := false) (by decide +kernel)
  | .int _ => kit_ty (a := "int") (b := "tuple") (r := false) (by decide +kernel)
  | .str _ => kit_ty (a := "str") (b := "tuple") (r := false) (by decide +kernel)
  | .list _ => kit_ty (a := "list") (b := "tuple") (r := false) (by decide +kernel)
  | .tuple _ => kit_ty (a := "tuple") (b := "tuple") (r := true) (by decide +kernel)
  | .dict _ => kit_ty (a := "dict") (b := "tuple") (r := false) (by decide +kernel)
def is_list : PyData → Bool
  | .list _ => true
  | _ => false
theorem k_list : ∀ d : PyData, PySem.W.kitOne K (.type (tyD d)) (.type "list") = some (is_list d)
  | .none => kit_ty (a := "NoneType") (b := "list") (r := false) (by decide +kernel)
  | .bool _ => kit_ty (a := "bool") (b := "list") (r := false) (by decide +kernel)
  | .int _ => kit_ty (a := "int") (b := "list") (r := false) (by decide +kernel)
  | .str _ => kit_ty (a := "str") (b := "list") (r := false) (by decide +kernel)
  | .list _ => kit_ty (a := "list") (b := "list") (r := true) (by decide +kernel)
  | .tuple _ => kit_ty (a := "tuple") (b := "list") (r := false) (by decide +kernel)
  | .dict _ => kit_ty (a := "dict") (b := "list") (r := false) (by decide +kernel)
def is_str : PyData → Bool
  | .str _ => true
  | _ => false
theorem k_str : ∀ d : PyData, PySem.W.kitOne K (.type (tyD d)) (.type "str") = some (is_str d)
  | .none => kit_ty (a := "NoneType") (b := "str") (r := false) (by decide +kernel)
  | .bool _ => kit_ty (a := "bool") (b := "str") (r := false) (by decide +kernel)
  | .int _ => kit_ty (a := "int") (b := "str") (r := false) (by decide +kernel)
  | .str _ => kit_ty (a := "str") (b := "str") (r := true) (by decide +kernel)
  | .list _ => kit_ty (a := "list") (b := "str") (r := false) (by decide +kernel)
  | .tuple _ => kit_ty (a := "tuple") (b := "str") (r := false) (by decide +kernel)
  | .dict _ => kit_ty (a := "dict") (b := "str") (r := false) (by decide +kernel)
end
end A
set_option Elab.async false
set_option linter.all false
set_option maxRecDepth 100000
set_option maxHeartbeats 4000000
set_option autoImplicit false
/-! Loops and comprehensions over what stands. -/
namespace A
open PySem PySem.Spec PyProof.Rows L2
section
variable {σ : L2.St} {H G : Hp} {D : Ends} {Q : VK} {K : PySem.W.Frag} {tl te : TE} {R : It → Hp → Prop}
/-- J walks over xs and changes nothing, in any heap over G -/
def JSeq (G : Hp) (J : It) (xs : List V) : Prop := ∀ H, Ex G H → (∀ i v, xs[i]? = some v → J.go i H ∧ ∀ x H', J.yld i H x H' → H' = H ∧ x = v) ∧ J.stop xs.length H
/-- .. and hands out pairs with the place -/
def JEn (G : Hp) (J : It) (xs : List V) : Prop := ∀ H, Ex G H → (∀ i v, xs[i]? = some v → J.go i H ∧ ∀ x H', J.yld i H x H' → ∃ T, x = .ref T ∧ H T = none ∧ H' = upd H T (.tup [.int (i : Nat), v])) ∧ J.stop xs.length H
theorem jseq_l {a : Addr} {xs : List V} (h : SqL K G a xs) : JSeq G (Itl K a) xs := fun H e =>
  ⟨fun i v hv => ⟨⟨xs, v, sqL_ex e h, hv⟩, fun x H' ⟨e1, e2⟩ => ⟨e1, Option.some.inj ((e2 xs (sqL_ex e h)).symm.trans hv)⟩⟩, ⟨xs, sqL_ex e h, Nat.le_refl _⟩⟩
theorem jseq_t {a : Addr} {xs : List V} (h : SqT K G a xs) : JSeq G (Itt K a) xs := fun H e =>
  ⟨fun i v hv => ⟨⟨xs, v, sqT_ex e h, hv⟩, fun x H' ⟨e1, e2⟩ => ⟨e1, Option.some.inj ((e2 xs (sqT_ex e h)).symm.trans hv)⟩⟩, ⟨xs, sqT_ex e h, Nat.le_refl _⟩⟩
theorem jen_l {a : Addr} {xs : List V} (h : SqL K G a xs) : JEn G (Ite K a) xs := fun H e =>
  ⟨fun i v hv => ⟨⟨xs, v, sqL_ex e h, hv⟩, fun x H' ⟨T, y, e1, e2, e3, e4⟩ => ⟨T, e1, e2, by rw [e3, Option.some.inj ((e4 xs (sqL_ex e h)).symm.trans hv)]⟩⟩, ⟨xs, sqL_ex e h, Nat.le_refl _⟩⟩
theorem jen_t {a : Addr} {xs : List V} (h : SqT K G a xs) : JEn G (IteT K a) xs := fun H e =>
  ⟨fun i v hv => ⟨⟨xs, v, sqT_ex e h, hv⟩, fun x H' ⟨T, y, e1, e2, e3, e4⟩ => ⟨T, e1, e2, by rw [e3, Option.some.inj ((e4 xs (sqT_ex e h)).symm.trans hv)]⟩⟩, ⟨xs, sqT_ex e h, Nat.le_refl _⟩⟩
def rgs (lo : Int) (n : Nat) : List V := (List.range n).map fun i => .int (lo + (i : Nat))
theorem rgs_len {lo : Int} {n : Nat} : (rgs lo n).length = n := by unfold rgs; simp
theorem rgs_get {lo : Int} {n i : Nat} {v : V} (h : (rgs lo n)[i]? = some v) : i < n ∧ v = .int (lo + (i : Nat)) := by
  unfold rgs at h
  rw [List.getElem?_map, Option.map_eq_some_iff] at h
  obtain ⟨j, h1, h2⟩ := h
  have h3 : i < n := by simpa using (List.getElem?_eq_some_iff.mp h1).1
  rw [List.getElem?_range h3] at h1
  cases h1
  exact ⟨h3, h2.symm⟩
theorem jseq_r {lo : Int} {n : Nat} : JSeq G (Itr lo n) (rgs lo n) := fun H e =>
  ⟨fun i v hv => ⟨(rgs_get hv).1, fun x H' ⟨e1, e2⟩ => ⟨e1, by rw [e2, (rgs_get hv).2]⟩⟩, by rw [rgs_len]; exact Nat.le_refl n⟩
/-- the walked thing is told by its value -/
def seqAt (K : PySem.W.Frag) (x : V) (H1 : Hp) (R : It → Hp → Prop) : Prop := ∃ a, x = .ref a ∧ (((∃ xs, SqL K H1 a xs) ∧ R (Itl K a) H1) ∨ ((∃ xs, SqT K H1 a xs) ∧ R (Itt K a) H1))
def enumAt (K : PySem.W.Frag) (vs : List V) (H1 : Hp) (R : It → Hp → Prop) : Prop := ∃ a, vs = [.ref a] ∧ (((∃ xs, SqL K H1 a xs) ∧ R (Ite K a) H1) ∨ ((∃ xs, SqT K H1 a xs) ∧ R (IteT K a) H1))
def rng1At (vs : List V) (H1 : Hp) (R : It → Hp → Prop) : Prop := ∃ j : Int, vs = [.int j] ∧ -(2 ^ 62) ≤ j ∧ j < 2 ^ 62 ∧ R (Itr 0 j.toNat) H1
def rng2At (vs : List V) (H1 : Hp) (R : It → Hp → Prop) : Prop := ∃ i j : Int, vs = [.int i, .int j] ∧ (-(2 ^ 62) ≤ i ∧ i < 2 ^ 62 ∧ -(2 ^ 62) ≤ j ∧ j < 2 ^ 62) ∧ R (Itr i (j - i).toNat) H1
theorem r_iSeq (k : tl σ H fun x H1 => seqAt K x H1 R) : iSeq K tl σ H R := k
theorem r_iEnum {ta : TA} (k : ta σ H fun vs H1 => enumAt K vs H1 R) : iEnumU K ta σ H R := k
theorem r_rng1 {ta : TA} (k : ta σ H fun vs H1 => rng1At vs H1 R) : iRng1 ta σ H R := k
theorem r_rng2 {ta : TA} (k : ta σ H fun vs H1 => rng2At vs H1 R) : iRng2 ta σ H R := k
theorem i_seq {a : Addr} {xs : List V} {H1 : Hp} (G : Hp) (h : SqL K G a xs ∨ SqT K G a xs) (e : Ex G H1) (k : ∀ J, JSeq G J xs → R J H1) : seqAt K (.ref a) H1 R := by
  refine ⟨a, rfl, ?_⟩
  rcases h with h | h
  · exact .inl ⟨⟨xs, sqL_ex e h⟩, k _ (jseq_l h)⟩
  · exact .inr ⟨⟨xs, sqT_ex e h⟩, k _ (jseq_t h)⟩
theorem i_enum {a : Addr} {xs : List V} {H1 : Hp} (G : Hp) (h : SqL K G a xs ∨ SqT K G a xs) (e : Ex G H1) (k : ∀ J, JEn G J xs → R J H1) : enumAt K [.ref a] H1 R := by
  refine ⟨a, rfl, ?_⟩
  rcases h with h | h
  · exact .inl ⟨⟨xs, sqL_ex e h⟩, k _ (jen_l h)⟩
  · exact .inr ⟨⟨xs, sqT_ex e h⟩, k _ (jen_t h)⟩
theorem i_rng1 {n : Nat} {H1 : Hp} (G : Hp) (hn : n ≤ 100000) (k : ∀ J, JSeq G J (rgs 0 n) → R J H1) : rng1At [.int (n : Int)] H1 R :=
  ⟨n, rfl, by omega, by omega, k _ jseq_r⟩
theorem i_rng2 {lo n : Nat} {H1 : Hp} (G : Hp) (h1 : lo ≤ 100000) (hn : n ≤ 100000) (k : ∀ J, JSeq G J (rgs (lo : Int) (n - lo)) → R J H1) : rng2At [.int (lo : Int), .int (n : Int)] H1 R :=
  ⟨lo, n, rfl, ⟨by omega, by omega, by omega, by omega⟩, by rw [show ((n : Int) - (lo : Int)).toNat = n - lo by omega]; exact k _ jseq_r⟩
theorem r_for {wi : TI} {g : TG} {tb : TS} (k : wi σ H fun J H1 => ∃ W : Nat → Nat → L2.St → Hp → Prop, (∃ m, W 0 m σ H1) ∧ ∀ i m σ H, W i m σ H →
    (J.stop i H ∧ D.nx σ H) ∨ (J.go i H ∧ ∃ N : L2.St → Hp → Prop, (∀ σ' H', N σ' H' → ∃ m', m' < m ∧ W (i + 1) m' σ' H') ∧ ∀ x H', J.yld i H x H' → g x σ H' fun σ2 H2 => tb { D with nx := N, ct := N, bk := D.nx } σ2 H2)) : tFor wi g tb D σ H := k
theorem for_in {J : It} {H1 : Hp} {g : TG} {tb : TS} (n : Nat) (I : Nat → L2.St → Hp → Prop) (h0 : I 0 σ H1)
    (step : ∀ i σ H, i < n → I i σ H → J.go i H ∧ ∀ x H', J.yld i H x H' → g x σ H' fun σ2 H2 => tb { D with nx := I (i + 1), ct := I (i + 1), bk := D.nx } σ2 H2)
    (fin : ∀ σ H, I n σ H → J.stop n H ∧ D.nx σ H) : ∃ W : Nat → Nat → L2.St → Hp → Prop, (∃ m, W 0 m σ H1) ∧ ∀ i m σ H, W i m σ H →
    (J.stop i H ∧ D.nx σ H) ∨ (J.go i H ∧ ∃ N : L2.St → Hp → Prop, (∀ σ' H', N σ' H' → ∃ m', m' < m ∧ W (i + 1) m' σ' H') ∧ ∀ x H', J.yld i H x H' → g x σ H' fun σ2 H2 => tb { D with nx := N, ct := N, bk := D.nx } σ2 H2) := by
  refine ⟨fun i m σ H => i + m = n ∧ I i σ H, ⟨n, by omega, h0⟩, fun i m σ H ⟨e, hI⟩ => ?_⟩
  by_cases hi : i < n
  · obtain ⟨s1, s2⟩ := step i σ H hi hI
    exact .inr ⟨s1, I (i + 1), fun σ' H' h => ⟨m - 1, by omega, by omega, h⟩, s2⟩
  · have : i = n := by omega
    subst this
    exact .inl (fin σ H hI)
theorem r_while {c : TT} {tb : TS} (k : ∃ W : Nat → L2.St → Hp → Prop, (∃ m, W m σ H) ∧ ∀ m σ H, W m σ H →
    c σ H fun b H1 => if b = true then ∃ N : L2.St → Hp → Prop, (∀ σ' H', N σ' H' → ∃ m', m' < m ∧ W m' σ' H') ∧ tb { D with nx := N, ct := N, bk := D.nx } σ H1 else D.nx σ H1) : tWhile c tb D σ H := k
theorem r_lc {wi : TI} {g : TG} {tt : TT} {vs : List Nat} (k : wi σ H fun J H1 => ∀ D, H1 D = none → ∃ W : Nat → Nat → Hp → Prop, (∃ m, W 0 m (upd H1 D (.lst []))) ∧ ∀ i m H, W i m H →
  (J.stop i H ∧ Q (.ref D) H) ∨ (J.go i H ∧ ∃ Nx : Hp → Prop, (∀ H', Nx H' → ∃ m', m' < m ∧ W (i + 1) m' H') ∧ ∀ x H', J.yld i H x H' → g x (wipe σ vs) H' fun σ2 H2 => wipe σ2 vs = wipe σ vs ∧ tt σ2 H2 fun b H3 =>
    if b = true then te σ2 H3 fun y H4 => ∃ acc, H4 D = some (.lst acc) ∧ acc.length < sizeLine ∧ Nx (upd H4 D (.lst (acc ++ [y]))) else Nx H3)) : tLc wi g tt te vs σ H Q := k
/-- a comprehension with an invariant; Y: what is asked at the item's end, N: when the item is left out -/
theorem lc_in {J : It} {H1 : Hp} {g : TG} {tt : TT} {vs : List Nat} {DD : Addr} {Qf : Hp → Prop} (n : Nat) (hn : n ≤ 100000) (I : Nat → List V → Hp → Prop) (h0 : I 0 [] (upd H1 DD (.lst [])))
    (step : ∀ i acc H (Y : V → Hp → Prop) (N : Hp → Prop), i < n → I i acc H → H DD = some (.lst acc) → (∀ y H4, H4 DD = some (.lst acc) → I (i + 1) (acc ++ [y]) (upd H4 DD (.lst (acc ++ [y]))) → Y y H4) → (∀ H3, H3 DD = some (.lst acc) → I (i + 1) acc H3 → N H3) →
      J.go i H ∧ ∀ x H', J.yld i H x H' → g x (wipe σ vs) H' fun σ2 H2 => wipe σ2 vs = wipe σ vs ∧ tt σ2 H2 fun b H3 => if b = true then te σ2 H3 Y else N H3)
    (fin : ∀ acc H, I n acc H → H DD = some (.lst acc) → J.stop n H ∧ Qf H) : ∃ W : Nat → Nat → Hp → Prop, (∃ m, W 0 m (upd H1 DD (.lst []))) ∧ ∀ i m H, W i m H →
  (J.stop i H ∧ Qf H) ∨ (J.go i H ∧ ∃ Nx : Hp → Prop, (∀ H', Nx H' → ∃ m', m' < m ∧ W (i + 1) m' H') ∧ ∀ x H', J.yld i H x H' → g x (wipe σ vs) H' fun σ2 H2 => wipe σ2 vs = wipe σ vs ∧ tt σ2 H2 fun b H3 =>
    if b = true then te σ2 H3 fun y H4 => ∃ acc, H4 DD = some (.lst acc) ∧ acc.length < sizeLine ∧ Nx (upd H4 DD (.lst (acc ++ [y]))) else Nx H3) := by
  refine ⟨fun i m H => i + m = n ∧ ∃ acc : List V, acc.length ≤ i ∧ H DD = some (.lst acc) ∧ I i acc H, ⟨n, by omega, [], by simp, upd_same, h0⟩, fun i m H ⟨e, acc, hl, hD, hI⟩ => ?_⟩
  by_cases hi : i < n
  · obtain ⟨s1, s2⟩ := step i acc H (fun y H4 => ∃ acc, H4 DD = some (.lst acc) ∧ acc.length < sizeLine ∧ (∃ acc' : List V, acc'.length ≤ i + 1 ∧ (upd H4 DD (.lst (acc ++ [y]))) DD = some (.lst acc') ∧ I (i + 1) acc' (upd H4 DD (.lst (acc ++ [y])))))
      (fun H' => ∃ acc : List V, acc.length ≤ i + 1 ∧ H' DD = some (.lst acc) ∧ I (i + 1) acc H') hi hI hD
      (fun y H4 h1 h2 => ⟨acc, h1, smaller (by omega), acc ++ [y], by simp; omega, upd_same, h2⟩) (fun H3 h1 h2 => ⟨acc, by omega, h1, h2⟩)
    exact .inr ⟨s1, (fun H' => ∃ acc : List V, acc.length ≤ i + 1 ∧ H' DD = some (.lst acc) ∧ I (i + 1) acc H'), fun H' h => ⟨m - 1, by omega, by omega, h⟩, s2⟩
  · have : i = n := by omega
    subst this
    exact .inl (fin acc H hI hD)
/-- a comprehension whose items only let the heap grow: f tells each item's value, or none where it is left out -/
theorem lc_pure {J : It} {H1 : Hp} {g : TG} {tt : TT} {vs : List Nat} {DD : Addr} {Qf : Hp → Prop} (n : Nat) (hn : n ≤ 100000) (f : Nat → Option V) (hD : H1 DD = none)
    (step : ∀ i H (Y : V → Hp → Prop) (N : Hp → Prop), i < n → Ex H1 H → (∀ y H4, f i = some y → Ex H H4 → Y y H4) → (∀ H3, f i = none → Ex H H3 → N H3) →
      J.go i H ∧ ∀ x H', J.yld i H x H' → g x (wipe σ vs) H' fun σ2 H2 => wipe σ2 vs = wipe σ vs ∧ tt σ2 H2 fun b H3 => if b = true then te σ2 H3 Y else N H3)
    (fin : ∀ H, Ex H1 H → H DD = some (.lst ((List.range n).filterMap f)) → J.stop n H ∧ Qf H) : ∃ W : Nat → Nat → Hp → Prop, (∃ m, W 0 m (upd H1 DD (.lst []))) ∧ ∀ i m H, W i m H →
  (J.stop i H ∧ Qf H) ∨ (J.go i H ∧ ∃ Nx : Hp → Prop, (∀ H', Nx H' → ∃ m', m' < m ∧ W (i + 1) m' H') ∧ ∀ x H', J.yld i H x H' → g x (wipe σ vs) H' fun σ2 H2 => wipe σ2 vs = wipe σ vs ∧ tt σ2 H2 fun b H3 =>
    if b = true then te σ2 H3 fun y H4 => ∃ acc, H4 DD = some (.lst acc) ∧ acc.length < sizeLine ∧ Nx (upd H4 DD (.lst (acc ++ [y]))) else Nx H3) := by
  refine lc_in n hn (fun i acc H => Ex H1 H ∧ acc = (List.range i).filterMap f) ⟨Ex.new (Ex.refl _) hD, by simp⟩ (fun i acc H Y N hi ⟨hE, ha⟩ hDD hY hN => ?_) (fun acc H ⟨hE, ha⟩ hDD => fin H hE (by rw [hDD, ha]))
  refine step i H Y N hi hE (fun y H4 hf e4 => hY y H4 (e4 _ _ hDD) ⟨Ex.wr (hE.trans e4) hD, ?_⟩) (fun H3 hf e3 => hN H3 (e3 _ _ hDD) ⟨hE.trans e3, ?_⟩)
  · rw [List.range_succ, List.filterMap_append, ha]; simp [hf]
  · rw [List.range_succ, List.filterMap_append, ha]; simp [hf]
theorem r_nx {f ct bk : L2.St → Hp → Prop} {rt : V → Hp → Prop} (k : f σ H) : Ends.nx { nx := f, ct := ct, bk := bk, rt := rt } σ H := k
theorem r_ct {f ct bk : L2.St → Hp → Prop} {rt : V → Hp → Prop} (k : ct σ H) : Ends.ct { nx := f, ct := ct, bk := bk, rt := rt } σ H := k
theorem r_bk {f ct bk : L2.St → Hp → Prop} {rt : V → Hp → Prop} (k : bk σ H) : Ends.bk { nx := f, ct := ct, bk := bk, rt := rt } σ H := k
theorem r_rt {f ct bk : L2.St → Hp → Prop} {rt : V → Hp → Prop} {v : V} (k : rt v H) : Ends.rt { nx := f, ct := ct, bk := bk, rt := rt } v H := k
theorem r_yes {R : Bool → Hp → Prop} (k : R true H) : tYes σ H R := k
theorem iT {A B : Prop} {inst : Decidable (true = true)} (h : A) : @ite Prop (true = true) inst A B := by rw [if_pos rfl]; exact h
theorem iF {A B : Prop} {inst : Decidable (false = true)} (h : B) : @ite Prop (false = true) inst A B := by rw [if_neg Bool.false_ne_true]; exact h
theorem iNT {A B : Prop} {inst : Decidable ((!true) = true)} (h : B) : @ite Prop ((!true) = true) inst A B := by cases inst with
  | isTrue z => exact absurd z Bool.false_ne_true
  | isFalse _ => exact h
theorem iNF {A B : Prop} {inst : Decidable ((!false) = true)} (h : A) : @ite Prop ((!false) = true) inst A B := by cases inst with
  | isTrue _ => exact h
  | isFalse z => exact absurd (show (!false) = true from rfl) z
theorem r_len {xs : List V} {a : Addr} (h : SqL K H a xs ∨ SqT K H a xs) (k : Q (.int (xs.length : Int)) H) : ∃ p ys, [V.ref a] = [.ref p] ∧ (SqL K H p ys ∨ SqT K H p ys) ∧ Q (.int ys.length) H := ⟨a, xs, rfl, h, k⟩
theorem v_isiD {v : V} {d : PyData} (h : Dp K H v d) (k : Q (.bl (is_int d)) H) : rIsiU K [v, .ty "int"] H Q := v_isi (.ty _) (tyX_of h) (k_int d) k
theorem v_isbD {v : V} {d : PyData} (h : Dp K H v d) (k : Q (.bl (is_bool d)) H) : rIsiU K [v, .ty "bool"] H Q := v_isi (.ty _) (tyX_of h) (k_bool d) k
theorem v_istD {v : V} {d : PyData} (h : Dp K H v d) (k : Q (.bl (is_tuple d)) H) : rIsiU K [v, .ty "tuple"] H Q := v_isi (.ty _) (tyX_of h) (k_tuple d) k
theorem nat_at {α : Type} {xs : List α} {i : Nat} {x : α} (h : xs[i]? = some x) : atI xs (i : Int) = some x := by
  have hi := (List.getElem?_eq_some_iff.mp h).1
  unfold atI ixN
  rw [if_pos (by omega), if_pos (by omega)]
  show xs[(i : Int).toNat]? = _
  rw [Int.toNat_natCast]; exact h
end
end A
set_option Elab.async false
set_option linter.all false
set_option maxRecDepth 100000
set_option maxHeartbeats 4000000
set_option autoImplicit false
/-! The rules with the frag named (a comprehension's parts must not name their own context). -/
namespace A
open PySem PySem.Spec PyProof.Rows L2
section
variable {X : Cx} {K : PySem.W.Frag}
theorem kOp {op : Value → Value → Sem Value} {f : PySem.W.Frag → R2} (hK : X.K = K) (h : OpR X op (f X.K)) : OpR X op (f K) := hK ▸ h
theorem kIx {f : PySem.W.Frag → R2} (hK : X.K = K) (h : IxR X (f X.K)) : IxR X (f K) := hK ▸ h
theorem kSl {f : PySem.W.Frag → V → Option Int → Option Int → Hp → VK → Prop} (hK : X.K = K) (h : L2.SlR X (f X.K)) : L2.SlR X (f K) := hK ▸ h
theorem kCall {g : Value} {f : PySem.W.Frag → List V → Hp → VK → Prop} (hK : X.K = K) (h : CallR X g (f X.K)) : CallR X g (f K) := hK ▸ h
theorem kMt {id : String} {f : PySem.W.Frag → V → List V → Hp → VK → Prop} (hK : X.K = K) (h : MtR X id (f X.K)) : MtR X id (f K) := hK ▸ h
theorem kPI {tg it : Expr} {f : PySem.W.Frag → TI} (hK : X.K = K) (h : PI X tg it (f X.K)) : PI X tg it (f K) := hK ▸ h
theorem kPE {e : Expr} {f : PySem.W.Frag → TE} (hK : X.K = K) (h : PE X e (f X.K)) : PE X e (f K) := hK ▸ h
theorem kPG {e : Expr} {f : PySem.W.Frag → TG} (hK : X.K = K) (h : PG X e (f X.K)) : PG X e (f K) := hK ▸ h
def rLenU (K : PySem.W.Frag) : List V → Hp → VK → Prop := fun xs H Q => ∃ p ys, xs = [.ref p] ∧ (SqL K H p ys ∨ SqT K H p ys) ∧ Q (.int ys.length) H
def rListU (K : PySem.W.Frag) : List V → Hp → VK → Prop := fun xs H Q => ∃ p ys, xs = [.ref p] ∧ (SqL K H p ys ∨ SqT K H p ys) ∧ ∀ l, H l = none → Q (.ref l) (upd H l (.lst ys))
def rTupU (K : PySem.W.Frag) : List V → Hp → VK → Prop := fun xs H Q => ∃ p ys, xs = [.ref p] ∧ ((SqL K H p ys ∧ ∀ l, H l = none → Q (.ref l) (upd H l (.tup ys))) ∨ (SqT K H p ys ∧ Q (.ref p) H))
theorem c_len (hK : X.K = K) : CallR X (.builtin "len") (rLenU K) := hK ▸ call_len_seq
def rInt1 : List V → Hp → VK → Prop := fun xs H Q => (∃ i, xs = [.int i] ∧ Q (.int i) H) ∨ ∃ k, xs = [.bl k] ∧ Q (.int (if k then 1 else 0)) H
def rAbs : List V → Hp → VK → Prop := fun xs H Q => ∃ i, xs = [.int i] ∧ Q (.int (if i < 0 then -i else i)) H
theorem c_int : CallR X (.type "int") rInt1 := call_int1
theorem c_abs : CallR X (.builtin "abs") rAbs := call_abs
theorem r_int1 {i : Int} {H : Hp} {Q : VK} (k : Q (.int i) H) : rInt1 [.int i] H Q := .inl ⟨i, rfl, k⟩
theorem r_abs {i : Int} {H : Hp} {Q : VK} (k : Q (.int (if i < 0 then -i else i)) H) : rAbs [.int i] H Q := ⟨i, rfl, k⟩
theorem c_list (hK : X.K = K) : CallR X (.type "list") (rListU K) := hK ▸ call_list_of
theorem c_tuple (hK : X.K = K) : CallR X (.type "tuple") (rTupU K) := hK ▸ call_tuple_of
theorem c_isi (hK : X.K = K) : CallR X (.builtin "isinstance") (rIsiU K) := hK ▸ call_isiU
theorem c_sorted (hK : X.K = K) : CallR X (.builtin "sorted") (rSortedU K) := hK ▸ cr_sortedU
theorem c_repr (hg : X.A.guards = some []) (hu : X.A.units + 102 < cLine) (hK : X.K = K) : CallR X (.builtin "repr") (rRepr K) := hK ▸ cr_repr hg hu
theorem c_all (hc : X.calm = true) (hK : X.K = K) : CallR X (.builtin "all") (rAll K) := hK ▸ cr_all hc
theorem o_add (hK : X.K = K) : OpR X (binaryOp .Add) (rAddU K) := hK ▸ op_addU
theorem o_mul (hK : X.K = K) : OpR X (binaryOp .Mult) (rMulU K) := hK ▸ op_mulU
theorem o_eq (hu : X.A.units + 64 < cLine) (hK : X.K = K) : OpR X (compareOp .Eq) (rEqD K) := hK ▸ op_eqD hu
theorem o_ne (hu : X.A.units + 64 < cLine) (hK : X.K = K) : OpR X (compareOp .NotEq) (rNeD K) := hK ▸ op_neD hu
theorem o_in (hu : X.A.units + 65 < cLine) (hK : X.K = K) : OpR X (compareOp .In) (rInD K) := hK ▸ op_inD hu
theorem o_nin (hu : X.A.units + 65 < cLine) (hK : X.K = K) : OpR X (compareOp .NotIn) (rNotInD K) := hK ▸ op_notInD hu
def rIsN : R2 := fun x y H Q => y = .non ∧ Q (.bl (decide (x = .non))) H
def rNotN : R2 := fun x y H Q => y = .non ∧ Q (.bl (!decide (x = .non))) H
theorem o_isN : OpR X (compareOp .Is) rIsN := op_isN
theorem o_notN : OpR X (compareOp .IsNot) rNotN := op_notN
theorem o_ix (hK : X.K = K) : IxR X (rIx K) := hK ▸ ix_seq
theorem o_sl (hK : X.K = K) : L2.SlR X (rSlU K) := hK ▸ sl_U
theorem m_index (hu : X.A.units + 65 < cLine) (hK : X.K = K) : MtR X "list.index" (rIndexD K) := hK ▸ mt_indexD hu
def rIns : V → List V → Hp → VK → Prop := fun x vs H Q => ∃ (l : Addr) (xs : List V) (i : Int) (y : V), x = .ref l ∧ vs = [.int i, y] ∧ H l = some (.lst xs) ∧ xs.length < sizeLine ∧ 0 ≤ i ∧ i < 2 ^ 63 ∧
    Q .non (upd H l (.lst (xs.take i.toNat ++ [y] ++ xs.drop i.toNat)))
theorem m_insert {X : Cx} : MtR X "list.insert" rIns := mt_insert (X := X)
theorem v_ins {l : Addr} {xs : List V} {i : Nat} {y : V} {H : Hp} {Q : VK} (h : H l = some (.lst xs)) (hl : xs.length < 100000) (hi : i ≤ 100000) (k : Q .non (upd H l (.lst (xs.take i ++ [y] ++ xs.drop i)))) : rIns (.ref l) [.int (i : Nat), y] H Q :=
  ⟨l, xs, i, y, rfl, rfl, h, smaller hl, by omega, by omega, by rw [Int.toNat_natCast]; exact k⟩
theorem p_seq {tg l : Expr} {tl : TE} (hl : PE X l tl) (hK : X.K = K) : PI X tg l (iSeq K tl) := hK ▸ pi_seq hl
theorem p_enum {e : Expr} {ta : TA} {p pos tpos : Pos} {elts : List Expr} {kk : Nat} (hg : Gl X "enumerate") (hm : X.mg "enumerate" = none) (ha : PA X [e] ta) (hK : X.K = K) (hs : starEach [e] X.env = [(false, eval e X.env)] := by rfl) :
    PI X (.Tuple elts kk tpos) (.Call (.Name "enumerate" p) [e] [] pos) (iEnumU K ta) := hK ▸ pi_enumU hg hm ha hs
theorem p_tup {es : List Expr} {k : Nat} {t : TGs} {n : Nat} {pos : Pos} (hc : X.calm = true) (h : PGs X es t) (hK : X.K = K)
    (hn : (assignEach es X.env).length = n := by rfl) (hst : (assignEach es X.env).findIdx? (·.1) = none := by rfl) : PG X (.Tuple es k pos) (gTup K n t) := hK ▸ pg_tup hc h hn hst
theorem v_slL {a : Addr} {xs : List V} {lo hi : Option Int} {H : Hp} {Q : VK} (h : SqL K H a xs) (k : ∀ p, H p = none → Q (.ref p) (upd H p (.lst (cutV xs lo hi)))) : rSlU K (.ref a) lo hi H Q := .inl ⟨a, xs, rfl, h, k⟩
theorem v_slT {a : Addr} {xs : List V} {lo hi : Option Int} {H : Hp} {Q : VK} (h : SqT K H a xs) (k : ∀ p H', Ex H H' → SqT K H' p (cutV xs lo hi) → Q (.ref p) H') : rSlU K (.ref a) lo hi H Q :=
  .inr ⟨a, xs, rfl, h, fun ⟨z1, z2⟩ => k a H (Ex.refl H) (by unfold cutV; rw [z1, z2, List.drop_zero, Nat.sub_zero, List.take_length]; exact h), fun _ p hp => k p _ (Ex.new (Ex.refl H) hp) (.inl (.inl upd_same))⟩
theorem v_catT {a b : Addr} {xs ys : List V} {H : Hp} {Q : VK} (h : SqT K H a xs) (h' : SqT K H b ys) (hl : xs.length + ys.length ≤ sizeLine) (k : ∀ p H', Ex H H' → SqT K H' p (xs ++ ys) → Q (.ref p) H') : rAddU K (.ref a) (.ref b) H Q :=
  .inr (.inr (.inl ⟨a, b, xs, ys, rfl, rfl, h, h', hl, fun e => k b H (Ex.refl H) (by rw [e]; exact h'), fun _ e => k a H (Ex.refl H) (by rw [e, List.append_nil]; exact h), fun _ _ p hp => k p _ (Ex.new (Ex.refl H) hp) (.inl (.inl upd_same))⟩))
theorem v_tupL {a : Addr} {xs : List V} {H : Hp} {R : V → Hp → Prop} (h : SqL K H a xs) (k : ∀ p H', Ex H H' → SqT K H' p xs → R (.ref p) H') : rTupU K [.ref a] H R := ⟨a, xs, rfl, .inl ⟨h, fun l hl => k l _ (Ex.new (Ex.refl H) hl) (.inl (.inl upd_same))⟩⟩
theorem v_lstU {a : Addr} {xs : List V} {H : Hp} {R : V → Hp → Prop} (h : SqL K H a xs ∨ SqT K H a xs) (k : ∀ l, H l = none → R (.ref l) (upd H l (.lst xs))) : rListU K [.ref a] H R := ⟨a, xs, rfl, h, k⟩
theorem v_len {a : Addr} {xs : List V} {H : Hp} {Q : VK} (h : SqL K H a xs ∨ SqT K H a xs) (k : Q (.int (xs.length : Int)) H) : rLenU K [.ref a] H Q := ⟨a, xs, rfl, h, k⟩
theorem cut_from {xs : List V} {n : Nat} (h : n ≤ xs.length) : cutV xs (some (n : Int)) none = xs.drop n := by
  unfold cutV
  rw [HT.sIx_nat, HT.sIx_none, Nat.min_eq_left h, List.take_of_length_le (by simp)]
theorem cut_to {xs : List V} {n : Nat} (h : n ≤ xs.length) : cutV xs none (some (n : Int)) = xs.take n := by
  unfold cutV
  rw [HT.sIx_nat, HT.sIx_none, Nat.min_eq_left h]; simp
theorem cut_mid {xs : List V} {m n : Nat} (h : m ≤ xs.length) (h' : n ≤ xs.length) : cutV xs (some (m : Int)) (some (n : Int)) = (xs.drop m).take (n - m) := by
  unfold cutV
  rw [HT.sIx_nat, HT.sIx_nat, Nat.min_eq_left h, Nat.min_eq_left h']
theorem r_isN {x : V} {H : Hp} {Q : VK} (k : Q (.bl (decide (x = .non))) H) : rIsN x .non H Q := ⟨rfl, k⟩
theorem r_notN {x : V} {H : Hp} {Q : VK} (k : Q (.bl (!decide (x = .non))) H) : rNotN x .non H Q := ⟨rfl, k⟩
theorem r_lstRg1 {ta : TE} {σ : L2.St} {H : Hp} {Q : VK} (k : ta σ H fun x H1 => ∃ n, x = .int n ∧ (RgOk 0 n ∧ ∀ q, H1 q = none → Q (.ref q) (upd H1 q (.lst (rgV 0 n))))) : tLstRg (tRg1 ta) σ H Q := k
/-- what is known of an expression's value, then on -/
theorem cutE (te : TE) {σ : L2.St} {H : Hp} {R : VK} (P : V → Hp → Prop) (h1 : ∀ R' : VK, (∀ x H', P x H' → R' x H') → te σ H R') (h2 : ∀ x H', P x H' → R x H') : te σ H R := h1 R h2
theorem cutT (tt : TT) {σ : L2.St} {H : Hp} {R : Bool → Hp → Prop} (P : Bool → Hp → Prop) (h1 : ∀ R' : Bool → Hp → Prop, (∀ x H', P x H' → R' x H') → tt σ H R') (h2 : ∀ x H', P x H' → R x H') : tt σ H R := h1 R h2
theorem cutA (ta : TA) {σ : L2.St} {H : Hp} {R : List V → Hp → Prop} (P : List V → Hp → Prop) (h1 : ∀ R' : List V → Hp → Prop, (∀ x H', P x H' → R' x H') → ta σ H R') (h2 : ∀ x H', P x H' → R x H') : ta σ H R := h1 R h2
theorem cutS (ts : TS) {D : Ends} {σ : L2.St} {H : Hp} (P : L2.St → Hp → Prop) (h1 : ∀ nx : L2.St → Hp → Prop, (∀ σ' H', P σ' H' → nx σ' H') → ts { D with nx := nx } σ H) (h2 : ∀ σ' H', P σ' H' → D.nx σ' H') : ts D σ H := h1 D.nx h2
def rMax2 : List V → Hp → VK → Prop := fun xs H Q => ∃ i j, xs = [.int i, .int j] ∧ Q (.int (if j > i then j else i)) H
def rMin2 : List V → Hp → VK → Prop := fun xs H Q => ∃ i j, xs = [.int i, .int j] ∧ Q (.int (if j < i then j else i)) H
theorem c_max2 {X : Cx} (hc : X.calm = true) : CallR X (.builtin "max") rMax2 := call_max2 hc
theorem c_min2 {X : Cx} (hc : X.calm = true) : CallR X (.builtin "min") rMin2 := call_min2 hc
theorem r_max2 {i j : Int} {H : Hp} {Q : VK} (k : Q (.int (if j > i then j else i)) H) : rMax2 [.int i, .int j] H Q := ⟨i, j, rfl, k⟩
theorem r_min2 {i j : Int} {H : Hp} {Q : VK} (k : Q (.int (if j < i then j else i)) H) : rMin2 [.int i, .int j] H Q := ⟨i, j, rfl, k⟩
theorem r_isB {a b : Bool} {H : Hp} {Q : VK} (k : Q (.bl (decide (a = b))) H) : rIsB (.bl a) (.bl b) H Q := ⟨a, b, rfl, rfl, k⟩
theorem r_notB {a b : Bool} {H : Hp} {Q : VK} (k : Q (.bl (!decide (a = b))) H) : rNotB (.bl a) (.bl b) H Q := ⟨a, b, rfl, rfl, k⟩
theorem r_par3 {i j l : Nat} {ta : TA} {σ : L2.St} {H : Hp} {D : Ends} (k : ta σ H fun vs H1 => ∃ u v w, vs = [u, v, w] ∧ D.nx (((σ.set i (some u)).set j (some v)).set l (some w)) H1) : tPar3 i j l ta D σ H := k
theorem v_par3 {R : V → V → V → Prop} {u v w : V} (k : R u v w) : ∃ a b c, [u, v, w] = [a, b, c] ∧ R a b c := ⟨u, v, w, rfl, k⟩
theorem v_ext {l b : Addr} {xs zs : List V} {H : Hp} {Q : VK} (h : H l = some (.lst xs)) (h' : H b = some (.lst zs)) (hl : xs.length + zs.length ≤ 100000) (k : Q .non (upd H l (.lst (xs ++ zs)))) : rExtend (.ref l) [.ref b] H Q := ⟨l, b, xs, zs, rfl, rfl, h, h', small hl, k⟩
theorem v_pop {l : Addr} {xs : List V} {y : V} {H : Hp} {Q : VK} (h : H l = some (.lst (xs ++ [y]))) (k : Q y (upd H l (.lst xs))) : rPop (.ref l) [] H Q := ⟨l, _, y, rfl, rfl, h, by simp, by rw [List.dropLast_concat]; exact k⟩
theorem r_isNi {i : Int} {H : Hp} {Q : VK} (k : Q (.bl false) H) : rIsN (.int i) .non H Q := ⟨rfl, k⟩
theorem r_isNr {a : Addr} {H : Hp} {Q : VK} (k : Q (.bl false) H) : rIsN (.ref a) .non H Q := ⟨rfl, k⟩
theorem r_isNn {H : Hp} {Q : VK} (k : Q (.bl true) H) : rIsN .non .non H Q := ⟨rfl, k⟩
theorem r_notNi {i : Int} {H : Hp} {Q : VK} (k : Q (.bl true) H) : rNotN (.int i) .non H Q := ⟨rfl, k⟩
theorem r_notNr {a : Addr} {H : Hp} {Q : VK} (k : Q (.bl true) H) : rNotN (.ref a) .non H Q := ⟨rfl, k⟩
theorem r_notNn {H : Hp} {Q : VK} (k : Q (.bl false) H) : rNotN .non .non H Q := ⟨rfl, k⟩
end
section
variable {X : Cx} {K : PySem.W.Frag} {o e : Expr} {es : List Expr} {to : TE} {t : TA} {T : String} {name : Str} {id : String} {apos cpos : Pos} {r : V → List V → Hp → VK → Prop}
theorem e_bm0 (pa : PlainAttrs T) (slot : Slot T name id) (hty : typeOf (.builtin id) = pure (.type "method_descriptor")) (hm : MtR X id r) (ho : PE X o to) (hK : X.K = K)
    (hbase : attributeBase o name X.env (eval o X.env) = eval o X.env := by rfl) (hline : (apos.endLine == cpos.line) = true := by rfl) : PE X (.Call (.Attribute o name apos) [] [] cpos) (tBM0 K T r to) := hK ▸ pe_bm0 pa slot hty hm ho hbase hline
theorem e_bm (pa : PlainAttrs T) (slot : Slot T name id) (hty : typeOf (.builtin id) = pure (.type "method_descriptor")) (hm : MtR X id r) (ho : PE X o to) (ha : PA X (e :: es) t) (hK : X.K = K)
    (hbase : attributeBase o name X.env (eval o X.env) = eval o X.env := by rfl)
    (hfew : ((backTo cpos (starEach (e :: es) X.env)).all (fun x => !x.1) && (backToKw cpos (keywordEach [] X.env)).all (fun x => x.1.isSome)
      && decide ((e :: es).length + ([] : List Keyword).length + (if ([] : List Keyword).isEmpty then 0 else 1) < 30)) = true := by rfl)
    (hline : (apos.endLine == cpos.line) = true := by rfl) (hs : starEach (e :: es) X.env = (false, eval e X.env) :: starEach es X.env := by rfl) (hplain : (backTo cpos (starEach es X.env)).any (·.1) = false := by rfl) :
    PE X (.Call (.Attribute o name apos) (e :: es) [] cpos) (tBM K T r to t) := hK ▸ pe_bm pa slot hty hm ho ha hbase hfew hline hs hplain
end
end A
set_option Elab.async false
set_option linter.all false
set_option maxRecDepth 100000
set_option maxHeartbeats 4000000
set_option autoImplicit false
/-! Data that may be compared and shown. -/
namespace A
open PySem PySem.Spec PyProof.Rows L2
/-- depth at most k, its text at most n long -/
structure Gd (k n : Nat) (d : PyData) : Prop where
  lay : d.canLay0 = true
  dep : d.depth ≤ k
  sh : d.showable = true
  nd : d.hasDict = false
  len : d.shown.length ≤ n
theorem Gd.mono {k n k' n' : Nat} {d : PyData} (h : Gd k n d) (h1 : k ≤ k') (h2 : n ≤ n') : Gd k' n' d := ⟨h.lay, Nat.le_trans h.dep h1, h.sh, h.nd, Nat.le_trans h.len h2⟩
theorem Gd.shaped {k n : Nat} {d : PyData} (h : Gd k n d) (hk : k ≤ 64) : SeqAt.shaped d = true := by
  unfold SeqAt.shaped; rw [h.lay, decide_eq_true (Nat.le_trans h.dep hk)]; rfl
theorem gd_non : Gd 0 24 .none := ⟨rfl, by decide, rfl, by simp only [PyData.hasDict], by decide⟩
theorem gd_bl (b : Bool) : Gd 0 24 (.bool b) := ⟨rfl, by simp [PyData.depth], rfl, by simp only [PyData.hasDict], by cases b <;> decide⟩
theorem gd_int {i : Int} (h : i.natAbs < 10 ^ 18) : Gd 0 24 (.int i) := by
  refine ⟨rfl, by simp [PyData.depth], ?_, by simp only [PyData.hasDict], ?_⟩
  · have h2 : i.natAbs.log2 < 60 := PySem.Flt.log2_lt_of (by decide) (by omega)
    simp only [PyData.showable]
    exact decide_eq_true (by omega)
  · have h1 := PySem.int_text_length_le10 (a := i) (k := 18) (by decide) h
    have e : (PyData.shown (.int i)).length = (toString i).length := by
      simp only [PyData.shown]
      exact PySem.ofString_length _
    omega
theorem gd_all {k n : Nat} : ∀ {ds : List PyData}, (∀ d ∈ ds, Gd k n d) → PyData.canLayAll0 ds = true ∧ PyData.depthAll ds ≤ k ∧ PyData.showableAll ds = true ∧ PyData.hasDictAll ds = false ∧ piled (PyData.shownAll ds) ≤ ds.length * (n + 2) ∧ (PyData.shownAll ds).length = ds.length
  | [], _ => ⟨by simp only [PyData.canLayAll0], by simp [PyData.depthAll], by simp only [PyData.showableAll], by simp only [PyData.hasDictAll], by simp [PyData.shownAll, piled], by simp [PyData.shownAll]⟩
  | d :: ds, h => by
    obtain ⟨h1, h2, h3, h4, h5, h6⟩ := gd_all (ds := ds) fun x hx => h x (List.mem_cons_of_mem _ hx)
    have g := h d List.mem_cons_self
    refine ⟨?_, ?_, ?_, ?_, ?_, ?_⟩
    · simp only [PyData.canLayAll0, g.lay, h1, Bool.and_self]
    · simp only [PyData.depthAll]; have := g.dep; omega
    · simp only [PyData.showableAll, g.sh, h3, Bool.and_self]
    · simp only [PyData.hasDictAll, g.nd, h4, Bool.or_self]
    · simp only [PyData.shownAll, piled_cons, List.length_cons]
      have := g.len
      rw [Nat.add_mul]; omega
    · simp [PyData.shownAll, h6]
theorem gd_tup {k n m : Nat} {ds : List PyData} (h : ∀ d ∈ ds, Gd k n d) (hl : ds.length ≤ m) : Gd (k + 1) (m * (n + 2) + 3) (.tuple ds) := by
  obtain ⟨h1, h2, h3, h4, h5, h6⟩ := gd_all h
  refine ⟨by simpa [PyData.canLay0] using h1, by simp only [PyData.depth]; omega, by simpa [PyData.showable] using h3, by simpa [PyData.hasDict] using h4, ?_⟩
  simp only [PyData.shown]
  unfold tupleText
  rw [strLen_append, strLen_append]
  have e1 : ((("(" : String) : Str)).length = 1 := rfl
  have e3 : (((if (PyData.shownAll ds).length == 1 then ",)" else ")" : String) : Str)).length ≤ 2 := by split <;> decide
  have e4 : ds.length * (n + 2) ≤ m * (n + 2) := Nat.mul_le_mul_right _ hl
  by_cases hz : PyData.shownAll ds = []
  · rw [hz] at e3 ⊢
    have e5 : (Str.join ", " ([] : List Str)).length = 0 := rfl
    rw [e1, e5]; omega
  · have := join_length_add _ hz
    omega
theorem textFrom_le : ∀ (ts : List Str) (k : Nat) (acc : Str), (textFrom k acc ts).length ≤ acc.length + piled ts
  | [], k, acc => by show acc.length ≤ _; omega
  | t :: r, k, acc => by
    have h1 := textFrom_le r (k + 1) (acc ++ (if k > 0 then ", " else "" : String) ++ t)
    have e : (acc ++ (if k > 0 then ", " else "" : String) ++ t).length ≤ acc.length + 2 + t.length := by
      rw [strLen_append, strLen_append]
      have : (((if k > 0 then ", " else "" : String) : Str)).length ≤ 2 := by split <;> decide
      omega
    show (textFrom (k + 1) _ r).length ≤ _
    rw [piled_cons]
    omega
theorem gd_lst {k n m : Nat} {ds : List PyData} (h : ∀ d ∈ ds, Gd k n d) (hl : ds.length ≤ m) : Gd (k + 1) (m * (n + 2) + 3) (.list ds) := by
  obtain ⟨h1, h2, h3, h4, h5, h6⟩ := gd_all h
  refine ⟨by simpa [PyData.canLay0] using h1, by simp only [PyData.depth]; omega, by simpa [PyData.showable] using h3, by simpa [PyData.hasDict] using h4, ?_⟩
  simp only [PyData.shown]
  unfold listText
  rw [strLen_append]
  have e1 : ((("[" : String) : Str)).length = 1 := rfl
  have e3 : ((("]" : String) : Str)).length = 1 := rfl
  have e4 : ds.length * (n + 2) ≤ m * (n + 2) := Nat.mul_le_mul_right _ hl
  have := textFrom_le (PyData.shownAll ds) 0 "["
  omega
/-- data that the law may compare and show -/
def Ok (d : PyData) : Prop := Gd 60 16000000 d
theorem Ok.shaped {d : PyData} (h : Ok d) : SeqAt.shaped d = true := Gd.shaped h (by decide)
theorem Ok.refl {d : PyData} (h : Ok d) : PyData.eqv d d = true := SeqAt.eqv_refl d h.lay
end A
set_option Elab.async false
set_option linter.all false
set_option maxRecDepth 100000
set_option maxHeartbeats 4000000
set_option autoImplicit false
/-! Comprehensions over a sequence, item by item; stores; the last item. -/
namespace A
open PySem PySem.Spec PyProof.Rows L2
theorem fm_range {α β : Type} (xs : List α) (g : α → Option β) : (List.range xs.length).filterMap (fun j => xs[j]?.bind g) = xs.filterMap g := by
  have h : (List.range xs.length).map (fun j => xs[j]?) = xs.map some := by
    refine List.ext_getElem? fun i => ?_
    by_cases hi : i < xs.length
    · simp [hi]
    · simp [hi]
  have e : (List.range xs.length).filterMap (fun j => xs[j]?.bind g) = ((List.range xs.length).map (fun j => xs[j]?)).filterMap (fun o => o.bind g) := by
    rw [List.filterMap_map]; rfl
  rw [e, h, List.filterMap_map]; rfl
section
variable {σ : L2.St} {H G : Hp} {D : Ends} {Q : VK} {K : PySem.W.Frag} {te : TE}
/-- over a sequence: g tells each item's value, or none where it is left out -/
theorem lc_seq {J : It} {H1 : Hp} {g : TG} {tt : TT} {vs : List Nat} {DD : Addr} {Qf : Hp → Prop} {xs : List V} (hJ : JSeq G J xs) (hG : Ex G H1) (hn : xs.length ≤ 100000) (f : V → Option V) (hD : H1 DD = none)
    (step : ∀ (i : Nat) (x : V) (H : Hp) (Y : V → Hp → Prop) (N : Hp → Prop), xs[i]? = some x → Ex H1 H → (∀ y H4, f x = some y → Ex H H4 → Y y H4) → (∀ H3, f x = none → Ex H H3 → N H3) →
      g x (wipe σ vs) H fun σ2 H2 => wipe σ2 vs = wipe σ vs ∧ tt σ2 H2 fun b H3 => if b = true then te σ2 H3 Y else N H3)
    (fin : ∀ H, Ex H1 H → H DD = some (.lst (xs.filterMap f)) → Qf H) : ∃ W : Nat → Nat → Hp → Prop, (∃ m, W 0 m (upd H1 DD (.lst []))) ∧ ∀ i m H, W i m H →
  (J.stop i H ∧ Qf H) ∨ (J.go i H ∧ ∃ Nx : Hp → Prop, (∀ H', Nx H' → ∃ m', m' < m ∧ W (i + 1) m' H') ∧ ∀ x H', J.yld i H x H' → g x (wipe σ vs) H' fun σ2 H2 => wipe σ2 vs = wipe σ vs ∧ tt σ2 H2 fun b H3 =>
    if b = true then te σ2 H3 fun y H4 => ∃ acc, H4 DD = some (.lst acc) ∧ acc.length < sizeLine ∧ Nx (upd H4 DD (.lst (acc ++ [y]))) else Nx H3) := by
  refine lc_pure xs.length hn (fun j => xs[j]?.bind f) hD (fun i H Y N hi hE hY hN => ?_) (fun H hE hDD => ⟨(hJ H (hG.trans hE)).2, fin H hE (by rw [hDD, fm_range])⟩)
  have hv := List.getElem?_eq_getElem hi
  obtain ⟨h1, h2⟩ := (hJ H (hG.trans hE)).1 i _ hv
  refine ⟨h1, fun x H' hx => ?_⟩
  obtain ⟨rfl, rfl⟩ := h2 x H' hx
  rw [hv] at hY hN
  exact step i _ _ Y N hv hE hY hN
theorem r_gsub {to ti : TE} {t : TSet} {v : V} {R : L2.St → Hp → Prop} (k : to σ H fun o H1 => ti σ H1 fun i H2 => t o i v H2 fun H3 => R σ H3) : gSub to ti t v σ H R := k
theorem v_setL {p : Addr} {xs : List V} {i : Nat} {v : V} {R : Hp → Prop} (h : H p = some (.lst xs)) (hi : i < xs.length) (k : R (upd H p (.lst (xs.set i v)))) : rSetL (.ref p) (.int (i : Nat)) v H R :=
  ⟨p, xs, i, i, rfl, rfl, h, by unfold ixN; rw [if_pos (by omega), if_pos (by omega), Int.toNat_natCast], k⟩
theorem at_last {α : Type} {xs : List α} {x : α} : atI (xs ++ [x]) (-1) = some x := by
  unfold atI ixN
  rw [if_neg (by decide), if_pos (by simp only [List.length_append, List.length_singleton]; omega)]
  show (xs ++ [x])[((-1 : Int) + ((xs ++ [x]).length : Nat)).toNat]? = _
  rw [show ((-1 : Int) + ((xs ++ [x]).length : Nat)).toNat = xs.length by simp only [List.length_append, List.length_singleton]; omega]
  simp
theorem v_rep {p : Addr} {x : V} {n : Nat} (h : H p = some (.lst [x])) (hn : n ≤ 100000) (k : ∀ q, H q = none → Q (.ref q) (upd H q (.lst (List.replicate n x)))) : rMulU K (.ref p) (.int (n : Nat)) H Q := by
  refine .inr (.inl ⟨p, n, [x], rfl, rfl, h, by omega, by omega, small (by simp; omega), fun q hq => ?_⟩)
  have e : (List.replicate (n : Int).toNat [x]).flatten = List.replicate n x := by
    rw [Int.toNat_natCast]
    induction n with
    | zero => rfl
    | succ m ih => rw [List.replicate_succ, List.replicate_succ, List.flatten_cons]; simp
  rw [e]; exact k q hq
end
end A
set_option Elab.async false
set_option linter.all false
set_option maxRecDepth 100000
set_option maxHeartbeats 4000000
set_option autoImplicit false
/-! The law's own state of draws in the heap. -/
namespace A
open PySem PySem.Spec PyProof.Rows L2
def ivs (l : List Int) : List V := l.map V.int
structure Sta where
  (st g c : Addr)
def stK (s : Sta) (lf : Int) (tn : Nat) : List (Key × V) := [(.inr "great", .ref s.g), (.inr "cells", .ref s.c), (.inr "left", .int lf), (.inr "turn", .int (tn : Nat))]
theorem get_great {s : Sta} {lf : Int} {tn : Nat} : valV (stK s lf tn) (.inr "great") = some (.ref s.g) := rfl
theorem get_cells {s : Sta} {lf : Int} {tn : Nat} : valV (stK s lf tn) (.inr "cells") = some (.ref s.c) := rfl
theorem get_left {s : Sta} {lf : Int} {tn : Nat} : valV (stK s lf tn) (.inr "left") = some (.int lf) := rfl
theorem get_turn {s : Sta} {lf : Int} {tn : Nat} : valV (stK s lf tn) (.inr "turn") = some (.int (tn : Nat)) := rfl
theorem put_left {s : Sta} {lf lf' : Int} {tn : Nat} : putK (stK s lf tn) (.inr "left") (.int lf') = stK s lf' tn := rfl
theorem put_turn {s : Sta} {lf : Int} {tn tn' : Nat} : putK (stK s lf tn) (.inr "turn") (.int (tn' : Nat)) = stK s lf tn' := rfl
theorem merge_st {s : Sta} {lf : Int} {tn : Nat} : mergeK [] (stK s lf tn) = stK s lf tn := rfl
theorem r_disp {trs : List (TE × TE)} {σ : L2.St} {H : Hp} {Q : VK} (k : ∀ p, H p = none → tPairs trs σ (upd H p (.dK [])) fun ps H2 => H2 p = some (.dK []) ∧ ∃ kvs : List (Key × V), ps = kvs.map (fun kv => (kV kv.1, kv.2)) ∧ kvs.length ≤ 15 ∧ Q (.ref p) (upd H2 p (.dK (mergeK [] kvs)))) : tDisp trs σ H Q := k
theorem r_pair {tk tv : TE} {r : List (TE × TE)} {σ : L2.St} {H : Hp} {R : List (V × V) → Hp → Prop} (k : tk σ H fun x H1 => tv σ H1 fun y H2 => tPairs r σ H2 fun ps H3 => R ((x, y) :: ps) H3) : tPairs ((tk, tv) :: r) σ H R := k
theorem r_pair0 {σ : L2.St} {H : Hp} {R : List (V × V) → Hp → Prop} (k : R [] H) : tPairs [] σ H R := k
/-- G stands; the state s lies in H and not in G; at most t turns were made -/
structure Wd (G H : Hp) (s : Sta) (t : Nat) : Prop where
  ex : Ex G H
  s0 : G s.st = none
  g0 : G s.g = none
  ne : s.st ≠ s.g
  cs : ∃ cs, G s.c = some (.lst (ivs cs))
  gr : ∃ gr, H s.g = some (.lst (ivs gr))
  sta : ∃ lf tn, tn ≤ t ∧ H s.st = some (.dK (stK s lf tn))
section
variable {G G' H H' : Hp} {s : Sta} {t t' : Nat} {p : Addr} {o : HO} {K : PySem.W.Frag}
theorem Wd.le (w : Wd G H s t) (h : t ≤ t') : Wd G H s t' := ⟨w.ex, w.s0, w.g0, w.ne, w.cs, w.gr, let ⟨lf, tn, a, b⟩ := w.sta; ⟨lf, tn, Nat.le_trans a h, b⟩⟩
theorem Wd.mono (w : Wd G' H s t) (e : Ex G G') (h : ∃ cs, G s.c = some (.lst (ivs cs))) : Wd G H s t := ⟨e.trans w.ex, none_of_ex e w.s0, none_of_ex e w.g0, w.ne, h, w.gr, w.sta⟩
theorem Wd.st_ne (w : Wd G H s t) (h : H p = none) : p ≠ s.st := fun e => by obtain ⟨_, _, _, z⟩ := w.sta; rw [← e, h] at z; cases z
theorem Wd.g_ne (w : Wd G H s t) (h : H p = none) : p ≠ s.g := fun e => by obtain ⟨_, z⟩ := w.gr; rw [← e, h] at z; cases z
theorem Wd.cell (w : Wd G H s t) (h : H p = none) : Wd G (upd H p o) s t :=
  ⟨Ex.new w.ex h, w.s0, w.g0, w.ne, w.cs, let ⟨gr, z⟩ := w.gr; ⟨gr, upd_keep z h⟩, let ⟨lf, tn, a, b⟩ := w.sta; ⟨lf, tn, a, upd_keep b h⟩⟩
theorem Wd.lay (w : Wd G H s t) (h : H p = none) : Wd (upd G p o) (upd H p o) s t :=
  ⟨fun a x q => by
    by_cases hb : a = p
    · subst hb; rw [upd_same] at q ⊢; exact q
    · rw [upd_ne hb] at q ⊢; exact w.ex a x q, by rw [upd_ne (Ne.symm (w.st_ne h))]; exact w.s0, by rw [upd_ne (Ne.symm (w.g_ne h))]; exact w.g0, w.ne, let ⟨cs, z⟩ := w.cs; ⟨cs, upd_keep z (none_of_ex w.ex h)⟩,
    let ⟨gr, z⟩ := w.gr; ⟨gr, upd_keep z h⟩, let ⟨lf, tn, a, b⟩ := w.sta; ⟨lf, tn, a, upd_keep b h⟩⟩
theorem Wd.layG (w : Wd G H s t) (h : H p = none) : Ex G (upd G p o) := Ex.new (Ex.refl G) (none_of_ex w.ex h)
theorem Wd.wr (w : Wd G H s t) (h : G p = none) (h1 : p ≠ s.st) (h2 : p ≠ s.g) : Wd G (upd H p o) s t :=
  ⟨Ex.wr w.ex h, w.s0, w.g0, w.ne, w.cs, let ⟨gr, z⟩ := w.gr; ⟨gr, upd_keep2 (Ne.symm h2) z⟩, let ⟨lf, tn, a, b⟩ := w.sta; ⟨lf, tn, a, upd_keep2 (Ne.symm h1) b⟩⟩
theorem Wd.ext (w : Wd G H s t) (e : Ex H H') : Wd G H' s t := ⟨w.ex.trans e, w.s0, w.g0, w.ne, w.cs, let ⟨gr, z⟩ := w.gr; ⟨gr, e _ _ z⟩, let ⟨lf, tn, a, b⟩ := w.sta; ⟨lf, tn, a, e _ _ b⟩⟩
/-- all but the state -/
def less (s : Sta) (H : Hp) : Hp := fun a => if a = s.st ∨ a = s.g then none else H a
theorem less_of {a : Addr} (h1 : a ≠ s.st) (h2 : a ≠ s.g) : less s H a = H a := by unfold less; rw [if_neg (fun h => h.elim h1 h2)]
theorem ex_less (e : Ex G H) (h1 : G s.st = none) (h2 : G s.g = none) : Ex G (less s H) := fun a x q => by
  rw [less_of (fun z => by rw [z, h1] at q; cases q) (fun z => by rw [z, h2] at q; cases q)]; exact e a x q
theorem less_ex : Ex (less s H) H := fun a x q => by
  unfold less at q
  by_cases h : a = s.st ∨ a = s.g
  · rw [if_pos h] at q; cases q
  · rw [if_neg h] at q; exact q
theorem Wd.all (w : Wd G H s t) : Wd (less s H) H s t ∧ Ex G (less s H) := by
  have e := ex_less w.ex w.s0 w.g0
  exact ⟨⟨less_ex, by unfold less; rw [if_pos (.inl rfl)], by unfold less; rw [if_pos (.inr rfl)], w.ne, let ⟨cs, z⟩ := w.cs; ⟨cs, e _ _ z⟩, w.gr, w.sta⟩, e⟩
theorem Wd.tup (w : Wd G H s t) {xs : List V} (h : SqT K H p xs) : SqT K (less s H) p xs := by
  obtain ⟨gr, z1⟩ := w.gr
  obtain ⟨lf, tn, _, z2⟩ := w.sta
  rcases h with (h | ⟨o, h⟩) | h
  · exact .inl (.inl (by rw [less_of (fun e => by rw [e, z2] at h; cases h) (fun e => by rw [e, z1] at h; cases h)]; exact h))
  · exact .inl (.inr ⟨o, by rw [less_of (fun e => by rw [e, z2] at h; cases h) (fun e => by rw [e, z1] at h; cases h)]; exact h⟩)
  · exact .inr h
theorem Wd.lst (w : Wd G H s t) {xs : List V} (h : H p = some (.lst xs)) (hg : p ≠ s.g) : less s H p = some (.lst xs) := by
  obtain ⟨lf, tn, _, z2⟩ := w.sta
  rw [less_of (fun e => by rw [e, z2] at h; cases h) hg]; exact h
end
section
variable {H : Hp} {a : Addr} {kvs : List (Key × V)} {x : Str} {i : Int} {v : V}
theorem v_dget {R : V → Prop} (h : H a = some (.dK kvs)) (e : valV kvs (.inr x) = some v) (k : R v) : ∃ a' v', V.ref a = .ref a' ∧ DGet H a' (.str x) (some v') ∧ R v' := ⟨a, v, rfl, by rw [← e]; exact DGet.k (k := .inr x) h, k⟩
theorem v_dput {R : Hp → Prop} (h : H a = some (.dK kvs)) (hl : kvs.length < 100000) (k : R (upd H a (.dK (putK kvs (.inr x) v)))) : ∃ a' H4, V.ref a = .ref a' ∧ DPut H a' (.str x) v H4 ∧ R H4 := ⟨a, _, rfl, DPut.k (k := .inr x) h (smaller hl), k⟩
theorem v_dgetI {R : V → Prop} (h : H a = some (.dK kvs)) (e : valV kvs (.inl i) = some v) (k : R v) : ∃ a' v', V.ref a = .ref a' ∧ DGet H a' (.int i) (some v') ∧ R v' := ⟨a, v, rfl, by rw [← e]; exact DGet.k (k := .inl i) h, k⟩
theorem v_dputI {R : Hp → Prop} (h : H a = some (.dK kvs)) (hl : kvs.length < 100000) (k : R (upd H a (.dK (putK kvs (.inl i) v)))) : ∃ a' H4, V.ref a = .ref a' ∧ DPut H a' (.int i) v H4 ∧ R H4 := ⟨a, _, rfl, DPut.k (k := .inl i) h (smaller hl), k⟩
end
theorem eqv_ints : ∀ (a b : List Int), PyData.eqvAll (a.map .int) (b.map .int) = decide (a = b)
  | [], [] => rfl
  | [], y :: b => by simp [PyData.eqvAll]
  | x :: a, [] => by simp [PyData.eqvAll]
  | x :: a, y :: b => by
    have ih := eqv_ints a b
    simp only [List.map_cons, PyData.eqvAll, PyData.eqv]
    rw [ih, Bool.beq_eq_decide_eq, ← Bool.decide_and]
    exact decide_eq_decide.mpr (by simp)
theorem shaped_ints (ns : List Int) : SeqAt.shaped (.list (ns.map .int)) = true := by
  have h : ∀ ns : List Int, PyData.canLayAll0 (ns.map .int) = true ∧ PyData.depthAll (ns.map .int) = 0 := fun ns => by
    induction ns with
    | nil => exact ⟨by simp [PyData.canLayAll0], by simp [PyData.depthAll]⟩
    | cons x r ih => exact ⟨by simp [PyData.canLayAll0, PyData.canLay0, ih.1], by simp [PyData.depthAll, PyData.depth, ih.2]⟩
  unfold SeqAt.shaped
  rw [show (PyData.list (ns.map .int)).canLay0 = PyData.canLayAll0 (ns.map .int) by simp only [PyData.canLay0], (h ns).1, show (PyData.list (ns.map .int)).depth = PyData.depthAll (ns.map .int) + 1 by simp only [PyData.depth], (h ns).2]
  rfl
theorem dp_ints {K : PySem.W.Frag} {H : Hp} {a : Addr} {ns : List Int} (h : SqL K H a (ivs ns)) : Dp K H (.ref a) (.list (ns.map .int)) := .lst h (dpa_ints ns)
theorem pop_first {α : Type} {xs : List α} {x : α} {r : List α} (h : xs = x :: r) : seqIndex? 0 xs.length = some 0 ∧ xs[0]? = some x ∧ xs.eraseIdx 0 = r := by
  subst h
  exact ⟨by unfold seqIndex?; simp, rfl, rfl⟩
end A
set_option Elab.async false
set_option linter.all false
set_option maxRecDepth 100000
set_option maxHeartbeats 4000000
set_option autoImplicit false
/-! The state of draws, and what stands beside it. -/
namespace A
open PySem PySem.Spec PyProof.Rows L2
/-- all but the state's own dict and list stays -/
def Fr (s : Sta) (H H' : Hp) : Prop := Ex (less s H) (less s H')
structure Sw (H : Hp) (s : Sta) (t : Nat) : Prop where
  ne : s.st ≠ s.g
  cs : ∃ cs, less s H s.c = some (.lst (ivs cs))
  gr : ∃ gr, H s.g = some (.lst (ivs gr))
  sta : ∃ lf tn, tn ≤ t ∧ H s.st = some (.dK (stK s lf tn))
section
variable {G H H' H2 : Hp} {s : Sta} {t t' : Nat} {p : Addr} {o : HO} {K : PySem.W.Frag}
theorem Sw.wd (w : Sw H s t) : Wd (less s H) H s t := ⟨less_ex, by unfold less; rw [if_pos (.inl rfl)], by unfold less; rw [if_pos (.inr rfl)], w.ne, w.cs, w.gr, w.sta⟩
theorem Wd.sw (w : Wd G H s t) : Sw H s t := ⟨w.ne, let ⟨cs, z⟩ := w.cs; ⟨cs, w.all.2 _ _ z⟩, w.gr, w.sta⟩
theorem Wd.fr (w : Wd (less s H) H' s t) : Fr s H H' := w.all.2
theorem Sw.le (w : Sw H s t) (h : t ≤ t') : Sw H s t' := ⟨w.ne, w.cs, w.gr, let ⟨lf, tn, a, b⟩ := w.sta; ⟨lf, tn, Nat.le_trans a h, b⟩⟩
theorem Fr.refl (s : Sta) (H : Hp) : Fr s H H := Ex.refl _
theorem Fr.trans (a : Fr s H H') (b : Fr s H' H2) : Fr s H H2 := Ex.trans a b
theorem Fr.of (e : Ex H H') : Fr s H H' := fun a x q => by
  unfold less at q ⊢
  by_cases h : a = s.st ∨ a = s.g
  · rw [if_pos h] at q; cases q
  · rw [if_neg h] at q ⊢; exact e _ _ q
theorem less_none (h : H p = none) : less s H p = none := by
  unfold less
  by_cases h' : p = s.st ∨ p = s.g
  · rw [if_pos h']
  · rw [if_neg h']; exact h
theorem Fr.wr (a : Fr s H H') (h : H p = none) : Fr s H (upd H' p o) := fun b x q => by
  have hb : b ≠ p := fun e => by rw [e, less_none h] at q; cases q
  have := a b x q
  unfold less at this ⊢
  rw [upd_ne hb]; exact this
theorem Fr.new (a : Fr s H H') (h : H' p = none) : Fr s H (upd H' p o) := a.trans (Fr.of (Ex.new (Ex.refl _) h))
theorem Fr.ext (a : Fr s H H') (e : Ex H' H2) : Fr s H H2 := a.trans (Fr.of e)
theorem Fr.at {x : HO} (a : Fr s H H') (h : H p = some x) (h1 : p ≠ s.st) (h2 : p ≠ s.g) : H' p = some x := by
  have := a p x (by rw [less_of h1 h2]; exact h)
  rwa [less_of h1 h2] at this
theorem Sw.st_ne (w : Sw H s t) (h : H p = none) : p ≠ s.st := w.wd.st_ne h
theorem Sw.g_ne (w : Sw H s t) (h : H p = none) : p ≠ s.g := w.wd.g_ne h
theorem Sw.st_lst {xs : List V} (w : Sw H s t) (h : H p = some (.lst xs)) : p ≠ s.st := fun e => by
  obtain ⟨_, _, _, z⟩ := w.sta
  rw [← e, h] at z; cases z
theorem Fr.lst {xs : List V} (a : Fr s H H') (w : Sw H s t) (h : H p = some (.lst xs)) (h2 : p ≠ s.g) : H' p = some (.lst xs) := a.at h (w.st_lst h) h2
theorem Fr.tup {xs : List V} (a : Fr s H H') (w : Sw H s t) (h : SqT K H p xs) : SqT K H' p xs := sqT_ex less_ex (sqT_ex a (w.wd.tup h))
theorem Sw.ext (w : Sw H s t) (e : Ex H H') : Sw H' s t := (w.wd.ext e).sw
theorem Sw.new (w : Sw H s t) (h : H p = none) : Sw (upd H p o) s t := w.ext (Ex.new (Ex.refl _) h)
theorem Sw.wr (w : Sw H s t) (h1 : p ≠ s.st) (h2 : p ≠ s.g) (h3 : p ≠ s.c) : Sw (upd H p o) s t :=
  ⟨w.ne, let ⟨cs, z⟩ := w.cs; ⟨cs, by
    have e1 : s.c ≠ s.st := fun e => by unfold less at z; rw [if_pos (.inl e)] at z; cases z
    have e2 : s.c ≠ s.g := fun e => by unfold less at z; rw [if_pos (.inr e)] at z; cases z
    rw [less_of e1 e2] at z ⊢
    rw [upd_ne (Ne.symm h3)]; exact z⟩, let ⟨gr, z⟩ := w.gr; ⟨gr, upd_keep2 (Ne.symm h2) z⟩, let ⟨lf, tn, a, b⟩ := w.sta; ⟨lf, tn, a, upd_keep2 (Ne.symm h1) b⟩⟩
theorem Sw.c_ne (w : Sw H s t) (h : H p = none) : p ≠ s.c := fun e => by
  obtain ⟨cs, z⟩ := w.cs
  rw [← e, less_none h] at z; cases z
/-- a list of one's own, younger than the state -/
structure Own (s : Sta) (p : Addr) : Prop where
  st : p ≠ s.st
  g : p ≠ s.g
  c : p ≠ s.c
theorem Sw.own (w : Sw H s t) (h : H p = none) : Own s p := ⟨w.st_ne h, w.g_ne h, w.c_ne h⟩
theorem Sw.put (w : Sw H s t) (h : Own s p) : Sw (upd H p o) s t := w.wr h.st h.g h.c
theorem Fr.own {x : HO} (a : Fr s H H') (h : H p = some x) (q : Own s p) : H' p = some x := a.at h q.st q.g
/-- data that stands beside the state -/
theorem Fr.dp {v : V} {d : PyData} (a : Fr s H H') (h : Dp K (less s H) v d) : Dp K (less s H') v d := dp_ex a h
end
end A
set_option Elab.async false
set_option linter.all false
set_option maxRecDepth 100000
set_option maxHeartbeats 4000000
set_option autoImplicit false
/-! Stores beside what stands. -/
namespace A
open PySem PySem.Spec PyProof.Rows L2
section
variable {H : Hp} {s : Sta} {p a : Addr} {K : PySem.W.Frag} {xs ys zs : List V}
theorem tup_put {o : HO} (h : SqT K (less s H) a xs) (hp : H p = some (.lst ys)) : SqT K (less s (upd H p o)) a xs := by
  have go : ∀ x : HO, (∀ ys, x ≠ .lst ys) → less s H a = some x → less s (upd H p o) a = some x := fun x hx q => by
    have hap : a ≠ p := fun e => by
      have := less_ex _ _ q
      rw [e, hp] at this
      exact hx ys (Option.some.inj this).symm
    unfold less at q ⊢
    rw [upd_ne hap]; exact q
  rcases h with (h | ⟨o, h⟩) | h
  · exact .inl (.inl (go _ (fun _ e => by cases e) h))
  · exact .inl (.inr ⟨o, go _ (fun _ e => by cases e) h⟩)
  · exact .inr h
theorem lst_put {o : HO} {x : HO} (h : less s H a = some x) (hp : a ≠ p) : less s (upd H p o) a = some x := by
  unfold less at h ⊢
  rw [upd_ne hp]; exact h
theorem lst_new {o : HO} {x : HO} (h : less s H a = some x) (hp : H p = none) : less s (upd H p o) a = some x :=
  lst_put h fun e => by rw [e, less_none hp] at h; cases h
theorem tup_new {o : HO} (h : SqT K (less s H) a xs) (hp : H p = none) : SqT K (less s (upd H p o)) a xs := sqT_ex ((Fr.refl s H).new hp) h
theorem len2 {u v : V} : [u, v].length ≤ sizeLine := small (by show 2 ≤ 100000; decide)
theorem len3 {u v w : V} : [u, v, w].length ≤ sizeLine := small (by show 3 ≤ 100000; decide)
theorem len4 {u v w x : V} : [u, v, w, x].length ≤ sizeLine := small (by show 4 ≤ 100000; decide)
theorem len1 {u : V} : [u].length ≤ sizeLine := small (by show 1 ≤ 100000; decide)
theorem len5 {u v w x y : V} : [u, v, w, x, y].length ≤ sizeLine := small (by show 5 ≤ 100000; decide)
theorem len7 {u v w x y z a : V} : [u, v, w, x, y, z, a].length ≤ sizeLine := small (by show 7 ≤ 100000; decide)
end
end A
set_option Elab.async false
set_option linter.all false
set_option maxRecDepth 100000
set_option maxHeartbeats 4000000
set_option autoImplicit false
/-! Dicts by get, repr by values, calls with guards. -/
namespace A
open PySem PySem.Spec PyProof.Rows L2
theorem hu102 {A : Around} {k : Nat} (hr : Room k A) : A.units + 102 < cLine := by have := hr.un; omega
section
variable {σ : L2.St} {H : Hp} {Q : VK} {K : PySem.W.Frag} {a : Addr} {kvs : List (Key × V)}
theorem r_dget2 {td ty tx : TE} (k : td σ H fun x H1 => ∃ a, x = .ref a ∧ IsD H1 a ∧ ty σ H1 fun y H2 => tx σ H2 fun z H3 => ∃ o, DGet H3 a y o ∧ Q (o.getD z) H3) : tDGet2 td ty tx σ H Q := k
theorem r_callKK {sp : Sp} {perm : List Nat} {E : XK} {n : Nat} {tk : TA} (k : tk σ H fun zs H1 => zs.length = n ∧ sp (pick perm [] zs) H1 Q E) : tCallKK sp perm E n tk σ H Q := k
def rStr1 : List V → Hp → VK → Prop := fun xs H Q => ∃ i, xs = [.int i] ∧ i.natAbs.log2 < 1920 ∧ Q (.str (toString i)) H
theorem c_str {X : Cx} : CallR X (.type "str") rStr1 := call_str_int
theorem r_str1 {i : Int} {H : Hp} {Q : VK} (h : i.natAbs < 10 ^ 18) (k : Q (.str (toString i)) H) : rStr1 [.int i] H Q := by
  have : i.natAbs.log2 < 60 := PySem.Flt.log2_lt_of (by decide) (by omega)
  exact ⟨i, rfl, by omega, k⟩
theorem strOk_of (s : String) : PyData.strOk (Str.ofString s) = true := by
  unfold PyData.strOk
  rw [PySem.Str.ofString_eq_toList, Array.all_eq_true_iff_forall_mem]
  intro x hx
  simp only [List.mem_toArray, List.mem_map] at hx
  obtain ⟨c, _, rfl⟩ := hx
  have := c.valid
  simp only [UInt32.isValidChar, Nat.isValidChar] at this
  show decide (c.toNat < 0x110000) = true
  have e : c.toNat = c.val.toNat := rfl
  rw [e]
  exact decide_eq_true (by omega)
theorem isD_k (h : H a = some (.dK kvs)) : IsD H a := .inl ⟨kvs, .inl h⟩
theorem v_get2I {i : Int} {R : Option V → Prop} (h : H a = some (.dK kvs)) (k : R (valV kvs (.inl i))) : ∃ o, DGet H a (.int i) o ∧ R o := ⟨valV kvs (.inl i), DGet.k (k := .inl i) h, k⟩
theorem v_repr {x : V} {d : PyData} (h : Dp K H x d) (g : Ok d) (k : Q (.str d.shown) H) : rRepr K [x] H Q := ⟨x, d, rfl, h, g.sh, g.nd, Nat.le_trans g.dep (by decide), Nat.le_trans g.len (by decide), k⟩
theorem r_dnewK (k : ∀ p, H p = none → Q (.ref p) (upd H p (.dK []))) : tDNewK σ H Q := k
theorem v_eqS {x : PySem.Str} (k : Q (.bl true) H) (hs : PyData.strOk x = true) : rEqD K (.str x) (.str x) H Q :=
  ⟨.str x, .str x, .str x, .str x, by unfold SeqAt.shaped; simp [PyData.canLay0, hs, PyData.depth], by unfold SeqAt.shaped; simp [PyData.canLay0, hs, PyData.depth], by rw [SeqAt.eqv_refl _ (by simp [PyData.canLay0, hs])]; exact k⟩
theorem Fr.none {s : Sta} {H H' : Hp} {p : Addr} (a : Fr s H H') (q : Own s p) (h : H' p = none) : H p = none := by
  cases e : H p with
  | none => rfl
  | some x => rw [a.own e q] at h; cases h
end
end A
set_option Elab.async false
set_option linter.all false
set_option maxRecDepth 100000
set_option maxHeartbeats 4000000
set_option autoImplicit false
/-! Tables of code objects beside what stands; an exception held, asked for its class. -/
namespace A
open PySem PySem.Spec PyProof.Rows L2
/-- without the tables -/
def nt (H : Hp) : Hp := fun a => match H a with
  | some (.tbl _) => none
  | x => x
def Lx (s : Sta) (H : Hp) : Hp := nt (less s H)
theorem nt_of {H : Hp} {a : Addr} {o : HO} (h : H a = some o) (n : ∀ ps, o ≠ .tbl ps) : nt H a = some o := by
  unfold nt
  rw [h]
  cases o with
  | tbl ps => exact absurd rfl (n ps)
  | _ => rfl
theorem nt_un {H : Hp} {a : Addr} {o : HO} (h : nt H a = some o) : H a = some o ∧ ∀ ps, o ≠ .tbl ps := by
  unfold nt at h
  cases e : H a with
  | none => rw [e] at h; cases h
  | some x =>
    rw [e] at h
    cases x with
    | tbl ps => cases h
    | _ => cases h; exact ⟨rfl, fun ps z => by cases z⟩
section
variable {H H' : Hp} {s : Sta} {t : Nat} {K : PySem.W.Frag} {p : Addr} {xs : List V}
theorem lx_less : Ex (Lx s H) (less s H) := fun a o h => (nt_un h).1
theorem lx_ex : Ex (Lx s H) H := fun a o h => less_ex _ _ (nt_un h).1
theorem lx_fr (f : Fr s H H') : Ex (Lx s H) (Lx s H') := fun a o h => nt_of (f _ _ (nt_un h).1) (nt_un h).2
theorem lx_extN (e : LamX.ExtN H H') : Ex (Lx s H) (Lx s H') := fun a o h => by
  obtain ⟨h1, h2⟩ := nt_un h
  refine nt_of ?_ h2
  unfold less at h1 ⊢
  by_cases hb : a = s.st ∨ a = s.g
  · rw [if_pos hb] at h1; cases h1
  · rw [if_neg hb] at h1 ⊢; exact e _ _ h1 h2
theorem tup_lx (h : SqT K (less s H) p xs) : SqT K (Lx s H) p xs := by
  rcases h with (h | ⟨o, h⟩) | h
  · exact .inl (.inl (nt_of h fun _ z => by cases z))
  · exact .inl (.inr ⟨o, nt_of h fun _ z => by cases z⟩)
  · exact .inr h
theorem sql_lx (h : SqL K (less s H) p xs) : SqL K (Lx s H) p xs := by
  rcases h with (h | ⟨o, h⟩) | h
  · exact .inl (.inl (nt_of h fun _ z => by cases z))
  · exact .inl (.inr ⟨o, nt_of h fun _ z => by cases z⟩)
  · exact .inr h
theorem lst_lx (h : less s H p = some (.lst xs)) : Lx s H p = some (.lst xs) := nt_of h fun _ z => by cases z
theorem dk_lx {kvs : List (Key × V)} (h : less s H p = some (.dK kvs)) : Lx s H p = some (.dK kvs) := nt_of h fun _ z => by cases z
mutual
theorem dp_lx : ∀ {v : V} {d : PyData}, Dp K (less s H) v d → Dp K (Lx s H) v d
  | _, _, .non => .non
  | _, _, .bl b => .bl b
  | _, _, .int i => .int i
  | _, _, .str x => .str x
  | _, _, .lst h a => .lst (sql_lx h) (dpa_lx a)
  | _, _, .tup h a => .tup (tup_lx h) (dpa_lx a)
theorem dpa_lx : ∀ {vs : List V} {ds : List PyData}, DpAll K (less s H) vs ds → DpAll K (Lx s H) vs ds
  | _, _, .nil => .nil
  | _, _, .cons h a => .cons (dp_lx h) (dpa_lx a)
end
theorem tabs_fr {T : List (Addr × Str)} (w : Sw H s t) (f : Fr s H H') (h : LamX.Tabs T H) : LamX.Tabs T H' := fun p hp => by
  obtain ⟨ps, h1, h2, h3⟩ := h p hp
  obtain ⟨gr, z1⟩ := w.gr
  obtain ⟨lf, tn, _, z2⟩ := w.sta
  refine ⟨ps, f.at h1 (fun e => by rw [e, z2] at h1; cases h1) (fun e => by rw [e, z1] at h1; cases h1), h2, fun pos cv hc => ?_⟩
  obtain ⟨c, e, hco⟩ := h3 pos cv hc
  exact ⟨c, e, f.at hco (fun e => by rw [e, z2] at hco; cases hco) (fun e => by rw [e, z1] at hco; cases hco)⟩
theorem sw_extN (w : Sw H s t) (e : LamX.ExtN H H') : Sw H' s t := by
  refine ⟨w.ne, ?_, ?_, ?_⟩
  · obtain ⟨cs, z⟩ := w.cs
    refine ⟨cs, ?_⟩
    have e1 : s.c ≠ s.st := fun q => by unfold less at z; rw [if_pos (.inl q)] at z; cases z
    have e2 : s.c ≠ s.g := fun q => by unfold less at z; rw [if_pos (.inr q)] at z; cases z
    rw [less_of e1 e2] at z ⊢
    exact e _ _ z fun _ q => by cases q
  · obtain ⟨gr, z⟩ := w.gr
    exact ⟨gr, e _ _ z fun _ q => by cases q⟩
  · obtain ⟨lf, tn, a, z⟩ := w.sta
    exact ⟨lf, tn, a, e _ _ z fun _ q => by cases q⟩
theorem v_isiE {a D : Addr} {Q : VK} (h : H a = some (ExV (.ref D) none a)) (c : ExcC K D) {C : Addr} {b : Bool} (k : PySem.W.kitOne K (.ref D) (.ref C) = some b) (q : Q (.bl b) H) : rIsiU K [.ref a, .ref C] H Q :=
  .inr ⟨a, D, .ref C, .ref C, b, rfl, h, c, .own C, k, q⟩
theorem r_lam {T : List (Addr × Str)} {TT : (XK → Hp → VK → Prop) → Hp → VK → Prop} {tt : XK → TE} {σ : L2.St} {Q : VK} (h : LamX.Tabs T H) (k : ∀ H1, LamX.ExtN H H1 → LamX.Tabs T H1 → TT (fun E H' Q' => tt E σ H' Q') H1 Q) : LamX.tLam T TT tt σ H Q := ⟨h, k⟩
end
end A
set_option Elab.async false
set_option linter.all false
set_option maxRecDepth 100000
set_option maxHeartbeats 4000000
set_option autoImplicit false
/-! The law's own def, whose code object has a table. -/
namespace A
open PySem PySem.Spec PyProof.Rows L2
theorem mk_fnG {P : Program} {w : World} {K : PySem.W.Frag} {mg : Str → Option Value} {base : Heap} {x : Str} {st : Stmt} {N ps : List Str} {k : Nat} {sp : Sp} {f : Addr} {fd : FuncData} (F : FunD K x x (defArgs st) (defBody st) (defScope st) [] [] f fd) (S : FnScope N ps (defScope st)) (len : ∀ vs H Q E, sp vs H Q E → vs.length = ps.length)
    (hbody : ∀ (oc : Value) (od : Option Addr) (osl : Array (Option Value)) (fd' : FuncData) (cdv : Value) (A : Around) (outer : List Env) (s : Shared) (H : Hp) (vs : List V) (Q : VK) (E : XK), K.lookup f = some ⟨oc, od, .func fd', osl⟩ → fd'.code = cdv → PySem.W.codeIn K cdv x = true → Room k (A.deeper (envOfC x (defScope st) s.heap.objs.size f cdv)) → A.guards = some [] → sp vs H Q E →
      ∃ t, PSs (cxOf CX0 P w K mg base N x (defScope st) f cdv A outer s H E).nox (defBody st) t ∧ t { nx := fun _ H' => Q .non H', rt := Q } (L2.start N vs) H) : FnG P w K mg base CX0 (k + 1) f fd ps sp := by
  obtain ⟨oc, od, dV, kV, doc, pm, an, cdv, ct, osl, e, lk, hcd, hD, hK⟩ := F.ex
  subst e
  refine ⟨len, fun A outer s H args us vs Q E hr hg e0 hbi r hsp => ?_⟩
  refine LamX.run_ofS lk hcd S hr e0 hbi r (len vs H Q E hsp) fun hr' => ?_
  obtain ⟨t, h, q⟩ := hbody oc od osl _ cdv A outer s H vs Q E lk rfl hcd hr' hg hsp
  exact ⟨t, h.nox, q⟩
end A
set_option Elab.async false
set_option linter.all false
set_option maxRecDepth 100000
set_option maxHeartbeats 4000000
set_option autoImplicit false
/-! What stands in a turn of the law. -/
namespace A
open PySem PySem.Spec PyProof.Rows L2
/-- what stood in H8 beside the state stands in H; the state was turned at most t times; the tables are known -/
structure Bx (s : Sta) (T : List (Addr × Str)) (H8 H : Hp) (t : Nat) : Prop where
  z : Ex (Lx s H8) (Lx s H)
  sw : Sw H s t
  tb : LamX.Tabs T H
section
variable {s : Sta} {T : List (Addr × Str)} {H8 H H' : Hp} {t t' : Nat} {p : Addr} {o : HO} {K : PySem.W.Frag} {xs : List V}
theorem Bx.start (w : Sw H s t) (h : LamX.Tabs T H) : Bx s T H H t := ⟨Ex.refl _, w, h⟩
theorem Bx.fr (b : Bx s T H8 H t) (f : Fr s H H') (w : Sw H' s t') : Bx s T H8 H' t' := ⟨b.z.trans (lx_fr f), w, tabs_fr b.sw f b.tb⟩
theorem Bx.ext (b : Bx s T H8 H t) (e : Ex H H') : Bx s T H8 H' t := b.fr (Fr.of e) (b.sw.ext e)
theorem Bx.new (b : Bx s T H8 H t) (h : H p = none) : Bx s T H8 (upd H p o) t := b.ext (Ex.new (Ex.refl _) h)
theorem Bx.lam (b : Bx s T H8 H t) (e : LamX.ExtN H H') (h : LamX.Tabs T H') : Bx s T H8 H' t := ⟨b.z.trans (lx_extN e), sw_extN b.sw e, h⟩
theorem Bx.le (b : Bx s T H8 H t) (h : t ≤ t') : Bx s T H8 H t' := ⟨b.z, b.sw.le h, b.tb⟩
theorem Bx.tup (b : Bx s T H8 H t) (h : SqT K (Lx s H8) p xs) : SqT K H p xs := sqT_ex lx_ex (sqT_ex b.z h)
theorem Bx.tupL (b : Bx s T H8 H t) (h : SqT K (Lx s H8) p xs) : SqT K (less s H) p xs := sqT_ex lx_less (sqT_ex b.z h)
theorem Bx.at (b : Bx s T H8 H t) (h : Lx s H8 p = some o) : H p = some o := lx_ex _ _ (b.z _ _ h)
theorem Bx.atL (b : Bx s T H8 H t) (h : Lx s H8 p = some o) : less s H p = some o := lx_less _ _ (b.z _ _ h)
theorem Bx.fresh (b : Bx s T H8 H t) (w0 : Ex (Lx s H8) (Lx s H)) : Bx s T H H t := ⟨Ex.refl _, b.sw, b.tb⟩
end
end A
set_option Elab.async false
set_option linter.all false
set_option maxRecDepth 100000
set_option maxHeartbeats 4000000
set_option autoImplicit false
/-! The end of a law whose def leans on no repr being under way: one code object with its table. -/
namespace A
open PySem PySem.Spec PyProof.Rows L2
abbrev tabO : Obj := { cls := .none, data := .fields #[] }
abbrev lstO (vs : List Value) : Obj := { cls := .type "list", data := .seq vs.toArray }
/-- at the start: the table, empty; the script's list, if the frag does not hold it -/
def hp0 (K : PySem.W.Frag) (Pt a : Addr) (vs : List Value) (ns : List Int) : Hp := fun b =>
  if b = Pt then some (.tbl #[]) else if b = a then (if K.lookup a = none then some (.frz (lstO vs) (.lst (ns.map V.int))) else none) else none
section
variable {K : PySem.W.Frag} {Pt a : Addr} {vs : List Value} {ns : List Int} {P : Program} {w : World} {h : Heap}
theorem hp0_tab : hp0 K Pt a vs ns Pt = some (.tbl #[]) := if_pos rfl
theorem hp0_in {b : Addr} {u : HO} (q : hp0 K Pt a vs ns b = some u) : (b = Pt ∧ u = .tbl #[]) ∨ (b = a ∧ K.lookup a = none ∧ u = .frz (lstO vs) (.lst (ns.map V.int))) := by
  unfold hp0 at q
  by_cases h1 : b = Pt
  · rw [if_pos h1] at q
    exact .inl ⟨h1, (Option.some.inj q).symm⟩
  · rw [if_neg h1] at q
    by_cases h2 : b = a
    · rw [if_pos h2] at q
      by_cases h3 : K.lookup a = none
      · rw [if_pos h3] at q
        exact .inr ⟨h2, h3, (Option.some.inj q).symm⟩
      · rw [if_neg h3] at q; cases q
    · rw [if_neg h2] at q; cases q
theorem hp0_not {b : Addr} {o : Obj} (hT : h.get? Pt = some tabO) (ha : h.get? a = some (lstO vs)) (e : h.get? b = some o) (n1 : o.data ≠ .fields #[]) (n2 : ∀ m n, o.data ≠ .seq m n) : hp0 K Pt a vs ns b = none := by
  cases q : hp0 K Pt a vs ns b with
  | none => rfl
  | some u =>
    rcases hp0_in q with ⟨rfl, _⟩ | ⟨rfl, _, _⟩
    · rw [hT] at e; cases e; exact absurd rfl n1
    · rw [ha] at e; cases e; exact absurd rfl (n2 _ _)
theorem hp0_lst (KX : K.In h) (hT : h.get? Pt = some tabO) (ha : h.get? a = some (lstO vs)) (rv : Vals (ns.map V.int) vs) (hl : ns.length ≤ sizeLine) : SqL K (hp0 K Pt a vs ns) a (ns.map V.int) := by
  have aP : a ≠ Pt := fun e => by rw [e, hT] at ha; cases congrArg Obj.data (Option.some.inj ha)
  cases q : K.lookup a with
  | none => exact .inl (.inr ⟨lstO vs, by unfold hp0; rw [if_neg aP, if_pos rfl, if_pos q]⟩)
  | some o =>
    have e := KX a o q
    rw [ha] at e
    obtain rfl := Option.some.inj e
    exact .inr ⟨_, vs.toArray, _, q, rfl, rfl, rfl, by rw [List.size_toArray, ← rv.length, List.length_map]; exact hl, by simpa using rv⟩
theorem hp0_ok (hT : h.get? Pt = some tabO) (ha : h.get? a = some (lstO vs)) (rv : Vals (ns.map V.int) vs) (hl : ns.length ≤ sizeLine) : HOk P w (hp0 K Pt a vs ns) h := fun b u q => by
  rcases hp0_in q with ⟨rfl, rfl⟩ | ⟨rfl, _, rfl⟩
  · exact hT
  · exact ⟨ha, by rw [List.length_map]; exact hl, vs, _, rv, ha⟩
end
theorem call_law {P : Program} {w : World} {K : PySem.W.Frag} {mg mb : Str → Option Value} {k : Nat} {fa a c0 Pt : Addr} {fd : FuncData} {x : Str} {sp : Sp} {s : Shared} {vs : List Value} {ns : List Int}
    (KX : K.In s.heap) (hns : s.heap.Ns mainGlobals mg) (hb : s.heap.Ns builtinsNs mb) (hbb : ∀ x : Str, x ≠ "__name__" → mb x = bootBuiltins x) (hlim : s.heap.NoLimit) (hg : s.gens = #[])
    (hT : s.heap.get? Pt = some tabO) (nT : K.lookup Pt = none) (C : PySem.W.CodeHd s.heap c0 Pt)
    (hbm : ∃ (bm : Addr) (ob : Obj), mg "__builtins__" = some (.ref bm) ∧ bm ≠ builtinsNs ∧ s.heap.get? bm = some ob ∧ ob.cls = .type "module" ∧ ob.dict = some builtinsNs ∧ ob.data = .plain)
    (ha : s.heap.get? a = some (lstO vs)) (hi : IntsAre vs ns) (hl : ns.length ≤ sizeLine) (hr : Room k callerA)
    (F : ∀ base : Heap, K.In base → base.Ns mainGlobals mg → LamX.TabB base mg c0 Pt → FnG P w K mg base CX0 k fa fd [x] sp) (hbind : ∀ (s : Shared) (u : Value), BindsTo s fd ⟨[u], []⟩ [(x, u)])
    (hsp : ∀ H : Hp, H Pt = some (.tbl #[]) → SqL K H a (ns.map V.int) → sp [.ref a] H (fun v _ => v = .bl true) fun _ _ _ => False) :
    codeAny (model P w) callerA (.call (.ref fa) ⟨[.ref a], []⟩) (fun r s' => r = .ok (.ret (.bool true)) ∧ OldK s.heap s'.heap ∧ s'.os = s.os ∧ AllBare s'.gens) s := by
  have rv := vals_ints hi
  have aP : a ≠ Pt := fun e => by rw [e, hT] at ha; cases congrArg Obj.data (Option.some.inj ha)
  have hid : ∀ {b : Addr} {o : Obj}, s.heap.get? b = some o → o.data ≠ .fields #[] → (∀ m n, o.data ≠ .seq m n) → (hidT s.heap (hp0 K Pt a vs ns)).get? b = some o := fun e n1 n2 => hidT_get e (hp0_not hT ha e n1 n2)
  have nsOf : ∀ {b : Addr} {m : Str → Option Value}, s.heap.Ns b m → (hidT s.heap (hp0 K Pt a vs ns)).Ns b m := by
    rintro b m ⟨o, es, ep, e, d, r⟩
    exact ⟨o, es, ep, hid e (by rw [d]; exact fun z => by cases z) (fun m n => by rw [d]; exact fun z => by cases z), d, r⟩
  have kIn : K.In (hidT s.heap (hp0 K Pt a vs ns)) := fun b o e => by
    refine hidT_get (KX b o e) ?_
    cases q : hp0 K Pt a vs ns b with
    | none => rfl
    | some u =>
      rcases hp0_in q with ⟨rfl, _⟩ | ⟨rfl, q2, _⟩
      · rw [nT] at e; cases e
      · rw [q2] at e; cases e
  have mod : L2.Mod K mg (hidT s.heap (hp0 K Pt a vs ns)) := by
    obtain ⟨mc, l1, l2⟩ := hlim
    exact ⟨kIn, nsOf hns, ⟨mb, nsOf hb, hbb⟩, mc, nsOf l1, l2⟩
  have gP : mainGlobals ≠ Pt := fun z => by
    obtain ⟨o, es, ep, e, d, _⟩ := hns
    rw [z, hT] at e
    obtain rfl := Option.some.inj e
    cases d
  have tb : LamX.TabB (hidT s.heap (hp0 K Pt a vs ns)) mg c0 Pt := by
    refine ⟨?_, ?_, gP⟩
    · obtain ⟨o, us, file, tf, flags, tg, inF, text, tt, c1, c2, c3, c4, rest⟩ := C
      refine ⟨o, us, file, tf, flags, tg, inF, text, tt, hid c1 ?_ ?_, c2, c3, c4, rest⟩
      · rw [c3]
        intro z
        rw [Data.fields.inj z] at c4
        simp at c4
      · intro m n
        rw [c3]
        exact fun z => by cases z
    · obtain ⟨bm, ob, m1, m2, m3, m4, m5, m6⟩ := hbm
      refine ⟨bm, ob, m1, m2, fun z => ?_, fun z => ?_, hid m3 (by rw [m6]; exact fun z => by cases z) (fun m n => by rw [m6]; exact fun z => by cases z), m4, m5, m6⟩
      · obtain ⟨o, es, ep, e, d, _⟩ := hns
        rw [← z, m3] at e
        obtain rfl := Option.some.inj e
        rw [m6] at d; cases d
      · rw [z, hT] at m3
        obtain rfl := Option.some.inj m3
        cases m6
  have env : Env0 P w K mg (hidT s.heap (hp0 K Pt a vs ns)) callerA [] s (hp0 K Pt a vs ns) := by
    refine ⟨rfl, mod, fun b o e => of_hidT e, Nat.le_of_eq (hidT_size _ _), trivial, fun b hb => ?_, hp0_ok hT ha rv hl, .of_eq hg⟩
    exact absurd (show b ∈ ([] : List Addr) from hb) List.not_mem_nil
  have run := (F _ kIn (nsOf hns) tb).run callerA [] s _ ⟨[.ref a], []⟩ [.ref a] [.ref a] _ _ hr rfl env (hbind s (.ref a)) (.cons rfl .nil) (hsp _ hp0_tab (hp0_lst KX hT ha rv hl))
  refine codeAny_mono run fun r s' post => ?_
  rcases r with e | fl
  · exact False.elim post
  rcases fl with _ | _ | _ | u
  · exact False.elim post
  · exact False.elim post
  · exact False.elim post
  obtain ⟨v, H', hos, hbare, un, hok', rel, hv⟩ := post
  have hv : v = .bl true := hv
  subst hv
  obtain rfl : u = Value.bool true := rel
  obtain ⟨more, grown⟩ := un.tbls Pt #[] hp0_tab
  have tab' : s'.heap.get? Pt = some { cls := .none, data := .fields (#[] ++ more) } := hok' Pt _ grown
  have kept : ∀ b o, b ≠ Pt → s.heap.get? b = some o → s'.heap.get? b = some o := fun b o nb e => by
    cases q : hp0 K Pt a vs ns b with
    | none => exact un.keep b o e q (fun z => absurd (show b ∈ ([] : List Addr) from z) List.not_mem_nil) List.not_mem_nil
    | some u =>
      rcases hp0_in q with ⟨rfl, _⟩ | ⟨rfl, _, rfl⟩
      · exact absurd rfl nb
      · rw [ha] at e
        obtain rfl := Option.some.inj e
        exact (hok' _ _ (un.frzs _ _ _ q)).1
  refine ⟨rfl, ⟨fun b o e => ?_, fun b o e => ?_⟩, hos, hbare⟩
  · by_cases hb : b = Pt
    · subst hb
      rw [hT] at e
      obtain rfl := Option.some.inj e
      exact .inr (.inl ⟨(C.tab hT).isCodeTable, rfl, #[], more, rfl, tab'⟩)
    · exact .inl (kept b o hb e)
  · by_cases hb : b = Pt
    · subst hb
      exact ⟨_, tab'⟩
    · exact ⟨o, kept b o hb e⟩
/-- the end -/
theorem walk_G {l : PySem.W.OpenLaw} {n k : Nat} {q : Program} {loose : List Str} {XP : (Str → Option Value) → Heap → Prop} {YP : World → Heap → Prop} {d : DefRec} {x : Str}
    (hn : l.most = some n) (hn2 : n ≤ sizeLine) (hdf : d.params.defaults = []) (hr : Room k callerA)
    (F : ∀ (w : World) (mg : Str → Option Value) (fa : Addr) (h : Heap), YP w h → h.Ns mainGlobals mg → mg d.name = some (.ref fa) → ∃ (K : PySem.W.Frag) (c0 Pt : Addr) (fd : FuncData) (sp : Sp), K.In h ∧ h.get? Pt = some tabO ∧ K.lookup Pt = none ∧ PySem.W.CodeHd h c0 Pt ∧ (∀ (s : Shared) (u : Value), BindsTo s fd ⟨[u], []⟩ [(x, u)]) ∧
      (∀ (H : Hp) (a : Addr) (ns : List Int), ns.length ≤ n → H Pt = some (.tbl #[]) → SqL K H a (ns.map V.int) → sp [.ref a] H (fun v _ => v = .bl true) fun _ _ _ => False) ∧
      ∀ base : Heap, K.In base → base.Ns mainGlobals mg → LamX.TabB base mg c0 Pt → FnG l.prog w K mg base CX0 k fa fd [x] sp) :
    PySem.W.WalkO q loose XP YP l.row.toRowW d [] (fun f vs => PySem.call f vs) := by
  refine Att.attach_callB hn hdf fun w s₀ s₁ mg mb fa o pm cd doc a vs ns G Y ho hd hcd hmg hobj hints hlen hbits hg => ?_
  obtain ⟨K, c0, Pt, fd, sp, KX, hT, nT, C, hb, hsp, hF⟩ := F w mg fa _ Y G.T.g hmg
  exact call_law KX G.T.g G.T.b G.T.builtins G.T.nolimit hg hT nT C G.T.bmain hobj hints (Nat.le_trans hlen hn2) hr hF hb fun H h1 h2 => hsp H a ns hlen h1 h2
end A
set_option linter.all false
set_option autoImplicit false
/-! Trees of versions and their line: plain facts. -/
namespace Tr
/-- v behind p -/
def insA (l : List Nat) (p v : Nat) : List Nat := l.take (l.idxOf p + 1) ++ [v] ++ l.drop (l.idxOf p + 1)
def lineN (par : Nat → Nat) : Nat → List Nat
  | 0 => [0]
  | n + 1 => insA (lineN par n) (par (n + 1)) (n + 1)
/-- a is v or above it -/
inductive Anc (par : Nat → Nat) (a : Nat) : Nat → Prop
  | self : Anc par a a
  | up {v : Nat} (h : 0 < v) (k : Anc par a (par v)) : Anc par a v
/-- parents stand below their children, up to n -/
def Low (par : Nat → Nat) (n : Nat) : Prop := ∀ v, 0 < v → v ≤ n → par v < v
theorem anc_le {par : Nat → Nat} {n a v : Nat} (hl : Low par n) (hv : v ≤ n) (h : Anc par a v) : a ≤ v := by
  induction h with
  | self => exact Nat.le_refl _
  | @up v h k ih => have := hl v h hv; have := ih (by omega); omega
theorem anc_self_iff {par : Nat → Nat} {n a v : Nat} (hl : Low par n) (hv : v ≤ n) (h : v ≤ a) : Anc par a v ↔ v = a :=
  ⟨fun k => Nat.le_antisymm h (anc_le hl hv k), fun e => e ▸ .self⟩
theorem anc_up_iff {par : Nat → Nat} {a v : Nat} (hv : 0 < v) (h : v ≠ a) : Anc par a v ↔ Anc par a (par v) :=
  ⟨fun k => by cases k with | self => exact absurd rfl h | up _ k => exact k, fun k => .up hv k⟩
theorem anc_zero {par : Nat → Nat} {n : Nat} (hl : Low par n) : ∀ v, v ≤ n → Anc par 0 v := by
  intro v
  induction v using Nat.strongRecOn with
  | _ v ih =>
    intro hv
    by_cases h : v = 0
    · subst h; exact .self
    · have := hl v (by omega) hv
      exact .up (by omega) (ih _ this (by omega))
theorem anc_trans {par : Nat → Nat} {a b c : Nat} (h : Anc par a b) (k : Anc par b c) : Anc par a c := by
  induction k with
  | self => exact h
  | up h _ ih => exact .up h ih

/-! ### lines -/
structure Good (par : Nat → Nat) (r : Nat) (l : List Nat) : Prop where
  nodup : l.Nodup
  head : l.head? = some r
  low : ∀ v ∈ l, v ≠ r → r < v ∧ par v < v
  btw : ∀ v ∈ l, v ≠ r → ∃ A B C, l = A ++ par v :: (B ++ v :: C) ∧ ∀ x ∈ B, v < x
theorem split_unique {α : Type} {x : α} : ∀ {A A' C C' : List α}, (A ++ x :: C).Nodup → A ++ x :: C = A' ++ x :: C' → A = A' ∧ C = C'
  | [], [], C, C', _, e => ⟨rfl, by simpa using e⟩
  | [], a :: A', C, C', h, e => by
    simp only [List.nil_append, List.cons_append, List.cons.injEq] at e
    obtain ⟨rfl, rfl⟩ := e
    simp at h
  | a :: A, [], C, C', h, e => by
    simp only [List.nil_append, List.cons_append, List.cons.injEq] at e
    obtain ⟨rfl, rfl⟩ := e
    simp at h
  | a :: A, b :: A', C, C', h, e => by
    simp only [List.cons_append, List.cons.injEq] at e
    obtain ⟨rfl, e⟩ := e
    obtain ⟨e1, e2⟩ := split_unique (by simp only [List.cons_append, List.nodup_cons] at h; exact h.2) e
    exact ⟨by rw [e1], e2⟩
theorem Good.root {par : Nat → Nat} {r : Nat} {l : List Nat} (g : Good par r l) : r ∈ l := List.mem_of_mem_head? (by rw [g.head]; exact rfl)
theorem Good.parMem {par : Nat → Nat} {r v : Nat} {l : List Nat} (g : Good par r l) (h : v ∈ l) (hr : v ≠ r) : par v ∈ l := by
  obtain ⟨A, B, C, e, _⟩ := g.btw v h hr
  rw [e]; simp
theorem good_filter {par : Nat → Nat} {r : Nat} {l : List Nat} (g : Good par r l) (p : Nat → Bool) (hr : p r = true) (hp : ∀ v ∈ l, p v = true → v ≠ r → p (par v) = true) : Good par r (l.filter p) := by
  refine ⟨g.nodup.sublist List.filter_sublist, ?_, fun v hv => g.low v (List.mem_filter.mp hv).1, fun v hv hn => ?_⟩
  · cases hl : l with
    | nil => have := g.head; rw [hl] at this; cases this
    | cons a t =>
      have := g.head
      rw [hl] at this
      cases this
      rw [List.filter_cons_of_pos hr]; rfl
  · obtain ⟨h1, h2⟩ := List.mem_filter.mp hv
    obtain ⟨A, B, C, e, hb⟩ := g.btw v h1 hn
    refine ⟨A.filter p, B.filter p, C.filter p, ?_, fun x hx => hb x (List.mem_filter.mp hx).1⟩
    rw [e]
    simp [hp v h1 h2 hn, h2]
theorem good_map {par par' : Nat → Nat} {r : Nat} {l : List Nat} (g : Good par r l) (f : Nat → Nat) (hf : ∀ x ∈ l, ∀ y ∈ l, x < y → f x < f y) (hp : ∀ v ∈ l, v ≠ r → par' (f v) = f (par v)) : Good par' (f r) (l.map f) := by
  have inj : ∀ x ∈ l, ∀ y ∈ l, f x = f y → x = y := fun x hx y hy e => by
    rcases Nat.lt_trichotomy x y with h | h | h
    · have := hf x hx y hy h; omega
    · exact h
    · have := hf y hy x hx h; omega
  refine ⟨?_, by rw [List.head?_map, g.head]; rfl, fun v hv hn => ?_, fun v hv hn => ?_⟩
  · rw [List.nodup_iff_pairwise_ne] at *
    have := g.nodup
    refine List.pairwise_map.mpr (List.Pairwise.imp_of_mem (fun {a b} ha hb hne e => hne (inj a ha b hb e)) this)
  · obtain ⟨x, hx, rfl⟩ := List.mem_map.mp hv
    have hxr : x ≠ r := fun e => hn (by rw [e])
    obtain ⟨h1, h2⟩ := g.low x hx hxr
    refine ⟨hf r g.root x hx h1, ?_⟩
    rw [hp x hx hxr]
    exact hf _ (g.parMem hx hxr) x hx h2
  · obtain ⟨x, hx, rfl⟩ := List.mem_map.mp hv
    have hxr : x ≠ r := fun e => hn (by rw [e])
    obtain ⟨A, B, C, e, hb⟩ := g.btw x hx hxr
    refine ⟨A.map f, B.map f, C.map f, ?_, fun y hy => ?_⟩
    · rw [hp x hx hxr, e]; simp
    · obtain ⟨z, hz, rfl⟩ := List.mem_map.mp hy
      exact hf x hx z (by rw [e]; simp [hz]) (hb z hz)
theorem exists_max : ∀ {l : List Nat}, l ≠ [] → ∃ m ∈ l, ∀ x ∈ l, x ≤ m
  | [], h => absurd rfl h
  | [a], _ => ⟨a, by simp, by simp⟩
  | a :: b :: t, _ => by
    obtain ⟨m, hm, hx⟩ := exists_max (l := b :: t) (by simp)
    by_cases h : a ≤ m
    · exact ⟨m, List.mem_cons_of_mem _ hm, fun x hx' => by
        rcases List.mem_cons.mp hx' with e | hx'
        · rw [e]; exact h
        · exact hx x hx'⟩
    · exact ⟨a, List.mem_cons_self, fun x hx' => by
        rcases List.mem_cons.mp hx' with e | hx'
        · rw [e]; exact Nat.le_refl _
        · have := hx x hx'; omega⟩
theorem filter_ne {m : Nat} : ∀ {l : List Nat}, m ∉ l → l.filter (fun x => decide (x ≠ m)) = l := fun h => List.filter_eq_self.mpr fun x hx => decide_eq_true fun e => h (e ▸ hx)
theorem good_max {par : Nat → Nat} {r m : Nat} {l : List Nat} (g : Good par r l) (hm : m ∈ l) (hr : m ≠ r) (hx : ∀ x ∈ l, x ≤ m) :
    ∃ A C, l = A ++ par m :: m :: C ∧ l.filter (fun x => decide (x ≠ m)) = A ++ par m :: C ∧ Good par r (A ++ par m :: C) := by
  obtain ⟨A, B, C, e, hb⟩ := g.btw m hm hr
  have hB : B = [] := by
    cases B with
    | nil => rfl
    | cons b t => have := hb b (by simp); have := hx b (by rw [e]; simp); omega
  subst hB
  simp only [List.nil_append] at e
  have hnd := g.nodup
  have hpm := (g.low m hm hr).2
  have ef : l.filter (fun x => decide (x ≠ m)) = A ++ par m :: C := by
    rw [e] at hnd ⊢
    rw [List.nodup_append] at hnd
    obtain ⟨n1, n2, n3⟩ := hnd
    simp only [List.nodup_cons] at n2
    have hA : m ∉ A := fun h => n3 m h m (by simp) rfl
    have hne : par m ≠ m := by omega
    rw [List.filter_append, filter_ne hA, List.filter_cons_of_pos (by simpa using hne), List.filter_cons_of_neg (by simp), filter_ne n2.2.1]
  refine ⟨A, C, e, ef, ?_⟩
  rw [← ef]
  refine good_filter g _ (decide_eq_true (Ne.symm hr)) fun v hv _ hn => decide_eq_true ?_
  have := (g.low v hv hn).2
  have := hx v hv
  omega
theorem good_unique {par : Nat → Nat} {r : Nat} : ∀ (n : Nat) {l l' : List Nat}, l.length ≤ n → Good par r l → Good par r l' → (∀ x, x ∈ l ↔ x ∈ l') → l = l'
  | 0, l, l', hn, g, g', h => by
    have := g.root
    cases l with
    | nil => cases this
    | cons a t => simp at hn
  | n + 1, l, l', hn, g, g', h => by
    by_cases hs : ∃ x ∈ l, x ≠ r
    · obtain ⟨x, hx, hxr⟩ := hs
      obtain ⟨m, hm, hmx⟩ := exists_max (l := l) (fun e => by rw [e] at hx; cases hx)
      have hmr : m ≠ r := fun e => by have := (g.low x hx hxr).1; have := hmx x hx; omega
      obtain ⟨A, C, e1, f1, g1⟩ := good_max g hm hmr hmx
      obtain ⟨A', C', e2, f2, g2⟩ := good_max g' ((h m).mp hm) hmr fun y hy => hmx y ((h y).mpr hy)
      have hlen : (A ++ par m :: C).length ≤ n := by rw [e1] at hn; simp at hn ⊢; omega
      have := good_unique n hlen g1 g2 fun y => by
        rw [← f1, ← f2, List.mem_filter, List.mem_filter, h y]
      obtain ⟨rfl, rfl⟩ := split_unique g1.nodup this
      rw [e1, e2]
    · have all : ∀ x ∈ l, x = r := fun x hx => Classical.byContradiction fun e => hs ⟨x, hx, e⟩
      have one : ∀ {l : List Nat}, l.Nodup → l.head? = some r → (∀ x ∈ l, x = r) → l = [r] := fun {l} nd hd al => by
        cases l with
        | nil => cases hd
        | cons a t =>
          cases hd
          cases t with
          | nil => rfl
          | cons b u =>
            have := al b (by simp)
            subst this
            simp at nd
      rw [one g.nodup g.head all, one g'.nodup g'.head fun x hx => all x ((h x).mpr hx)]
theorem insA_at {A C : List Nat} {p v : Nat} (h : p ∉ A) : insA (A ++ p :: C) p v = A ++ p :: v :: C := by
  unfold insA
  have e : (A ++ p :: C).idxOf p = A.length := by
    rw [List.idxOf_append, if_neg h]; simp
  rw [e]
  have e1 : (A ++ p :: C).take (A.length + 1) = A ++ [p] := by
    rw [List.take_append, List.take_of_length_le (by omega)]; simp
  have e2 : (A ++ p :: C).drop (A.length + 1) = C := by
    rw [List.drop_append]; simp
  rw [e1, e2]; simp
theorem split_at {l : List Nat} {p : Nat} (h : p ∈ l) : ∃ A C, l = A ++ p :: C ∧ p ∉ A := by
  induction l with
  | nil => cases h
  | cons a t ih =>
    by_cases e : a = p
    · exact ⟨[], t, by rw [e]; rfl, by simp⟩
    · have h2 : p ∈ t := by
        rcases List.mem_cons.mp h with z | z
        · exact absurd z.symm e
        · exact z
      obtain ⟨A, C, e1, e2⟩ := ih h2
      exact ⟨a :: A, C, by rw [e1]; rfl, fun z => by
        rcases List.mem_cons.mp z with z | z
        · exact e z.symm
        · exact e2 z⟩
theorem mem_insA {l : List Nat} {p v x : Nat} (hp : p ∈ l) : x ∈ insA l p v ↔ x = v ∨ x ∈ l := by
  obtain ⟨A, C, e, h⟩ := split_at hp
  rw [e, insA_at h]
  simp only [List.mem_append, List.mem_cons]
  constructor
  · rintro (h | h | h | h)
    · exact .inr (.inl h)
    · exact .inr (.inr (.inl h))
    · exact .inl h
    · exact .inr (.inr (.inr h))
  · rintro (h | h | h | h)
    · exact .inr (.inr (.inl h))
    · exact .inl h
    · exact .inr (.inl h)
    · exact .inr (.inr (.inr h))
theorem good_ins {par : Nat → Nat} {r m : Nat} {l : List Nat} (g : Good par r l) (hp : par m ∈ l) (hx : ∀ x ∈ l, x < m) : Good par r (insA l (par m) m) := by
  obtain ⟨A, C, e, hA⟩ := split_at hp
  have hm : m ∉ l := fun h => Nat.lt_irrefl _ (hx m h)
  have hr : r ∈ l := g.root
  have key : insA l (par m) m = A ++ par m :: m :: C := by rw [e, insA_at hA]
  have fl : (A ++ par m :: m :: C).filter (fun x => decide (x ≠ m)) = l := by
    rw [e] at hm
    simp only [List.mem_append, List.mem_cons, not_or] at hm
    rw [List.filter_append, filter_ne hm.1, List.filter_cons_of_pos (by simpa using Ne.symm hm.2.1), List.filter_cons_of_neg (by simp), filter_ne hm.2.2, ← e]
  rw [key]
  refine ⟨?_, ?_, fun v hv hn => ?_, fun v hv hn => ?_⟩
  · have nd := g.nodup
    rw [e] at nd hm
    simp only [List.mem_append, List.mem_cons, not_or] at hm
    rw [List.nodup_append] at nd ⊢
    obtain ⟨n1, n2, n3⟩ := nd
    rw [List.nodup_cons] at n2
    refine ⟨n1, ?_, fun a ha b hb => ?_⟩
    · rw [List.nodup_cons, List.nodup_cons]
      refine ⟨fun h => ?_, hm.2.2, n2.2⟩
      rcases List.mem_cons.mp h with h | h
      · exact hm.2.1 h.symm
      · exact n2.1 h
    · rcases List.mem_cons.mp hb with h | h
      · exact n3 a ha b (by rw [h]; simp)
      · rcases List.mem_cons.mp h with h | h
        · rw [h]; exact fun z => hm.1 (z ▸ ha)
        · exact n3 a ha b (by simp [h])
  · have := g.head
    rw [e] at this
    cases A with
    | nil => exact this
    | cons a t => exact this
  · have hv2 : v = m ∨ v ∈ l := by
      have := hv; rw [← key] at this; exact (mem_insA hp).mp this
    rcases hv2 with rfl | hv2
    · exact ⟨hx r hr, hx _ hp⟩
    · exact g.low v hv2 hn
  · have hv2 : v = m ∨ v ∈ l := by
      have := hv; rw [← key] at this; exact (mem_insA hp).mp this
    rcases hv2 with rfl | hv2
    · exact ⟨A, [], C, rfl, fun x hx => nomatch hx⟩
    · obtain ⟨A1, B1, C1, e1, hb⟩ := g.btw v hv2 hn
      have hvm := hx v hv2
      -- where m is put: before, between or behind
      have hpm : par m ∈ A1 ++ par v :: (B1 ++ v :: C1) := by rw [← e1]; exact hp
      have nd := g.nodup
      rw [e] at nd
      simp only [List.mem_append, List.mem_cons] at hpm
      rcases hpm with h | h | h | h | h
      · obtain ⟨X, Y, ex, _⟩ := split_at h
        have := split_unique nd (show A ++ par m :: C = X ++ par m :: (Y ++ par v :: (B1 ++ v :: C1)) by rw [← e, e1, ex]; simp)
        obtain ⟨eA, eC⟩ := this
        exact ⟨X ++ par m :: m :: Y, B1, C1, by rw [eA, eC]; simp, hb⟩
      · have := split_unique nd (show A ++ par m :: C = A1 ++ par m :: (B1 ++ v :: C1) by rw [← e, e1, h])
        obtain ⟨eA, eC⟩ := this
        exact ⟨A1, m :: B1, C1, by rw [eA, eC, h]; simp, fun x hx' => by
          rcases List.mem_cons.mp hx' with z | z
          · rw [z]; exact hvm
          · exact hb x z⟩
      · obtain ⟨X, Y, ex, _⟩ := split_at h
        have := split_unique nd (show A ++ par m :: C = (A1 ++ par v :: X) ++ par m :: (Y ++ v :: C1) by rw [← e, e1, ex]; simp)
        obtain ⟨eA, eC⟩ := this
        refine ⟨A1, X ++ par m :: m :: Y, C1, by rw [eA, eC]; simp, fun x hx' => ?_⟩
        simp only [List.mem_append, List.mem_cons] at hx'
        rcases hx' with z | z | z | z
        · exact hb x (by rw [ex]; simp [z])
        · exact hb x (by rw [ex]; simp [z])
        · rw [z]; exact hvm
        · exact hb x (by rw [ex]; simp [z])
      · have := split_unique nd (show A ++ par m :: C = (A1 ++ par v :: B1) ++ par m :: C1 by rw [← e, e1, h]; simp)
        obtain ⟨eA, eC⟩ := this
        exact ⟨A1, B1, m :: C1, by rw [eA, eC, h]; simp, hb⟩
      · obtain ⟨X, Y, ex, _⟩ := split_at h
        have := split_unique nd (show A ++ par m :: C = (A1 ++ par v :: (B1 ++ v :: X)) ++ par m :: Y by rw [← e, e1, ex]; simp)
        obtain ⟨eA, eC⟩ := this
        exact ⟨A1, B1, X ++ par m :: m :: Y, by rw [eA, eC]; simp, hb⟩
theorem good_line {par : Nat → Nat} : ∀ (n : Nat), Low par n → Good par 0 (lineN par n) ∧ ∀ x, x ∈ lineN par n ↔ x ≤ n
  | 0, _ => ⟨⟨by simp [lineN], rfl, fun v hv hn => absurd (by simpa [lineN] using hv) hn, fun v hv hn => absurd (by simpa [lineN] using hv) hn⟩, fun x => by simp [lineN]⟩
  | n + 1, hl => by
    obtain ⟨g, hm⟩ := good_line n fun v h1 h2 => hl v h1 (by omega)
    have hp := hl (n + 1) (by omega) (Nat.le_refl _)
    have hp2 : par (n + 1) ∈ lineN par n := (hm _).mpr (by omega)
    refine ⟨good_ins g hp2 fun x hx => by have := (hm x).mp hx; omega, fun x => ?_⟩
    show x ∈ insA (lineN par n) (par (n + 1)) (n + 1) ↔ _
    rw [mem_insA hp2, hm x]
    omega
theorem line_len {par : Nat → Nat} : ∀ (n : Nat), (lineN par n).length = n + 1
  | 0 => rfl
  | n + 1 => by
    show (insA _ _ _).length = _
    have := line_len (par := par) n
    unfold insA
    simp only [List.length_append, List.length_take, List.length_drop, List.length_singleton]
    omega
end Tr
set_option linter.all false
set_option autoImplicit false
/-! Stretches, meets, ways up, the walk down, grafts: plain facts. -/
namespace Tr
def tw (s : Nat) (B : List Nat) : List Nat := B.takeWhile fun x => decide (s < x)
theorem tw_gt {s x : Nat} {B : List Nat} (h : x ∈ tw s B) : s < x := by
  induction B with
  | nil => cases h
  | cons b t ih =>
    unfold tw at h ih
    by_cases e : s < b
    · rw [List.takeWhile_cons_of_pos (by simpa using e)] at h
      rcases List.mem_cons.mp h with z | z
      · rw [z]; exact e
      · exact ih z
    · rw [List.takeWhile_cons_of_neg (by simpa using e)] at h; cases h
theorem tw_split (s : Nat) (B : List Nat) : ∃ R, B = tw s B ++ R ∧ ∀ b t, R = b :: t → b ≤ s := by
  induction B with
  | nil => exact ⟨[], rfl, fun _ _ h => nomatch h⟩
  | cons b t ih =>
    unfold tw at ih ⊢
    by_cases e : s < b
    · obtain ⟨R, e1, e2⟩ := ih
      exact ⟨R, by rw [List.takeWhile_cons_of_pos (by simpa using e), List.cons_append, ← e1], e2⟩
    · exact ⟨b :: t, by rw [List.takeWhile_cons_of_neg (by simpa using e)]; rfl, fun c u h => by cases h; omega⟩
theorem block_good {par : Nat → Nat} {r s : Nat} {l A B : List Nat} (g : Good par r l) (e : l = A ++ s :: B) : Good par s (s :: tw s B) := by
  obtain ⟨R, eB, hR⟩ := tw_split s B
  have nd := g.nodup
  have rlow : ∀ v ∈ tw s B, v ≠ r := fun v hv hr => by
    have h1 := tw_gt hv
    have hs : s ∈ l := by rw [e]; simp
    by_cases hsr : s = r
    · omega
    · have := (g.low s hs hsr).1; omega
  have mem : ∀ v ∈ tw s B, v ∈ l := fun v hv => by rw [e, eB]; simp [hv]
  have sub : (s :: tw s B).Nodup := by
    rw [e, eB] at nd
    exact nd.sublist (List.Sublist.trans (by rw [← List.cons_append]; exact List.sublist_append_left _ _) (List.sublist_append_right A _))
  have bt : ∀ v ∈ tw s B, ∃ A2 B2 C2, s :: tw s B = A2 ++ par v :: (B2 ++ v :: C2) ∧ ∀ x ∈ B2, v < x := fun v hv => by
    obtain ⟨A1, B1, C1, e1, hb⟩ := g.btw v (mem v hv) (rlow v hv)
    obtain ⟨T1, T2, eT, _⟩ := split_at hv
    have hsv := tw_gt hv
    have k1 : (A ++ s :: T1) ++ v :: (T2 ++ R) = l := by rw [e, eB, eT]; simp
    have k2 : (A1 ++ par v :: B1) ++ v :: C1 = l := by rw [e1]; simp
    have := split_unique (by rw [k1]; exact nd) (k1.trans k2.symm)
    obtain ⟨eL, _⟩ := this
    rcases List.append_eq_append_iff.mp eL with ⟨X, h1, h2⟩ | ⟨X, h1, h2⟩
    · -- A1 = A ++ X, s :: T1 = X ++ par v :: B1
      exact ⟨X, B1, T2, by rw [eT, ← List.cons_append, h2]; simp, hb⟩
    · -- A = A1 ++ X, par v :: B1 = X ++ s :: T1
      cases X with
      | nil =>
        simp only [List.nil_append] at h2
        exact ⟨[], B1, T2, by rw [eT, ← List.cons_append, ← h2]; simp, hb⟩
      | cons a X =>
        simp only [List.cons_append, List.cons.injEq] at h2
        have := hb s (by rw [h2.2]; simp)
        omega
  refine ⟨sub, rfl, fun v hv hn => ?_, fun v hv hn => ?_⟩
  · rcases List.mem_cons.mp hv with z | z
    · exact absurd z hn
    · exact ⟨tw_gt z, (g.low v (mem v z) (rlow v z)).2⟩
  · rcases List.mem_cons.mp hv with z | z
    · exact absurd z hn
    · exact bt v z
theorem good_anc {par : Nat → Nat} {s : Nat} {l : List Nat} (g : Good par s l) : ∀ x, x ∈ l → Anc par s x := fun x => by
  induction x using Nat.strongRecOn with
  | _ x ih =>
    intro h
    by_cases e : x = s
    · rw [e]; exact .self
    · obtain ⟨h1, h2⟩ := g.low x h e
      exact .up (by omega) (ih _ h2 (g.parMem h e))
theorem block_mem {par : Nat → Nat} {s : Nat} {l A B : List Nat} (g : Good par 0 l) (e : l = A ++ s :: B) (x : Nat) : x ∈ s :: tw s B ↔ x ∈ l ∧ Anc par s x := by
  obtain ⟨R, eB, hR⟩ := tw_split s B
  refine ⟨fun h => ⟨?_, good_anc (block_good g e) x h⟩, fun ⟨h1, h2⟩ => ?_⟩
  · rw [e, eB]
    rcases List.mem_cons.mp h with z | z
    · rw [z]; simp
    · simp [z]
  · induction h2 with
    | self => simp
    | @up x h0 k ih =>
      have hx0 : x ≠ 0 := by omega
      obtain ⟨A1, B1, C1, e1, hb⟩ := g.btw x h1 hx0
      have hp := g.parMem h1 hx0
      have hlow := (g.low x h1 hx0).2
      have ihp := ih ⟨hp, k⟩ hp
      have hsp : s ≤ par x := by
        rcases List.mem_cons.mp ihp with z | z
        · omega
        · exact Nat.le_of_lt (tw_gt z)
      obtain ⟨X, Y, eX, _⟩ := split_at ihp
      have k1 : (A ++ X) ++ par x :: (Y ++ R) = l := by
        rw [e, eB]
        have : A ++ s :: (tw s B ++ R) = A ++ ((s :: tw s B) ++ R) := by simp
        rw [this, eX]; simp
      have k2 : A1 ++ par x :: (B1 ++ x :: C1) = l := e1.symm
      obtain ⟨_, eY⟩ := split_unique (by rw [k1]; exact g.nodup) (k1.trans k2.symm)
      have inY : x ∈ Y := by
        rcases List.append_eq_append_iff.mp eY with ⟨Z, h3, h4⟩ | ⟨Z, h3, h4⟩
        · -- B1 = Y ++ Z, R = Z ++ x :: C1
          cases Z with
          | nil => have := hR x C1 (by simpa using h4); omega
          | cons z Z =>
            have := hR z _ h4
            have := hb z (by rw [h3]; simp)
            omega
        · -- Y = B1 ++ Z, x :: C1 = Z ++ R
          cases Z with
          | nil => have := hR x C1 (by simpa using h4.symm); omega
          | cons z Z =>
            simp only [List.cons_append, List.cons.injEq] at h4
            rw [h3, h4.1]; simp
      rw [eX]; simp [inY]
theorem last_smaller {par : Nat → Nat} {r v i : Nat} {l : List Nat} (g : Good par r l) (hv : l[i]? = some v) (hn : v ≠ r) : ∃ X, (l.take i).filter (fun x => decide (x < v)) = X ++ [par v] := by
  have hm : v ∈ l := List.mem_of_getElem? hv
  obtain ⟨A, B, C, e, hb⟩ := g.btw v hm hn
  have hi := (List.getElem?_eq_some_iff.mp hv).1
  have hlow := (g.low v hm hn).2
  have k1 : l.take i ++ v :: l.drop (i + 1) = l := by
    have h2 := (List.getElem?_eq_some_iff.mp hv).2
    rw [← h2, List.getElem_cons_drop, List.take_append_drop]
  have k2 : (A ++ par v :: B) ++ v :: C = l := by rw [e]; simp
  obtain ⟨e1, _⟩ := split_unique (by rw [k1]; exact g.nodup) (k1.trans k2.symm)
  have fB : B.filter (fun x => decide (x < v)) = [] := List.filter_eq_nil_iff.mpr fun x hx => by have := hb x hx; simp; omega
  exact ⟨A.filter (fun x => decide (x < v)), by rw [e1, List.filter_append, List.filter_cons_of_pos (by simpa using hlow), fB]⟩
/-! ### the way up, the meeting -/
def IsUp (par : Nat → Nat) (v : Nat) (us : List Nat) : Prop := (∀ a, a ∈ us ↔ Anc par a v) ∧ us.Pairwise (fun x y => y < x)
def IsMeet (par : Nat → Nat) (a b m : Nat) : Prop := ∀ c, (Anc par c a ∧ Anc par c b) ↔ Anc par c m
theorem meet_first {par : Nat → Nat} {n a b m : Nat} {us ways : List Nat} (hl : Low par n) (ha : a ≤ n) (h1 : IsUp par a us) (h2 : IsUp par b ways) (hm : IsMeet par a b m) : ∃ X, us.filter (fun x => decide (x ∈ ways)) = m :: X := by
  have mm := (hm m).mpr .self
  have mn : m ≤ n := Nat.le_trans (anc_le hl ha mm.1) ha
  have hmem : m ∈ us.filter (fun x => decide (x ∈ ways)) := List.mem_filter.mpr ⟨(h1.1 m).mpr mm.1, decide_eq_true ((h2.1 m).mpr mm.2)⟩
  have hp := List.Pairwise.filter (fun x => decide (x ∈ ways)) h1.2
  cases hf : us.filter (fun x => decide (x ∈ ways)) with
  | nil => rw [hf] at hmem; cases hmem
  | cons x X =>
    have hx : x ∈ us.filter (fun x => decide (x ∈ ways)) := by rw [hf]; simp
    obtain ⟨x1, x2⟩ := List.mem_filter.mp hx
    have := (hm x).mp ⟨(h1.1 x).mp x1, (h2.1 x).mp (of_decide_eq_true x2)⟩
    have hle := anc_le hl mn this
    rw [hf] at hmem hp
    rcases List.mem_cons.mp hmem with z | z
    · exact ⟨X, by rw [z]⟩
    · have := (List.pairwise_cons.mp hp).1 m z; omega
theorem meet_unique {par : Nat → Nat} {n a b m m' : Nat} (hl : Low par n) (ha : a ≤ n) (h : IsMeet par a b m) (h' : IsMeet par a b m') : m = m' := by
  have h1 := (h m).mpr .self
  have h2 := (h' m').mpr .self
  have b1 := Nat.le_trans (anc_le hl ha h1.1) ha
  have b2 := Nat.le_trans (anc_le hl ha h2.1) ha
  exact Nat.le_antisymm (anc_le hl b2 ((h' m).mp h1)) (anc_le hl b1 ((h m').mp h2))
theorem meet_stepL {par : Nat → Nat} {n a b m : Nat} (hl : Low par n) (ha : a ≤ n) (hb : b < a) (h : IsMeet par (par a) b m) : IsMeet par a b m := fun c => by
  rw [← h c]
  constructor
  · rintro ⟨h1, h2⟩
    have := anc_le hl (by omega) h2
    exact ⟨(anc_up_iff (by omega) (by omega)).mp h1, h2⟩
  · rintro ⟨h1, h2⟩
    exact ⟨.up (by omega) h1, h2⟩
theorem meet_comm {par : Nat → Nat} {a b m : Nat} (h : IsMeet par a b m) : IsMeet par b a m := fun c => by rw [← h c]; exact And.comm
theorem meet_self {par : Nat → Nat} {a : Nat} : IsMeet par a a a := fun c => by simp
theorem len_le : ∀ (n : Nat) {l : List Nat}, l.Nodup → (∀ x ∈ l, x < n) → l.length ≤ n
  | 0, l, _, h => by
    cases l with
    | nil => simp
    | cons a t => have := h a (by simp); omega
  | n + 1, l, nd, h => by
    by_cases hn : n ∈ l
    · obtain ⟨A, C, e, hA⟩ := split_at hn
      rw [e, List.nodup_append] at nd
      obtain ⟨n1, n2, n3⟩ := nd
      rw [List.nodup_cons] at n2
      have := len_le n (l := A ++ C) (by
        rw [List.nodup_append]
        exact ⟨n1, n2.2, fun a ha b hb => n3 a ha b (List.mem_cons_of_mem _ hb)⟩) fun x hx => by
          have h1 := h x (by rw [e]; simp only [List.mem_append, List.mem_cons] at hx ⊢; rcases hx with z | z; exact .inl z; exact .inr (.inr z))
          have h2 : x ≠ n := fun z => by
            subst z
            rcases List.mem_append.mp hx with z | z
            · exact hA z
            · exact n2.1 z
          omega
      rw [e]; simp only [List.length_append, List.length_cons] at this ⊢; omega
    · have := len_le n nd fun x hx => by
        have := h x hx
        have : x ≠ n := fun z => hn (z ▸ hx)
        omega
      omega
/-! ### the walk down with a stack -/
def kids (par : Nat → Nat) (n h : Nat) : List Nat := (List.range' 1 n).filter fun v => decide (par v = h)
theorem mem_kids {par : Nat → Nat} {n h v : Nat} : v ∈ kids par n h ↔ 0 < v ∧ v ≤ n ∧ par v = h := by
  unfold kids
  rw [List.mem_filter, List.mem_range'_1, decide_eq_true_iff]
  omega
theorem kids_sorted {par : Nat → Nat} {n h : Nat} : (kids par n h).Pairwise (· < ·) := List.Pairwise.filter _ List.pairwise_lt_range'
structure Dfs (par : Nat → Nat) (n : Nat) (found todo : List Nat) : Prop where
  nodup : (found ++ todo).Nodup
  rng : ∀ x ∈ found ++ todo, x ≤ n
  sorted : todo.Pairwise (· < ·)
  start : (found = [] ∧ todo = [0]) ∨ (found.head? = some 0 ∧ ∀ t ∈ todo, t ≠ 0 ∧ ∃ A B, found = A ++ par t :: B ∧ ∀ x ∈ B, t < x)
  btw : ∀ v ∈ found, v ≠ 0 → ∃ A B C, found = A ++ par v :: (B ++ v :: C) ∧ ∀ x ∈ B, v < x
  clos : ∀ v, v ≤ n → v ≠ 0 → v ∉ found → v ∉ todo → par v ∉ found
theorem dfs_start {par : Nat → Nat} {n : Nat} : Dfs par n [] [0] :=
  ⟨by simp, by simp, by simp, .inl ⟨rfl, rfl⟩, fun v h => by simp at h, fun v _ _ _ _ h => by simp at h⟩
theorem dfs_step {par : Nat → Nat} {n h : Nat} {found todo : List Nat} (hl : Low par n) (d : Dfs par n found (todo ++ [h])) : Dfs par n (found ++ [h]) (todo ++ kids par n h) := by
  have nd := d.nodup
  have hhn : h ≤ n := d.rng h (by simp)
  have hf : h ∉ found := fun z => by
    rw [List.nodup_append] at nd
    exact nd.2.2 h z h (by simp) rfl
  have lt_h : ∀ t ∈ todo, t < h := fun t ht => (List.pairwise_append.mp d.sorted).2.2 t ht h (by simp)
  have kidf : ∀ c ∈ kids par n h, c ∉ found := fun c hc z => by
    obtain ⟨h1, h2, h3⟩ := mem_kids.mp hc
    obtain ⟨A, B, C, e, _⟩ := d.btw c z (by omega)
    exact hf (by rw [e, h3]; simp)
  have kidgt : ∀ c ∈ kids par n h, h < c := fun c hc => by
    obtain ⟨h1, h2, h3⟩ := mem_kids.mp hc
    have := hl c h1 h2; omega
  have ntodo : (found ++ [h]) ++ todo = found ++ (h :: todo) := by simp
  refine ⟨?_, ?_, ?_, ?_, ?_, ?_⟩
  · rw [List.nodup_append] at nd ⊢
    obtain ⟨n1, n2, n3⟩ := nd
    rw [List.nodup_append] at n2
    refine ⟨?_, ?_, ?_⟩
    · rw [List.nodup_append]
      exact ⟨n1, by simp, fun a ha b hb => by
        have : b = h := by simpa using hb
        subst this
        exact fun z => hf (z ▸ ha)⟩
    · rw [List.nodup_append]
      refine ⟨n2.1, (kids_sorted (par := par) (n := n) (h := h)).imp (fun {a b} h => Nat.ne_of_lt h), fun a ha b hb => ?_⟩
      have := lt_h a ha
      have := kidgt b hb
      omega
    · intro a ha b hb
      rcases List.mem_append.mp ha with ha | ha
      · rcases List.mem_append.mp hb with hb | hb
        · exact n3 a ha b (by simp [hb])
        · exact fun z => kidf b hb (z ▸ ha)
      · have : a = h := by simpa using ha
        subst this
        rcases List.mem_append.mp hb with hb | hb
        · have := lt_h b hb; omega
        · have := kidgt b hb; omega
  · intro x hx
    simp only [List.mem_append, List.mem_singleton] at hx
    rcases hx with (hx | hx) | (hx | hx)
    · exact d.rng x (by simp [hx])
    · rw [hx]; exact hhn
    · exact d.rng x (by simp [hx])
    · exact (mem_kids.mp hx).2.1
  · rw [List.pairwise_append]
    refine ⟨(List.pairwise_append.mp d.sorted).1, kids_sorted, fun a ha b hb => ?_⟩
    have := lt_h a ha
    have := kidgt b hb
    omega
  · refine .inr ⟨?_, fun t ht => ?_⟩
    · rcases d.start with ⟨e1, e2⟩ | ⟨e1, _⟩
      · subst e1
        have : todo = [] ∧ h = 0 := by
          cases todo with
          | nil => simpa using e2
          | cons a t => simp at e2
        rw [this.2]; rfl
      · rw [List.head?_append, e1]; rfl
    · rcases List.mem_append.mp ht with ht | ht
      · rcases d.start with ⟨e1, e2⟩ | ⟨_, e1⟩
        · cases todo with
          | nil => cases ht
          | cons a t => simp at e2
        · obtain ⟨t0, A, B, e, hb⟩ := e1 t (by simp [ht])
          exact ⟨t0, A, B ++ [h], by rw [e]; simp, fun x hx => by
            rcases List.mem_append.mp hx with z | z
            · exact hb x z
            · have : x = h := by simpa using z
              rw [this]; exact lt_h t ht⟩
      · obtain ⟨h1, h2, h3⟩ := mem_kids.mp ht
        exact ⟨by omega, found, [], by rw [h3], fun x hx => nomatch hx⟩
  · intro v hv hn
    rcases List.mem_append.mp hv with hv | hv
    · obtain ⟨A, B, C, e, hb⟩ := d.btw v hv hn
      exact ⟨A, B, C ++ [h], by rw [e]; simp, hb⟩
    · have : v = h := by simpa using hv
      subst this
      rcases d.start with ⟨e1, e2⟩ | ⟨_, e1⟩
      · exfalso
        cases todo with
        | nil => simp at e2; exact hn e2
        | cons a t => simp at e2
      · obtain ⟨_, A, B, e, hb⟩ := e1 v (by simp)
        exact ⟨A, B, [], by rw [e]; simp, hb⟩
  · intro v h1 h2 h3 h4 h5
    simp only [List.mem_append, List.mem_singleton, not_or] at h3 h4 h5
    rcases h5 with h5 | h5
    · exact d.clos v h1 h2 h3.1 (by simp [h3.2, h4.1]) h5
    · exact h4.2 (mem_kids.mpr ⟨by omega, h1, h5⟩)
theorem dfs_len {par : Nat → Nat} {n : Nat} {found todo : List Nat} (d : Dfs par n found todo) : found.length + todo.length ≤ n + 1 := by
  have := len_le (n + 1) d.nodup fun x hx => by have := d.rng x hx; omega
  simpa using this
theorem dfs_end {par : Nat → Nat} {n : Nat} {found : List Nat} (hl : Low par n) (d : Dfs par n found []) : found = lineN par n := by
  rcases d.start with ⟨_, e⟩ | ⟨hh, _⟩
  · cases e
  have all : ∀ v, v ≤ n → v ∈ found := fun v => by
    induction v using Nat.strongRecOn with
    | _ v ih =>
      intro hv
      by_cases e : v = 0
      · rw [e]; exact List.mem_of_mem_head? (by rw [hh]; exact rfl)
      · have := hl v (by omega) hv
        exact Classical.byContradiction fun z => d.clos v hv e z (by simp) (ih _ this (by omega))
  have nd : found.Nodup := by have := d.nodup; rwa [List.append_nil] at this
  have rng : ∀ x ∈ found, x ≤ n := fun x hx => d.rng x (by simp [hx])
  obtain ⟨g, hm⟩ := good_line n hl
  refine good_unique found.length (Nat.le_refl _) ⟨nd, hh, fun v hv hn => ⟨by omega, hl v (by omega) (rng v hv)⟩, d.btw⟩ g fun x => ?_
  rw [hm x]
  exact ⟨rng x, all x⟩
/-! ### one tree grafted into another -/
structure Graft (par par1 par2 : Nat → Nat) (n n1 n2 at' : Nat) (f1 f2 : Nat → Nat) : Prop where
  low : Low par n
  low1 : Low par1 n1
  low2 : Low par2 n2
  hat : at' ≤ n1
  m1 : ∀ i j, i < j → j ≤ n1 → f1 i < f1 j
  m2 : ∀ i j, i < j → j ≤ n2 → f2 i < f2 j
  z1 : f1 0 = 0
  p1 : ∀ i, 0 < i → i ≤ n1 → par (f1 i) = f1 (par1 i)
  p2 : ∀ j, 0 < j → j ≤ n2 → par (f2 j) = f2 (par2 j)
  p0 : par (f2 0) = f1 at'
  r1 : ∀ i, i ≤ n1 → f1 i ≤ n
  r2 : ∀ j, j ≤ n2 → f2 j ≤ n
  disj : ∀ i j, i ≤ n1 → j ≤ n2 → f1 i ≠ f2 j
  cover : ∀ v, v ≤ n → (∃ i, i ≤ n1 ∧ f1 i = v) ∨ ∃ j, j ≤ n2 ∧ f2 j = v
section
variable {par par1 par2 : Nat → Nat} {n n1 n2 at' : Nat} {f1 f2 : Nat → Nat} (G : Graft par par1 par2 n n1 n2 at' f1 f2)
include G
theorem Graft.pos1 {i : Nat} (h0 : 0 < i) (h : i ≤ n1) : 0 < f1 i := by have := G.m1 0 i h0 h; omega
theorem Graft.pos2 {j : Nat} (h : j ≤ n2) : 0 < f2 j := by
  have := G.disj 0 j (Nat.zero_le _) h
  rw [G.z1] at this; omega
theorem Graft.inj1 {i j : Nat} (hi : i ≤ n1) (hj : j ≤ n1) (e : f1 i = f1 j) : i = j := by
  rcases Nat.lt_trichotomy i j with h | h | h
  · have := G.m1 i j h hj; omega
  · exact h
  · have := G.m1 j i h hi; omega
theorem Graft.inj2 {i j : Nat} (hi : i ≤ n2) (hj : j ≤ n2) (e : f2 i = f2 j) : i = j := by
  rcases Nat.lt_trichotomy i j with h | h | h
  · have := G.m2 i j h hj; omega
  · exact h
  · have := G.m2 j i h hi; omega
theorem Graft.anc1 {c : Nat} : ∀ i, i ≤ n1 → (Anc par c (f1 i) ↔ ∃ a, a ≤ n1 ∧ c = f1 a ∧ Anc par1 a i) := fun i => by
  induction i using Nat.strongRecOn with
  | _ i ih =>
    intro hi
    constructor
    · intro h
      by_cases e : f1 i = c
      · exact ⟨i, hi, e.symm, .self⟩
      · by_cases h0 : i = 0
        · subst h0
          rw [G.z1] at h e
          cases h with
          | self => exact absurd rfl e
          | up z _ => omega
        · have h0' : 0 < i := by omega
          have hl := G.low1 i h0' hi
          rw [anc_up_iff (G.pos1 h0' hi) e, G.p1 i h0' hi] at h
          obtain ⟨a, h1, h2, h3⟩ := (ih _ hl (by omega)).mp h
          exact ⟨a, h1, h2, .up h0' h3⟩
    · rintro ⟨a, h1, rfl, h3⟩
      cases h3 with
      | self => exact .self
      | up h0 k =>
        have hl := G.low1 i h0 hi
        refine .up (G.pos1 h0 hi) ?_
        rw [G.p1 i h0 hi]
        exact (ih _ hl (by omega)).mpr ⟨a, h1, rfl, k⟩
theorem Graft.anc11 {a i : Nat} (ha : a ≤ n1) (hi : i ≤ n1) : Anc par (f1 a) (f1 i) ↔ Anc par1 a i := by
  rw [G.anc1 i hi]
  exact ⟨fun ⟨b, h1, h2, h3⟩ => by rw [G.inj1 ha h1 h2]; exact h3, fun h => ⟨a, ha, rfl, h⟩⟩
theorem Graft.anc21 {j i : Nat} (hj : j ≤ n2) (hi : i ≤ n1) : ¬ Anc par (f2 j) (f1 i) := fun h => by
  obtain ⟨a, h1, h2, _⟩ := (G.anc1 i hi).mp h
  exact G.disj a j h1 hj h2.symm
theorem Graft.anc12 {a : Nat} (ha : a ≤ n1) : ∀ j, j ≤ n2 → (Anc par (f1 a) (f2 j) ↔ Anc par1 a at') := fun j => by
  induction j using Nat.strongRecOn with
  | _ j ih =>
    intro hj
    rw [anc_up_iff (G.pos2 hj) (Ne.symm (G.disj a j ha hj))]
    by_cases h0 : j = 0
    · subst h0
      rw [G.p0]; exact G.anc11 ha G.hat
    · have h0' : 0 < j := by omega
      have hl := G.low2 j h0' hj
      rw [G.p2 j h0' hj]
      exact ih _ hl (by omega)
theorem Graft.anc22 : ∀ j, j ≤ n2 → Anc par (f2 0) (f2 j) := fun j => by
  induction j using Nat.strongRecOn with
  | _ j ih =>
    intro hj
    by_cases h0 : j = 0
    · rw [h0]; exact .self
    · have h0' : 0 < j := by omega
      have hl := G.low2 j h0' hj
      refine .up (G.pos2 hj) ?_
      rw [G.p2 j h0' hj]
      exact ih _ hl (by omega)
theorem Graft.mine_line : (lineN par n).filter (fun v => decide (∃ i, i ≤ n1 ∧ f1 i = v)) = (lineN par1 n1).map f1 := by
  obtain ⟨g, hm⟩ := good_line n G.low
  obtain ⟨g1, hm1⟩ := good_line n1 G.low1
  refine good_unique _ (Nat.le_refl _) (good_filter g _ (decide_eq_true ⟨0, Nat.zero_le _, G.z1⟩) fun v hv hp hn => ?_)
    (by
      have := good_map (par' := par) g1 f1 (fun x hx y hy h => G.m1 x y h ((hm1 y).mp hy)) fun v hv hn => G.p1 v (by omega) ((hm1 v).mp hv)
      rwa [G.z1] at this) fun x => ?_
  · obtain ⟨i, h1, rfl⟩ := of_decide_eq_true hp
    have h0 : 0 < i := Nat.pos_of_ne_zero fun e => hn (by rw [e]; exact G.z1)
    have := G.low1 i h0 h1
    exact decide_eq_true ⟨par1 i, by omega, (G.p1 i h0 h1).symm⟩
  · rw [List.mem_filter, hm, List.mem_map]
    constructor
    · rintro ⟨h1, h2⟩
      obtain ⟨i, h3, h4⟩ := of_decide_eq_true h2
      exact ⟨i, (hm1 i).mpr h3, h4⟩
    · rintro ⟨i, h3, rfl⟩
      exact ⟨G.r1 i ((hm1 i).mp h3), decide_eq_true ⟨i, (hm1 i).mp h3, rfl⟩⟩
theorem Graft.late_block {A B : List Nat} (e : lineN par n = A ++ f2 0 :: B) : f2 0 :: tw (f2 0) B = (lineN par2 n2).map f2 := by
  obtain ⟨g, hm⟩ := good_line n G.low
  obtain ⟨g2, hm2⟩ := good_line n2 G.low2
  refine good_unique _ (Nat.le_refl _) (block_good g e) (good_map g2 f2 (fun x hx y hy h => G.m2 x y h ((hm2 y).mp hy)) fun v hv hn => G.p2 v (by omega) ((hm2 v).mp hv)) fun x => ?_
  rw [block_mem g e, hm, List.mem_map]
  constructor
  · rintro ⟨h1, h2⟩
    rcases G.cover x h1 with ⟨i, h3, rfl⟩ | ⟨j, h3, rfl⟩
    · exact absurd h2 (G.anc21 (Nat.zero_le _) h3)
    · exact ⟨j, (hm2 j).mpr h3, rfl⟩
  · rintro ⟨j, h3, rfl⟩
    exact ⟨G.r2 j ((hm2 j).mp h3), G.anc22 j ((hm2 j).mp h3)⟩
theorem Graft.meet {i j m : Nat} (hi : i ≤ n1) (hj : j ≤ n2) (h : IsMeet par1 i at' m) (hmn : m ≤ n1) : IsMeet par (f1 i) (f2 j) (f1 m) := fun c => by
  constructor
  · rintro ⟨h1, h2⟩
    obtain ⟨a, k1, rfl, k3⟩ := (G.anc1 i hi).mp h1
    rw [G.anc11 k1 hmn]
    exact (h a).mp ⟨k3, (G.anc12 k1 j hj).mp h2⟩
  · intro h1
    obtain ⟨a, k1, rfl, k3⟩ := (G.anc1 m hmn).mp h1
    obtain ⟨h2, h3⟩ := (h a).mpr k3
    exact ⟨(G.anc11 k1 hi).mpr h2, (G.anc12 k1 j hj).mpr h3⟩
end
end Tr
set_option linter.all false
set_option autoImplicit false
/-! The graft as the law makes it, step by step; a meeting there is. -/
namespace Tr
theorem meet_exists {par : Nat → Nat} {n : Nat} (hl : Low par n) : ∀ (k a b : Nat), a + b ≤ k → a ≤ n → b ≤ n → ∃ m, m ≤ n ∧ IsMeet par a b m
  | k, a, b, hk, ha, hb => by
    rcases Nat.lt_trichotomy a b with h | h | h
    · cases k with
      | zero => omega
      | succ k =>
        have := hl b (by omega) hb
        obtain ⟨m, hm, h2⟩ := meet_exists hl k a (par b) (by omega) ha (by omega)
        exact ⟨m, hm, meet_comm (meet_stepL hl hb h (meet_comm h2))⟩
    · subst h
      exact ⟨a, ha, meet_self⟩
    · cases k with
      | zero => omega
      | succ k =>
        have := hl a (by omega) ha
        obtain ⟨m, hm, h2⟩ := meet_exists hl k (par a) b (by omega) (by omega) hb
        exact ⟨m, hm, meet_stepL hl ha h h2⟩
/-- the parent of a version, from the list of parents -/
def pL (L : List Nat) (v : Nat) : Nat := L.getD (v - 1) 0
structure PG (L1 L2 : List Nat) (at' : Nat) (W M N : List Nat) : Prop where
  lenW : W.length + 1 = M.length + N.length
  m0 : M[0]? = some 0
  mlt : ∀ x ∈ M, x ≤ W.length
  nlt : ∀ x ∈ N, 0 < x ∧ x ≤ W.length
  ms : M.Pairwise (· < ·)
  ns : N.Pairwise (· < ·)
  disj : ∀ x ∈ M, x ∉ N
  cover : ∀ v, v ≤ W.length → v ∈ M ∨ v ∈ N
  vp : ∀ (i p : Nat), W[i]? = some p → p ≤ i
  p1 : ∀ (i x y : Nat), M[i + 1]? = some x → L1[i]? = some y → ∃ z, M[y]? = some z ∧ W[x - 1]? = some z
  p0 : ∀ x, N[0]? = some x → ∃ z, M[at']? = some z ∧ W[x - 1]? = some z
  p2 : ∀ (j x y : Nat), N[j + 1]? = some x → L2[j]? = some y → ∃ z, N[y]? = some z ∧ W[x - 1]? = some z
section
variable {L1 L2 W M N : List Nat} {at' : Nat}
theorem pg_start : PG L1 L2 at' [] [0] [] :=
  ⟨rfl, rfl, by simp, by simp, by simp, by simp, by simp, by simp, by simp, by simp, by simp, by simp⟩
theorem get_app {α : Type} {l : List α} {i : Nat} {x y : α} (h : (l ++ [y])[i]? = some x) : l[i]? = some x ∨ (i = l.length ∧ x = y) := by
  by_cases hi : i < l.length
  · rw [List.getElem?_append_left hi] at h; exact .inl h
  · rw [List.getElem?_append_right (by omega)] at h
    cases hh : i - l.length with
    | zero => rw [hh] at h; exact .inr ⟨by omega, (by simpa using h : y = x).symm⟩
    | succ m => rw [hh] at h; simp at h
theorem keep_app {α : Type} {l : List α} {i : Nat} {x y : α} (h : l[i]? = some x) : (l ++ [y])[i]? = some x := by
  have := (List.getElem?_eq_some_iff.mp h).1
  rw [List.getElem?_append_left this]; exact h
theorem vp_app {z : Nat} (g : PG L1 L2 at' W M N) (hz : z ≤ W.length) : ∀ (i p : Nat), (W ++ [z])[i]? = some p → p ≤ i := fun i p h => by
  rcases get_app h with h | ⟨rfl, rfl⟩
  · exact g.vp i p h
  · exact hz
theorem PG.stepM {y z : Nat} (g : PG L1 L2 at' W M N) (hy : L1[M.length - 1]? = some y) (hz : M[y]? = some z) : PG L1 L2 at' (W ++ [z]) (M ++ [W.length + 1]) N := by
  have hM : 0 < M.length := by
    have := (List.getElem?_eq_some_iff.mp g.m0).1; omega
  have hzW : z ≤ W.length := g.mlt z (List.mem_of_getElem? hz)
  refine ⟨by simp; have := g.lenW; omega, keep_app g.m0, fun x hx => ?_, fun x hx => ?_, ?_, g.ns, fun x hx => ?_, fun v hv => ?_, vp_app g hzW, fun i x y' hx hy' => ?_, fun x hx => ?_, fun j x y' hx hy' => ?_⟩
  · rw [List.length_append, List.length_singleton]
    rcases List.mem_append.mp hx with h | h
    · have := g.mlt x h; omega
    · have : x = W.length + 1 := by simpa using h
      omega
  · have := g.nlt x hx
    rw [List.length_append, List.length_singleton]; omega
  · rw [List.pairwise_append]
    exact ⟨g.ms, by simp, fun a ha b hb => by have := g.mlt a ha; have : b = W.length + 1 := by simpa using hb
                                              omega⟩
  · rcases List.mem_append.mp hx with h | h
    · exact g.disj x h
    · have : x = W.length + 1 := by simpa using h
      intro hn
      have := (g.nlt x hn).2; omega
  · rw [List.length_append, List.length_singleton] at hv
    by_cases h : v ≤ W.length
    · rcases g.cover v h with h | h
      · exact .inl (List.mem_append_left _ h)
      · exact .inr h
    · exact .inl (List.mem_append_right _ (by simp; omega))
  · rcases get_app hx with h | ⟨h1, h2⟩
    · obtain ⟨z', h3, h4⟩ := g.p1 i x y' h hy'
      exact ⟨z', keep_app h3, keep_app h4⟩
    · have hi : i = M.length - 1 := by omega
      rw [hi, hy] at hy'
      cases hy'
      exact ⟨z, keep_app hz, by rw [h2]; simp⟩
  · obtain ⟨z', h3, h4⟩ := g.p0 x hx
    exact ⟨z', keep_app h3, keep_app h4⟩
  · obtain ⟨z', h3, h4⟩ := g.p2 j x y' hx hy'
    exact ⟨z', h3, keep_app h4⟩
theorem PG.stepN {z : Nat} (g : PG L1 L2 at' W M N) (hzW : z ≤ W.length) (h0 : N = [] → M[at']? = some z) (h2 : N ≠ [] → ∃ y, L2[N.length - 1]? = some y ∧ N[y]? = some z) : PG L1 L2 at' (W ++ [z]) M (N ++ [W.length + 1]) := by
  refine ⟨by simp; have := g.lenW; omega, g.m0, fun x hx => ?_, fun x hx => ?_, g.ms, ?_, fun x hx => ?_, fun v hv => ?_, vp_app g hzW, fun i x y' hx hy' => ?_, fun x hx => ?_, fun j x y' hx hy' => ?_⟩
  · rw [List.length_append, List.length_singleton]
    have := g.mlt x hx; omega
  · rw [List.length_append, List.length_singleton]
    rcases List.mem_append.mp hx with h | h
    · have := g.nlt x h; omega
    · have : x = W.length + 1 := by simpa using h
      omega
  · rw [List.pairwise_append]
    exact ⟨g.ns, by simp, fun a ha b hb => by have := (g.nlt a ha).2; have : b = W.length + 1 := by simpa using hb
                                              omega⟩
  · intro hn
    rcases List.mem_append.mp hn with h | h
    · exact g.disj x hx h
    · have : x = W.length + 1 := by simpa using h
      have := g.mlt x hx; omega
  · rw [List.length_append, List.length_singleton] at hv
    by_cases h : v ≤ W.length
    · rcases g.cover v h with h | h
      · exact .inl h
      · exact .inr (List.mem_append_left _ h)
    · exact .inr (List.mem_append_right _ (by simp; omega))
  · obtain ⟨z', h3, h4⟩ := g.p1 i x y' hx hy'
    exact ⟨z', h3, keep_app h4⟩
  · rcases get_app hx with h | ⟨h1, h3⟩
    · obtain ⟨z', h3, h4⟩ := g.p0 x h
      exact ⟨z', h3, keep_app h4⟩
    · have hN : N = [] := List.length_eq_zero_iff.mp h1.symm
      exact ⟨z, h0 hN, by rw [h3]; simp⟩
  · rcases get_app hx with h | ⟨h1, h3⟩
    · obtain ⟨z', h4, h5⟩ := g.p2 j x y' h hy'
      exact ⟨z', keep_app h4, keep_app h5⟩
    · have hN : N ≠ [] := fun e => by rw [e] at h1; cases h1
      obtain ⟨y, q1, q2⟩ := h2 hN
      have hj : j = N.length - 1 := by omega
      rw [hj, q1] at hy'
      cases hy'
      exact ⟨z, keep_app q2, by rw [h3]; simp⟩
theorem sorted_get {l : List Nat} (h : l.Pairwise (· < ·)) {i j : Nat} (hij : i < j) (hj : j < l.length) : l.getD i 0 < l.getD j 0 := by
  rw [List.getD_eq_getElem?_getD, List.getD_eq_getElem?_getD, List.getElem?_eq_getElem (by omega), List.getElem?_eq_getElem hj]
  exact (List.pairwise_iff_getElem.mp h) i j (by omega) hj hij
theorem PG.graft (g : PG L1 L2 at' W M N) (v1 : ∀ (i p : Nat), L1[i]? = some p → p ≤ i) (v2 : ∀ (i p : Nat), L2[i]? = some p → p ≤ i) (h1 : M.length = L1.length + 1) (h2 : N.length = L2.length + 1) (hat : at' ≤ L1.length) :
    Graft (pL W) (pL L1) (pL L2) W.length L1.length L2.length at' (fun i => M.getD i 0) (fun j => N.getD j 0) := by
  have low : ∀ {L : List Nat}, (∀ (i p : Nat), L[i]? = some p → p ≤ i) → Low (pL L) L.length := fun {L} h v h0 hv => by
    have hi : v - 1 < L.length := by omega
    have := h (v - 1) _ (List.getElem?_eq_getElem hi)
    unfold pL
    rw [List.getD_eq_getElem?_getD, List.getElem?_eq_getElem hi]
    show L[v - 1] < v
    omega
  have gM : ∀ {l : List Nat} {i x : Nat}, l[i]? = some x → l.getD i 0 = x := fun {l i x} h => by rw [List.getD_eq_getElem?_getD, h]; rfl
  have inM : ∀ {l : List Nat} {i : Nat}, i < l.length → l[i]? = some (l.getD i 0) := fun {l i} h => by rw [List.getD_eq_getElem?_getD, List.getElem?_eq_getElem h]; rfl
  have mem : ∀ {l : List Nat} {i : Nat}, i < l.length → l.getD i 0 ∈ l := fun {l i} h => List.mem_of_getElem? (inM h)
  refine ⟨low g.vp, low v1, low v2, hat, fun i j hij hj => sorted_get g.ms hij (by omega), fun i j hij hj => sorted_get g.ns hij (by omega), gM g.m0, fun i h0 hi => ?_, fun j h0 hj => ?_, ?_, fun i hi => g.mlt _ (mem (by omega)), fun j hj => (g.nlt _ (mem (by omega))).2, fun i j hi hj e => ?_, fun v hv => ?_⟩
  · obtain ⟨k, rfl⟩ : ∃ k, i = k + 1 := ⟨i - 1, by omega⟩
    obtain ⟨z, h3, h4⟩ := g.p1 k _ _ (inM (by omega)) (inM (show k < L1.length by omega))
    show pL W (M.getD (k + 1) 0) = M.getD (pL L1 (k + 1)) 0
    have e1 : pL L1 (k + 1) = L1.getD k 0 := rfl
    rw [e1, gM h3]
    exact gM h4
  · obtain ⟨k, rfl⟩ : ∃ k, j = k + 1 := ⟨j - 1, by omega⟩
    obtain ⟨z, h3, h4⟩ := g.p2 k _ _ (inM (by omega)) (inM (show k < L2.length by omega))
    show pL W (N.getD (k + 1) 0) = N.getD (pL L2 (k + 1)) 0
    have e1 : pL L2 (k + 1) = L2.getD k 0 := rfl
    rw [e1, gM h3]
    exact gM h4
  · obtain ⟨z, h3, h4⟩ := g.p0 _ (inM (show 0 < N.length by omega))
    show pL W (N.getD 0 0) = M.getD at' 0
    rw [gM h3]
    exact gM h4
  · have h3 := mem (l := M) (i := i) (by omega)
    have h4 := mem (l := N) (i := j) (by omega)
    have e : M.getD i 0 = N.getD j 0 := e
    rw [e] at h3
    exact g.disj _ h3 h4
  · rcases g.cover v hv with h | h
    · obtain ⟨i, hi, e⟩ := List.mem_iff_getElem.mp h
      exact .inl ⟨i, by omega, by show M.getD i 0 = v; rw [List.getD_eq_getElem?_getD, List.getElem?_eq_getElem hi]; exact e⟩
    · obtain ⟨i, hi, e⟩ := List.mem_iff_getElem.mp h
      exact .inr ⟨i, by omega, by show N.getD i 0 = v; rw [List.getD_eq_getElem?_getD, List.getElem?_eq_getElem hi]; exact e⟩
end
end Tr
set_option linter.all false
set_option autoImplicit false
/-! Places in a line. -/
namespace Tr
theorem idx_at {A C : List Nat} {x : Nat} (h : x ∉ A) : (A ++ x :: C).idxOf x = A.length := by
  rw [List.idxOf_append, if_neg h]; simp
theorem pos_block {l X B : List Nat} {s x : Nat} (nd : l.Nodup) (e : l = X ++ s :: B) (hx : x ∈ l) : x ∈ s :: tw s B ↔ X.length ≤ l.idxOf x ∧ l.idxOf x ≤ X.length + (tw s B).length := by
  obtain ⟨R, eB, hR⟩ := tw_split s B
  obtain ⟨A, C, ea, hA⟩ := split_at hx
  have ei : l.idxOf x = A.length := by rw [ea, idx_at hA]
  have el : l = X ++ ((s :: tw s B) ++ R) := by rw [e]; conv => lhs; rw [eB]
                                                simp
  rw [ei]
  constructor
  · intro h
    obtain ⟨Y, Z, ey, _⟩ := split_at h
    have k : (X ++ Y) ++ x :: (Z ++ R) = A ++ x :: C := by rw [← ea, el, ey]; simp
    obtain ⟨e1, _⟩ := split_unique (by rw [k, ← ea]; exact nd) k
    have e2 := congrArg List.length ey
    simp only [List.length_append, List.length_cons] at e2
    rw [← e1, List.length_append]; omega
  · rintro ⟨h1, h2⟩
    have hx2 : l[A.length]? = some x := by rw [ea]; simp
    rw [el, List.getElem?_append_right h1, List.getElem?_append_left (by simp; omega)] at hx2
    exact List.mem_of_getElem? hx2
end Tr
set_option Elab.async false
set_option linter.all false
set_option maxRecDepth 100000
set_option maxHeartbeats 0
namespace T
open PySem PySem.Spec PyProof.Rows L2
def top (i : Nat) : Stmt := PySem.Challenge.pw_asifcopied_k01_whole_lines_grafted.main.body.getD i (.Pass ⟨0, 0, 0, 0⟩)
abbrev s_is_whole : Stmt := top 7
abbrev N_is_whole : List Str := ["value"]
abbrev P_is_whole : List Str := ["value"]
theorem sc_is_whole : FnScope N_is_whole P_is_whole (defScope s_is_whole) := ⟨rfl, rfl, rfl, by decide +kernel, rfl, by decide +kernel, by decide +kernel⟩
theorem bd_is_whole : ∀ (kV doc pm : Value) (an : Option Addr) (cdv ct : Value) (us : List Value), us.length = P_is_whole.length → bindArgs (PySem.W.fnOf "is_whole" "is_whole" (defArgs s_is_whole) (defBody s_is_whole) (defScope s_is_whole) .none kV doc pm an cdv ct) ⟨us, []⟩ = pure (P_is_whole.zip us) := fun _ _ _ _ _ _ us hl => match us, hl with | [_], _ => rfl
abbrev s_is_number : Stmt := top 8
abbrev N_is_number : List Str := ["value", "low"]
abbrev P_is_number : List Str := ["value", "low"]
theorem sc_is_number : FnScope N_is_number P_is_number (defScope s_is_number) := ⟨rfl, rfl, rfl, by decide +kernel, rfl, by decide +kernel, by decide +kernel⟩
theorem bd_is_number : ∀ (kV doc pm : Value) (an : Option Addr) (cdv ct : Value) (us : List Value), us.length = P_is_number.length → bindArgs (PySem.W.fnOf "is_number" "is_number" (defArgs s_is_number) (defBody s_is_number) (defScope s_is_number) .none kV doc pm an cdv ct) ⟨us, []⟩ = pure (P_is_number.zip us) := fun _ _ _ _ _ _ us hl => match us, hl with | [_, _], _ => rfl
abbrev s_need_version : Stmt := top 9
abbrev N_need_version : List Str := ["version", "many"]
abbrev P_need_version : List Str := ["version", "many"]
theorem sc_need_version : FnScope N_need_version P_need_version (defScope s_need_version) := ⟨rfl, rfl, rfl, by decide +kernel, rfl, by decide +kernel, by decide +kernel⟩
theorem bd_need_version : ∀ (kV doc pm : Value) (an : Option Addr) (cdv ct : Value) (us : List Value), us.length = P_need_version.length → bindArgs (PySem.W.fnOf "need_version" "need_version" (defArgs s_need_version) (defBody s_need_version) (defScope s_need_version) .none kV doc pm an cdv ct) ⟨us, []⟩ = pure (P_need_version.zip us) := fun _ _ _ _ _ _ us hl => match us, hl with | [_, _], _ => rfl
abbrev s_are_parents : Stmt := top 11
abbrev N_are_parents : List Str := ["value", "at", "parent"]
abbrev P_are_parents : List Str := ["value"]
theorem sc_are_parents : FnScope N_are_parents P_are_parents (defScope s_are_parents) := ⟨rfl, rfl, rfl, by decide +kernel, rfl, by decide +kernel, by decide +kernel⟩
theorem bd_are_parents : ∀ (kV doc pm : Value) (an : Option Addr) (cdv ct : Value) (us : List Value), us.length = P_are_parents.length → bindArgs (PySem.W.fnOf "are_parents" "are_parents" (defArgs s_are_parents) (defBody s_are_parents) (defScope s_are_parents) .none kV doc pm an cdv ct) ⟨us, []⟩ = pure (P_are_parents.zip us) := fun _ _ _ _ _ _ us hl => match us, hl with | [_], _ => rfl
abbrev s_need_parents : Stmt := top 12
abbrev N_need_parents : List Str := ["parents"]
abbrev P_need_parents : List Str := ["parents"]
theorem sc_need_parents : FnScope N_need_parents P_need_parents (defScope s_need_parents) := ⟨rfl, rfl, rfl, by decide +kernel, rfl, by decide +kernel, by decide +kernel⟩
theorem bd_need_parents : ∀ (kV doc pm : Value) (an : Option Addr) (cdv ct : Value) (us : List Value), us.length = P_need_parents.length → bindArgs (PySem.W.fnOf "need_parents" "need_parents" (defArgs s_need_parents) (defBody s_need_parents) (defScope s_need_parents) .none kV doc pm an cdv ct) ⟨us, []⟩ = pure (P_need_parents.zip us) := fun _ _ _ _ _ _ us hl => match us, hl with | [_], _ => rfl
abbrev s_line_by : Stmt := top 14
abbrev N_line_by : List Str := ["parents", "line", "version"]
abbrev P_line_by : List Str := ["parents"]
theorem sc_line_by : FnScope N_line_by P_line_by (defScope s_line_by) := ⟨rfl, rfl, rfl, by decide +kernel, rfl, by decide +kernel, by decide +kernel⟩
theorem bd_line_by : ∀ (kV doc pm : Value) (an : Option Addr) (cdv ct : Value) (us : List Value), us.length = P_line_by.length → bindArgs (PySem.W.fnOf "line_by" "line_by" (defArgs s_line_by) (defBody s_line_by) (defScope s_line_by) .none kV doc pm an cdv ct) ⟨us, []⟩ = pure (P_line_by.zip us) := fun _ _ _ _ _ _ us hl => match us, hl with | [_], _ => rfl
abbrev s_is_of : Stmt := top 15
abbrev N_is_of : List Str := ["parents", "one", "other"]
abbrev P_is_of : List Str := ["parents", "one", "other"]
theorem sc_is_of : FnScope N_is_of P_is_of (defScope s_is_of) := ⟨rfl, rfl, rfl, by decide +kernel, rfl, by decide +kernel, by decide +kernel⟩
theorem bd_is_of : ∀ (kV doc pm : Value) (an : Option Addr) (cdv ct : Value) (us : List Value), us.length = P_is_of.length → bindArgs (PySem.W.fnOf "is_of" "is_of" (defArgs s_is_of) (defBody s_is_of) (defScope s_is_of) .none kV doc pm an cdv ct) ⟨us, []⟩ = pure (P_is_of.zip us) := fun _ _ _ _ _ _ us hl => match us, hl with | [_, _, _], _ => rfl
abbrev s_need_in : Stmt := top 16
abbrev N_need_in : List Str := ["parents", "version"]
abbrev P_need_in : List Str := ["parents", "version"]
theorem sc_need_in : FnScope N_need_in P_need_in (defScope s_need_in) := ⟨rfl, rfl, rfl, by decide +kernel, rfl, by decide +kernel, by decide +kernel⟩
theorem bd_need_in : ∀ (kV doc pm : Value) (an : Option Addr) (cdv ct : Value) (us : List Value), us.length = P_need_in.length → bindArgs (PySem.W.fnOf "need_in" "need_in" (defArgs s_need_in) (defBody s_need_in) (defScope s_need_in) .none kV doc pm an cdv ct) ⟨us, []⟩ = pure (P_need_in.zip us) := fun _ _ _ _ _ _ us hl => match us, hl with | [_, _], _ => rfl
abbrev s_line_of : Stmt := top 17
abbrev N_line_of : List Str := ["parents"]
abbrev P_line_of : List Str := ["parents"]
theorem sc_line_of : FnScope N_line_of P_line_of (defScope s_line_of) := ⟨rfl, rfl, rfl, by decide +kernel, rfl, by decide +kernel, by decide +kernel⟩
theorem bd_line_of : ∀ (kV doc pm : Value) (an : Option Addr) (cdv ct : Value) (us : List Value), us.length = P_line_of.length → bindArgs (PySem.W.fnOf "line_of" "line_of" (defArgs s_line_of) (defBody s_line_of) (defScope s_line_of) .none kV doc pm an cdv ct) ⟨us, []⟩ = pure (P_line_of.zip us) := fun _ _ _ _ _ _ us hl => match us, hl with | [_], _ => rfl
abbrev s_place : Stmt := top 18
abbrev N_place : List Str := ["parents", "version"]
abbrev P_place : List Str := ["parents", "version"]
theorem sc_place : FnScope N_place P_place (defScope s_place) := ⟨rfl, rfl, rfl, by decide +kernel, rfl, by decide +kernel, by decide +kernel⟩
theorem bd_place : ∀ (kV doc pm : Value) (an : Option Addr) (cdv ct : Value) (us : List Value), us.length = P_place.length → bindArgs (PySem.W.fnOf "place" "place" (defArgs s_place) (defBody s_place) (defScope s_place) .none kV doc pm an cdv ct) ⟨us, []⟩ = pure (P_place.zip us) := fun _ _ _ _ _ _ us hl => match us, hl with | [_, _], _ => rfl
abbrev s_is_ahead : Stmt := top 19
abbrev N_is_ahead : List Str := ["parents", "one", "other", "line"]
abbrev P_is_ahead : List Str := ["parents", "one", "other"]
theorem sc_is_ahead : FnScope N_is_ahead P_is_ahead (defScope s_is_ahead) := ⟨rfl, rfl, rfl, by decide +kernel, rfl, by decide +kernel, by decide +kernel⟩
theorem bd_is_ahead : ∀ (kV doc pm : Value) (an : Option Addr) (cdv ct : Value) (us : List Value), us.length = P_is_ahead.length → bindArgs (PySem.W.fnOf "is_ahead" "is_ahead" (defArgs s_is_ahead) (defBody s_is_ahead) (defScope s_is_ahead) .none kV doc pm an cdv ct) ⟨us, []⟩ = pure (P_is_ahead.zip us) := fun _ _ _ _ _ _ us hl => match us, hl with | [_, _, _], _ => rfl
abbrev s_next_in_line : Stmt := top 20
abbrev N_next_in_line : List Str := ["parents", "version", "line", "at"]
abbrev P_next_in_line : List Str := ["parents", "version"]
theorem sc_next_in_line : FnScope N_next_in_line P_next_in_line (defScope s_next_in_line) := ⟨rfl, rfl, rfl, by decide +kernel, rfl, by decide +kernel, by decide +kernel⟩
theorem bd_next_in_line : ∀ (kV doc pm : Value) (an : Option Addr) (cdv ct : Value) (us : List Value), us.length = P_next_in_line.length → bindArgs (PySem.W.fnOf "next_in_line" "next_in_line" (defArgs s_next_in_line) (defBody s_next_in_line) (defScope s_next_in_line) .none kV doc pm an cdv ct) ⟨us, []⟩ = pure (P_next_in_line.zip us) := fun _ _ _ _ _ _ us hl => match us, hl with | [_, _], _ => rfl
abbrev s_comes_of : Stmt := top 21
abbrev N_comes_of : List Str := ["parents", "one", "other"]
abbrev P_comes_of : List Str := ["parents", "one", "other"]
theorem sc_comes_of : FnScope N_comes_of P_comes_of (defScope s_comes_of) := ⟨rfl, rfl, rfl, by decide +kernel, rfl, by decide +kernel, by decide +kernel⟩
theorem bd_comes_of : ∀ (kV doc pm : Value) (an : Option Addr) (cdv ct : Value) (us : List Value), us.length = P_comes_of.length → bindArgs (PySem.W.fnOf "comes_of" "comes_of" (defArgs s_comes_of) (defBody s_comes_of) (defScope s_comes_of) .none kV doc pm an cdv ct) ⟨us, []⟩ = pure (P_comes_of.zip us) := fun _ _ _ _ _ _ us hl => match us, hl with | [_, _, _], _ => rfl
abbrev s_stretch : Stmt := top 22
abbrev N_stretch : List Str := ["parents", "version", "line", "first", "last"]
abbrev P_stretch : List Str := ["parents", "version"]
theorem sc_stretch : FnScope N_stretch P_stretch (defScope s_stretch) := ⟨rfl, rfl, rfl, by decide +kernel, rfl, by decide +kernel, by decide +kernel⟩
theorem bd_stretch : ∀ (kV doc pm : Value) (an : Option Addr) (cdv ct : Value) (us : List Value), us.length = P_stretch.length → bindArgs (PySem.W.fnOf "stretch" "stretch" (defArgs s_stretch) (defBody s_stretch) (defScope s_stretch) .none kV doc pm an cdv ct) ⟨us, []⟩ = pure (P_stretch.zip us) := fun _ _ _ _ _ _ us hl => match us, hl with | [_, _], _ => rfl
abbrev s_meet : Stmt := top 23
abbrev N_meet : List Str := ["parents", "one", "other"]
abbrev P_meet : List Str := ["parents", "one", "other"]
theorem sc_meet : FnScope N_meet P_meet (defScope s_meet) := ⟨rfl, rfl, rfl, by decide +kernel, rfl, by decide +kernel, by decide +kernel⟩
theorem bd_meet : ∀ (kV doc pm : Value) (an : Option Addr) (cdv ct : Value) (us : List Value), us.length = P_meet.length → bindArgs (PySem.W.fnOf "meet" "meet" (defArgs s_meet) (defBody s_meet) (defScope s_meet) .none kV doc pm an cdv ct) ⟨us, []⟩ = pure (P_meet.zip us) := fun _ _ _ _ _ _ us hl => match us, hl with | [_, _, _], _ => rfl
abbrev s_is_line : Stmt := top 24
abbrev N_is_line : List Str := ["value", "item"]
abbrev P_is_line : List Str := ["value"]
theorem sc_is_line : FnScope N_is_line P_is_line (defScope s_is_line) := ⟨rfl, rfl, rfl, by decide +kernel, rfl, by decide +kernel, by decide +kernel⟩
theorem bd_is_line : ∀ (kV doc pm : Value) (an : Option Addr) (cdv ct : Value) (us : List Value), us.length = P_is_line.length → bindArgs (PySem.W.fnOf "is_line" "is_line" (defArgs s_is_line) (defBody s_is_line) (defScope s_is_line) .none kV doc pm an cdv ct) ⟨us, []⟩ = pure (P_is_line.zip us) := fun _ _ _ _ _ _ us hl => match us, hl with | [_], _ => rfl
abbrev s_tree_of : Stmt := top 25
abbrev N_tree_of : List Str := ["line", "parents", "at", "version", "other"]
abbrev P_tree_of : List Str := ["line"]
theorem sc_tree_of : FnScope N_tree_of P_tree_of (defScope s_tree_of) := ⟨rfl, rfl, rfl, by decide +kernel, rfl, by decide +kernel, by decide +kernel⟩
theorem bd_tree_of : ∀ (kV doc pm : Value) (an : Option Addr) (cdv ct : Value) (us : List Value), us.length = P_tree_of.length → bindArgs (PySem.W.fnOf "tree_of" "tree_of" (defArgs s_tree_of) (defBody s_tree_of) (defScope s_tree_of) .none kV doc pm an cdv ct) ⟨us, []⟩ = pure (P_tree_of.zip us) := fun _ _ _ _ _ _ us hl => match us, hl with | [_], _ => rfl
abbrev s_law_begun : Stmt := top 27
abbrev N_law_begun : List Str := ["script", "great", "cell"]
abbrev P_law_begun : List Str := ["script"]
theorem sc_law_begun : FnScope N_law_begun P_law_begun (defScope s_law_begun) := ⟨rfl, rfl, rfl, by decide +kernel, rfl, by decide +kernel, by decide +kernel⟩
theorem bd_law_begun : ∀ (kV doc pm : Value) (an : Option Addr) (cdv ct : Value) (us : List Value), us.length = P_law_begun.length → bindArgs (PySem.W.fnOf "_law_begun" "_law_begun" (defArgs s_law_begun) (defBody s_law_begun) (defScope s_law_begun) .none kV doc pm an cdv ct) ⟨us, []⟩ = pure (P_law_begun.zip us) := fun _ _ _ _ _ _ us hl => match us, hl with | [_], _ => rfl
abbrev s_law_blended : Stmt := top 28
abbrev N_law_blended : List Str := ["state", "turn", "found", "prime", "blend", "cell"]
abbrev P_law_blended : List Str := ["state"]
theorem sc_law_blended : FnScope N_law_blended P_law_blended (defScope s_law_blended) := ⟨rfl, rfl, rfl, by decide +kernel, rfl, by decide +kernel, by decide +kernel⟩
theorem bd_law_blended : ∀ (kV doc pm : Value) (an : Option Addr) (cdv ct : Value) (us : List Value), us.length = P_law_blended.length → bindArgs (PySem.W.fnOf "_law_blended" "_law_blended" (defArgs s_law_blended) (defBody s_law_blended) (defScope s_law_blended) .none kV doc pm an cdv ct) ⟨us, []⟩ = pure (P_law_blended.zip us) := fun _ _ _ _ _ _ us hl => match us, hl with | [_], _ => rfl
abbrev s_law_draw : Stmt := top 29
abbrev N_law_draw : List Str := ["state", "size_here", "found"]
abbrev P_law_draw : List Str := ["state", "size_here"]
theorem sc_law_draw : FnScope N_law_draw P_law_draw (defScope s_law_draw) := ⟨rfl, rfl, rfl, by decide +kernel, rfl, by decide +kernel, by decide +kernel⟩
theorem bd_law_draw : ∀ (kV doc pm : Value) (an : Option Addr) (cdv ct : Value) (us : List Value), us.length = P_law_draw.length → bindArgs (PySem.W.fnOf "_law_draw" "_law_draw" (defArgs s_law_draw) (defBody s_law_draw) (defScope s_law_draw) .none kV doc pm an cdv ct) ⟨us, []⟩ = pure (P_law_draw.zip us) := fun _ _ _ _ _ _ us hl => match us, hl with | [_, _], _ => rfl
abbrev s_law_pick : Stmt := top 30
abbrev N_law_pick : List Str := ["state", "several"]
abbrev P_law_pick : List Str := ["state", "several"]
theorem sc_law_pick : FnScope N_law_pick P_law_pick (defScope s_law_pick) := ⟨rfl, rfl, rfl, by decide +kernel, rfl, by decide +kernel, by decide +kernel⟩
theorem bd_law_pick : ∀ (kV doc pm : Value) (an : Option Addr) (cdv ct : Value) (us : List Value), us.length = P_law_pick.length → bindArgs (PySem.W.fnOf "_law_pick" "_law_pick" (defArgs s_law_pick) (defBody s_law_pick) (defScope s_law_pick) .none kV doc pm an cdv ct) ⟨us, []⟩ = pure (P_law_pick.zip us) := fun _ _ _ _ _ _ us hl => match us, hl with | [_, _], _ => rfl
abbrev s_law_caught : Stmt := top 31
abbrev N_law_caught : List Str := ["work", "caught", "error"]
abbrev P_law_caught : List Str := ["work"]
theorem sc_law_caught : FnScope N_law_caught P_law_caught (defScope s_law_caught) := ⟨rfl, rfl, rfl, by decide +kernel, rfl, by decide +kernel, by decide +kernel⟩
theorem bd_law_caught : ∀ (kV doc pm : Value) (an : Option Addr) (cdv ct : Value) (us : List Value), us.length = P_law_caught.length → bindArgs (PySem.W.fnOf "_law_caught" "_law_caught" (defArgs s_law_caught) (defBody s_law_caught) (defScope s_law_caught) .none kV doc pm an cdv ct) ⟨us, []⟩ = pure (P_law_caught.zip us) := fun _ _ _ _ _ _ us hl => match us, hl with | [_], _ => rfl
abbrev s_law_is_truth : Stmt := top 32
abbrev N_law_is_truth : List Str := ["found", "due"]
abbrev P_law_is_truth : List Str := ["found", "due"]
theorem sc_law_is_truth : FnScope N_law_is_truth P_law_is_truth (defScope s_law_is_truth) := ⟨rfl, rfl, rfl, by decide +kernel, rfl, by decide +kernel, by decide +kernel⟩
theorem bd_law_is_truth : ∀ (kV doc pm : Value) (an : Option Addr) (cdv ct : Value) (us : List Value), us.length = P_law_is_truth.length → bindArgs (PySem.W.fnOf "_law_is_truth" "_law_is_truth" (defArgs s_law_is_truth) (defBody s_law_is_truth) (defScope s_law_is_truth) .none kV doc pm an cdv ct) ⟨us, []⟩ = pure (P_law_is_truth.zip us) := fun _ _ _ _ _ _ us hl => match us, hl with | [_, _], _ => rfl
abbrev s_law_is_whole : Stmt := top 33
abbrev N_law_is_whole : List Str := ["item"]
abbrev P_law_is_whole : List Str := ["item"]
theorem sc_law_is_whole : FnScope N_law_is_whole P_law_is_whole (defScope s_law_is_whole) := ⟨rfl, rfl, rfl, by decide +kernel, rfl, by decide +kernel, by decide +kernel⟩
theorem bd_law_is_whole : ∀ (kV doc pm : Value) (an : Option Addr) (cdv ct : Value) (us : List Value), us.length = P_law_is_whole.length → bindArgs (PySem.W.fnOf "_law_is_whole" "_law_is_whole" (defArgs s_law_is_whole) (defBody s_law_is_whole) (defScope s_law_is_whole) .none kV doc pm an cdv ct) ⟨us, []⟩ = pure (P_law_is_whole.zip us) := fun _ _ _ _ _ _ us hl => match us, hl with | [_], _ => rfl
abbrev s_law_as_moved_value : Stmt := top 34
abbrev N_law_as_moved_value : List Str := ["value", "many"]
abbrev P_law_as_moved_value : List Str := ["value", "many"]
theorem sc_law_as_moved_value : FnScope N_law_as_moved_value P_law_as_moved_value (defScope s_law_as_moved_value) := ⟨rfl, rfl, rfl, by decide +kernel, rfl, by decide +kernel, by decide +kernel⟩
theorem bd_law_as_moved_value : ∀ (kV doc pm : Value) (an : Option Addr) (cdv ct : Value) (us : List Value), us.length = P_law_as_moved_value.length → bindArgs (PySem.W.fnOf "_law_as_moved_value" "_law_as_moved_value" (defArgs s_law_as_moved_value) (defBody s_law_as_moved_value) (defScope s_law_as_moved_value) .none kV doc pm an cdv ct) ⟨us, []⟩ = pure (P_law_as_moved_value.zip us) := fun _ _ _ _ _ _ us hl => match us, hl with | [_, _], _ => rfl
abbrev s_law_as_moved : Stmt := top 35
abbrev N_law_as_moved : List Str := ["deed_here", "many", "found", "change", "value"]
abbrev P_law_as_moved : List Str := ["deed_here", "many"]
theorem sc_law_as_moved : FnScope N_law_as_moved P_law_as_moved (defScope s_law_as_moved) := ⟨rfl, rfl, rfl, by decide +kernel, rfl, by decide +kernel, by decide +kernel⟩
theorem bd_law_as_moved : ∀ (kV doc pm : Value) (an : Option Addr) (cdv ct : Value) (us : List Value), us.length = P_law_as_moved.length → bindArgs (PySem.W.fnOf "_law_as_moved" "_law_as_moved" (defArgs s_law_as_moved) (defBody s_law_as_moved) (defScope s_law_as_moved) .none kV doc pm an cdv ct) ⟨us, []⟩ = pure (P_law_as_moved.zip us) := fun _ _ _ _ _ _ us hl => match us, hl with | [_, _], _ => rfl
abbrev s_law_as_grafted : Stmt := top 36
abbrev N_law_as_grafted : List Str := ["state", "one", "other", "wide", "at", "many", "field", "is_woven", "deed_here", "begun", "whole", "mine", "late", "first", "second", "number"]
abbrev P_law_as_grafted : List Str := ["state", "one", "other", "wide", "at", "many", "field", "is_woven"]
theorem sc_law_as_grafted : FnScope N_law_as_grafted P_law_as_grafted (defScope s_law_as_grafted) := ⟨rfl, rfl, rfl, by decide +kernel, rfl, by decide +kernel, by decide +kernel⟩
theorem bd_law_as_grafted : ∀ (kV doc pm : Value) (an : Option Addr) (cdv ct : Value) (us : List Value), us.length = P_law_as_grafted.length → bindArgs (PySem.W.fnOf "_law_as_grafted" "_law_as_grafted" (defArgs s_law_as_grafted) (defBody s_law_as_grafted) (defScope s_law_as_grafted) .none kV doc pm an cdv ct) ⟨us, []⟩ = pure (P_law_as_grafted.zip us) := fun _ _ _ _ _ _ us hl => match us, hl with | [_, _, _, _, _, _, _, _], _ => rfl
abbrev s_law_as_same : Stmt := top 37
abbrev N_law_as_same : List Str := ["found", "due"]
abbrev P_law_as_same : List Str := ["found", "due"]
theorem sc_law_as_same : FnScope N_law_as_same P_law_as_same (defScope s_law_as_same) := ⟨rfl, rfl, rfl, by decide +kernel, rfl, by decide +kernel, by decide +kernel⟩
theorem bd_law_as_same : ∀ (kV doc pm : Value) (an : Option Addr) (cdv ct : Value) (us : List Value), us.length = P_law_as_same.length → bindArgs (PySem.W.fnOf "_law_as_same" "_law_as_same" (defArgs s_law_as_same) (defBody s_law_as_same) (defScope s_law_as_same) .none kV doc pm an cdv ct) ⟨us, []⟩ = pure (P_law_as_same.zip us) := fun _ _ _ _ _ _ us hl => match us, hl with | [_, _], _ => rfl
abbrev s_law_as_value : Stmt := top 38
abbrev N_law_as_value : List Str := ["state", "many", "way"]
abbrev P_law_as_value : List Str := ["state", "many"]
theorem sc_law_as_value : FnScope N_law_as_value P_law_as_value (defScope s_law_as_value) := ⟨rfl, rfl, rfl, by decide +kernel, rfl, by decide +kernel, by decide +kernel⟩
theorem bd_law_as_value : ∀ (kV doc pm : Value) (an : Option Addr) (cdv ct : Value) (us : List Value), us.length = P_law_as_value.length → bindArgs (PySem.W.fnOf "_law_as_value" "_law_as_value" (defArgs s_law_as_value) (defBody s_law_as_value) (defScope s_law_as_value) .none kV doc pm an cdv ct) ⟨us, []⟩ = pure (P_law_as_value.zip us) := fun _ _ _ _ _ _ us hl => match us, hl with | [_, _], _ => rfl
abbrev s_law_as_story : Stmt := top 39
abbrev N_law_as_story : List Str := ["state", "wide", "size_here", "most", "found", "counts", "way", "number", "parent", "many", "deed_here", "lap", "field", "record"]
abbrev P_law_as_story : List Str := ["state", "wide", "size_here", "most"]
theorem sc_law_as_story : FnScope N_law_as_story P_law_as_story (defScope s_law_as_story) := ⟨rfl, rfl, rfl, by decide +kernel, rfl, by decide +kernel, by decide +kernel⟩
theorem bd_law_as_story : ∀ (kV doc pm : Value) (an : Option Addr) (cdv ct : Value) (us : List Value), us.length = P_law_as_story.length → bindArgs (PySem.W.fnOf "_law_as_story" "_law_as_story" (defArgs s_law_as_story) (defBody s_law_as_story) (defScope s_law_as_story) .none kV doc pm an cdv ct) ⟨us, []⟩ = pure (P_law_as_story.zip us) := fun _ _ _ _ _ _ us hl => match us, hl with | [_, _, _, _], _ => rfl
abbrev s_law_as_line : Stmt := top 40
abbrev N_law_as_line : List Str := ["parents_here", "children", "version", "found", "todo", "here"]
abbrev P_law_as_line : List Str := ["parents_here"]
theorem sc_law_as_line : FnScope N_law_as_line P_law_as_line (defScope s_law_as_line) := ⟨rfl, rfl, rfl, by decide +kernel, rfl, by decide +kernel, by decide +kernel⟩
theorem bd_law_as_line : ∀ (kV doc pm : Value) (an : Option Addr) (cdv ct : Value) (us : List Value), us.length = P_law_as_line.length → bindArgs (PySem.W.fnOf "_law_as_line" "_law_as_line" (defArgs s_law_as_line) (defBody s_law_as_line) (defScope s_law_as_line) .none kV doc pm an cdv ct) ⟨us, []⟩ = pure (P_law_as_line.zip us) := fun _ _ _ _ _ _ us hl => match us, hl with | [_], _ => rfl
abbrev s_law_as_parents : Stmt := top 41
abbrev N_law_as_parents : List Str := ["story_here", "pair"]
abbrev P_law_as_parents : List Str := ["story_here"]
theorem sc_law_as_parents : FnScope N_law_as_parents P_law_as_parents (defScope s_law_as_parents) := ⟨rfl, rfl, rfl, by decide +kernel, rfl, by decide +kernel, by decide +kernel⟩
theorem bd_law_as_parents : ∀ (kV doc pm : Value) (an : Option Addr) (cdv ct : Value) (us : List Value), us.length = P_law_as_parents.length → bindArgs (PySem.W.fnOf "_law_as_parents" "_law_as_parents" (defArgs s_law_as_parents) (defBody s_law_as_parents) (defScope s_law_as_parents) .none kV doc pm an cdv ct) ⟨us, []⟩ = pure (P_law_as_parents.zip us) := fun _ _ _ _ _ _ us hl => match us, hl with | [_], _ => rfl
abbrev s_law_k01_up : Stmt := top 42
abbrev N_law_k01_up : List Str := ["parents_here", "version", "found"]
abbrev P_law_k01_up : List Str := ["parents_here", "version"]
theorem sc_law_k01_up : FnScope N_law_k01_up P_law_k01_up (defScope s_law_k01_up) := ⟨rfl, rfl, rfl, by decide +kernel, rfl, by decide +kernel, by decide +kernel⟩
theorem bd_law_k01_up : ∀ (kV doc pm : Value) (an : Option Addr) (cdv ct : Value) (us : List Value), us.length = P_law_k01_up.length → bindArgs (PySem.W.fnOf "_law_k01_up" "_law_k01_up" (defArgs s_law_k01_up) (defBody s_law_k01_up) (defScope s_law_k01_up) .none kV doc pm an cdv ct) ⟨us, []⟩ = pure (P_law_k01_up.zip us) := fun _ _ _ _ _ _ us hl => match us, hl with | [_, _], _ => rfl
abbrev s_law_k01_meet : Stmt := top 43
abbrev N_law_k01_meet : List Str := ["parents_here", "one", "other", "ways", "version"]
abbrev P_law_k01_meet : List Str := ["parents_here", "one", "other"]
theorem sc_law_k01_meet : FnScope N_law_k01_meet P_law_k01_meet (defScope s_law_k01_meet) := ⟨rfl, rfl, rfl, by decide +kernel, rfl, by decide +kernel, by decide +kernel⟩
theorem bd_law_k01_meet : ∀ (kV doc pm : Value) (an : Option Addr) (cdv ct : Value) (us : List Value), us.length = P_law_k01_meet.length → bindArgs (PySem.W.fnOf "_law_k01_meet" "_law_k01_meet" (defArgs s_law_k01_meet) (defBody s_law_k01_meet) (defScope s_law_k01_meet) .none kV doc pm an cdv ct) ⟨us, []⟩ = pure (P_law_k01_meet.zip us) := fun _ _ _ _ _ _ us hl => match us, hl with | [_, _, _], _ => rfl
abbrev s_law_k01_asked : Stmt := top 44
abbrev N_law_k01_asked : List Str := ["state", "parents_here", "line_here", "many", "one", "other", "first", "second", "last"]
abbrev P_law_k01_asked : List Str := ["state", "parents_here", "line_here"]
theorem sc_law_k01_asked : FnScope N_law_k01_asked P_law_k01_asked (defScope s_law_k01_asked) := ⟨rfl, rfl, rfl, by decide +kernel, rfl, by decide +kernel, by decide +kernel⟩
theorem bd_law_k01_asked : ∀ (kV doc pm : Value) (an : Option Addr) (cdv ct : Value) (us : List Value), us.length = P_law_k01_asked.length → bindArgs (PySem.W.fnOf "_law_k01_asked" "_law_k01_asked" (defArgs s_law_k01_asked) (defBody s_law_k01_asked) (defScope s_law_k01_asked) .none kV doc pm an cdv ct) ⟨us, []⟩ = pure (P_law_k01_asked.zip us) := fun _ _ _ _ _ _ us hl => match us, hl with | [_, _, _], _ => rfl
abbrev s_law_k01_bent : Stmt := top 45
abbrev N_law_k01_bent : List Str := ["state", "line_here", "at", "other", "some", "values"]
abbrev P_law_k01_bent : List Str := ["state", "line_here"]
theorem sc_law_k01_bent : FnScope N_law_k01_bent P_law_k01_bent (defScope s_law_k01_bent) := ⟨rfl, rfl, rfl, by decide +kernel, rfl, by decide +kernel, by decide +kernel⟩
theorem bd_law_k01_bent : ∀ (kV doc pm : Value) (an : Option Addr) (cdv ct : Value) (us : List Value), us.length = P_law_k01_bent.length → bindArgs (PySem.W.fnOf "_law_k01_bent" "_law_k01_bent" (defArgs s_law_k01_bent) (defBody s_law_k01_bent) (defScope s_law_k01_bent) .none kV doc pm an cdv ct) ⟨us, []⟩ = pure (P_law_k01_bent.zip us) := fun _ _ _ _ _ _ us hl => match us, hl with | [_, _], _ => rfl
abbrev s_law : Stmt := top 46
abbrev N_law : List Str := ["script", "state", "turn", "one", "other", "at", "graft", "parents_here", "mine", "late", "first", "second", "line_here", "version", "begin", "end", "inner", "lap", "here", "there", "bent", "good", "item"]
abbrev P_law : List Str := ["script"]
theorem sc_law : FnScope N_law P_law (defScope s_law) := ⟨rfl, rfl, rfl, by decide +kernel, rfl, by decide +kernel, by decide +kernel⟩
theorem bd_law : ∀ (kV doc pm : Value) (an : Option Addr) (cdv ct : Value) (us : List Value), us.length = P_law.length → bindArgs (PySem.W.fnOf "law" "law" (defArgs s_law) (defBody s_law) (defScope s_law) .none kV doc pm an cdv ct) ⟨us, []⟩ = pure (P_law.zip us) := fun _ _ _ _ _ _ us hl => match us, hl with | [_], _ => rfl
/-- what the top has laid under the names that the defs lean on -/
structure Txt (K : PySem.W.Frag) (mg : Str → Option Value) (C_BadVersion : Addr) (C_BadParents : Addr) (C_BadLine : Addr) (C_CopyError : Addr) : Prop where
  n_isinstance : mg "isinstance" = none
  n_int : mg "int" = none
  n_bool : mg "bool" = none
  n_abs : mg "abs" = none
  n_all : mg "all" = none
  n_tuple : mg "tuple" = none
  n_enumerate : mg "enumerate" = none
  n_range : mg "range" = none
  n_len : mg "len" = none
  n_sorted : mg "sorted" = none
  n_list : mg "list" = none
  n_repr : mg "repr" = none
  n_max : mg "max" = none
  n_str : mg "str" = none
  c_MOST_NUMBER : ∃ u, mg "MOST_NUMBER" = some u ∧ RelV (.int (1000000000000000000)) u
  c_BadVersion : ∃ u, mg "BadVersion" = some u ∧ RelV (.ref C_BadVersion) u
  g_BadVersion : mg "BadVersion" = some (.ref C_BadVersion)
  c_BadParents : ∃ u, mg "BadParents" = some u ∧ RelV (.ref C_BadParents) u
  g_BadParents : mg "BadParents" = some (.ref C_BadParents)
  c_BadLine : ∃ u, mg "BadLine" = some u ∧ RelV (.ref C_BadLine) u
  g_BadLine : mg "BadLine" = some (.ref C_BadLine)
  c_CopyError : ∃ u, mg "CopyError" = some u ∧ RelV (.ref C_CopyError) u
  g_CopyError : mg "CopyError" = some (.ref C_CopyError)
  x_BadLine : PySem.W.excIn K C_BadLine He.veBase "ValueError.__new__" = true
  k_BadLine : PySem.W.keepIn K (.ref C_BadLine) = true
  b_BadLine : PySem.W.subIn K (.ref C_BadLine) (.type "BaseException") = some true
  t_BadLine : PySem.W.typeIn K (.ref C_BadLine) = some (.type "type")
  i_BadLine : ExcC K C_BadLine
  o_BadLine : PySem.W.kitOne K (.ref C_BadLine) (.ref C_BadLine) = some true
  m_BadLine_CopyError : PySem.W.exmOne K (.ref C_BadLine) (.ref C_CopyError) = some true
end T
set_option Elab.async false
set_option linter.all false
set_option maxRecDepth 100000
set_option maxHeartbeats 4000000
set_option autoImplicit false
namespace T
open PySem PySem.Spec PyProof.Rows L2
theorem kb_meet_2_1_0 : ∀ (kV doc pm : Value) (an : Option Addr) (cdv ct : Value) (ws : List Value), ws.length = (["other", "one", "parents"] : List Str).length → (A.pick [2, 1, 0] [] ws).length = P_meet.length → bindArgs (PySem.W.fnOf "meet" "meet" (defArgs s_meet) (defBody s_meet) (defScope s_meet) .none kV doc pm an cdv ct) ⟨[], (["other", "one", "parents"] : List Str).zip ws⟩ = pure (P_meet.zip (A.pick [2, 1, 0] [] ws)) := fun _ _ _ _ _ _ ws hl _ => match ws, hl with | [_, _, _], _ => rfl
theorem kb_comes_of_2_1_0 : ∀ (kV doc pm : Value) (an : Option Addr) (cdv ct : Value) (ws : List Value), ws.length = (["other", "one", "parents"] : List Str).length → (A.pick [2, 1, 0] [] ws).length = P_comes_of.length → bindArgs (PySem.W.fnOf "comes_of" "comes_of" (defArgs s_comes_of) (defBody s_comes_of) (defScope s_comes_of) .none kV doc pm an cdv ct) ⟨[], (["other", "one", "parents"] : List Str).zip ws⟩ = pure (P_comes_of.zip (A.pick [2, 1, 0] [] ws)) := fun _ _ _ _ _ _ ws hl _ => match ws, hl with | [_, _, _], _ => rfl
theorem kb_place_1_0 : ∀ (kV doc pm : Value) (an : Option Addr) (cdv ct : Value) (ws : List Value), ws.length = (["version", "parents"] : List Str).length → (A.pick [1, 0] [] ws).length = P_place.length → bindArgs (PySem.W.fnOf "place" "place" (defArgs s_place) (defBody s_place) (defScope s_place) .none kV doc pm an cdv ct) ⟨[], (["version", "parents"] : List Str).zip ws⟩ = pure (P_place.zip (A.pick [1, 0] [] ws)) := fun _ _ _ _ _ _ ws hl _ => match ws, hl with | [_, _], _ => rfl
theorem kb_is_ahead_2_1_0 : ∀ (kV doc pm : Value) (an : Option Addr) (cdv ct : Value) (ws : List Value), ws.length = (["other", "one", "parents"] : List Str).length → (A.pick [2, 1, 0] [] ws).length = P_is_ahead.length → bindArgs (PySem.W.fnOf "is_ahead" "is_ahead" (defArgs s_is_ahead) (defBody s_is_ahead) (defScope s_is_ahead) .none kV doc pm an cdv ct) ⟨[], (["other", "one", "parents"] : List Str).zip ws⟩ = pure (P_is_ahead.zip (A.pick [2, 1, 0] [] ws)) := fun _ _ _ _ _ _ ws hl _ => match ws, hl with | [_, _, _], _ => rfl
theorem kb_stretch_1_0 : ∀ (kV doc pm : Value) (an : Option Addr) (cdv ct : Value) (ws : List Value), ws.length = (["version", "parents"] : List Str).length → (A.pick [1, 0] [] ws).length = P_stretch.length → bindArgs (PySem.W.fnOf "stretch" "stretch" (defArgs s_stretch) (defBody s_stretch) (defScope s_stretch) .none kV doc pm an cdv ct) ⟨[], (["version", "parents"] : List Str).zip ws⟩ = pure (P_stretch.zip (A.pick [1, 0] [] ws)) := fun _ _ _ _ _ _ ws hl _ => match ws, hl with | [_, _], _ => rfl
theorem kb_line_of_0 : ∀ (kV doc pm : Value) (an : Option Addr) (cdv ct : Value) (ws : List Value), ws.length = (["parents"] : List Str).length → (A.pick [0] [] ws).length = P_line_of.length → bindArgs (PySem.W.fnOf "line_of" "line_of" (defArgs s_line_of) (defBody s_line_of) (defScope s_line_of) .none kV doc pm an cdv ct) ⟨[], (["parents"] : List Str).zip ws⟩ = pure (P_line_of.zip (A.pick [0] [] ws)) := fun _ _ _ _ _ _ ws hl _ => match ws, hl with | [_], _ => rfl
theorem kb_tree_of_0 : ∀ (kV doc pm : Value) (an : Option Addr) (cdv ct : Value) (ws : List Value), ws.length = (["line"] : List Str).length → (A.pick [0] [] ws).length = P_tree_of.length → bindArgs (PySem.W.fnOf "tree_of" "tree_of" (defArgs s_tree_of) (defBody s_tree_of) (defScope s_tree_of) .none kV doc pm an cdv ct) ⟨[], (["line"] : List Str).zip ws⟩ = pure (P_tree_of.zip (A.pick [0] [] ws)) := fun _ _ _ _ _ _ ws hl _ => match ws, hl with | [_], _ => rfl
theorem kb_is_line_0 : ∀ (kV doc pm : Value) (an : Option Addr) (cdv ct : Value) (ws : List Value), ws.length = (["value"] : List Str).length → (A.pick [0] [] ws).length = P_is_line.length → bindArgs (PySem.W.fnOf "is_line" "is_line" (defArgs s_is_line) (defBody s_is_line) (defScope s_is_line) .none kV doc pm an cdv ct) ⟨[], (["value"] : List Str).zip ws⟩ = pure (P_is_line.zip (A.pick [0] [] ws)) := fun _ _ _ _ _ _ ws hl _ => match ws, hl with | [_], _ => rfl
end T
set_option Elab.async false
set_option linter.all false
set_option maxRecDepth 100000
set_option maxHeartbeats 0
namespace T
open PySem PySem.Spec PyProof.Rows L2
def d_is_whole : He.DefD := ⟨("is_whole", none), "is_whole", "is_whole", defArgs s_is_whole, defBody s_is_whole, defScope s_is_whole, [], []⟩
def d_is_number : He.DefD := ⟨("is_number", none), "is_number", "is_number", defArgs s_is_number, defBody s_is_number, defScope s_is_number, [], []⟩
def d_need_version : He.DefD := ⟨("need_version", none), "need_version", "need_version", defArgs s_need_version, defBody s_need_version, defScope s_need_version, [], []⟩
def d_are_parents : He.DefD := ⟨("are_parents", none), "are_parents", "are_parents", defArgs s_are_parents, defBody s_are_parents, defScope s_are_parents, [], []⟩
def d_need_parents : He.DefD := ⟨("need_parents", none), "need_parents", "need_parents", defArgs s_need_parents, defBody s_need_parents, defScope s_need_parents, [], []⟩
def d_line_by : He.DefD := ⟨("line_by", none), "line_by", "line_by", defArgs s_line_by, defBody s_line_by, defScope s_line_by, [], []⟩
def d_is_of : He.DefD := ⟨("is_of", none), "is_of", "is_of", defArgs s_is_of, defBody s_is_of, defScope s_is_of, [], []⟩
def d_need_in : He.DefD := ⟨("need_in", none), "need_in", "need_in", defArgs s_need_in, defBody s_need_in, defScope s_need_in, [], []⟩
def d_line_of : He.DefD := ⟨("line_of", none), "line_of", "line_of", defArgs s_line_of, defBody s_line_of, defScope s_line_of, [], []⟩
def d_place : He.DefD := ⟨("place", none), "place", "place", defArgs s_place, defBody s_place, defScope s_place, [], []⟩
def d_is_ahead : He.DefD := ⟨("is_ahead", none), "is_ahead", "is_ahead", defArgs s_is_ahead, defBody s_is_ahead, defScope s_is_ahead, [], []⟩
def d_next_in_line : He.DefD := ⟨("next_in_line", none), "next_in_line", "next_in_line", defArgs s_next_in_line, defBody s_next_in_line, defScope s_next_in_line, [], []⟩
def d_comes_of : He.DefD := ⟨("comes_of", none), "comes_of", "comes_of", defArgs s_comes_of, defBody s_comes_of, defScope s_comes_of, [], []⟩
def d_stretch : He.DefD := ⟨("stretch", none), "stretch", "stretch", defArgs s_stretch, defBody s_stretch, defScope s_stretch, [], []⟩
def d_meet : He.DefD := ⟨("meet", none), "meet", "meet", defArgs s_meet, defBody s_meet, defScope s_meet, [], []⟩
def d_is_line : He.DefD := ⟨("is_line", none), "is_line", "is_line", defArgs s_is_line, defBody s_is_line, defScope s_is_line, [], []⟩
def d_tree_of : He.DefD := ⟨("tree_of", none), "tree_of", "tree_of", defArgs s_tree_of, defBody s_tree_of, defScope s_tree_of, [], []⟩
def d_law_begun : He.DefD := ⟨("_law_begun", none), "_law_begun", "_law_begun", defArgs s_law_begun, defBody s_law_begun, defScope s_law_begun, [], []⟩
def d_law_blended : He.DefD := ⟨("_law_blended", none), "_law_blended", "_law_blended", defArgs s_law_blended, defBody s_law_blended, defScope s_law_blended, [], []⟩
def d_law_draw : He.DefD := ⟨("_law_draw", none), "_law_draw", "_law_draw", defArgs s_law_draw, defBody s_law_draw, defScope s_law_draw, [], []⟩
def d_law_pick : He.DefD := ⟨("_law_pick", none), "_law_pick", "_law_pick", defArgs s_law_pick, defBody s_law_pick, defScope s_law_pick, [], []⟩
def d_law_caught : He.DefD := ⟨("_law_caught", none), "_law_caught", "_law_caught", defArgs s_law_caught, defBody s_law_caught, defScope s_law_caught, [], []⟩
def d_law_is_truth : He.DefD := ⟨("_law_is_truth", none), "_law_is_truth", "_law_is_truth", defArgs s_law_is_truth, defBody s_law_is_truth, defScope s_law_is_truth, [], []⟩
def d_law_is_whole : He.DefD := ⟨("_law_is_whole", none), "_law_is_whole", "_law_is_whole", defArgs s_law_is_whole, defBody s_law_is_whole, defScope s_law_is_whole, [], []⟩
def d_law_as_moved_value : He.DefD := ⟨("_law_as_moved_value", none), "_law_as_moved_value", "_law_as_moved_value", defArgs s_law_as_moved_value, defBody s_law_as_moved_value, defScope s_law_as_moved_value, [], []⟩
def d_law_as_moved : He.DefD := ⟨("_law_as_moved", none), "_law_as_moved", "_law_as_moved", defArgs s_law_as_moved, defBody s_law_as_moved, defScope s_law_as_moved, [], []⟩
def d_law_as_grafted : He.DefD := ⟨("_law_as_grafted", none), "_law_as_grafted", "_law_as_grafted", defArgs s_law_as_grafted, defBody s_law_as_grafted, defScope s_law_as_grafted, [], []⟩
def d_law_as_same : He.DefD := ⟨("_law_as_same", none), "_law_as_same", "_law_as_same", defArgs s_law_as_same, defBody s_law_as_same, defScope s_law_as_same, [], []⟩
def d_law_as_value : He.DefD := ⟨("_law_as_value", none), "_law_as_value", "_law_as_value", defArgs s_law_as_value, defBody s_law_as_value, defScope s_law_as_value, [], []⟩
def d_law_as_story : He.DefD := ⟨("_law_as_story", none), "_law_as_story", "_law_as_story", defArgs s_law_as_story, defBody s_law_as_story, defScope s_law_as_story, [], []⟩
def d_law_as_line : He.DefD := ⟨("_law_as_line", none), "_law_as_line", "_law_as_line", defArgs s_law_as_line, defBody s_law_as_line, defScope s_law_as_line, [], []⟩
def d_law_as_parents : He.DefD := ⟨("_law_as_parents", none), "_law_as_parents", "_law_as_parents", defArgs s_law_as_parents, defBody s_law_as_parents, defScope s_law_as_parents, [], []⟩
def d_law_k01_up : He.DefD := ⟨("_law_k01_up", none), "_law_k01_up", "_law_k01_up", defArgs s_law_k01_up, defBody s_law_k01_up, defScope s_law_k01_up, [], []⟩
def d_law_k01_meet : He.DefD := ⟨("_law_k01_meet", none), "_law_k01_meet", "_law_k01_meet", defArgs s_law_k01_meet, defBody s_law_k01_meet, defScope s_law_k01_meet, [], []⟩
def d_law_k01_asked : He.DefD := ⟨("_law_k01_asked", none), "_law_k01_asked", "_law_k01_asked", defArgs s_law_k01_asked, defBody s_law_k01_asked, defScope s_law_k01_asked, [], []⟩
def d_law_k01_bent : He.DefD := ⟨("_law_k01_bent", none), "_law_k01_bent", "_law_k01_bent", defArgs s_law_k01_bent, defBody s_law_k01_bent, defScope s_law_k01_bent, [], []⟩
def d_law : He.DefD := ⟨("law", none), "law", "law", defArgs s_law, defBody s_law, defScope s_law, [], []⟩
def fn : List He.DefD := [d_is_whole, d_is_number, d_need_version, d_are_parents, d_need_parents, d_line_by, d_is_of, d_need_in, d_line_of, d_place, d_is_ahead, d_next_in_line, d_comes_of, d_stretch, d_meet, d_is_line, d_tree_of, d_law_begun, d_law_blended, d_law_draw, d_law_pick, d_law_caught, d_law_is_truth, d_law_is_whole, d_law_as_moved_value, d_law_as_moved, d_law_as_grafted, d_law_as_same, d_law_as_value, d_law_as_story, d_law_as_line, d_law_as_parents, d_law_k01_up, d_law_k01_meet, d_law_k01_asked, d_law_k01_bent, d_law]
def fa : List He.Fa := [.glo "is_whole", .glo "is_number", .glo "need_version", .glo "are_parents", .glo "need_parents", .glo "line_by", .glo "is_of", .glo "need_in", .glo "line_of", .glo "place", .glo "is_ahead", .glo "next_in_line", .glo "comes_of", .glo "stretch", .glo "meet", .glo "is_line", .glo "tree_of", .glo "_law_begun", .glo "_law_blended", .glo "_law_draw", .glo "_law_pick", .glo "_law_caught", .glo "_law_is_truth", .glo "_law_is_whole", .glo "_law_as_moved_value", .glo "_law_as_moved", .glo "_law_as_grafted", .glo "_law_as_same", .glo "_law_as_value", .glo "_law_as_story", .glo "_law_as_line", .glo "_law_as_parents", .glo "_law_k01_up", .glo "_law_k01_meet", .glo "_law_k01_asked", .glo "_law_k01_bent", .glo "law", .free "isinstance", .free "int", .free "bool", .free "abs", .free "all", .free "tuple", .free "enumerate", .free "range", .free "len", .free "sorted", .free "list", .free "repr", .free "max", .free "str", .int "MOST_NUMBER" (1000000000000000000), .glo "BadVersion", .glo "BadParents", .glo "BadLine", .glo "CopyError", .exc "BadLine", .exm "BadLine" "CopyError" true]
def excB (K : PySem.W.Frag) (D : Addr) : Bool := decide (PySem.W.findIn K (.ref D) "__getattribute__" = some (some (.builtin "BaseException.__getattribute__"))) && (decide (PySem.W.findIn K (.ref D) "__getattr__" = some none) && (PySem.W.hasDictIn K D && (decide (PySem.W.findIn K (.ref D) "__class__" = some (some (.builtin "object.__class__"))) && (decide (PySem.W.specialIn K (.builtin "object.__class__") "__get__" = some (some (.builtin "getset_descriptor.__get__"))) && (decide (PySem.W.takesIn K (.builtin "object.__class__") = some true) && (decide (PySem.W.mroIn K D (.type "object") = some true) && decide (PySem.W.kitOne K (.ref D) (.ref D) = some true)))))))
theorem excB_ok {K : PySem.W.Frag} {D : Addr} (h : excB K D = true) (hs : PySem.W.subIn K (.ref D) (.type "BaseException") = some true) : ExcC K D ∧ PySem.W.kitOne K (.ref D) (.ref D) = some true := by
  unfold excB at h
  simp only [Bool.and_eq_true, decide_eq_true_eq] at h
  obtain ⟨h1, h2, h3, h4, h5, h6, h7, h8⟩ := h
  exact ⟨⟨h1, h2, hs, h3, h4, h5, h6, h7⟩, h8⟩
def ex (K : PySem.W.Frag) : Bool := excB K (He.ga K "BadLine")
abbrev R : PySem.W.OpenRow := PySem.W.OpenLaw.row PySem.Challenge.rw_asifcopied_k01_whole_lines_grafted
abbrev tf : List He.Defn := [("law", none)]
abbrev hk : PySem.W.Hook := He.hookX 4 fa fn [] tf ex
def ob (s : PySem.W.SharedT) : He.AlX := He.obsX 4 fa fn [] tf ex (HandSHeadRun.getT s)
theorem ob_eq (s : PySem.W.SharedT) : ob s = hk.obs s.abs := He.obsX_eq (HandSHeadRun.getT_eq s)
def loose0 : List PySem.Str := ["__name__", "CopyError", "BadLine", "BadParents", "BadVersion", "MOST_NUMBER", "is_whole", "is_number", "need_version", "are_parents", "need_parents", "line_by", "is_of", "need_in", "line_of", "place", "is_ahead", "next_in_line", "comes_of", "stretch", "meet", "is_line", "tree_of", "_law_begun", "_law_blended", "_law_draw", "_law_pick", "_law_caught", "_law_is_truth", "_law_is_whole"]
def loose1 : List PySem.Str := ["_law_as_moved_value", "_law_as_moved", "_law_as_grafted", "_law_as_same", "_law_as_value", "_law_as_story", "_law_as_line", "_law_as_parents", "_law_k01_up", "_law_k01_meet", "_law_k01_asked", "_law_k01_bent"]
abbrev loose : List PySem.Str := loose0 ++ loose1
theorem run (w : World) : HandSHeadRun.RunEq R (PySem.W.view R.prog [46]) hk ob 6000 loose w := by
  intro os
  kernel_rfl
theorem df {K : PySem.W.Frag} {h : Heap} {mg : Str → Option Value} (X : K.In h) (G : h.Ns mainGlobals mg) (c : He.SaysD fa fn K) {d : He.DefD} {st : Stmt} {x : Str} (i j : Nat) (hi : fn[i]? = some d) (hj : fa[j]? = some (.glo x)) (e : d = ⟨(x, none), x, x, defArgs st, defBody st, defScope st, [], []⟩) : A.Df K mg x st := by
  obtain ⟨fd, F⟩ := c.def_ i (d := d) hi
  subst e
  exact ⟨He.ga K x, fd, F, He.glo_ok X G (c.fact j hj)⟩
theorem txt {K : PySem.W.Frag} {h : Heap} {mg : Str → Option Value} (X : K.In h) (G : h.Ns mainGlobals mg) (c : He.SaysD fa fn K) (m : ex K = true) : Txt K mg (He.ga K "BadVersion") (He.ga K "BadParents") (He.ga K "BadLine") (He.ga K "CopyError") := by
  unfold ex at m
  obtain ⟨x0, k0, b0, t0⟩ := He.exc_ok (c.fact 56 (f := .exc "BadLine") rfl)
  have e0 := excB_ok m b0
  exact ⟨He.free_ok X G (c.fact 37 (f := .free "isinstance") rfl),
    He.free_ok X G (c.fact 38 (f := .free "int") rfl),
    He.free_ok X G (c.fact 39 (f := .free "bool") rfl),
    He.free_ok X G (c.fact 40 (f := .free "abs") rfl),
    He.free_ok X G (c.fact 41 (f := .free "all") rfl),
    He.free_ok X G (c.fact 42 (f := .free "tuple") rfl),
    He.free_ok X G (c.fact 43 (f := .free "enumerate") rfl),
    He.free_ok X G (c.fact 44 (f := .free "range") rfl),
    He.free_ok X G (c.fact 45 (f := .free "len") rfl),
    He.free_ok X G (c.fact 46 (f := .free "sorted") rfl),
    He.free_ok X G (c.fact 47 (f := .free "list") rfl),
    He.free_ok X G (c.fact 48 (f := .free "repr") rfl),
    He.free_ok X G (c.fact 49 (f := .free "max") rfl),
    He.free_ok X G (c.fact 50 (f := .free "str") rfl),
    (let ⟨t, e⟩ := He.int_ok X G (c.fact 51 (f := .int "MOST_NUMBER" (1000000000000000000)) rfl); ⟨_, e, _, rfl⟩),
    ⟨_, He.glo_ok X G (c.fact 52 (f := .glo "BadVersion") rfl), rfl⟩,
    He.glo_ok X G (c.fact 52 (f := .glo "BadVersion") rfl),
    ⟨_, He.glo_ok X G (c.fact 53 (f := .glo "BadParents") rfl), rfl⟩,
    He.glo_ok X G (c.fact 53 (f := .glo "BadParents") rfl),
    ⟨_, He.glo_ok X G (c.fact 54 (f := .glo "BadLine") rfl), rfl⟩,
    He.glo_ok X G (c.fact 54 (f := .glo "BadLine") rfl),
    ⟨_, He.glo_ok X G (c.fact 55 (f := .glo "CopyError") rfl), rfl⟩,
    He.glo_ok X G (c.fact 55 (f := .glo "CopyError") rfl),
    x0,
    k0,
    b0,
    t0,
    e0.1,
    e0.2,
    He.exm_ok (c.fact 57 (f := .exm "BadLine" "CopyError" true) rfl)⟩
end T
set_option Elab.async false
set_option linter.all false
set_option maxRecDepth 100000
set_option maxHeartbeats 4000000
set_option autoImplicit false
/-! steps: "rd1" one construct, "rd" as far as it goes, "hp" what stands at an address, "ex" that a heap has grown -/
local macro_rules | `(tactic| walk_at "hp") => `(tactic| first
  | assumption
  | exact upd_same
  | (refine A.upd_keep ?_ ?_ <;> walk_at "hp")
  | (refine A.upd_keep2 ?_ ?_ <;> walk_at "hp")
  | (refine A.upd_none ?_ ?_ <;> walk_at "hp")
  | (refine A.ne_none ?_ ?_ <;> walk_at "hp")
  | (refine (show A.Ex _ _ by assumption) _ _ ?_ <;> walk_at "hp"))
local macro_rules | `(tactic| walk_at "ex") => `(tactic| first
  | assumption
  | exact A.Ex.refl _
  | (refine A.Ex.new ?_ (by walk_at "hp"); walk_at "ex")
  | (refine A.Ex.wr ?_ (by walk_at "hp"); walk_at "ex")
  | (refine A.Ex.trans ?_ (by assumption); walk_at "ex"))
local macro_rules | `(tactic| walk_at "rd1") => `(tactic| first
  | with_reducible refine A.r_seq ?_
  | with_reducible refine A.r_asg ?_
  | with_reducible refine A.r_asg2 ?_
  | with_reducible refine A.r_gname ?_
  | with_reducible refine A.r_gcons ?_
  | with_reducible refine A.r_gnil ?_
  | with_reducible refine A.r_ret ?_
  | with_reducible refine A.r_retN ?_
  | with_reducible refine A.r_drop ?_
  | with_reducible refine A.r_next ?_
  | with_reducible refine A.r_ifS ?_
  | with_reducible refine A.r_par ?_
  | with_reducible refine A.v_par ?_
  | ((with_reducible show L2.tVar _ _ _ _); (refine A.r_var rfl ?_))
  | ((with_reducible show L2.tAug _ _ _ _ _ _); (refine A.r_aug rfl ?_))
  | with_reducible refine A.r_ipI ?_
  | with_reducible refine A.r_c ?_
  | with_reducible refine A.r_op ?_
  | with_reducible refine A.r_un ?_
  | with_reducible refine A.r_cb ?_
  | with_reducible refine A.r_call ?_
  | with_reducible refine A.r_cons ?_
  | with_reducible refine A.r_nil ?_
  | with_reducible refine A.r_tup ?_
  | with_reducible refine A.r_lst ?_
  | with_reducible refine A.r_if ?_
  | with_reducible refine A.r_B ?_
  | with_reducible refine A.r_test ?_
  | with_reducible refine A.r_bl ?_
  | with_reducible refine A.r_not ?_
  | with_reducible refine A.r_and ?_
  | with_reducible refine A.r_or ?_
  | with_reducible refine A.r_andV ?_
  | with_reducible refine A.r_orV ?_
  | with_reducible refine A.r_notV ?_
  | with_reducible refine A.r_chain ?_
  | with_reducible refine A.r_bm ?_
  | with_reducible refine A.r_bm0 ?_
  | with_reducible refine A.r_sl ?_
  | with_reducible refine A.r_nopart ?_
  | with_reducible refine A.r_part ?_
  | with_reducible refine A.r_int ?_
  | with_reducible refine A.r_dget ?_
  | with_reducible refine A.r_dput ?_
  | with_reducible refine A.v_I0 ?_
  | with_reducible refine A.v_U ?_
  | with_reducible refine A.v_eqI ?_
  | with_reducible refine A.v_neI ?_
  | with_reducible refine A.v_addI ?_
  | with_reducible refine A.r_iSeq ?_
  | with_reducible refine A.r_iEnum ?_
  | with_reducible refine A.r_for ?_
  | with_reducible refine A.r_while ?_
  | with_reducible refine A.r_rng1 ?_
  | with_reducible refine A.r_rng2 ?_
  | with_reducible refine A.r_lc ?_
  | with_reducible refine A.r_nx ?_
  | with_reducible refine A.r_rt ?_
  | with_reducible refine A.r_ct ?_
  | with_reducible refine A.r_bk ?_
  | with_reducible refine A.r_yes ?_
  | with_reducible refine A.r_lstRg1 ?_
  | with_reducible refine A.r_gsub ?_
  | with_reducible refine A.r_callKK ?_
  | with_reducible refine A.r_dnewK ?_
  | with_reducible refine A.r_dget2 ?_
  | with_reducible refine A.r_max2 ?_
  | with_reducible refine A.r_min2 ?_
  | with_reducible refine A.r_isB ?_
  | with_reducible refine A.r_notB ?_
  | with_reducible refine A.r_par3 ?_
  | with_reducible refine A.v_par3 ?_
  | with_reducible refine A.r_int1 ?_
  | with_reducible refine A.r_abs ?_
  | with_reducible refine A.r_pair ?_
  | with_reducible refine A.r_pair0 ?_
  | with_reducible refine A.r_isNi ?_
  | with_reducible refine A.r_isNr ?_
  | with_reducible refine A.r_isNn ?_
  | with_reducible refine A.r_notNi ?_
  | with_reducible refine A.r_notNr ?_
  | with_reducible refine A.r_notNn ?_
  | with_reducible refine A.iT ?_
  | with_reducible refine A.iF ?_
  | with_reducible refine A.iNT ?_
  | with_reducible refine A.iNF ?_)
local macro_rules | `(tactic| walk_at "rd") => `(tactic| repeat (walk_at "rd1"))
local macro_rules | `(tactic| walk_at "st") => `(tactic| repeat (first
  | with_reducible refine A.r_seq ?_
  | with_reducible refine A.r_asg ?_
  | with_reducible refine A.r_gname ?_
  | with_reducible refine A.r_nx ?_
  | with_reducible refine A.r_next ?_
  | with_reducible refine A.r_drop ?_
  | with_reducible refine A.r_ret ?_))
namespace T
open PySem PySem.Spec PyProof.Rows L2
def wholeD : PyData → Bool
  | .int i => decide (i.natAbs < 10 ^ 18)
  | _ => false
def numD (d : PyData) (low : Int) : Bool := match d with
  | .int i => decide (i.natAbs < 10 ^ 18) && decide (low ≤ i)
  | _ => false
abbrev nv (n : Nat) : V := .int (n : Nat)
def nvs (l : List Nat) : List V := l.map nv
/-- the tuple of a tree's parents, from version 1 on: L -/
def pvs (L : List Nat) : List V := .non :: nvs L
def Par (K : PySem.W.Frag) (H : Hp) (v : V) (L : List Nat) : Prop := ∃ a, v = .ref a ∧ SqT K H a (pvs L)
def VP (L : List Nat) : Prop := L.length ≤ 1000 ∧ ∀ (i p : Nat), L[i]? = some p → p ≤ i
def sp_is_whole (K : PySem.W.Frag) : Sp := fun vs H Q _ => ∃ v d, vs = [v] ∧ Dp K H v d ∧ Q (.bl (wholeD d)) H
def sp_is_number (K : PySem.W.Frag) : Sp := fun vs H Q _ => ∃ v d low, vs = [v, .int low] ∧ Dp K H v d ∧ Q (.bl (numD d low)) H
def sp_need_version : Sp := fun vs H Q _ => ∃ v m : Nat, vs = [nv v, nv m] ∧ v < m ∧ m < 10 ^ 9 ∧ Q .non H
def sp_are_parents (K : PySem.W.Frag) : Sp := fun vs H Q _ => ∃ v L, vs = [v] ∧ Par K H v L ∧ VP L ∧ ∀ H', A.Ex H H' → Q (.bl true) H'
def sp_need_parents (K : PySem.W.Frag) : Sp := fun vs H Q _ => ∃ v L, vs = [v] ∧ Par K H v L ∧ VP L ∧ ∀ H', A.Ex H H' → Q .non H'
def sp_need_in (K : PySem.W.Frag) : Sp := fun vs H Q _ => ∃ v L n, vs = [v, nv n] ∧ Par K H v L ∧ VP L ∧ n ≤ L.length ∧ ∀ H', A.Ex H H' → Q .non H'
abbrev nd (n : Nat) : PyData := .int (n : Nat)
def nds (l : List Nat) : List PyData := l.map nd
def pds (L : List Nat) : List PyData := .none :: nds L
theorem nvs_len {l : List Nat} : (nvs l).length = l.length := by unfold nvs; simp
theorem pvs_len {l : List Nat} : (pvs l).length = l.length + 1 := by unfold pvs; simp [nvs_len]
theorem par_ex {K : PySem.W.Frag} {H H' : Hp} {v : V} {L : List Nat} (e : A.Ex H H') (h : Par K H v L) : Par K H' v L := let ⟨a, h1, h2⟩ := h; ⟨a, h1, A.sqT_ex e h2⟩
theorem nvs_get {l : List Nat} {i : Nat} : (nvs l)[i]? = (l[i]?).map nv := by unfold nvs; simp
theorem pvs_get {l : List Nat} {i : Nat} : (pvs l)[i + 1]? = (l[i]?).map nv := by unfold pvs; simp [nvs_get]
theorem dpa_nvs {K : PySem.W.Frag} {H : Hp} : ∀ (l : List Nat), DpAll K H (nvs l) (nds l)
  | [] => .nil
  | _ :: r => .cons (.int _) (dpa_nvs r)
theorem par_dp {K : PySem.W.Frag} {H : Hp} {a : Addr} {L : List Nat} (h : SqT K H a (pvs L)) : Dp K H (.ref a) (.tuple (pds L)) := .tup h (.cons .non (dpa_nvs L))
theorem gd_nds {l : List Nat} (h : ∀ x ∈ l, x < 10 ^ 9) : ∀ d ∈ nds l, A.Gd 0 24 d := fun d hd => by
  unfold nds at hd
  obtain ⟨x, hx, rfl⟩ := List.mem_map.mp hd
  have := h x hx
  exact A.gd_int (by omega)
theorem nds_len {l : List Nat} : (nds l).length = l.length := by unfold nds; simp
theorem ok_nt {l : List Nat} (h : ∀ x ∈ l, x < 10 ^ 9) (hl : l.length ≤ 10000) : A.Ok (.tuple (nds l)) := (A.gd_tup (gd_nds h) (by rw [nds_len]; exact hl)).mono (by decide) (by decide)
theorem ok_nl {l : List Nat} (h : ∀ x ∈ l, x < 10 ^ 9) (hl : l.length ≤ 10000) : A.Ok (.list (nds l)) := (A.gd_lst (gd_nds h) (by rw [nds_len]; exact hl)).mono (by decide) (by decide)
theorem vp_lt {L : List Nat} (h : VP L) : ∀ x ∈ L, x < L.length := fun x hx => by
  obtain ⟨i, hi, e⟩ := List.mem_iff_getElem.mp hx
  have := h.2 i x (by rw [List.getElem?_eq_getElem hi, e])
  omega
theorem ok_pt {L : List Nat} (h : VP L) : A.Ok (.tuple (pds L)) := (A.gd_tup (k := 0) (n := 24) (m := 10000) (fun d hd => by
  rcases List.mem_cons.mp hd with e | hd
  · rw [e]; exact A.gd_non
  · exact gd_nds (fun x hx => by have := vp_lt h x hx; have := h.1; omega) d hd) (by have := h.1; unfold pds; simp [nds_len]; omega)).mono (by decide) (by decide)
theorem ok_nd {n : Nat} (h : n < 10 ^ 9) : A.Ok (nd n) := (A.gd_int (by omega)).mono (by decide) (by decide)
section
variable {P : Program} {w : World} {K : PySem.W.Frag} {mg : Str → Option Value} {base : Heap} {C1 C2 C3 C4 : Addr}
theorem ok_is_whole (T : Txt K mg C1 C2 C3 C4) (F : A.Df K mg "is_whole" s_is_whole) : A.Cl P w K mg base CX0 1 "is_whole" s_is_whole P_is_whole (sp_is_whole K) := by
  refine A.mk_cl F sc_is_whole (fun vs H Q E h => ?_) bd_is_whole (fun f cdv Ar outer s H vs Q E hr h => ?_)
  · obtain ⟨v, d, rfl, _⟩ := h; rfl
  obtain ⟨v, d, rfl, hd, k⟩ := h
  refine ⟨_, (pss_one (ps_ret (pe_and (pe_callB (A.c_isi (K := K) rfl) (by rfl) T.n_isinstance A.bb_isinstance (pa_cons (pv 0) (pa_cons (pe_bltn (v := .ty "int") (by rfl) T.n_int A.bt_int rfl) pa_nil))) (pe_and (pe_not (pe_callB (A.c_isi (K := K) rfl) (by rfl) T.n_isinstance A.bb_isinstance (pa_cons (pv 0) (pa_cons (pe_bltn (v := .ty "bool") (by rfl) T.n_bool A.bt_bool rfl) pa_nil)))) (pe_one (pe_cmpR op_lt (pe_callB A.c_abs (by rfl) T.n_abs A.bb_abs (pa_cons (pv 0) pa_nil)) (C8.pe_gc (by rfl) T.c_MOST_NUMBER) (nomark _))))))), ?_⟩
  walk_at "rd"
  refine A.v_isiD hd ?_
  walk_at "rd"
  cases hd with
  | int i =>
    try refine iteT ?_
    walk_at "rd"
    refine A.v_isbD (.int i) ?_
    walk_at "rd"
    try refine iteT ?_
    walk_at "rd"
    have e : (decide ((if i < 0 then -i else i) < 1000000000000000000)) = wholeD (.int i) := by
      unfold wholeD
      simp only [decide_eq_decide]
      split <;> omega
    rw [e]; exact k
  | bl b =>
    try refine iteT ?_
    walk_at "rd"
    refine A.v_isbD (.bl b) ?_
    walk_at "rd"
    exact k
  | non => exact k
  | str _ => exact k
  | lst _ _ => exact k
  | tup _ _ => exact k
theorem ok_is_number (T : Txt K mg C1 C2 C3 C4) (F : A.Df K mg "is_number" s_is_number) (c_is_whole : A.Cl P w K mg base CX0 1 "is_whole" s_is_whole P_is_whole (sp_is_whole K)) : A.Cl P w K mg base CX0 2 "is_number" s_is_number P_is_number (sp_is_number K) := by
  refine A.mk_cl F sc_is_number (fun vs H Q E h => ?_) bd_is_number (fun f cdv Ar outer s H vs Q E hr h => ?_)
  · obtain ⟨v, d, low, rfl, _⟩ := h; rfl
  obtain ⟨v, d, low, rfl, hd, k⟩ := h
  refine ⟨_, (pss_one (ps_ret (pe_and (A.pe_c c_is_whole hr (by decide) (by rfl) (pa_cons (pv 0) pa_nil)) (pe_one (pe_cmpR op_ge (pv 0) (pv 1) (nomark _)))))), ?_⟩
  walk_at "rd"
  refine ⟨v, d, rfl, hd, ?_⟩
  walk_at "rd"
  cases hd with
  | int i =>
    by_cases hw : i.natAbs < 10 ^ 18
    · rw [show wholeD (.int i) = true from decide_eq_true hw]
      try refine iteT ?_
      walk_at "rd"
      have e : decide (low ≤ i) = numD (.int i) low := by unfold numD; simp [hw]
      rw [e]; exact k
    · rw [show wholeD (.int i) = false from decide_eq_false hw]
      have e : false = numD (.int i) low := by unfold numD; simp [hw]
      rw [← e] at k
      exact k
  | bl b => exact k
  | non => exact k
  | str _ => exact k
  | lst _ _ => exact k
  | tup _ _ => exact k
theorem ok_need_version (T : Txt K mg C1 C2 C3 C4) (F : A.Df K mg "need_version" s_need_version) (c_is_number : A.Cl P w K mg base CX0 2 "is_number" s_is_number P_is_number (sp_is_number K)) : A.Cl P w K mg base CX0 3 "need_version" s_need_version P_need_version sp_need_version := by
  refine A.mk_cl F sc_need_version (fun vs H Q E h => ?_) bd_need_version (fun f cdv Ar outer s H vs Q E hr h => ?_)
  · obtain ⟨v, m, rfl, _⟩ := h; rfl
  obtain ⟨v, m, rfl, h1, h2, k⟩ := h
  refine ⟨_, (pss_one (ps_if (PW.pt (pw_or (pt_not (pt_val (A.pe_c c_is_number hr (by decide) (by rfl) (pa_cons (pv 0) (pa_cons pe_int pa_nil))))) (pw_or1 (pt_cmpR op_ge (pv 0) (pv 1) (nomark _))))) (pss_one ps_never) pss_nil)), ?_⟩
  walk_at "rd"
  refine ⟨nv v, .int v, 0, rfl, .int _, ?_⟩
  have e : numD (.int v) 0 = true := by unfold numD; simp; omega
  rw [e]
  walk_at "rd"
  try refine iteF ?_
  walk_at "rd"
  try refine A.v_I0 ?_
  walk_at "rd"
  rw [decide_eq_false (by omega)]
  exact k
theorem ok_are_parents (T : Txt K mg C1 C2 C3 C4) (F : A.Df K mg "are_parents" s_are_parents) (c_is_number : A.Cl P w K mg base CX0 2 "is_number" s_is_number P_is_number (sp_is_number K)) : A.Cl P w K mg base CX0 3 "are_parents" s_are_parents P_are_parents (sp_are_parents K) := by
  refine A.mk_cl F sc_are_parents (fun vs H Q E h => ?_) bd_are_parents (fun f cdv Ar outer s H vs Q E hr h => ?_)
  · obtain ⟨v, m, rfl, _⟩ := h; rfl
  obtain ⟨v, L, rfl, ⟨a, rfl, h1⟩, h2, k⟩ := h
  refine ⟨_, (pss_cons (ps_if (PW.pt (pw_or (pt_not (pt_val (pe_callB (A.c_isi (K := K) rfl) (by rfl) T.n_isinstance A.bb_isinstance (pa_cons (pv 0) (pa_cons (pe_bltn (v := .ty "tuple") (by rfl) T.n_tuple A.bt_tuple rfl) pa_nil))))) (pw_or (pt_cmpR (A.o_eq hr.units (K := K) rfl) (pv 0) (pe_tup pa_nil) (nomark _)) (pw_or1 (pt_cmpR A.o_notN (pe_ix (A.o_ix (K := K) rfl) (pv 0) pe_int (fun _ _ => rfl)) pe_non (nomark _)))))) (pss_one (ps_ret pe_bl)) pss_nil)
    (pss_one (ps_ret (pe_callB (A.c_all rfl (K := K) rfl) (by rfl) T.n_all A.bb_all (pa_cons (pe_lc (own := [("at", 1), ("parent", 2)]) (by rfl) sc_are_parents.nd (A.p_enum (K := K) (by rfl) T.n_enumerate (pa_cons (pe_slice (A.o_sl (K := K) rfl) (pv 0) (po_some pe_int) po_none) pa_nil) rfl) (blkOk_by (own := [("at", 1), ("parent", 2)]) (N := N_are_parents) (sc := defScope s_are_parents) (by decide +kernel)) (fun _ _ _ _ _ => (A.p_tup (K := K) (n := 2) (by rfl) (pgs_cons (pg_name (i := 1) sc_are_parents.nd rfl (by first | exact Or.inl rfl | exact Or.inr rfl)) (pgs_cons (pg_name (i := 2) sc_are_parents.nd rfl (by first | exact Or.inl rfl | exact Or.inr rfl)) pgs_nil)) rfl)) (fun _ _ _ _ _ => pts_nil) (fun _ _ _ _ _ => (pe_and (A.pe_c c_is_number hr (by decide) (by rfl) (pa_cons (pv 2) (pa_cons pe_int pa_nil))) (pe_one (pe_cmpR op_lt (pv 2) (pe_op (A.o_add (K := K) rfl) (pv 1) pe_int) (nomark _)))))) pa_nil))))), ?_⟩
  walk_at "rd"
  refine A.v_istD (par_dp h1) ?_
  walk_at "rd"
  try refine iteF ?_
  walk_at "rd"
  refine ⟨Nat.zero_le _, fun p hp => ?_⟩
  refine A.v_eqD (par_dp (A.sqT_ex (A.Ex.new (A.Ex.refl H) hp) h1)) (.tup (xs := []) (.inl (.inl upd_same)) .nil) (ok_pt h2).shaped (by decide) ?_
  rw [show PyData.eqv (.tuple (pds L)) (.tuple []) = false from by simp [pds, PyData.eqv, PyData.eqvAll]]
  walk_at "rd"
  try refine iteF ?_
  walk_at "rd"
  have h1' := A.sqT_ex (A.Ex.new (o := .tup []) (A.Ex.refl H) hp) h1
  refine A.v_ixT (i := ((0 : Nat) : Int)) h1' (A.nat_at (x := .non) (by unfold pvs; rfl)) ?_
  walk_at "rd"
  walk_at "rd"
  try refine iteF ?_
  walk_at "rd"
  refine A.v_slT h1' fun p2 H2 e2 h3 => ?_
  rw [show (some (1 : Int)) = some ((1 : Nat) : Int) from rfl, A.cut_from (by rw [pvs_len]; omega), show (pvs L).drop 1 = nvs L from rfl] at h3
  walk_at "rd"
  refine A.i_enum H2 (.inr h3) (A.Ex.refl _) fun J hJ => ?_
  intro D hD
  refine A.lc_pure (nvs L).length (by rw [nvs_len]; have := h2.1; omega) (fun _ => some (V.bl true)) hD (fun i H4 Y N hi hE hY hN => ?_) (fun H4 hE hDD => ?_)
  · obtain ⟨hg, hy⟩ := hJ _ hE
    rw [nvs_len] at hi
    have hv : (nvs L)[i]? = some (nv L[i]) := by rw [nvs_get, List.getElem?_eq_getElem hi]; rfl
    refine ⟨(hg i _ hv).1, fun x H5 hx => ?_⟩
    obtain ⟨T2, rfl, hT, rfl⟩ := (hg i _ hv).2 x H5 hx
    walk_at "rd"
    refine A.r_gtup (.inl (.inl upd_same)) rfl ?_
    walk_at "rd"
    refine ⟨rfl, ?_⟩
    walk_at "rd"
    have hp2 := h2.2 i _ (List.getElem?_eq_getElem hi)
    refine ⟨nv L[i], .int (L[i] : Nat), 0, rfl, .int _, ?_⟩
    have e : numD (.int (L[i] : Nat)) 0 = true := by unfold numD; have := h2.1; simp; omega
    rw [e]
    walk_at "rd"
    try refine A.v_I0 ?_
    rw [decide_eq_true (by omega)]
    exact hY _ _ rfl (A.Ex.new (A.Ex.refl _) hT)
  · refine ⟨(hJ _ hE).2, ?_⟩
    walk_at "rd"
    refine ⟨D, List.replicate (nvs L).length true, rfl, SqL.of ?_, ?_⟩
    · rw [hDD, List.map_replicate]
      congr 2
      rw [show (fun _ : Nat => some (V.bl true)) = some ∘ (fun _ : Nat => V.bl true) from rfl, List.filterMap_eq_map]
      rw [List.map_const', List.length_range]
    · rw [show (List.replicate (nvs L).length true).all id = true from by simp]
      exact k _ ((A.Ex.new (A.Ex.refl _) hp).trans (e2.trans hE))
theorem ok_need_parents (T : Txt K mg C1 C2 C3 C4) (F : A.Df K mg "need_parents" s_need_parents) (c_are_parents : A.Cl P w K mg base CX0 3 "are_parents" s_are_parents P_are_parents (sp_are_parents K)) : A.Cl P w K mg base CX0 4 "need_parents" s_need_parents P_need_parents (sp_need_parents K) := by
  refine A.mk_cl F sc_need_parents (fun vs H Q E h => ?_) bd_need_parents (fun f cdv Ar outer s H vs Q E hr h => ?_)
  · obtain ⟨v, m, rfl, _⟩ := h; rfl
  obtain ⟨v, L, rfl, h1, h2, k⟩ := h
  refine ⟨_, (pss_one (ps_if (pt_not (pt_val (A.pe_c c_are_parents hr (by decide) (by rfl) (pa_cons (pv 0) pa_nil)))) (pss_one ps_never) pss_nil)), ?_⟩
  walk_at "rd"
  refine ⟨v, L, rfl, h1, h2, fun H2 e => ?_⟩
  walk_at "rd"
  exact k _ e
theorem ok_need_in (T : Txt K mg C1 C2 C3 C4) (F : A.Df K mg "need_in" s_need_in) (c_need_parents : A.Cl P w K mg base CX0 4 "need_parents" s_need_parents P_need_parents (sp_need_parents K)) (c_need_version : A.Cl P w K mg base CX0 3 "need_version" s_need_version P_need_version sp_need_version) : A.Cl P w K mg base CX0 5 "need_in" s_need_in P_need_in (sp_need_in K) := by
  refine A.mk_cl F sc_need_in (fun vs H Q E h => ?_) bd_need_in (fun f cdv Ar outer s H vs Q E hr h => ?_)
  · obtain ⟨v, L, n, rfl, _⟩ := h; rfl
  obtain ⟨v, L, n, rfl, h1, h2, h3, k⟩ := h
  refine ⟨_, (pss_cons (ps_expr (A.pe_c c_need_parents hr (by decide) (by rfl) (pa_cons (pv 0) pa_nil)))
    (pss_one (ps_expr (A.pe_c c_need_version hr (by decide) (by rfl) (pa_cons (pv 1) (pa_cons (pe_callB (A.c_len (K := K) rfl) (by rfl) T.n_len A.bb_len (pa_cons (pv 0) pa_nil)) pa_nil)))))), ?_⟩
  walk_at "rd"
  refine ⟨v, L, rfl, h1, h2, fun H2 e => ?_⟩
  walk_at "rd"
  obtain ⟨a, rfl, h4⟩ := par_ex e h1
  refine A.v_len (.inr h4) ?_
  walk_at "rd"
  refine ⟨n, L.length + 1, ?_, by omega, by have := h2.1; omega, k _ e⟩
  rw [pvs_len]; rfl
end
end T
set_option Elab.async false
set_option linter.all false
set_option maxRecDepth 100000
set_option maxHeartbeats 4000000
set_option autoImplicit false
namespace T
open PySem PySem.Spec PyProof.Rows L2
/-- the parent of a version, from the list of parents -/
def pr (L : List Nat) (v : Nat) : Nat := L.getD (v - 1) 0
def line (L : List Nat) : List Nat := Tr.lineN (pr L) L.length
theorem low_of {L : List Nat} (h : VP L) : Tr.Low (pr L) L.length := fun v h0 hv => by
  have hi : v - 1 < L.length := by omega
  have := h.2 (v - 1) _ (List.getElem?_eq_getElem hi)
  unfold pr
  rw [List.getD_eq_getElem?_getD, List.getElem?_eq_getElem hi]
  show L[v - 1] < v
  omega
theorem idx_split {A C : List Nat} {x : Nat} (h : x ∉ A) : (A ++ x :: C).idxOf x = A.length := by
  rw [List.idxOf_append, if_neg h]; simp
theorem eqv_nd {a b : Nat} : PyData.eqv (nd a) (nd b) = decide (a = b) := by
  show ((a : Int) == (b : Int)) = _
  rw [Bool.beq_eq_decide_eq, decide_eq_decide]
  omega
theorem dp_nvs {K : PySem.W.Frag} {H : Hp} {a : Addr} {l : List Nat} (h : SqL K H a (nvs l)) : Dp K H (.ref a) (.list (nds l)) := .lst h (dpa_nvs l)
theorem dp_nvt {K : PySem.W.Frag} {H : Hp} {a : Addr} {l : List Nat} (h : SqT K H a (nvs l)) : Dp K H (.ref a) (.tuple (nds l)) := .tup h (dpa_nvs l)
theorem v_idx {K : PySem.W.Frag} {H : Hp} {a : Addr} {l : List Nat} {x : Nat} {Q : VK} (h : SqL K H a (nvs l)) (hx : x ∈ l) (hb : ∀ y ∈ l, y < 10 ^ 9) (hl : l.length ≤ 10000) (k : Q (nv (l.idxOf x)) H) : rIndexD K (.ref a) [nv x] H Q := by
  obtain ⟨A, C, e, hA⟩ := Tr.split_at hx
  have ei : l.idxOf x = A.length := by rw [e, idx_split hA]
  refine ⟨a, nv x, nd x, nds l, l.idxOf x, nd x, rfl, rfl, dp_nvs h, .int _, (ok_nl hb hl).shaped, (ok_nd (hb x hx)).shaped, ?_, by rw [eqv_nd]; simp, fun m z hm hz => ?_, k⟩
  · unfold nds
    rw [List.getElem?_map, ei, e]
    simp
  · unfold nds at hz
    rw [List.getElem?_map] at hz
    obtain ⟨y, hy, rfl⟩ := Option.map_eq_some_iff.mp hz
    rw [ei] at hm
    rw [e, List.getElem?_append_left hm] at hy
    rw [eqv_nd]
    exact decide_eq_false fun z => hA (z ▸ List.mem_of_getElem? hy)
theorem rgs_nv {lo n i : Nat} (h : i < n) : (A.rgs ((lo : Nat) : Int) n)[i]? = some (nv (lo + i)) := by
  unfold A.rgs nv
  rw [List.getElem?_map, List.getElem?_range h]
  simp
theorem line_lt {L : List Nat} (h : VP L) : ∀ x ∈ line L, x ≤ L.length := fun x hx => ((Tr.good_line _ (low_of h)).2 x).mp hx
theorem lineN_len (L : List Nat) : (line L).length = L.length + 1 := Tr.line_len _
theorem at_nvs {l : List Nat} {i : Nat} {x : Nat} (h : l[i]? = some x) : atI (nvs l) (i : Int) = some (nv x) := A.nat_at (by rw [nvs_get, h]; rfl)
theorem at_pvs {L : List Nat} {v : Nat} (h0 : 0 < v) (h : v ≤ L.length) : atI (pvs L) (v : Int) = some (nv (pr L v)) := by
  refine A.nat_at ?_
  obtain ⟨u, rfl⟩ : ∃ u, v = u + 1 := ⟨v - 1, by omega⟩
  rw [pvs_get, List.getElem?_eq_getElem (by omega)]
  unfold pr
  rw [List.getD_eq_getElem?_getD, Nat.add_sub_cancel, List.getElem?_eq_getElem (by omega)]; rfl
theorem v_line {K : PySem.W.Frag} {H : Hp} {p : Addr} {L : List Nat} {x : Nat} {Q : VK} (h2 : VP L) (h : SqL K H p (nvs (line L))) (hx : x ≤ L.length) (k : Q (nv ((line L).idxOf x)) H) : rIndexD K (.ref p) [nv x] H Q :=
  v_idx h (((Tr.good_line _ (low_of h2)).2 x).mpr hx) (fun y hy => by have := line_lt h2 y hy; have := h2.1; omega) (by rw [lineN_len]; have := h2.1; omega) k
def sp_line_by (K : PySem.W.Frag) : Sp := fun vs H Q _ => ∃ v L, vs = [v] ∧ Par K H v L ∧ VP L ∧ ∀ p H', A.Ex H H' → H p = none → H' p = some (.lst (nvs (line L))) → Q (.ref p) H'
def sp_is_of (K : PySem.W.Frag) : Sp := fun vs H Q _ => ∃ v L a b, vs = [v, nv a, nv b] ∧ Par K H v L ∧ VP L ∧ a ≤ L.length ∧ ∀ c : Bool, (c = true ↔ Tr.Anc (pr L) b a) → Q (.bl c) H
def sp_line_of (K : PySem.W.Frag) : Sp := fun vs H Q _ => ∃ v L, vs = [v] ∧ Par K H v L ∧ VP L ∧ ∀ p H', A.Ex H H' → SqT K H' p (nvs (line L)) → Q (.ref p) H'
def sp_place (K : PySem.W.Frag) : Sp := fun vs H Q _ => ∃ v L a, vs = [v, nv a] ∧ Par K H v L ∧ VP L ∧ a ≤ L.length ∧ ∀ H', A.Ex H H' → Q (nv ((line L).idxOf a)) H'
def sp_is_ahead (K : PySem.W.Frag) : Sp := fun vs H Q _ => ∃ v L a b, vs = [v, nv a, nv b] ∧ Par K H v L ∧ VP L ∧ a ≤ L.length ∧ b ≤ L.length ∧ ∀ H', A.Ex H H' → Q (.bl (decide ((line L).idxOf a < (line L).idxOf b))) H'
def nextV (l : List Nat) (a : Nat) : V := match l[l.idxOf a + 1]? with
  | some x => nv x
  | none => .non
def sp_next_in_line (K : PySem.W.Frag) : Sp := fun vs H Q _ => ∃ v L a, vs = [v, nv a] ∧ Par K H v L ∧ VP L ∧ a ≤ L.length ∧ ∀ H', A.Ex H H' → Q (nextV (line L) a) H'
def sp_comes_of (K : PySem.W.Frag) : Sp := fun vs H Q _ => ∃ v L a b, vs = [v, nv a, nv b] ∧ Par K H v L ∧ VP L ∧ a ≤ L.length ∧ b ≤ L.length ∧ ∀ (c : Bool) H', (c = true ↔ Tr.Anc (pr L) b a) → A.Ex H H' → Q (.bl c) H'
def sp_stretch (K : PySem.W.Frag) : Sp := fun vs H Q _ => ∃ v L a X B, vs = [v, nv a] ∧ Par K H v L ∧ VP L ∧ line L = X ++ a :: B ∧ a ∉ X ∧ ∀ p H', A.Ex H H' → SqT K H' p [nv X.length, nv (X.length + (Tr.tw a B).length)] → Q (.ref p) H'
def sp_meet (K : PySem.W.Frag) : Sp := fun vs H Q _ => ∃ v L a b, vs = [v, nv a, nv b] ∧ Par K H v L ∧ VP L ∧ a ≤ L.length ∧ b ≤ L.length ∧ ∀ m H', Tr.IsMeet (pr L) a b m → m ≤ L.length → A.Ex H H' → Q (nv m) H'
section
variable {P : Program} {w : World} {K : PySem.W.Frag} {mg : Str → Option Value} {base : Heap} {C1 C2 C3 C4 : Addr}
theorem ok_line_by (T : Txt K mg C1 C2 C3 C4) (F : A.Df K mg "line_by" s_line_by) : A.Cl P w K mg base CX0 1 "line_by" s_line_by P_line_by (sp_line_by K) := by
  refine A.mk_cl F sc_line_by (fun vs H Q E h => ?_) bd_line_by (fun f cdv Ar outer s H vs Q E hr h => ?_)
  · obtain ⟨v, L, rfl, _⟩ := h; rfl
  obtain ⟨v, L, rfl, ⟨a, rfl, h1⟩, h2, k⟩ := h
  refine ⟨_, (pss_cons (ps_set (i := 1) sc_line_by.nd rfl (by first | exact Or.inl rfl | exact Or.inr rfl) (pe_lst (pa_cons pe_int pa_nil)))
    (pss_cons (ps_for PassesOwn.never (by rfl) (pi_range2 (by rfl) T.n_range (pa_cons pe_int (pa_cons (pe_callB (A.c_len (K := K) rfl) (by rfl) T.n_len A.bb_len (pa_cons (pv 0) pa_nil)) pa_nil))) (pg_name (i := 2) sc_line_by.nd rfl (by first | exact Or.inl rfl | exact Or.inr rfl)) (pss_one (ps_expr (A.e_bm (K := K) PySem.F.plainAttrs_list PySem.F.slot_list_insert PySem.F.type_list_insert A.m_insert (pv 1) (pa_cons (pe_op (A.o_add (K := K) rfl) (A.e_bm (K := K) PySem.F.plainAttrs_list PySem.F.slot_list_index PySem.F.type_list_index (A.m_index (A.hu65 hr) (K := K) rfl) (pv 1) (pa_cons (pe_ix (A.o_ix (K := K) rfl) (pv 0) (pv 2) (fun _ _ => rfl)) pa_nil) rfl) pe_int) (pa_cons (pv 2) pa_nil)) rfl))))
    (pss_one (ps_ret (pv 1))))), ?_⟩
  walk_at "rd"
  refine ⟨by decide, fun p hp => ?_⟩
  walk_at "rd"
  have e0 : A.Ex H (upd H p (.lst [V.int 0])) := A.Ex.new (A.Ex.refl _) hp
  refine A.v_len (.inr (A.sqT_ex e0 h1)) ?_
  walk_at "rd"
  refine A.i_rng2 (lo := 1) (n := (pvs L).length) H (by decide) (by rw [pvs_len]; have := h2.1; omega) fun J hJ => ?_
  rw [pvs_len, Nat.add_sub_cancel] at hJ
  refine A.for_in L.length (fun i σ Hx => ∃ z, σ = [some (.ref a), some (.ref p), z] ∧ A.Ex H Hx ∧ Hx p = some (.lst (nvs (Tr.lineN (pr L) i)))) ⟨none, rfl, e0, upd_same⟩ (fun i σ Hx hi ⟨z, e1, e2, e3⟩ => ?_) (fun σ Hx ⟨z, e1, e2, e3⟩ => ?_)
  · subst e1
    have hl := low_of h2
    obtain ⟨g, hm⟩ := Tr.good_line (par := pr L) i fun v q1 q2 => hl v q1 (by omega)
    have hlen : (Tr.lineN (pr L) i).length = i + 1 := Tr.line_len i
    have hL := h2.1
    have hp1 := hl (i + 1) (by omega) (by omega)
    have hJ' := (hJ Hx e2).1 i _ (rgs_nv hi)
    refine ⟨hJ'.1, fun x H5 hx => ?_⟩
    obtain ⟨rfl, rfl⟩ := hJ'.2 x H5 hx
    rw [Nat.add_comm 1 i]
    walk_at "rd"
    refine ⟨A.ty_l e3, ?_⟩
    walk_at "rd"
    refine ⟨A.ty_l e3, ?_⟩
    walk_at "rd"
    refine A.v_ixT (i := ((i + 1 : Nat) : Int)) (A.sqT_ex e2 h1) (at_pvs (by omega) (by omega)) ?_
    walk_at "rd"
    have hpm : pr L (i + 1) ∈ Tr.lineN (pr L) i := (hm _).mpr (by omega)
    refine v_idx (SqL.of e3) hpm (fun y hy => by have := (hm y).mp hy; omega) (by omega) ?_
    walk_at "rd"
    refine A.v_ins (i := (Tr.lineN (pr L) i).idxOf (pr L (i + 1)) + 1) e3 (by rw [nvs_len]; omega) (by have := List.idxOf_le_length (a := pr L (i + 1)) (l := Tr.lineN (pr L) i); omega) ?_
    walk_at "rd"
    refine ⟨_, rfl, A.Ex.wr e2 hp, ?_⟩
    rw [upd_same]
    show _ = some (HO.lst (nvs (Tr.insA (Tr.lineN (pr L) i) (pr L (i + 1)) (i + 1))))
    unfold nvs Tr.insA
    rw [List.map_append, List.map_append, List.map_take, List.map_drop]; rfl
  · subst e1
    refine ⟨by have := (hJ Hx e2).2; rwa [A.rgs_len] at this, ?_⟩
    walk_at "rd"
    exact k p Hx e2 hp e3
theorem ok_is_of (T : Txt K mg C1 C2 C3 C4) (F : A.Df K mg "is_of" s_is_of) : A.Cl P w K mg base CX0 1 "is_of" s_is_of P_is_of (sp_is_of K) := by
  refine A.mk_cl F sc_is_of (fun vs H Q E h => ?_) bd_is_of (fun f cdv Ar outer s H vs Q E hr h => ?_)
  · obtain ⟨v, L, x, y, rfl, _⟩ := h; rfl
  obtain ⟨v, L, x, y, rfl, ⟨a, rfl, h1⟩, h2, hx, k⟩ := h
  refine ⟨_, (pss_cons (ps_while PassesOwn.never (PW.pt (pw_and (pt_cmpR A.o_notN (pv 1) pe_non (nomark _)) (pw_and1 (pt_cmpR op_gt (pv 1) (pv 2) (nomark _))))) (pss_one (ps_set (i := 1) sc_is_of.nd rfl (by first | exact Or.inl rfl | exact Or.inr rfl) (pe_ix (A.o_ix (K := K) rfl) (pv 0) (pv 1) (fun _ _ => rfl)))))
    (pss_one (ps_ret (pe_cmpR (A.o_eq hr.units (K := K) rfl) (pv 1) (pv 2) (nomark _))))), ?_⟩
  have hl := low_of h2
  walk_at "rd"
  refine ⟨fun m σ Hx => Hx = H ∧ m ≤ L.length ∧ σ = [some (.ref a), some (nv m), some (nv y)] ∧ (Tr.Anc (pr L) y m ↔ Tr.Anc (pr L) y x), ⟨x, rfl, hx, rfl, Iff.rfl⟩, fun m σ Hx ⟨e1, e2, e3, e4⟩ => ?_⟩
  subst e1 e3
  walk_at "rd"
  by_cases hm : y < m
  · rw [decide_eq_true (show (y : Int) < (m : Int) by omega)]
    walk_at "rd"
    refine ⟨fun σ' H' => (H' = Hx ∧ pr L m ≤ L.length ∧ σ' = [some (.ref a), some (nv (pr L m)), some (nv y)] ∧ (Tr.Anc (pr L) y (pr L m) ↔ Tr.Anc (pr L) y x)), fun σ' H' h => ⟨pr L m, hl m (by omega) e2, h⟩, ?_⟩
    walk_at "rd"
    refine A.v_ixT (i := (m : Int)) h1 (at_pvs (by omega) e2) ?_
    walk_at "rd"
    have := hl m (by omega) e2
    exact ⟨rfl, by omega, rfl, (Tr.anc_up_iff (by omega) (by omega)).symm.trans e4⟩
  · rw [decide_eq_false (show ¬ (y : Int) < (m : Int) by omega)]
    walk_at "rd"
    refine k _ ?_
    rw [decide_eq_true_iff, ← e4, Tr.anc_self_iff hl e2 (by omega)]
    omega
theorem ok_line_of (T : Txt K mg C1 C2 C3 C4) (F : A.Df K mg "line_of" s_line_of) (c_need_parents : A.Cl P w K mg base CX0 4 "need_parents" s_need_parents P_need_parents (sp_need_parents K)) (c_line_by : A.Cl P w K mg base CX0 1 "line_by" s_line_by P_line_by (sp_line_by K)) : A.Cl P w K mg base CX0 5 "line_of" s_line_of P_line_of (sp_line_of K) := by
  refine A.mk_cl F sc_line_of (fun vs H Q E h => ?_) bd_line_of (fun f cdv Ar outer s H vs Q E hr h => ?_)
  · obtain ⟨v, L, rfl, _⟩ := h; rfl
  obtain ⟨v, L, rfl, h1, h2, k⟩ := h
  refine ⟨_, (pss_cons (ps_expr (A.pe_c c_need_parents hr (by decide) (by rfl) (pa_cons (pv 0) pa_nil)))
    (pss_one (ps_ret (pe_callTy (A.c_tuple (K := K) rfl) (by rfl) T.n_tuple A.bt_tuple (pa_cons (A.pe_c c_line_by hr (by decide) (by rfl) (pa_cons (pv 0) pa_nil)) pa_nil))))), ?_⟩
  walk_at "rd"
  refine ⟨v, L, rfl, h1, h2, fun H1 e1 => ?_⟩
  walk_at "rd"
  refine ⟨v, L, rfl, par_ex e1 h1, h2, fun p H2 e2 _ h3 => ?_⟩
  walk_at "rd"
  refine A.v_tupL (SqL.of h3) fun q H3 e3 h4 => ?_
  exact k q H3 ((e1.trans e2).trans e3) h4
theorem ok_place (T : Txt K mg C1 C2 C3 C4) (F : A.Df K mg "place" s_place) (c_need_in : A.Cl P w K mg base CX0 5 "need_in" s_need_in P_need_in (sp_need_in K)) (c_line_by : A.Cl P w K mg base CX0 1 "line_by" s_line_by P_line_by (sp_line_by K)) : A.Cl P w K mg base CX0 6 "place" s_place P_place (sp_place K) := by
  refine A.mk_cl F sc_place (fun vs H Q E h => ?_) bd_place (fun f cdv Ar outer s H vs Q E hr h => ?_)
  · obtain ⟨v, L, n, rfl, _⟩ := h; rfl
  obtain ⟨v, L, n, rfl, h1, h2, hn, k⟩ := h
  refine ⟨_, (pss_cons (ps_expr (A.pe_c c_need_in hr (by decide) (by rfl) (pa_cons (pv 0) (pa_cons (pv 1) pa_nil))))
    (pss_one (ps_ret (A.e_bm (K := K) PySem.F.plainAttrs_list PySem.F.slot_list_index PySem.F.type_list_index (A.m_index (A.hu65 hr) (K := K) rfl) (A.pe_c c_line_by hr (by decide) (by rfl) (pa_cons (pv 0) pa_nil)) (pa_cons (pv 1) pa_nil) rfl)))), ?_⟩
  walk_at "rd"
  refine ⟨v, L, n, rfl, h1, h2, hn, fun H1 e1 => ?_⟩
  walk_at "rd"
  refine ⟨v, L, rfl, par_ex e1 h1, h2, fun p H2 e2 _ h3 => ?_⟩
  refine ⟨A.ty_l h3, ?_⟩
  walk_at "rd"
  refine v_line h2 (SqL.of h3) hn ?_
  exact k H2 (e1.trans e2)
theorem ok_is_ahead (T : Txt K mg C1 C2 C3 C4) (F : A.Df K mg "is_ahead" s_is_ahead) (c_need_in : A.Cl P w K mg base CX0 5 "need_in" s_need_in P_need_in (sp_need_in K)) (c_line_by : A.Cl P w K mg base CX0 1 "line_by" s_line_by P_line_by (sp_line_by K)) : A.Cl P w K mg base CX0 6 "is_ahead" s_is_ahead P_is_ahead (sp_is_ahead K) := by
  refine A.mk_cl F sc_is_ahead (fun vs H Q E h => ?_) bd_is_ahead (fun f cdv Ar outer s H vs Q E hr h => ?_)
  · obtain ⟨v, L, x, y, rfl, _⟩ := h; rfl
  obtain ⟨v, L, x, y, rfl, h1, h2, hx, hy, k⟩ := h
  refine ⟨_, (pss_cons (ps_expr (A.pe_c c_need_in hr (by decide) (by rfl) (pa_cons (pv 0) (pa_cons (pv 1) pa_nil))))
    (pss_cons (ps_expr (A.pe_c c_need_in hr (by decide) (by rfl) (pa_cons (pv 0) (pa_cons (pv 2) pa_nil))))
    (pss_cons (ps_set (i := 3) sc_is_ahead.nd rfl (by first | exact Or.inl rfl | exact Or.inr rfl) (A.pe_c c_line_by hr (by decide) (by rfl) (pa_cons (pv 0) pa_nil)))
    (pss_one (ps_ret (pe_cmpR op_lt (A.e_bm (K := K) PySem.F.plainAttrs_list PySem.F.slot_list_index PySem.F.type_list_index (A.m_index (A.hu65 hr) (K := K) rfl) (pv 3) (pa_cons (pv 1) pa_nil) rfl) (A.e_bm (K := K) PySem.F.plainAttrs_list PySem.F.slot_list_index PySem.F.type_list_index (A.m_index (A.hu65 hr) (K := K) rfl) (pv 3) (pa_cons (pv 2) pa_nil) rfl) (nomark _))))))), ?_⟩
  walk_at "rd"
  refine ⟨v, L, x, rfl, h1, h2, hx, fun H1 e1 => ?_⟩
  walk_at "rd"
  refine ⟨v, L, y, rfl, par_ex e1 h1, h2, hy, fun H2 e2 => ?_⟩
  walk_at "rd"
  refine ⟨v, L, rfl, par_ex (e1.trans e2) h1, h2, fun p H3 e3 _ h3 => ?_⟩
  walk_at "rd"
  refine ⟨A.ty_l h3, ?_⟩
  walk_at "rd"
  refine v_line h2 (SqL.of h3) hx ?_
  walk_at "rd"
  refine ⟨A.ty_l h3, ?_⟩
  walk_at "rd"
  refine v_line h2 (SqL.of h3) hy ?_
  walk_at "rd"
  have := k H3 ((e1.trans e2).trans e3)
  simpa using this
theorem ok_next_in_line (T : Txt K mg C1 C2 C3 C4) (F : A.Df K mg "next_in_line" s_next_in_line) (c_need_in : A.Cl P w K mg base CX0 5 "need_in" s_need_in P_need_in (sp_need_in K)) (c_line_by : A.Cl P w K mg base CX0 1 "line_by" s_line_by P_line_by (sp_line_by K)) : A.Cl P w K mg base CX0 6 "next_in_line" s_next_in_line P_next_in_line (sp_next_in_line K) := by
  refine A.mk_cl F sc_next_in_line (fun vs H Q E h => ?_) bd_next_in_line (fun f cdv Ar outer s H vs Q E hr h => ?_)
  · obtain ⟨v, L, n, rfl, _⟩ := h; rfl
  obtain ⟨v, L, n, rfl, h1, h2, hn, k⟩ := h
  refine ⟨_, (pss_cons (ps_expr (A.pe_c c_need_in hr (by decide) (by rfl) (pa_cons (pv 0) (pa_cons (pv 1) pa_nil))))
    (pss_cons (ps_set (i := 2) sc_next_in_line.nd rfl (by first | exact Or.inl rfl | exact Or.inr rfl) (A.pe_c c_line_by hr (by decide) (by rfl) (pa_cons (pv 0) pa_nil)))
    (pss_cons (ps_set (i := 3) sc_next_in_line.nd rfl (by first | exact Or.inl rfl | exact Or.inr rfl) (pe_op (A.o_add (K := K) rfl) (A.e_bm (K := K) PySem.F.plainAttrs_list PySem.F.slot_list_index PySem.F.type_list_index (A.m_index (A.hu65 hr) (K := K) rfl) (pv 2) (pa_cons (pv 1) pa_nil) rfl) pe_int))
    (pss_one (ps_ret (pe_ifExp (pt_cmpR op_lt (pv 3) (pe_callB (A.c_len (K := K) rfl) (by rfl) T.n_len A.bb_len (pa_cons (pv 2) pa_nil)) (nomark _)) (pe_ix (A.o_ix (K := K) rfl) (pv 2) (pv 3) (fun _ _ => rfl)) pe_non)))))), ?_⟩
  walk_at "rd"
  refine ⟨v, L, n, rfl, h1, h2, hn, fun H1 e1 => ?_⟩
  walk_at "rd"
  refine ⟨v, L, rfl, par_ex e1 h1, h2, fun p H2 e2 _ h3 => ?_⟩
  walk_at "rd"
  refine ⟨A.ty_l h3, ?_⟩
  walk_at "rd"
  refine v_line h2 (SqL.of h3) hn ?_
  walk_at "rd"
  refine A.v_len (.inl (SqL.of h3)) ?_
  walk_at "rd"
  have kk := k H2 (e1.trans e2)
  by_cases hi : (line L).idxOf n + 1 < (line L).length
  · rw [decide_eq_true (by rw [nvs_len]; omega)]
    walk_at "rd"
    refine A.v_ixL (i := (((line L).idxOf n + 1 : Nat) : Int)) (SqL.of h3) (at_nvs (List.getElem?_eq_getElem hi)) ?_
    unfold nextV at kk
    rw [List.getElem?_eq_getElem hi] at kk
    exact kk
  · rw [decide_eq_false (by rw [nvs_len]; omega)]
    walk_at "rd"
    unfold nextV at kk
    rw [List.getElem?_eq_none (by omega)] at kk
    exact kk
theorem ok_comes_of (T : Txt K mg C1 C2 C3 C4) (F : A.Df K mg "comes_of" s_comes_of) (c_need_in : A.Cl P w K mg base CX0 5 "need_in" s_need_in P_need_in (sp_need_in K)) (c_is_of : A.Cl P w K mg base CX0 1 "is_of" s_is_of P_is_of (sp_is_of K)) : A.Cl P w K mg base CX0 6 "comes_of" s_comes_of P_comes_of (sp_comes_of K) := by
  refine A.mk_cl F sc_comes_of (fun vs H Q E h => ?_) bd_comes_of (fun f cdv Ar outer s H vs Q E hr h => ?_)
  · obtain ⟨v, L, x, y, rfl, _⟩ := h; rfl
  obtain ⟨v, L, x, y, rfl, h1, h2, hx, hy, k⟩ := h
  refine ⟨_, (pss_cons (ps_expr (A.pe_c c_need_in hr (by decide) (by rfl) (pa_cons (pv 0) (pa_cons (pv 1) pa_nil))))
    (pss_cons (ps_expr (A.pe_c c_need_in hr (by decide) (by rfl) (pa_cons (pv 0) (pa_cons (pv 2) pa_nil))))
    (pss_one (ps_ret (A.pe_c c_is_of hr (by decide) (by rfl) (pa_cons (pv 0) (pa_cons (pv 1) (pa_cons (pv 2) pa_nil)))))))), ?_⟩
  walk_at "rd"
  refine ⟨v, L, x, rfl, h1, h2, hx, fun H1 e1 => ?_⟩
  walk_at "rd"
  refine ⟨v, L, y, rfl, par_ex e1 h1, h2, hy, fun H2 e2 => ?_⟩
  walk_at "rd"
  refine ⟨v, L, x, y, rfl, par_ex (e1.trans e2) h1, h2, hx, fun c hc => ?_⟩
  exact k c H2 hc (e1.trans e2)
theorem ok_stretch (T : Txt K mg C1 C2 C3 C4) (F : A.Df K mg "stretch" s_stretch) (c_need_in : A.Cl P w K mg base CX0 5 "need_in" s_need_in P_need_in (sp_need_in K)) (c_line_by : A.Cl P w K mg base CX0 1 "line_by" s_line_by P_line_by (sp_line_by K)) : A.Cl P w K mg base CX0 6 "stretch" s_stretch P_stretch (sp_stretch K) := by
  refine A.mk_cl F sc_stretch (fun vs H Q E h => ?_) bd_stretch (fun f cdv Ar outer s H vs Q E hr h => ?_)
  · obtain ⟨v, L, x, y, z, rfl, _⟩ := h; rfl
  obtain ⟨v, L, x, X, B, rfl, h1, h2, eL, hX, k⟩ := h
  have hx : x ≤ L.length := line_lt h2 x (by rw [eL]; simp)
  have hlen := lineN_len L
  have ei : (line L).idxOf x = X.length := by rw [eL, idx_split hX]
  obtain ⟨R, eB, hR⟩ := Tr.tw_split x B
  have hB : X.length + B.length = L.length := by rw [eL] at hlen; simp at hlen; omega
  have hTB : (Tr.tw x B).length + R.length = B.length := by rw [← List.length_append, ← eB]
  have hL := h2.1
  refine ⟨_, (pss_cons (ps_expr (A.pe_c c_need_in hr (by decide) (by rfl) (pa_cons (pv 0) (pa_cons (pv 1) pa_nil))))
    (pss_cons (ps_set (i := 2) sc_stretch.nd rfl (by first | exact Or.inl rfl | exact Or.inr rfl) (A.pe_c c_line_by hr (by decide) (by rfl) (pa_cons (pv 0) pa_nil)))
    (pss_cons (ps_asg2 (A.e_bm (K := K) PySem.F.plainAttrs_list PySem.F.slot_list_index PySem.F.type_list_index (A.m_index (A.hu65 hr) (K := K) rfl) (pv 2) (pa_cons (pv 1) pa_nil) rfl) (pg_name (i := 3) sc_stretch.nd rfl (by first | exact Or.inl rfl | exact Or.inr rfl)) (pg_name (i := 4) sc_stretch.nd rfl (by first | exact Or.inl rfl | exact Or.inr rfl)))
    (pss_cons (ps_while PassesOwn.never (PW.pt (pw_and (pt_cmpR op_lt (pe_op (A.o_add (K := K) rfl) (pv 4) pe_int) (pe_callB (A.c_len (K := K) rfl) (by rfl) T.n_len A.bb_len (pa_cons (pv 2) pa_nil)) (nomark _)) (pw_and1 (pt_cmpR op_gt (pe_ix (A.o_ix (K := K) rfl) (pv 2) (pe_op (A.o_add (K := K) rfl) (pv 4) pe_int) (fun _ _ => rfl)) (pv 1) (nomark _))))) (pss_one (ps_aug (i := 4) sc_stretch.nd rfl (by first | exact Or.inl rfl | exact Or.inr rfl) pe_int ip_add)))
    (pss_one (ps_ret (pe_tup (pa_cons (pv 3) (pa_cons (pv 4) pa_nil))))))))), ?_⟩
  walk_at "rd"
  refine ⟨v, L, x, rfl, h1, h2, hx, fun H1 e1 => ?_⟩
  walk_at "rd"
  refine ⟨v, L, rfl, par_ex e1 h1, h2, fun p H2 e2 _ h3 => ?_⟩
  walk_at "rd"
  refine ⟨A.ty_l h3, ?_⟩
  walk_at "rd"
  refine v_line h2 (SqL.of h3) hx ?_
  walk_at "rd"
  rw [ei]
  refine ⟨fun m σ Hx => ∃ j, j ≤ (Tr.tw x B).length ∧ m = (Tr.tw x B).length - j ∧ Hx = H2 ∧ σ = [some v, some (nv x), some (.ref p), some (nv X.length), some (nv (X.length + j))], ⟨_, 0, by omega, rfl, rfl, rfl⟩, fun m σ Hx ⟨j, q1, q2, q3, q4⟩ => ?_⟩
  subst q3 q4
  have gt : ∀ b, B[j]? = some b → (line L)[X.length + j + 1]? = some b := fun b hb => by
    rw [eL, List.getElem?_append_right (by omega), show X.length + j + 1 - X.length = j + 1 by omega, List.getElem?_cons_succ]
    exact hb
  walk_at "rd"
  refine A.v_len (.inl (SqL.of h3)) ?_
  walk_at "rd"
  have fin : ∀ (Q' : Prop), (j = (Tr.tw x B).length → Q') → j = (Tr.tw x B).length → Q' := fun _ h e => h e
  by_cases hj : j < B.length
  · rw [decide_eq_true (by rw [nvs_len]; omega)]
    walk_at "rd"
    refine A.v_ixL (i := ((X.length + j + 1 : Nat) : Int)) (SqL.of h3) (at_nvs (gt _ (List.getElem?_eq_getElem hj))) ?_
    walk_at "rd"
    by_cases hjT : j < (Tr.tw x B).length
    · have hb : x < B[j] := by
        have e5 : B[j]? = (Tr.tw x B)[j]? := by
          conv => lhs; rw [eB]
          exact List.getElem?_append_left hjT
        rw [List.getElem?_eq_getElem hj, List.getElem?_eq_getElem hjT] at e5
        rw [Option.some.inj e5]
        exact Tr.tw_gt (List.getElem_mem hjT)
      rw [decide_eq_true (by omega)]
      walk_at "rd"
      refine ⟨fun σ' H' => (j + 1 ≤ (Tr.tw x B).length ∧ H' = Hx ∧ σ' = [some v, some (nv x), some (.ref p), some (nv X.length), some (nv (X.length + (j + 1)))]), fun σ' H' ⟨w1, w2, w3⟩ => ⟨m - 1, by omega, j + 1, w1, by omega, w2, w3⟩, ?_⟩
      walk_at "rd"
      exact ⟨by omega, rfl, rfl⟩
    · have ej : j = (Tr.tw x B).length := by omega
      have hb : B[j] ≤ x := by
        cases R with
        | nil => rw [List.append_nil] at eB; rw [← eB] at ej; omega
        | cons r R' =>
          have h5 := hR r R' rfl
          have : B[j]? = some r := by
            rw [eB, List.getElem?_append_right (by omega), ej]; simp
          rw [List.getElem?_eq_getElem hj] at this
          rw [Option.some.inj this]; exact h5
      rw [decide_eq_false (by omega)]
      walk_at "rd"
      refine ⟨A.small (by show 2 ≤ 100000; decide), fun q hq => ?_⟩
      rw [ej]
      exact k q _ ((e1.trans e2).trans (A.Ex.new (A.Ex.refl _) hq)) (.inl (.inl upd_same))
  · have ej : j = (Tr.tw x B).length := by omega
    rw [decide_eq_false (by rw [nvs_len]; omega)]
    walk_at "rd"
    refine ⟨A.small (by show 2 ≤ 100000; decide), fun q hq => ?_⟩
    rw [ej]
    exact k q _ ((e1.trans e2).trans (A.Ex.new (A.Ex.refl _) hq)) (.inl (.inl upd_same))
theorem ok_meet (T : Txt K mg C1 C2 C3 C4) (F : A.Df K mg "meet" s_meet) (c_need_in : A.Cl P w K mg base CX0 5 "need_in" s_need_in P_need_in (sp_need_in K)) : A.Cl P w K mg base CX0 6 "meet" s_meet P_meet (sp_meet K) := by
  refine A.mk_cl F sc_meet (fun vs H Q E h => ?_) bd_meet (fun f cdv Ar outer s H vs Q E hr h => ?_)
  · obtain ⟨v, L, x, y, rfl, _⟩ := h; rfl
  obtain ⟨v, L, x, y, rfl, h1, h2, hx, hy, k⟩ := h
  have hl := low_of h2
  refine ⟨_, (pss_cons (ps_expr (A.pe_c c_need_in hr (by decide) (by rfl) (pa_cons (pv 0) (pa_cons (pv 1) pa_nil))))
    (pss_cons (ps_expr (A.pe_c c_need_in hr (by decide) (by rfl) (pa_cons (pv 0) (pa_cons (pv 2) pa_nil))))
    (pss_cons (ps_while PassesOwn.never (pt_cmpR (A.o_ne hr.units (K := K) rfl) (pv 1) (pv 2) (nomark _)) (pss_one (ps_if (pt_cmpR op_gt (pv 1) (pv 2) (nomark _)) (pss_one (ps_set (i := 1) sc_meet.nd rfl (by first | exact Or.inl rfl | exact Or.inr rfl) (pe_ix (A.o_ix (K := K) rfl) (pv 0) (pv 1) (fun _ _ => rfl)))) (pss_one (ps_set (i := 2) sc_meet.nd rfl (by first | exact Or.inl rfl | exact Or.inr rfl) (pe_ix (A.o_ix (K := K) rfl) (pv 0) (pv 2) (fun _ _ => rfl)))))))
    (pss_one (ps_ret (pv 1)))))), ?_⟩
  walk_at "rd"
  refine ⟨v, L, x, rfl, h1, h2, hx, fun H1 e1 => ?_⟩
  walk_at "rd"
  refine ⟨v, L, y, rfl, par_ex e1 h1, h2, hy, fun H2 e2 => ?_⟩
  obtain ⟨a, rfl, h3⟩ := par_ex (e1.trans e2) h1
  walk_at "rd"
  refine ⟨fun m σ Hx => ∃ x' y', x' ≤ L.length ∧ y' ≤ L.length ∧ m = x' + y' ∧ Hx = H2 ∧ σ = [some (.ref a), some (nv x'), some (nv y')] ∧ ∀ c, Tr.IsMeet (pr L) x' y' c → Tr.IsMeet (pr L) x y c, ⟨_, x, y, hx, hy, rfl, rfl, rfl, fun _ h => h⟩, fun m σ Hx ⟨x', y', q1, q2, q3, q4, q5, q6⟩ => ?_⟩
  subst q3 q4 q5
  walk_at "rd"
  by_cases e : x' = y'
  · subst e
    rw [decide_eq_true rfl]
    walk_at "rd"
    exact k x' _ (q6 _ Tr.meet_self) q1 (e1.trans e2)
  · rw [decide_eq_false (show ¬ (x' : Int) = (y' : Int) by omega)]
    walk_at "rd"
    refine ⟨fun σ' H' => ∃ x2 y2, x2 ≤ L.length ∧ y2 ≤ L.length ∧ x2 + y2 < x' + y' ∧ H' = Hx ∧ σ' = [some (.ref a), some (nv x2), some (nv y2)] ∧ ∀ c, Tr.IsMeet (pr L) x2 y2 c → Tr.IsMeet (pr L) x y c, fun σ' H' ⟨x2, y2, w1, w2, w3, w4, w5, w6⟩ => ⟨x2 + y2, w3, x2, y2, w1, w2, rfl, w4, w5, w6⟩, ?_⟩
    walk_at "rd"
    by_cases hxy : y' < x'
    · rw [decide_eq_true (by omega)]
      walk_at "rd"
      refine A.v_ixT (i := (x' : Int)) h3 (at_pvs (by omega) q1) ?_
      walk_at "rd"
      have := hl x' (by omega) q1
      exact ⟨pr L x', y', by omega, q2, by omega, rfl, rfl, fun c hc => q6 c (Tr.meet_stepL hl q1 hxy hc)⟩
    · rw [decide_eq_false (by omega)]
      walk_at "rd"
      refine A.v_ixT (i := (y' : Int)) h3 (at_pvs (by omega) q2) ?_
      walk_at "rd"
      have := hl y' (by omega) q2
      exact ⟨x', pr L y', q1, by omega, by omega, rfl, rfl, fun c hc => q6 c (Tr.meet_comm (Tr.meet_stepL hl q2 (by omega) (Tr.meet_comm hc)))⟩
end
end T
set_option Elab.async false
set_option linter.all false
set_option maxRecDepth 100000
set_option maxHeartbeats 4000000
set_option autoImplicit false
namespace T
open PySem PySem.Spec PyProof.Rows L2
def IsL (d : PyData) (l : List Nat) : Prop := d = .tuple (nds l) ∧ l.head? = some 0 ∧ l.Perm (List.range l.length)
def szD : PyData → Nat
  | .tuple ds => ds.length
  | _ => 0
def Bent (d : PyData) : Prop := SeqAt.shaped d = true ∧ szD d ≤ 10000
def sp_is_line (K : PySem.W.Frag) : Sp := fun vs H Q _ => ∃ v d, vs = [v] ∧ Dp K H v d ∧ Bent d ∧ ∀ (c : Bool) H', (c = true ↔ ∃ l, IsL d l) → A.Ex H H' → Q (.bl c) H'
theorem eqv_ints : ∀ (a b : List Int), PyData.eqvAll (a.map .int) (b.map .int) = decide (a = b)
  | [], [] => rfl
  | [], y :: b => by simp [PyData.eqvAll]
  | x :: a, [] => by simp [PyData.eqvAll]
  | x :: a, y :: b => by
    have ih := eqv_ints a b
    simp only [List.map_cons, PyData.eqvAll, PyData.eqv]
    rw [ih, Bool.beq_eq_decide_eq, ← Bool.decide_and]
    exact decide_eq_decide.mpr (by simp)
theorem shaped_ints (ns : List Int) : SeqAt.shaped (.list (ns.map .int)) = true := by
  have h : ∀ ns : List Int, PyData.canLayAll0 (ns.map .int) = true ∧ PyData.depthAll (ns.map .int) = 0 := fun ns => by
    induction ns with
    | nil => exact ⟨by simp [PyData.canLayAll0], by simp [PyData.depthAll]⟩
    | cons x r ih => exact ⟨by simp [PyData.canLayAll0, PyData.canLay0, ih.1], by simp [PyData.depthAll, PyData.depth, ih.2]⟩
  unfold SeqAt.shaped
  rw [show (PyData.list (ns.map .int)).canLay0 = PyData.canLayAll0 (ns.map .int) by simp only [PyData.canLay0], (h ns).1, show (PyData.list (ns.map .int)).depth = PyData.depthAll (ns.map .int) + 1 by simp only [PyData.depth], (h ns).2]
  rfl
theorem num_nat {d : PyData} (h : numD d 0 = true) : ∃ n : Nat, d = nd n := by
  cases d with
  | int i =>
    unfold numD at h
    simp only [Bool.and_eq_true, decide_eq_true_eq] at h
    exact ⟨i.toNat, by show PyData.int i = .int ((i.toNat : Nat) : Int); rw [Int.toNat_of_nonneg h.2]⟩
  | none => cases h
  | bool _ => cases h
  | str _ => cases h
  | list _ => cases h
  | tuple _ => cases h
  | dict _ => cases h
theorem nums_nat : ∀ {ds : List PyData}, (ds.map fun d => numD d 0).all id = true → ∃ l, ds = nds l
  | [], _ => ⟨[], rfl⟩
  | d :: ds, h => by
    simp only [List.map_cons, List.all_cons, id, Bool.and_eq_true] at h
    obtain ⟨n, rfl⟩ := num_nat h.1
    obtain ⟨l, rfl⟩ := nums_nat (ds := ds) (by simpa using h.2)
    exact ⟨n :: l, rfl⟩
theorem isL_nums {ds : List PyData} {l : List Nat} (h : IsL (.tuple ds) l) (hz : ds.length ≤ 10000) : (ds.map fun d => numD d 0).all id = true := by
  obtain ⟨e, _, p⟩ := h
  injection e with e
  rw [e] at hz ⊢
  rw [nds_len] at hz
  unfold nds
  rw [List.map_map, List.all_map, List.all_eq_true]
  intro x hx
  have := List.mem_range.mp (p.mem_iff.mp hx)
  show (decide (((x : Nat) : Int).natAbs < 10 ^ 18) && decide ((0 : Int) ≤ (x : Nat))) = true
  simp; omega
theorem inj_nds : ∀ {l l' : List Nat}, nds l = nds l' → l = l'
  | [], [], _ => rfl
  | a :: l, b :: l', h => by
    unfold nds at h
    simp only [List.map_cons, List.cons.injEq] at h
    have h1 : a = b := by injection h.1 with e; omega
    rw [h1, inj_nds (l := l) (l' := l') h.2]
theorem perm_range {l : List Nat} {ns : List Int} (hp : ns.Perm (l.map fun n : Nat => (n : Int))) (hs : ns.Pairwise (· ≤ ·)) : ns = (List.range l.length).map (fun n : Nat => (n : Int)) ↔ l.Perm (List.range l.length) := by
  constructor
  · intro e
    rw [e] at hp
    have := hp.map Int.toNat
    rw [List.map_map, List.map_map] at this
    have k : ∀ q : List Nat, q.map (Int.toNat ∘ fun n : Nat => (n : Int)) = q := fun q => List.map_id'' (fun x => by simp) q
    rw [k, k] at this
    exact this.symm
  · intro h
    have h2 : ns.Perm ((List.range l.length).map (fun n : Nat => (n : Int))) := hp.trans (h.map _)
    refine h2.eq_of_pairwise (fun a b _ _ h3 h4 => Int.le_antisymm h3 h4) hs ?_
    refine List.pairwise_map.mpr ((List.pairwise_lt_range).imp fun {a b} h => by omega)
theorem rgV_nat (n : Nat) : rgV 0 (n : Int) = nvs (List.range n) := by
  unfold rgV nvs
  rw [show ((n : Int) - 0).toNat = n by omega]
  refine List.map_congr_left fun i _ => ?_
  show V.int (0 + (i : Nat)) = V.int (i : Nat)
  rw [Int.zero_add]
section
variable {P : Program} {w : World} {K : PySem.W.Frag} {mg : Str → Option Value} {base : Heap} {C1 C2 C3 C4 : Addr}
theorem ok_is_line (T : Txt K mg C1 C2 C3 C4) (F : A.Df K mg "is_line" s_is_line) (c_is_number : A.Cl P w K mg base CX0 2 "is_number" s_is_number P_is_number (sp_is_number K)) : A.Cl P w K mg base CX0 3 "is_line" s_is_line P_is_line (sp_is_line K) := by
  refine A.mk_cl F sc_is_line (fun vs H Q E h => ?_) bd_is_line (fun f cdv Ar outer s H vs Q E hr h => ?_)
  · obtain ⟨v, L, rfl, _⟩ := h; rfl
  obtain ⟨v, d, rfl, hd, ⟨hsh, hz⟩, k⟩ := h
  refine ⟨_, (pss_cons (ps_if (PW.pt (pw_or (pt_not (pt_val (pe_callB (A.c_isi (K := K) rfl) (by rfl) T.n_isinstance A.bb_isinstance (pa_cons (pv 0) (pa_cons (pe_bltn (v := .ty "tuple") (by rfl) T.n_tuple A.bt_tuple rfl) pa_nil))))) (pw_or (pt_cmpR (A.o_eq hr.units (K := K) rfl) (pv 0) (pe_tup pa_nil) (nomark _)) (pw_or1 (pt_not (pt_val (pe_callB (A.c_all rfl (K := K) rfl) (by rfl) T.n_all A.bb_all (pa_cons (pe_lc (own := [("item", 1)]) (by rfl) sc_is_line.nd (A.p_seq (K := K) (pv 0) rfl) (blkOk_by (own := [("item", 1)]) (N := N_is_line) (sc := defScope s_is_line) (by decide +kernel)) (fun _ _ _ _ _ => (pg_name (i := 1) sc_is_line.nd rfl (by first | exact Or.inl rfl | exact Or.inr rfl))) (fun _ _ _ _ _ => pts_nil) (fun _ _ _ _ _ => (A.pe_c c_is_number hr (by decide) (by rfl) (pa_cons (pv 1) (pa_cons pe_int pa_nil))))) pa_nil)))))))) (pss_one (ps_ret pe_bl)) pss_nil)
    (pss_one (ps_ret (pe_and (pe_cmpR (A.o_eq hr.units (K := K) rfl) (pe_ix (A.o_ix (K := K) rfl) (pv 0) pe_int (fun _ _ => rfl)) pe_int (nomark _)) (pe_one (pe_cmpR (A.o_eq hr.units (K := K) rfl) (pe_callB (A.c_sorted (K := K) rfl) (by rfl) T.n_sorted A.bb_sorted (pa_cons (pv 0) pa_nil)) (pe_listRg rfl (by rfl) T.n_list (prg_1 (by rfl) T.n_range (pe_callB (A.c_len (K := K) rfl) (by rfl) T.n_len A.bb_len (pa_cons (pv 0) pa_nil)))) (nomark _))))))), ?_⟩
  walk_at "rd"
  refine A.v_istD hd ?_
  walk_at "rd"
  cases hd with
  | int i => exact k _ H ⟨fun h => (by cases h), fun ⟨l, h, _⟩ => (by cases h)⟩ (A.Ex.refl _)
  | bl i => exact k _ H ⟨fun h => (by cases h), fun ⟨l, h, _⟩ => (by cases h)⟩ (A.Ex.refl _)
  | non => exact k _ H ⟨fun h => (by cases h), fun ⟨l, h, _⟩ => (by cases h)⟩ (A.Ex.refl _)
  | str i => exact k _ H ⟨fun h => (by cases h), fun ⟨l, h, _⟩ => (by cases h)⟩ (A.Ex.refl _)
  | lst _ _ => exact k _ H ⟨fun h => (by cases h), fun ⟨l, h, _⟩ => (by cases h)⟩ (A.Ex.refl _)
  | @tup a xs ds h1 h2 =>
    refine iteF ?_
    walk_at "rd"
    refine ⟨Nat.zero_le _, fun p hp => ?_⟩
    have e0 : A.Ex H (upd H p (.tup [])) := A.Ex.new (A.Ex.refl _) hp
    refine A.v_eqD (.tup (A.sqT_ex e0 h1) (A.dpa_ex e0 h2)) (.tup (xs := []) (.inl (.inl upd_same)) .nil) hsh (by decide) ?_
    walk_at "rd"
    have hxl := A.dpa_len h2
    cases hds : ds with
    | nil =>
      subst hds
      exact k _ _ ⟨fun h => (by cases h), fun ⟨l, h, h', _⟩ => by
        cases l with
        | nil => cases h'
        | cons _ _ => cases h⟩ e0
    | cons d0 dr =>
      rw [show PyData.eqv (.tuple (d0 :: dr)) (.tuple []) = false from by simp [PyData.eqv, PyData.eqvAll]]
      walk_at "rd"
      refine A.i_seq (upd H p (.tup [])) (.inr (A.sqT_ex e0 h1)) (A.Ex.refl _) fun J hJ => ?_
      intro D hD
      have hzl : xs.length ≤ 10000 := by rw [hxl]; exact hz
      refine A.lc_pure xs.length (by omega) (fun i => some (V.bl (numD (ds.getD i .none) 0))) hD (fun i H4 Y N hi hE hY hN => ?_) (fun H4 hE hDD => ?_)
      · obtain ⟨hg, _⟩ := hJ _ hE
        have hv := List.getElem?_eq_getElem hi
        refine ⟨(hg i _ hv).1, fun x H5 hx => ?_⟩
        obtain ⟨rfl, rfl⟩ := (hg i _ hv).2 x H5 hx
        walk_at "rd"
        refine ⟨rfl, ?_⟩
        walk_at "rd"
        obtain ⟨d, hd1, hd2⟩ := A.dpa_getV h2 hv
        refine ⟨_, d, 0, rfl, A.dp_ex (e0.trans hE) hd2, ?_⟩
        refine hY _ _ ?_ (A.Ex.refl _)
        rw [List.getD_eq_getElem?_getD, hd1]; rfl
      · refine ⟨(hJ _ hE).2, ?_⟩
        walk_at "rd"
        have ebs : (List.range xs.length).filterMap (fun i => some (V.bl (numD (ds.getD i .none) 0))) = (ds.map fun d => numD d 0).map V.bl := by
          rw [show (fun i => some (V.bl (numD (ds.getD i .none) 0))) = some ∘ (fun i => V.bl (numD (ds.getD i .none) 0)) from rfl, List.filterMap_eq_map, hxl]
          refine List.ext_getElem? fun i => ?_
          by_cases hi : i < ds.length
          · simp [hi, List.getElem?_range]
          · simp [hi, List.getElem?_range]
        rw [ebs] at hDD
        refine ⟨D, ds.map (fun d => numD d 0), rfl, SqL.of hDD, ?_⟩
        have e4 := e0.trans hE
        by_cases hall : (ds.map fun d => numD d 0).all id = true
        · rw [hall]
          walk_at "rd"
          obtain ⟨l, hl⟩ := nums_nat hall
          have hxs : xs = nvs l := by
            rw [hl] at h2
            have := A.dpa_ints_inv (ns := l.map fun n : Nat => (n : Int)) (vs := xs) (by rw [List.map_map]; exact h2)
            rw [this, List.map_map]; rfl
          subst hxs
          have hl0 : l ≠ [] := fun e => by rw [hl, e] at hds; cases hds
          obtain ⟨n0, l0, el⟩ := List.exists_cons_of_ne_nil hl0
          refine A.v_ixT (i := ((0 : Nat) : Int)) (A.sqT_ex e4 h1) (at_nvs (x := n0) (by rw [el]; rfl)) ?_
          walk_at "rd"
          by_cases hn0 : n0 = 0
          · rw [decide_eq_true (by omega)]
            walk_at "rd"
            refine ⟨a, l.map (fun n : Nat => (n : Int)), rfl, .inr ?_, fun ns q hp1 hs1 hq => ?_⟩
            · rw [List.map_map]; exact A.sqT_ex e4 h1
            have e5 := e4.trans (A.Ex.new (o := .lst (ns.map V.int)) (A.Ex.refl H4) hq)
            dsimp only
            walk_at "rd"
            refine A.v_len (.inr (A.sqT_ex e5 h1)) ?_
            rw [nvs_len]
            refine ⟨_, rfl, .of_le (by omega) (by rw [nvs_len] at hzl; omega) (by omega) (by omega), fun q2 hq2 => ?_⟩
            rw [rgV_nat]
            have e6 := e5.trans (A.Ex.new (o := .lst (nvs (List.range l.length))) (A.Ex.refl _) hq2)
            have er : nds (List.range l.length) = ((List.range l.length).map fun n : Nat => (n : Int)).map .int := by unfold nds; rw [List.map_map]; rfl
            refine A.v_eqD (d := .list (ns.map .int)) (e := .list (((List.range l.length).map fun n : Nat => (n : Int)).map .int)) (.lst (SqL.of (A.upd_keep upd_same hq2)) (A.dpa_ints ns)) (.lst (SqL.of upd_same) (by rw [← er]; exact dpa_nvs _)) (shaped_ints _) (shaped_ints _) ?_
            rw [show PyData.eqv (.list (ns.map .int)) (.list (((List.range l.length).map fun n : Nat => (n : Int)).map .int)) = decide (ns = (List.range l.length).map fun n : Nat => (n : Int)) from by rw [← eqv_ints]; simp only [PyData.eqv]]
            refine k _ _ ⟨fun h => ?_, fun ⟨l', h, h', h3⟩ => ?_⟩ e6
            · have h := of_decide_eq_true h
              refine ⟨l, by rw [hl], by rw [el, hn0]; rfl, (perm_range hp1 hs1).mp h⟩
            · injection h with h
              rw [hl] at h
              have : l = l' := inj_nds h
              rw [← this] at h3
              exact decide_eq_true ((perm_range hp1 hs1).mpr h3)
          · rw [decide_eq_false (by omega)]
            refine k _ _ ⟨fun h => (by cases h), fun ⟨l', h, h', _⟩ => ?_⟩ e4
            injection h with h
            rw [hl] at h
            have : l = l' := inj_nds h
            rw [← this, el] at h'
            exact absurd (by simpa using h') hn0
        · rw [eq_false_of_ne_true hall]
          walk_at "rd"
          exact k _ _ ⟨fun h => (by cases h), fun ⟨l, h⟩ => absurd (isL_nums h hz) hall⟩ e4
end
end T
set_option Elab.async false
set_option linter.all false
set_option maxRecDepth 100000
set_option maxHeartbeats 4000000
set_option autoImplicit false
namespace T
open PySem PySem.Spec PyProof.Rows L2
def TreeV (l : List Nat) (ys : List V) : Prop := ys.length = l.length ∧ ∀ i v, l[i]? = some v → (i = 0 → ys[v]? = some .non) ∧ (i ≠ 0 → ∃ X x, (l.take i).filter (fun y => decide (y < v)) = X ++ [x] ∧ ys[v]? = some (nv x))
def sp_tree_of (K : PySem.W.Frag) (C3 : Addr) : Sp := fun vs H Q E => ∃ v d, vs = [v] ∧ Dp K H v d ∧ Bent d ∧ (∀ l, IsL d l → ∀ p ys H', A.Ex H H' → SqT K H' p ys → TreeV l ys → Q (.ref p) H') ∧ ((¬ ∃ l, IsL d l) → ∀ H', A.Ex H H' → E (.ref C3) none H')
section
variable {P : Program} {w : World} {K : PySem.W.Frag} {mg : Str → Option Value} {base : Heap} {C1 C2 C3 C4 : Addr}
theorem ok_tree_of (T : Txt K mg C1 C2 C3 C4) (F : A.Df K mg "tree_of" s_tree_of) (c_is_line : A.Cl P w K mg base CX0 3 "is_line" s_is_line P_is_line (sp_is_line K)) : A.Cl P w K mg base (L2.CX P w) 4 "tree_of" s_tree_of P_tree_of (sp_tree_of K C3) := by
  refine A.mk_clX F sc_tree_of (fun vs H Q E h => ?_) bd_tree_of (fun f cdv Ar outer s H vs Q E hr h => ?_)
  · obtain ⟨v, L, rfl, _⟩ := h; rfl
  obtain ⟨v, d, rfl, hd, hB, k1, k2⟩ := h
  refine ⟨_, (pss_cons (ps_if (pt_not (pt_val (A.pe_c c_is_line hr (by decide) (by rfl) (pa_cons (pv 0) pa_nil)))) (pss_one (ps_raise rfl (takes_of rfl rfl rfl rfl) (pmk_own PySem.F.excBase_ValueError T.x_BadLine T.g_BadLine T.k_BadLine (raises_own T.b_BadLine T.t_BadLine) rfl))) pss_nil)
    (PSs.nox (pss_cons (ps_set (i := 1) sc_tree_of.nd rfl (by first | exact Or.inl rfl | exact Or.inr rfl) (pe_op (A.o_mul (K := K) rfl) (pe_lst (pa_cons pe_non pa_nil)) (pe_callB (A.c_len (K := K) rfl) (by rfl) T.n_len A.bb_len (pa_cons (pv 0) pa_nil))))
    (pss_cons (ps_for PassesOwn.never (by rfl) (A.p_enum (K := K) (by rfl) T.n_enumerate (pa_cons (pv 0) pa_nil) rfl) (A.p_tup (K := K) (n := 2) (by rfl) (pgs_cons (pg_name (i := 2) sc_tree_of.nd rfl (by first | exact Or.inl rfl | exact Or.inr rfl)) (pgs_cons (pg_name (i := 3) sc_tree_of.nd rfl (by first | exact Or.inl rfl | exact Or.inr rfl)) pgs_nil)) rfl) (pss_one (ps_if (pt_cmpR op_gt (pv 2) pe_int (nomark _)) (pss_one (ps_asg (pe_ix (A.o_ix (K := K) rfl) (pe_lc (own := [("other", 4)]) (by rfl) sc_tree_of.nd (A.p_seq (K := K) (pe_slice (A.o_sl (K := K) rfl) (pv 0) po_none (po_some (pv 2))) rfl) (blkOk_by (own := [("other", 4)]) (N := N_tree_of) (sc := defScope s_tree_of) (by decide +kernel)) (fun _ _ _ _ _ => (pg_name (i := 4) sc_tree_of.nd rfl (by first | exact Or.inl rfl | exact Or.inr rfl))) (fun _ _ _ _ _ => (pts_one (pt_cmpR op_lt (pv 4) (pv 3) (nomark _)))) (fun _ _ _ _ _ => (pv 4))) (pe_un un_neg pe_int) (fun _ _ => rfl)) (pg_sub (pv 1) (pv 3) set_list))) pss_nil)))
    (pss_one (ps_ret (pe_callTy (A.c_tuple (K := K) rfl) (by rfl) T.n_tuple A.bt_tuple (pa_cons (pv 1) pa_nil)))))))), ?_⟩
  walk_at "rd"
  refine ⟨v, d, rfl, hd, hB, fun c H1 hc e1 => ?_⟩
  walk_at "rd"
  cases c with
  | false =>
    walk_at "rd"
    exact k2 (fun h => by cases hc.mpr h) H1 e1
  | true =>
    obtain ⟨l, hl⟩ := hc.mp rfl
    replace k1 := k1 l hl
    obtain ⟨rfl, hl0, hlp⟩ := hl
    cases hd with
    | @tup a xs ds h1 h2 =>
      have hz : l.length ≤ 10000 := by have := hB.2; rw [show szD (.tuple (nds l)) = (nds l).length from rfl, nds_len] at this; exact this
      have hxs : xs = nvs l := by
        have := A.dpa_ints_inv (ns := l.map fun n : Nat => (n : Int)) (vs := xs) (by rw [List.map_map]; exact h2)
        rw [this, List.map_map]; rfl
      subst hxs
      have hlt : ∀ x ∈ l, x < l.length := fun x hx => List.mem_range.mp (hlp.mem_iff.mp hx)
      have hnd : l.Nodup := hlp.nodup_iff.mpr List.nodup_range
      walk_at "rd"
      refine ⟨by decide, fun p0 hp0 => ?_⟩
      have e2 := e1.trans (A.Ex.new (o := .lst [V.non]) (A.Ex.refl H1) hp0)
      dsimp only
      walk_at "rd"
      refine A.v_len (.inr (A.sqT_ex e2 h1)) ?_
      rw [nvs_len]
      walk_at "rd"
      refine A.v_rep upd_same (by omega) fun p hp => ?_
      generalize hH2 : upd H1 p0 (.lst [V.non]) = H2 at hp e2
      have e3 := e2.trans (A.Ex.new (o := .lst (List.replicate l.length V.non)) (A.Ex.refl H2) hp)
      walk_at "rd"
      refine A.i_enum H2 (.inr (A.sqT_ex e2 h1)) (A.Ex.new (A.Ex.refl _) hp) fun J hJ => ?_
      refine A.for_in (nvs l).length (fun i σ Hx => ∃ z2 z3 z4 ys, σ = [some (.ref a), some (.ref p), z2, z3, z4] ∧ A.Ex H2 Hx ∧ Hx p = some (.lst ys) ∧ ys.length = l.length ∧
        (∀ j v, j < i → l[j]? = some v → (j = 0 → ys[v]? = some .non) ∧ (j ≠ 0 → ∃ X x, (l.take j).filter (fun y => decide (y < v)) = X ++ [x] ∧ ys[v]? = some (nv x))) ∧ (∀ j v, i ≤ j → l[j]? = some v → ys[v]? = some V.non))
        ⟨none, none, none, _, rfl, A.Ex.new (A.Ex.refl _) hp, upd_same, by simp, fun j v hj => absurd hj (Nat.not_lt_zero _), fun j v _ hv => ?_⟩ (fun i σ Hx hi ⟨z2, z3, z4, ys, q1, q2, q3, q4, q5, q6⟩ => ?_) (fun σ Hx ⟨z2, z3, z4, ys, q1, q2, q3, q4, q5, q6⟩ => ?_)
      · have := hlt v (List.mem_of_getElem? hv)
        rw [List.getElem?_replicate, if_pos this]
      · subst q1
        rw [nvs_len] at hi
        have hv : (nvs l)[i]? = some (nv l[i]) := by rw [nvs_get, List.getElem?_eq_getElem hi]; rfl
        obtain ⟨g1, g2⟩ := (hJ Hx q2).1 i _ hv
        refine ⟨g1, fun x H5 hx => ?_⟩
        obtain ⟨T2, rfl, hT, rfl⟩ := g2 x H5 hx
        refine A.r_gtup (.inl (.inl upd_same)) rfl ?_
        walk_at "rd"
        have hli : l[i]? = some l[i] := List.getElem?_eq_getElem hi
        have q2' := q2.trans (A.Ex.new (o := .tup [V.int (i : Nat), nv l[i]]) (A.Ex.refl Hx) hT)
        have q3' : (upd Hx T2 (.tup [V.int (i : Nat), nv l[i]])) p = some (.lst ys) := A.upd_keep q3 hT
        by_cases hi0 : 0 < i
        · rw [decide_eq_true (by omega)]
          walk_at "rd"
          refine A.v_slT (A.sqT_ex (e2.trans q2') h1) fun p3 H3 e5 h3 => ?_
          rw [A.cut_to (by rw [nvs_len]; omega), show (nvs l).take i = nvs (l.take i) from by unfold nvs; rw [List.map_take]] at h3
          refine A.i_seq H3 (.inr h3) (A.Ex.refl _) fun J2 hJ2 => ?_
          intro D hD
          refine A.lc_seq hJ2 (A.Ex.refl _) (by rw [nvs_len]; simp; omega) (fun x => match x with | .int z => if z < (l[i] : Nat) then some (.int z) else none | _ => none) hD (fun j x H4 Y N hx hE hY hN => ?_) (fun H4 hE hDD => ?_)
          · rw [nvs_get] at hx
            obtain ⟨y, hy, rfl⟩ := Option.map_eq_some_iff.mp hx
            walk_at "rd"
            refine ⟨rfl, ?_⟩
            walk_at "rd"
            by_cases hyl : y < l[i]
            · rw [decide_eq_true (by omega)]
              walk_at "rd"
              exact hY _ _ (by simp; omega) (A.Ex.refl _)
            · rw [decide_eq_false (by omega)]
              walk_at "rd"
              exact hN _ (by simp; omega) (A.Ex.refl _)
          · have ef : (nvs (l.take i)).filterMap (fun x => match x with | .int z => if z < ((l[i] : Nat) : Int) then some (V.int z) else none | _ => none) = nvs ((l.take i).filter (fun y => decide (y < l[i]))) := by
              generalize l.take i = u
              induction u with
              | nil => rfl
              | cons a t ih =>
                show List.filterMap _ (nv a :: nvs t) = _
                by_cases ha : a < l[i]
                · rw [List.filterMap_cons_some (b := nv a) (by simp; omega), List.filter_cons_of_pos (by simpa using ha), ih]; rfl
                · rw [List.filterMap_cons_none (by simp; omega), List.filter_cons_of_neg (by simpa using ha), ih]
            rw [ef] at hDD
            have hv0 : l[i] ≠ 0 := fun e => by
              obtain ⟨n0, l0, el⟩ := List.exists_cons_of_ne_nil (l := l) (fun e => by rw [e] at hi; simp at hi)
              rw [el] at hl0
              have e0 : l[0]? = some 0 := by rw [el]; exact hl0
              have h0 : 0 < l.length := by omega
              rw [List.getElem?_eq_getElem h0] at e0
              have := (List.getElem_inj hnd (h₀ := hi) (h₁ := h0)).mp (e.trans (Option.some.inj e0).symm)
              omega
            have hne : (l.take i).filter (fun y => decide (y < l[i])) ≠ [] := fun e => by
              have e0 : (l.take i)[0]? = some 0 := by
                rw [List.getElem?_take_of_lt hi0]
                cases l with
                | nil => cases hl0
                | cons b t => exact hl0
              have := List.filter_eq_nil_iff.mp e 0 (List.mem_of_getElem? e0)
              exact this (decide_eq_true (by omega))
            obtain ⟨X, x, hXx⟩ : ∃ X x, (l.take i).filter (fun y => decide (y < l[i])) = X ++ [x] := by
              rcases List.eq_nil_or_concat ((l.take i).filter (fun y => decide (y < l[i]))) with h | ⟨X, x, h⟩
              · exact absurd h hne
              · exact ⟨X, x, by rw [h, List.concat_eq_append]⟩
            rw [hXx] at hDD
            walk_at "rd"
            refine A.v_ixL (i := -1) (v := nv x) (SqL.of hDD) (by unfold nvs; rw [List.map_append]; exact A.at_last) ?_
            walk_at "rd"
            have q2'' := (q2'.trans e5).trans hE
            have hli2 : l[i] < l.length := hlt _ (List.getElem_mem hi)
            refine A.v_setL (i := l[i]) (hE _ _ (e5 _ _ q3')) (by omega) ?_
            walk_at "rd"
            refine ⟨_, _, _, _, rfl, A.Ex.wr q2'' (by rw [← hH2]; rw [← hH2] at hp; exact hp), upd_same, by simp [q4], fun j v hj hw => ?_, fun j v hj hw => ?_⟩
            · by_cases hji : j = i
              · subst hji
                obtain rfl : l[j] = v := by rw [hli] at hw; exact Option.some.inj hw
                refine ⟨fun h => absurd h (by omega), fun _ => ⟨X, x, hXx, ?_⟩⟩
                rw [List.getElem?_set_self (by omega)]
              · have hwi : l[i] ≠ v := fun e => by
                  have hjl := (List.getElem?_eq_some_iff.mp hw)
                  obtain ⟨hj1, hj2⟩ := hjl
                  exact hji ((List.getElem_inj hnd (h₀ := hj1) (h₁ := hi)).mp (hj2.trans e.symm))
                rw [List.getElem?_set_ne hwi]
                exact q5 j v (by omega) hw
            · have hwi : l[i] ≠ v := fun e => by
                obtain ⟨hj1, hj2⟩ := List.getElem?_eq_some_iff.mp hw
                have := (List.getElem_inj hnd (h₀ := hj1) (h₁ := hi)).mp (hj2.trans e.symm)
                omega
              rw [List.getElem?_set_ne hwi]
              exact q6 j v (by omega) hw
        · rw [decide_eq_false (by omega)]
          walk_at "rd"
          obtain rfl : i = 0 := by omega
          refine ⟨_, _, _, ys, rfl, q2', q3', q4, fun j v hj hv => ?_, fun j v hj hv => q6 j v (by omega) hv⟩
          obtain rfl : j = 0 := by omega
          exact ⟨fun _ => q6 0 v (Nat.le_refl _) hv, fun h => absurd rfl h⟩
      · subst q1
        refine ⟨(hJ Hx q2).2, ?_⟩
        walk_at "rd"
        refine A.v_tupL (SqL.of q3) fun q H3 e4 h4 => ?_
        exact k1 q ys H3 ((e2.trans q2).trans e4) h4 ⟨q4, fun i v hv => q5 i v (by rw [nvs_len]; exact (List.getElem?_eq_some_iff.mp hv).1) hv⟩
end
end T
set_option Elab.async false
set_option linter.all false
set_option maxRecDepth 100000
set_option maxHeartbeats 4000000
set_option autoImplicit false
namespace T
open PySem PySem.Spec PyProof.Rows L2
def sp_law_begun (K : PySem.W.Frag) : Sp := fun vs H Q _ => ∃ a ns, vs = [.ref a] ∧ SqL K H a (A.ivs ns) ∧ ns.length ≤ 100000 ∧ ∀ s G H', A.Ex H G → A.Wd G H' s 0 → Q (.ref s.st) H'
def sp_law_blended : Sp := fun vs H Q _ => ∃ G s t, vs = [.ref s.st] ∧ A.Wd G H s t ∧ t ≤ 10 ^ 9 ∧ ∀ (n : Int) H', A.Wd G H' s (t + 1) → Q (.int n) H'
def sp_law_draw : Sp := fun vs H Q _ => ∃ G s t n, vs = [.ref s.st, .int ((n : Nat) : Int)] ∧ A.Wd G H s t ∧ t ≤ 10 ^ 9 ∧ 0 < n ∧ n < 2 ^ 30 ∧ ∀ r H', r < n → A.Wd G H' s (t + 1) → Q (.int ((r : Nat) : Int)) H'
def sp_law_pick (K : PySem.W.Frag) : Sp := fun vs H Q _ => ∃ G s t l xs, vs = [.ref s.st, .ref l] ∧ A.Wd G H s t ∧ t ≤ 10 ^ 9 ∧ SqL K G l xs ∧ xs ≠ [] ∧ xs.length ≤ 100000 ∧ ∀ (i : Nat) x H', xs[i]? = some x → A.Wd G H' s (t + 1) → Q x H'
section
variable {P : Program} {w : World} {K : PySem.W.Frag} {mg : Str → Option Value} {base : Heap} {C1 C2 C3 C4 : Addr}
theorem ok_law_begun (T : Txt K mg C1 C2 C3 C4) (F : A.Df K mg "_law_begun" s_law_begun) : A.Cl P w K mg base CX0 1 "_law_begun" s_law_begun P_law_begun (sp_law_begun K) := by
  refine A.mk_cl F sc_law_begun (fun vs H Q E h => ?_) bd_law_begun (fun f cdv Ar outer s H vs Q E hr h => ?_)
  · obtain ⟨a, ns, rfl, _⟩ := h; rfl
  obtain ⟨a, ns, rfl, h1, hz, k⟩ := h
  refine ⟨_, (pss_cons (ps_setLc (i := 1) (own := [("cell", 2)]) (by rfl) sc_law_begun.nd rfl rfl (sw_true rfl rfl rfl (by decide +kernel)) (A.p_seq (K := K) (pv 0) rfl) (blkOk_by (own := [("cell", 2)]) (N := N_law_begun) (sc := defScope s_law_begun) (by decide +kernel)) (fun _ _ _ _ _ => (pg_name (i := 2) sc_law_begun.nd rfl (by first | exact Or.inl rfl | exact Or.inr rfl))) (fun _ _ _ _ _ => (pts_one (pt_cmpR op_ge (pe_callB A.c_abs (by rfl) T.n_abs A.bb_abs (pa_cons (pv 2) pa_nil)) (pe_op op_pow pe_int pe_int) (nomark _)))) (fun _ _ _ _ _ => (pe_op op_sub (pe_callB A.c_abs (by rfl) T.n_abs A.bb_abs (pa_cons (pv 2) pa_nil)) (pe_op op_pow pe_int pe_int))))
    (pss_one (ps_ret (pe_disp (pps_cons pe_str (pv 1) (pps_cons pe_str (pe_lc (own := [("cell", 2)]) (by rfl) sc_law_begun.nd (A.p_seq (K := K) (pv 0) rfl) (blkOk_by (own := [("cell", 2)]) (N := N_law_begun) (sc := defScope s_law_begun) (by decide +kernel)) (fun _ _ _ _ _ => (pg_name (i := 2) sc_law_begun.nd rfl (by first | exact Or.inl rfl | exact Or.inr rfl))) (fun _ _ _ _ _ => pts_nil) (fun _ _ _ _ _ => (pe_callB A.c_abs (by rfl) T.n_abs A.bb_abs (pa_cons (pv 2) pa_nil)))) (pps_cons pe_str pe_int (pps_cons pe_str pe_int pps_nil)))) (by rfl) (by rfl) (fun z => by cases z) (by decide))))), ?_⟩
  have hlen : (A.ivs ns).length ≤ 100000 := by unfold A.ivs; rw [List.length_map]; exact hz
  have hat : ∀ (i : Nat) (x : V), (A.ivs ns)[i]? = some x → ∃ n, x = .int n := fun i x hx => by
    unfold A.ivs at hx
    rw [List.getElem?_map] at hx
    obtain ⟨n, _, rfl⟩ := Option.map_eq_some_iff.mp hx
    exact ⟨n, rfl⟩
  walk_at "rd"
  refine A.i_seq H (.inl h1) (A.Ex.refl _) fun J hJ => ?_
  intro g hg
  refine A.lc_seq hJ (A.Ex.refl _) hlen (fun x => match x with | .int z => if 10 ^ 18 ≤ (if z < 0 then -z else z) then some (.int ((if z < 0 then -z else z) - 10 ^ 18)) else none | _ => none) hg (fun i x H4 Y N hx hE hY hN => ?_) (fun H1 hE hgg => ?_)
  · obtain ⟨z, rfl⟩ := hat i x hx
    walk_at "rd"
    refine ⟨rfl, ?_⟩
    walk_at "rd"
    refine A.v_I ⟨by decide, by decide, by decide⟩ ?_
    walk_at "rd"
    by_cases hb : (10 : Int) ^ 18 ≤ (if z < 0 then -z else z)
    · rw [decide_eq_true (show (10 : Int) ^ (18 : Int).toNat ≤ (if z < 0 then -z else z) from hb)]
      walk_at "rd"
      refine A.v_I ⟨by decide, by decide, by decide⟩ ?_
      walk_at "rd"
      exact hY _ _ (by dsimp only; rw [if_pos hb]; rfl) (A.Ex.refl _)
    · rw [decide_eq_false (show ¬ (10 : Int) ^ (18 : Int).toNat ≤ (if z < 0 then -z else z) from hb)]
      walk_at "rd"
      exact hN _ (by dsimp only; rw [if_neg hb]) (A.Ex.refl _)
  · obtain ⟨gr, egr⟩ : ∃ gr, (A.ivs ns).filterMap (fun x => match x with | .int z => if 10 ^ 18 ≤ (if z < 0 then -z else z) then some (V.int ((if z < 0 then -z else z) - 10 ^ 18)) else none | _ => none) = A.ivs gr := by
      clear hJ hgg h1 hz hlen hat
      induction ns with
      | nil => exact ⟨[], rfl⟩
      | cons n r ih =>
        obtain ⟨gr, e⟩ := ih
        show ∃ gr, List.filterMap _ (V.int n :: A.ivs r) = _
        by_cases hb : (10 : Int) ^ 18 ≤ (if n < 0 then -n else n)
        · exact ⟨_ :: gr, by rw [List.filterMap_cons_some (b := V.int ((if n < 0 then -n else n) - 10 ^ 18)) (by dsimp only; rw [if_pos hb]), e]; rfl⟩
        · exact ⟨gr, by rw [List.filterMap_cons_none (by dsimp only; rw [if_neg hb]), e]⟩
    rw [egr] at hgg
    walk_at "rd"
    refine A.r_disp fun p hp => ?_
    walk_at "rd"
    refine A.i_seq H (.inl h1) (A.Ex.new hE hp) fun J2 hJ2 => ?_
    intro c hc
    refine A.lc_seq hJ2 (A.Ex.new hE hp) hlen (fun x => match x with | .int z => some (.int (if z < 0 then -z else z)) | _ => none) hc (fun i x H4 Y N hx hE4 hY hN => ?_) (fun H5 hE5 hcc => ?_)
    · obtain ⟨z, rfl⟩ := hat i x hx
      walk_at "rd"
      refine ⟨rfl, ?_⟩
      walk_at "rd"
      exact hY _ _ rfl (A.Ex.refl _)
    · obtain ⟨cs, ecs⟩ : ∃ cs, (A.ivs ns).filterMap (fun x => match x with | .int z => some (V.int (if z < 0 then -z else z)) | _ => none) = A.ivs cs := by
        clear hJ hJ2 hcc hgg egr h1 hz hlen hat
        induction ns with
        | nil => exact ⟨[], rfl⟩
        | cons n r ih =>
          obtain ⟨cs, e⟩ := ih
          exact ⟨(if n < 0 then -n else n) :: cs, by show List.filterMap _ (V.int n :: A.ivs r) = _; rw [List.filterMap_cons]; dsimp only; rw [e]; rfl⟩
      rw [ecs] at hcc
      walk_at "rd"
      have hp5 := hE5 _ _ (upd_same (H := H1) (a := p) (o := .dK []))
      refine ⟨hp5, A.stK ⟨p, g, c⟩ 0 0, rfl, by show 4 ≤ 15; decide, ?_⟩
      rw [A.merge_st]
      have hHp : H p = none := A.none_of_ex hE hp
      have hpg : p ≠ g := fun e => by rw [e, hgg] at hp; cases hp
      have hpc : p ≠ c := fun e => by rw [← e, upd_same] at hc; cases hc
      have hgc : g ≠ c := fun e => by
        rw [← e, upd_ne (Ne.symm hpg), hgg] at hc; cases hc
      have e6 : A.Ex H H5 := (A.Ex.new hE hp).trans hE5
      have e7 : A.Ex H (upd H5 p (.dK (A.stK ⟨p, g, c⟩ 0 0))) := A.Ex.wr e6 hHp
      refine k ⟨p, g, c⟩ (A.less ⟨p, g, c⟩ (upd H5 p (.dK (A.stK ⟨p, g, c⟩ 0 0)))) _ (A.ex_less e7 hHp hg) ⟨A.less_ex, by unfold A.less; rw [if_pos (.inl rfl)], by unfold A.less; rw [if_pos (.inr rfl)], hpg, ⟨cs, ?_⟩, ⟨gr, ?_⟩, 0, 0, Nat.le_refl _, upd_same⟩
      · rw [A.less_of (Ne.symm hpc) (Ne.symm hgc), upd_ne (Ne.symm hpc)]; exact hcc
      · rw [upd_ne (Ne.symm hpg)]
        exact hE5 _ _ (A.upd_keep hgg hp)
theorem ok_law_blended (T : Txt K mg C1 C2 C3 C4) (F : A.Df K mg "_law_blended" s_law_blended) : A.Cl P w K mg base CX0 1 "_law_blended" s_law_blended P_law_blended sp_law_blended := by
  refine A.mk_cl F sc_law_blended (fun vs H Q E h => ?_) bd_law_blended (fun f cdv Ar outer s H vs Q E hr h => ?_)
  · obtain ⟨a, ns, t, rfl, _⟩ := h; rfl
  obtain ⟨G, sa, t, rfl, hw, ht, k⟩ := h
  refine ⟨_, (pss_cons (ps_par (i := 1) (j := 2) (by rfl) sc_law_blended.nd rfl rfl (by decide) rfl rfl (pa_cons (pe_op (A.o_add (K := K) rfl) (pe_dget (hu_of hr) (pv 0) pe_str (fun _ _ => rfl)) pe_int) (pa_cons pe_int pa_nil)) (by rfl))
    (pss_cons (ps_dput (hu_of hr) (pv 0) pe_str (pv 1) rfl)
    (pss_cons (ps_for PassesOwn.never (by rfl) (A.p_seq (K := K) (pe_lst (pa_cons pe_int (pa_cons pe_int (pa_cons pe_int pa_nil)))) rfl) (pg_name (i := 3) sc_law_blended.nd rfl (by first | exact Or.inl rfl | exact Or.inr rfl)) (pss_cons (ps_set (i := 4) sc_law_blended.nd rfl (by first | exact Or.inl rfl | exact Or.inr rfl) (pe_op (A.o_add (K := K) rfl) (pe_op (A.o_mul (K := K) rfl) pe_int (pv 1)) (pe_op op_fdiv (pv 3) pe_int)))
      (pss_cons (ps_for PassesOwn.never (by rfl) (A.p_seq (K := K) (pe_dget (hu_of hr) (pv 0) pe_str (fun _ _ => rfl)) rfl) (pg_name (i := 5) sc_law_blended.nd rfl (by first | exact Or.inl rfl | exact Or.inr rfl)) (pss_one (ps_set (i := 4) sc_law_blended.nd rfl (by first | exact Or.inl rfl | exact Or.inr rfl) (pe_op op_mod (pe_callTy A.c_int (by rfl) T.n_int A.bt_int (pa_cons (pe_op (A.o_add (K := K) rfl) (pe_op (A.o_add (K := K) rfl) (pe_op (A.o_mul (K := K) rfl) (pv 4) pe_int) (pv 5)) (pv 1)) pa_nil)) (pv 3)))))
      (pss_one (ps_set (i := 2) sc_law_blended.nd rfl (by first | exact Or.inl rfl | exact Or.inr rfl) (pe_op (A.o_add (K := K) rfl) (pe_op (A.o_mul (K := K) rfl) (pv 2) pe_int) (pe_op op_mod (pe_callTy A.c_int (by rfl) T.n_int A.bt_int (pa_cons (pe_op op_pow (pv 4) pe_int) pa_nil)) (pv 3))))))))
    (pss_one (ps_ret (pv 2)))))), ?_⟩
  obtain ⟨lf, tn, htn, hst⟩ := hw.sta
  walk_at "rd"
  refine A.v_dget hst A.get_turn ?_
  walk_at "rd"
  refine A.v_dput hst (by show 4 < 100000; decide) ?_
  rw [show V.int ((tn : Int) + 1) = V.int ((tn + 1 : Nat) : Int) from rfl, A.put_turn]
  have hw2 : A.Wd G (upd H sa.st (.dK (A.stK sa lf (tn + 1)))) sa (t + 1) := ⟨A.Ex.wr hw.ex hw.s0, hw.s0, hw.g0, hw.ne, hw.cs, let ⟨gr, z⟩ := hw.gr; ⟨gr, A.upd_keep2 (Ne.symm hw.ne) z⟩, lf, tn + 1, by omega, upd_same⟩
  generalize hH2 : upd H sa.st (.dK (A.stK sa lf (tn + 1))) = H2 at hw2
  have hst2 : H2 sa.st = some (.dK (A.stK sa lf (tn + 1))) := by rw [← hH2, upd_same]
  walk_at "rd"
  refine ⟨A.small (by decide), fun p hp => ?_⟩
  have hw3 := hw2.lay (o := .lst [V.int 2147483353, V.int 2147483323, V.int 2147483269]) hp
  have hst3 : (upd H2 p (.lst [V.int 2147483353, V.int 2147483323, V.int 2147483269])) sa.st = some (.dK (A.stK sa lf (tn + 1))) := A.upd_keep hst2 hp
  have hw4 := hw2.cell (o := .lst [V.int 2147483353, V.int 2147483323, V.int 2147483269]) hp
  refine A.i_seq (upd G p (.lst [V.int 2147483353, V.int 2147483323, V.int 2147483269])) (.inl (SqL.of upd_same)) hw3.ex fun J hJ => ?_
  generalize hH3 : upd H2 p (.lst [V.int 2147483353, V.int 2147483323, V.int 2147483269]) = H3 at hw3 hw4 hst3
  refine A.for_in 3 (fun i σ Hx => ∃ f z3 z4 z5, σ = [some (.ref sa.st), some (.int ((tn + 1 : Nat) : Int)), some (.int f), z3, z4, z5] ∧ Hx = H3) ⟨0, none, none, none, rfl, rfl⟩ (fun i σ Hx hi ⟨fo, z3, z4, z5, q1, q2⟩ => ?_) (fun σ Hx ⟨fo, z3, z4, z5, q1, q2⟩ => ?_)
  · subst q1 q2
    obtain ⟨pm, hpm, hp1, hp2⟩ : ∃ pm : Int, ([V.int 2147483353, V.int 2147483323, V.int 2147483269] : List V)[i]? = some (.int pm) ∧ 0 < pm ∧ pm < 2 ^ 31 := by
      rcases i with _ | _ | _ | i
      · exact ⟨_, rfl, by decide, by decide⟩
      · exact ⟨_, rfl, by decide, by decide⟩
      · exact ⟨_, rfl, by decide, by decide⟩
      · omega
    obtain ⟨g1, g2⟩ := (hJ Hx hw3.ex).1 i _ hpm
    refine ⟨g1, fun x H5 hx => ?_⟩
    obtain ⟨rfl, rfl⟩ := g2 x H5 hx
    walk_at "rd"
    refine A.v_mulI (.inl ⟨by decide, by decide⟩) ?_
    walk_at "rd"
    refine A.v_I ⟨by decide, by decide⟩ ?_
    walk_at "rd"
    refine A.v_dget hst3 A.get_cells ?_
    obtain ⟨cs, hcs⟩ := hw4.cs
    refine A.i_seq G (.inl (SqL.of hcs)) hw4.ex fun J2 hJ2 => ?_
    have hdiv : pm / 71 < 2 ^ 31 ∧ 0 ≤ pm / 71 := by omega
    refine A.for_in (A.ivs cs).length (fun j σ Hy => ∃ b z5, σ = [some (.ref sa.st), some (.int ((tn + 1 : Nat) : Int)), some (.int fo), some (.int pm), some (.int b), z5] ∧ Hy = H5 ∧ b.natAbs < 2 ^ 64) ⟨_, _, rfl, rfl, by omega⟩ (fun j σ Hy hj ⟨b, z5', w1, w2, w3⟩ => ?_) (fun σ Hy ⟨b, z5', w1, w2, w3⟩ => ?_)
    · subst w1 w2
      obtain ⟨cz, hcz⟩ : ∃ cz, (A.ivs cs)[j]? = some (.int cz) := by
        unfold A.ivs at hj ⊢
        rw [List.length_map] at hj
        rw [List.getElem?_map, List.getElem?_eq_getElem hj]
        exact ⟨_, rfl⟩
      obtain ⟨g3, g4⟩ := (hJ2 Hy hw4.ex).1 j _ hcz
      refine ⟨g3, fun x H5 hx => ?_⟩
      obtain ⟨rfl, rfl⟩ := g4 x H5 hx
      walk_at "rd"
      refine A.v_mulI (.inr ⟨by decide, by decide⟩) ?_
      walk_at "rd"
      refine A.v_I hp1 ?_
      walk_at "rd"
      have h1 := Int.emod_nonneg (b * 69621 + cz + ((tn + 1 : Nat) : Int)) (show pm ≠ 0 by omega)
      have h2 := Int.emod_lt_of_pos (b * 69621 + cz + ((tn + 1 : Nat) : Int)) hp1
      exact ⟨_, _, rfl, rfl, by omega⟩
    · subst w1 w2
      refine ⟨(hJ2 Hy hw4.ex).2, ?_⟩
      walk_at "rd"
      refine A.v_mulI (.inr ⟨by decide, by decide⟩) ?_
      walk_at "rd"
      refine A.v_I ⟨by decide, by decide, w3⟩ ?_
      walk_at "rd"
      refine A.v_I hp1 ?_
      walk_at "rd"
      exact ⟨_, _, _, _, rfl, rfl⟩
  · subst q1 q2
    refine ⟨(hJ Hx hw3.ex).2, ?_⟩
    walk_at "rd"
    exact k _ _ hw4
theorem ok_law_draw (T : Txt K mg C1 C2 C3 C4) (F : A.Df K mg "_law_draw" s_law_draw) (c_law_blended : A.Cl P w K mg base CX0 1 "_law_blended" s_law_blended P_law_blended sp_law_blended) : A.Cl P w K mg base CX0 2 "_law_draw" s_law_draw P_law_draw sp_law_draw := by
  refine A.mk_cl F sc_law_draw (fun vs H Q E h => ?_) bd_law_draw (fun f cdv Ar outer s H vs Q E hr h => ?_)
  · obtain ⟨a, ns, t, n, rfl, _⟩ := h; rfl
  obtain ⟨G, sa, t, n, rfl, hw, ht, hn0, hn1, k⟩ := h
  refine ⟨_, (pss_cons (ps_if (pt_cmpR (A.o_eq hr.units (K := K) rfl) (pe_dget (hu_of hr) (pv 0) pe_str (fun _ _ => rfl)) pe_int (nomark _)) (pss_one (ps_dput (hu_of hr) (pv 0) pe_str (pe_ifExp (pt_cmpR (A.o_ne hr.units (K := K) rfl) (pe_dget (hu_of hr) (pv 0) pe_str (fun _ _ => rfl)) (pe_lst pa_nil) (nomark _)) (A.e_bm (K := K) PySem.F.plainAttrs_list PySem.F.slot_list_pop PySem.F.type_list_pop mt_popAt (pe_dget (hu_of hr) (pv 0) pe_str (fun _ _ => rfl)) (pa_cons pe_int pa_nil) rfl) (A.pe_c c_law_blended hr (by decide) (by rfl) (pa_cons (pv 0) pa_nil))) rfl)) pss_nil)
    (pss_cons (ps_set (i := 2) sc_law_draw.nd rfl (by first | exact Or.inl rfl | exact Or.inr rfl) (pe_op op_mod (pe_callTy A.c_int (by rfl) T.n_int A.bt_int (pa_cons (pe_dget (hu_of hr) (pv 0) pe_str (fun _ _ => rfl)) pa_nil)) (pv 1)))
    (pss_cons (ps_dput (hu_of hr) (pv 0) pe_str (pe_op op_fdiv (pe_dget (hu_of hr) (pv 0) pe_str (fun _ _ => rfl)) (pv 1)) rfl)
    (pss_one (ps_ret (pv 2)))))), ?_⟩
  obtain ⟨lf, tn, htn, hst⟩ := hw.sta
  obtain ⟨gr, hgr⟩ := hw.gr
  -- the second half, from any state
  have fin : ∀ H1, A.Wd G H1 sa (t + 1) → (tSeq (tAsg (tOp (rI (fun _ j => 0 < j) fun i j => V.int (i % j)) (tCB A.rInt1 (tCons (tDGet (tVar 0) (tC (V.str "left"))) tNil)) (tVar 1)) (gName 2))
      (tSeq (sDPut (tVar 0) (tC (V.str "left")) (tOp (rI CDiv fun i j => V.int (i / j)) (tDGet (tVar 0) (tC (V.str "left"))) (tVar 1))) (tRet (tVar 2)))) { nx := fun _ H' => Q .non H', rt := Q } (L2.start N_law_draw [V.ref sa.st, V.int (n : Nat)]) H1 := fun H1 w1 => by
    obtain ⟨lf, tn, htn, hst⟩ := w1.sta
    walk_at "rd"
    refine A.v_dget hst A.get_left ?_
    walk_at "rd"
    refine A.v_I (show (0 : Int) < (n : Nat) by omega) ?_
    walk_at "rd"
    refine A.v_dget hst A.get_left ?_
    walk_at "rd"
    refine A.v_I (show CDiv lf (n : Nat) from ⟨by omega, by omega⟩) ?_
    walk_at "rd"
    refine A.v_dput hst (by show 4 < 100000; decide) ?_
    walk_at "rd"
    have h1 := Int.emod_nonneg lf (show ((n : Nat) : Int) ≠ 0 by omega)
    have h2 := Int.emod_lt_of_pos lf (show (0 : Int) < ((n : Nat) : Int) by omega)
    have h3 : lf % ((n : Nat) : Int) = ((lf % ((n : Nat) : Int)).toNat : Int) := (Int.toNat_of_nonneg h1).symm
    rw [h3]
    refine k _ _ (by omega) ⟨A.Ex.wr w1.ex w1.s0, w1.s0, w1.g0, w1.ne, w1.cs, let ⟨gr, z⟩ := w1.gr; ⟨gr, A.upd_keep2 (Ne.symm w1.ne) z⟩, lf / (n : Nat), tn, htn, ?_⟩
    rw [A.put_left, upd_same]
  walk_at "rd"
  refine A.v_dget hst A.get_left ?_
  walk_at "rd"
  by_cases hl : lf = 0
  · rw [decide_eq_true hl]
    walk_at "rd"
    refine A.v_dget hst A.get_great ?_
    walk_at "rd"
    refine ⟨Nat.zero_le _, fun p hp => ?_⟩
    refine A.v_neD (A.dp_ints (SqL.of (A.upd_keep hgr hp))) (.lst (xs := []) (SqL.of upd_same) .nil) (A.shaped_ints _) (by decide) ?_
    walk_at "rd"
    have hw1 := hw.cell (o := .lst []) hp
    have hst1 := A.upd_keep (p := p) (o := .lst []) hst hp
    have hgr1 := A.upd_keep (p := p) (o := .lst []) hgr hp
    cases gr with
    | nil =>
      rw [show PyData.eqv (.list (List.map PyData.int [])) (.list []) = true from by simp [PyData.eqv, PyData.eqvAll]]
      walk_at "rd"
      refine ⟨G, sa, t, rfl, hw1, ht, fun n' H1 w1 => ?_⟩
      walk_at "rd"
      obtain ⟨lf2, tn2, htn2, hst2⟩ := w1.sta
      refine A.v_dput hst2 (by show 4 < 100000; decide) ?_
      rw [A.put_left]
      exact fin _ ⟨A.Ex.wr w1.ex w1.s0, w1.s0, w1.g0, w1.ne, w1.cs, let ⟨gr, z⟩ := w1.gr; ⟨gr, A.upd_keep2 (Ne.symm w1.ne) z⟩, n', tn2, htn2, upd_same⟩
    | cons z gr' =>
      rw [show PyData.eqv (.list (List.map PyData.int (z :: gr'))) (.list []) = false from by simp [PyData.eqv, PyData.eqvAll]]
      walk_at "rd"
      refine A.v_dget hst1 A.get_great ?_
      refine ⟨A.ty_l hgr1, ?_⟩
      walk_at "rd"
      obtain ⟨o1, o2, o3⟩ := A.pop_first (xs := A.ivs (z :: gr')) rfl
      refine ⟨sa.g, _, 0, 0, V.int z, rfl, rfl, hgr1, by decide, by decide, o1, o2, ?_⟩
      rw [o3]
      dsimp only
      walk_at "rd"
      have hst3 := A.upd_keep2 (p := sa.g) (o := .lst (List.map V.int gr')) hw.ne hst1
      refine A.v_dput hst3 (by show 4 < 100000; decide) ?_
      rw [A.put_left]
      refine fin _ ⟨A.Ex.wr (A.Ex.wr hw1.ex hw1.g0) hw1.s0, hw1.s0, hw1.g0, hw1.ne, hw1.cs, ⟨gr', ?_⟩, z, tn, by omega, upd_same⟩
      rw [upd_ne (Ne.symm hw.ne), upd_same]; rfl
  · rw [decide_eq_false hl]
    refine A.iF (A.r_next (A.r_nx ?_))
    exact fin H (hw.le (by omega))
theorem ok_law_pick (T : Txt K mg C1 C2 C3 C4) (F : A.Df K mg "_law_pick" s_law_pick) (c_law_draw : A.Cl P w K mg base CX0 2 "_law_draw" s_law_draw P_law_draw sp_law_draw) : A.Cl P w K mg base CX0 3 "_law_pick" s_law_pick P_law_pick (sp_law_pick K) := by
  refine A.mk_cl F sc_law_pick (fun vs H Q E h => ?_) bd_law_pick (fun f cdv Ar outer s H vs Q E hr h => ?_)
  · obtain ⟨a, ns, t, n, xs, rfl, _⟩ := h; rfl
  obtain ⟨G, sa, t, l, xs, rfl, hw, ht, hl, hx, hz, k⟩ := h
  refine ⟨_, (pss_one (ps_ret (pe_ix (A.o_ix (K := K) rfl) (pv 1) (A.pe_c c_law_draw hr (by decide) (by rfl) (pa_cons (pv 0) (pa_cons (pe_callB (A.c_len (K := K) rfl) (by rfl) T.n_len A.bb_len (pa_cons (pv 1) pa_nil)) pa_nil))) (fun _ _ => rfl)))), ?_⟩
  have hlen : 0 < xs.length := List.length_pos_iff.mpr hx
  walk_at "rd"
  refine A.v_len (.inl (A.sqL_ex hw.ex hl)) ?_
  walk_at "rd"
  refine ⟨G, sa, t, xs.length, rfl, hw, ht, hlen, by omega, fun r H1 hr w1 => ?_⟩
  refine A.v_ixL (i := (r : Int)) (A.sqL_ex w1.ex hl) (A.nat_at (List.getElem?_eq_getElem hr)) ?_
  exact k r _ _ (List.getElem?_eq_getElem hr) w1
end
end T
set_option Elab.async false
set_option linter.all false
set_option maxRecDepth 100000
set_option maxHeartbeats 4000000
set_option autoImplicit false
namespace T
open PySem PySem.Spec PyProof.Rows L2
def sq_law_begun (K : PySem.W.Frag) : Sp := fun vs H Q _ => ∃ a ns, vs = [.ref a] ∧ SqL K H a (A.ivs ns) ∧ ns.length ≤ 100000 ∧ ∀ s H', A.Ex H (A.less s H') → A.Sw H' s 0 → Q (.ref s.st) H'
def sq_law_draw : Sp := fun vs H Q _ => ∃ s t n, vs = [.ref s.st, .int ((n : Nat) : Int)] ∧ A.Sw H s t ∧ t ≤ 10 ^ 9 ∧ 0 < n ∧ n < 2 ^ 30 ∧ ∀ r H', r < n → A.Fr s H H' → A.Sw H' s (t + 1) → Q (.int ((r : Nat) : Int)) H'
def sq_law_pick (K : PySem.W.Frag) : Sp := fun vs H Q _ => ∃ s t l xs, vs = [.ref s.st, .ref l] ∧ A.Sw H s t ∧ t ≤ 10 ^ 9 ∧ H l = some (.lst xs) ∧ l ≠ s.g ∧ xs ≠ [] ∧ xs.length ≤ 100000 ∧ ∀ (i : Nat) x H', xs[i]? = some x → A.Fr s H H' → A.Sw H' s (t + 1) → Q x H'
section
variable {P : Program} {w : World} {K : PySem.W.Frag} {mg : Str → Option Value} {base : Heap}
theorem begun2 (c : A.Cl P w K mg base CX0 1 "_law_begun" s_law_begun P_law_begun (sp_law_begun K)) : A.Cl P w K mg base CX0 1 "_law_begun" s_law_begun P_law_begun (sq_law_begun K) :=
  c.imp fun vs H Q E ⟨a, ns, e, h1, h2, k⟩ => ⟨a, ns, e, h1, h2, fun s G H' e1 w => k s H' (e1.trans w.all.2) w.sw⟩
theorem draw2 (c : A.Cl P w K mg base CX0 2 "_law_draw" s_law_draw P_law_draw sp_law_draw) : A.Cl P w K mg base CX0 2 "_law_draw" s_law_draw P_law_draw sq_law_draw :=
  c.imp fun vs H Q E ⟨s, t, n, e, h1, h2, h3, h4, k⟩ => ⟨_, s, t, n, e, h1.wd, h2, h3, h4, fun r H' hr w => k r H' hr w.fr w.sw⟩
theorem pick2 (c : A.Cl P w K mg base CX0 3 "_law_pick" s_law_pick P_law_pick (sp_law_pick K)) : A.Cl P w K mg base CX0 3 "_law_pick" s_law_pick P_law_pick (sq_law_pick K) :=
  c.imp fun vs H Q E ⟨s, t, l, xs, e, h1, h2, h3, h4, h5, h6, k⟩ => ⟨_, s, t, l, xs, e, h1.wd, h2, SqL.of (h1.wd.lst h3 h4), h5, h6, fun i x H' hx w => k i x H' hx w.fr w.sw⟩
end
end T
set_option Elab.async false
set_option linter.all false
set_option maxRecDepth 100000
set_option maxHeartbeats 4000000
set_option autoImplicit false
namespace T
open PySem PySem.Spec PyProof.Rows L2
def sp_false : Sp := fun _ _ _ _ => False
/-- a list of pairs (parent, []) -/
def StoryAt (K : PySem.W.Frag) (G : Hp) (p : Addr) (L : List Nat) : Prop := ∃ its, G p = some (.lst its) ∧ its.length = L.length ∧ ∀ (i : Nat) (x : Nat), L[i]? = some x → ∃ a d, its[i]? = some (V.ref a) ∧ SqT K G a [nv x, .ref d] ∧ G d = some (.lst [])
theorem story_ex {K : PySem.W.Frag} {G G' : Hp} {p : Addr} {L : List Nat} (e : A.Ex G G') (h : StoryAt K G p L) : StoryAt K G' p L := by
  obtain ⟨its, h1, h2, h3⟩ := h
  exact ⟨its, e _ _ h1, h2, fun i x hx => let ⟨a, d, q1, q2, q3⟩ := h3 i x hx; ⟨a, d, q1, A.sqT_ex e q2, e _ _ q3⟩⟩
def sp_law_as_story (K : PySem.W.Frag) : Sp := fun vs H Q _ => ∃ s t n, vs = [.ref s.st, .int 1, nv n, .int 0] ∧ A.Sw H s t ∧ t ≤ 10 ^ 8 ∧ n ≤ 1000 ∧ ∀ p L H', L.length = n → VP L → StoryAt K (A.less s H') p L → A.Fr s H H' → A.Sw H' s (t + 1 + 4 * n) → Q (.ref p) H'
section
variable {P : Program} {w : World} {K : PySem.W.Frag} {mg : Str → Option Value} {base : Heap} {C1 C2 C3 C4 : Addr}
theorem ok_law_as_value (T : Txt K mg C1 C2 C3 C4) (F : A.Df K mg "_law_as_value" s_law_as_value) : A.Cl P w K mg base CX0 4 "_law_as_value" s_law_as_value P_law_as_value sp_false :=
  A.mk_cl F sc_law_as_value (fun vs H Q E h => h.elim) bd_law_as_value (fun f cdv Ar outer s H vs Q E hr h => h.elim)
theorem ok_law_as_moved_value (T : Txt K mg C1 C2 C3 C4) (F : A.Df K mg "_law_as_moved_value" s_law_as_moved_value) : A.Cl P w K mg base CX0 1 "_law_as_moved_value" s_law_as_moved_value P_law_as_moved_value sp_false :=
  A.mk_cl F sc_law_as_moved_value (fun vs H Q E h => h.elim) bd_law_as_moved_value (fun f cdv Ar outer s H vs Q E hr h => h.elim)
theorem ok_law_as_story (T : Txt K mg C1 C2 C3 C4) (F : A.Df K mg "_law_as_story" s_law_as_story) (c_law_draw : A.Cl P w K mg base CX0 2 "_law_draw" s_law_draw P_law_draw sq_law_draw) (c_law_pick : A.Cl P w K mg base CX0 3 "_law_pick" s_law_pick P_law_pick (sq_law_pick K)) (c_law_as_value : A.Cl P w K mg base CX0 4 "_law_as_value" s_law_as_value P_law_as_value sp_false) : A.Cl P w K mg base CX0 5 "_law_as_story" s_law_as_story P_law_as_story (sp_law_as_story K) := by
  refine A.mk_cl F sc_law_as_story (fun vs H Q E h => ?_) bd_law_as_story (fun f cdv Ar outer s H vs Q E hr h => ?_)
  · obtain ⟨sa, t, n, rfl, _⟩ := h; rfl
  obtain ⟨sa, t, n, rfl, hw, ht, hn, k⟩ := h
  refine ⟨_, (pss_cons (ps_par3 (i := 4) (j := 5) (l := 6) (by rfl) sc_law_as_story.nd rfl rfl rfl (by decide) (by decide) (by decide) rfl rfl rfl (pa_cons (pe_lst pa_nil) (pa_cons (pe_lst (pa_cons pe_int pa_nil)) (pa_cons (A.pe_c c_law_draw hr (by decide) (by rfl) (pa_cons (pv 0) (pa_cons pe_int pa_nil))) pa_nil))) (by rfl))
    (pss_cons (ps_for PassesOwn.never (by rfl) (pi_range1 (by rfl) T.n_range (pa_cons (pv 2) pa_nil)) (pg_name (i := 7) sc_law_as_story.nd rfl (by first | exact Or.inl rfl | exact Or.inr rfl)) (pss_cons (ps_set (i := 8) sc_law_as_story.nd rfl (by first | exact Or.inl rfl | exact Or.inr rfl) (pe_ifExp (pt_cmpR op_gt (pv 6) pe_int (nomark _)) (A.pe_c c_law_pick hr (by decide) (by rfl) (pa_cons (pv 0) (pa_cons (pe_lst (pa_cons (pv 7) (pa_cons (pv 7) (pa_cons (A.pe_c c_law_draw hr (by decide) (by rfl) (pa_cons (pv 0) (pa_cons (pe_op (A.o_add (K := K) rfl) (pv 7) pe_int) pa_nil))) (pa_cons (pe_callB (A.c_max2 rfl) (by rfl) T.n_max A.bb_max (pa_cons pe_int (pa_cons (pe_op op_sub (pe_op op_sub (pv 7) pe_int) (A.pe_c c_law_draw hr (by decide) (by rfl) (pa_cons (pv 0) (pa_cons pe_int pa_nil)))) pa_nil))) pa_nil))))) pa_nil))) (A.pe_c c_law_draw hr (by decide) (by rfl) (pa_cons (pv 0) (pa_cons (pe_op (A.o_add (K := K) rfl) (pv 7) pe_int) pa_nil)))))
      (pss_cons (ps_asg (pe_tup (pa_cons (pe_ix (A.o_ix (K := K) rfl) (pv 5) (pv 8) (fun _ _ => rfl)) (pa_cons (pe_lst pa_nil) pa_nil))) (A.p_tup (K := K) (n := 2) (by rfl) (pgs_cons (pg_name (i := 9) sc_law_as_story.nd rfl (by first | exact Or.inl rfl | exact Or.inr rfl)) (pgs_cons (pg_name (i := 10) sc_law_as_story.nd rfl (by first | exact Or.inl rfl | exact Or.inr rfl)) pgs_nil)) rfl))
      (pss_cons (ps_for PassesOwn.never (by rfl) (pi_range1 (by rfl) T.n_range (pa_cons (A.pe_c c_law_draw hr (by decide) (by rfl) (pa_cons (pv 0) (pa_cons (pe_op (A.o_add (K := K) rfl) (pv 3) pe_int) pa_nil))) pa_nil)) (pg_name (i := 11) sc_law_as_story.nd rfl (by first | exact Or.inl rfl | exact Or.inr rfl)) (pss_one (ps_if (PW.pt (pw_and (pt_cmpR (A.o_eq hr.units (K := K) rfl) (A.pe_c c_law_draw hr (by decide) (by rfl) (pa_cons (pv 0) (pa_cons pe_int pa_nil))) pe_int (nomark _)) (pw_and1 (pt_cmpR op_lt (pv 9) pe_int (nomark _))))) (pss_cons (ps_expr (A.e_bm (K := K) PySem.F.plainAttrs_list PySem.F.slot_list_append PySem.F.type_list_append mt_append (pv 10) (pa_cons (pe_tup (pa_cons pe_str (pa_cons (pe_callTy (A.c_tuple (K := K) rfl) (by rfl) T.n_tuple A.bt_tuple (pa_cons (pe_lc (own := [("field", 12)]) (by rfl) sc_law_as_story.nd (pi_range1 (by rfl) T.n_range (pa_cons (pv 1) pa_nil)) (blkOk_by (own := [("field", 12)]) (N := N_law_as_story) (sc := defScope s_law_as_story) (by decide +kernel)) (fun _ _ _ _ _ => (pg_name (i := 12) sc_law_as_story.nd rfl (by first | exact Or.inl rfl | exact Or.inr rfl))) (fun _ _ _ _ _ => pts_nil) (fun _ _ _ _ _ => (A.pe_c c_law_as_value hr (by decide) (by rfl) (pa_cons (pv 0) (pa_cons (pe_op (A.o_add (K := K) rfl) (pv 9) pe_int) pa_nil))))) pa_nil)) pa_nil))) pa_nil) rfl))
          (pss_one (ps_set (i := 9) sc_law_as_story.nd rfl (by first | exact Or.inl rfl | exact Or.inr rfl) (pe_op (A.o_add (K := K) rfl) (pv 9) pe_int)))) (pss_cons (ps_set (i := 13) sc_law_as_story.nd rfl (by first | exact Or.inl rfl | exact Or.inr rfl) (A.pe_c c_law_pick hr (by decide) (by rfl) (pa_cons (pv 0) (pa_cons (pe_lst (pa_cons pe_int (pa_cons (pe_op op_sub (pv 9) pe_int) (pa_cons (A.pe_c c_law_draw hr (by decide) (by rfl) (pa_cons (pv 0) (pa_cons (pv 9) pa_nil))) pa_nil)))) pa_nil))))
          (pss_one (ps_expr (A.e_bm (K := K) PySem.F.plainAttrs_list PySem.F.slot_list_append PySem.F.type_list_append mt_append (pv 10) (pa_cons (pe_tup (pa_cons pe_str (pa_cons (pv 13) (pa_cons (A.pe_c c_law_draw hr (by decide) (by rfl) (pa_cons (pv 0) (pa_cons (pv 1) pa_nil))) (pa_cons (A.pe_c c_law_as_value hr (by decide) (by rfl) (pa_cons (pv 0) (pa_cons (pv 9) pa_nil))) pa_nil))))) pa_nil) rfl)))))))
      (pss_cons (ps_expr (A.e_bm (K := K) PySem.F.plainAttrs_list PySem.F.slot_list_append PySem.F.type_list_append mt_append (pv 4) (pa_cons (pe_tup (pa_cons (pv 8) (pa_cons (pv 10) pa_nil))) pa_nil) rfl))
      (pss_one (ps_expr (A.e_bm (K := K) PySem.F.plainAttrs_list PySem.F.slot_list_append PySem.F.type_list_append mt_append (pv 5) (pa_cons (pv 9) pa_nil) rfl))))))))
    (pss_one (ps_ret (pv 4))))), ?_⟩
  walk_at "rd"
  refine ⟨Nat.zero_le _, fun p hp => ?_⟩
  walk_at "rd"
  refine ⟨by decide, fun q hq => ?_⟩
  walk_at "rd"
  have hw2 := (hw.new (o := .lst []) hp).new (o := .lst [V.int 1]) hq
  have op : A.Own sa p := hw.own hp
  have oq : A.Own sa q := (hw.new (o := .lst []) hp).own hq
  have hpq : p ≠ q := fun e => by rw [← e, upd_same] at hq; cases hq
  have f2 : A.Fr sa H (upd (upd H p (.lst [])) q (.lst [V.int 1])) := ((A.Fr.refl _ _).new hp).new hq
  refine ⟨sa, t, 4, rfl, hw2, by omega, by decide, by decide, fun way H3 hway f3 hw3 => ?_⟩
  have hp3 : H3 p = some (.lst []) := f3.own (A.upd_keep upd_same hq) op
  have hq3 : H3 q = some (.lst [V.int 1]) := f3.own upd_same oq
  walk_at "rd"
  have f3' : A.Fr sa H H3 := f2.trans f3
  refine A.i_rng1 (n := n) (fun _ => none) (by omega) fun J hJ => ?_
  refine A.for_in n (fun i σ Hx => ∃ (L : List Nat) (its : List V) (z7 z8 z9 z10 z11 z12 z13 : Option V), σ = [some (.ref sa.st), some (.int 1), some (nv n), some (.int 0), some (.ref p), some (.ref q), some (nv way), z7, z8, z9, z10, z11, z12, z13] ∧ L.length = i ∧ VP L ∧
    A.Fr sa H Hx ∧ A.Sw Hx sa (t + 1 + 4 * i) ∧ Hx p = some (.lst its) ∧ Hx q = some (.lst (List.replicate (i + 1) (nv 1))) ∧ its.length = i ∧ ∀ (i : Nat) (x : Nat), L[i]? = some x → ∃ a d, its[i]? = some (V.ref a) ∧ SqT K (A.less sa Hx) a [nv x, .ref d] ∧ A.less sa Hx d = some (.lst []) ∧ d ≠ p ∧ d ≠ q)
    ⟨[], [], none, none, none, none, none, none, none, rfl, rfl, ⟨by decide, fun i p h => by simp at h⟩, f3', hw3, hp3, hq3, rfl, fun i x h => by simp at h⟩ (fun i σ Hx hi ⟨L, its, z7, z8, z9, z10, z11, z12, z13, q1, q2, q3, q4, q5, q6, q7, q8, q9⟩ => ?_) (fun σ Hx ⟨L, its, z7, z8, z9, z10, z11, z12, z13, q1, q2, q3, q4, q5, q6, q7, q8, q9⟩ => ?_)
  · subst q1
    obtain ⟨g1, g2⟩ := (hJ Hx (fun _ _ h => by exact absurd h (by simp))).1 i _ (rgs_nv (lo := 0) hi)
    refine ⟨g1, fun x H5 hx => ?_⟩
    obtain ⟨rfl, rfl⟩ := g2 x H5 hx
    rw [Nat.zero_add]
    walk_at "rd1"
    walk_at "rd1"
    walk_at "rd1"
    refine A.cutE _ (fun x H4 => ∃ r, x = nv r ∧ r ≤ i ∧ A.Fr sa H5 H4 ∧ A.Sw H4 sa (t + 1 + 4 * i + 3)) (fun R hR => ?_) (fun x H4 ⟨r, hx, hri, f4, hw4⟩ => ?_)
    · walk_at "rd"
      by_cases hway0 : 0 < way
      · rw [decide_eq_true (show (0 : Int) < (way : Nat) by omega)]
        walk_at "rd"
        refine ⟨sa, t + 1 + 4 * i, i + 1, rfl, q5, by omega, by omega, by omega, fun r1 Ha hr1 fa hwa => ?_⟩
        walk_at "rd"
        refine ⟨sa, t + 1 + 4 * i + 1, 3, rfl, hwa, by omega, by omega, by omega, fun r2 Hb hr2 fb hwb => ?_⟩
        walk_at "rd"
        refine ⟨A.len4, fun l hl => ?_⟩
        obtain ⟨mx, hmx, hmx2⟩ : ∃ m : Nat, (if (i : Int) - 1 - (r2 : Nat) > 0 then (i : Int) - 1 - (r2 : Nat) else 0) = (m : Int) ∧ m ≤ i := by
          by_cases h : (i : Int) - 1 - (r2 : Nat) > 0
          · exact ⟨((i : Int) - 1 - (r2 : Nat)).toNat, by rw [if_pos h]; omega, by omega⟩
          · exact ⟨0, by rw [if_neg h]; rfl, by omega⟩
        rw [hmx]
        walk_at "rd"
        refine ⟨sa, t + 1 + 4 * i + 2, l, _, rfl, hwb.new hl, by omega, upd_same, hwb.g_ne hl, by simp, by simp, fun j x Hc hxj fc hwc => ?_⟩
        obtain ⟨r, rfl, hr⟩ : ∃ r, x = nv r ∧ r ≤ i := by
          rcases j with _ | _ | _ | _ | j
          · exact ⟨i, (Option.some.inj hxj).symm, Nat.le_refl _⟩
          · exact ⟨i, (Option.some.inj hxj).symm, Nat.le_refl _⟩
          · exact ⟨r1, (Option.some.inj hxj).symm, by omega⟩
          · exact ⟨mx, (Option.some.inj hxj).symm, hmx2⟩
          · cases hxj
        exact hR _ _ ⟨r, rfl, hr, ((fa.trans fb).new hl).trans fc, hwc⟩
      · rw [decide_eq_false (show ¬ (0 : Int) < (way : Nat) by omega)]
        walk_at "rd"
        refine ⟨sa, t + 1 + 4 * i, i + 1, rfl, q5, by omega, by omega, by omega, fun r1 Ha hr1 fa hwa => ?_⟩
        exact hR _ _ ⟨r1, rfl, by omega, fa, hwa.le (by omega)⟩
    · subst hx
      have hp4 := f4.own q6 op
      have hq4 := f4.own q7 oq
      walk_at "rd"
      refine A.v_ixL (i := (r : Int)) (v := nv 1) (SqL.of hq4) (A.nat_at (by rw [List.getElem?_replicate, if_pos (by omega)])) ?_
      walk_at "rd"
      refine ⟨Nat.zero_le _, fun d hd => ?_⟩
      walk_at "rd"
      refine ⟨A.len2, fun d2 hd2 => ?_⟩
      refine A.r_gtup (.inl (.inl upd_same)) rfl ?_
      walk_at "rd"
      have hw5 := (hw4.new (o := .lst []) hd).new (o := .tup [nv 1, V.ref d]) hd2
      have f5 := (f4.new (o := .lst []) hd).new (o := .tup [nv 1, V.ref d]) hd2
      have od : A.Own sa d := hw4.own hd
      have hd5 : (upd (upd H4 d (.lst [])) d2 (.tup [nv 1, V.ref d])) d = some (.lst []) := A.upd_keep upd_same hd2
      have hp5 := A.upd_keep (p := d2) (o := .tup [nv 1, V.ref d]) (A.upd_keep (p := d) (o := .lst []) hp4 hd) hd2
      have hq5 := A.upd_keep (p := d2) (o := .tup [nv 1, V.ref d]) (A.upd_keep (p := d) (o := .lst []) hq4 hd) hd2
      generalize hH6 : upd (upd H4 d (.lst [])) d2 (.tup [nv 1, V.ref d]) = H6 at hw5 f5 hd5 hp5 hq5
      refine ⟨sa, t + 1 + 4 * i + 3, 1, rfl, hw5, by omega, by decide, by decide, fun r0 H7 hr0 f7 hw7 => ?_⟩
      obtain rfl : r0 = 0 := by omega
      have f7' := f5.trans f7
      have hp7 := f7.own hp5 op
      have hq7 := f7.own hq5 oq
      have hd7 := f7.own hd5 od
      walk_at "rd"
      refine A.i_rng1 (n := 0) (fun _ => none) (by decide) fun J2 hJ2 => ?_
      refine A.for_in 0 (fun j σ Hy => Hy = H7 ∧ σ = _) ⟨rfl, rfl⟩ (fun j σ Hy hj _ => absurd hj (Nat.not_lt_zero _)) (fun σ Hy ⟨w1, w2⟩ => ?_)
      subst w1 w2
      refine ⟨by have := (hJ2 Hy (fun _ _ h => by exact absurd h (by simp))).2; rwa [A.rgs_len] at this, ?_⟩
      walk_at "rd"
      refine ⟨A.ty_l hp7, ?_⟩
      walk_at "rd"
      refine ⟨A.len2, fun a ha => ?_⟩
      walk_at "rd"
      refine A.v_app (A.upd_keep hp7 ha) (A.smaller (by omega)) ?_
      have hpq' : q ≠ p := Ne.symm hpq
      have hap : a ≠ p := fun e => by rw [e, hp7] at ha; cases ha
      have haq : a ≠ q := fun e => by rw [e, hq7] at ha; cases ha
      have hq8 : (upd (upd Hy a (.tup [nv r, V.ref d])) p (.lst (its ++ [V.ref a]))) q = some (.lst (List.replicate (i + 1) (nv 1))) := A.upd_keep2 hpq' (A.upd_keep hq7 ha)
      walk_at "rd"
      refine ⟨A.ty_l hq8, ?_⟩
      walk_at "rd"
      refine A.v_app hq8 (A.smaller (by simp; omega)) ?_
      walk_at "rd"
      have hw9 : A.Sw (upd (upd (upd Hy a (.tup [nv r, V.ref d])) p (.lst (its ++ [V.ref a]))) q (.lst (List.replicate (i + 1) (nv 1) ++ [nv 1]))) sa (t + 1 + 4 * (i + 1)) := (((hw7.new ha).put op).put oq).le (by omega)
      have fr9 : A.Fr sa H (upd (upd (upd Hy a (.tup [nv r, V.ref d])) p (.lst (its ++ [V.ref a]))) q (.lst (List.replicate (i + 1) (nv 1) ++ [nv 1]))) := by
        have h0 : H q = none := by rw [upd_ne (Ne.symm hpq)] at hq; exact hq
        exact ((((q4.trans f7').new ha).wr hp).wr h0)
      have hdp : d ≠ p := fun e => by rw [e, hp4] at hd; cases hd
      have hdq : d ≠ q := fun e => by rw [e, hq4] at hd; cases hd
      have hp8 : (upd Hy a (.tup [nv r, V.ref d])) p = some (.lst its) := A.upd_keep hp7 ha
      refine ⟨L ++ [r], its ++ [.ref a], _, _, _, _, _, _, _, rfl, by simp [q2], ⟨by simp; omega, fun j x hx => ?_⟩, fr9, hw9, by rw [upd_ne hpq, upd_same], ?_, by simp [q8], fun j x hx => ?_⟩
      · by_cases hj : j < L.length
        · rw [List.getElem?_append_left hj] at hx
          exact q3.2 j x hx
        · rw [List.getElem?_append_right (by omega)] at hx
          have hj0 : j - L.length = 0 := by
            cases hh : j - L.length with
            | zero => rfl
            | succ m => rw [hh] at hx; simp at hx
          rw [hj0] at hx
          have : r = x := by simpa using hx
          omega
      · rw [upd_same, ← List.replicate_succ']
      · by_cases hj : j < L.length
        · rw [List.getElem?_append_left hj] at hx
          obtain ⟨a2, d2', w1, w2, w3, w4, w5⟩ := q9 j x hx
          refine ⟨a2, d2', by rw [List.getElem?_append_left (by omega)]; exact w1, ?_, ?_, w4, w5⟩
          · exact A.tup_put (A.tup_put (A.tup_new (A.sqT_ex f7' w2) ha) hp8) hq8
          · exact A.lst_put (A.lst_put (A.lst_new (f7' _ _ w3) ha) w4) w5
        · rw [List.getElem?_append_right (by omega)] at hx
          have hj0 : j - L.length = 0 := by
            cases hh : j - L.length with
            | zero => rfl
            | succ m => rw [hh] at hx; simp at hx
          rw [hj0] at hx
          obtain rfl : r = x := by simpa using hx
          have hjj : j = its.length := by omega
          refine ⟨a, d, by rw [hjj, List.getElem?_append_right (Nat.le_refl _)]; simp, ?_, ?_, hdp, hdq⟩
          · exact A.tup_put (A.tup_put (.inl (.inl (by rw [A.less_of (hw7.st_ne ha) (hw7.g_ne ha), upd_same]))) hp8) hq8
          · exact A.lst_put (A.lst_put (A.lst_new (by rw [A.less_of od.st od.g]; exact hd7) ha) hdp) hdq
  · subst q1
    refine ⟨by have := (hJ Hx (fun _ _ h => by exact absurd h (by simp))).2; rwa [A.rgs_len] at this, ?_⟩
    walk_at "rd"
    refine k p L Hx q2 q3 ⟨its, ?_, by rw [q8, q2], fun i x hx => let ⟨a, d, w1, w2, w3, _⟩ := q9 i x hx; ⟨a, d, w1, w2, w3⟩⟩ q4 q5
    rw [A.less_of op.st op.g]; exact q6
end
end T
set_option Elab.async false
set_option linter.all false
set_option maxRecDepth 100000
set_option maxHeartbeats 4000000
set_option autoImplicit false
namespace T
open PySem PySem.Spec PyProof.Rows L2
def sp_law_is_truth : Sp := fun vs H Q _ => ∃ b : Bool, vs = [.bl b, .bl b] ∧ Q (.bl true) H
def sp_law_as_same (K : PySem.W.Frag) : Sp := fun vs H Q _ => ∃ x y d, vs = [x, y] ∧ Dp K H x d ∧ Dp K H y d ∧ A.Ok d ∧ Q (.bl true) H
def intD : PyData → Bool
  | .int _ => true
  | _ => false
def sp_law_is_whole (K : PySem.W.Frag) : Sp := fun vs H Q _ => ∃ v d, vs = [v] ∧ Dp K H v d ∧ Q (.bl (intD d)) H
section
variable {P : Program} {w : World} {K : PySem.W.Frag} {mg : Str → Option Value} {base : Heap} {C1 C2 C3 C4 : Addr}
theorem ok_law_is_truth (T : Txt K mg C1 C2 C3 C4) (F : A.Df K mg "_law_is_truth" s_law_is_truth) : A.Cl P w K mg base CX0 1 "_law_is_truth" s_law_is_truth P_law_is_truth sp_law_is_truth := by
  refine A.mk_cl F sc_law_is_truth (fun vs H Q E h => ?_) bd_law_is_truth (fun f cdv Ar outer s H vs Q E hr h => ?_)
  · obtain ⟨a, rfl, _⟩ := h; rfl
  obtain ⟨b, rfl, k⟩ := h
  refine ⟨_, (pss_one (ps_ret (pe_ifExp (pt_val (pv 1)) (pe_cmpR op_isBl (pv 0) pe_bl (nomark _)) (pe_cmpR op_isBl (pv 0) pe_bl (nomark _))))), ?_⟩
  walk_at "rd"
  cases b with
  | true => walk_at "rd"; exact k
  | false => walk_at "rd"; exact k
theorem ok_law_is_whole (T : Txt K mg C1 C2 C3 C4) (F : A.Df K mg "_law_is_whole" s_law_is_whole) : A.Cl P w K mg base CX0 1 "_law_is_whole" s_law_is_whole P_law_is_whole (sp_law_is_whole K) := by
  refine A.mk_cl F sc_law_is_whole (fun vs H Q E h => ?_) bd_law_is_whole (fun f cdv Ar outer s H vs Q E hr h => ?_)
  · obtain ⟨v, d, rfl, _⟩ := h; rfl
  obtain ⟨v, d, rfl, hd, k⟩ := h
  refine ⟨_, (pss_one (ps_ret (pe_and (pe_callB (A.c_isi (K := K) rfl) (by rfl) T.n_isinstance A.bb_isinstance (pa_cons (pv 0) (pa_cons (pe_bltn (v := .ty "int") (by rfl) T.n_int A.bt_int rfl) pa_nil))) (pe_one (pe_not (pe_callB (A.c_isi (K := K) rfl) (by rfl) T.n_isinstance A.bb_isinstance (pa_cons (pv 0) (pa_cons (pe_bltn (v := .ty "bool") (by rfl) T.n_bool A.bt_bool rfl) pa_nil)))))))), ?_⟩
  walk_at "rd"
  refine A.v_isiD hd ?_
  walk_at "rd"
  cases hd with
  | int i =>
    refine iteT ?_
    walk_at "rd"
    refine A.v_isbD (.int i) ?_
    walk_at "rd"
    exact k
  | bl b =>
    refine iteT ?_
    walk_at "rd"
    refine A.v_isbD (.bl b) ?_
    walk_at "rd"
    exact k
  | non => exact k
  | str _ => exact k
  | lst _ _ => exact k
  | tup _ _ => exact k
theorem ok_law_as_same (T : Txt K mg C1 C2 C3 C4) (F : A.Df K mg "_law_as_same" s_law_as_same) : A.ClG P w K mg base CX0 1 "_law_as_same" s_law_as_same P_law_as_same (sp_law_as_same K) := by
  refine A.mk_clG F sc_law_as_same (fun vs H Q E h => ?_) bd_law_as_same (fun f cdv Ar outer s H vs Q E hcd hr hgd h => ?_)
  · obtain ⟨x, y, d, rfl, _⟩ := h; rfl
  obtain ⟨x, y, d, rfl, hx, hy, hd, k⟩ := h
  refine ⟨_, (pss_one (ps_ret (pe_and (pe_cmpR (A.o_eq hr.units (K := K) rfl) (pv 0) (pv 1) (nomark _)) (pe_one (pe_cmpR op_eq (pe_callB (A.c_repr hgd (A.hu102 hr) (K := K) rfl) (by rfl) T.n_repr A.bb_repr (pa_cons (pv 0) pa_nil)) (pe_callB (A.c_repr hgd (A.hu102 hr) (K := K) rfl) (by rfl) T.n_repr A.bb_repr (pa_cons (pv 1) pa_nil)) (nomark _)))))), ?_⟩
  walk_at "rd"
  refine A.v_eqD hx hy hd.shaped hd.shaped ?_
  rw [hd.refl]
  walk_at "rd"
  refine A.v_repr hx hd ?_
  walk_at "rd"
  refine A.v_repr hy hd ?_
  refine A.v_eq rfl ?_
  rw [decide_eq_true rfl]
  exact k
end
end T
namespace T
open PySem PySem.Spec PyProof.Rows L2
def PairsAt (K : PySem.W.Frag) (G : Hp) (p : Addr) (L : List Nat) : Prop := ∃ its, SqL K G p its ∧ its.length = L.length ∧ ∀ (i : Nat) (x : Nat), L[i]? = some x → ∃ a y, its[i]? = some (V.ref a) ∧ SqT K G a [nv x, y]
theorem pairs_ex {K : PySem.W.Frag} {G G' : Hp} {p : Addr} {L : List Nat} (e : A.Ex G G') (h : PairsAt K G p L) : PairsAt K G' p L := by
  obtain ⟨its, h1, h2, h3⟩ := h
  exact ⟨its, A.sqL_ex e h1, h2, fun i x hx => let ⟨a, d, q1, q2⟩ := h3 i x hx; ⟨a, d, q1, A.sqT_ex e q2⟩⟩
theorem story_pairs {K : PySem.W.Frag} {G : Hp} {p : Addr} {L : List Nat} (h : StoryAt K G p L) : PairsAt K G p L := by
  obtain ⟨its, h1, h2, h3⟩ := h
  exact ⟨its, SqL.of h1, h2, fun i x hx => let ⟨a, d, q1, q2, q3⟩ := h3 i x hx; ⟨a, .ref d, q1, q2⟩⟩
def sp_law_as_parents (K : PySem.W.Frag) : Sp := fun vs H Q _ => ∃ p L, vs = [.ref p] ∧ PairsAt K H p L ∧ L.length ≤ 10000 ∧ ∀ q H', A.Ex H H' → SqT K H' q (pvs L) → Q (.ref q) H'
def sp_law_k01_up (K : PySem.W.Frag) : Sp := fun vs H Q _ => ∃ v L n, vs = [v, nv n] ∧ Par K H v L ∧ VP L ∧ n ≤ L.length ∧ ∀ p us H', A.Ex H H' → H p = none → H' p = some (.lst (nvs us)) → Tr.IsUp (pr L) n us → Q (.ref p) H'
def sp_law_k01_meet (K : PySem.W.Frag) : Sp := fun vs H Q _ => ∃ v L a b, vs = [v, nv a, nv b] ∧ Par K H v L ∧ VP L ∧ a ≤ L.length ∧ b ≤ L.length ∧ ∀ m H', Tr.IsMeet (pr L) a b m → m ≤ L.length → A.Ex H H' → Q (nv m) H'
def sp_law_as_line (K : PySem.W.Frag) : Sp := fun vs H Q _ => ∃ v L, vs = [v] ∧ Par K H v L ∧ VP L ∧ ∀ p H', A.Ex H H' → H p = none → H' p = some (.lst (nvs (line L))) → Q (.ref p) H'
def sp_law_as_moved : Sp := fun vs H Q _ => ∃ d m, vs = [.ref d, m] ∧ H d = some (.lst []) ∧ ∀ p H', A.Ex H H' → H p = none → H' p = some (.lst []) → Q (.ref p) H'
theorem up_len {L us : List Nat} {n : Nat} (h2 : VP L) (hn : n ≤ L.length) (h : Tr.IsUp (pr L) n us) : us.length ≤ L.length + 1 := by
  refine Tr.len_le (L.length + 1) (h.2.imp (fun {a b} h => Ne.symm (Nat.ne_of_lt h))) fun x hx => ?_
  have := Tr.anc_le (low_of h2) hn ((h.1 x).mp hx)
  omega
section
variable {P : Program} {w : World} {K : PySem.W.Frag} {mg : Str → Option Value} {base : Heap} {C1 C2 C3 C4 : Addr}
theorem ok_law_as_parents (T : Txt K mg C1 C2 C3 C4) (F : A.Df K mg "_law_as_parents" s_law_as_parents) : A.Cl P w K mg base CX0 1 "_law_as_parents" s_law_as_parents P_law_as_parents (sp_law_as_parents K) := by
  refine A.mk_cl F sc_law_as_parents (fun vs H Q E h => ?_) bd_law_as_parents (fun f cdv Ar outer s H vs Q E hr h => ?_)
  · obtain ⟨p, L, rfl, _⟩ := h; rfl
  obtain ⟨p, L, rfl, ⟨its, h1, h2, h3⟩, hL, k⟩ := h
  refine ⟨_, (pss_one (ps_ret (pe_callTy (A.c_tuple (K := K) rfl) (by rfl) T.n_tuple A.bt_tuple (pa_cons (pe_op (A.o_add (K := K) rfl) (pe_lst (pa_cons pe_non pa_nil)) (pe_lc (own := [("pair", 1)]) (by rfl) sc_law_as_parents.nd (A.p_seq (K := K) (pv 0) rfl) (blkOk_by (own := [("pair", 1)]) (N := N_law_as_parents) (sc := defScope s_law_as_parents) (by decide +kernel)) (fun _ _ _ _ _ => (pg_name (i := 1) sc_law_as_parents.nd rfl (by first | exact Or.inl rfl | exact Or.inr rfl))) (fun _ _ _ _ _ => pts_nil) (fun _ _ _ _ _ => (pe_ix (A.o_ix (K := K) rfl) (pv 1) pe_int (fun _ _ => rfl))))) pa_nil)))), ?_⟩
  walk_at "rd"
  refine ⟨A.len1, fun q hq => ?_⟩
  dsimp only
  walk_at "rd"
  have e1 : A.Ex H (upd H q (.lst [V.non])) := A.Ex.new (A.Ex.refl _) hq
  refine A.i_seq (upd H q (.lst [V.non])) (.inl (A.sqL_ex e1 h1)) (A.Ex.refl _) fun J hJ => ?_
  intro D hD
  refine A.lc_pure its.length (by omega) (fun i => (L[i]?).map nv) hD (fun i H4 Y N hi hE hY hN => ?_) (fun H4 hE hDD => ?_)
  · obtain ⟨hg, _⟩ := hJ _ hE
    have hv := List.getElem?_eq_getElem hi
    refine ⟨(hg i _ hv).1, fun x H5 hx => ?_⟩
    obtain ⟨rfl, rfl⟩ := (hg i _ hv).2 x H5 hx
    have hLi : L[i]? = some (L[i]'(by omega)) := List.getElem?_eq_getElem (by omega)
    obtain ⟨a, y, q1, q2⟩ := h3 i _ hLi
    rw [hv] at q1
    rw [Option.some.inj q1]
    walk_at "rd"
    refine ⟨rfl, ?_⟩
    walk_at "rd"
    refine A.v_ixT (i := ((0 : Nat) : Int)) (A.sqT_ex (e1.trans hE) q2) (A.nat_at rfl) ?_
    exact hY _ _ (by rw [hLi]; rfl) (A.Ex.refl _)
  · refine ⟨(hJ _ hE).2, ?_⟩
    have ef : (List.range its.length).filterMap (fun i => (L[i]?).map nv) = nvs L := by
      rw [h2]
      have := A.fm_range L (fun x => some (nv x))
      rw [show (fun i => (L[i]?).map nv) = (fun j => (L[j]?).bind fun x => some (nv x)) from by funext i; cases L[i]? <;> rfl, this, show (fun x => some (nv x)) = some ∘ nv from rfl, List.filterMap_eq_map]; rfl
    rw [ef] at hDD
    refine A.v_catL (hE _ _ upd_same) hDD (A.small (by rw [nvs_len]; simp; omega)) fun q2 hq2 => ?_
    walk_at "rd"
    refine A.v_tupL (xs := pvs L) (SqL.of (by rw [upd_same]; rfl)) fun q3 H5 e5 h5 => ?_
    exact k q3 H5 (((e1.trans hE).trans (A.Ex.new (A.Ex.refl _) hq2)).trans e5) h5
theorem ok_law_k01_up (T : Txt K mg C1 C2 C3 C4) (F : A.Df K mg "_law_k01_up" s_law_k01_up) : A.Cl P w K mg base CX0 1 "_law_k01_up" s_law_k01_up P_law_k01_up (sp_law_k01_up K) := by
  refine A.mk_cl F sc_law_k01_up (fun vs H Q E h => ?_) bd_law_k01_up (fun f cdv Ar outer s H vs Q E hr h => ?_)
  · obtain ⟨p, L, n, rfl, _⟩ := h; rfl
  obtain ⟨v, L, n, rfl, ⟨a, rfl, h1⟩, h2, hn, k⟩ := h
  refine ⟨_, (pss_cons (ps_set (i := 2) sc_law_k01_up.nd rfl (by first | exact Or.inl rfl | exact Or.inr rfl) (pe_lst pa_nil))
    (pss_cons (ps_while PassesOwn.never (pt_cmpR A.o_notN (pv 1) pe_non (nomark _)) (pss_cons (ps_expr (A.e_bm (K := K) PySem.F.plainAttrs_list PySem.F.slot_list_append PySem.F.type_list_append mt_append (pv 2) (pa_cons (pv 1) pa_nil) rfl))
      (pss_one (ps_set (i := 1) sc_law_k01_up.nd rfl (by first | exact Or.inl rfl | exact Or.inr rfl) (pe_ix (A.o_ix (K := K) rfl) (pv 0) (pv 1) (fun _ _ => rfl))))))
    (pss_one (ps_ret (pv 2))))), ?_⟩
  have hl := low_of h2
  have hL := h2.1
  walk_at "rd"
  refine ⟨Nat.zero_le _, fun p hp => ?_⟩
  walk_at "rd"
  refine ⟨fun m σ Hx => ∃ (us : List Nat) (o : Option Nat), σ = [some (.ref a), some (match o with | some u => nv u | none => .non), some (.ref p)] ∧ A.Ex H Hx ∧ Hx p = some (.lst (nvs us)) ∧
      us.length + m ≤ L.length + 1 + 1 ∧ us.Pairwise (fun x y => y < x) ∧ (∀ x ∈ us, x ≤ L.length) ∧ (match o with | some u => m = u + 1 ∧ u ≤ L.length ∧ us.length + u ≤ L.length ∧ (∀ x ∈ us, u < x) ∧ ∀ x, Tr.Anc (pr L) x n ↔ (x ∈ us ∨ Tr.Anc (pr L) x u) | none => m = 0 ∧ ∀ x, x ∈ us ↔ Tr.Anc (pr L) x n),
    ⟨n + 1, [], some n, rfl, A.Ex.new (A.Ex.refl _) hp, upd_same, by simp; omega, by simp, by simp, rfl, hn, by simp; omega, by simp, by simp⟩, fun m σ Hx ⟨us, o, q1, q2, q3, q4, q5, q6, q7⟩ => ?_⟩
  subst q1
  cases o with
  | none =>
    dsimp only
    walk_at "rd"
    exact k p us Hx q2 hp q3 ⟨q7.2, q5⟩
  | some u =>
    obtain ⟨r1, r2, r3, r4, r5⟩ := q7
    dsimp only
    walk_at "rd"
    refine ⟨fun σ' H' => ∃ (o : Option Nat), σ' = [some (.ref a), some (match o with | some u => nv u | none => .non), some (.ref p)] ∧ A.Ex H H' ∧ H' p = some (.lst (nvs (us ++ [u]))) ∧ (match o with | some u' => u' < u ∧ u' = pr L u ∧ 0 < u | none => u = 0), fun σ' H' ⟨o, w1, w2, w3, w4⟩ => ?_, ?_⟩
    · have pw : (us ++ [u]).Pairwise (fun x y => y < x) := List.pairwise_append.mpr ⟨q5, by simp, fun x hx y hy => (show y = u by simpa using hy) ▸ r4 x hx⟩
      have bd : ∀ x ∈ us ++ [u], x ≤ L.length := fun x hx => by
        rcases List.mem_append.mp hx with h | h
        · exact q6 x h
        · have : x = u := by simpa using h
          omega
      cases o with
      | none =>
        have w4 : u = 0 := w4
        subst w4
        refine ⟨0, by omega, us ++ [0], none, w1, w2, w3, by simp; omega, pw, bd, rfl, fun x => ?_⟩
        rw [r5 x, List.mem_append, Tr.anc_self_iff hl (Nat.zero_le _) (Nat.zero_le x)]
        simp [eq_comm]
      | some u' =>
        obtain ⟨v1, v2, v3⟩ : u' < u ∧ u' = pr L u ∧ 0 < u := w4
        refine ⟨u' + 1, by omega, us ++ [u], some u', w1, w2, w3, by simp; omega, pw, bd, rfl, by omega, by simp; omega, fun x hx => ?_, fun x => ?_⟩
        · rcases List.mem_append.mp hx with h | h
          · have := r4 x h; omega
          · have : x = u := by simpa using h
            omega
        · rw [r5 x, List.mem_append, v2]
          by_cases hxu : u = x
          · subst hxu
            exact ⟨fun _ => .inl (.inr (by simp)), fun _ => .inr .self⟩
          · rw [Tr.anc_up_iff v3 hxu]
            constructor
            · rintro (h | h)
              · exact .inl (.inl h)
              · exact .inr h
            · rintro ((h | h) | h)
              · exact .inl h
              · exact absurd (by simpa using h : x = u).symm hxu
              · exact .inr h
    · walk_at "rd"
      refine ⟨A.ty_l q3, ?_⟩
      walk_at "rd"
      refine A.v_app q3 (A.smaller (by rw [nvs_len]; omega)) ?_
      walk_at "rd"
      have e3 : A.Ex H (upd Hx p (.lst (nvs us ++ [nv u]))) := A.Ex.wr q2 hp
      have hus : (upd Hx p (.lst (nvs us ++ [nv u]))) p = some (.lst (nvs (us ++ [u]))) := by rw [upd_same]; unfold nvs; simp
      by_cases hu : u = 0
      · subst hu
        refine A.v_ixT (i := ((0 : Nat) : Int)) (A.sqT_ex e3 h1) (A.nat_at (x := .non) rfl) ?_
        walk_at "rd"
        exact ⟨none, rfl, e3, hus, rfl⟩
      · refine A.v_ixT (i := (u : Int)) (A.sqT_ex e3 h1) (at_pvs (by omega) r2) ?_
        walk_at "rd"
        exact ⟨some (pr L u), rfl, e3, hus, hl u (by omega) r2, rfl, by omega⟩
theorem ok_law_k01_meet (T : Txt K mg C1 C2 C3 C4) (F : A.Df K mg "_law_k01_meet" s_law_k01_meet) (c_law_k01_up : A.Cl P w K mg base CX0 1 "_law_k01_up" s_law_k01_up P_law_k01_up (sp_law_k01_up K)) : A.Cl P w K mg base CX0 2 "_law_k01_meet" s_law_k01_meet P_law_k01_meet (sp_law_k01_meet K) := by
  refine A.mk_cl F sc_law_k01_meet (fun vs H Q E h => ?_) bd_law_k01_meet (fun f cdv Ar outer s H vs Q E hr h => ?_)
  · obtain ⟨p, L, a, b, rfl, _⟩ := h; rfl
  obtain ⟨v, L, a, b, rfl, h1, h2, ha, hb, k⟩ := h
  refine ⟨_, (pss_cons (ps_set (i := 3) sc_law_k01_meet.nd rfl (by first | exact Or.inl rfl | exact Or.inr rfl) (A.pe_c c_law_k01_up hr (by decide) (by rfl) (pa_cons (pv 0) (pa_cons (pv 2) pa_nil))))
    (pss_one (ps_ret (pe_ix (A.o_ix (K := K) rfl) (pe_lc (own := [("version", 4)]) (by rfl) sc_law_k01_meet.nd (A.p_seq (K := K) (A.pe_c c_law_k01_up hr (by decide) (by rfl) (pa_cons (pv 0) (pa_cons (pv 1) pa_nil))) rfl) (blkOk_by (own := [("version", 4)]) (N := N_law_k01_meet) (sc := defScope s_law_k01_meet) (by decide +kernel)) (fun _ _ _ _ _ => (pg_name (i := 4) sc_law_k01_meet.nd rfl (by first | exact Or.inl rfl | exact Or.inr rfl))) (fun _ _ _ _ _ => (pts_one (pt_cmpR (A.o_in (A.hu65 hr) (K := K) rfl) (pv 4) (pv 3) (by rfl)))) (fun _ _ _ _ _ => (pv 4))) pe_int (fun _ _ => rfl))))), ?_⟩
  have hl := low_of h2
  have hL := h2.1
  walk_at "rd"
  refine ⟨v, L, b, rfl, h1, h2, hb, fun pw ways H1 e1 hn1 h3 hw => ?_⟩
  walk_at "rd"
  refine ⟨v, L, a, rfl, par_ex e1 h1, h2, ha, fun pu us H2 e2 hn2 h4 hu => ?_⟩
  have lw := up_len h2 hb hw
  have lu := up_len h2 ha hu
  have bw : ∀ x ∈ ways, x < 10 ^ 9 := fun x hx => by have := Tr.anc_le hl hb ((hw.1 x).mp hx); omega
  have bu : ∀ x ∈ us, x < 10 ^ 9 := fun x hx => by have := Tr.anc_le hl ha ((hu.1 x).mp hx); omega
  refine A.i_seq H2 (.inl (SqL.of h4)) (A.Ex.refl _) fun J hJ => ?_
  intro D hD
  refine A.lc_seq hJ (A.Ex.refl _) (by rw [nvs_len]; omega) (fun x => match x with | .int z => if z.toNat ∈ ways then some (.int z) else none | _ => none) hD (fun j x H4 Y N hx hE hY hN => ?_) (fun H4 hE hDD => ?_)
  · rw [nvs_get] at hx
    obtain ⟨y, hy, rfl⟩ := Option.map_eq_some_iff.mp hx
    walk_at "rd"
    refine ⟨rfl, ?_⟩
    walk_at "rd"
    have hyl := bu y (List.mem_of_getElem? hy)
    refine ⟨nd y, nds ways, .int _, dp_nvs (SqL.of (hE _ _ (e2 _ _ h3))), (ok_nd hyl).shaped, (ok_nl bw (by omega)).shaped, ?_⟩
    have ein : ((nds ways).any fun z => PyData.eqv z (nd y)) = decide (y ∈ ways) := by
      unfold nds
      rw [List.any_map]
      clear h3 hw lw bw hY hN
      induction ways with
      | nil => simp
      | cons c t ih =>
        rw [List.any_cons, ih]
        show (PyData.eqv (nd c) (nd y) || _) = _
        rw [eqv_nd, ← Bool.decide_or]
        exact decide_eq_decide.mpr (by simp [eq_comm])
    rw [ein]
    walk_at "rd"
    by_cases hyw : y ∈ ways
    · rw [decide_eq_true hyw]
      walk_at "rd"
      exact hY _ _ (by simp [hyw]) (A.Ex.refl _)
    · rw [decide_eq_false hyw]
      walk_at "rd"
      exact hN _ (by simp [hyw]) (A.Ex.refl _)
  · have ef : (nvs us).filterMap (fun x => match x with | .int z => if z.toNat ∈ ways then some (V.int z) else none | _ => none) = nvs (us.filter (fun x => decide (x ∈ ways))) := by
      clear h4 hu lu bu hJ hDD
      induction us with
      | nil => rfl
      | cons c t ih =>
        show List.filterMap _ (nv c :: nvs t) = _
        by_cases hc : c ∈ ways
        · rw [List.filterMap_cons_some (b := nv c) (by simp [hc]), List.filter_cons_of_pos (by simpa using hc), ih]; rfl
        · rw [List.filterMap_cons_none (by simp [hc]), List.filter_cons_of_neg (by simpa using hc), ih]
    rw [ef] at hDD
    obtain ⟨m, hm, hme⟩ := Tr.meet_exists hl (a + b) a b (Nat.le_refl _) ha hb
    obtain ⟨X, hX⟩ := Tr.meet_first hl ha hu hw hme
    rw [hX] at hDD
    walk_at "rd"
    refine A.v_ixL (i := ((0 : Nat) : Int)) (SqL.of hDD) (at_nvs (x := m) rfl) ?_
    exact k m H4 hme hm ((e1.trans e2).trans hE)
theorem ok_law_as_moved (T : Txt K mg C1 C2 C3 C4) (F : A.Df K mg "_law_as_moved" s_law_as_moved) (c_law_as_moved_value : A.Cl P w K mg base CX0 1 "_law_as_moved_value" s_law_as_moved_value P_law_as_moved_value sp_false) : A.Cl P w K mg base CX0 2 "_law_as_moved" s_law_as_moved P_law_as_moved sp_law_as_moved := by
  refine A.mk_cl F sc_law_as_moved (fun vs H Q E h => ?_) bd_law_as_moved (fun f cdv Ar outer s H vs Q E hr h => ?_)
  · obtain ⟨d, m, rfl, _⟩ := h; rfl
  obtain ⟨d, m, rfl, h1, k⟩ := h
  refine ⟨_, (pss_cons (ps_set (i := 2) sc_law_as_moved.nd rfl (by first | exact Or.inl rfl | exact Or.inr rfl) (pe_lst pa_nil))
    (pss_cons (ps_for PassesOwn.never (by rfl) (A.p_seq (K := K) (pv 0) rfl) (pg_name (i := 3) sc_law_as_moved.nd rfl (by first | exact Or.inl rfl | exact Or.inr rfl)) (pss_one (ps_if (pt_cmpR (A.o_eq hr.units (K := K) rfl) (pe_ix (A.o_ix (K := K) rfl) (pv 3) pe_int (fun _ _ => rfl)) pe_str (nomark _)) (pss_one (ps_expr (A.e_bm (K := K) PySem.F.plainAttrs_list PySem.F.slot_list_append PySem.F.type_list_append mt_append (pv 2) (pa_cons (pe_tup (pa_cons pe_str (pa_cons (pe_op (A.o_add (K := K) rfl) (pe_ix (A.o_ix (K := K) rfl) (pv 3) pe_int (fun _ _ => rfl)) (pv 1)) (pa_cons (pe_ix (A.o_ix (K := K) rfl) (pv 3) pe_int (fun _ _ => rfl)) (pa_cons (A.pe_c c_law_as_moved_value hr (by decide) (by rfl) (pa_cons (pe_ix (A.o_ix (K := K) rfl) (pv 3) pe_int (fun _ _ => rfl)) (pa_cons (pv 1) pa_nil))) pa_nil))))) pa_nil) rfl))) (pss_one (ps_expr (A.e_bm (K := K) PySem.F.plainAttrs_list PySem.F.slot_list_append PySem.F.type_list_append mt_append (pv 2) (pa_cons (pe_tup (pa_cons pe_str (pa_cons (pe_callTy (A.c_tuple (K := K) rfl) (by rfl) T.n_tuple A.bt_tuple (pa_cons (pe_lc (own := [("value", 4)]) (by rfl) sc_law_as_moved.nd (A.p_seq (K := K) (pe_ix (A.o_ix (K := K) rfl) (pv 3) pe_int (fun _ _ => rfl)) rfl) (blkOk_by (own := [("value", 4)]) (N := N_law_as_moved) (sc := defScope s_law_as_moved) (by decide +kernel)) (fun _ _ _ _ _ => (pg_name (i := 4) sc_law_as_moved.nd rfl (by first | exact Or.inl rfl | exact Or.inr rfl))) (fun _ _ _ _ _ => pts_nil) (fun _ _ _ _ _ => (A.pe_c c_law_as_moved_value hr (by decide) (by rfl) (pa_cons (pv 4) (pa_cons (pv 1) pa_nil))))) pa_nil)) pa_nil))) pa_nil) rfl))))))
    (pss_one (ps_ret (pv 2))))), ?_⟩
  walk_at "rd"
  refine ⟨Nat.zero_le _, fun p hp => ?_⟩
  walk_at "rd"
  have h2 := A.upd_keep (p := p) (o := .lst []) h1 hp
  refine A.i_seq (upd H p (.lst [])) (.inl (SqL.of h2)) (A.Ex.refl _) fun J hJ => ?_
  refine A.for_in 0 (fun j σ Hy => Hy = upd H p (.lst []) ∧ σ = _) ⟨rfl, rfl⟩ (fun j σ Hy hj _ => absurd hj (Nat.not_lt_zero _)) (fun σ Hy ⟨w1, w2⟩ => ?_)
  subst w2
  rw [w1]
  refine ⟨(hJ _ (A.Ex.refl _)).2, ?_⟩
  walk_at "rd"
  exact k p _ (A.Ex.new (A.Ex.refl _) hp) hp upd_same
end
end T
set_option Elab.async false
set_option linter.all false
set_option maxRecDepth 100000
set_option maxHeartbeats 4000000
set_option autoImplicit false
namespace T
open PySem PySem.Spec PyProof.Rows L2
theorem kids_succ {par : Nat → Nat} {i h : Nat} : Tr.kids par (i + 1) h = Tr.kids par i h ++ (if par (i + 1) = h then [i + 1] else []) := by
  unfold Tr.kids
  rw [List.range'_concat, List.filter_append]
  congr 1
  rw [show 1 + 1 * i = i + 1 by omega]
  by_cases e : par (i + 1) = h
  · rw [if_pos e, List.filter_cons_of_pos (by simpa using e)]; rfl
  · rw [if_neg e, List.filter_cons_of_neg (by simpa using e)]; rfl
theorem kids_len {par : Nat → Nat} {i h : Nat} : (Tr.kids par i h).length ≤ i := by
  unfold Tr.kids
  exact Nat.le_trans (List.length_filter_le _ _) (by simp)
/-- the dict of children, up to version i -/
def KidAt (par : Nat → Nat) (i : Nat) (G : Hp) (kvs : List (Key × V)) : Prop := ∀ h : Nat, (valV kvs (.inl (h : Int)) = none ∧ Tr.kids par i h = []) ∨ ∃ b, valV kvs (.inl (h : Int)) = some (.ref b) ∧ G b = some (.lst (nvs (Tr.kids par i h)))
section
variable {P : Program} {w : World} {K : PySem.W.Frag} {mg : Str → Option Value} {base : Heap} {C1 C2 C3 C4 : Addr}
theorem ok_law_as_line (T : Txt K mg C1 C2 C3 C4) (F : A.Df K mg "_law_as_line" s_law_as_line) : A.Cl P w K mg base CX0 1 "_law_as_line" s_law_as_line P_law_as_line (sp_law_as_line K) := by
  refine A.mk_cl F sc_law_as_line (fun vs H Q E h => ?_) bd_law_as_line (fun f cdv Ar outer s H vs Q E hr h => ?_)
  · obtain ⟨d, m, rfl, _⟩ := h; rfl
  obtain ⟨v, L, rfl, ⟨a, rfl, h1⟩, h2, k⟩ := h
  refine ⟨_, (pss_cons (ps_set (i := 1) sc_law_as_line.nd rfl (by first | exact Or.inl rfl | exact Or.inr rfl) pe_dnewK)
    (pss_cons (ps_for PassesOwn.never (by rfl) (pi_range2 (by rfl) T.n_range (pa_cons pe_int (pa_cons (pe_callB (A.c_len (K := K) rfl) (by rfl) T.n_len A.bb_len (pa_cons (pv 0) pa_nil)) pa_nil))) (pg_name (i := 2) sc_law_as_line.nd rfl (by first | exact Or.inl rfl | exact Or.inr rfl)) (pss_one (ps_dput (hu_of hr) (pv 1) (pe_ix (A.o_ix (K := K) rfl) (pv 0) (pv 2) (fun _ _ => rfl)) (pe_op (A.o_add (K := K) rfl) (A.pe_get2 (hu_of hr) (pv 1) (pe_ix (A.o_ix (K := K) rfl) (pv 0) (pv 2) (fun _ _ => rfl)) (pe_lst pa_nil)) (pe_lst (pa_cons (pv 2) pa_nil))) rfl)))
    (pss_cons (ps_par (i := 3) (j := 4) (by rfl) sc_law_as_line.nd rfl rfl (by decide) rfl rfl (pa_cons (pe_lst pa_nil) (pa_cons (pe_lst (pa_cons pe_int pa_nil)) pa_nil)) (by rfl))
    (pss_cons (ps_while PassesOwn.never (pt_cmpR (A.o_ne hr.units (K := K) rfl) (pv 4) (pe_lst pa_nil) (nomark _)) (pss_cons (ps_set (i := 5) sc_law_as_line.nd rfl (by first | exact Or.inl rfl | exact Or.inr rfl) (A.e_bm0 (K := K) PySem.F.plainAttrs_list PySem.F.slot_list_pop PySem.F.type_list_pop mt_pop (pv 4) rfl))
      (pss_cons (ps_expr (A.e_bm (K := K) PySem.F.plainAttrs_list PySem.F.slot_list_append PySem.F.type_list_append mt_append (pv 3) (pa_cons (pv 5) pa_nil) rfl))
      (pss_one (ps_expr (A.e_bm (K := K) PySem.F.plainAttrs_list PySem.F.slot_list_extend PySem.F.type_list_extend mt_extend (pv 4) (pa_cons (A.pe_get2 (hu_of hr) (pv 1) (pv 5) (pe_lst pa_nil)) pa_nil) rfl))))))
    (pss_one (ps_ret (pv 3))))))), ?_⟩
  have hl := low_of h2
  have hL := h2.1
  walk_at "rd"
  intro c hc
  walk_at "rd"
  have e0 : A.Ex H (upd H c (.dK [])) := A.Ex.new (A.Ex.refl _) hc
  refine A.v_len (.inr (A.sqT_ex e0 h1)) ?_
  walk_at "rd"
  refine A.i_rng2 (lo := 1) (n := (pvs L).length) H (by decide) (by rw [pvs_len]; omega) fun J hJ => ?_
  rw [pvs_len, Nat.add_sub_cancel] at hJ
  refine A.for_in L.length (fun i σ Hx => ∃ z kvs, σ = [some (.ref a), some (.ref c), z, none, none, none] ∧ A.Ex H Hx ∧ Hx c = some (.dK kvs) ∧ kvs.length ≤ i ∧ KidAt (pr L) i Hx kvs) ⟨none, [], rfl, e0, upd_same, Nat.le_refl _, fun h => .inl ⟨rfl, rfl⟩⟩ (fun i σ Hx hi ⟨z, kvs, q1, q2, q3, q4, q5⟩ => ?_) (fun σ Hx ⟨z, kvs, q1, q2, q3, q4, q5⟩ => ?_)
  · subst q1
    obtain ⟨g1, g2⟩ := (hJ Hx q2).1 i _ (rgs_nv hi)
    refine ⟨g1, fun x H5 hx => ?_⟩
    obtain ⟨rfl, rfl⟩ := g2 x H5 hx
    rw [Nat.add_comm 1 i]
    walk_at "rd"
    refine ⟨c, rfl, A.isD_k q3, ?_⟩
    walk_at "rd"
    refine A.v_ixT (i := ((i + 1 : Nat) : Int)) (A.sqT_ex q2 h1) (at_pvs (by omega) (by omega)) ?_
    walk_at "rd"
    refine ⟨Nat.zero_le _, fun y hy => ?_⟩
    refine A.v_get2I (A.upd_keep q3 hy) ?_
    have hK : ∃ b, (valV kvs (.inl ((pr L (i + 1) : Nat) : Int))).getD (.ref y) = .ref b ∧ (upd H5 y (.lst [])) b = some (.lst (nvs (Tr.kids (pr L) i (pr L (i + 1))))) := by
      rcases q5 (pr L (i + 1)) with ⟨w1, w2⟩ | ⟨b, w1, w2⟩
      · exact ⟨y, by rw [w1]; rfl, by rw [upd_same, w2]; rfl⟩
      · exact ⟨b, by rw [w1]; rfl, A.upd_keep w2 hy⟩
    obtain ⟨b, hb1, hb2⟩ := hK
    rw [hb1]
    have q2' := q2.trans (A.Ex.new (o := .lst []) (A.Ex.refl H5) hy)
    have q3' := A.upd_keep (p := y) (o := .lst []) q3 hy
    have q5' : KidAt (pr L) i (upd H5 y (.lst [])) kvs := fun h => by
      rcases q5 h with w | ⟨b, w1, w2⟩
      · exact .inl w
      · exact .inr ⟨b, w1, A.upd_keep w2 hy⟩
    generalize hH6 : upd H5 y (.lst []) = H6 at hb2 q2' q3' q5'
    walk_at "rd"
    refine ⟨A.len1, fun r hr1 => ?_⟩
    refine A.v_catL (A.upd_keep hb2 hr1) upd_same (A.small (by rw [nvs_len]; have := kids_len (par := pr L) (i := i) (h := pr L (i + 1)); simp; omega)) fun r2 hr2 => ?_
    have q3'' := A.upd_keep (p := r2) (o := .lst (nvs (Tr.kids (pr L) i (pr L (i + 1))) ++ [nv (i + 1)])) (A.upd_keep (p := r) (o := .lst [nv (i + 1)]) q3' hr1) hr2
    have e7 := (q2'.trans (A.Ex.new (o := .lst [nv (i + 1)]) (A.Ex.refl H6) hr1)).trans (A.Ex.new (o := .lst (nvs (Tr.kids (pr L) i (pr L (i + 1))) ++ [nv (i + 1)])) (A.Ex.refl _) hr2)
    walk_at "rd"
    refine A.v_ixT (i := ((i + 1 : Nat) : Int)) (A.sqT_ex e7 h1) (at_pvs (by omega) (by omega)) ?_
    refine A.v_dputI q3'' (by omega) ?_
    walk_at "rd"
    have hcr2 : r2 ≠ c := A.ne_none (A.upd_keep (p := r) (o := .lst [nv (i + 1)]) q3' hr1) hr2
    refine ⟨_, _, rfl, A.Ex.wr e7 hc, upd_same, Nat.le_trans (length_putK _ _ _) (by omega), fun h => ?_⟩
    rw [valV_put]
    by_cases he : pr L (i + 1) = h
    · refine .inr ⟨r2, by rw [if_pos (by rw [he])], ?_⟩
      rw [upd_ne hcr2, upd_same, kids_succ, if_pos he, he]
      unfold nvs; simp
    · have hne : ¬ ((Sum.inl ((h : Nat) : Int) : Key) = Sum.inl ((pr L (i + 1) : Nat) : Int)) := fun e => he (by have := Sum.inl.inj e; omega)
      rw [if_neg hne, kids_succ, if_neg he, List.append_nil]
      rcases q5' h with w | ⟨b', w1, w2⟩
      · exact .inl w
      · refine .inr ⟨b', w1, ?_⟩
        have hbc : b' ≠ c := fun e => by rw [e, q3'] at w2; cases w2
        rw [upd_ne hbc]
        exact A.upd_keep (A.upd_keep w2 hr1) hr2
  · subst q1
    refine ⟨by have := (hJ Hx q2).2; rwa [A.rgs_len] at this, ?_⟩
    walk_at "rd"
    refine ⟨Nat.zero_le _, fun p hp => ?_⟩
    walk_at "rd"
    refine ⟨A.len1, fun t ht => ?_⟩
    walk_at "rd"
    have htn : Hx t = none := by
      cases hh : Hx t with
      | none => rfl
      | some o => rw [A.upd_keep hh hp] at ht; cases ht
    have hpt : p ≠ t := fun e => by rw [← e, upd_same] at ht; cases ht
    refine ⟨fun m σ Hy => ∃ (found todo : List Nat) (z5 : Option V), σ = [some (.ref a), some (.ref c), z, some (.ref p), some (.ref t), z5] ∧ A.Ex Hx Hy ∧ Hy p = some (.lst (nvs found)) ∧ Hy t = some (.lst (nvs todo)) ∧ Tr.Dfs (pr L) L.length found todo ∧ m = L.length + 1 - found.length,
      ⟨_, [], [0], none, rfl, A.Ex.new (A.Ex.new (A.Ex.refl _) hp) ht, A.upd_keep upd_same ht, upd_same, Tr.dfs_start, rfl⟩, fun m σ Hy ⟨found, todo, z5, w1, w2, w3, w4, w5, w6⟩ => ?_⟩
    subst w1
    have hlen := Tr.dfs_len w5
    have bt : ∀ x ∈ todo, x < 10 ^ 9 := fun x hx => by have := w5.rng x (List.mem_append_right _ hx); omega
    walk_at "rd"
    refine ⟨Nat.zero_le _, fun y hy => ?_⟩
    refine A.v_neD (dp_nvs (SqL.of (A.upd_keep w4 hy))) (.lst (xs := []) (SqL.of upd_same) .nil) (ok_nl bt (by omega)).shaped (by decide) ?_
    walk_at "rd"
    have w2' := w2.trans (A.Ex.new (o := .lst []) (A.Ex.refl Hy) hy)
    have w3' := A.upd_keep (p := y) (o := .lst []) w3 hy
    have w4' := A.upd_keep (p := y) (o := .lst []) w4 hy
    generalize hHz : upd Hy y (.lst []) = Hz at w2' w3' w4'
    rcases List.eq_nil_or_concat todo with rfl | ⟨t', hh, rfl⟩
    · rw [show PyData.eqv (.list (nds [])) (.list []) = true from by simp [nds, PyData.eqv, PyData.eqvAll]]
      walk_at "rd"
      refine k p Hz (q2.trans w2') (A.none_of_ex q2 hp) ?_
      rw [w3', Tr.dfs_end hl w5]; rfl
    · rw [List.concat_eq_append] at w4' w5 hlen ⊢
      rw [show PyData.eqv (.list (nds (t' ++ [hh]))) (.list []) = false from by
        cases t' with
        | nil => simp [nds, PyData.eqv, PyData.eqvAll]
        | cons b u => simp [nds, PyData.eqv, PyData.eqvAll]]
      walk_at "rd"
      simp only [List.length_append, List.length_singleton] at hlen
      refine ⟨fun σ' H' => ∃ (z5 : Option V), σ' = [some (.ref a), some (.ref c), z, some (.ref p), some (.ref t), z5] ∧ A.Ex Hx H' ∧ H' p = some (.lst (nvs (found ++ [hh]))) ∧ H' t = some (.lst (nvs (t' ++ Tr.kids (pr L) L.length hh))), fun σ' H' ⟨z5, v1, v2, v3, v4⟩ => ⟨L.length + 1 - (found ++ [hh]).length, by simp; omega, found ++ [hh], _, z5, v1, v2, v3, v4, Tr.dfs_step hl w5, rfl⟩, ?_⟩
      walk_at "rd"
      refine ⟨A.ty_l w4', ?_⟩
      refine A.v_pop (xs := nvs t') (y := nv hh) (by rw [w4']; unfold nvs; simp) ?_
      walk_at "rd"
      have w3a : (upd Hz t (.lst (nvs t'))) p = some (.lst (nvs found)) := A.upd_keep2 hpt w3'
      refine ⟨A.ty_l w3a, ?_⟩
      walk_at "rd"
      refine A.v_app w3a (A.smaller (by rw [nvs_len]; omega)) ?_
      have w4a : (upd (upd Hz t (.lst (nvs t'))) p (.lst (nvs found ++ [nv hh]))) t = some (.lst (nvs t')) := by rw [upd_ne (Ne.symm hpt), upd_same]
      have w2a : A.Ex Hx (upd (upd Hz t (.lst (nvs t'))) p (.lst (nvs found ++ [nv hh]))) := A.Ex.wr (A.Ex.wr w2' htn) hp
      have w3b : (upd (upd Hz t (.lst (nvs t'))) p (.lst (nvs found ++ [nv hh]))) p = some (.lst (nvs found ++ [nv hh])) := upd_same
      generalize hH9 : upd (upd Hz t (.lst (nvs t'))) p (.lst (nvs found ++ [nv hh])) = H9 at w4a w2a w3b
      walk_at "rd"
      refine ⟨A.ty_l w4a, ?_⟩
      walk_at "rd"
      refine ⟨c, rfl, A.isD_k (w2a _ _ q3), ?_⟩
      walk_at "rd"
      refine ⟨Nat.zero_le _, fun y2 hy2 => ?_⟩
      refine A.v_get2I (A.upd_keep (w2a _ _ q3) hy2) ?_
      have hK : ∃ b, (valV kvs (.inl ((hh : Nat) : Int))).getD (.ref y2) = .ref b ∧ (upd H9 y2 (.lst [])) b = some (.lst (nvs (Tr.kids (pr L) L.length hh))) := by
        rcases q5 hh with ⟨u1, u2⟩ | ⟨b, u1, u2⟩
        · exact ⟨y2, by rw [u1]; rfl, by rw [upd_same, u2]; rfl⟩
        · exact ⟨b, by rw [u1]; rfl, A.upd_keep (w2a _ _ u2) hy2⟩
      obtain ⟨b, hb1, hb2⟩ := hK
      rw [hb1]
      walk_at "rd"
      have hkl := kids_len (par := pr L) (i := L.length) (h := hh)
      refine A.v_ext (A.upd_keep w4a hy2) hb2 (by rw [nvs_len, nvs_len]; omega) ?_
      walk_at "rd"
      have hpy : p ≠ y2 := Ne.symm (A.ne_none w3b hy2)
      refine ⟨_, rfl, A.Ex.wr (w2a.trans (A.Ex.new (A.Ex.refl _) hy2)) htn, ?_, ?_⟩
      · rw [upd_ne hpt, upd_ne hpy, w3b]; unfold nvs; simp
      · rw [upd_same]; unfold nvs; simp
end
end T
set_option Elab.async false
set_option linter.all false
set_option maxRecDepth 100000
set_option maxHeartbeats 4000000
set_option autoImplicit false
namespace T
open PySem PySem.Spec PyProof.Rows L2
def grK (pw pm pl : Addr) (at' : Nat) : List (Key × V) := [(.inr "story", .ref pw), (.inr "mine", .ref pm), (.inr "late", .ref pl), (.inr "many", .int 1), (.inr "field", .non), (.inr "at", nv at')]
theorem merge_gr {pw pm pl : Addr} {a : Nat} : mergeK [] (grK pw pm pl a) = grK pw pm pl a := rfl
def sp_law_as_grafted (K : PySem.W.Frag) : Sp := fun vs H Q _ => ∃ s t p1 p2 L1 L2 at' b, vs = [.ref s.st, .ref p1, .ref p2, .int 1, nv at', .int 1, .non, .bl b] ∧ A.Sw H s t ∧ t ≤ 10 ^ 8 ∧ VP L1 ∧ VP L2 ∧ at' ≤ L1.length ∧ StoryAt K (A.less s H) p1 L1 ∧ StoryAt K (A.less s H) p2 L2 ∧
  ∀ d pw pm pl W M N H', Tr.PG L1 L2 at' W M N → M.length = L1.length + 1 → N.length = L2.length + 1 → A.less s H' d = some (.dK (grK pw pm pl at')) → PairsAt K (A.less s H') pw W → A.less s H' pm = some (.lst (nvs M)) → A.less s H' pl = some (.lst (nvs N)) → A.Fr s H H' → A.Sw H' s (t + 2 + L1.length + L2.length) → Q (.ref d) H'
/-- the graft under way -/
structure GI (K : PySem.W.Frag) (H : Hp) (s : A.Sta) (pw pm pl : Addr) (its : List V) (W M N : List Nat) (Hx : Hp) (t : Nat) : Prop where
  ow : A.Own s pw
  om : A.Own s pm
  ol : A.Own s pl
  wm : pw ≠ pm
  wl : pw ≠ pl
  ml : pm ≠ pl
  nw : H pw = none
  nm : H pm = none
  nl : H pl = none
  hw : Hx pw = some (.lst its)
  hm : Hx pm = some (.lst (nvs M))
  hl : Hx pl = some (.lst (nvs N))
  len : its.length = W.length
  pairs : ∀ (i x : Nat), W[i]? = some x → ∃ a y, its[i]? = some (V.ref a) ∧ SqT K (A.less s Hx) a [nv x, y]
  fr : A.Fr s H Hx
  sw : A.Sw Hx s t
section
variable {K : PySem.W.Frag} {H Hx H' : Hp} {s : A.Sta} {pw pm pl : Addr} {its : List V} {W M N : List Nat} {t t' : Nat}
theorem GI.step (g : GI K H s pw pm pl its W M N Hx t) (f : A.Fr s Hx H') (w : A.Sw H' s t') : GI K H s pw pm pl its W M N H' t' :=
  ⟨g.ow, g.om, g.ol, g.wm, g.wl, g.ml, g.nw, g.nm, g.nl, f.own g.hw g.ow, f.own g.hm g.om, f.own g.hl g.ol, g.len, fun i x hx => let ⟨a, y, h1, h2⟩ := g.pairs i x hx; ⟨a, y, h1, A.sqT_ex f h2⟩, g.fr.trans f, w⟩
theorem GI.new {p : Addr} {o : HO} (g : GI K H s pw pm pl its W M N Hx t) (h : Hx p = none) : GI K H s pw pm pl its W M N (upd Hx p o) t := g.step ((A.Fr.refl _ _).new h) (g.sw.new h)
theorem GI.addW {T : Addr} {z : Nat} {y : V} (g : GI K H s pw pm pl its W M N Hx t) (h : Hx T = none) : GI K H s pw pm pl (its ++ [.ref T]) (W ++ [z]) M N (upd (upd Hx T (.tup [nv z, y])) pw (.lst (its ++ [.ref T]))) t := by
  have g1 := g.new (o := .tup [nv z, y]) h
  refine ⟨g.ow, g.om, g.ol, g.wm, g.wl, g.ml, g.nw, g.nm, g.nl, upd_same, by rw [upd_ne (Ne.symm g.wm)]; exact g1.hm, by rw [upd_ne (Ne.symm g.wl)]; exact g1.hl, by simp [g.len], fun i x hx => ?_, g1.fr.wr g.nw, g1.sw.put g.ow⟩
  rcases Tr.get_app hx with hx | ⟨e1, e2⟩
  · obtain ⟨a, y', h1, h2⟩ := g1.pairs i x hx
    exact ⟨a, y', Tr.keep_app h1, A.tup_put h2 g1.hw⟩
  · refine ⟨T, y, by rw [e1, ← g.len]; simp, ?_⟩
    rw [e2]
    exact A.tup_put (.inl (.inl (by rw [A.less_of (g.sw.st_ne h) (g.sw.g_ne h), upd_same]))) g1.hw
theorem GI.addM {v : Nat} (g : GI K H s pw pm pl its W M N Hx t) : GI K H s pw pm pl its W (M ++ [v]) N (upd Hx pm (.lst (nvs M ++ [nv v]))) t :=
  ⟨g.ow, g.om, g.ol, g.wm, g.wl, g.ml, g.nw, g.nm, g.nl, by rw [upd_ne g.wm]; exact g.hw, by rw [upd_same]; unfold nvs; simp, by rw [upd_ne (Ne.symm g.ml)]; exact g.hl, g.len, fun i x hx => let ⟨a, y, h1, h2⟩ := g.pairs i x hx; ⟨a, y, h1, A.tup_put h2 g.hm⟩, g.fr.wr g.nm, g.sw.put g.om⟩
theorem GI.addN {v : Nat} (g : GI K H s pw pm pl its W M N Hx t) : GI K H s pw pm pl its W M (N ++ [v]) (upd Hx pl (.lst (nvs N ++ [nv v]))) t :=
  ⟨g.ow, g.om, g.ol, g.wm, g.wl, g.ml, g.nw, g.nm, g.nl, by rw [upd_ne g.wl]; exact g.hw, by rw [upd_ne g.ml]; exact g.hm, by rw [upd_same]; unfold nvs; simp, g.len, fun i x hx => let ⟨a, y, h1, h2⟩ := g.pairs i x hx; ⟨a, y, h1, A.tup_put h2 g.hl⟩, g.fr.wr g.nl, g.sw.put g.ol⟩
end
section
variable {P : Program} {w : World} {K : PySem.W.Frag} {mg : Str → Option Value} {base : Heap} {C1 C2 C3 C4 : Addr}
theorem ok_law_as_grafted (T : Txt K mg C1 C2 C3 C4) (F : A.Df K mg "_law_as_grafted" s_law_as_grafted) (c_law_draw : A.Cl P w K mg base CX0 2 "_law_draw" s_law_draw P_law_draw sq_law_draw) (c_law_as_moved : A.Cl P w K mg base CX0 2 "_law_as_moved" s_law_as_moved P_law_as_moved sp_law_as_moved) : A.Cl P w K mg base CX0 3 "_law_as_grafted" s_law_as_grafted P_law_as_grafted (sp_law_as_grafted K) := by
  refine A.mk_cl F sc_law_as_grafted (fun vs H Q E h => ?_) bd_law_as_grafted (fun f cdv Ar outer s H vs Q E hr h => ?_)
  · obtain ⟨d, m, p1, p2, L1, L2, a, b, rfl, _⟩ := h; rfl
  obtain ⟨sa, t, p1, p2, L1, L2, at', b, rfl, hw, ht, v1, v2, hat, st1, st2, k⟩ := h
  refine ⟨_, (pss_cons (ps_set (i := 8) sc_law_as_grafted.nd rfl (by first | exact Or.inl rfl | exact Or.inr rfl) (pe_op (A.o_add (K := K) rfl) (pe_lst (pa_cons (pe_tup (pa_cons pe_str (pa_cons (pe_op (A.o_mul (K := K) rfl) (pe_tup (pa_cons pe_non pa_nil)) (pv 3)) pa_nil))) pa_nil)) (pe_ifExp (pt_cmpR A.o_notN (pv 6) pe_non (nomark _)) (pe_lst (pa_cons (pe_tup (pa_cons pe_str (pa_cons pe_int (pa_cons (pv 6) (pa_cons (pe_tup (pa_cons pe_str (pa_cons (pv 5) pa_nil))) pa_nil))))) pa_nil)) (pe_lst pa_nil))))
    (pss_cons (ps_set (i := 9) sc_law_as_grafted.nd rfl (by first | exact Or.inl rfl | exact Or.inr rfl) (pe_ifExp (pt_val (pv 7)) (pe_op (A.o_add (K := K) rfl) (pv 4) (A.pe_c c_law_draw hr (by decide) (by rfl) (pa_cons (pv 0) (pa_cons (pe_op op_sub (pe_op (A.o_add (K := K) rfl) (pe_callB (A.c_len (K := K) rfl) (by rfl) T.n_len A.bb_len (pa_cons (pv 1) pa_nil)) pe_int) (pv 4)) pa_nil)))) (pe_callB (A.c_len (K := K) rfl) (by rfl) T.n_len A.bb_len (pa_cons (pv 1) pa_nil))))
    (pss_cons (ps_asg (pe_tup (pa_cons (pe_lst pa_nil) (pa_cons (pe_lst (pa_cons pe_int pa_nil)) (pa_cons (pe_lst pa_nil) (pa_cons pe_int (pa_cons pe_int pa_nil)))))) (A.p_tup (K := K) (n := 5) (by rfl) (pgs_cons (pg_name (i := 10) sc_law_as_grafted.nd rfl (by first | exact Or.inl rfl | exact Or.inr rfl)) (pgs_cons (pg_name (i := 11) sc_law_as_grafted.nd rfl (by first | exact Or.inl rfl | exact Or.inr rfl)) (pgs_cons (pg_name (i := 12) sc_law_as_grafted.nd rfl (by first | exact Or.inl rfl | exact Or.inr rfl)) (pgs_cons (pg_name (i := 13) sc_law_as_grafted.nd rfl (by first | exact Or.inl rfl | exact Or.inr rfl)) (pgs_cons (pg_name (i := 14) sc_law_as_grafted.nd rfl (by first | exact Or.inl rfl | exact Or.inr rfl)) pgs_nil))))) rfl))
    (pss_cons (ps_for PassesOwn.never (by rfl) (pi_range1 (by rfl) T.n_range (pa_cons (pv 9) pa_nil)) (pg_name (i := 15) sc_law_as_grafted.nd rfl (by first | exact Or.inl rfl | exact Or.inr rfl)) (pss_cons (ps_expr (A.e_bm (K := K) PySem.F.plainAttrs_list PySem.F.slot_list_append PySem.F.type_list_append mt_append (pv 10) (pa_cons (pe_tup (pa_cons (pe_ix (A.o_ix (K := K) rfl) (pv 11) (pe_ix (A.o_ix (K := K) rfl) (pe_ix (A.o_ix (K := K) rfl) (pv 1) (pv 15) (fun _ _ => rfl)) pe_int (fun _ _ => rfl)) (fun _ _ => rfl)) (pa_cons (pe_callTy (A.c_list (K := K) rfl) (by rfl) T.n_list A.bt_list (pa_cons (pe_ix (A.o_ix (K := K) rfl) (pe_ix (A.o_ix (K := K) rfl) (pv 1) (pv 15) (fun _ _ => rfl)) pe_int (fun _ _ => rfl)) pa_nil)) pa_nil))) pa_nil) rfl))
      (pss_one (ps_expr (A.e_bm (K := K) PySem.F.plainAttrs_list PySem.F.slot_list_append PySem.F.type_list_append mt_append (pv 11) (pa_cons (pe_callB (A.c_len (K := K) rfl) (by rfl) T.n_len A.bb_len (pa_cons (pv 10) pa_nil)) pa_nil) rfl)))))
    (pss_cons (ps_expr (A.e_bm (K := K) PySem.F.plainAttrs_list PySem.F.slot_list_append PySem.F.type_list_append mt_append (pv 10) (pa_cons (pe_tup (pa_cons (pe_ix (A.o_ix (K := K) rfl) (pv 11) (pv 4) (fun _ _ => rfl)) (pa_cons (pv 8) pa_nil))) pa_nil) rfl))
    (pss_cons (ps_expr (A.e_bm (K := K) PySem.F.plainAttrs_list PySem.F.slot_list_append PySem.F.type_list_append mt_append (pv 12) (pa_cons (pe_callB (A.c_len (K := K) rfl) (by rfl) T.n_len A.bb_len (pa_cons (pv 10) pa_nil)) pa_nil) rfl))
    (pss_cons (ps_set (i := 13) sc_law_as_grafted.nd rfl (by first | exact Or.inl rfl | exact Or.inr rfl) (pv 9))
    (pss_cons (ps_while PassesOwn.never (PW.pt (pw_or (pt_cmpR op_lt (pv 13) (pe_callB (A.c_len (K := K) rfl) (by rfl) T.n_len A.bb_len (pa_cons (pv 1) pa_nil)) (nomark _)) (pw_or1 (pt_cmpR op_lt (pv 14) (pe_callB (A.c_len (K := K) rfl) (by rfl) T.n_len A.bb_len (pa_cons (pv 2) pa_nil)) (nomark _))))) (pss_one (ps_if (PW.pt (pw_or (pt_cmpR (A.o_eq hr.units (K := K) rfl) (pv 14) (pe_callB (A.c_len (K := K) rfl) (by rfl) T.n_len A.bb_len (pa_cons (pv 2) pa_nil)) (nomark _)) (pw_or1 (PW.pt (pw_and (pt_cmpR op_lt (pv 13) (pe_callB (A.c_len (K := K) rfl) (by rfl) T.n_len A.bb_len (pa_cons (pv 1) pa_nil)) (nomark _)) (pw_and1 (pt_cmpR (A.o_eq hr.units (K := K) rfl) (A.pe_c c_law_draw hr (by decide) (by rfl) (pa_cons (pv 0) (pa_cons pe_int pa_nil))) pe_int (nomark _)))))))) (pss_cons (ps_expr (A.e_bm (K := K) PySem.F.plainAttrs_list PySem.F.slot_list_append PySem.F.type_list_append mt_append (pv 10) (pa_cons (pe_tup (pa_cons (pe_ix (A.o_ix (K := K) rfl) (pv 11) (pe_ix (A.o_ix (K := K) rfl) (pe_ix (A.o_ix (K := K) rfl) (pv 1) (pv 13) (fun _ _ => rfl)) pe_int (fun _ _ => rfl)) (fun _ _ => rfl)) (pa_cons (pe_callTy (A.c_list (K := K) rfl) (by rfl) T.n_list A.bt_list (pa_cons (pe_ix (A.o_ix (K := K) rfl) (pe_ix (A.o_ix (K := K) rfl) (pv 1) (pv 13) (fun _ _ => rfl)) pe_int (fun _ _ => rfl)) pa_nil)) pa_nil))) pa_nil) rfl))
        (pss_cons (ps_expr (A.e_bm (K := K) PySem.F.plainAttrs_list PySem.F.slot_list_append PySem.F.type_list_append mt_append (pv 11) (pa_cons (pe_callB (A.c_len (K := K) rfl) (by rfl) T.n_len A.bb_len (pa_cons (pv 10) pa_nil)) pa_nil) rfl))
        (pss_one (ps_set (i := 13) sc_law_as_grafted.nd rfl (by first | exact Or.inl rfl | exact Or.inr rfl) (pe_op (A.o_add (K := K) rfl) (pv 13) pe_int))))) (pss_cons (ps_expr (A.e_bm (K := K) PySem.F.plainAttrs_list PySem.F.slot_list_append PySem.F.type_list_append mt_append (pv 10) (pa_cons (pe_tup (pa_cons (pe_ix (A.o_ix (K := K) rfl) (pv 12) (pe_ix (A.o_ix (K := K) rfl) (pe_ix (A.o_ix (K := K) rfl) (pv 2) (pv 14) (fun _ _ => rfl)) pe_int (fun _ _ => rfl)) (fun _ _ => rfl)) (pa_cons (A.pe_c c_law_as_moved hr (by decide) (by rfl) (pa_cons (pe_ix (A.o_ix (K := K) rfl) (pe_ix (A.o_ix (K := K) rfl) (pv 2) (pv 14) (fun _ _ => rfl)) pe_int (fun _ _ => rfl)) (pa_cons (pv 5) pa_nil))) pa_nil))) pa_nil) rfl))
        (pss_cons (ps_expr (A.e_bm (K := K) PySem.F.plainAttrs_list PySem.F.slot_list_append PySem.F.type_list_append mt_append (pv 12) (pa_cons (pe_callB (A.c_len (K := K) rfl) (by rfl) T.n_len A.bb_len (pa_cons (pv 10) pa_nil)) pa_nil) rfl))
        (pss_one (ps_set (i := 14) sc_law_as_grafted.nd rfl (by first | exact Or.inl rfl | exact Or.inr rfl) (pe_op (A.o_add (K := K) rfl) (pv 14) pe_int))))))))
    (pss_one (ps_ret (pe_disp (pps_cons pe_str (pv 10) (pps_cons pe_str (pv 11) (pps_cons pe_str (pv 12) (pps_cons pe_str (pv 5) (pps_cons pe_str (pv 6) (pps_cons pe_str (pv 4) pps_nil)))))) (by rfl) (by rfl) (fun z => by cases z) (by decide)))))))))))), ?_⟩
  have hn1 := v1.1
  have hn2 := v2.1
  obtain ⟨its1, i1a, i1b, i1c⟩ := st1
  obtain ⟨its2, i2a, i2b, i2c⟩ := st2
  walk_at "st"
  refine A.cutE _ (fun x H4 => ∃ d, x = .ref d ∧ A.Ex H H4) (fun R hR => ?_) (fun x H4 ⟨d, hx, e4⟩ => ?_)
  · walk_at "rd"
    refine ⟨A.len1, fun a1 ha1 => ?_⟩
    walk_at "rd"
    refine .inr (.inr (.inr ⟨a1, [V.non], rfl, rfl, .inl (.inl upd_same), ?_⟩))
    dsimp only
    walk_at "rd"
    refine ⟨A.len2, fun a2 ha2 => ?_⟩
    walk_at "rd"
    refine ⟨A.len1, fun a3 ha3 => ?_⟩
    walk_at "rd"
    refine ⟨Nat.zero_le _, fun a4 ha4 => ?_⟩
    refine A.v_catL (A.upd_keep upd_same ha4) upd_same (A.small (by simp)) fun a5 ha5 => ?_
    exact hR _ _ ⟨a5, rfl, ((((A.Ex.new (A.Ex.refl _) ha1).trans (A.Ex.new (A.Ex.refl _) ha2)).trans (A.Ex.new (A.Ex.refl _) ha3)).trans (A.Ex.new (A.Ex.refl _) ha4)).trans (A.Ex.new (A.Ex.refl _) ha5)⟩
  subst hx
  have hw4 := hw.ext e4
  have f4 : A.Fr sa H H4 := A.Fr.of e4
  walk_at "st"
  refine A.cutE _ (fun x H5 => ∃ bg, x = nv bg ∧ at' ≤ bg ∧ bg ≤ L1.length ∧ A.Fr sa H H5 ∧ A.Sw H5 sa (t + 1)) (fun R hR => ?_) (fun x H5 ⟨bg, hx, hb1, hb2, f5, hw5⟩ => ?_)
  · walk_at "rd"
    cases b with
    | true =>
      walk_at "rd"
      refine A.v_len (.inl (SqL.of (A.less_ex _ _ (f4 _ _ i1a)))) ?_
      walk_at "rd"
      refine ⟨sa, t, L1.length + 1 - at', ?_, hw4, by omega, by omega, by omega, fun r H6 hr6 f6 hw6 => ?_⟩
      · show [V.ref sa.st, V.int ((its1.length : Int) + 1 - (at' : Nat))] = [V.ref sa.st, V.int ((L1.length + 1 - at' : Nat) : Int)]
        rw [i1b, show ((L1.length : Nat) : Int) + 1 - (at' : Nat) = ((L1.length + 1 - at' : Nat) : Int) by omega]
      walk_at "rd"
      exact hR _ _ ⟨at' + r, rfl, by omega, by omega, f4.trans f6, hw6⟩
    | false =>
      walk_at "rd"
      refine A.v_len (.inl (SqL.of (A.less_ex _ _ (f4 _ _ i1a)))) ?_
      rw [i1b]
      exact hR _ _ ⟨L1.length, rfl, hat, Nat.le_refl _, f4, hw4.le (by omega)⟩
  subst hx
  walk_at "rd"
  refine ⟨Nat.zero_le _, fun pw hpw => ?_⟩
  walk_at "rd"
  refine ⟨A.len1, fun pm hpm => ?_⟩
  walk_at "rd"
  refine ⟨Nat.zero_le _, fun pl hpl => ?_⟩
  walk_at "rd"
  refine ⟨A.len5, fun T5 hT5 => ?_⟩
  refine A.r_gtup (.inl (.inl upd_same)) rfl ?_
  walk_at "rd"
  have item1 : ∀ Hx, A.Fr sa H Hx → ∀ (i y : Nat), L1[i]? = some y → ∃ a d, its1[i]? = some (V.ref a) ∧ SqT K Hx a [nv y, .ref d] ∧ Hx d = some (.lst []) := fun Hx f i y hy =>
    let ⟨a, d, q1, q2, q3⟩ := i1c i y hy
    ⟨a, d, q1, A.sqT_ex A.less_ex (A.sqT_ex f q2), A.less_ex _ _ (f _ _ q3)⟩
  have item2 : ∀ Hx, A.Fr sa H Hx → ∀ (i y : Nat), L2[i]? = some y → ∃ a d, its2[i]? = some (V.ref a) ∧ SqT K Hx a [nv y, .ref d] ∧ Hx d = some (.lst []) := fun Hx f i y hy =>
    let ⟨a, d, q1, q2, q3⟩ := i2c i y hy
    ⟨a, d, q1, A.sqT_ex A.less_ex (A.sqT_ex f q2), A.less_ex _ _ (f _ _ q3)⟩
  have gi0 : GI K H sa pw pm pl [] [] [0] [] (upd (upd (upd H5 pw (.lst [])) pm (.lst [V.int 0])) pl (.lst [])) (t + 1) := by
    have ow := hw5.own hpw
    have w1 := hw5.new (o := .lst []) hpw
    have om := w1.own hpm
    have w2 := w1.new (o := .lst [V.int 0]) hpm
    have ol := w2.own hpl
    have wm : pw ≠ pm := fun e => by rw [← e, upd_same] at hpm; cases hpm
    have ml : pm ≠ pl := fun e => by rw [← e, upd_same] at hpl; cases hpl
    have wl : pw ≠ pl := fun e => by rw [← e, upd_ne wm, upd_same] at hpl; cases hpl
    have hm5 : H5 pm = none := by rw [upd_ne (Ne.symm wm)] at hpm; exact hpm
    have hl5 : H5 pl = none := by rw [upd_ne (Ne.symm ml), upd_ne (Ne.symm wl)] at hpl; exact hpl
    exact ⟨ow, om, ol, wm, wl, ml, f5.none ow hpw, f5.none om hm5, f5.none ol hl5, A.upd_keep (A.upd_keep upd_same hpm) hpl, A.upd_keep upd_same hpl, upd_same, rfl, fun i x h => by simp at h, ((f5.new hpw).new hpm).new hpl, w2.new hpl⟩
  have gi1 := gi0.new (o := .tup [V.ref pw, V.ref pm, V.ref pl, V.int 0, V.int 0]) hT5
  generalize hH6 : upd (upd (upd (upd H5 pw (.lst [])) pm (.lst [V.int 0])) pl (.lst [])) T5 (.tup [V.ref pw, V.ref pm, V.ref pl, V.int 0, V.int 0]) = H6 at gi1
  refine A.i_rng1 (n := bg) (fun _ => none) (by omega) fun J hJ => ?_
  refine A.for_in bg (fun i σ Hx => ∃ its W M z15, σ = [some (.ref sa.st), some (.ref p1), some (.ref p2), some (.int 1), some (nv at'), some (.int 1), some .non, some (.bl b), some (.ref d), some (nv bg), some (.ref pw), some (.ref pm), some (.ref pl), some (.int 0), some (.int 0), z15] ∧ M.length = i + 1 ∧ Tr.PG L1 L2 at' W M [] ∧ GI K H sa pw pm pl its W M [] Hx (t + 1))
    ⟨[], [], [0], none, rfl, rfl, Tr.pg_start, gi1⟩ (fun i σ Hx hi ⟨its, W, M, z15, q1, q2, g, gi⟩ => ?_) (fun σ Hx ⟨its, W, M, z15, q1, q2, g, gi⟩ => ?_)
  · subst q1
    obtain ⟨g1, g2⟩ := (hJ Hx (fun _ _ h => by exact absurd h (by simp))).1 i _ (rgs_nv (lo := 0) hi)
    refine ⟨g1, fun x H7 hx => ?_⟩
    obtain ⟨rfl, rfl⟩ := g2 x H7 hx
    rw [Nat.zero_add]
    obtain ⟨y, hy⟩ : ∃ y, L1[i]? = some y := ⟨_, List.getElem?_eq_getElem (show i < L1.length by omega)⟩
    have hyi := v1.2 i y hy
    have hy' : L1[M.length - 1]? = some y := by rw [q2]; exact hy
    obtain ⟨z, hz⟩ : ∃ z, M[y]? = some z := ⟨_, List.getElem?_eq_getElem (show y < M.length by omega)⟩
    have hWl := g.lenW
    simp only [List.length_nil, Nat.add_zero] at hWl
    walk_at "rd"
    refine ⟨A.ty_l gi.hw, ?_⟩
    walk_at "rd"
    obtain ⟨ai, di, j1, j2, j3⟩ := item1 H7 gi.fr i y hy
    have j2 := j2
    refine A.v_ixL (i := ((i : Nat) : Int)) (SqL.of (A.less_ex _ _ (gi.fr _ _ i1a))) (A.nat_at j1) ?_
    walk_at "rd"
    refine A.v_ixT (i := ((0 : Nat) : Int)) j2 (A.nat_at rfl) ?_
    refine A.v_ixL (i := ((y : Nat) : Int)) (SqL.of gi.hm) (at_nvs hz) ?_
    walk_at "rd"
    refine A.v_ixL (i := ((i : Nat) : Int)) (SqL.of (A.less_ex _ _ (gi.fr _ _ i1a))) (A.nat_at j1) ?_
    walk_at "rd"
    refine A.v_ixT (i := ((1 : Nat) : Int)) j2 (A.nat_at rfl) ?_
    walk_at "rd"
    refine A.v_lstU (.inl (SqL.of j3)) fun l hl => ?_
    walk_at "rd"
    refine ⟨A.len2, fun T6 hT6 => ?_⟩
    have gb := (gi.new (o := .lst []) hl)
    walk_at "rd"
    refine A.v_app (A.upd_keep gb.hw hT6) (A.smaller (by have := gb.len; omega)) ?_
    have gc := gb.addW (z := z) (y := .ref l) hT6
    generalize hHc : upd (upd (upd _ l (.lst [])) T6 (.tup [nv z, .ref l])) pw (.lst (its ++ [.ref T6])) = Hc at gc
    walk_at "rd"
    refine ⟨A.ty_l gc.hm, ?_⟩
    walk_at "rd"
    refine A.v_len (.inl (SqL.of gc.hw)) ?_
    walk_at "rd"
    refine A.v_app gc.hm (A.smaller (by rw [nvs_len]; have := g.lenW; omega)) ?_
    have elen : V.int ((its ++ [V.ref T6]).length : Int) = nv (W.length + 1) := by simp [gb.len]
    rw [elen]
    have gd := gc.addM (v := W.length + 1)
    have gP := g.stepM hy' hz
    walk_at "rd"
    exact ⟨_, _, _, _, rfl, by simp; omega, gP, gd⟩
  · subst q1
    refine ⟨by have := (hJ Hx (fun _ _ h => by exact absurd h (by simp))).2; rwa [A.rgs_len] at this, ?_⟩
    walk_at "rd"
    obtain ⟨z0, hz0⟩ : ∃ z, M[at']? = some z := ⟨_, List.getElem?_eq_getElem (show at' < M.length by omega)⟩
    have hWl := g.lenW
    simp only [List.length_nil, Nat.add_zero] at hWl
    refine ⟨A.ty_l gi.hw, ?_⟩
    walk_at "rd"
    refine A.v_ixL (i := ((at' : Nat) : Int)) (SqL.of gi.hm) (at_nvs hz0) ?_
    walk_at "rd"
    refine ⟨A.len2, fun T6 hT6 => ?_⟩
    walk_at "rd"
    refine A.v_app (A.upd_keep gi.hw hT6) (A.smaller (by have := gi.len; omega)) ?_
    have gc := gi.addW (z := z0) (y := .ref d) hT6
    generalize hHc : upd (upd Hx T6 (.tup [nv z0, .ref d])) pw (.lst (its ++ [.ref T6])) = Hc at gc
    walk_at "rd"
    refine ⟨A.ty_l gc.hl, ?_⟩
    walk_at "rd"
    refine A.v_len (.inl (SqL.of gc.hw)) ?_
    walk_at "rd"
    refine A.v_app gc.hl (A.smaller (by simp [nvs])) ?_
    have elen : V.int ((its ++ [V.ref T6]).length : Int) = nv (W.length + 1) := by simp [gi.len]
    rw [elen]
    have gd := gc.addN (v := W.length + 1)
    have gP := g.stepN (z := z0) (g.mlt z0 (List.mem_of_getElem? hz0)) (fun _ => hz0) (fun h => absurd rfl h)
    generalize hHd : upd Hc pl (.lst (nvs [] ++ [nv (W.length + 1)])) = Hd at gd
    walk_at "rd"
    refine ⟨fun m σ Hx => ∃ its W M N z15, σ = [some (.ref sa.st), some (.ref p1), some (.ref p2), some (.int 1), some (nv at'), some (.int 1), some .non, some (.bl b), some (.ref d), some (nv bg), some (.ref pw), some (.ref pm), some (.ref pl), some (nv (M.length - 1)), some (nv (N.length - 1)), z15] ∧ Tr.PG L1 L2 at' W M N ∧
      bg + 1 ≤ M.length ∧ M.length ≤ L1.length + 1 ∧ 1 ≤ N.length ∧ N.length ≤ L2.length + 1 ∧ GI K H sa pw pm pl its W M N Hx (t + 1 + (M.length - 1 - bg) + (N.length - 1)) ∧ m = (L1.length + 1 - M.length) + (L2.length + 1 - N.length),
      ⟨_, _, _, M, [W.length + 1], z15, by rw [q2]; rfl, gP, by omega, by omega, by simp, by simp, by rw [q2]; simpa using gd, rfl⟩, fun m σ Hx ⟨its, W, M, N, z15, q1, g, r1, r2, r3, r4, gi, r5⟩ => ?_⟩
    clear gP gd hHd gc hHc hT6 T6 elen hWl hz0
    subst q1
    have hWl := g.lenW
    have l1 : ∀ Hy, A.Fr sa Hx Hy → Hy p1 = some (.lst its1) := fun Hy f => A.less_ex _ _ (f _ _ (gi.fr _ _ i1a))
    have l2 : ∀ Hy, A.Fr sa Hx Hy → Hy p2 = some (.lst its2) := fun Hy f => A.less_ex _ _ (f _ _ (gi.fr _ _ i2a))
    refine A.cutT _ (fun c Hy => c = (decide (M.length ≤ L1.length) || decide (N.length ≤ L2.length)) ∧ Hy = Hx) (fun R hR => ?_) (fun c Hy ⟨hc, hy⟩ => ?_)
    · walk_at "rd"
      refine A.v_len (.inl (SqL.of (l1 _ (A.Fr.refl _ _)))) ?_
      walk_at "rd"
      by_cases hm : M.length ≤ L1.length
      · rw [decide_eq_true (by rw [i1b]; omega)]
        walk_at "rd"
        exact hR _ _ ⟨by simp [hm], rfl⟩
      · rw [decide_eq_false (by rw [i1b]; omega)]
        walk_at "rd"
        refine A.v_len (.inl (SqL.of (l2 _ (A.Fr.refl _ _)))) ?_
        walk_at "rd"
        refine hR _ _ ⟨?_, rfl⟩
        rw [decide_eq_false hm, Bool.false_or]
        exact decide_eq_decide.mpr (by rw [i2b]; omega)
    subst hy
    by_cases hgo : M.length ≤ L1.length ∨ N.length ≤ L2.length
    · rw [hc, show (decide (M.length ≤ L1.length) || decide (N.length ≤ L2.length)) = true by simpa using hgo]
      walk_at "rd"
      refine ⟨fun σ' Hx => ∃ its W M' N' z15, σ' = [some (.ref sa.st), some (.ref p1), some (.ref p2), some (.int 1), some (nv at'), some (.int 1), some .non, some (.bl b), some (.ref d), some (nv bg), some (.ref pw), some (.ref pm), some (.ref pl), some (nv (M'.length - 1)), some (nv (N'.length - 1)), z15] ∧ Tr.PG L1 L2 at' W M' N' ∧
        bg + 1 ≤ M'.length ∧ M'.length ≤ L1.length + 1 ∧ 1 ≤ N'.length ∧ N'.length ≤ L2.length + 1 ∧ GI K H sa pw pm pl its W M' N' Hx (t + 1 + (M'.length - 1 - bg) + (N'.length - 1)) ∧ M'.length + N'.length = M.length + N.length + 1, fun σ' H' ⟨its, W, M', N', z15, w1, w2, w3, w4, w5, w6, w7, w8⟩ => ⟨_, by omega, its, W, M', N', z15, w1, w2, w3, w4, w5, w6, w7, rfl⟩, ?_⟩
      walk_at "st"
      refine A.r_ifS ?_
      refine A.cutT _ (fun c Hz => ((c = true → M.length ≤ L1.length) ∧ (c = false → N.length ≤ L2.length)) ∧ A.Fr sa Hy Hz ∧ A.Sw Hz sa (t + 1 + (M.length - 1 - bg) + (N.length - 1) + 1)) (fun R hR => ?_) (fun c Hz ⟨⟨hc1, hc2⟩, fz, hwz⟩ => ?_)
      · walk_at "rd"
        refine A.v_len (.inl (SqL.of (l2 _ (A.Fr.refl _ _)))) ?_
        walk_at "rd"
        by_cases hn : N.length ≤ L2.length
        · rw [decide_eq_false (by rw [i2b]; omega)]
          walk_at "rd"
          refine A.v_len (.inl (SqL.of (l1 _ (A.Fr.refl _ _)))) ?_
          walk_at "rd"
          by_cases hm : M.length ≤ L1.length
          · rw [decide_eq_true (by rw [i1b]; omega)]
            walk_at "rd"
            refine ⟨sa, t + 1 + (M.length - 1 - bg) + (N.length - 1), 2, rfl, gi.sw, by omega, by decide, by decide, fun r Hz hr2 fz hwz => ?_⟩
            walk_at "rd"
            exact hR _ _ ⟨⟨fun _ => hm, fun _ => hn⟩, fz, hwz⟩
          · rw [decide_eq_false (by rw [i1b]; omega)]
            walk_at "rd"
            exact hR _ _ ⟨⟨fun h => (by cases h), fun _ => hn⟩, A.Fr.refl _ _, gi.sw.le (by omega)⟩
        · rw [decide_eq_true (by rw [i2b]; omega)]
          walk_at "rd"
          exact hR _ _ ⟨⟨fun _ => by omega, fun h => (by cases h)⟩, A.Fr.refl _ _, gi.sw.le (by omega)⟩
      replace gi := gi.step fz hwz
      clear l1 l2
      cases c with
      | true =>
        have hm := hc1 rfl
        obtain ⟨y, hy⟩ : ∃ y, L1[M.length - 1]? = some y := ⟨_, List.getElem?_eq_getElem (show M.length - 1 < L1.length by omega)⟩
        have hyi := v1.2 _ y hy
        obtain ⟨z, hz⟩ : ∃ z, M[y]? = some z := ⟨_, List.getElem?_eq_getElem (show y < M.length by omega)⟩
        walk_at "rd"
        refine ⟨A.ty_l gi.hw, ?_⟩
        walk_at "rd"
        obtain ⟨ai, di, j1, j2, j3⟩ := item1 _ gi.fr _ y hy
        refine A.v_ixL (i := ((M.length - 1 : Nat) : Int)) (SqL.of (A.less_ex _ _ (gi.fr _ _ i1a))) (A.nat_at j1) ?_
        walk_at "rd"
        refine A.v_ixT (i := ((0 : Nat) : Int)) j2 (A.nat_at rfl) ?_
        refine A.v_ixL (i := ((y : Nat) : Int)) (SqL.of gi.hm) (at_nvs hz) ?_
        walk_at "rd"
        refine A.v_ixL (i := ((M.length - 1 : Nat) : Int)) (SqL.of (A.less_ex _ _ (gi.fr _ _ i1a))) (A.nat_at j1) ?_
        walk_at "rd"
        refine A.v_ixT (i := ((1 : Nat) : Int)) j2 (A.nat_at rfl) ?_
        walk_at "rd"
        refine A.v_lstU (.inl (SqL.of j3)) fun l hl => ?_
        have gb := gi.new (o := .lst []) hl
        walk_at "rd"
        refine ⟨A.len2, fun T6 hT6 => ?_⟩
        walk_at "rd"
        refine A.v_app (A.upd_keep gb.hw hT6) (A.smaller (by have := gb.len; omega)) ?_
        have gc := gb.addW (z := z) (y := .ref l) hT6
        walk_at "rd"
        refine ⟨A.ty_l gc.hm, ?_⟩
        walk_at "rd"
        refine A.v_len (.inl (SqL.of gc.hw)) ?_
        walk_at "rd"
        refine A.v_app gc.hm (A.smaller (by rw [nvs_len]; omega)) ?_
        have elen : V.int ((its ++ [V.ref T6]).length : Int) = nv (W.length + 1) := by simp [gb.len]
        rw [elen]
        have gd := gc.addM (v := W.length + 1)
        have gP := g.stepM hy hz
        walk_at "rd"
        refine ⟨its ++ [.ref T6], _, _, N, z15, ?_, gP, by simp; omega, by simp; omega, r3, r4, ?_, by simp; omega⟩
        · have e : V.int (((M.length - 1 : Nat) : Int) + 1) = nv ((M ++ [W.length + 1]).length - 1) := by
            rw [List.length_append, List.length_singleton]
            show V.int _ = V.int _
            congr 1; omega
          rw [e]; rfl
        · rw [List.length_append, List.length_singleton, show t + 1 + (M.length + 1 - 1 - bg) + (N.length - 1) = t + 1 + (M.length - 1 - bg) + (N.length - 1) + 1 by omega]; exact gd
      | false =>
        have hn := hc2 rfl
        obtain ⟨y, hy⟩ : ∃ y, L2[N.length - 1]? = some y := ⟨_, List.getElem?_eq_getElem (show N.length - 1 < L2.length by omega)⟩
        have hyi := v2.2 _ y hy
        obtain ⟨z, hz⟩ : ∃ z, N[y]? = some z := ⟨_, List.getElem?_eq_getElem (show y < N.length by omega)⟩
        walk_at "rd"
        refine ⟨A.ty_l gi.hw, ?_⟩
        walk_at "rd"
        obtain ⟨ai, di, j1, j2, j3⟩ := item2 _ gi.fr _ y hy
        refine A.v_ixL (i := ((N.length - 1 : Nat) : Int)) (SqL.of (A.less_ex _ _ (gi.fr _ _ i2a))) (A.nat_at j1) ?_
        walk_at "rd"
        refine A.v_ixT (i := ((0 : Nat) : Int)) j2 (A.nat_at rfl) ?_
        refine A.v_ixL (i := ((y : Nat) : Int)) (SqL.of gi.hl) (at_nvs hz) ?_
        walk_at "rd"
        refine A.v_ixL (i := ((N.length - 1 : Nat) : Int)) (SqL.of (A.less_ex _ _ (gi.fr _ _ i2a))) (A.nat_at j1) ?_
        walk_at "rd"
        refine A.v_ixT (i := ((1 : Nat) : Int)) j2 (A.nat_at rfl) ?_
        walk_at "rd"
        refine ⟨di, _, rfl, j3, fun l Hl el hl0 hl1 => ?_⟩
        have gb := gi.step (A.Fr.of el) (gi.sw.ext el)
        walk_at "rd"
        refine ⟨A.len2, fun T6 hT6 => ?_⟩
        walk_at "rd"
        refine A.v_app (A.upd_keep gb.hw hT6) (A.smaller (by have := gb.len; omega)) ?_
        have gc := gb.addW (z := z) (y := .ref l) hT6
        walk_at "rd"
        refine ⟨A.ty_l gc.hl, ?_⟩
        walk_at "rd"
        refine A.v_len (.inl (SqL.of gc.hw)) ?_
        walk_at "rd"
        refine A.v_app gc.hl (A.smaller (by rw [nvs_len]; omega)) ?_
        have elen : V.int ((its ++ [V.ref T6]).length : Int) = nv (W.length + 1) := by simp [gb.len]
        rw [elen]
        have gd := gc.addN (v := W.length + 1)
        have gP := g.stepN (z := z) (g.nlt z (List.mem_of_getElem? hz)).2 (fun e => by rw [e] at r3; simp at r3) (fun _ => ⟨y, hy, hz⟩)
        walk_at "rd"
        refine ⟨its ++ [.ref T6], _, M, _, z15, ?_, gP, r1, r2, by simp, by simp; omega, ?_, by simp; omega⟩
        · have e : V.int (((N.length - 1 : Nat) : Int) + 1) = nv ((N ++ [W.length + 1]).length - 1) := by
            rw [List.length_append, List.length_singleton]
            show V.int _ = V.int _
            congr 1; omega
          rw [e]; rfl
        · rw [List.length_append, List.length_singleton, show t + 1 + (M.length - 1 - bg) + (N.length + 1 - 1) = t + 1 + (M.length - 1 - bg) + (N.length - 1) + 1 by omega]; exact gd
    · rw [hc, show (decide (M.length ≤ L1.length) || decide (N.length ≤ L2.length)) = false by simpa using hgo]
      walk_at "rd"
      refine A.r_disp fun dd hdd => ?_
      walk_at "rd"
      refine ⟨upd_same, grK pw pm pl at', rfl, by show 6 ≤ 15; decide, ?_⟩
      rw [merge_gr]
      have hHdd : H dd = none := gi.fr.none (gi.sw.own hdd) hdd
      have od := gi.sw.own hdd
      have gn := (gi.new (o := .dK []) hdd)
      have dw : dd ≠ pw := Ne.symm (Ne.symm (A.ne_none gi.hw hdd))
      have dm : dd ≠ pm := (A.ne_none gi.hm hdd)
      have dl : dd ≠ pl := (A.ne_none gi.hl hdd)
      have ff : A.Fr sa Hy (upd (upd Hy dd (.dK [])) dd (.dK (grK pw pm pl at'))) := (A.Fr.refl _ _).new hdd |>.wr hdd
      have sw' := (gi.sw.new (o := .dK []) hdd).put (o := .dK (grK pw pm pl at')) od
      have gf := gi.step ff sw'
      have lk : ∀ {p : Addr} {xs : List V}, A.Own sa p → (upd (upd Hy dd (.dK [])) dd (.dK (grK pw pm pl at'))) p = some (.lst xs) → A.less sa (upd (upd Hy dd (.dK [])) dd (.dK (grK pw pm pl at'))) p = some (.lst xs) := fun o h => by rw [A.less_of o.st o.g]; exact h
      refine k dd pw pm pl W M N _ g (by omega) (by omega) (by rw [A.less_of od.st od.g, upd_same]) ⟨its, SqL.of (lk gf.ow gf.hw), gf.len, gf.pairs⟩ (lk gf.om gf.hm) (lk gf.ol gf.hl) gf.fr (gf.sw.le (by omega))
end
end T
set_option Elab.async false
set_option linter.all false
set_option maxRecDepth 100000
set_option maxHeartbeats 4000000
set_option autoImplicit false
namespace T
open PySem PySem.Spec PyProof.Rows L2
def sp_law_k01_asked (K : PySem.W.Frag) : Sp := fun vs H Q _ => ∃ s t v pl L, vs = [.ref s.st, v, .ref pl] ∧ A.Sw H s t ∧ t ≤ 10 ^ 8 ∧ Par K (A.less s H) v L ∧ VP L ∧ A.less s H pl = some (.lst (nvs (line L))) ∧ ∀ H', A.Fr s H H' → A.Sw H' s (t + 2) → Q (.bl true) H'
section
variable {P : Program} {w : World} {K : PySem.W.Frag} {mg : Str → Option Value} {base : Heap} {C1 C2 C3 C4 : Addr}
theorem ok_law_k01_asked (T : Txt K mg C1 C2 C3 C4) (F : A.Df K mg "_law_k01_asked" s_law_k01_asked)
    (c_law_as_same : A.ClG P w K mg base CX0 1 "_law_as_same" s_law_as_same P_law_as_same (sp_law_as_same K))
    (c_law_draw : A.Cl P w K mg base CX0 2 "_law_draw" s_law_draw P_law_draw sq_law_draw)
    (c_law_is_truth : A.Cl P w K mg base CX0 1 "_law_is_truth" s_law_is_truth P_law_is_truth sp_law_is_truth)
    (c_meet : A.Cl P w K mg base CX0 6 "meet" s_meet P_meet (sp_meet K))
    (c_law_k01_meet : A.Cl P w K mg base CX0 2 "_law_k01_meet" s_law_k01_meet P_law_k01_meet (sp_law_k01_meet K))
    (c_law_k01_up : A.Cl P w K mg base CX0 1 "_law_k01_up" s_law_k01_up P_law_k01_up (sp_law_k01_up K))
    (c_comes_of : A.Cl P w K mg base CX0 6 "comes_of" s_comes_of P_comes_of (sp_comes_of K))
    (c_place : A.Cl P w K mg base CX0 6 "place" s_place P_place (sp_place K))
    (c_is_ahead : A.Cl P w K mg base CX0 6 "is_ahead" s_is_ahead P_is_ahead (sp_is_ahead K))
    (c_next_in_line : A.Cl P w K mg base CX0 6 "next_in_line" s_next_in_line P_next_in_line (sp_next_in_line K))
    (c_stretch : A.Cl P w K mg base CX0 6 "stretch" s_stretch P_stretch (sp_stretch K)) :
    A.ClG P w K mg base CX0 7 "_law_k01_asked" s_law_k01_asked P_law_k01_asked (sp_law_k01_asked K) := by
  refine A.mk_clG F sc_law_k01_asked (fun vs H Q E h => ?_) bd_law_k01_asked (fun f cdv Ar outer s H vs Q E hcd hr hgd h => ?_)
  · obtain ⟨x, y, d, p, L, rfl, _⟩ := h; rfl
  obtain ⟨sa, t, v, pl, L, rfl, hw, ht, hv, h2, hpl, k⟩ := h
  refine ⟨_, (pss_cons (ps_set (i := 3) sc_law_k01_asked.nd rfl (by first | exact Or.inl rfl | exact Or.inr rfl) (pe_callB (A.c_len (K := K) rfl) (by rfl) T.n_len A.bb_len (pa_cons (pv 1) pa_nil)))
    (pss_cons (ps_par (i := 4) (j := 5) (by rfl) sc_law_k01_asked.nd rfl rfl (by decide) rfl rfl (pa_cons (A.pe_c c_law_draw hr (by decide) (by rfl) (pa_cons (pv 0) (pa_cons (pv 3) pa_nil))) (pa_cons (A.pe_c c_law_draw hr (by decide) (by rfl) (pa_cons (pv 0) (pa_cons (pv 3) pa_nil))) pa_nil)) (by rfl))
    (pss_cons (ps_par (i := 6) (j := 7) (by rfl) sc_law_k01_asked.nd rfl rfl (by decide) rfl rfl (pa_cons (A.e_bm (K := K) PySem.F.plainAttrs_list PySem.F.slot_list_index PySem.F.type_list_index (A.m_index (A.hu65 hr) (K := K) rfl) (pv 2) (pa_cons (pv 4) pa_nil) rfl) (pa_cons (A.e_bm (K := K) PySem.F.plainAttrs_list PySem.F.slot_list_index PySem.F.type_list_index (A.m_index (A.hu65 hr) (K := K) rfl) (pv 2) (pa_cons (pv 5) pa_nil) rfl) pa_nil)) (by rfl))
    (pss_cons (ps_set (i := 8) sc_law_k01_asked.nd rfl (by first | exact Or.inl rfl | exact Or.inr rfl) (pv 6))
    (pss_cons (ps_while PassesOwn.never (PW.pt (pw_and (pt_cmpR op_lt (pe_op (A.o_add (K := K) rfl) (pv 8) pe_int) (pv 3) (nomark _)) (pw_and1 (pt_cmpR (A.o_in (A.hu65 hr) (K := K) rfl) (pv 4) (A.pe_c c_law_k01_up hr (by decide) (by rfl) (pa_cons (pv 1) (pa_cons (pe_ix (A.o_ix (K := K) rfl) (pv 2) (pe_op (A.o_add (K := K) rfl) (pv 8) pe_int) (fun _ _ => rfl)) pa_nil))) (by rfl))))) (pss_one (ps_set (i := 8) sc_law_k01_asked.nd rfl (by first | exact Or.inl rfl | exact Or.inr rfl) (pe_op (A.o_add (K := K) rfl) (pv 8) pe_int))))
    (pss_cons (ps_if (PW.pt (pw_or (pt_not (pt_val (A.pe_cG (E := E0) c_law_as_same pass0 hr hgd (by decide) (by rfl) (pa_cons (A.pe_cK0 (E := E0) (ks := ["version", "parents"]) (perm := [1, 0]) c_place pass0 hr (by decide) (by rfl) kb_place_1_0 (pk_cons (pv 4) (pk_cons (pv 1) pk_nil))) (pa_cons (pv 6) pa_nil))))) (pw_or1 (pt_not (pt_val (A.pe_c c_law_is_truth hr (by decide) (by rfl) (pa_cons (A.pe_cK0 (E := E0) (ks := ["other", "one", "parents"]) (perm := [2, 1, 0]) c_is_ahead pass0 hr (by decide) (by rfl) kb_is_ahead_2_1_0 (pk_cons (pv 5) (pk_cons (pv 4) (pk_cons (pv 1) pk_nil)))) (pa_cons (pe_cmpR op_lt (pv 6) (pv 7) (nomark _)) pa_nil)))))))) (pss_one (ps_ret pe_bl)) pss_nil)
    (pss_cons (ps_if (PW.pt (pw_or (pt_not (pt_val (A.pe_cG (E := E0) c_law_as_same pass0 hr hgd (by decide) (by rfl) (pa_cons (A.pe_c c_next_in_line hr (by decide) (by rfl) (pa_cons (pv 1) (pa_cons (pv 4) pa_nil))) (pa_cons (pe_ifExp (pt_cmpR op_lt (pe_op (A.o_add (K := K) rfl) (pv 6) pe_int) (pv 3) (nomark _)) (pe_ix (A.o_ix (K := K) rfl) (pv 2) (pe_op (A.o_add (K := K) rfl) (pv 6) pe_int) (fun _ _ => rfl)) pe_non) pa_nil))))) (pw_or1 (pt_not (pt_val (A.pe_cG (E := E0) c_law_as_same pass0 hr hgd (by decide) (by rfl) (pa_cons (A.pe_cK0 (E := E0) (ks := ["version", "parents"]) (perm := [1, 0]) c_stretch pass0 hr (by decide) (by rfl) kb_stretch_1_0 (pk_cons (pv 4) (pk_cons (pv 1) pk_nil))) (pa_cons (pe_tup (pa_cons (pv 6) (pa_cons (pv 8) pa_nil))) pa_nil)))))))) (pss_one (ps_ret pe_bl)) pss_nil)
    (pss_cons (ps_if (pt_not (pt_val (A.pe_c c_law_is_truth hr (by decide) (by rfl) (pa_cons (A.pe_cK0 (E := E0) (ks := ["other", "one", "parents"]) (perm := [2, 1, 0]) c_comes_of pass0 hr (by decide) (by rfl) kb_comes_of_2_1_0 (pk_cons (pv 4) (pk_cons (pv 5) (pk_cons (pv 1) pk_nil)))) (pa_cons (pe_chain op_le op_le (pv 6) (pv 7) (pv 8)) pa_nil))))) (pss_one (ps_ret pe_bl)) pss_nil)
    (pss_one (ps_ret (A.pe_cG (E := E0) c_law_as_same pass0 hr hgd (by decide) (by rfl) (pa_cons (A.pe_cK0 (E := E0) (ks := ["other", "one", "parents"]) (perm := [2, 1, 0]) c_meet pass0 hr (by decide) (by rfl) kb_meet_2_1_0 (pk_cons (pv 5) (pk_cons (pv 4) (pk_cons (pv 1) pk_nil)))) (pa_cons (A.pe_c c_law_k01_meet hr (by decide) (by rfl) (pa_cons (pv 1) (pa_cons (pv 4) (pa_cons (pv 5) pa_nil)))) pa_nil))))))))))))), ?_⟩
  have hl := low_of h2
  have hL := h2.1
  obtain ⟨g, hm⟩ := Tr.good_line L.length hl
  have hlen := lineN_len L
  walk_at "rd"
  have hv0 := par_ex A.less_ex hv
  obtain ⟨a, rfl, hva⟩ := hv
  refine A.v_len (.inr (A.sqT_ex A.less_ex hva)) ?_
  rw [pvs_len]
  walk_at "rd"
  refine ⟨sa, t, L.length + 1, rfl, hw, by omega, by omega, by omega, fun x H1 hx f1 hw1 => ?_⟩
  walk_at "rd"
  refine ⟨sa, t + 1, L.length + 1, rfl, hw1, by omega, by omega, by omega, fun y H2 hy f2 hw2 => ?_⟩
  walk_at "rd"
  have f2' := f1.trans f2
  have lst : ∀ H', A.Ex H2 H' → H' pl = some (.lst (nvs (line L))) := fun H' e => e _ _ (A.less_ex _ _ (f2' _ _ hpl))
  have pv : ∀ H', A.Ex H2 H' → Par K H' (.ref a) L := fun H' e => ⟨a, rfl, A.sqT_ex e (A.sqT_ex A.less_ex (A.sqT_ex f2' hva))⟩
  have e2 : A.Ex H2 H2 := A.Ex.refl _
  have hxL : x ≤ L.length := by omega
  have hyL : y ≤ L.length := by omega
  refine ⟨A.ty_l (lst _ e2), ?_⟩
  walk_at "rd"
  refine v_line h2 (SqL.of (lst _ e2)) hxL ?_
  walk_at "rd"
  refine ⟨A.ty_l (lst _ e2), ?_⟩
  walk_at "rd"
  refine v_line h2 (SqL.of (lst _ e2)) hyL ?_
  walk_at "rd"
  obtain ⟨X, B, eL, hX⟩ := Tr.split_at ((hm x).mpr hxL)
  have eL : line L = X ++ x :: B := eL
  have ei : (line L).idxOf x = X.length := by rw [eL, idx_split hX]
  obtain ⟨R, eB, hR⟩ := Tr.tw_split x B
  have hB : X.length + B.length = L.length := by rw [eL] at hlen; simp at hlen; omega
  have hTB : (Tr.tw x B).length + R.length = B.length := by rw [← List.length_append, ← eB]
  have bm := fun z => Tr.block_mem g eL z
  rw [ei]
  have ndl : (line L).Nodup := g.nodup
  have hT : ∀ j, (hj : j < B.length) → (j < (Tr.tw x B).length ↔ Tr.Anc (pr L) x B[j]) := fun j hj => by
    have hBl : B[j] ∈ line L := by rw [eL]; simp
    constructor
    · intro hjT
      have e5 : B[j]? = (Tr.tw x B)[j]? := by
        conv => lhs; rw [eB]
        exact List.getElem?_append_left hjT
      rw [List.getElem?_eq_getElem hj, List.getElem?_eq_getElem hjT] at e5
      rw [Option.some.inj e5]
      exact ((bm _).mp (List.mem_cons_of_mem _ (List.getElem_mem hjT))).2
    · intro ha
      have h3 := (bm B[j]).mpr ⟨hBl, ha⟩
      have h4 := (Tr.pos_block ndl eL hBl).mp h3
      have h5 : (line L)[X.length + j + 1]? = some B[j] := by
        rw [eL, List.getElem?_append_right (by omega), show X.length + j + 1 - X.length = j + 1 by omega, List.getElem?_cons_succ, List.getElem?_eq_getElem hj]
      obtain ⟨h6, h7⟩ := List.getElem?_eq_some_iff.mp h5
      have h8 : (line L).idxOf B[j] = X.length + j + 1 := by
        obtain ⟨A1, C1, ea, hA1⟩ := Tr.split_at hBl
        rw [ea, Tr.idx_at hA1]
        have h9 : (line L)[A1.length]? = some B[j] := by rw [ea]; simp
        obtain ⟨h10, h11⟩ := List.getElem?_eq_some_iff.mp h9
        exact (List.getElem_inj ndl (h₀ := h10) (h₁ := h6)).mp (h11.trans h7.symm)
      omega
  refine ⟨fun m σ Hx => ∃ j, j ≤ (Tr.tw x B).length ∧ m = (Tr.tw x B).length - j ∧ A.Ex H2 Hx ∧ σ = [some (.ref sa.st), some (.ref a), some (.ref pl), some (nv (L.length + 1)), some (nv x), some (nv y), some (nv X.length), some (nv ((line L).idxOf y)), some (nv (X.length + j))],
    ⟨_, 0, Nat.zero_le _, rfl, e2, rfl⟩, fun m σ Hx ⟨j, q1, q2, q3, q4⟩ => ?_⟩
  subst q4
  have gt : ∀ b, B[j]? = some b → (line L)[X.length + j + 1]? = some b := fun b hb => by
    rw [eL, List.getElem?_append_right (by omega), show X.length + j + 1 - X.length = j + 1 by omega, List.getElem?_cons_succ]
    exact hb
  refine A.cutT _ (fun c Hz => c = decide (j < (Tr.tw x B).length) ∧ A.Ex H2 Hz) (fun R hR => ?_) (fun c Hz ⟨hc, e3⟩ => ?_)
  · walk_at "rd"
    by_cases hj : j < B.length
    · rw [decide_eq_true (by omega)]
      walk_at "rd"
      refine A.v_ixL (i := ((X.length + j + 1 : Nat) : Int)) (SqL.of (lst _ q3)) (at_nvs (gt _ (List.getElem?_eq_getElem hj))) ?_
      walk_at "rd"
      have hBj : B[j] ≤ L.length := (hm _).mp (by show B[j] ∈ line L; rw [eL]; simp)
      refine ⟨.ref a, L, B[j], rfl, pv _ q3, h2, hBj, fun pu us Hu eu hnu hu1 hu2 => ?_⟩
      have lu := up_len h2 hBj hu2
      have bu : ∀ z ∈ us, z < 10 ^ 9 := fun z hz => by have := Tr.anc_le hl hBj ((hu2.1 z).mp hz); omega
      refine ⟨nd x, nds us, .int _, dp_nvs (SqL.of hu1), (ok_nd (by omega)).shaped, (ok_nl bu (by omega)).shaped, ?_⟩
      have ein : ((nds us).any fun z => PyData.eqv z (nd x)) = decide (j < (Tr.tw x B).length) := by
        rw [show decide (j < (Tr.tw x B).length) = decide (x ∈ us) from decide_eq_decide.mpr ((hT j hj).trans (hu2.1 x).symm)]
        unfold nds
        rw [List.any_map]
        clear hu1 hu2 lu bu
        induction us with
        | nil => simp
        | cons c t ih =>
          rw [List.any_cons, ih]
          show (PyData.eqv (nd c) (nd x) || _) = _
          rw [eqv_nd, ← Bool.decide_or]
          exact decide_eq_decide.mpr (by simp [eq_comm])
      rw [ein]
      walk_at "rd"
      exact hR _ _ ⟨rfl, q3.trans eu⟩
    · rw [decide_eq_false (by omega)]
      walk_at "rd"
      exact hR _ _ ⟨(decide_eq_false (by omega)).symm, q3⟩
  by_cases hjT : j < (Tr.tw x B).length
  · rw [hc, decide_eq_true hjT]
    walk_at "rd"
    refine ⟨fun σ' H' => j + 1 ≤ (Tr.tw x B).length ∧ A.Ex H2 H' ∧ σ' = [some (.ref sa.st), some (.ref a), some (.ref pl), some (nv (L.length + 1)), some (nv x), some (nv y), some (nv X.length), some (nv ((line L).idxOf y)), some (nv (X.length + (j + 1)))], fun σ' H' ⟨w1, w2, w3⟩ => ⟨m - 1, by omega, j + 1, w1, by omega, w2, w3⟩, ?_⟩
    walk_at "rd"
    exact ⟨by omega, e3, rfl⟩
  obtain rfl : j = (Tr.tw x B).length := by omega
  rw [hc, decide_eq_false hjT]
  walk_at "rd"
  have okn : ∀ n : Nat, n ≤ 10000 → A.Ok (nd n) := fun n hn => ok_nd (by omega)
  have hidy : (line L).idxOf y < (line L).length := List.idxOf_lt_length_of_mem ((hm y).mpr hyL)
  refine ⟨rfl, .ref a, L, x, rfl, pv _ e3, h2, hxL, fun H4 e4 => ?_⟩
  rw [ei]
  walk_at "rd"
  refine ⟨_, _, nd X.length, rfl, .int _, .int _, okn _ (by omega), ?_⟩
  walk_at "rd"
  replace e4 := e3.trans e4
  refine ⟨rfl, .ref a, L, x, y, rfl, pv _ e4, h2, hxL, hyL, fun H5 e5 => ?_⟩
  rw [ei]
  walk_at "rd"
  refine ⟨decide (X.length < (line L).idxOf y), by rw [show decide ((X.length : Int) < (((line L).idxOf y : Nat) : Int)) = decide (X.length < (line L).idxOf y) from decide_eq_decide.mpr (by omega)]; rfl, ?_⟩
  walk_at "rd"
  replace e5 := e4.trans e5
  refine ⟨.ref a, L, x, rfl, pv _ e5, h2, hxL, fun H6 e6 => ?_⟩
  refine A.r_cons ?_
  replace e6 := e5.trans e6
  refine A.cutE _ (fun z Hz => z = nextV (line L) x ∧ Hz = H6) (fun R hR => ?_) (fun z Hz ⟨hz, hz2⟩ => ?_)
  · walk_at "rd"
    unfold nextV at hR
    rw [ei] at hR
    by_cases hi : X.length + 1 < (line L).length
    · rw [decide_eq_true (by omega)]
      walk_at "rd"
      refine A.v_ixL (i := ((X.length + 1 : Nat) : Int)) (SqL.of (lst _ e6)) (at_nvs (List.getElem?_eq_getElem hi)) ?_
      rw [List.getElem?_eq_getElem hi] at hR
      exact hR _ _ ⟨rfl, rfl⟩
    · rw [decide_eq_false (by omega)]
      walk_at "rd"
      rw [List.getElem?_eq_none (by omega)] at hR
      exact hR _ _ ⟨rfl, rfl⟩
  subst hz hz2
  walk_at "rd"
  obtain ⟨dn, hdn, okd⟩ : ∃ d, (∀ H', Dp K H' (nextV (line L) x) d) ∧ A.Ok d := by
    unfold nextV
    cases hh : (line L)[(line L).idxOf x + 1]? with
    | none => exact ⟨.none, fun _ => .non, A.gd_non.mono (by decide) (by decide)⟩
    | some z => exact ⟨nd z, fun _ => .int _, ok_nd (by have := (hm z).mp (List.mem_of_getElem? hh); omega)⟩
  refine ⟨_, _, dn, rfl, hdn _, hdn _, okd, ?_⟩
  walk_at "rd"
  refine ⟨rfl, .ref a, L, x, X, B, rfl, pv _ e6, h2, eL, hX, fun q H7 e7 h7 => ?_⟩
  walk_at "rd"
  refine ⟨A.len2, fun q2 hq2 => ?_⟩
  walk_at "rd"
  replace e7 := e6.trans e7
  have hss : ∀ b ∈ [X.length, X.length + (Tr.tw x B).length], b < 10 ^ 9 := fun b hb => by simp at hb; omega
  refine ⟨_, _, .tuple (nds [X.length, X.length + (Tr.tw x B).length]), rfl, dp_nvt (A.sqT_ex (A.Ex.new (A.Ex.refl _) hq2) h7), dp_nvt (.inl (.inl upd_same)), ok_nt hss (by simp), ?_⟩
  have e8 := e7.trans (A.Ex.new (o := .tup [nv X.length, nv (X.length + (Tr.tw x B).length)]) (A.Ex.refl _) hq2)
  walk_at "rd"
  refine ⟨rfl, .ref a, L, y, x, rfl, pv _ e8, h2, hyL, hxL, fun c H9 hc9 e9 => ?_⟩
  refine A.r_cons ?_
  replace e9 := e8.trans e9
  have hpb := Tr.pos_block ndl eL ((hm y).mpr hyL)
  refine A.cutE _ (fun z Hz => z = .bl c ∧ Hz = H9) (fun R hR => ?_) (fun z Hz ⟨hz, hz2⟩ => ?_)
  · walk_at "rd"
    have hcc : c = true ↔ X.length ≤ (line L).idxOf y ∧ (line L).idxOf y ≤ X.length + (Tr.tw x B).length := by
      rw [hc9, ← hpb, bm y]
      exact ⟨fun h => ⟨(hm y).mpr hyL, h⟩, fun h => h.2⟩
    by_cases h1 : X.length ≤ (line L).idxOf y
    · rw [decide_eq_true (by omega)]
      walk_at "rd"
      refine hR _ _ ⟨?_, rfl⟩
      congr 1
      rw [Bool.eq_iff_iff, hcc, decide_eq_true_iff]
      omega
    · rw [decide_eq_false (by omega)]
      walk_at "rd"
      refine hR _ _ ⟨?_, rfl⟩
      congr 1
      rw [Bool.eq_iff_iff, hcc]
      simp; omega
  subst hz hz2
  walk_at "rd"
  refine ⟨c, rfl, ?_⟩
  walk_at "rd"
  refine ⟨rfl, .ref a, L, x, y, rfl, pv _ e9, h2, hxL, hyL, fun m1 H10 hm1 hm1n e10 => ?_⟩
  walk_at "rd"
  replace e10 := e9.trans e10
  refine ⟨.ref a, L, x, y, rfl, pv _ e10, h2, hxL, hyL, fun m2 H11 hm2 hm2n e11 => ?_⟩
  walk_at "rd"
  have := Tr.meet_unique hl hxL hm1 hm2
  subst this
  refine ⟨_, _, nd m1, rfl, .int _, .int _, okn _ (by omega), ?_⟩
  exact k H11 (f2'.ext (e10.trans e11)) (hw2.ext (e10.trans e11))
end
end T
set_option Elab.async false
set_option linter.all false
set_option maxRecDepth 100000
set_option maxHeartbeats 4000000
set_option autoImplicit false
namespace T
open PySem PySem.Spec PyProof.Rows L2
def sp_law_k01_bent (K : PySem.W.Frag) : Sp := fun vs H Q _ => ∃ s t a l, vs = [.ref s.st, .ref a] ∧ A.Sw H s t ∧ t ≤ 10 ^ 8 ∧ SqT K (A.less s H) a (nvs l) ∧ l ≠ [] ∧ l.length ≤ 2000 ∧ (∀ x ∈ l, x ≤ 2000) ∧ ∀ x d H', Dp K (A.less s H') x d → Bent d → A.Fr s H H' → A.Sw H' s (t + 3) → Q x H'
/-- a value that the line's check may be asked -/
def BV (K : PySem.W.Frag) (G : Hp) (x : V) : Prop := ∃ d, Dp K G x d ∧ Bent d
theorem bv_ex {K : PySem.W.Frag} {G G' : Hp} {x : V} (e : A.Ex G G') (h : BV K G x) : BV K G' x := let ⟨d, h1, h2⟩ := h; ⟨d, A.dp_ex e h1, h2⟩
def Atom (d : PyData) : Prop := d.canLay0 = true ∧ d.depth = 0
theorem shaped_atoms {ds : List PyData} (h : ∀ d ∈ ds, Atom d) : SeqAt.shaped (.tuple ds) = true ∧ SeqAt.shaped (.list ds) = true := by
  have k : PyData.canLayAll0 ds = true ∧ PyData.depthAll ds = 0 := by
    induction ds with
    | nil => exact ⟨by simp [PyData.canLayAll0], by simp [PyData.depthAll]⟩
    | cons d r ih =>
      obtain ⟨i1, i2⟩ := ih fun x hx => h x (List.mem_cons_of_mem _ hx)
      obtain ⟨h1, h2⟩ := h d List.mem_cons_self
      exact ⟨by simp [PyData.canLayAll0, h1, i1], by simp [PyData.depthAll, h2, i2]⟩
  constructor
  · unfold SeqAt.shaped
    rw [show (PyData.tuple ds).canLay0 = PyData.canLayAll0 ds by simp only [PyData.canLay0], k.1, show (PyData.tuple ds).depth = PyData.depthAll ds + 1 by simp only [PyData.depth], k.2]
    rfl
  · unfold SeqAt.shaped
    rw [show (PyData.list ds).canLay0 = PyData.canLayAll0 ds by simp only [PyData.canLay0], k.1, show (PyData.list ds).depth = PyData.depthAll ds + 1 by simp only [PyData.depth], k.2]
    rfl
theorem atom_nd (n : Nat) : Atom (nd n) := ⟨rfl, by simp [PyData.depth]⟩
theorem atom_int (n : Int) : Atom (.int n) := ⟨rfl, by simp [PyData.depth]⟩
theorem atom_bl (b : Bool) : Atom (.bool b) := ⟨rfl, by simp [PyData.depth]⟩
theorem atom_nds {l : List Nat} : ∀ d ∈ nds l, Atom d := fun d hd => by
  unfold nds at hd
  obtain ⟨n, _, rfl⟩ := List.mem_map.mp hd
  exact atom_nd n
theorem bv_tup {K : PySem.W.Frag} {G : Hp} {p : Addr} {xs : List V} {ds : List PyData} (h : SqT K G p xs) (h2 : DpAll K G xs ds) (ha : ∀ d ∈ ds, Atom d) (hl : ds.length ≤ 10000) : BV K G (.ref p) := ⟨.tuple ds, .tup h h2, (shaped_atoms ha).1, hl⟩
theorem bv_nvs {K : PySem.W.Frag} {G : Hp} {p : Addr} {l : List Nat} (h : SqT K G p (nvs l)) (hl : l.length ≤ 10000) : BV K G (.ref p) := bv_tup h (dpa_nvs l) atom_nds (by rw [nds_len]; exact hl)
section
variable {P : Program} {w : World} {K : PySem.W.Frag} {mg : Str → Option Value} {base : Heap} {C1 C2 C3 C4 : Addr}
theorem ok_law_k01_bent (T : Txt K mg C1 C2 C3 C4) (F : A.Df K mg "_law_k01_bent" s_law_k01_bent) (c_law_draw : A.Cl P w K mg base CX0 2 "_law_draw" s_law_draw P_law_draw sq_law_draw) (c_law_pick : A.Cl P w K mg base CX0 3 "_law_pick" s_law_pick P_law_pick (sq_law_pick K)) : A.Cl P w K mg base CX0 4 "_law_k01_bent" s_law_k01_bent P_law_k01_bent (sp_law_k01_bent K) := by
  refine A.mk_cl F sc_law_k01_bent (fun vs H Q E h => ?_) bd_law_k01_bent (fun f cdv Ar outer s H vs Q E hr h => ?_)
  · obtain ⟨sa, t, a, l, rfl, _⟩ := h; rfl
  obtain ⟨sa, t, a, l, rfl, hw, ht, ha, hl0, hlz, hlb, k⟩ := h
  refine ⟨_, (pss_cons (ps_par (i := 2) (j := 3) (by rfl) sc_law_k01_bent.nd rfl rfl (by decide) rfl rfl (pa_cons (A.pe_c c_law_draw hr (by decide) (by rfl) (pa_cons (pv 0) (pa_cons (pe_callB (A.c_len (K := K) rfl) (by rfl) T.n_len A.bb_len (pa_cons (pv 1) pa_nil)) pa_nil))) (pa_cons (A.pe_c c_law_draw hr (by decide) (by rfl) (pa_cons (pv 0) (pa_cons (pe_callB (A.c_len (K := K) rfl) (by rfl) T.n_len A.bb_len (pa_cons (pv 1) pa_nil)) pa_nil))) pa_nil)) (by rfl))
    (pss_cons (ps_set (i := 4) sc_law_k01_bent.nd rfl (by first | exact Or.inl rfl | exact Or.inr rfl) (pe_callTy (A.c_list (K := K) rfl) (by rfl) T.n_list A.bt_list (pa_cons (pv 1) pa_nil)))
    (pss_cons (ps_asg (pe_tup (pa_cons (pe_ix (A.o_ix (K := K) rfl) (pv 1) (pv 3) (fun _ _ => rfl)) (pa_cons (pe_ix (A.o_ix (K := K) rfl) (pv 1) (pv 2) (fun _ _ => rfl)) pa_nil))) (A.p_tup (K := K) (n := 2) (by rfl) (pgs_cons (pg_sub (pv 4) (pv 2) set_list) (pgs_cons (pg_sub (pv 4) (pv 3) set_list) pgs_nil)) rfl))
    (pss_cons (ps_set (i := 5) sc_law_k01_bent.nd rfl (by first | exact Or.inl rfl | exact Or.inr rfl) (pe_lst (pa_cons (pe_callTy (A.c_tuple (K := K) rfl) (by rfl) T.n_tuple A.bt_tuple (pa_cons (pv 4) pa_nil)) (pa_cons (pe_op (A.o_add (K := K) rfl) (pv 1) (pe_tup (pa_cons (pe_op (A.o_add (K := K) rfl) (pe_callB (A.c_len (K := K) rfl) (by rfl) T.n_len A.bb_len (pa_cons (pv 1) pa_nil)) pe_int) pa_nil))) (pa_cons (pe_op (A.o_add (K := K) rfl) (pe_slice (A.o_sl (K := K) rfl) (pv 1) po_none (po_some (pv 2))) (pe_slice (A.o_sl (K := K) rfl) (pv 1) (po_some (pe_op (A.o_add (K := K) rfl) (pv 2) pe_int)) po_none)) (pa_cons (pe_op (A.o_add (K := K) rfl) (pv 1) (pe_slice (A.o_sl (K := K) rfl) (pv 1) po_none (po_some pe_int))) (pa_cons (pe_callTy (A.c_list (K := K) rfl) (by rfl) T.n_list A.bt_list (pa_cons (pv 1) pa_nil)) (pa_cons (pe_op (A.o_add (K := K) rfl) (pe_tup (pa_cons pe_bl pa_nil)) (pe_slice (A.o_sl (K := K) rfl) (pv 1) (po_some pe_int) po_none)) (pa_cons (pe_op (A.o_add (K := K) rfl) (pe_op (A.o_add (K := K) rfl) (pe_slice (A.o_sl (K := K) rfl) (pv 1) po_none (po_some (pv 2))) (pe_tup (pa_cons (pe_callTy A.c_str (by rfl) T.n_str A.bt_str (pa_cons (pe_ix (A.o_ix (K := K) rfl) (pv 1) (pv 2) (fun _ _ => rfl)) pa_nil)) pa_nil))) (pe_slice (A.o_sl (K := K) rfl) (pv 1) (po_some (pe_op (A.o_add (K := K) rfl) (pv 2) pe_int)) po_none)) pa_nil)))))))))
    (pss_one (ps_ret (A.pe_c c_law_pick hr (by decide) (by rfl) (pa_cons (pv 0) (pa_cons (pe_op (A.o_add (K := K) rfl) (pv 5) (pe_lst (pa_cons (pe_tup pa_nil) (pa_cons pe_non (pa_cons pe_int (pa_cons (pe_tup (pa_cons pe_int pa_nil)) (pa_cons (pe_tup (pa_cons pe_int (pa_cons (pe_un un_neg pe_int) pa_nil))) (pa_cons (pv 1) pa_nil)))))))) pa_nil))))))))), ?_⟩
  have hlen : 0 < l.length := List.length_pos_iff.mpr hl0
  walk_at "rd"
  refine A.v_len (.inr (A.sqT_ex A.less_ex ha)) ?_
  rw [nvs_len]
  walk_at "rd"
  refine ⟨sa, t, l.length, rfl, hw, by omega, by omega, by omega, fun x H1 hx f1 hw1 => ?_⟩
  walk_at "rd"
  have la : ∀ H', A.Fr sa H H' → SqT K H' a (nvs l) := fun H' f => A.sqT_ex A.less_ex (A.sqT_ex f ha)
  refine A.v_len (.inr (la _ f1)) ?_
  rw [nvs_len]
  walk_at "rd"
  refine ⟨sa, t + 1, l.length, rfl, hw1, by omega, by omega, by omega, fun y H2 hy f2 hw2 => ?_⟩
  have f2' := f1.trans f2
  walk_at "rd"
  refine A.v_lstU (.inr (la _ f2')) fun sm hsm => ?_
  walk_at "rd"
  refine A.v_ixT (i := ((y : Nat) : Int)) (la _ (f2'.new hsm)) (at_nvs (List.getElem?_eq_getElem hy)) ?_
  walk_at "rd"
  refine A.v_ixT (i := ((x : Nat) : Int)) (la _ (f2'.new hsm)) (at_nvs (List.getElem?_eq_getElem hx)) ?_
  walk_at "rd"
  refine ⟨A.len2, fun T1 hT1 => ?_⟩
  refine A.r_gtup (.inl (.inl upd_same)) rfl ?_
  walk_at "rd"
  have osm := hw2.own hsm
  have s1 := A.upd_keep (p := T1) (o := .tup [nv l[y], nv l[x]]) (upd_same (H := H2) (a := sm) (o := .lst (nvs l))) hT1
  refine A.v_setL (i := x) s1 (by rw [nvs_len]; exact hx) ?_
  walk_at "rd"
  refine A.v_setL (i := y) upd_same (by rw [List.length_set, nvs_len]; exact hy) ?_
  have hw3 := (((hw2.new (o := .lst (nvs l)) hsm).new (o := .tup [nv l[y], nv l[x]]) hT1).put (o := .lst ((nvs l).set x (nv l[y]))) osm).put (o := .lst (((nvs l).set x (nv l[y])).set y (nv l[x]))) osm
  have fa0 : A.Fr sa H _ := (((f2'.new (o := .lst (nvs l)) hsm).new (o := .tup [nv l[y], nv l[x]]) hT1).wr (p := sm) (o := .lst ((nvs l).set x (nv l[y]))) (f2'.none osm hsm)).wr (p := sm) (o := .lst (((nvs l).set x (nv l[y])).set y (nv l[x]))) (f2'.none osm hsm)
  have es : ((nvs l).set x (nv l[y])).set y (nv l[x]) = nvs ((l.set x l[y]).set y l[x]) := by unfold nvs; rw [List.map_set, List.map_set]
  have s3 : (upd (upd (upd (upd H2 sm (.lst (nvs l))) T1 (.tup [nv l[y], nv l[x]])) sm (.lst ((nvs l).set x (nv l[y])))) sm (.lst (((nvs l).set x (nv l[y])).set y (nv l[x])))) sm = some (.lst (nvs ((l.set x l[y]).set y l[x]))) := by rw [upd_same, es]
  generalize hH3 : upd (upd (upd (upd H2 sm (.lst (nvs l))) T1 (.tup [nv l[y], nv l[x]])) sm (.lst ((nvs l).set x (nv l[y])))) sm (.lst (((nvs l).set x (nv l[y])).set y (nv l[x]))) = H0 at hw3 fa0 s3
  refine A.r_gnil ?_
  walk_at "st"
  refine A.r_lst ?_
  refine A.r_cons ?_
  refine A.cutE _ (fun z Hz => BV K (A.less sa Hz) z ∧ A.Fr sa H0 Hz ∧ A.Sw Hz sa (t + 2)) (fun R hR => ?_) (fun z1 H1 ⟨b1, f1, hw1⟩ => ?_)
  · walk_at "rd"
    refine A.v_tupL (SqL.of s3) fun p Hp ep hp => ?_
    exact hR _ _ ⟨bv_nvs ((hw3.ext ep).wd.tup hp) (by simp; omega), A.Fr.of ep, hw3.ext ep⟩
  have fa1 := fa0.trans f1
  refine A.r_cons ?_
  refine A.cutE _ (fun z Hz => BV K (A.less sa Hz) z ∧ A.Fr sa H1 Hz ∧ A.Sw Hz sa (t + 2)) (fun R hR => ?_) (fun z2 H2 ⟨b2, f2, hw2⟩ => ?_)
  · walk_at "rd"
    refine A.v_len (.inr (la _ fa1)) ?_
    walk_at "rd"
    refine ⟨A.len1, fun p hp => ?_⟩
    rw [nvs_len]
    refine A.v_catT (la _ (fa1.new hp)) (.inl (.inl upd_same)) (A.small (by rw [nvs_len]; simp; omega)) fun q Hq eq hq => ?_
    have hwq := (hw1.new (o := .tup [V.int ((l.length : Int) + 1)]) hp).ext eq
    refine hR _ _ ⟨bv_nvs (l := l ++ [l.length + 1]) (hwq.wd.tup (by unfold nvs at hq ⊢; rw [List.map_append]; exact hq)) (by simp; omega), ((A.Fr.refl _ _).new hp).ext eq, hwq⟩
  have fa2 := fa1.trans f2
  refine A.r_cons ?_
  refine A.cutE _ (fun z Hz => BV K (A.less sa Hz) z ∧ A.Fr sa H2 Hz ∧ A.Sw Hz sa (t + 2)) (fun R hR => ?_) (fun z3 H3 ⟨b3, f3, hw3⟩ => ?_)
  · walk_at "rd"
    refine A.v_slT (la _ fa2) fun p Hp ep hp => ?_
    walk_at "rd"
    refine A.v_slT (la _ (fa2.ext ep)) fun q Hq eq hq => ?_
    refine A.v_catT (A.sqT_ex eq hp) hq (A.small (by have := cutV_length (nvs l) none (some ((x : Nat) : Int)); have := cutV_length (nvs l) (some (((x : Nat) : Int) + 1)) none; rw [nvs_len] at *; omega)) fun r Hr er hr => ?_
    have hwr := ((hw2.ext ep).ext eq).ext er
    rw [A.cut_to (by rw [nvs_len]; omega), show (((x : Nat) : Int) + 1) = ((x + 1 : Nat) : Int) from rfl, A.cut_from (by rw [nvs_len]; omega)] at hr
    refine hR _ _ ⟨bv_nvs (l := l.take x ++ l.drop (x + 1)) (hwr.wd.tup (by unfold nvs at hr ⊢; rw [List.map_append, List.map_take, List.map_drop]; exact hr)) (by simp; omega), (((A.Fr.refl _ _).ext ep).ext eq).ext er, hwr⟩
  have fa3 := fa2.trans f3
  refine A.r_cons ?_
  refine A.cutE _ (fun z Hz => BV K (A.less sa Hz) z ∧ A.Fr sa H3 Hz ∧ A.Sw Hz sa (t + 2)) (fun R hR => ?_) (fun z4 H4 ⟨b4, f4, hw4⟩ => ?_)
  · walk_at "rd"
    refine A.v_slT (la _ fa3) fun p Hp ep hp => ?_
    refine A.v_catT (la _ (fa3.ext ep)) hp (A.small (by have := cutV_length (nvs l) none (some (1 : Int)); rw [nvs_len] at *; omega)) fun r Hr er hr => ?_
    have hwr := (hw3.ext ep).ext er
    rw [show (1 : Int) = ((1 : Nat) : Int) from rfl, A.cut_to (by rw [nvs_len]; omega)] at hr
    refine hR _ _ ⟨bv_nvs (l := l ++ l.take 1) (hwr.wd.tup (by unfold nvs at hr ⊢; rw [List.map_append, List.map_take]; exact hr)) (by simp; omega), ((A.Fr.refl _ _).ext ep).ext er, hwr⟩
  have fa4 := fa3.trans f4
  refine A.r_cons ?_
  refine A.cutE _ (fun z Hz => BV K (A.less sa Hz) z ∧ A.Fr sa H4 Hz ∧ A.Sw Hz sa (t + 2)) (fun R hR => ?_) (fun z5 H5 ⟨b5, f5, hw5⟩ => ?_)
  · walk_at "rd"
    refine A.v_lstU (.inr (la _ fa4)) fun p hp => ?_
    have hwp := hw4.new (o := .lst (nvs l)) hp
    refine hR _ _ ⟨⟨.list (nds l), dp_nvs (SqL.of (by rw [A.less_of (hw4.own hp).st (hw4.own hp).g, upd_same])), (shaped_atoms atom_nds).2, Nat.zero_le _⟩, (A.Fr.refl _ _).new hp, hwp⟩
  have fa5 := fa4.trans f5
  refine A.r_cons ?_
  refine A.cutE _ (fun z Hz => BV K (A.less sa Hz) z ∧ A.Fr sa H5 Hz ∧ A.Sw Hz sa (t + 2)) (fun R hR => ?_) (fun z6 H6 ⟨b6, f6, hw6⟩ => ?_)
  · walk_at "rd"
    refine ⟨A.len1, fun p hp => ?_⟩
    walk_at "rd"
    refine A.v_slT (la _ (fa5.new hp)) fun q Hq eq hq => ?_
    refine A.v_catT (A.sqT_ex eq (.inl (.inl upd_same))) hq (A.small (by have := cutV_length (nvs l) (some (1 : Int)) none; rw [nvs_len] at this; simp; omega)) fun r Hr er hr => ?_
    have hwr := ((hw5.new (o := .tup [V.bl false]) hp).ext eq).ext er
    rw [show (1 : Int) = ((1 : Nat) : Int) from rfl, A.cut_from (by rw [nvs_len]; omega)] at hr
    have hr' := hwr.wd.tup hr
    refine hR _ _ ⟨bv_tup (ds := .bool false :: nds (l.drop 1)) hr' (by
      rw [show (nvs l).drop 1 = nvs (l.drop 1) from by unfold nvs; rw [List.map_drop]]
      exact .cons (.bl false) (dpa_nvs _)) (fun d hd => by
        rcases List.mem_cons.mp hd with e | hd
        · rw [e]; exact atom_bl _
        · exact atom_nds d hd) (by simp [nds_len]; omega), (((A.Fr.refl _ _).new hp).ext eq).ext er, hwr⟩
  have fa6 := fa5.trans f6
  refine A.r_cons ?_
  refine A.cutE _ (fun z Hz => BV K (A.less sa Hz) z ∧ A.Fr sa H6 Hz ∧ A.Sw Hz sa (t + 2)) (fun R hR => ?_) (fun z7 H7 ⟨b7, f7, hw7⟩ => ?_)
  · walk_at "rd"
    refine A.v_slT (la _ fa6) fun p Hp ep hp => ?_
    walk_at "rd"
    refine A.v_ixT (i := ((x : Nat) : Int)) (la _ (fa6.ext ep)) (at_nvs (List.getElem?_eq_getElem hx)) ?_
    walk_at "rd"
    have hlx := hlb _ (List.getElem_mem hx)
    refine A.r_str1 (by omega) ?_
    walk_at "rd"
    refine ⟨A.len1, fun q hq => ?_⟩
    refine A.v_catT (A.sqT_ex (A.Ex.new (A.Ex.refl _) hq) hp) (.inl (.inl upd_same)) (A.small (by have := cutV_length (nvs l) none (some ((x : Nat) : Int)); rw [nvs_len] at this; simp; omega)) fun r Hr er hr => ?_
    walk_at "rd"
    refine A.v_slT (la _ (((fa6.ext ep).new hq).ext er)) fun u Hu eu hu => ?_
    refine A.v_catT (A.sqT_ex eu hr) hu (A.small (by have := cutV_length (nvs l) none (some ((x : Nat) : Int)); have := cutV_length (nvs l) (some (((x : Nat) : Int) + 1)) none; rw [nvs_len] at *; simp; omega)) fun v Hv ev hv => ?_
    have hwr := ((((hw6.ext ep).new (o := .tup [V.str (toString ((l[x] : Nat) : Int))]) hq).ext er).ext eu).ext ev
    rw [A.cut_to (by rw [nvs_len]; omega), show (((x : Nat) : Int) + 1) = ((x + 1 : Nat) : Int) from rfl, A.cut_from (by rw [nvs_len]; omega)] at hv
    have hv' := hwr.wd.tup hv
    refine hR _ _ ⟨bv_tup (ds := (nds (l.take x) ++ [.str (toString ((l[x] : Nat) : Int))]) ++ nds (l.drop (x + 1))) hv' (by
      rw [show (nvs l).drop (x + 1) = nvs (l.drop (x + 1)) from by unfold nvs; rw [List.map_drop], show (nvs l).take x = nvs (l.take x) from by unfold nvs; rw [List.map_take]]
      exact A.dpa_app (A.dpa_app (dpa_nvs _) (.cons (.str _) .nil)) (dpa_nvs _)) (fun d hd => by
        rcases List.mem_append.mp hd with hd | hd
        · rcases List.mem_append.mp hd with hd | hd
          · exact atom_nds d hd
          · rw [List.mem_singleton.mp hd]; exact ⟨A.strOk_of _, by simp [PyData.depth]⟩
        · exact atom_nds d hd) (by simp [nds_len]; omega), ((((A.Fr.refl _ _).ext ep).new hq).ext er).ext eu |>.ext ev, hwr⟩
  have fa7 := fa6.trans f7
  refine A.r_nil ?_
  refine ⟨A.len7, fun pv hpv => ?_⟩
  have b1' := bv_ex (f2.trans (f3.trans (f4.trans (f5.trans (f6.trans f7))))) b1
  have b2' := bv_ex (f3.trans (f4.trans (f5.trans (f6.trans f7)))) b2
  have b3' := bv_ex (f4.trans (f5.trans (f6.trans f7))) b3
  have b4' := bv_ex (f5.trans (f6.trans f7)) b4
  have b5' := bv_ex (f6.trans f7) b5
  have b6' := bv_ex f7 b6
  have opv := hw7.own hpv
  have hw8 := hw7.new (o := .lst [z1, z2, z3, z4, z5, z6, z7]) hpv
  have f8 := fa7.new (o := .lst [z1, z2, z3, z4, z5, z6, z7]) hpv
  have g8 : A.Fr sa H7 (upd H7 pv (.lst [z1, z2, z3, z4, z5, z6, z7])) := (A.Fr.refl _ _).new hpv
  have hv8 : (upd H7 pv (.lst [z1, z2, z3, z4, z5, z6, z7])) pv = some (.lst [z1, z2, z3, z4, z5, z6, z7]) := upd_same
  generalize hH8 : upd H7 pv (.lst [z1, z2, z3, z4, z5, z6, z7]) = H8 at hw8 f8 g8 hv8
  walk_at "rd"
  refine ⟨Nat.zero_le _, fun p1 hp1 => ?_⟩
  walk_at "rd"
  refine ⟨A.len1, fun p2 hp2 => ?_⟩
  walk_at "rd"
  refine ⟨A.len2, fun p3 hp3 => ?_⟩
  walk_at "rd"
  refine ⟨A.small (by show 6 ≤ 100000; decide), fun p4 hp4 => ?_⟩
  have w1 := hw8.new (o := .tup []) hp1
  have w2 := w1.new (o := .tup [V.int 1]) hp2
  have w3 := w2.new (o := .tup [V.int 0, V.int (-1)]) hp3
  have w4 := w3.new (o := .lst [V.ref p1, V.non, V.int 5, V.ref p2, V.ref p3, V.ref a]) hp4
  refine A.v_catL (A.upd_keep (A.upd_keep (A.upd_keep (A.upd_keep hv8 hp1) hp2) hp3) hp4) upd_same (A.small (by simp)) fun p5 hp5 => ?_
  have w5 := w4.new (o := .lst ([z1, z2, z3, z4, z5, z6, z7] ++ [V.ref p1, V.non, V.int 5, V.ref p2, V.ref p3, V.ref a])) hp5
  walk_at "rd"
  have hq1 := w1.wd.tup (p := p1) (K := K) (xs := []) (.inl (.inl upd_same))
  have hq2 := w2.wd.tup (p := p2) (K := K) (xs := [V.int 1]) (.inl (.inl upd_same))
  have hq3 := w3.wd.tup (p := p3) (K := K) (xs := [V.int 0, V.int (-1)]) (.inl (.inl upd_same))
  have c1 := bv_tup (K := K) hq1 .nil (fun d hd => by cases hd) (Nat.zero_le _)
  have c2 := bv_tup (K := K) hq2 (.cons (.int 1) .nil) (fun d hd => by rw [List.mem_singleton.mp hd]; exact atom_int _) (by simp)
  have c3 := bv_tup (K := K) hq3 (.cons (.int 0) (.cons (.int (-1)) .nil)) (fun d hd => by
    rcases List.mem_cons.mp hd with e | hd
    · rw [e]; exact atom_int _
    · rw [List.mem_singleton.mp hd]; exact atom_int _) (by simp)
  have c4 : BV K (A.less sa H) (.ref a) := bv_nvs ha (by omega)
  have n1 : A.Fr sa H8 _ := (A.Fr.refl _ _).new (o := .tup []) hp1
  have n2 : A.Fr sa _ _ := (A.Fr.refl sa _).new (o := .tup [V.int 1]) hp2
  have n3 : A.Fr sa _ _ := (A.Fr.refl sa _).new (o := .tup [V.int 0, V.int (-1)]) hp3
  have n4 : A.Fr sa _ _ := (A.Fr.refl sa _).new (o := .lst [V.ref p1, V.non, V.int 5, V.ref p2, V.ref p3, V.ref a]) hp4
  have n5 : A.Fr sa _ _ := (A.Fr.refl sa _).new (o := .lst ([z1, z2, z3, z4, z5, z6, z7] ++ [V.ref p1, V.non, V.int 5, V.ref p2, V.ref p3, V.ref a])) hp5
  have n35 := n4.trans n5
  have n25 := n3.trans n35
  have n15 := n2.trans n25
  have n05 := n1.trans n15
  have nz := g8.trans n05
  refine ⟨sa, t + 2, p5, _, rfl, w5, by omega, upd_same, w4.g_ne hp5, by simp, by simp, fun i x Hf hxi ff hwf => ?_⟩
  have hb : BV K (A.less sa Hf) x := by
    have all : ∀ z ∈ ([z1, z2, z3, z4, z5, z6, z7] ++ [V.ref p1, V.non, V.int 5, V.ref p2, V.ref p3, V.ref a]), BV K (A.less sa Hf) z := fun z hz => by
      simp only [List.mem_append, List.mem_cons, List.not_mem_nil, or_false] at hz
      rcases hz with (rfl | rfl | rfl | rfl | rfl | rfl | rfl) | (rfl | rfl | rfl | rfl | rfl | rfl)
      · exact bv_ex (nz.trans ff) b1'
      · exact bv_ex (nz.trans ff) b2'
      · exact bv_ex (nz.trans ff) b3'
      · exact bv_ex (nz.trans ff) b4'
      · exact bv_ex (nz.trans ff) b5'
      · exact bv_ex (nz.trans ff) b6'
      · exact bv_ex (nz.trans ff) b7
      · exact bv_ex (n15.trans ff) c1
      · exact ⟨.none, .non, by decide, by decide⟩
      · exact ⟨.int 5, .int 5, by decide, by decide⟩
      · exact bv_ex (n25.trans ff) c2
      · exact bv_ex (n35.trans ff) c3
      · exact bv_ex ((f8.trans n05).trans ff) c4
    exact all x (List.mem_of_getElem? hxi)
  obtain ⟨d, hd1, hd2⟩ := hb
  exact k x d Hf hd1 hd2 ((f8.trans n05).trans ff) hwf
end
end T
set_option Elab.async false
set_option linter.all false
set_option maxRecDepth 100000
set_option maxHeartbeats 4000000
set_option autoImplicit false
namespace T
open PySem PySem.Spec PyProof.Rows L2
theorem isL_line {L : List Nat} (h : VP L) : IsL (.tuple (nds (line L))) (line L) := by
  obtain ⟨g, hm⟩ := Tr.good_line _ (low_of h)
  refine ⟨rfl, g.head, ?_⟩
  refine (List.perm_ext_iff_of_nodup g.nodup List.nodup_range).mpr fun x => ?_
  rw [List.mem_range, lineN_len]
  exact (hm x).trans Nat.lt_succ_iff.symm
theorem any_nds {y : Nat} {M : List Nat} : ((nds M).any fun z => PyData.eqv z (nd y)) = decide (y ∈ M) := by
  unfold nds
  rw [List.any_map]
  induction M with
  | nil => simp
  | cons c t ih =>
    rw [List.any_cons, ih]
    show (PyData.eqv (nd c) (nd y) || _) = _
    rw [eqv_nd, ← Bool.decide_or]
    exact decide_eq_decide.mpr (by simp [eq_comm])
def inF (M : List Nat) : V → Option V
  | .int z => if z.toNat ∈ M then some (.int z) else none
  | _ => none
def mapF (g : Nat → Nat) : V → Option V
  | .int z => some (nv (g z.toNat))
  | _ => none
theorem inF_y {M : List Nat} {c : Nat} (h : c ∈ M) : inF M (nv c) = some (nv c) := by
  show (if (c : Int).toNat ∈ M then some (V.int c) else none) = _
  rw [Int.toNat_natCast, if_pos h]
theorem inF_n {M : List Nat} {c : Nat} (h : c ∉ M) : inF M (nv c) = none := by
  show (if (c : Int).toNat ∈ M then some (V.int c) else none) = _
  rw [Int.toNat_natCast, if_neg h]
theorem mapF_y {g : Nat → Nat} {c : Nat} : mapF g (nv c) = some (nv (g c)) := by
  show some (nv (g (c : Int).toNat)) = _
  rw [Int.toNat_natCast]
theorem fm_in {us M : List Nat} : (nvs us).filterMap (inF M) = nvs (us.filter (fun x => decide (x ∈ M))) := by
  induction us with
  | nil => rfl
  | cons c t ih =>
    show List.filterMap _ (nv c :: nvs t) = _
    by_cases hc : c ∈ M
    · rw [List.filterMap_cons_some (inF_y hc), List.filter_cons_of_pos (by simpa using hc), ih]; rfl
    · rw [List.filterMap_cons_none (inF_n hc), List.filter_cons_of_neg (by simpa using hc), ih]
theorem fm_map {us : List Nat} {g : Nat → Nat} : (nvs us).filterMap (mapF g) = nvs (us.map g) := by
  induction us with
  | nil => rfl
  | cons c t ih =>
    show List.filterMap _ (nv c :: nvs t) = _
    rw [List.filterMap_cons_some mapF_y, ih]; rfl
theorem ok_line {L : List Nat} (h : VP L) : A.Ok (.tuple (nds (line L))) := ok_nt (fun x hx => by have := line_lt h x hx; have := h.1; omega) (by rw [lineN_len]; have := h.1; omega)
theorem tree_line {L : List Nat} (h : VP L) {ys : List V} (hy : TreeV (line L) ys) : ys = pvs L := by
  obtain ⟨hl, hv⟩ := hy
  obtain ⟨g, hm⟩ := Tr.good_line _ (low_of h)
  rw [lineN_len] at hl
  refine List.ext_getElem? fun v => ?_
  by_cases hvl : v < L.length + 1
  · have hmem : v ∈ line L := (hm v).mpr (by omega)
    obtain ⟨i, hi, e⟩ := List.mem_iff_getElem.mp hmem
    have hi' : (line L)[i]? = some v := by rw [List.getElem?_eq_getElem hi, e]
    obtain ⟨h1, h2⟩ := hv i v hi'
    by_cases h0 : i = 0
    · have hv0 : v = 0 := by
        have := g.head
        have e0 : (line L).head? = some 0 := this
        rw [List.head?_eq_getElem?] at e0
        rw [h0, e0] at hi'
        exact (Option.some.inj hi').symm
      rw [h1 h0, hv0]; rfl
    · have hv0 : v ≠ 0 := fun e0 => h0 (by
        have e1 : (line L)[0]? = some 0 := by rw [← List.head?_eq_getElem?]; exact g.head
        obtain ⟨q1, q2⟩ := List.getElem?_eq_some_iff.mp e1
        exact (List.getElem_inj g.nodup (h₀ := hi) (h₁ := q1)).mp (by rw [e, q2, e0]))
      obtain ⟨X, x, e1, e2⟩ := h2 h0
      obtain ⟨X', e3⟩ := Tr.last_smaller g hi' hv0
      rw [show Tr.lineN (pr L) L.length = line L from rfl, e1] at e3
      have e4 : x = pr L v := by
        have := congrArg List.getLast? e3
        simpa using this
      obtain ⟨u, rfl⟩ : ∃ u, v = u + 1 := ⟨v - 1, by omega⟩
      rw [e2, pvs_get, List.getElem?_eq_getElem (by omega), e4]
      unfold pr
      rw [List.getD_eq_getElem?_getD, Nat.add_sub_cancel, List.getElem?_eq_getElem (by omega)]; rfl
  · rw [List.getElem?_eq_none (by omega), List.getElem?_eq_none (by rw [pvs_len]; omega)]
end T
set_option Elab.async false
set_option linter.all false
set_option maxRecDepth 100000
set_option maxHeartbeats 4000000
set_option autoImplicit false
namespace T
open PySem PySem.Spec PyProof.Rows L2
def lamQ : Str := (envOfC "law" (defScope s_law) 0 0 .none).qual ++ "<lambda>"
/-- a turn's things -/
structure TF (K : PySem.W.Frag) (sa : A.Sta) (Hl : Hp) (q q1 q2 pm pl ph : Addr) (W L1 L2 M N : List Nat) (at' : Nat) : Prop where
  Fq : SqT K (A.Lx sa Hl) q (pvs W)
  F1 : SqT K (A.Lx sa Hl) q1 (pvs L1)
  F2 : SqT K (A.Lx sa Hl) q2 (pvs L2)
  Fm : A.Lx sa Hl pm = some (.lst (nvs M))
  Fl : A.Lx sa Hl pl = some (.lst (nvs N))
  Fh : A.Lx sa Hl ph = some (.lst (nvs (line W)))
  vpW : VP W
  vp1 : VP L1
  vp2 : VP L2
  pg : Tr.PG L1 L2 at' W M N
  hM : M.length = L1.length + 1
  hN : N.length = L2.length + 1
  hn1 : L1.length < 60
  hn2 : L2.length < 60
  hW : W.length = L1.length + L2.length + 1
  hat : at' ≤ L1.length
abbrev sg (a st : Addr) (i : Nat) (p1 p2 : Addr) (at' : Nat) (d q pm pl q1 q2 ph : Addr) (z13 : Option V) (bg en : Nat) (pi : Addr) (z17 z18 z19 z20 z21 z22 : Option V) : L2.St :=
  [some (.ref a), some (.ref st), some (nv i), some (.ref p1), some (.ref p2), some (nv at'), some (.ref d), some (.ref q), some (.ref pm), some (.ref pl), some (.ref q1), some (.ref q2), some (.ref ph), z13, some (nv bg), some (nv en), some (.ref pi), z17, z18, z19, z20, z21, z22]
def t_if3 (K : PySem.W.Frag) (C3 : Addr) : TS := tIfS
    (tOr
      (tTest
        (tOp (rNeD K) (tSl (A.rSlU K) (tVar 12) (tPart (tVar 14)) (tPart (tOp (A.rAddU K) (tVar 15) (tC (V.int 1)))))
          (tVar 16)))
      (tOr
        (tNot
          (tB
            (tCall (sp_law_as_same K) [] E0
              (tCons
                (A.tCallKK (sp_tree_of K C3) [0] E0 [Str.ofString "line"].length
                  (tCons
                    (tCB (A.rTupU K)
                      (tCons
                        (tLc (A.iSeq K (tVar 16)) (gName 13) tYes
                          (tBM K "list" (rIndexD K) (tVar 9) (tCons (tVar 13) tNil))
                          (List.map (fun x => x.snd) [(Str.ofString "version", 13)]))
                        tNil))
                    tNil))
                (tCons (tVar 11) tNil)))))
        (tNot
          (tB
            (tCall (sp_law_as_same K) [] E0
              (tCons (tCall (sp_tree_of K C3) [] E0 (tCons (tCB (A.rTupU K) (tCons (tVar 12) tNil)) tNil))
                (tCons (tVar 7) tNil)))))))
    (tRet (tC (V.bl false))) tNext
theorem bent_nds {l : List Nat} (hl : l.length ≤ 10000) : Bent (.tuple (nds l)) := ⟨(shaped_atoms atom_nds).1, by show (nds l).length ≤ 10000; rw [nds_len]; exact hl⟩
section
variable {K : PySem.W.Frag} {C3 : Addr} {sa : A.Sta} {T0 : List (Addr × Str)} {Hl H : Hp} {q q1 q2 pm pl ph : Addr} {W L1 L2' M N : List Nat} {at' t : Nat} {nx bk ct : L2.St → Hp → Prop} {rt : V → Hp → Prop}
theorem if3_ok (F : TF K sa Hl q q1 q2 pm pl ph W L1 L2' M N at') (b0 : A.Bx sa T0 Hl H t) {a : Addr} {i : Nat} {p1 p2 d : Addr} {z13 : Option V} {pi : Addr} {z17 z18 z19 z20 z21 z22 : Option V} {X B : List Nat} {z0 : Nat}
    (eL : line W = X ++ z0 :: B) (lb : z0 :: Tr.tw z0 B = (line L2').map (fun j => N.getD j 0)) (Fi : A.Lx sa H pi = some (.lst (nvs ((line L2').map (fun j => N.getD j 0)))))
    (k : ∀ H', A.Bx sa T0 Hl H' t → nx (sg a sa.st i p1 p2 at' d q pm pl q1 q2 ph z13 X.length (X.length + (Tr.tw z0 B).length) pi z17 z18 z19 z20 z21 z22) H') :
    t_if3 K C3 { nx := nx, rt := rt, bk := bk, ct := ct } (sg a sa.st i p1 p2 at' d q pm pl q1 q2 ph z13 X.length (X.length + (Tr.tw z0 B).length) pi z17 z18 z19 z20 z21 z22) H := by
  obtain ⟨Fq, F1, F2, Fm, Fl, Fh, vpW, vp1, vp2, pg, hM, hN, hn1, hn2, hW, hat⟩ := F
  have lW := lineN_len W
  have l2 := lineN_len L2'
  have bN : ∀ x ∈ N, x < 10 ^ 9 := fun x hx => by have := (pg.nlt x hx).2; omega
  have Nat' : ∀ y, y ≤ L2'.length → N[y]? = some (N.getD y 0) := fun y hy => by rw [List.getD_eq_getElem?_getD, List.getElem?_eq_getElem (show y < N.length by omega)]; rfl
  have b1 : A.Bx sa T0 H H t := ⟨A.Ex.refl _, b0.sw, b0.tb⟩
  have lT : (Tr.tw z0 B).length + 1 = (line L2').length := by have := congrArg List.length lb; simpa using this
  obtain ⟨R, eB, _⟩ := Tr.tw_split z0 B
  have lBB : X.length + 1 + B.length = W.length + 1 := by rw [eL] at lW; simp at lW; omega
  have lTB : (Tr.tw z0 B).length ≤ B.length := by have := congrArg List.length eB; rw [List.length_append] at this; omega
  unfold t_if3
  walk_at "rd"
  refine A.v_slL (SqL.of (b0.at Fh)) fun p hp => ?_
  have b2 := b0.new (o := .lst (cutV (nvs (line W)) (some ((X.length : Nat) : Int)) (some (((X.length + (Tr.tw z0 B).length : Nat) : Int) + 1)))) hp
  have b2' := b1.new (o := .lst (cutV (nvs (line W)) (some ((X.length : Nat) : Int)) (some (((X.length + (Tr.tw z0 B).length : Nat) : Int) + 1)))) hp
  walk_at "rd"
  have ec : cutV (nvs (line W)) (some ((X.length : Nat) : Int)) (some (((X.length + (Tr.tw z0 B).length : Nat) : Int) + 1)) = nvs (z0 :: Tr.tw z0 B) := by
    rw [show ((X.length + (Tr.tw z0 B).length : Nat) : Int) + 1 = ((X.length + (Tr.tw z0 B).length + 1 : Nat) : Int) from rfl, A.cut_mid (by rw [nvs_len]; omega) (by rw [nvs_len]; omega)]
    have : ((line W).drop X.length).take (X.length + (Tr.tw z0 B).length + 1 - X.length) = z0 :: Tr.tw z0 B := by
      rw [eL, List.drop_left, show X.length + (Tr.tw z0 B).length + 1 - X.length = (Tr.tw z0 B).length + 1 by omega, List.take_succ_cons]
      have h : ∀ (T B : List Nat), B = T ++ R → B.take T.length = T := fun T B e => by rw [e, List.take_left]
      rw [h _ _ eB]
    unfold nvs
    rw [← List.map_drop, ← List.map_take, this]
  have okz : ∀ x ∈ z0 :: Tr.tw z0 B, x < 10 ^ 9 := fun x hx => by
    rw [lb] at hx
    obtain ⟨y, hy, rfl⟩ := List.mem_map.mp hx
    have hyl := line_lt vp2 y hy
    exact bN _ (List.mem_of_getElem? (Nat' y hyl))
  refine A.v_neD (dp_nvs (l := z0 :: Tr.tw z0 B) (SqL.of (by rw [upd_same, ec]))) (dp_nvs (l := z0 :: Tr.tw z0 B) (SqL.of (by rw [lb]; exact b2'.at Fi))) (ok_nl okz (by simp; omega)).shaped (ok_nl okz (by simp; omega)).shaped ?_
  rw [(ok_nl okz (by simp; omega)).refl]
  generalize hH2 : upd H p (.lst (cutV (nvs (line W)) (some ((X.length : Nat) : Int)) (some (((X.length + (Tr.tw z0 B).length : Nat) : Int) + 1)))) = H2 at b2 b2'
  walk_at "rd"
  -- the tree of what was grafted
  refine A.i_seq H2 (.inl (SqL.of (b2'.at Fi))) (A.Ex.refl _) fun J hJ => ?_
  intro D1 hD1
  refine A.lc_seq hJ (A.Ex.refl _) (by rw [nvs_len, List.length_map]; omega) (mapF fun z => N.idxOf z) hD1 (fun j x H4 Y Nn hx hE hY hNn => ?_) (fun H3 hE3 hDD1 => ?_)
  · rw [nvs_get, List.getElem?_map] at hx
    obtain ⟨y', hy', rfl⟩ := Option.map_eq_some_iff.mp hx
    obtain ⟨y, hy, rfl⟩ := Option.map_eq_some_iff.mp hy'
    walk_at "rd"
    refine ⟨rfl, ?_⟩
    walk_at "rd"
    refine ⟨A.ty_l (hE _ _ (b2.at Fl)), ?_⟩
    walk_at "rd"
    have hyl := line_lt vp2 y (List.mem_of_getElem? hy)
    refine v_idx (SqL.of (hE _ _ (b2.at Fl))) (List.mem_of_getElem? (Nat' y hyl)) bN (by omega) ?_
    exact hY _ _ mapF_y (A.Ex.refl _)
  rw [fm_map, List.map_map] at hDD1
  have eid : (line L2').map ((fun z => N.idxOf z) ∘ fun j => N.getD j 0) = line L2' := by
    have : ∀ y ∈ line L2', ((fun z => N.idxOf z) ∘ fun j => N.getD j 0) y = y := fun y hy => by
      have hyl := line_lt vp2 y hy
      show N.idxOf (N.getD y 0) = y
      have hnd : N.Nodup := pg.ns.imp (fun {a b} h => Nat.ne_of_lt h)
      obtain ⟨A1, C1, ea, hA1⟩ := Tr.split_at (List.mem_of_getElem? (Nat' y hyl))
      have h1 : N.idxOf (N.getD y 0) = A1.length := by
        have := Tr.idx_at (C := C1) hA1
        rw [← ea] at this; exact this
      have h2 : N[A1.length]? = some (N.getD y 0) := by
        generalize N.getD y 0 = g at ea hA1
        rw [ea]; simp
      obtain ⟨q1, q2⟩ := List.getElem?_eq_some_iff.mp h2
      obtain ⟨q3, q4⟩ := List.getElem?_eq_some_iff.mp (Nat' y hyl)
      rw [h1]
      exact (List.getElem_inj hnd (h₀ := q1) (h₁ := q3)).mp (q2.trans q4.symm)
    exact (List.map_congr_left this).trans (List.map_id _)
  rw [eid] at hDD1
  have b3 := b2.ext hE3
  walk_at "rd"
  refine A.v_tupL (SqL.of hDD1) fun p5 H5 e5 h5 => ?_
  have b5 := b3.ext e5
  walk_at "rd"
  refine ⟨rfl, .ref p5, _, rfl, dp_nvt h5, bent_nds (by omega), fun l hl p6 ys H6 e6 h6 hty => ?_, fun h => absurd ⟨_, isL_line vp2⟩ h⟩
  obtain rfl : line L2' = l := by obtain ⟨e, _⟩ := hl; injection e with e; exact inj_nds e
  have hys := tree_line vp2 hty
  subst hys
  have b6 := b5.ext e6
  walk_at "rd"
  refine ⟨_, _, _, rfl, par_dp h6, par_dp (b6.tup F2), ok_pt vp2, ?_⟩
  walk_at "rd"
  -- the tree of the whole
  refine A.v_tupL (SqL.of (b6.at Fh)) fun p7 H7 e7 h7 => ?_
  have b7 := b6.ext e7
  walk_at "rd"
  refine ⟨.ref p7, _, rfl, dp_nvt h7, bent_nds (by omega), fun l hl p8 ys H8 e8 h8 hty => ?_, fun h => absurd ⟨_, isL_line vpW⟩ h⟩
  obtain rfl : line W = l := by obtain ⟨e, _⟩ := hl; injection e with e; exact inj_nds e
  have hys := tree_line vpW hty
  subst hys
  have b8 := b7.ext e8
  walk_at "rd"
  refine ⟨_, _, _, rfl, par_dp h8, par_dp (b8.tup Fq), ok_pt vpW, ?_⟩
  walk_at "rd"
  exact k _ b8
end
end T
set_option Elab.async false
set_option linter.all false
set_option maxRecDepth 100000
set_option maxHeartbeats 4000000
set_option autoImplicit false
namespace T
open PySem PySem.Spec PyProof.Rows L2
def t_asked (K : PySem.W.Frag) : TS := tIfS
                (tNot (tB (tCall (sp_law_k01_asked K) [] E0 (tCons (tVar 1) (tCons (tVar 7) (tCons (tVar 12) tNil))))))
                (tRet (tC (V.bl false))) tNext
def t_draws (K : PySem.W.Frag) : TS := tPar 18 19
                  (tCons (tCall sq_law_draw [] E0 (tCons (tVar 1) (tCons (tCB (A.rLenU K) (tCons (tVar 8) tNil)) tNil)))
                    (tCons
                      (tCall sq_law_draw [] E0 (tCons (tVar 1) (tCons (tCB (A.rLenU K) (tCons (tVar 9) tNil)) tNil)))
                      tNil))
def t_meets (K : PySem.W.Frag) : TS := tIfS
                    (tOr
                      (tNot
                        (tB
                          (tCall (sp_law_as_same K) [] E0
                            (tCons
                              (tCall (sp_meet K) [] E0
                                (tCons (tVar 7)
                                  (tCons (tOp (rIx K) (tVar 8) (tVar 18))
                                    (tCons (tOp (rIx K) (tVar 9) (tVar 19)) tNil))))
                              (tCons
                                (tOp (rIx K) (tVar 8)
                                  (tCall (sp_meet K) [] E0 (tCons (tVar 10) (tCons (tVar 18) (tCons (tVar 5) tNil)))))
                                tNil)))))
                      (tNot
                        (tB
                          (tCall sp_law_is_truth [] E0
                            (tCons
                              (tCall (sp_comes_of K) [] E0
                                (tCons (tVar 7)
                                  (tCons (tOp (rIx K) (tVar 9) (tVar 19))
                                    (tCons (tOp (rIx K) (tVar 8) (tVar 18)) tNil))))
                              (tCons
                                (tCall (sp_comes_of K) [] E0 (tCons (tVar 10) (tCons (tVar 5) (tCons (tVar 18) tNil))))
                                tNil))))))
                    (tRet (tC (V.bl false))) tNext
def t_truth (K : PySem.W.Frag) : TS := tIfS
                      (tNot
                        (tB
                          (tCall sp_law_is_truth [] E0
                            (tCons
                              (tCall (sp_comes_of K) [] E0
                                (tCons (tVar 7)
                                  (tCons (tOp (rIx K) (tVar 8) (tVar 18))
                                    (tCons (tOp (rIx K) (tVar 9) (tVar 19)) tNil))))
                              (tCons (tC (V.bl false)) tNil)))))
                      (tRet (tC (V.bl false))) tNext
def t_bent (K : PySem.W.Frag) : TS := tAsg
                        (tCall (sp_law_k01_bent K) [] E0
                          (tCons (tVar 1) (tCons (tCB (A.rTupU K) (tCons (tVar 12) tNil)) tNil)))
                        (gName 20)
def t_good (K : PySem.W.Frag) : TE := tAndV (tCB (A.rIsiU K) (tCons (tVar 20) (tCons (tC (V.ty "tuple")) tNil)))
                            (tAndV (tOp (rNeD K) (tVar 20) (tTup tNil))
                              (tAndV
                                (tOp (rEqD K)
                                  (tLc (A.iSeq K (tVar 20)) (gName 22)
                                    (tNot (tB (tCall (sp_law_is_whole K) [] E0 (tCons (tVar 22) tNil)))) (tC (V.int 1))
                                    (List.map (fun x => x.snd) [(Str.ofString "item", 22)]))
                                  (tLst tNil))
                                (tAndV (tOp (rEqD K) (tOp (rIx K) (tVar 20) (tC (V.int 0))) (tC (V.int 0)))
                                  (tOp (rEqD K) (tCB (A.rSortedU K) (tCons (tVar 20) tNil))
                                    (tLstRg (tRg1 (tCB (A.rLenU K) (tCons (tVar 20) tNil))))))))
def t_fin (K : PySem.W.Frag) (Pt C3 C4 : Addr) : TS := tIfS
                          (tOr
                            (tNot
                              (tB
                                (tCall sp_law_is_truth [] E0
                                  (tCons
                                    (A.tCallKK (sp_is_line K) [0] E0 [Str.ofString "value"].length
                                      (tCons (tVar 20) tNil))
                                    (tCons (tVar 21) tNil)))))
                            (tAnd (tNot (tB (tVar 21)))
                              (tNot
                                (tB
                                  (tCB (A.rIsiU K)
                                    (tCons
                                      (LamX.tLam [(Pt, lamQ)] (A.TCaught K C4) fun E =>
                                        tCall (sp_tree_of K C3) [] E (tCons (tVar 20) tNil))
                                      (tCons (tC (V.ref C3)) tNil)))))))
                          (tRet (tC (V.bl false))) tNext
def t_laps (K : PySem.W.Frag) (Pt C3 C4 : Addr) : TS := tFor (iRng1 (tCons (tC (V.int 6)) tNil)) (gName 17)
  (tSeq (t_asked K) (tSeq (t_draws K) (tSeq (t_meets K) (tSeq (t_truth K) (tSeq (t_bent K) (tSeq (tAsg (t_good K) (gName 21)) (t_fin K Pt C3 C4)))))))
theorem allInt : ∀ {ds : List PyData}, (∀ d ∈ ds, intD d = true) → ∃ ns : List Int, ds = ns.map .int
  | [], _ => ⟨[], rfl⟩
  | d :: r, h => by
    obtain ⟨ns, e⟩ := allInt (ds := r) fun x hx => h x (List.mem_cons_of_mem _ hx)
    have h1 := h d List.mem_cons_self
    cases d with
    | int i => exact ⟨i :: ns, by rw [e]; rfl⟩
    | none => cases h1
    | bool _ => cases h1
    | str _ => cases h1
    | list _ => cases h1
    | tuple _ => cases h1
    | dict _ => cases h1
theorem isL_int {ns : List Int} {l : List Nat} : IsL (.tuple (ns.map .int)) l ↔ ns = l.map (fun n : Nat => (n : Int)) ∧ l.head? = some 0 ∧ l.Perm (List.range l.length) := by
  unfold IsL
  constructor
  · rintro ⟨h1, h2⟩
    injection h1 with h1
    refine ⟨?_, h2⟩
    have : ∀ (ns : List Int) (l : List Nat), ns.map PyData.int = nds l → ns = l.map (fun n : Nat => (n : Int)) := fun ns => by
      induction ns with
      | nil => intro l h; cases l with
        | nil => rfl
        | cons _ _ => cases h
      | cons a t ih => intro l h; cases l with
        | nil => cases h
        | cons b u =>
          unfold nds at h
          simp only [List.map_cons, List.cons.injEq] at h
          rw [ih u h.2]
          injection h.1 with e
          rw [e]; rfl
    exact this ns l h1
  · rintro ⟨rfl, h2⟩
    exact ⟨by unfold nds; rw [List.map_map]; rfl, h2⟩
section
variable {K : PySem.W.Frag} {Pt C1 C2 C3 C4 : Addr} {sa : A.Sta} {Hl H : Hp} {q q1 q2 pm pl ph : Addr} {W L1 L2' M N : List Nat} {at' t : Nat} {nx bk ct : L2.St → Hp → Prop} {rt : V → Hp → Prop}
variable {a : Addr} {i : Nat} {p1 p2 d : Addr} {z13 : Option V} {pi : Addr} {z17 z18 z19 z20 z21 z22 : Option V} {bg en : Nat}
theorem asked_ok (F : TF K sa Hl q q1 q2 pm pl ph W L1 L2' M N at') (b0 : A.Bx sa [(Pt, lamQ)] Hl H t) (ht : t ≤ 10 ^ 7)
    (k : ∀ H', A.Bx sa [(Pt, lamQ)] Hl H' (t + 2) → nx (sg a sa.st i p1 p2 at' d q pm pl q1 q2 ph z13 bg en pi z17 z18 z19 z20 z21 z22) H') :
    t_asked K { nx := nx, rt := rt, bk := bk, ct := ct } (sg a sa.st i p1 p2 at' d q pm pl q1 q2 ph z13 bg en pi z17 z18 z19 z20 z21 z22) H := by
  unfold t_asked
  walk_at "rd"
  refine ⟨sa, t, .ref q, ph, W, rfl, b0.sw, by omega, ⟨q, rfl, b0.tupL F.Fq⟩, F.vpW, b0.atL F.Fh, fun H1 f1 w1 => ?_⟩
  walk_at "rd"
  exact k _ (b0.fr f1 w1)
theorem draws_ok (F : TF K sa Hl q q1 q2 pm pl ph W L1 L2' M N at') (b0 : A.Bx sa [(Pt, lamQ)] Hl H t) (ht : t ≤ 10 ^ 7)
    (k : ∀ here there H', here < M.length → there < N.length → A.Bx sa [(Pt, lamQ)] Hl H' (t + 2) → nx (sg a sa.st i p1 p2 at' d q pm pl q1 q2 ph z13 bg en pi z17 (some (nv here)) (some (nv there)) z20 z21 z22) H') :
    t_draws K { nx := nx, rt := rt, bk := bk, ct := ct } (sg a sa.st i p1 p2 at' d q pm pl q1 q2 ph z13 bg en pi z17 z18 z19 z20 z21 z22) H := by
  have := F.hM; have := F.hN; have := F.hn1; have := F.hn2
  unfold t_draws
  walk_at "rd"
  refine A.v_len (.inl (SqL.of (b0.at F.Fm))) ?_
  rw [nvs_len]
  walk_at "rd"
  refine ⟨sa, t, M.length, rfl, b0.sw, by omega, by omega, by omega, fun here H1 h1 f1 w1 => ?_⟩
  have b1 := b0.fr f1 w1
  walk_at "rd"
  refine A.v_len (.inl (SqL.of (b1.at F.Fl))) ?_
  rw [nvs_len]
  walk_at "rd"
  refine ⟨sa, t + 1, N.length, rfl, b1.sw, by omega, by omega, by omega, fun there H2 h2 f2 w2 => ?_⟩
  walk_at "rd"
  exact k here there _ h1 h2 (b1.fr f2 w2)
theorem TF.m (F : TF K sa Hl q q1 q2 pm pl ph W L1 L2' M N at') {y : Nat} (hy : y < M.length) : M[y]? = some (M.getD y 0) ∧ M.getD y 0 ≤ W.length := by
  have h : M[y]? = some (M.getD y 0) := by rw [List.getD_eq_getElem?_getD, List.getElem?_eq_getElem hy]; rfl
  exact ⟨h, F.pg.mlt _ (List.mem_of_getElem? h)⟩
theorem TF.n (F : TF K sa Hl q q1 q2 pm pl ph W L1 L2' M N at') {y : Nat} (hy : y < N.length) : N[y]? = some (N.getD y 0) ∧ N.getD y 0 ≤ W.length := by
  have h : N[y]? = some (N.getD y 0) := by rw [List.getD_eq_getElem?_getD, List.getElem?_eq_getElem hy]; rfl
  exact ⟨h, (F.pg.nlt _ (List.mem_of_getElem? h)).2⟩
theorem meets_ok (F : TF K sa Hl q q1 q2 pm pl ph W L1 L2' M N at') (b0 : A.Bx sa [(Pt, lamQ)] Hl H t) {here there : Nat} (hh : here < M.length) (hth : there < N.length)
    (k : ∀ H', A.Bx sa [(Pt, lamQ)] Hl H' t → nx (sg a sa.st i p1 p2 at' d q pm pl q1 q2 ph z13 bg en pi z17 (some (nv here)) (some (nv there)) z20 z21 z22) H') :
    t_meets K { nx := nx, rt := rt, bk := bk, ct := ct } (sg a sa.st i p1 p2 at' d q pm pl q1 q2 ph z13 bg en pi z17 (some (nv here)) (some (nv there)) z20 z21 z22) H := by
  have G := F.pg.graft F.vp1.2 F.vp2.2 F.hM F.hN F.hat
  have hM := F.hM; have hN := F.hN; have hn1 := F.hn1; have hn2 := F.hn2; have hW := F.hW; have hat := F.hat
  have hl := low_of F.vpW
  obtain ⟨m1, m2⟩ := F.m hh
  obtain ⟨n1, n2⟩ := F.n hth
  unfold t_meets
  walk_at "rd"
  refine A.v_ixL (i := ((here : Nat) : Int)) (SqL.of (b0.at F.Fm)) (at_nvs m1) ?_
  walk_at "rd"
  refine A.v_ixL (i := ((there : Nat) : Int)) (SqL.of (b0.at F.Fl)) (at_nvs n1) ?_
  walk_at "rd"
  refine ⟨.ref q, W, _, _, rfl, ⟨q, rfl, b0.tup F.Fq⟩, F.vpW, m2, n2, fun r1 H1 hr1 hrn e1 => ?_⟩
  have b1 := b0.ext e1
  walk_at "rd"
  refine ⟨.ref q1, L1, here, at', rfl, ⟨q1, rfl, b1.tup F.F1⟩, F.vp1, by omega, hat, fun r2 H2 hr2 hrn2 e2 => ?_⟩
  have b2 := b1.ext e2
  obtain ⟨x1, x2⟩ := F.m (y := r2) (by omega)
  refine A.v_ixL (i := ((r2 : Nat) : Int)) (SqL.of (b2.at F.Fm)) (at_nvs x1) ?_
  walk_at "rd"
  have em : r1 = M.getD r2 0 := Tr.meet_unique hl m2 hr1 (G.meet (by omega) (by omega) hr2 hrn2)
  refine ⟨_, _, nd r1, rfl, .int _, by rw [em]; exact .int _, ok_nd (by omega), ?_⟩
  walk_at "rd"
  refine A.v_ixL (i := ((there : Nat) : Int)) (SqL.of (b2.at F.Fl)) (at_nvs n1) ?_
  walk_at "rd"
  refine A.v_ixL (i := ((here : Nat) : Int)) (SqL.of (b2.at F.Fm)) (at_nvs m1) ?_
  walk_at "rd"
  refine ⟨.ref q, W, _, _, rfl, ⟨q, rfl, b2.tup F.Fq⟩, F.vpW, n2, m2, fun c1 H3 hc1 e3 => ?_⟩
  have b3 := b2.ext e3
  walk_at "rd"
  refine ⟨.ref q1, L1, at', here, rfl, ⟨q1, rfl, b3.tup F.F1⟩, F.vp1, hat, by omega, fun c2 H4 hc2 e4 => ?_⟩
  have b4 := b3.ext e4
  walk_at "rd"
  have ec : c2 = c1 := by
    rw [Bool.eq_iff_iff, hc1, hc2]
    exact (G.anc12 (by omega) there (by omega)).symm
  refine ⟨c1, by rw [ec]; rfl, ?_⟩
  walk_at "rd"
  exact k _ b4
theorem truth_ok (F : TF K sa Hl q q1 q2 pm pl ph W L1 L2' M N at') (b0 : A.Bx sa [(Pt, lamQ)] Hl H t) {here there : Nat} (hh : here < M.length) (hth : there < N.length)
    (k : ∀ H', A.Bx sa [(Pt, lamQ)] Hl H' t → nx (sg a sa.st i p1 p2 at' d q pm pl q1 q2 ph z13 bg en pi z17 (some (nv here)) (some (nv there)) z20 z21 z22) H') :
    t_truth K { nx := nx, rt := rt, bk := bk, ct := ct } (sg a sa.st i p1 p2 at' d q pm pl q1 q2 ph z13 bg en pi z17 (some (nv here)) (some (nv there)) z20 z21 z22) H := by
  have G := F.pg.graft F.vp1.2 F.vp2.2 F.hM F.hN F.hat
  have hM := F.hM; have hN := F.hN
  obtain ⟨m1, m2⟩ := F.m hh
  obtain ⟨n1, n2⟩ := F.n hth
  unfold t_truth
  walk_at "rd"
  refine A.v_ixL (i := ((here : Nat) : Int)) (SqL.of (b0.at F.Fm)) (at_nvs m1) ?_
  walk_at "rd"
  refine A.v_ixL (i := ((there : Nat) : Int)) (SqL.of (b0.at F.Fl)) (at_nvs n1) ?_
  walk_at "rd"
  refine ⟨.ref q, W, _, _, rfl, ⟨q, rfl, b0.tup F.Fq⟩, F.vpW, m2, n2, fun c H1 hc e1 => ?_⟩
  have b1 := b0.ext e1
  walk_at "rd"
  have ec : c = false := by
    rw [← Bool.not_eq_true, hc]
    exact G.anc21 (by omega) (by omega)
  refine ⟨false, by rw [ec]; rfl, ?_⟩
  walk_at "rd"
  exact k _ b1
theorem bent_ok (F : TF K sa Hl q q1 q2 pm pl ph W L1 L2' M N at') (b0 : A.Bx sa [(Pt, lamQ)] Hl H t) (ht : t ≤ 10 ^ 7)
    (k : ∀ x dx H', Dp K (A.Lx sa H') x dx → Bent dx → A.Bx sa [(Pt, lamQ)] Hl H' (t + 3) → nx (sg a sa.st i p1 p2 at' d q pm pl q1 q2 ph z13 bg en pi z17 z18 z19 (some x) z21 z22) H') :
    t_bent K { nx := nx, rt := rt, bk := bk, ct := ct } (sg a sa.st i p1 p2 at' d q pm pl q1 q2 ph z13 bg en pi z17 z18 z19 z20 z21 z22) H := by
  have hn1 := F.hn1; have hn2 := F.hn2; have hW := F.hW
  have lW := lineN_len W
  unfold t_bent
  walk_at "rd"
  refine A.v_tupL (SqL.of (b0.at F.Fh)) fun p H1 e1 h1 => ?_
  have b1 := b0.ext e1
  walk_at "rd"
  refine ⟨sa, t, p, line W, rfl, b1.sw, by omega, b1.sw.wd.tup h1, fun e => by rw [e] at lW; simp at lW, by omega, fun x hx => by have := line_lt F.vpW x hx; omega, fun x dx H2 hd hb f2 w2 => ?_⟩
  walk_at "rd"
  exact k x dx _ (A.dp_lx hd) hb (b1.fr f2 w2)
theorem fin_ok {mg : Str → Option Value} (T : Txt K mg C1 C2 C3 C4) (b0 : A.Bx sa [(Pt, lamQ)] Hl H t) {x : V} {dx : PyData} {c : Bool} (hd : Dp K (A.Lx sa H) x dx) (hb : Bent dx) (hc : c = true ↔ ∃ l, IsL dx l)
    (k : ∀ H', A.Bx sa [(Pt, lamQ)] Hl H' t → nx (sg a sa.st i p1 p2 at' d q pm pl q1 q2 ph z13 bg en pi z17 z18 z19 (some x) (some (.bl c)) z22) H') :
    t_fin K Pt C3 C4 { nx := nx, rt := rt, bk := bk, ct := ct } (sg a sa.st i p1 p2 at' d q pm pl q1 q2 ph z13 bg en pi z17 z18 z19 (some x) (some (.bl c)) z22) H := by
  unfold t_fin
  walk_at "rd"
  refine ⟨rfl, x, dx, rfl, A.dp_ex A.lx_ex hd, hb, fun c' H1 hc' e1 => ?_⟩
  have b1 := b0.ext e1
  walk_at "rd"
  have ec : c' = c := by rw [Bool.eq_iff_iff, hc', hc]
  refine ⟨c, by rw [ec]; rfl, ?_⟩
  walk_at "rd"
  cases c with
  | true =>
    walk_at "rd"
    exact k _ b1
  | false =>
    have hno : ¬ ∃ l, IsL dx l := fun h => by cases hc.mpr h
    walk_at "rd"
    refine A.r_lam b1.tb fun H2 e2 tb2 => ?_
    have b2 := b1.lam e2 tb2
    have hd2 : Dp K H2 x dx := A.dp_ex A.lx_ex (A.dp_ex (A.lx_extN e2) (A.dp_ex (A.lx_fr (A.Fr.of e1)) hd))
    unfold A.TCaught
    walk_at "rd"
    refine ⟨x, dx, rfl, hd2, hb, fun l hl => absurd ⟨l, hl⟩ hno, fun _ H3 e3 => ⟨true, T.m_BadLine_CopyError, fun _ ax hax => ?_, fun h => (by cases h)⟩⟩
    have b3 := (b2.ext e3).new (o := A.ExV (.ref C3) none ax) hax
    walk_at "rd"
    refine A.v_isiE upd_same T.i_BadLine T.o_BadLine ?_
    walk_at "rd"
    exact k _ b3
end
end T
set_option Elab.async false
set_option linter.all false
set_option maxRecDepth 100000
set_option maxHeartbeats 4000000
set_option autoImplicit false
namespace T
open PySem PySem.Spec PyProof.Rows L2
def notInt : PyData → Bool := fun d => !intD d
theorem one_nil {n : Nat} : PyData.eqv (.list ((List.replicate n (PyData.int 1)))) (.list []) = decide (n = 0) := by
  cases n with
  | zero => simp [PyData.eqv, PyData.eqvAll]
  | succ m => simp [List.replicate_succ, PyData.eqv, PyData.eqvAll]
theorem fm_one {ds : List PyData} {xs : List V} (hl : xs.length = ds.length) : (List.range xs.length).filterMap (fun i => if intD (ds.getD i .none) = true then none else some (V.int 1)) = List.replicate (ds.countP notInt) (V.int 1) := by
  rw [hl]
  clear hl
  have e : (List.range ds.length).filterMap (fun i => if intD (ds.getD i .none) = true then none else some (V.int 1)) = (List.range ds.length).filterMap (fun j => ds[j]?.bind fun d => if intD d = true then none else some (V.int 1)) := by
    have : ∀ (l : List Nat), (∀ i ∈ l, i < ds.length) → l.filterMap (fun i => if intD (ds.getD i .none) = true then none else some (V.int 1)) = l.filterMap (fun j => ds[j]?.bind fun d => if intD d = true then none else some (V.int 1)) := fun l => by
      induction l with
      | nil => intro _; rfl
      | cons a t ih =>
        intro h
        have ha := h a List.mem_cons_self
        have hd : ds[a]? = some ds[a] := List.getElem?_eq_getElem ha
        have hg : ds.getD a .none = ds[a] := by rw [List.getD_eq_getElem?_getD, hd]; rfl
        have ih := ih fun i hi => h i (List.mem_cons_of_mem _ hi)
        by_cases hi : intD ds[a] = true
        · rw [List.filterMap_cons_none (by rw [hg, if_pos hi]), List.filterMap_cons_none (by rw [hd]; show (if _ then _ else _) = _; rw [if_pos hi]), ih]
        · rw [List.filterMap_cons_some (b := V.int 1) (by rw [hg, if_neg hi]), List.filterMap_cons_some (b := V.int 1) (by rw [hd]; show (if _ then _ else _) = _; rw [if_neg hi]), ih]
    exact this _ fun i hi => List.mem_range.mp hi
  rw [e, A.fm_range ds (fun d => if intD d = true then none else some (V.int 1))]
  clear e
  induction ds with
  | nil => rfl
  | cons d r ih =>
    by_cases h : intD d = true
    · rw [List.filterMap_cons_none (by rw [if_pos h]), ih, List.countP_cons_of_neg (by simp [notInt, h])]
    · rw [List.filterMap_cons_some (b := V.int 1) (by rw [if_neg h]), ih, List.countP_cons_of_pos (by simp [notInt, h]), List.replicate_succ]
section
variable {K : PySem.W.Frag} {Pt C1 C2 C3 C4 : Addr} {sa : A.Sta} {Hl H : Hp} {q q1 q2 pm pl ph : Addr} {W L1 L2' M N : List Nat} {at' t : Nat} {nx bk ct : L2.St → Hp → Prop} {rt : V → Hp → Prop}
variable {a : Addr} {i : Nat} {p1 p2 d : Addr} {z13 : Option V} {pi : Addr} {z17 z18 z19 z20 z21 z22 : Option V} {bg en : Nat}
theorem good_ok {x : V} {dx : PyData} (hd : Dp K H x dx) (hb : Bent dx) {Q : VK} (k : ∀ (c : Bool) H', (c = true ↔ ∃ l, IsL dx l) → A.Ex H H' → Q (.bl c) H') :
    t_good K (sg a sa.st i p1 p2 at' d q pm pl q1 q2 ph z13 bg en pi z17 z18 z19 (some x) z21 z22) H Q := by
  unfold t_good
  obtain ⟨hsh, hz⟩ := hb
  walk_at "rd"
  refine A.v_istD hd ?_
  walk_at "rd"
  cases hd with
  | int i => exact k _ H ⟨fun h => (by cases h), fun ⟨l, h, _⟩ => (by cases h)⟩ (A.Ex.refl _)
  | bl i => exact k _ H ⟨fun h => (by cases h), fun ⟨l, h, _⟩ => (by cases h)⟩ (A.Ex.refl _)
  | non => exact k _ H ⟨fun h => (by cases h), fun ⟨l, h, _⟩ => (by cases h)⟩ (A.Ex.refl _)
  | str i => exact k _ H ⟨fun h => (by cases h), fun ⟨l, h, _⟩ => (by cases h)⟩ (A.Ex.refl _)
  | lst _ _ => exact k _ H ⟨fun h => (by cases h), fun ⟨l, h, _⟩ => (by cases h)⟩ (A.Ex.refl _)
  | @tup pa xs ds h1 h2 =>
    refine iteT ?_
    walk_at "rd"
    refine ⟨Nat.zero_le _, fun p hp => ?_⟩
    have e0 : A.Ex H (upd H p (.tup [])) := A.Ex.new (A.Ex.refl _) hp
    refine A.v_neD (.tup (A.sqT_ex e0 h1) (A.dpa_ex e0 h2)) (.tup (xs := []) (.inl (.inl upd_same)) .nil) hsh (by decide) ?_
    walk_at "rd"
    have hxl := A.dpa_len h2
    cases hds : ds with
    | nil =>
      subst hds
      exact k _ _ ⟨fun h => (by cases h), fun ⟨l, h, h', _⟩ => by
        cases l with
        | nil => cases h'
        | cons _ _ => cases h⟩ e0
    | cons d0 dr =>
      rw [show PyData.eqv (.tuple (d0 :: dr)) (.tuple []) = false from by simp [PyData.eqv, PyData.eqvAll]]
      walk_at "rd"
      refine A.i_seq (upd H p (.tup [])) (.inr (A.sqT_ex e0 h1)) (A.Ex.refl _) fun J hJ => ?_
      intro D hD
      have hzl : xs.length ≤ 10000 := by rw [hxl]; exact hz
      refine A.lc_pure xs.length (by omega) (fun i => if intD (ds.getD i .none) = true then none else some (V.int 1)) hD (fun i H4 Y N hi hE hY hN => ?_) (fun H4 hE hDD => ?_)
      · obtain ⟨hg, _⟩ := hJ _ hE
        have hv := List.getElem?_eq_getElem hi
        refine ⟨(hg i _ hv).1, fun x H5 hx => ?_⟩
        obtain ⟨rfl, rfl⟩ := (hg i _ hv).2 x H5 hx
        walk_at "rd"
        refine ⟨rfl, ?_⟩
        walk_at "rd"
        obtain ⟨d, hd1, hd2⟩ := A.dpa_getV h2 hv
        have hgd : ds.getD i .none = d := by rw [List.getD_eq_getElem?_getD, hd1]; rfl
        refine ⟨_, d, rfl, A.dp_ex (e0.trans hE) hd2, ?_⟩
        walk_at "rd"
        by_cases hid : intD d = true
        · rw [hid]
          walk_at "rd"
          exact hN _ (by rw [hgd, if_pos hid]) (A.Ex.refl _)
        · rw [eq_false_of_ne_true hid]
          walk_at "rd"
          exact hY _ _ (by rw [hgd, if_neg hid]) (A.Ex.refl _)
      · refine ⟨(hJ _ hE).2, ?_⟩
        rw [fm_one hxl] at hDD
        have e4 := e0.trans hE
        walk_at "rd"
        refine ⟨Nat.zero_le _, fun p2 hp2 => ?_⟩
        have hc : ds.countP notInt ≤ 10000 := Nat.le_trans List.countP_le_length hz
        have dpr : ∀ n, DpAll K (upd H4 p2 (.lst [])) (List.replicate n (V.int 1)) (List.replicate n (PyData.int 1)) := fun n => by
          induction n with
          | zero => exact .nil
          | succ m ih => rw [List.replicate_succ, List.replicate_succ]; exact .cons (.int 1) ih
        refine A.v_eqD (.lst (SqL.of (A.upd_keep hDD hp2)) (dpr _)) (.lst (xs := []) (SqL.of upd_same) .nil) (shaped_atoms (fun d hd => by rw [List.eq_of_mem_replicate hd]; exact atom_int 1)).2 (by decide) ?_
        rw [one_nil]
        have e5 := e4.trans (A.Ex.new (o := .lst []) (A.Ex.refl _) hp2)
        walk_at "rd"
        by_cases hall : ds.countP notInt = 0
        · rw [decide_eq_true hall]
          walk_at "rd"
          obtain ⟨ns, hns⟩ := allInt (ds := ds) fun d hd => by
            have := List.countP_eq_zero.mp hall d hd
            simpa [notInt] using this
          have hxs : xs = ns.map V.int := by
            rw [hns] at h2
            exact A.dpa_ints_inv h2
          subst hxs
          have hn0 : ns ≠ [] := fun e => by rw [hns, e] at hds; cases hds
          obtain ⟨n0, l0, el⟩ := List.exists_cons_of_ne_nil hn0
          refine A.v_ixT (i := ((0 : Nat) : Int)) (v := .int n0) (A.sqT_ex e5 h1) (A.nat_at (by rw [el]; rfl)) ?_
          walk_at "rd"
          have hnl : ns.length ≤ 10000 := by rw [List.length_map] at hzl; exact hzl
          by_cases hz0 : n0 = 0
          · rw [decide_eq_true hz0]
            walk_at "rd"
            refine ⟨pa, ns, rfl, .inr (A.sqT_ex e5 h1), fun ns' q hp1 hs1 hq => ?_⟩
            have e6 := e5.trans (A.Ex.new (o := .lst (ns'.map V.int)) (A.Ex.refl _) hq)
            dsimp only
            walk_at "rd"
            refine A.v_len (.inr (A.sqT_ex e6 h1)) ?_
            rw [List.length_map]
            refine ⟨_, rfl, .of_le (by omega) (by omega) (by omega) (by omega), fun q2 hq2 => ?_⟩
            rw [rgV_nat]
            have e7 := e6.trans (A.Ex.new (o := .lst (nvs (List.range ns.length))) (A.Ex.refl _) hq2)
            have er : nds (List.range ns.length) = ((List.range ns.length).map fun n : Nat => (n : Int)).map .int := by unfold nds; rw [List.map_map]; rfl
            refine A.v_eqD (d := .list (ns'.map .int)) (e := .list (((List.range ns.length).map fun n : Nat => (n : Int)).map .int)) (.lst (SqL.of (A.upd_keep upd_same hq2)) (A.dpa_ints ns')) (.lst (SqL.of upd_same) (by rw [← er]; exact dpa_nvs _)) (shaped_ints _) (shaped_ints _) ?_
            rw [show PyData.eqv (.list (ns'.map .int)) (.list (((List.range ns.length).map fun n : Nat => (n : Int)).map .int)) = decide (ns' = (List.range ns.length).map fun n : Nat => (n : Int)) from by rw [← eqv_ints]; simp only [PyData.eqv]]
            refine k _ _ ?_ e7
            rw [hns]
            constructor
            · intro h
              have h := of_decide_eq_true h
              have hperm : ns.Perm ((List.range ns.length).map fun n : Nat => (n : Int)) := by rw [← h]; exact hp1.symm
              have hnn : ∀ z ∈ ns, (z.toNat : Int) = z := fun z hz => by
                obtain ⟨y, _, e⟩ := List.mem_map.mp (hperm.mem_iff.mp hz)
                rw [← e]; simp
              refine ⟨ns.map Int.toNat, isL_int.mpr ⟨?_, ?_, ?_⟩⟩
              · rw [List.map_map]
                exact ((List.map_congr_left (f := id) (g := (fun n : Nat => (n : Int)) ∘ Int.toNat) fun z hz => (hnn z hz).symm).symm.trans (List.map_id _)).symm
              · rw [el, hz0]; rfl
              · have := hperm.map Int.toNat
                rw [List.map_map] at this
                rw [List.length_map]
                have e9 : (List.range ns.length).map (Int.toNat ∘ fun n : Nat => (n : Int)) = List.range ns.length := List.map_id'' (fun x => by simp) _
                rw [e9] at this; exact this
            · rintro ⟨l, hl⟩
              obtain ⟨el1, el2, el3⟩ := isL_int.mp hl
              refine decide_eq_true ?_
              have hlen : ns.length = l.length := by rw [el1, List.length_map]
              rw [hlen]
              refine (perm_range (l := l) (by rw [← el1]; exact hp1) hs1).mpr el3
          · rw [decide_eq_false hz0]
            refine k _ _ ⟨fun h => (by cases h), ?_⟩ e5
            rw [hns]
            rintro ⟨l, hl⟩
            obtain ⟨el1, el2, el3⟩ := isL_int.mp hl
            rw [el] at el1
            cases l with
            | nil => cases el1
            | cons b u =>
              simp only [List.map_cons, List.cons.injEq] at el1
              simp only [List.head?_cons, Option.some.injEq] at el2
              exact absurd (by rw [el1.1, el2]; rfl) hz0
        · rw [decide_eq_false hall]
          walk_at "rd"
          refine k _ _ ⟨fun h => (by cases h), ?_⟩ e5
          rintro ⟨l, hl⟩
          refine absurd ?_ hall
          obtain ⟨e, _⟩ := hl
          injection e with e
          rw [e]
          refine List.countP_eq_zero.mpr fun d hd => ?_
          unfold nds at hd
          obtain ⟨n, _, rfl⟩ := List.mem_map.mp hd
          simp [notInt, intD]
theorem laps_ok {mg : Str → Option Value} (T : Txt K mg C1 C2 C3 C4) (F : TF K sa Hl q q1 q2 pm pl ph W L1 L2' M N at') (b0 : A.Bx sa [(Pt, lamQ)] Hl H t) (ht : t ≤ 10 ^ 6)
    (k : ∀ y17 y18 y19 y20 y21 H', A.Bx sa [(Pt, lamQ)] Hl H' (t + 60) → nx (sg a sa.st i p1 p2 at' d q pm pl q1 q2 ph z13 bg en pi y17 y18 y19 y20 y21 z22) H') :
    t_laps K Pt C3 C4 { nx := nx, rt := rt, bk := bk, ct := ct } (sg a sa.st i p1 p2 at' d q pm pl q1 q2 ph z13 bg en pi z17 z18 z19 z20 z21 z22) H := by
  unfold t_laps
  refine A.r_for (A.r_rng1 (A.r_cons (A.r_c (A.r_nil ?_))))
  refine A.i_rng1 (n := 6) (fun _ => none) (by decide) fun J hJ => ?_
  refine A.for_in 6 (fun j σ Hx => ∃ y17 y18 y19 y20 y21, σ = sg a sa.st i p1 p2 at' d q pm pl q1 q2 ph z13 bg en pi y17 y18 y19 y20 y21 z22 ∧ A.Bx sa [(Pt, lamQ)] Hl Hx (t + 7 * j)) ⟨_, _, _, _, _, rfl, b0⟩ (fun j σ Hx hj ⟨y17, y18, y19, y20, y21, q1', b1⟩ => ?_) (fun σ Hx ⟨y17, y18, y19, y20, y21, q1', b1⟩ => ?_)
  · subst q1'
    obtain ⟨g1, g2⟩ := (hJ Hx (fun _ _ h => by exact absurd h (by simp))).1 j _ (rgs_nv (lo := 0) hj)
    refine ⟨g1, fun x H5 hx => ?_⟩
    obtain ⟨rfl, rfl⟩ := g2 x H5 hx
    refine A.r_gname (A.r_seq ?_)
    refine asked_ok (z17 := some (nv (0 + j))) F b1 (by omega) fun H6 b6 => A.r_seq ?_
    refine draws_ok F b6 (by omega) fun here there H7 h1 h2 b7 => A.r_seq ?_
    refine meets_ok F b7 h1 h2 fun H8 b8 => A.r_seq ?_
    refine truth_ok F b8 h1 h2 fun H9 b9 => A.r_seq ?_
    refine bent_ok F b9 (by omega) fun x dx H10 hd hb b10 => A.r_seq (A.r_asg ?_)
    refine good_ok (A.dp_ex A.lx_ex hd) hb fun c H11 hc e11 => A.r_gname ?_
    have b11 := b10.ext e11
    refine fin_ok T b11 (A.dp_ex (A.lx_fr (A.Fr.of e11)) hd) hb hc fun H12 b12 => ?_
    exact ⟨_, _, _, _, _, rfl, b12.le (by omega)⟩
  · subst q1'
    refine ⟨by have := (hJ Hx (fun _ _ h => by exact absurd h (by simp))).2; rwa [A.rgs_len] at this, ?_⟩
    exact k _ _ _ _ _ Hx (b1.le (by omega))
end
end T
set_option Elab.async false
set_option linter.all false
set_option maxRecDepth 100000
set_option maxHeartbeats 4000000
set_option autoImplicit false
namespace T
open PySem PySem.Spec PyProof.Rows L2
def sp_law (K : PySem.W.Frag) (Pt : Addr) : Sp := fun vs H Q _ => ∃ a ns, vs = [.ref a] ∧ SqL K H a (A.ivs ns) ∧ ns.length ≤ 100000 ∧ H Pt = some (.tbl #[]) ∧ ∀ H', Q (.bl true) H'
section
variable {P : Program} {w : World} {K : PySem.W.Frag} {mg : Str → Option Value} {base : Heap} {C1 C2 C3 C4 : Addr}
theorem ok_law (T : Txt K mg C1 C2 C3 C4) {f : Addr} {fd : FuncData} {c0 Pt : Addr} (F : FunD K "law" "law" (defArgs s_law) (defBody s_law) (defScope s_law) [] [] f fd) (TB : LamX.TabB base mg c0 Pt)
    (hc0 : ∀ oc od osl fd' c, K.lookup f = some ⟨oc, od, .func fd', osl⟩ → fd'.code = .ref c → c = c0)
    (Fc : A.Df K mg "_law_caught" s_law_caught)
    (c_law_begun : A.Cl P w K mg base CX0 1 "_law_begun" s_law_begun P_law_begun (sq_law_begun K))
    (c_law_draw : A.Cl P w K mg base CX0 2 "_law_draw" s_law_draw P_law_draw sq_law_draw)
    (c_law_as_grafted : A.Cl P w K mg base CX0 3 "_law_as_grafted" s_law_as_grafted P_law_as_grafted (sp_law_as_grafted K))
    (c_law_as_line : A.Cl P w K mg base CX0 1 "_law_as_line" s_law_as_line P_law_as_line (sp_law_as_line K))
    (c_stretch : A.Cl P w K mg base CX0 6 "stretch" s_stretch P_stretch (sp_stretch K))
    (c_law_as_story : A.Cl P w K mg base CX0 5 "_law_as_story" s_law_as_story P_law_as_story (sp_law_as_story K))
    (c_law_as_parents : A.Cl P w K mg base CX0 1 "_law_as_parents" s_law_as_parents P_law_as_parents (sp_law_as_parents K))
    (c_law_k01_bent : A.Cl P w K mg base CX0 4 "_law_k01_bent" s_law_k01_bent P_law_k01_bent (sp_law_k01_bent K))
    (c_law_as_same : A.ClG P w K mg base CX0 1 "_law_as_same" s_law_as_same P_law_as_same (sp_law_as_same K))
    (c_line_of : A.Cl P w K mg base CX0 5 "line_of" s_line_of P_line_of (sp_line_of K))
    (c_law_k01_asked : A.ClG P w K mg base CX0 7 "_law_k01_asked" s_law_k01_asked P_law_k01_asked (sp_law_k01_asked K))
    (c_law_is_truth : A.Cl P w K mg base CX0 1 "_law_is_truth" s_law_is_truth P_law_is_truth sp_law_is_truth)
    (c_tree_of : A.Cl P w K mg base (L2.CX P w) 4 "tree_of" s_tree_of P_tree_of (sp_tree_of K C3))
    (c_comes_of : A.Cl P w K mg base CX0 6 "comes_of" s_comes_of P_comes_of (sp_comes_of K))
    (c_meet : A.Cl P w K mg base CX0 6 "meet" s_meet P_meet (sp_meet K))
    (c_is_line : A.Cl P w K mg base CX0 3 "is_line" s_is_line P_is_line (sp_is_line K))
    (c_law_is_whole : A.Cl P w K mg base CX0 1 "_law_is_whole" s_law_is_whole P_law_is_whole (sp_law_is_whole K)) :
    A.FnG P w K mg base CX0 8 f fd P_law (sp_law K Pt) := by
  obtain ⟨fc, fdc, Fcd, hmc⟩ := Fc
  have hkc := Fcd.kp
  have hbc := Fcd.bindsN bd_law_caught
  obtain ⟨ocL, odL, dVL, kVL, docL, pmL, anL, cdvL, ctL, oslL, eL, lkc, hcdc, hDL, hKL⟩ := Fcd.ex
  subst eL
  have gCS := T.g_CopyError
  refine A.mk_fnG F sc_law (fun vs H Q E h => ?_) (fun oc od osl fd' cdv Ar outer s H vs Q E hlk hcode' hcd hr hgd h => ?_)
  · obtain ⟨a, ns, rfl, _⟩ := h; rfl
  obtain ⟨a, ns, rfl, h1, hz, hP, k⟩ := h
  have hcode : cdv = .ref c0 := by
    obtain ⟨c, e⟩ := He.codeIn_ref hcd
    rw [e, hc0 _ _ _ _ c hlk (hcode'.trans e)]
  subst hcode
  refine ⟨_, (pss_cons (ps_set (i := 1) sc_law.nd rfl (by first | exact Or.inl rfl | exact Or.inr rfl) (A.pe_c c_law_begun hr (by decide) (by rfl) (pa_cons (pv 0) pa_nil)))
    (pss_cons (ps_for PassesOwn.never (by rfl) (pi_range1 (by rfl) T.n_range (pa_cons pe_int pa_nil)) (pg_name (i := 2) sc_law.nd rfl (by first | exact Or.inl rfl | exact Or.inr rfl)) (pss_cons (ps_par (i := 3) (j := 4) (by rfl) sc_law.nd rfl rfl (by decide) rfl rfl (pa_cons (A.pe_c c_law_as_story hr (by decide) (by rfl) (pa_cons (pv 1) (pa_cons pe_int (pa_cons (A.pe_c c_law_draw hr (by decide) (by rfl) (pa_cons (pv 1) (pa_cons pe_int pa_nil))) (pa_cons pe_int pa_nil))))) (pa_cons (A.pe_c c_law_as_story hr (by decide) (by rfl) (pa_cons (pv 1) (pa_cons pe_int (pa_cons (A.pe_c c_law_draw hr (by decide) (by rfl) (pa_cons (pv 1) (pa_cons pe_int pa_nil))) (pa_cons pe_int pa_nil))))) pa_nil)) (by rfl))
      (pss_cons (ps_set (i := 5) sc_law.nd rfl (by first | exact Or.inl rfl | exact Or.inr rfl) (A.pe_c c_law_draw hr (by decide) (by rfl) (pa_cons (pv 1) (pa_cons (pe_op (A.o_add (K := K) rfl) (pe_callB (A.c_len (K := K) rfl) (by rfl) T.n_len A.bb_len (pa_cons (pv 3) pa_nil)) pe_int) pa_nil))))
      (pss_cons (ps_set (i := 6) sc_law.nd rfl (by first | exact Or.inl rfl | exact Or.inr rfl) (A.pe_c c_law_as_grafted hr (by decide) (by rfl) (pa_cons (pv 1) (pa_cons (pv 3) (pa_cons (pv 4) (pa_cons pe_int (pa_cons (pv 5) (pa_cons pe_int (pa_cons pe_non (pa_cons (pe_cmpR (A.o_eq hr.units (K := K) rfl) (A.pe_c c_law_draw hr (by decide) (by rfl) (pa_cons (pv 1) (pa_cons pe_int pa_nil))) pe_int (nomark _)) pa_nil))))))))))
      (pss_cons (ps_asg (pe_tup (pa_cons (A.pe_c c_law_as_parents hr (by decide) (by rfl) (pa_cons (pe_dget (hu_of hr) (pv 6) pe_str (fun _ _ => rfl)) pa_nil)) (pa_cons (pe_dget (hu_of hr) (pv 6) pe_str (fun _ _ => rfl)) (pa_cons (pe_dget (hu_of hr) (pv 6) pe_str (fun _ _ => rfl)) pa_nil)))) (A.p_tup (K := K) (n := 3) (by rfl) (pgs_cons (pg_name (i := 7) sc_law.nd rfl (by first | exact Or.inl rfl | exact Or.inr rfl)) (pgs_cons (pg_name (i := 8) sc_law.nd rfl (by first | exact Or.inl rfl | exact Or.inr rfl)) (pgs_cons (pg_name (i := 9) sc_law.nd rfl (by first | exact Or.inl rfl | exact Or.inr rfl)) pgs_nil))) rfl))
      (pss_cons (ps_par (i := 10) (j := 11) (by rfl) sc_law.nd rfl rfl (by decide) rfl rfl (pa_cons (A.pe_c c_law_as_parents hr (by decide) (by rfl) (pa_cons (pv 3) pa_nil)) (pa_cons (A.pe_c c_law_as_parents hr (by decide) (by rfl) (pa_cons (pv 4) pa_nil)) pa_nil)) (by rfl))
      (pss_cons (ps_set (i := 12) sc_law.nd rfl (by first | exact Or.inl rfl | exact Or.inr rfl) (A.pe_c c_law_as_line hr (by decide) (by rfl) (pa_cons (pv 7) pa_nil)))
      (pss_cons (ps_if (PW.pt (pw_or (pt_not (pt_val (A.pe_cG (E := E0) c_law_as_same pass0 hr hgd (by decide) (by rfl) (pa_cons (A.pe_cK0 (E := E0) (ks := ["parents"]) (perm := [0]) c_line_of pass0 hr (by decide) (by rfl) kb_line_of_0 (pk_cons (pv 7) pk_nil)) (pa_cons (pe_callTy (A.c_tuple (K := K) rfl) (by rfl) T.n_tuple A.bt_tuple (pa_cons (pv 12) pa_nil)) pa_nil))))) (pw_or1 (pt_cmpR (A.o_ne hr.units (K := K) rfl) (pe_lc (own := [("version", 13)]) (by rfl) sc_law.nd (A.p_seq (K := K) (pv 12) rfl) (blkOk_by (own := [("version", 13)]) (N := N_law) (sc := defScope s_law) (by decide +kernel)) (fun _ _ _ _ _ => (pg_name (i := 13) sc_law.nd rfl (by first | exact Or.inl rfl | exact Or.inr rfl))) (fun _ _ _ _ _ => (pts_one (pt_cmpR (A.o_in (A.hu65 hr) (K := K) rfl) (pv 13) (pv 8) (by rfl)))) (fun _ _ _ _ _ => (pv 13))) (pe_lc (own := [("version", 13)]) (by rfl) sc_law.nd (A.p_seq (K := K) (A.pe_c c_line_of hr (by decide) (by rfl) (pa_cons (pv 10) pa_nil)) rfl) (blkOk_by (own := [("version", 13)]) (N := N_law) (sc := defScope s_law) (by decide +kernel)) (fun _ _ _ _ _ => (pg_name (i := 13) sc_law.nd rfl (by first | exact Or.inl rfl | exact Or.inr rfl))) (fun _ _ _ _ _ => pts_nil) (fun _ _ _ _ _ => (pe_ix (A.o_ix (K := K) rfl) (pv 8) (pv 13) (fun _ _ => rfl)))) (nomark _))))) (pss_one (ps_ret pe_bl)) pss_nil)
      (pss_cons (ps_asg (A.pe_c c_stretch hr (by decide) (by rfl) (pa_cons (pv 7) (pa_cons (pe_ix (A.o_ix (K := K) rfl) (pv 9) pe_int (fun _ _ => rfl)) pa_nil))) (A.p_tup (K := K) (n := 2) (by rfl) (pgs_cons (pg_name (i := 14) sc_law.nd rfl (by first | exact Or.inl rfl | exact Or.inr rfl)) (pgs_cons (pg_name (i := 15) sc_law.nd rfl (by first | exact Or.inl rfl | exact Or.inr rfl)) pgs_nil)) rfl))
      (pss_cons (ps_setLc (i := 16) (own := [("version", 13)]) (by rfl) sc_law.nd rfl rfl (sw_true rfl rfl rfl (by decide +kernel)) (A.p_seq (K := K) (A.pe_c c_line_of hr (by decide) (by rfl) (pa_cons (pv 11) pa_nil)) rfl) (blkOk_by (own := [("version", 13)]) (N := N_law) (sc := defScope s_law) (by decide +kernel)) (fun _ _ _ _ _ => (pg_name (i := 13) sc_law.nd rfl (by first | exact Or.inl rfl | exact Or.inr rfl))) (fun _ _ _ _ _ => pts_nil) (fun _ _ _ _ _ => (pe_ix (A.o_ix (K := K) rfl) (pv 9) (pv 13) (fun _ _ => rfl))))
      (pss_cons (ps_if (PW.pt (pw_or (pt_cmpR (A.o_ne hr.units (K := K) rfl) (pe_slice (A.o_sl (K := K) rfl) (pv 12) (po_some (pv 14)) (po_some (pe_op (A.o_add (K := K) rfl) (pv 15) pe_int))) (pv 16) (nomark _)) (pw_or (pt_not (pt_val (A.pe_cG (E := E0) c_law_as_same pass0 hr hgd (by decide) (by rfl) (pa_cons (A.pe_cK0 (E := E0) (ks := ["line"]) (perm := [0]) c_tree_of passL hr (by decide) (by rfl) kb_tree_of_0 (pk_cons (pe_callTy (A.c_tuple (K := K) rfl) (by rfl) T.n_tuple A.bt_tuple (pa_cons (pe_lc (own := [("version", 13)]) (by rfl) sc_law.nd (A.p_seq (K := K) (pv 16) rfl) (blkOk_by (own := [("version", 13)]) (N := N_law) (sc := defScope s_law) (by decide +kernel)) (fun _ _ _ _ _ => (pg_name (i := 13) sc_law.nd rfl (by first | exact Or.inl rfl | exact Or.inr rfl))) (fun _ _ _ _ _ => pts_nil) (fun _ _ _ _ _ => (A.e_bm (K := K) PySem.F.plainAttrs_list PySem.F.slot_list_index PySem.F.type_list_index (A.m_index (A.hu65 hr) (K := K) rfl) (pv 9) (pa_cons (pv 13) pa_nil) rfl))) pa_nil)) pk_nil)) (pa_cons (pv 11) pa_nil))))) (pw_or1 (pt_not (pt_val (A.pe_cG (E := E0) c_law_as_same pass0 hr hgd (by decide) (by rfl) (pa_cons (A.pe_cX (E := E0) c_tree_of passL hr (by decide) (by rfl) (pa_cons (pe_callTy (A.c_tuple (K := K) rfl) (by rfl) T.n_tuple A.bt_tuple (pa_cons (pv 12) pa_nil)) pa_nil)) (pa_cons (pv 7) pa_nil))))))))) (pss_one (ps_ret pe_bl)) pss_nil)
      (pss_one (ps_for PassesOwn.never (by rfl) (pi_range1 (by rfl) T.n_range (pa_cons pe_int pa_nil)) (pg_name (i := 17) sc_law.nd rfl (by first | exact Or.inl rfl | exact Or.inr rfl)) (pss_cons (ps_if (pt_not (pt_val (A.pe_cG (E := E0) c_law_k01_asked pass0 hr hgd (by decide) (by rfl) (pa_cons (pv 1) (pa_cons (pv 7) (pa_cons (pv 12) pa_nil)))))) (pss_one (ps_ret pe_bl)) pss_nil)
        (pss_cons (ps_par (i := 18) (j := 19) (by rfl) sc_law.nd rfl rfl (by decide) rfl rfl (pa_cons (A.pe_c c_law_draw hr (by decide) (by rfl) (pa_cons (pv 1) (pa_cons (pe_callB (A.c_len (K := K) rfl) (by rfl) T.n_len A.bb_len (pa_cons (pv 8) pa_nil)) pa_nil))) (pa_cons (A.pe_c c_law_draw hr (by decide) (by rfl) (pa_cons (pv 1) (pa_cons (pe_callB (A.c_len (K := K) rfl) (by rfl) T.n_len A.bb_len (pa_cons (pv 9) pa_nil)) pa_nil))) pa_nil)) (by rfl))
        (pss_cons (ps_if (PW.pt (pw_or (pt_not (pt_val (A.pe_cG (E := E0) c_law_as_same pass0 hr hgd (by decide) (by rfl) (pa_cons (A.pe_c c_meet hr (by decide) (by rfl) (pa_cons (pv 7) (pa_cons (pe_ix (A.o_ix (K := K) rfl) (pv 8) (pv 18) (fun _ _ => rfl)) (pa_cons (pe_ix (A.o_ix (K := K) rfl) (pv 9) (pv 19) (fun _ _ => rfl)) pa_nil)))) (pa_cons (pe_ix (A.o_ix (K := K) rfl) (pv 8) (A.pe_c c_meet hr (by decide) (by rfl) (pa_cons (pv 10) (pa_cons (pv 18) (pa_cons (pv 5) pa_nil)))) (fun _ _ => rfl)) pa_nil))))) (pw_or1 (pt_not (pt_val (A.pe_c c_law_is_truth hr (by decide) (by rfl) (pa_cons (A.pe_c c_comes_of hr (by decide) (by rfl) (pa_cons (pv 7) (pa_cons (pe_ix (A.o_ix (K := K) rfl) (pv 9) (pv 19) (fun _ _ => rfl)) (pa_cons (pe_ix (A.o_ix (K := K) rfl) (pv 8) (pv 18) (fun _ _ => rfl)) pa_nil)))) (pa_cons (A.pe_c c_comes_of hr (by decide) (by rfl) (pa_cons (pv 10) (pa_cons (pv 5) (pa_cons (pv 18) pa_nil)))) pa_nil)))))))) (pss_one (ps_ret pe_bl)) pss_nil)
        (pss_cons (ps_if (pt_not (pt_val (A.pe_c c_law_is_truth hr (by decide) (by rfl) (pa_cons (A.pe_c c_comes_of hr (by decide) (by rfl) (pa_cons (pv 7) (pa_cons (pe_ix (A.o_ix (K := K) rfl) (pv 8) (pv 18) (fun _ _ => rfl)) (pa_cons (pe_ix (A.o_ix (K := K) rfl) (pv 9) (pv 19) (fun _ _ => rfl)) pa_nil)))) (pa_cons pe_bl pa_nil))))) (pss_one (ps_ret pe_bl)) pss_nil)
        (pss_cons (ps_set (i := 20) sc_law.nd rfl (by first | exact Or.inl rfl | exact Or.inr rfl) (A.pe_c c_law_k01_bent hr (by decide) (by rfl) (pa_cons (pv 1) (pa_cons (pe_callTy (A.c_tuple (K := K) rfl) (by rfl) T.n_tuple A.bt_tuple (pa_cons (pv 12) pa_nil)) pa_nil))))
        (pss_cons (ps_set (i := 21) sc_law.nd rfl (by first | exact Or.inl rfl | exact Or.inr rfl) (pe_and (pe_callB (A.c_isi (K := K) rfl) (by rfl) T.n_isinstance A.bb_isinstance (pa_cons (pv 20) (pa_cons (pe_bltn (v := .ty "tuple") (by rfl) T.n_tuple A.bt_tuple rfl) pa_nil))) (pe_and (pe_cmpR (A.o_ne hr.units (K := K) rfl) (pv 20) (pe_tup pa_nil) (nomark _)) (pe_and (pe_cmpR (A.o_eq hr.units (K := K) rfl) (pe_lc (own := [("item", 22)]) (by rfl) sc_law.nd (A.p_seq (K := K) (pv 20) rfl) (blkOk_by (own := [("item", 22)]) (N := N_law) (sc := defScope s_law) (by decide +kernel)) (fun _ _ _ _ _ => (pg_name (i := 22) sc_law.nd rfl (by first | exact Or.inl rfl | exact Or.inr rfl))) (fun _ _ _ _ _ => (pts_one (pt_not (pt_val (A.pe_c c_law_is_whole hr (by decide) (by rfl) (pa_cons (pv 22) pa_nil)))))) (fun _ _ _ _ _ => pe_int)) (pe_lst pa_nil) (nomark _)) (pe_and (pe_cmpR (A.o_eq hr.units (K := K) rfl) (pe_ix (A.o_ix (K := K) rfl) (pv 20) pe_int (fun _ _ => rfl)) pe_int (nomark _)) (pe_one (pe_cmpR (A.o_eq hr.units (K := K) rfl) (pe_callB (A.c_sorted (K := K) rfl) (by rfl) T.n_sorted A.bb_sorted (pa_cons (pv 20) pa_nil)) (pe_listRg rfl (by rfl) T.n_list (prg_1 (by rfl) T.n_range (pe_callB (A.c_len (K := K) rfl) (by rfl) T.n_len A.bb_len (pa_cons (pv 20) pa_nil)))) (nomark _))))))))
        (pss_one (ps_if (PW.pt (pw_or (pt_not (pt_val (A.pe_c c_law_is_truth hr (by decide) (by rfl) (pa_cons (A.pe_cK0 (E := E0) (ks := ["value"]) (perm := [0]) c_is_line pass0 hr (by decide) (by rfl) kb_is_line_0 (pk_cons (pv 20) pk_nil)) (pa_cons (pv 21) pa_nil))))) (pw_or1 (PW.pt (pw_and (pt_not (pt_val (pv 21))) (pw_and1 (pt_not (pt_val (pe_callB (A.c_isi (K := K) rfl) (by rfl) T.n_isinstance A.bb_isinstance (pa_cons (LamX.pe_lamcall (T := [(Pt, lamQ)]) (TT := A.TCaught K C4) (k := 5) (Ng := N_law_caught) (t := fun E => tCall (sp_tree_of K C3) [] E (tCons (tVar 20) tNil)) (by rfl) hmc hkc lkc hcdc hbc sc_law_caught rfl (Or.inl rfl) (A.caught_gives rfl rfl rfl rfl gCS) TB rfl (List.mem_singleton.mpr rfl) (fun p hp _ => by rw [List.mem_singleton.mp hp]; rfl) hr (show LamX.LamS (defScope s_law) _ from LamX.lamS_by (by decide +kernel)) rfl (fun _ _ _ _ _ => rfl) (fun Ab outer s H E f c' hr' => A.pe_cX c_tree_of (passes_call (takes_of rfl rfl rfl rfl) (fun _ _ _ _ h => h)) hr' (by decide) (by rfl) (pa_cons (pv 20) pa_nil))) (pa_cons (C8.pe_gc (by rfl) T.c_BadLine) pa_nil))))))))))) (pss_one (ps_ret pe_bl)) pss_nil)))))))))))))))))))))
    (pss_one (ps_ret pe_bl)))), ?_⟩
  have tb0 : LamX.Tabs [(Pt, lamQ)] H := fun p hp => by
    rw [List.mem_singleton.mp hp]
    exact LamX.TabS.nil hP
  walk_at "rd"
  refine ⟨a, ns, rfl, h1, hz, fun sa H1 e1 w1 => ?_⟩
  have tb1 : LamX.Tabs [(Pt, lamQ)] H1 := tb0.ext (e1.trans A.less_ex)
  walk_at "rd"
  refine A.i_rng1 (n := 3) (fun _ => none) (by decide) fun J hJ => ?_
  refine A.for_in 3 (fun i σ Hx => ∃ (z2 z3 z4 z5 z6 z7 z8 z9 z10 z11 z12 z13 z14 z15 z16 z17 z18 z19 z20 z21 z22 : Option V), σ = [some (.ref a), some (.ref sa.st), z2, z3, z4, z5, z6, z7, z8, z9, z10, z11, z12, z13, z14, z15, z16, z17, z18, z19, z20, z21, z22] ∧ A.Sw Hx sa (1000 * i) ∧ LamX.Tabs [(Pt, lamQ)] Hx) ⟨none, none, none, none, none, none, none, none, none, none, none, none, none, none, none, none, none, none, none, none, none, rfl, w1, tb1⟩ (fun i σ Hx hi ⟨z2, z3, z4, z5, z6, z7, z8, z9, z10, z11, z12, z13, z14, z15, z16, z17, z18, z19, z20, z21, z22, q1, w2, tb2⟩ => ?_) (fun σ Hx ⟨z2, z3, z4, z5, z6, z7, z8, z9, z10, z11, z12, z13, z14, z15, z16, z17, z18, z19, z20, z21, z22, q1, w2, tb2⟩ => ?_)
  · subst q1
    obtain ⟨g1, g2⟩ := (hJ Hx (fun _ _ h => by exact absurd h (by simp))).1 i _ (rgs_nv (lo := 0) hi)
    refine ⟨g1, fun x H5 hx => ?_⟩
    obtain ⟨rfl, rfl⟩ := g2 x H5 hx
    walk_at "rd"
    refine ⟨sa, 1000 * i, 60, rfl, w2, by omega, by decide, by decide, fun r1 Ha hr1 fa wa => ?_⟩
    walk_at "rd"
    refine ⟨sa, 1000 * i + 1, r1, rfl, wa, by omega, by omega, fun p1 L1 Hb hl1 vp1 st1 fb wb => ?_⟩
    walk_at "rd"
    refine ⟨sa, _, 60, rfl, wb, by omega, by decide, by decide, fun r2 Hc hr2 fc wc => ?_⟩
    walk_at "rd"
    refine ⟨sa, _, r2, rfl, wc, by omega, by omega, fun p2 L2' Hd hl2 vp2 st2 fd' wd => ?_⟩
    walk_at "rd"
    have st1 := story_ex (fc.trans fd') st1
    obtain ⟨its1, i1, i2, i3⟩ := id st1
    refine A.v_len (.inl (SqL.of (A.less_ex _ _ i1))) ?_
    walk_at "rd"
    rw [i2]
    refine ⟨sa, _, L1.length + 1, rfl, wd, by omega, by omega, by omega, fun at' He hat fe we => ?_⟩
    walk_at "rd"
    refine ⟨sa, _, 2, rfl, we, by omega, by decide, by decide, fun rw' Hf hrw ff wf => ?_⟩
    walk_at "rd"
    refine ⟨sa, _, p1, p2, L1, L2', at', _, rfl, wf, by omega, vp1, vp2, by omega, story_ex (fe.trans ff) st1, story_ex (fe.trans ff) st2, fun d pw pm pl W M N Hg pg hM hN hd' hpw hpm hpl fg wg => ?_⟩
    walk_at "rd"
    have tb3 := A.tabs_fr w2 ((((((fa.trans fb).trans fc).trans fd').trans fe).trans ff).trans fg) tb2
    have st1 := story_ex ((fe.trans ff).trans fg) st1
    have st2 := story_ex ((fe.trans ff).trans fg) st2
    clear i1 i3 hrw rw'
    have wg : A.Sw Hg sa (1000 * i + 700) := wg.le (by omega)
    have hn1 : L1.length < 60 := by omega
    have hn2 : L2'.length < 60 := by omega
    have hWl : W.length = L1.length + L2'.length + 1 := by have := pg.lenW; omega
    have vpW : VP W := ⟨by omega, pg.vp⟩
    refine A.v_dget (A.less_ex _ _ hd') (v := .ref pw) rfl ?_
    walk_at "rd"
    refine ⟨pw, W, rfl, pairs_ex A.less_ex hpw, by omega, fun q Hh eh hq => ?_⟩
    walk_at "rd"
    refine A.v_dget (eh _ _ (A.less_ex _ _ hd')) (v := .ref pm) rfl ?_
    walk_at "rd"
    refine A.v_dget (eh _ _ (A.less_ex _ _ hd')) (v := .ref pl) rfl ?_
    walk_at "rd"
    refine ⟨A.len3, fun p3 hp3 => ?_⟩
    refine A.r_gtup (.inl (.inl upd_same)) rfl ?_
    walk_at "rd"
    have ei := eh.trans (A.Ex.new (o := .tup [V.ref q, V.ref pm, V.ref pl]) (A.Ex.refl Hh) hp3)
    have hq := A.sqT_ex (A.Ex.new (o := .tup [V.ref q, V.ref pm, V.ref pl]) (A.Ex.refl Hh) hp3) hq
    generalize hHi : upd Hh p3 (.tup [V.ref q, V.ref pm, V.ref pl]) = Hi at ei hq
    have wi := wg.ext ei
    refine ⟨p1, L1, rfl, pairs_ex (A.Ex.trans A.less_ex ei) (story_pairs st1), by omega, fun q1 Hj ej hq1 => ?_⟩
    walk_at "rd"
    refine ⟨p2, L2', rfl, pairs_ex (A.Ex.trans (A.Ex.trans A.less_ex ei) ej) (story_pairs st2), by omega, fun q2 Hk ek hq2 => ?_⟩
    walk_at "rd"
    refine ⟨.ref q, W, rfl, ⟨q, rfl, A.sqT_ex ek (A.sqT_ex ej hq)⟩, vpW, fun ph Hl el hph0 hph => ?_⟩
    have eik := (ej.trans ek).trans el
    have wl := wi.ext eik
    have tbl := tb3.ext (ei.trans eik)
    have oph := ((wi.ext ej).ext ek).own hph0
    have fgl : A.Fr sa Hg Hl := A.Fr.of (ei.trans eik)
    -- what stands from here on
    have Fq : SqT K (A.Lx sa Hl) q (pvs W) := A.tup_lx (wl.wd.tup (A.sqT_ex eik hq))
    have F1 : SqT K (A.Lx sa Hl) q1 (pvs L1) := A.tup_lx (wl.wd.tup (A.sqT_ex (ek.trans el) hq1))
    have F2 : SqT K (A.Lx sa Hl) q2 (pvs L2') := A.tup_lx (wl.wd.tup (A.sqT_ex el hq2))
    have Fm : A.Lx sa Hl pm = some (.lst (nvs M)) := A.lst_lx (fgl _ _ hpm)
    have Fl : A.Lx sa Hl pl = some (.lst (nvs N)) := A.lst_lx (fgl _ _ hpl)
    have Fh : A.Lx sa Hl ph = some (.lst (nvs (line W))) := A.lst_lx (by rw [A.less_of oph.st oph.g]; exact hph)
    have b0 : A.Bx sa [(Pt, lamQ)] Hl Hl (1000 * i + 700) := .start wl tbl
    clear hpw hpm hpl hd' st1 st2 wg wi hq hq1 hq2 hph hph0 fgl tb3 tb2 w2 hHi hp3 ei ej ek el eik eh fg ff fe fd' fc fb fa wf we wd wc wb wa hz
    have G := pg.graft vp1.2 vp2.2 hM hN (by omega)
    refine A.r_nx ?_
    have hgr := G.low
    -- the whole line
    walk_at "rd"
    refine ⟨rfl, .ref q, W, rfl, ⟨q, rfl, b0.tup Fq⟩, vpW, fun u1 H1 e1 h1 => ?_⟩
    have b1 := b0.ext e1
    walk_at "rd"
    refine A.v_tupL (SqL.of (b1.at Fh)) fun u2 H2 e2 h2 => ?_
    have b2 := b1.ext e2
    walk_at "rd"
    refine ⟨_, _, .tuple (nds (line W)), rfl, dp_nvt (A.sqT_ex e2 h1), dp_nvt h2, ok_line vpW, ?_⟩
    walk_at "rd"
    -- mine in the whole line
    have lW := lineN_len W
    have l1 := lineN_len L1
    have l2 := lineN_len L2'
    have bM : ∀ x ∈ M, x < 10 ^ 9 := fun x hx => by have := pg.mlt x hx; omega
    have bN : ∀ x ∈ N, x < 10 ^ 9 := fun x hx => by have := (pg.nlt x hx).2; omega
    have inM : ∀ v, v ∈ M ↔ ∃ i, i ≤ L1.length ∧ M.getD i 0 = v := fun v => by
      constructor
      · intro h
        obtain ⟨i, hi, e⟩ := List.mem_iff_getElem.mp h
        exact ⟨i, by omega, by rw [List.getD_eq_getElem?_getD, List.getElem?_eq_getElem hi]; exact e⟩
      · rintro ⟨i, hi, e⟩
        rw [← e, List.getD_eq_getElem?_getD, List.getElem?_eq_getElem (show i < M.length by omega)]
        exact List.getElem_mem _
    refine A.i_seq H2 (.inl (SqL.of (b2.at Fh))) (A.Ex.refl _) fun J1 hJ1 => ?_
    intro D1 hD1
    refine A.lc_seq hJ1 (A.Ex.refl _) (by rw [nvs_len]; omega) (inF M) hD1 (fun j x H4 Y Nn hx hE hY hN => ?_) (fun H3 hE3 hDD1 => ?_)
    · rw [nvs_get] at hx
      obtain ⟨y, hy, rfl⟩ := Option.map_eq_some_iff.mp hx
      walk_at "rd"
      refine ⟨rfl, ?_⟩
      walk_at "rd"
      have hyl := line_lt vpW y (List.mem_of_getElem? hy)
      refine ⟨nd y, nds M, .int _, dp_nvs (SqL.of (hE _ _ (b2.at Fm))), (ok_nd (by omega)).shaped, (ok_nl bM (by omega)).shaped, ?_⟩
      rw [any_nds]
      walk_at "rd"
      by_cases hyw : y ∈ M
      · rw [decide_eq_true hyw]
        walk_at "rd"
        exact hY _ _ (inF_y hyw) (A.Ex.refl _)
      · rw [decide_eq_false hyw]
        walk_at "rd"
        exact hN _ (inF_n hyw) (A.Ex.refl _)
    rw [fm_in] at hDD1
    have b3 := b2.ext hE3
    walk_at "rd"
    refine ⟨.ref q1, L1, rfl, ⟨q1, rfl, b3.tup F1⟩, vp1, fun u4 H4 e4 h4 => ?_⟩
    have b4 := b3.ext e4
    refine A.i_seq H4 (.inr h4) (A.Ex.refl _) fun J2 hJ2 => ?_
    intro D2 hD2
    refine A.lc_seq hJ2 (A.Ex.refl _) (by rw [nvs_len]; omega) (mapF fun i => M.getD i 0) hD2 (fun j x H6 Y Nn hx hE hY hN => ?_) (fun H5 hE5 hDD2 => ?_)
    · rw [nvs_get] at hx
      obtain ⟨y, hy, rfl⟩ := Option.map_eq_some_iff.mp hx
      walk_at "rd"
      refine ⟨rfl, ?_⟩
      walk_at "rd"
      have hyl := line_lt vp1 y (List.mem_of_getElem? hy)
      refine A.v_ixL (i := ((y : Nat) : Int)) (SqL.of (hE _ _ (b4.at Fm))) (at_nvs (x := M.getD y 0) (by rw [List.getD_eq_getElem?_getD, List.getElem?_eq_getElem (show y < M.length by omega)]; rfl)) ?_
      exact hY _ _ mapF_y (A.Ex.refl _)
    rw [fm_map] at hDD2
    have b5 := b4.ext hE5
    have eq1 : (line W).filter (fun x => decide (x ∈ M)) = (line L1).map (fun i => M.getD i 0) := by
      rw [show line L1 = Tr.lineN (Tr.pL L1) L1.length from rfl, ← G.mine_line]
      exact List.filter_congr fun v _ => decide_eq_decide.mpr (inM v)
    have okm : ∀ x ∈ (line L1).map (fun i => M.getD i 0), x < 10 ^ 9 := fun x hx => by
      obtain ⟨y, hy, rfl⟩ := List.mem_map.mp hx
      have hyl := line_lt vp1 y hy
      exact bM _ ((inM _).mpr ⟨y, hyl, rfl⟩)
    rw [eq1] at hDD1
    refine A.v_neD (dp_nvs (SqL.of (hE5 _ _ (e4 _ _ hDD1)))) (dp_nvs (SqL.of hDD2)) (ok_nl okm (by simp; omega)).shaped (ok_nl okm (by simp; omega)).shaped ?_
    rw [(ok_nl okm (by simp; omega)).refl]
    walk_at "rd"
    -- the stretch of what was grafted
    obtain ⟨z0, hz0⟩ : ∃ z, N[0]? = some z := ⟨_, List.getElem?_eq_getElem (show 0 < N.length by omega)⟩
    have hz0' : N.getD 0 0 = z0 := by rw [List.getD_eq_getElem?_getD, hz0]; rfl
    refine A.v_ixL (i := ((0 : Nat) : Int)) (SqL.of (b5.at Fl)) (at_nvs hz0) ?_
    walk_at "rd"
    obtain ⟨X, B, eL, hX⟩ := Tr.split_at (((Tr.good_line _ (low_of vpW)).2 z0).mpr (by have := (pg.nlt z0 (List.mem_of_getElem? hz0)).2; omega))
    have eL : line W = X ++ z0 :: B := eL
    refine ⟨.ref q, W, z0, X, B, rfl, ⟨q, rfl, b5.tup Fq⟩, vpW, eL, hX, fun u6 H6 e6 h6 => ?_⟩
    have b6 := b5.ext e6
    refine A.r_gtup h6 rfl ?_
    refine A.r_gcons (A.r_gname (A.r_gcons (A.r_gname (A.r_gnil ?_))))
    walk_at "st"
    -- inner
    have lb : z0 :: Tr.tw z0 B = (line L2').map (fun j => N.getD j 0) := by
      have h := G.late_block (A := X) (B := B) (by rw [hz0']; exact eL)
      rw [hz0'] at h
      exact h
    refine A.cutE _ (fun v H' => ∃ pi, v = .ref pi ∧ A.Lx sa H' pi = some (.lst (nvs ((line L2').map (fun j => N.getD j 0)))) ∧ A.Bx sa [(Pt, lamQ)] Hl H' (1000 * i + 700)) (fun R hR => ?_) (fun v H9 ⟨pi, hv, Fi, b9⟩ => ?_)
    · walk_at "rd"
      refine ⟨.ref q2, L2', rfl, ⟨q2, rfl, b6.tup F2⟩, vp2, fun u7 H7 e7 h7 => ?_⟩
      have b7 := b6.ext e7
      refine A.i_seq H7 (.inr h7) (A.Ex.refl _) fun J3 hJ3 => ?_
      intro D3 hD3
      refine A.lc_seq hJ3 (A.Ex.refl _) (by rw [nvs_len]; omega) (mapF fun j => N.getD j 0) hD3 (fun j x H8 Y Nn hx hE hY hN => ?_) (fun H8 hE8 hDD3 => ?_)
      · rw [nvs_get] at hx
        obtain ⟨y, hy, rfl⟩ := Option.map_eq_some_iff.mp hx
        walk_at "rd"
        refine ⟨rfl, ?_⟩
        walk_at "rd"
        have hyl := line_lt vp2 y (List.mem_of_getElem? hy)
        refine A.v_ixL (i := ((y : Nat) : Int)) (SqL.of (hE _ _ (b7.at Fl))) (at_nvs (x := N.getD y 0) (by rw [List.getD_eq_getElem?_getD, List.getElem?_eq_getElem (show y < N.length by omega)]; rfl)) ?_
        exact hY _ _ mapF_y (A.Ex.refl _)
      rw [fm_map] at hDD3
      have b8 := b7.ext hE8
      have o3 := b7.sw.own hD3
      exact hR _ _ ⟨D3, rfl, A.lst_lx (by rw [A.less_of o3.st o3.g]; exact hDD3), b8⟩
    subst hv
    clear b0 b1 b2 b3 b4 b5 b6 hDD1 hDD2 h1 h2 h4 e1 e2 e4 hJ1 hJ2 hD1 hD2 hE3 hE5 eq1 okm J1 J2
    walk_at "st"
    have TFx : TF K sa Hl q q1 q2 pm pl ph W L1 L2' M N at' := ⟨Fq, F1, F2, Fm, Fl, Fh, vpW, vp1, vp2, pg, hM, hN, hn1, hn2, hWl, by omega⟩
    refine if3_ok (a := a) (i := 0 + i) (p1 := p1) (p2 := p2) (d := d) (z13 := z13) (z17 := z17) (z18 := z18) (z19 := z19) (z20 := z20) (z21 := z21) (z22 := z22) TFx b9 eL lb Fi fun H10 b10 => ?_
    refine laps_ok (z17 := z17) (z18 := z18) (z19 := z19) (z20 := z20) (z21 := z21) (z22 := z22) T TFx b10 (by omega) fun y17 y18 y19 y20 y21 H11 b11 => ?_
    exact ⟨_, _, _, _, _, _, _, _, _, _, _, _, _, _, _, _, _, _, _, _, _, rfl, b11.sw.le (by omega), b11.tb⟩
  · subst q1
    refine ⟨by have := (hJ Hx (fun _ _ h => by exact absurd h (by simp))).2; rwa [A.rgs_len] at this, ?_⟩
    walk_at "rd"
    exact k Hx
end
end T
set_option Elab.async false
set_option linter.all false
set_option maxRecDepth 100000
set_option maxHeartbeats 4000000
set_option autoImplicit false
namespace T
open PySem PySem.Spec PyProof.Rows L2
theorem facts {P : Program} {w : World} {K : PySem.W.Frag} {h : Heap} {mg : Str → Option Value} {f0 : Addr} (X : K.In h) (G : h.Ns mainGlobals mg) (hfa : mg ("law" : Str) = some (.ref f0)) (S : He.SaysX fa fn [] tf ex w h K) :
    ∃ (c0 Pt : Addr) (fd : FuncData), h.get? Pt = some A.tabO ∧ K.lookup Pt = none ∧ PySem.W.CodeHd h c0 Pt ∧ (∀ (s : Shared) (u : Value), BindsTo s fd ⟨[u], []⟩ [("script", u)]) ∧ ∀ base : Heap, K.In base → base.Ns mainGlobals mg → LamX.TabB base mg c0 Pt → A.FnG P w K mg base CX0 8 f0 fd ["script"] (sp_law K Pt) := by
  have tx := txt X G S.t.d S.more
  have hm : (("law", none) : He.Defn) ∈ tf := by decide
  obtain ⟨fd, F⟩ := S.t.d.def_ 36 (d := d_law) rfl
  have e := hfa.symm.trans (He.glo_ok X G (S.t.d.fact 36 (f := .glo "law") rfl))
  obtain rfl : f0 = He.ga K "law" := by injection e with e; injection e
  have b := FunD.bindsA (ps := P_law) F bd_law
  refine ⟨(He.cT K ("law", none)).1, (He.cT K ("law", none)).2, fd, S.empty _ hm, S.out _ hm, PySem.W.codeHd_of_K X (S.hd _ hm), fun s u => b s [u] rfl, fun base Xb Gb TB => ?_⟩
  have c_is_whole := ok_is_whole (P := P) (w := w) (base := base) tx (df X G S.t.d 0 0 rfl rfl rfl) 
  have c_line_by := ok_line_by (P := P) (w := w) (base := base) tx (df X G S.t.d 5 5 rfl rfl rfl) 
  have c_is_of := ok_is_of (P := P) (w := w) (base := base) tx (df X G S.t.d 6 6 rfl rfl rfl) 
  have c_law_begun0 := ok_law_begun (P := P) (w := w) (base := base) tx (df X G S.t.d 17 17 rfl rfl rfl) 
  have c_law_begun := begun2 c_law_begun0
  have c_law_blended := ok_law_blended (P := P) (w := w) (base := base) tx (df X G S.t.d 18 18 rfl rfl rfl) 
  have c_law_is_truth := ok_law_is_truth (P := P) (w := w) (base := base) tx (df X G S.t.d 22 22 rfl rfl rfl) 
  have c_law_is_whole := ok_law_is_whole (P := P) (w := w) (base := base) tx (df X G S.t.d 23 23 rfl rfl rfl) 
  have c_law_as_moved_value := ok_law_as_moved_value (P := P) (w := w) (base := base) tx (df X G S.t.d 24 24 rfl rfl rfl) 
  have c_law_as_same := ok_law_as_same (P := P) (w := w) (base := base) tx (df X G S.t.d 27 27 rfl rfl rfl) 
  have c_law_as_line := ok_law_as_line (P := P) (w := w) (base := base) tx (df X G S.t.d 30 30 rfl rfl rfl) 
  have c_law_as_parents := ok_law_as_parents (P := P) (w := w) (base := base) tx (df X G S.t.d 31 31 rfl rfl rfl) 
  have c_law_k01_up := ok_law_k01_up (P := P) (w := w) (base := base) tx (df X G S.t.d 32 32 rfl rfl rfl) 
  have c_is_number := ok_is_number (P := P) (w := w) (base := base) tx (df X G S.t.d 1 1 rfl rfl rfl) c_is_whole
  have c_law_draw0 := ok_law_draw (P := P) (w := w) (base := base) tx (df X G S.t.d 19 19 rfl rfl rfl) c_law_blended
  have c_law_draw := draw2 c_law_draw0
  have c_law_as_moved := ok_law_as_moved (P := P) (w := w) (base := base) tx (df X G S.t.d 25 25 rfl rfl rfl) c_law_as_moved_value
  have c_law_k01_meet := ok_law_k01_meet (P := P) (w := w) (base := base) tx (df X G S.t.d 33 33 rfl rfl rfl) c_law_k01_up
  have c_need_version := ok_need_version (P := P) (w := w) (base := base) tx (df X G S.t.d 2 2 rfl rfl rfl) c_is_number
  have c_are_parents := ok_are_parents (P := P) (w := w) (base := base) tx (df X G S.t.d 3 3 rfl rfl rfl) c_is_number
  have c_is_line := ok_is_line (P := P) (w := w) (base := base) tx (df X G S.t.d 15 15 rfl rfl rfl) c_is_number
  have c_law_pick0 := ok_law_pick (P := P) (w := w) (base := base) tx (df X G S.t.d 20 20 rfl rfl rfl) c_law_draw0
  have c_law_pick := pick2 c_law_pick0
  have c_law_as_grafted := ok_law_as_grafted (P := P) (w := w) (base := base) tx (df X G S.t.d 26 26 rfl rfl rfl) c_law_draw c_law_as_moved
  have c_need_parents := ok_need_parents (P := P) (w := w) (base := base) tx (df X G S.t.d 4 4 rfl rfl rfl) c_are_parents
  have c_tree_of := ok_tree_of (P := P) (w := w) (base := base) tx (df X G S.t.d 16 16 rfl rfl rfl) c_is_line
  have c_law_as_value := ok_law_as_value (P := P) (w := w) (base := base) tx (df X G S.t.d 28 28 rfl rfl rfl) 
  have c_law_k01_bent := ok_law_k01_bent (P := P) (w := w) (base := base) tx (df X G S.t.d 35 35 rfl rfl rfl) c_law_draw c_law_pick
  have c_need_in := ok_need_in (P := P) (w := w) (base := base) tx (df X G S.t.d 7 7 rfl rfl rfl) c_need_parents c_need_version
  have c_line_of := ok_line_of (P := P) (w := w) (base := base) tx (df X G S.t.d 8 8 rfl rfl rfl) c_need_parents c_line_by
  have c_law_as_story := ok_law_as_story (P := P) (w := w) (base := base) tx (df X G S.t.d 29 29 rfl rfl rfl) c_law_draw c_law_pick c_law_as_value
  have c_place := ok_place (P := P) (w := w) (base := base) tx (df X G S.t.d 9 9 rfl rfl rfl) c_need_in c_line_by
  have c_is_ahead := ok_is_ahead (P := P) (w := w) (base := base) tx (df X G S.t.d 10 10 rfl rfl rfl) c_need_in c_line_by
  have c_next_in_line := ok_next_in_line (P := P) (w := w) (base := base) tx (df X G S.t.d 11 11 rfl rfl rfl) c_need_in c_line_by
  have c_comes_of := ok_comes_of (P := P) (w := w) (base := base) tx (df X G S.t.d 12 12 rfl rfl rfl) c_need_in c_is_of
  have c_stretch := ok_stretch (P := P) (w := w) (base := base) tx (df X G S.t.d 13 13 rfl rfl rfl) c_need_in c_line_by
  have c_meet := ok_meet (P := P) (w := w) (base := base) tx (df X G S.t.d 14 14 rfl rfl rfl) c_need_in
  have c_law_k01_asked := ok_law_k01_asked (P := P) (w := w) (base := base) tx (df X G S.t.d 34 34 rfl rfl rfl) c_law_as_same c_law_draw c_law_is_truth c_meet c_law_k01_meet c_law_k01_up c_comes_of c_place c_is_ahead c_next_in_line c_stretch
  exact ok_law tx F TB (fun oc od osl fd' c lk e => (He.codeOf_eq (K := K) (p := ("law", none)) lk e).symm) (df X G S.t.d 21 21 rfl rfl rfl) c_law_begun c_law_draw c_law_as_grafted c_law_as_line c_stretch c_law_as_story c_law_as_parents c_law_k01_bent c_law_as_same c_line_of c_law_k01_asked c_law_is_truth c_tree_of c_comes_of c_meet c_is_line c_law_is_whole
end T
open PySem PySem.W PySem.Calls PyProof.Rows
theorem PySem.Challenge.cw_asifcopied_k01_whole_lines_grafted_holds : PySem.Challenge.rw_asifcopied_k01_whole_lines_grafted.Holds := by
  w_on; o_law
  refine HandSHeadRun.head_any (r := OpenLaw.row PySem.Challenge.rw_asifcopied_k01_whole_lines_grafted) (q := view (OpenLaw.row PySem.Challenge.rw_asifcopied_k01_whole_lines_grafted).prog [46]) (H := T.hk) (ob := T.ob) (M := 6000) (loose := T.loose) (d := HandSHeadRun.topDef (OpenLaw.row PySem.Challenge.rw_asifcopied_k01_whole_lines_grafted).prog 46) (kwd := []) T.ob_eq
    (by kernel_rfl) (fun s => by kernel_rfl) T.run (by kernel_rfl) (by kernel_rfl) (by kernel_rfl) (by rfl) (by first | assumption | decide +kernel) (by decide +kernel) ⟨rfl, rfl, rfl, rfl, rfl, by decide +kernel⟩ ?hw ?hc
  case hw => w_witness2
  case hc =>
    refine A.walk_G (l := PySem.Challenge.rw_asifcopied_k01_whole_lines_grafted) (n := 63) (k := 8) (x := "script") rfl (by decide) (by kernel_rfl) ⟨rfl, by decide, by decide⟩ ?F
    intro w mg f0 h Y G hmg0
    obtain ⟨K, KX, S⟩ := Y
    have hmg : mg ("law" : PySem.Str) = some (.ref f0) := by
      have e : (HandSHeadRun.topDef (OpenLaw.row PySem.Challenge.rw_asifcopied_k01_whole_lines_grafted).prog 46).name = ("law" : PySem.Str) := by kernel_rfl
      rw [← e]
      exact hmg0
    obtain ⟨c0, Pt, fd, h1, h2, h3, hb, hF⟩ := T.facts (P := (PySem.Challenge.rw_asifcopied_k01_whole_lines_grafted).prog) (w := w) KX G hmg S
    exact ⟨K, c0, Pt, fd, T.sp_law K Pt, KX, h1, h2, h3, hb, fun H a ns hl hP hS => ⟨a, ns, rfl, hS, Nat.le_trans hl (by decide), hP, fun _ => rfl⟩, hF⟩
