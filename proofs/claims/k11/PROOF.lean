import PyProof.Rows.All
import Wide.All
import OpenK.AllK
import Wide.FinOn
import HandS.ForMost
import HandS.Walk
import HandS.Zip
import HandS.DictComp
import HandS.Conv
import HandS.TupLen
import HandS.Style
import HandS.Wide
import HandS.IsInst
import HandS.Steps
import HandS.Evl
import KE.KSuper
import KE.KExcSuper
import KE.KExcPX
import HandS.ForSpec
import KE.KDictDisplayH
import KE.KDictCopyH
import PyProof.Rows.TupDisplay
import HandS.TupMul
import PyProof.StrOps2
import HandS.Deep
import KE.GoesNew
import HandS.Rev
import HandS.SortInts
import HandS.WordsDict
import HandS.Strs
import KE.KxText
import KE.KSortTupG
import HandS.Defaults
import PyProof.Rows.NestShow
import HandS.ExcIs
import KE.KExcIs
import PySem.Challenge.RW_asmany_k11_whole_formulas_and_their_firs
import KE.RegKSuper
/-! ## AKit -/
set_option Elab.async false
set_option linter.all false
set_option maxRecDepth 100000
namespace AK
open PySem PySem.Spec PyProof.Rows L2

/-! ## readings, one step each -/
section
variable {D : Ends} {σ : L2.St} {H : Hp} {Q : VK} {K : PySem.W.Frag}
theorem v_seq {t u : TS} (q : t { D with nx := u D } σ H) : tSeq t u D σ H := q
theorem v_cut {t u : TS} (Mid : L2.St → Hp → Prop) (h : t { D with nx := Mid } σ H) (k : ∀ σ' H', Mid σ' H' → u D σ' H') : Evl.tCut t u D σ H := ⟨Mid, h, k⟩
theorem v_next (q : D.nx σ H) : tNext D σ H := q
theorem v_set {te : TE} {i : Nat} (q : te σ H fun v H1 => D.nx (σ.set i (some v)) H1) : tAsg te (gName i) D σ H := q
theorem v_asg {te : TE} {g : TG} (q : te σ H fun v H1 => g v σ H1 D.nx) : tAsg te g D σ H := q
theorem v_ret {te : TE} (q : te σ H D.rt) : tRet te D σ H := q
theorem v_retN (q : D.rt .non H) : tRetN D σ H := q
theorem v_drop {te : TE} (q : te σ H fun _ H1 => D.nx σ H1) : tDrop te D σ H := q
theorem v_brk (q : D.bk σ H) : tBreak D σ H := q
theorem v_if {c : TT} {t u : TS} (q : c σ H fun b H1 => if b = true then t D σ H1 else u D σ H1) : tIfS c t u D σ H := q
theorem v_par {i j : Nat} {ta : TA} (q : ta σ H fun vs H1 => ∃ v w, vs = [v, w] ∧ D.nx ((σ.set i (some v)).set j (some w)) H1) : tPar i j ta D σ H := q
theorem v_par2 {i j : Nat} {v w : V} (q : D.nx ((σ.set i (some v)).set j (some w)) H) : ∃ v' w', [v, w] = [v', w'] ∧ D.nx ((σ.set i (some v')).set j (some w')) H := ⟨v, w, rfl, q⟩
theorem v_aug {i : Nat} {te : TE} {f : Int → Int → Int} {a : Int} (h : σ[i]? = some (some (.int a))) (q : te σ H fun y H1 => ipI f (.int a) y H1 fun z H2 => D.nx (σ.set i (some z)) H2) : tAug i te (ipI f) D σ H := ⟨_, h, q⟩
theorem v_ip {f : Int → Int → Int} {a b : Int} (q : Q (.int (f a b)) H) : ipI f (.int a) (.int b) H Q := ⟨a, b, rfl, rfl, q⟩
theorem v_var {i : Nat} {v : V} (h : σ[i]? = some (some v)) (q : Q v H) : tVar i σ H Q := ⟨v, h, q⟩
theorem v_c {v : V} (q : Q v H) : tC v σ H Q := q
theorem v_op {r : R2} {ta tb : TE} (q : ta σ H fun x H1 => tb σ H1 fun y H2 => r x y H2 Q) : tOp r ta tb σ H Q := q
theorem v_un {r : V → Hp → VK → Prop} {ta : TE} (q : ta σ H fun x H1 => r x H1 Q) : tUn r ta σ H Q := q
theorem v_nil {R : List V → Hp → Prop} (q : R [] H) : tNil σ H R := q
theorem v_cons {ta : TE} {tr : TA} {R : List V → Hp → Prop} (q : ta σ H fun x H1 => tr σ H1 fun xs H2 => R (x :: xs) H2) : tCons ta tr σ H R := q
theorem v_cb {r : List V → Hp → VK → Prop} {t : TA} (q : t σ H fun vs H1 => r vs H1 Q) : tCB r t σ H Q := q
theorem v_call {sp : Sp} {dvs : List V} {E : XK} {t : TA} (q : t σ H fun vs H1 => sp (vs ++ dvs) H1 Q E) : tCall sp dvs E t σ H Q := q
theorem v_test {te : TE} {R : Bool → Hp → Prop} (q : te σ H fun x H1 => ∃ k, x = .bl k ∧ R k H1) : tTest te σ H R := q
theorem v_tB {te : TE} {R : Bool → Hp → Prop} (q : te σ H fun x H1 => ∃ k, x = .bl k ∧ R k H1) : tB te σ H R := q
theorem v_bl {k : Bool} {R : Bool → Prop} (q : R k) : ∃ k', V.bl k = .bl k' ∧ R k' := ⟨k, rfl, q⟩
theorem v_and {t u : TT} {R : Bool → Hp → Prop} (q : t σ H fun c H1 => if c = true then u σ H1 R else R false H1) : tAnd t u σ H R := q
theorem v_or {t u : TT} {R : Bool → Hp → Prop} (q : t σ H fun c H1 => if c = true then R true H1 else u σ H1 R) : tOr t u σ H R := q
theorem v_not {t : TT} {R : Bool → Hp → Prop} (q : t σ H fun c H1 => R (!c) H1) : tNot t σ H R := q
theorem v_andV {ta tb : TE} (q : ta σ H fun x H1 => ∃ c, x = .bl c ∧ if c = true then tb σ H1 Q else Q (.bl false) H1) : tAndV ta tb σ H Q := q
theorem v_orV {ta tb : TE} (q : ta σ H fun x H1 => ∃ c, x = .bl c ∧ if c = true then Q (.bl true) H1 else tb σ H1 Q) : tOrV ta tb σ H Q := q
theorem v_notV {ta : TE} (q : ta σ H fun x H1 => ∃ c, x = .bl c ∧ Q (.bl (!c)) H1) : tNotV ta σ H Q := q
theorem v_ifE {c : TT} {ta tb : TE} (q : c σ H fun b H1 => if b = true then ta σ H1 Q else tb σ H1 Q) : tIf c ta tb σ H Q := q
theorem v_true {A B : Prop} (q : A) : if true = true then A else B := by rw [if_pos rfl]; exact q
theorem v_false {A B : Prop} (q : B) : if false = true then A else B := by rw [if_neg Bool.false_ne_true]; exact q
theorem v_ntrue {A B : Prop} (q : B) : if (!true) = true then A else B := v_false q
theorem v_nfalse {A B : Prop} (q : A) : if (!false) = true then A else B := v_true q
theorem v_dec {p : Prop} [Decidable p] {A B : Prop} (q1 : p → A) (q2 : ¬ p → B) : if decide p = true then A else B := by
  by_cases h : p
  · rw [if_pos (decide_eq_true h)]; exact q1 h
  · rw [if_neg (by rw [decide_eq_false h]; exact Bool.false_ne_true)]; exact q2 h
theorem v_ndec {p : Prop} [Decidable p] {A B : Prop} (q1 : ¬ p → A) (q2 : p → B) : if (!decide p) = true then A else B := by
  by_cases h : p
  · rw [decide_eq_true h]; exact v_false (q2 h)
  · rw [decide_eq_false h]; exact v_true (q1 h)
theorem v_bool {b : Bool} {A B : Prop} (q1 : b = true → A) (q2 : b = false → B) : if b = true then A else B := by
  cases b
  · exact v_false (q2 rfl)
  · exact v_true (q1 rfl)
theorem v_yes {A B : Hp → Prop} (q : A H) : tYes σ H (fun b H3 => if b = true then A H3 else B H3) := v_true (A := A H) (B := B H) q
/-! operators on values -/
theorem v_eq {x y : V} (h : scal x y = true) (q : Q (.bl (decide (x = y))) H) : rEq x y H Q := ⟨h, q⟩
theorem v_ne {x y : V} (h : scal x y = true) (q : Q (.bl (!decide (x = y))) H) : rNe x y H Q := ⟨h, q⟩
theorem v_I0 {g : Int → Int → V} {i j : Int} (q : Q (g i j) H) : rI0 g (.int i) (.int j) H Q := ⟨i, j, rfl, rfl, q⟩
theorem v_I {C : Int → Int → Prop} {g : Int → Int → V} {i j : Int} (h : C i j) (q : Q (g i j) H) : rI C g (.int i) (.int j) H Q := ⟨i, j, rfl, rfl, h, q⟩
theorem v_U {g : Int → V} {i : Int} (q : Q (g i) H) : rU g (.int i) H Q := ⟨i, rfl, q⟩
theorem v_ixL {p : Addr} {xs : List V} {i : Int} {v : V} (h : SqL K H p xs) (ha : atI xs i = some v) (q : Q v H) : rIxL K (.ref p) (.int i) H Q := ⟨p, xs, i, v, rfl, rfl, h, ha, q⟩
theorem v_ixT {p : Addr} {xs : List V} {i : Int} {v : V} (h : SqT K H p xs) (ha : atI xs i = some v) (q : Q v H) : rIxT K (.ref p) (.int i) H Q := ⟨p, xs, i, v, rfl, rfl, h, ha, q⟩
end

/-! ## heaps: what stands, stays -/
theorem same_new {H : Hp} {p : Addr} (h : H p = none) (o : HO) : Same H (upd H p o) := fun b u q => by rw [upd_ne (ne_of_none q h)]; exact q
theorem Same.tup {H H' : Hp} (e : Same H H') {a : Addr} {xs : List V} (h : H a = some (.tup xs)) : H' a = some (.tup xs) := e _ _ h
theorem Same.mut {H H' : Hp} {p : Addr} {o : HO} (e : Same H H') (h : H p = none) : Same H (upd H' p o) := fun a u ha => by
  rw [upd_ne (ne_of_none ha h)]; exact e a u ha

section
variable {D : Ends} {σ : L2.St} {H : Hp} {Q : VK} {K : PySem.W.Frag}
theorem v_new {o : HO} {R : Addr → Hp → Prop} (q : ∀ p H', H p = none → Same H H' → H' p = some o → R p H') : ∀ p, H p = none → R p (upd H p o) :=
  fun p h => q p _ h (same_new h o) upd_same
def rNewT (xs : List V) (H : Hp) (Q : VK) : Prop := xs.length ≤ sizeLine ∧ ∀ p, H p = none → Q (.ref p) (upd H p (.tup xs))
def rNewL (xs : List V) (H : Hp) (Q : VK) : Prop := xs.length ≤ sizeLine ∧ ∀ p, H p = none → Q (.ref p) (upd H p (.lst xs))
theorem v_tup {t : TA} (q : t σ H fun xs H1 => rNewT xs H1 Q) : tTup t σ H Q := q
theorem v_lst {t : TA} (q : t σ H fun xs H1 => rNewL xs H1 Q) : tLst t σ H Q := q
/-- a display's new object -/
theorem v_dl {xs : List V} (q : ∀ p H', H p = none → Same H H' → H' p = some (.lst xs) → Q (.ref p) H') (h : xs.length ≤ 1000 := by first | decide | simp | skip) : rNewL xs H Q := ⟨Nat.le_trans h (by decide), v_new q⟩
theorem v_dt {xs : List V} (q : ∀ p H', H p = none → Same H H' → H' p = some (.tup xs) → Q (.ref p) H') (h : xs.length ≤ 1000 := by first | decide | simp | skip) : rNewT xs H Q := ⟨Nat.le_trans h (by decide), v_new q⟩
end

/-! ## a def of the text, ready to be called -/
structure Fn (P : Program) (w : World) (K : PySem.W.Frag) (mg : Str → Option Value) (base : Heap) (k : Nat) (x : Str) (ps : List Str) (sp : Sp) : Prop where
  ex : ∃ (f : Addr) (fd : FuncData), FnOk P w K mg base CX0 k f fd ps sp ∧ mg x = some (.ref f) ∧ PySem.W.keepIn K (.ref f) = true ∧ Binds K fd ps []
theorem Fn.mono {P : Program} {w : World} {K : PySem.W.Frag} {mg : Str → Option Value} {base : Heap} {j k : Nat} {x : Str} {ps : List Str} {sp : Sp} (h : Fn P w K mg base j x ps sp) (e : j ≤ k) : Fn P w K mg base k x ps sp := by
  obtain ⟨f, fd, F, m, kp, b⟩ := h
  exact ⟨f, fd, F.mono e, m, kp, b⟩
theorem Fn.imp {P : Program} {w : World} {K : PySem.W.Frag} {mg : Str → Option Value} {base : Heap} {k : Nat} {x : Str} {ps : List Str} {sp sp' : Sp} (h : Fn P w K mg base k x ps sp) (e : ∀ vs H Q E, sp' vs H Q E → sp vs H Q E) : Fn P w K mg base k x ps sp' := by
  obtain ⟨f, fd, F, m, kp, b⟩ := h
  exact ⟨f, fd, F.imp e, m, kp, b⟩
section
variable {X : Cx} {e : Expr} {es : List Expr} {t : TA} {p pos : Pos}
theorem cal {k j : Nat} {x : Str} {ps : List Str} {sp : Sp} (h : Fn X.prog X.w X.K X.mg X.base k x ps sp) (hr : Room j X.A) (ha : PA X (e :: es) t) (hj : k ≤ j := by omega) (hg : Gl X x := by rfl) (hdb : (x == ("__debug__" : Str)) = false := by decide)
    (he : starEach (e :: es) X.env = (false, eval e X.env) :: starEach es X.env := by rfl) (hpl : (backTo pos (starEach es X.env)).any (·.1) = false := by rfl) : PE X (.Call (.Name x p) (e :: es) [] pos) (tCall sp [] E0 t) := by
  obtain ⟨f, fd, F, m, kp, b⟩ := h
  exact pe_call F (hr.mono hj) hg m kp b .nil pass0 ha hdb he hpl
end

/-! ## the built-ins' names -/
structure Bt (mg : Str → Option Value) : Prop where
  abs : mg "abs" = none
  all : mg "all" = none
  any : mg "any" = none
  int : mg "int" = none
  isinstance : mg "isinstance" = none
  len : mg "len" = none
  list : mg "list" = none
  max : mg "max" = none
  min : mg "min" = none
  range : mg "range" = none
  sorted : mg "sorted" = none
  sum : mg "sum" = none
  tuple : mg "tuple" = none
  zip : mg "zip" = none
  bool : mg "bool" = none
theorem bt_abs : bootBuiltins "abs" = some (.builtin "abs") := by decide +kernel
theorem bt_all : bootBuiltins "all" = some (.builtin "all") := by decide +kernel
theorem bt_any : bootBuiltins "any" = some (.builtin "any") := by decide +kernel
theorem bt_isinstance : bootBuiltins "isinstance" = some (.builtin "isinstance") := by decide +kernel
theorem bt_len : bootBuiltins "len" = some (.builtin "len") := by decide +kernel
theorem bt_max : bootBuiltins "max" = some (.builtin "max") := by decide +kernel
theorem bt_min : bootBuiltins "min" = some (.builtin "min") := by decide +kernel
theorem bt_sorted : bootBuiltins "sorted" = some (.builtin "sorted") := by decide +kernel
theorem bt_sum : bootBuiltins "sum" = some (.builtin "sum") := by decide +kernel
theorem bt_int : bootBuiltins "int" = some (.type "int") := by decide +kernel
theorem bt_bool : bootBuiltins "bool" = some (.type "bool") := by decide +kernel
theorem bt_str : bootBuiltins "str" = some (.type "str") := by decide +kernel
theorem bt_list : bootBuiltins "list" = some (.type "list") := by decide +kernel
theorem bt_tuple : bootBuiltins "tuple" = some (.type "tuple") := by decide +kernel
section
variable {X : Cx} {e : Expr} {es : List Expr} {t : TA} {p pos : Pos} {r : List V → Hp → VK → Prop}
/-- a call of a built-in, of a built-in type -/
theorem cb {x : Str} {id : String} (hv : bootBuiltins x = some (.builtin id)) (hc : CallR X (.builtin id) r) (hm : X.mg x = none) (ha : PA X (e :: es) t) (hg : Gl X x := by rfl) (hn : x ≠ "__name__" := by decide) (hdb : (x == ("__debug__" : Str)) = false := by decide)
    (he : starEach (e :: es) X.env = (false, eval e X.env) :: starEach es X.env := by rfl) (hpl : (backTo pos (starEach es X.env)).any (·.1) = false := by rfl) : PE X (.Call (.Name x p) (e :: es) [] pos) (tCB r t) := pe_callB hc hg hm hv ha hn hdb he hpl
theorem ct {x : Str} {T : String} (hv : bootBuiltins x = some (.type T)) (hc : CallR X (.type T) r) (hm : X.mg x = none) (ha : PA X (e :: es) t) (hg : Gl X x := by rfl) (hn : x ≠ "__name__" := by decide) (hdb : (x == ("__debug__" : Str)) = false := by decide)
    (he : starEach (e :: es) X.env = (false, eval e X.env) :: starEach es X.env := by rfl) (hpl : (backTo pos (starEach es X.env)).any (·.1) = false := by rfl) : PE X (.Call (.Name x p) (e :: es) [] pos) (tCB r t) := pe_callTy hc hg hm hv ha hn hdb he hpl
/-- a built-in type's name as a value -/
theorem tyn {x : Str} {T : String} (hv : bootBuiltins x = some (.type T)) (hm : X.mg x = none) (hg : Gl X x := by rfl) (hn : x ≠ "__name__" := by decide) (hd : (x == ("__debug__" : Str)) = false := by decide) : PE X (.Name x pos) (tC (.ty T)) := pe_bltn hg hm hv rfl hn hd
end
/-- isinstance with a built-in type -/
def rIs (K : PySem.W.Frag) : List V → Hp → VK → Prop := fun xs H Q => ∃ (x : V) (a b : String) (k : Bool), xs = [x, .ty b] ∧ TyX K H x (.type a) ∧ kitB a b = some k ∧ Q (.bl k) H
theorem cr_is {X : Cx} : CallR X (.builtin "isinstance") (rIs X.K) := by
  intro pins s σ H xs us Q I r h
  obtain ⟨x, a, b, k, rfl, ty, e, q⟩ := h
  exact call_isi pins s σ H _ us Q I r ⟨x, .ty b, .type a, .type b, k, rfl, .ty b, ty, kit_ty e, q⟩

/-! ## what stays: tuples through every change; everything but a source of draws -/
def Imm (H H' : Hp) : Prop := ∀ a xs, H a = some (.tup xs) → H' a = some (.tup xs)
theorem Imm.refl (H : Hp) : Imm H H := fun _ _ h => h
theorem Imm.trans {H H1 H2 : Hp} (a : Imm H H1) (b : Imm H1 H2) : Imm H H2 := fun x xs h => b x xs (a x xs h)
theorem Imm.of_same {H H' : Hp} (e : Same H H') : Imm H H' := fun a xs h => e a _ h
/-- a list or a dict written anew -/
theorem Imm.mutL {H : Hp} {p : Addr} {xs : List V} {o : HO} (h : H p = some (.lst xs)) : Imm H (upd H p o) := fun a ys ha => by
  rw [upd_ne (ne_of ha h (by intro z; cases z))]; exact ha
theorem Imm.mutT {H : Hp} {p : Addr} {kvs : List (List Key × V)} {o : HO} (h : H p = some (.dT kvs)) : Imm H (upd H p o) := fun a ys ha => by
  rw [upd_ne (ne_of ha h (by intro z; cases z))]; exact ha
theorem Imm.mutK {H : Hp} {p : Addr} {kvs : List (Key × V)} {o : HO} (h : H p = some (.dK kvs)) : Imm H (upd H p o) := fun a ys ha => by
  rw [upd_ne (ne_of ha h (by intro z; cases z))]; exact ha

/-- a source of draws at g, its great cells at c -/
def IsRng (g c : Addr) (H : Hp) : Prop := ∃ (cells : List Int) (stir : Int), H g = some (.lst [.ref c, .int stir]) ∧ H c = some (.lst (cells.map V.int)) ∧ (∀ x ∈ cells, 0 ≤ x) ∧ cells.length ≤ 60 ∧ 0 ≤ stir ∧ stir < 2147483647
abbrev Rg := Option (Addr × Addr)
def Good : Rg → Hp → Prop
  | none, _ => True
  | some (g, c), H => IsRng g c H
def Off : Rg → Addr → Prop
  | none, _ => True
  | some (g, c), a => a ≠ g ∧ a ≠ c
structure Fr (r : Rg) (H H' : Hp) : Prop where
  good : Good r H
  good' : Good r H'
  keep : ∀ a o, Off r a → H a = some o → H' a = some o
theorem Off.new {r : Rg} {H : Hp} {p : Addr} (g : Good r H) (h : H p = none) : Off r p := by
  match r, g with
  | none, _ => trivial
  | some (x, c), ⟨cells, stir, h1, h2, _⟩ => exact ⟨(ne_of_none h1 h).symm, (ne_of_none h2 h).symm⟩
theorem Off.tup {r : Rg} {H : Hp} {p : Addr} {xs : List V} (g : Good r H) (h : H p = some (.tup xs)) : Off r p := by
  match r, g with
  | none, _ => trivial
  | some (x, c), ⟨cells, stir, h1, h2, _⟩ => exact ⟨ne_of h h1 (by intro z; cases z), ne_of h h2 (by intro z; cases z)⟩
theorem Off.dT {r : Rg} {H : Hp} {p : Addr} {xs : List (List Key × V)} (g : Good r H) (h : H p = some (.dT xs)) : Off r p := by
  match r, g with
  | none, _ => trivial
  | some (x, c), ⟨cells, stir, h1, h2, _⟩ => exact ⟨ne_of h h1 (by intro z; cases z), ne_of h h2 (by intro z; cases z)⟩
theorem Fr.refl {r : Rg} {H : Hp} (g : Good r H) : Fr r H H := ⟨g, g, fun _ _ _ h => h⟩
theorem Fr.trans {r : Rg} {H H1 H2 : Hp} (a : Fr r H H1) (b : Fr r H1 H2) : Fr r H H2 := ⟨a.good, b.good', fun p o f h => b.keep p o f (a.keep p o f h)⟩
theorem Good.same {r : Rg} {H H' : Hp} (g : Good r H) (e : Same H H') : Good r H' := by
  match r, g with
  | none, _ => trivial
  | some (x, c), ⟨cells, stir, h1, h2, h3⟩ => exact ⟨cells, stir, e _ _ h1, e _ _ h2, h3⟩
theorem Fr.same {r : Rg} {H H' : Hp} (g : Good r H) (e : Same H H') : Fr r H H' := ⟨g, g.same e, fun p o _ h => e p o h⟩
theorem Fr.to {H H' : Hp} (e : Fr none H H') : Same H H' := fun a o h => e.keep a o trivial h
theorem Fr.imm {r : Rg} {H H' : Hp} (e : Fr r H H') : Imm H H' := fun a xs h => e.keep a _ (Off.tup e.good h) h
theorem Fr.tup {r : Rg} {H H' : Hp} {a : Addr} {xs : List V} (e : Fr r H H') (h : H a = some (.tup xs)) : H' a = some (.tup xs) := e.imm a xs h
theorem Fr.dT {r : Rg} {H H' : Hp} {a : Addr} {xs : List (List Key × V)} (e : Fr r H H') (h : H a = some (.dT xs)) : H' a = some (.dT xs) := e.keep a _ (Off.dT e.good h) h
theorem Fr.lst {r : Rg} {H H' : Hp} {a : Addr} {xs : List V} (e : Fr r H H') (f : Off r a) (h : H a = some (.lst xs)) : H' a = some (.lst xs) := e.keep a _ f h
theorem Fr.free {r : Rg} {H H' : Hp} (e : Fr r H H') {p : Addr} (h : H' p = none) : H p = none := by
  cases q : H p with
  | none => rfl
  | some o =>
    exfalso
    match r, e with
    | none, e => rw [e.keep p o trivial q] at h; cases h
    | some (g, c), e =>
      obtain ⟨cells, stir, h1, h2, _⟩ := e.good'
      by_cases hg : p = g
      · subst hg; rw [h1] at h; cases h
      · by_cases hc : p = c
        · subst hc; rw [h2] at h; cases h
        · rw [e.keep p o ⟨hg, hc⟩ q] at h; cases h
/-- something that was not there at H may change -/
theorem Fr.mut {r : Rg} {H H' : Hp} {p : Addr} {o : HO} (e : Fr r H H') (h : H p = none) : Fr r H (upd H' p o) := by
  refine ⟨e.good, ?_, fun a u f ha => ?_⟩
  · have f := Off.new e.good h
    match r, f, e.good' with
    | none, _, _ => trivial
    | some (g, c), f, ⟨cells, stir, h1, h2, h3⟩ => exact ⟨cells, stir, by rw [upd_ne f.1.symm]; exact h1, by rw [upd_ne f.2.symm]; exact h2, h3⟩
  · rw [upd_ne (ne_of_none ha h)]; exact e.keep a u f ha
theorem Fr.new {r : Rg} {H : Hp} {p : Addr} {o : HO} (g : Good r H) (h : H p = none) : Fr r H (upd H p o) := (Fr.refl g).mut h

theorem len_flat_mem {α β : Type} {f : α → List β} : ∀ {l : List α} {x : α}, x ∈ l → (f x).length ≤ (l.flatMap f).length
  | [], _, h => by simp at h
  | a :: l, x, h => by
    rw [List.flatMap_cons, List.length_append]
    rcases List.mem_cons.mp h with rfl | h
    · omega
    · have := len_flat_mem (f := f) h
      omega
/-! ## comprehensions: each item told by a word that tuples' staying keeps -/
theorem lst_ext {ys zs : List V} (hl : ys.length = zs.length) (h : ∀ (i : Nat) (y z : V), ys[i]? = some y → zs[i]? = some z → y = z) : ys = zs := by
  apply List.ext_getElem hl
  intro i h1 h2
  exact h i _ _ (List.getElem?_eq_getElem h1) (List.getElem?_eq_getElem h2)
section
variable {K : PySem.W.Frag} {σ : L2.St} {Q : VK} {g : TG} {te : TE} {vs : List Nat}
theorem lc_any {J : It} {n : Nat} {G : Hp → Prop} {Y : Nat → Hp → V → Hp → Prop} {r : Rg} {H1 : Hp} {D : Addr} {Qd : Hp → Prop} (w : L2.Walk J n G Y) (gd : Good r H1) (hD : H1 D = none) (R : Nat → V → Hp → Prop)
    (hR : ∀ i v H H', Imm H H' → R i v H → R i v H') (hn : n ≤ 1000000) (hG : ∀ H, Fr r H1 H → G H)
    (hs : ∀ i x H H' (Qn : VK), i < n → Fr r H1 H → Y i H x H' → (∀ y H3, Fr r H H3 → R i y H3 → Qn y H3) → g x (wipe σ vs) H' fun σ2 H2 => wipe σ2 vs = wipe σ vs ∧ te σ2 H2 Qn)
    (hd : ∀ ys H, Fr r H1 H → H D = some (.lst ys) → ys.length = n → (∀ i y, ys[i]? = some y → R i y H) → Qd H) :
    ∃ W : Nat → Nat → Hp → Prop, (∃ m, W 0 m (upd H1 D (.lst []))) ∧ ∀ i m H, W i m H →
      (J.stop i H ∧ Qd H) ∨ (J.go i H ∧ ∃ Nx : Hp → Prop, (∀ H', Nx H' → ∃ m', m' < m ∧ W (i + 1) m' H') ∧ ∀ x H', J.yld i H x H' → g x (wipe σ vs) H' fun σ2 H2 => wipe σ2 vs = wipe σ vs ∧ tYes σ2 H2 fun b H3 =>
        if b = true then te σ2 H3 fun y H4 => ∃ acc, H4 D = some (.lst acc) ∧ acc.length < sizeLine ∧ Nx (upd H4 D (.lst (acc ++ [y]))) else Nx H3) := by
  refine lc_it w (fun i H => Fr r H1 H ∧ ∃ ys, H D = some (.lst ys) ∧ ys.length = i ∧ ∀ j y, ys[j]? = some y → R j y H) ⟨Fr.new gd hD, [], upd_same, rfl, fun j y h => by simp at h⟩
    (fun i H _ p => hG H p.1) (fun i x H H' hi p hy => ?_) (fun H p => ?_)
  · obtain ⟨fr, ys, e, hl, hr⟩ := p
    have hoff : Off r D := Off.new gd hD
    refine hs i x H H' (fun y H4 => ∃ acc, H4 D = some (.lst acc) ∧ acc.length < sizeLine ∧ (fun i H => Fr r H1 H ∧ ∃ ys, H D = some (.lst ys) ∧ ys.length = i ∧ ∀ j y, ys[j]? = some y → R j y H) (i + 1) (upd H4 D (.lst (acc ++ [y])))) hi fr hy (fun y H3 f3 r3 => ?_)
    have e3 : H3 D = some (.lst ys) := f3.lst hoff e
    have im : Imm H3 (upd H3 D (.lst (ys ++ [y]))) := Imm.mutL e3
    refine ⟨ys, e3, Nat.lt_of_le_of_lt (show ys.length ≤ 1000000 by omega) (by decide), (fr.trans f3).mut hD, ys ++ [y], upd_same, by rw [List.length_append, hl]; rfl, fun j z hz => ?_⟩
    by_cases hj : j < ys.length
    · rw [List.getElem?_append_left hj] at hz
      exact hR j z _ _ (f3.imm.trans im) (hr j z hz)
    · have hj2 : j = ys.length := by
        have := (List.getElem?_eq_some_iff.mp hz).1
        rw [List.length_append] at this
        simp at this
        omega
      subst hj2
      rw [List.getElem?_append_right (Nat.le_refl _), Nat.sub_self] at hz
      have ez : y = z := Option.some.inj hz
      subst ez
      rw [hl]
      exact hR _ _ _ _ im r3
  · obtain ⟨fr, ys, e, hl, hr⟩ := p
    exact hd ys H fr e hl hr
end

section
variable {σ : L2.St} {H : Hp} {Q : VK} {K : PySem.W.Frag}
theorem kit_int_int : kitB "int" "int" = some true := by decide +kernel
theorem kit_int_bool : kitB "int" "bool" = some false := by decide +kernel
theorem kit_tup_tup : kitB "tuple" "tuple" = some true := by decide +kernel
theorem v_isII {i : Int} (q : Q (.bl true) H) : rIs K [.int i, .ty "int"] H Q := ⟨_, "int", "int", true, rfl, .base (.int i), kit_int_int, q⟩
theorem v_isIB {i : Int} (q : Q (.bl false) H) : rIs K [.int i, .ty "bool"] H Q := ⟨_, "int", "bool", false, rfl, .base (.int i), kit_int_bool, q⟩
theorem v_isTT {a : Addr} {xs : List V} (h : H a = some (.tup xs)) (q : Q (.bl true) H) : rIs K [.ref a, .ty "tuple"] H Q := ⟨_, "tuple", "tuple", true, rfl, .base (.tup h), kit_tup_tup, q⟩
def rLenS (K : PySem.W.Frag) : List V → Hp → VK → Prop := fun xs H Q => ∃ p ys, xs = [.ref p] ∧ (SqL K H p ys ∨ SqT K H p ys) ∧ Q (.int ys.length) H
theorem v_lenT {a : Addr} {xs : List V} (h : H a = some (.tup xs)) (q : Q (.int (xs.length : Nat)) H) : rLenS K [.ref a] H Q := ⟨a, xs, rfl, .inr (SqT.of h), q⟩
theorem v_lenL {a : Addr} {xs : List V} (h : H a = some (.lst xs)) (q : Q (.int (xs.length : Nat)) H) : rLenS K [.ref a] H Q := ⟨a, xs, rfl, .inl (SqL.of h), q⟩
theorem v_all {a : Addr} {bs : List Bool} (h : H a = some (.lst (bs.map V.bl))) (q : Q (.bl (bs.all id)) H) : rAll K [.ref a] H Q := ⟨a, bs, rfl, SqL.of h, q⟩
theorem v_any {a : Addr} {bs : List Bool} (h : H a = some (.lst (bs.map V.bl))) (q : Q (.bl (bs.any id)) H) : rAny K [.ref a] H Q := ⟨a, bs, rfl, SqL.of h, q⟩
theorem v_sum {a : Addr} {ns : List Int} (h : H a = some (.lst (ns.map V.int))) (q : Q (.int ns.sum) H) : rSum K [.ref a] H Q := ⟨a, ns, rfl, SqL.of h, q⟩
def rTupOf (K : PySem.W.Frag) : List V → Hp → VK → Prop := fun xs H Q => ∃ p ys, xs = [.ref p] ∧ ((SqL K H p ys ∧ ∀ l, H l = none → Q (.ref l) (upd H l (.tup ys))) ∨ (SqT K H p ys ∧ Q (.ref p) H))
theorem v_tupL {a : Addr} {xs : List V} (h : H a = some (.lst xs)) (q : ∀ p H', H p = none → Same H H' → H' p = some (.tup xs) → Q (.ref p) H') : rTupOf K [.ref a] H Q := ⟨a, xs, rfl, .inl ⟨SqL.of h, v_new q⟩⟩
theorem v_tupT {a : Addr} {xs : List V} (h : H a = some (.tup xs)) (q : Q (.ref a) H) : rTupOf K [.ref a] H Q := ⟨a, xs, rfl, .inr ⟨SqT.of h, q⟩⟩
def rListOf (K : PySem.W.Frag) : List V → Hp → VK → Prop := fun xs H Q => ∃ p ys, xs = [.ref p] ∧ (SqL K H p ys ∨ SqT K H p ys) ∧ ∀ l, H l = none → Q (.ref l) (upd H l (.lst ys))
theorem v_listL {a : Addr} {xs : List V} (h : H a = some (.lst xs)) (q : ∀ p H', H p = none → Same H H' → H' p = some (.lst xs) → Q (.ref p) H') : rListOf K [.ref a] H Q := ⟨a, xs, rfl, .inl (SqL.of h), v_new q⟩
theorem v_listT {a : Addr} {xs : List V} (h : H a = some (.tup xs)) (q : ∀ p H', H p = none → Same H H' → H' p = some (.lst xs) → Q (.ref p) H') : rListOf K [.ref a] H Q := ⟨a, xs, rfl, .inr (SqT.of h), v_new q⟩
end
section
variable {K : PySem.W.Frag} {σ : L2.St} {H : Hp} {Q : VK} {te tl : TE} {vs : List Nat} {j : Nat} {r : Rg} {H1 : Hp} {a D : Addr} {xs : List V} {Qd : Hp → Prop}
theorem v_itup {R : It → Hp → Prop} (q : tl σ H fun x H1 => ∃ a, x = .ref a ∧ (∃ xs, SqT K H1 a xs) ∧ R (Itt K a) H1) : iTup K tl σ H R := q
theorem v_ilist {R : It → Hp → Prop} (q : tl σ H fun x H1 => ∃ a, x = .ref a ∧ (∃ xs, SqL K H1 a xs) ∧ R (Itl K a) H1) : iList K tl σ H R := q
theorem v_lc {wi : TI} {g : TG} {tt : TT} (q : wi σ H fun J H1 => ∀ D, H1 D = none → ∃ W : Nat → Nat → Hp → Prop, (∃ m, W 0 m (upd H1 D (.lst []))) ∧ ∀ i m H, W i m H →
  (J.stop i H ∧ Q (.ref D) H) ∨ (J.go i H ∧ ∃ Nx : Hp → Prop, (∀ H', Nx H' → ∃ m', m' < m ∧ W (i + 1) m' H') ∧ ∀ x H', J.yld i H x H' → g x (wipe σ vs) H' fun σ2 H2 => wipe σ2 vs = wipe σ vs ∧ tt σ2 H2 fun b H3 =>
    if b = true then te σ2 H3 fun y H4 => ∃ acc, H4 D = some (.lst acc) ∧ acc.length < sizeLine ∧ Nx (upd H4 D (.lst (acc ++ [y]))) else Nx H3)) : tLc wi g tt te vs σ H Q := q
theorem lc_tupR (hx : H1 a = some (.tup xs)) (gd : Good r H1) (hD : H1 D = none) (R : Nat → V → Hp → Prop) (hR : ∀ i v H H', Imm H H' → R i v H → R i v H') (hn : xs.length ≤ 1000000)
    (hw : ∀ x, wipe ((wipe σ vs).set j (some x)) vs = wipe σ vs)
    (hs : ∀ i x H (Qn : VK), xs[i]? = some x → Fr r H1 H → (∀ y H3, Fr r H H3 → R i y H3 → Qn y H3) → te ((wipe σ vs).set j (some x)) H Qn)
    (hd : ∀ ys H, Fr r H1 H → H D = some (.lst ys) → ys.length = xs.length → (∀ i y, ys[i]? = some y → R i y H) → Qd H) :
    ∃ W : Nat → Nat → Hp → Prop, (∃ m, W 0 m (upd H1 D (.lst []))) ∧ ∀ i m H, W i m H →
      ((Itt K a).stop i H ∧ Qd H) ∨ ((Itt K a).go i H ∧ ∃ Nx : Hp → Prop, (∀ H', Nx H' → ∃ m', m' < m ∧ W (i + 1) m' H') ∧ ∀ x H', (Itt K a).yld i H x H' → gName j x (wipe σ vs) H' fun σ2 H2 => wipe σ2 vs = wipe σ vs ∧ tYes σ2 H2 fun b H3 =>
        if b = true then te σ2 H3 fun y H4 => ∃ acc, H4 D = some (.lst acc) ∧ acc.length < sizeLine ∧ Nx (upd H4 D (.lst (acc ++ [y]))) else Nx H3) :=
  lc_any (walk_tup (xs := xs)) gd hD R hR hn (fun H f => SqT.of (f.tup hx)) (fun i x H H' Qn hi f y q => by obtain ⟨rfl, hy⟩ := y; exact ⟨hw x, hs i x _ Qn hy f q⟩) hd
theorem lc_listR (hx : H1 a = some (.lst xs)) (ho : Off r a) (gd : Good r H1) (hD : H1 D = none) (R : Nat → V → Hp → Prop) (hR : ∀ i v H H', Imm H H' → R i v H → R i v H') (hn : xs.length ≤ 1000000)
    (hw : ∀ x, wipe ((wipe σ vs).set j (some x)) vs = wipe σ vs)
    (hs : ∀ i x H (Qn : VK), xs[i]? = some x → Fr r H1 H → (∀ y H3, Fr r H H3 → R i y H3 → Qn y H3) → te ((wipe σ vs).set j (some x)) H Qn)
    (hd : ∀ ys H, Fr r H1 H → H D = some (.lst ys) → ys.length = xs.length → (∀ i y, ys[i]? = some y → R i y H) → Qd H) :
    ∃ W : Nat → Nat → Hp → Prop, (∃ m, W 0 m (upd H1 D (.lst []))) ∧ ∀ i m H, W i m H →
      ((Itl K a).stop i H ∧ Qd H) ∨ ((Itl K a).go i H ∧ ∃ Nx : Hp → Prop, (∀ H', Nx H' → ∃ m', m' < m ∧ W (i + 1) m' H') ∧ ∀ x H', (Itl K a).yld i H x H' → gName j x (wipe σ vs) H' fun σ2 H2 => wipe σ2 vs = wipe σ vs ∧ tYes σ2 H2 fun b H3 =>
        if b = true then te σ2 H3 fun y H4 => ∃ acc, H4 D = some (.lst acc) ∧ acc.length < sizeLine ∧ Nx (upd H4 D (.lst (acc ++ [y]))) else Nx H3) :=
  lc_any (walk_list (xs := xs)) gd hD R hR hn (fun H f => SqL.of (f.lst ho hx)) (fun i x H H' Qn hi f y q => by obtain ⟨rfl, hy⟩ := y; exact ⟨hw x, hs i x _ Qn hy f q⟩) hd
theorem map_of_at {α β : Type} {xs : List α} {ys : List β} {f : α → β} (hl : ys.length = xs.length) (h : ∀ (i : Nat) (x : α) (y : β), xs[i]? = some x → ys[i]? = some y → y = f x) : ys = xs.map f := by
  apply List.ext_getElem (by rw [List.length_map, hl])
  intro i h1 h2
  have h3 : i < xs.length := by rw [← hl]; exact h1
  rw [List.getElem_map]
  exact h i _ _ (List.getElem?_eq_getElem h3) (List.getElem?_eq_getElem h1)
/-- each item's value by a function -/
theorem lc_tupF (hx : H1 a = some (.tup xs)) (gd : Good r H1) (hD : H1 D = none) (f : V → V) (hn : xs.length ≤ 1000000)
    (hw : ∀ x, wipe ((wipe σ vs).set j (some x)) vs = wipe σ vs)
    (hs : ∀ x H (Qn : VK), x ∈ xs → Fr r H1 H → (∀ H3, Fr r H H3 → Qn (f x) H3) → te ((wipe σ vs).set j (some x)) H Qn)
    (hd : ∀ H, Fr r H1 H → H D = some (.lst (xs.map f)) → Qd H) :
    ∃ W : Nat → Nat → Hp → Prop, (∃ m, W 0 m (upd H1 D (.lst []))) ∧ ∀ i m H, W i m H →
      ((Itt K a).stop i H ∧ Qd H) ∨ ((Itt K a).go i H ∧ ∃ Nx : Hp → Prop, (∀ H', Nx H' → ∃ m', m' < m ∧ W (i + 1) m' H') ∧ ∀ x H', (Itt K a).yld i H x H' → gName j x (wipe σ vs) H' fun σ2 H2 => wipe σ2 vs = wipe σ vs ∧ tYes σ2 H2 fun b H3 =>
        if b = true then te σ2 H3 fun y H4 => ∃ acc, H4 D = some (.lst acc) ∧ acc.length < sizeLine ∧ Nx (upd H4 D (.lst (acc ++ [y]))) else Nx H3) :=
  lc_tupR hx gd hD (fun i v _ => ∃ x, xs[i]? = some x ∧ v = f x) (fun _ _ _ _ _ h => h) hn hw (fun i x H Qn hi fr q => hs x H Qn (List.mem_of_getElem? hi) fr fun H3 f3 => q _ H3 f3 ⟨x, hi, rfl⟩)
    (fun ys H fr e hl hr => hd H fr (by rw [e, map_of_at hl fun i x y h1 h2 => by obtain ⟨x', h3, h4⟩ := hr i y h2; rw [h1] at h3; cases h3; exact h4]))
theorem lc_listF (hx : H1 a = some (.lst xs)) (ho : Off r a) (gd : Good r H1) (hD : H1 D = none) (f : V → V) (hn : xs.length ≤ 1000000)
    (hw : ∀ x, wipe ((wipe σ vs).set j (some x)) vs = wipe σ vs)
    (hs : ∀ x H (Qn : VK), x ∈ xs → Fr r H1 H → (∀ H3, Fr r H H3 → Qn (f x) H3) → te ((wipe σ vs).set j (some x)) H Qn)
    (hd : ∀ H, Fr r H1 H → H D = some (.lst (xs.map f)) → Qd H) :
    ∃ W : Nat → Nat → Hp → Prop, (∃ m, W 0 m (upd H1 D (.lst []))) ∧ ∀ i m H, W i m H →
      ((Itl K a).stop i H ∧ Qd H) ∨ ((Itl K a).go i H ∧ ∃ Nx : Hp → Prop, (∀ H', Nx H' → ∃ m', m' < m ∧ W (i + 1) m' H') ∧ ∀ x H', (Itl K a).yld i H x H' → gName j x (wipe σ vs) H' fun σ2 H2 => wipe σ2 vs = wipe σ vs ∧ tYes σ2 H2 fun b H3 =>
        if b = true then te σ2 H3 fun y H4 => ∃ acc, H4 D = some (.lst acc) ∧ acc.length < sizeLine ∧ Nx (upd H4 D (.lst (acc ++ [y]))) else Nx H3) :=
  lc_listR hx ho gd hD (fun i v _ => ∃ x, xs[i]? = some x ∧ v = f x) (fun _ _ _ _ _ h => h) hn hw (fun i x H Qn hi fr q => hs x H Qn (List.mem_of_getElem? hi) fr fun H3 f3 => q _ H3 f3 ⟨x, hi, rfl⟩)
    (fun ys H fr e hl hr => hd H fr (by rw [e, map_of_at hl fun i x y h1 h2 => by obtain ⟨x', h3, h4⟩ := hr i y h2; rw [h1] at h3; cases h3; exact h4]))
end

section
variable {K : PySem.W.Frag} {σ : L2.St} {H : Hp} {te : TE} {vs : List Nat} {j : Nat} {a : Addr} {xs : List V} {Qd : Addr → Hp → Prop}
theorem v_lcTR (r : Rg) (hx : H a = some (.tup xs)) (gd : Good r H) (R : Nat → V → Hp → Prop) (hR : ∀ i v H H', Imm H H' → R i v H → R i v H') (hn : xs.length ≤ 1000000)
    (hw : ∀ x, wipe ((wipe σ vs).set j (some x)) vs = wipe σ vs)
    (hs : ∀ i x H2 (Qn : VK), xs[i]? = some x → Fr r H H2 → (∀ y H3, Fr r H2 H3 → R i y H3 → Qn y H3) → te ((wipe σ vs).set j (some x)) H2 Qn)
    (hd : ∀ D ys H2, H D = none → Fr r H H2 → H2 D = some (.lst ys) → ys.length = xs.length → (∀ i y, ys[i]? = some y → R i y H2) → Qd D H2) :
    ∃ a', V.ref a = .ref a' ∧ (∃ xs, SqT K H a' xs) ∧ ∀ D, H D = none → ∃ W : Nat → Nat → Hp → Prop, (∃ m, W 0 m (upd H D (.lst []))) ∧ ∀ i m H, W i m H →
      ((Itt K a').stop i H ∧ Qd D H) ∨ ((Itt K a').go i H ∧ ∃ Nx : Hp → Prop, (∀ H', Nx H' → ∃ m', m' < m ∧ W (i + 1) m' H') ∧ ∀ x H', (Itt K a').yld i H x H' → gName j x (wipe σ vs) H' fun σ2 H2 => wipe σ2 vs = wipe σ vs ∧ tYes σ2 H2 fun b H3 =>
        if b = true then te σ2 H3 fun y H4 => ∃ acc, H4 D = some (.lst acc) ∧ acc.length < sizeLine ∧ Nx (upd H4 D (.lst (acc ++ [y]))) else Nx H3) :=
  ⟨a, rfl, ⟨xs, SqT.of hx⟩, fun D hD => lc_tupR hx gd hD R hR hn hw hs (fun ys H2 => hd D ys H2 hD)⟩
theorem v_lcTF (r : Rg) {α : Type} {L : List α} {e : α → V} (hx : H a = some (.tup (L.map e))) (gd : Good r H) (f : α → V) (hn : L.length ≤ 1000000)
    (hw : ∀ x, wipe ((wipe σ vs).set j (some x)) vs = wipe σ vs)
    (hs : ∀ x H2 (Qn : VK), x ∈ L → Fr r H H2 → (∀ H3, Fr r H2 H3 → Qn (f x) H3) → te ((wipe σ vs).set j (some (e x))) H2 Qn)
    (hd : ∀ D H2, H D = none → Fr r H H2 → H2 D = some (.lst (L.map f)) → Qd D H2) :
    ∃ a', V.ref a = .ref a' ∧ (∃ xs, SqT K H a' xs) ∧ ∀ D, H D = none → ∃ W : Nat → Nat → Hp → Prop, (∃ m, W 0 m (upd H D (.lst []))) ∧ ∀ i m H, W i m H →
      ((Itt K a').stop i H ∧ Qd D H) ∨ ((Itt K a').go i H ∧ ∃ Nx : Hp → Prop, (∀ H', Nx H' → ∃ m', m' < m ∧ W (i + 1) m' H') ∧ ∀ x H', (Itt K a').yld i H x H' → gName j x (wipe σ vs) H' fun σ2 H2 => wipe σ2 vs = wipe σ vs ∧ tYes σ2 H2 fun b H3 =>
        if b = true then te σ2 H3 fun y H4 => ∃ acc, H4 D = some (.lst acc) ∧ acc.length < sizeLine ∧ Nx (upd H4 D (.lst (acc ++ [y]))) else Nx H3) :=
  ⟨a, rfl, ⟨_, SqT.of hx⟩, fun D hD => lc_tupR hx gd hD (fun i v _ => ∃ x, L[i]? = some x ∧ v = f x) (fun _ _ _ _ _ h => h) (by rw [List.length_map]; exact hn) hw
    (fun i y H2 Qn hi fr q => by
      rw [List.getElem?_map] at hi
      obtain ⟨x, h1, h2⟩ := Option.map_eq_some_iff.mp hi
      subst h2
      exact hs x H2 Qn (List.mem_of_getElem? h1) fr fun H3 f3 => q _ H3 f3 ⟨x, h1, rfl⟩)
    (fun ys H2 fr e2 hl hr => hd D H2 hD fr (by
      rw [e2, map_of_at (ys := ys) (xs := L) (f := f) (by rw [hl, List.length_map]) fun i x y h1 h2 => by obtain ⟨x', h3, h4⟩ := hr i y h2; rw [h1] at h3; cases h3; exact h4]))⟩
theorem v_lcLR (r : Rg) (hx : H a = some (.lst xs)) (ho : Off r a) (gd : Good r H) (R : Nat → V → Hp → Prop) (hR : ∀ i v H H', Imm H H' → R i v H → R i v H') (hn : xs.length ≤ 1000000)
    (hw : ∀ x, wipe ((wipe σ vs).set j (some x)) vs = wipe σ vs)
    (hs : ∀ i x H2 (Qn : VK), xs[i]? = some x → Fr r H H2 → (∀ y H3, Fr r H2 H3 → R i y H3 → Qn y H3) → te ((wipe σ vs).set j (some x)) H2 Qn)
    (hd : ∀ D ys H2, H D = none → Fr r H H2 → H2 D = some (.lst ys) → ys.length = xs.length → (∀ i y, ys[i]? = some y → R i y H2) → Qd D H2) :
    ∃ a', V.ref a = .ref a' ∧ (∃ xs, SqL K H a' xs) ∧ ∀ D, H D = none → ∃ W : Nat → Nat → Hp → Prop, (∃ m, W 0 m (upd H D (.lst []))) ∧ ∀ i m H, W i m H →
      ((Itl K a').stop i H ∧ Qd D H) ∨ ((Itl K a').go i H ∧ ∃ Nx : Hp → Prop, (∀ H', Nx H' → ∃ m', m' < m ∧ W (i + 1) m' H') ∧ ∀ x H', (Itl K a').yld i H x H' → gName j x (wipe σ vs) H' fun σ2 H2 => wipe σ2 vs = wipe σ vs ∧ tYes σ2 H2 fun b H3 =>
        if b = true then te σ2 H3 fun y H4 => ∃ acc, H4 D = some (.lst acc) ∧ acc.length < sizeLine ∧ Nx (upd H4 D (.lst (acc ++ [y]))) else Nx H3) :=
  ⟨a, rfl, ⟨xs, SqL.of hx⟩, fun D hD => lc_listR hx ho gd hD R hR hn hw hs (fun ys H2 => hd D ys H2 hD)⟩
theorem v_lcLF (r : Rg) {α : Type} {L : List α} {e : α → V} (hx : H a = some (.lst (L.map e))) (ho : Off r a) (gd : Good r H) (f : α → V) (hn : L.length ≤ 1000000)
    (hw : ∀ x, wipe ((wipe σ vs).set j (some x)) vs = wipe σ vs)
    (hs : ∀ x H2 (Qn : VK), x ∈ L → Fr r H H2 → (∀ H3, Fr r H2 H3 → Qn (f x) H3) → te ((wipe σ vs).set j (some (e x))) H2 Qn)
    (hd : ∀ D H2, H D = none → Fr r H H2 → H2 D = some (.lst (L.map f)) → Qd D H2) :
    ∃ a', V.ref a = .ref a' ∧ (∃ xs, SqL K H a' xs) ∧ ∀ D, H D = none → ∃ W : Nat → Nat → Hp → Prop, (∃ m, W 0 m (upd H D (.lst []))) ∧ ∀ i m H, W i m H →
      ((Itl K a').stop i H ∧ Qd D H) ∨ ((Itl K a').go i H ∧ ∃ Nx : Hp → Prop, (∀ H', Nx H' → ∃ m', m' < m ∧ W (i + 1) m' H') ∧ ∀ x H', (Itl K a').yld i H x H' → gName j x (wipe σ vs) H' fun σ2 H2 => wipe σ2 vs = wipe σ vs ∧ tYes σ2 H2 fun b H3 =>
        if b = true then te σ2 H3 fun y H4 => ∃ acc, H4 D = some (.lst acc) ∧ acc.length < sizeLine ∧ Nx (upd H4 D (.lst (acc ++ [y]))) else Nx H3) :=
  ⟨a, rfl, ⟨_, SqL.of hx⟩, fun D hD => lc_listR hx ho gd hD (fun i v _ => ∃ x, L[i]? = some x ∧ v = f x) (fun _ _ _ _ _ h => h) (by rw [List.length_map]; exact hn) hw
    (fun i y H2 Qn hi fr q => by
      rw [List.getElem?_map] at hi
      obtain ⟨x, h1, h2⟩ := Option.map_eq_some_iff.mp hi
      subst h2
      exact hs x H2 Qn (List.mem_of_getElem? h1) fr fun H3 f3 => q _ H3 f3 ⟨x, h1, rfl⟩)
    (fun ys H2 fr e2 hl hr => hd D H2 hD fr (by
      rw [e2, map_of_at (ys := ys) (xs := L) (f := f) (by rw [hl, List.length_map]) fun i x y h1 h2 => by obtain ⟨x', h3, h4⟩ := hr i y h2; rw [h1] at h3; cases h3; exact h4]))⟩
end

/-! ## the rules with the written part named by itself (a comprehension's block has the same one) -/
section
variable {X : Cx} {K : PySem.W.Frag} {a b e : Expr} {es : List Expr} {ta tb te tl : TE} {t : TA} {pos apos cpos : Pos}
theorem ixL (hK : X.K = K) : IxR X (rIxL K) := hK ▸ ix_list
theorem ixT (hK : X.K = K) : IxR X (rIxT K) := hK ▸ ix_tup
theorem ixS (hK : X.K = K) : IxR X rIxS := ix_str
theorem crIs (hK : X.K = K) : CallR X (.builtin "isinstance") (rIs K) := hK ▸ cr_is
theorem crLen (hK : X.K = K) : CallR X (.builtin "len") (rLenS K) := hK ▸ call_len_seq
def rLenStr : List V → Hp → VK → Prop := fun xs H Q => ∃ z, xs = [.str z] ∧ z.length ≤ sizeLine ∧ Q (.int z.length) H
theorem crLenS (hK : X.K = K) : CallR X (.builtin "len") rLenStr := call_len_str
theorem crLenT (hK : X.K = K) : CallR X (.builtin "len") rLenT := call_len_dT
theorem crSum (hK : X.K = K) (hc : X.calm = true) : CallR X (.builtin "sum") (rSum K) := hK ▸ cr_sum hc
theorem crMax (hK : X.K = K) (hc : X.calm = true) : CallR X (.builtin "max") (rMax K) := hK ▸ cr_max hc
theorem crMin (hK : X.K = K) (hc : X.calm = true) : CallR X (.builtin "min") (rMin K) := hK ▸ cr_min hc
theorem crAll (hK : X.K = K) (hc : X.calm = true) : CallR X (.builtin "all") (rAll K) := hK ▸ cr_all hc
theorem crAny (hK : X.K = K) (hc : X.calm = true) : CallR X (.builtin "any") (rAny K) := hK ▸ cr_any hc
theorem crTup (hK : X.K = K) : CallR X (.type "tuple") (rTupOf K) := hK ▸ call_tuple_of
theorem crList (hK : X.K = K) : CallR X (.type "list") (rListOf K) := hK ▸ call_list_of
def rListDT : List V → Hp → VK → Prop := fun xs H Q => ∃ d kvs, xs = [V.ref d] ∧ Rd H d (.dT kvs) ∧ ∀ p bs, H p = none → IsKeys H kvs bs → Q (.ref p) (upd H p (.lst (bs.map V.ref)))
theorem crListT (hK : X.K = K) (hc : X.calm = true) : CallR X (.type "list") rListDT := call_list_dT hc
theorem crSortedS (hK : X.K = K) : CallR X (.builtin "sorted") (rSortedS K) := hK ▸ cr_sortedS
def rAbs : List V → Hp → VK → Prop := fun xs H Q => ∃ i, xs = [.int i] ∧ Q (.int (if i < 0 then -i else i)) H
theorem crAbs (hK : X.K = K) : CallR X (.builtin "abs") rAbs := call_abs
def rMax2 : List V → Hp → VK → Prop := fun xs H Q => ∃ i j, xs = [.int i, .int j] ∧ Q (.int (if j > i then j else i)) H
theorem crMax2 (hK : X.K = K) (hc : X.calm = true) : CallR X (.builtin "max") rMax2 := call_max2 hc
def rMin2 : List V → Hp → VK → Prop := fun xs H Q => ∃ i j, xs = [.int i, .int j] ∧ Q (.int (if j < i then j else i)) H
theorem crMin2 (hK : X.K = K) (hc : X.calm = true) : CallR X (.builtin "min") rMin2 := call_min2 hc
def rInt1 : List V → Hp → VK → Prop := fun xs H Q => (∃ i, xs = [.int i] ∧ Q (.int i) H) ∨ ∃ k, xs = [.bl k] ∧ Q (.int (if k then 1 else 0)) H
theorem crInt (hK : X.K = K) : CallR X (.type "int") rInt1 := call_int1
theorem slL (hK : X.K = K) : SlR X (rSlL K) := hK ▸ sl_list
theorem slT (hK : X.K = K) : SlR X (rSlT K) := hK ▸ sl_tup
theorem slS (hK : X.K = K) : SlR X rSlS := sl_str
theorem opInL (hK : X.K = K) : OpR X (compareOp .In) (rIn K false) := hK ▸ op_in_seq
theorem opNotInL (hK : X.K = K) : OpR X (compareOp .NotIn) (rIn K true) := hK ▸ op_notIn_seq
theorem opEqD (hK : X.K = K) (hu : X.A.units + 64 < cLine) : OpR X (compareOp .Eq) (rEqD K) := hK ▸ op_eqD hu
theorem opNeD (hK : X.K = K) (hu : X.A.units + 64 < cLine) : OpR X (compareOp .NotEq) (rNeD K) := hK ▸ op_neD hu
theorem mtIndex (hK : X.K = K) : MtR X "list.index" (rIndex K) := hK ▸ mt_index
theorem piL {tg : Expr} (hK : X.K = K) (hl : PE X e tl) : PI X tg e (iList K tl) := hK ▸ pi_list hl
theorem piT {tg : Expr} (hK : X.K = K) (hl : PE X e tl) : PI X tg e (iTup K tl) := hK ▸ pi_tup hl
theorem pgT {k : Nat} {tt : TGs} {n : Nat} (hK : X.K = K) (hc : X.calm = true) (h : PGs X es tt) (hn : (assignEach es X.env).length = n := by rfl) (hst : (assignEach es X.env).findIdx? (·.1) = none := by rfl) : PG X (.Tuple es k pos) (gTup K n tt) := hK ▸ pg_tup hc h hn hst
theorem revL {k : Nat} {p1 p2 p3 : Pos} (hK : X.K = K) (he : PE X e te) : PE X (.Subscript e (.Slice none none (some (.UnaryOp .USub (.Constant (.int 1) k p1) p2)) p3) pos) (tRevL K te) := hK ▸ pe_revL he
theorem zipA {e2 : Expr} {p tpos : Pos} {elts : List Expr} {kk : Nat} (hK : X.K = K) (hm : X.mg "zip" = none) (ha : PA X [e, e2] t) (hg : Gl X "zip" := by rfl)
    (hs : starEach [e, e2] X.env = (false, eval e X.env) :: starEach [e2] X.env := by rfl) (hpl : (backTo pos (starEach [e2] X.env)).any (·.1) = false := by rfl) :
    PI X (.Tuple elts kk tpos) (.Call (.Name "zip" p) [e, e2] [] pos) (RZ.iZipA K t) := hK ▸ RZ.pi_zipA hg hm ha hs hpl
theorem enumA {p tpos : Pos} {elts : List Expr} {kk : Nat} (hK : X.K = K) (hm : X.mg "enumerate" = none) (ha : PA X [e] t) (hg : Gl X "enumerate" := by rfl) (hs : starEach [e] X.env = [(false, eval e X.env)] := by rfl) :
    PI X (.Tuple elts kk tpos) (.Call (.Name "enumerate" p) [e] [] pos) (iEnum K t) := hK ▸ pi_enum hg hm ha hs
/-- methods of lists -/
theorem bmL {name : Str} {id : String} {r : V → List V → Hp → VK → Prop} {o : Expr} {to : TE} (slot : Slot "list" name id) (hty : typeOf (.builtin id) = pure (.type "method_descriptor")) (hK : X.K = K) (hm : MtR X id r) (ho : PE X o to) (ha : PA X (e :: es) t)
    (hbase : attributeBase o name X.env (eval o X.env) = eval o X.env := by rfl)
    (hfew : ((backTo cpos (starEach (e :: es) X.env)).all (fun x => !x.1) && (backToKw cpos (keywordEach [] X.env)).all (fun x => x.1.isSome)
      && decide ((e :: es).length + ([] : List Keyword).length + (if ([] : List Keyword).isEmpty then 0 else 1) < 30)) = true := by rfl)
    (hline : (apos.endLine == cpos.line) = true := by rfl) (hs : starEach (e :: es) X.env = (false, eval e X.env) :: starEach es X.env := by rfl) (hplain : (backTo cpos (starEach es X.env)).any (·.1) = false := by rfl) :
    PE X (.Call (.Attribute o name apos) (e :: es) [] cpos) (tBM K "list" r to t) := hK ▸ pe_bm PySem.F.plainAttrs_list slot hty hm ho ha hbase hfew hline hs hplain
theorem bmL0 {name : Str} {id : String} {r : V → List V → Hp → VK → Prop} {o : Expr} {to : TE} (slot : Slot "list" name id) (hty : typeOf (.builtin id) = pure (.type "method_descriptor")) (hK : X.K = K) (hm : MtR X id r) (ho : PE X o to)
    (hbase : attributeBase o name X.env (eval o X.env) = eval o X.env := by rfl) (hline : (apos.endLine == cpos.line) = true := by rfl) : PE X (.Call (.Attribute o name apos) [] [] cpos) (tBM0 K "list" r to) :=
  hK ▸ pe_bm0 PySem.F.plainAttrs_list slot hty hm ho hbase hline
def rJoin (K : PySem.W.Frag) : V → List V → Hp → VK → Prop := fun x xs H Q => ∃ a p, ∃ ys : List Str, x = .str a ∧ xs = [.ref p] ∧ (SqL K H p (ys.map V.str) ∨ SqT K H p (ys.map V.str)) ∧
      (ys.map (·.length)).sum + ys.length * a.length ≤ 16777216 ∧ Q (.str (Txt.join a ys)) H
theorem joinA {o : Expr} {to : TE} (hK : X.K = K) (ho : PE X o to) (he : PE X e te) (hs : starEach [e] X.env = [(false, eval e X.env)] := by rfl) (hbase : attributeBase o "join" X.env (eval o X.env) = eval o X.env := by rfl) (hline : (apos.endLine == pos.line) = true := by rfl) :
    PE X (.Call (.Attribute o "join" apos) [e] [] pos) (tM1 (rJoin K) to te) := hK ▸ pe_join ho he hs hbase hline
end
section
variable {σ : L2.St} {H : Hp} {Q : VK} {K : PySem.W.Frag} {a : Addr} {xs : List V}
theorem v_abs {i : Int} (q : Q (.int (if i < 0 then -i else i)) H) : rAbs [.int i] H Q := ⟨i, rfl, q⟩
theorem v_max2 {i j : Int} (q : Q (.int (if j > i then j else i)) H) : rMax2 [.int i, .int j] H Q := ⟨i, j, rfl, q⟩
theorem v_int {i : Int} (q : Q (.int i) H) : rInt1 [.int i] H Q := .inl ⟨i, rfl, q⟩
theorem v_intB {k : Bool} (q : Q (.int (if k then 1 else 0)) H) : rInt1 [.bl k] H Q := .inr ⟨k, rfl, q⟩
theorem v_isN {x : V} (q : Q (.bl (decide (x = .non))) H) : rIsN x .non H Q := ⟨rfl, q⟩
theorem v_notN {x : V} (q : Q (.bl (!decide (x = .non))) H) : rNotN x .non H Q := ⟨rfl, q⟩
theorem v_lenStr {z : Str} (h : z.length ≤ sizeLine) (q : Q (.int z.length) H) : rLenStr [.str z] H Q := ⟨z, rfl, h, q⟩
theorem v_lenDT {kvs : List (List Key × V)} (h : H a = some (.dT kvs)) (q : Q (.int ((kvs.length : Nat) : Int)) H) : rLenT [.ref a] H Q := ⟨a, kvs, rfl, h, q⟩
theorem v_max {ns : List Int} (h : H a = some (.lst (ns.map V.int))) (h0 : 0 < ns.length) (q : ∀ m, m ∈ ns → (∀ y, y ∈ ns → y ≤ m) → Q (.int m) H) : rMax K [.ref a] H Q := ⟨a, ns, rfl, SqL.of h, h0, q⟩
theorem v_min {ns : List Int} (h : H a = some (.lst (ns.map V.int))) (h0 : 0 < ns.length) (q : ∀ m, m ∈ ns → (∀ y, y ∈ ns → m ≤ y) → Q (.int m) H) : rMin K [.ref a] H Q := ⟨a, ns, rfl, SqL.of h, h0, q⟩
theorem v_sl {r : V → Option Int → Option Int → Hp → VK → Prop} {te : TE} {tl th : TO} (q : te σ H fun x H1 => tl σ H1 fun l H2 => th σ H2 fun u H3 => r x l u H3 Q) : tSl r te tl th σ H Q := q
theorem v_np {R : Option Int → Hp → Prop} (q : R none H) : tNoPart σ H R := q
theorem v_pt {te : TE} {R : Option Int → Hp → Prop} (q : te σ H fun x H1 => ∃ i, x = .int i ∧ R (some i) H1) : tPart te σ H R := q
theorem v_pi {i : Int} {R : Int → Prop} (q : R i) : ∃ i', V.int i = .int i' ∧ R i' := ⟨i, rfl, q⟩
theorem v_slL {lo hi : Option Int} (h : H a = some (.lst xs)) (q : ∀ p H', H p = none → Same H H' → H' p = some (.lst (cutV xs lo hi)) → Q (.ref p) H') : rSlL K (.ref a) lo hi H Q := ⟨a, xs, rfl, SqL.of h, v_new q⟩
theorem v_slS {z : Str} {lo hi : Option Int} (h : z.length ≤ sizeLine) (q : Q (.str (cutS z lo hi)) H) : rSlS (.str z) lo hi H Q := ⟨z, rfl, h, q⟩
def rRev (K : PySem.W.Frag) (x : V) (H1 : Hp) (Q : VK) : Prop := ∃ a xs, x = .ref a ∧ SqL K H1 a xs ∧ ∀ p, H1 p = none → Q (.ref p) (upd H1 p (.lst xs.reverse))
theorem v_revL {te : TE} (q : te σ H fun x H1 => rRev K x H1 Q) : tRevL K te σ H Q := q
theorem v_rev {p : Addr} {ys : List V} (h : H p = some (.lst ys)) (q : ∀ p H', H p = none → Same H H' → H' p = some (.lst ys.reverse) → Q (.ref p) H') : rRev K (.ref p) H Q := ⟨p, ys, rfl, SqL.of h, v_new q⟩
theorem v_bm {T : String} {r : V → List V → Hp → VK → Prop} {to : TE} {t : TA} (q : to σ H fun x H1 => tyV K T x H1 ∧ t σ H1 fun xs H2 => r x xs H2 Q) : tBM K T r to t σ H Q := q
theorem v_bm0 {T : String} {r : V → List V → Hp → VK → Prop} {to : TE} (q : to σ H fun x H1 => tyV K T x H1 ∧ r x [] H1 Q) : tBM0 K T r to σ H Q := q
theorem tyL (h : H a = some (.lst xs)) : tyV K "list" (.ref a) H := .inl ⟨rfl, _, SqL.of h⟩
theorem v_app {y : V} (h : H a = some (.lst xs)) (hl : xs.length < 1000000) (q : Q .non (upd H a (.lst (xs ++ [y])))) : rAppend (.ref a) [y] H Q := ⟨a, xs, y, rfl, rfl, h, Nat.lt_trans hl (by decide), q⟩
theorem v_dget {a : Addr} {y v : V} (h : DGet H a y (some v)) (q : Q v H) : ∃ a' v', V.ref a = .ref a' ∧ DGet H a' y (some v') ∧ Q v' H := ⟨a, v, rfl, h, q⟩
end

section
variable {σ : L2.St} {H : Hp} {Q : VK} {K : PySem.W.Frag} {xs : List V}
theorem v_lc2 {wi wi1 : TI} {g g1 : TG} {tt tt1 : TT} {te : TE} {vs vs1 : List Nat} (q : wi σ H fun J H1 => ∀ D, H1 D = none → ∃ W : Nat → Nat → Hp → Prop, (∃ m, W 0 m (upd H1 D (.lst []))) ∧ ∀ i m H, W i m H →
  (J.stop i H ∧ Q (.ref D) H) ∨ (J.go i H ∧ ∃ Nx : Hp → Prop, (∀ H', Nx H' → ∃ m', m' < m ∧ W (i + 1) m' H') ∧ ∀ x H', J.yld i H x H' → g x (wipe σ vs) H' fun σ2 H2 => wipe σ2 vs = wipe σ vs ∧ tt σ2 H2 fun b H3 =>
    if b = true then wi1 σ2 H3 fun J1 H4 => ∃ W1 : Nat → Nat → Hp → Prop, (∃ m, W1 0 m H4) ∧ ∀ j k H, W1 j k H →
      (J1.stop j H ∧ Nx H) ∨ (J1.go j H ∧ ∃ Nx1 : Hp → Prop, (∀ H', Nx1 H' → ∃ k', k' < k ∧ W1 (j + 1) k' H') ∧ ∀ x H', J1.yld j H x H' → g1 x (wipe σ2 vs1) H' fun σ3 H5 => wipe σ3 vs1 = wipe σ2 vs1 ∧ tt1 σ3 H5 fun b H6 =>
        if b = true then te σ3 H6 fun y H7 => ∃ acc, H7 D = some (.lst acc) ∧ acc.length < sizeLine ∧ Nx1 (upd H7 D (.lst (acc ++ [y]))) else Nx1 H6)
    else Nx H3)) : tLc2 wi g tt wi1 g1 tt1 te vs vs1 σ H Q := q
end

section
variable {σ : L2.St} {H : Hp} {Q : VK}
theorem v_dgetS {td ty : TE} (q : td σ H fun x H1 => ty σ H1 fun y H2 => ∃ a v, x = .ref a ∧ DGet H2 a y (some v) ∧ Q v H2) : tDGet td ty σ H Q := q
theorem v_keyS {d : Addr} {kvs : List (Key × V)} {n : Str} {v : V} (h : H d = some (.dK kvs)) (e : valV kvs (Sum.inr n) = some v) (q : Q v H) : ∃ a v', V.ref d = .ref a ∧ DGet H a (.str n) (some v') ∧ Q v' H :=
  ⟨d, v, rfl, .inl ⟨kvs, Sum.inr n, .inl h, rfl, e.symm⟩, q⟩
end

section
variable {σ : L2.St} {H : Hp} {Q : VK} {K : PySem.W.Frag}
theorem v_dc {wi : TI} {g : TG} {tt : TT} {tk tv : TE} {vs : List Nat} (q : wi σ H fun J H1 => ∀ D, H1 D = none → ∃ W : Nat → Nat → Hp → Prop, (∃ m, W 0 m (upd H1 D (.dK []))) ∧ ∀ i m H, W i m H →
  (J.stop i H ∧ Q (.ref D) H) ∨ (J.go i H ∧ ∃ Nx : Hp → Prop, (∀ H', Nx H' → ∃ m', m' < m ∧ W (i + 1) m' H') ∧ ∀ x H', J.yld i H x H' → g x (wipe σ vs) H' fun σ2 H2 => wipe σ2 vs = wipe σ vs ∧ tt σ2 H2 fun b H3 =>
    if b = true then tk σ2 H3 fun y H4 => tv σ2 H4 fun z H5 => ∃ kvs k, y = kV k ∧ H5 D = some (.dK kvs) ∧ kvs.length < sizeLine ∧ Nx (upd H5 D (.dK (putK kvs k z))) else Nx H3)) : tDc wi g tt tk tv vs σ H Q := q
theorem v_zip {ta : TA} {R : It → Hp → Prop} (q : ta σ H fun vs H1 => ∃ a b xs ys, vs = [.ref a, .ref b] ∧ ((SqL K H1 a xs ∧ SqL K H1 b ys ∧ R (Itz K a b) H1) ∨ (SqT K H1 a xs ∧ SqT K H1 b ys ∧ R (RZ.ItzT K a b) H1))) : RZ.iZipA K ta σ H R := q
end

/-! ## constants of the text -/
theorem gI {X : Cx} {x : Str} {i : Int} {pos : Pos} (c : ∃ t, X.mg x = some (.int i t)) (hg : Gl X x := by rfl) (hd : (x == ("__debug__" : Str)) = false := by decide) : PE X (.Name x pos) (tC (.int i)) := by
  obtain ⟨t, c⟩ := c
  exact pe_glob hg c ⟨t, rfl⟩ hd
theorem gS {X : Cx} {x : Str} {z : Str} {pos : Pos} (c : ∃ t, X.mg x = some (.str z t)) (hg : Gl X x := by rfl) (hd : (x == ("__debug__" : Str)) = false := by decide) : PE X (.Name x pos) (tC (.str z)) := by
  obtain ⟨t, c⟩ := c
  exact pe_glob hg c ⟨t, rfl⟩ hd
end AK

/-! ## AExc -/
set_option Elab.async false
set_option linter.all false
set_option maxRecDepth 100000
set_option maxHeartbeats 2000000
/-! own errors whose __init__ says super().__init__('..') and self.f = f -/
namespace PySem
namespace OwnX
open PySem.W PySem.Calls PyProof.Rows PySem.HandSPX
def iA (fl : Str) (p1 p2 : Pos) : Arguments := { posonlyargs := [], args := [{ arg := "self", annotation := none, pos := p1 }, { arg := fl, annotation := none, pos := p2 }], vararg := none, kwonlyargs := [], kw_defaults := [], kwarg := none, defaults := [] }
def iB (fl tx : Str) (q1 q2 q3 q4 q5 q6 r1 r2 r3 r4 : Pos) : List Stmt :=
  [.Expr (.Call (.Attribute (.Call (.Name "super" q1) [] [] q2) "__init__" q3) [.Constant (.str tx) 0 q4] [] q5) q6, .Assign [.Attribute (.Name "self" r1) fl r2] (.Name fl r3) r4]
def iS (fl : Str) : Scope := { kind := .function, names := [(PySem.Str.ofString "self", .local), (fl, .local), (PySem.Str.ofString "__class__", .free), (PySem.Str.ofString "super", .globalImplicit)], isGenerator := false, isCoroutine := false, more := [] }
/-- the two field names that are met -/
def FldOk (fl : Str) : Prop := fl = "at" ∨ fl = "word"
/-- how the call super().__init__('..') is run: by the text's own positions -/
def CallEq (tx : Str) (q1 q2 q3 q4 q5 : Pos) (pl : Env → Sem Bool) : Prop := ∀ env : Env, eval (.Call (.Attribute (.Call (.Name "super" q1) [] [] q2) "__init__" q3) [.Constant (.str tx) 0 q4] [] q5) env = (do
    let ov ← attributeBase (.Call (.Name "super" q1) [] [] q2) "__init__" env (eval (.Call (.Name "super" q1) [] [] q2) env)
    standAt q3.atName
    let (f, first) ← holding [ov] (getMethod ov "__init__" (pl env))
    callWith q5 f first (backTo q5 (starEach [.Constant (.str tx) 0 q4] env)) [])
/-- what the written part says of the class nm, at C, and of its __init__, at fI -/
structure OwnTxt (P : Program) (K : Frag) (mg : Str → Option Value) (nm fl : Str) (C fI : Addr) : Prop where
  fld : FldOk fl
  gC : mg nm = some (.ref C)
  cls : ∃ nm q N bs bm sn sub ab col dd k0 k1 k2 k3 k5, K.lookup C = some (excClassObj nm q C N bs bm true sn sub ab col dd k0 k1 k2 k3 k5 "ValueError.__new__") ∧ refsVE bm = true
  sa : findIn K (.ref C) "__setattr__" = some (some (.builtin "object.__setattr__"))
  ga : findIn K (.ref C) "__getattribute__" = some (some (.builtin "BaseException.__getattribute__"))
  gg : findIn K (.ref C) "__getattr__" = some none
  noN : findIn K (.ref C) fl = some none
  iC : findIn K (.ref C) "__init__" = some (some (.ref fI))
  tC : typeIn K (.ref fI) = some (.type "function")
  kC : keepIn K (.ref C) = true
  exC : subIn K (.ref C) (.type "BaseException") = some true
  veC : subIn K (.ref C) (.type "ValueError") = some true
  tyC : typeIn K (.ref C) = some (.type "type")
  hdC : hasDictIn K C = true
  te : exmOne K (.ref C) (.ref C) = some true
  mroC : mroIn K C (.ref C) = some true
  sup : ks_superIn K C C "__init__" = some (some (.builtin "ValueError.__init__"))
  noS : mg "super" = none
  anyS : nsIn K cStatics "thirdparty.any" = some none
  top : (P.main.scope.names.lookup ("super" : Str)).isSome = false
  fn : ∃ (oc : Value) (od : Option Addr) (doc pm : Value) (an : Option Addr) (cda cc : Addr) (ct : Value) (osl : Array (Option Value)) (p1 p2 q1 q2 q3 q4 q5 q6 r1 r2 r3 r4 : Pos) (qual tx : Str) (ccl cl : Value) (cdd cld : Option Addr) (ccs csl : Array (Option Value)) (vs : Array Value) (file : Str) (tf : Tok) (pl : Env → Sem Bool),
    CallEq tx q1 q2 q3 q4 q5 pl ∧ K.lookup fI = some ⟨oc, od, .func (ksFn "__init__" qual (iA fl p1 p2) (iB fl tx q1 q2 q3 q4 q5 q6 r1 r2 r3 r4) (iS fl) .none .none doc pm an (.ref cda) ct cc), osl⟩ ∧ codeIn K (.ref cda) qual = true ∧
    K.lookup cc = some ⟨cl, cld, .cell (some (.ref C)), csl⟩ ∧ K.lookup cda = some ⟨ccl, cdd, .fields vs, ccs⟩ ∧ vs[2]? = some (.str file tf) ∧ ((P.main.file : Str) == file) = true
theorem one_size (v : Value) : [v].length ≤ sizeLine := by
  rw [sizeLine_eq]
  exact (by decide : 1 ≤ 16777216)
/-- the bound __init__ of ValueError, called -/
theorem call_mw {prog : Program} {w : World} {A : Around} {E : Value → Shared → Prop} {h : Heap} {g : Array GenState} {d : Drawn} {t : Nat} {os : OsState} {nm q : Str} {C N : Addr} {bs bm : List Value} {hdct : Bool} {sn : List Str} {sub : List Value} {ab : Bool} {col : Option Bool} {dd : Option Addr} {k0 k1 k2 k3 k5 : Option Value}
    {u e t0 : Addr} {rest : List Value} {Q : Value → Shared → Prop} (hC : h.get? C = some (excClassObj nm q C N bs bm hdct sn sub ab col dd k0 k1 k2 k3 k5 "ValueError.__new__")) (he : h.get? e = some (excO C t0)) (hu : h.get? u = some (kxs_mw "ValueError.__init__" e)) (hrest : rest.length ≤ sizeLine)
    (hq : ∀ h', (∀ b o, b ≠ e → h.get? b = some o → h'.get? b = some o) → h'.get? e = some (excO C h.objs.size) → Q .none ⟨h', g, d, t, os⟩) :
    wpAny (model prog w) A (call (.ref u) rest) Q E ⟨h, g, d, t, os⟩ := by
  refine wpAny_call (codeAny_of_tree ?_)
  show wpAny _ A.in1 (callAny (.ref u) ⟨rest, []⟩) _ _ _
  simp only [callAny]
  refine wpAny_bind (wpAny_load hu ?_)
  simp only [kxs_mw, show (Value.type "method-wrapper" == Value.type "method" || Value.type "method-wrapper" == Value.type "builtin_function_or_method" || Value.type "method-wrapper" == Value.type "method-wrapper") = true by decide, if_true]
  refine KFB.if_so (by decide) ?_
  refine wpAny_bind (check_bound_init F.excBase_ValueError.toExcCallFacts hC he rfl ?_)
  refine wpAny_bind (wpAny_pure (wpAny_pure ?_))
  refine ⟨plainId_quiet F.excBase_ValueError.init.plain _, codeAny_builtin F.excBase_ValueError.initEntry ?_⟩
  exact exc_init_tree (cls := .ref C) (t0 := t0) (dv := none) (c2 := .none) (c3 := .none) (b4 := .bool false) he hrest fun h' k e' _ => hq h' k e'
/-- what __init__ leaves of a fresh exception at x -/
structure InitEnd (fl : Str) (h h' : Heap) (x C dx t1 : Addr) (v : Value) : Prop where
  keep : ∀ b o, b ≠ x → h.get? b = some o → h'.get? b = some o
  obj : h'.get? x = some { cls := .ref C, dict := some dx, data := .fields #[.ref t1, .none, .none, .none, .bool false, .none] }
  dbig : h.objs.size ≤ dx
  dne : dx ≠ x
  ns : h'.Ns1 dx (fun y => if y = fl then some v else none)
section
variable {prog : Program} {w : World} {A : Around} {E : Value → Shared → Prop} {R : Result → Shared → Prop} {s : Shared} {K : Frag} {mg : Str → Option Value} {C fI : Addr} {nm fl : Str}
def Blt (h : Heap) : Prop := ∃ mb, h.Ns builtinsNs mb ∧ ∀ x : Str, x ≠ "__name__" → mb x = bootBuiltins x
theorem boot_super : bootBuiltins "super" = some (.type "super") := by decide +kernel
theorem own_init (T : OwnTxt prog K mg nm fl C fI) {x t0 : Addr} {v : Value} (X : K.In s.heap) (hG : s.heap.Ns mainGlobals mg) (hB : Blt s.heap) (hlim : s.heap.NoLimit) (hx : s.heap.get? x = some (excO C t0)) (hnx : K.lookup x = none) (hroom : A.depth < recursionLimit)
    (hq : ∀ h' tk dx t1, InitEnd fl s.heap h' x C dx t1 v → R (.ok (.ret .none)) { s with heap := h', toks := tk }) :
    codeAny (model prog w) A (.call (.ref fI) ⟨[.ref x, v], []⟩) R s := by
  obtain ⟨oc, od, doc, pm, an, cda, cc, ct, osl, p1, p2, q1, q2, q3, q4, q5, q6, r1, r2, r3, r4, qual, tx, ccl, cl, cdd, cld, ccs, csl, vs, file, tf, pl, hpl, ho, hcd, hcell, hcode, hvs, hfile⟩ := T.fn
  obtain ⟨nm', q, N, bs, bm, sn, sub, ab, col, dd, k0, k1, k2, k3, k5, hC, hbm⟩ := T.cls
  have hcl : clsIn K C = some { name := nm', bases := bs, mro := .ref C :: bm, ns := N, qualname := q, hasDict := true, slotNames := sn, subclasses := sub, abstract := ab, collection := col, hasDel := false } := by unfold clsIn; rw [hC] <;> rfl
  have kfl : (iS fl).names.lookup fl = some .local := by rcases T.fld with rfl | rfl <;> decide +kernel
  have ksu : (iS fl).names.lookup ("super" : Str) = some .globalImplicit := by rcases T.fld with rfl | rfl <;> decide +kernel
  have kcl : (iS fl).names.lookup ("__class__" : Str) = some .free := by rcases T.fld with rfl | rfl <;> decide +kernel
  have kse : (iS fl).names.lookup ("self" : Str) = some .local := by rcases T.fld with rfl | rfl <;> decide +kernel
  have nsf : (fl == ("self" : Str)) = false := by rcases T.fld with rfl | rfl <;> decide +kernel
  have ndb : (fl == ("__debug__" : Str)) = false := by rcases T.fld with rfl | rfl <;> decide +kernel
  refine ks_codeAny_call_defAt (fd := ksFn "__init__" qual (iA fl p1 p2) (iB fl tx q1 q2 q3 q4 q5 q6 r1 r2 r3 r4) (iS fl) .none .none doc pm an (.ref cda) ct cc) (body := iB fl tx q1 q2 q3 q4 q5 q6 r1 r2 r3 r4) (binds := [("self", .ref x), (fl, v)])
    hroom (X _ _ ho) rfl hlim (codeRec_of X hcd) rfl (BindsTo.of_eq ?_) ?_ ?_ (fun h₁ hns hk₁ => ?_) rfl rfl rfl
  · rcases T.fld with rfl | rfl <;> first | rfl | with_unfolding_all rfl
  · intro y hy
    have hy' : y ∈ [((PySem.Str.ofString "self", .local) : Str × NameKind), (fl, .local), (PySem.Str.ofString "__class__", .free), (PySem.Str.ofString "super", .globalImplicit)] := hy
    simp only [List.mem_cons, List.not_mem_nil, or_false] at hy'
    rcases hy' with rfl | rfl | rfl | rfl <;> exact fun z => nomatch z
  · intro y hy
    simp only [List.mem_cons, List.not_mem_nil, or_false] at hy
    rcases hy with rfl | rfl
    · exact kse
    · exact kfl
  have X₁ : K.In h₁ := X.keeps hk₁
  have hx₁ := hk₁ _ _ hx
  obtain ⟨oC, hC1, hC2⟩ : ∃ oC, h₁.get? C = some oC ∧ oC.data = .cls { name := nm', bases := bs, mro := .ref C :: bm, ns := N, qualname := q, hasDict := true, slotNames := sn, subclasses := sub, abstract := ab, collection := col, hasDel := false } := ⟨_, X₁ _ _ hC, rfl⟩
  refine ks_wpAt_execs_cons (ks_wpAt_Expr_any (ks_wpAt_MethodCall ?_ (hpl _)))
  refine ks_wpAt_super_base ksu kcl (by decide +kernel) rfl (X₁ _ _ ho) rfl rfl rfl (X₁ _ _ hcode) rfl hvs hfile T.top ?_
  obtain ⟨mb, hb1, hb2⟩ := hB
  refine ks_loadName_global rfl ksu (loadGlobal_builtin (hG.keeps hk₁) T.noS (hb1.keeps hk₁) ((hb2 "super" (by decide)).trans boot_super) ⟨rfl, ?_⟩)
  refine wpAny_loadName_free rfl kcl rfl ⟨_, X₁ _ _ hcell, rfl⟩ ?_
  refine wpAny_loadName_local (v := .ref x) rfl kse hns ?_ ?_
  · rcases T.fld with rfl | rfl <;> rfl
  refine ks_wpAny_isType_cls hC1 hC2 ⟨rfl, ?_⟩
  refine ks_wpAny_call_super hC1 hC2 hx₁ rfl (fun c e => nomatch e) (looks_mroIn X₁ T.mroC) (fun h₂ hso hk₂ => ?_)
  have X₂ : K.In h₂ := X₁.keeps hk₂
  have hx₂ := hk₂ _ _ hx₁
  have I₂ : InstAt h₂ x (excO C t0) C none := ⟨hx₂, rfl, rfl, trivial⟩
  have hsup := T.sup
  unfold ks_superIn at hsup
  rw [hcl] at hsup
  refine kxs_getMethod (K := K) (l₀ := .ref C :: bm) kxs_ValueError hso (looks_opaque X₂ T.anyS) (fun A Q E s k q => wpAny_bind ((looks_clsIn X₂ hcl) A _ E s k (wpAny_pure q))) rfl X₂ hsup (I₂.type.andThen (looks_subIn X₂ T.veC)) (ks_ne X₂ I₂ hcl) (by decide +kernel) ?_
  have hk₃ : ∀ b o, h₂.get? b = some o → (h₂.push (kxs_mw "ValueError.__init__" x)).get? b = some o := fun b o e => Heap.get?_push_of_some _ e
  have hu₃ : (h₂.push (kxs_mw "ValueError.__init__" x)).get? h₂.objs.size = some (kxs_mw "ValueError.__init__" x) := Heap.get?_push_at rfl rfl
  show wpAny _ _ (callWith q5 (.ref h₂.objs.size) [] ((backTo q5 (starEach [.Constant (.str tx) 0 q4] _))) []) _ _ _
  refine kxs_callWith (i := "ValueError.__init__") (x := x) rfl (evalArgs_plain ?_)
  refine Calls.spliced_cons ?_
  rw [if_neg Bool.false_ne_true]
  refine Calls.Constant_str ?_
  refine Calls.spliced_nil ?_
  refine ⟨hu₃, ?_⟩
  refine call_mw (X₂.keeps hk₃ _ _ hC) (hk₃ _ _ hx₂) hu₃ (one_size _) fun h₄ hk₄ hx₄ => ?_
  have hold : ∀ b o, b ≠ x → s.heap.get? b = some o → h₄.get? b = some o := fun b o hb e => hk₄ b o hb (hk₃ _ _ (hk₂ _ _ (hk₁ _ _ e)))
  have hxL : s.heap.objs.size ≠ x := Nat.ne_of_gt (Heap.lt_size hx)
  have X₄ : K.In h₄ := fun a o e => hk₄ a o (fun z => by rw [z, hnx] at e; cases e) (X₂.keeps hk₃ _ _ e)
  have hns₄ : h₄.Ns s.heap.objs.size (fun y => ([("self", Value.ref x), (fl, v)] : List (Str × Value)).reverse.lookup y) := hns.at fun o e => hk₄ _ _ hxL (hk₃ _ _ (hk₂ _ _ e))
  have vse : ([("self", Value.ref x), (fl, v)] : List (Str × Value)).reverse.lookup ("self" : Str) = some (Value.ref x) := by
    rcases T.fld with rfl | rfl <;> rfl
  have vfl : ([("self", Value.ref x), (fl, v)] : List (Str × Value)).reverse.lookup fl = some v := by
    rcases T.fld with rfl | rfl <;> rfl
  show wpAt _ _ _ (execs _ _) _ _ _
  refine ks_wpAt_execs_cons (ks_wpAt_Assign_Attr ?_)
  refine wpAt_of_wpAny (wpAny_Name (wpAny_loadName_local rfl kfl hns₄ vfl ?_) ndb)
  refine wpAny_Name (wpAny_loadName_local rfl kse hns₄ vse ?_) (by decide +kernel)
  refine set_plain X₄ (ox := excO C _) (od := none) ⟨hx₄, rfl, rfl, trivial⟩ T.sa ?_
  refine exc_osa X₄ hx₄ hcl (show refsVE (.ref C :: bm) = true from hbm) rfl T.noN (fun h₅ tk₅ dx k₅ dn dne hx₅ hn₅ => ?_)
  show wpAt _ _ _ (execs _ _) _ _ _
  refine wpAt_of_wpAny (wpAny_execs_nil (hq h₅ tk₅ dx _ ⟨fun b o hb e => k₅ b o hb (hold b o hb e), hx₅, Nat.le_of_lt (Nat.lt_of_lt_of_le hns₄.lt dn), dne, hn₅⟩))
end
/-- a made error -/
structure OwnMade (fl : Str) (h h' : Heap) (e C d : Addr) (v : Value) : Prop where
  keep : ∀ b o, h.get? b = some o → h'.get? b = some o
  new : h.objs.size ≤ e
  obj : ∃ oe vs, h'.get? e = some oe ∧ oe.cls = .ref C ∧ oe.dict = some d ∧ oe.data = .fields vs ∧ vs[1]? = some .none
  dbig : h.objs.size ≤ d
  dne : d ≠ e
  ns : h'.Ns1 d (fun y => if y = fl then some v else none)
section
variable {prog : Program} {w : World} {A : Around} {E : Value → Shared → Prop} {R : Result → Shared → Prop} {s : Shared} {K : Frag} {mg : Str → Option Value} {C fI : Addr} {nm fl : Str}
theorem own_made (T : OwnTxt prog K mg nm fl C fI) {v : Value} (X : K.In s.heap) (hG : s.heap.Ns mainGlobals mg) (hB : Blt s.heap) (hlim : s.heap.NoLimit) (hroom : A.depth + 1 < recursionLimit)
    (hq : ∀ h' tk e d, OwnMade fl s.heap h' e C d v → R (.ok (.ret (.ref e))) { s with heap := h', toks := tk }) :
    codeAny (model prog w) A (.call (.ref C) ⟨[v], []⟩) R s := by
  obtain ⟨nm', q, N, bs, bm, sn, sub, ab, col, dd, k0, k1, k2, k3, k5, hC, hbm⟩ := T.cls
  obtain ⟨hp, g, dr, tk, os⟩ := s
  have k : ∀ b o, hp.get? b = some o → ((hp.push (kdv_tup [v])).push (excO C hp.objs.size)).get? b = some o := fun b o e => Heap.get?_push_of_some _ (Heap.get?_push_of_some _ e)
  have hget : ((hp.push (kdv_tup [v])).push (excO C hp.objs.size)).get? (hp.objs.size + 1) = some (excO C hp.objs.size) := by heap_get
  have hnx : K.lookup (hp.objs.size + 1) = none := by
    cases e : K.lookup (hp.objs.size + 1) with
    | none => rfl
    | some o =>
      have z : hp.get? (hp.objs.size + 1) = some o := X _ _ e
      exact absurd (Nat.lt_of_succ_lt (Heap.lt_size z)) (Nat.lt_irrefl _)
  refine call_own F.excBase_ValueError (fun X => refsVE_contains X bm hbm) (X _ _ hC) (looks_findIn X T.iC) (fun self => bind_fn X self T.tC) (one_size v) ?_
  refine own_init (s := ⟨(hp.push (kdv_tup [v])).push (excO C hp.objs.size), g, dr, tk, os⟩) T (X.keeps k) (hG.keeps k) (by obtain ⟨mb, b1, b2⟩ := hB; exact ⟨mb, b1.keeps k, b2⟩) (hlim.keeps k) hget hnx ?_ fun h' tk' dx t1 ⟨k', hx, dn, dne, hns⟩ => ?_
  · show A.depth + 1 < recursionLimit
    exact hroom
  · have old : ∀ b o, hp.get? b = some o → h'.get? b = some o := fun b o e => k' b o (Nat.ne_of_lt (Nat.lt_succ_of_lt (Heap.lt_size e))) (k b o e)
    have z : hp.objs.size + 1 + 1 ≤ dx := by
      first
        | (simpa only [Heap.size_push] using dn)
        | exact dn
        | (have q := dn; rw [Heap.size_push, Heap.size_push] at q; exact q)
    exact ⟨rfl, hq h' tk' (hp.objs.size + 1) dx ⟨old, Nat.le_succ _, ⟨_, _, hx, rfl, rfl, rfl, rfl⟩, Nat.le_trans (Nat.le_trans (Nat.le_succ _) (Nat.le_succ _)) z, dne, hns⟩⟩
end
end OwnX
end PySem
namespace AK
open PySem PySem.Spec PyProof.Rows L2
theorem relO_fld {fl : Str} {v : V} {v' : Value} (r : RelV v v') (f : Str) : RelO (List.lookup f [(fl, v)]) (if f = fl then some v' else none) := by
  by_cases hw : f = fl
  · subst hw
    rw [if_pos rfl]
    have q : List.lookup f [(f, v)] = some v := by simp [List.lookup]
    rw [q]
    exact r
  · rw [if_neg hw]
    have qw : (f == fl) = false := by simpa using hw
    have q2 : List.lookup f [(fl, v)] = none := by simp [List.lookup, qw]
    rw [q2]
    trivial
section
variable {X : Cx} {C fI : Addr} {nm fl : Str}
/-- C(e) -/
def tMkE (C : Addr) (fl : Str) (ta : TA) : L2.St → Hp → XK → Prop := fun σ H Q => ta σ H fun vs H1 => ∃ v, vs = [v] ∧ ∀ d, H1 d = none → Q (.ref C) (some d) (upd H1 d (.xd [(fl, v)]))
theorem pmk_e {a : Expr} {ta : TA} {p pos : Pos} {k : Nat} (T : PySem.OwnX.OwnTxt X.prog X.K X.mg nm fl C fI) (hr : Room k X.A) (ha : PA X [a] ta) (hg : Gl X nm := by rfl) (hdb : (nm == ("__debug__" : Str)) = false := by decide)
    (he : starEach (a :: []) X.env = (false, eval a X.env) :: starEach [] X.env := by rfl) (hpl : (backTo pos (starEach [] X.env)).any (·.1) = false := by rfl) :
    PMk X (.Call (.Name nm p) [a] [] pos) (tMkE C fl ta) := by
  intro pins s σ H Q I h
  refine wpAny_Call_Name_kw (ld_glob I hg T.gC ?_ hdb)
  refine PySem.W.callWith_K (h₀ := X.base) I.ok.mod.kin T.kC (thn (ha.run pos pins s σ H _ I h) fun us s1 hh => ?_) he hpl
  obtain ⟨vs, H1, I1, r1, v, ev, q1⟩ := hh
  subst ev
  refine ⟨I1.kIn, ?_⟩
  cases r1 with
  | cons rv rn =>
    rename_i v' us'
    cases rn
    show wpAny _ _ (call (.ref C) [v']) _ _ _
    have hlim := I1.nolimit
    have hG : s1.heap.Ns mainGlobals X.mg := I1.mod.glob.keeps I1.bk
    have hB : PySem.OwnX.Blt s1.heap := by
      obtain ⟨mb, b1, b2⟩ := I1.mod.blt
      exact ⟨mb, b1.keeps I1.bk, b2⟩
    obtain ⟨hp, g, dr, tk, os⟩ := s1
    refine wpAny_call (PySem.OwnX.own_made T I1.kIn hG hB hlim (by have := hr.dp; omega) fun h' tk' e d M => ?_)
    show MkP X pins σ Q (.ref e) ⟨h', g, dr, tk', os⟩
    obtain ⟨oe, fv, hoe, hc, hd, hdat, h1⟩ := M.obj
    have hns := M.ns
    obtain ⟨G', g1, g2⟩ := restrict h' fun b => decide (b ≠ e)
    have gk : ∀ b, b ≠ e → G'.get? b = h'.get? b := fun b hb => g1 b (decide_eq_true hb)
    have ge : G'.get? e = none := g2 e (by simp)
    have old : ∀ b o, hp.get? b = some o → G'.get? b = some o := fun b o q => (gk b (Nat.ne_of_lt (Nat.lt_of_lt_of_le (Heap.lt_size q) M.new))).trans (M.keep b o q)
    have ob : ObjOk X.prog X.w (upd H1 d (.xd [(fl, v)])) G' d (.xd [(fl, v)]) :=
      ⟨_, hns.at (fun o q => (gk d M.dne).trans q), fun f => relO_fld rv f⟩
    have J : Inv X pins σ (upd H1 d (.xd [(fl, v)])) ⟨G', g, dr, tk', os⟩ := I1.laid (t' := tk') old M.dbig ob
    refine ⟨e, oe, fv, ⟨G', g, dr, tk', os⟩, _, .ref C, some d, rfl, J, fun b o q => ?_, ge, hoe, ⟨hc, hd⟩, hdat, h1, ?_, rfl, I1.bare, raises_own T.exC T.tyC, q1 d (I1.hok.fresh M.dbig)⟩
    · by_cases hb : b = e
      · have q' : G'.get? b = some o := q
        rw [hb, ge] at q'; cases q'
      · exact (gk b hb).symm.trans q
    · rw [upd_ne (Ne.symm M.dne)]
      exact I1.hok.fresh M.new
/-- raise C(e) -/
def tRaiseE (C : Addr) (fl : Str) (W : WX) (ta : TA) : TS := fun _ σ H => tMkE C fl ta σ H fun cls d H' => W cls d σ H'
theorem ps_raiseE {a : Expr} {ta : TA} {W : WX} {p pos pos2 : Pos} {k : Nat} (hc : X.calm = true) (T : PySem.OwnX.OwnTxt X.prog X.K X.mg nm fl C fI) (hr : Room k X.A) (tk : Takes X W) (ha : PA X [a] ta) (hg : Gl X nm := by rfl) (hdb : (nm == ("__debug__" : Str)) = false := by decide)
    (he : starEach (a :: []) X.env = (false, eval a X.env) :: starEach [] X.env := by rfl) (hpl : (backTo pos (starEach [] X.env)).any (·.1) = false := by rfl) :
    PS X (.Raise (some (.Call (.Name nm p) [a] [] pos)) none pos2) (tRaiseE C fl W ta) := ps_raise hc tk (pmk_e T hr ha hg hdb he hpl)
/-- e.f, e the exception that the suite holds -/
def tFldE (C : Addr) (fl : Str) (a : Addr) (cls : Value) (d : Option Addr) (te : TE) : TE := fun σ H Q => te σ H fun x H1 => x = .ref a ∧ cls = .ref C ∧ ∃ (dd : Addr) (v : V), d = some dd ∧ H1 dd = some (.xd [(fl, v)]) ∧ Q v H1
theorem pe_fldE {a : Addr} {oe : Obj} {cls : Value} {d : Option Addr} {pn : List (Addr × Obj)} {e : Expr} {te : TE} {pos : Pos} (T : PySem.OwnX.OwnTxt X.prog X.K X.mg nm fl C fI) (hz : Zc cls d oe) (hf : ∃ vs, oe.data = .fields vs) (he : PE (X.suite a ((a, oe) :: pn)) e te)
    (hb : attributeBase e fl X.env (eval e X.env) = eval e X.env := by rfl) :
    PE (X.suite a ((a, oe) :: pn)) (.Attribute e fl pos) (tFldE C fl a cls d te) := by
  refine ⟨fun pins s σ H Q I h => ?_⟩
  refine attr_of hb (thn (he.run pins s σ H _ I h) fun u s1 hh => ?_)
  obtain ⟨x, H1, I1, rx, ex, ec, dd, v, ed, ea, q⟩ := hh
  subst ex
  obtain rfl : u = Value.ref a := rx
  subst ec
  subst ed
  obtain ⟨ha, _⟩ := I1.pin (a, oe) (List.mem_append_left _ List.mem_cons_self)
  obtain ⟨vs, hd⟩ := hf
  have hx : ObjOk X.prog X.w H1 s1.heap dd (.xd [(fl, v)]) := I1.hok dd _ ea
  obtain ⟨mA, hns, hr⟩ := hx
  obtain ⟨od, ho, hl⟩ := lookIn_ns hns
  have l : List.lookup fl [(fl, v)] = some v := by simp [List.lookup]
  obtain ⟨u, hu, ru⟩ := RelO.some_of (v := v) (o := mA fl) (by rw [← l]; exact hr fl)
  have J : PySem.W.InstAt s1.heap a oe C (some od) := ⟨ha, hz.1, by unfold PySem.W.notCls; rw [hd] <;> rfl, by rw [hz.2]; exact ho⟩
  exact HandSPX.exc_get I1.kIn J T.ga T.gg T.exC (PySem.W.findObj_own T.hdC T.noN rfl (by rw [hl, hu])) (handed_of ru) ⟨v, H1, I1.tok _, ru, q⟩
end
end AK

/-! ## AGuard -/
set_option Elab.async false
set_option linter.all false
set_option maxRecDepth 100000
set_option maxHeartbeats 2000000
/-! promises of defs where no repr is under way: the same words as the hand layer's, with A.guards = some [] carried along -/
namespace AK
open PySem PySem.Spec PyProof.Rows L2
structure FnG (P : Program) (w : World) (K : PySem.W.Frag) (mg : Str → Option Value) (base : Heap) (CX : CXT) (k : Nat) (f : Addr) (fd : FuncData) (ps : List Str) (sp : Sp) : Prop where
  gl : ∀ vs H Q E, sp vs H Q E → vs.length = ps.length
  go : ∀ (B : Around) (up : List Env) (z : Shared) (H : Hp) (ar : Args) (us : List Value) (vs : List V) (Q : VK) (E : XK), Room k B → B.guards = some [] → Env0 P w K mg base B up z H → BindsTo z fd ar (ps.zip us) → Vals vs us → sp vs H Q E →
    codeAny (model P w) B (.call (.ref f) ar) (CR CX up P w H z Q E) z
section
variable {P : Program} {w : World} {K : PySem.W.Frag} {mg : Str → Option Value} {base : Heap} {CX : CXT} {k : Nat} {f : Addr} {fd : FuncData} {ps : List Str} {sp : Sp}
theorem FnG.of (o : FnOk P w K mg base CX k f fd ps sp) : FnG P w K mg base CX k f fd ps sp := ⟨o.len, fun B up z H ar us vs Q E a _ b c d e => o.run B up z H ar us vs Q E a b c d e⟩
theorem FnG.mono {j : Nat} (o : FnG P w K mg base CX j f fd ps sp) (h : j ≤ k) : FnG P w K mg base CX k f fd ps sp := ⟨o.gl, fun B up z H ar us vs Q E a => o.go B up z H ar us vs Q E (a.mono h)⟩
theorem fnG_of {nm qual : Str} {pr : Arguments} {bd : List Stmt} {sc : Scope} {dV kV doc pm cdv ct oc : Value} {an od : Option Addr} {osl : Array (Option Value)} {N : List Str} (lk : K.lookup f = some ⟨oc, od, .func (PySem.W.fnOf nm qual pr bd sc dV kV doc pm an cdv ct), osl⟩)
    (hcd : PySem.W.codeIn K cdv qual = true) (S : FnScope N ps sc) (gl : ∀ vs H Q E, sp vs H Q E → vs.length = ps.length)
    (hb : ∀ (B : Around) (up : List Env) (z : Shared) (H : Hp) (vs : List V) (Q : VK) (E : XK), Room k (B.deeper (envOfC qual sc z.heap.objs.size f cdv)) → (B.deeper (envOfC qual sc z.heap.objs.size f cdv)).guards = some [] → sp vs H Q E →
      ∃ t, PSs (cxOf CX P w K mg base N qual sc f cdv B up z H E) bd t ∧ t { nx := fun _ H' => Q .non H', rt := Q } (start N vs) H) :
    FnG P w K mg base CX (k + 1) f (PySem.W.fnOf nm qual pr bd sc dV kV doc pm an cdv ct) ps sp := by
  refine ⟨gl, fun B up z H ar us vs Q E room gd e0 bt r hsp => ?_⟩
  have old : ∀ b o, base.get? b = some o → z.heap.get? b = some o := fun b o e => (e0.bs b o e).1
  have inK := e0.mod.kin.keeps old
  have noL := e0.mod.nolimit.keeps old
  refine codeAny_call_function room.depth (inK _ _ lk) rfl S.co S.gen rfl (PySem.W.codeRec_of inK hcd) (bt _ _ _ _ ?_)
  refine wpAny_newFunctionEnv_cells S.kind (fun y hy => (S.par y.1 (List.of_mem_zip (a := y.1) (b := y.2) hy).1).imp id fun q => ⟨q, PySem.W.cellsFrom_some _ _ _ (.inl q)⟩) fun env he s1 x => ?_
  subst he
  refine ⟨noL.keeps x.toInCall.keep, codeAny_func ?_⟩
  obtain ⟨t, ht, hq⟩ := hb B up z H vs Q E (room.deeper _) gd hsp
  have I := inv_start (CX := CX) (E := E) S room.hd e0 (gl _ _ _ _ hsp) r x
  refine wpAny_mono (ht.run [] s1 (start N vs) H _ I hq) (fun fl s' hs => ?_) fun _ _ h => h
  cases fl with
  | ret u =>
    obtain ⟨v, σ', H', J, rv, q⟩ := hs
    exact ⟨v, H', J.os, J.bare, J.base, J.hok, rv, q⟩
  | next =>
    obtain ⟨σ', H', J, q⟩ := hs
    exact ⟨.non, H', J.os, J.bare, J.base, J.hok, rfl, q⟩
  | brk => exact hs.choose_spec.choose_spec.2.elim
  | cont => exact hs.choose_spec.choose_spec.2.elim
end
section
variable {X : Cx} {CX : CXT} {k : Nat} {f : Addr} {fd : FuncData} {ps : List Str} {sp : Sp} {E : XK} {ds : List Value} {dvs : List V} {x : Str} {p pos : Pos} {e : Expr} {es : List Expr} {t : TA}
theorem pe_callG (F : FnG X.prog X.w X.K X.mg X.base CX k f fd ps sp) (hr : Room k X.A) (gd : X.A.guards = some []) (hg : Gl X x) (hm : X.mg x = some (.ref f)) (hk : PySem.W.keepIn X.K (.ref f) = true) (hb : Binds X.K fd ps ds) (hd : Vals dvs ds) (hx : Passes CX X E)
    (ha : PA X (e :: es) t) (hdb : (x == ("__debug__" : Str)) = false := by decide) (he : starEach (e :: es) X.env = (false, eval e X.env) :: starEach es X.env := by rfl) (hpl : (backTo pos (starEach es X.env)).any (·.1) = false := by rfl) :
    PE X (.Call (.Name x p) (e :: es) [] pos) (tCall sp dvs E t) := by
  refine ⟨fun pins z σ H Q I h => wpAny_Call_Name_kw (ld_glob I hg hm ?_ hdb)⟩
  refine PySem.W.callWith_K (h₀ := X.base) I.ok.mod.kin hk (thn (ha.run pos pins z σ H _ I h) fun us s1 ⟨vs, H1, I1, r, q⟩ => ⟨I1.kIn, ?_⟩) he hpl
  have r2 := r.append hd
  have hl : (us ++ ds).length = ps.length := r2.length.symm.trans (F.gl _ _ _ _ q)
  refine wpAny_call (codeAny_mono (F.go X.A X.stack s1 H1 ⟨us, []⟩ (us ++ ds) (vs ++ dvs) Q E hr gd I1.env0 (hb s1 us I1.kIn hl) r2 q) fun out s' hq => ?_)
  match out, hq with
  | .error e, hq => exact hx pins σ H1 s1 e s' I1 hq
  | .ok (.ret u), hq => exact I1.after hq
  | .ok .next, hq => exact hq.elim
  | .ok .brk, hq => exact hq.elim
  | .ok .cont, hq => exact hq.elim
end
section
variable {P : Program} {w : World} {K : PySem.W.Frag} {mg : Str → Option Value} {base : Heap}
/-- a def by its text, no repr under way -/
theorem okG {x qual : Str} {st : Stmt} {f : Addr} {fd : FuncData} {N ps : List Str} {k : Nat} {sp : Sp} (o : Fun K x qual st f fd) (S : FnScope N ps (defScope st)) (gl : ∀ vs H Q E, sp vs H Q E → vs.length = ps.length)
    (hb : ∀ (cdv : Value) (B : Around) (up : List Env) (z : Shared) (H : Hp) (vs : List V) (Q : VK) (E : XK), Room k (B.deeper (envOfC qual (defScope st) z.heap.objs.size f cdv)) → (B.deeper (envOfC qual (defScope st) z.heap.objs.size f cdv)).guards = some [] → sp vs H Q E →
      ∃ t, PSs (cxOf CX0 P w K mg base N qual (defScope st) f cdv B up z H E).nox (defBody st) t ∧ t { nx := fun _ H' => Q .non H', rt := Q } (start N vs) H) : FnG P w K mg base CX0 (k + 1) f fd ps sp := by
  obtain ⟨oc, od, kV, doc, pm, an, cdv, ct, osl, rfl, lk, hcd⟩ := o.ex
  refine fnG_of lk hcd S gl fun B up z H vs Q E room gd hsp => ?_
  obtain ⟨t, h1, h2⟩ := hb cdv B up z H vs Q E room gd hsp
  exact ⟨t, h1.nox, h2⟩
theorem okGX {x qual : Str} {st : Stmt} {f : Addr} {fd : FuncData} {N ps : List Str} {k : Nat} {sp : Sp} (o : Fun K x qual st f fd) (S : FnScope N ps (defScope st)) (gl : ∀ vs H Q E, sp vs H Q E → vs.length = ps.length)
    (hb : ∀ (cdv : Value) (B : Around) (up : List Env) (z : Shared) (H : Hp) (vs : List V) (Q : VK) (E : XK), Room k (B.deeper (envOfC qual (defScope st) z.heap.objs.size f cdv)) → (B.deeper (envOfC qual (defScope st) z.heap.objs.size f cdv)).guards = some [] → sp vs H Q E →
      ∃ t, PSs (cxOf (L2.CX P w) P w K mg base N qual (defScope st) f cdv B up z H E) (defBody st) t ∧ t { nx := fun _ H' => Q .non H', rt := Q } (start N vs) H) : FnG P w K mg base (L2.CX P w) (k + 1) f fd ps sp := by
  obtain ⟨oc, od, kV, doc, pm, an, cdv, ct, osl, rfl, lk, hcd⟩ := o.ex
  exact fnG_of lk hcd S gl fun B up z H vs Q E room gd hsp => hb cdv B up z H vs Q E room gd hsp
/-- the law called on its script, at a heap in which the script alone may be tracked -/
theorem lawG_at {CX : CXT} {k : Nat} {fa a : Addr} {fd : FuncData} {x : Str} {sp : Sp} {z : Shared} {mb : Str → Option Value} {us : List Value} {H : Hp} (inK : K.In z.heap) (g1 : z.heap.Ns mainGlobals mg) (g2 : z.heap.Ns builtinsNs mb) (g3 : ∀ y : Str, y ≠ "__name__" → mb y = bootBuiltins y)
    (noL : z.heap.NoLimit) (bare : z.gens = #[]) (ob : z.heap.get? a = some { cls := .type "list", data := .seq us.toArray }) (room : Room k callerA) (F : ∀ base : Heap, K.In base → base.Ns mainGlobals mg → FnG P w K mg base CX k fa fd [x] sp) (bt : ∀ (s : Shared) (u : Value), BindsTo s fd ⟨[u], []⟩ [(x, u)])
    (hsp : sp [.ref a] H (fun v _ => v = .bl true) fun _ _ _ => False) (hCX : ∀ e s', CX [] H z (fun _ _ _ => False) e s' → False) (only : Only H) (hok : HOk P w H z.heap) (hA : ∀ b, H b ≠ none → b = a) (hK : H a ≠ none → K.lookup a = none) :
    codeAny (model P w) callerA (.call (.ref fa) ⟨[.ref a], []⟩) (fun r s' => r = .ok (.ret (.bool true)) ∧ OldK z.heap s'.heap ∧ s'.os = z.os ∧ AllBare s'.gens) z := by
  have hid : ∀ {b : Addr} {o : Obj}, z.heap.get? b = some o → H b = none → (hidT z.heap H).get? b = some o := fun e n => hidT_get e n
  have free : ∀ b, b ≠ a → H b = none := fun b hb => by
    cases q : H b with
    | none => rfl
    | some u => exact absurd (hA b (by rw [q]; exact fun c => nomatch c)) hb
  have dct : ∀ {b : Addr} {o : Obj} {es : Array DictEntry} {ep : Nat}, z.heap.get? b = some o → o.data = .dict es ep → H b = none := fun {b o es ep} e d => free b fun c => by
    rw [c, ob] at e
    cases e
    exact nomatch d
  have nsH : ∀ {b : Addr} {m : Str → Option Value}, z.heap.Ns b m → (hidT z.heap H).Ns b m := fun ⟨o, es, ep, e, d, r⟩ => ⟨o, es, ep, hid e (dct e d), d, r⟩
  have kH : K.In (hidT z.heap H) := fun b o e => by
    refine hid (inK b o e) ?_
    by_cases c : b = a
    · subst c
      cases q : H b with
      | none => rfl
      | some u =>
        have n := hK (by rw [q]; exact fun c => nomatch c)
        rw [n] at e
        exact nomatch e
    · exact free b c
  have md : Mod K mg (hidT z.heap H) := ⟨kH, nsH g1, ⟨mb, nsH g2, g3⟩, let ⟨mc, l1, l2⟩ := noL; ⟨mc, nsH l1, l2⟩⟩
  have e0 : Env0 P w K mg (hidT z.heap H) callerA [] z H := ⟨rfl, md, fun b o e => of_hidT e, Nat.le_of_eq (hidT_size _ _), trivial, fun b hb => absurd (show b ∈ ([] : List Addr) from hb) List.not_mem_nil, hok, .of_eq bare⟩
  refine codeAny_mono ((F _ kH (nsH g1)).go callerA [] z H ⟨[.ref a], []⟩ [.ref a] [.ref a] _ _ room rfl e0 (bt z (.ref a)) (.cons rfl .nil) hsp) fun out s' h => ?_
  match out, h with
  | .error e, h => exact (hCX e s' h).elim
  | .ok .next, h => exact h.elim
  | .ok .brk, h => exact h.elim
  | .ok .cont, h => exact h.elim
  | .ok (.ret u), ⟨v, H', os, br, un, hok', ru, q⟩ =>
    obtain rfl : v = .bl true := q
    obtain rfl : u = Value.bool true := ru
    refine ⟨rfl, OldK.of_keep fun b o e => ?_, os, br⟩
    rcases only b with n | ⟨o', xs, n⟩
    · exact un.keep b o e n (fun c => nomatch c) (fun c => nomatch c)
    · have i1 := (hok b _ n).1
      have i2 := (hok' b _ (un.frzs b o' _ n)).1
      rw [e] at i1
      cases i1
      exact i2
theorem lawG {CX : CXT} {k : Nat} {fa a : Addr} {fd : FuncData} {x : Str} {sp : Sp} {z : Shared} {mb : Str → Option Value} {us : List Value} {ns : List Int} (inK : K.In z.heap) (g1 : z.heap.Ns mainGlobals mg) (g2 : z.heap.Ns builtinsNs mb) (g3 : ∀ y : Str, y ≠ "__name__" → mb y = bootBuiltins y)
    (noL : z.heap.NoLimit) (bare : z.gens = #[]) (ob : z.heap.get? a = some { cls := .type "list", data := .seq us.toArray }) (hi : IntsAre us ns) (hl : ns.length ≤ sizeLine) (room : Room k callerA) (F : ∀ base : Heap, K.In base → base.Ns mainGlobals mg → FnG P w K mg base CX k fa fd [x] sp) (bt : ∀ (s : Shared) (u : Value), BindsTo s fd ⟨[u], []⟩ [(x, u)])
    (hsp : ∀ H : Hp, Only H → SqL K H a (ns.map V.int) → sp [.ref a] H (fun v _ => v = .bl true) fun _ _ _ => False) (hCX : ∀ H e s', CX [] H z (fun _ _ _ => False) e s' → False) :
    codeAny (model P w) callerA (.call (.ref fa) ⟨[.ref a], []⟩) (fun r s' => r = .ok (.ret (.bool true)) ∧ OldK z.heap s'.heap ∧ s'.os = z.os ∧ AllBare s'.gens) z := by
  have rv := vals_ints hi
  have lu := hi.length
  cases hk : K.lookup a with
  | some o =>
    have e := inK a o hk
    rw [ob] at e
    cases e
    have on : Only (fun _ => none) := fun _ => .inl rfl
    refine lawG_at (H := fun _ => none) inK g1 g2 g3 noL bare ob room F bt (hsp _ on (.inr ⟨_, us.toArray, _, hk, rfl, rfl, rfl, by rw [List.size_toArray, lu]; exact hl, by simpa using rv⟩)) (hCX _) on (fun b u c => nomatch c) (fun b c => absurd rfl c) fun c => absurd rfl c
  | none =>
    let H : Hp := fun b => if b = a then some (.frz { cls := .type "list", data := .seq us.toArray } (.lst (ns.map V.int))) else none
    have here : H a = some (.frz { cls := .type "list", data := .seq us.toArray } (.lst (ns.map V.int))) := if_pos rfl
    have else' : ∀ b, b ≠ a → H b = none := fun b c => if_neg c
    have on : Only H := fun b => by
      by_cases c : b = a
      · subst c; exact .inr ⟨_, _, here⟩
      · exact .inl (else' b c)
    refine lawG_at (H := H) inK g1 g2 g3 noL bare ob room F bt (hsp _ on (.inl (.inr ⟨_, here⟩))) (hCX _) on (fun b u c => ?_) (fun b c => ?_) fun _ => hk
    · by_cases d : b = a
      · subst d
        rw [here] at c
        cases c
        exact ⟨ob, by rw [List.length_map]; exact hl, us, _, rv, ob⟩
      · rw [else' b d] at c
        exact nomatch c
    · by_cases d : b = a
      · exact d
      · exact absurd (else' b d) c
end
theorem walkG {l : PySem.W.OpenLaw} {n k : Nat} {q : Program} {loose : List Str} {XP : (Str → Option Value) → Heap → Prop} {YP : World → Heap → Prop} {d : DefRec} {K : Params → PySem.W.Frag} {CX : CXT} {sp : PySem.W.Frag → Sp} {x : Str}
    (hn : l.most = some n) (hn2 : n ≤ sizeLine) (hdf : d.params.defaults = []) (room : Room k callerA) (hY : ∀ (w : World) (h : Heap), YP w h → (K w.params).In h)
    (F : ∀ (w : World) (mg : Str → Option Value) (fa : Addr) (h : Heap), (K w.params).In h → h.Ns mainGlobals mg → mg d.name = some (.ref fa) →
      ∃ fd : FuncData, (∀ (s : Shared) (u : Value), BindsTo s fd ⟨[u], []⟩ [(x, u)]) ∧ ∀ base : Heap, (K w.params).In base → base.Ns mainGlobals mg → FnG l.prog w (K w.params) mg base CX k fa fd [x] (sp (K w.params)))
    (hsp : ∀ (K : PySem.W.Frag) (H : Hp) (a : Addr) (ns : List Int), ns.length ≤ n → Only H → SqL K H a (ns.map V.int) → sp K [.ref a] H (fun v _ => v = .bl true) fun _ _ _ => False)
    (hCX : ∀ (H : Hp) (s : Shared) (e : Value) (s' : Shared), CX [] H s (fun _ _ _ => False) e s' → False) :
    PySem.W.WalkO q loose XP YP l.row.toRowW d [] (fun f vs => PySem.call f vs) := by
  refine Att.attach_call hn hdf fun w s₀ z mg mb fa o pm cd doc a us ns G Y ho hd hcd hmg hobj hints hlen hg => ?_
  obtain ⟨fd, bt, hF⟩ := F w mg fa _ (hY w _ Y) G.T.g hmg
  exact lawG (hY w _ Y) G.T.g G.T.b G.T.builtins G.T.nolimit hg hobj hints (Nat.le_trans hlen hn2) room hF bt (fun H on hS => hsp _ H a ns hlen on hS) fun H e s' => hCX H z e s'
end AK

/-! ## MCore -/
set_option Elab.async false
set_option linter.all false
set_option maxRecDepth 100000
set_option maxHeartbeats 1000000
/-! MP: a small language of values without addresses; its states, its results; what a value of it says of a value of the hand layer -/
namespace MP
open PySem PySem.Spec PyProof.Rows L2 AK

/-- a value that never changes -/
inductive PV where
  | non | bl (b : Bool) | int (i : Int) | str (z : Str) | ty (n : String)
  | tup (xs : List PV) | lst (xs : List PV)
  | dK (ks : List Key) (vs : List PV) | dT (ks : List (List Key)) (vs : List PV)
  | ins (C : Str) (ns : List Str) (vs : List PV)
mutual
def PV.beq : PV → PV → Bool
  | .non, y => match y with | .non => true | _ => false
  | .bl a, y => match y with | .bl b => decide (a = b) | _ => false
  | .int a, y => match y with | .int b => decide (a = b) | _ => false
  | .str a, y => match y with | .str b => decide (a = b) | _ => false
  | .ty a, y => match y with | .ty b => decide (a = b) | _ => false
  | .tup xs, y => match y with | .tup ys => beqL xs ys | _ => false
  | .lst xs, y => match y with | .lst ys => beqL xs ys | _ => false
  | .dK ks vs, y => match y with | .dK ls ws => decide (ks = ls) && beqL vs ws | _ => false
  | .dT ks vs, y => match y with | .dT ls ws => decide (ks = ls) && beqL vs ws | _ => false
  | .ins C ns vs, y => match y with | .ins D ms ws => decide (C = D) && (decide (ns = ms) && beqL vs ws) | _ => false
def beqL : List PV → List PV → Bool
  | [], ys => ys.isEmpty
  | x :: xs, ys => match ys with | y :: t => PV.beq x y && beqL xs t | [] => false
end
mutual
theorem PV.beq_eq : ∀ {x y : PV}, PV.beq x y = true → x = y
  | .non, y, h => by cases y <;> simp [PV.beq] at h ⊢
  | .bl a, y, h => by cases y <;> simp [PV.beq] at h ⊢; exact h
  | .int a, y, h => by cases y <;> simp [PV.beq] at h ⊢; exact h
  | .str a, y, h => by cases y <;> simp [PV.beq] at h ⊢; exact h
  | .ty a, y, h => by cases y <;> simp [PV.beq] at h ⊢; exact h
  | .tup xs, y, h => by cases y <;> simp [PV.beq] at h ⊢; exact beqL_eq h
  | .lst xs, y, h => by cases y <;> simp [PV.beq] at h ⊢; exact beqL_eq h
  | .dK ks vs, y, h => by cases y <;> simp [PV.beq] at h ⊢; exact ⟨h.1, beqL_eq h.2⟩
  | .dT ks vs, y, h => by cases y <;> simp [PV.beq] at h ⊢; exact ⟨h.1, beqL_eq h.2⟩
  | .ins C ns vs, y, h => by cases y <;> simp [PV.beq] at h ⊢; exact ⟨h.1, h.2.1, beqL_eq h.2.2⟩
theorem beqL_eq : ∀ {xs ys : List PV}, beqL xs ys = true → xs = ys
  | [], ys, h => by cases ys <;> simp [beqL] at h ⊢
  | x :: xs, ys, h => by cases ys <;> simp [beqL] at h ⊢; exact ⟨PV.beq_eq h.1, beqL_eq h.2⟩
end
mutual
theorem PV.beq_self : ∀ (x : PV), PV.beq x x = true
  | .non => by simp [PV.beq]
  | .bl a => by simp [PV.beq]
  | .int a => by simp [PV.beq]
  | .str a => by simp [PV.beq]
  | .ty a => by simp [PV.beq]
  | .tup xs => by simp [PV.beq]; exact beqL_self xs
  | .lst xs => by simp [PV.beq]; exact beqL_self xs
  | .dK ks vs => by simp [PV.beq]; exact beqL_self vs
  | .dT ks vs => by simp [PV.beq]; exact beqL_self vs
  | .ins C ns vs => by simp [PV.beq]; exact beqL_self vs
theorem beqL_self : ∀ (xs : List PV), beqL xs xs = true
  | [] => by simp [beqL]
  | x :: xs => by simp [beqL]; exact ⟨PV.beq_self x, beqL_self xs⟩
end
instance : DecidableEq PV := fun x y => if h : PV.beq x y = true then .isTrue (PV.beq_eq h) else .isFalse fun e => h (by rw [e]; exact PV.beq_self y)
/-- a value, or an object that may change, or the source of draws -/
inductive MV where
  | p (x : PV) | o (n : Nat) | g
  deriving DecidableEq
inductive MO where
  | lst (xs : List MV) | dK (kvs : List (Key × MV)) | dT (kvs : List (List Key × MV)) | ins (C : Str) (fs : List (Str × MV))
  deriving DecidableEq
structure Rn where
  cells : List Int
  stir : Int
structure S where
  g : Option Rn
  h : List (Option MO)
abbrev Env := List (Option MV)
inductive Res (α : Type) where
  | ok (a : α) (s : S) | exc (c f : Str) (x : PV) (s : S) | no
inductive SR where
  | nx (ρ : Env) (s : S) | rt (v : MV) (s : S) | bk (ρ : Env) (s : S) | ct (ρ : Env) (s : S) | exc (c f : Str) (x : PV) (ρ : Env) (s : S) | no
abbrev E (α : Type) := Env → S → Res α
abbrev ST := Env → S → SR

def Res.bind {α β : Type} (r : Res α) (f : α → S → Res β) : Res β := match r with
  | .ok a s => f a s
  | .exc c f x s => .exc c f x s
  | .no => .no
def bind {α β : Type} (m : E α) (f : α → E β) : E β := fun ρ s => (m ρ s).bind fun a s1 => f a ρ s1
def ret {α : Type} (a : α) : E α := fun _ s => .ok a s
def lift {α : Type} (r : S → Res α) : E α := fun _ s => r s
section
variable {α β : Type} {a : α} {s s1 : S} {ρ : Env} {m : E α} {f : α → E β}
theorem Res.bind_ok {f : α → S → Res β} : (Res.ok a s).bind f = f a s := rfl
theorem Res.bind_exc {c fl : Str} {x : PV} {f : α → S → Res β} : (Res.exc c fl x s).bind f = .exc c fl x s := rfl
theorem Res.bind_no {f : α → S → Res β} : (Res.no : Res α).bind f = .no := rfl
theorem bind_ok (h : m ρ s = .ok a s1) : bind m f ρ s = f a ρ s1 := by unfold bind; rw [h]; rfl
end

/-! ## where things stand -/
structure Wd where
  μ : List (Option Addr)
  g : Option (Addr × Addr)
  /-- what is being made: written by nobody but its maker -/
  x : Addr → Prop
/-- what may change -/
def Wd.bad (w : Wd) (a : Addr) : Prop := (∃ n : Nat, w.μ[n]? = some (some a)) ∨ (∃ p, w.g = some p ∧ (a = p.1 ∨ a = p.2)) ∨ w.x a

/-- two things that are alike: one thing, or a dict and it locked -/
def Dic : HO → Prop
  | .dK _ => True
  | .dT _ => True
  | _ => False
def Like (o o' : HO) : Prop := o' = o ∨ ∃ u, Dic u ∧ (o = u ∨ ∃ ob, o = .frz ob u) ∧ (o' = u ∨ ∃ ob, o' = .frz ob u)
theorem Like.refl (o : HO) : Like o o := .inl rfl
theorem Like.of {o o' : HO} (h : Like o o') (hd : ¬ Dic o) (hf : ∀ ob u, o ≠ .frz ob u) : o' = o := by
  rcases h with h | ⟨u, d, h | ⟨ob, h⟩, _⟩
  · exact h
  · exact absurd (h ▸ d) hd
  · exact absurd h (hf ob u)
theorem Like.trans {a b c : HO} (h : Like a b) (h' : Like b c) : Like a c := by
  rcases h with rfl | ⟨u, d, h1, h2⟩
  · exact h'
  · rcases h' with rfl | ⟨u', d', h1', h2'⟩
    · exact .inr ⟨u, d, h1, h2⟩
    · have e : u = u' := by
        rcases h2 with rfl | ⟨ob, rfl⟩
        · rcases h1' with rfl | ⟨ob, rfl⟩
          · rfl
          · exact d.elim
        · rcases h1' with rfl | ⟨ob', h⟩
          · exact d'.elim
          · cases h; rfl
      subst e
      exact .inr ⟨u, d, h1, h2'⟩
theorem Like.rd {H' : Hp} {a : Addr} {o o' u : HO} (hd : Dic u) (r : o = u ∨ ∃ ob, o = .frz ob u) (h : Like o o') (k : H' a = some o') : Rd H' a u := by
  rcases h with rfl | ⟨u', d, h1, h2⟩
  · rcases r with rfl | ⟨ob, rfl⟩
    · exact .inl k
    · exact .inr ⟨ob, k⟩
  · have e : u = u' := by
      rcases r with rfl | ⟨ob, rfl⟩
      · rcases h1 with rfl | ⟨ob, rfl⟩
        · rfl
        · exact hd.elim
      · rcases h1 with rfl | ⟨ob', h⟩
        · exact d.elim
        · cases h; rfl
    subst e
    rcases h2 with rfl | ⟨ob, rfl⟩
    · exact .inl k
    · exact .inr ⟨ob, k⟩
section
variable (mg : Str → Option Value)
mutual
def Rep (B : Addr → Prop) (H : Hp) : PV → V → Prop
  | .non, v => v = .non
  | .bl b, v => v = .bl b
  | .int i, v => v = .int i
  | .str z, v => v = .str z
  | .ty n, v => v = .ty n
  | .tup xs, v => ∃ a us, v = .ref a ∧ ¬ B a ∧ H a = some (.tup us) ∧ xs.length ≤ sizeLine ∧ RepL B H xs us
  | .lst xs, v => ∃ a us, v = .ref a ∧ ¬ B a ∧ H a = some (.lst us) ∧ xs.length ≤ sizeLine ∧ RepL B H xs us
  | .dK ks vs, v => ∃ a us, v = .ref a ∧ ¬ B a ∧ Rd H a (.dK us) ∧ us.map (·.1) = ks ∧ ks.Nodup ∧ vs.length ≤ sizeLine ∧ RepL B H vs (us.map (·.2))
  | .dT ks vs, v => ∃ a us, v = .ref a ∧ ¬ B a ∧ Rd H a (.dT us) ∧ us.map (·.1) = ks ∧ ks.Nodup ∧ vs.length ≤ sizeLine ∧ RepL B H vs (us.map (·.2))
  | .ins C ns vs, v => ∃ a dx Ca us, v = .ref a ∧ ¬ B a ∧ ¬ B dx ∧ mg C = some (.ref Ca) ∧ H a = some (.ins Ca dx us) ∧ H dx = some (.own a) ∧ us.map (·.1) = ns ∧ vs.length ≤ 100 ∧ RepL B H vs (us.map (·.2))
def RepL (B : Addr → Prop) (H : Hp) : List PV → List V → Prop
  | [], us => us = []
  | x :: xs, us => ∃ u t, us = u :: t ∧ Rep B H x u ∧ RepL B H xs t
end
end
section
variable {mg : Str → Option Value}
mutual
theorem Rep.imp {B B' : Addr → Prop} {H H' : Hp} (e : ∀ a o, ¬ B a → H a = some o → ¬ B' a ∧ ∃ o', H' a = some o' ∧ Like o o') : ∀ {x : PV} {v : V}, Rep mg B H x v → Rep mg B' H' x v
  | .non, v, h => by rw [Rep] at h ⊢; exact h
  | .bl b, v, h => by rw [Rep] at h ⊢; exact h
  | .int i, v, h => by rw [Rep] at h ⊢; exact h
  | .str s, v, h => by rw [Rep] at h ⊢; exact h
  | .ty s, v, h => by rw [Rep] at h ⊢; exact h
  | .tup xs, v, h => by
    rw [Rep] at h ⊢
    obtain ⟨a, us, h1, h2, h3, h4, h5⟩ := h
    obtain ⟨n, o', k, l⟩ := e a _ h2 h3
    obtain rfl := l.of (fun z => z) (fun _ _ z => nomatch z)
    exact ⟨a, us, h1, n, k, h4, RepL.imp e h5⟩
  | .lst xs, v, h => by
    rw [Rep] at h ⊢
    obtain ⟨a, us, h1, h2, h3, h4, h5⟩ := h
    obtain ⟨n, o', k, l⟩ := e a _ h2 h3
    obtain rfl := l.of (fun z => z) (fun _ _ z => nomatch z)
    exact ⟨a, us, h1, n, k, h4, RepL.imp e h5⟩
  | .dK ks vs, v, h => by
    rw [Rep] at h ⊢
    obtain ⟨a, us, h1, h2, h3, h4, h4', h5, h6⟩ := h
    rcases h3 with h3 | ⟨ob, h3⟩
    · obtain ⟨n, o', k, l⟩ := e a _ h2 h3
      exact ⟨a, us, h1, n, Like.rd (u := .dK us) trivial (.inl rfl) l k, h4, h4', h5, RepL.imp e h6⟩
    · obtain ⟨n, o', k, l⟩ := e a _ h2 h3
      exact ⟨a, us, h1, n, Like.rd (u := .dK us) trivial (.inr ⟨ob, rfl⟩) l k, h4, h4', h5, RepL.imp e h6⟩
  | .dT ks vs, v, h => by
    rw [Rep] at h ⊢
    obtain ⟨a, us, h1, h2, h3, h4, h4', h5, h6⟩ := h
    rcases h3 with h3 | ⟨ob, h3⟩
    · obtain ⟨n, o', k, l⟩ := e a _ h2 h3
      exact ⟨a, us, h1, n, Like.rd (u := .dT us) trivial (.inl rfl) l k, h4, h4', h5, RepL.imp e h6⟩
    · obtain ⟨n, o', k, l⟩ := e a _ h2 h3
      exact ⟨a, us, h1, n, Like.rd (u := .dT us) trivial (.inr ⟨ob, rfl⟩) l k, h4, h4', h5, RepL.imp e h6⟩
  | .ins C ns vs, v, h => by
    rw [Rep] at h ⊢
    obtain ⟨a, dx, Ca, us, h1, h2, h3, h4, h5, h6, h7, h8, h9⟩ := h
    obtain ⟨n, o1, k, l1⟩ := e a _ h2 h5
    obtain rfl := l1.of (fun z => z) (fun _ _ z => nomatch z)
    obtain ⟨n', o2, k', l2⟩ := e dx _ h3 h6
    obtain rfl := l2.of (fun z => z) (fun _ _ z => nomatch z)
    exact ⟨a, dx, Ca, us, h1, n, n', h4, k, k', h7, h8, RepL.imp e h9⟩
theorem RepL.imp {B B' : Addr → Prop} {H H' : Hp} (e : ∀ a o, ¬ B a → H a = some o → ¬ B' a ∧ ∃ o', H' a = some o' ∧ Like o o') : ∀ {xs : List PV} {us : List V}, RepL mg B H xs us → RepL mg B' H' xs us
  | [], us, h => by rw [RepL] at h ⊢; exact h
  | x :: xs, us, h => by
    rw [RepL] at h ⊢
    obtain ⟨u, t, h1, h2, h3⟩ := h
    exact ⟨u, t, h1, Rep.imp e h2, RepL.imp e h3⟩
end
theorem RepL.len {B : Addr → Prop} {H : Hp} : ∀ {xs : List PV} {us : List V}, RepL mg B H xs us → us.length = xs.length
  | [], us, h => by rw [RepL] at h; rw [h]; rfl
  | x :: xs, us, h => by
    rw [RepL] at h
    obtain ⟨u, t, rfl, _, h3⟩ := h
    rw [List.length_cons, List.length_cons, RepL.len h3]
theorem RepL.at {B : Addr → Prop} {H : Hp} : ∀ {xs : List PV} {us : List V} {i : Nat} {x : PV} {u : V}, RepL mg B H xs us → xs[i]? = some x → us[i]? = some u → Rep mg B H x u
  | [], us, i, d, u, h, h1, _ => by simp at h1
  | e :: ds, us, 0, d, u, h, h1, h2 => by
    rw [RepL] at h
    obtain ⟨u', t, rfl, h3, _⟩ := h
    rw [← Option.some.inj h1, ← Option.some.inj h2]; exact h3
  | e :: ds, us, i + 1, d, u, h, h1, h2 => by
    rw [RepL] at h
    obtain ⟨u', t, rfl, _, h4⟩ := h
    exact RepL.at h4 h1 h2
theorem RepL.get {B : Addr → Prop} {H : Hp} {xs : List PV} {us : List V} {i : Nat} {x : PV} (h : RepL mg B H xs us) (e : xs[i]? = some x) : ∃ u, us[i]? = some u ∧ Rep mg B H x u := by
  have hi : i < us.length := by rw [h.len]; exact (List.getElem?_eq_some_iff.mp e).1
  exact ⟨us[i], List.getElem?_eq_getElem hi, h.at e (List.getElem?_eq_getElem hi)⟩
theorem RepL.append {B : Addr → Prop} {H : Hp} : ∀ {ds es : List PV} {us ws : List V}, RepL mg B H ds us → RepL mg B H es ws → RepL mg B H (ds ++ es) (us ++ ws)
  | [], es, us, ws, h, h' => by rw [RepL] at h; subst h; exact h'
  | d :: ds, es, us, ws, h, h' => by
    rw [RepL] at h
    obtain ⟨u, t, rfl, h2, h3⟩ := h
    show RepL mg B H (d :: (ds ++ es)) (u :: (t ++ ws))
    rw [RepL]
    exact ⟨u, t ++ ws, rfl, h2, RepL.append h3 h'⟩
theorem RepL.nil {B : Addr → Prop} {H : Hp} : RepL mg B H [] [] := by rw [RepL]
theorem RepL.cons {B : Addr → Prop} {H : Hp} {x : PV} {xs : List PV} {u : V} {us : List V} (h : Rep mg B H x u) (t : RepL mg B H xs us) : RepL mg B H (x :: xs) (u :: us) := by rw [RepL]; exact ⟨u, us, rfl, h, t⟩
theorem RepL.of {B : Addr → Prop} {H : Hp} : ∀ {xs : List PV} {us : List V}, us.length = xs.length → (∀ (i : Nat) x u, xs[i]? = some x → us[i]? = some u → Rep mg B H x u) → RepL mg B H xs us
  | [], [], _, _ => RepL.nil
  | [], _ :: _, h, _ => by simp at h
  | _ :: _, [], h, _ => by simp at h
  | x :: xs, u :: us, h, f => RepL.cons (f 0 x u rfl rfl) (RepL.of (by simpa using h) fun i y v h1 h2 => f (i + 1) y v h1 h2)
theorem RepL.snoc {B : Addr → Prop} {H : Hp} {x : PV} {xs : List PV} {u : V} {us : List V} (t : RepL mg B H xs us) (h : Rep mg B H x u) : RepL mg B H (xs ++ [x]) (us ++ [u]) := t.append (RepL.cons h RepL.nil)
theorem RepL.take {B : Addr → Prop} {H : Hp} {xs : List PV} {us : List V} (h : RepL mg B H xs us) (n : Nat) : RepL mg B H (xs.take n) (us.take n) := RepL.of (by simp [h.len]) fun i x u h1 h2 => by
  rw [List.getElem?_take] at h1 h2
  split at h1
  · rename_i q; rw [if_pos q] at h2; exact h.at h1 h2
  · cases h1
theorem RepL.drop {B : Addr → Prop} {H : Hp} {xs : List PV} {us : List V} (h : RepL mg B H xs us) (n : Nat) : RepL mg B H (xs.drop n) (us.drop n) := RepL.of (by simp [h.len]) fun i x u h1 h2 => by
  rw [List.getElem?_drop] at h1 h2
  exact h.at h1 h2
theorem RepL.reverse {B : Addr → Prop} {H : Hp} {xs : List PV} {us : List V} (h : RepL mg B H xs us) : RepL mg B H xs.reverse us.reverse := RepL.of (by simp [h.len]) fun i x u h1 h2 => by
  have hi : i < xs.length := by have := (List.getElem?_eq_some_iff.mp h1).1; simpa using this
  rw [List.getElem?_reverse hi] at h1
  rw [List.getElem?_reverse (by rw [h.len]; exact hi), h.len] at h2
  exact h.at h1 h2
end

/-! ## the world goes on -/
structure Ext (w : Wd) (H : Hp) (w' : Wd) (H' : Hp) : Prop where
  len : w.μ.length ≤ w'.μ.length
  old : ∀ (n : Nat) a, n < w.μ.length → w'.μ[n]? = some (some a) → w.μ[n]? = some (some a)
  gk : w.g = none ∨ w'.g = w.g
  keep : ∀ a o, ¬ w.bad a → H a = some o → ¬ w'.bad a ∧ ∃ o', H' a = some o' ∧ Like o o'
  hid : ∀ a, w.x a → w'.x a ∧ H' a = H a
theorem Ext.refl (w : Wd) (H : Hp) : Ext w H w H := ⟨Nat.le_refl _, fun _ _ _ h => h, .inr rfl, fun _ o n h => ⟨n, o, h, Like.refl o⟩, fun _ h => ⟨h, rfl⟩⟩
theorem Ext.trans {w w1 w2 : Wd} {H H1 H2 : Hp} (a : Ext w H w1 H1) (b : Ext w1 H1 w2 H2) : Ext w H w2 H2 :=
  ⟨Nat.le_trans a.len b.len, fun n x hn h => a.old n x hn (b.old n x (Nat.lt_of_lt_of_le hn a.len) h),
    a.gk.elim .inl fun e => b.gk.elim (fun z => .inl (e ▸ z)) fun z => .inr (z.trans e),
    fun x o n h => let ⟨n1, o1, h1, l1⟩ := a.keep x o n h; let ⟨n2, o2, h2, l2⟩ := b.keep x o1 n1 h1; ⟨n2, o2, h2, l1.trans l2⟩,
    fun x h => let ⟨h1, e1⟩ := a.hid x h; let ⟨h2, e2⟩ := b.hid x h1; ⟨h2, e2.trans e1⟩⟩
theorem Ext.kept {w w' : Wd} {H H' : Hp} (e : Ext w H w' H') {a : Addr} {o : HO} (n : ¬ w.bad a) (h : H a = some o) (hd : ¬ Dic o) (hf : ∀ ob u, o ≠ .frz ob u) : ¬ w'.bad a ∧ H' a = some o := by
  obtain ⟨n1, o1, h1, l⟩ := e.keep a o n h
  obtain rfl := l.of hd hf
  exact ⟨n1, h1⟩

/-- the same, but for what is being made -/
structure Ext0 (w : Wd) (H : Hp) (w' : Wd) (H' : Hp) : Prop where
  len : w.μ.length ≤ w'.μ.length
  old : ∀ (n : Nat) a, n < w.μ.length → w'.μ[n]? = some (some a) → w.μ[n]? = some (some a)
  gk : w.g = none ∨ w'.g = w.g
  keep : ∀ a o, ¬ w.bad a → H a = some o → ¬ w'.bad a ∧ ∃ o', H' a = some o' ∧ Like o o'
theorem Ext.e0 {w w' : Wd} {H H' : Hp} (e : Ext w H w' H') : Ext0 w H w' H' := ⟨e.len, e.old, e.gk, e.keep⟩
theorem Ext0.trans {w w1 w2 : Wd} {H H1 H2 : Hp} (a : Ext0 w H w1 H1) (b : Ext0 w1 H1 w2 H2) : Ext0 w H w2 H2 :=
  ⟨Nat.le_trans a.len b.len, fun n x hn h => a.old n x hn (b.old n x (Nat.lt_of_lt_of_le hn a.len) h),
    a.gk.elim .inl fun e => b.gk.elim (fun z => .inl (e ▸ z)) fun z => .inr (z.trans e),
    fun x o n h => let ⟨n1, o1, h1, l1⟩ := a.keep x o n h; let ⟨n2, o2, h2, l2⟩ := b.keep x o1 n1 h1; ⟨n2, o2, h2, l1.trans l2⟩⟩
theorem Ext0.kept {w w' : Wd} {H H' : Hp} (e : Ext0 w H w' H') {a : Addr} {o : HO} (n : ¬ w.bad a) (h : H a = some o) (hd : ¬ Dic o) (hf : ∀ ob u, o ≠ .frz ob u) : ¬ w'.bad a ∧ H' a = some o := by
  obtain ⟨n1, o1, h1, l⟩ := e.keep a o n h
  obtain rfl := l.of hd hf
  exact ⟨n1, h1⟩
section
variable (mg : Str → Option Value)
def MRep (w : Wd) (H : Hp) : MV → V → Prop
  | .p x, v => Rep mg w.bad H x v
  | .o n, v => n < w.μ.length ∧ ∃ a, v = .ref a ∧ ∀ a', w.μ[n]? = some (some a') → a' = a
  | .g, v => ∃ p, w.g = some p ∧ v = .ref p.1
def MRepL (w : Wd) (H : Hp) : List MV → List V → Prop
  | [], us => us = []
  | x :: xs, us => ∃ u t, us = u :: t ∧ MRep mg w H x u ∧ MRepL w H xs t
def ORep (w : Wd) (H : Hp) (a : Addr) : MO → Prop
  | .lst xs => ∃ us, H a = some (.lst us) ∧ xs.length ≤ sizeLine ∧ MRepL mg w H xs us
  | .dK kvs => ∃ us, H a = some (.dK us) ∧ us.map (·.1) = kvs.map (·.1) ∧ (kvs.map (·.1)).Nodup ∧ kvs.length ≤ sizeLine ∧ MRepL mg w H (kvs.map (·.2)) (us.map (·.2))
  | .dT kvs => ∃ us, H a = some (.dT us) ∧ us.map (·.1) = kvs.map (·.1) ∧ (kvs.map (·.1)).Nodup ∧ kvs.length ≤ sizeLine ∧ MRepL mg w H (kvs.map (·.2)) (us.map (·.2))
  | .ins C fs => ∃ dx Ca us, ¬ w.bad dx ∧ mg C = some (.ref Ca) ∧ H a = some (.ins Ca dx us) ∧ H dx = some (.own a) ∧ us.map (·.1) = fs.map (·.1) ∧ fs.length ≤ 100 ∧ MRepL mg w H (fs.map (·.2)) (us.map (·.2))
def GRep (w : Wd) (H : Hp) : Option Rn → Prop
  | none => w.g = none
  | some r => ∃ a c, w.g = some (a, c) ∧ a ≠ c ∧ H a = some (.lst [.ref c, .int r.stir]) ∧ H c = some (.lst (r.cells.map V.int)) ∧ (∀ x ∈ r.cells, 0 ≤ x) ∧ r.cells.length ≤ 60 ∧ 0 ≤ r.stir ∧ r.stir < 2147483647 ∧
      ∀ n : Nat, w.μ[n]? ≠ some (some a) ∧ w.μ[n]? ≠ some (some c)
structure HR (w : Wd) (s : S) (H : Hp) : Prop where
  len : s.h.length = w.μ.length
  ob : ∀ (n : Nat) o, s.h[n]? = some (some o) → ∃ a, w.μ[n]? = some (some a) ∧ ORep mg w H a o
  inj : ∀ (n m : Nat) a, w.μ[n]? = some (some a) → w.μ[m]? = some (some a) → n = m
  there : ∀ a, w.bad a → H a ≠ none
  ap : ∀ a, w.x a → (∀ n : Nat, w.μ[n]? ≠ some (some a)) ∧ ∀ p, w.g = some p → a ≠ p.1 ∧ a ≠ p.2
  rn : GRep w H s.g
/-- an error: its class, the name of its attribute, the value of it -/
def XR (w : Wd) (H : Hp) (c f : Str) (x : PV) (cls : Value) (d : Option Addr) : Prop := ∃ C dd v, mg c = some (.ref C) ∧ cls = .ref C ∧ d = some dd ∧ ¬ w.bad dd ∧ H dd = some (.xd [(f, v)]) ∧ Rep mg w.bad H x v
end
/-- what an except suite knows: the slot of its error, where it lies, its attribute -/
structure Gx where
  i : Nat
  a : Addr
  dd : Addr
  f : Str
  x : PV
structure Gm where
  mg : Str → Option Value
  ex : Option Gx
instance : Coe Gm (Str → Option Value) := ⟨Gm.mg⟩
def EnvR (mg : Gm) (w : Wd) (H : Hp) (ρ : Env) (σ : L2.St) : Prop := ρ.length = σ.length ∧ (∀ (i : Nat) v, ρ[i]? = some (some v) → ∃ x, σ[i]? = some (some x) ∧ MRep mg w H v x) ∧
  ∀ g, mg.ex = some g → ρ[g.i]? = some none → σ[g.i]? = some (some (.ref g.a)) ∧ ¬ w.bad g.dd ∧ ∃ u, H g.dd = some (.xd [(g.f, u)]) ∧ Rep mg w.bad H g.x u
section
variable {mg : Str → Option Value} {w w' : Wd} {H H' : Hp}
theorem MRep.ext0 (e : Ext0 w H w' H') : ∀ {x : MV} {v : V}, MRep mg w H x v → MRep mg w' H' x v
  | .p x, v, h => Rep.imp e.keep h
  | .o n, v, ⟨hn, a, h1, h2⟩ => ⟨Nat.lt_of_lt_of_le hn e.len, a, h1, fun a' h => h2 a' (e.old n a' hn h)⟩
  | .g, v, ⟨p, h1, h2⟩ => ⟨p, by rcases e.gk with z | z; rw [h1] at z; cases z; rw [z]; exact h1, h2⟩
theorem MRep.ext (e : Ext w H w' H') {x : MV} {v : V} (h : MRep mg w H x v) : MRep mg w' H' x v := h.ext0 e.e0
theorem MRepL.ext0 (e : Ext0 w H w' H') : ∀ {xs : List MV} {us : List V}, MRepL mg w H xs us → MRepL mg w' H' xs us
  | [], _, h => h
  | _ :: _, _, ⟨u, t, h1, h2, h3⟩ => ⟨u, t, h1, h2.ext0 e, MRepL.ext0 e h3⟩
theorem MRepL.ext (e : Ext w H w' H') {xs : List MV} {us : List V} (h : MRepL mg w H xs us) : MRepL mg w' H' xs us := h.ext0 e.e0
theorem MRepL.len : ∀ {xs : List MV} {us : List V}, MRepL mg w H xs us → us.length = xs.length
  | [], _, h => by rw [show _ = [] from h]; rfl
  | _ :: _, _, ⟨u, t, h1, h2, h3⟩ => by rw [h1, List.length_cons, List.length_cons, h3.len]
theorem MRepL.at : ∀ {xs : List MV} {us : List V} {i : Nat} {x : MV} {u : V}, MRepL mg w H xs us → xs[i]? = some x → us[i]? = some u → MRep mg w H x u
  | [], us, i, d, u, h, h1, _ => by simp at h1
  | e :: ds, us, 0, d, u, h, h1, h2 => by
    obtain ⟨u', t, rfl, h3, _⟩ := h
    rw [← Option.some.inj h1, ← Option.some.inj h2]; exact h3
  | e :: ds, us, i + 1, d, u, h, h1, h2 => by
    obtain ⟨u', t, rfl, _, h4⟩ := h
    exact MRepL.at h4 h1 h2
theorem MRepL.get {xs : List MV} {us : List V} {i : Nat} {x : MV} (h : MRepL mg w H xs us) (e : xs[i]? = some x) : ∃ u, us[i]? = some u ∧ MRep mg w H x u := by
  have hi : i < us.length := by rw [h.len]; exact (List.getElem?_eq_some_iff.mp e).1
  exact ⟨us[i], List.getElem?_eq_getElem hi, h.at e (List.getElem?_eq_getElem hi)⟩
theorem MRepL.append : ∀ {ds es : List MV} {us ws : List V}, MRepL mg w H ds us → MRepL mg w H es ws → MRepL mg w H (ds ++ es) (us ++ ws)
  | [], es, us, ws, h, h' => by rw [show us = [] from h]; exact h'
  | d :: ds, es, us, ws, h, h' => by
    obtain ⟨u, t, rfl, h2, h3⟩ := h
    exact ⟨u, t ++ ws, rfl, h2, MRepL.append h3 h'⟩
theorem MRepL.of : ∀ {xs : List MV} {us : List V}, us.length = xs.length → (∀ (i : Nat) x u, xs[i]? = some x → us[i]? = some u → MRep mg w H x u) → MRepL mg w H xs us
  | [], [], _, _ => rfl
  | [], _ :: _, h, _ => by simp at h
  | _ :: _, [], h, _ => by simp at h
  | x :: xs, u :: us, h, f => ⟨u, us, rfl, f 0 x u rfl rfl, MRepL.of (by simpa using h) fun i y v h1 h2 => f (i + 1) y v h1 h2⟩
theorem MRepL.snoc {x : MV} {xs : List MV} {u : V} {us : List V} (t : MRepL mg w H xs us) (h : MRep mg w H x u) : MRepL mg w H (xs ++ [x]) (us ++ [u]) := t.append ⟨u, [], rfl, h, rfl⟩
theorem MRepL.ofP {xs : List PV} {us : List V} (h : RepL mg w.bad H xs us) : MRepL mg w H (xs.map MV.p) us := MRepL.of (by rw [h.len, List.length_map]) fun i x u h1 h2 => by
  rw [List.getElem?_map] at h1
  obtain ⟨y, h3, rfl⟩ := Option.map_eq_some_iff.mp h1
  exact h.at h3 h2
theorem MRepL.toP {xs : List PV} {us : List V} (h : MRepL mg w H (xs.map MV.p) us) : RepL mg w.bad H xs us := RepL.of (by rw [h.len, List.length_map]) fun i x u h1 h2 =>
  h.at (x := MV.p x) (by rw [List.getElem?_map, h1]; rfl) h2
section
variable {mg : Gm}
theorem EnvR.ext0 {ρ : Env} {σ : L2.St} (h : EnvR mg w H ρ σ) (e : Ext0 w H w' H') : EnvR mg w' H' ρ σ := ⟨h.1, fun i v hv => let ⟨x, h1, h2⟩ := h.2.1 i v hv; ⟨x, h1, h2.ext0 e⟩, fun g hg hn => by
  obtain ⟨h1, h2, u, h3, h4⟩ := h.2.2 g hg hn
  obtain ⟨k1, k2⟩ := e.kept h2 h3 (fun z => z) (fun _ _ z => nomatch z)
  exact ⟨h1, k1, u, k2, h4.imp e.keep⟩⟩
theorem EnvR.ext {ρ : Env} {σ : L2.St} (h : EnvR mg w H ρ σ) (e : Ext w H w' H') : EnvR mg w' H' ρ σ := h.ext0 e.e0
theorem EnvR.set {ρ : Env} {σ : L2.St} (h : EnvR mg w H ρ σ) {v : MV} {x : V} (r : MRep mg w H v x) (i : Nat) : EnvR mg w H (ρ.set i (some v)) (σ.set i (some x)) := by
  refine ⟨by simp [h.1], fun j u hu => ?_, fun g hg hn => ?_⟩
  · by_cases e : j = i
    · subst e
      have hj : j < ρ.length := by have := (List.getElem?_eq_some_iff.mp hu).1; simpa using this
      rw [List.getElem?_set_self hj] at hu
      cases hu
      exact ⟨x, List.getElem?_set_self (by rw [← h.1]; exact hj), r⟩
    · rw [List.getElem?_set_ne (Ne.symm e)] at hu ⊢
      exact h.2.1 j u hu
  · by_cases e : g.i = i
    · subst e
      have hj : g.i < ρ.length := by have := (List.getElem?_eq_some_iff.mp hn).1; simpa using this
      rw [List.getElem?_set_self hj] at hn
      cases hn
    · rw [List.getElem?_set_ne (Ne.symm e)] at hn ⊢
      exact h.2.2 g hg hn
theorem EnvR.unset {ρ : Env} {σ : L2.St} (hx : mg.ex = none) (h : EnvR mg w H ρ σ) (i : Nat) (o : Option V) : EnvR mg w H (ρ.set i none) (σ.set i o) := by
  refine ⟨by simp [h.1], fun j u hu => ?_, fun g hg => by rw [hx] at hg; cases hg⟩
  by_cases e : j = i
  · subst e
    have hj : j < ρ.length := by have := (List.getElem?_eq_some_iff.mp hu).1; simpa using this
    rw [List.getElem?_set_self hj] at hu
    cases hu
  · rw [List.getElem?_set_ne (Ne.symm e)] at hu ⊢
    exact h.2.1 j u hu
end
theorem ORep.ext {a : Addr} (e : Ext w H w' H') (k : H' a = H a) : ∀ {o : MO}, ORep mg w H a o → ORep mg w' H' a o
  | .lst xs, ⟨us, h1, h2, h3⟩ => ⟨us, k.trans h1, h2, h3.ext e⟩
  | .dK kvs, ⟨us, h1, h2, h3, h4, h5⟩ => ⟨us, k.trans h1, h2, h3, h4, h5.ext e⟩
  | .dT kvs, ⟨us, h1, h2, h3, h4, h5⟩ => ⟨us, k.trans h1, h2, h3, h4, h5.ext e⟩
  | .ins C fs, ⟨dx, Ca, us, h1, h2, h3, h4, h5, h6, h7⟩ => ⟨dx, Ca, us, (e.kept h1 h4 (fun z => z) (fun _ _ z => nomatch z)).1, h2, k.trans h3, (e.kept h1 h4 (fun z => z) (fun _ _ z => nomatch z)).2, h5, h6, h7.ext e⟩
/-- a new object that never changes -/
theorem Ext.new {s : S} (hr : HR mg w s H) {p : Addr} (h : H p = none) (o : HO) : Ext w H w (upd H p o) ∧ HR mg w s (upd H p o) ∧ ¬ w.bad p := by
  have nb : ¬ w.bad p := fun b => hr.there p b h
  have e : Ext w H w (upd H p o) := ⟨Nat.le_refl _, fun _ _ _ h => h, .inr rfl, fun a u n q => ⟨n, u, by rw [upd_ne (ne_of_none q h)]; exact q, Like.refl u⟩, fun a hx => ⟨hx, upd_ne fun z => nb (z ▸ .inr (.inr hx))⟩⟩
  have k : ∀ a, w.bad a → upd H p o a = H a := fun a b => upd_ne fun z => nb (z ▸ b)
  refine ⟨e, ⟨hr.len, fun n u q => ?_, hr.inj, fun a b => by rw [k a b]; exact hr.there a b, hr.ap, ?_⟩, nb⟩
  · obtain ⟨a, h1, h2⟩ := hr.ob n u q
    exact ⟨a, h1, h2.ext e (k a (.inl ⟨n, h1⟩))⟩
  · have := hr.rn
    revert this
    cases s.g with
    | none => exact fun h => h
    | some r =>
      rintro ⟨a, c, h1, h2, h3, h4, h5⟩
      exact ⟨a, c, h1, h2, by rw [k a (.inr (.inl ⟨_, h1, .inl rfl⟩))]; exact h3, by rw [k c (.inr (.inl ⟨_, h1, .inr rfl⟩))]; exact h4, h5⟩
end

/-! ## readings that say what a program of this language does -/
section
def CE (mg : Str → Option Value) {α β : Type} (R : Wd → Hp → α → β → Prop) (X : XK) (w : Wd) (H : Hp) (r : Res α) (Q : β → Hp → Prop) : Prop := match r with
  | .ok a s' => ∀ w' b H', Ext w H w' H' → HR mg w' s' H' → R w' H' a b → Q b H'
  | .exc c f x s' => ∀ w' cls d H', Ext w H w' H' → HR mg w' s' H' → XR mg w' H' c f x cls d → X cls d H'
  | .no => False
def RB : Wd → Hp → Bool → Bool → Prop := fun _ _ a b => b = a
variable (mg : Gm)
def tM (W : WX) (m : E MV) : TE := fun σ H Q => ∃ w ρ s, EnvR mg w H ρ σ ∧ HR mg w s H ∧ CE mg (MRep mg) (fun c d H => W c d σ H) w H (m ρ s) Q
def tMB (W : WX) (m : E Bool) : TT := fun σ H Q => ∃ w ρ s, EnvR mg w H ρ σ ∧ HR mg w s H ∧ CE mg RB (fun c d H => W c d σ H) w H (m ρ s) Q
def tML (W : WX) (m : E (List MV)) : TA := fun σ H Q => ∃ w ρ s, EnvR mg w H ρ σ ∧ HR mg w s H ∧ CE mg (MRepL mg) (fun c d H => W c d σ H) w H (m ρ s) Q
def CS (W : WX) (w : Wd) (H : Hp) (r : SR) (D : Ends) : Prop := match r with
  | .nx ρ' s' => ∀ w' σ' H', Ext w H w' H' → HR mg w' s' H' → EnvR mg w' H' ρ' σ' → D.nx σ' H'
  | .rt v s' => ∀ w' x H', Ext w H w' H' → HR mg w' s' H' → MRep mg w' H' v x → D.rt x H'
  | .bk ρ' s' => ∀ w' σ' H', Ext w H w' H' → HR mg w' s' H' → EnvR mg w' H' ρ' σ' → D.bk σ' H'
  | .ct ρ' s' => ∀ w' σ' H', Ext w H w' H' → HR mg w' s' H' → EnvR mg w' H' ρ' σ' → D.ct σ' H'
  | .exc c f x ρ' s' => ∀ w' cls d σ' H', Ext w H w' H' → HR mg w' s' H' → EnvR mg w' H' ρ' σ' → XR mg w' H' c f x cls d → W cls d σ' H'
  | .no => False
def tMS (W : WX) (m : ST) : TS := fun D σ H => ∃ w ρ s, EnvR mg w H ρ σ ∧ HR mg w s H ∧ CS mg W w H (m ρ s) D
end
section
variable {mg : Str → Option Value} {w w' : Wd} {H H' : Hp} {α β γ δ : Type} {R : Wd → Hp → α → β → Prop} {R2 : Wd → Hp → γ → δ → Prop} {X X' : XK} {r : Res α} {Q Q' : β → Hp → Prop}
theorem CE.mono (h : CE mg R X w H r Q) (e : ∀ b H', Q b H' → Q' b H') : CE mg R X w H r Q' := by
  cases r with
  | ok a s => exact fun w' b H' h1 h2 h3 => e _ _ (h w' b H' h1 h2 h3)
  | exc c f x s => exact h
  | no => exact h
theorem CE.from (e : Ext w H w' H') (h : CE mg R X w H r Q) : CE mg R X w' H' r Q := by
  cases r with
  | ok a s => exact fun w2 b H2 h1 h2 h3 => h w2 b H2 (e.trans h1) h2 h3
  | exc c f x s => exact fun w2 b d H2 h1 h2 h3 => h w2 b d H2 (e.trans h1) h2 h3
  | no => exact h
theorem CS.from {mg : Gm} {W : WX} {r : SR} {D : Ends} (e : Ext w H w' H') (h : CS mg W w H r D) : CS mg W w' H' r D := by
  cases r with
  | no => exact h
  | nx => exact fun w2 b H2 h1 h2 h3 => h w2 b H2 (e.trans h1) h2 h3
  | rt => exact fun w2 b H2 h1 h2 h3 => h w2 b H2 (e.trans h1) h2 h3
  | bk => exact fun w2 b H2 h1 h2 h3 => h w2 b H2 (e.trans h1) h2 h3
  | ct => exact fun w2 b H2 h1 h2 h3 => h w2 b H2 (e.trans h1) h2 h3
  | exc => exact fun w2 b d σ' H2 h1 h2 h3 h4 => h w2 b d σ' H2 (e.trans h1) h2 h3 h4
theorem CE.bind {f : α → S → Res γ} {Q : δ → Hp → Prop} (h : CE mg R2 X w H (r.bind f) Q) :
    CE mg R X w H r (fun b H1 => ∃ a s1 w1, Ext w H w1 H1 ∧ HR mg w1 s1 H1 ∧ R w1 H1 a b ∧ CE mg R2 X w1 H1 (f a s1) Q) := by
  cases r with
  | ok a s => exact fun w' b H' h1 h2 h3 => ⟨a, s, w', h1, h2, h3, CE.from h1 h⟩
  | exc c f x s => exact h
  | no => exact h
end
end MP

/-! ## AFm -/
set_option Elab.async false
set_option linter.all false
set_option maxRecDepth 100000
namespace AK
open PySem PySem.Spec PyProof.Rows L2

/-! ## formulas as data -/
inductive Fm where
  | kind (n : Str)
  | many (m : Int) (f : Fm)
  | node (w : Bool) (fs : List Fm)
mutual
def Fm.depth : Fm → Nat
  | .kind _ => 1
  | .many _ f => f.depth + 1
  | .node _ fs => Fm.depthL fs + 1
def Fm.depthL : List Fm → Nat
  | [] => 0
  | f :: fs => max f.depth (Fm.depthL fs)
end
mutual
def Fm.names : Fm → List Str
  | .kind n => [n]
  | .many _ f => f.names
  | .node _ fs => Fm.namesL fs
def Fm.namesL : List Fm → List Str
  | [] => []
  | f :: fs => f.names ++ Fm.namesL fs
end
theorem Fm.namesL_flat : ∀ fs : List Fm, Fm.namesL fs = fs.flatMap Fm.names
  | [] => rfl
  | f :: fs => by rw [Fm.namesL, List.flatMap_cons, Fm.namesL_flat fs]
theorem Fm.depthL_mem : ∀ {fs : List Fm} {f : Fm}, f ∈ fs → f.depth ≤ Fm.depthL fs
  | [], _, h => by simp at h
  | g :: fs, f, h => by
    rw [Fm.depthL]
    rcases List.mem_cons.mp h with rfl | h
    · exact Nat.le_max_left _ _
    · exact Nat.le_trans (Fm.depthL_mem h) (Nat.le_max_right _ _)
def wordOf (w : Bool) : Str := if w then "and" else "or"
mutual
def FrmV (H : Hp) : Fm → V → Prop
  | .kind n, v => ∃ a, v = .ref a ∧ H a = some (.tup [.str "kind", .str n])
  | .many m f, v => ∃ a u, v = .ref a ∧ H a = some (.tup [.str "many", .int m, u]) ∧ FrmV H f u
  | .node w fs, v => ∃ a p us, v = .ref a ∧ H a = some (.tup [.str (wordOf w), .ref p]) ∧ H p = some (.tup us) ∧ FrmL H fs us
def FrmL (H : Hp) : List Fm → List V → Prop
  | [], us => us = []
  | f :: fs, us => ∃ u r, us = u :: r ∧ FrmV H f u ∧ FrmL H fs r
end
mutual
theorem FrmV.imm {H H' : Hp} (e : Imm H H') : ∀ {f : Fm} {v : V}, FrmV H f v → FrmV H' f v
  | .kind n, v, h => by
    rw [FrmV] at h ⊢
    obtain ⟨a, e1, e2⟩ := h
    exact ⟨a, e1, e _ _ e2⟩
  | .many m f, v, h => by
    rw [FrmV] at h ⊢
    obtain ⟨a, u, e1, e2, e3⟩ := h
    exact ⟨a, u, e1, e _ _ e2, FrmV.imm e e3⟩
  | .node w fs, v, h => by
    rw [FrmV] at h ⊢
    obtain ⟨a, p, us, e1, e2, e3, e4⟩ := h
    exact ⟨a, p, us, e1, e _ _ e2, e _ _ e3, FrmL.imm e e4⟩
theorem FrmL.imm {H H' : Hp} (e : Imm H H') : ∀ {fs : List Fm} {us : List V}, FrmL H fs us → FrmL H' fs us
  | [], us, h => by rw [FrmL] at h ⊢; exact h
  | f :: fs, us, h => by
    rw [FrmL] at h ⊢
    obtain ⟨u, r, e1, e2, e3⟩ := h
    exact ⟨u, r, e1, FrmV.imm e e2, FrmL.imm e e3⟩
end
theorem FrmL.len {H : Hp} : ∀ {fs : List Fm} {us : List V}, FrmL H fs us → us.length = fs.length
  | [], us, h => by rw [FrmL] at h; rw [h]; rfl
  | f :: fs, us, h => by
    rw [FrmL] at h
    obtain ⟨u, r, rfl, _, e3⟩ := h
    rw [List.length_cons, List.length_cons, FrmL.len e3]
theorem FrmL.at {H : Hp} : ∀ {fs : List Fm} {us : List V} {i : Nat} {f : Fm} {u : V}, FrmL H fs us → fs[i]? = some f → us[i]? = some u → FrmV H f u
  | [], us, i, f, u, h, h1, h2 => by simp at h1
  | g :: fs, us, 0, f, u, h, h1, h2 => by
    rw [FrmL] at h
    obtain ⟨u', r, rfl, e2, e3⟩ := h
    have a1 : g = f := Option.some.inj h1
    have a2 : u' = u := Option.some.inj h2
    rw [← a1, ← a2]; exact e2
  | g :: fs, us, i + 1, f, u, h, h1, h2 => by
    rw [FrmL] at h
    obtain ⟨u', r, rfl, e2, e3⟩ := h
    exact FrmL.at e3 h1 h2
theorem FrmL.of {H : Hp} : ∀ {fs : List Fm} {us : List V}, us.length = fs.length → (∀ (i : Nat) (f : Fm) (u : V), fs[i]? = some f → us[i]? = some u → FrmV H f u) → FrmL H fs us
  | [], us, h, _ => by rw [FrmL]; exact List.length_eq_zero_iff.mp h
  | f :: fs, [], h, _ => by simp at h
  | f :: fs, u :: us, h, q => by
    rw [FrmL]
    exact ⟨u, us, rfl, q 0 f u rfl rfl, FrmL.of (by simpa using h) fun i f u h1 h2 => q (i + 1) f u h1 h2⟩
theorem FrmL.append {H : Hp} {fs gs : List Fm} {us ws : List V} (h : FrmL H fs us) (h' : FrmL H gs ws) : FrmL H (fs ++ gs) (us ++ ws) := by
  refine FrmL.of (by rw [List.length_append, List.length_append, h.len, h'.len]) fun i f u h1 h2 => ?_
  by_cases hi : i < fs.length
  · rw [List.getElem?_append_left hi] at h1
    rw [List.getElem?_append_left (by rw [h.len]; exact hi)] at h2
    exact h.at h1 h2
  · rw [List.getElem?_append_right (by omega)] at h1
    rw [List.getElem?_append_right (by rw [h.len]; omega), h.len] at h2
    exact h'.at h1 h2

/-! ## comprehensions over a tuple that stands for data -/
section
variable {K : PySem.W.Frag} {σ : L2.St} {H : Hp} {te : TE} {vs : List Nat} {j : Nat} {a : Addr} {us : List V} {Qd : Addr → Hp → Prop} {α : Type} {L : List α}
theorem v_lcTD (r : Rg) (hx : H a = some (.tup us)) (hl : us.length = L.length) (gd : Good r H) (f : α → V) (hn : L.length ≤ 1000000)
    (hw : ∀ x, wipe ((wipe σ vs).set j (some x)) vs = wipe σ vs)
    (hs : ∀ (i : Nat) (x : V) (d : α) (H2 : Hp) (Qn : VK), us[i]? = some x → L[i]? = some d → Fr r H H2 → (∀ H3, Fr r H2 H3 → Qn (f d) H3) → te ((wipe σ vs).set j (some x)) H2 Qn)
    (hd : ∀ D H2, H D = none → Fr r H H2 → H2 D = some (.lst (L.map f)) → Qd D H2) :
    ∃ a', V.ref a = .ref a' ∧ (∃ xs, SqT K H a' xs) ∧ ∀ D, H D = none → ∃ W : Nat → Nat → Hp → Prop, (∃ m, W 0 m (upd H D (.lst []))) ∧ ∀ i m H, W i m H →
      ((Itt K a').stop i H ∧ Qd D H) ∨ ((Itt K a').go i H ∧ ∃ Nx : Hp → Prop, (∀ H', Nx H' → ∃ m', m' < m ∧ W (i + 1) m' H') ∧ ∀ x H', (Itt K a').yld i H x H' → gName j x (wipe σ vs) H' fun σ2 H2 => wipe σ2 vs = wipe σ vs ∧ tYes σ2 H2 fun b H3 =>
        if b = true then te σ2 H3 fun y H4 => ∃ acc, H4 D = some (.lst acc) ∧ acc.length < sizeLine ∧ Nx (upd H4 D (.lst (acc ++ [y]))) else Nx H3) :=
  ⟨a, rfl, ⟨_, SqT.of hx⟩, fun D hD => lc_tupR hx gd hD (fun i v _ => ∃ d, L[i]? = some d ∧ v = f d) (fun _ _ _ _ _ h => h) (by rw [hl]; exact hn) hw
    (fun i x H2 Qn hi fr q => by
      have h1 : i < L.length := by rw [← hl]; exact (List.getElem?_eq_some_iff.mp hi).1
      exact hs i x L[i] H2 Qn hi (List.getElem?_eq_getElem h1) fr fun H3 f3 => q _ H3 f3 ⟨_, List.getElem?_eq_getElem h1, rfl⟩)
    (fun ys H2 fr e2 hl2 hr => hd D H2 hD fr (by
      rw [e2, map_of_at (ys := ys) (xs := L) (f := f) (by rw [hl2, hl]) fun i x y h1 h2 => by obtain ⟨x', h3, h4⟩ := hr i y h2; rw [h1] at h3; cases h3; exact h4]))⟩
/-- [y for x in t for y in l(x)]: the lists put together -/
theorem v_lc2TD {tl1 : TE} {j1 : Nat} {vs1 : List Nat} (r : Rg) (hx : H a = some (.tup us)) (hl : us.length = L.length) (gd : Good r H) (f : α → List V) (hn : (L.flatMap f).length ≤ 1000000)
    (hw : ∀ x, wipe ((wipe σ vs).set j (some x)) vs = wipe σ vs) (hw1 : ∀ x y, wipe ((wipe ((wipe σ vs).set j (some x)) vs1).set j1 (some y)) vs1 = wipe ((wipe σ vs).set j (some x)) vs1)
    (hj : ∀ x y, ((wipe ((wipe σ vs).set j (some x)) vs1).set j1 (some y))[j1]? = some (some y))
    (hs : ∀ (i : Nat) (x : V) (d : α) (H2 : Hp) (Qn : VK), us[i]? = some x → L[i]? = some d → Fr r H H2 → (∀ p H3, H2 p = none → Fr r H2 H3 → H3 p = some (.lst (f d)) → Qn (.ref p) H3) → tl1 ((wipe σ vs).set j (some x)) H2 Qn)
    (hd : ∀ D H2, H D = none → Fr r H H2 → H2 D = some (.lst (L.flatMap f)) → Qd D H2) :
    ∃ a', V.ref a = .ref a' ∧ (∃ xs, SqT K H a' xs) ∧ ∀ D, H D = none → ∃ W : Nat → Nat → Hp → Prop, (∃ m, W 0 m (upd H D (.lst []))) ∧ ∀ i m H, W i m H →
      ((Itt K a').stop i H ∧ Qd D H) ∨ ((Itt K a').go i H ∧ ∃ Nx : Hp → Prop, (∀ H', Nx H' → ∃ m', m' < m ∧ W (i + 1) m' H') ∧ ∀ x H', (Itt K a').yld i H x H' → gName j x (wipe σ vs) H' fun σ2 H2 => wipe σ2 vs = wipe σ vs ∧ tYes σ2 H2 fun b H3 =>
        if b = true then iList K tl1 σ2 H3 fun J1 H4 => ∃ W1 : Nat → Nat → Hp → Prop, (∃ m, W1 0 m H4) ∧ ∀ j k H, W1 j k H →
          (J1.stop j H ∧ Nx H) ∨ (J1.go j H ∧ ∃ Nx1 : Hp → Prop, (∀ H', Nx1 H' → ∃ k', k' < k ∧ W1 (j + 1) k' H') ∧ ∀ x H', J1.yld j H x H' → gName j1 x (wipe σ2 vs1) H' fun σ3 H5 => wipe σ3 vs1 = wipe σ2 vs1 ∧ tYes σ3 H5 fun b H6 =>
            if b = true then tVar j1 σ3 H6 fun y H7 => ∃ acc, H7 D = some (.lst acc) ∧ acc.length < sizeLine ∧ Nx1 (upd H7 D (.lst (acc ++ [y]))) else Nx1 H6)
        else Nx H3) := by
  refine ⟨a, rfl, ⟨_, SqT.of hx⟩, fun D hD => ?_⟩
  have hoff : Off r D := Off.new gd hD
  have hlen : ∀ i, ((L.take i).flatMap f).length ≤ 1000000 := fun i => by
    have e : L.flatMap f = (L.take i).flatMap f ++ (L.drop i).flatMap f := by rw [← List.flatMap_append, List.take_append_drop]
    rw [e, List.length_append] at hn
    omega
  refine ⟨fun i m H' => m = us.length - i ∧ i ≤ us.length ∧ Fr r H H' ∧ H' D = some (.lst ((L.take i).flatMap f)), ⟨us.length, by omega, Nat.zero_le _, Fr.new gd hD, by rw [upd_same]; rfl⟩, ?_⟩
  rintro i m H1 ⟨rfl, hi, fr, eD⟩
  by_cases hlt : i < us.length
  · have hlt2 : i < L.length := by rw [← hl]; exact hlt
    refine .inr ⟨⟨us, us[i], SqT.of (fr.tup hx), List.getElem?_eq_getElem hlt⟩, fun H' => Fr r H H' ∧ H' D = some (.lst ((L.take (i + 1)).flatMap f)), fun H' p => ⟨us.length - (i + 1), by omega, rfl, hlt, p.1, p.2⟩, fun x H' y => ?_⟩
    obtain ⟨rfl, hy⟩ := y
    have ex : us[i]? = some x := hy us (SqT.of (fr.tup hx))
    have ed : L[i]? = some L[i] := List.getElem?_eq_getElem hlt2
    have et : (L.take (i + 1)).flatMap f = (L.take i).flatMap f ++ f L[i] := by rw [List.take_add_one, ed, Option.toList_some, List.flatMap_append, List.flatMap_singleton]
    refine ⟨hw x, ?_⟩
    refine v_yes ?_
    refine hs i x L[i] _ _ ex ed fr fun p H3 np f3 ep => ?_
    have pD : p ≠ D := fun z => by rw [z, eD] at np; cases np
    have op : Off r p := Off.new fr.good' np
    refine ⟨p, rfl, ⟨_, SqL.of ep⟩, ?_⟩
    refine ⟨fun k m H' => m = (f L[i]).length - k ∧ k ≤ (f L[i]).length ∧ Fr r H H' ∧ H' p = some (.lst (f L[i])) ∧ H' D = some (.lst ((L.take i).flatMap f ++ (f L[i]).take k)),
      ⟨(f L[i]).length, by omega, Nat.zero_le _, fr.trans f3, ep, by rw [f3.lst hoff eD, List.take_zero, List.append_nil]⟩, ?_⟩
    rintro k m H4 ⟨rfl, hk, f4, ep4, eD4⟩
    by_cases hkl : k < (f L[i]).length
    · refine .inr ⟨⟨_, (f L[i])[k], SqL.of ep4, List.getElem?_eq_getElem hkl⟩, fun H' => Fr r H H' ∧ H' p = some (.lst (f L[i])) ∧ H' D = some (.lst ((L.take i).flatMap f ++ (f L[i]).take (k + 1))),
        fun H' q => ⟨(f L[i]).length - (k + 1), by omega, rfl, hkl, q.1, q.2.1, q.2.2⟩, fun y H5 hy5 => ?_⟩
      obtain ⟨rfl, hy5⟩ := hy5
      have ey : (f L[i])[k]? = some y := hy5 _ (SqL.of ep4)
      refine ⟨hw1 x y, ?_⟩
      refine v_yes ?_
      have hle := hlen (i + 1)
      rw [et, List.length_append] at hle
      have hmin : ((f L[i]).take k).length ≤ (f L[i]).length := by rw [List.length_take]; omega
      refine ⟨y, hj x y, _, eD4, ?_, f4.mut hD, ?_, ?_⟩
      · rw [List.length_append]
        exact Nat.lt_of_le_of_lt (show _ ≤ 1000000 by omega) (by decide)
      · rw [upd_ne pD]; exact ep4
      · rw [upd_same, List.append_assoc, List.take_add_one, ey]
        rfl
    · have ek : k = (f L[i]).length := by omega
      subst ek
      refine .inl ⟨⟨_, SqL.of ep4, Nat.le_refl _⟩, f4, ?_⟩
      rw [et, eD4, List.take_length]
  · have ei : i = us.length := by omega
    subst ei
    refine .inl ⟨⟨us, SqT.of (fr.tup hx), Nat.le_refl _⟩, ?_⟩
    refine hd D H1 hD fr ?_
    rw [eD, hl, List.take_length]
end
end AK

/-! ## AShare -/
set_option Elab.async false
set_option linter.all false
set_option maxRecDepth 100000
namespace AK
open PySem PySem.Spec PyProof.Rows L2
/-! ## shares, as the program reckons them -/
def allSame (l : List Int) : Bool := l.all fun a => decide (a = l.headD 0)
mutual
def Fm.share (x : Str → Int) : Fm → Option Int
  | .kind n => some (x n)
  | .many m f => match f.share x with
    | none => none
    | some i => if 0 < i % m then none else some (i / m)
  | .node w fs => match Fm.shareL x fs with
    | none => none
    | some l => if w = true then (if allSame l = true then some (l.headD 0) else none) else some l.sum
def Fm.shareL (x : Str → Int) : List Fm → Option (List Int)
  | [] => some []
  | f :: fs => match f.share x, Fm.shareL x fs with
    | some a, some l => some (a :: l)
    | _, _ => none
end
mutual
def Fm.ok : Fm → Prop
  | .kind _ => True
  | .many m f => 2 ≤ m ∧ m ≤ 60 ∧ f.ok
  | .node _ fs => fs ≠ [] ∧ fs.length ≤ 1000 ∧ Fm.okL fs
def Fm.okL : List Fm → Prop
  | [] => True
  | f :: fs => f.ok ∧ Fm.okL fs
end
theorem Fm.okL_mem : ∀ {fs : List Fm} {f : Fm}, Fm.okL fs → f ∈ fs → f.ok
  | [], _, _, h => by simp at h
  | g :: fs, f, h, m => by
    rw [Fm.okL] at h
    rcases List.mem_cons.mp m with rfl | m
    · exact h.1
    · exact Fm.okL_mem h.2 m
theorem Fm.names_mem {fs : List Fm} {f : Fm} {n : Str} (h : f ∈ fs) (hn : n ∈ f.names) : n ∈ Fm.namesL fs := by
  rw [Fm.namesL_flat]; exact List.mem_flatMap.mpr ⟨f, h, hn⟩
def ov : Option Int → V
  | none => .non
  | some i => .int i
theorem ov_non {o : Option Int} : ov o = .non ↔ o = none := by
  cases o with
  | none => exact ⟨fun _ => rfl, fun _ => rfl⟩
  | some i => exact ⟨fun h => (by cases h), fun h => (by cases h)⟩
theorem Fm.shareL_none (x : Str → Int) : ∀ fs : List Fm, Fm.shareL x fs = none → (fs.map fun g => decide (ov (g.share x) = V.non)).any id = true
  | [], h => by rw [Fm.shareL] at h; cases h
  | f :: fs, h => by
    rw [List.map_cons, List.any_cons]
    cases e : f.share x with
    | none => rfl
    | some a =>
      rw [Fm.shareL, e] at h
      cases e2 : Fm.shareL x fs with
      | none => rw [Fm.shareL_none x fs e2, Bool.or_true]
      | some l => rw [e2] at h; cases h
theorem Fm.shareL_some (x : Str → Int) : ∀ (fs : List Fm) (l : List Int), Fm.shareL x fs = some l → (fs.map fun g => decide (ov (g.share x) = V.non)).any id = false ∧ (fs.map fun g => ov (g.share x)) = l.map V.int
  | [], l, h => by rw [Fm.shareL] at h; cases h; exact ⟨rfl, rfl⟩
  | f :: fs, l, h => by
    rw [Fm.shareL] at h
    cases e : f.share x with
    | none => rw [e] at h; cases h
    | some a =>
      cases e2 : Fm.shareL x fs with
      | none => rw [e, e2] at h; cases h
      | some l' =>
        rw [e, e2] at h
        cases h
        obtain ⟨h1, h2⟩ := Fm.shareL_some x fs l' e2
        refine ⟨?_, ?_⟩
        · rw [List.map_cons, List.any_cons, h1, e]; rfl
        · rw [List.map_cons, List.map_cons, h2, e]; rfl
theorem Fm.shareL_len (x : Str → Int) {fs : List Fm} {l : List Int} (h : Fm.shareL x fs = some l) : l.length = fs.length := by
  have := congrArg List.length (Fm.shareL_some x fs l h).2
  rw [List.length_map, List.length_map] at this
  exact this.symm
theorem minmax_same {l : List Int} {a b : Int} (ha : a ∈ l) (hb : b ∈ l) (h1 : ∀ y, y ∈ l → a ≤ y) (h2 : ∀ y, y ∈ l → y ≤ b) : (a = b) ↔ allSame l = true := by
  unfold allSame
  rw [List.all_eq_true]
  have hd : l.headD 0 ∈ l := by
    cases l with
    | nil => simp at ha
    | cons x r => exact List.mem_cons_self
  constructor
  · intro e y hy
    have p1 := h1 y hy; have p2 := h2 y hy; have p3 := h1 _ hd; have p4 := h2 _ hd
    exact decide_eq_true (by omega)
  · intro q
    have p1 := of_decide_eq_true (q a ha); have p2 := of_decide_eq_true (q b hb)
    omega
end AK

/-! ## ADict -/
set_option Elab.async false
set_option linter.all false
set_option maxRecDepth 100000
namespace AK
open PySem PySem.Spec PyProof.Rows L2
/-! ## sorted names -/
def SrtS (l : List Str) : Prop := l.Pairwise fun a b => ¬ b.cps.toList < a.cps.toList
theorem rising_pairwise : ∀ (p : Str) (l : List Str), risingS p l = true → SrtS (p :: l)
  | p, [], _ => List.pairwise_singleton _ _
  | p, x :: r, h => by
    have h' : (!ltCps x.cps.toList p.cps.toList && risingS x r) = true := h
    rw [Bool.and_eq_true] at h'
    have ih := rising_pairwise x r h'.2
    have h1 : ¬ x.cps.toList < p.cps.toList := by
      have := h'.1
      rw [ltCps_eq] at this
      intro z
      rw [decide_eq_true z] at this
      cases this
    refine List.pairwise_cons.mpr ⟨fun y hy => ?_, ih⟩
    rcases List.mem_cons.mp hy with rfl | hy
    · exact h1
    · have h2 := (List.pairwise_cons.mp ih).1 y hy
      have a1 : p.cps.toList ≤ x.cps.toList := List.not_lt.mp h1
      have a2 : x.cps.toList ≤ y.cps.toList := List.not_lt.mp h2
      exact List.not_lt.mpr (List.le_trans a1 a2)
theorem srtS_of : ∀ {l : List Str}, sortedS l = true → SrtS l
  | [], _ => List.Pairwise.nil
  | x :: r, h => rising_pairwise x r h
theorem Str.ext_list {a b : Str} (h : a.cps.toList = b.cps.toList) : a = b := by
  cases a; cases b
  have : (_ : Array Nat) = _ := Array.toList_inj.mp h
  simp only at this
  rw [this]
theorem srtS_eq {l m : List Str} (h1 : SrtS l) (h2 : SrtS m) (hp : l.Perm m) : l = m :=
  List.Perm.eq_of_pairwise (fun a b _ _ p q => Str.ext_list (List.le_antisymm (List.not_lt.mp p) (List.not_lt.mp q))) h1 h2 hp
/-- the kinds of a formula, in order -/
def Kinds (fm : Fm) (ks : List Str) : Prop := ks.Perm fm.names ∧ SrtS ks
theorem Kinds.eq {fm : Fm} {ks ls : List Str} (h : Kinds fm ks) (h' : Kinds fm ls) : ks = ls := srtS_eq h.2 h'.2 (h.1.trans h'.1.symm)
theorem v_sortedS {K : PySem.W.Frag} {H : Hp} {Q : VK} {a : Addr} {xs : List Str} (h : H a = some (.lst (xs.map V.str))) (hl : xs.length < 64) (q : ∀ ys p H', ys.Perm xs → SrtS ys → H p = none → Same H H' → H' p = some (.lst (ys.map V.str)) → Q (.ref p) H') : rSortedS K [.ref a] H Q :=
  ⟨a, xs, rfl, SqL.of h, hl, fun ys p hp hs np => q ys p _ hp (srtS_of hs) np (same_new np _) upd_same⟩

/-! ## a row of amounts by name -/
def rows (ks : List Str) (ns : List Int) : List (Key × V) := (ks.zip ns).map fun p => (Sum.inr p.1, V.int p.2)
def rowOf (ks : List Str) (ns : List Int) (n : Str) : Int := (((ks.zip ns).find? fun p => decide (p.1 = n)).map (·.2)).getD 0
theorem valV_rows {n : Str} : ∀ {ks : List Str} {ns : List Int}, ks.length = ns.length → n ∈ ks → valV (rows ks ns) (Sum.inr n) = some (.int (rowOf ks ns n))
  | [], _, _, h => by simp at h
  | k :: ks, [], h, _ => by simp at h
  | k :: ks, x :: ns, hl, hm => by
    unfold valV rows rowOf
    rw [List.zip_cons_cons, List.map_cons, List.find?_cons, List.find?_cons]
    by_cases e : k = n
    · subst e
      simp
    · have e1 : decide ((Sum.inr k : Key) = Sum.inr n) = false := decide_eq_false fun z => e (Sum.inr.inj z)
      have e2 : decide (k = n) = false := decide_eq_false e
      simp only [e1, e2]
      have hm2 : n ∈ ks := by
        rcases List.mem_cons.mp hm with z | z
        · exact absurd z.symm e
        · exact z
      exact valV_rows (by simpa using hl) hm2
theorem rowOf_at {ks : List Str} {ns : List Int} : ∀ {i : Nat} {k : Str} {x : Int}, ks.Nodup → ks[i]? = some k → ns[i]? = some x → rowOf ks ns k = x := by
  induction ks generalizing ns with
  | nil => intro i k x _ h; simp at h
  | cons a ks ih =>
    intro i k x hd h1 h2
    cases ns with
    | nil => simp at h2
    | cons b ns =>
      unfold rowOf
      rw [List.zip_cons_cons, List.find?_cons]
      cases i with
      | zero =>
        have e1 : a = k := Option.some.inj h1
        have e2 : b = x := Option.some.inj h2
        subst e1; subst e2
        simp
      | succ i =>
        have h1' : ks[i]? = some k := h1
        have h2' : ns[i]? = some x := h2
        have hk : k ∈ ks := List.mem_of_getElem? h1'
        have hne : a ≠ k := fun z => (List.nodup_cons.mp hd).1 (z ▸ hk)
        simp only [decide_eq_false hne]
        exact ih (List.nodup_cons.mp hd).2 h1' h2'
theorem any_key {ks : List Str} {ns : List Int} {k : Str} (h : k ∉ ks) : ((rows ks ns).any fun kv => decide (kv.1 = (Sum.inr k : Key))) = false := by
  rw [Bool.eq_false_iff]
  intro z
  obtain ⟨kv, hm, hk⟩ := List.any_eq_true.mp z
  unfold rows at hm
  obtain ⟨p, hp, rfl⟩ := List.mem_map.mp hm
  have e : p.1 = k := Sum.inr.inj (of_decide_eq_true hk)
  exact h (e ▸ (List.of_mem_zip hp).1)
/-! ## zip of two tuples: what is walked -/
theorem walk_zipT {K : PySem.W.Frag} {a b : Addr} {xs ys : List V} {n : Nat} (hn : n = min xs.length ys.length) : L2.Walk (RZ.ItzT K a b) n (fun H => SqT K H a xs ∧ SqT K H b ys) (YPair (fun i => xs[i]?) (fun i => ys[i]?)) := by
  subst hn
  refine ⟨fun i _ hi q => ?_, fun _ q => ⟨xs, ys, q.1, q.2, by omega⟩, fun i H v H' _ q y => ?_⟩
  · have h1 : i < xs.length := by omega
    have h2 : i < ys.length := by omega
    exact ⟨xs, ys, xs[i], ys[i], q.1, q.2, by simp [h1], by simp [h2]⟩
  · obtain ⟨T, x, z, h1, h2, h3, h4, h5⟩ := y
    exact ⟨T, x, z, h1, h2, h3, h4 xs q.1, h5 ys q.2⟩
section
variable {K : PySem.W.Frag} {σ : L2.St} {H : Hp} {vs : List Nat} {i j : Nat} {a b D : Addr} {Qd : Hp → Prop} {ks : List Str} {ns : List Int}
/-- {name: amount for name, amount in zip(names, amounts)} -/
theorem dc_rows (hx : H a = some (.tup (ks.map V.str))) (hy : H b = some (.tup (ns.map V.int))) (hl : ks.length = ns.length) (hn : ks.length ≤ 1000) (hnd : ks.Nodup) (hD : H D = none)
    (hw : ∀ x y, wipe (((wipe σ vs).set i (some x)).set j (some y)) vs = wipe σ vs) (hi : ∀ x y, (((wipe σ vs).set i (some x)).set j (some y))[i]? = some (some x)) (hj : ∀ x y, (((wipe σ vs).set i (some x)).set j (some y))[j]? = some (some y))
    (hd : ∀ H2, Same H H2 → H2 D = some (.dK (rows ks ns)) → Qd H2) :
    ∃ W : Nat → Nat → Hp → Prop, (∃ m, W 0 m (upd H D (.dK []))) ∧ ∀ k m H, W k m H →
      ((RZ.ItzT K a b).stop k H ∧ Qd H) ∨ ((RZ.ItzT K a b).go k H ∧ ∃ Nx : Hp → Prop, (∀ H', Nx H' → ∃ m', m' < m ∧ W (k + 1) m' H') ∧ ∀ x H', (RZ.ItzT K a b).yld k H x H' →
        gTup K 2 (gCons (gName i) (gCons (gName j) gNil)) x (wipe σ vs) H' fun σ2 H2 => wipe σ2 vs = wipe σ vs ∧ tYes σ2 H2 fun c H3 =>
          if c = true then tVar i σ2 H3 fun y H4 => tVar j σ2 H4 fun z H5 => ∃ kvs k, y = kV k ∧ H5 D = some (.dK kvs) ∧ kvs.length < sizeLine ∧ Nx (upd H5 D (.dK (putK kvs k z))) else Nx H3) := by
  have w := walk_zipT (K := K) (a := a) (b := b) (xs := ks.map V.str) (ys := ns.map V.int) (n := ks.length) (by rw [List.length_map, List.length_map, hl, Nat.min_self])
  refine ⟨fun k m H' => m = ks.length - k ∧ k ≤ ks.length ∧ Same H H' ∧ H' D = some (.dK (rows (ks.take k) (ns.take k))), ⟨ks.length, by omega, Nat.zero_le _, same_new hD _, by rw [upd_same]; rfl⟩, ?_⟩
  rintro k m H1 ⟨rfl, hk, s1, eD⟩
  have g1 : SqT K H1 a (ks.map V.str) ∧ SqT K H1 b (ns.map V.int) := ⟨SqT.of (s1 _ _ hx), SqT.of (s1 _ _ hy)⟩
  by_cases hlt : k < ks.length
  · refine .inr ⟨w.goes k H1 hlt g1, fun H' => Same H H' ∧ H' D = some (.dK (rows (ks.take (k + 1)) (ns.take (k + 1)))), fun H' p => ⟨ks.length - (k + 1), by omega, rfl, hlt, p.1, p.2⟩, fun x H' y => ?_⟩
    obtain ⟨T, x1, x2, rfl, nT, rfl, e1, e2⟩ := w.yields k H1 x H' hlt g1 y
    have hlt2 : k < ns.length := by omega
    have f1 : x1 = V.str ks[k] := by
      have : (ks.map V.str)[k]? = some x1 := e1
      rw [List.getElem?_map, List.getElem?_eq_getElem hlt] at this
      exact (Option.some.inj this).symm
    have f2 : x2 = V.int ns[k] := by
      have : (ns.map V.int)[k]? = some x2 := e2
      rw [List.getElem?_map, List.getElem?_eq_getElem hlt2] at this
      exact (Option.some.inj this).symm
    subst f1; subst f2
    have TD : D ≠ T := fun z => by rw [← z, eD] at nT; cases nT
    refine ⟨T, [V.str ks[k], V.int ns[k]], rfl, SqT.of upd_same, rfl, _, _, rfl, _, _, rfl, rfl, hw _ _, ?_⟩
    refine v_yes ?_
    refine ⟨_, hi _ _, _, hj _ _, rows (ks.take k) (ns.take k), Sum.inr ks[k], rfl, by rw [upd_ne TD]; exact eD, ?_, Same.mut (s1.trans (same_new nT _)) hD, ?_⟩
    · have : (rows (ks.take k) (ns.take k)).length ≤ 1000 := by
        unfold rows
        rw [List.length_map, List.length_zip, List.length_take]
        omega
      exact Nat.lt_of_le_of_lt this (by decide)
    · rw [upd_same]
      have hk2 : ks[k] ∉ ks.take k := by
        intro hm
        obtain ⟨q, hq, e⟩ := List.mem_take_iff_getElem.mp hm
        have := (List.getElem_inj hnd).mp e
        omega
      have e4 : putK (rows (ks.take k) (ns.take k)) (Sum.inr ks[k]) (V.int ns[k]) = rows (ks.take (k + 1)) (ns.take (k + 1)) := by
        have hz : ks.take (k + 1) = ks.take k ++ [ks[k]] := by rw [List.take_add_one, List.getElem?_eq_getElem hlt]; rfl
        have hz2 : ns.take (k + 1) = ns.take k ++ [ns[k]] := by rw [List.take_add_one, List.getElem?_eq_getElem hlt2]; rfl
        unfold putK
        rw [any_key hk2]
        rw [hz, hz2]
        unfold rows
        rw [List.zip_append (by rw [List.length_take, List.length_take]; omega), List.map_append]
        rfl
      rw [e4]
  · have ek : k = ks.length := by omega
    subst ek
    refine .inl ⟨w.stops H1 g1, hd H1 s1 ?_⟩
    rw [eD, List.take_length, hl, List.take_length]
end
end AK

/-! ## ARng -/
set_option Elab.async false
set_option linter.all false
set_option maxRecDepth 100000
namespace AK
open PySem PySem.Spec PyProof.Rows L2
/-! ## lists of whole numbers beside the empty list -/
theorem dp_ints {K : PySem.W.Frag} {H : Hp} {a : Addr} {ns : List Int} (h : H a = some (.lst (ns.map V.int))) : Dp K H (.ref a) (.list (ns.map PyData.int)) := by
  refine .lst (SqL.of h) ?_
  clear h
  induction ns with
  | nil => exact .nil
  | cons n r ih => exact .cons (.int n) ih
theorem depth_ints : ∀ ns : List Int, PyData.depthAll (ns.map PyData.int) = 0
  | [] => rfl
  | n :: r => by
    have := depth_ints r
    simp [PyData.depthAll, PyData.depth, this]
theorem lay_ints : ∀ ns : List Int, PyData.canLayAll0 (ns.map PyData.int) = true
  | [] => rfl
  | n :: r => by
    have := lay_ints r
    simp [PyData.canLayAll0, PyData.canLay0, this]
theorem shaped_ints (ns : List Int) : SeqAt.shaped (.list (ns.map PyData.int)) = true := by
  unfold SeqAt.shaped
  simp [PyData.canLay0, PyData.depth, lay_ints, depth_ints]
theorem eqv_ints_nil (ns : List Int) : PyData.eqv (.list (ns.map PyData.int)) (.list []) = ns.isEmpty := by
  cases ns with
  | nil => simp [PyData.eqv, PyData.eqvAll]
  | cons n r => simp [PyData.eqv, PyData.eqvAll]
theorem v_neNil {K : PySem.W.Frag} {H : Hp} {Q : VK} {a b : Addr} {ns : List Int} (h : H a = some (.lst (ns.map V.int))) (h' : H b = some (.lst [])) (q : Q (.bl (!ns.isEmpty)) H) : rNeD K (.ref a) (.ref b) H Q :=
  ⟨.list (ns.map PyData.int), .list [], dp_ints h, dp_ints (ns := []) h', shaped_ints ns, shaped_ints [], by rw [eqv_ints_nil]; exact q⟩

/-! ## slices -/
theorem cut_take (xs : List V) (k : Nat) : cutV xs none (some (k : Int)) = xs.take k := by
  unfold cutV
  rw [HT.sIx_none, HT.sIx_nat, List.drop_zero, Nat.sub_zero]
  rcases Nat.le_total k xs.length with h | h
  · rw [Nat.min_eq_left h]
  · rw [Nat.min_eq_right h, List.take_length, List.take_of_length_le h]
theorem cut_drop (xs : List V) (k : Nat) : cutV xs (some (k : Int)) none = xs.drop k := by
  unfold cutV
  rw [HT.sIx_none, HT.sIx_nat]
  rcases Nat.le_total k xs.length with h | h
  · rw [Nat.min_eq_left h, List.take_of_length_le (by rw [List.length_drop]; omega)]
  · rw [Nat.min_eq_right h, List.drop_length, List.take_nil, List.drop_eq_nil_of_le h]
/-! ## the source of draws changes -/
theorem IsRng.ne {g c : Addr} {H : Hp} (h : IsRng g c H) : g ≠ c := by
  obtain ⟨cells, stir, h1, h2, _⟩ := h
  refine ne_of h1 h2 fun z => ?_
  injection z with z
  cases cells with
  | nil => cases z
  | cons x r => injection z with z _; cases z
theorem Fr.cell {g c : Addr} {H : Hp} {cells' : List Int} (h : IsRng g c H) (h0 : ∀ x ∈ cells', 0 ≤ x) (hl : cells'.length ≤ 60) : Fr (some (g, c)) H (upd H c (.lst (cells'.map V.int))) := by
  have hne := h.ne
  obtain ⟨cells, stir, h1, h2, h3, h4, h5, h6⟩ := id h
  exact ⟨h, ⟨cells', stir, by rw [upd_ne hne]; exact h1, upd_same, h0, hl, h5, h6⟩, fun a o f ha => by rw [upd_ne f.2]; exact ha⟩
theorem Fr.stir {g c : Addr} {H : Hp} {k : Int} (h : IsRng g c H) (h0 : 0 ≤ k) (hl : k < 2147483647) : Fr (some (g, c)) H (upd H g (.lst [.ref c, .int k])) := by
  have hne := h.ne
  obtain ⟨cells, stir, h1, h2, h3, h4, h5, h6⟩ := id h
  exact ⟨h, ⟨cells, k, upd_same, by rw [upd_ne hne.symm]; exact h2, h3, h4, h0, hl⟩, fun a o f ha => by rw [upd_ne f.1]; exact ha⟩
/-! ## what the law's own makers promise -/
def sp_heap (K : PySem.W.Frag) : Sp := fun vs H Q _ => ∃ (a : Addr) (ns : List Int), vs = [.ref a] ∧ SqL K H a (ns.map V.int) ∧ ns.length ≤ 63 ∧ ∀ g c H', H g = none → H c = none → Same H H' → IsRng g c H' → Q (.ref g) H'
def sp_draw : Sp := fun vs H Q _ => ∃ (g c : Addr) (m : Int), vs = [.ref g, .int m] ∧ IsRng g c H ∧ 0 < m ∧ m < 2 ^ 100 ∧ ∀ k H', 0 ≤ k → k < m → Fr (some (g, c)) H H' → Q (.int k) H'
def sp_pick : Sp := fun vs H Q _ => ∃ (g c l : Addr) (xs : List V), vs = [.ref g, .ref l] ∧ IsRng g c H ∧ H l = some (.lst xs) ∧ l ≠ g ∧ l ≠ c ∧ xs ≠ [] ∧ xs.length ≤ 1000000 ∧ ∀ (i : Nat) (v : V) (H' : Hp), xs[i]? = some v → Fr (some (g, c)) H H' → Q v H'
/-! a comprehension over a list of data with a test -/
section
variable {K : PySem.W.Frag} {σ : L2.St} {H : Hp} {te : TE} {tt : TT} {vs : List Nat} {j : Nat} {a : Addr} {Qd : Addr → Hp → Prop} {α : Type} {L : List α} {e : α → V}
theorem v_lcLP (r : Rg) (hx : H a = some (.lst (L.map e))) (ho : Off r a) (gd : Good r H) (p : α → Bool) (f : α → V) (hn : L.length ≤ 1000000)
    (hw : ∀ x, wipe ((wipe σ vs).set j (some x)) vs = wipe σ vs)
    (hs : ∀ x H2 (Qt : Bool → Hp → Prop), x ∈ L → Fr r H H2 → (∀ H3, Fr r H2 H3 → Qt (p x) H3) → tt ((wipe σ vs).set j (some (e x))) H2 Qt)
    (he : ∀ x H2 (Qn : VK), x ∈ L → p x = true → Fr r H H2 → (∀ H3, Fr r H2 H3 → Qn (f x) H3) → te ((wipe σ vs).set j (some (e x))) H2 Qn)
    (hd : ∀ D H2, H D = none → Fr r H H2 → H2 D = some (.lst ((L.filter p).map f)) → Qd D H2) :
    ∃ a', V.ref a = .ref a' ∧ (∃ xs, SqL K H a' xs) ∧ ∀ D, H D = none → ∃ W : Nat → Nat → Hp → Prop, (∃ m, W 0 m (upd H D (.lst []))) ∧ ∀ i m H, W i m H →
      ((Itl K a').stop i H ∧ Qd D H) ∨ ((Itl K a').go i H ∧ ∃ Nx : Hp → Prop, (∀ H', Nx H' → ∃ m', m' < m ∧ W (i + 1) m' H') ∧ ∀ x H', (Itl K a').yld i H x H' → gName j x (wipe σ vs) H' fun σ2 H2 => wipe σ2 vs = wipe σ vs ∧ tt σ2 H2 fun b H3 =>
        if b = true then te σ2 H3 fun y H4 => ∃ acc, H4 D = some (.lst acc) ∧ acc.length < sizeLine ∧ Nx (upd H4 D (.lst (acc ++ [y]))) else Nx H3) := by
  refine ⟨a, rfl, ⟨_, SqL.of hx⟩, fun D hD => ?_⟩
  have hoff : Off r D := Off.new gd hD
  refine lc_it (walk_list (K := K) (a := a) (xs := L.map e)) (fun i H' => Fr r H H' ∧ H' D = some (.lst (((L.take i).filter p).map f))) ⟨Fr.new gd hD, by rw [upd_same]; rfl⟩ (fun i H' _ q => SqL.of (q.1.lst ho hx)) (fun i x H1 H' hi q hy => ?_) (fun H' q => ?_)
  · obtain ⟨rfl, hy⟩ := hy
    obtain ⟨fr, eD⟩ := q
    rw [List.length_map] at hi
    rw [List.getElem?_map, List.getElem?_eq_getElem hi] at hy
    have ex : e L[i] = x := Option.some.inj hy
    subst ex
    have hm : L[i] ∈ L := List.getElem_mem hi
    have et : L.take (i + 1) = L.take i ++ [L[i]] := by rw [List.take_add_one, List.getElem?_eq_getElem hi]; rfl
    refine ⟨hw _, ?_⟩
    refine hs L[i] _ _ hm fr fun H3 f3 => ?_
    have fr3 := fr.trans f3
    have eD3 := f3.lst hoff eD
    refine v_bool (fun hp => ?_) (fun hp => ?_)
    · refine he L[i] H3 _ hm hp fr3 fun H4 f4 => ?_
      refine ⟨_, f4.lst hoff eD3, ?_, (fr3.trans f4).mut hD, ?_⟩
      · have h1 : (((L.take i).filter p).map f).length ≤ L.length := by
          rw [List.length_map]
          refine Nat.le_trans (List.length_filter_le _ _) ?_
          rw [List.length_take]; omega
        exact Nat.lt_of_le_of_lt (Nat.le_trans h1 hn) (by decide)
      · rw [upd_same, et, List.filter_append, List.filter_cons_of_pos hp, List.filter_nil, List.map_append]
        rfl
    · refine ⟨fr3, ?_⟩
      rw [eD3, et, List.filter_append, List.filter_cons_of_neg (by rw [hp]; exact Bool.false_ne_true), List.filter_nil, List.append_nil]
  · obtain ⟨fr, eD⟩ := q
    rw [List.length_map] at eD
    exact hd D H' hD fr (by rw [eD, List.take_length])
end
/-! ## loops: for over a list that stays -/
theorem v_forL {K : PySem.W.Frag} {σ : L2.St} {H : Hp} {D : Ends} {tb : TS} {j : Nat} {a : Addr} {xs : List V} (hx : SqL K H a xs) (Pv : Nat → L2.St → Hp → Prop) (h0 : Pv 0 σ H) (hG : ∀ i σ H, i ≤ xs.length → Pv i σ H → SqL K H a xs)
    (hs : ∀ i x σ H, xs[i]? = some x → Pv i σ H → tb { D with nx := Pv (i + 1), ct := Pv (i + 1), bk := D.nx } (σ.set j (some x)) H) (hd : ∀ σ H, Pv xs.length σ H → D.nx σ H) :
    ∃ a', V.ref a = .ref a' ∧ (∃ xs, SqL K H a' xs) ∧ ∃ W : Nat → Nat → L2.St → Hp → Prop, (∃ m, W 0 m σ H) ∧ ∀ i m σ H, W i m σ H →
      ((Itl K a').stop i H ∧ D.nx σ H) ∨ ((Itl K a').go i H ∧ ∃ N : L2.St → Hp → Prop, (∀ σ' H', N σ' H' → ∃ m', m' < m ∧ W (i + 1) m' σ' H') ∧ ∀ x H', (Itl K a').yld i H x H' → gName j x σ H' fun σ2 H2 => tb { D with nx := N, ct := N, bk := D.nx } σ2 H2) :=
  ⟨a, rfl, ⟨xs, hx⟩, for_it (walk_list (K := K) (a := a) (xs := xs)) (g := gName j) Pv h0 hG (fun i x σ H H' hi q hy => by obtain ⟨rfl, hy⟩ := hy; exact hs i x σ _ hy q) hd⟩
theorem v_forR {σ : L2.St} {H : Hp} {D : Ends} {tb : TS} {j : Nat} {n : Int} (hn0 : 0 ≤ n) (hn1 : n ≤ 1000000) (Pv : Nat → L2.St → Hp → Prop) (h0 : Pv 0 σ H)
    (hs : ∀ (i : Nat) σ H, (i : Int) < n → Pv i σ H → tb { D with nx := Pv (i + 1), ct := Pv (i + 1), bk := D.nx } (σ.set j (some (.int (i : Int)))) H) (hd : ∀ σ H, Pv n.toNat σ H → D.nx σ H) :
    ∃ n' : Int, [V.int n] = [.int n'] ∧ -(2 ^ 62) ≤ n' ∧ n' < 2 ^ 62 ∧ ∃ W : Nat → Nat → L2.St → Hp → Prop, (∃ m, W 0 m σ H) ∧ ∀ i m σ H, W i m σ H →
      ((Itr 0 n'.toNat).stop i H ∧ D.nx σ H) ∨ ((Itr 0 n'.toNat).go i H ∧ ∃ N : L2.St → Hp → Prop, (∀ σ' H', N σ' H' → ∃ m', m' < m ∧ W (i + 1) m' σ' H') ∧ ∀ x H', (Itr 0 n'.toNat).yld i H x H' → gName j x σ H' fun σ2 H2 => tb { D with nx := N, ct := N, bk := D.nx } σ2 H2) :=
  ⟨n, rfl, by omega, by omega, for_it (walk_range (lo := 0) (n := n.toNat)) (g := gName j) Pv h0 (fun _ _ _ _ _ => trivial) (fun i x σ H H' hi q hy => by
    obtain ⟨rfl, rfl⟩ := hy
    have e : (0 : Int) + (i : Int) = (i : Int) := Int.zero_add _
    show tb { D with nx := Pv (i + 1), ct := Pv (i + 1), bk := D.nx } (σ.set j (some (.int (0 + (i : Int))))) _
    rw [e]
    exact hs i σ _ (by omega) q) hd⟩
theorem v_for {σ : L2.St} {H : Hp} {D : Ends} {wi : TI} {g : TG} {tb : TS} (q : wi σ H fun J H1 => ∃ W : Nat → Nat → L2.St → Hp → Prop, (∃ m, W 0 m σ H1) ∧ ∀ i m σ H, W i m σ H →
  (J.stop i H ∧ D.nx σ H) ∨ (J.go i H ∧ ∃ N : L2.St → Hp → Prop, (∀ σ' H', N σ' H' → ∃ m', m' < m ∧ W (i + 1) m' σ' H') ∧ ∀ x H', J.yld i H x H' → g x σ H' fun σ2 H2 => tb { D with nx := N, ct := N, bk := D.nx } σ2 H2)) : tFor wi g tb D σ H := q
theorem v_irng {σ : L2.St} {H : Hp} {ta : TA} {R : It → Hp → Prop} (q : ta σ H fun vs H1 => ∃ j : Int, vs = [.int j] ∧ -(2 ^ 62) ≤ j ∧ j < 2 ^ 62 ∧ R (Itr 0 j.toNat) H1) : iRng1 ta σ H R := q
theorem v_slLS {K : PySem.W.Frag} {H : Hp} {Q : VK} {a : Addr} {xs : List V} {lo hi : Option Int} (h : SqL K H a xs) (q : ∀ p H', H p = none → Same H H' → H' p = some (.lst (cutV xs lo hi)) → Q (.ref p) H') : rSlL K (.ref a) lo hi H Q := ⟨a, xs, rfl, h, v_new q⟩
theorem v_pop {H : Hp} {Q : VK} {a : Addr} {xs : List V} {y : V} (h : H a = some (.lst xs)) (e : xs[xs.length - 1]? = some y) (q : Q y (upd H a (.lst xs.dropLast))) : rPop (.ref a) [] H Q := ⟨a, xs, y, rfl, rfl, h, e, q⟩
theorem v_gsub {σ : L2.St} {H : Hp} {to ti : TE} {t : TSet} {v : V} {Q : L2.St → Hp → Prop} (q : to σ H fun o H1 => ti σ H1 fun i H2 => t o i v H2 fun H3 => Q σ H3) : gSub to ti t v σ H Q := q
theorem v_setL {H : Hp} {R : Hp → Prop} {p : Addr} {xs : List V} {k : Int} {j : Nat} {v : V} (h : H p = some (.lst xs)) (e : ixN xs.length k = some j) (q : R (upd H p (.lst (xs.set j v)))) : rSetL (.ref p) (.int k) v H R := ⟨p, xs, k, j, rfl, rfl, h, e, q⟩
theorem v_while {σ : L2.St} {H : Hp} {D : Ends} {c : TT} {tb : TS} (W : Nat → L2.St → Hp → Prop) (m0 : Nat) (h0 : W m0 σ H)
    (hs : ∀ m σ H, W m σ H → c σ H fun b H1 => if b = true then ∃ N : L2.St → Hp → Prop, (∀ σ' H', N σ' H' → ∃ m', m' < m ∧ W m' σ' H') ∧ tb { D with nx := N, ct := N, bk := D.nx } σ H1 else D.nx σ H1) : tWhile c tb D σ H := ⟨W, ⟨m0, h0⟩, hs⟩
theorem IsRng.at {g c : Addr} {H : Hp} (h : IsRng g c H) : ∃ (cells : List Int) (stir : Int), H g = some (.lst [.ref c, .int stir]) ∧ H c = some (.lst (cells.map V.int)) ∧ (∀ x ∈ cells, 0 ≤ x) ∧ cells.length ≤ 60 ∧ 0 ≤ stir ∧ stir < 2147483647 := h
theorem atI_int {α : Type} {xs : List α} {k : Int} {v : α} (h0 : 0 ≤ k) (h : xs[k.toNat]? = some v) : atI xs k = some v := by
  obtain ⟨n, rfl⟩ := Int.eq_ofNat_of_zero_le h0
  exact atI_nat h
end AK

/-! ## ARules -/
set_option Elab.async false
set_option linter.all false
set_option maxRecDepth 100000
namespace AK
open PySem PySem.Spec PyProof.Rows L2
/-! ## {t: v}, the key a tuple -/
def tDisp1T (tk tv : TE) : TE := fun σ H Q => ∀ p, H p = none → tk σ (upd H p (.dT [])) fun x H1 => tv σ H1 fun y H2 => ∃ (b : Addr) (k : List Key), x = .ref b ∧ H2 p = some (.dT []) ∧ H2 b = some (.tup (k.map kV)) ∧ Q (.ref p) (upd H2 p (.dT [(k, y)]))
theorem pe_disp1T {X : Cx} {k v : Expr} {tk tv : TE} {pos : Pos} (hu : X.A.units + 1 < cLine) (hk : PE X k tk) (hv : PE X v tv) : PE X (.Dict [some k] [v] pos) (tDisp1T tk tv) := by
  refine ⟨fun pins s σ H Q I q => ?_⟩
  have hn := I.hok.fresh (Nat.le_refl s.heap.objs.size)
  have I1 := I.laid (a := s.heap.objs.size) (o := .dT []) (h' := s.heap.push { cls := .type "dict", data := .dict #[] }) (t' := s.toks) (fun _ _ q => Heap.get?_push_of_some _ q) (Nat.le_refl _) (dt_empty s.heap I.big)
  have h : PPs X pos [some k] [v] [(tk, tv)] := pps_cons hk hv pps_nil
  refine wpAny_Dict_any rfl rfl (by simp) (by simp) (thn (h.run pins _ σ _ (fun ps H2 => match ps with
    | [(x, y)] => ∃ (b : Addr) (k : List Key), x = .ref b ∧ H2 s.heap.objs.size = some (.dT []) ∧ H2 b = some (.tup (k.map kV)) ∧ Q (.ref s.heap.objs.size) (upd H2 s.heap.objs.size (.dT [(k, y)]))
    | _ => False) I1 (q _ hn)) fun ws s2 ⟨ps, H2, I2, rel, q2⟩ => ?_)
  match ps, rel, q2 with
  | [(x, y)], rel, ⟨b, kk, ex, e, eb, q2⟩ =>
    subst ex
    cases rel with
    | @cons p1 w1 ps1 ws1 h1 t1 =>
      cases t1
      obtain ⟨u1, u2⟩ := w1
      cases (show u1 = Value.ref b from h1.1)
      obtain ⟨z, hd, xs, relx, dd⟩ := dt_of I2.hok e
      cases relx
      refine wpAny_storeAllH (knd := tupleKind (mixKind X.prog X.w)) (show X.A.units < cLine by omega) [(Value.ref b, u2)] [(kk, b, u2)] [] s2 _ ⟨rfl, rfl, key_of I2.hok eb, trivial⟩ dd (show 1 ≤ sizeLine by decide) fun h' tk' dd' hs => ?_
      obtain ⟨q', es, ep, hq, h2, h3, h4, _, h5⟩ := dd'
      refine ⟨.ref s.heap.objs.size, _, d_write (ob := .dT [(kk, y)]) I2 (by rw [e]; exact True.intro) hs ⟨q', hq⟩ ⟨show 1 ≤ sizeLine by decide, hd, [(kk, b, u2)], ?_, q', es, ep, hq, h2, h3, h4, h5⟩, rfl, q2⟩
      refine .cons ⟨rfl, ?_, h1.2⟩ .nil
      rw [upd_ne (ne_of eb e (fun z => nomatch z))]
      exact eb
/-! ## d.update(e), both keyed by tuples, d not empty -/
def mergeT (kvs more : List (List Key × V)) : List (List Key × V) := more.foldl (fun acc kv => putK acc kv.1 kv.2) kvs
theorem KT.merge {H : Hp} : ∀ {more : List (List Key × V)} {ys : List (List Key × Addr × Value)} {kvs : List (List Key × V)} {xs : List (List Key × Addr × Value)}, KT H more ys → KT H kvs xs → KT H (mergeT kvs more) (storedAllH xs ys) := by
  intro more ys kvs xs r
  induction r generalizing kvs xs with
  | nil => intro q; exact q
  | @cons p q ps qs h t ih =>
    intro r0
    have e := r0.put p.1 h.2.1 h.2.2
    rw [h.1] at e
    have e2 : KT H (putK kvs p.1 p.2) (storedH xs q.1 q.2.1 q.2.2) := by rw [h.1]; exact e
    exact ih e2
theorem length_mergeT : ∀ (more kvs : List (List Key × V)), (mergeT kvs more).length ≤ kvs.length + more.length
  | [], kvs => by show kvs.length ≤ kvs.length + 0; omega
  | p :: r, kvs => by
    have h1 := length_mergeT r (putK kvs p.1 p.2)
    have h2 := length_putK kvs p.1 p.2
    show (mergeT (putK kvs p.1 p.2) r).length ≤ _
    rw [List.length_cons]; omega
def rUpdT : V → List V → Hp → VK → Prop := fun x xs H Q => ∃ (d o : Addr) (kvs more : List (List Key × V)), x = .ref d ∧ xs = [.ref o] ∧ d ≠ o ∧ H d = some (.dT kvs) ∧ H o = some (.dT more) ∧ kvs ≠ [] ∧ kvs.length + more.length ≤ sizeLine ∧ Q .non (upd H d (.dT (mergeT kvs more)))
theorem mt_updT {X : Cx} (hu : X.A.units + 1 < cLine) : MtR X "dict.update" rUpdT := by
  intro pins s σ H x xs v us Q I rx rs h
  obtain ⟨d, o, kvs, more, rfl, rfl, hdo, ed, eo, hne, hz, q⟩ := h
  cases rx
  cases Vals.ref1 rs
  obtain ⟨z1, hd1, xs1, rel1, dd1⟩ := dt_of I.hok ed
  obtain ⟨z2, hd2, xs2, rel2, dd2⟩ := dt_of I.hok eo
  have l1 := Paired.length rel1
  have l2 := Paired.length rel2
  refine call_update_dictH (knd := tupleKind (mixKind X.prog X.w)) (tupleKind_room_in1 hu) hdo hd2 dd1 dd2 (.inl fun e => hne (by rw [e] at l1; exact List.length_eq_zero_iff.mp l1)) (by omega) fun h' dd' _ hs => ?_
  obtain ⟨q', es, ep, hq, h2, h3, h4, _, h5⟩ := dd'
  refine ⟨.non, _, d_write (ob := .dT (mergeT kvs more)) I (by rw [ed]; exact True.intro) hs ⟨q', hq⟩ ⟨Nat.le_trans (length_mergeT more kvs) hz, hd1, storedAllH xs1 xs2, ?_, q', es, ep, hq, h2, h3, h4, h5⟩, rfl, q⟩
  refine (KT.merge rel2 rel1).keeps fun c ys ec => ?_
  rw [upd_ne (ne_of ec ed (fun z => nomatch z))]
  exact ec

/-! ## t * 1 is t itself -/
theorem tuple_mul1 (l : Addr) (items : Array Value) (n : Nat) (dd : Option Addr) (sl : Array (Option Value)) (u : Tok) :
    Meets (Builtin.«tuple.__mul__» ⟨[.ref l, .int 1 u], []⟩) (fun _ R s => s.heap.get? l = some { cls := .type "tuple", dict := dd, data := .seq items n, slots := sl } ∧
      R (.ok (.ret (Value.ref l))) s) :=
  .of_wp fun prog w A R s h => by
    obtain ⟨hp, g, d, tk, os⟩ := s
    obtain ⟨hl, h⟩ := h
    have f1 := AutoSeq1.idx_int
    have c0 : (decide ((1 : Int) < -(2 ^ 63)) || decide ((1 : Int) ≥ 2 ^ 63)) = false := by decide
    have c1 : (items.isEmpty || (1 : Int) == 1) = true := by cases items.isEmpty <;> rfl
    wp_walk using wpAny_loadPart' hl
    repeat (first
      | (refine wpAny_ite_false (decide_eq_false (by rw [c0]; exact Bool.false_ne_true)) ?_; wp_walk using wpAny_loadPart' hl)
      | (refine wpAny_ite_true (decide_eq_true c1) ?_; wp_walk using wpAny_loadPart' hl))
    exact ⟨_, rfl, h⟩
/-- t * k, k from 1 on, t not empty: some tuple that holds so many of it -/
def rRep1 (K : PySem.W.Frag) : R2 := fun x y H Q => ∃ (l : Addr) (k : Int) (xs : List V), x = .ref l ∧ y = .int k ∧ H l = some (.tup xs) ∧ xs ≠ [] ∧ 1 ≤ k ∧ k ≤ 1000 ∧ xs.length ≤ 1000 ∧ ∀ p H', Same H H' → H' p = some (.tup (List.replicate k.toNat xs).flatten) → Q (.ref p) H'
theorem op_rep1 {X : Cx} {K : PySem.W.Frag} (hK : X.K = K) : OpR X (binaryOp .Mult) (rRep1 K) := by
  intro pins s σ H x y v u Q I rx ry h
  obtain ⟨l, k, xs, rfl, rfl, hT, hne, h1, h2, hz, q⟩ := h
  by_cases hk : k = 1
  · subst hk
    cases rx
    obtain ⟨t, rfl⟩ := ry
    obtain ⟨its, r, ⟨⟨cls, dd, data, sl⟩, ho, hc, n, hd⟩, hs⟩ := I.tuple (SqT.of hT)
    simp only at hc hd
    subst hc hd
    refine wpAny_binaryOp_repeat_ref (T := "tuple") (U := "int") (by decide) ⟨_, ho, rfl⟩ (fun s' => typeIs_int s' 1 t) noFill_tuple_mul F.fills_int_mul F.slot_int_rmul repeat_tuple F.slot_int_index.lookup
      (call_meets F.slot_int_rmul (typeIs_int s 1 t) F.entry_int_rmul (F.args_int_rmul_2 _ _) (int_rmul_tuple 1 t l its.toArray n dd sl)
        ⟨ho, rfl, ⟨_, ho, rfl⟩, call_meets F.slot_tuple_mul ⟨_, ho, rfl⟩ F.entry_tuple_mul (F.args_tuple_mul_2 _ _) (tuple_mul1 l its.toArray n dd sl t) ⟨ho, ?_⟩⟩)
    exact ⟨.ref l, H, I, rfl, q l H (Same.refl _) (by rw [hT]; simp)⟩
  · exact op_repT pins s σ H _ _ v u Q I rx ry ⟨l, k, xs, rfl, rfl, SqT.of hT, hne, by omega, h2, hz, fun p hp => q p _ (same_new hp _) upd_same⟩
theorem v_rep1 {K : PySem.W.Frag} {H : Hp} {Q : VK} {l : Addr} {k : Int} {xs : List V} (h : H l = some (.tup xs)) (h0 : xs ≠ []) (h1 : 1 ≤ k) (h2 : k ≤ 1000) (h3 : xs.length ≤ 1000) (q : ∀ p H', Same H H' → H' p = some (.tup (List.replicate k.toNat xs).flatten) → Q (.ref p) H') : rRep1 K (.ref l) (.int k) H Q :=
  ⟨l, k, xs, rfl, rfl, h, h0, h1, h2, h3, q⟩
/-! ## text * 2 -/
def rStr2 : R2 := fun x y H Q => ∃ z : Str, x = .str z ∧ y = .int 2 ∧ 0 < z.length ∧ z.length ≤ 1000 ∧ Q (.str (z ++ z)) H
theorem op_str2 {X : Cx} : OpR X (binaryOp .Mult) rStr2 := by
  intro pins s σ H x y v u Q I rx ry h
  obtain ⟨z, rfl, rfl, h0, h1, q⟩ := h
  obtain ⟨t, rfl⟩ := rx
  obtain ⟨t', rfl⟩ := ry
  have hz : ((2 : Int) == 1 || z.length == 0) = false := by
    rw [beq_eq_false_iff_ne.mpr (show z.length ≠ 0 by omega)]; rfl
  refine P.mul_str (by decide) (fun _ _ => by omega) (fun _ _ => ?_) ?_
  · have e : (2 : Int).toNat = 2 := rfl
    unfold Builtin.Str.tooLong
    rw [e, sizeLine_eq]
    exact decide_eq_false (by omega)
  · rw [if_neg (by decide), hz, if_neg Bool.false_ne_true]
    have e : (⟨List.foldl (fun x1 x2 => x1 ++ x2) #[] (List.replicate (Int.toNat 2) z.cps)⟩ : Str) = z ++ z := by
      show (⟨(#[] ++ z.cps) ++ z.cps⟩ : Str) = ⟨z.cps ++ z.cps⟩
      rw [Array.empty_append]
    rw [e]
    refine ⟨?_, ?_⟩
    · show (z.cps ++ z.cps).size ≤ sizeLine
      have e2 : z.length = z.cps.size := rfl
      rw [Array.size_append, sizeLine_eq]
      omega
    · exact ⟨.str (z ++ z), H, I.tok _, ⟨_, rfl⟩, q⟩
theorem v_str2 {H : Hp} {Q : VK} {z : Str} (h0 : 0 < z.length) (h1 : z.length ≤ 1000) (q : Q (.str (z ++ z)) H) : rStr2 (.str z) (.int 2) H Q := ⟨z, rfl, rfl, h0, h1, q⟩
/-! ## l.pop(i) -/
theorem v_popAt {H : Hp} {Q : VK} {l : Addr} {xs : List V} {i : Int} {y : V} (h : H l = some (.lst xs)) (h0 : 0 ≤ i) (e : xs[i.toNat]? = some y) (hz : xs.length ≤ 1000000) (q : Q y (upd H l (.lst (xs.eraseIdx i.toNat)))) : rPopAt (.ref l) [.int i] H Q := by
  have hk : i.toNat < xs.length := (List.getElem?_eq_some_iff.mp e).1
  refine ⟨l, xs, i, i.toNat, y, rfl, rfl, h, by omega, by omega, ?_, e, q⟩
  unfold seqIndex?
  have h1 : ¬ i < 0 := by omega
  have h2 : (decide (0 ≤ i) && decide (i < (xs.length : Int))) = true := by
    rw [Bool.and_eq_true]
    exact ⟨decide_eq_true h0, decide_eq_true (by omega)⟩
  simp only [h1, if_false, h2, if_true]
end AK

/-! ## MTup -/
set_option Elab.async false
set_option linter.all false
set_option maxRecDepth 100000
set_option maxHeartbeats 2000000
/-! tuples: () + t, t[0:] (the whole), as rules -/
namespace MP
open PySem PySem.Spec PyProof.Rows L2 AK
theorem tuple_addW0 (l b : Addr) (items items2 : Array Value) (n n2 : Nat) (dd dd2 : Option Addr) (sl sl2 : Array (Option Value)) (hc0 : items.isEmpty = true) :
    Meets (Builtin.«tuple.__add__» ⟨[.ref l, .ref b], []⟩) (fun _ R s => s.heap.get? l = some { cls := .type "tuple", dict := dd, data := .seq items n, slots := sl } ∧ s.heap.get? b = some { cls := .type "tuple", dict := dd2, data := .seq items2 n2, slots := sl2 } ∧
      R (.ok (.ret (Value.ref b))) s) :=
  .of_wp fun prog w A R s h => by
    obtain ⟨hp, g, d, tk, os⟩ := s
    obtain ⟨hl, hb, h⟩ := h
    have f1 := AutoSeq1.idx_int
    have f2 := AutoSeq1.sub_tuple_tuple
    have f3 := AutoSeq1.sub_list_list
    wp_walk using wpAny_loadPart' hl, wpAny_loadPart' hb
    repeat (first
      | (refine wpAny_ite_true (by exact hc0) ?_; wp_walk using wpAny_loadPart' hl, wpAny_loadPart' hb))
    exact ⟨_, rfl, h⟩
end MP
namespace MP
open PySem PySem.Spec PyProof.Rows L2 AK
section
variable {X : Cx}
/-- () + t is t -/
def rCatT0 (K : PySem.W.Frag) : R2 := fun x y H Q => ∃ a b ys, x = .ref a ∧ y = .ref b ∧ SqT K H a [] ∧ SqT K H b ys ∧ Q (.ref b) H
theorem op_catT0 : OpR X (binaryOp .Add) (rCatT0 X.K) := by
  intro pins s σ H x y v u Q I rx ry h
  obtain ⟨a, b, ys, rfl, rfl, ha, hb, q⟩ := h
  cases rx
  cases ry
  obtain ⟨its, r1, p1, _⟩ := I.tuple ha
  obtain ⟨its2, r2, p2, _⟩ := I.tuple hb
  cases r1
  obtain ⟨⟨cls, dd, data, sl⟩, ho, hc, n, hd⟩ := id p1
  obtain ⟨⟨cls2, dd2, data2, sl2⟩, ho2, hc2, n2, hd2⟩ := id p2
  simp only at hc hd hc2 hd2
  subst hc hd hc2 hd2
  exact concat_meets ⟨_, ho, rfl⟩ ⟨_, ho2, rfl⟩ noFill_tuple_add seq_tuple_add PySem.F.slot_tuple_add PySem.F.entry_tuple_add (PySem.F.args_tuple_add_2 _ _)
      (tuple_addW0 a b _ _ n n2 dd dd2 sl sl2 (by simp)) ⟨ho, ho2, ⟨.ref b, H, I, rfl, q⟩⟩
end
end MP
namespace MP
open PySem PySem.Spec PyProof.Rows L2 AK HT
section
variable {prog : Program} {w : World} {A : Around} {E : Value → Shared → Prop} {s : Shared}
theorem getItem_tuple_whole {t sl : Addr} {items : Array Value} {vl vu : Value} {lo hi : Option Int} {Q : Value → Shared → Prop} (ht : IsTup s.heap t items) (hs : s.heap.IsSliceOf sl vl vu .none) (pl : IsPart vl lo) (pu : IsPart vu hi)
    (hw : HT.sIx items.size 0 lo = 0 ∧ HT.sIx items.size items.size hi = items.size) (h : Q (.ref t) s) : wpAny (model prog w) A (getItem (.ref t) (.ref sl)) Q E s := by
  obtain ⟨os, hos, hcs, hds⟩ := id hs
  have hTs : s.TypeIs (.ref sl) "slice" := ⟨os, hos, hcs⟩
  unfold getItem
  try with_reducible refine wpAny_holding ?_
  first | refine wpAny_bind (wpAny_pure ?_) | skip
  refine wpAny_bind (wpAny_sequenceKey ht.typeIs (by decide) ?_)
  refine wpAny_bind (wpAny_callSpecial?_slot (name := Str.ofString "__getitem__") ht.typeIs PyProof.Rows.slot_tuple_getitem
    (wpAny_call_entry PyProof.Rows.slot_tuple_getitem ht.typeIs entry_tuple_getitem ?_ (args_tuple_getitem _ _)))
  show wpAny _ _ (Builtin.Tuple.tupleItemsOf (.ref t) >>= _) _ _ s
  refine wpAny_bind (tupleItemsOf_ ht ?_)
  refine wpAny_bind (wpAny_typeOf hTs ?_)
  rw [if_pos (by decide)]
  refine wpAny_bind (HT.sliceApplied_gen hs pl pu ?_)
  have hyes : ((((HT.sIx items.size 0 lo : Nat) : Int) == 0 && (1 : Int) == 1 && (HT.sIx items.size items.size hi - HT.sIx items.size 0 lo) == items.size) = true) := by
    rw [hw.1, hw.2]; simp
  show wpAny _ _ (if (((HT.sIx items.size 0 lo : Nat) : Int) == 0 && (1 : Int) == 1 && (HT.sIx items.size items.size hi - HT.sIx items.size 0 lo) == items.size) = true then _ else _) _ _ s
  rw [if_pos hyes]
  refine wpAny_bind (wpAny_bind (wpAny_typeOf ht.typeIs (wpAny_pure ?_)))
  rw [if_pos (by decide)]
  wp_walk using wpAny_loadPart' hos
  exact ⟨_, rfl, wpAny_pure h⟩
end
section
variable {X : Cx}
def rSlT0 (K : PySem.W.Frag) : V → Option Int → Option Int → Hp → VK → Prop := fun x lo hi H Q => ∃ a xs, x = .ref a ∧ SqT K H a xs ∧
  (HT.sIx xs.length 0 lo = 0 ∧ HT.sIx xs.length xs.length hi = xs.length) ∧ Q (.ref a) H
theorem sl_tup0 : SlR X (rSlT0 X.K) := by
  intro pins s σ H x v vl vu lo hi sl Q I rx hs pl pu h
  obtain ⟨a, xs, rfl, hx, hw, q⟩ := h
  cases rx
  obtain ⟨its, r, ht, hz⟩ := I.tuple hx
  have hlen : its.toArray.size = xs.length := by rw [List.size_toArray]; exact r.length.symm
  refine ⟨"tuple", _, PyProof.Rows.slot_tuple_getitem.lookup, ht.typeIs, ?_⟩
  exact getItem_tuple_whole ht hs pl pu (by rw [hlen]; exact hw) ⟨.ref a, H, I, rfl, q⟩
end
end MP

/-! ## MExp -/
set_option Elab.async false
set_option linter.all false
set_option maxRecDepth 100000
set_option maxHeartbeats 2000000
/-! MP: expressions -/
namespace MP
open PySem PySem.Spec PyProof.Rows L2 AK
section
variable {X : Cx} {e : Expr} {es : List Expr} {st : Stmt} {sts : List Stmt} {tg : Expr}
theorem pe_imp {t t' : TE} (h : PE X e t) (k : ∀ σ H Q, t' σ H Q → t σ H Q) : PE X e t' := ⟨fun pins s σ H Q I q => h.run pins s σ H Q I (k σ H Q q)⟩
theorem pt_imp {t t' : TT} (h : PT X e t) (k : ∀ σ H Q, t' σ H Q → t σ H Q) : PT X e t' := ⟨fun pins s σ H Q I q => h.run pins s σ H Q I (k σ H Q q)⟩
theorem pw_imp {t t' : TT} (h : PW X e t) (k : ∀ σ H Q, t' σ H Q → t σ H Q) : PW X e t' := ⟨fun wh pins s σ H Q I q => h.run wh pins s σ H Q I (k σ H Q q)⟩
theorem pa_imp {t t' : TA} (h : PA X es t) (k : ∀ σ H Q, t' σ H Q → t σ H Q) : PA X es t' := ⟨fun pos pins s σ H Q I q => h.run pos pins s σ H Q I (k σ H Q q)⟩
theorem ps_imp {t t' : TS} (h : PS X st t) (k : ∀ D σ H, t' D σ H → t D σ H) : PS X st t' := ⟨fun pins s σ H D I q => h.run pins s σ H D I (k D σ H q)⟩
theorem pss_imp {t t' : TS} (h : PSs X sts t) (k : ∀ D σ H, t' D σ H → t D σ H) : PSs X sts t' := ⟨fun pins s σ H D I q => h.run pins s σ H D I (k D σ H q)⟩
theorem pi_imp {t t' : TI} (h : PI X tg e t) (k : ∀ σ H R, t' σ H R → t σ H R) : PI X tg e t' := ⟨fun pins s σ H R I q => h.run pins s σ H R I (k σ H R q)⟩
theorem pg_imp {t t' : TG} (h : PG X e t) (k : ∀ v σ H Q, t' v σ H Q → t v σ H Q) : PG X e t' := ⟨fun pins s σ H v u Q I r q => h.run pins s σ H v u Q I r (k v σ H Q q)⟩
theorem pe_or2 {t t' : TE} (h : PE X e t) (h' : PE X e t') : PE X e (fun σ H Q => t σ H Q ∨ t' σ H Q) := ⟨fun pins s σ H Q I q => q.elim (h.run pins s σ H Q I) (h'.run pins s σ H Q I)⟩
theorem pi_or2 {t t' : TI} (h : PI X tg e t) (h' : PI X tg e t') : PI X tg e (fun σ H Q => t σ H Q ∨ t' σ H Q) := ⟨fun pins s σ H Q I q => q.elim (h.run pins s σ H Q I) (h'.run pins s σ H Q I)⟩
theorem op_or2 {f : Value → Value → Sem Value} {r r' : R2} (h : OpR X f r) (h' : OpR X f r') : OpR X f (fun x y H Q => r x y H Q ∨ r' x y H Q) := fun pins s σ H x y v u Q I rx ry q => q.elim (h pins s σ H x y v u Q I rx ry) (h' pins s σ H x y v u Q I rx ry)
theorem cr_or2 {f : Value} {r r' : List V → Hp → VK → Prop} (h : CallR X f r) (h' : CallR X f r') : CallR X f (fun x H Q => r x H Q ∨ r' x H Q) := fun pins s σ H xs us Q I r q => q.elim (h pins s σ H xs us Q I r) (h' pins s σ H xs us Q I r)
end
section
variable {X : Cx} {mg : Gm} {W : WX} {e a b c : Expr} {es : List Expr} {pos : Pos}

/-! ### names, constants -/
def var (i : Nat) : E MV := fun ρ s => match ρ[i]? with
  | some (some v) => .ok v s
  | _ => .no
theorem es_var {i : Nat} (h : PE X e (tVar i)) : PE X e (tM mg W (var i)) := pe_imp h fun σ H Q ⟨w, ρ, s, env, hr, c⟩ => by
  unfold var at c
  split at c
  · rename_i v hv
    obtain ⟨x, h1, h2⟩ := env.2.1 i v hv
    exact ⟨x, h1, c w x H (Ext.refl _ _) hr h2⟩
  · exact c.elim
def cst (x : PV) : E MV := ret (.p x)
theorem es_c {x : PV} {v : V} (h : PE X e (tC v)) (r : ∀ B H, Rep mg B H x v) : PE X e (tM mg W (cst x)) := pe_imp h fun σ H Q ⟨w, ρ, s, env, hr, c⟩ => c w v H (Ext.refl _ _) hr (r _ _)
theorem es_int {i : Int} (h : PE X e (tC (.int i))) : PE X e (tM mg W (cst (.int i))) := es_c h fun _ _ => by rw [Rep]
theorem es_bl {i : Bool} (h : PE X e (tC (.bl i))) : PE X e (tM mg W (cst (.bl i))) := es_c h fun _ _ => by rw [Rep]
theorem es_str {i : Str} (h : PE X e (tC (.str i))) : PE X e (tM mg W (cst (.str i))) := es_c h fun _ _ => by rw [Rep]
theorem es_non (h : PE X e (tC .non)) : PE X e (tM mg W (cst .non)) := es_c h fun _ _ => by rw [Rep]
theorem es_ty {i : String} (h : PE X e (tC (.ty i))) : PE X e (tM mg W (cst (.ty i))) := es_c h fun _ _ => by rw [Rep]

/-! ### operators by values -/
abbrev Op2 := MV → MV → S → Res MV
abbrev Op1 := MV → S → Res MV
def bin (g : Op2) (ma mb : E MV) : E MV := bind ma fun a => bind mb fun b => lift (g a b)
def un (g : Op1) (ma : E MV) : E MV := bind ma fun a => lift (g a)
variable (mg) in
def SimOp (r : R2) (g : Op2) : Prop := ∀ w s H a b x y X Q, HR mg w s H → MRep mg w H a x → MRep mg w H b y → CE mg (MRep mg) X w H (g a b s) Q → r x y H Q
variable (mg) in
def SimUn (r : V → Hp → VK → Prop) (g : Op1) : Prop := ∀ w s H a x X Q, HR mg w s H → MRep mg w H a x → CE mg (MRep mg) X w H (g a s) Q → r x H Q
theorem es_bin {r : R2} {g : Op2} {ma mb : E MV} (h : PE X e (tOp r (tM mg W ma) (tM mg W mb))) (sim : SimOp mg r g) : PE X e (tM mg W (bin g ma mb)) := pe_imp h fun σ H Q ⟨w, ρ, s, env, hr, c⟩ => by
  refine ⟨w, ρ, s, env, hr, (CE.bind (r := ma ρ s) c).mono fun x H1 ⟨a, s1, w1, e1, hr1, ra, c1⟩ => ?_⟩
  refine ⟨w1, ρ, s1, env.ext e1, hr1, (CE.bind (r := mb ρ s1) c1).mono fun y H2 ⟨b, s2, w2, e2, hr2, rb, c2⟩ => ?_⟩
  exact sim _ _ _ _ _ _ _ _ _ hr2 (ra.ext e2) rb c2
theorem es_un {r : V → Hp → VK → Prop} {g : Op1} {ma : E MV} (h : PE X e (tUn r (tM mg W ma))) (sim : SimUn mg r g) : PE X e (tM mg W (un g ma)) := pe_imp h fun σ H Q ⟨w, ρ, s, env, hr, c⟩ => by
  refine ⟨w, ρ, s, env, hr, (CE.bind (r := ma ρ s) c).mono fun x H1 ⟨a, s1, w1, e1, hr1, ra, c1⟩ => ?_⟩
  exact sim _ _ _ _ _ _ _ hr1 ra c1
theorem CE.okP {w : Wd} {H : Hp} {s : S} {X : XK} {x : PV} {Q : VK} (h : CE mg (MRep mg) X w H (.ok (.p x) s) Q) (hr : HR mg w s H) {v : V} (r : Rep mg w.bad H x v) : Q v H := h w v H (Ext.refl _ _) hr r

/-- the content of a thing that is only read: a value, or a list of values that may change -/
def allP : List MV → Option (List PV)
  | [] => some []
  | .p x :: t => match allP t with
    | some r => some (x :: r)
    | none => none
  | _ :: _ => none
theorem allP_eq : ∀ {xs : List MV} {ys : List PV}, allP xs = some ys → xs = ys.map MV.p
  | [], ys, h => by cases h; rfl
  | .p x :: t, ys, h => by
    unfold allP at h
    split at h
    · rename_i r hr; cases h; rw [allP_eq hr]; rfl
    · cases h
  | .o _ :: _, _, h => by cases h
  | .g :: _, _, h => by cases h
theorem allP_map : ∀ (ys : List PV), allP (ys.map MV.p) = some ys
  | [] => rfl
  | y :: t => by show (match allP (t.map MV.p) with | some r => some (y :: r) | none => none) = _; rw [allP_map t]
def lstO : Option (Option MO) → Option (List MV)
  | some (some (.lst xs)) => some xs
  | _ => none
theorem lstO_eq : ∀ {o : Option (Option MO)} {xs : List MV}, lstO o = some xs → o = some (some (.lst xs))
  | some (some (.lst _)), _, h => by cases h; rfl
  | none, _, h => nomatch h
  | some none, _, h => nomatch h
  | some (some (.dK _)), _, h => nomatch h
  | some (some (.dT _)), _, h => nomatch h
  | some (some (.ins _ _)), _, h => nomatch h
def flat (s : S) : MV → Option PV
  | .p x => some x
  | .o n => ((lstO s.h[n]?).bind allP).map PV.lst
  | .g => none
theorem flat_o {s : S} {n : Nat} {x : PV} (h : flat s (.o n) = some x) : ∃ ys, s.h[n]? = some (some (.lst (ys.map MV.p))) ∧ x = .lst ys := by
  have h' : ((lstO s.h[n]?).bind allP).map PV.lst = some x := h
  obtain ⟨ys, h1, rfl⟩ := Option.map_eq_some_iff.mp h'
  obtain ⟨xs, h2, h3⟩ := Option.bind_eq_some_iff.mp h1
  exact ⟨ys, by rw [lstO_eq h2, allP_eq h3], rfl⟩
abbrev NB : Addr → Prop := fun _ => False
theorem Rep.read {B : Addr → Prop} {H : Hp} {x : PV} {v : V} (h : Rep mg B H x v) : Rep mg NB H x v := h.imp fun _ o _ e => ⟨fun z => z, o, e, Like.refl o⟩
theorem RepL.read {B : Addr → Prop} {H : Hp} {x : List PV} {v : List V} (h : RepL mg B H x v) : RepL mg NB H x v := h.imp fun _ o _ e => ⟨fun z => z, o, e, Like.refl o⟩
theorem flat_rep {w : Wd} {s : S} {H : Hp} {a : MV} {v : V} {x : PV} (hr : HR mg w s H) (r : MRep mg w H a v) (h : flat s a = some x) : Rep mg NB H x v := by
  cases a with
  | p y => cases h; exact Rep.read r
  | g => cases h
  | o n =>
    obtain ⟨ys, hz, rfl⟩ := flat_o h
    obtain ⟨a, h1, us, h2, h3, h4⟩ := hr.ob n _ hz
    obtain ⟨_, a', e, f⟩ := r
    subst e
    obtain rfl := f a h1
    rw [Rep]
    exact ⟨a, us, rfl, fun z => z, h2, by simpa using h3, RepL.read h4.toP⟩

/-! ### data: == and repr -/
mutual
def PV.dat : PV → PyData
  | .non => .none | .bl b => .bool b | .int i => .int i | .str z => .str z
  | .tup xs => .tuple (datL xs)
  | .lst xs => .list (datL xs)
  | .ty _ => .none | .dK _ _ => .none | .dT _ _ => .none | .ins _ _ _ => .none
def datL : List PV → List PyData
  | [] => []
  | x :: t => x.dat :: datL t
end
/-- nested at most so deep -/
def PV.isD : Nat → PV → Bool
  | _, .non => true | _, .bl _ => true | _, .int _ => true | _, .str z => PyData.strOk z
  | n + 1, .tup xs => xs.all (PV.isD n)
  | n + 1, .lst xs => xs.all (PV.isD n)
  | _, _ => false
theorem datL_eq : ∀ xs : List PV, datL xs = xs.map PV.dat
  | [] => by rw [datL]; rfl
  | x :: t => by rw [datL, datL_eq t]; rfl
section
variable {K : PySem.W.Frag} {B : Addr → Prop} {H : Hp}
theorem RepL.dpAll : ∀ {xs : List PV} {us : List V}, RepL mg B H xs us → (∀ (x : PV) (v : V), x ∈ xs → Rep mg B H x v → Dp K H v x.dat) → DpAll K H us (datL xs)
  | [], us, h, _ => by rw [RepL] at h; subst h; rw [datL]; exact .nil
  | x :: t, us, h, k => by
    rw [RepL] at h
    obtain ⟨u, r, rfl, h2, h3⟩ := h
    rw [datL]
    exact .cons (k x u List.mem_cons_self h2) (RepL.dpAll h3 fun y v hy => k y v (List.mem_cons_of_mem _ hy))
theorem Rep.dp : ∀ {n : Nat} {x : PV} {v : V}, PV.isD n x = true → Rep mg B H x v → Dp K H v x.dat := by
  intro n
  induction n with
  | zero =>
    intro x v hd h
    cases x with
    | non => rw [Rep] at h; subst h; rw [PV.dat]; exact .non
    | bl b => rw [Rep] at h; subst h; rw [PV.dat]; exact .bl b
    | int i => rw [Rep] at h; subst h; rw [PV.dat]; exact .int i
    | str z => rw [Rep] at h; subst h; rw [PV.dat]; exact .str z
    | _ => simp [PV.isD] at hd
  | succ n ih =>
    intro x v hd h
    cases x with
    | non => rw [Rep] at h; subst h; rw [PV.dat]; exact .non
    | bl b => rw [Rep] at h; subst h; rw [PV.dat]; exact .bl b
    | int i => rw [Rep] at h; subst h; rw [PV.dat]; exact .int i
    | str z => rw [Rep] at h; subst h; rw [PV.dat]; exact .str z
    | tup xs =>
      rw [Rep] at h
      obtain ⟨a, us, rfl, _, h2, _, h3⟩ := h
      rw [PV.dat]
      have hd' : xs.all (PV.isD n) = true := by simpa [PV.isD] using hd
      exact .tup (SqT.of h2) (h3.dpAll fun y u hy hu => ih (List.all_eq_true.mp hd' y hy) hu)
    | lst xs =>
      rw [Rep] at h
      obtain ⟨a, us, rfl, _, h2, _, h3⟩ := h
      rw [PV.dat]
      have hd' : xs.all (PV.isD n) = true := by simpa [PV.isD] using hd
      exact .lst (SqL.of h2) (h3.dpAll fun y u hy hu => ih (List.all_eq_true.mp hd' y hy) hu)
    | _ => simp [PV.isD] at hd
end
theorem canLayAll0_of : ∀ {xs : List PV}, (∀ x ∈ xs, (PV.dat x).canLay0 = true) → PyData.canLayAll0 (datL xs) = true
  | [], _ => by rw [datL, PyData.canLayAll0]
  | x :: t, h => by
    rw [datL, PyData.canLayAll0, h x List.mem_cons_self, canLayAll0_of fun y hy => h y (List.mem_cons_of_mem _ hy)]
    rfl
theorem depthAll_of {n : Nat} : ∀ {xs : List PV}, (∀ x ∈ xs, (PV.dat x).depth ≤ n) → PyData.depthAll (datL xs) ≤ n
  | [], _ => by rw [datL, PyData.depthAll]; omega
  | x :: t, h => by
    rw [datL, PyData.depthAll]
    have h1 := h x List.mem_cons_self
    have h2 := depthAll_of (n := n) (xs := t) fun y hy => h y (List.mem_cons_of_mem _ hy)
    omega
theorem PV.isD_dat : ∀ {n : Nat} {x : PV}, PV.isD n x = true → x.dat.canLay0 = true ∧ x.dat.depth ≤ n := by
  intro n
  induction n with
  | zero =>
    intro x hd
    cases x with
    | str z => exact ⟨by rw [PV.dat, PyData.canLay0]; simpa [PV.isD] using hd, by rw [PV.dat, PyData.depth]; omega⟩
    | tup xs => simp [PV.isD] at hd
    | lst xs => simp [PV.isD] at hd
    | non => exact ⟨by rw [PV.dat, PyData.canLay0], by rw [PV.dat, PyData.depth]; omega⟩
    | bl => exact ⟨by rw [PV.dat, PyData.canLay0], by rw [PV.dat, PyData.depth]; omega⟩
    | int => exact ⟨by rw [PV.dat, PyData.canLay0], by rw [PV.dat, PyData.depth]; omega⟩
    | _ => simp [PV.isD] at hd
  | succ n ih =>
    intro x hd
    cases x with
    | str z => exact ⟨by rw [PV.dat, PyData.canLay0]; simpa [PV.isD] using hd, by rw [PV.dat, PyData.depth]; omega⟩
    | tup xs =>
      have hd' : xs.all (PV.isD n) = true := by simpa [PV.isD] using hd
      rw [PV.dat, PyData.canLay0, PyData.depth]
      exact ⟨canLayAll0_of fun y hy => (ih (List.all_eq_true.mp hd' y hy)).1, by have := depthAll_of (n := n) (xs := xs) fun y hy => (ih (List.all_eq_true.mp hd' y hy)).2; omega⟩
    | lst xs =>
      have hd' : xs.all (PV.isD n) = true := by simpa [PV.isD] using hd
      rw [PV.dat, PyData.canLay0, PyData.depth]
      exact ⟨canLayAll0_of fun y hy => (ih (List.all_eq_true.mp hd' y hy)).1, by have := depthAll_of (n := n) (xs := xs) fun y hy => (ih (List.all_eq_true.mp hd' y hy)).2; omega⟩
    | non => exact ⟨by rw [PV.dat, PyData.canLay0], by rw [PV.dat, PyData.depth]; omega⟩
    | bl => exact ⟨by rw [PV.dat, PyData.canLay0], by rw [PV.dat, PyData.depth]; omega⟩
    | int => exact ⟨by rw [PV.dat, PyData.canLay0], by rw [PV.dat, PyData.depth]; omega⟩
    | _ => simp [PV.isD] at hd
theorem PV.shaped {x : PV} (h : PV.isD 60 x = true) : SeqAt.shaped x.dat = true := by
  obtain ⟨h1, h2⟩ := PV.isD_dat h
  unfold SeqAt.shaped
  rw [h1, decide_eq_true (show x.dat.depth ≤ 64 by omega)]
  rfl
def PV.eqv (x y : PV) : Bool := PyData.eqv x.dat y.dat

def eqD (neg : Bool) : Op2 := fun a b s => match flat s a, flat s b with
  | some x, some y => if PV.isD 60 x && PV.isD 60 y then .ok (.p (.bl (if neg then !(x.eqv y) else x.eqv y))) s else .no
  | _, _ => .no
def eqV (neg : Bool) : Op2 := fun a b s => match a, b with
  | .p (.str x), .p (.str y) => .ok (.p (.bl (if neg then !decide (x = y) else decide (x = y)))) s
  | a, b => eqD neg a b s
def rEqX (K : PySem.W.Frag) : R2 := fun x y H Q => rEqD K x y H Q ∨ rEq x y H Q
def rNeX (K : PySem.W.Frag) : R2 := fun x y H Q => rNeD K x y H Q ∨ rNe x y H Q
theorem op_eqX {X : Cx} (hu : X.A.units + 64 < cLine) : OpR X (compareOp .Eq) (rEqX X.K) := op_or2 (op_eqD hu) op_eq
theorem op_neX {X : Cx} (hu : X.A.units + 64 < cLine) : OpR X (compareOp .NotEq) (rNeX X.K) := op_or2 (op_neD hu) op_ne
theorem sim_eq {K : PySem.W.Frag} : SimOp mg (rEqX K) (eqV false) := fun w s H a b x y X Q hr ra rb c => by
  unfold eqV at c
  split at c
  · rename_i p q
    have e1 : x = .str p := by have h : Rep mg w.bad H (.str p) x := ra; rw [Rep] at h; exact h
    have e2 : y = .str q := by have h : Rep mg w.bad H (.str q) y := rb; rw [Rep] at h; exact h
    subst e1; subst e2
    refine .inr ⟨rfl, ?_⟩
    have e3 : decide (V.str p = V.str q) = decide (p = q) := by simp
    rw [e3]
    exact c.okP hr (by rw [Rep]; rfl)
  · unfold eqD at c
    split at c
    · rename_i p q hp hq
      split at c
      · rename_i hd
        obtain ⟨d1, d2⟩ := Bool.and_eq_true_iff.mp hd
        exact .inl ⟨p.dat, q.dat, (flat_rep hr ra hp).dp d1, (flat_rep hr rb hq).dp d2, PV.shaped d1, PV.shaped d2, c.okP hr (by rw [Rep]; rfl)⟩
      · exact c.elim
    · exact c.elim
theorem sim_ne {K : PySem.W.Frag} : SimOp mg (rNeX K) (eqV true) := fun w s H a b x y X Q hr ra rb c => by
  unfold eqV at c
  split at c
  · rename_i p q
    have e1 : x = .str p := by have h : Rep mg w.bad H (.str p) x := ra; rw [Rep] at h; exact h
    have e2 : y = .str q := by have h : Rep mg w.bad H (.str q) y := rb; rw [Rep] at h; exact h
    subst e1; subst e2
    refine .inr ⟨rfl, ?_⟩
    have e3 : decide (V.str p = V.str q) = decide (p = q) := by simp
    rw [e3]
    exact c.okP hr (by rw [Rep]; rfl)
  · unfold eqD at c
    split at c
    · rename_i p q hp hq
      split at c
      · rename_i hd
        obtain ⟨d1, d2⟩ := Bool.and_eq_true_iff.mp hd
        exact .inl ⟨p.dat, q.dat, (flat_rep hr ra hp).dp d1, (flat_rep hr rb hq).dp d2, PV.shaped d1, PV.shaped d2, c.okP hr (by rw [Rep]; rfl)⟩
      · exact c.elim
    · exact c.elim

/-! ### numbers -/
def intOp (C : Int → Int → Bool) (f : Int → Int → PV) : Op2 := fun a b s => match a, b with
  | .p (.int i), .p (.int j) => if C i j then .ok (.p (f i j)) s else .no
  | _, _ => .no
theorem rep_int {B : Addr → Prop} {H : Hp} {i : Int} {v : V} (h : Rep mg B H (.int i) v) : v = .int i := by rw [Rep] at h; exact h
theorem rep_bl {B : Addr → Prop} {H : Hp} {i : Bool} {v : V} (h : Rep mg B H (.bl i) v) : v = .bl i := by rw [Rep] at h; exact h
theorem rep_str {B : Addr → Prop} {H : Hp} {i : Str} {v : V} (h : Rep mg B H (.str i) v) : v = .str i := by rw [Rep] at h; exact h
theorem rep_non {B : Addr → Prop} {H : Hp} {v : V} (h : Rep mg B H .non v) : v = .non := by rw [Rep] at h; exact h
theorem rep_ty {B : Addr → Prop} {H : Hp} {n : String} {v : V} (h : Rep mg B H (.ty n) v) : v = .ty n := by rw [Rep] at h; exact h
theorem m_int {w : Wd} {H : Hp} {i : Int} {v : V} (h : MRep mg w H (.p (.int i)) v) : v = .int i := rep_int (B := w.bad) (H := H) (mg := mg) h
theorem m_bl {w : Wd} {H : Hp} {i : Bool} {v : V} (h : MRep mg w H (.p (.bl i)) v) : v = .bl i := rep_bl (B := w.bad) (H := H) (mg := mg) h
theorem m_str {w : Wd} {H : Hp} {i : Str} {v : V} (h : MRep mg w H (.p (.str i)) v) : v = .str i := rep_str (B := w.bad) (H := H) (mg := mg) h
theorem m_non {w : Wd} {H : Hp} {v : V} (h : MRep mg w H (.p .non) v) : v = .non := rep_non (B := w.bad) (H := H) (mg := mg) h
theorem m_ty {w : Wd} {H : Hp} {n : String} {v : V} (h : MRep mg w H (.p (.ty n)) v) : v = .ty n := rep_ty (B := w.bad) (H := H) (mg := mg) h
theorem sim_rI {C : Int → Int → Prop} {Cb : Int → Int → Bool} {f : Int → Int → PV} {g : Int → Int → V} (hC : ∀ i j, Cb i j = true → C i j) (hf : ∀ i j B H, Rep mg B H (f i j) (g i j)) : SimOp mg (rI C g) (intOp Cb f) := fun w s H a b x y X Q hr ra rb c => by
  unfold intOp at c
  split at c
  · rename_i i j
    split at c
    · rename_i h
      exact ⟨i, j, m_int ra, m_int rb, hC i j h, c.okP hr (hf i j _ _)⟩
    · exact c.elim
  · exact c.elim
theorem sim_rI0 {f : Int → Int → PV} {g : Int → Int → V} (hf : ∀ i j B H, Rep mg B H (f i j) (g i j)) : SimOp mg (rI0 g) (intOp (fun _ _ => true) f) := fun w s H a b x y X Q hr ra rb c => by
  unfold intOp at c
  split at c
  · rename_i i j
    split at c
    · exact ⟨i, j, m_int ra, m_int rb, c.okP hr (hf i j _ _)⟩
    · exact c.elim
  · exact c.elim
def subV : Op2 := intOp (fun _ _ => true) fun i j => .int (i - j)
def xorV : Op2 := intOp (fun _ _ => true) fun i j => .int (Builtin.bitXor i j)
def divV : Op2 := intOp (fun i j => decide (0 < j) && decide (j.natAbs.log2 < 9000)) fun i j => .int (i / j)
def modV : Op2 := intOp (fun i j => decide (0 < j)) fun i j => .int (i % j)
def powV : Op2 := intOp (fun i j => decide (0 ≤ j) && decide (j ≤ 1000000) && decide (i.natAbs < 2 ^ 64)) fun i j => .int (i ^ j.toNat)
theorem es_sub {ma mb : E MV} (ha : PE X a (tM mg W ma)) (hb : PE X b (tM mg W mb)) : PE X (.BinOp a .Sub b pos) (tM mg W (bin subV ma mb)) := es_bin (pe_op op_sub ha hb) (sim_rI0 fun _ _ _ _ => by rw [Rep])
theorem es_xor {ma mb : E MV} (ha : PE X a (tM mg W ma)) (hb : PE X b (tM mg W mb)) : PE X (.BinOp a .BitXor b pos) (tM mg W (bin xorV ma mb)) := es_bin (pe_op op_xor ha hb) (sim_rI0 fun _ _ _ _ => by rw [Rep])
theorem es_div {ma mb : E MV} (ha : PE X a (tM mg W ma)) (hb : PE X b (tM mg W mb)) : PE X (.BinOp a .FloorDiv b pos) (tM mg W (bin divV ma mb)) :=
  es_bin (pe_op op_fdivW ha hb) (sim_rI (fun i j h => by simp only [Bool.and_eq_true, decide_eq_true_eq] at h; exact h) fun _ _ _ _ => by rw [Rep])
theorem es_mod {ma mb : E MV} (ha : PE X a (tM mg W ma)) (hb : PE X b (tM mg W mb)) : PE X (.BinOp a .Mod b pos) (tM mg W (bin modV ma mb)) :=
  es_bin (pe_op op_mod ha hb) (sim_rI (fun i j h => by simpa using h) fun _ _ _ _ => by rw [Rep])
theorem es_pow {ma mb : E MV} (ha : PE X a (tM mg W ma)) (hb : PE X b (tM mg W mb)) : PE X (.BinOp a .Pow b pos) (tM mg W (bin powV ma mb)) :=
  es_bin (pe_op op_pow ha hb) (sim_rI (fun i j h => by simp only [Bool.and_eq_true, decide_eq_true_eq] at h; exact ⟨h.1.1, h.1.2, h.2⟩) fun _ _ _ _ => by rw [Rep])
def negV : Op1 := fun a s => match a with
  | .p (.int i) => .ok (.p (.int (-i))) s
  | _ => .no
theorem es_neg {ma : E MV} (ha : PE X a (tM mg W ma)) : PE X (.UnaryOp .USub a pos) (tM mg W (un negV ma)) := es_un (pe_un un_neg ha) fun w s H a x X Q hr ra c => by
  unfold negV at c
  split at c
  · rename_i i; exact ⟨i, m_int ra, c.okP hr (by rw [Rep])⟩
  · exact c.elim

/-! ### + and * of numbers, texts, tuples, lists -/
theorem rep_tup {B : Addr → Prop} {H : Hp} {xs : List PV} {v : V} (h : Rep mg B H (.tup xs) v) : ∃ a us, v = .ref a ∧ ¬ B a ∧ H a = some (.tup us) ∧ xs.length ≤ sizeLine ∧ RepL mg B H xs us := by rw [Rep] at h; exact h
theorem rep_lst {B : Addr → Prop} {H : Hp} {xs : List PV} {v : V} (h : Rep mg B H (.lst xs) v) : ∃ a us, v = .ref a ∧ ¬ B a ∧ H a = some (.lst us) ∧ xs.length ≤ sizeLine ∧ RepL mg B H xs us := by rw [Rep] at h; exact h
theorem m_tup {w : Wd} {H : Hp} {xs : List PV} {v : V} (h : MRep mg w H (.p (.tup xs)) v) : ∃ a us, v = .ref a ∧ ¬ w.bad a ∧ H a = some (.tup us) ∧ xs.length ≤ sizeLine ∧ RepL mg w.bad H xs us := rep_tup h
theorem m_lst {w : Wd} {H : Hp} {xs : List PV} {v : V} (h : MRep mg w H (.p (.lst xs)) v) : ∃ a us, v = .ref a ∧ ¬ w.bad a ∧ H a = some (.lst us) ∧ xs.length ≤ sizeLine ∧ RepL mg w.bad H xs us := rep_lst h
/-- a new tuple, a new list that never changes -/
theorem CE.newT {w : Wd} {H : Hp} {s : S} {X : XK} {xs : List PV} {us : List V} {Q : VK} (h : CE mg (MRep mg) X w H (.ok (.p (.tup xs)) s) Q) (hr : HR mg w s H) (hz : xs.length ≤ sizeLine) (r : RepL mg w.bad H xs us) : ∀ p, H p = none → Q (.ref p) (upd H p (.tup us)) := fun p hp => by
  obtain ⟨e1, h1, nb⟩ := Ext.new hr hp (.tup us)
  exact h w _ _ e1 h1 (show Rep mg w.bad _ _ _ by rw [Rep]; exact ⟨p, us, rfl, nb, upd_same, hz, r.imp e1.keep⟩)
theorem CE.newL {w : Wd} {H : Hp} {s : S} {X : XK} {xs : List PV} {us : List V} {Q : VK} (h : CE mg (MRep mg) X w H (.ok (.p (.lst xs)) s) Q) (hr : HR mg w s H) (hz : xs.length ≤ sizeLine) (r : RepL mg w.bad H xs us) : ∀ p, H p = none → Q (.ref p) (upd H p (.lst us)) := fun p hp => by
  obtain ⟨e1, h1, nb⟩ := Ext.new hr hp (.lst us)
  exact h w _ _ e1 h1 (show Rep mg w.bad _ _ _ by rw [Rep]; exact ⟨p, us, rfl, nb, upd_same, hz, r.imp e1.keep⟩)
/-- the content of a list, read where its items are values -/
def seqL (s : S) (a : MV) : Option (List PV) := match flat s a with
  | some (.lst xs) => some xs
  | _ => none
theorem seqL_rep {w : Wd} {s : S} {H : Hp} {a : MV} {v : V} {xs : List PV} (hr : HR mg w s H) (r : MRep mg w H a v) (h : seqL s a = some xs) : ∃ p us, v = .ref p ∧ H p = some (.lst us) ∧ xs.length ≤ sizeLine ∧ RepL mg w.bad H xs us := by
  cases a with
  | p y =>
    unfold seqL at h
    rw [show flat s (.p y) = some y from rfl] at h
    cases y with
    | lst zs =>
      cases h
      obtain ⟨p, us, h1, _, h2, h3, h4⟩ := m_lst r
      exact ⟨p, us, h1, h2, h3, h4⟩
    | _ => cases h
  | g => cases h
  | o n =>
    unfold seqL at h
    split at h
    · rename_i ys hy
      cases h
      obtain ⟨zs, hz, e0⟩ := flat_o hy
      cases e0
      obtain ⟨a, h1, us, h2, h3, h4⟩ := hr.ob n _ hz
      obtain ⟨_, a', e, f⟩ := r
      obtain rfl := f a h1
      exact ⟨a, us, e, h2, by simpa using h3, h4.toP⟩
    · cases h
def addV : Op2 := fun a b s => match a, b with
  | .p (.int i), .p (.int j) => .ok (.p (.int (i + j))) s
  | .p (.int i), .p (.bl j) => .ok (.p (.int (i + b2i j))) s
  | .p (.str i), .p (.str j) => if i.length + j.length ≤ sizeLine then .ok (.p (.str (i ++ j))) s else .no
  | .p (.tup xs), .p (.tup ys) => if xs.length + ys.length ≤ sizeLine then .ok (.p (.tup (xs ++ ys))) s else .no
  | a, b => match seqL s a, seqL s b with
    | some xs, some ys => if xs.length + ys.length ≤ sizeLine then .ok (.p (.lst (xs ++ ys))) s else .no
    | _, _ => .no
def rAddS : R2 := fun x y H Q => ∃ i j, x = .str i ∧ y = .str j ∧ i.length + j.length ≤ sizeLine ∧ Q (.str (i ++ j)) H
def rAddIB : R2 := fun x y H Q => ∃ i k, x = .int i ∧ y = .bl k ∧ Q (.int (i + b2i k)) H
def rAdd (K : PySem.W.Frag) : R2 := fun x y H Q => rI0 (fun i j => .int (i + j)) x y H Q ∨ rAddIB x y H Q ∨ rAddS x y H Q ∨ rCatT K x y H Q ∨ rCatT0 K x y H Q ∨ rCat x y H Q
theorem op_addAll : OpR X (binaryOp .Add) (rAdd X.K) := op_or2 op_add (op_or2 op_add_ib (op_or2 op_add_str (op_or2 op_catT (op_or2 op_catT0 op_cat))))
theorem sim_add {K : PySem.W.Frag} : SimOp mg (rAdd K) addV := fun w s H a b x y X Q hr ra rb c => by
  unfold addV at c
  split at c
  · rename_i i j
    exact .inl ⟨i, j, m_int ra, m_int rb, c.okP hr (by rw [Rep])⟩
  · rename_i i j
    exact .inr (.inl ⟨i, j, m_int ra, m_bl rb, c.okP hr (by rw [Rep])⟩)
  · rename_i i j
    split at c
    · rename_i hz
      exact .inr (.inr (.inl ⟨i, j, m_str ra, m_str rb, hz, c.okP hr (by rw [Rep])⟩))
    · exact c.elim
  · rename_i xs ys
    split at c
    · rename_i hz
      obtain ⟨p, us, rfl, np, hp, _, rp⟩ := m_tup ra
      obtain ⟨q, vs, rfl, nq, hq, lq, rq⟩ := m_tup rb
      by_cases hx : xs = []
      · subst hx
        rw [RepL] at rp
        subst rp
        exact .inr (.inr (.inr (.inr (.inl ⟨p, q, vs, rfl, rfl, SqT.of hp, SqT.of hq, c.okP hr (by rw [List.nil_append]; exact rb)⟩))))
      · refine .inr (.inr (.inr (.inl ⟨p, q, us, vs, rfl, rfl, SqT.of hp, SqT.of hq, fun z => hx ?_, by rw [rp.len, rq.len]; exact hz, fun z => ?_, fun _ => c.newT hr (by rw [List.length_append]; exact hz) (rp.append rq)⟩)))
        · have := rp.len; rw [z] at this; exact List.length_eq_zero_iff.mp this.symm
        · have e : ys = [] := by have := rq.len; rw [z] at this; exact List.length_eq_zero_iff.mp this.symm
          subst e
          exact c.okP hr (by rw [List.append_nil]; exact ra)
    · exact c.elim
  · split at c
    · rename_i xs ys hx hy
      split at c
      · rename_i hz
        obtain ⟨p, us, rfl, hp, _, rp⟩ := seqL_rep hr ra hx
        obtain ⟨q, vs, rfl, hq, _, rq⟩ := seqL_rep hr rb hy
        exact .inr (.inr (.inr (.inr (.inr ⟨p, q, us, vs, rfl, rfl, hp, hq, by rw [rp.len, rq.len]; exact hz, c.newL hr (by rw [List.length_append]; exact hz) (rp.append rq)⟩))))
      · exact c.elim
    · exact c.elim
theorem es_add {ma mb : E MV} (ha : PE X a (tM mg W ma)) (hb : PE X b (tM mg W mb)) : PE X (.BinOp a .Add b pos) (tM mg W (bin addV ma mb)) := es_bin (pe_op op_addAll ha hb) sim_add
end
end MP

/-! ## MExp2 -/
set_option Elab.async false
set_option linter.all false
set_option maxRecDepth 100000
set_option maxHeartbeats 2000000
/-! MP: comparisons, tests, displays, items, slices, dicts -/
namespace MP
open PySem PySem.Spec PyProof.Rows L2 AK

/-! ## objects that may change: written, made -/
section
variable {mg : Str → Option Value} {w : Wd} {H : Hp} {s : S}
def S.put (s : S) (n : Nat) (o : MO) : S := { s with h := s.h.set n (some o) }
def S.new (s : S) (o : MO) : S := { s with h := s.h ++ [some o] }
theorem HR.addr (hr : HR mg w s H) {n : Nat} {o : MO} (h : s.h[n]? = some (some o)) {v : V} (r : MRep mg w H (.o n) v) : ∃ a, v = .ref a ∧ w.μ[n]? = some (some a) ∧ ORep mg w H a o ∧ w.bad a := by
  obtain ⟨a, h1, h2⟩ := hr.ob n o h
  obtain ⟨_, a', e, f⟩ := r
  obtain rfl := f a h1
  exact ⟨a, e, h1, h2, .inl ⟨n, h1⟩⟩
theorem ne_bad {c a : Addr} (n : ¬ w.bad c) (b : w.bad a) : c ≠ a := fun z => n (z ▸ b)
theorem Ext.write (hr : HR mg w s H) {n : Nat} {a : Addr} (ha : w.μ[n]? = some (some a)) (o : HO) : Ext w H w (upd H a o) := ⟨Nat.le_refl _, fun _ _ _ h => h, .inr rfl, fun c u n q => ⟨n, u, by rw [upd_ne (ne_bad n (.inl ⟨_, ha⟩))]; exact q, Like.refl u⟩,
  fun c hc => ⟨hc, upd_ne fun z => (hr.ap c hc).1 n (by rw [z]; exact ha)⟩⟩
theorem HR.write (hr : HR mg w s H) {n : Nat} {o o' : MO} {a : Addr} {ho : HO} (h : s.h[n]? = some (some o)) (ha : w.μ[n]? = some (some a)) (new : ORep mg w (upd H a ho) a o') : HR mg w (s.put n o') (upd H a ho) := by
  have b : w.bad a := .inl ⟨n, ha⟩
  have e := Ext.write hr ha ho
  refine ⟨by show (s.h.set n _).length = _; rw [List.length_set]; exact hr.len, fun m u q => ?_, hr.inj, fun c hc => ?_, hr.ap, ?_⟩
  · have q' : (s.h.set n (some o'))[m]? = some (some u) := q
    by_cases hm : m = n
    · subst hm
      rw [List.getElem?_set_self (List.getElem?_eq_some_iff.mp h).1] at q'
      cases q'
      exact ⟨a, ha, new⟩
    · rw [List.getElem?_set_ne (Ne.symm hm)] at q'
      obtain ⟨c, h1, h2⟩ := hr.ob m u q'
      have hc : c ≠ a := fun z => hm (hr.inj m n c h1 (z ▸ ha))
      exact ⟨c, h1, h2.ext e (upd_ne hc)⟩
  · by_cases z : c = a
    · subst z; rw [upd_same]; exact fun z => nomatch z
    · rw [upd_ne z]; exact hr.there c hc
  · have := hr.rn
    revert this
    show GRep w H s.g → GRep w (upd H a ho) s.g
    cases s.g with
    | none => exact fun h => h
    | some r =>
      rintro ⟨x, c, h1, h2, h3, h4, h5, h6, h7, h8, h9⟩
      exact ⟨x, c, h1, h2, by rw [upd_ne (show x ≠ a from fun z => (h9 n).1 (by rw [z]; exact ha))]; exact h3, by rw [upd_ne (show c ≠ a from fun z => (h9 n).2 (by rw [z]; exact ha))]; exact h4, h5, h6, h7, h8, h9⟩
def Wd.new (w : Wd) (p : Addr) : Wd := { w with μ := w.μ ++ [some p] }
theorem Wd.new_bad {p a : Addr} : (w.new p).bad a ↔ a = p ∨ w.bad a := by
  constructor
  · rintro (⟨n, h⟩ | h)
    · have h' : (w.μ ++ [some p])[n]? = some (some a) := h
      by_cases hn : n < w.μ.length
      · rw [List.getElem?_append_left hn] at h'
        exact .inr (.inl ⟨n, h'⟩)
      · rw [List.getElem?_append_right (by omega)] at h'
        have : n - w.μ.length = 0 := by
          have := (List.getElem?_eq_some_iff.mp h').1
          simp at this
          omega
        rw [this] at h'
        cases h'
        exact .inl rfl
    · exact .inr (.inr h)
  · rintro (rfl | ⟨n, h⟩ | h)
    · exact .inl ⟨w.μ.length, by show (w.μ ++ [some a])[w.μ.length]? = _; rw [List.getElem?_append_right (Nat.le_refl _), Nat.sub_self]; rfl⟩
    · exact .inl ⟨n, by show (w.μ ++ [some p])[n]? = _; rw [List.getElem?_append_left (List.getElem?_eq_some_iff.mp h).1]; exact h⟩
    · exact .inr h
theorem Ext.alloc (hr : HR mg w s H) {p : Addr} (hp : H p = none) (ho : HO) : Ext w H (w.new p) (upd H p ho) := by
  refine ⟨by show w.μ.length ≤ (w.μ ++ [some p]).length; simp, fun n a hn h => ?_, .inr rfl, fun a u n q => ⟨fun b => ?_, u, by rw [upd_ne (ne_of_none q hp)]; exact q, Like.refl u⟩, fun c hc => ⟨hc, upd_ne fun z => hr.there c (.inr (.inr hc)) (by rw [z]; exact hp)⟩⟩
  · have h' : (w.μ ++ [some p])[n]? = some (some a) := h
    rw [List.getElem?_append_left hn] at h'
    exact h'
  · rcases Wd.new_bad.mp b with rfl | b
    · rw [hp] at q; cases q
    · exact n b
theorem HR.alloc (hr : HR mg w s H) {p : Addr} (hp : H p = none) {ho : HO} {o : MO} (new : ORep mg (w.new p) (upd H p ho) p o) : HR mg (w.new p) (s.new o) (upd H p ho) := by
  have nb : ¬ w.bad p := fun b => hr.there p b hp
  have e := Ext.alloc hr hp ho
  have nl : (w.new p).μ = w.μ ++ [some p] := rfl
  have at_ : ∀ (n : Nat) (a : Addr), (w.new p).μ[n]? = some (some a) → (n < w.μ.length ∧ w.μ[n]? = some (some a)) ∨ (n = w.μ.length ∧ a = p) := fun n a h => by
    rw [nl] at h
    by_cases hn : n < w.μ.length
    · rw [List.getElem?_append_left hn] at h; exact .inl ⟨hn, h⟩
    · rw [List.getElem?_append_right (by omega)] at h
      have : n - w.μ.length = 0 := by
        have := (List.getElem?_eq_some_iff.mp h).1
        simp at this
        omega
      rw [this] at h
      cases h
      exact .inr ⟨by omega, rfl⟩
  refine ⟨by show (s.h ++ [some o]).length = (w.μ ++ [some p]).length; simp [hr.len], fun m u q => ?_, fun n m a h1 h2 => ?_, fun c hc => ?_, fun c hc => ⟨fun n z => ?_, fun q e => (hr.ap c hc).2 q e⟩, ?_⟩
  · have q' : (s.h ++ [some o])[m]? = some (some u) := q
    by_cases hm : m < s.h.length
    · rw [List.getElem?_append_left hm] at q'
      obtain ⟨c, h1, h2⟩ := hr.ob m u q'
      have hc : c ≠ p := fun z => nb (z ▸ .inl ⟨m, h1⟩)
      exact ⟨c, by rw [nl, List.getElem?_append_left (by rw [← hr.len]; exact hm)]; exact h1, h2.ext e (upd_ne hc)⟩
    · rw [List.getElem?_append_right (by omega)] at q'
      have hz : m - s.h.length = 0 := by
        have := (List.getElem?_eq_some_iff.mp q').1
        simp at this
        omega
      rw [hz] at q'
      cases q'
      have hm2 : m = w.μ.length := by have := hr.len; omega
      exact ⟨p, by rw [nl, hm2, List.getElem?_append_right (Nat.le_refl _), Nat.sub_self]; rfl, new⟩
  · rcases at_ n a h1 with ⟨l1, q1⟩ | ⟨l1, q1⟩
    · rcases at_ m a h2 with ⟨l2, q2⟩ | ⟨l2, q2⟩
      · exact hr.inj n m a q1 q2
      · subst q2; exact (nb (.inl ⟨n, q1⟩)).elim
    · rcases at_ m a h2 with ⟨l2, q2⟩ | ⟨l2, q2⟩
      · subst q1; exact (nb (.inl ⟨m, q2⟩)).elim
      · omega
  · rcases Wd.new_bad.mp hc with rfl | hc
    · rw [upd_same]; exact fun z => nomatch z
    · rw [upd_ne (show c ≠ p from fun z => nb (z ▸ hc))]; exact hr.there c hc
  · rcases at_ n c z with ⟨_, q⟩ | ⟨_, q⟩
    · exact (hr.ap c hc).1 n q
    · exact hr.there c (.inr (.inr hc)) (by rw [q]; exact hp)
  · have := hr.rn
    revert this
    show GRep w H s.g → GRep (w.new p) (upd H p ho) s.g
    cases s.g with
    | none => exact fun h => h
    | some r =>
      rintro ⟨x, c, h1, h2, h3, h4, h5, h6, h7, h8, h9⟩
      refine ⟨x, c, h1, h2, by rw [upd_ne (ne_of_none h3 hp)]; exact h3, by rw [upd_ne (ne_of_none h4 hp)]; exact h4, h5, h6, h7, h8, fun n => ⟨fun z => ?_, fun z => ?_⟩⟩
      · rcases at_ n x z with ⟨_, q⟩ | ⟨_, q⟩
        · exact (h9 n).1 q
        · exact ne_of_none h3 hp q
      · rcases at_ n c z with ⟨_, q⟩ | ⟨_, q⟩
        · exact (h9 n).2 q
        · exact ne_of_none h4 hp q
theorem MRep.fresh (hr : HR mg w s H) {p : Addr} {H' : Hp} : MRep mg (w.new p) H' (.o s.h.length) (.ref p) := by
  refine ⟨by show s.h.length < (w.μ ++ [some p]).length; rw [hr.len]; simp, p, rfl, fun a h => ?_⟩
  have h' : (w.μ ++ [some p])[s.h.length]? = some (some a) := h
  rw [hr.len, List.getElem?_append_right (Nat.le_refl _), Nat.sub_self] at h'
  cases h'
  rfl
end

section
variable {X : Cx} {mg : Gm} {W : WX} {e a b c : Expr} {es : List Expr} {pos : Pos} {k : Nat}
theorem bin_to {r : R2} {g : Op2} {ma mb : E MV} (sim : SimOp mg r g) {σ : L2.St} {H : Hp} {Q : VK} (q : tM mg W (bin g ma mb) σ H Q) : tOp r (tM mg W ma) (tM mg W mb) σ H Q := by
  obtain ⟨w, ρ, s, env, hr, c⟩ := q
  refine ⟨w, ρ, s, env, hr, (CE.bind (r := ma ρ s) c).mono fun x H1 ⟨a, s1, w1, e1, hr1, ra, c1⟩ => ?_⟩
  refine ⟨w1, ρ, s1, env.ext e1, hr1, (CE.bind (r := mb ρ s1) c1).mono fun y H2 ⟨b, s2, w2, e2, hr2, rb, c2⟩ => ?_⟩
  exact sim _ _ _ _ _ _ _ _ _ hr2 (ra.ext e2) rb c2
/-! ## tests -/
def asB : MV → S → Res Bool
  | .p (.bl b), s => .ok b s
  | _, _ => .no
def test (m : E MV) : E Bool := bind m fun v => lift (asB v)
theorem test_to {m : E MV} {σ : L2.St} {H : Hp} {Q : Bool → Hp → Prop} (q : tMB mg W (test m) σ H Q) : tM mg W m σ H fun x H' => ∃ k, x = .bl k ∧ Q k H' := by
  obtain ⟨w, ρ, s, env, hr, c⟩ := q
  refine ⟨w, ρ, s, env, hr, (CE.bind (r := m ρ s) c).mono fun x H1 ⟨a, s1, w1, e1, hr1, ra, c1⟩ => ?_⟩
  cases a with
  | p y =>
    cases y with
    | bl b => exact ⟨b, m_bl ra, c1 w1 b H1 (Ext.refl _ _) hr1 rfl⟩
    | _ => exact c1.elim
  | _ => exact c1.elim
theorem et_val {m : E MV} (h : PE X e (tM mg W m)) (he : ∀ whole, isTrue e X.env whole = (do let v ← whole; standAt e.pos; holding [v] (truthy v)) := by intro _; rfl) : PT X e (tMB mg W (test m)) := pt_imp (pt_val h he) fun _ _ _ q => test_to q
theorem es_cmp {op : CmpOp} {r : R2} {g : Op2} {ma mb : E MV} (ho : OpR X (compareOp op) r) (sim : SimOp mg r g) (ha : PE X a (tM mg W ma)) (hb : PE X b (tM mg W mb)) (hm : behindInMarks op b = false) : PE X (.Compare a [op] [b] pos) (tM mg W (bin g ma mb)) :=
  pe_imp (pe_cmpR ho ha hb hm) fun _ _ _ q => bin_to sim q
theorem et_cmp {op : CmpOp} {r : R2} {g : Op2} {ma mb : E MV} (ho : OpR X (compareOp op) r) (sim : SimOp mg r g) (ha : PE X a (tM mg W ma)) (hb : PE X b (tM mg W mb)) (hm : behindInMarks op b = false) : PT X (.Compare a [op] [b] pos) (tMB mg W (test (bin g ma mb))) :=
  pt_imp (pt_cmpR ho ha hb hm) fun _ _ _ q => bin_to sim (test_to q)
/-- a op b op' c -/
def chain (g g' : Op2) (ma mb mc : E MV) : E MV := bind ma fun a => bind mb fun b => bind (test (lift (g a b))) fun k => if k = true then bind mc fun c => lift (g' b c) else cst (.bl false)
theorem chain_to {r r' : R2} {g g' : Op2} {ma mb mc : E MV} (sim : SimOp mg r g) (sim' : SimOp mg r' g') {σ : L2.St} {H : Hp} {Q : VK} (q : tM mg W (chain g g' ma mb mc) σ H Q) : tChain r r' (tM mg W ma) (tM mg W mb) (tM mg W mc) σ H Q := by
  obtain ⟨w, ρ, s, env, hr, c⟩ := q
  refine ⟨w, ρ, s, env, hr, (CE.bind (r := ma ρ s) c).mono fun x H1 ⟨a, s1, w1, e1, hr1, ra, c1⟩ => ?_⟩
  refine ⟨w1, ρ, s1, env.ext e1, hr1, (CE.bind (r := mb ρ s1) c1).mono fun y H2 ⟨b, s2, w2, e2, hr2, rb, c2⟩ => ?_⟩
  refine sim _ _ _ _ _ _ _ (fun c d H => W c d σ H) _ hr2 (ra.ext e2) rb ((CE.bind (r := g a b s2) (CE.bind (R := RB) (r := (test (lift (g a b))) ρ s2) c2)).mono fun z H3 ⟨v, s3, w3, e3, hr3, rv, c3⟩ => ?_)
  cases v with
  | p u =>
    cases u with
    | bl k =>
      refine ⟨k, m_bl rv, ?_⟩
      obtain ⟨k', s4, w4, e4, hr4, rk, c4⟩ := c3 w3 k H3 (Ext.refl _ _) hr3 rfl
      obtain rfl : k = k' := rk
      cases k with
      | true =>
        rw [if_pos rfl]
        have c4 : CE mg (MRep mg) (fun c d H => W c d σ H) w4 H3 (bind mc (fun c => lift (g' b c)) ρ s4) Q := c4
        refine ⟨w4, ρ, s4, ((env.ext e1).ext e2).ext e4, hr4, (CE.bind (r := mc ρ s4) c4).mono fun y' H4 ⟨c, s5, w5, e5, hr5, rc, c5⟩ => ?_⟩
        exact sim' _ _ _ _ _ _ _ _ _ hr5 (rb.ext (e4.trans e5)) rc c5
      | false =>
        rw [if_neg Bool.false_ne_true]
        exact c4 w4 (.bl false) H3 (Ext.refl _ _) hr4 (show Rep mg _ _ _ _ by rw [Rep])
    | _ => exact c3.elim
  | _ => exact c3.elim
theorem es_chain {op op' : CmpOp} {r r' : R2} {g g' : Op2} {ma mb mc : E MV} (ho : OpR X (compareOp op) r) (sim : SimOp mg r g) (ho' : OpR X (compareOp op') r') (sim' : SimOp mg r' g') (ha : PE X a (tM mg W ma)) (hb : PE X b (tM mg W mb)) (hc : PE X c (tM mg W mc))
    (hm : lastMarks [op, op'] [b, c] = false := by with_unfolding_all rfl) : PE X (.Compare a [op, op'] [b, c] pos) (tM mg W (chain g g' ma mb mc)) := pe_imp (pe_chain ho ho' ha hb hc hm) fun _ _ _ q => chain_to sim sim' q
theorem et_chain {op op' : CmpOp} {r r' : R2} {g g' : Op2} {ma mb mc : E MV} (ho : OpR X (compareOp op) r) (sim : SimOp mg r g) (ho' : OpR X (compareOp op') r') (sim' : SimOp mg r' g') (ha : PE X a (tM mg W ma)) (hb : PE X b (tM mg W mb)) (hc : PE X c (tM mg W mc))
    (hm : lastMarks [op, op'] [b, c] = false := by with_unfolding_all rfl) : PT X (.Compare a [op, op'] [b, c] pos) (tMB mg W (test (chain g g' ma mb mc))) := pt_imp (pt_chain ho ho' ha hb hc hm) fun _ _ _ q => chain_to sim sim' (test_to q)

/-! the operators < <= > >= , is None -/
def ordV (f : Int → Int → Bool) (g : Str → Str → Bool) (t : List Int → List Int → Option Bool) : Op2 := fun a b s => match a, b with
  | .p (.int i), .p (.int j) => .ok (.p (.bl (f i j))) s
  | .p (.str i), .p (.str j) => .ok (.p (.bl (g i j))) s
  | .p (.tup xs), .p (.tup ys) => match asInts xs, asInts ys with
    | some ns, some ms => match t ns ms with
      | some r => .ok (.p (.bl r)) s
      | none => .no
    | _, _ => .no
  | _, _ => .no
where
  asInts : List PV → Option (List Int)
    | [] => some []
    | .int i :: t => (asInts t).map (i :: ·)
    | _ :: _ => none
theorem asInts_eq : ∀ {xs : List PV} {ns : List Int}, ordV.asInts xs = some ns → xs = ns.map PV.int
  | [], ns, h => by cases h; rfl
  | x :: t, ns, h => by
    cases x with
    | int i =>
      have h' : (ordV.asInts t).map (i :: ·) = some ns := h
      obtain ⟨ms, h1, rfl⟩ := Option.map_eq_some_iff.mp h'
      rw [asInts_eq h1]; rfl
    | _ => cases h
theorem asInts_map : ∀ (ns : List Int), ordV.asInts (ns.map PV.int) = some ns
  | [] => rfl
  | n :: t => by show (ordV.asInts (t.map PV.int)).map (n :: ·) = _; rw [asInts_map t]; rfl
theorem RepL.ints {B : Addr → Prop} {H : Hp} : ∀ {ns : List Int} {us : List V}, RepL mg B H (ns.map PV.int) us → us = ns.map V.int
  | [], us, h => by rw [List.map_nil, RepL] at h; rw [h]; rfl
  | n :: t, us, h => by
    rw [List.map_cons, RepL] at h
    obtain ⟨u, r, rfl, h2, h3⟩ := h
    rw [rep_int h2, RepL.ints h3]; rfl
theorem RepL.strs {B : Addr → Prop} {H : Hp} : ∀ {ns : List Str} {us : List V}, RepL mg B H (ns.map PV.str) us → us = ns.map V.str
  | [], us, h => by rw [List.map_nil, RepL] at h; rw [h]; rfl
  | n :: t, us, h => by
    rw [List.map_cons, RepL] at h
    obtain ⟨u, r, rfl, h2, h3⟩ := h
    rw [rep_str h2, RepL.strs h3]; rfl
theorem RepL.bools {B : Addr → Prop} {H : Hp} : ∀ {ns : List Bool} {us : List V}, RepL mg B H (ns.map PV.bl) us → us = ns.map V.bl
  | [], us, h => by rw [List.map_nil, RepL] at h; rw [h]; rfl
  | n :: t, us, h => by
    rw [List.map_cons, RepL] at h
    obtain ⟨u, r, rfl, h2, h3⟩ := h
    rw [rep_bl h2, RepL.bools h3]; rfl
def strLt (i j : Str) : Bool := decide (i.cps.toList < j.cps.toList)
def ltV : Op2 := ordV (fun i j => decide (i < j)) strLt fun a b => some (HT.lexLt a b)
def leV : Op2 := ordV (fun i j => decide (i ≤ j)) (fun i j => !strLt j i) fun _ _ => none
def gtV : Op2 := ordV (fun i j => decide (j < i)) (fun i j => strLt j i) fun _ _ => none
def geV : Op2 := ordV (fun i j => decide (j ≤ i)) (fun i j => !strLt i j) fun _ _ => none
def rStr2 (g : Str → Str → Bool) : R2 := fun x y H Q => ∃ i j, x = .str i ∧ y = .str j ∧ Q (.bl (g i j)) H
def rOrd (f : Int → Int → Bool) (g : Str → Str → Bool) : R2 := fun x y H Q => rI0 (fun i j => .bl (f i j)) x y H Q ∨ rStr2 g x y H Q
theorem op_leA : OpR X (compareOp .LtE) (rOrd (fun i j => decide (i ≤ j)) fun i j => !strLt j i) := op_or2 op_le op_le_str
theorem op_gtA : OpR X (compareOp .Gt) (rOrd (fun i j => decide (j < i)) fun i j => strLt j i) := op_or2 op_gt op_gt_str
theorem op_geA : OpR X (compareOp .GtE) (rOrd (fun i j => decide (j ≤ i)) fun i j => !strLt i j) := op_or2 op_ge op_ge_str
def rLtA (K : PySem.W.Frag) : R2 := fun x y H Q => rOrd (fun i j => decide (i < j)) strLt x y H Q ∨ rLtT K x y H Q
theorem op_ltA (hr : Room k X.A) : OpR X (compareOp .Lt) (rLtA X.K) := op_or2 (op_or2 op_lt op_lt_str) (op_ltT hr.units0)
theorem sim_ord {f : Int → Int → Bool} {g : Str → Str → Bool} : SimOp mg (rOrd f g) (ordV f g fun _ _ => none) := fun w s H a b x y X Q hr ra rb c => by
  unfold ordV at c
  split at c
  · exact .inl ⟨_, _, m_int ra, m_int rb, c.okP hr (by rw [Rep])⟩
  · exact .inr ⟨_, _, m_str ra, m_str rb, c.okP hr (by rw [Rep])⟩
  · split at c
    · exact c.elim
    · exact c.elim
  · exact c.elim
theorem sim_lt {K : PySem.W.Frag} : SimOp mg (rLtA K) ltV := fun w s H a b x y X Q hr ra rb c => by
  unfold ltV ordV at c
  split at c
  · exact .inl (.inl ⟨_, _, m_int ra, m_int rb, c.okP hr (by rw [Rep])⟩)
  · exact .inl (.inr ⟨_, _, m_str ra, m_str rb, c.okP hr (by rw [Rep])⟩)
  · split at c
    · rename_i xs ys ns ms h1 h2
      obtain rfl := asInts_eq h1
      obtain rfl := asInts_eq h2
      obtain ⟨p, us, rfl, np, hp, _, rp⟩ := m_tup ra
      obtain ⟨q, vs, rfl, nq, hq, lq, rq⟩ := m_tup rb
      rw [rp.ints] at hp
      rw [rq.ints] at hq
      exact .inr ⟨p, q, ns, ms, rfl, rfl, SqT.of hp, SqT.of hq, c.okP hr (by rw [Rep])⟩
    · exact c.elim
  · exact c.elim
def isN (neg : Bool) : Op1 := fun a s => match a with
  | .p .non => .ok (.p (.bl (!neg))) s
  | _ => .ok (.p (.bl neg)) s
theorem rep_nonB {B : Addr → Prop} {H : Hp} {x : PV} {v : V} (h : Rep mg B H x v) (hx : x ≠ .non) : v ≠ .non := by
  cases x with
  | non => exact absurd rfl hx
  | bl => rw [Rep] at h; subst h; exact fun z => nomatch z
  | int => rw [Rep] at h; subst h; exact fun z => nomatch z
  | str => rw [Rep] at h; subst h; exact fun z => nomatch z
  | ty => rw [Rep] at h; subst h; exact fun z => nomatch z
  | tup => rw [Rep] at h; obtain ⟨a, us, rfl, _⟩ := h; exact fun z => nomatch z
  | lst => rw [Rep] at h; obtain ⟨a, us, rfl, _⟩ := h; exact fun z => nomatch z
  | dK => rw [Rep] at h; obtain ⟨a, us, rfl, _⟩ := h; exact fun z => nomatch z
  | dT => rw [Rep] at h; obtain ⟨a, us, rfl, _⟩ := h; exact fun z => nomatch z
  | ins => rw [Rep] at h; obtain ⟨a, dx, Ca, us, rfl, _⟩ := h; exact fun z => nomatch z
theorem isN_of {w : Wd} {H : Hp} {s : S} {a : MV} {x : V} {neg : Bool} (hr : HR mg w s H) (ra : MRep mg w H a x) {X : XK} {Q : VK} (c : CE mg (MRep mg) X w H (isN neg a s) Q) : Q (.bl (if neg then !decide (x = .non) else decide (x = .non))) H := by
  have no : x ≠ .non → CE mg (MRep mg) X w H (.ok (.p (.bl neg)) s) Q → Q (.bl (if neg then !decide (x = .non) else decide (x = .non))) H := fun n c => by
    rw [decide_eq_false n]
    cases neg <;> exact c.okP hr (by rw [Rep]; rfl)
  cases a with
  | p y =>
    by_cases hy : y = .non
    · subst hy
      rw [decide_eq_true (m_non ra)]
      cases neg <;> exact c.okP hr (by rw [Rep]; rfl)
    · have n : x ≠ .non := rep_nonB ra hy
      refine no n ?_
      cases y <;> first | exact absurd rfl hy | exact c
  | o n => obtain ⟨_, a', rfl, _⟩ := ra; exact no (fun z => nomatch z) c
  | g => obtain ⟨p, _, rfl⟩ := ra; exact no (fun z => nomatch z) c
theorem es_isN {ma : E MV} {j : Nat} {p : Pos} (ha : PE X a (tM mg W ma)) : PE X (.Compare a [.Is] [.Constant .none j p] pos) (tM mg W (un (isN false) ma)) := pe_imp (pe_cmpR (r := rIsN) op_isN ha pe_non (nomark _)) fun σ H Q ⟨w, ρ, s, env, hr, c⟩ =>
  ⟨w, ρ, s, env, hr, (CE.bind (r := ma ρ s) c).mono fun x H1 ⟨a, s1, w1, e1, hr1, ra, c1⟩ => ⟨rfl, isN_of hr1 ra c1⟩⟩
theorem es_notN {ma : E MV} {j : Nat} {p : Pos} (ha : PE X a (tM mg W ma)) : PE X (.Compare a [.IsNot] [.Constant .none j p] pos) (tM mg W (un (isN true) ma)) := pe_imp (pe_cmpR (r := rNotN) op_notN ha pe_non (nomark _)) fun σ H Q ⟨w, ρ, s, env, hr, c⟩ =>
  ⟨w, ρ, s, env, hr, (CE.bind (r := ma ρ s) c).mono fun x H1 ⟨a, s1, w1, e1, hr1, ra, c1⟩ => ⟨rfl, isN_of hr1 ra c1⟩⟩
theorem et_isN {ma : E MV} {j : Nat} {p : Pos} (ha : PE X a (tM mg W ma)) : PT X (.Compare a [.Is] [.Constant .none j p] pos) (tMB mg W (test (un (isN false) ma))) := pt_imp (pt_cmpR (r := rIsN) op_isN ha pe_non (nomark _)) fun σ H Q q => by
  obtain ⟨w, ρ, s, env, hr, c⟩ := test_to q
  exact ⟨w, ρ, s, env, hr, (CE.bind (r := ma ρ s) c).mono fun x H1 ⟨a, s1, w1, e1, hr1, ra, c1⟩ => ⟨rfl, isN_of hr1 ra c1⟩⟩
theorem et_notN {ma : E MV} {j : Nat} {p : Pos} (ha : PE X a (tM mg W ma)) : PT X (.Compare a [.IsNot] [.Constant .none j p] pos) (tMB mg W (test (un (isN true) ma))) := pt_imp (pt_cmpR (r := rNotN) op_notN ha pe_non (nomark _)) fun σ H Q q => by
  obtain ⟨w, ρ, s, env, hr, c⟩ := test_to q
  exact ⟨w, ρ, s, env, hr, (CE.bind (r := ma ρ s) c).mono fun x H1 ⟨a, s1, w1, e1, hr1, ra, c1⟩ => ⟨rfl, isN_of hr1 ra c1⟩⟩

/-! ## and, or, not, if -/
def andE (ma mb : E MV) : E MV := bind (test ma) fun k => if k = true then mb else cst (.bl false)
def orE (ma mb : E MV) : E MV := bind (test ma) fun k => if k = true then cst (.bl true) else mb
def notE (ma : E MV) : E MV := bind (test ma) fun k => cst (.bl (!k))
def andT (ma mb : E Bool) : E Bool := bind ma fun k => if k = true then mb else ret false
def orT (ma mb : E Bool) : E Bool := bind ma fun k => if k = true then ret true else mb
def notT (ma : E Bool) : E Bool := bind ma fun k => ret (!k)
def ifE {α : Type} (mc : E Bool) (ma mb : E α) : E α := bind mc fun k => if k = true then ma else mb
theorem okB {w : Wd} {H : Hp} {s : S} {X : XK} {k : Bool} {Q : VK} (h : CE mg (MRep mg) X w H (.ok (.p (.bl k)) s) Q) (hr : HR mg w s H) : Q (.bl k) H := h w _ H (Ext.refl _ _) hr (show Rep mg _ _ _ _ by rw [Rep])
theorem tB_step {γ δ : Type} {R2 : Wd → Hp → γ → δ → Prop} {ma : E MV} {f : Bool → E γ} {w : Wd} {ρ : Env} {s : S} {σ : L2.St} {H : Hp} {Y : XK} {Q : δ → Hp → Prop} (c : CE mg R2 Y w H (bind (test ma) f ρ s) Q) :
    CE mg (MRep mg) Y w H (ma ρ s) fun x H1 => ∃ k s1 w1, x = .bl k ∧ Ext w H w1 H1 ∧ HR mg w1 s1 H1 ∧ CE mg R2 Y w1 H1 (f k ρ s1) Q := by
  refine (CE.bind (r := ma ρ s) (CE.bind (R := RB) (r := test ma ρ s) c)).mono fun x H1 ⟨a, s1, w1, e1, hr1, ra, c1⟩ => ?_
  cases a with
  | p y =>
    cases y with
    | bl k =>
      obtain ⟨k', s4, w4, e4, hr4, rk, c4⟩ := c1 w1 k H1 (Ext.refl _ _) hr1 rfl
      obtain rfl : k = k' := rk
      exact ⟨k, s4, w4, m_bl ra, e4, hr4, c4⟩
    | _ => exact c1.elim
  | _ => exact c1.elim
theorem es_one {op} {m : E MV} (h : PE X a (tM mg W m)) : PE X (.BoolOp op [a] pos) (tM mg W m) := pe_one h
theorem es_and {rest : List Expr} {ma mb : E MV} (ha : PE X a (tM mg W ma)) (hb : PE X (.BoolOp .And (b :: rest) pos) (tM mg W mb)) : PE X (.BoolOp .And (a :: b :: rest) pos) (tM mg W (andE ma mb)) := pe_imp (pe_and ha hb) fun σ H Q ⟨w, ρ, s, env, hr, c⟩ =>
  ⟨w, ρ, s, env, hr, (tB_step (σ := σ) c).mono fun x H1 ⟨k, s1, w1, ex, e1, hr1, c1⟩ => ⟨k, ex, by
    cases k with
    | true => rw [if_pos rfl]; exact ⟨w1, ρ, s1, env.ext e1, hr1, c1⟩
    | false => rw [if_neg Bool.false_ne_true]; exact okB c1 hr1⟩⟩
theorem es_or {rest : List Expr} {ma mb : E MV} (ha : PE X a (tM mg W ma)) (hb : PE X (.BoolOp .Or (b :: rest) pos) (tM mg W mb)) : PE X (.BoolOp .Or (a :: b :: rest) pos) (tM mg W (orE ma mb)) := pe_imp (pe_or ha hb) fun σ H Q ⟨w, ρ, s, env, hr, c⟩ =>
  ⟨w, ρ, s, env, hr, (tB_step (σ := σ) c).mono fun x H1 ⟨k, s1, w1, ex, e1, hr1, c1⟩ => ⟨k, ex, by
    cases k with
    | true => rw [if_pos rfl]; exact okB c1 hr1
    | false => rw [if_neg Bool.false_ne_true]; exact ⟨w1, ρ, s1, env.ext e1, hr1, c1⟩⟩⟩
theorem es_not {ma : E MV} (ha : PE X a (tM mg W ma)) : PE X (.UnaryOp .Not a pos) (tM mg W (notE ma)) := pe_imp (pe_not ha) fun σ H Q ⟨w, ρ, s, env, hr, c⟩ =>
  ⟨w, ρ, s, env, hr, (tB_step (σ := σ) c).mono fun x H1 ⟨k, s1, w1, ex, e1, hr1, c1⟩ => ⟨k, ex, okB c1 hr1⟩⟩
theorem ew_and1 {ma : E Bool} (ha : PT X a (tMB mg W ma)) : PW X (.BoolOp .And [a] pos) (tMB mg W ma) := pw_and1 ha
theorem ew_or1 {ma : E Bool} (ha : PT X a (tMB mg W ma)) : PW X (.BoolOp .Or [a] pos) (tMB mg W ma) := pw_or1 ha
theorem bB_step {γ δ : Type} {R2 : Wd → Hp → γ → δ → Prop} {ma : E Bool} {f : Bool → E γ} {w : Wd} {ρ : Env} {s : S} {H : Hp} {Y : XK} {Q : δ → Hp → Prop} (c : CE mg R2 Y w H (bind ma f ρ s) Q) :
    CE mg RB Y w H (ma ρ s) fun k H1 => ∃ s1 w1, Ext w H w1 H1 ∧ HR mg w1 s1 H1 ∧ CE mg R2 Y w1 H1 (f k ρ s1) Q :=
  (CE.bind (r := ma ρ s) c).mono fun x H1 ⟨a, s1, w1, e1, hr1, ra, c1⟩ => by
    obtain rfl : x = a := ra
    exact ⟨s1, w1, e1, hr1, c1⟩
theorem okBB {w : Wd} {H : Hp} {s : S} {X : XK} {k : Bool} {Q : Bool → Hp → Prop} (h : CE mg RB X w H (.ok k s) Q) (hr : HR mg w s H) : Q k H := h w _ H (Ext.refl _ _) hr rfl
theorem ew_and {rest : List Expr} {ma mb : E Bool} (ha : PT X a (tMB mg W ma)) (hb : PW X (.BoolOp .And (b :: rest) pos) (tMB mg W mb)) : PW X (.BoolOp .And (a :: b :: rest) pos) (tMB mg W (andT ma mb)) := pw_imp (pw_and ha hb) fun σ H Q ⟨w, ρ, s, env, hr, c⟩ =>
  ⟨w, ρ, s, env, hr, (bB_step c).mono fun k H1 ⟨s1, w1, e1, hr1, c1⟩ => by
    cases k with
    | true => rw [if_pos rfl]; exact ⟨w1, ρ, s1, env.ext e1, hr1, c1⟩
    | false => rw [if_neg Bool.false_ne_true]; exact okBB c1 hr1⟩
theorem ew_or {rest : List Expr} {ma mb : E Bool} (ha : PT X a (tMB mg W ma)) (hb : PW X (.BoolOp .Or (b :: rest) pos) (tMB mg W mb)) : PW X (.BoolOp .Or (a :: b :: rest) pos) (tMB mg W (orT ma mb)) := pw_imp (pw_or ha hb) fun σ H Q ⟨w, ρ, s, env, hr, c⟩ =>
  ⟨w, ρ, s, env, hr, (bB_step c).mono fun k H1 ⟨s1, w1, e1, hr1, c1⟩ => by
    cases k with
    | true => rw [if_pos rfl]; exact okBB c1 hr1
    | false => rw [if_neg Bool.false_ne_true]; exact ⟨w1, ρ, s1, env.ext e1, hr1, c1⟩⟩
theorem et_not {ma : E Bool} (ha : PT X a (tMB mg W ma)) : PT X (.UnaryOp .Not a pos) (tMB mg W (notT ma)) := pt_imp (pt_not ha) fun σ H Q ⟨w, ρ, s, env, hr, c⟩ =>
  ⟨w, ρ, s, env, hr, (bB_step c).mono fun k H1 ⟨s1, w1, e1, hr1, c1⟩ => okBB c1 hr1⟩
theorem es_if {mc : E Bool} {ma mb : E MV} (hc : PT X c (tMB mg W mc)) (ha : PE X a (tM mg W ma)) (hb : PE X b (tM mg W mb)) : PE X (.IfExp c a b pos) (tM mg W (ifE mc ma mb)) := pe_imp (pe_ifExp hc ha hb) fun σ H Q ⟨w, ρ, s, env, hr, c⟩ =>
  ⟨w, ρ, s, env, hr, (bB_step c).mono fun k H1 ⟨s1, w1, e1, hr1, c1⟩ => by
    cases k with
    | true => rw [if_pos rfl]; exact ⟨w1, ρ, s1, env.ext e1, hr1, c1⟩
    | false => rw [if_neg Bool.false_ne_true]; exact ⟨w1, ρ, s1, env.ext e1, hr1, c1⟩⟩
end
end MP

/-! ## MExp3 -/
set_option Elab.async false
set_option linter.all false
set_option maxRecDepth 100000
set_option maxHeartbeats 2000000
/-! MP: displays, items, slices, dicts, in -/
namespace MP
open PySem PySem.Spec PyProof.Rows L2 AK
theorem szl {n : Nat} (h : n ≤ 16777216) : n ≤ sizeLine := by rw [sizeLine_eq]; exact h
section
variable {X : Cx} {mg : Gm} {W : WX} {K : PySem.W.Frag} {e a b c : Expr} {es : List Expr} {pos : Pos} {k : Nat}
/-! ## argument lists -/
def nilE : E (List MV) := ret []
def consE (ma : E MV) (mr : E (List MV)) : E (List MV) := bind ma fun x => bind mr fun xs => ret (x :: xs)
theorem ea_nil : PA X [] (tML mg W nilE) := pa_imp pa_nil fun σ H Q ⟨w, ρ, s, env, hr, c⟩ => c w [] H (Ext.refl _ _) hr rfl
theorem ea_cons {ma : E MV} {mr : E (List MV)} (ha : PE X e (tM mg W ma)) (hr : PA X es (tML mg W mr)) (hs : starEach (e :: es) X.env = (false, eval e X.env) :: starEach es X.env := by rfl) : PA X (e :: es) (tML mg W (consE ma mr)) :=
  pa_imp (pa_cons ha hr hs) fun σ H Q ⟨w, ρ, s, env, hr, c⟩ => by
    refine ⟨w, ρ, s, env, hr, (CE.bind (r := ma ρ s) c).mono fun x H1 ⟨a, s1, w1, e1, hr1, ra, c1⟩ => ?_⟩
    refine ⟨w1, ρ, s1, env.ext e1, hr1, (CE.bind (r := mr ρ s1) c1).mono fun y H2 ⟨b, s2, w2, e2, hr2, rb, c2⟩ => ?_⟩
    exact c2 w2 (x :: y) H2 (Ext.refl _ _) hr2 ⟨x, y, rfl, ra.ext e2, rb⟩
def unL (g : List MV → S → Res MV) (ma : E (List MV)) : E MV := bind ma fun xs => lift (g xs)
variable (mg) in
def SimCall (r : List V → Hp → VK → Prop) (g : List MV → S → Res MV) : Prop := ∀ w s H a x X Q, HR mg w s H → MRepL mg w H a x → CE mg (MRep mg) X w H (g a s) Q → r x H Q
theorem unL_to {r : List V → Hp → VK → Prop} {g : List MV → S → Res MV} {ma : E (List MV)} (sim : SimCall mg r g) {σ : L2.St} {H : Hp} {Q : VK} (q : tM mg W (unL g ma) σ H Q) : tML mg W ma σ H fun xs H1 => r xs H1 Q := by
  obtain ⟨w, ρ, s, env, hr, c⟩ := q
  exact ⟨w, ρ, s, env, hr, (CE.bind (r := ma ρ s) c).mono fun x H1 ⟨a, s1, w1, e1, hr1, ra, c1⟩ => sim _ _ _ _ _ _ _ hr1 ra c1⟩
/-! ## displays -/
theorem mRepL_toP {w : Wd} {H : Hp} {xs : List MV} {ys : List PV} {us : List V} (h : allP xs = some ys) (r : MRepL mg w H xs us) : RepL mg w.bad H ys us := by
  obtain rfl := allP_eq h
  exact r.toP
theorem allP_len {xs : List MV} {ys : List PV} (h : allP xs = some ys) : xs.length = ys.length := by rw [allP_eq h, List.length_map]
def mkT (xs : List MV) (s : S) : Res MV := match allP xs with
  | some ys => if ys.length ≤ 16777216 then .ok (.p (.tup ys)) s else .no
  | none => .no
def mkL (xs : List MV) (s : S) : Res MV := match allP xs with
  | some ys => if ys.length ≤ 16777216 then .ok (.p (.lst ys)) s else .no
  | none => .no
def mkO (xs : List MV) (s : S) : Res MV := if xs.length ≤ 16777216 then .ok (.o s.h.length) (s.new (.lst xs)) else .no
theorem simT : SimCall mg (fun xs H Q => rNewT xs H Q) mkT := fun w s H a x X Q hr ra c => by
  unfold mkT at c
  split at c
  · rename_i ys hy
    split at c
    · rename_i hz
      have r := mRepL_toP hy ra
      exact ⟨by rw [r.len]; exact szl hz, c.newT hr (szl hz) r⟩
    · exact c.elim
  · exact c.elim
theorem simL : SimCall mg (fun xs H Q => rNewL xs H Q) mkL := fun w s H a x X Q hr ra c => by
  unfold mkL at c
  split at c
  · rename_i ys hy
    split at c
    · rename_i hz
      have r := mRepL_toP hy ra
      exact ⟨by rw [r.len]; exact szl hz, c.newL hr (szl hz) r⟩
    · exact c.elim
  · exact c.elim
theorem CE.newO {w : Wd} {H : Hp} {s : S} {X : XK} {xs : List MV} {us : List V} {Q : VK} (h : CE mg (MRep mg) X w H (.ok (.o s.h.length) (s.new (.lst xs))) Q) (hr : HR mg w s H) (hz : xs.length ≤ sizeLine) (r : MRepL mg w H xs us) : ∀ p, H p = none → Q (.ref p) (upd H p (.lst us)) := fun p hp => by
  have e := Ext.alloc hr hp (.lst us)
  exact h (w.new p) _ _ e (hr.alloc hp ⟨us, upd_same, hz, r.ext e⟩) (MRep.fresh hr)
theorem simO : SimCall mg (fun xs H Q => rNewL xs H Q) mkO := fun w s H a x X Q hr ra c => by
  unfold mkO at c
  split at c
  · rename_i hz
    exact ⟨by rw [ra.len]; exact szl hz, c.newO hr (szl hz) ra⟩
  · exact c.elim
def tupE (m : E (List MV)) : E MV := unL mkT m
def lstE (m : E (List MV)) : E MV := unL mkL m
def lstM (m : E (List MV)) : E MV := unL mkO m
theorem es_tup {m : E (List MV)} {x1} (h : PA X es (tML mg W m)) : PE X (.Tuple es x1 pos) (tM mg W (tupE m)) := pe_imp (pe_tup h) fun _ _ _ q => unL_to simT q
theorem es_lst {m : E (List MV)} (h : PA X es (tML mg W m)) : PE X (.List es pos) (tM mg W (lstE m)) := pe_imp (pe_lst h) fun _ _ _ q => unL_to simL q
theorem es_lstM {m : E (List MV)} (h : PA X es (tML mg W m)) : PE X (.List es pos) (tM mg W (lstM m)) := pe_imp (pe_lst h) fun _ _ _ q => unL_to simO q

/-! ## dicts -/
section
variable {κ β γ : Type} [DecidableEq κ]
def look (kvs : List (κ × β)) (k : κ) : Option β := (kvs.find? fun kv => decide (kv.1 = k)).map (·.2)
def putD (kvs : List (κ × β)) (k : κ) (v : β) : List (κ × β) := if (kvs.any fun kv => decide (kv.1 = k)) = true then kvs.map (fun kv => if kv.1 = k then (kv.1, v) else kv) else kvs ++ [(k, v)]
theorem any_keys {k : κ} : ∀ {kvs : List (κ × β)} {us : List (κ × γ)}, us.map (·.1) = kvs.map (·.1) → (us.any fun kv => decide (kv.1 = k)) = (kvs.any fun kv => decide (kv.1 = k))
  | [], [], _ => rfl
  | [], _ :: _, h => by cases h
  | _ :: _, [], h => by cases h
  | p :: r, q :: t, h => by
    simp only [List.map_cons, List.cons.injEq] at h
    simp only [List.any_cons, h.1, any_keys h.2]
theorem putD_keys {k : κ} {v : β} {kvs : List (κ × β)} : (putD kvs k v).map (·.1) = if (kvs.any fun kv => decide (kv.1 = k)) = true then kvs.map (·.1) else kvs.map (·.1) ++ [k] := by
  unfold putD
  split
  · rw [List.map_map]
    apply List.map_congr_left
    intro p _
    show (if p.1 = k then (p.1, v) else p).1 = p.1
    split <;> rfl
  · rw [List.map_append]; rfl
theorem putD_nodup {k : κ} {v : β} {kvs : List (κ × β)} (h : (kvs.map (·.1)).Nodup) : ((putD kvs k v).map (·.1)).Nodup := by
  rw [putD_keys]
  split
  · exact h
  · rename_i n
    rw [List.nodup_append]
    refine ⟨h, by simp, fun a ha b hb e => n ?_⟩
    obtain rfl : b = k := by simpa using hb
    subst e
    obtain ⟨p, hp, e⟩ := List.mem_map.mp ha
    exact List.any_eq_true.mpr ⟨p, hp, decide_eq_true e⟩
theorem putD_len {k : κ} {v : β} {kvs : List (κ × β)} : (putD kvs k v).length ≤ kvs.length + 1 := by
  unfold putD
  split
  · rw [List.length_map]; omega
  · rw [List.length_append]; simp
end
section
variable {κ : Type} [DecidableEq κ]
theorem look_rep {w : Wd} {H : Hp} {k : κ} : ∀ {kvs : List (κ × MV)} {us : List (κ × V)}, us.map (·.1) = kvs.map (·.1) → MRepL mg w H (kvs.map (·.2)) (us.map (·.2)) →
    (look kvs k = none ∧ valV us k = none) ∨ ∃ z v, look kvs k = some z ∧ valV us k = some v ∧ MRep mg w H z v
  | [], [], _, _ => .inl ⟨rfl, rfl⟩
  | [], _ :: _, h, _ => by cases h
  | _ :: _, [], h, _ => by cases h
  | p :: r, q :: t, h, m => by
    simp only [List.map_cons, List.cons.injEq] at h
    obtain ⟨u, us, e, m1, m2⟩ := m
    simp only [List.map_cons, List.cons.injEq] at e
    obtain ⟨e1, e2⟩ := e
    subst e1
    subst e2
    unfold look valV
    rw [List.find?_cons, List.find?_cons, h.1]
    by_cases hk : p.1 = k
    · rw [decide_eq_true hk]
      exact .inr ⟨p.2, q.2, rfl, rfl, m1⟩
    · rw [decide_eq_false hk]
      exact look_rep h.2 m2
theorem put_rep {w : Wd} {H : Hp} {k : κ} {z : MV} {v : V} (hz : MRep mg w H z v) {kvs : List (κ × MV)} {us : List (κ × V)} (h : us.map (·.1) = kvs.map (·.1)) (m : MRepL mg w H (kvs.map (·.2)) (us.map (·.2))) :
    (putK us k v).map (·.1) = (putD kvs k z).map (·.1) ∧ MRepL mg w H ((putD kvs k z).map (·.2)) ((putK us k v).map (·.2)) := by
  have hk := any_keys (k := k) h
  unfold putK putD
  rw [hk]
  by_cases hc : (kvs.any fun kv => decide (kv.1 = k)) = true
  · rw [if_pos hc, if_pos hc]
    clear hk hc
    induction kvs generalizing us with
    | nil => cases us with
      | nil => exact ⟨rfl, rfl⟩
      | cons => cases h
    | cons p r ih => cases us with
      | nil => cases h
      | cons q t =>
        simp only [List.map_cons, List.cons.injEq] at h
        obtain ⟨u, us, e, m1, m2⟩ := m
        simp only [List.map_cons, List.cons.injEq] at e
        obtain ⟨e1, e2⟩ := e
        subst e1
        subst e2
        obtain ⟨i1, i2⟩ := ih h.2 m2
        by_cases hp : p.1 = k
        · have hq : q.1 = k := h.1.trans hp
          simp only [List.map_cons, if_pos hp, if_pos hq, i1, h.1, true_and]
          exact ⟨_, _, rfl, hz, i2⟩
        · have hq : ¬ q.1 = k := fun z => hp (h.1.symm.trans z)
          simp only [List.map_cons, if_neg hp, if_neg hq, i1, h.1, true_and]
          exact ⟨_, _, rfl, m1, i2⟩
  · rw [if_neg hc, if_neg hc, List.map_append, List.map_append, List.map_append, List.map_append, h]
    exact ⟨rfl, m.snoc hz⟩
end
def keyOf : MV → Option Key
  | .p (.int i) => some (.inl i)
  | .p (.str z) => some (.inr z)
  | _ => none
def keyL : List PV → Option (List Key)
  | [] => some []
  | .int i :: t => (keyL t).map (Sum.inl i :: ·)
  | .str z :: t => (keyL t).map (Sum.inr z :: ·)
  | _ :: _ => none
def keyT : MV → Option (List Key)
  | .p (.tup xs) => keyL xs
  | _ => none
theorem keyOf_rep {w : Wd} {H : Hp} {x : MV} {v : V} {k : Key} (h : keyOf x = some k) (r : MRep mg w H x v) : v = kV k := by
  cases x with
  | p y => cases y with
    | int i => cases h; exact m_int r
    | str i => cases h; exact m_str r
    | _ => cases h
  | _ => cases h
theorem keyL_rep {B : Addr → Prop} {H : Hp} : ∀ {xs : List PV} {us : List V} {k : List Key}, keyL xs = some k → RepL mg B H xs us → us = k.map kV
  | [], us, k, h, r => by cases h; rw [RepL] at r; rw [r]; rfl
  | x :: t, us, k, h, r => by
    rw [RepL] at r
    obtain ⟨u, v, rfl, h2, h3⟩ := r
    cases x with
    | int i =>
      have h' : (keyL t).map (Sum.inl i :: ·) = some k := h
      obtain ⟨ks, h1, rfl⟩ := Option.map_eq_some_iff.mp h'
      rw [rep_int h2, keyL_rep h1 h3]; rfl
    | str i =>
      have h' : (keyL t).map (Sum.inr i :: ·) = some k := h
      obtain ⟨ks, h1, rfl⟩ := Option.map_eq_some_iff.mp h'
      rw [rep_str h2, keyL_rep h1 h3]; rfl
    | _ => cases h
theorem keyT_rep {w : Wd} {H : Hp} {x : MV} {v : V} {k : List Key} (h : keyT x = some k) (r : MRep mg w H x v) : ∃ b, v = .ref b ∧ H b = some (.tup (k.map kV)) := by
  cases x with
  | p y => cases y with
    | tup xs =>
      obtain ⟨b, us, rfl, _, hb, _, ru⟩ := m_tup r
      rw [keyL_rep h ru] at hb
      exact ⟨b, rfl, hb⟩
    | _ => cases h
  | _ => cases h
/-- a dict's pairs -/
inductive DV where
  | k (kvs : List (Key × MV)) | t (kvs : List (List Key × MV))
def dicO : Option (Option MO) → Option DV
  | some (some (.dK kvs)) => some (.k kvs)
  | some (some (.dT kvs)) => some (.t kvs)
  | _ => none
def dic (s : S) : MV → Option DV
  | .p (.dK ks vs) => some (.k (ks.zip (vs.map MV.p)))
  | .p (.dT ks vs) => some (.t (ks.zip (vs.map MV.p)))
  | .o n => dicO s.h[n]?
  | _ => none
def DRep (mg : Str → Option Value) (w : Wd) (H : Hp) (p : Addr) : DV → Prop
  | .k kvs => ∃ us, Rd H p (.dK us) ∧ us.map (·.1) = kvs.map (·.1) ∧ MRepL mg w H (kvs.map (·.2)) (us.map (·.2)) ∧ (kvs.map (·.1)).Nodup ∧ kvs.length ≤ sizeLine
  | .t kvs => ∃ us, Rd H p (.dT us) ∧ us.map (·.1) = kvs.map (·.1) ∧ MRepL mg w H (kvs.map (·.2)) (us.map (·.2)) ∧ (kvs.map (·.1)).Nodup ∧ kvs.length ≤ sizeLine
theorem zip_fst {α β : Type} : ∀ {l : List α} {m : List β}, l.length = m.length → (l.zip m).map (·.1) = l
  | [], _, _ => rfl
  | _ :: _, [], h => by cases h
  | _ :: l, _ :: m, h => by simp only [List.zip_cons_cons, List.map_cons]; rw [zip_fst (by simpa using h)]
theorem zip_snd {α β : Type} : ∀ {l : List α} {m : List β}, l.length = m.length → (l.zip m).map (·.2) = m
  | [], [], _ => rfl
  | [], _ :: _, h => by cases h
  | _ :: _, [], h => by cases h
  | _ :: l, _ :: m, h => by simp only [List.zip_cons_cons, List.map_cons]; rw [zip_snd (by simpa using h)]
theorem dic_rep {w : Wd} {s : S} {H : Hp} {a : MV} {x : V} {d : DV} (hr : HR mg w s H) (r : MRep mg w H a x) (h : dic s a = some d) : ∃ p, x = .ref p ∧ DRep mg w H p d := by
  cases a with
  | p y => cases y with
    | dK ks vs =>
      cases h
      have r' : Rep mg w.bad H (.dK ks vs) x := r
      rw [Rep] at r'
      obtain ⟨p, us, e1, _, h3, h4, h5, h6, h7⟩ := r'
      have hl : ks.length = (vs.map MV.p).length := by rw [List.length_map, ← h4, List.length_map]; have := h7.len; rw [List.length_map] at this; exact this
      refine ⟨p, e1, us, h3, ?_, ?_, ?_, ?_⟩
      · rw [zip_fst hl]; exact h4
      · rw [zip_snd hl]; exact MRepL.ofP h7
      · rw [zip_fst hl]; exact h5
      · rw [List.length_zip, hl, Nat.min_self, List.length_map]; exact h6
    | dT ks vs =>
      cases h
      have r' : Rep mg w.bad H (.dT ks vs) x := r
      rw [Rep] at r'
      obtain ⟨p, us, e1, _, h3, h4, h5, h6, h7⟩ := r'
      have hl : ks.length = (vs.map MV.p).length := by rw [List.length_map, ← h4, List.length_map]; have := h7.len; rw [List.length_map] at this; exact this
      refine ⟨p, e1, us, h3, ?_, ?_, ?_, ?_⟩
      · rw [zip_fst hl]; exact h4
      · rw [zip_snd hl]; exact MRepL.ofP h7
      · rw [zip_fst hl]; exact h5
      · rw [List.length_zip, hl, Nat.min_self, List.length_map]; exact h6
    | _ => cases h
  | g => cases h
  | o n =>
    have h' : dicO s.h[n]? = some d := h
    cases e : s.h[n]? with
    | none => rw [e] at h'; cases h'
    | some q => cases q with
      | none => rw [e] at h'; cases h'
      | some m =>
        obtain ⟨p, e1, _, o1, _⟩ := hr.addr e r
        rw [e] at h'
        cases m with
        | dK kvs => cases h'; obtain ⟨us, h1, h2, h3, h4, h5⟩ := o1; exact ⟨p, e1, us, .inl h1, h2, h5, h3, h4⟩
        | dT kvs => cases h'; obtain ⟨us, h1, h2, h3, h4, h5⟩ := o1; exact ⟨p, e1, us, .inl h1, h2, h5, h3, h4⟩
        | _ => cases h'
/-- what a dict has at a key: none where this is no dict or no key -/
def dlook (s : S) (a i : MV) : Option (Option MV) := match dic s a with
  | some (.k kvs) => (keyOf i).map (look kvs)
  | some (.t kvs) => (keyT i).map (look kvs)
  | none => none
def ORel (mg : Str → Option Value) (w : Wd) (H : Hp) (r : Option MV) (o : Option V) : Prop := (r = none ∧ o = none) ∨ ∃ z v, r = some z ∧ o = some v ∧ MRep mg w H z v
theorem dlook_rep {w : Wd} {s : S} {H : Hp} {a i : MV} {x y : V} {r : Option MV} (hr : HR mg w s H) (ra : MRep mg w H a x) (ri : MRep mg w H i y) (h : dlook s a i = some r) : ∃ p o, x = .ref p ∧ IsD H p ∧ DGet H p y o ∧ ORel mg w H r o := by
  unfold dlook at h
  cases hd : dic s a with
  | none => rw [hd] at h; cases h
  | some d =>
    obtain ⟨p, e, dr⟩ := dic_rep hr ra hd
    rw [hd] at h
    cases d with
    | k kvs =>
      obtain ⟨us, h1, h2, h3, h4, h5⟩ := dr
      obtain ⟨q, hq, rfl⟩ := Option.map_eq_some_iff.mp h
      refine ⟨p, valV us q, e, .inl ⟨us, h1⟩, .inl ⟨us, q, h1, keyOf_rep hq ri, rfl⟩, ?_⟩
      exact look_rep h2 h3
    | t kvs =>
      obtain ⟨us, h1, h2, h3, h4, h5⟩ := dr
      obtain ⟨q, hq, rfl⟩ := Option.map_eq_some_iff.mp h
      obtain ⟨b, eb, hb⟩ := keyT_rep hq ri
      exact ⟨p, valV us q, e, .inr ⟨us, h1⟩, .inr ⟨us, q, b, h1, eb, hb, rfl⟩, look_rep h2 h3⟩

/-! ## items -/
theorem atI_some {α : Type} {xs : List α} {i : Int} {x : α} (h : atI xs i = some x) : ∃ j, ixN xs.length i = some j ∧ xs[j]? = some x := Option.bind_eq_some_iff.mp h
theorem atI_of {α : Type} {xs : List α} {n : Nat} {i : Int} {j : Nat} {x : α} (hn : xs.length = n) (h : ixN n i = some j) (hx : xs[j]? = some x) : atI xs i = some x := by
  unfold atI; rw [hn, h]; exact hx
def intO : MV → Option Int
  | .p (.int k) => some k
  | _ => none
theorem intO_eq : ∀ {x : MV} {k : Int}, intO x = some k → x = .p (.int k)
  | .p (.int _), _, h => by cases h; rfl
  | .p .non, _, h => nomatch h
  | .p (.bl _), _, h => nomatch h
  | .p (.str _), _, h => nomatch h
  | .p (.ty _), _, h => nomatch h
  | .p (.tup _), _, h => nomatch h
  | .p (.lst _), _, h => nomatch h
  | .p (.dK _ _), _, h => nomatch h
  | .p (.dT _ _), _, h => nomatch h
  | .p (.ins _ _ _), _, h => nomatch h
  | .o _, _, h => nomatch h
  | .g, _, h => nomatch h
def ixO (s : S) (n : Nat) (i : MV) : Option MV := (lstO s.h[n]?).bind fun xs => (intO i).bind fun k => atI xs k
def ixV : Op2 := fun a i s => match a, i with
  | .p (.tup xs), .p (.int k) => match atI xs k with
    | some x => .ok (.p x) s
    | none => .no
  | .p (.lst xs), .p (.int k) => match atI xs k with
    | some x => .ok (.p x) s
    | none => .no
  | .p (.str z), .p (.int k) => match atI z.cps.toList k with
    | some x => if z.length ≤ 16777216 then .ok (.p (.str ⟨#[x]⟩)) s else .no
    | none => .no
  | a, i => match a with
    | .o n => match ixO s n i with
      | some x => .ok x s
      | none => match dlook s a i with
        | some (some x) => .ok x s
        | _ => .no
    | _ => match dlook s a i with
      | some (some x) => .ok x s
      | _ => .no
def rIxA (K : PySem.W.Frag) : R2 := fun x y H Q => (rIxL K x y H Q ∨ rIxT K x y H Q) ∨ rIxS x y H Q
theorem ixA (hK : X.K = K) : IxR X (rIxA K) := by
  subst hK
  exact (ix_list.or ix_tup).or ix_str
def rDGetV : R2 := fun x y H Q => ∃ a v, x = .ref a ∧ DGet H a y (some v) ∧ Q v H
theorem dget_fin {w : Wd} {s : S} {H : Hp} {a i : MV} {x y : V} {X : XK} {Q : VK} (hr : HR mg w s H) (ra : MRep mg w H a x) (ri : MRep mg w H i y)
    (c : CE mg (MRep mg) X w H (match dlook s a i with | some (some x) => .ok x s | _ => .no) Q) : rDGetV x y H Q := by
  split at c
  · rename_i z hz
    obtain ⟨p, o, e, _, g, rel⟩ := dlook_rep hr ra ri hz
    rcases rel with ⟨e1, _⟩ | ⟨z', v, e1, e2, rz⟩
    · cases e1
    · cases e1
      rw [e2] at g
      exact ⟨p, v, e, g, c w v H (Ext.refl _ _) hr rz⟩
  · exact c.elim
theorem sim_ix : SimOp mg (fun x y H Q => rIxA K x y H Q ∨ rDGetV x y H Q) ixV := fun w s H a b x y X Q hr ra rb c => by
  unfold ixV at c
  split at c
  · split at c
    · rename_i xs k _ x hx
      obtain ⟨p, us, rfl, _, hp, _, rp⟩ := m_tup ra
      obtain ⟨j, h1, h2⟩ := atI_some hx
      obtain ⟨u, h3, h4⟩ := rp.get h2
      exact .inl (.inl (.inr ⟨p, us, k, u, rfl, m_int rb, SqT.of hp, atI_of rp.len h1 h3, c.okP hr h4⟩))
    · exact c.elim
  · split at c
    · rename_i xs k _ x hx
      obtain ⟨p, us, rfl, _, hp, _, rp⟩ := m_lst ra
      obtain ⟨j, h1, h2⟩ := atI_some hx
      obtain ⟨u, h3, h4⟩ := rp.get h2
      exact .inl (.inl (.inl ⟨p, us, k, u, rfl, m_int rb, SqL.of hp, atI_of rp.len h1 h3, c.okP hr h4⟩))
    · exact c.elim
  · split at c
    · rename_i z k _ x hx
      split at c
      · rename_i hz
        exact .inl (.inr ⟨z, k, x, m_str ra, m_int rb, szl hz, hx, c.okP hr (by rw [Rep])⟩)
      · exact c.elim
    · exact c.elim
  · split at c
    · rename_i n
      split at c
      · rename_i z hz
        obtain ⟨xs, hl, hz⟩ := Option.bind_eq_some_iff.mp hz
        obtain ⟨k, hk, hz⟩ := Option.bind_eq_some_iff.mp hz
        obtain rfl := intO_eq hk
        obtain ⟨p, rfl, _, ⟨us, h1, h2, h3⟩, _⟩ := hr.addr (lstO_eq hl) ra
        obtain ⟨j, g1, g2⟩ := atI_some hz
        obtain ⟨u, g3, g4⟩ := h3.get g2
        exact .inl (.inl (.inl ⟨p, us, k, u, rfl, m_int rb, SqL.of h1, atI_of h3.len g1 g3, c w u H (Ext.refl _ _) hr g4⟩))
      · exact .inr (dget_fin hr ra rb c)
    · exact .inr (dget_fin hr ra rb c)
theorem ix_to {ma mb : E MV} {σ : L2.St} {H : Hp} {Q : VK} (q : tM mg W (bin ixV ma mb) σ H Q) : (tM mg W ma σ H fun x H1 => tM mg W mb σ H1 fun y H2 => rIxA K x y H2 Q ∨ rDGetV x y H2 Q) := bin_to sim_ix q
end
end MP

/-! ## MExp4 -/
set_option Elab.async false
set_option linter.all false
set_option maxRecDepth 100000
set_option maxHeartbeats 2000000
/-! MP: items, slices, in, stores -/
namespace MP
open PySem PySem.Spec PyProof.Rows L2 AK
section
variable {X : Cx} {mg : Gm} {W : WX} {K : PySem.W.Frag} {e a b c : Expr} {es : List Expr} {pos : Pos} {k : Nat}
theorem ix_dict (hu : X.A.units + 1 < cLine) : IxR X rDGetV := by
  intro value slice pins s σ H x y v u Q I rx ry h hs
  obtain ⟨a, v', rfl, g, q⟩ := h
  obtain rfl : v = Value.ref a := rx
  have hT := dict_typeIs I g
  unfold subscriptTail
  refine wpAny_bind ?_
  rw [getitemInPython_of_ne hT.not_modules]
  refine wpAny_bind (wpAny_specialOf hT PySem.F.slot_dict_getitem.lookup ?_)
  have fin : wpAny (model X.prog X.w) X.A (subscripted slice false (.ref a) u) (fun r s₃ => wpAny (model X.prog X.w) X.A (letTemporaryGo value (.ref a) r >>= fun _ => pure r) (EP X pins σ Q) X.xe s₃) X.xe s := by
    rw [hs]
    exact wpAny_operating (d_getItem hu I g ry fun w' s3 I3 rw' => wpAny_bind (wpAny_letTemporaryGo (wpAny_pure ⟨v', H, I3, rw', q⟩)))
  first
    | exact wpAny_pure (wpAny_bind fin)
    | exact wpAny_bind (wpAny_pure (wpAny_bind fin))
    | exact wpAny_bind fin
theorem es_ix {ma mb : E MV} (hr : Room k X.A) (ha : PE X a (tM mg W ma)) (hb : PE X b (tM mg W mb)) (hs : PlainIx b) : PE X (.Subscript a b pos) (tM mg W (bin ixV ma mb)) :=
  es_bin (pe_ix ((ixA (K := X.K) rfl).or (ix_dict (hu_of hr))) ha hb hs) sim_ix

/-! ## slices -/
def cutL {α : Type} (xs : List α) (lo hi : Option Int) : List α := (xs.drop (HT.sIx xs.length 0 lo)).take (HT.sIx xs.length xs.length hi - HT.sIx xs.length 0 lo)
theorem cutL_len {α : Type} (xs : List α) (lo hi : Option Int) : (cutL xs lo hi).length ≤ xs.length := by
  unfold cutL
  rw [List.length_take, List.length_drop]
  omega
theorem cutL_V (xs : List V) (lo hi : Option Int) : cutV xs lo hi = cutL xs lo hi := rfl
theorem RepL.cut {B : Addr → Prop} {H : Hp} {xs : List PV} {us : List V} (h : RepL mg B H xs us) (lo hi : Option Int) : RepL mg B H (cutL xs lo hi) (cutV us lo hi) := by
  rw [cutL_V]
  unfold cutL
  rw [h.len]
  exact (h.drop _).take _
def RO : Wd → Hp → Option Int → Option Int → Prop := fun _ _ a b => b = a
variable (mg) in
def tMO (W : WX) (m : E (Option Int)) : TO := fun σ H Q => ∃ w ρ s, EnvR mg w H ρ σ ∧ HR mg w s H ∧ CE mg RO (fun c d H => W c d σ H) w H (m ρ s) Q
def noPart : E (Option Int) := ret none
def partV (v : MV) (s : S) : Res (Option Int) := match intO v with
  | some i => .ok (some i) s
  | none => .no
def part (m : E MV) : E (Option Int) := bind m fun v => lift (partV v)
theorem po_imp {o : Option Expr} {t t' : TO} (h : PO X o t) (k : ∀ σ H Q, t' σ H Q → t σ H Q) : PO X o t' := ⟨fun pins s σ H Q I q => h.run pins s σ H Q I (k σ H Q q)⟩
theorem eo_none : PO X none (tMO mg W noPart) := po_imp po_none fun σ H Q ⟨w, ρ, s, env, hr, c⟩ => c w none H (Ext.refl _ _) hr rfl
theorem eo_some {m : E MV} (h : PE X e (tM mg W m)) : PO X (some e) (tMO mg W (part m)) := po_imp (po_some h) fun σ H Q ⟨w, ρ, s, env, hr, c⟩ => by
  refine ⟨w, ρ, s, env, hr, (CE.bind (r := m ρ s) c).mono fun x H1 ⟨a, s1, w1, e1, hr1, ra, c1⟩ => ?_⟩
  have c2 : CE mg RO (fun c d H => W c d σ H) w1 H1 (partV a s1) Q := c1
  unfold partV at c2
  split at c2
  · rename_i i hi
    obtain rfl := intO_eq hi
    exact ⟨i, m_int ra, c2 w1 (some i) H1 (Ext.refl _ _) hr1 rfl⟩
  · exact c2.elim
/-- a value's slice -/
def slV (a : MV) (lo hi : Option Int) (s : S) : Res MV := match a with
  | .p (.tup xs) => .ok (.p (.tup (cutL xs lo hi))) s
  | .p (.str z) => if z.length ≤ 16777216 then .ok (.p (.str (cutS z lo hi))) s else .no
  | a => match seqL s a with
    | some xs => .ok (.p (.lst (cutL xs lo hi))) s
    | none => .no
def sliceE (m : E MV) (l h : E (Option Int)) : E MV := bind m fun a => bind l fun lo => bind h fun hi => lift (slV a lo hi)
def rSlA (K : PySem.W.Frag) : V → Option Int → Option Int → Hp → VK → Prop := fun x lo hi H Q => rSlL K x lo hi H Q ∨ rSlT K x lo hi H Q ∨ rSlT0 K x lo hi H Q ∨ rSlS x lo hi H Q
theorem slA : SlR X (rSlA X.K) := sl_list.or (sl_tup.or (sl_tup0.or sl_str))
theorem sl_fin {w : Wd} {s : S} {H : Hp} {a : MV} {x : V} {lo hi : Option Int} {X : XK} {Q : VK} (hr : HR mg w s H) (ra : MRep mg w H a x) (c : CE mg (MRep mg) X w H (slV a lo hi s) Q) : rSlA K x lo hi H Q := by
  unfold slV at c
  split at c
  · rename_i xs
    obtain ⟨p, us, rfl, np, hp, hz, rp⟩ := m_tup ra
    by_cases hw : HT.sIx us.length 0 lo = 0 ∧ HT.sIx us.length us.length hi = us.length
    · refine .inr (.inr (.inl ⟨p, us, rfl, SqT.of hp, hw, c.okP hr ?_⟩))
      have e : cutL xs lo hi = xs := by
        unfold cutL
        rw [← rp.len, hw.1, hw.2, rp.len]
        simp
      rw [e]
      exact ra
    · exact .inr (.inl ⟨p, us, rfl, SqT.of hp, hw, c.newT hr (Nat.le_trans (cutL_len _ _ _) hz) (rp.cut lo hi)⟩)
  · split at c
    · rename_i z hz
      exact .inr (.inr (.inr ⟨z, m_str ra, szl hz, c.okP hr (by rw [Rep])⟩))
    · exact c.elim
  · split at c
    · rename_i xs hx
      obtain ⟨p, us, rfl, hp, hz, rp⟩ := seqL_rep hr ra hx
      exact .inl ⟨p, us, rfl, SqL.of hp, c.newL hr (Nat.le_trans (cutL_len _ _ _) hz) (rp.cut lo hi)⟩
    · exact c.elim
theorem es_slice {m : E MV} {l h : E (Option Int)} {lo hi : Option Expr} {p2 : Pos} (he : PE X e (tM mg W m)) (hl : PO X lo (tMO mg W l)) (hu : PO X hi (tMO mg W h)) : PE X (.Subscript e (.Slice lo hi none p2) pos) (tM mg W (sliceE m l h)) :=
  pe_imp (pe_slice slA he hl hu) fun σ H Q ⟨w, ρ, s, env, hr, c⟩ => by
    refine ⟨w, ρ, s, env, hr, (CE.bind (r := m ρ s) c).mono fun x H1 ⟨a, s1, w1, e1, hr1, ra, c1⟩ => ?_⟩
    refine ⟨w1, ρ, s1, env.ext e1, hr1, (CE.bind (R := RO) (r := l ρ s1) c1).mono fun lo' H2 ⟨lo, s2, w2, e2, hr2, rb, c2⟩ => ?_⟩
    obtain rfl : lo' = lo := rb
    refine ⟨w2, ρ, s2, (env.ext e1).ext e2, hr2, (CE.bind (R := RO) (r := h ρ s2) c2).mono fun hi' H3 ⟨hi, s3, w3, e3, hr3, rc, c3⟩ => ?_⟩
    obtain rfl : hi' = hi := rc
    exact sl_fin hr3 ((ra.ext e2).ext e3) c3
/-- x[::-1] of a list -/
def revV : Op1 := fun a s => match seqL s a with
  | some xs => .ok (.p (.lst xs.reverse)) s
  | none => .no
theorem es_rev {m : E MV} {j : Nat} {p1 p2 p3 : Pos} (he : PE X e (tM mg W m)) : PE X (.Subscript e (.Slice none none (some (.UnaryOp .USub (.Constant (.int 1) j p1) p2)) p3) pos) (tM mg W (un revV m)) :=
  pe_imp (pe_revL he) fun σ H Q ⟨w, ρ, s, env, hr, c⟩ => by
    refine ⟨w, ρ, s, env, hr, (CE.bind (r := m ρ s) c).mono fun x H1 ⟨a, s1, w1, e1, hr1, ra, c1⟩ => ?_⟩
    have c2 : CE mg (MRep mg) (fun c d H => W c d σ H) w1 H1 (revV a s1) Q := c1
    unfold revV at c2
    split at c2
    · rename_i xs hx
      obtain ⟨p, us, rfl, hp, hz, rp⟩ := seqL_rep hr1 ra hx
      exact ⟨p, us, rfl, SqL.of hp, c2.newL hr1 (by rw [List.length_reverse]; exact hz) rp.reverse⟩
    · exact c2.elim

/-! ## in, not in -/
def rInDT (K : PySem.W.Frag) (neg : Bool) : R2 := fun x y H Q => ∃ d ds, Dp K H x d ∧ Dp K H y (.tuple ds) ∧ SeqAt.shaped d = true ∧ SeqAt.shaped (.tuple ds) = true ∧ Q (.bl (if neg then !(ds.any fun z => PyData.eqv z d) else ds.any fun z => PyData.eqv z d)) H
theorem op_inDT (hu : X.A.units + 65 < cLine) : OpR X (compareOp .In) (rInDT X.K false) := by
  intro pins s σ H x y v u Q I rx ry h
  obtain ⟨d, ds, hd, he, sd, se, q⟩ := h
  obtain ⟨as, r1⟩ := Dp.reads I d x v hd rx
  obtain ⟨bs, r2⟩ := Dp.reads I (.tuple ds) y u he ry
  exact SeqAt.in_tuple_reads r2 r1 (SeqAt.canLay_of_shaped se) (SeqAt.canLay_of_shaped sd) (room_in_shaped sd hu) ⟨.bl _, H, I, rfl, q⟩
theorem op_notInDT (hu : X.A.units + 65 < cLine) : OpR X (compareOp .NotIn) (rInDT X.K true) := by
  intro pins s σ H x y v u Q I rx ry h
  obtain ⟨d, ds, hd, he, sd, se, q⟩ := h
  obtain ⟨as, r1⟩ := Dp.reads I d x v hd rx
  obtain ⟨bs, r2⟩ := Dp.reads I (.tuple ds) y u he ry
  exact SeqAt.notIn_tuple_reads r2 r1 (SeqAt.canLay_of_shaped se) (SeqAt.canLay_of_shaped sd) (room_in_shaped sd hu) ⟨.bl _, H, I, rfl, q⟩
def rDInV (neg : Bool) : R2 := fun y x H Q => ∃ a o, x = .ref a ∧ DGet H a y o ∧ Q (.bl (if neg then !o.isSome else o.isSome)) H
theorem op_dIn (hu : X.A.units + 1 < cLine) : OpR X (compareOp .In) (rDInV false) := by
  intro pins s σ H x y v u Q I rx ry h
  obtain ⟨a, o, rfl, g, q⟩ := h
  obtain rfl : u = Value.ref a := ry
  exact d_in hu I g rx fun s3 I3 => ⟨.bl o.isSome, H, I3, rfl, q⟩
theorem op_dNotIn (hu : X.A.units + 1 < cLine) : OpR X (compareOp .NotIn) (rDInV true) := by
  intro pins s σ H x y v u Q I rx ry h
  obtain ⟨a, o, rfl, g, q⟩ := h
  obtain rfl : u = Value.ref a := ry
  exact d_notIn hu I g rx fun s3 I3 => ⟨.bl (!o.isSome), H, I3, rfl, q⟩
def strIn (i j : Str) : Bool := !(Builtin.Str.occurrences j i 0 j.length 1).isEmpty
/-- one sign in a text -/
def sign1 (z : Str) : Option Nat := match z.cps.toList with
  | [c] => some c
  | _ => none
theorem sign1_eq {z : Str} {c : Nat} (h : sign1 z = some c) : z = ⟨#[c]⟩ := by
  unfold sign1 at h
  split at h
  · rename_i d hd
    cases h
    obtain ⟨⟨l⟩⟩ := z
    have : l = [c] := hd
    rw [this]
  · cases h
def inV (neg : Bool) : Op2 := fun x c s => match flat s c with
  | some (.str z) => match x with
    | .p (.str q) => match sign1 q with
      | some n => .ok (.p (.bl (if neg then !decide (n ∈ z.cps.toList) else decide (n ∈ z.cps.toList)))) s
      | none => .ok (.p (.bl (if neg then !strIn q z else strIn q z))) s
    | _ => .no
  | some (.lst ys) => match flat s x with
    | some q => if PV.isD 60 q && PV.isD 60 (.lst ys) then .ok (.p (.bl (if neg then !(ys.any fun y => y.eqv q) else ys.any fun y => y.eqv q))) s else .no
    | none => .no
  | some (.tup ys) => match flat s x with
    | some q => if PV.isD 60 q && PV.isD 60 (.tup ys) then .ok (.p (.bl (if neg then !(ys.any fun y => y.eqv q) else ys.any fun y => y.eqv q))) s else .no
    | none => .no
  | _ => match dlook s c x with
    | some r => .ok (.p (.bl (if neg then !r.isSome else r.isSome))) s
    | none => .no
def rInDB (K : PySem.W.Frag) (neg : Bool) : R2 := fun x y H Q => ∃ d ds, Dp K H x d ∧ Dp K H y (.list ds) ∧ SeqAt.shaped d = true ∧ SeqAt.shaped (.list ds) = true ∧ Q (.bl (if neg then !(ds.any fun z => PyData.eqv z d) else ds.any fun z => PyData.eqv z d)) H
def rInSgB (neg : Bool) : R2 := fun x y H Q => ∃ (c : Nat) (z : Str), x = .str ⟨#[c]⟩ ∧ y = .str z ∧ Q (.bl (if neg then !decide (c ∈ z.cps.toList) else decide (c ∈ z.cps.toList))) H
def rInTxB (neg : Bool) : R2 := fun x y H Q => ∃ i j, x = .str i ∧ y = .str j ∧ Q (.bl (if neg then !strIn i j else strIn i j)) H
def rInA (K : PySem.W.Frag) (neg : Bool) : R2 := fun x y H Q => rInDB K neg x y H Q ∨ rInDT K neg x y H Q ∨ rDInV neg x y H Q ∨ rInSgB neg x y H Q ∨ rInTxB neg x y H Q
theorem hu65 (hr : Room k X.A) : X.A.units + 65 < cLine := by have := hr.un; omega
theorem op_inA (hr : Room k X.A) : OpR X (compareOp .In) (rInA X.K false) :=
  op_or2 (show OpR X _ (rInDB X.K false) from op_inD (hu65 hr)) (op_or2 (op_inDT (hu65 hr)) (op_or2 (op_dIn (hu_of hr)) (op_or2 (show OpR X _ (rInSgB false) from op_in_sign) (show OpR X _ (rInTxB false) from op_in_str))))
theorem op_notInA (hr : Room k X.A) : OpR X (compareOp .NotIn) (rInA X.K true) :=
  op_or2 (show OpR X _ (rInDB X.K true) from op_notInD (hu65 hr)) (op_or2 (op_notInDT (hu65 hr)) (op_or2 (op_dNotIn (hu_of hr)) (op_or2 (show OpR X _ (rInSgB true) from op_notIn_sign) (show OpR X _ (rInTxB true) from op_notin_str))))
theorem any_dat {ys : List PV} {q : PV} : ((datL ys).any fun z => PyData.eqv z q.dat) = ys.any fun y => y.eqv q := by
  rw [datL_eq, List.any_map]; rfl
theorem dp_list {B : Addr → Prop} {H : Hp} {ys : List PV} {v : V} (hd : PV.isD 60 (.lst ys) = true) (h : Rep mg B H (.lst ys) v) : Dp K H v (.list (datL ys)) := by
  have := h.dp (K := K) hd; rw [PV.dat] at this; exact this
theorem dp_tup {B : Addr → Prop} {H : Hp} {ys : List PV} {v : V} (hd : PV.isD 60 (.tup ys) = true) (h : Rep mg B H (.tup ys) v) : Dp K H v (.tuple (datL ys)) := by
  have := h.dp (K := K) hd; rw [PV.dat] at this; exact this
theorem sim_in {neg : Bool} : SimOp mg (rInA K neg) (inV neg) := fun w s H a b x y X Q hr ra rb c => by
  unfold inV at c
  split at c
  · rename_i z hz
    have ez : b = .p (.str z) := by
      cases b with
      | p y => cases hz; rfl
      | o n => obtain ⟨ys, _, e⟩ := flat_o hz; cases e
      | g => cases hz
    subst ez
    split at c
    · rename_i q
      split at c
      · rename_i n hn
        obtain rfl := sign1_eq hn
        exact .inr (.inr (.inr (.inl ⟨n, z, m_str ra, m_str rb, c.okP hr (by rw [Rep])⟩)))
      · exact .inr (.inr (.inr (.inr ⟨q, z, m_str ra, m_str rb, c.okP hr (by rw [Rep])⟩)))
    · exact c.elim
  · rename_i ys hy
    split at c
    · rename_i q hq
      split at c
      · rename_i hd
        obtain ⟨d1, d2⟩ := Bool.and_eq_true_iff.mp hd
        have s2 := PV.shaped d2
        rw [PV.dat] at s2
        exact .inl ⟨q.dat, datL ys, (flat_rep hr ra hq).dp d1, dp_list d2 (flat_rep hr rb hy), PV.shaped d1, s2, by rw [any_dat]; exact c.okP hr (by rw [Rep])⟩
      · exact c.elim
    · exact c.elim
  · rename_i ys hy
    split at c
    · rename_i q hq
      split at c
      · rename_i hd
        obtain ⟨d1, d2⟩ := Bool.and_eq_true_iff.mp hd
        have s2 := PV.shaped d2
        rw [PV.dat] at s2
        exact .inr (.inl ⟨q.dat, datL ys, (flat_rep hr ra hq).dp d1, dp_tup d2 (flat_rep hr rb hy), PV.shaped d1, s2, by rw [any_dat]; exact c.okP hr (by rw [Rep])⟩)
      · exact c.elim
    · exact c.elim
  · split at c
    · rename_i r hl
      obtain ⟨p, o, e, _, g, rel⟩ := dlook_rep hr rb ra hl
      refine .inr (.inr (.inl ⟨p, o, e, g, ?_⟩))
      have eo : o.isSome = r.isSome := by
        rcases rel with ⟨e1, e2⟩ | ⟨z, v, e1, e2, _⟩
        · rw [e1, e2]; rfl
        · rw [e1, e2]; rfl
      rw [eo]
      exact c.okP hr (by rw [Rep])
    · exact c.elim
end
end MP

/-! ## MStm -/
set_option Elab.async false
set_option linter.all false
set_option maxRecDepth 100000
set_option maxHeartbeats 2000000
/-! MP: statements -/
namespace MP
open PySem PySem.Spec PyProof.Rows L2 AK
def Res.toSR {α : Type} (r : Res α) (ρ : Env) (f : α → S → SR) : SR := match r with
  | .ok a s => f a s
  | .exc c g x s => .exc c g x ρ s
  | .no => .no
def toS {α : Type} (m : E α) (f : α → ST) : ST := fun ρ s => (m ρ s).toSR ρ fun a s1 => f a ρ s1
def skipS : ST := fun ρ s => .nx ρ s
def brkS : ST := fun ρ s => .bk ρ s
def ctS : ST := fun ρ s => .ct ρ s
def seqS (a b : ST) : ST := fun ρ s => match a ρ s with
  | .nx ρ1 s1 => b ρ1 s1
  | r => r
def retS (m : E MV) : ST := toS m fun v _ s => .rt v s
def retN : ST := fun _ s => .rt (.p .non) s
def dropS (m : E MV) : ST := toS m fun _ => skipS
def ifS (mc : E Bool) (a b : ST) : ST := toS mc fun k => if k = true then a else b
abbrev TM := MV → Env → S → Res Env
def nameT (i : Nat) : TM := fun v ρ s => .ok (ρ.set i (some v)) s
def goS (r : Env → S → Res Env) : ST := fun ρ s => (r ρ s).toSR ρ fun ρ1 s1 => .nx ρ1 s1
def asgS (m : E MV) (t : TM) : ST := toS m fun a => goS (t a)
section
variable {X : Cx} {mg : Gm} {W : WX} {K : PySem.W.Frag} {e a b c tg : Expr} {es : List Expr} {st : Stmt} {sts : List Stmt} {pos : Pos} {k : Nat}
theorem CS.bindE {α β : Type} {R : Wd → Hp → α → β → Prop} {w : Wd} {H : Hp} {σ : L2.St} {ρ : Env} {r : Res α} {f : α → S → SR} {D : Ends} (env : EnvR mg w H ρ σ) (h : CS mg W w H (r.toSR ρ f) D) :
    CE mg R (fun c d H => W c d σ H) w H r fun b H1 => ∃ a s1 w1, Ext w H w1 H1 ∧ HR mg w1 s1 H1 ∧ R w1 H1 a b ∧ CS mg W w1 H1 (f a s1) D := by
  cases r with
  | ok a s => exact fun w' b H' h1 h2 h3 => ⟨a, s, w', h1, h2, h3, CS.from h1 h⟩
  | exc c g x s => exact fun w' cls d H' h1 h2 h3 => h w' cls d σ H' h1 h2 (env.ext h1) h3
  | no => exact h
theorem tS_step {m : E MV} {f : MV → ST} {w : Wd} {H : Hp} {σ : L2.St} {ρ : Env} {s : S} {D : Ends} (env : EnvR mg w H ρ σ) (hr : HR mg w s H) (h : CS mg W w H (toS m f ρ s) D) :
    tM mg W m σ H fun x H1 => ∃ a s1 w1, Ext w H w1 H1 ∧ HR mg w1 s1 H1 ∧ MRep mg w1 H1 a x ∧ CS mg W w1 H1 (f a ρ s1) D :=
  ⟨w, ρ, s, env, hr, CS.bindE (r := m ρ s) env h⟩
theorem ss_skip {st : Stmt} (h : PS X st tNext) : PS X st (tMS mg W skipS) := ps_imp h fun D σ H ⟨w, ρ, s, env, hr, c⟩ => c w σ H (Ext.refl _ _) hr env
theorem ss_brk : PS X (.Break pos) (tMS mg W brkS) := ps_imp ps_break fun D σ H ⟨w, ρ, s, env, hr, c⟩ => c w σ H (Ext.refl _ _) hr env
theorem ss_ct : PS X (.Continue pos) (tMS mg W ctS) := ps_imp ps_continue fun D σ H ⟨w, ρ, s, env, hr, c⟩ => c w σ H (Ext.refl _ _) hr env
theorem sb_nil : PSs X [] (tMS mg W skipS) := pss_imp pss_nil fun D σ H ⟨w, ρ, s, env, hr, c⟩ => c w σ H (Ext.refl _ _) hr env
theorem sb_one {m : ST} (h : PS X st (tMS mg W m)) : PSs X [st] (tMS mg W m) := pss_one h
theorem CS.seq {w : Wd} {H : Hp} {a b : ST} {ρ : Env} {s : S} {D : Ends} (h : CS mg W w H (seqS a b ρ s) D) : CS mg W w H (a ρ s) { D with nx := tMS mg W b D } := by
  unfold seqS at h
  cases hq : a ρ s with
  | nx ρ1 s1 => rw [hq] at h; exact fun w' σ' H' e1 h1 env1 => ⟨w', ρ1, s1, env1, h1, CS.from e1 h⟩
  | rt v s1 => rw [hq] at h; exact h
  | bk ρ1 s1 => rw [hq] at h; exact h
  | ct ρ1 s1 => rw [hq] at h; exact h
  | exc c f x ρ1 s1 => rw [hq] at h; exact h
  | no => rw [hq] at h; exact h
theorem sb_cons {a b : ST} (h1 : PS X st (tMS mg W a)) (h2 : PSs X sts (tMS mg W b)) : PSs X (st :: sts) (tMS mg W (seqS a b)) := pss_imp (pss_cons h1 h2) fun D σ H ⟨w, ρ, s, env, hr, c⟩ => ⟨w, ρ, s, env, hr, c.seq⟩
theorem ss_ret {m : E MV} (he : PE X e (tM mg W m)) : PS X (.Return (some e) pos) (tMS mg W (retS m)) := ps_imp (ps_ret he) fun D σ H ⟨w, ρ, s, env, hr, c⟩ => by
  obtain ⟨w, ρ, s, env, hr, c⟩ := tS_step env hr c
  exact ⟨w, ρ, s, env, hr, c.mono fun x H1 ⟨a, s1, w1, e1, hr1, ra, c1⟩ => c1 w1 x H1 (Ext.refl _ _) hr1 ra⟩
theorem ss_retN : PS X (.Return none pos) (tMS mg W retN) := ps_imp ps_retN fun D σ H ⟨w, ρ, s, env, hr, c⟩ => c w .non H (Ext.refl _ _) hr (show Rep mg _ _ _ _ by rw [Rep])
theorem ss_drop {m : E MV} (he : PE X e (tM mg W m)) (hs : swapsWith e none pos.line X.env = pure false := by rfl) : PS X (.Expr e pos) (tMS mg W (dropS m)) := ps_imp (ps_expr he hs) fun D σ H ⟨w, ρ, s, env, hr, c⟩ =>
  ⟨w, ρ, s, env, hr, (CS.bindE (R := MRep mg) (r := m ρ s) env c).mono fun x H1 ⟨a, s1, w1, e1, hr1, ra, c1⟩ => c1 w1 σ H1 (Ext.refl _ _) hr1 (env.ext e1)⟩
theorem ss_if {mc : E Bool} {x y : List Stmt} {ma mb : ST} (hc : PT X c (tMB mg W mc)) (ha : PSs X x (tMS mg W ma)) (hb : PSs X y (tMS mg W mb)) : PS X (.If c x y pos) (tMS mg W (ifS mc ma mb)) := ps_imp (ps_if hc ha hb) fun D σ H ⟨w, ρ, s, env, hr, c⟩ =>
  ⟨w, ρ, s, env, hr, (CS.bindE (R := RB) (r := mc ρ s) env c).mono fun k H1 ⟨k', s1, w1, e1, hr1, rk, c1⟩ => by
    obtain rfl : k = k' := rk
    cases k with
    | true => rw [if_pos rfl]; exact ⟨w1, ρ, s1, env.ext e1, hr1, c1⟩
    | false => rw [if_neg Bool.false_ne_true]; exact ⟨w1, ρ, s1, env.ext e1, hr1, c1⟩⟩
/-! ## targets -/
variable (mg W) in
def CT (w : Wd) (H : Hp) (r : Res Env) (Q : L2.St → Hp → Prop) : Prop := match r with
  | .ok ρ' s' => ∀ w' σ' H', Ext w H w' H' → HR mg w' s' H' → EnvR mg w' H' ρ' σ' → Q σ' H'
  | .exc _ _ _ _ => False
  | .no => False
theorem CT.from {w w' : Wd} {H H' : Hp} {r : Res Env} {Q : L2.St → Hp → Prop} (e : Ext w H w' H') (h : CT mg w H r Q) : CT mg w' H' r Q := by
  cases r with
  | no => exact h
  | exc => exact h
  | ok => exact fun w2 b H2 h1 h2 h3 => h w2 b H2 (e.trans h1) h2 h3
variable (mg) in
def tMG (t : TM) : TG := fun v σ H Q => ∃ w ρ s x, EnvR mg w H ρ σ ∧ HR mg w s H ∧ MRep mg w H x v ∧ CT mg w H (t x ρ s) Q
variable (mg) in
def tMGs (t : List MV → Env → S → Res Env) : TGs := fun vs σ H Q => ∃ w ρ s xs, EnvR mg w H ρ σ ∧ HR mg w s H ∧ MRepL mg w H xs vs ∧ CT mg w H (t xs ρ s) Q
theorem pgs_imp {t t' : TGs} (h : PGs X es t) (k : ∀ v σ H Q, t' v σ H Q → t v σ H Q) : PGs X es t' := ⟨fun pins s σ H v u Q I r q => h.run pins s σ H v u Q I r (k v σ H Q q)⟩
theorem sg_name {i : Nat} (h : PG X e (gName i)) : PG X e (tMG mg (nameT i)) := pg_imp h fun v σ H Q ⟨w, ρ, s, x, env, hr, r, c⟩ => c w _ H (Ext.refl _ _) hr (env.set r i)
def nilT : List MV → Env → S → Res Env := fun xs ρ s => match xs with
  | [] => .ok ρ s
  | _ => .no
def consT (t : TM) (u : List MV → Env → S → Res Env) : List MV → Env → S → Res Env := fun xs ρ s => match xs with
  | x :: r => (t x ρ s).bind fun ρ1 s1 => u r ρ1 s1
  | [] => .no
theorem sgs_nil : PGs X [] (tMGs mg nilT) := pgs_imp pgs_nil fun vs σ H Q ⟨w, ρ, s, xs, env, hr, r, c⟩ => by
  cases xs with
  | nil => exact ⟨r, c w σ H (Ext.refl _ _) hr env⟩
  | cons => exact c.elim
theorem sgs_cons {t : TM} {u : List MV → Env → S → Res Env} (h1 : PG X e (tMG mg t)) (h2 : PGs X es (tMGs mg u)) (hs : (assignEach (e :: es) X.env).map (·.2) = assign e X.env :: (assignEach es X.env).map (·.2) := by rfl) : PGs X (e :: es) (tMGs mg (consT t u)) :=
  pgs_imp (pgs_cons h1 h2 hs) fun vs σ H Q ⟨w, ρ, s, xs, env, hr, r, c⟩ => by
    cases xs with
    | nil => exact c.elim
    | cons x xr =>
      obtain ⟨v, vr, rfl, r1, r2⟩ := r
      refine ⟨v, vr, rfl, w, ρ, s, x, env, hr, r1, ?_⟩
      have c' : CT mg w H ((t x ρ s).bind fun ρ1 s1 => u xr ρ1 s1) Q := c
      cases hq : t x ρ s with
      | ok ρ1 s1 => rw [hq] at c'; exact fun w' σ' H' e1 h1 env1 => ⟨w', ρ1, s1, xr, env1, h1, r2.ext e1, CT.from e1 c'⟩
      | exc => rw [hq] at c'; exact c'
      | no => rw [hq] at c'; exact c'
def tupT (n : Nat) (t : List MV → Env → S → Res Env) : TM := fun v ρ s => match v with
  | .p (.tup xs) => if xs.length = n then t (xs.map MV.p) ρ s else .no
  | _ => .no
theorem sg_tup {j : Nat} {t : List MV → Env → S → Res Env} {n : Nat} (hc : X.calm = true) (h : PGs X es (tMGs mg t)) (hn : (assignEach es X.env).length = n := by rfl) (hst : (assignEach es X.env).findIdx? (·.1) = none := by rfl) : PG X (.Tuple es j pos) (tMG mg (tupT n t)) :=
  pg_imp (pg_tup hc h hn hst) fun v σ H Q ⟨w, ρ, s, x, env, hr, r, c⟩ => by
    cases x with
    | p y => cases y with
      | tup xs =>
        obtain ⟨p, us, e, _, hp, _, ru⟩ := m_tup r
        have c' : CT mg w H (if xs.length = n then t (xs.map MV.p) ρ s else .no) Q := c
        split at c'
        · rename_i hl
          exact ⟨p, us, e, SqT.of hp, by rw [ru.len]; exact hl, w, ρ, s, _, env, hr, MRepL.ofP ru, c'⟩
        · exact c'.elim
      | _ => exact c.elim
    | _ => exact c.elim
/-- no target raises -/
def Calm (r : Res Env) : Res Env := match r with
  | .ok a s => .ok a s
  | _ => .no
theorem ss_asg {m : E MV} {t : TM} (he : PE X e (tM mg W m)) (hg : PG X tg (tMG mg t)) (hs : swapsWithSole [tg] e pos.line X.env = pure false := by rfl) (hw : swappedStores [tg] e X.env = pure none := by rfl)
    (h1 : (assignEach [tg] X.env).map (·.2) = [assign tg X.env] := by rfl) : PS X (.Assign [tg] e pos) (tMS mg W (asgS m fun v ρ s => Calm (t v ρ s))) := ps_imp (ps_asg he hg hs hw h1) fun D σ H ⟨w, ρ, s, env, hr, c⟩ =>
  ⟨w, ρ, s, env, hr, (CS.bindE (R := MRep mg) (r := m ρ s) env c).mono fun x H1 ⟨a, s1, w1, e1, hr1, ra, c1⟩ => ⟨w1, ρ, s1, a, env.ext e1, hr1, ra, by
    have c2 : CS mg W w1 H1 ((Calm (t a ρ s1)).toSR ρ fun ρ1 s1 => .nx ρ1 s1) D := c1
    cases hq : t a ρ s1 with
    | ok ρ1 s2 => rw [hq] at c2; exact c2
    | no => rw [hq] at c2; exact c2
    | exc => rw [hq] at c2; exact c2⟩⟩
theorem ss_set {i : Nat} {m : E MV} (h : PS X st (tAsg (tM mg W m) (gName i))) : PS X st (tMS mg W (asgS m (nameT i))) := ps_imp h fun D σ H ⟨w, ρ, s, env, hr, c⟩ =>
  ⟨w, ρ, s, env, hr, (CS.bindE (R := MRep mg) (r := m ρ s) env c).mono fun x H1 ⟨a, s1, w1, e1, hr1, ra, c1⟩ => c1 w1 _ H1 (Ext.refl _ _) hr1 ((env.ext e1).set ra i)⟩
/-- x, y = a, b with plain local names -/
def par2 (i j : Nat) (m : E (List MV)) : ST := toS m fun vs ρ s => match vs with
  | [a, b] => .nx ((ρ.set i (some a)).set j (some b)) s
  | _ => .no
theorem ss_par {i j : Nat} {m : E (List MV)} (h : PS X st (tPar i j (tML mg W m))) : PS X st (tMS mg W (par2 i j m)) := ps_imp h fun D σ H ⟨w, ρ, s, env, hr, c⟩ =>
  ⟨w, ρ, s, env, hr, (CS.bindE (R := MRepL mg) (r := m ρ s) env c).mono fun x H1 ⟨a, s1, w1, e1, hr1, ra, c1⟩ => by
    match a, ra, c1 with
    | [], _, c1 => exact c1.elim
    | [_], _, c1 => exact c1.elim
    | [a, b], ⟨u, _, e, r1, v, _, e', r2, e2⟩, c1 =>
      subst e2; subst e'; subst e
      exact ⟨u, v, rfl, c1 w1 _ H1 (Ext.refl _ _) hr1 (((env.ext e1).set r1 i).set r2 j)⟩
    | _ :: _ :: _ :: _, _, c1 => exact c1.elim⟩
def par3 (i j l : Nat) (m : E (List MV)) : ST := toS m fun vs ρ s => match vs with
  | [a, b, c] => .nx (((ρ.set i (some a)).set j (some b)).set l (some c)) s
  | _ => .no
theorem ss_par3 {i j l : Nat} {m : E (List MV)} (h : PS X st (tPar3 i j l (tML mg W m))) : PS X st (tMS mg W (par3 i j l m)) := ps_imp h fun D σ H ⟨w, ρ, s, env, hr, c⟩ =>
  ⟨w, ρ, s, env, hr, (CS.bindE (R := MRepL mg) (r := m ρ s) env c).mono fun x H1 ⟨a, s1, w1, e1, hr1, ra, c1⟩ => by
    match a, ra, c1 with
    | [], _, c1 => exact c1.elim
    | [_], _, c1 => exact c1.elim
    | [_, _], _, c1 => exact c1.elim
    | [a, b, c], ⟨u, _, e, r1, v, _, e', r2, z, _, e3, r3, e2⟩, c1 =>
      subst e2; subst e3; subst e'; subst e
      exact ⟨u, v, z, rfl, c1 w1 _ H1 (Ext.refl _ _) hr1 ((((env.ext e1).set r1 i).set r2 j).set r3 l)⟩
    | _ :: _ :: _ :: _ :: _, _, c1 => exact c1.elim⟩
/-! ## stores -/
def storeV (o i v : MV) (s : S) : Res Unit := match o with
  | .o n => match s.h[n]? with
    | some (some (.lst xs)) => match intO i with
      | some k => match ixN xs.length k with
        | some j => .ok () (s.put n (.lst (xs.set j v)))
        | none => .no
      | none => .no
    | some (some (.dK kvs)) => match keyOf i with
      | some k => if kvs.length < 16777216 then .ok () (s.put n (.dK (putD kvs k v))) else .no
      | none => .no
    | some (some (.dT kvs)) => match keyT i with
      | some k => if kvs.length < 16777216 then .ok () (s.put n (.dT (putD kvs k v))) else .no
      | none => .no
    | _ => .no
  | _ => .no
def rPutA : TSet := fun o i v H Q => rSetL o i v H Q ∨ ∃ a H', o = .ref a ∧ DPut H a i v H' ∧ Q H'
theorem set_dict (hu : X.A.units + 1 < cLine) : PSet X (fun o i v H Q => ∃ a H', o = .ref a ∧ DPut H a i v H' ∧ Q H') := by
  intro pins s σ H o i v ov iv u Q I ro ri rv h
  obtain ⟨a, H', rfl, g, q⟩ := h
  obtain rfl : ov = Value.ref a := ro
  exact d_setItem hu I g ri rv fun s4 I4 => ⟨H', I4, q⟩
theorem set_A (hr : Room k X.A) : PSet X rPutA := by
  intro pins s σ H o i v ov iv u Q I ro ri rv h
  rcases h with h | h
  · exact set_list pins s σ H o i v ov iv u Q I ro ri rv h
  · exact set_dict (hu_of hr) pins s σ H o i v ov iv u Q I ro ri rv h
theorem MRepL.set {w : Wd} {H : Hp} {xs : List MV} {us : List V} (h : MRepL mg w H xs us) {x : MV} {u : V} (r : MRep mg w H x u) (j : Nat) : MRepL mg w H (xs.set j x) (us.set j u) := MRepL.of (by simp [h.len]) fun i y v h1 h2 => by
  by_cases e : j = i
  · subst e
    have hj : j < xs.length := by have := (List.getElem?_eq_some_iff.mp h1).1; simpa using this
    rw [List.getElem?_set_self hj] at h1
    rw [List.getElem?_set_self (by rw [h.len]; exact hj)] at h2
    cases h1; cases h2; exact r
  · rw [List.getElem?_set_ne e] at h1 h2
    exact h.at h1 h2
theorem store_fin {w : Wd} {H : Hp} {s s' : S} {o i v : MV} {ov iv vv : V} (hr : HR mg w s H) (ro : MRep mg w H o ov) (ri : MRep mg w H i iv) (rv : MRep mg w H v vv) (h : storeV o i v s = .ok () s') {Q : Hp → Prop}
    (q : ∀ H', Ext w H w H' → HR mg w s' H' → Q H') : rPutA ov iv vv H Q := by
  unfold storeV at h
  split at h
  · rename_i n
    split at h
    · rename_i xs hx
      split at h
      · rename_i kk hk
        split at h
        · rename_i j hj
          cases h
          obtain rfl := intO_eq hk
          obtain ⟨a, rfl, ha, ⟨us, h1, h2, h3⟩, hb⟩ := hr.addr hx ro
          have e := Ext.write hr ha (.lst (us.set j vv))
          exact .inl ⟨a, us, kk, j, rfl, m_int ri, h1, by rw [h3.len]; exact hj, q _ e (hr.write hx ha ⟨_, upd_same, by rw [List.length_set]; exact h2, (h3.set rv j).ext e⟩)⟩
        · cases h
      · cases h
    · rename_i kvs hx
      split at h
      · rename_i kk hk
        split at h
        · rename_i hl
          cases h
          obtain ⟨a, rfl, ha, ⟨us, h1, h2, h3, h4, h5⟩, hb⟩ := hr.addr hx ro
          have e := Ext.write hr ha (.dK (putK us kk vv))
          obtain ⟨p1, p2⟩ := put_rep (k := kk) rv h2 h5
          have hl2 : us.length = kvs.length := by have := congrArg List.length h2; simpa using this
          refine .inr ⟨a, _, rfl, .inl ⟨us, kk, h1, keyOf_rep hk ri, by rw [hl2, sizeLine_eq]; exact hl, rfl⟩, q _ e (hr.write hx ha ⟨_, upd_same, p1, putD_nodup h3, ?_, p2.ext e⟩)⟩
          have := putD_len (k := kk) (v := v) (kvs := kvs)
          rw [sizeLine_eq]
          omega
        · cases h
      · cases h
    · rename_i kvs hx
      split at h
      · rename_i kk hk
        split at h
        · rename_i hl
          cases h
          obtain ⟨a, rfl, ha, ⟨us, h1, h2, h3, h4, h5⟩, hb⟩ := hr.addr hx ro
          have e := Ext.write hr ha (.dT (putK us kk vv))
          obtain ⟨p1, p2⟩ := put_rep (k := kk) rv h2 h5
          obtain ⟨b, eb, hkb⟩ := keyT_rep hk ri
          have hl2 : us.length = kvs.length := by have := congrArg List.length h2; simpa using this
          refine .inr ⟨a, _, rfl, .inr ⟨us, kk, b, h1, eb, hkb, by rw [hl2, sizeLine_eq]; exact hl, rfl⟩, q _ e (hr.write hx ha ⟨_, upd_same, p1, putD_nodup h3, ?_, p2.ext e⟩)⟩
          have := putD_len (k := kk) (v := v) (kvs := kvs)
          rw [sizeLine_eq]
          omega
        · cases h
      · cases h
    · cases h
  · cases h
/-- o[i] = e -/
def putS (mv mo mi : E MV) : ST := toS mv fun v => toS mo fun o => toS mi fun i ρ s => match storeV o i v s with
  | .ok _ s1 => .nx ρ s1
  | _ => .no
theorem ss_put {o i : Expr} {mv mo mi : E MV} {tpos : Pos} (hr : Room k X.A) (he : PE X e (tM mg W mv)) (ho : PE X o (tM mg W mo)) (hi : PE X i (tM mg W mi)) (hs : swapsWithSole [.Subscript o i tpos] e pos.line X.env = pure false := by rfl) (hw : swappedStores [.Subscript o i tpos] e X.env = pure none := by rfl)
    (h1 : (assignEach [.Subscript o i tpos] X.env).map (·.2) = [assign (.Subscript o i tpos) X.env] := by rfl)
    (ha : ∀ v, assign (.Subscript o i tpos) X.env v = (do
      let ov ← holding [v] (eval o X.env)
      let iv ← holding [v, ov] (eval i X.env)
      standAt tpos
      holding [v, ov, iv] (setItem ov iv v)
      release [v, ov, iv] []) := by intro _; rfl) : PS X (.Assign [.Subscript o i tpos] e pos) (tMS mg W (putS mv mo mi)) :=
  ps_imp (ps_asg he (pg_sub ho hi (set_A hr) ha) hs hw h1) fun D σ H ⟨w, ρ, s, env, hr, c⟩ =>
    ⟨w, ρ, s, env, hr, (CS.bindE (R := MRep mg) (r := mv ρ s) env c).mono fun x H1 ⟨v, s1, w1, e1, hr1, rv, c1⟩ => ⟨w1, ρ, s1, env.ext e1, hr1, (CS.bindE (R := MRep mg) (r := mo ρ s1) (env.ext e1) c1).mono fun y H2 ⟨o, s2, w2, e2, hr2, ro, c2⟩ =>
      ⟨w2, ρ, s2, (env.ext e1).ext e2, hr2, (CS.bindE (R := MRep mg) (r := mi ρ s2) ((env.ext e1).ext e2) c2).mono fun z H3 ⟨i, s3, w3, e3, hr3, ri, c3⟩ => by
        have c4 : CS mg W w3 H3 (match storeV o i v s3 with
          | .ok _ s1 => .nx ρ s1
          | _ => .no) D := c3
        split at c4
        · rename_i u s4 hq
          cases u
          exact store_fin hr3 (ro.ext e3) ri (rv.ext (e2.trans e3)) hq fun H' e4 hr4 => c4 w3 σ H' e4 hr4 (((env.ext e1).ext e2).ext (e3.trans e4))
        · exact c4.elim⟩⟩⟩
/-! ## name op= e -/
def augS (i : Nat) (g : Op2) (m : E MV) : ST := fun ρ s => match ρ[i]? with
  | some (some x) => toS m (fun y => toS (lift (g x y)) fun z ρ s => .nx (ρ.set i (some z)) s) ρ s
  | _ => .no
variable (mg) in
def SimIp (r : TIp) (g : Op2) : Prop := ∀ w s H a b x y X Q, HR mg w s H → MRep mg w H a x → MRep mg w H b y → CE mg (MRep mg) X w H (g a b s) Q → r x y H Q
theorem ss_aug {i : Nat} {m : E MV} {ti : TIp} {g : Op2} (sim : SimIp mg ti g) (h : PS X st (tAug i (tM mg W m) ti)) : PS X st (tMS mg W (augS i g m)) := ps_imp h fun D σ H ⟨w, ρ, s, env, hr, c⟩ => by
  unfold augS at c
  split at c
  · rename_i x hx
    obtain ⟨v, h1, h2⟩ := env.2.1 i x hx
    refine ⟨v, h1, w, ρ, s, env, hr, (CS.bindE (R := MRep mg) (r := m ρ s) env c).mono fun y H1 ⟨b, s1, w1, e1, hr1, rb, c1⟩ => ?_⟩
    refine sim _ _ _ _ _ _ _ (fun c d H => W c d σ H) _ hr1 (h2.ext e1) rb ((CS.bindE (R := MRep mg) (r := g x b s1) (env.ext e1) c1).mono fun z H2 ⟨z', s2, w2, e2, hr2, rz, c2⟩ => ?_)
    exact c2 w2 _ H2 (Ext.refl _ _) hr2 (((env.ext e1).ext e2).set rz i)
  · exact c.elim
def iaddV : Op2 := intOp (fun _ _ => true) fun i j => .int (i + j)
def imulV : Op2 := intOp (fun i j => decide (i.natAbs.log2 + j.natAbs.log2 < 1000000)) fun i j => .int (i * j)
theorem sim_iadd : SimIp mg (ipI fun i j => i + j) iaddV := fun w s H a b x y X Q hr ra rb c => by
  unfold iaddV intOp at c
  split at c
  · split at c
    · exact ⟨_, _, m_int ra, m_int rb, c.okP hr (by rw [Rep])⟩
    · exact c.elim
  · exact c.elim
theorem sim_isub : SimIp mg (ipI fun i j => i - j) subV := fun w s H a b x y X Q hr ra rb c => by
  unfold subV intOp at c
  split at c
  · split at c
    · exact ⟨_, _, m_int ra, m_int rb, c.okP hr (by rw [Rep])⟩
    · exact c.elim
  · exact c.elim
end
end MP

/-! ## MIter -/
set_option Elab.async false
set_option linter.all false
set_option maxRecDepth 100000
set_option maxHeartbeats 2000000
/-! enumerate and zip over lists and tuples, mixed -/
namespace MP
open PySem PySem.Spec PyProof.Rows L2 AK
inductive Kd where | L | T
def SqX (K : PySem.W.Frag) (H : Hp) (t : Kd) (a : Addr) (xs : List V) : Prop := match t with
  | .L => SqL K H a xs
  | .T => SqT K H a xs
def IsX (t : Kd) (h : Heap) (a : Addr) (items : Array Value) : Prop := match t with
  | .L => h.IsList a items
  | .T => h.IsTuple a items
def IsIt (t : Kd) (h : Heap) (it a : Addr) (i : Nat) : Prop := match t with
  | .L => h.IsListIter it a i
  | .T => h.IsTupleIter it a i
def oIt (t : Kd) (a : Addr) : Obj := match t with
  | .L => { cls := .type "list_iterator", data := .fields #[.ref a, .int 0 0] }
  | .T => { cls := .type "tuple_iterator", data := .fields #[.ref a, .int 0 0] }
theorem begX (t : Kd) (a : Addr) (items : Array Value) : Begins (.ref a) (oIt t a) fun h => IsX t h a items := match t with
  | .L => begins_list a items
  | .T => begins_tuple a items
theorem drX {prog : Program} {w : World} {A : Around} (t : Kd) (hh : A.handled = none) (it a : Addr) (hne : a ≠ it) (items : Array Value) :
    Draws prog w A it [it, a] items.size (fun i v => items[i]? = some v) (fun i h => IsIt t h it a i ∧ IsX t h a items) := match t with
  | .L => .list hh it a hne items
  | .T => .tuple hh it a hne items
theorem isIt_at {t : Kd} {h h' : Heap} {it a : Addr} {i : Nat} (x : IsIt t h it a i) (k : ∀ o, h.get? it = some o → h'.get? it = some o) : IsIt t h' it a i := match t, x with
  | .L, x => Heap.IsListIter.at x k
  | .T, x => Heap.IsTupleIter.at x k
theorem isIt_obj {t : Kd} {h : Heap} {it a : Addr} {i : Nat} (x : IsIt t h it a i) : ∃ o, h.get? it = some o ∧ ∀ v, o.data ≠ .cell v := match t, x with
  | .L, ⟨o, e, _, d⟩ => ⟨o, e, fun v z => by rw [d] at z; cases z⟩
  | .T, ⟨o, e, _, d⟩ => ⟨o, e, fun v z => by rw [d] at z; cases z⟩
theorem isIt_new {t : Kd} {h : Heap} {it a : Addr} (e : h.get? it = some (oIt t a)) : IsIt t h it a 0 := match t, e with
  | .L, e => ⟨_, e, rfl, rfl⟩
  | .T, e => ⟨_, e, rfl, rfl⟩
section
variable {X : Cx} {pins : List (Addr × Obj)} {σ : L2.St} {H : Hp} {s : Shared} {a : Addr} {xs ys : List V} {t : Kd}
theorem inv_sq (I : Inv X pins σ H s) (h : SqX X.K H t a xs) : ∃ its : List Value, Vals xs its ∧ IsX t s.heap a its.toArray ∧ a < s.heap.objs.size := by
  match t, h with
  | .L, h => obtain ⟨its, r, p, _⟩ := I.list h; exact ⟨its, r, p.isList, p.lt⟩
  | .T, h => obtain ⟨its, r, p, _⟩ := I.tuple h; exact ⟨its, r, p, p.lt⟩
theorem sq_inj (I : Inv X pins σ H s) (h : SqX X.K H t a xs) (h' : SqX X.K H t a ys) : xs = ys := by
  match t, h, h' with
  | .L, h, h' => exact I.list_inj h h'
  | .T, h, h' => exact I.tuple_inj h h'
end
/-! ## enumerate -/
def IteX (K : PySem.W.Frag) (t : Kd) (a : Addr) : It :=
  ⟨fun i H => ∃ (xs : List V) (x : V), SqX K H t a xs ∧ xs[i]? = some x, fun i H v H' => ∃ T x, v = .ref T ∧ H T = none ∧ H' = upd H T (.tup [.int (i : Nat), x]) ∧ ∀ xs, SqX K H t a xs → xs[i]? = some x, fun i H => ∃ xs : List V, SqX K H t a xs ∧ xs.length = i⟩
theorem turn_enumX {P : Program} {w : World} {K : PySem.W.Frag} {elts : List Expr} {kk : Nat} {tpos : Pos} (t : Kd) (a e it : Addr) (hae : a ≠ it) (hea : e ≠ a) :
    Turn P w K (.Tuple elts kk tpos) (IteX K t a) [e, it] e (fun i h => (∃ old, IsEnum h e it ((i : Nat) : Int) old) ∧ IsIt t h it a i ∧ e ≠ it) where
  mem := by simp
  obj := fun i h st b hb => by
    obtain ⟨⟨old, he⟩, hi, _⟩ := st
    have e' : b = e ∨ b = it := by simpa using hb
    rcases e' with z | z
    · rw [z]; exact ⟨_, he, fun v q => nomatch q⟩
    · rw [z]; exact isIt_obj hi
  keep := fun i h h' st k => let ⟨⟨old, he⟩, hi, hne⟩ := st; ⟨⟨old, k e (by simp) _ he⟩, isIt_at hi fun o q => k it (by simp) o q, hne⟩
  item := by
    intro X hP hw hK hc i pins s σ H E I hf st hg
    subst hP hw hK
    obtain ⟨⟨old, he⟩, hit, hne⟩ := st
    obtain ⟨xs, x, hq, hx⟩ := hg
    obtain ⟨its, rv, p, hal⟩ := inv_sq I hq
    obtain ⟨u, hu, ru⟩ := rv.get hx
    have hel : e < s.heap.objs.size := Heap.lt_size he
    have hil : it < s.heap.objs.size := by obtain ⟨_, q, _⟩ := isIt_obj hit; exact Heap.lt_size q
    have hlt : i < its.toArray.size := by have := (List.getElem?_eq_some_iff.mp hu).1; simpa using this
    refine wpAny_pyNext_enum_itemC (drX t (show X.A.in1.handled = none from I.ok.hd hc) it a hae its.toArray) he ⟨hit, p⟩ hlt hne (by simp [hne, hea]) fun x' h' tk hx' ho hit' hT hsz hk => ?_
    have ex : x' = u := by
      have h1 : its[i]? = some x' := by simpa using hx'
      rw [hu] at h1; exact (Option.some.inj h1).symm
    subst ex
    refine ⟨_, rfl, wpAny_letOwnedTupleGo_enum (s := { s with heap := h', toks := tk + 1 }) ho fun h'' he' sb => ?_⟩
    have hT2 : h''.get? s.heap.objs.size = some { cls := .type "tuple", data := .seq #[.int i tk, x'] } := (sb.2 _ (Nat.ne_of_gt hel)).trans hT
    have new : ObjOk X.prog X.w (upd H s.heap.objs.size (.tup [.int (i : Nat), x])) h'' s.heap.objs.size (.tup [.int (i : Nat), x]) :=
      ⟨by show 2 ≤ sizeLine; decide, [.int i tk, x'], .cons ⟨_, rfl⟩ (.cons ru .nil), ⟨_, hT2, rfl, _, rfl⟩⟩
    have I1 : Inv X pins σ (upd H s.heap.objs.size (.tup [.int (i : Nat), x])) { s with heap := h'', toks := tk + 1 } :=
      I.turnedNew (ch := [e, it]) (fun b ob hb q => (sb.2 b (fun z => hb (by simp [z]))).trans (hk b ob (fun z => hb (by simp [z])) (fun z => hb (by simp [z])) q)) hf (Nat.le_refl _) new
    refine ⟨.ref s.heap.objs.size, _, I1, rfl, ⟨_, x, rfl, I.hok.fresh (Nat.le_refl _), rfl, fun ys hy => by rw [sq_inj I hy hq]; exact hx⟩, ⟨⟨x', ?_⟩, isIt_at hit'.1 fun o q => (sb.2 it (Ne.symm hne)).trans q, hne⟩, fun b hb => ?_⟩
    · have e1 : ((i + 1 : Nat) : Int) = (i : Int) + 1 := by omega
      rw [e1]; exact he'
    · have hb' : b < s.heap.objs.size := by
        have e' : b = e ∨ b = it := by simpa using hb
        rcases e' with z | z
        · rw [z]; exact hel
        · rw [z]; exact hil
      rw [upd_ne (Nat.ne_of_lt hb')]
      exact (hf b hb).1
  done := by
    intro X hP hw hK hc i pins s σ H E I hf st hg
    subst hP hw hK
    obtain ⟨⟨old, he⟩, hit, hne⟩ := st
    obtain ⟨xs, hq, hx⟩ := hg
    obtain ⟨its, rv, p, hal⟩ := inv_sq I hq
    have hl : its.toArray.size = i := by rw [List.size_toArray, ← rv.length]; exact hx
    subst hl
    exact wpAny_pyNext_enum_endD (drX t (show X.A.in1.handled = none from I.ok.hd hc) it a hae its.toArray) he ⟨hit, p⟩ fun h' eb => ⟨rfl, I.turnedL (t' := s.toks) (ch := [e, it]) (fun c o hb q => eb c o (fun z => hb (by simp [z])) q) hf⟩
  self := fun A i s Q E st h => let ⟨⟨_, he⟩, _⟩ := st; wpAny_pyIter_enum he h
end MP
namespace MP
open PySem PySem.Spec PyProof.Rows L2 AK
open AutoSeq1 (wpAny_loadPart')
set_option maxHeartbeats 4000000
theorem meets_enumerate_newX {v : Value} {o : Obj} {H : Heap → Prop} (B : Begins v o H) :
    Meets (Builtin.«enumerate.__new__» ⟨[.type "enumerate", v], []⟩) (fun _ R s => H s.heap ∧
      R (.ok (.ret (.ref (s.heap.push o).objs.size))) { s with heap := (s.heap.push o).push { cls := .type "enumerate", data := .fields #[.none, .bool false, .ref s.heap.objs.size, rawInt 0, .none, .none] } }) :=
  .of_wp fun prog w A R s h => by
    obtain ⟨hp, g, d, tk, os⟩ := s; obtain ⟨h1, h⟩ := h
    have hsub := sub_enumerate
    have q1 : ∀ {A' : Around} {E : Value → Shared → Prop} {Q : Value → Shared → Prop}, Q (.ref hp.objs.size) ⟨hp.push o, g, d, tk, os⟩ → wpAny (model prog w) A' (pyIter v) Q E ⟨hp, g, d, tk, os⟩ :=
      fun q => B.iter prog w _ _ ⟨hp, g, d, tk, os⟩ _ h1 q
    wp_walk using q1
    refine wpAny_stack_any fun st => wpAny_pure ?_
    split
    · rename_i c _ _ _ _ _
      cases (c == Value.type "enumerate")
      · wp_walk using q1
        exact ⟨_, rfl, h⟩
      · wp_walk using q1
        exact ⟨_, rfl, h⟩
    · wp_walk using q1
      exact ⟨_, rfl, h⟩
theorem enum_begins1 {prog : Program} {w : World} {A : Around} {E : Value → Shared → Prop} {s : Shared} {v : Value} {o : Obj} {H : Heap → Prop} {Q : Value → Shared → Prop} (B : Begins v o H) (h1 : H s.heap)
    (h : ∀ h', IsEnum h' (s.heap.objs.size + 1) s.heap.objs.size 0 .none → h'.get? s.heap.objs.size = some o → h'.objs.size = s.heap.objs.size + 2 →
      (∀ b o, s.heap.get? b = some o → h'.get? b = some o) → Q (.ref (s.heap.objs.size + 1)) { s with heap := h' }) :
    wpAny (model prog w) A (call (.type "enumerate") [v]) Q E s := by
  refine callType_new F.called_enumerate (by decide) (F.typeCall_enumerate_1 _) (F.newCall_enumerate_1 _) (fun obj => F.args_object_init_2 obj _) F.entry_enumerate_new
    (meets_enumerate_newX B) ⟨h1, ?_⟩
  have hz : (s.heap.push o).objs.size = s.heap.objs.size + 1 := Heap.size_push ..
  show _ ∧ _
  rw [hz]
  have he : IsEnum ((s.heap.push o).push { cls := .type "enumerate", data := .fields #[.none, .bool false, .ref s.heap.objs.size, rawInt 0, .none, .none] }) (s.heap.objs.size + 1) s.heap.objs.size 0 .none := by
    have := Heap.get?_push_size (s.heap.push o) (o := { cls := .type "enumerate", data := .fields #[.none, .bool false, .ref s.heap.objs.size, rawInt 0, .none, .none] }) rfl
    rw [hz] at this; exact this
  refine ⟨⟨_, he, rfl⟩, h _ he (Heap.get?_push_of_some _ (Heap.get?_push_size _ B.free)) (by rw [Heap.size_push, hz]) fun b o x => Heap.get?_push_of_some _ (Heap.get?_push_of_some _ x)⟩
def iEnumX (K : PySem.W.Frag) (ta : TA) : TI := fun σ H R => ta σ H fun vs H1 => ∃ t a xs, vs = [.ref a] ∧ SqX K H1 t a xs ∧ R (IteX K t a) H1
theorem pi_enumX {X : Cx} {e : Expr} {ta : TA} {p pos tpos : Pos} {elts : List Expr} {kk : Nat} (hg : Gl X "enumerate") (hm : X.mg "enumerate" = none) (ha : PA X [e] ta) (hs : starEach [e] X.env = [(false, eval e X.env)] := by rfl) :
    PI X (.Tuple elts kk tpos) (.Call (.Name "enumerate" p) [e] [] pos) (iEnumX X.K ta) := by
  refine ⟨fun pins s σ H R I h => ?_⟩
  refine Call_ (ld_blt I hg hm boot_enumerate (PyProof.Rows.callWith_type1 (thn (ha.run pos pins s σ H _ I h) fun us s1 ⟨vs, H1, I1, r1, q1⟩ => ?_) hs rfl))
  obtain ⟨t, a, xs, ex, hq, q⟩ := q1
  subst ex
  cases r1 with
  | cons r rr =>
    cases rr
    cases r
    obtain ⟨its, rv, p', hal⟩ := inv_sq I1 hq
    refine enum_begins1 (begX t a its.toArray) p' fun h' he hit hsz hk => wpAny_pyIter_enum he ?_
    have I2 : Inv X pins σ H1 { s1 with heap := h' } := I1.kept (t' := s1.toks) hk
    have hal' : (a : Nat) < s1.heap.objs.size := hal
    refine ⟨s1.heap.objs.size + 1, [s1.heap.objs.size + 1, s1.heap.objs.size], _, _, H1, rfl, I2, turn_enumX t a (s1.heap.objs.size + 1) s1.heap.objs.size (Nat.ne_of_lt hal') (Nat.ne_of_gt (Nat.lt_succ_of_lt hal')), ⟨⟨.none, he⟩, isIt_new hit, Nat.succ_ne_self _⟩, fun b hb => ?_, q⟩
    have e' : b = s1.heap.objs.size + 1 ∨ b = s1.heap.objs.size := by simpa using hb
    have hle : s1.heap.objs.size ≤ b := by
      rcases e' with z | z
      · rw [z]; exact Nat.le_add_right _ _
      · rw [z]; exact Nat.le_refl _
    exact I1.fpOk hle (I1.hok.fresh hle)
/-! ## zip -/
def ItzX (K : PySem.W.Frag) (t t' : Kd) (a b : Addr) : It :=
  ⟨fun i H => ∃ (xs ys : List V) (x y : V), SqX K H t a xs ∧ SqX K H t' b ys ∧ xs[i]? = some x ∧ ys[i]? = some y,
    fun i H v H' => ∃ T x y, v = .ref T ∧ H T = none ∧ H' = upd H T (.tup [x, y]) ∧ (∀ xs, SqX K H t a xs → xs[i]? = some x) ∧ ∀ ys, SqX K H t' b ys → ys[i]? = some y,
    fun i H => ∃ xs ys : List V, SqX K H t a xs ∧ SqX K H t' b ys ∧ i ≤ xs.length ∧ i ≤ ys.length ∧ (i = xs.length ∨ i = ys.length)⟩
structure ZAp (z TI TO i1 i2 a b : Addr) : Prop where
  sep : ZipSep2 z TI TO i1 i2 [i1, a] [i2, b]
  a1 : a ≠ i1
  b2 : b ≠ i2
  i12 : i1 ≠ i2
  z1 : z ≠ i1
  z2 : z ≠ i2
  t1 : TO ≠ i1
  t2 : TO ≠ i2
theorem turn_zipX {P : Program} {w : World} {K : PySem.W.Frag} {elts : List Expr} {kk : Nat} {tpos : Pos} {a b z TI TO i1 i2 : Addr} (t t' : Kd) (D : ZAp z TI TO i1 i2 a b) :
    Turn P w K (.Tuple elts kk tpos) (ItzX K t t' a b) [z, TI, TO, i1, i2] z (fun i h => IsZip h z TI TO .none ∧ IsTupOf2 h TI (.ref i1) (.ref i2) ∧ (∃ x y, IsTupOf2 h TO x y) ∧ IsIt t h i1 a i ∧ IsIt t' h i2 b i) where
  mem := by simp
  obj := fun i h st c hc => by
    obtain ⟨hz, hTI, ⟨x, y, hTO⟩, h1, h2⟩ := st
    have e' : c = z ∨ c = TI ∨ c = TO ∨ c = i1 ∨ c = i2 := by simpa using hc
    rcases e' with q | q | q | q | q
    · rw [q]; exact ⟨_, hz, fun v q => nomatch q⟩
    · rw [q]; exact ⟨_, hTI, fun v q => nomatch q⟩
    · rw [q]; exact ⟨_, hTO, fun v q => nomatch q⟩
    · rw [q]; exact isIt_obj h1
    · rw [q]; exact isIt_obj h2
  keep := fun i h h' st k => by
    obtain ⟨hz, hTI, ⟨x, y, hTO⟩, h1, h2⟩ := st
    exact ⟨k z (by simp) _ hz, k TI (by simp) _ hTI, ⟨x, y, k TO (by simp) _ hTO⟩, isIt_at h1 fun o q => k i1 (by simp) o q, isIt_at h2 fun o q => k i2 (by simp) o q⟩
  item := by
    intro X hP hw hK hc i pins s σ H E I hf st hg
    subst hP hw hK
    obtain ⟨hz, hTI, ⟨x0, y0, hTO⟩, h1, h2⟩ := st
    obtain ⟨xs, ys, x, y, hqx, hqy, hx, hy⟩ := hg
    obtain ⟨its, rv, p, _⟩ := inv_sq I hqx
    obtain ⟨its2, rv2, p2, _⟩ := inv_sq I hqy
    obtain ⟨u, hu, ru⟩ := rv.get hx
    obtain ⟨u2, hu2, ru2⟩ := rv2.get hy
    have hzl : z < s.heap.objs.size := Heap.lt_size hz
    have hh : X.A.in1.handled = none := I.ok.hd hc
    have l1 : i < its.toArray.size := by have := (List.getElem?_eq_some_iff.mp hu).1; simpa using this
    have l2 : i < its2.toArray.size := by have := (List.getElem?_eq_some_iff.mp hu2).1; simpa using this
    refine wpAny_pyNext_zipD2_item D.sep (drX t hh i1 a D.a1 its.toArray) (drX t' hh i2 b D.b2 its2.toArray) hz hTI hTO ⟨h1, p⟩ ⟨h2, p2⟩ l1 l2 fun x1 x2 h' tk e1 e2 z' TO' h1' h2' hT hsz hk => ?_
    obtain rfl : x1 = u := by
      have q : its[i]? = some x1 := by simpa using e1
      rw [hu] at q; exact (Option.some.inj q).symm
    obtain rfl : x2 = u2 := by
      have q : its2[i]? = some x2 := by simpa using e2
      rw [hu2] at q; exact (Option.some.inj q).symm
    refine ⟨_, rfl, wpAny_letOwnedTupleGo_zip (s := { s with heap := h', toks := tk }) z' fun h'' z'' sb => ?_⟩
    have hT2 : h''.get? s.heap.objs.size = some { cls := .type "tuple", data := .seq #[x1, x2] } := (sb.2 _ (Nat.ne_of_gt hzl)).trans hT
    have new : ObjOk X.prog X.w (upd H s.heap.objs.size (.tup [x, y])) h'' s.heap.objs.size (.tup [x, y]) :=
      ⟨by show 2 ≤ sizeLine; decide, [x1, x2], .cons ru (.cons ru2 .nil), ⟨_, hT2, rfl, _, rfl⟩⟩
    have I1 : Inv X pins σ (upd H s.heap.objs.size (.tup [x, y])) { s with heap := h'', toks := tk } :=
      I.turnedNew (ch := [z, TI, TO, i1, i2]) (fun c o hb q => (sb.2 c (fun q' => hb (by simp [q']))).trans (hk c o (fun q' => hb (by simp [q'])) (fun q' => hb (by simp [q'])) (fun q' => hb (by simp [q'])) (fun q' => hb (by simp [q'])) q)) hf (Nat.le_refl _) new
    have lti : ∀ c, c ∈ [z, TI, TO, i1, i2] → c < s.heap.objs.size := fun c hcm => by
      have e' : c = z ∨ c = TI ∨ c = TO ∨ c = i1 ∨ c = i2 := by simpa using hcm
      rcases e' with q | q | q | q | q
      · rw [q]; exact hzl
      · rw [q]; exact Heap.lt_size hTI
      · rw [q]; exact Heap.lt_size hTO
      · rw [q]; obtain ⟨_, e1, _⟩ := isIt_obj h1; exact Heap.lt_size e1
      · rw [q]; obtain ⟨_, e2, _⟩ := isIt_obj h2; exact Heap.lt_size e2
    refine ⟨.ref s.heap.objs.size, _, I1, rfl, ⟨_, x, y, rfl, I.hok.fresh (Nat.le_refl _), rfl, fun l hl => by rw [sq_inj I hl hqx]; exact hx, fun l hl => by rw [sq_inj I hl hqy]; exact hy⟩, ⟨z'', ?_, ⟨x1, x2, ?_⟩, ?_, ?_⟩, fun c hcm => ?_⟩
    · exact (sb.2 _ D.sep.TIz).trans (hk _ _ D.sep.TIz D.sep.TITO D.sep.TIi1 D.sep.TIi2 hTI)
    · exact (sb.2 _ D.sep.TOz).trans TO'
    · exact isIt_at h1'.1 fun o q => (sb.2 _ (Ne.symm D.z1)).trans q
    · exact isIt_at h2'.1 fun o q => (sb.2 _ (Ne.symm D.z2)).trans q
    · rw [upd_ne (Nat.ne_of_lt (lti c hcm))]
      exact (hf c hcm).1
  done := by
    intro X hP hw hK hc i pins s σ H E I hf st hg
    subst hP hw hK
    obtain ⟨hz, hTI, ⟨x0, y0, hTO⟩, h1, h2⟩ := st
    obtain ⟨xs, ys, hqx, hqy, le1, le2, hend⟩ := hg
    obtain ⟨its, rv, p, _⟩ := inv_sq I hqx
    obtain ⟨its2, rv2, p2, _⟩ := inv_sq I hqy
    have l1 := rv.length
    have l2 := rv2.length
    have hh : X.A.in1.handled = none := I.ok.hd hc
    have s1 : its.toArray.size = xs.length := by rw [List.size_toArray]; exact l1.symm
    have s2 : its2.toArray.size = ys.length := by rw [List.size_toArray]; exact l2.symm
    exact wpAny_pyNext_zipD2_end D.sep (drX t hh i1 a D.a1 its.toArray) (drX t' hh i2 b D.b2 its2.toArray) hz hTI hTO ⟨h1, p⟩ ⟨h2, p2⟩ (by rw [s1]; exact le1) (by rw [s2]; exact le2) (by rw [s1, s2]; exact hend) fun h' tk hk => ⟨rfl, I.turnedL (ch := [z, TI, TO, i1, i2]) (fun c o hb q =>
      hk c o (fun q' => hb (by simp [q'])) (fun q' => hb (by simp [q'])) (fun q' => hb (by simp [q'])) (fun q' => hb (by simp [q'])) q) hf⟩
  self := fun A i s Q E st h => wpAny_pyIter_zip st.1 h
def iZipX (K : PySem.W.Frag) (ta : TA) : TI := fun σ H R => ta σ H fun vs H1 => ∃ t t' a b xs ys, vs = [.ref a, .ref b] ∧ SqX K H1 t a xs ∧ SqX K H1 t' b ys ∧ R (ItzX K t t' a b) H1
theorem pi_zipX {X : Cx} {e e2 : Expr} {ta : TA} {p pos tpos : Pos} {elts : List Expr} {kk : Nat} (hg : Gl X "zip") (hm : X.mg "zip" = none) (ha : PA X [e, e2] ta)
    (hs : starEach [e, e2] X.env = (false, eval e X.env) :: starEach [e2] X.env := by rfl) (hpl : (backTo pos (starEach [e2] X.env)).any (·.1) = false := by rfl) :
    PI X (.Tuple elts kk tpos) (.Call (.Name "zip" p) [e, e2] [] pos) (iZipX X.K ta) := by
  refine ⟨fun pins s σ H R I h => ?_⟩
  refine Call_ (ld_blt I hg hm PyProof.Rows.boot_zip (PyProof.Rows.callWith_type1 (thn (ha.run pos pins s σ H _ I h) fun us s1 ⟨vs, H1, I1, r1, q1⟩ => ?_) hs hpl))
  obtain ⟨t, t', a, b, xs, ys, ex, hqx, hqy, q1⟩ := q1
  subst ex
  cases r1 with
  | cons r rr =>
    cases rr with
    | cons r' rr =>
      cases rr
      cases r
      cases r'
      obtain ⟨its, rv, p1, la⟩ := inv_sq I1 hqx
      obtain ⟨its2, rv2, p2, lb⟩ := inv_sq I1 hqy
      refine zip_begins2 (begX t a its.toArray) (begX t' b its2.toArray) p1 p2 fun h' hz hTI hTO g1 g2 hsz hk => wpAny_pyIter_zip hz ?_
      have I2 : Inv X pins σ H1 { s1 with heap := h' } := I1.kept (t' := s1.toks) hk
      have la' : (a : Nat) < s1.heap.objs.size := la
      have lb' : (b : Nat) < s1.heap.objs.size := lb
      have sep := zip_sep2 (N := s1.heap.objs.size) (fp1 := [a]) (fp2 := [b]) (fun c hc => by rw [List.mem_singleton.mp hc]; exact la) (fun c hc => by rw [List.mem_singleton.mp hc]; exact lb)
      have ap : ZAp (s1.heap.objs.size + 4) (s1.heap.objs.size + 2) (s1.heap.objs.size + 3) s1.heap.objs.size (s1.heap.objs.size + 1) a b :=
        ⟨sep, Nat.ne_of_lt la', Nat.ne_of_lt (Nat.lt_succ_of_lt lb'), show (s1.heap.objs.size : Nat) ≠ s1.heap.objs.size + 1 by omega, show (s1.heap.objs.size + 4 : Nat) ≠ s1.heap.objs.size by omega,
          show (s1.heap.objs.size + 4 : Nat) ≠ s1.heap.objs.size + 1 by omega, show (s1.heap.objs.size + 3 : Nat) ≠ s1.heap.objs.size by omega, show (s1.heap.objs.size + 3 : Nat) ≠ s1.heap.objs.size + 1 by omega⟩
      refine ⟨s1.heap.objs.size + 4, [s1.heap.objs.size + 4, s1.heap.objs.size + 2, s1.heap.objs.size + 3, s1.heap.objs.size, s1.heap.objs.size + 1], _, _, H1, rfl, I2, turn_zipX t t' ap, ⟨hz, hTI, ⟨_, _, hTO⟩, isIt_new g1, isIt_new g2⟩, fun c hcm => ?_, q1⟩
      have e' : c = s1.heap.objs.size + 4 ∨ c = s1.heap.objs.size + 2 ∨ c = s1.heap.objs.size + 3 ∨ c = s1.heap.objs.size ∨ c = s1.heap.objs.size + 1 := by simpa using hcm
      have hle : s1.heap.objs.size ≤ c := by
        rcases e' with z | z | z | z | z
        · rw [z]; exact Nat.le_add_right _ _
        · rw [z]; exact Nat.le_add_right _ _
        · rw [z]; exact Nat.le_add_right _ _
        · rw [z]; exact Nat.le_refl _
        · rw [z]; exact Nat.le_add_right _ _
      exact I1.fpOk hle (I1.hok.fresh hle)
end MP

/-! ## MLoop -/
set_option Elab.async false
set_option linter.all false
set_option maxRecDepth 100000
set_option maxHeartbeats 2000000
/-! MP: loops, comprehensions -/
namespace MP
open PySem PySem.Spec PyProof.Rows L2 AK
structure Items where
  xs : List MV
  src : Option (Nat × MO) := none
def Items.chk (it : Items) (s : S) : Bool := match it.src with
  | none => true
  | some (n, o) => decide (s.h[n]? = some (some o))
abbrev W0 : WX := fun _ _ _ _ => False
section
variable {X : Cx} {mg : Gm} {W : WX} {K : PySem.W.Frag} {e a b c tg : Expr} {es : List Expr} {st : Stmt} {sts : List Stmt} {pos : Pos} {k : Nat}
variable (mg) in
structure Wlk (w : Wd) (H : Hp) (it : Items) (J : It) : Prop where
  len : it.xs.length ≤ sizeLine
  run : ∀ w' s' H', Ext0 w H w' H' → HR mg w' s' H' → it.chk s' = true →
    (∀ (i : Nat) x, it.xs[i]? = some x → J.go i H' ∧ ∀ u H'', J.yld i H' u H'' → ∃ w'', Ext w' H' w'' H'' ∧ HR mg w'' s' H'' ∧ MRep mg w'' H'' x u) ∧ J.stop it.xs.length H'
variable (mg) in
def tMI (W : WX) (m : E Items) : TI := fun σ H R => ∃ w ρ s, EnvR mg w H ρ σ ∧ HR mg w s H ∧ CE mg (Wlk mg) (fun c d H => W c d σ H) w H (m ρ s) R
/-! ## what is walked -/
theorem Wlk.list {w : Wd} {H : Hp} {p : Addr} {us : List V} {xs : List PV} (nb : ¬ w.bad p) (hp : H p = some (.lst us)) (hz : xs.length ≤ sizeLine) (r : RepL mg w.bad H xs us) : Wlk mg w H ⟨xs.map MV.p, none⟩ (Itl K p) := by
  refine ⟨by rw [List.length_map]; exact hz, fun w' s' H' e hr _ => ?_⟩
  have hp' := (e.kept nb hp (fun z => z) (fun _ _ z => nomatch z)).2
  have r' := MRepL.ext0 e (MRepL.ofP r)
  refine ⟨fun i x hx => ?_, ⟨us, SqL.of hp', by rw [r'.len]; exact Nat.le_refl _⟩⟩
  obtain ⟨u, hu, ru⟩ := r'.get hx
  exact ⟨⟨us, u, SqL.of hp', hu⟩, fun v H'' ⟨e1, y⟩ => by
    subst e1
    have : us[i]? = some v := y us (SqL.of hp')
    rw [hu] at this; cases this
    exact ⟨w', Ext.refl _ _, hr, ru⟩⟩
theorem Wlk.tup {w : Wd} {H : Hp} {p : Addr} {us : List V} {xs : List PV} (nb : ¬ w.bad p) (hp : H p = some (.tup us)) (hz : xs.length ≤ sizeLine) (r : RepL mg w.bad H xs us) : Wlk mg w H ⟨xs.map MV.p, none⟩ (Itt K p) := by
  refine ⟨by rw [List.length_map]; exact hz, fun w' s' H' e hr _ => ?_⟩
  have hp' := (e.kept nb hp (fun z => z) (fun _ _ z => nomatch z)).2
  have r' := MRepL.ext0 e (MRepL.ofP r)
  refine ⟨fun i x hx => ?_, ⟨us, SqT.of hp', by rw [r'.len]; exact Nat.le_refl _⟩⟩
  obtain ⟨u, hu, ru⟩ := r'.get hx
  exact ⟨⟨us, u, SqT.of hp', hu⟩, fun v H'' ⟨e1, y⟩ => by
    subst e1
    have : us[i]? = some v := y us (SqT.of hp')
    rw [hu] at this; cases this
    exact ⟨w', Ext.refl _ _, hr, ru⟩⟩
theorem Items.chk_o {n : Nat} {o : MO} {xs : List MV} {s : S} (h : Items.chk ⟨xs, some (n, o)⟩ s = true) : s.h[n]? = some (some o) := of_decide_eq_true h
theorem Wlk.obj {w : Wd} {H : Hp} {s : S} {n : Nat} {v : V} {xs : List MV} (hr : HR mg w s H) (h : s.h[n]? = some (some (.lst xs))) (r : MRep mg w H (.o n) v) : ∃ p us, v = .ref p ∧ H p = some (.lst us) ∧ Wlk mg w H ⟨xs, some (n, .lst xs)⟩ (Itl K p) := by
  obtain ⟨p, rfl, h1, ⟨us, h2, h3, h4⟩, hb⟩ := hr.addr h r
  refine ⟨p, us, rfl, h2, h3, fun w' s' H' e hr' hc => ?_⟩
  obtain ⟨p', e', h1', ⟨us', h2', h3', h4'⟩, hb'⟩ := hr'.addr (Items.chk_o hc) (r.ext0 e)
  cases e'
  refine ⟨fun i x hx => ?_, ⟨us', SqL.of h2', by rw [h4'.len]; exact Nat.le_refl _⟩⟩
  obtain ⟨u, hu, ru⟩ := h4'.get hx
  exact ⟨⟨us', u, SqL.of h2', hu⟩, fun v H'' ⟨e1, y⟩ => by
    subst e1
    have : us'[i]? = some v := y us' (SqL.of h2')
    rw [hu] at this; cases this
    exact ⟨w', Ext.refl _ _, hr', ru⟩⟩
def signs (z : Str) : List MV := z.cps.toList.map fun c => MV.p (.str ⟨#[c]⟩)
theorem Wlk.str {w : Wd} {H : Hp} {z : Str} (hz : z.cps.size ≤ 16777216) : Wlk mg w H ⟨signs z, none⟩ (Its z) := by
  have hl : (signs z).length = z.cps.size := by unfold signs; simp
  refine ⟨by show (signs z).length ≤ _; rw [hl]; exact szl hz, fun w' s' H' e hr _ => ⟨fun i x hx => ?_, by show z.cps.size ≤ (signs z).length; rw [hl]; exact Nat.le_refl _⟩⟩
  have hi : i < z.cps.size := by rw [← hl]; exact (List.getElem?_eq_some_iff.mp hx).1
  refine ⟨hi, fun v H'' ⟨e1, c, hc, ev⟩ => ?_⟩
  subst e1
  subst ev
  have hx' : (signs z)[i]? = some x := hx
  unfold signs at hx'
  rw [List.getElem?_map] at hx'
  have hc' : z.cps.toList[i]? = some c := by simpa using hc
  rw [hc'] at hx'
  cases hx'
  exact ⟨w', Ext.refl _ _, hr, (show Rep mg _ _ _ _ by rw [Rep])⟩
def itemsV (a : MV) (s : S) : Res Items := match a with
  | .p (.tup xs) => .ok ⟨xs.map MV.p, none⟩ s
  | .p (.lst xs) => .ok ⟨xs.map MV.p, none⟩ s
  | .p (.str z) => if z.cps.size ≤ 16777216 then .ok ⟨signs z, none⟩ s else .no
  | .o n => match lstO s.h[n]? with
    | some xs => .ok ⟨xs, some (n, .lst xs)⟩ s
    | none => .no
  | _ => .no
def iterE (m : E MV) : E Items := bind m fun a => lift (itemsV a)
theorem bind_is {α β : Type} {m : E α} {f : α → E β} {ρ : Env} {s s1 : S} {a : α} (h : m ρ s = .ok a s1) : bind m f ρ s = f a ρ s1 := bind_ok h
theorem CE.at {α β : Type} {R : Wd → Hp → α → β → Prop} {Y : XK} {w : Wd} {H : Hp} {a : α} {s : S} {Q : β → Hp → Prop} (h : CE mg R Y w H (.ok a s) Q) (hr : HR mg w s H) {b : β} (r : R w H a b) : Q b H := h w b H (Ext.refl _ _) hr r
theorem tM_of {m : E MV} {w : Wd} {ρ : Env} {s : S} {σ : L2.St} {H : Hp} {Q : VK} (env : EnvR mg w H ρ σ) (hr : HR mg w s H) (c : CE mg (MRep mg) (fun c d H => W c d σ H) w H (m ρ s) Q) : tM mg W m σ H Q := ⟨w, ρ, s, env, hr, c⟩
theorem ei_seq {m : E MV} (he : PE X e (tM mg W m)) : PI X tg e (tMI mg W (iterE m)) := pi_imp (pi_or2 (pi_list he) (pi_or2 (pi_tup he) (pi_str he))) fun σ H R ⟨w, ρ, s, env, hr, c⟩ => by
  cases hm : m ρ s with
  | no => have c1 : CE mg (Wlk mg) _ w H ((m ρ s).bind _) R := c; rw [hm] at c1; exact c1.elim
  | exc cc f x s1 => have c1 : CE mg (Wlk mg) _ w H ((m ρ s).bind _) R := c; rw [hm] at c1; exact .inl (tM_of env hr (by rw [hm]; exact c1))
  | ok a s1 =>
    have c1 : CE mg (Wlk mg) (fun c d H => W c d σ H) w H (itemsV a s1) R := by
      have c0 : CE mg (Wlk mg) (fun c d H => W c d σ H) w H ((m ρ s).bind fun a s1 => itemsV a s1) R := c
      rw [hm] at c0; exact c0
    unfold itemsV at c1
    split at c1
    · exact .inr (.inl (tM_of env hr (by
        rw [hm]
        intro w1 x H1 e1 hr1 ra
        obtain ⟨p, us, e, nb, hp, hz, ru⟩ := m_tup ra
        exact ⟨p, e, ⟨us, SqT.of hp⟩, c1 w1 _ H1 e1 hr1 (Wlk.tup nb hp hz ru)⟩)))
    · exact .inl (tM_of env hr (by
        rw [hm]
        intro w1 x H1 e1 hr1 ra
        obtain ⟨p, us, e, nb, hp, hz, ru⟩ := m_lst ra
        exact ⟨p, e, ⟨us, SqL.of hp⟩, c1 w1 _ H1 e1 hr1 (Wlk.list nb hp hz ru)⟩))
    · split at c1
      · rename_i z hz
        exact .inr (.inr (tM_of env hr (by
          rw [hm]
          intro w1 x H1 e1 hr1 ra
          exact ⟨z, m_str ra, c1 w1 _ H1 e1 hr1 (Wlk.str hz)⟩)))
      · exact c1.elim
    · split at c1
      · rename_i n xs hl
        exact .inl (tM_of env hr (by
          rw [hm]
          intro w1 x H1 e1 hr1 ra
          obtain ⟨p, us, e, hp, wl⟩ := Wlk.obj hr1 (lstO_eq hl) ra
          exact ⟨p, e, ⟨us, SqL.of hp⟩, c1 w1 _ H1 e1 hr1 wl⟩))
      · exact c1.elim
    · exact c1.elim
/-! range -/
def rngL (lo : Int) (n : Nat) : List MV := (List.range n).map fun i => MV.p (.int (lo + (i : Nat)))
theorem Wlk.rng {w : Wd} {H : Hp} {lo : Int} {n : Nat} (hn : n ≤ 16777216) : Wlk mg w H ⟨rngL lo n, none⟩ (Itr lo n) := by
  have hl : (rngL lo n).length = n := by unfold rngL; simp
  refine ⟨by show (rngL lo n).length ≤ _; rw [hl]; exact szl hn, fun w' s' H' e hr _ => ⟨fun i x hx => ?_, by show n ≤ (rngL lo n).length; rw [hl]; exact Nat.le_refl _⟩⟩
  have hi : i < n := by rw [← hl]; exact (List.getElem?_eq_some_iff.mp hx).1
  refine ⟨hi, fun v H'' ⟨e1, ev⟩ => ?_⟩
  subst e1
  subst ev
  have hx' : (rngL lo n)[i]? = some x := hx
  unfold rngL at hx'
  rw [List.getElem?_map, List.getElem?_range hi] at hx'
  cases hx'
  exact ⟨w', Ext.refl _ _, hr, (show Rep mg _ _ _ _ by rw [Rep])⟩
def okR (i : Int) : Bool := decide (-(2 ^ 62) ≤ i) && decide (i < 2 ^ 62)
def rngV1 (vs : List MV) (s : S) : Res Items := match vs with
  | [.p (.int j)] => if (okR j && decide (j.toNat ≤ 16777216)) = true then .ok ⟨rngL 0 j.toNat, none⟩ s else .no
  | _ => .no
def rngV2 (vs : List MV) (s : S) : Res Items := match vs with
  | [.p (.int i), .p (.int j)] => if (okR i && okR j && decide ((j - i).toNat ≤ 16777216)) = true then .ok ⟨rngL i (j - i).toNat, none⟩ s else .no
  | _ => .no
def rngE1 (m : E (List MV)) : E Items := bind m fun a => lift (rngV1 a)
def rngE2 (m : E (List MV)) : E Items := bind m fun a => lift (rngV2 a)
theorem okR_of {i : Int} (h : okR i = true) : -(2 ^ 62) ≤ i ∧ i < 2 ^ 62 := by
  unfold okR at h
  rw [Bool.and_eq_true, decide_eq_true_eq, decide_eq_true_eq] at h
  exact h
theorem ei_rng1 {m : E (List MV)} (h : PI X tg e (iRng1 (tML mg W m))) : PI X tg e (tMI mg W (rngE1 m)) := pi_imp h fun σ H R ⟨w, ρ, s, env, hr, c⟩ => by
  refine ⟨w, ρ, s, env, hr, (CE.bind (R := MRepL mg) (r := m ρ s) c).mono fun x H1 ⟨a, s1, w1, e1, hr1, ra, c1⟩ => ?_⟩
  have c2 : CE mg (Wlk mg) (fun c d H => W c d σ H) w1 H1 (rngV1 a s1) R := c1
  unfold rngV1 at c2
  split at c2
  · split at c2
    · rename_i j hj
      rw [Bool.and_eq_true, decide_eq_true_eq] at hj
      obtain ⟨u, t, rfl, r1, r2⟩ := ra
      obtain rfl : t = [] := r2
      exact ⟨j, by rw [m_int r1], (okR_of hj.1).1, (okR_of hj.1).2, c2 w1 _ H1 (Ext.refl _ _) hr1 (Wlk.rng hj.2)⟩
    · exact c2.elim
  · exact c2.elim
theorem ei_rng2 {m : E (List MV)} (h : PI X tg e (iRng2 (tML mg W m))) : PI X tg e (tMI mg W (rngE2 m)) := pi_imp h fun σ H R ⟨w, ρ, s, env, hr, c⟩ => by
  refine ⟨w, ρ, s, env, hr, (CE.bind (R := MRepL mg) (r := m ρ s) c).mono fun x H1 ⟨a, s1, w1, e1, hr1, ra, c1⟩ => ?_⟩
  have c2 : CE mg (Wlk mg) (fun c d H => W c d σ H) w1 H1 (rngV2 a s1) R := c1
  unfold rngV2 at c2
  split at c2
  · split at c2
    · rename_i i j hj
      rw [Bool.and_eq_true, Bool.and_eq_true, decide_eq_true_eq] at hj
      obtain ⟨u, _, rfl, r1, v, t, rfl, r2, r3⟩ := ra
      obtain rfl : t = [] := r3
      exact ⟨i, j, by rw [m_int r1, m_int r2], ⟨(okR_of hj.1.1).1, (okR_of hj.1.1).2, (okR_of hj.1.2).1, (okR_of hj.1.2).2⟩, c2 w1 _ H1 (Ext.refl _ _) hr1 (Wlk.rng hj.2)⟩
    · exact c2.elim
  · exact c2.elim
/-! enumerate, zip, reversed -/
/-- a list or a tuple whose items are values, and what must stay so -/
structure Sq where
  xs : List PV
  src : Option (Nat × MO)
  kd : Kd
def sqV (a : MV) (s : S) : Option Sq := match a with
  | .p (.tup xs) => some ⟨xs, none, .T⟩
  | .p (.lst xs) => some ⟨xs, none, .L⟩
  | .o n => match lstO s.h[n]? with
    | some zs => match allP zs with
      | some xs => some ⟨xs, some (n, .lst zs), .L⟩
      | none => none
    | none => none
  | _ => none
variable (mg) in
/-- the sequence at p, as long as its source stays -/
def SqAt (w : Wd) (H : Hp) (q : Sq) (p : Addr) : Prop := ∃ us, SqX K H q.kd p us ∧ q.xs.length ≤ sizeLine ∧ RepL mg w.bad H q.xs us
theorem sq_at {w : Wd} {s : S} {H : Hp} {a : MV} {v : V} {q : Sq} (hr : HR mg w s H) (r : MRep mg w H a v) (h : sqV a s = some q) :
    ∃ p, v = .ref p ∧ ∀ w' s' H', Ext0 w H w' H' → HR mg w' s' H' → Items.chk ⟨[], q.src⟩ s' = true → SqAt (K := K) mg w' H' q p := by
  unfold sqV at h
  split at h
  · rename_i xs
    cases h
    obtain ⟨p, us, e, nb, hp, hz, ru⟩ := m_tup r
    exact ⟨p, e, fun w' s' H' ex hr' _ => ⟨us, SqT.of (ex.kept nb hp (fun z => z) (fun _ _ z => nomatch z)).2, hz, ru.imp ex.keep⟩⟩
  · rename_i xs
    cases h
    obtain ⟨p, us, e, nb, hp, hz, ru⟩ := m_lst r
    exact ⟨p, e, fun w' s' H' ex hr' _ => ⟨us, SqL.of (ex.kept nb hp (fun z => z) (fun _ _ z => nomatch z)).2, hz, ru.imp ex.keep⟩⟩
  · rename_i n
    split at h
    · rename_i zs hl
      split at h
      · rename_i xs hx
        cases h
        obtain ⟨p, e, h1, ⟨us, h2, h3, h4⟩, hb⟩ := hr.addr (lstO_eq hl) r
        refine ⟨p, e, fun w' s' H' ex hr' hc => ?_⟩
        obtain ⟨p', e', h1', ⟨us', h2', h3', h4'⟩, hb'⟩ := hr'.addr (Items.chk_o hc) (r.ext0 ex)
        rw [e] at e'
        cases e'
        have := allP_len hx
        exact ⟨us', SqL.of h2', by show xs.length ≤ _; omega, mRepL_toP hx h4'⟩
      · cases h
    · cases h
  · cases h
theorem sqX_inj {H : Hp} {t : Kd} {a : Addr} {xs : List V} {i : Nat} {x y : V} (h : SqX K H t a xs) (k : ∀ ys, SqX K H t a ys → ys[i]? = some y) (hx : xs[i]? = some x) : y = x := by
  have := k xs h; rw [hx] at this; exact (Option.some.inj this).symm
/-- a new pair -/
theorem new_pair {w : Wd} {s : S} {H : Hp} (hr : HR mg w s H) {T : Addr} (hT : H T = none) {x y : PV} {u v : V} (r1 : Rep mg w.bad H x u) (r2 : Rep mg w.bad H y v) :
    ∃ w'', Ext w H w'' (upd H T (.tup [u, v])) ∧ HR mg w'' s (upd H T (.tup [u, v])) ∧ MRep mg w'' (upd H T (.tup [u, v])) (.p (.tup [x, y])) (.ref T) := by
  obtain ⟨e, h, nb⟩ := Ext.new hr hT (.tup [u, v])
  exact ⟨w, e, h, (show Rep mg w.bad _ _ _ by rw [Rep]; exact ⟨T, [u, v], rfl, nb, upd_same, by show 2 ≤ sizeLine; decide, RepL.cons (r1.imp e.keep) (RepL.cons (r2.imp e.keep) RepL.nil)⟩)⟩
def enumL (xs : List PV) : List MV := xs.mapIdx fun i x => MV.p (.tup [.int (i : Nat), x])
def enumV (vs : List MV) (s : S) : Res Items := match vs with
  | [a] => match sqV a s with
    | some q => .ok ⟨enumL q.xs, q.src⟩ s
    | none => .no
  | _ => .no
def enumE (m : E (List MV)) : E Items := bind m fun a => lift (enumV a)
theorem ei_enum {m : E (List MV)} (h : PI X tg e (iEnumX X.K (tML mg W m))) : PI X tg e (tMI mg W (enumE m)) := pi_imp h fun σ H R ⟨w, ρ, s, env, hr, c⟩ => by
  refine ⟨w, ρ, s, env, hr, (CE.bind (R := MRepL mg) (r := m ρ s) c).mono fun x H1 ⟨a, s1, w1, e1, hr1, ra, c1⟩ => ?_⟩
  have c2 : CE mg (Wlk mg) (fun c d H => W c d σ H) w1 H1 (enumV a s1) R := c1
  unfold enumV at c2
  split at c2
  · split at c2
    · rename_i a q hq
      obtain ⟨u, t, rfl, r1, r2⟩ := ra
      obtain rfl : t = [] := r2
      obtain ⟨p, rfl, k⟩ := sq_at (K := X.K) hr1 r1 hq
      have hl : (enumL q.xs).length = q.xs.length := by unfold enumL; simp
      have fresh : Items.chk ⟨[], q.src⟩ s1 = true := by
        unfold sqV at hq
        split at hq
        · cases hq; rfl
        · cases hq; rfl
        · split at hq
          · rename_i hz
            split at hq
            · cases hq; exact decide_eq_true (lstO_eq hz)
            · cases hq
          · cases hq
        · cases hq
      obtain ⟨us, hs, hz, ru⟩ := k w1 s1 H1 (Ext.refl _ _).e0 hr1 fresh
      refine ⟨q.kd, p, us, rfl, hs, c2 w1 _ H1 (Ext.refl _ _) hr1 ⟨by show (enumL q.xs).length ≤ _; rw [hl]; exact hz, fun w' s' H' ex hr' hc => ?_⟩⟩
      obtain ⟨us', hs', hz', ru'⟩ := k w' s' H' ex hr' hc
      refine ⟨fun i x hx => ?_, ⟨us', hs', by show us'.length = (enumL q.xs).length; rw [hl, ru'.len]⟩⟩
      have hx' : (enumL q.xs)[i]? = some x := hx
      unfold enumL at hx'
      rw [List.getElem?_mapIdx] at hx'
      obtain ⟨y, hy, rfl⟩ := Option.map_eq_some_iff.mp hx'
      obtain ⟨u, hu, ruu⟩ := ru'.get hy
      refine ⟨⟨us', u, hs', hu⟩, fun v H'' hv => ?_⟩
      obtain ⟨T, z, rfl, hT, rfl, hall⟩ := hv
      obtain rfl := sqX_inj hs' hall hu
      exact new_pair hr' hT (by rw [Rep]) ruu
    · exact c2.elim
  · exact c2.elim
theorem sq_fresh {a : MV} {s : S} {q : Sq} (hq : sqV a s = some q) : Items.chk ⟨[], q.src⟩ s = true := by
  unfold sqV at hq
  split at hq
  · cases hq; rfl
  · cases hq; rfl
  · split at hq
    · rename_i hz
      split at hq
      · cases hq; exact decide_eq_true (lstO_eq hz)
      · cases hq
    · cases hq
  · cases hq
def zipL (xs ys : List PV) : List MV := (xs.zip ys).map fun p => MV.p (.tup [p.1, p.2])
/-- zip of two that never change -/
def zipV (vs : List MV) (s : S) : Res Items := match vs with
  | [a, b] => match sqV a s, sqV b s with
    | some q, some q' => match q.src, q'.src with
      | none, none => .ok ⟨zipL q.xs q'.xs, none⟩ s
      | some z, none => .ok ⟨zipL q.xs q'.xs, some z⟩ s
      | none, some z => .ok ⟨zipL q.xs q'.xs, some z⟩ s
      | some _, some _ => .no
    | _, _ => .no
  | _ => .no
def zipE (m : E (List MV)) : E Items := bind m fun a => lift (zipV a)
theorem wlk_zip {w : Wd} {s : S} {H : Hp} {q q' : Sq} {p p' : Addr} {src : Option (Nat × MO)} (hr : HR mg w s H) (f : Items.chk ⟨[], q.src⟩ s = true) (f' : Items.chk ⟨[], q'.src⟩ s = true)
    (h1 : ∀ s', Items.chk ⟨[], src⟩ s' = true → Items.chk ⟨[], q.src⟩ s' = true ∧ Items.chk ⟨[], q'.src⟩ s' = true)
    (k : ∀ w' s' H', Ext0 w H w' H' → HR mg w' s' H' → Items.chk ⟨[], q.src⟩ s' = true → SqAt (K := K) mg w' H' q p) (k' : ∀ w' s' H', Ext0 w H w' H' → HR mg w' s' H' → Items.chk ⟨[], q'.src⟩ s' = true → SqAt (K := K) mg w' H' q' p') :
    Wlk mg w H ⟨zipL q.xs q'.xs, src⟩ (ItzX K q.kd q'.kd p p') := by
  have hl : (zipL q.xs q'.xs).length = min q.xs.length q'.xs.length := by unfold zipL; simp
  obtain ⟨us, hs, hz, ru⟩ := k w s H (Ext.refl _ _).e0 hr f
  refine ⟨by show (zipL q.xs q'.xs).length ≤ _; rw [hl]; exact Nat.le_trans (Nat.min_le_left _ _) hz, fun w' s' H' ex hr' hc => ?_⟩
  obtain ⟨c1, c2⟩ := h1 s' hc
  obtain ⟨us, hs, hz, ru⟩ := k w' s' H' ex hr' c1
  obtain ⟨us', hs', hz', ru'⟩ := k' w' s' H' ex hr' c2
  refine ⟨fun i x hx => ?_, ⟨us, us', hs, hs', ?_⟩⟩
  · have hx' : (zipL q.xs q'.xs)[i]? = some x := hx
    unfold zipL at hx'
    rw [List.getElem?_map] at hx'
    obtain ⟨⟨y, y'⟩, hy, rfl⟩ := Option.map_eq_some_iff.mp hx'
    obtain ⟨hy1, hy2⟩ := List.getElem?_zip_eq_some.mp hy
    obtain ⟨u, hu, ruu⟩ := ru.get hy1
    obtain ⟨u', hu', ruu'⟩ := ru'.get hy2
    refine ⟨⟨us, us', u, u', hs, hs', hu, hu'⟩, fun v H'' hv => ?_⟩
    obtain ⟨T, z, z', rfl, hT, rfl, ha1, ha2⟩ := hv
    obtain rfl := sqX_inj hs ha1 hu
    obtain rfl := sqX_inj hs' ha2 hu'
    exact new_pair hr' hT ruu ruu'
  · show (zipL q.xs q'.xs).length ≤ _ ∧ (zipL q.xs q'.xs).length ≤ _ ∧ ((zipL q.xs q'.xs).length = _ ∨ (zipL q.xs q'.xs).length = _)
    rw [hl, ru.len, ru'.len]
    omega
theorem ei_zip {m : E (List MV)} (h : PI X tg e (iZipX X.K (tML mg W m))) : PI X tg e (tMI mg W (zipE m)) := pi_imp h fun σ H R ⟨w, ρ, s, env, hr, c⟩ => by
  refine ⟨w, ρ, s, env, hr, (CE.bind (R := MRepL mg) (r := m ρ s) c).mono fun x H1 ⟨a, s1, w1, e1, hr1, ra, c1⟩ => ?_⟩
  have c2 : CE mg (Wlk mg) (fun c d H => W c d σ H) w1 H1 (zipV a s1) R := c1
  unfold zipV at c2
  split at c2
  · split at c2
    · rename_i a b q q' hq hq'
      obtain ⟨u, _, rfl, r1, v, t, rfl, r2, r3⟩ := ra
      obtain rfl : t = [] := r3
      obtain ⟨p, rfl, k⟩ := sq_at (K := X.K) hr1 r1 hq
      obtain ⟨p', rfl, k'⟩ := sq_at (K := X.K) hr1 r2 hq'
      have f := sq_fresh hq
      have f' := sq_fresh hq'
      obtain ⟨us, hs, hz, ru⟩ := k w1 s1 H1 (Ext.refl _ _).e0 hr1 f
      obtain ⟨us', hs', hz', ru'⟩ := k' w1 s1 H1 (Ext.refl _ _).e0 hr1 f'
      refine ⟨q.kd, q'.kd, p, p', us, us', rfl, hs, hs', ?_⟩
      split at c2
      · rename_i g1 g2
        exact c2 w1 _ H1 (Ext.refl _ _) hr1 (wlk_zip hr1 f f' (fun s' _ => by rw [g1, g2]; exact ⟨rfl, rfl⟩) k k')
      · rename_i z g1 g2
        exact c2 w1 _ H1 (Ext.refl _ _) hr1 (wlk_zip hr1 f f' (fun s' h => by rw [g1, g2]; exact ⟨h, rfl⟩) k k')
      · rename_i z g1 g2
        exact c2 w1 _ H1 (Ext.refl _ _) hr1 (wlk_zip hr1 f f' (fun s' h => by rw [g1, g2]; exact ⟨rfl, h⟩) k k')
      · exact c2.elim
    · exact c2.elim
  · exact c2.elim
def revI (a : MV) (s : S) : Res Items := match sqV a s with
  | some q => .ok ⟨(q.xs.map MV.p).reverse, q.src⟩ s
  | none => .no
def revE (m : E MV) : E Items := bind m fun a => lift (revI a)
theorem ei_rev {m : E MV} (h : PI X tg e (RT.iRevA X.K (tM mg W m))) : PI X tg e (tMI mg W (revE m)) := pi_imp h fun σ H R ⟨w, ρ, s, env, hr, c⟩ => by
  refine ⟨w, ρ, s, env, hr, (CE.bind (R := MRep mg) (r := m ρ s) c).mono fun x H1 ⟨a, s1, w1, e1, hr1, ra, c1⟩ => ?_⟩
  have c2 : CE mg (Wlk mg) (fun c d H => W c d σ H) w1 H1 (revI a s1) R := c1
  unfold revI at c2
  split at c2
  · rename_i q hq
    obtain ⟨p, rfl, k⟩ := sq_at (K := X.K) hr1 ra hq
    have f := sq_fresh hq
    obtain ⟨us, hs, hz, ru⟩ := k w1 s1 H1 (Ext.refl _ _).e0 hr1 f
    have hl : ((q.xs.map MV.p).reverse).length = q.xs.length := by simp
    have item : ∀ {us : List V} {w' : Wd} {H' : Hp} {i : Nat} {x : MV}, RepL mg w'.bad H' q.xs us → ((q.xs.map MV.p).reverse)[i]? = some x → i < us.length ∧ ∃ u, us[us.length - 1 - i]? = some u ∧ MRep mg w' H' x u := fun {us w' H' i x} ru hx => by
      have hi : i < q.xs.length := by rw [← hl]; exact (List.getElem?_eq_some_iff.mp hx).1
      rw [List.getElem?_reverse (by simpa using hi), List.length_map, List.getElem?_map] at hx
      obtain ⟨y, hy, rfl⟩ := Option.map_eq_some_iff.mp hx
      obtain ⟨u, hu, r⟩ := ru.get hy
      exact ⟨by rw [ru.len]; exact hi, u, by rw [ru.len]; exact hu, r⟩
    obtain ⟨xs, src, kd⟩ := q
    cases kd with
    | L =>
      refine ⟨p, us, rfl, .inl ⟨hs, c2 w1 _ H1 (Ext.refl _ _) hr1 ⟨by rw [hl]; exact hz, fun w' s' H' ex hr' hc => ?_⟩⟩⟩
      obtain ⟨us', hs', hz', ru'⟩ := k w' s' H' ex hr' hc
      have el : us.length = us'.length := by rw [ru.len, ru'.len]
      refine ⟨fun i x hx => ?_, by show us.length ≤ _; rw [hl, ru.len]; exact Nat.le_refl _⟩
      obtain ⟨hi, u, hu, r⟩ := item ru' hx
      refine ⟨⟨by omega, us', u, hs', by rw [el]; exact hu⟩, fun v H'' ⟨e2, y⟩ => ?_⟩
      subst e2
      have := y us' hs'
      rw [el, hu] at this
      cases this
      exact ⟨w', Ext.refl _ _, hr', r⟩
    | T =>
      refine ⟨p, us, rfl, .inr ⟨hs, c2 w1 _ H1 (Ext.refl _ _) hr1 ⟨by rw [hl]; exact hz, fun w' s' H' ex hr' hc => ?_⟩⟩⟩
      obtain ⟨us', hs', hz', ru'⟩ := k w' s' H' ex hr' hc
      have el : us.length = us'.length := by rw [ru.len, ru'.len]
      refine ⟨fun i x hx => ?_, by show us.length ≤ _; rw [hl, ru.len]; exact Nat.le_refl _⟩
      obtain ⟨hi, u, hu, r⟩ := item ru' hx
      refine ⟨⟨by omega, us', u, hs', by rw [el]; exact hu⟩, fun v H'' ⟨e2, y⟩ => ?_⟩
      subst e2
      have := y us' hs'
      rw [el, hu] at this
      cases this
      exact ⟨w', Ext.refl _ _, hr', r⟩
  · exact c2.elim
end
end MP

/-! ## MFor -/
set_option Elab.async false
set_option linter.all false
set_option maxRecDepth 100000
set_option maxHeartbeats 2000000
/-! MP: for, while, comprehensions -/
namespace MP
open PySem PySem.Spec PyProof.Rows L2 AK
/-- one turn's end -/
def SR.turn (r : SR) (go : Env → S → SR) : SR := match r with
  | .nx ρ s => go ρ s
  | .ct ρ s => go ρ s
  | .bk ρ s => .nx ρ s
  | r => r
def forI (it : Items) (t : TM) (b : ST) : List MV → ST
  | [], ρ, s => if it.chk s = true then .nx ρ s else .no
  | x :: xs, ρ, s => if it.chk s = true then match t x ρ s with
      | .ok ρ1 s1 => (b ρ1 s1).turn (forI it t b xs)
      | _ => .no
    else .no
def forS (mi : E Items) (t : TM) (b : ST) : ST := toS mi fun it => forI it t b it.xs
def whlF (c : E Bool) (b : ST) : Nat → ST
  | 0 => fun _ _ => .no
  | n + 1 => toS c fun k => if k = true then fun ρ s => (b ρ s).turn (whlF c b n) else skipS
section
variable {X : Cx} {mg : Gm} {W : WX} {K : PySem.W.Frag} {e a b c tg : Expr} {es : List Expr} {st : Stmt} {sts : List Stmt} {pos : Pos} {k : Nat}
theorem CS.turn {w w0 : Wd} {H H0 : Hp} {r : SR} {go : Env → S → SR} {D : Ends} (e0 : Ext w0 H0 w H) (h : CS mg W w H (r.turn go) D) :
    CS mg W w H r { D with nx := fun σ' H' => ∃ w' ρ' s', Ext w0 H0 w' H' ∧ EnvR mg w' H' ρ' σ' ∧ HR mg w' s' H' ∧ CS mg W w' H' (go ρ' s') D, ct := fun σ' H' => ∃ w' ρ' s', Ext w0 H0 w' H' ∧ EnvR mg w' H' ρ' σ' ∧ HR mg w' s' H' ∧ CS mg W w' H' (go ρ' s') D, bk := D.nx } := by
  cases r with
  | nx ρ s => exact fun w' σ' H' e h1 env => ⟨w', ρ, s, e0.trans e, env, h1, CS.from e h⟩
  | ct ρ s => exact fun w' σ' H' e h1 env => ⟨w', ρ, s, e0.trans e, env, h1, CS.from e h⟩
  | bk ρ s => exact h
  | rt v s => exact h
  | exc c f x ρ s => exact h
  | no => exact h
theorem ss_for {iter : Expr} {body : List Stmt} {mi : E Items} {t : TM} {mb : ST} (hp : PassesOwn (model X.prog X.w) X.A X.env X.xe) (hc : X.calm = true) (hi : PI X tg iter (tMI mg W mi)) (hg : PG X tg (tMG mg t)) (hb : PSs X body (tMS mg W mb))
    (hs : ∀ x, foldedSetIterable iter X.env x = pure x := by intro _; rfl) : PS X (.For tg iter body [] pos) (tMS mg W (forS mi t mb)) := ps_imp (ps_for hp hc hi hg hb hs) fun D σ H ⟨w, ρ, s, env, hr, c⟩ => by
  refine ⟨w, ρ, s, env, hr, (CS.bindE (R := Wlk mg) (r := mi ρ s) env c).mono fun J H1 ⟨it, s1, w1, e1, hr1, wl, c1⟩ => ?_⟩
  refine ⟨fun i m σ' H' => m = it.xs.length - i ∧ i ≤ it.xs.length ∧ ∃ w' ρ' s', Ext w1 H1 w' H' ∧ EnvR mg w' H' ρ' σ' ∧ HR mg w' s' H' ∧ CS mg W w' H' (forI it t mb (it.xs.drop i) ρ' s') D,
    ⟨it.xs.length, by simp, Nat.zero_le _, w1, ρ, s1, Ext.refl _ _, env.ext e1, hr1, by rw [List.drop_zero]; exact c1⟩, ?_⟩
  rintro i m σ' H' ⟨rfl, hi, w', ρ', s', e', env', hr', c'⟩
  by_cases hlt : i < it.xs.length
  · rw [List.drop_eq_getElem_cons hlt] at c'
    unfold forI at c'
    split at c'
    · rename_i hck
      obtain ⟨g1, g2⟩ := wl.run w' s' H' e'.e0 hr' hck
      obtain ⟨go, yl⟩ := g1 i _ (List.getElem?_eq_getElem hlt)
      refine .inr ⟨go, fun σ'' H'' => ∃ w' ρ' s', Ext w1 H1 w' H'' ∧ EnvR mg w' H'' ρ' σ'' ∧ HR mg w' s' H'' ∧ CS mg W w' H'' (forI it t mb (it.xs.drop (i + 1)) ρ' s') D, fun σ'' H'' q => ⟨it.xs.length - (i + 1), by omega, rfl, hlt, q⟩, fun x H'' hy => ?_⟩
      obtain ⟨w2, e2, hr2, rx⟩ := yl x H'' hy
      refine ⟨w2, ρ', s', _, env'.ext e2, hr2, rx, ?_⟩
      split at c'
      · rename_i ρ1 s2 hq
        rw [hq]
        intro w3 σ3 H3 e3 hr3 env3
        exact ⟨w3, ρ1, s2, env3, hr3, (CS.turn (e'.trans (e2.trans e3)) (CS.from (e2.trans e3) c'))⟩
      · exact c'.elim
    · exact c'.elim
  · have e0 : i = it.xs.length := by omega
    subst e0
    rw [List.drop_length] at c'
    unfold forI at c'
    split at c'
    · rename_i hck
      obtain ⟨g1, g2⟩ := wl.run w' s' H' e'.e0 hr' hck
      exact .inl ⟨g2, c' w' σ' H' (Ext.refl _ _) hr' env'⟩
    · exact c'.elim
theorem ss_while {n : Nat} {body : List Stmt} {mc : E Bool} {mb : ST} (hp : PassesOwn (model X.prog X.w) X.A X.env X.xe) (hc : PT X c (tMB mg W mc)) (hb : PSs X body (tMS mg W mb)) : PS X (.While c body [] pos) (tMS mg W (whlF mc mb n)) :=
  ps_imp (ps_while hp hc hb) fun D σ H ⟨w, ρ, s, env, hr, cs⟩ => by
    refine ⟨fun m σ' H' => ∃ w' ρ' s', Ext w H w' H' ∧ EnvR mg w' H' ρ' σ' ∧ HR mg w' s' H' ∧ CS mg W w' H' (whlF mc mb m ρ' s') D, ⟨n, w, ρ, s, Ext.refl _ _, env, hr, cs⟩, ?_⟩
    rintro m σ' H' ⟨w', ρ', s', e', env', hr', c'⟩
    cases m with
    | zero => exact c'.elim
    | succ m =>
      refine ⟨w', ρ', s', env', hr', (CS.bindE (R := RB) (r := mc ρ' s') env' c').mono fun k H1 ⟨k', s1, w1, e1, hr1, rk, c1⟩ => ?_⟩
      obtain rfl : k = k' := rk
      cases k with
      | true =>
        rw [if_pos rfl]
        refine ⟨fun σ'' H'' => ∃ w2 ρ2 s2, Ext w H w2 H'' ∧ EnvR mg w2 H'' ρ2 σ'' ∧ HR mg w2 s2 H'' ∧ CS mg W w2 H'' (whlF mc mb m ρ2 s2) D, fun σ'' H'' q => ⟨m, Nat.lt_succ_self m, q⟩, w1, ρ', s1, env'.ext e1, hr1, ?_⟩
        exact CS.turn (e'.trans e1) (show CS mg W w1 H1 ((mb ρ' s1).turn (whlF mc mb m)) D from c1)
      | false =>
        rw [if_neg Bool.false_ne_true]
        exact c1 w1 σ' H1 (Ext.refl _ _) hr1 (env'.ext e1)

/-! ## hidden things -/
def Wd.hide (w : Wd) (D : Addr) : Wd := { w with x := fun a => w.x a ∨ a = D }
def Wd.show (w : Wd) (D : Addr) : Wd := { w with x := fun a => w.x a ∧ a ≠ D }
theorem Wd.hide_bad {w : Wd} {D a : Addr} : (w.hide D).bad a ↔ w.bad a ∨ a = D := by
  constructor
  · rintro (h | h | h | h)
    · exact .inl (.inl h)
    · exact .inl (.inr (.inl h))
    · exact .inl (.inr (.inr h))
    · exact .inr h
  · rintro ((h | h | h) | h)
    · exact .inl h
    · exact .inr (.inl h)
    · exact .inr (.inr (.inl h))
    · exact .inr (.inr (.inr h))
theorem GRep.same {w w' : Wd} {H H' : Hp} {g : Option Rn} (hm : w'.μ = w.μ) (hg : w'.g = w.g) (k : ∀ p, w.g = some p → H' p.1 = H p.1 ∧ H' p.2 = H p.2) (h : GRep w H g) : GRep w' H' g := by
  cases g with
  | none => exact hg.trans h
  | some r =>
    obtain ⟨a, c, h1, h2, h3, h4, h5⟩ := h
    obtain ⟨k1, k2⟩ := k _ h1
    exact ⟨a, c, by rw [hg]; exact h1, h2, by rw [k1]; exact h3, by rw [k2]; exact h4, by rw [hm]; exact h5⟩
theorem Ext.hide {w : Wd} {H : Hp} {s : S} (hr : HR mg w s H) {D : Addr} (hD : H D = none) (o : HO) : Ext w H (w.hide D) (upd H D o) := by
  have nb : ∀ a, w.bad a → a ≠ D := fun a b z => hr.there a b (by rw [z]; exact hD)
  refine ⟨Nat.le_refl _, fun _ _ _ h => h, .inr rfl, fun a u n q => ⟨fun b => ?_, u, by rw [upd_ne (ne_of_none q hD)]; exact q, Like.refl u⟩, fun a h => ⟨.inl h, upd_ne (nb a (.inr (.inr h)))⟩⟩
  rcases Wd.hide_bad.mp b with b | b
  · exact n b
  · rw [b, hD] at q; cases q
theorem HR.hide {w : Wd} {H : Hp} {s : S} (hr : HR mg w s H) {D : Addr} (hD : H D = none) (o : HO) : HR mg (w.hide D) s (upd H D o) := by
  have nb : ∀ a, w.bad a → a ≠ D := fun a b z => hr.there a b (by rw [z]; exact hD)
  have e := Ext.hide hr hD o
  refine ⟨hr.len, fun n u q => ?_, hr.inj, fun a b => ?_, fun a h => ?_, hr.rn.same rfl rfl fun p hp => ⟨upd_ne (nb _ (.inr (.inl ⟨p, hp, .inl rfl⟩))), upd_ne (nb _ (.inr (.inl ⟨p, hp, .inr rfl⟩)))⟩⟩
  · obtain ⟨a, h1, h2⟩ := hr.ob n u q
    exact ⟨a, h1, h2.ext e (upd_ne (nb a (.inl ⟨n, h1⟩)))⟩
  · rcases Wd.hide_bad.mp b with b | b
    · rw [upd_ne (nb a b)]; exact hr.there a b
    · rw [b, upd_same]; exact fun z => nomatch z
  · rcases h with h | h
    · exact hr.ap a h
    · subst h
      exact ⟨fun n z => nb a (.inl ⟨n, z⟩) rfl, fun p hp => ⟨fun z => nb p.1 (.inr (.inl ⟨p, hp, .inl rfl⟩)) z.symm, fun z => nb p.2 (.inr (.inl ⟨p, hp, .inr rfl⟩)) z.symm⟩⟩
section
variable {w w' : Wd} {H H' : Hp}
theorem MRep.le (hm : w'.μ = w.μ) (hg : w'.g = w.g) (k : ∀ a o, ¬ w.bad a → H a = some o → ¬ w'.bad a ∧ ∃ o', H' a = some o' ∧ Like o o') : ∀ {v : MV} {x : V}, MRep mg w H v x → MRep mg w' H' v x
  | .p x, v, h => Rep.imp k h
  | .o n, v, h => by
    obtain ⟨h1, a, h2, h3⟩ := h
    exact ⟨by rw [hm]; exact h1, a, h2, by rw [hm]; exact h3⟩
  | .g, v, ⟨p, h1, h2⟩ => ⟨p, hg.trans h1, h2⟩
theorem MRepL.le (hm : w'.μ = w.μ) (hg : w'.g = w.g) (k : ∀ a o, ¬ w.bad a → H a = some o → ¬ w'.bad a ∧ ∃ o', H' a = some o' ∧ Like o o') {vs : List MV} {us : List V} (h : MRepL mg w H vs us) : MRepL mg w' H' vs us :=
  MRepL.of h.len fun i x u h1 h2 => (h.at h1 h2).le hm hg k
theorem ORep.le (hm : w'.μ = w.μ) (hg : w'.g = w.g) (k : ∀ a o, ¬ w.bad a → H a = some o → ¬ w'.bad a ∧ ∃ o', H' a = some o' ∧ Like o o') {a : Addr} (ka : H' a = H a) : ∀ {o : MO}, ORep mg w H a o → ORep mg w' H' a o
  | .lst xs, ⟨us, h1, h2, h3⟩ => ⟨us, ka.trans h1, h2, h3.le hm hg k⟩
  | .dK kvs, ⟨us, h1, h2, h3, h4, h5⟩ => ⟨us, ka.trans h1, h2, h3, h4, h5.le hm hg k⟩
  | .dT kvs, ⟨us, h1, h2, h3, h4, h5⟩ => ⟨us, ka.trans h1, h2, h3, h4, h5.le hm hg k⟩
  | .ins C fs, ⟨dx, Ca, us, h1, h2, h3, h4, h5, h6, h7⟩ => by
    obtain ⟨n1, o1, k1, l⟩ := k dx _ h1 h4
    obtain rfl := l.of (fun z => z) (fun _ _ z => nomatch z)
    exact ⟨dx, Ca, us, n1, h2, ka.trans h3, k1, h5, h6, h7.le hm hg k⟩
end
/-- the maker writes -/
theorem HR.hidW {w : Wd} {H : Hp} {s : S} (hr : HR mg w s H) {D : Addr} (hD : w.x D) (o : HO) : HR mg w s (upd H D o) ∧ (∀ (v : MV) (x : V), MRep mg w H v x → MRep mg w (upd H D o) v x) := by
  have nb : ∀ (n : Nat) (a : Addr), w.μ[n]? = some (some a) → a ≠ D := fun n a h z => (hr.ap D hD).1 n (by rw [← z]; exact h)
  have k : ∀ a o', ¬ w.bad a → H a = some o' → ¬ w.bad a ∧ ∃ o2, upd H D o a = some o2 ∧ Like o' o2 := fun a u n q => ⟨n, u, by rw [upd_ne (show a ≠ D from fun z => n (by rw [z]; exact .inr (.inr hD)))]; exact q, Like.refl u⟩
  refine ⟨⟨hr.len, fun n u q => ?_, hr.inj, fun a b => ?_, hr.ap, hr.rn.same rfl rfl fun p hp => ⟨upd_ne (Ne.symm ((hr.ap D hD).2 p hp).1), upd_ne (Ne.symm ((hr.ap D hD).2 p hp).2)⟩⟩, fun v x r => r.le rfl rfl k⟩
  · obtain ⟨a, h1, h2⟩ := hr.ob n u q
    exact ⟨a, h1, h2.le rfl rfl k (upd_ne (nb n a h1))⟩
  · by_cases z : a = D
    · rw [z, upd_same]; exact fun z => nomatch z
    · rw [upd_ne z]; exact hr.there a b
theorem Ext.hidW {w0 w : Wd} {H0 H : Hp} (e : Ext w0 H0 w H) {D : Addr} (n0 : ¬ w0.x D) (hD : w.x D) (o : HO) : Ext w0 H0 w (upd H D o) :=
  ⟨e.len, e.old, e.gk, fun a u n q => by
    obtain ⟨n1, o1, k1, l⟩ := e.keep a u n q
    exact ⟨n1, o1, by rw [upd_ne (show a ≠ D from fun z => n1 (by rw [z]; exact .inr (.inr hD)))]; exact k1, l⟩,
    fun a h => ⟨(e.hid a h).1, by rw [upd_ne (show a ≠ D from fun z => n0 (by rw [← z]; exact h))]; exact (e.hid a h).2⟩⟩
/-- what was made is shown: from here on it never changes -/
theorem Wd.show_sub {w : Wd} {D a : Addr} (b : (w.show D).bad a) : w.bad a := by
  rcases b with b | b | b
  · exact .inl b
  · exact .inr (.inl b)
  · exact .inr (.inr b.1)
theorem HR.shown {w : Wd} {H : Hp} {s : S} (hr : HR mg w s H) {D : Addr} (hD : w.x D) : HR mg (w.show D) s H ∧ (¬ (w.show D).bad D) ∧ ∀ (v : MV) (x : V), MRep mg w H v x → MRep mg (w.show D) H v x := by
  have k : ∀ a o', ¬ w.bad a → H a = some o' → ¬ (w.show D).bad a ∧ ∃ o2, H a = some o2 ∧ Like o' o2 := fun a u n q => ⟨fun b => n (Wd.show_sub b), u, q, Like.refl u⟩
  refine ⟨⟨hr.len, fun n u q => ?_, hr.inj, fun a b => hr.there a (Wd.show_sub b), fun a h => hr.ap a h.1, hr.rn.same rfl rfl fun _ _ => ⟨rfl, rfl⟩⟩, ?_, fun v x r => MRep.le (w := w) (w' := w.show D) rfl rfl k r⟩
  · obtain ⟨a, h1, h2⟩ := hr.ob n u q
    exact ⟨a, h1, ORep.le (w := w) (w' := w.show D) rfl rfl k rfl h2⟩
  · rintro (⟨n, h⟩ | ⟨p, h, h'⟩ | h)
    · exact (hr.ap D hD).1 n h
    · rcases h' with h' | h'
      · exact ((hr.ap D hD).2 p h).1 h'
      · exact ((hr.ap D hD).2 p h).2 h'
    · exact h.2 rfl
theorem Ext.shown {w0 w : Wd} {H0 H : Hp} (e : Ext w0 H0 w H) {D : Addr} (n0 : ¬ w0.x D) : Ext w0 H0 (w.show D) H :=
  ⟨e.len, e.old, e.gk, fun a u n q => let ⟨n1, r⟩ := e.keep a u n q; ⟨fun b => n1 (Wd.show_sub b), r⟩, fun a h => ⟨⟨(e.hid a h).1, fun z => n0 (z ▸ h)⟩, (e.hid a h).2⟩⟩
/-! ## comprehensions -/
def wipeE (ρ : Env) : List Nat → Env
  | [] => ρ
  | v :: vs => (wipeE ρ vs).set v none
theorem EnvR.wipe {w : Wd} {H : Hp} {ρ : Env} {σ : L2.St} (hx : mg.ex = none) (h : EnvR mg w H ρ σ) : ∀ vs : List Nat, EnvR mg w H (wipeE ρ vs) (L2.wipe σ vs)
  | [] => h
  | v :: vs => (EnvR.wipe hx h vs).unset hx v none
theorem wipe_get {σ : L2.St} {j : Nat} : ∀ {vs : List Nat}, (L2.wipe σ vs)[j]? = if j ∈ vs then σ[j]?.map fun _ => none else σ[j]?
  | [] => by simp [L2.wipe]
  | v :: vs => by
    unfold L2.wipe
    by_cases e : v = j
    · subst e
      rw [if_pos (List.mem_cons_self), List.getElem?_set]
      rw [if_pos rfl]
      by_cases hl : v < σ.length
      · rw [if_pos (by rw [wipe_length]; exact hl), List.getElem?_eq_getElem hl]; rfl
      · rw [if_neg (by rw [wipe_length]; exact hl), List.getElem?_eq_none (by omega)]; rfl
    · rw [List.getElem?_set_ne e, wipe_get (vs := vs)]
      by_cases h : j ∈ vs
      · rw [if_pos h, if_pos (List.mem_cons_of_mem _ h)]
      · rw [if_neg h, if_neg (by simp [h, Ne.symm e])]
theorem wipe_set {σ : L2.St} {i : Nat} {v : Option V} {vs : List Nat} (h : i ∈ vs) : L2.wipe (σ.set i v) vs = L2.wipe σ vs := by
  apply List.ext_getElem?
  intro j
  rw [wipe_get, wipe_get]
  by_cases hj : j ∈ vs
  · rw [if_pos hj, if_pos hj, List.getElem?_set]
    by_cases e : i = j
    · subst e
      rw [if_pos rfl]
      by_cases hl : i < σ.length
      · rw [if_pos hl, List.getElem?_eq_getElem hl]; rfl
      · rw [if_neg hl, List.getElem?_eq_none (by omega)]
    · rw [if_neg e]
  · rw [if_neg hj, if_neg hj, List.getElem?_set_ne (show i ≠ j from fun e => hj (by rw [← e]; exact h))]
variable (mg) in
/-- a comprehension's target: it stores into the block's own slots alone -/
def tMC (vs : List Nat) (t : TM) : TG := fun v σ H Q => ∃ w ρ s x, EnvR mg w H ρ σ ∧ HR mg w s H ∧ MRep mg w H x v ∧ CT mg w H (t x ρ s) (fun σ' H' => L2.wipe σ' vs = L2.wipe σ vs → Q σ' H')
variable (mg) in
def tMCs (vs : List Nat) (t : List MV → Env → S → Res Env) : TGs := fun us σ H Q => ∃ w ρ s xs, EnvR mg w H ρ σ ∧ HR mg w s H ∧ MRepL mg w H xs us ∧ CT mg w H (t xs ρ s) (fun σ' H' => L2.wipe σ' vs = L2.wipe σ vs → Q σ' H')
theorem CT.mono {w : Wd} {H : Hp} {r : Res Env} {Q Q' : L2.St → Hp → Prop} (h : CT mg w H r Q) (k : ∀ σ H, Q σ H → Q' σ H) : CT mg w H r Q' := by
  cases r with
  | ok => exact fun w' σ' H' a b c => k _ _ (h w' σ' H' a b c)
  | exc => exact h
  | no => exact h
theorem sc_name {i : Nat} {vs : List Nat} (h : PG X e (gName i)) (hi : i ∈ vs := by decide) : PG X e (tMC mg vs (nameT i)) := pg_imp h fun v σ H Q ⟨w, ρ, s, x, env, hr, r, c⟩ => c w _ H (Ext.refl _ _) hr (env.set r i) (wipe_set hi)
theorem scs_nil {vs : List Nat} : PGs X [] (tMCs mg vs nilT) := pgs_imp pgs_nil fun vs σ H Q ⟨w, ρ, s, xs, env, hr, r, c⟩ => by
  cases xs with
  | nil => exact ⟨r, c w σ H (Ext.refl _ _) hr env rfl⟩
  | cons => exact c.elim
theorem scs_cons {vs : List Nat} {t : TM} {u : List MV → Env → S → Res Env} (h1 : PG X e (tMC mg vs t)) (h2 : PGs X es (tMCs mg vs u)) (hs : (assignEach (e :: es) X.env).map (·.2) = assign e X.env :: (assignEach es X.env).map (·.2) := by rfl) : PGs X (e :: es) (tMCs mg vs (consT t u)) :=
  pgs_imp (pgs_cons h1 h2 hs) fun us σ H Q ⟨w, ρ, s, xs, env, hr, r, c⟩ => by
    cases xs with
    | nil => exact c.elim
    | cons x xr =>
      obtain ⟨v, vr, rfl, r1, r2⟩ := r
      refine ⟨v, vr, rfl, w, ρ, s, x, env, hr, r1, ?_⟩
      have c' : CT mg w H ((t x ρ s).bind fun ρ1 s1 => u xr ρ1 s1) (fun σ' H' => L2.wipe σ' vs = L2.wipe σ vs → Q σ' H') := c
      cases hq : t x ρ s with
      | ok ρ1 s1 => rw [hq] at c'; exact fun w' σ' H' e1 h1 env1 hw => ⟨w', ρ1, s1, xr, env1, h1, r2.ext e1, (CT.from e1 c').mono fun σ2 H2 q hw2 => q (hw2.trans hw)⟩
      | exc => rw [hq] at c'; exact c'
      | no => rw [hq] at c'; exact c'
theorem sc_tup {j : Nat} {vs : List Nat} {t : List MV → Env → S → Res Env} {n : Nat} (hc : X.calm = true) (h : PGs X es (tMCs mg vs t)) (hn : (assignEach es X.env).length = n := by rfl) (hst : (assignEach es X.env).findIdx? (·.1) = none := by rfl) : PG X (.Tuple es j pos) (tMC mg vs (tupT n t)) :=
  pg_imp (pg_tup hc h hn hst) fun v σ H Q ⟨w, ρ, s, x, env, hr, r, c⟩ => by
    cases x with
    | p y => cases y with
      | tup xs =>
        obtain ⟨p, us, e, _, hp, _, ru⟩ := m_tup r
        have c' : CT mg w H (if xs.length = n then t (xs.map MV.p) ρ s else .no) (fun σ' H' => L2.wipe σ' vs = L2.wipe σ vs → Q σ' H') := c
        split at c'
        · rename_i hl
          exact ⟨p, us, e, SqT.of hp, by rw [ru.len]; exact hl, w, ρ, s, _, env, hr, MRepL.ofP ru, c'⟩
        · exact c'.elim
      | _ => exact c.elim
    | _ => exact c.elim
def Res.bindN {α β : Type} (r : Res α) (f : α → S → Res β) : Res β := match r with
  | .ok a s => f a s
  | _ => .no
/-- the turns of a comprehension -/
def lcI (it : Items) (t : TM) (mt : E Bool) (me : E MV) (ρ : Env) (lim : Nat → Bool) (fin : List MV → S → Res MV) : List MV → List MV → S → Res MV
  | [], acc, s => if it.chk s = true then fin acc s else .no
  | x :: xs, acc, s => if it.chk s = true then (t x ρ s).bindN fun ρ1 s1 => (mt ρ1 s1).bindN fun k s2 =>
      if k = true then (me ρ1 s2).bindN fun v s3 => if lim acc.length = true then lcI it t mt me ρ lim fin xs (acc ++ [v]) s3 else .no
      else lcI it t mt me ρ lim fin xs acc s2
    else .no
def yesT : E Bool := ret true
theorem ets_nil : PTs X [] (tMB mg W yesT) := ⟨fun pins s σ H Q I ⟨w, ρ, s1, env, hr, c⟩ => pts_nil.run pins s σ H Q I (c w true H (Ext.refl _ _) hr rfl)⟩
theorem ets_one {m : E Bool} (h : PT X c (tMB mg W m)) : PTs X [c] (tMB mg W m) := pts_one h
theorem wipe_wipe {σ : L2.St} {vs : List Nat} : L2.wipe (L2.wipe σ vs) vs = L2.wipe σ vs := by
  apply List.ext_getElem?
  intro j
  rw [wipe_get, wipe_get]
  split
  · cases σ[j]? <;> rfl
  · rfl
theorem CE.bindN_t {w w0 : Wd} {H H0 : Hp} {r : Res Env} {f : Env → S → Res MV} {Y : XK} {Q : VK} (c : CE mg (MRep mg) Y w0 H0 (r.bindN f) Q) {P : L2.St → Hp → Prop} (k : ∀ ρ1 s1, r = .ok ρ1 s1 → CE mg (MRep mg) Y w0 H0 (f ρ1 s1) Q → ∀ w' σ' H', Ext w H w' H' → HR mg w' s1 H' → EnvR mg w' H' ρ1 σ' → P σ' H') : CT mg w H r P := by
  cases r with
  | ok ρ1 s1 => exact k ρ1 s1 rfl c
  | exc => exact c.elim
  | no => exact c.elim
theorem CE.bindN_e {α β : Type} {R : Wd → Hp → α → β → Prop} {w w0 : Wd} {H H0 : Hp} {r : Res α} {f : α → S → Res MV} {Y Y' : XK} {Q : VK} (c : CE mg (MRep mg) Y w0 H0 (r.bindN f) Q) {P : β → Hp → Prop} (k : ∀ a s1, r = .ok a s1 → CE mg (MRep mg) Y w0 H0 (f a s1) Q → ∀ w' b H', Ext w H w' H' → HR mg w' s1 H' → R w' H' a b → P b H') : CE mg R Y' w H r P := by
  cases r with
  | ok ρ1 s1 => exact k ρ1 s1 rfl c
  | exc => exact c.elim
  | no => exact c.elim
/-- the state of a comprehension whose list stands at D -/
def LcS (mg : Str → Option Value) (w1 : Wd) (H1 : Hp) (D : Addr) (acc : List MV) (s : S) (w : Wd) (H : Hp) : Prop :=
  Ext w1 H1 w H ∧ w.x D ∧ HR mg w s H ∧ ∃ us, H D = some (.lst us) ∧ MRepL mg w H acc us
theorem LcS.ext {w1 w w' : Wd} {H1 H H' : Hp} {D : Addr} {acc : List MV} {s s' : S} (h : LcS mg w1 H1 D acc s w H) (e : Ext w H w' H') (hr : HR mg w' s' H') : LcS mg w1 H1 D acc s' w' H' := by
  obtain ⟨h1, h2, h3, us, h4, h5⟩ := h
  exact ⟨h1.trans e, (e.hid D h2).1, hr, us, (e.hid D h2).2.trans h4, h5.ext e⟩
theorem LcS.snoc {w1 w : Wd} {H1 H : Hp} {D : Addr} {acc : List MV} {s : S} (h : LcS mg w1 H1 D acc s w H) (n1 : ¬ w1.x D) {v : MV} {y : V} (r : MRep mg w H v y) :
    ∃ us, H D = some (.lst us) ∧ us.length = acc.length ∧ LcS mg w1 H1 D (acc ++ [v]) s w (upd H D (.lst (us ++ [y]))) := by
  obtain ⟨h1, h2, h3, us, h4, h5⟩ := h
  obtain ⟨g1, g2⟩ := h3.hidW h2 (.lst (us ++ [y]))
  exact ⟨us, h4, h5.len, h1.hidW n1 h2 _, h2, g1, us ++ [y], upd_same, MRepL.of (by simp [h5.len]) fun i x u e1 e2 => g2 x u ((h5.snoc r).at e1 e2)⟩
theorem LcS.start {w : Wd} {H : Hp} {s : S} (hr : HR mg w s H) {D : Addr} (hD : H D = none) : LcS mg w H D [] s (w.hide D) (upd H D (.lst [])) :=
  ⟨Ext.hide hr hD _, .inr rfl, hr.hide hD _, [], upd_same, rfl⟩
theorem noX {w : Wd} {H : Hp} {s : S} (hr : HR mg w s H) {D : Addr} (hD : H D = none) : ¬ w.x D := fun h => hr.there D (.inr (.inr h)) hD
theorem Ext0.hidW {w0 w : Wd} {H0 H : Hp} (e : Ext0 w0 H0 w H) {D : Addr} (hD : w.x D) (o : HO) : Ext0 w0 H0 w (upd H D o) :=
  ⟨e.len, e.old, e.gk, fun a u n q => by
    obtain ⟨n1, o1, k1, l⟩ := e.keep a u n q
    exact ⟨n1, o1, by rw [upd_ne (show a ≠ D from fun z => n1 (by rw [z]; exact .inr (.inr hD)))]; exact k1, l⟩⟩
/-- one generator's loop; Fin: what is wanted behind it, of what has been made so far -/
theorem lc_run {J : It} {it : Items} {t : TM} {mt : E Bool} {me : E MV} {ρ : Env} {lim : Nat → Bool} {fin : List MV → S → Res MV} {w1 wa : Wd} {H1 Ha : Hp} {D : Addr} {σ : L2.St} {vs : List Nat} {Y : XK} {Q : VK} {acc : List MV} {s : S} {Fin : Hp → Prop}
    (n1 : ¬ w1.x D) (hl : ∀ n i : Nat, i < it.xs.length → n ≤ acc.length + i → lim n = true → n < sizeLine) {w0 : Wd} {H0 : Hp} (e0 : Ext0 w0 H0 wa Ha)
    (wl : Wlk mg w0 H0 it J) (env : EnvR mg wa Ha ρ (L2.wipe σ vs)) (st : LcS mg w1 H1 D acc s wa Ha) (c : CE mg (MRep mg) Y w1 H1 (lcI it t mt me ρ lim fin it.xs acc s) Q)
    (k : ∀ w' acc' s' H', LcS mg w1 H1 D acc' s' w' H' → Ext0 wa Ha w' H' → acc'.length ≤ acc.length + it.xs.length → CE mg (MRep mg) Y w1 H1 (fin acc' s') Q → Fin H') :
    ∃ Wn : Nat → Nat → Hp → Prop, (∃ m, Wn 0 m Ha) ∧ ∀ i m H, Wn i m H → (J.stop i H ∧ Fin H) ∨ (J.go i H ∧ ∃ Nx : Hp → Prop, (∀ H', Nx H' → ∃ m', m' < m ∧ Wn (i + 1) m' H') ∧ ∀ x H', J.yld i H x H' → tMC mg vs t x (L2.wipe σ vs) H' fun σ2 H2 => L2.wipe σ2 vs = L2.wipe σ vs ∧ tMB mg W0 mt σ2 H2 fun b H3 =>
        if b = true then tM mg W0 me σ2 H3 fun y H4 => ∃ acc, H4 D = some (.lst acc) ∧ acc.length < sizeLine ∧ Nx (upd H4 D (.lst (acc ++ [y]))) else Nx H3) := by
  refine ⟨fun i m H' => m = it.xs.length - i ∧ i ≤ it.xs.length ∧ ∃ w' acc' s', LcS mg w1 H1 D acc' s' w' H' ∧ Ext0 wa Ha w' H' ∧ acc'.length ≤ acc.length + i ∧ CE mg (MRep mg) Y w1 H1 (lcI it t mt me ρ lim fin (it.xs.drop i) acc' s') Q,
    ⟨it.xs.length, by simp, Nat.zero_le _, wa, acc, s, st, (Ext.refl _ _).e0, by omega, by rw [List.drop_zero]; exact c⟩, ?_⟩
  rintro i m H' ⟨rfl, hi, w', acc', s', st', ea, hla, c'⟩
  have hr' := st'.2.2.1
  by_cases hlt : i < it.xs.length
  · rw [List.drop_eq_getElem_cons hlt] at c'
    unfold lcI at c'
    split at c'
    · rename_i hck
      obtain ⟨g1, g2⟩ := wl.run w' s' H' (e0.trans ea) hr' hck
      obtain ⟨go, yl⟩ := g1 i _ (List.getElem?_eq_getElem hlt)
      refine .inr ⟨go, fun H'' => ∃ w2 acc2 s2, LcS mg w1 H1 D acc2 s2 w2 H'' ∧ Ext0 wa Ha w2 H'' ∧ acc2.length ≤ acc.length + (i + 1) ∧ CE mg (MRep mg) Y w1 H1 (lcI it t mt me ρ lim fin (it.xs.drop (i + 1)) acc2 s2) Q, fun H'' q => ⟨it.xs.length - (i + 1), by omega, rfl, hlt, q⟩, fun x H'' hy => ?_⟩
      obtain ⟨w2, e2, hr2, rx⟩ := yl x H'' hy
      have env2 : EnvR mg w2 H'' ρ (L2.wipe σ vs) := (env.ext0 ea).ext e2
      refine ⟨w2, ρ, s', _, env2, hr2, rx, CE.bindN_t c' fun ρ1 s1 hq c1 w3 σ3 H3 e3 hr3 env3 hw => ⟨hw.trans wipe_wipe, w3, ρ1, s1, env3, hr3, CE.bindN_e c1 fun b s2 hb c2 w4 b' H4 e4 hr4 eb => ?_⟩⟩
      obtain rfl : b' = b := eb
      have st4 := ((st'.ext e2 hr2).ext e3 hr3).ext e4 hr4
      have ea4 := ea.trans (e2.trans (e3.trans e4)).e0
      cases b' with
      | true =>
        rw [if_pos rfl]
        refine ⟨w4, ρ1, s2, env3.ext e4, hr4, CE.bindN_e (show CE mg (MRep mg) Y w1 H1 ((me ρ1 s2).bindN fun v s3 => if lim acc'.length = true then lcI it t mt me ρ lim fin (it.xs.drop (i + 1)) (acc' ++ [v]) s3 else .no) Q from c2) fun v s3 hv c3 w5 y H5 e5 hr5 ry => ?_⟩
        split at c3
        · rename_i hlim
          obtain ⟨us, h1, h2, h3⟩ := (st4.ext e5 hr5).snoc n1 ry
          exact ⟨us, h1, by rw [h2]; exact hl _ i hlt hla hlim, w5, acc' ++ [v], s3, h3, (ea4.trans e5.e0).hidW (st4.ext e5 hr5).2.1 _, by rw [List.length_append]; simp; omega, c3⟩
        · exact c3.elim
      | false =>
        rw [if_neg Bool.false_ne_true]
        exact ⟨w4, acc', s2, st4, ea4, by omega, c2⟩
    · exact c'.elim
  · have ei : i = it.xs.length := by omega
    subst ei
    rw [List.drop_length] at c'
    unfold lcI at c'
    split at c'
    · rename_i hck
      obtain ⟨g1, g2⟩ := wl.run w' s' H' (e0.trans ea) hr' hck
      exact .inl ⟨g2, k w' acc' s' H' st' ea hla c'⟩
    · exact c'.elim
end
end MP

/-! ## MComp -/
set_option Elab.async false
set_option linter.all false
set_option maxRecDepth 100000
set_option maxHeartbeats 2000000
/-! MP: comprehensions as expressions -/
namespace MP
open PySem PySem.Spec PyProof.Rows L2 AK
section
variable {X : Cx} {mg : Gm} {W : WX} {K : PySem.W.Frag} {e a b c tg : Expr} {es : List Expr} {st : Stmt} {sts : List Stmt} {pos : Pos} {k : Nat}
/-! ## what was made becomes an object that may change -/
def Wd.take (w : Wd) (D : Addr) : Wd := { w with μ := w.μ ++ [some D], x := fun a => w.x a ∧ a ≠ D }
theorem Wd.take_bad {w : Wd} {D a : Addr} (b : (w.take D).bad a) : a = D ∨ (w.show D).bad a := by
  rcases b with ⟨n, h⟩ | b | b
  · have h' : (w.μ ++ [some D])[n]? = some (some a) := h
    by_cases hn : n < w.μ.length
    · rw [List.getElem?_append_left hn] at h'; exact .inr (.inl ⟨n, h'⟩)
    · rw [List.getElem?_append_right (by omega)] at h'
      have z : n - w.μ.length = 0 := by have := (List.getElem?_eq_some_iff.mp h').1; simp at this; omega
      rw [z] at h'; cases h'; exact .inl rfl
  · exact .inr (.inr (.inl b))
  · exact .inr (.inr (.inr b))
theorem MRep.take {w : Wd} {H : Hp} {D : Addr} {v : MV} {x : V} (hD : H D ≠ none → True) (r : MRep mg (w.show D) H v x) (hnp : ∀ y, v = .p y → Rep mg (w.take D).bad H y x) : MRep mg (w.take D) H v x := by
  cases v with
  | p y => exact hnp y rfl
  | o n =>
    obtain ⟨h1, a, h2, h3⟩ := r
    have h1' : n < w.μ.length := h1
    refine ⟨by show n < (w.μ ++ [some D]).length; rw [List.length_append]; omega, a, h2, fun a' h => h3 a' ?_⟩
    have h' : (w.μ ++ [some D])[n]? = some (some a') := h
    rw [List.getElem?_append_left h1'] at h'
    exact h'
  | g => exact r
/-- from the hidden state to one where D is an object -/
theorem HR.take {w : Wd} {H : Hp} {s : S} (hr : HR mg w s H) {D : Addr} (hD : w.x D) {acc : List MV} {us : List V} (hu : H D = some (.lst us)) (r : MRepL mg w H acc us) (hz : acc.length ≤ sizeLine) : HR mg (w.take D) (s.new (.lst acc)) H ∧ MRep mg (w.take D) H (.o s.h.length) (.ref D) := by
  have k : ∀ a o', ¬ w.bad a → H a = some o' → ¬ (w.take D).bad a ∧ ∃ o2, H a = some o2 ∧ Like o' o2 := fun a u n q => ⟨fun b => by
    rcases Wd.take_bad b with b | b
    · exact n (by rw [b]; exact .inr (.inr hD))
    · exact n (Wd.show_sub b), u, q, Like.refl u⟩
  have mr : ∀ (v : MV) (x : V), MRep mg w H v x → MRep mg (w.take D) H v x := fun v x r => by
    cases v with
    | p y => exact Rep.imp k r
    | o n =>
      obtain ⟨h1, a, h2, h3⟩ := r
      refine ⟨by show n < (w.μ ++ [some D]).length; rw [List.length_append]; omega, a, h2, fun a' h => h3 a' ?_⟩
      have h' : (w.μ ++ [some D])[n]? = some (some a') := h
      rw [List.getElem?_append_left h1] at h'
      exact h'
    | g => exact r
  have ml : ∀ (vs : List MV) (us : List V), MRepL mg w H vs us → MRepL mg (w.take D) H vs us := fun vs us r => MRepL.of r.len fun i x u h1 h2 => mr x u (r.at h1 h2)
  have at_ : ∀ (n : Nat) (a : Addr), (w.take D).μ[n]? = some (some a) → (n < w.μ.length ∧ w.μ[n]? = some (some a)) ∨ (n = w.μ.length ∧ a = D) := fun n a h => by
    have h' : (w.μ ++ [some D])[n]? = some (some a) := h
    by_cases hn : n < w.μ.length
    · rw [List.getElem?_append_left hn] at h'; exact .inl ⟨hn, h'⟩
    · rw [List.getElem?_append_right (by omega)] at h'
      have z : n - w.μ.length = 0 := by have := (List.getElem?_eq_some_iff.mp h').1; simp at this; omega
      rw [z] at h'; cases h'; exact .inr ⟨by omega, rfl⟩
  have nD : ∀ n : Nat, w.μ[n]? ≠ some (some D) := (hr.ap D hD).1
  refine ⟨⟨by show (s.h ++ _).length = (w.μ ++ _).length; simp [hr.len], fun m u q => ?_, fun n m a h1 h2 => ?_, fun a b => ?_, fun a h => ⟨fun n z => ?_, (hr.ap a h.1).2⟩, ?_⟩, ?_⟩
  · have q' : (s.h ++ [some (MO.lst acc)])[m]? = some (some u) := q
    by_cases hm : m < s.h.length
    · rw [List.getElem?_append_left hm] at q'
      obtain ⟨c, h1, h2⟩ := hr.ob m u q'
      refine ⟨c, by show (w.μ ++ [some D])[m]? = _; rw [List.getElem?_append_left (by rw [← hr.len]; exact hm)]; exact h1, ?_⟩
      cases u with
      | lst xs => obtain ⟨us, g1, g2, g3⟩ := h2; exact ⟨us, g1, g2, ml _ _ g3⟩
      | dK kvs => obtain ⟨us, g1, g2, g3, g4, g5⟩ := h2; exact ⟨us, g1, g2, g3, g4, ml _ _ g5⟩
      | dT kvs => obtain ⟨us, g1, g2, g3, g4, g5⟩ := h2; exact ⟨us, g1, g2, g3, g4, ml _ _ g5⟩
      | ins C fs =>
        obtain ⟨dx, Ca, us, g1, g2, g3, g4, g5, g6, g7⟩ := h2
        exact ⟨dx, Ca, us, (k dx _ g1 g4).1, g2, g3, g4, g5, g6, ml _ _ g7⟩
    · rw [List.getElem?_append_right (by omega)] at q'
      have z : m - s.h.length = 0 := by have := (List.getElem?_eq_some_iff.mp q').1; simp at this; omega
      rw [z] at q'; cases q'
      have hm2 : m = w.μ.length := by have := hr.len; omega
      exact ⟨D, by show (w.μ ++ [some D])[m]? = _; rw [hm2, List.getElem?_append_right (Nat.le_refl _), Nat.sub_self]; rfl, us, hu, hz, ml _ _ r⟩
  · rcases at_ n a h1 with ⟨l1, q1⟩ | ⟨l1, q1⟩
    · rcases at_ m a h2 with ⟨l2, q2⟩ | ⟨l2, q2⟩
      · exact hr.inj n m a q1 q2
      · subst q2; exact (nD n q1).elim
    · rcases at_ m a h2 with ⟨l2, q2⟩ | ⟨l2, q2⟩
      · subst q1; exact (nD m q2).elim
      · omega
  · rcases Wd.take_bad b with b | b
    · rw [b, hu]; exact fun z => nomatch z
    · exact hr.there a (Wd.show_sub b)
  · rcases at_ n a z with ⟨_, q⟩ | ⟨_, q⟩
    · exact (hr.ap a h.1).1 n q
    · exact h.2 q
  · have := hr.rn
    revert this
    show GRep w H s.g → GRep (w.take D) H s.g
    cases s.g with
    | none => exact fun h => h
    | some rr =>
      rintro ⟨x, c, h1, h2, h3, h4, h5, h6, h7, h8, h9⟩
      refine ⟨x, c, h1, h2, h3, h4, h5, h6, h7, h8, fun n => ⟨fun z => ?_, fun z => ?_⟩⟩
      · rcases at_ n x z with ⟨_, q⟩ | ⟨_, q⟩
        · exact (h9 n).1 q
        · exact ((hr.ap D hD).2 _ h1).1 q.symm
      · rcases at_ n c z with ⟨_, q⟩ | ⟨_, q⟩
        · exact (h9 n).2 q
        · exact ((hr.ap D hD).2 _ h1).2 q.symm
  · refine ⟨by show s.h.length < (w.μ ++ [some D]).length; rw [hr.len]; simp, D, rfl, fun a h => ?_⟩
    rcases at_ _ a h with ⟨l, _⟩ | ⟨_, q⟩
    · rw [hr.len] at l; omega
    · exact q
theorem Ext.take {w0 w : Wd} {H0 H : Hp} (e : Ext w0 H0 w H) {D : Addr} (n0 : ¬ w0.x D) (h0 : H0 D = none) : Ext w0 H0 (w.take D) H :=
  ⟨by show w0.μ.length ≤ (w.μ ++ [some D]).length; rw [List.length_append]; have := e.len; omega, fun n a hn h => e.old n a hn (by
      have h' : (w.μ ++ [some D])[n]? = some (some a) := h
      rw [List.getElem?_append_left (Nat.lt_of_lt_of_le hn e.len)] at h'
      exact h'), e.gk, fun a u n q => by
    obtain ⟨n1, r⟩ := e.keep a u n q
    refine ⟨fun b => ?_, r⟩
    rcases Wd.take_bad b with b | b
    · rw [b, h0] at q; cases q
    · exact n1 (Wd.show_sub b), fun a h => ⟨⟨(e.hid a h).1, fun z => n0 (z ▸ h)⟩, (e.hid a h).2⟩⟩
/-! ## [e for t in it if c] -/
def mkLc (acc : List MV) (s : S) : Res MV := match allP acc with
  | some ys => .ok (.p (.lst ys)) s
  | none => .no
def mkOc (acc : List MV) (s : S) : Res MV := .ok (.o s.h.length) (s.new (.lst acc))
variable (mg) in
/-- what a comprehension makes of its items -/
def FinOk (fin : List MV → S → Res MV) : Prop := ∀ (w1 w' : Wd) (H1 H' : Hp) (D : Addr) (acc : List MV) (s : S) (Y : XK) (Q : VK), ¬ w1.x D → H1 D = none → LcS mg w1 H1 D acc s w' H' → acc.length ≤ sizeLine → CE mg (MRep mg) Y w1 H1 (fin acc s) Q → Q (.ref D) H'
theorem fin_lc : FinOk mg mkLc := fun w1 w' H1 H' D acc s Y Q n1 h0 ⟨e, hx, hr, us, hu, r⟩ hz c => by
  unfold mkLc at c
  split at c
  · rename_i ys hy
    obtain ⟨g1, g2, g3⟩ := hr.shown hx
    have r' : RepL mg (w'.show D).bad H' ys us := mRepL_toP hy (MRepL.of r.len fun i x u e1 e2 => g3 x u (r.at e1 e2))
    exact c _ _ _ (e.shown n1) g1 (show Rep mg _ _ _ _ by rw [Rep]; exact ⟨D, us, rfl, g2, hu, by rw [← allP_len hy]; exact hz, r'⟩)
  · exact c.elim
theorem fin_oc : FinOk mg mkOc := fun w1 w' H1 H' D acc s Y Q n1 h0 ⟨e, hx, hr, us, hu, r⟩ hz c => by
  obtain ⟨g1, g2⟩ := hr.take hx hu r hz
  exact c _ _ _ (e.take n1 h0) g1 g2
def lcE (fin : List MV → S → Res MV) (mi : E Items) (vs : List Nat) (t : TM) (mt : E Bool) (me : E MV) : E MV := bind mi fun it ρ s => lcI it t mt me (wipeE ρ vs) (fun _ => true) fin it.xs [] s
theorem lc_to (hx : mg.ex = none) {fin : List MV → S → Res MV} (hf : FinOk mg fin) {mi : E Items} {vs : List Nat} {t : TM} {mt : E Bool} {me : E MV} {σ : L2.St} {H : Hp} {Q : VK} (q : tM mg W (lcE fin mi vs t mt me) σ H Q) : tLc (tMI mg W mi) (tMC mg vs t) (tMB mg W0 mt) (tM mg W0 me) vs σ H Q := by
  obtain ⟨w, ρ, s, env, hr, c⟩ := q
  refine ⟨w, ρ, s, env, hr, (CE.bind (R := Wlk mg) (r := mi ρ s) c).mono fun J H1 ⟨it, s1, w1, e1, hr1, wl, c1⟩ => fun D hD => ?_⟩
  have n1 := noX hr1 hD
  have st := LcS.start hr1 hD
  exact lc_run n1 (fun n i hi hn _ => by have := wl.len; simp at hn; omega) (st.1).e0 wl ((env.ext e1).ext st.1 |>.wipe hx vs) st c1 fun w' acc' s' H' st' _ hla c' => hf w1 w' H1 H' D acc' s' _ _ n1 hD st' (by have := wl.len; simp at hla; omega) c'
theorem es_lc {mi : E Items} {vs : List Nat} {t : TM} {mt : E Bool} {me : E MV} (h : PE X e (tLc (tMI mg W mi) (tMC mg vs t) (tMB mg W0 mt) (tM mg W0 me) vs)) (hx : mg.ex = none := by rfl) : PE X e (tM mg W (lcE mkLc mi vs t mt me)) := pe_imp h fun _ _ _ q => lc_to hx fin_lc q
theorem es_lcM {mi : E Items} {vs : List Nat} {t : TM} {mt : E Bool} {me : E MV} (h : PE X e (tLc (tMI mg W mi) (tMC mg vs t) (tMB mg W0 mt) (tM mg W0 me) vs)) (hx : mg.ex = none := by rfl) : PE X e (tM mg W (lcE mkOc mi vs t mt me)) := pe_imp h fun _ _ _ q => lc_to hx fin_oc q
theorem ss_setT {i : Nat} {m : E MV} {te : TE} (to : ∀ σ H Q, tM mg W m σ H Q → te σ H Q) (h : PS X st (tAsg te (gName i))) : PS X st (tMS mg W (asgS m (nameT i))) := ps_imp h fun D σ H ⟨w, ρ, s, env, hr, c⟩ =>
  to σ H _ ⟨w, ρ, s, env, hr, (CS.bindE (R := MRep mg) (r := m ρ s) env c).mono fun x H1 ⟨a, s1, w1, e1, hr1, ra, c1⟩ => c1 w1 _ H1 (Ext.refl _ _) hr1 ((env.ext e1).set ra i)⟩
/-! ## two generators -/
def lc2I (it : Items) (t : TM) (mt : E Bool) (mi1 : E Items) (vs1 : List Nat) (t1 : TM) (mt1 : E Bool) (me : E MV) (ρ : Env) (fin : List MV → S → Res MV) : List MV → List MV → S → Res MV
  | [], acc, s => if it.chk s = true then fin acc s else .no
  | x :: xs, acc, s => if it.chk s = true then (t x ρ s).bindN fun ρ1 s1 => (mt ρ1 s1).bindN fun k s2 =>
      if k = true then (mi1 ρ1 s2).bindN fun it1 s3 => lcI it1 t1 mt1 me (wipeE ρ1 vs1) (fun n => decide (n < 16777216)) (fun acc s => lc2I it t mt mi1 vs1 t1 mt1 me ρ fin xs acc s) it1.xs acc s3
      else lc2I it t mt mi1 vs1 t1 mt1 me ρ fin xs acc s2
    else .no
def lc2E (fin : List MV → S → Res MV) (mi : E Items) (vs : List Nat) (t : TM) (mt : E Bool) (mi1 : E Items) (vs1 : List Nat) (t1 : TM) (mt1 : E Bool) (me : E MV) : E MV :=
  bind mi fun it ρ s => lc2I it t mt mi1 vs1 t1 mt1 me (wipeE ρ vs) (fun acc s => if acc.length ≤ 16777216 then fin acc s else .no) it.xs [] s
theorem lc2_to (hx : mg.ex = none) {fin : List MV → S → Res MV} (hf : FinOk mg fin) {mi mi1 : E Items} {vs vs1 : List Nat} {t t1 : TM} {mt mt1 : E Bool} {me : E MV} {σ : L2.St} {H : Hp} {Q : VK} (q : tM mg W (lc2E fin mi vs t mt mi1 vs1 t1 mt1 me) σ H Q) :
    tLc2 (tMI mg W mi) (tMC mg vs t) (tMB mg W0 mt) (tMI mg W0 mi1) (tMC mg vs1 t1) (tMB mg W0 mt1) (tM mg W0 me) vs vs1 σ H Q := by
  obtain ⟨w, ρ, s, env, hr, c⟩ := q
  refine ⟨w, ρ, s, env, hr, (CE.bind (R := Wlk mg) (r := mi ρ s) c).mono fun J H1 ⟨it, s1, w1, e1, hr1, wl, c1⟩ => fun D hD => ?_⟩
  have n1 := noX hr1 hD
  have st0 := LcS.start hr1 hD
  have env0 : EnvR mg (w1.hide D) (upd H1 D (.lst [])) (wipeE ρ vs) (L2.wipe σ vs) := ((env.ext e1).ext st0.1).wipe hx vs
  refine ⟨fun i m H' => m = it.xs.length - i ∧ i ≤ it.xs.length ∧ ∃ w' acc' s', LcS mg w1 H1 D acc' s' w' H' ∧ Ext0 (w1.hide D) (upd H1 D (.lst [])) w' H' ∧ CE mg (MRep mg) (fun c d H => W c d σ H) w1 H1 (lc2I it t mt mi1 vs1 t1 mt1 me (wipeE ρ vs) (fun acc s => if acc.length ≤ 16777216 then fin acc s else .no) (it.xs.drop i) acc' s') Q,
    ⟨it.xs.length, by simp, Nat.zero_le _, _, [], s1, st0, (Ext.refl _ _).e0, by rw [List.drop_zero]; exact c1⟩, ?_⟩
  rintro i m H' ⟨rfl, hi, w', acc', s', st', ea, c'⟩
  have hr' := st'.2.2.1
  by_cases hlt : i < it.xs.length
  · rw [List.drop_eq_getElem_cons hlt] at c'
    unfold lc2I at c'
    split at c'
    · rename_i hck
      obtain ⟨g1, g2⟩ := wl.run w' s' H' (st0.1.e0.trans ea) hr' hck
      obtain ⟨go, yl⟩ := g1 i _ (List.getElem?_eq_getElem hlt)
      refine .inr ⟨go, fun H'' => ∃ w2 acc2 s2, LcS mg w1 H1 D acc2 s2 w2 H'' ∧ Ext0 (w1.hide D) (upd H1 D (.lst [])) w2 H'' ∧ CE mg (MRep mg) (fun c d H => W c d σ H) w1 H1 (lc2I it t mt mi1 vs1 t1 mt1 me (wipeE ρ vs) (fun acc s => if acc.length ≤ 16777216 then fin acc s else .no) (it.xs.drop (i + 1)) acc2 s2) Q, fun H'' q => ⟨it.xs.length - (i + 1), by omega, rfl, hlt, q⟩, fun x H'' hy => ?_⟩
      obtain ⟨w2, e2, hr2, rx⟩ := yl x H'' hy
      have env2 : EnvR mg w2 H'' (wipeE ρ vs) (L2.wipe σ vs) := (env0.ext0 ea).ext e2
      refine ⟨w2, wipeE ρ vs, s', _, env2, hr2, rx, CE.bindN_t c' fun ρ1 s1' hq c1 w3 σ3 H3 e3 hr3 env3 hw => ⟨hw.trans wipe_wipe, w3, ρ1, s1', env3, hr3, CE.bindN_e c1 fun b s2 hb c2 w4 b' H4 e4 hr4 eb => ?_⟩⟩
      obtain rfl : b' = b := eb
      have st4 := ((st'.ext e2 hr2).ext e3 hr3).ext e4 hr4
      have ea4 := ea.trans (e2.trans (e3.trans e4)).e0
      cases b' with
      | true =>
        rw [if_pos rfl]
        refine ⟨w4, ρ1, s2, env3.ext e4, hr4, CE.bindN_e (show CE mg (MRep mg) _ w1 H1 ((mi1 ρ1 s2).bindN _) Q from c2) fun it1 s3 hv c3 w5 J1 H5 e5 hr5 wl1 => ?_⟩
        exact lc_run n1 (fun n i _ _ hlim => by rw [sizeLine_eq]; exact of_decide_eq_true hlim) (Ext.refl _ _).e0 wl1 (((env3.ext e4).ext e5).wipe hx vs1) (st4.ext e5 hr5) c3 fun w6 acc6 s6 H6 st6 ea6 _ c6 => ⟨w6, acc6, s6, st6, (ea4.trans e5.e0).trans ea6, c6⟩
      | false =>
        rw [if_neg Bool.false_ne_true]
        exact ⟨w4, acc', s2, st4, ea4, c2⟩
    · exact c'.elim
  · have ei : i = it.xs.length := by omega
    subst ei
    rw [List.drop_length] at c'
    unfold lc2I at c'
    split at c'
    · rename_i hck
      obtain ⟨g1, g2⟩ := wl.run w' s' H' (st0.1.e0.trans ea) hr' hck
      have c2 : CE mg (MRep mg) (fun c d H => W c d σ H) w1 H1 (if acc'.length ≤ 16777216 then fin acc' s' else .no) Q := c'
      split at c2
      · rename_i hz
        exact .inl ⟨g2, hf w1 w' H1 H' D acc' s' _ _ n1 hD st' (szl hz) c2⟩
      · exact c2.elim
    · exact c'.elim
theorem es_lc2 {mi mi1 : E Items} {vs vs1 : List Nat} {t t1 : TM} {mt mt1 : E Bool} {me : E MV} (h : PE X e (tLc2 (tMI mg W mi) (tMC mg vs t) (tMB mg W0 mt) (tMI mg W0 mi1) (tMC mg vs1 t1) (tMB mg W0 mt1) (tM mg W0 me) vs vs1)) (hx : mg.ex = none := by rfl) : PE X e (tM mg W (lc2E mkLc mi vs t mt mi1 vs1 t1 mt1 me)) := pe_imp h fun _ _ _ q => lc2_to hx fin_lc q
end
end MP

/-! ## MCall -/
set_option Elab.async false
set_option linter.all false
set_option maxRecDepth 100000
set_option maxHeartbeats 2000000
/-! MP: defs and calls -/
namespace MP
open PySem PySem.Spec PyProof.Rows L2 AK
abbrev DefV := List MV → S → Res MV
def MV.lt (n : Nat) : MV → Bool
  | .o m => decide (m < n)
  | _ => true
def MO.vals : MO → List MV
  | .lst xs => xs
  | .dK kvs => kvs.map (·.2)
  | .dT kvs => kvs.map (·.2)
  | .ins _ fs => fs.map (·.2)
def olt (n : Nat) : Option MO → Bool
  | none => true
  | some o => o.vals.all (MV.lt n)
/-- may what was made within a call be forgotten? -/
def S.drops (s s' : S) : Bool := decide (s'.h.length = s.h.length) || (decide (s'.h.take s.h.length = s.h) || (s'.h.take s.h.length).all (olt s.h.length))
/-- what a call leaves: objects made within it are gone -/
def S.back (s s' : S) : S := if s.drops s' = true then { s' with h := s'.h.take s.h.length } else s'
/-- a made object as a value that never changes -/
def frzO : MO → Option PV
  | .lst xs => (allP xs).map PV.lst
  | .dK kvs => (allP (kvs.map (·.2))).map (PV.dK (kvs.map (·.1)))
  | .dT kvs => (allP (kvs.map (·.2))).map (PV.dT (kvs.map (·.1)))
  | .ins C fs => (allP (fs.map (·.2))).map (PV.ins C (fs.map (·.1)))
def frz (n : Nat) (s' : S) : MV → Option PV
  | .o m => if n ≤ m then match s'.h[m]? with
    | some (some o) => frzO o
    | _ => none
    else none
  | _ => none
/-- what a call answers -/
def retC (s : S) (v : MV) (s' : S) : Res MV := if v.lt s.h.length = true then .ok v (s.back s') else match frz s.h.length s' v with
  | some x => if s.drops s' = true then .ok (.p x) (s.back s') else .ok v s'
  | none => .ok v s'
def defM (np ns : Nat) (mb : ST) : DefV := fun ds s => if ds.length = np then
    match mb (ds.map some ++ List.replicate (ns - np) none) s with
    | .nx _ s' => .ok (.p .non) (s.back s')
    | .rt v s' => retC s v s'
    | .exc c f x _ s' => .exc c f x (s.back s')
    | _ => .no
  else .no
/-- a def that is not called -/
def noDef : DefV := fun _ _ => .no
def callE (m : DefV) (ma : E (List MV)) : E MV := unL m ma
section
variable {mg : Str → Option Value}
variable (mg) in
def spM (n : Nat) (m : DefV) : Sp := fun vs H Q E => ∃ w s ds, HR mg w s H ∧ MRepL mg w H ds vs ∧ ds.length = n ∧ CE mg (MRep mg) E w H (m ds s) Q
theorem spM_len {n : Nat} {m : DefV} : ∀ vs H Q E, spM mg n m vs H Q E → vs.length = n := fun vs H Q E ⟨w, s, ds, _, r, hl, _⟩ => r.len.trans hl
structure FnM (P : Program) (w : World) (K : PySem.W.Frag) (mg : Str → Option Value) (base : Heap) (k : Nat) (x : Str) (ps : List Str) (m : DefV) : Prop where
  ex : ∃ (f : Addr) (fd : FuncData), FnG P w K mg base (L2.CX P w) k f fd ps (spM mg ps.length m) ∧ mg x = some (.ref f) ∧ PySem.W.keepIn K (.ref f) = true ∧ Binds K fd ps [] ∧ ∃ oc od osl, K.lookup f = some ⟨oc, od, .func fd, osl⟩
  ar : ∀ ds s, ds.length ≠ ps.length → m ds s = .no
theorem FnM.mono {P : Program} {w : World} {K : PySem.W.Frag} {base : Heap} {j k : Nat} {x : Str} {ps : List Str} {m : DefV} (h : FnM P w K mg base j x ps m) (e : j ≤ k) : FnM P w K mg base k x ps m := by
  obtain ⟨⟨f, fd, F, a, kp, b, l⟩, ar⟩ := h
  exact ⟨⟨f, fd, F.mono e, a, kp, b, l⟩, ar⟩
end
/-! ## a call -/
section
variable {X : Cx} {mg : Gm} {W : WX} {e : Expr} {es : List Expr} {pos p : Pos} {k j : Nat} {x : Str} {ps : List Str} {m : DefV}
theorem pe_callGS {CX : CXT} {f : Addr} {fd : FuncData} {sp : Sp} {E : L2.St → XK} {t : TA} (F : FnG X.prog X.w X.K X.mg X.base CX k f fd ps sp) (hr : Room k X.A) (gd : X.A.guards = some []) (hg : Gl X x) (hm : X.mg x = some (.ref f)) (hk : PySem.W.keepIn X.K (.ref f) = true) (hb : Binds X.K fd ps []) (hx : ∀ σ, PassesAt CX X σ (E σ))
    (ha : PA X (e :: es) t) (hdb : (x == ("__debug__" : Str)) = false := by decide) (he : starEach (e :: es) X.env = (false, eval e X.env) :: starEach es X.env := by rfl) (hpl : (backTo pos (starEach es X.env)).any (·.1) = false := by rfl) :
    PE X (.Call (.Name x p) (e :: es) [] pos) (tCallS sp E t) := by
  refine ⟨fun pins z σ H Q I h => wpAny_Call_Name_kw (ld_glob I hg hm ?_ hdb)⟩
  refine PySem.W.callWith_K (h₀ := X.base) I.ok.mod.kin hk (thn (ha.run pos pins z σ H _ I h) fun us s1 ⟨vs, H1, I1, r, q⟩ => ⟨I1.kIn, ?_⟩) he hpl
  have hl : us.length = ps.length := r.length.symm.trans (F.gl _ _ _ _ q)
  have b := hb s1 us I1.kIn (by rw [List.append_nil]; exact hl)
  rw [List.append_nil] at b
  refine wpAny_call (codeAny_mono (F.go X.A X.stack s1 H1 ⟨us, []⟩ us vs Q (E σ) hr gd I1.env0 b r q) fun out s' hq => ?_)
  match out, hq with
  | .error e, hq => exact hx σ pins H1 s1 e s' I1 hq
  | .ok (.ret u), hq => exact I1.after hq
  | .ok .next, hq => exact hq.elim
  | .ok .brk, hq => exact hq.elim
  | .ok .cont, hq => exact hq.elim
theorem pe_callGS0 {CX : CXT} {f : Addr} {fd : FuncData} {sp : Sp} {E : L2.St → XK} (F : FnG X.prog X.w X.K X.mg X.base CX k f fd [] sp) (hr : Room k X.A) (gd : X.A.guards = some []) (hg : Gl X x) (hm : X.mg x = some (.ref f)) (hk : PySem.W.keepIn X.K (.ref f) = true) (hb : Binds X.K fd [] []) (hx : ∀ σ, PassesAt CX X σ (E σ))
    (hdb : (x == ("__debug__" : Str)) = false := by decide) : PE X (.Call (.Name x p) [] [] pos) (tCallS sp E tNil) := by
  refine ⟨fun pins z σ H Q I h => wpAny_Call_Name_kw (ld_glob I hg hm ?_ hdb)⟩
  refine PySem.W.callWith_K0 I.kIn hk ?_
  have b := hb z [] I.kIn rfl
  refine wpAny_call (codeAny_mono (F.go X.A X.stack z H ⟨[], []⟩ [] [] Q (E σ) hr gd I.env0 b .nil h) fun out s' hq => ?_)
  match out, hq with
  | .error e, hq => exact hx σ pins H z e s' I hq
  | .ok (.ret u), hq => exact I.after hq
  | .ok .next, hq => exact hq.elim
  | .ok .brk, hq => exact hq.elim
  | .ok .cont, hq => exact hq.elim
theorem es_call {ma : E (List MV)} (F : FnM X.prog X.w X.K X.mg X.base k x ps m) (hr : Room j X.A) (gd : X.A.guards = some []) (tk : Takes X W) (hmg : mg.mg = X.mg) (ha : PA X (e :: es) (tML mg W ma)) (hj : k ≤ j := by omega) (hg : Gl X x := by rfl) (hdb : (x == ("__debug__" : Str)) = false := by decide)
    (he : starEach (e :: es) X.env = (false, eval e X.env) :: starEach es X.env := by rfl) (hpl : (backTo pos (starEach es X.env)).any (·.1) = false := by rfl) : PE X (.Call (.Name x p) (e :: es) [] pos) (tM mg W (callE m ma)) := by
  obtain ⟨m0, ex0⟩ := mg
  have hmg' : m0 = X.mg := hmg
  subst hmg'
  obtain ⟨⟨f, fd, F, a, kp, b, _⟩, ar⟩ := F
  refine pe_imp (pe_callGS F (hr.mono hj) gd hg a kp b (fun σ => passAt tk σ) ha hdb he hpl) fun σ H Q ⟨w, ρ, s, env, hr, c⟩ => ?_
  refine ⟨w, ρ, s, env, hr, (CE.bind (R := MRepL X.mg) (r := ma ρ s) c).mono fun vs H1 ⟨ds, s1, w1, e1, hr1, ra, c1⟩ => ?_⟩
  have c2 : CE X.mg (MRep X.mg) (fun c d H => W c d σ H) w1 H1 (m ds s1) Q := c1
  by_cases hl : ds.length = ps.length
  · exact ⟨w1, s1, ds, hr1, ra, hl, c2⟩
  · rw [ar ds s1 hl] at c2; exact c2.elim
theorem es_call0 (F : FnM X.prog X.w X.K X.mg X.base k x [] m) (hr : Room j X.A) (gd : X.A.guards = some []) (tk : Takes X W) (hmg : mg.mg = X.mg) (hj : k ≤ j := by omega) (hg : Gl X x := by rfl) (hdb : (x == ("__debug__" : Str)) = false := by decide) : PE X (.Call (.Name x p) [] [] pos) (tM mg W (callE m nilE)) := by
  obtain ⟨m0, ex0⟩ := mg
  have hmg' : m0 = X.mg := hmg
  subst hmg'
  obtain ⟨⟨f, fd, F, a, kp, b, _⟩, ar⟩ := F
  refine pe_imp (pe_callGS0 F (hr.mono hj) gd hg a kp b (fun σ => passAt tk σ) hdb) fun σ H Q ⟨w, ρ, s, env, hr, c⟩ => ?_
  exact ⟨w, s, [], hr, rfl, rfl, c⟩
end
/-! ## a def -/
section
variable {mg : Str → Option Value}
def Wd.back (w w' : Wd) : Wd := { w' with μ := w'.μ.take w.μ.length }
theorem Wd.back_bad {w w' : Wd} {a : Addr} (b : (w.back w').bad a) : w'.bad a := by
  rcases b with ⟨n, h⟩ | b
  · have h' : (w'.μ.take w.μ.length)[n]? = some (some a) := h
    rw [List.getElem?_take] at h'
    split at h'
    · exact .inl ⟨n, h'⟩
    · cases h'
  · exact .inr b
def MV.ltP (n : Nat) : MV → Prop
  | .o m => m < n
  | _ => True
theorem MRep.lt {w : Wd} {H : Hp} {v : MV} {x : V} (r : MRep mg w H v x) : v.ltP w.μ.length := by
  cases v with
  | o m => exact r.1
  | _ => trivial
theorem MRepL.lt {w : Wd} {H : Hp} : ∀ {vs : List MV} {us : List V}, MRepL mg w H vs us → ∀ v ∈ vs, v.ltP w.μ.length
  | [], _, _, v, h => absurd h List.not_mem_nil
  | x :: t, _, ⟨u, r, _, h2, h3⟩, v, h => by
    rcases List.mem_cons.mp h with rfl | h
    · exact h2.lt
    · exact MRepL.lt h3 v h
theorem back_k {w w' : Wd} {H : Hp} : ∀ a o', ¬ w'.bad a → H a = some o' → ¬ (w.back w').bad a ∧ ∃ o2, H a = some o2 ∧ Like o' o2 := fun a u n q => ⟨fun b => n (Wd.back_bad b), u, q, Like.refl u⟩
theorem MRep.back {w w' : Wd} {H : Hp} {v : MV} {x : V} (hl : w.μ.length ≤ w'.μ.length) (r : MRep mg w' H v x) (h : v.ltP w.μ.length) : MRep mg (w.back w') H v x := by
  cases v with
  | p y => exact Rep.imp back_k r
  | o n =>
    obtain ⟨h1, a, h2, h3⟩ := r
    have hn : n < w.μ.length := h
    refine ⟨by show n < (w'.μ.take w.μ.length).length; rw [List.length_take]; omega, a, h2, fun a' h => h3 a' ?_⟩
    have h' : (w'.μ.take w.μ.length)[n]? = some (some a') := h
    rw [List.getElem?_take, if_pos hn] at h'
    exact h'
  | g => exact r
theorem MRepL.back {w w' : Wd} {H : Hp} {vs : List MV} {us : List V} (hl : w.μ.length ≤ w'.μ.length) (r : MRepL mg w' H vs us) (h : ∀ v ∈ vs, v.ltP w.μ.length) : MRepL mg (w.back w') H vs us :=
  MRepL.of r.len fun i x u h1 h2 => (r.at h1 h2).back hl (h x (List.mem_of_getElem? h1))
theorem ORep.back {w w' : Wd} {H0 H : Hp} {a0 a : Addr} {o : MO} (hl : w.μ.length ≤ w'.μ.length) (r0 : ORep mg w H0 a0 o) (r : ORep mg w' H a o) : ORep mg (w.back w') H a o := by
  cases o with
  | lst xs => obtain ⟨_, _, _, q⟩ := r0; obtain ⟨us, g1, g2, g3⟩ := r; exact ⟨us, g1, g2, g3.back hl q.lt⟩
  | dK kvs => obtain ⟨_, _, _, _, _, q⟩ := r0; obtain ⟨us, g1, g2, g3, g4, g5⟩ := r; exact ⟨us, g1, g2, g3, g4, g5.back hl q.lt⟩
  | dT kvs => obtain ⟨_, _, _, _, _, q⟩ := r0; obtain ⟨us, g1, g2, g3, g4, g5⟩ := r; exact ⟨us, g1, g2, g3, g4, g5.back hl q.lt⟩
  | ins C fs =>
    obtain ⟨_, _, _, _, _, _, _, _, _, q⟩ := r0
    obtain ⟨dx, Ca, us, g1, g2, g3, g4, g5, g6, g7⟩ := r
    exact ⟨dx, Ca, us, fun b => g1 (Wd.back_bad b), g2, g3, g4, g5, g6, g7.back hl q.lt⟩
theorem Ext.back {w w' : Wd} {H H' : Hp} (e : Ext w H w' H') : Ext w H (w.back w') H' :=
  ⟨by show w.μ.length ≤ (w'.μ.take w.μ.length).length; rw [List.length_take]; have := e.len; omega, fun n a hn h => e.old n a hn (by
      have h' : (w'.μ.take w.μ.length)[n]? = some (some a) := h
      rw [List.getElem?_take, if_pos hn] at h'
      exact h'), e.gk, fun a u n q => let ⟨n1, r⟩ := e.keep a u n q; ⟨fun b => n1 (Wd.back_bad b), r⟩, e.hid⟩
theorem ORep.backL {w w' : Wd} {H : Hp} {a : Addr} {o : MO} (hl : w.μ.length ≤ w'.μ.length) (k : ∀ v ∈ o.vals, v.ltP w.μ.length) (r : ORep mg w' H a o) : ORep mg (w.back w') H a o := by
  cases o with
  | lst xs => obtain ⟨us, g1, g2, g3⟩ := r; exact ⟨us, g1, g2, g3.back hl k⟩
  | dK kvs => obtain ⟨us, g1, g2, g3, g4, g5⟩ := r; exact ⟨us, g1, g2, g3, g4, g5.back hl k⟩
  | dT kvs => obtain ⟨us, g1, g2, g3, g4, g5⟩ := r; exact ⟨us, g1, g2, g3, g4, g5.back hl k⟩
  | ins C fs =>
    obtain ⟨dx, Ca, us, g1, g2, g3, g4, g5, g6, g7⟩ := r
    exact ⟨dx, Ca, us, fun b => g1 (Wd.back_bad b), g2, g3, g4, g5, g6, g7.back hl k⟩
theorem ORep.vals {w : Wd} {H : Hp} {a : Addr} {o : MO} (r : ORep mg w H a o) : ∀ v ∈ o.vals, v.ltP w.μ.length := by
  cases o with
  | lst xs => obtain ⟨us, g1, g2, g3⟩ := r; exact g3.lt
  | dK kvs => obtain ⟨us, g1, g2, g3, g4, g5⟩ := r; exact g5.lt
  | dT kvs => obtain ⟨us, g1, g2, g3, g4, g5⟩ := r; exact g5.lt
  | ins C fs => obtain ⟨dx, Ca, us, g1, g2, g3, g4, g5, g6, g7⟩ := r; exact g7.lt
theorem MV.lt_P {n : Nat} {v : MV} (h : v.lt n = true) : v.ltP n := by
  cases v with
  | o m => exact (of_decide_eq_true (show decide (m < n) = true from h) : m < n)
  | _ => trivial
/-- the world in which what was made is forgotten -/
theorem HR.drop {w w' : Wd} {H H' : Hp} {s s' : S} (hr : HR mg w s H) (e : Ext w H w' H') (hr' : HR mg w' s' H') (hs : s.drops s' = true) : HR mg (w.back w') { s' with h := s'.h.take s.h.length } H' := by
  have hle : s.h.length ≤ s'.h.length := by rw [hr.len, hr'.len]; exact e.len
  have at_ : ∀ (n : Nat) a, (w'.μ.take w.μ.length)[n]? = some (some a) → n < w.μ.length ∧ w'.μ[n]? = some (some a) := fun n a h => by
    rw [List.getElem?_take] at h
    split at h
    · rename_i q; exact ⟨q, h⟩
    · cases h
  have old : ∀ (n : Nat) o, (s'.h.take s.h.length)[n]? = some (some o) → ∀ v ∈ o.vals, v.ltP w.μ.length := fun n o q v hv => by
    rcases Bool.or_eq_true_iff.mp hs with h | h
    · have h1 : s'.h.length = s.h.length := of_decide_eq_true h
      rw [List.take_of_length_le (by omega)] at q
      obtain ⟨a, _, r⟩ := hr'.ob n o q
      have := r.vals v hv
      rw [← hr'.len, h1, hr.len] at this
      exact this
    · rcases Bool.or_eq_true_iff.mp h with h | h
      · rw [of_decide_eq_true h] at q
        obtain ⟨a, _, r⟩ := hr.ob n o q
        exact r.vals v hv
      · have h1 := List.all_eq_true.mp h _ (List.mem_of_getElem? q)
        have h2 : o.vals.all (MV.lt s.h.length) = true := h1
        rw [← hr.len]
        exact MV.lt_P (List.all_eq_true.mp h2 v hv)
  refine ⟨?_, fun n o q => ?_, fun n m a h1 h2 => hr'.inj n m a (at_ n a h1).2 (at_ m a h2).2, fun a b => hr'.there a (Wd.back_bad b), fun a h => ⟨fun n z => (hr'.ap a h).1 n (at_ n a z).2, (hr'.ap a h).2⟩, ?_⟩
  · show (s'.h.take s.h.length).length = (w'.μ.take w.μ.length).length
    rw [List.length_take, List.length_take, hr.len, hr'.len]
  · have q0 : (s'.h.take s.h.length)[n]? = some (some o) := q
    have q1 := q0
    rw [List.getElem?_take] at q1
    split at q1
    · rename_i hn
      obtain ⟨a, h1, r⟩ := hr'.ob n o q1
      exact ⟨a, by show (w'.μ.take w.μ.length)[n]? = _; rw [List.getElem?_take, if_pos (by rw [← hr.len]; exact hn)]; exact h1, r.backL e.len (old n o q0)⟩
    · cases q1
  · have := hr'.rn
    revert this
    show GRep w' H' s'.g → GRep (w.back w') H' s'.g
    cases s'.g with
    | none => exact fun h => h
    | some rr =>
      rintro ⟨x, c, h1, h2, h3, h4, h5, h6, h7, h8, h9⟩
      exact ⟨x, c, h1, h2, h3, h4, h5, h6, h7, h8, fun n => ⟨fun z => (h9 n).1 (at_ n x z).2, fun z => (h9 n).2 (at_ n c z).2⟩⟩
/-- behind a call -/
theorem HR.back {w w' : Wd} {H H' : Hp} {s s' : S} (hr : HR mg w s H) (e : Ext w H w' H') (hr' : HR mg w' s' H') : ∃ w'', Ext w H w'' H' ∧ HR mg w'' (s.back s') H' ∧ (∀ a, w''.bad a → w'.bad a) ∧ ∀ (v : MV) (x : V), v.ltP s.h.length → MRep mg w' H' v x → MRep mg w'' H' v x := by
  unfold S.back
  split
  · rename_i hs
    exact ⟨w.back w', e.back, hr.drop e hr' hs, fun a b => Wd.back_bad b, fun v x hv r => r.back e.len (by rw [← hr.len]; exact hv)⟩
  · exact ⟨w', e, hr', fun _ b => b, fun v x _ r => r⟩
/-- an object made within, now a value -/
theorem frz_rep {w w' : Wd} {H H' : Hp} {s s' : S} {v : MV} {x : PV} {u : V} (hr : HR mg w s H) (e : Ext w H w' H') (hr' : HR mg w' s' H') (r : MRep mg w' H' v u) (h : frz s.h.length s' v = some x) : MRep mg (w.back w') H' (.p x) u := by
  unfold frz at h
  split at h
  · rename_i m
    split at h
    · rename_i hm
      split at h
      · rename_i o ho
        obtain ⟨a, rfl, ha, ro, _⟩ := hr'.addr ho r
        have nb : ¬ (w.back w').bad a := by
          rintro (⟨n, z⟩ | ⟨p, z, z2⟩ | z)
          · have z' : (w'.μ.take w.μ.length)[n]? = some (some a) := z
            rw [List.getElem?_take] at z'
            split at z'
            · rename_i hn
              have := hr'.inj n m a z' ha
              rw [hr.len] at hm
              omega
            · cases z'
          · have z' : w'.g = some p := z
            have rn := hr'.rn
            revert rn
            cases s'.g with
            | none => intro q; rw [show w'.g = none from q] at z'; cases z'
            | some rr =>
              rintro ⟨y, c, h1, _, _, _, _, _, _, _, h9⟩
              rw [h1] at z'; cases z'
              rcases z2 with rfl | rfl
              · exact (h9 m).1 ha
              · exact (h9 m).2 ha
          · exact (hr'.ap a z).1 m ha
        show Rep mg (w.back w').bad H' x (.ref a)
        cases o with
        | lst xs =>
          obtain ⟨us, g1, g2, g3⟩ := ro
          obtain ⟨ys, h1, rfl⟩ := Option.map_eq_some_iff.mp (show (allP xs).map PV.lst = some x from h)
          rw [Rep]
          exact ⟨a, us, rfl, nb, g1, by rw [← allP_len h1]; exact g2, RepL.imp back_k (mRepL_toP (mg := ⟨mg, none⟩) h1 g3)⟩
        | dK kvs =>
          obtain ⟨us, g1, g2, g3, g4, g5⟩ := ro
          obtain ⟨ys, h1, rfl⟩ := Option.map_eq_some_iff.mp (show (allP (kvs.map (·.2))).map (PV.dK (kvs.map (·.1))) = some x from h)
          rw [Rep]
          exact ⟨a, us, rfl, nb, .inl g1, g2, g3, by rw [← allP_len h1, List.length_map]; exact g4, RepL.imp back_k (mRepL_toP (mg := ⟨mg, none⟩) h1 g5)⟩
        | dT kvs =>
          obtain ⟨us, g1, g2, g3, g4, g5⟩ := ro
          obtain ⟨ys, h1, rfl⟩ := Option.map_eq_some_iff.mp (show (allP (kvs.map (·.2))).map (PV.dT (kvs.map (·.1))) = some x from h)
          rw [Rep]
          exact ⟨a, us, rfl, nb, .inl g1, g2, g3, by rw [← allP_len h1, List.length_map]; exact g4, RepL.imp back_k (mRepL_toP (mg := ⟨mg, none⟩) h1 g5)⟩
        | ins C fs =>
          obtain ⟨dx, Ca, us, g1, g2, g3, g4, g5, g6, g7⟩ := ro
          obtain ⟨ys, h1, rfl⟩ := Option.map_eq_some_iff.mp (show (allP (fs.map (·.2))).map (PV.ins C (fs.map (·.1))) = some x from h)
          rw [Rep]
          exact ⟨a, dx, Ca, us, rfl, nb, fun b => g1 (Wd.back_bad b), g2, g3, g4, g5, by rw [← allP_len h1, List.length_map]; exact g6, RepL.imp back_k (mRepL_toP (mg := ⟨mg, none⟩) h1 g7)⟩
      · cases h
    · cases h
  · cases h
theorem start_env {w : Wd} {H : Hp} {N : List Str} {ds : List MV} {vs : List V} (r : MRepL mg w H ds vs) : EnvR ⟨mg, none⟩ w H (ds.map some ++ List.replicate (N.length - ds.length) none) (L2.start N vs) := by
  unfold L2.start
  refine ⟨by simp [r.len], fun i v h => ?_, fun g hg => nomatch hg⟩
  by_cases hi : i < ds.length
  · rw [List.getElem?_append_left (by simpa using hi), List.getElem?_map] at h
    obtain ⟨x, h1, h2⟩ := Option.map_eq_some_iff.mp h
    cases h2
    obtain ⟨u, hu, ru⟩ := r.get h1
    exact ⟨u, by rw [List.getElem?_append_left (by simpa [r.len] using hi), List.getElem?_map, hu]; rfl, ru⟩
  · rw [List.getElem?_append_right (by simpa using hi), List.getElem?_replicate] at h
    split at h
    · cases h
    · cases h
/-- what the body makes of the entry, told as what the def makes of it -/
theorem def_fin {w : Wd} {H : Hp} {s : S} {np ns : Nat} {mb : ST} {ds : List MV} {E : XK} {Q : VK} (hr : HR mg w s H) (hl : ds.length = np) (c : CE mg (MRep mg) E w H (defM np ns mb ds s) Q) :
    CS ⟨mg, none⟩ (fun cls d _ H => E cls d H) w H (mb (ds.map some ++ List.replicate (ns - np) none) s) { nx := fun _ H' => Q .non H', rt := Q } := by
  unfold defM at c
  rw [if_pos hl] at c
  cases hq : mb (ds.map some ++ List.replicate (ns - np) none) s with
  | no => rw [hq] at c; exact c
  | bk ρ s' => rw [hq] at c; exact c.elim
  | ct ρ s' => rw [hq] at c; exact c.elim
  | nx ρ s' =>
    rw [hq] at c
    intro w' σ' H' e' hr' env'
    obtain ⟨w2, e2, hr2, _, _⟩ := HR.back hr e' hr'
    exact c w2 .non H' e2 hr2 (show Rep mg _ _ _ _ by rw [Rep])
  | rt v s' =>
    rw [hq] at c
    intro w' x H' e' hr' r'
    have c1 : CE mg (MRep mg) E w H (retC s v s') Q := c
    unfold retC at c1
    split at c1
    · rename_i hv
      obtain ⟨w2, e2, hr2, _, k⟩ := HR.back hr e' hr'
      exact c1 w2 x H' e2 hr2 (k v x (MV.lt_P hv) r')
    · split at c1
      · rename_i y hy
        split at c1
        · rename_i hd
          unfold S.back at c1
          rw [if_pos hd] at c1
          exact c1 (w.back w') x H' e'.back (hr.drop e' hr' hd) (frz_rep hr e' hr' r' hy)
        · exact c1 w' x H' e' hr' r'
      · exact c1 w' x H' e' hr' r'
  | exc cc f x ρ s' =>
    rw [hq] at c
    intro w' cls d σ' H' e' hr' env' xr
    obtain ⟨w2, e2, hr2, nb, k⟩ := HR.back hr e' hr'
    refine c w2 cls d H' e2 hr2 ?_
    obtain ⟨C, dd, v, h1, h2, h3, h4, h5, h6⟩ := xr
    exact ⟨C, dd, v, h1, h2, h3, fun b => h4 (nb _ b), h5, k (.p x) v trivial h6⟩
theorem defM_ar {np ns : Nat} {mb : ST} : ∀ ds s, ds.length ≠ np → defM np ns mb ds s = .no := fun ds s h => by unfold defM; rw [if_neg h]
theorem Fun.lk {K : PySem.W.Frag} {x qual : Str} {st : Stmt} {f : Addr} {fd : FuncData} (o : Fun K x qual st f fd) : ∃ oc od osl, K.lookup f = some ⟨oc, od, .func fd, osl⟩ := by
  obtain ⟨oc, od, kV, doc, pm, an, cdv, ct, osl, _, lk, _⟩ := o.ex
  exact ⟨oc, od, osl, lk⟩
/-- a def by its text -/
theorem fnM_of {P : Program} {w : World} {K : PySem.W.Frag} {base : Heap} {x qual : Str} {st : Stmt} {f : Addr} {fd : FuncData} {N ps : List Str} {k ns : Nat} {mb : ST} (o : Fun K x qual st f fd) (S0 : FnScope N ps (defScope st)) (hm : mg x = some (.ref f)) (hb0 : Binds K fd ps []) (hns : N.length = ns)
    (hb : ∀ (cdv : Value) (B : Around) (up : List PySem.Env) (z : Shared) (H : Hp) (E : XK), Room k (B.deeper (envOfC qual (defScope st) z.heap.objs.size f cdv)) → (B.deeper (envOfC qual (defScope st) z.heap.objs.size f cdv)).guards = some [] →
      PSs (cxOf (L2.CX P w) P w K mg base N qual (defScope st) f cdv B up z H E) (defBody st) (tMS ⟨mg, none⟩ (fun cls d _ H => E cls d H) mb)) : FnM P w K mg base (k + 1) x ps (defM ps.length ns mb) := by
  subst hns
  refine ⟨⟨f, fd, okGX o S0 spM_len fun cdv B up z H vs Q E room gd hsp => ?_, hm, o.kp, hb0, Fun.lk o⟩, defM_ar⟩
  obtain ⟨w, s, ds, hr, ra, hl, c⟩ := hsp
  refine ⟨_, hb cdv B up z H E room gd, w, _, s, ?_, hr, def_fin hr hl c⟩
  rw [← hl]
  exact start_env ra
/-- a def that is not called at this depth -/
theorem fnM_none {P : Program} {w : World} {K : PySem.W.Frag} {base : Heap} {x qual : Str} {st : Stmt} {f : Addr} {fd : FuncData} {N ps : List Str} {k : Nat} (o : Fun K x qual st f fd) (S0 : FnScope N ps (defScope st)) (hm : mg x = some (.ref f)) (hb0 : Binds K fd ps []) : FnM P w K mg base (k + 1) x ps noDef := by
  refine ⟨⟨f, fd, okGX o S0 spM_len fun cdv B up z H vs Q E room gd hsp => ?_, hm, o.kp, hb0, Fun.lk o⟩, fun _ _ _ => rfl⟩
  obtain ⟨w, s, ds, hr, ra, hl, c⟩ := hsp
  exact c.elim
end
end MP

/-! ## MBlt -/
set_option Elab.async false
set_option linter.all false
set_option maxRecDepth 100000
set_option maxHeartbeats 2000000
/-! MP: built-in functions -/
namespace MP
open PySem PySem.Spec PyProof.Rows L2 AK
section
variable {X : Cx} {mg : Gm} {W : WX} {K : PySem.W.Frag} {e a b c : Expr} {es : List Expr} {pos : Pos} {k : Nat}
theorem es_cb {r : List V → Hp → VK → Prop} {g : DefV} {ma : E (List MV)} (sim : SimCall mg r g) (h : PE X e (tCB r (tML mg W ma))) : PE X e (tM mg W (unL g ma)) := pe_imp h fun _ _ _ q => unL_to sim q
def one (f : MV → S → Res MV) : DefV := fun vs s => match vs with
  | [a] => f a s
  | _ => .no
theorem sim_one {r : List V → Hp → VK → Prop} {f : MV → S → Res MV} (h : ∀ w s H a x X Q, HR mg w s H → MRep mg w H a x → CE mg (MRep mg) X w H (f a s) Q → r [x] H Q) : SimCall mg r (one f) := fun w s H as xs X Q hr r c => by
  cases as with
  | nil => exact c.elim
  | cons a t => cases t with
    | nil => obtain ⟨u, _, e, r1, r2⟩ := r; subst r2; subst e; exact h w s H a u X Q hr r1 c
    | cons => exact c.elim
/-! len -/
def lenV : DefV := one fun a s => match a with
  | .p (.tup xs) => .ok (.p (.int xs.length)) s
  | .p (.lst xs) => .ok (.p (.int xs.length)) s
  | .p (.str z) => if z.length ≤ 16777216 then .ok (.p (.int z.length)) s else .no
  | .o n => match s.h[n]? with
    | some (some (.lst xs)) => .ok (.p (.int xs.length)) s
    | some (some (.dK xs)) => .ok (.p (.int xs.length)) s
    | some (some (.dT xs)) => .ok (.p (.int xs.length)) s
    | _ => .no
  | _ => .no
def rLenDK : List V → Hp → VK → Prop := fun xs H Q => ∃ a kvs, xs = [V.ref a] ∧ H a = some (.dK kvs) ∧ Q (.int kvs.length) H
def rLenA (K : PySem.W.Frag) : List V → Hp → VK → Prop := fun xs H Q => rLenS K xs H Q ∨ rLenStr xs H Q ∨ rLenDK xs H Q ∨ rLenT xs H Q
theorem cr_lenA : CallR X (.builtin "len") (rLenA X.K) := cr_or2 call_len_seq (cr_or2 call_len_str (cr_or2 call_lenD call_len_dT))
theorem okI {w : Wd} {H : Hp} {s : S} {X : XK} {i : Int} {Q : VK} (h : CE mg (MRep mg) X w H (.ok (.p (.int i)) s) Q) (hr : HR mg w s H) : Q (.int i) H := h w _ H (Ext.refl _ _) hr (show Rep mg _ _ _ _ by rw [Rep])
theorem okS {w : Wd} {H : Hp} {s : S} {X : XK} {i : Str} {Q : VK} (h : CE mg (MRep mg) X w H (.ok (.p (.str i)) s) Q) (hr : HR mg w s H) : Q (.str i) H := h w _ H (Ext.refl _ _) hr (show Rep mg _ _ _ _ by rw [Rep])
theorem sim_len : SimCall mg (rLenA K) lenV := sim_one fun w s H a x X Q hr ra c => by
  split at c
  · obtain ⟨p, us, rfl, _, hp, _, ru⟩ := m_tup ra
    exact .inl ⟨p, us, rfl, .inr (SqT.of hp), by rw [ru.len]; exact okI c hr⟩
  · obtain ⟨p, us, rfl, _, hp, _, ru⟩ := m_lst ra
    exact .inl ⟨p, us, rfl, .inl (SqL.of hp), by rw [ru.len]; exact okI c hr⟩
  · split at c
    · rename_i z hz
      obtain rfl := m_str ra
      exact .inr (.inl ⟨z, rfl, szl hz, okI c hr⟩)
    · exact c.elim
  · split at c
    · rename_i n xs hx
      obtain ⟨p, rfl, _, ⟨us, h1, h2, h3⟩, _⟩ := hr.addr hx ra
      exact .inl ⟨p, us, rfl, .inl (SqL.of h1), by rw [h3.len]; exact okI c hr⟩
    · rename_i n xs hx
      obtain ⟨p, rfl, _, ⟨us, h1, h2, h3⟩, _⟩ := hr.addr hx ra
      have e : us.length = xs.length := by have := congrArg List.length h2; simpa using this
      exact .inr (.inr (.inl ⟨p, us, rfl, h1, by rw [e]; exact okI c hr⟩))
    · rename_i n xs hx
      obtain ⟨p, rfl, _, ⟨us, h1, h2, h3⟩, _⟩ := hr.addr hx ra
      have e : us.length = xs.length := by have := congrArg List.length h2; simpa using this
      exact .inr (.inr (.inr ⟨p, us, rfl, h1, by rw [e]; exact okI c hr⟩))
    · exact c.elim
  · exact c.elim
/-! isinstance with a built-in type -/
inductive Tg where | N | B | I | S | T | L | D
  deriving DecidableEq
def Tg.str : Tg → String
  | .N => "NoneType" | .B => "bool" | .I => "int" | .S => "str" | .T => "tuple" | .L => "list" | .D => "dict"
def tagP : PV → Option Tg
  | .non => some .N | .bl _ => some .B | .int _ => some .I | .str _ => some .S | .tup _ => some .T | .lst _ => some .L | .dK _ _ => some .D | _ => none
def tagO : Option (Option MO) → Option Tg
  | some (some (.lst _)) => some .L
  | some (some (.dK _)) => some .D
  | some (some (.dT _)) => some .D
  | _ => none
def tagM (s : S) : MV → Option Tg
  | .p x => tagP x
  | .o n => tagO s.h[n]?
  | .g => none
def Tg.is (T t : Tg) : Bool := decide (t = T) || (decide (t = .B) && decide (T = .I))
theorem kit_tag : ∀ (t T : Tg), T ≠ .N → kitB t.str T.str = some (T.is t) := by
  intro t T
  cases t <;> cases T <;> first | (intro h; exact absurd rfl h) | (intro _; decide +kernel)
def isaV (T : Tg) : Op1 := fun a s => match tagM s a with
  | some t => .ok (.p (.bl (T.is t))) s
  | none => .no
def isaE (T : Tg) (m : E MV) : E MV := un (isaV T) m
theorem tag_is {w : Wd} {H : Hp} {s : S} {a : MV} {v : V} {t : Tg} (hr : HR mg w s H) (r : MRep mg w H a v) (h : tagM s a = some t) : TyX K H v (.type t.str) := by
  cases a with
  | g => cases h
  | p x =>
    have r' : Rep mg w.bad H x v := r
    cases x with
    | non => cases h; rw [Rep] at r'; subst r'; exact .base .non
    | bl b => cases h; rw [Rep] at r'; subst r'; exact .base (.bl b)
    | int b => cases h; rw [Rep] at r'; subst r'; exact .base (.int b)
    | str b => cases h; rw [Rep] at r'; subst r'; exact .base (.str b)
    | tup xs => cases h; rw [Rep] at r'; obtain ⟨a, us, rfl, _, h2, _⟩ := r'; exact .base (.tup h2)
    | lst xs => cases h; rw [Rep] at r'; obtain ⟨a, us, rfl, _, h2, _⟩ := r'; exact .base (.lst h2)
    | dK ks vs =>
      cases h
      rw [Rep] at r'
      obtain ⟨a, us, rfl, _, h2, _⟩ := r'
      rcases h2 with h2 | ⟨o, h2⟩
      · exact .base (.dK h2)
      · exact .fDict h2
    | _ => cases h
  | o n =>
    have h' : tagO s.h[n]? = some t := h
    cases e : s.h[n]? with
    | none => rw [e] at h'; cases h'
    | some q => cases q with
      | none => rw [e] at h'; cases h'
      | some m =>
        obtain ⟨p, rfl, _, o1, _⟩ := hr.addr e r
        rw [e] at h'
        cases m with
        | lst xs => cases h'; obtain ⟨us, h1, _⟩ := o1; exact .base (.lst h1)
        | dK kvs => cases h'; obtain ⟨us, h1, _⟩ := o1; exact .base (.dK h1)
        | dT kvs => cases h'; obtain ⟨us, h1, _⟩ := o1; exact .base (.dT h1)
        | _ => cases h'
theorem es_isa {T : Tg} {m : E MV} (h : PE X e (tCB (rIs K) (tCons (tM mg W m) (tCons (tC (.ty T.str)) tNil)))) (hT : T ≠ .N := by decide) : PE X e (tM mg W (isaE T m)) := pe_imp h fun σ H Q ⟨w, ρ, s, env, hr, c⟩ => by
  refine ⟨w, ρ, s, env, hr, (CE.bind (R := MRep mg) (r := m ρ s) c).mono fun x H1 ⟨a, s1, w1, e1, hr1, ra, c1⟩ => ?_⟩
  have c2 : CE mg (MRep mg) (fun c d H => W c d σ H) w1 H1 (isaV T a s1) Q := c1
  unfold isaV at c2
  split at c2
  · rename_i t ht
    exact ⟨x, t.str, T.str, T.is t, rfl, tag_is hr1 ra ht, kit_tag t T hT, okB c2 hr1⟩
  · exact c2.elim
/-! int, abs, tuple, list -/
def b2z (b : Bool) : Int := if b then 1 else 0
def intV : DefV := one fun a s => match a with
  | .p (.int i) => .ok (.p (.int i)) s
  | .p (.bl b) => .ok (.p (.int (b2z b))) s
  | _ => .no
theorem sim_int : SimCall mg rInt1 intV := sim_one fun w s H a x X Q hr ra c => by
  split at c
  · exact .inl ⟨_, by rw [m_int ra], okI c hr⟩
  · exact .inr ⟨_, by rw [m_bl ra], okI c hr⟩
  · exact c.elim
def absV : DefV := one fun a s => match a with
  | .p (.int i) => .ok (.p (.int (if i < 0 then -i else i))) s
  | _ => .no
theorem sim_abs : SimCall mg rAbs absV := sim_one fun w s H a x X Q hr ra c => by
  split at c
  · exact ⟨_, by rw [m_int ra], okI c hr⟩
  · exact c.elim
def tupV : DefV := one fun a s => match a with
  | .p (.tup xs) => .ok (.p (.tup xs)) s
  | a => match seqL s a with
    | some xs => .ok (.p (.tup xs)) s
    | none => .no
theorem sim_tup : SimCall mg (rTupOf K) tupV := sim_one fun w s H a x X Q hr ra c => by
  split at c
  · obtain ⟨p, us, rfl, _, hp, _, ru⟩ := m_tup ra
    exact ⟨p, us, rfl, .inr ⟨SqT.of hp, c.okP hr ra⟩⟩
  · split at c
    · rename_i xs hx
      obtain ⟨p, us, rfl, hp, hz, ru⟩ := seqL_rep hr ra hx
      exact ⟨p, us, rfl, .inl ⟨SqL.of hp, c.newT hr hz ru⟩⟩
    · exact c.elim
/-- the items of a sequence -/
def seqA (s : S) (a : MV) : Option (List PV) := match a with
  | .p (.tup xs) => some xs
  | a => seqL s a
theorem seqA_rep {w : Wd} {s : S} {H : Hp} {a : MV} {v : V} {xs : List PV} (hr : HR mg w s H) (r : MRep mg w H a v) (h : seqA s a = some xs) : ∃ p us, v = .ref p ∧ (SqL K H p us ∨ SqT K H p us) ∧ xs.length ≤ sizeLine ∧ RepL mg w.bad H xs us := by
  unfold seqA at h
  split at h
  · cases h
    obtain ⟨p, us, e, _, hp, hz, ru⟩ := m_tup r
    exact ⟨p, us, e, .inr (SqT.of hp), hz, ru⟩
  · obtain ⟨p, us, e, hp, hz, ru⟩ := seqL_rep hr r h
    exact ⟨p, us, e, .inl (SqL.of hp), hz, ru⟩
def listV : DefV := one fun a s => match seqA s a with
  | some xs => .ok (.p (.lst xs)) s
  | none => .no
def listO : DefV := one fun a s => match seqA s a with
  | some xs => .ok (.o s.h.length) (s.new (.lst (xs.map MV.p)))
  | none => .no
theorem sim_list : SimCall mg (rListOf K) listV := sim_one fun w s H a x X Q hr ra c => by
  split at c
  · rename_i xs hx
    obtain ⟨p, us, rfl, hp, hz, ru⟩ := seqA_rep (K := K) hr ra hx
    exact ⟨p, us, rfl, hp, c.newL hr hz ru⟩
  · exact c.elim
theorem sim_listO : SimCall mg (rListOf K) listO := sim_one fun w s H a x X Q hr ra c => by
  split at c
  · rename_i xs hx
    obtain ⟨p, us, rfl, hp, hz, ru⟩ := seqA_rep (K := K) hr ra hx
    exact ⟨p, us, rfl, hp, c.newO hr (by rw [List.length_map]; exact hz) (MRepL.ofP ru)⟩
  · exact c.elim
/-! sum, any, all, max, min, sorted of lists -/
def asBools : List PV → Option (List Bool)
  | [] => some []
  | .bl i :: t => (asBools t).map (i :: ·)
  | _ :: _ => none
theorem asBools_eq : ∀ {xs : List PV} {ns : List Bool}, asBools xs = some ns → xs = ns.map PV.bl
  | [], ns, h => by cases h; rfl
  | x :: t, ns, h => by
    cases x with
    | bl i =>
      have h' : (asBools t).map (i :: ·) = some ns := h
      obtain ⟨ms, h1, rfl⟩ := Option.map_eq_some_iff.mp h'
      rw [asBools_eq h1]; rfl
    | _ => cases h
theorem asBools_map : ∀ (ns : List Bool), asBools (ns.map PV.bl) = some ns
  | [] => rfl
  | n :: t => by show (asBools (t.map PV.bl)).map (n :: ·) = _; rw [asBools_map t]; rfl
def asStrs : List PV → Option (List Str)
  | [] => some []
  | .str i :: t => (asStrs t).map (i :: ·)
  | _ :: _ => none
theorem asStrs_eq : ∀ {xs : List PV} {ns : List Str}, asStrs xs = some ns → xs = ns.map PV.str
  | [], ns, h => by cases h; rfl
  | x :: t, ns, h => by
    cases x with
    | str i =>
      have h' : (asStrs t).map (i :: ·) = some ns := h
      obtain ⟨ms, h1, rfl⟩ := Option.map_eq_some_iff.mp h'
      rw [asStrs_eq h1]; rfl
    | _ => cases h
theorem asStrs_map : ∀ (ns : List Str), asStrs (ns.map PV.str) = some ns
  | [] => rfl
  | n :: t => by show (asStrs (t.map PV.str)).map (n :: ·) = _; rw [asStrs_map t]; rfl
abbrev asInts := ordV.asInts
/-- a def of the ints of a list -/
def onInts (f : List Int → Option PV) : DefV := one fun a s => match (seqL s a).bind asInts with
  | some ns => match f ns with
    | some r => .ok (.p r) s
    | none => .no
  | none => .no
def onBools (f : List Bool → Bool) : DefV := one fun a s => match (seqL s a).bind asBools with
  | some ns => .ok (.p (.bl (f ns))) s
  | none => .no
theorem ints_at {w : Wd} {s : S} {H : Hp} {a : MV} {v : V} {ns : List Int} (hr : HR mg w s H) (r : MRep mg w H a v) (h : (seqL s a).bind asInts = some ns) : ∃ p, v = .ref p ∧ SqL K H p (ns.map V.int) ∧ ns.length ≤ sizeLine := by
  obtain ⟨xs, h1, h2⟩ := Option.bind_eq_some_iff.mp h
  obtain rfl := asInts_eq h2
  obtain ⟨p, us, e, hp, hz, ru⟩ := seqL_rep hr r h1
  rw [ru.ints] at hp
  exact ⟨p, e, SqL.of hp, by simpa using hz⟩
theorem bools_at {w : Wd} {s : S} {H : Hp} {a : MV} {v : V} {ns : List Bool} (hr : HR mg w s H) (r : MRep mg w H a v) (h : (seqL s a).bind asBools = some ns) : ∃ p, v = .ref p ∧ SqL K H p (ns.map V.bl) := by
  obtain ⟨xs, h1, h2⟩ := Option.bind_eq_some_iff.mp h
  obtain rfl := asBools_eq h2
  obtain ⟨p, us, e, hp, hz, ru⟩ := seqL_rep hr r h1
  rw [ru.bools] at hp
  exact ⟨p, e, SqL.of hp⟩
theorem strs_at {w : Wd} {s : S} {H : Hp} {a : MV} {v : V} {ns : List Str} (hr : HR mg w s H) (r : MRep mg w H a v) (h : (seqL s a).bind asStrs = some ns) : ∃ p, v = .ref p ∧ SqL K H p (ns.map V.str) ∧ ns.length ≤ sizeLine := by
  obtain ⟨xs, h1, h2⟩ := Option.bind_eq_some_iff.mp h
  obtain rfl := asStrs_eq h2
  obtain ⟨p, us, e, hp, hz, ru⟩ := seqL_rep hr r h1
  rw [ru.strs] at hp
  exact ⟨p, e, SqL.of hp, by simpa using hz⟩
def sumV : DefV := onInts fun ns => some (.int ns.sum)
theorem sim_sum : SimCall mg (rSum K) sumV := sim_one fun w s H a x X Q hr ra c => by
  split at c
  · rename_i ns h
    obtain ⟨p, rfl, hs, _⟩ := ints_at (K := K) hr ra h
    exact ⟨p, ns, rfl, hs, okI c hr⟩
  · exact c.elim
def anyV : DefV := onBools fun bs => bs.any id
def allV : DefV := onBools fun bs => bs.all id
theorem sim_any : SimCall mg (rAny K) anyV := sim_one fun w s H a x X Q hr ra c => by
  split at c
  · rename_i ns h
    obtain ⟨p, rfl, hs⟩ := bools_at (K := K) hr ra h
    exact ⟨p, ns, rfl, hs, okB c hr⟩
  · exact c.elim
theorem sim_all : SimCall mg (rAll K) allV := sim_one fun w s H a x X Q hr ra c => by
  split at c
  · rename_i ns h
    obtain ⟨p, rfl, hs⟩ := bools_at (K := K) hr ra h
    exact ⟨p, ns, rfl, hs, okB c hr⟩
  · exact c.elim
/-- the greatest, the least of some -/
def maxL : Int → List Int → Int
  | m, [] => m
  | m, x :: t => maxL (if m < x then x else m) t
def minL : Int → List Int → Int
  | m, [] => m
  | m, x :: t => minL (if x < m then x else m) t
theorem maxL_spec : ∀ (t : List Int) (m : Int), (maxL m t = m ∨ maxL m t ∈ t) ∧ m ≤ maxL m t ∧ ∀ y ∈ t, y ≤ maxL m t
  | [], m => ⟨.inl rfl, Int.le_refl _, fun y h => absurd h List.not_mem_nil⟩
  | x :: t, m => by
    unfold maxL
    obtain ⟨h1, h2, h3⟩ := maxL_spec t (if m < x then x else m)
    split at h1 <;> split at h2 <;> try omega
    · rename_i h _
      rw [if_pos h] at h3 ⊢
      refine ⟨.inr ?_, by omega, fun y hy => ?_⟩
      · rcases h1 with h1 | h1
        · rw [h1]; exact List.mem_cons_self
        · exact List.mem_cons_of_mem _ h1
      · rcases List.mem_cons.mp hy with rfl | hy
        · exact h2
        · exact h3 y hy
    · rename_i h _
      rw [if_neg h] at h3 ⊢
      refine ⟨?_, h2, fun y hy => ?_⟩
      · rcases h1 with h1 | h1
        · exact .inl h1
        · exact .inr (List.mem_cons_of_mem _ h1)
      · rcases List.mem_cons.mp hy with rfl | hy
        · omega
        · exact h3 y hy
theorem minL_spec : ∀ (t : List Int) (m : Int), (minL m t = m ∨ minL m t ∈ t) ∧ minL m t ≤ m ∧ ∀ y ∈ t, minL m t ≤ y
  | [], m => ⟨.inl rfl, Int.le_refl _, fun y h => absurd h List.not_mem_nil⟩
  | x :: t, m => by
    unfold minL
    obtain ⟨h1, h2, h3⟩ := minL_spec t (if x < m then x else m)
    split at h1 <;> split at h2 <;> try omega
    · rename_i h _
      rw [if_pos h] at h3 ⊢
      refine ⟨.inr ?_, by omega, fun y hy => ?_⟩
      · rcases h1 with h1 | h1
        · rw [h1]; exact List.mem_cons_self
        · exact List.mem_cons_of_mem _ h1
      · rcases List.mem_cons.mp hy with rfl | hy
        · exact h2
        · exact h3 y hy
    · rename_i h _
      rw [if_neg h] at h3 ⊢
      refine ⟨?_, h2, fun y hy => ?_⟩
      · rcases h1 with h1 | h1
        · exact .inl h1
        · exact .inr (List.mem_cons_of_mem _ h1)
      · rcases List.mem_cons.mp hy with rfl | hy
        · omega
        · exact h3 y hy
def maxO : List Int → Option PV
  | [] => none
  | x :: t => some (.int (maxL x t))
def minO : List Int → Option PV
  | [] => none
  | x :: t => some (.int (minL x t))
def maxV : DefV := onInts maxO
def minV : DefV := onInts minO
theorem sim_max : SimCall mg (rMax K) maxV := sim_one fun w s H a x X Q hr ra c => by
  split at c
  · rename_i ns h
    obtain ⟨p, rfl, hs, _⟩ := ints_at (K := K) hr ra h
    split at c
    · rename_i r hm
      cases ns with
      | nil => cases hm
      | cons y t =>
        cases hm
        obtain ⟨h1, h2, h3⟩ := maxL_spec t y
        refine ⟨p, y :: t, rfl, hs, Nat.succ_pos _, fun m hm hall => ?_⟩
        have e : m = maxL y t := by
          have a1 : maxL y t ≤ m := by
            rcases h1 with h1 | h1
            · rw [h1]; exact hall y List.mem_cons_self
            · exact hall _ (List.mem_cons_of_mem _ h1)
          have a2 : m ≤ maxL y t := by
            rcases List.mem_cons.mp hm with rfl | hm
            · exact h2
            · exact h3 m hm
          omega
        subst e
        exact okI c hr
    · exact c.elim
  · exact c.elim
theorem sim_min : SimCall mg (rMin K) minV := sim_one fun w s H a x X Q hr ra c => by
  split at c
  · rename_i ns h
    obtain ⟨p, rfl, hs, _⟩ := ints_at (K := K) hr ra h
    split at c
    · rename_i r hm
      cases ns with
      | nil => cases hm
      | cons y t =>
        cases hm
        obtain ⟨h1, h2, h3⟩ := minL_spec t y
        refine ⟨p, y :: t, rfl, hs, Nat.succ_pos _, fun m hm hall => ?_⟩
        have e : m = minL y t := by
          have a1 : m ≤ minL y t := by
            rcases h1 with h1 | h1
            · rw [h1]; exact hall y List.mem_cons_self
            · exact hall _ (List.mem_cons_of_mem _ h1)
          have a2 : minL y t ≤ m := by
            rcases List.mem_cons.mp hm with rfl | hm
            · exact h2
            · exact h3 m hm
          omega
        subst e
        exact okI c hr
    · exact c.elim
  · exact c.elim
def two (f : Int → Int → Int) : DefV := fun vs s => match vs with
  | [.p (.int i), .p (.int j)] => .ok (.p (.int (f i j))) s
  | _ => .no
def max2 (i j : Int) : Int := if j > i then j else i
def min2 (i j : Int) : Int := if j < i then j else i
theorem sim_two {f : Int → Int → Int} : SimCall mg (fun xs H Q => ∃ i j, xs = [.int i, .int j] ∧ Q (.int (f i j)) H) (two f) := fun w s H as xs X Q hr r c => by
  unfold two at c
  split at c
  · obtain ⟨u, _, e, r1, v, t, e', r2, r3⟩ := r
    subst r3; subst e'; subst e
    exact ⟨_, _, by rw [m_int r1, m_int r2], okI c hr⟩
  · exact c.elim
def sortI (ns : List Int) : List Int := ns.mergeSort fun a b => decide (a ≤ b)
def strLe (a b : Str) : Bool := !strLt b a
def sortZ (ns : List Str) : List Str := ns.mergeSort strLe
theorem sortI_perm (ns : List Int) : (sortI ns).Perm ns := List.mergeSort_perm _ _
theorem sortI_le (ns : List Int) : (sortI ns).Pairwise (· ≤ ·) := by
  have h := List.pairwise_mergeSort (le := fun a b : Int => decide (a ≤ b)) (fun a b c h1 h2 => by simp only [decide_eq_true_eq] at *; omega) (fun a b => by simp only [Bool.or_eq_true, decide_eq_true_eq]; omega) ns
  exact h.imp fun h => of_decide_eq_true h
theorem sortI_eq {ns ms : List Int} (hp : ms.Perm ns) (hs : ms.Pairwise (· ≤ ·)) : ms = sortI ns :=
  List.Perm.eq_of_pairwise (fun a b _ _ p q => Int.le_antisymm p q) hs (sortI_le ns) (hp.trans (sortI_perm ns).symm)
end
end MP

/-! ## MOps -/
set_option Elab.async false
set_option linter.all false
set_option maxRecDepth 100000
set_option maxHeartbeats 2000000
/-! MP: times; methods of lists; join, sorted, index -/
namespace MP
open PySem PySem.Spec PyProof.Rows L2 AK
theorem tuple_mulS (l : Addr) (items : Array Value) (n : Nat) (dd : Option Addr) (sl : Array (Option Value)) (x : Int) (u : Tok) (c0 : (decide (x < -(2 ^ 63)) || decide (x ≥ 2 ^ 63)) = false) (c1 : (items.isEmpty || x == 1) = true) :
    Meets (Builtin.«tuple.__mul__» ⟨[.ref l, .int x u], []⟩) (fun _ R s => s.heap.get? l = some { cls := .type "tuple", dict := dd, data := .seq items n, slots := sl } ∧
      R (.ok (.ret (Value.ref l))) s) :=
  .of_wp fun prog w A R s h => by
    obtain ⟨hp, g, d, tk, os⟩ := s
    obtain ⟨hl, h⟩ := h
    have f1 := AutoSeq1.idx_int
    wp_walk using wpAny_loadPart' hl
    repeat (first
      | (refine wpAny_ite_false (decide_eq_false (by rw [c0]; exact Bool.false_ne_true)) ?_; wp_walk using wpAny_loadPart' hl)
      | (refine wpAny_ite_true (decide_eq_true c1) ?_; wp_walk using wpAny_loadPart' hl))
    exact ⟨_, rfl, h⟩
theorem tuple_mulN (l : Addr) (items : Array Value) (n : Nat) (dd : Option Addr) (sl : Array (Option Value)) (x : Int) (u : Tok) (c0 : (decide (x < -(2 ^ 63)) || decide (x ≥ 2 ^ 63)) = false) (c1 : (items.isEmpty || x == 1) = false) (c2 : (decide (x ≤ 0) || items.isEmpty) = true) :
    Meets (Builtin.«tuple.__mul__» ⟨[.ref l, .int x u], []⟩) (fun _ R s => s.heap.get? l = some { cls := .type "tuple", dict := dd, data := .seq items n, slots := sl } ∧
      R (.ok (.ret (Value.ref s.heap.objs.size))) { s with heap := s.heap.push { cls := Value.type "tuple", data := Data.seq #[] }, toks := s.toks }) :=
  .of_wp fun prog w A R s h => by
    obtain ⟨hp, g, d, tk, os⟩ := s
    obtain ⟨hl, h⟩ := h
    have f1 := AutoSeq1.idx_int
    wp_walk using wpAny_loadPart' hl
    repeat (first
      | (refine wpAny_ite_false (decide_eq_false (by rw [c0]; exact Bool.false_ne_true)) ?_; wp_walk using wpAny_loadPart' hl)
      | (refine wpAny_ite_false (decide_eq_false (by rw [c1]; exact Bool.false_ne_true)) ?_; wp_walk using wpAny_loadPart' hl)
      | (refine wpAny_ite_true (decide_eq_true c2) ?_; wp_walk using wpAny_loadPart' hl))
    exact ⟨_, rfl, h⟩
/-- t * k, k at most 1000, t of at most 1000 items -/
def rRepA (K : PySem.W.Frag) : R2 := fun x y H Q => ∃ (l : Addr) (k : Int) (xs : List V), x = .ref l ∧ y = .int k ∧ SqT K H l xs ∧ -1000 ≤ k ∧ k ≤ 1000 ∧ xs.length ≤ 1000 ∧
  ((xs = [] ∨ k = 1) → Q (.ref l) H) ∧ (¬ (xs = [] ∨ k = 1) → ∀ p, H p = none → Q (.ref p) (upd H p (.tup (List.replicate k.toNat xs).flatten)))
theorem op_repA {X : Cx} : OpR X (binaryOp .Mult) (rRepA X.K) := by
  intro pins s σ H x y v u Q I rx ry h
  obtain ⟨l, k, xs, rfl, rfl, hT, h1, h2, hz, q1, q2⟩ := h
  by_cases hk : 2 ≤ k ∧ xs ≠ []
  · exact op_repT pins s σ H _ _ v u Q I rx ry ⟨l, k, xs, rfl, rfl, hT, hk.2, hk.1, h2, hz, q2 (fun z => z.elim hk.2 (by omega))⟩
  · cases rx
    obtain ⟨t, rfl⟩ := ry
    obtain ⟨its, r, ⟨⟨cls, dd, data, sl⟩, ho, hc, n, hd⟩, hs⟩ := I.tuple hT
    simp only at hc hd
    subst hc hd
    have c0 : (decide (k < -(2 ^ 63)) || decide (k ≥ 2 ^ 63)) = false := by rw [decide_eq_false (by omega), decide_eq_false (by omega)] <;> rfl
    have hle : its.length = xs.length := r.length.symm
    by_cases hc : xs = [] ∨ k = 1
    · have c1 : (its.toArray.isEmpty || k == 1) = true := by
        rcases hc with rfl | rfl
        · have : its = [] := List.eq_nil_of_length_eq_zero hle
          subst this; rfl
        · simp
      refine wpAny_binaryOp_repeat_ref (T := "tuple") (U := "int") (by decide) ⟨_, ho, rfl⟩ (fun s' => typeIs_int s' k t) noFill_tuple_mul F.fills_int_mul F.slot_int_rmul repeat_tuple F.slot_int_index.lookup
        (call_meets F.slot_int_rmul (typeIs_int s k t) F.entry_int_rmul (F.args_int_rmul_2 _ _) (int_rmul_tuple k t l its.toArray n dd sl)
          ⟨ho, rfl, ⟨_, ho, rfl⟩, call_meets F.slot_tuple_mul ⟨_, ho, rfl⟩ F.entry_tuple_mul (F.args_tuple_mul_2 _ _) (tuple_mulS l its.toArray n dd sl k t c0 c1) ⟨ho, ?_⟩⟩)
      exact ⟨.ref l, H, I, rfl, q1 hc⟩
    · have hk0 : k ≤ 0 := by
        by_cases z : xs = []
        · exact absurd (.inl z) hc
        · have : ¬ 2 ≤ k := fun y => hk ⟨y, z⟩
          have : k ≠ 1 := fun y => hc (.inr y)
          omega
      have hne : its ≠ [] := fun e => hc (.inl (List.eq_nil_of_length_eq_zero (by rw [← hle, e]; rfl)))
      have c1 : (its.toArray.isEmpty || k == 1) = false := by
        have e1 : its.toArray.isEmpty = false := by cases its with
          | nil => exact absurd rfl hne
          | cons a b => rfl
        rw [e1, Bool.false_or]
        exact beq_eq_false_iff_ne.mpr (by omega)
      have c2 : (decide (k ≤ 0) || its.toArray.isEmpty) = true := by rw [decide_eq_true hk0, Bool.true_or]
      refine wpAny_binaryOp_repeat_ref (T := "tuple") (U := "int") (by decide) ⟨_, ho, rfl⟩ (fun s' => typeIs_int s' k t) noFill_tuple_mul F.fills_int_mul F.slot_int_rmul repeat_tuple F.slot_int_index.lookup
        (call_meets F.slot_int_rmul (typeIs_int s k t) F.entry_int_rmul (F.args_int_rmul_2 _ _) (int_rmul_tuple k t l its.toArray n dd sl)
          ⟨ho, rfl, ⟨_, ho, rfl⟩, call_meets F.slot_tuple_mul ⟨_, ho, rfl⟩ F.entry_tuple_mul (F.args_tuple_mul_2 _ _) (tuple_mulN l its.toArray n dd sl k t c0 c1 c2) ⟨ho, ?_⟩⟩)
      refine ⟨.ref s.heap.objs.size, _, I.laid (t' := s.toks) (o := .tup (List.replicate k.toNat xs).flatten) (fun b ob q => Heap.get?_push_of_some _ q) (Nat.le_refl _) ?_, rfl, q2 hc _ (I.hok.fresh (Nat.le_refl _))⟩
      have e0 : k.toNat = 0 := by omega
      rw [e0]
      exact ⟨Nat.zero_le _, [], .nil, IsTup.new _ _⟩
/-- text * k -/
def repZ (z : Str) (k : Int) : Str := ⟨(List.replicate k.toNat z.cps).foldl (· ++ ·) #[]⟩
def rRepZ : R2 := fun x y H Q => ∃ (z : Str) (k : Int), x = .str z ∧ y = .int k ∧ -1000 ≤ k ∧ k ≤ 1000 ∧ z.length ≤ 1000 ∧ Q (.str (repZ z k)) H
theorem foldl_size {α : Type} (z : Array α) : ∀ (n : Nat) (a : Array α), ((List.replicate n z).foldl (· ++ ·) a).size = a.size + n * z.size
  | 0, a => by simp
  | n + 1, a => by rw [List.replicate_succ, List.foldl_cons, foldl_size z n, Array.size_append, Nat.add_mul]; omega
theorem foldl_emp {α : Type} : ∀ (n : Nat), ((List.replicate n (#[] : Array α)).foldl (· ++ ·) #[]) = #[]
  | 0 => rfl
  | n + 1 => by rw [List.replicate_succ, List.foldl_cons, show (#[] : Array α) ++ #[] = #[] from rfl, foldl_emp n]
theorem op_repZ {X : Cx} : OpR X (binaryOp .Mult) rRepZ := by
  intro pins s σ H x y v u Q I rx ry h
  obtain ⟨z, k, rfl, rfl, h1, h2, hz, q⟩ := h
  obtain ⟨t, rfl⟩ := rx
  obtain ⟨t', rfl⟩ := ry
  have hm : z.length * k.toNat ≤ 1000 * 1000 := Nat.mul_le_mul hz (by omega)
  refine P.mul_str (by rw [decide_eq_false (by omega), decide_eq_false (by omega)] <;> rfl) (fun hk hh => ?_) (fun hk hh => ?_) ?_
  · have h3 : (1000 : Int) ≤ (2 ^ 63 - 1) / k := by
      rw [Int.le_ediv_iff_mul_le (by omega)]
      have : (1000 : Int) * k ≤ 1000 * 1000 := Int.mul_le_mul_of_nonneg_left (by omega) (by omega)
      omega
    omega
  · unfold Builtin.Str.tooLong
    rw [sizeLine_eq]
    exact decide_eq_false (by omega)
  · by_cases hk : k < 1
    · rw [if_pos hk]
      have e : repZ z k = Str.empty := by unfold repZ; rw [show k.toNat = 0 by omega]; rfl
      rw [e] at q
      exact ⟨by decide, ⟨.str Str.empty, H, I.tok _, ⟨_, rfl⟩, q⟩⟩
    · rw [if_neg hk]
      by_cases hh : (k == 1 || z.length == 0) = true
      · rw [if_pos hh]
        have e : repZ z k = z := by
          unfold repZ
          rcases Bool.or_eq_true_iff.mp hh with h | h
          · have : k = 1 := by simpa using h
            subst this
            show (⟨#[] ++ z.cps⟩ : Str) = z
            rw [Array.empty_append]
          · have : z.length = 0 := by simpa using h
            have e0 : z.cps = #[] := Array.eq_empty_of_size_eq_zero this
            rw [e0, foldl_emp]
            cases z
            subst e0
            rfl
        rw [e] at q
        exact ⟨.str z, H, I, ⟨_, rfl⟩, q⟩
      · rw [if_neg hh]
        refine ⟨?_, ⟨.str (repZ z k), H, I.tok _, ⟨_, rfl⟩, q⟩⟩
        show ((List.replicate k.toNat z.cps).foldl (· ++ ·) #[]).size ≤ sizeLine
        rw [foldl_size, sizeLine_eq]
        have : (#[] : Array Nat).size = 0 := rfl
        have e2 : z.length = z.cps.size := rfl
        have : k.toNat * z.cps.size = z.length * k.toNat := by rw [e2, Nat.mul_comm]
        simp
        omega
def rMulA (K : PySem.W.Frag) : R2 := fun x y H Q => rI CMulW (fun i j => .int (i * j)) x y H Q ∨ rRep x y H Q ∨ rRepA K x y H Q ∨ rRepZ x y H Q
theorem op_mulA {X : Cx} : OpR X (binaryOp .Mult) (rMulA X.K) := op_or2 op_mulW (op_or2 op_rep (op_or2 op_repA op_repZ))
end MP

/-! ## MOps2 -/
set_option Elab.async false
set_option linter.all false
set_option maxRecDepth 100000
set_option maxHeartbeats 2000000
/-! MP: times, methods, join, sorted, index, as programs -/
namespace MP
open PySem PySem.Spec PyProof.Rows L2 AK
section
variable {X : Cx} {mg : Gm} {W : WX} {K : PySem.W.Frag} {e a b c o : Expr} {es : List Expr} {st : Stmt} {pos apos cpos : Pos} {k : Nat}
/-! ## * -/
def mkLs (xs : List PV) (s : S) : Res MV := .ok (.p (.lst xs)) s
def mkOs (xs : List PV) (s : S) : Res MV := .ok (.o s.h.length) (s.new (.lst (xs.map MV.p)))
variable (mg) in
def NewOk (mk : List PV → S → Res MV) : Prop := ∀ w s H (Y : XK) (Q : VK) (xs : List PV) (us : List V), HR mg w s H → xs.length ≤ sizeLine → RepL mg w.bad H xs us → CE mg (MRep mg) Y w H (mk xs s) Q → ∀ p, H p = none → Q (.ref p) (upd H p (.lst us))
theorem new_Ls : NewOk mg mkLs := fun w s H Y Q xs us hr hz r c => c.newL hr hz r
theorem new_Os : NewOk mg mkOs := fun w s H Y Q xs us hr hz r c => c.newO hr (by rw [List.length_map]; exact hz) (MRepL.ofP r)
def repL (xs : List PV) (k : Int) : List PV := (List.replicate k.toNat xs).flatten
theorem repL_len (xs : List PV) (k : Int) : (repL xs k).length = k.toNat * xs.length := by unfold repL; rw [PyProof.Rows.lm_len_rep_flat]
theorem RepL.rep {B : Addr → Prop} {H : Hp} {xs : List PV} {us : List V} (h : RepL mg B H xs us) : ∀ n : Nat, RepL mg B H (List.replicate n xs).flatten (List.replicate n us).flatten
  | 0 => RepL.nil
  | n + 1 => by rw [List.replicate_succ, List.replicate_succ, List.flatten_cons, List.flatten_cons]; exact h.append (RepL.rep h n)
def mulV (mk : List PV → S → Res MV) : Op2 := fun a b s => match a, b with
  | .p (.int i), .p (.int j) => if i.natAbs.log2 + j.natAbs.log2 < 1000000 then .ok (.p (.int (i * j))) s else .no
  | .p (.str z), .p (.int j) => if -1000 ≤ j ∧ j ≤ 1000 ∧ z.length ≤ 1000 then .ok (.p (.str (repZ z j))) s else .no
  | .p (.tup xs), .p (.int j) => if -1000 ≤ j ∧ j ≤ 1000 ∧ xs.length ≤ 1000 then .ok (.p (.tup (repL xs j))) s else .no
  | a, .p (.int j) => match seqL s a with
    | some xs => if -1000 ≤ j ∧ j ≤ 1000 ∧ xs.length ≤ 1000 then mk (repL xs j) s else .no
    | none => .no
  | _, _ => .no
theorem sim_mul {mk : List PV → S → Res MV} (hk : NewOk mg mk) : SimOp mg (rMulA K) (mulV mk) := fun w s H a b x y X Q hr ra rb c => by
  have hlen : ∀ (xs : List PV) (j : Int), j ≤ 1000 → xs.length ≤ 1000 → (repL xs j).length ≤ sizeLine := fun xs j h2 h3 => by
    rw [repL_len, sizeLine_eq]
    have := Nat.mul_le_mul (show j.toNat ≤ 1000 by omega) h3
    omega
  unfold mulV at c
  split at c
  · split at c
    · rename_i i j h
      exact .inl ⟨i, j, m_int ra, m_int rb, h, c.okP hr (by rw [Rep])⟩
    · exact c.elim
  · split at c
    · rename_i z j h
      exact .inr (.inr (.inr ⟨z, j, m_str ra, m_int rb, h.1, h.2.1, h.2.2, c.okP hr (by rw [Rep])⟩))
    · exact c.elim
  · split at c
    · rename_i xs j h
      obtain ⟨p, us, rfl, np, hp, hz, rp⟩ := m_tup ra
      refine .inr (.inr (.inl ⟨p, j, us, rfl, m_int rb, SqT.of hp, h.1, h.2.1, by rw [rp.len]; exact h.2.2, fun hc => ?_, fun hc => ?_⟩))
      · have e : repL xs j = xs := by
          unfold repL
          rcases hc with hc | hc
          · have : xs = [] := List.eq_nil_of_length_eq_zero (by rw [← rp.len, hc]; rfl)
            subst this; simp
          · subst hc; simp
        rw [e] at c
        exact c.okP hr ra
      · exact c.newT hr (hlen xs j h.2.1 h.2.2) (rp.rep j.toNat)
    · exact c.elim
  · split at c
    · rename_i xs hx
      split at c
      · rename_i h
        obtain ⟨p, us, rfl, hp, hz, rp⟩ := seqL_rep hr ra hx
        rename_i j _ _ _ _
        refine .inr (.inl ⟨p, j, us, rfl, m_int rb, hp, by omega, by omega, ?_, hk _ _ _ _ _ _ _ hr (hlen xs j h.2.1 h.2.2) (rp.rep j.toNat) c⟩)
        rw [rp.len, sizeLine_eq]
        have := Nat.mul_le_mul h.2.2 (show j.toNat ≤ 1000 by omega)
        omega
      · exact c.elim
    · exact c.elim
  · exact c.elim
theorem es_mul {ma mb : E MV} (ha : PE X a (tM mg W ma)) (hb : PE X b (tM mg W mb)) : PE X (.BinOp a .Mult b pos) (tM mg W (bin (mulV mkLs) ma mb)) := es_bin (pe_op op_mulA ha hb) (sim_mul new_Ls)
theorem es_mulO {ma mb : E MV} (ha : PE X a (tM mg W ma)) (hb : PE X b (tM mg W mb)) : PE X (.BinOp a .Mult b pos) (tM mg W (bin (mulV mkOs) ma mb)) := es_bin (pe_op op_mulA ha hb) (sim_mul new_Os)
theorem es_addO_l {xs ys : List PV} : True := trivial
/-! ## methods of lists -/
abbrev OpM := MV → List MV → S → Res MV
/-- what an object is, before its method's arguments are looked at -/
def isLst (a : MV) (s : S) : Bool := match a with
  | .p (.lst _) => true
  | .o n => match s.h[n]? with
    | some (some (.lst _)) => true
    | _ => false
  | _ => false
def isStr (a : MV) : Bool := match a with
  | .p (.str _) => true
  | _ => false
def methE (g : OpM) (mo : E MV) (ma : E (List MV)) : E MV := bind mo fun o ρ s => if isLst o s = true then bind ma (fun as => lift (g o as)) ρ s else .no
variable (mg) in
def SimM (r : V → List V → Hp → VK → Prop) (g : OpM) : Prop := ∀ w s H o as x xs X Q, HR mg w s H → MRep mg w H o x → MRepL mg w H as xs → CE mg (MRep mg) X w H (g o as s) Q → r x xs H Q
theorem isLst_ty {w : Wd} {s : S} {H : Hp} {a : MV} {v : V} (hr : HR mg w s H) (r : MRep mg w H a v) (h : isLst a s = true) : tyV K "list" v H := by
  unfold isLst at h
  split at h
  · obtain ⟨p, us, rfl, _, hp, _, _⟩ := m_lst r
    exact .inl ⟨rfl, us, SqL.of hp⟩
  · split at h
    · rename_i hx
      obtain ⟨p, rfl, _, ⟨us, hp, _⟩, _⟩ := hr.addr hx r
      exact .inl ⟨rfl, us, SqL.of hp⟩
    · cases h
  · cases h
theorem es_bm {r : V → List V → Hp → VK → Prop} {g : OpM} {mo : E MV} {ma : E (List MV)} (sim : SimM mg r g) (h : PE X e (tBM K "list" r (tM mg W mo) (tML mg W ma))) : PE X e (tM mg W (methE g mo ma)) := pe_imp h fun σ H Q ⟨w, ρ, s, env, hr, c⟩ => by
  refine ⟨w, ρ, s, env, hr, (CE.bind (R := MRep mg) (r := mo ρ s) c).mono fun x H1 ⟨a, s1, w1, e1, hr1, ra, c1⟩ => ?_⟩
  have c2 : CE mg (MRep mg) (fun c d H => W c d σ H) w1 H1 (if isLst a s1 = true then bind ma (fun as => lift (g a as)) ρ s1 else .no) Q := c1
  split at c2
  · rename_i hl
    refine ⟨isLst_ty hr1 ra hl, w1, ρ, s1, env.ext e1, hr1, (CE.bind (R := MRepL mg) (r := ma ρ s1) c2).mono fun xs H2 ⟨as, s2, w2, e2, hr2, rs, c3⟩ => ?_⟩
    exact sim _ _ _ _ _ _ _ _ _ hr2 (ra.ext e2) rs c3
  · exact c2.elim
theorem es_bm0 {r : V → List V → Hp → VK → Prop} {g : OpM} {mo : E MV} (sim : SimM mg r g) (h : PE X e (tBM0 K "list" r (tM mg W mo))) : PE X e (tM mg W (methE g mo nilE)) := pe_imp h fun σ H Q ⟨w, ρ, s, env, hr, c⟩ => by
  refine ⟨w, ρ, s, env, hr, (CE.bind (R := MRep mg) (r := mo ρ s) c).mono fun x H1 ⟨a, s1, w1, e1, hr1, ra, c1⟩ => ?_⟩
  have c2 : CE mg (MRep mg) (fun c d H => W c d σ H) w1 H1 (if isLst a s1 = true then bind nilE (fun as => lift (g a as)) ρ s1 else .no) Q := c1
  split at c2
  · rename_i hl
    exact ⟨isLst_ty hr1 ra hl, sim w1 s1 H1 a [] x [] (fun c d H => W c d σ H) Q hr1 ra rfl c2⟩
  · exact c2.elim
def appV : OpM := fun o as s => match o, as with
  | .o n, [x] => match s.h[n]? with
    | some (some (.lst xs)) => if xs.length < 16777216 then .ok (.p .non) (s.put n (.lst (xs ++ [x]))) else .no
    | _ => .no
  | _, _ => .no
theorem okN {w : Wd} {H : Hp} {s : S} {X : XK} {Q : VK} (h : CE mg (MRep mg) X w H (.ok (.p .non) s) Q) (w' : Wd) (H' : Hp) (e : Ext w H w' H') (hr : HR mg w' s H') : Q .non H' := h w' _ H' e hr (show Rep mg _ _ _ _ by rw [Rep])
theorem sim_app : SimM mg rAppend appV := fun w s H o as x xs X Q hr ro rs c => by
  unfold appV at c
  split at c
  · split at c
    · rename_i n y _ zs hx
      split at c
      · rename_i hl
        obtain ⟨p, rfl, hp, ⟨us, h1, h2, h3⟩, hb⟩ := hr.addr hx ro
        obtain ⟨v, _, rfl, r1, r2⟩ := rs
        subst r2
        have e := Ext.write hr hp (.lst (us ++ [v]))
        refine ⟨p, us, v, rfl, rfl, h1, by rw [h3.len, sizeLine_eq]; exact hl, okN c w _ e (hr.write hx hp ⟨_, upd_same, by rw [List.length_append, sizeLine_eq]; exact hl, (h3.snoc r1).ext e⟩)⟩
      · exact c.elim
    · exact c.elim
  · exact c.elim
def popV : OpM := fun o as s => match o, as with
  | .o n, [] => match s.h[n]? with
    | some (some (.lst xs)) => match xs.getLast? with
      | some y => .ok y (s.put n (.lst xs.dropLast))
      | none => .no
    | _ => .no
  | _, _ => .no
theorem MRepL.take {w : Wd} {H : Hp} {xs : List MV} {us : List V} (h : MRepL mg w H xs us) (n : Nat) : MRepL mg w H (xs.take n) (us.take n) := MRepL.of (by simp [h.len]) fun i x u h1 h2 => by
  rw [List.getElem?_take] at h1 h2
  split at h1
  · rename_i q; rw [if_pos q] at h2; exact h.at h1 h2
  · cases h1
theorem MRepL.drop {w : Wd} {H : Hp} {xs : List MV} {us : List V} (h : MRepL mg w H xs us) (n : Nat) : MRepL mg w H (xs.drop n) (us.drop n) := MRepL.of (by simp [h.len]) fun i x u h1 h2 => by
  rw [List.getElem?_drop] at h1 h2
  exact h.at h1 h2
theorem sim_pop : SimM mg rPop popV := fun w s H o as x xs X Q hr ro rs c => by
  unfold popV at c
  split at c
  · split at c
    · rename_i n _ zs hx
      split at c
      · rename_i y hy
        obtain ⟨p, rfl, hp, ⟨us, h1, h2, h3⟩, hb⟩ := hr.addr hx ro
        have rs' : xs = [] := rs
        subst rs'
        rw [List.getLast?_eq_getElem?] at hy
        obtain ⟨u, hu, ru⟩ := h3.get hy
        have e := Ext.write hr hp (.lst us.dropLast)
        refine ⟨p, us, u, rfl, rfl, h1, by rw [h3.len]; exact hu, c w u _ e (hr.write hx hp ⟨_, upd_same, by rw [List.length_dropLast]; omega, ?_⟩) (ru.ext e)⟩
        have e2 : us.dropLast = us.take (zs.length - 1) := by rw [List.dropLast_eq_take, h3.len]
        rw [List.dropLast_eq_take (l := zs)]
        refine MRepL.ext e ?_
        rw [e2]
        exact h3.take _
      · exact c.elim
    · exact c.elim
  · exact c.elim
def popAtV : OpM := fun o as s => match o, as with
  | .o n, [.p (.int i)] => match s.h[n]? with
    | some (some (.lst xs)) => if 0 ≤ i ∧ i < 16777217 then match xs[i.toNat]? with
      | some y => .ok y (s.put n (.lst (xs.eraseIdx i.toNat)))
      | none => .no
      else .no
    | _ => .no
  | _, _ => .no
theorem MRepL.erase {w : Wd} {H : Hp} {xs : List MV} {us : List V} (h : MRepL mg w H xs us) (n : Nat) : MRepL mg w H (xs.eraseIdx n) (us.eraseIdx n) := by
  rw [List.eraseIdx_eq_take_drop_succ, List.eraseIdx_eq_take_drop_succ]
  exact (h.take _).append (h.drop _)
theorem sim_popAt : SimM mg rPopAt popAtV := fun w s H o as x xs X Q hr ro rs c => by
  unfold popAtV at c
  split at c
  · split at c
    · rename_i n i _ zs hx
      split at c
      · rename_i hi
        split at c
        · rename_i y hy
          obtain ⟨p, rfl, hp, ⟨us, h1, h2, h3⟩, hb⟩ := hr.addr hx ro
          obtain ⟨v, _, rfl, r1, r2⟩ := rs
          subst r2
          obtain rfl := m_int r1
          obtain ⟨u, hu, ru⟩ := h3.get hy
          have e := Ext.write hr hp (.lst (us.eraseIdx i.toNat))
          have hk : i.toNat < us.length := (List.getElem?_eq_some_iff.mp hu).1
          refine ⟨p, us, i, i.toNat, u, rfl, rfl, h1, by omega, by omega, ?_, hu, c w u _ e (hr.write hx hp ⟨_, upd_same, ?_, (h3.erase _).ext e⟩) (ru.ext e)⟩
          · unfold seqIndex?
            have g1 : ¬ i < 0 := by omega
            have g2 : (decide (0 ≤ i) && decide (i < (us.length : Int))) = true := by
              rw [Bool.and_eq_true]
              exact ⟨decide_eq_true hi.1, decide_eq_true (by omega)⟩
            simp only [g1, if_false, g2, if_true]
          · have := List.length_eraseIdx_le zs i.toNat
            omega
        · exact c.elim
      · exact c.elim
    · exact c.elim
  · exact c.elim
/-- o.extend(l): the items of a list -/
def itL (s : S) : MV → Option (List MV)
  | .p (.lst xs) => some (xs.map MV.p)
  | .o n => lstO s.h[n]?
  | _ => none
theorem itL_rep {w : Wd} {s : S} {H : Hp} {a : MV} {v : V} {xs : List MV} (hr : HR mg w s H) (r : MRep mg w H a v) (h : itL s a = some xs) : ∃ p us, v = .ref p ∧ H p = some (.lst us) ∧ xs.length ≤ sizeLine ∧ MRepL mg w H xs us := by
  unfold itL at h
  split at h
  · cases h
    obtain ⟨p, us, e, _, hp, hz, ru⟩ := m_lst r
    exact ⟨p, us, e, hp, by rw [List.length_map]; exact hz, MRepL.ofP ru⟩
  · obtain ⟨p, e, _, ⟨us, h1, h2, h3⟩, _⟩ := hr.addr (lstO_eq h) r
    exact ⟨p, us, e, h1, h2, h3⟩
  · cases h
def extV : OpM := fun o as s => match o, as with
  | .o n, [a] => match s.h[n]? with
    | some (some (.lst xs)) => match itL s a with
      | some ys => if xs.length + ys.length ≤ 16777216 then .ok (.p .non) (s.put n (.lst (xs ++ ys))) else .no
      | none => .no
    | _ => .no
  | _, _ => .no
theorem sim_ext : SimM mg rExtend extV := fun w s H o as x xs X Q hr ro rs c => by
  unfold extV at c
  split at c
  · split at c
    · rename_i n y _ zs hx
      split at c
      · rename_i ys hy
        split at c
        · rename_i hl
          obtain ⟨p, rfl, hp, ⟨us, h1, h2, h3⟩, hb⟩ := hr.addr hx ro
          obtain ⟨v, _, rfl, r1, r2⟩ := rs
          subst r2
          obtain ⟨q, vs, rfl, hq, _, rq⟩ := itL_rep hr r1 hy
          have e := Ext.write hr hp (.lst (us ++ vs))
          refine ⟨p, q, us, vs, rfl, rfl, h1, hq, by rw [h3.len, rq.len, sizeLine_eq]; exact hl, okN c w _ e (hr.write hx hp ⟨_, upd_same, by rw [List.length_append, sizeLine_eq]; exact hl, (h3.append rq).ext e⟩)⟩
        · exact c.elim
      · exact c.elim
    · exact c.elim
  · exact c.elim
end
end MP

/-! ## AVec -/
set_option Elab.async false
set_option linter.all false
set_option maxRecDepth 100000
namespace AK
open PySem PySem.Spec PyProof.Rows L2
/-! ## rows of whole numbers, and dicts keyed by them -/
abbrev Vec := List Int
def kOf (k : Vec) : List Key := k.map Sum.inl
theorem kOf_inj {k k' : Vec} (h : kOf k = kOf k') : k = k' := (List.map_inj_right (fun _ _ e => Sum.inl.inj e)).mp h
theorem kV_kOf (k : Vec) : (kOf k).map kV = k.map V.int := by
  unfold kOf
  rw [List.map_map]; rfl
theorem kOf_dec (k k' : Vec) : decide (kOf k = kOf k') = decide (k = k') := decide_eq_decide.mpr ⟨kOf_inj, fun h => by rw [h]⟩
section
variable {β : Type}
def dTo (g : β → V) (kvs : List (Vec × β)) : List (List Key × V) := kvs.map fun p => (kOf p.1, g p.2)
def lookI (kvs : List (Vec × β)) (k : Vec) : Option β := (kvs.find? fun p => decide (p.1 = k)).map (·.2)
theorem valV_dTo (g : β → V) : ∀ (kvs : List (Vec × β)) (k : Vec), valV (dTo g kvs) (kOf k) = (lookI kvs k).map g
  | [], _ => rfl
  | p :: r, k => by
    have ih := valV_dTo g r k
    unfold valV lookI dTo at ih ⊢
    rw [List.map_cons, List.find?_cons, List.find?_cons]
    dsimp only
    rw [kOf_dec]
    by_cases h : p.1 = k
    · rw [decide_eq_true h]; rfl
    · rw [decide_eq_false h]
      exact ih
theorem any_dTo (g : β → V) (k : Vec) : ∀ kvs : List (Vec × β), ((dTo g kvs).any fun kv => decide (kv.1 = kOf k)) = kvs.any fun p => decide (p.1 = k)
  | [] => rfl
  | p :: r => by
    have ih := any_dTo g k r
    unfold dTo at ih ⊢
    rw [List.map_cons, List.any_cons, List.any_cons, ih]
    dsimp only
    rw [kOf_dec]
theorem putK_dToNew (g : β → V) {kvs : List (Vec × β)} {k : Vec} {b : β} (h : lookI kvs k = none) : putK (dTo g kvs) (kOf k) (g b) = dTo g (kvs ++ [(k, b)]) := by
  rw [putK_new _ (by rw [valV_dTo, h]; rfl)]
  unfold dTo
  rw [List.map_append]; rfl
theorem dTo_len (g : β → V) (kvs : List (Vec × β)) : (dTo g kvs).length = kvs.length := List.length_map _
theorem lookI_some {kvs : List (Vec × β)} {k : Vec} {b : β} (h : lookI kvs k = some b) : (k, b) ∈ kvs := by
  unfold lookI at h
  obtain ⟨p, h1, h2⟩ := Option.map_eq_some_iff.mp h
  have h3 := List.find?_some h1
  have h4 := List.mem_of_find?_eq_some h1
  rw [← of_decide_eq_true h3, ← h2]
  exact h4
theorem lookI_none {kvs : List (Vec × β)} {k : Vec} (h : lookI kvs k = none) : ∀ b, (k, b) ∉ kvs := by
  unfold lookI at h
  intro b hb
  have := List.find?_eq_none.mp (Option.map_eq_none_iff.mp h) _ hb
  exact this (decide_eq_true rfl)
end
/-! sets of rows: all values True -/
def stT (ks : List Vec) : List (List Key × V) := dTo (fun _ : Unit => V.bl true) (ks.map fun k => (k, ()))
def ins (ks : List Vec) (k : Vec) : List Vec := if k ∈ ks then ks else ks ++ [k]
theorem stT_len (ks : List Vec) : (stT ks).length = ks.length := by unfold stT; rw [dTo_len, List.length_map]
theorem stT_nil {ks : List Vec} (h : ks ≠ []) : stT ks ≠ [] := fun e => h (List.length_eq_zero_iff.mp (by rw [← stT_len, e]; rfl))
theorem stT_one (k : Vec) : stT [k] = [(kOf k, V.bl true)] := rfl
theorem any_stT (ks : List Vec) (k : Vec) : ((stT ks).any fun kv => decide (kv.1 = kOf k)) = decide (k ∈ ks) := by
  unfold stT
  rw [any_dTo, List.any_map]
  induction ks with
  | nil => rfl
  | cons a r ih =>
    rw [List.any_cons, ih]
    show (decide (a = k) || decide (k ∈ r)) = decide (k ∈ a :: r)
    rw [← Bool.decide_or]
    exact decide_eq_decide.mpr ⟨fun h => by rcases h with rfl | h; exact .head _; exact .tail _ h, fun h => by rcases List.mem_cons.mp h with h | h; exact .inl h.symm; exact .inr h⟩
theorem putK_stT (ks : List Vec) (k : Vec) : putK (stT ks) (kOf k) (.bl true) = stT (ins ks k) := by
  unfold putK ins
  rw [any_stT]
  by_cases h : k ∈ ks
  · rw [if_pos (decide_eq_true h), if_pos h]
    refine (List.map_congr_left fun p hp => ?_).trans (List.map_id _)
    unfold stT dTo at hp
    rw [List.map_map] at hp
    obtain ⟨x, _, rfl⟩ := List.mem_map.mp hp
    show (if _ then _ else _) = _
    split
    · rfl
    · rfl
  · rw [if_neg (by rw [decide_eq_false h]; exact Bool.false_ne_true), if_neg h]
    unfold stT dTo
    rw [List.map_append, List.map_append]; rfl
theorem mergeT_stT : ∀ (ys xs : List Vec), mergeT (stT xs) (stT ys) = stT (ys.foldl ins xs)
  | [], xs => rfl
  | y :: ys, xs => by
    show mergeT (putK (stT xs) (kOf y) (.bl true)) (stT ys) = _
    rw [putK_stT, mergeT_stT ys]; rfl
theorem mem_ins {ks : List Vec} {k z : Vec} : z ∈ ins ks k ↔ z ∈ ks ∨ z = k := by
  unfold ins
  split
  · exact ⟨.inl, fun h => by rcases h with h | rfl; exact h; assumption⟩
  · rw [List.mem_append, List.mem_singleton]
theorem ins_len (ks : List Vec) (k : Vec) : (ins ks k).length ≤ ks.length + 1 := by
  unfold ins
  split
  · omega
  · rw [List.length_append, List.length_singleton]; omega
theorem ins_len' (ks : List Vec) (k : Vec) : ks.length ≤ (ins ks k).length := by
  unfold ins
  split
  · omega
  · rw [List.length_append]; omega
theorem mem_insL {z : Vec} : ∀ {ys ks : List Vec}, z ∈ ys.foldl ins ks ↔ z ∈ ks ∨ z ∈ ys
  | [], ks => by simp
  | y :: ys, ks => by
    rw [List.foldl_cons, mem_insL, mem_ins, List.mem_cons, or_assoc]
theorem insL_len : ∀ (ys ks : List Vec), (ys.foldl ins ks).length ≤ ks.length + ys.length
  | [], ks => by simp
  | y :: ys, ks => by
    rw [List.foldl_cons, List.length_cons]
    have h1 := insL_len ys (ins ks y)
    have h2 := ins_len ks y
    omega
def addV (x y : Vec) : Vec := List.zipWith (· + ·) x y
def sumsL (xs ys : List Vec) : List Vec := (xs.flatMap fun x => ys.map (addV x)).foldl ins []
theorem len_flatMap_const {α β : Type} {f : α → List β} {k : Nat} : ∀ {l : List α}, (∀ x ∈ l, (f x).length = k) → (l.flatMap f).length = l.length * k
  | [], _ => by simp
  | a :: l, h => by
    rw [List.flatMap_cons, List.length_append, len_flatMap_const (fun x hx => h x (List.mem_cons_of_mem _ hx)), h a List.mem_cons_self, List.length_cons, Nat.succ_mul, Nat.add_comm]
theorem sumsL_len (xs ys : List Vec) : (sumsL xs ys).length ≤ xs.length * ys.length := by
  unfold sumsL
  refine Nat.le_trans (insL_len _ _) ?_
  rw [len_flatMap_const (k := ys.length) fun x _ => List.length_map _, List.length_nil]
  omega
theorem mem_sumsL {z : Vec} {xs ys : List Vec} : z ∈ sumsL xs ys ↔ ∃ x ∈ xs, ∃ y ∈ ys, z = addV x y := by
  unfold sumsL
  rw [mem_insL, List.mem_flatMap]
  constructor
  · rintro (h | ⟨x, hx, h⟩)
    · cases h
    · obtain ⟨y, hy, e⟩ := List.mem_map.mp h
      exact ⟨x, hx, y, hy, e.symm⟩
  · rintro ⟨x, hx, y, hy, rfl⟩
    exact .inr ⟨x, hx, List.mem_map_of_mem hy⟩
/-! ## readings about them -/
section
variable {D : Ends} {σ : L2.St} {H : Hp} {Q : VK} {K : PySem.W.Frag}
def rNewD (H : Hp) (Q : VK) : Prop := ∀ p, H p = none → Q (.ref p) (upd H p (.dT []))
theorem v_dnew (q : rNewD H Q) : tDNewT σ H Q := q
theorem v_dnewT (q : ∀ p H', H p = none → Same H H' → H' p = some (.dT []) → Q (.ref p) H') : rNewD H Q := v_new (R := fun p H' => Q (.ref p) H') q
theorem v_dput0 {td ty tv : TE} (q : tv σ H fun v H1 => td σ H1 fun x H2 => ty σ H2 fun y H3 => ∃ a H4, x = .ref a ∧ DPut H3 a y v H4 ∧ D.nx σ H4) : sDPut td ty tv D σ H := q
theorem v_dputT {a b : Addr} {v : V} {kvs : List (List Key × V)} {k : Vec} {R : Hp → Prop} (e : H a = some (.dT kvs)) (eb : H b = some (.tup (k.map V.int))) (hl : kvs.length < 16777216) (q : R (upd H a (.dT (putK kvs (kOf k) v)))) :
    ∃ a' H4, V.ref a = .ref a' ∧ DPut H a' (.ref b) v H4 ∧ R H4 := ⟨a, _, rfl, DPut.t e (by rw [kV_kOf]; exact eb) (by rw [sizeLine_eq]; exact hl), q⟩
theorem v_din0 {td ty : TE} (q : ty σ H fun y H1 => td σ H1 fun x H2 => ∃ a o, x = .ref a ∧ DGet H2 a y o ∧ Q (.bl o.isSome) H2) : tDIn ty td σ H Q := q
theorem v_dinT {β : Type} {g : β → V} {a b : Addr} {kvs : List (Vec × β)} {k : Vec} (e : H a = some (.dT (dTo g kvs))) (eb : H b = some (.tup (k.map V.int))) (q : Q (.bl (lookI kvs k).isSome) H) : ∃ a' o, V.ref a = .ref a' ∧ DGet H a' (.ref b) o ∧ Q (.bl o.isSome) H :=
  ⟨a, _, rfl, DGet.t e (by rw [kV_kOf]; exact eb), by rw [valV_dTo, Option.isSome_map]; exact q⟩
theorem v_dinB {β : Type} {g : β → V} {a b : Addr} {kvs : List (Vec × β)} {k : Vec} {R : Bool → Prop} (e : H a = some (.dT (dTo g kvs))) (eb : H b = some (.tup (k.map V.int))) (q : R (lookI kvs k).isSome) : ∃ a' o, V.ref a = .ref a' ∧ DGet H a' (.ref b) o ∧ ∃ k', V.bl o.isSome = .bl k' ∧ R k' :=
  ⟨a, _, rfl, DGet.t e (by rw [kV_kOf]; exact eb), _, rfl, by rw [valV_dTo, Option.isSome_map]; exact q⟩
theorem v_dgetT {β : Type} {g : β → V} {a b : Addr} {kvs : List (Vec × β)} {k : Vec} {x : β} (e : H a = some (.dT (dTo g kvs))) (eb : H b = some (.tup (k.map V.int))) (hx : lookI kvs k = some x) (q : Q (g x) H) : ∃ a' v, V.ref a = .ref a' ∧ DGet H a' (.ref b) (some v) ∧ Q v H :=
  ⟨a, g x, rfl, by have := DGet.t (H := H) (b := b) (k := kOf k) e (by rw [kV_kOf]; exact eb); rw [valV_dTo, hx] at this; exact this, q⟩
theorem v_dget20 {td ty tx : TE} (q : td σ H fun x H1 => ∃ a, x = .ref a ∧ IsD H1 a ∧ ty σ H1 fun y H2 => tx σ H2 fun z H3 => ∃ o, DGet H3 a y o ∧ Q (o.getD z) H3) : tDGet2 td ty tx σ H Q := q
theorem isDT {a : Addr} {kvs : List (List Key × V)} (e : H a = some (.dT kvs)) : IsD H a := by
  exact .inr ⟨_, .inl e⟩
end
section
variable {K : PySem.W.Frag} {σ : L2.St} {H : Hp} {te : TE} {vs : List Nat} {j : Nat} {Qd : Addr → Hp → Prop}
theorem v_lcRg (r : Rg) (gd : Good r H) {n : Int} (hn0 : 0 ≤ n) (hn : n ≤ 1000000) (f : Nat → V)
    (hw : ∀ x, wipe ((wipe σ vs).set j (some x)) vs = wipe σ vs)
    (hs : ∀ (i : Nat) H2 (Qn : VK), (i : Int) < n → Fr r H H2 → (∀ H3, Fr r H2 H3 → Qn (f i) H3) → te ((wipe σ vs).set j (some (.int (i : Int)))) H2 Qn)
    (hd : ∀ D H2, H D = none → Fr r H H2 → H2 D = some (.lst ((List.range n.toNat).map f)) → Qd D H2) :
    ∃ n' : Int, [V.int n] = [.int n'] ∧ -(2 ^ 62) ≤ n' ∧ n' < 2 ^ 62 ∧ ∀ D, H D = none → ∃ W : Nat → Nat → Hp → Prop, (∃ m, W 0 m (upd H D (.lst []))) ∧ ∀ i m H, W i m H →
      ((Itr 0 n'.toNat).stop i H ∧ Qd D H) ∨ ((Itr 0 n'.toNat).go i H ∧ ∃ Nx : Hp → Prop, (∀ H', Nx H' → ∃ m', m' < m ∧ W (i + 1) m' H') ∧ ∀ x H', (Itr 0 n'.toNat).yld i H x H' → gName j x (wipe σ vs) H' fun σ2 H2 => wipe σ2 vs = wipe σ vs ∧ tYes σ2 H2 fun b H3 =>
        if b = true then te σ2 H3 fun y H4 => ∃ acc, H4 D = some (.lst acc) ∧ acc.length < sizeLine ∧ Nx (upd H4 D (.lst (acc ++ [y]))) else Nx H3) := by
  refine ⟨n, rfl, by omega, by omega, fun D hD => ?_⟩
  refine lc_any (walk_range (lo := 0) (n := n.toNat)) gd hD (fun i v _ => v = f i) (fun _ _ _ _ _ h => h) (by omega) (fun _ _ => trivial) (fun i x H1 H' Qn hi fr hy q => ?_) (fun ys H2 fr e2 hl hr => ?_)
  · obtain ⟨rfl, rfl⟩ := hy
    have e : (0 : Int) + (i : Int) = (i : Int) := Int.zero_add _
    refine ⟨hw _, ?_⟩
    show te ((wipe σ vs).set j (some (.int (0 + (i : Int))))) _ Qn
    rw [e]
    exact hs i _ Qn (by omega) fr fun H3 f3 => q _ H3 f3 rfl
  · refine hd D H2 hD fr ?_
    rw [e2, map_of_at (ys := ys) (xs := List.range n.toNat) (f := f) (by rw [hl, List.length_range]) fun i x y h1 h2 => by
      obtain ⟨h3, h4⟩ := List.getElem?_eq_some_iff.mp h1
      rw [List.getElem_range] at h4
      rw [← h4]; exact hr i y h2]
end
theorem addV_range {x y : Vec} (h : x.length = y.length) : ((List.range x.length).map fun i => V.int (x.getD i 0 + y.getD i 0)) = (addV x y).map V.int := by
  apply List.ext_getElem
  · unfold addV
    rw [List.length_map, List.length_range, List.length_map, List.length_zipWith, h, Nat.min_self]
  · intro i h1 h2
    rw [List.length_map, List.length_range] at h1
    have h3 : i < y.length := by rw [← h]; exact h1
    rw [List.getElem_map, List.getElem_map, List.getElem_range]
    unfold addV
    rw [List.getElem_zipWith]
    simp [List.getD, h1, h3]
/-! ## list(d), d keyed by rows -/
theorem keys_dTo {β : Type} {g : β → V} {H : Hp} : ∀ {kvs : List (Vec × β)} {bs : List Addr}, IsKeys H (dTo g kvs) bs → bs.length = kvs.length ∧ ∀ (i : Nat) (b : Addr), bs[i]? = some b → ∃ q, kvs[i]? = some q ∧ H b = some (.tup (q.1.map V.int))
  | [], bs, h => by
    cases h
    exact ⟨rfl, fun i b h => by simp at h⟩
  | p :: kvs, bs, h => by
    cases h with
    | cons h1 h2 =>
      obtain ⟨e, a⟩ := keys_dTo (kvs := kvs) h2
      refine ⟨congrArg Nat.succ e, fun i b hb => ?_⟩
      cases i with
      | zero =>
        refine ⟨p, rfl, ?_⟩
        have e2 := Option.some.inj hb
        rw [← e2, ← kV_kOf]
        exact h1
      | succ i => exact a i b hb
theorem v_listD {β : Type} {g : β → V} {H : Hp} {Q : VK} {d : Addr} {kvs : List (Vec × β)} (h : H d = some (.dT (dTo g kvs))) (q : ∀ (p : Addr) (bs : List Addr) (H' : Hp), H p = none → Same H H' → H' p = some (.lst (bs.map V.ref)) → bs.length = kvs.length →
    (∀ (i : Nat) (b : Addr), bs[i]? = some b → ∃ q, kvs[i]? = some q ∧ H' b = some (.tup (q.1.map V.int))) → Q (.ref p) H') : rListDT [.ref d] H Q :=
  ⟨d, _, rfl, .inl h, fun p bs hp hk => by
    obtain ⟨e, a⟩ := keys_dTo hk
    have e2 := same_new hp (.lst (bs.map V.ref))
    refine q p bs _ hp e2 upd_same e fun i b hb => ?_
    obtain ⟨q, h1, h2⟩ := a i b hb
    exact ⟨q, h1, e2 _ _ h2⟩⟩
theorem v_listS {H : Hp} {Q : VK} {d : Addr} {ks : List Vec} (h : H d = some (.dT (stT ks))) (q : ∀ (p : Addr) (bs : List Addr) (H' : Hp), H p = none → Same H H' → H' p = some (.lst (bs.map V.ref)) → bs.length = ks.length →
    (∀ (i : Nat) (b : Addr), bs[i]? = some b → ∃ k, ks[i]? = some k ∧ H' b = some (.tup (k.map V.int))) → Q (.ref p) H') : rListDT [.ref d] H Q :=
  v_listD h fun p bs H' h1 h2 h3 h4 h5 => q p bs H' h1 h2 h3 (by rw [h4, List.length_map]) fun i b hb => by
    obtain ⟨x, h6, h7⟩ := h5 i b hb
    rw [List.getElem?_map] at h6
    obtain ⟨k, h8, rfl⟩ := Option.map_eq_some_iff.mp h6
    exact ⟨k, h8, h7⟩
end AK

/-! ## ALaid -/
set_option Elab.async false
set_option linter.all false
set_option maxRecDepth 100000
namespace AK
open PySem PySem.Spec PyProof.Rows L2
/-! ## methods of dicts -/
section
variable {X : Cx} {K : PySem.W.Frag} {e : Expr} {es : List Expr} {t : TA} {pos apos cpos : Pos}
theorem bmD {name : Str} {id : String} {r : V → List V → Hp → VK → Prop} {o : Expr} {to : TE} (slot : Slot "dict" name id) (hty : typeOf (.builtin id) = pure (.type "method_descriptor")) (hK : X.K = K) (hm : MtR X id r) (ho : PE X o to) (ha : PA X (e :: es) t)
    (hbase : attributeBase o name X.env (eval o X.env) = eval o X.env := by rfl)
    (hfew : ((backTo cpos (starEach (e :: es) X.env)).all (fun x => !x.1) && (backToKw cpos (keywordEach [] X.env)).all (fun x => x.1.isSome)
      && decide ((e :: es).length + ([] : List Keyword).length + (if ([] : List Keyword).isEmpty then 0 else 1) < 30)) = true := by rfl)
    (hline : (apos.endLine == cpos.line) = true := by rfl) (hs : starEach (e :: es) X.env = (false, eval e X.env) :: starEach es X.env := by rfl) (hplain : (backTo cpos (starEach es X.env)).any (·.1) = false := by rfl) :
    PE X (.Call (.Attribute o name apos) (e :: es) [] cpos) (tBM K "dict" r to t) := hK ▸ pe_bm PySem.F.plainAttrs_dict slot hty hm ho ha hbase hfew hline hs hplain
end
section
variable {σ : L2.St} {H : Hp} {Q : VK} {K : PySem.W.Frag}
theorem tyD {a : Addr} {kvs : List (List Key × V)} (h : H a = some (.dT kvs)) : tyV K "dict" (.ref a) H := .inr (.inr (.inl ⟨rfl, .inr ⟨_, h⟩⟩))
theorem v_updT {d o : Addr} {xs ys : List Vec} (hd : H d = some (.dT (stT xs))) (ho : H o = some (.dT (stT ys))) (hne : d ≠ o) (h0 : xs ≠ []) (hz : xs.length + ys.length ≤ 1000000) (q : Q .non (upd H d (.dT (stT (ys.foldl ins xs))))) : rUpdT (.ref d) [.ref o] H Q :=
  ⟨d, o, _, _, rfl, rfl, hne, hd, ho, stT_nil h0, by rw [stT_len, stT_len]; exact Nat.le_trans hz (by decide), by rw [mergeT_stT]; exact q⟩
def rDisp1 (k v : TE) : TE := tDisp1T k v
theorem v_disp1 {tk tv : TE} (q : ∀ p H', H p = none → Same H H' → H' p = some (.dT []) → tk σ H' fun x H1 => tv σ H1 fun y H2 => ∃ (b : Addr) (k : List Key), x = .ref b ∧ H2 p = some (.dT []) ∧ H2 b = some (.tup (k.map kV)) ∧ Q (.ref p) (upd H2 p (.dT [(k, y)]))) : tDisp1T tk tv σ H Q :=
  v_new (R := fun p H' => tk σ H' fun x H1 => tv σ H1 fun y H2 => ∃ (b : Addr) (k : List Key), x = .ref b ∧ H2 p = some (.dT []) ∧ H2 b = some (.tup (k.map kV)) ∧ Q (.ref p) (upd H2 p (.dT [(k, y)]))) q
end
theorem v_slT1 {H : Hp} {Q : VK} {K : PySem.W.Frag} {a : Addr} {y : V} {ys : List V} (h : H a = some (.tup (y :: ys))) (q : ∀ p H', H p = none → Same H H' → H' p = some (.tup ys) → Q (.ref p) H') : rSlT K (.ref a) (some 1) none H Q := by
  refine ⟨a, _, rfl, SqT.of h, fun z => ?_, ?_⟩
  · have e := HT.sIx_nat (y :: ys).length 0 1
    rw [show ((1 : Nat) : Int) = 1 from rfl] at e
    rw [e, List.length_cons] at z
    omega
  · have e := cut_drop (y :: ys) 1
    rw [show ((1 : Nat) : Int) = 1 from rfl, List.drop_one, List.tail_cons] at e
    rw [e]
    exact v_new q
theorem v_forT {K : PySem.W.Frag} {σ : L2.St} {H : Hp} {D : Ends} {tb : TS} {j : Nat} {a : Addr} {xs : List V} (hx : H a = some (.tup xs)) (Pv : Nat → L2.St → Hp → Prop) (h0 : Pv 0 σ H) (hG : ∀ i σ H', Pv i σ H' → Imm H H')
    (hs : ∀ i x σ H, xs[i]? = some x → Pv i σ H → tb { D with nx := Pv (i + 1), ct := Pv (i + 1), bk := D.nx } (σ.set j (some x)) H) (hd : ∀ σ H, Pv xs.length σ H → D.nx σ H) :
    ∃ a', V.ref a = .ref a' ∧ (∃ xs, SqT K H a' xs) ∧ ∃ W : Nat → Nat → L2.St → Hp → Prop, (∃ m, W 0 m σ H) ∧ ∀ i m σ H, W i m σ H →
      ((Itt K a').stop i H ∧ D.nx σ H) ∨ ((Itt K a').go i H ∧ ∃ N : L2.St → Hp → Prop, (∀ σ' H', N σ' H' → ∃ m', m' < m ∧ W (i + 1) m' σ' H') ∧ ∀ x H', (Itt K a').yld i H x H' → gName j x σ H' fun σ2 H2 => tb { D with nx := N, ct := N, bk := D.nx } σ2 H2) :=
  ⟨a, rfl, ⟨xs, SqT.of hx⟩, for_it (walk_tup (K := K) (a := a) (xs := xs)) (g := gName j) Pv h0 (fun i σ H' _ q => SqT.of (hG i σ H' q _ _ hx)) (fun i x σ H H' hi q hy => by obtain ⟨rfl, hy⟩ := hy; exact hs i x σ _ hy q) hd⟩
/-! ## the ways laid out, as the law reckons them -/
def powL (z : Vec) (P : List Vec) : Nat → List Vec
  | 0 => [z]
  | k + 1 => sumsL (powL z P k) P
def zeroV (n : Nat) : Vec := List.replicate n 0
mutual
def Fm.laid (nms : List Str) : Fm → List Vec
  | .kind nm => [nms.map fun s => if s = nm then 1 else 0]
  | .many m f => powL (zeroV nms.length) (f.laid nms) m.toNat
  | .node w fs => Fm.laidN nms w fs
def Fm.laidN (nms : List Str) (w : Bool) : List Fm → List Vec
  | [] => []
  | f :: fs => Fm.laidR nms w (f.laid nms) fs
def Fm.laidR (nms : List Str) (w : Bool) (acc : List Vec) : List Fm → List Vec
  | [] => acc
  | f :: fs => Fm.laidR nms w (if w = true then sumsL acc (f.laid nms) else (f.laid nms).foldl ins acc) fs
end
mutual
def Fm.rm : Nat → Fm → Prop
  | r, .kind _ => 1 ≤ r
  | r, .many m f => 2 ≤ m ∧ m ≤ r ∧ f.rm (r / m.toNat)
  | r, .node _ fs => fs ≠ [] ∧ Fm.rmL r fs
def Fm.rmL : Nat → List Fm → Prop
  | _, [] => True
  | r, f :: fs => f.rm r ∧ Fm.rmL r fs
end
theorem Fm.laidR_app (nms : List Str) (w : Bool) : ∀ (as bs : List Fm) (acc : List Vec), Fm.laidR nms w acc (as ++ bs) = Fm.laidR nms w (Fm.laidR nms w acc as) bs
  | [], bs, acc => by rw [List.nil_append, Fm.laidR]
  | f :: fs, bs, acc => by rw [List.cons_append, Fm.laidR, Fm.laidR, Fm.laidR_app]
theorem Fm.laidR_snoc (nms : List Str) (w : Bool) (fs : List Fm) (f : Fm) (acc : List Vec) : Fm.laidR nms w acc (fs ++ [f]) = (if w = true then sumsL (Fm.laidR nms w acc fs) (f.laid nms) else (f.laid nms).foldl ins (Fm.laidR nms w acc fs)) := by
  rw [Fm.laidR_app, Fm.laidR, Fm.laidR]
/-! lengths of rows -/
theorem addV_len {x y : Vec} {n : Nat} (hx : x.length = n) (hy : y.length = n) : (addV x y).length = n := by
  unfold addV
  rw [List.length_zipWith, hx, hy, Nat.min_self]
theorem sumsL_rows {xs ys : List Vec} {n : Nat} (hx : ∀ x ∈ xs, x.length = n) (hy : ∀ x ∈ ys, x.length = n) : ∀ x ∈ sumsL xs ys, x.length = n := fun z hz => by
  obtain ⟨x, h1, y, h2, rfl⟩ := mem_sumsL.mp hz
  exact addV_len (hx x h1) (hy y h2)
theorem insL_rows {xs ys : List Vec} {n : Nat} (hx : ∀ x ∈ xs, x.length = n) (hy : ∀ x ∈ ys, x.length = n) : ∀ x ∈ ys.foldl ins xs, x.length = n := fun z hz => by
  rcases mem_insL.mp hz with h | h
  · exact hx z h
  · exact hy z h
theorem zeroV_len (n : Nat) : (zeroV n).length = n := List.length_replicate
theorem powL_rows {z : Vec} {P : List Vec} {n : Nat} (hz : z.length = n) (hP : ∀ x ∈ P, x.length = n) : ∀ k, ∀ x ∈ powL z P k, x.length = n
  | 0, x, h => by rw [powL] at h; rw [List.mem_singleton.mp h]; exact hz
  | k + 1, x, h => sumsL_rows (powL_rows hz hP k) hP x h
mutual
theorem Fm.laid_rows (nms : List Str) : ∀ (f : Fm), ∀ x ∈ f.laid nms, x.length = nms.length
  | .kind nm, x, h => by
    rw [Fm.laid] at h
    rw [List.mem_singleton.mp h, List.length_map]
  | .many m f, x, h => by
    rw [Fm.laid] at h
    exact powL_rows (zeroV_len _) (Fm.laid_rows nms f) _ x h
  | .node w fs, x, h => by
    rw [Fm.laid] at h
    exact Fm.laidN_rows nms w fs x h
theorem Fm.laidN_rows (nms : List Str) (w : Bool) : ∀ (fs : List Fm), ∀ x ∈ Fm.laidN nms w fs, x.length = nms.length
  | [], x, h => by rw [Fm.laidN] at h; cases h
  | f :: fs, x, h => by
    rw [Fm.laidN] at h
    exact Fm.laidR_rows nms w fs _ (Fm.laid_rows nms f) x h
theorem Fm.laidR_rows (nms : List Str) (w : Bool) : ∀ (fs : List Fm) (acc : List Vec), (∀ x ∈ acc, x.length = nms.length) → ∀ x ∈ Fm.laidR nms w acc fs, x.length = nms.length
  | [], acc, ha, x, h => by rw [Fm.laidR] at h; exact ha x h
  | f :: fs, acc, ha, x, h => by
    rw [Fm.laidR] at h
    refine Fm.laidR_rows nms w fs _ (fun y hy => ?_) x h
    cases w with
    | true => exact sumsL_rows ha (Fm.laid_rows nms f) y hy
    | false => exact insL_rows ha (Fm.laid_rows nms f) y hy
end
/-! how many -/
theorem ne_sumsL {xs ys : List Vec} (hx : xs ≠ []) (hy : ys ≠ []) : sumsL xs ys ≠ [] := by
  obtain ⟨x, r, rfl⟩ := List.exists_cons_of_ne_nil hx
  obtain ⟨y, r', rfl⟩ := List.exists_cons_of_ne_nil hy
  exact List.ne_nil_of_mem (mem_sumsL.mpr ⟨x, .head _, y, .head _, rfl⟩)
theorem ne_insL {xs : List Vec} (ys : List Vec) (hx : xs ≠ []) : ys.foldl ins xs ≠ [] := by
  obtain ⟨x, r, rfl⟩ := List.exists_cons_of_ne_nil hx
  exact List.ne_nil_of_mem (mem_insL.mpr (.inl (.head _)))
theorem ne_powL {z : Vec} {P : List Vec} (hP : P ≠ []) : ∀ k, powL z P k ≠ []
  | 0 => by rw [powL]; exact List.cons_ne_nil _ _
  | k + 1 => ne_sumsL (ne_powL hP k) hP
mutual
theorem Fm.laid_ne (nms : List Str) : ∀ {r : Nat} (f : Fm), f.rm r → f.laid nms ≠ []
  | r, .kind nm, _ => by rw [Fm.laid]; exact List.cons_ne_nil _ _
  | r, .many m f, h => by
    rw [Fm.rm] at h
    rw [Fm.laid]
    exact ne_powL (Fm.laid_ne nms f h.2.2) _
  | r, .node w fs, h => by
    rw [Fm.rm] at h
    rw [Fm.laid]
    exact Fm.laidN_ne nms w fs h.1 h.2
theorem Fm.laidN_ne (nms : List Str) (w : Bool) : ∀ {r : Nat} (fs : List Fm), fs ≠ [] → Fm.rmL r fs → Fm.laidN nms w fs ≠ []
  | r, [], h, _ => absurd rfl h
  | r, f :: fs, _, h => by
    rw [Fm.rmL] at h
    rw [Fm.laidN]
    exact Fm.laidR_ne nms w fs _ (Fm.laid_ne nms f h.1) h.2
theorem Fm.laidR_ne (nms : List Str) (w : Bool) : ∀ {r : Nat} (fs : List Fm) (acc : List Vec), acc ≠ [] → Fm.rmL r fs → Fm.laidR nms w acc fs ≠ []
  | r, [], acc, h, _ => by rw [Fm.laidR]; exact h
  | r, f :: fs, acc, ha, h => by
    rw [Fm.rmL] at h
    rw [Fm.laidR]
    refine Fm.laidR_ne nms w fs _ ?_ h.2
    cases w with
    | true => exact ne_sumsL ha (Fm.laid_ne nms f h.1)
    | false => exact ne_insL _ ha
end
mutual
theorem Fm.names_pos : ∀ {r : Nat} (f : Fm), f.rm r → 1 ≤ f.names.length ∧ 1 ≤ r
  | r, .kind nm, h => by rw [Fm.rm] at h; exact ⟨Nat.le_refl 1, h⟩
  | r, .many m f, h => by
    rw [Fm.rm] at h
    obtain ⟨h1, h2, h3⟩ := h
    rw [Fm.names]
    exact ⟨(Fm.names_pos f h3).1, by omega⟩
  | r, .node w fs, h => by
    rw [Fm.rm] at h
    rw [Fm.names]
    exact Fm.namesL_pos fs h.1 h.2
theorem Fm.namesL_pos : ∀ {r : Nat} (fs : List Fm), fs ≠ [] → Fm.rmL r fs → 1 ≤ (Fm.namesL fs).length ∧ 1 ≤ r
  | r, [], h, _ => absurd rfl h
  | r, f :: fs, _, h => by
    rw [Fm.rmL] at h
    rw [Fm.namesL, List.length_append]
    have := Fm.names_pos f h.1
    omega
end
theorem two_pow_add {a b : Nat} (ha : 1 ≤ a) (hb : 1 ≤ b) : 2 ^ a + 2 ^ b ≤ 2 ^ (a + b) := by
  rw [Nat.pow_add]
  have h1 : 2 ≤ 2 ^ a := Nat.le_trans (Nat.le_refl 2) (Nat.pow_le_pow_right (n := 2) (by decide) ha)
  have h2 : 2 ≤ 2 ^ b := Nat.le_trans (Nat.le_refl 2) (Nat.pow_le_pow_right (n := 2) (by decide) hb)
  generalize 2 ^ a = A at h1
  generalize 2 ^ b = B at h2
  obtain ⟨A', rfl⟩ : ∃ A', A = A' + 2 := ⟨A - 2, by omega⟩
  obtain ⟨B', rfl⟩ : ∃ B', B = B' + 2 := ⟨B - 2, by omega⟩
  rw [Nat.add_mul, Nat.mul_add]
  have : 0 ≤ A' * B' := Nat.zero_le _
  omega
theorem powL_len {z : Vec} {P : List Vec} {c : Nat} (hP : P.length ≤ 2 ^ c) : ∀ k, (powL z P k).length ≤ 2 ^ (c * k)
  | 0 => by rw [powL]; simp
  | k + 1 => by
    rw [powL]
    refine Nat.le_trans (sumsL_len _ _) ?_
    rw [Nat.mul_succ, Nat.pow_add]
    exact Nat.mul_le_mul (powL_len hP k) hP
mutual
theorem Fm.laid_len (nms : List Str) : ∀ {r : Nat} (f : Fm), f.rm r → (f.laid nms).length ≤ 2 ^ (f.names.length * r)
  | r, .kind nm, _ => by rw [Fm.laid]; exact Nat.one_le_two_pow
  | r, .many m f, h => by
    rw [Fm.rm] at h
    rw [Fm.laid, Fm.names]
    refine Nat.le_trans (powL_len (Fm.laid_len nms f h.2.2) _) (Nat.pow_le_pow_right (by decide) ?_)
    rw [Nat.mul_assoc]
    exact Nat.mul_le_mul_left _ (Nat.div_mul_le_self _ _)
  | r, .node w fs, h => by
    rw [Fm.rm] at h
    rw [Fm.laid, Fm.names]
    exact Fm.laidN_len nms w fs h.1 h.2
theorem Fm.laidN_len (nms : List Str) (w : Bool) : ∀ {r : Nat} (fs : List Fm), fs ≠ [] → Fm.rmL r fs → (Fm.laidN nms w fs).length ≤ 2 ^ ((Fm.namesL fs).length * r)
  | r, [], h, _ => absurd rfl h
  | r, f :: fs, _, h => by
    rw [Fm.rmL] at h
    rw [Fm.laidN, Fm.namesL, List.length_append]
    exact Fm.laidR_len nms w fs _ _ (Fm.laid_len nms f h.1) (Fm.names_pos f h.1) h.2
theorem Fm.laidR_len (nms : List Str) (w : Bool) : ∀ {r : Nat} (fs : List Fm) (acc : List Vec) (k : Nat), acc.length ≤ 2 ^ (k * r) → (1 ≤ k ∧ 1 ≤ r) → Fm.rmL r fs → (Fm.laidR nms w acc fs).length ≤ 2 ^ ((k + (Fm.namesL fs).length) * r)
  | r, [], acc, k, h, _, _ => by rw [Fm.laidR]; exact h
  | r, f :: fs, acc, k, ha, hk, h => by
    rw [Fm.rmL] at h
    rw [Fm.laidR, Fm.namesL, List.length_append, ← Nat.add_assoc]
    have h1 := Fm.laid_len nms f h.1
    have h2 := Fm.names_pos f h.1
    refine Fm.laidR_len nms w fs _ _ ?_ ⟨by omega, hk.2⟩ h.2
    rw [Nat.add_mul]
    cases w with
    | true =>
      refine Nat.le_trans (sumsL_len _ _) ?_
      rw [Nat.pow_add]
      exact Nat.mul_le_mul ha h1
    | false =>
      refine Nat.le_trans (insL_len _ _) (Nat.le_trans (Nat.add_le_add ha h1) (two_pow_add (Nat.mul_pos hk.1 hk.2) (Nat.mul_pos h2.1 h2.2)))
end
theorem Fm.rmL_at : ∀ {r : Nat} {fs : List Fm} {f : Fm}, Fm.rmL r fs → f ∈ fs → f.rm r
  | r, [], f, _, h => by cases h
  | r, g :: fs, f, h, m => by
    rw [Fm.rmL] at h
    rcases List.mem_cons.mp m with rfl | m
    · exact h.1
    · exact Fm.rmL_at h.2 m
theorem Fm.rmL_of : ∀ {r : Nat} {fs : List Fm}, (∀ f ∈ fs, f.rm r) → Fm.rmL r fs
  | r, [], _ => by rw [Fm.rmL]; trivial
  | r, g :: fs, h => by
    rw [Fm.rmL]
    exact ⟨h g (.head _), Fm.rmL_of fun f hf => h f (.tail _ hf)⟩
end AK

/-! ## AKnown -/
set_option Elab.async false
set_option linter.all false
set_option maxRecDepth 100000
namespace AK
open PySem PySem.Spec PyProof.Rows L2
/-! ## the sums of so many ways, each with its number -/
def knownL (z : Vec) (W : List Vec) : Nat → List (Vec × Int)
  | 0 => [(z, 0)]
  | k + 1 => knownL z W k ++ (powL z W (k + 1)).map fun x => (x, ((k + 1 : Nat) : Int))
theorem mem_knownL {z : Vec} {W : List Vec} {x : Vec} {j : Int} : ∀ {k : Nat}, (x, j) ∈ knownL z W k ↔ ∃ i : Nat, i ≤ k ∧ j = (i : Int) ∧ x ∈ powL z W i
  | 0 => by
    rw [knownL, List.mem_singleton]
    constructor
    · intro h
      injection h with h1 h2
      exact ⟨0, Nat.le_refl _, by rw [h2]; rfl, by rw [powL, h1]; exact .head _⟩
    · rintro ⟨i, h1, h2, h3⟩
      obtain rfl : i = 0 := by omega
      rw [powL, List.mem_singleton] at h3
      rw [h2, h3]; rfl
  | k + 1 => by
    rw [knownL, List.mem_append, mem_knownL (k := k)]
    constructor
    · rintro (⟨i, h1, h2, h3⟩ | h)
      · exact ⟨i, by omega, h2, h3⟩
      · obtain ⟨y, h1, h2⟩ := List.mem_map.mp h
        injection h2 with h2 h3
        exact ⟨k + 1, Nat.le_refl _, h3.symm, by rw [← h2]; exact h1⟩
    · rintro ⟨i, h1, h2, h3⟩
      by_cases e : i = k + 1
      · subst e
        exact .inr (List.mem_map.mpr ⟨x, h3, by rw [h2]⟩)
      · exact .inl ⟨i, by omega, h2, h3⟩
theorem ins_nodup {ks : List Vec} {k : Vec} (h : ks.Nodup) : (ins ks k).Nodup := by
  unfold ins
  split
  · exact h
  · rename_i hk
    exact List.nodup_append.mpr ⟨h, by simp, fun a ha b hb e => hk (by rw [List.mem_singleton.mp hb] at e; rw [← e]; exact ha)⟩
theorem insL_nodup : ∀ {ys ks : List Vec}, ks.Nodup → (ys.foldl ins ks).Nodup
  | [], _, h => h
  | y :: ys, ks, h => by
    rw [List.foldl_cons]
    exact insL_nodup (ins_nodup h)
theorem sumsL_nodup (xs ys : List Vec) : (sumsL xs ys).Nodup := insL_nodup List.nodup_nil
theorem powL_nodup (z : Vec) (W : List Vec) : ∀ k, (powL z W k).Nodup
  | 0 => by rw [powL]; simp
  | k + 1 => sumsL_nodup _ _
/-- x is the sum of so many ways for one number alone -/
def Uniq (z : Vec) (W : List Vec) : Prop := ∀ x i j, x ∈ powL z W i → x ∈ powL z W j → i = j
theorem known_new {z : Vec} {W : List Vec} (U : Uniq z W) {k j : Nat} {x : Vec} (hx : (powL z W (k + 1))[j]? = some x) :
    lookI (knownL z W k ++ ((powL z W (k + 1)).take j).map fun x => (x, ((k + 1 : Nat) : Int))) x = none := by
  cases e : lookI (knownL z W k ++ ((powL z W (k + 1)).take j).map fun x => (x, ((k + 1 : Nat) : Int))) x with
  | none => rfl
  | some b =>
    exfalso
    have hm := List.mem_of_getElem? hx
    rcases List.mem_append.mp (lookI_some e) with h | h
    · obtain ⟨i, h1, _, h3⟩ := mem_knownL.mp h
      have := U x i (k + 1) h3 hm
      omega
    · obtain ⟨y, h1, h2⟩ := List.mem_map.mp h
      injection h2 with h2 _
      subst h2
      obtain ⟨i, hi, hi2⟩ := List.mem_take_iff_getElem.mp h1
      have hj := List.getElem?_eq_some_iff.mp hx
      obtain ⟨hj1, hj2⟩ := hj
      have := (List.getElem_inj (powL_nodup z W (k + 1))).mp (hi2.trans hj2.symm)
      omega
theorem lookI_known {z : Vec} {W : List Vec} (U : Uniq z W) {k : Nat} {x : Vec} {j : Nat} (hj : j ≤ k) (hx : x ∈ powL z W j) : lookI (knownL z W k) x = some (j : Int) := by
  cases e : lookI (knownL z W k) x with
  | none => exact absurd (mem_knownL.mpr ⟨j, hj, rfl, hx⟩) (lookI_none e _)
  | some b =>
    obtain ⟨i, _, h2, h3⟩ := mem_knownL.mp (lookI_some e)
    rw [h2, U x i j h3 hx]
theorem v_listK {z : Vec} {W : List Vec} (k : Nat) : (knownL z W k).length = ((List.range (k + 1)).map fun j => (powL z W j).length).sum := by
  induction k with
  | zero => rfl
  | succ k ih =>
    rw [knownL, List.length_append, List.length_map, ih, List.range_succ (n := k + 1), List.map_append, List.sum_append]
    simp
/-! range from 1 on -/
theorem v_irng2 {σ : L2.St} {H : Hp} {ta : TA} {R : It → Hp → Prop} (q : ta σ H fun vs H1 => ∃ i j : Int, vs = [.int i, .int j] ∧ (-(2 ^ 62) ≤ i ∧ i < 2 ^ 62 ∧ -(2 ^ 62) ≤ j ∧ j < 2 ^ 62) ∧ R (Itr i (j - i).toNat) H1) : iRng2 ta σ H R := q
theorem v_forR2 {σ : L2.St} {H : Hp} {D : Ends} {tb : TS} {j : Nat} {lo hi : Int} (h1 : -1000000 ≤ lo) (h2 : lo ≤ hi) (h3 : hi ≤ 1000000) (Pv : Nat → L2.St → Hp → Prop) (h0 : Pv 0 σ H)
    (hs : ∀ (i : Nat) σ H, lo + (i : Int) < hi → Pv i σ H → tb { D with nx := Pv (i + 1), ct := Pv (i + 1), bk := D.nx } (σ.set j (some (.int (lo + (i : Int))))) H) (hd : ∀ σ H, Pv (hi - lo).toNat σ H → D.nx σ H) :
    ∃ i' j' : Int, [V.int lo, V.int hi] = [.int i', .int j'] ∧ (-(2 ^ 62) ≤ i' ∧ i' < 2 ^ 62 ∧ -(2 ^ 62) ≤ j' ∧ j' < 2 ^ 62) ∧ ∃ W : Nat → Nat → L2.St → Hp → Prop, (∃ m, W 0 m σ H) ∧ ∀ i m σ H, W i m σ H →
      ((Itr i' (j' - i').toNat).stop i H ∧ D.nx σ H) ∨ ((Itr i' (j' - i').toNat).go i H ∧ ∃ N : L2.St → Hp → Prop, (∀ σ' H', N σ' H' → ∃ m', m' < m ∧ W (i + 1) m' σ' H') ∧ ∀ x H', (Itr i' (j' - i').toNat).yld i H x H' → gName j x σ H' fun σ2 H2 => tb { D with nx := N, ct := N, bk := D.nx } σ2 H2) :=
  ⟨lo, hi, rfl, ⟨by omega, by omega, by omega, by omega⟩, for_it (walk_range (lo := lo) (n := (hi - lo).toNat)) (g := gName j) Pv h0 (fun _ _ _ _ _ => trivial) (fun i x σ H H' hi' q hy => by
    obtain ⟨rfl, rfl⟩ := hy
    exact hs i σ _ (by omega) q) hd⟩
theorem v_par3 {D : Ends} {σ : L2.St} {H : Hp} {i j l : Nat} {ta : TA} (q : ta σ H fun vs H1 => ∃ u v w, vs = [u, v, w] ∧ D.nx (((σ.set i (some u)).set j (some v)).set l (some w)) H1) : tPar3 i j l ta D σ H := q
theorem v_par33 {D : Ends} {σ : L2.St} {H : Hp} {i j l : Nat} {u v w : V} (q : D.nx (((σ.set i (some u)).set j (some v)).set l (some w)) H) : ∃ u' v' w', [u, v, w] = [u', v', w'] ∧ D.nx (((σ.set i (some u')).set j (some v')).set l (some w')) H := ⟨u, v, w, rfl, q⟩
theorem ixN_of {n : Nat} {k : Int} (h0 : 0 ≤ k) (h : k.toNat < n) : ixN n k = some k.toNat := by
  unfold ixN
  rw [if_pos h0, if_pos (by omega)]
end AK

/-! ## ANames -/
set_option Elab.async false
set_option linter.all false
set_option maxRecDepth 100000
namespace AK
open PySem PySem.Spec PyProof.Rows L2
/-! ## texts -/
def rAddSt : R2 := fun x y H Q => ∃ i j, x = .str i ∧ y = .str j ∧ i.length + j.length ≤ sizeLine ∧ Q (.str (i ++ j)) H
theorem op_addSt {X : Cx} : OpR X (binaryOp .Add) rAddSt := op_add_str
section
variable {H : Hp} {Q : VK} {K : PySem.W.Frag} {σ : L2.St}
theorem v_addSt {a b : Str} (h : a.length + b.length ≤ 1000000) (q : Q (.str (a ++ b)) H) : rAddSt (.str a) (.str b) H Q := ⟨a, b, rfl, rfl, Nat.le_trans h (by decide), q⟩
theorem v_ixStr {z : Str} {i : Int} {c : Nat} (h : z.length ≤ 1000000) (h0 : 0 ≤ i) (e : z.cps.toList[i.toNat]? = some c) (q : Q (.str ⟨#[c]⟩) H) : rIxS (.str z) (.int i) H Q := ⟨z, i, c, rfl, rfl, Nat.le_trans h (by decide), atI_int h0 e, q⟩
theorem inV_str (z : Str) : ∀ ns : List Str, inV (.str z) (ns.map V.str) = decide (z ∈ ns)
  | [] => rfl
  | n :: r => by
    have ih := inV_str z r
    unfold inV at ih ⊢
    rw [List.map_cons, List.any_cons, ih]
    show (n == z || decide (z ∈ r)) = decide (z ∈ n :: r)
    by_cases h : n = z
    · rw [h, beq_self_eq_true, Bool.true_or]
      exact (decide_eq_true (List.mem_cons_self (a := z) (l := r))).symm
    · rw [beq_eq_false_iff_ne.mpr h, Bool.false_or]
      exact decide_eq_decide.mpr ⟨fun q => .tail _ q, fun q => by rcases List.mem_cons.mp q with e | e; exact absurd e.symm h; exact e⟩
theorem flat_strs (ns : List Str) : (ns.map V.str).all flatV = true := List.all_eq_true.mpr fun x hx => by
  obtain ⟨s, _, rfl⟩ := List.mem_map.mp hx; rfl
theorem v_inS {a : Addr} {z : Str} {ns : List Str} (h : H a = some (.lst (ns.map V.str))) (q : Q (.bl (decide (z ∈ ns))) H) : rIn K false (.str z) (.ref a) H Q :=
  ⟨a, _, rfl, .inl (SqL.of h), rfl, flat_strs ns, by rw [if_neg Bool.false_ne_true, inV_str]; exact q⟩
theorem v_m1 {r : V → List V → Hp → VK → Prop} {z : Str} {te : TE} (q : te σ H fun y H2 => r (.str z) [y] H2 Q) : tM1 r (tC (.str z)) te σ H Q := ⟨⟨z, rfl⟩, q⟩
theorem cutS_len (z : Str) (k : Nat) : (cutS z none (some (k : Int))).length ≤ k := by
  show (List.toArray _).size ≤ _
  rw [List.size_toArray, List.length_take, HT.sIx_none, HT.sIx_nat]
  omega
/-- ''.join of one-letter texts -/
theorem v_join1 {p : Addr} {ys : List Str} (h : H p = some (.lst (ys.map V.str))) (h1 : ∀ y ∈ ys, y.length = 1) (hl : ys.length ≤ 1000) (q : ∀ z : Str, z.length = ys.length → Q (.str z) H) : rJoin K (.str "") [.ref p] H Q := by
  refine ⟨"", p, ys, rfl, rfl, .inl (SqL.of h), ?_, q _ (PySem.W.KT.join_ones ys h1)⟩
  have e : ys.map (·.length) = List.replicate ys.length 1 := List.eq_replicate_iff.mpr ⟨List.length_map _, fun b hb => by obtain ⟨y, hy, rfl⟩ := List.mem_map.mp hb; exact h1 y hy⟩
  rw [e, List.sum_replicate_nat, show Str.length "" = 0 from rfl]
  omega
end
theorem str_last {a b c d : Str} (h : a ++ b = c ++ d) (h1 : b.length = 1) (h2 : d.length = 1) : b = d := by
  have e : a.cps.toList ++ b.cps.toList = c.cps.toList ++ d.cps.toList := by
    have := congrArg (fun s : Str => s.cps.toList) h
    rwa [show (a ++ b).cps.toList = a.cps.toList ++ b.cps.toList from Array.toList_append, show (c ++ d).cps.toList = c.cps.toList ++ d.cps.toList from Array.toList_append] at this
  have hl : b.cps.toList.length = d.cps.toList.length := by
    rw [Array.length_toList, Array.length_toList]; exact h1.trans h2.symm
  have := (List.append_inj' e hl).2
  have q := Array.toList_inj.mp this
  cases b; cases d; cases q; rfl
theorem nodup_sub {α : Type} [DecidableEq α] : ∀ {S l : List α}, S.Nodup → (∀ x ∈ S, x ∈ l) → S.length ≤ l.length
  | [], l, _, _ => Nat.zero_le _
  | x :: S, l, h, q => by
    obtain ⟨h1, h2⟩ := List.nodup_cons.mp h
    have hx := q x (.head _)
    have ih := nodup_sub (S := S) (l := l.erase x) h2 fun y hy => (List.mem_erase_of_ne (fun z => h1 (by rw [← z]; exact hy))).mpr (q y (.tail _ hy))
    rw [List.length_erase_of_mem hx] at ih
    have := List.length_pos_of_mem hx
    rw [List.length_cons]
    omega
section
variable {K : PySem.W.Frag} {σ : L2.St} {H : Hp} {te : TE} {vs : List Nat} {j : Nat} {Qd : Addr → Hp → Prop}
/-- over a range, each item told by a word -/
theorem v_lcRgR (r : Rg) (gd : Good r H) {n : Int} (hn0 : 0 ≤ n) (hn : n ≤ 1000000) (R : Nat → V → Prop)
    (hw : ∀ x, wipe ((wipe σ vs).set j (some x)) vs = wipe σ vs)
    (hs : ∀ (i : Nat) H2 (Qn : VK), (i : Int) < n → Fr r H H2 → (∀ y H3, Fr r H2 H3 → R i y → Qn y H3) → te ((wipe σ vs).set j (some (.int (i : Int)))) H2 Qn)
    (hd : ∀ D ys H2, H D = none → Fr r H H2 → H2 D = some (.lst ys) → ys.length = n.toNat → (∀ i y, ys[i]? = some y → R i y) → Qd D H2) :
    ∃ n' : Int, [V.int n] = [.int n'] ∧ -(2 ^ 62) ≤ n' ∧ n' < 2 ^ 62 ∧ ∀ D, H D = none → ∃ W : Nat → Nat → Hp → Prop, (∃ m, W 0 m (upd H D (.lst []))) ∧ ∀ i m H, W i m H →
      ((Itr 0 n'.toNat).stop i H ∧ Qd D H) ∨ ((Itr 0 n'.toNat).go i H ∧ ∃ Nx : Hp → Prop, (∀ H', Nx H' → ∃ m', m' < m ∧ W (i + 1) m' H') ∧ ∀ x H', (Itr 0 n'.toNat).yld i H x H' → gName j x (wipe σ vs) H' fun σ2 H2 => wipe σ2 vs = wipe σ vs ∧ tYes σ2 H2 fun b H3 =>
        if b = true then te σ2 H3 fun y H4 => ∃ acc, H4 D = some (.lst acc) ∧ acc.length < sizeLine ∧ Nx (upd H4 D (.lst (acc ++ [y]))) else Nx H3) := by
  refine ⟨n, rfl, by omega, by omega, fun D hD => ?_⟩
  refine lc_any (walk_range (lo := 0) (n := n.toNat)) gd hD (fun i v _ => R i v) (fun _ _ _ _ _ h => h) (by omega) (fun _ _ => trivial) (fun i x H1 H' Qn hi fr hy q => ?_) (fun ys H2 fr e2 hl hr => hd D ys H2 hD fr e2 hl hr)
  obtain ⟨rfl, rfl⟩ := hy
  have e : (0 : Int) + (i : Int) = (i : Int) := Int.zero_add _
  refine ⟨hw _, ?_⟩
  show te ((wipe σ vs).set j (some (.int (0 + (i : Int))))) _ Qn
  rw [e]
  exact hs i _ Qn (by omega) fr fun y H3 f3 ry => q y H3 f3 ry
end
theorem strs_of {ys : List V} (h : ∀ (i : Nat) (y : V), ys[i]? = some y → ∃ z : Str, y = .str z ∧ z.length = 1) : ∃ zs : List Str, ys = zs.map V.str ∧ ∀ z ∈ zs, z.length = 1 := by
  induction ys with
  | nil => exact ⟨[], rfl, fun z hz => by cases hz⟩
  | cons y r ih =>
    obtain ⟨z, e, hz⟩ := h 0 y rfl
    obtain ⟨zs, e2, h2⟩ := ih fun i y hy => h (i + 1) y hy
    exact ⟨z :: zs, by rw [List.map_cons, e, e2], fun x hx => by rcases List.mem_cons.mp hx with rfl | hx; exact hz; exact h2 x hx⟩
def abc : Str := "abcdefghijklmnopqrstuvwxyz"
def letter (k : Nat) : Str := ⟨#[97 + k]⟩
theorem abc_at {k : Nat} (h : k < 26) : abc.cps.toList[k]? = some (97 + k) := by
  have : ∀ k : Fin 26, abc.cps.toList[(k : Nat)]? = some (97 + (k : Nat)) := by decide +kernel
  exact this ⟨k, h⟩
theorem abc_len : abc.length = 26 := by decide +kernel
theorem abc_le : Str.length abc ≤ 1000000 := by rw [abc_len]; decide
theorem letter_len (k : Nat) : (letter k).length = 1 := rfl
theorem letter_inj {i j : Nat} (h : letter i = letter j) : i = j := by
  have := congrArg (fun s : Str => s.cps.toList) h
  injection this with h1 _
  omega
/-! a tuple taken apart -/
theorem v_gT2 {K : PySem.W.Frag} {σ : L2.St} {H : Hp} {t u : TG} {p : Addr} {x y : V} {Q : L2.St → Hp → Prop} (h : H p = some (.tup [x, y])) (q : t x σ H fun σ1 H1 => u y σ1 H1 Q) : gTup K 2 (gCons t (gCons u gNil)) (.ref p) σ H Q :=
  ⟨p, _, rfl, SqT.of h, rfl, x, [y], rfl, by
    show t x σ H fun σ' H' => ∃ v r, [y] = v :: r ∧ u v σ' H' fun σ'' H'' => r = [] ∧ Q σ'' H''
    have e : (fun σ' H' => ∃ v r, [y] = v :: r ∧ u v σ' H' fun σ'' H'' => r = [] ∧ Q σ'' H'') = fun σ1 H1 => u y σ1 H1 Q := by
      funext σ' H'
      apply propext
      constructor
      · rintro ⟨v, r, e, q⟩
        injection e with e1 e2
        subst e1 e2
        simpa using q
      · intro q
        exact ⟨y, [], rfl, by simpa using q⟩
    rw [e]; exact q⟩
theorem v_gT3 {K : PySem.W.Frag} {σ : L2.St} {H : Hp} {t u s : TG} {p : Addr} {x y z : V} {Q : L2.St → Hp → Prop} (h : H p = some (.tup [x, y, z])) (q : t x σ H fun σ1 H1 => u y σ1 H1 fun σ2 H2 => s z σ2 H2 Q) : gTup K 3 (gCons t (gCons u (gCons s gNil))) (.ref p) σ H Q :=
  ⟨p, _, rfl, SqT.of h, rfl, x, [y, z], rfl, by
    show t x σ H fun σ' H' => ∃ v r, [y, z] = v :: r ∧ u v σ' H' fun σ2 H2 => ∃ v' r', r = v' :: r' ∧ s v' σ2 H2 fun σ3 H3 => r' = [] ∧ Q σ3 H3
    have e : (fun σ' H' => ∃ v r, [y, z] = v :: r ∧ u v σ' H' fun σ2 H2 => ∃ v' r', r = v' :: r' ∧ s v' σ2 H2 fun σ3 H3 => r' = [] ∧ Q σ3 H3) = fun σ1 H1 => u y σ1 H1 fun σ2 H2 => s z σ2 H2 Q := by
      funext σ' H'
      have e2 : (fun σ2 H2 => ∃ v' r', [z] = v' :: r' ∧ s v' σ2 H2 fun σ3 H3 => r' = [] ∧ Q σ3 H3) = fun σ2 H2 => s z σ2 H2 Q := by
        funext σ2 H2
        apply propext
        constructor
        · rintro ⟨v, r, e, q⟩
          injection e with e1 e2
          subst e1 e2
          simpa using q
        · intro q
          exact ⟨z, [], rfl, by simpa using q⟩
      apply propext
      constructor
      · rintro ⟨v, r, e, q⟩
        injection e with e1 e3
        subst e1 e3
        rw [e2] at q; exact q
      · intro q
        exact ⟨y, [z], rfl, by rw [e2]; exact q⟩
    rw [e]; exact q⟩
theorem v_gname {σ : L2.St} {H : Hp} {i : Nat} {v : V} {Q : L2.St → Hp → Prop} (q : Q (σ.set i (some v)) H) : gName i v σ H Q := q
end AK

/-! ## ASort -/
set_option Elab.async false
set_option linter.all false
set_option maxRecDepth 100000
namespace AK
open PySem PySem.Spec PyProof.Rows L2
/-! ## sorted of a list of rows of whole numbers: the same tuples in some order -/
def sh0 : Nat → Bool := fun _ => false
theorem tupItems_ints : ∀ (ns : List Int) (us : List Value) (i : Nat), Vals (ns.map V.int) us → tupItems sh0 i us = some (ns.map Sum.inl)
  | [], us, i, h => by cases h; rfl
  | n :: ns, us, i, h => by
    rw [List.map_cons] at h
    cases h with
    | cons h1 h2 =>
      obtain ⟨t, rfl⟩ := h1
      have ih := tupItems_ints ns _ (i + 1) h2
      show (if sh0 i = true then none else (tupItems sh0 (i + 1) _).map (Sum.inl n :: ·)) = _
      rw [if_neg (show ¬ sh0 i = true from Bool.false_ne_true), ih]
      rfl
theorem refs_of : ∀ {ts : List Addr} {us : List Value}, Vals (ts.map V.ref) us → us = ts.map Value.ref
  | [], us, r => by
    rw [List.map_nil] at r
    cases r
    rfl
  | t :: ts, us, r => by
    rw [List.map_cons] at r
    cases r with
    | cons h q =>
      cases h
      rw [List.map_cons, ← refs_of q]
theorem to_refs : ∀ ts : List Addr, Vals (ts.map V.ref) (ts.map Value.ref)
  | [] => .nil
  | _ :: ts => .cons rfl (to_refs ts)
def rSortVec (K : PySem.W.Frag) : List V → Hp → VK → Prop := fun vs H Q => ∃ (a : Addr) (ts : List Addr), vs = [.ref a] ∧ SqL K H a (ts.map V.ref) ∧ (∀ t ∈ ts, ∃ ns : Vec, ns ≠ [] ∧ H t = some (.tup (ns.map V.int))) ∧
  ∀ (ts' : List Addr) (p : Addr), ts'.Perm ts → H p = none → Q (.ref p) (upd H p (.lst (ts'.map V.ref)))
theorem tups_of {X : Cx} {pins : List (Addr × Obj)} {σ : L2.St} {H : Hp} {s : Shared} (I : Inv X pins σ H s) : ∀ (ts : List Addr), (∀ t ∈ ts, ∃ ns : Vec, ns ≠ [] ∧ H t = some (.tup (ns.map V.int))) →
    (∃ fs, TupsOf s.heap sh0 (ts.map Value.ref) fs) ∧ ∀ v, v ∈ ts.map Value.ref → ∃ l, G.tupKeyC s.heap sh0 v = some l
  | [], _ => ⟨⟨[], .nil⟩, fun v hv => by cases hv⟩
  | t :: ts, h => by
    obtain ⟨⟨fs, ih1⟩, ih2⟩ := tups_of I ts fun x hx => h x (.tail _ hx)
    obtain ⟨ns, hne, ht⟩ := h t (.head _)
    obtain ⟨_, its, r2, o, ho, hc, n, hd⟩ := I.hok _ _ ht
    obtain ⟨m, ms, rfl⟩ := List.exists_cons_of_ne_nil hne
    have hti := tupItems_ints _ its 0 r2
    rw [List.map_cons] at r2
    cases r2 with
    | @cons _ u _ us h1 h2 =>
      obtain ⟨tk, rfl⟩ := h1
      refine ⟨⟨_, .cons ⟨t, o, _, n, rfl, ho, hc, hd, rfl, fun _ => ⟨m, tk, rfl⟩, fun z => nomatch z⟩ ih1⟩, fun v hv => ?_⟩
      rcases List.mem_cons.mp hv with rfl | hv
      · refine ⟨(m :: ms).map Sum.inl, ?_⟩
        unfold G.tupKeyC
        have e1 : G.isTupObj s.heap (.ref t) = true := by simp [G.isTupObj, ho, hc]
        rw [if_pos e1]
        simp only [tupKey, ho, hd]
        exact hti
      · exact ih2 v hv
theorem cr_sortVec {X : Cx} : CallR X (.builtin "sorted") (rSortVec X.K) := by
  intro pins s σ H vs us Q I r h
  obtain ⟨a, ts, rfl, hs, hx, q⟩ := h
  obtain ⟨its, rv, hl, hz⟩ := I.list hs
  rw [Vals.ref1 r]
  have ei := refs_of rv
  subst ei
  obtain ⟨⟨fs, ht⟩, hk⟩ := tups_of I ts hx
  have hz2 : (ts.map Value.ref).length ≤ sizeLine := by rw [← rv.length]; exact hz
  refine G.sorted_tups hl.isList ht hk hz2 fun st' hp _ _ => ?_
  obtain ⟨ep, he'⟩ := PyProof.Rows.sortedAll_at s.heap (ts.map Value.ref) ((arrOf st').map (·.2))
  have hperm : ((arrOf st').map (·.2)).toList.Perm (ts.map Value.ref) := by
    rw [Array.toList_map]
    have e := (Array.perm_iff_toList_perm.mp hp).map (·.2)
    rw [pairsOf_toList] at e
    have e2 : ((ts.map Value.ref).zip (ts.map Value.ref)).map (·.2) = ts.map Value.ref := by
      rw [List.map_snd_zip]
      exact Nat.le_refl _
    rw [e2] at e
    exact e
  obtain ⟨ts', hts', e3⟩ : ∃ ts' : List Addr, ts'.Perm ts ∧ ((arrOf st').map (·.2)).toList = ts'.map Value.ref := by
    generalize ((arrOf st').map (·.2)).toList = out at hperm
    have hr : ∀ v ∈ out, ∃ t, v = Value.ref t := fun v hv => by
      obtain ⟨t, _, e⟩ := List.mem_map.mp (hperm.mem_iff.mp hv)
      exact ⟨t, e.symm⟩
    have h2 : out = (out.map fun v => match v with | .ref a => a | _ => 0).map Value.ref := by
      rw [List.map_map]
      refine ((List.map_congr_left fun v hv => ?_).trans (List.map_id _)).symm
      obtain ⟨t, rfl⟩ := hr v hv
      rfl
    refine ⟨out.map fun v => match v with | .ref a => a | _ => 0, ?_, h2⟩
    have h3 := hperm.map fun v => match v with | .ref a => a | _ => (0 : Addr)
    rw [List.map_map] at h3
    exact h3.trans (List.Perm.of_eq ((List.map_congr_left fun _ _ => rfl).trans (List.map_id _)))
  have hlen : (ts'.map V.ref).length ≤ sizeLine := by
    rw [List.length_map, hts'.length_eq]
    rw [List.length_map] at hz2
    exact hz2
  have hh : (({ s with heap := sortedAll s.heap (ts.map Value.ref) ((arrOf st').map (·.2)) } : Shared).heap).get? (s.heap.objs.size + 1) = some (seqObj "list" (ts'.map Value.ref).toArray ep) := by
    rw [← e3]
    exact he'
  exact ⟨.ref _, upd H (s.heap.objs.size + 1) (.lst (ts'.map V.ref)), I.laid (t' := s.toks) (fun _ _ => PyProof.Rows.sortedAll_old) (Nat.le_succ _) ⟨hlen, _, ep, to_refs ts', hh⟩, rfl, q ts' _ hts' (I.hok.fresh (Nat.le_succ _))⟩
theorem crSortVec {X : Cx} {K : PySem.W.Frag} (hK : X.K = K) : CallR X (.builtin "sorted") (rSortVec K) := hK ▸ cr_sortVec
theorem v_sortVec {K : PySem.W.Frag} {H : Hp} {Q : VK} {a : Addr} {ts : List Addr} (h : H a = some (.lst (ts.map V.ref))) (hx : ∀ t ∈ ts, ∃ ns : Vec, ns ≠ [] ∧ H t = some (.tup (ns.map V.int)))
    (q : ∀ (ts' : List Addr) (p : Addr) (H' : Hp), ts'.Perm ts → H p = none → Same H H' → H' p = some (.lst (ts'.map V.ref)) → Q (.ref p) H') : rSortVec K [.ref a] H Q :=
  ⟨a, ts, rfl, SqL.of h, hx, fun ts' p hp np => q ts' p _ hp np (same_new np _) upd_same⟩

/-! ## a call by keywords alone -/
structure FnK (P : Program) (w : World) (K : PySem.W.Frag) (mg : Str → Option Value) (base : Heap) (k : Nat) (x : Str) (ps ks : List Str) (g : List Value → List Value → List Value) (gV : List V → List V → List V) (sp : Sp) : Prop where
  ex : ∃ (f : Addr) (fd : FuncData), FnOk P w K mg base CX0 k f fd ps sp ∧ mg x = some (.ref f) ∧ PySem.W.keepIn K (.ref f) = true ∧ KBn K fd ps 0 ks g gV
def tCallK0 (m : Nat) (sp : Sp) (gV : List V → List V → List V) (E : XK) (tk : TA) : TE := fun σ H Q => tk σ H fun zs H2 => zs.length = m ∧ sp (gV [] zs) H2 Q E
theorem calK {X : Cx} {k j : Nat} {x : Str} {ps ks : List Str} {g : List Value → List Value → List Value} {gV : List V → List V → List V} {sp : Sp} {kws : List Keyword} {tk : TA} {p pos : Pos} (h : FnK X.prog X.w X.K X.mg X.base k x ps ks g gV sp) (hr : Room j X.A) (hkw : PK X kws tk) (hj : k ≤ j := by omega) (hg : Gl X x := by rfl)
    (hall : (backToKw pos (keywordEach kws X.env)).all (·.1.isSome) = true := by rfl) (hks : (backToKw pos (keywordEach kws X.env)).filterMap (·.1) = ks := by rfl)
    (hdb : (x == ("__debug__" : Str)) = false := by decide)
    (hpl : ((backTo pos (starEach [] X.env)).any (·.1) || (backToKw pos (keywordEach kws X.env)).any (·.1.isNone)) = false := by rfl) :
    PE X (.Call (.Name x p) [] kws pos) (tCallK0 ks.length sp gV E0 tk) := by
  obtain ⟨f, fd, F, hm, hk, hb⟩ := h
  refine ⟨fun pins s σ H Q I h => ?_⟩
  refine wpAny_Call_Name_kw (ld_glob I hg hm ?_ hdb)
  refine PySem.W.callWith_KW0 (h₀ := X.base) I.ok.mod.kin hk hall (thn (hkw.run pos pins s σ H _ I h) fun ws s2 ⟨zs, H2, I2, rz, l2, q2⟩ => ⟨I2.kIn, ?_⟩) hpl
  rw [hks]
  exact run_fnN (us := []) (vs := []) F (hr.mono hj) hb pass0 I2 .nil rz rfl l2 q2
end AK

/-! ## ARepr -/
set_option Elab.async false
set_option linter.all false
set_option maxRecDepth 100000
set_option maxHeartbeats 2000000
namespace AK
open PySem PySem.Spec PyProof.Rows L2
/-! ## repr of data, no repr under way -/
def rReprD (K : PySem.W.Frag) (B : Nat) : List V → Hp → VK → Prop := fun xs H Q => ∃ (a : Addr) (d : PyData), xs = [.ref a] ∧ Dp K H (.ref a) d ∧ d.showable = true ∧ d.hasDict = false ∧ d.depth ≤ B ∧ d.shown.length ≤ 10000000 ∧ Q (.str d.shown) H
theorem cr_reprD {X : Cx} {B : Nat} (gd : X.A.guards = some []) (hu : X.A.units + (B + 1) < cLine) : CallR X (.builtin "repr") (rReprD X.K B) := by
  intro pins s σ H xs us Q I r h
  obtain ⟨a, d, rfl, hd, hs, hnd, hdp, hsz, q⟩ := h
  obtain ⟨u, rfl, ru⟩ := vals1 r
  obtain rfl : u = Value.ref a := ru
  obtain ⟨as, rd⟩ := Dp.reads I d (.ref a) (.ref a) hd rfl
  refine repr_of_reads' rd hs (PyData.noDict_hsm hnd) gd (by omega) (fun _ _ e => e) (fun h' u tk hk => ?_) (Nat.le_trans hsz (by decide))
  exact ⟨.str d.shown, H, I.kept (t' := tk) hk, ⟨_, rfl⟩, q⟩
theorem crReprD {X : Cx} {K : PySem.W.Frag} {B : Nat} (hK : X.K = K) (gd : X.A.guards = some []) (hu : X.A.units + (B + 1) < cLine) : CallR X (.builtin "repr") (rReprD K B) := hK ▸ cr_reprD gd hu
end AK

/-! ## MOps3 -/
set_option Elab.async false
set_option linter.all false
set_option maxRecDepth 100000
set_option maxHeartbeats 2000000
/-! MP: join, sorted, index, repr, as programs -/
namespace MP
open PySem PySem.Spec PyProof.Rows L2 AK
section
variable {X : Cx} {mg : Gm} {W : WX} {K : PySem.W.Frag} {e a b c o : Expr} {es : List Expr} {st : Stmt} {pos apos cpos : Pos} {k : Nat}
/-! ## join -/
def joinV : Op2 := fun o a s => match o with
  | .p (.str z) => match (seqA s a).bind asStrs with
    | some ys => if (ys.map (·.length)).sum + ys.length * z.length ≤ 16777216 then .ok (.p (.str (Txt.join z ys))) s else .no
    | none => .no
  | _ => .no
def m1E (g : Op2) (mo me : E MV) : E MV := bind mo fun o ρ s => if isStr o = true then bind me (fun a => lift (g o a)) ρ s else .no
variable (mg) in
def SimM1 (r : V → List V → Hp → VK → Prop) (g : Op2) : Prop := ∀ w s H o a x y X Q, HR mg w s H → MRep mg w H o x → MRep mg w H a y → CE mg (MRep mg) X w H (g o a s) Q → r x [y] H Q
theorem isStr_ty {w : Wd} {H : Hp} {a : MV} {v : V} (r : MRep mg w H a v) (h : isStr a = true) : ∃ z, v = .str z := by
  unfold isStr at h
  split at h
  · exact ⟨_, m_str r⟩
  · cases h
theorem es_m1 {r : V → List V → Hp → VK → Prop} {g : Op2} {mo me : E MV} (sim : SimM1 mg r g) (h : PE X e (tM1 r (tM mg W mo) (tM mg W me))) : PE X e (tM mg W (m1E g mo me)) := pe_imp h fun σ H Q ⟨w, ρ, s, env, hr, c⟩ => by
  refine ⟨w, ρ, s, env, hr, (CE.bind (R := MRep mg) (r := mo ρ s) c).mono fun x H1 ⟨a, s1, w1, e1, hr1, ra, c1⟩ => ?_⟩
  have c2 : CE mg (MRep mg) (fun c d H => W c d σ H) w1 H1 (if isStr a = true then bind me (fun b => lift (g a b)) ρ s1 else .no) Q := c1
  split at c2
  · rename_i hl
    refine ⟨isStr_ty ra hl, w1, ρ, s1, env.ext e1, hr1, (CE.bind (R := MRep mg) (r := me ρ s1) c2).mono fun y H2 ⟨b, s2, w2, e2, hr2, rb, c3⟩ => ?_⟩
    exact sim _ _ _ _ _ _ _ _ _ hr2 (ra.ext e2) rb c3
  · exact c2.elim
theorem sim_join : SimM1 mg (rJoin K) joinV := fun w s H o a x y X Q hr ro ra c => by
  unfold joinV at c
  split at c
  · rename_i z
    split at c
    · rename_i ys h
      split at c
      · rename_i hz
        obtain ⟨xs, h1, h2⟩ := Option.bind_eq_some_iff.mp h
        obtain rfl := asStrs_eq h2
        obtain ⟨p, us, rfl, hp, _, ru⟩ := seqA_rep (K := K) hr ra h1
        rw [ru.strs] at hp
        exact ⟨z, p, ys, m_str ro, rfl, hp, hz, okS c hr⟩
      · exact c.elim
    · exact c.elim
  · exact c.elim
theorem es_join {mo me : E MV} (ho : PE X o (tM mg W mo)) (he : PE X e (tM mg W me)) (hs : starEach [e] X.env = [(false, eval e X.env)] := by rfl) (hbase : attributeBase o "join" X.env (eval o X.env) = eval o X.env := by rfl) (hline : (apos.endLine == pos.line) = true := by rfl) :
    PE X (.Call (.Attribute o "join" apos) [e] [] pos) (tM mg W (m1E joinV mo me)) := es_m1 sim_join (joinA rfl ho he hs hbase hline)
/-! ## sorted -/
def leS (a b : Str) : Bool := decide (¬ b.cps.toList < a.cps.toList)
def sortS (xs : List Str) : List Str := xs.mergeSort leS
theorem leS_iff {a b : Str} : leS a b = true ↔ a.cps.toList ≤ b.cps.toList := by unfold leS; rw [decide_eq_true_eq]; exact List.not_lt
theorem sortS_perm (xs : List Str) : (sortS xs).Perm xs := List.mergeSort_perm _ _
theorem sortS_srt (xs : List Str) : SrtS (sortS xs) := by
  have h := List.pairwise_mergeSort (le := leS) (fun a b c h1 h2 => leS_iff.mpr (List.le_trans (leS_iff.mp h1) (leS_iff.mp h2))) (fun a b => by
    rcases List.le_total a.cps.toList b.cps.toList with h | h
    · rw [leS_iff.mpr h]; rfl
    · rw [leS_iff.mpr h, Bool.or_true]) xs
  exact h.imp fun h => of_decide_eq_true h
theorem sortS_eq {xs ys : List Str} (hp : ys.Perm xs) (hs : SrtS ys) : ys = sortS xs := srtS_eq hs (sortS_srt xs) (hp.trans (sortS_perm xs).symm)
def sortedV : DefV := one fun a s => match seqL s a with
  | some xs => match asInts xs with
    | some ns => .ok (.p (.lst ((sortI ns).map PV.int))) s
    | none => match asStrs xs with
      | some zs => if zs.length < 64 then .ok (.p (.lst ((sortS zs).map PV.str))) s else .no
      | none => .no
  | none => .no
def rSortA (K : PySem.W.Frag) : List V → Hp → VK → Prop := fun vs H Q => rSortedI K vs H Q ∨ rSortedS K vs H Q
theorem cr_sortA : CallR X (.builtin "sorted") (rSortA X.K) := cr_or2 cr_sortedI cr_sortedS
theorem RepL.ofInts {B : Addr → Prop} {H : Hp} : ∀ (ns : List Int), RepL mg B H (ns.map PV.int) (ns.map V.int)
  | [] => RepL.nil
  | n :: t => RepL.cons (by rw [Rep]) (RepL.ofInts t)
theorem RepL.ofStrs {B : Addr → Prop} {H : Hp} : ∀ (ns : List Str), RepL mg B H (ns.map PV.str) (ns.map V.str)
  | [] => RepL.nil
  | n :: t => RepL.cons (by rw [Rep]) (RepL.ofStrs t)
theorem sim_sorted : SimCall mg (rSortA K) sortedV := sim_one fun w s H a x X Q hr ra c => by
  split at c
  · rename_i xs hx
    split at c
    · rename_i ns hn
      obtain ⟨p, rfl, hp, hz⟩ := ints_at (K := K) (ns := ns) hr ra (by rw [hx]; exact hn)
      refine .inl ⟨p, ns, rfl, hp, fun ns' q hperm hsrt hq => ?_⟩
      rw [sortI_eq hperm hsrt]
      exact c.newL hr (by rw [List.length_map, (sortI_perm ns).length_eq]; exact hz) (RepL.ofInts _) q hq
    · split at c
      · rename_i zs hz
        split at c
        · rename_i h64
          obtain ⟨p, rfl, hp, hl⟩ := strs_at (K := K) (ns := zs) hr ra (by rw [hx]; exact hz)
          refine .inr ⟨p, zs, rfl, hp, h64, fun ys q hperm hsrt hq => ?_⟩
          rw [sortS_eq hperm (srtS_of hsrt)]
          exact c.newL hr (by rw [List.length_map, (sortS_perm zs).length_eq]; exact hl) (RepL.ofStrs _) q hq
        · exact c.elim
      · exact c.elim
  · exact c.elim
/-! ## repr -/
def rReprA (K : PySem.W.Frag) : List V → Hp → VK → Prop := fun xs H Q => rReprD K 60 xs H Q ∨ (∃ i, xs = [.int i] ∧ i.natAbs.log2 < 1920 ∧ Q (.str (toString i)) H) ∨ (∃ z, xs = [.str z] ∧ (reprText z).length ≤ 10000000 ∧ Q (.str (reprText z)) H) ∨ (∃ b, xs = [.bl b] ∧ Q (.str (if b then "True" else "False")) H) ∨ (xs = [.non] ∧ Q (.str "None") H)
theorem cr_reprA (gd : X.A.guards = some []) (hu : X.A.units + 61 < cLine) : CallR X (.builtin "repr") (rReprA X.K) := by
  intro pins s σ H xs us Q I r h
  rcases h with h | ⟨i, rfl, hz, q⟩ | ⟨z, rfl, hz, q⟩ | ⟨b, rfl, q⟩ | ⟨rfl, q⟩
  · exact cr_reprD gd hu pins s σ H xs us Q I r h
  · obtain ⟨u, rfl, t, rfl⟩ := vals1 r
    exact PySem.P.repr_of_int hz ⟨.str _, H, I.tok _, ⟨_, rfl⟩, q⟩
  · obtain ⟨u, rfl, t, rfl⟩ := vals1 r
    exact PySem.P.repr_of_str (hsz := Nat.le_trans hz (by decide)) ⟨.str _, H, I.tok _, ⟨_, rfl⟩, q⟩
  · obtain ⟨u, rfl, rfl⟩ := vals1 r
    exact PySem.P.repr_of_bool ⟨.str _, H, I.tok _, ⟨_, rfl⟩, q⟩
  · obtain ⟨u, rfl, rfl⟩ := vals1 r
    exact PySem.P.repr_of_none ⟨.str _, H, I.tok _, ⟨_, rfl⟩, q⟩
def showP (x : PV) : Str := x.dat.shown
def reprV : DefV := one fun a s => match flat s a with
  | some x => if (PV.isD 60 x && x.dat.showable && decide ((showP x).length ≤ 10000000)) = true then .ok (.p (.str (showP x))) s else .no
  | none => .no
theorem sim_repr : SimCall mg (rReprA K) reprV := sim_one fun w s H a x X Q hr ra c => by
  split at c
  · rename_i y hy
    split at c
    · rename_i hh
      rw [Bool.and_eq_true, Bool.and_eq_true, decide_eq_true_eq] at hh
      obtain ⟨⟨h1, h2⟩, h3⟩ := hh
      have rp := flat_rep hr ra hy
      have q : Q (.str (showP y)) H := okS c hr
      have dp : Dp K H x y.dat := rp.dp h1
      have dd := PV.isD_dat h1
      have ref : (∃ p, x = .ref p) → rReprA K [x] H Q := fun ⟨p, e⟩ => by
        subst e
        exact .inl ⟨p, y.dat, rfl, dp, h2, PyData.hasDict_of_canLay _ dd.1, dd.2, h3, q⟩
      cases y with
      | non => obtain rfl := rep_non rp; exact .inr (.inr (.inr (.inr ⟨rfl, q⟩)))
      | bl b => obtain rfl := rep_bl rp; exact .inr (.inr (.inr (.inl ⟨b, rfl, q⟩)))
      | int i => obtain rfl := rep_int rp; exact .inr (.inl ⟨i, rfl, of_decide_eq_true (show decide (i.natAbs.log2 < 1920) = true from h2), q⟩)
      | str z => obtain rfl := rep_str rp; exact .inr (.inr (.inl ⟨z, rfl, h3, q⟩))
      | tup xs => obtain ⟨p, us, e, _⟩ := rep_tup rp; exact ref ⟨p, e⟩
      | lst xs => obtain ⟨p, us, e, _⟩ := rep_lst rp; exact ref ⟨p, e⟩
      | _ => simp [PV.isD] at h1
    · exact c.elim
  · exact c.elim
/-! ## t.index(x), texts -/
def idxV : Op2 := fun o a s => match o, a with
  | .p (.tup xs), .p (.str z) => match asStrs xs with
    | some ys => match ys.findIdx? fun y => decide (y = z) with
      | some j => .ok (.p (.int (j : Nat))) s
      | none => .no
    | none => .no
  | _, _ => .no
end
end MP

/-! ## MExc -/
set_option Elab.async false
set_option linter.all false
set_option maxRecDepth 100000
set_option maxHeartbeats 4000000
/-! MP: errors: raise, try, what a suite asks of its error -/
namespace MP
open PySem PySem.Spec PyProof.Rows L2 AK
/-- isinstance(e, c), e the exception that the suite holds, with its attribute -/
def rIsD (K : PySem.W.Frag) (D a dd : Addr) : List V → Hp → VK → Prop := fun xs H Q => ∃ (c : V) (cv : Value) (b : Bool), xs = [.ref a, c] ∧ (∃ fs, H dd = some (.xd fs)) ∧ (∀ u, RelV c u → u = cv) ∧ PySem.W.kitOne K (.ref D) cv = some b ∧ Q (.bl b) H
theorem call_isD {X : Cx} {a D dd : Addr} {oe : Obj} {pn : List (Addr × Obj)} (C : ExcC X.K D) (hz : Zc (.ref D) (some dd) oe) (hf : ∃ vs, oe.data = .fields vs) : CallR (X.suite a ((a, oe) :: pn)) (.builtin "isinstance") (rIsD X.K D a dd) := by
  intro pins s σ H xs us Q I r h
  obtain ⟨c, cv, b, rfl, ⟨fs, hd⟩, hcv, e, q⟩ := h
  cases r with
  | cons rx rr =>
    cases rr with
    | cons rt rr =>
      cases rr
      cases rx
      have ec := hcv _ rt
      subst ec
      obtain ⟨hget, _⟩ := I.pin (a, oe) (List.mem_append.mpr (.inl List.mem_cons_self))
      obtain ⟨vs, hv⟩ := hf
      have hx : ObjOk X.prog X.w H s.heap dd (.xd fs) := I.hok dd _ hd
      obtain ⟨mA, hns, hr⟩ := hx
      obtain ⟨od, ho, hl⟩ := lookIn_ns hns
      have J : PySem.W.InstAt s.heap a oe D (some od) := ⟨hget, hz.1, by unfold PySem.W.notCls; rw [hv] <;> rfl, by rw [hz.2]; exact ho⟩
      have hcl : (PySem.W.clsIn X.K D).isSome = true := by
        have h := C.hd
        unfold PySem.W.hasDictIn at h
        cases hh : PySem.W.clsIn X.K D with
        | none => rw [hh] at h; exact nomatch h
        | some cd => rfl
      exact PySem.W.kia_one (PySem.W.kitx_exc hcl C.hg C.hk C.hs C.ha C.hn C.ht C.hm) I.kIn J e (fun z => nomatch z) fun tk => ⟨.bl b, H, I.kept (t' := tk) fun _ _ z => z, rfl, q⟩
section
variable {X : Cx} {mg : Gm} {W : WX} {K : PySem.W.Frag} {e a b c o : Expr} {es : List Expr} {st : Stmt} {pos apos cpos : Pos} {k : Nat} {C fI : Addr} {nm fl : Str}
/-! ## raise C(e) -/
def raiseS (c f : Str) (ma : E (List MV)) : ST := toS ma fun as ρ s => match as with
  | [.p x] => .exc c f x ρ s
  | _ => .no
theorem ss_raise {ma : E (List MV)} (hm : mg.mg nm = some (.ref C)) (h : PS X st (tRaiseE C fl W (tML mg W ma))) : PS X st (tMS mg W (raiseS nm fl ma)) := ps_imp h fun D σ H ⟨w, ρ, s, env, hr, c⟩ =>
  ⟨w, ρ, s, env, hr, (CS.bindE (R := MRepL mg) (r := ma ρ s) env c).mono fun xs H1 ⟨as, s1, w1, e1, hr1, ra, c1⟩ => by
    match as, ra, c1 with
    | [], _, c1 => exact c1.elim
    | [.o _], _, c1 => exact c1.elim
    | [.g], _, c1 => exact c1.elim
    | [.p x], ⟨v, _, e', r, e2⟩, c1 =>
      subst e2; subst e'
      refine ⟨v, rfl, fun d hd => ?_⟩
      obtain ⟨e3, hr3, nb⟩ := Ext.new hr1 hd (.xd [(fl, v)])
      exact c1 w1 (.ref C) (some d) σ _ e3 hr3 ((env.ext e1).ext e3) ⟨C, d, v, hm, rfl, rfl, nb, upd_same, Rep.imp e3.keep r⟩
    | z :: _ :: _, _, c1 => cases z <;> exact c1.elim⟩
/-! ## try: .. except C as x: .. -/
def unset (i : Nat) (r : SR) : SR := match r with
  | .nx ρ s => .nx (ρ.set i none) s
  | .bk ρ s => .bk (ρ.set i none) s
  | .ct ρ s => .ct (ρ.set i none) s
  | .rt v s => .rt v s
  | _ => .no
def tryAsS (dec : Str → Option Bool) (i : Nat) (mb : ST) (mh : Str → Str → PV → ST) : ST := fun ρ s => match mb ρ s with
  | .exc c f x ρ1 s1 => match dec c with
    | some true => unset i (mh c f x (ρ1.set i none) s1)
    | some false => .exc c f x ρ1 s1
    | none => .no
  | r => r
theorem pss_ex {X : Cx} {b : List Stmt} {ι : Type} {P : ι → Prop} {t : ι → TS} (h : ∀ j, P j → PSs X b (t j)) : PSs X b (fun D σ H => ∃ j, P j ∧ t j D σ H) := ⟨fun pins s σ H D I ⟨j, p, q⟩ => (h j p).run pins s σ H D I q⟩
structure Caught where
  c : Str
  f : Str
  x : PV
  C : Addr
  dd : Addr
theorem ss_tryAs {x n : Str} {cv : Value} {i : Nat} {body suite : List Stmt} {b₀ : Stmt} {np pos' : Pos} {dec : Str → Option Bool} {mb : ST} {mh : Str → Str → PV → ST} (hs : X.stack = X.env :: X.outer) (hf : X.env.frame = some X.env.locals) (hN : X.N.Nodup) (hi : X.N[i]? = some n) (hln : X.env.kindOf n = some .local) (hc : Names X x cv) (tk : Takes X W) (hx : mg.ex = none)
    (hdec : ∀ c b, dec c = some b → ∀ C, mg.mg c = some (.ref C) → PySem.W.exmOne X.K (.ref C) cv = some b)
    (hb : ∀ (W' : WX) (pn : List (Addr × Obj)) (xe : Value → Shared → Prop), Takes (X.tr pn xe) W' → PassesOwn (model X.prog X.w) X.A X.env xe → PSs (X.tr pn xe) body (tMS mg W' mb))
    (hsu : ∀ (a : Addr) (oe : Obj) (pn : List (Addr × Obj)) (q : Caught), dec q.c = some true → mg.mg q.c = some (.ref q.C) → Zc (.ref q.C) (some q.dd) oe → (∃ vs, oe.data = .fields vs) →
      PSs (X.suite a ((a, oe) :: pn)) (b₀ :: suite) (tMS ⟨mg.mg, some ⟨i, a, q.dd, q.f, q.x⟩⟩ W0 (mh q.c q.f q.x))) :
    PS X (.Try body [.ExceptHandler (some (.Name x np)) (some n) (b₀ :: suite) pos'] [] [] pos) (tMS mg W (tryAsS dec i mb mh)) := by
  refine ps_imp (ps_try_as (ts := fun a cls d D σ H => ∃ q : Caught, (dec q.c = some true ∧ mg.mg q.c = some (.ref q.C) ∧ cls = .ref q.C ∧ d = some q.dd) ∧ tMS ⟨mg.mg, some ⟨i, a, q.dd, q.f, q.x⟩⟩ W0 (mh q.c q.f q.x) D σ H) hs hf hN hi hln hc tk hb (fun a oe cls d pn hz hv => pss_ex fun q ⟨h1, h2, h3, h4⟩ => by subst h3; subst h4; exact hsu a oe pn q h1 h2 hz hv)) fun D σ H ⟨w, ρ, s, env, hr, c⟩ => ⟨w, ρ, s, env, hr, ?_⟩
  unfold tryAsS at c
  cases hq : mb ρ s with
  | no => rw [hq] at c; exact c
  | nx => rw [hq] at c; exact c
  | rt => rw [hq] at c; exact c
  | bk => rw [hq] at c; exact c
  | ct => rw [hq] at c; exact c
  | exc cc f y ρ1 s1 =>
    rw [hq] at c
    intro w1 cls d σ1 H1 e1 hr1 env1 xr
    obtain ⟨C, dd, v, h1, h2, h3, h4, h5, h6⟩ := id xr
    have c1 : CS mg W w H (match dec cc with
      | some true => unset i (mh cc f y (ρ1.set i none) s1)
      | some false => .exc cc f y ρ1 s1
      | none => .no) D := c
    split at c1
    · rename_i hd
      refine ⟨true, by rw [h2]; exact hdec cc true hd C h1, fun _ a ha => ⟨⟨cc, f, y, C, dd⟩, ⟨hd, h1, h2, h3⟩, w1, ρ1.set i none, s1, ?_, hr1, ?_⟩, fun z => absurd z.symm Bool.false_ne_true⟩
      · have e0 := EnvR.unset hx env1 i (some (.ref a))
        refine ⟨e0.1, e0.2.1, fun g hg _ => ?_⟩
        cases hg
        refine ⟨?_, h4, v, h5, h6⟩
        have hlen : i < σ1.length := by
          have : i < ρ1.length := by
            rename_i hn
            have := (List.getElem?_eq_some_iff.mp hn).1
            simpa using this
          rw [← env1.1]; exact this
        exact List.getElem?_set_self hlen
      · have k : ∀ {w2 : Wd} {H2 : Hp} {ρ2 : Env} {σ2 : L2.St}, EnvR ⟨mg.mg, some ⟨i, a, dd, f, y⟩⟩ w2 H2 ρ2 σ2 → EnvR mg w2 H2 (ρ2.set i none) (σ2.set i none) := fun h => EnvR.unset hx ⟨h.1, h.2.1, fun g hg => by rw [hx] at hg; cases hg⟩ i none
        cases hm : mh cc f y (ρ1.set i none) s1 with
        | no => rw [hm] at c1; exact c1
        | exc => rw [hm] at c1; exact c1.elim
        | rt v2 s2 => rw [hm] at c1; exact fun w2 x2 H2 e2 hr2 r2 => c1 w2 x2 H2 (e1.trans e2) hr2 r2
        | nx ρ2 s2 => rw [hm] at c1; exact fun w2 σ2 H2 e2 hr2 env2 => c1 w2 _ H2 (e1.trans e2) hr2 (k env2)
        | bk ρ2 s2 => rw [hm] at c1; exact fun w2 σ2 H2 e2 hr2 env2 => c1 w2 _ H2 (e1.trans e2) hr2 (k env2)
        | ct ρ2 s2 => rw [hm] at c1; exact fun w2 σ2 H2 e2 hr2 env2 => c1 w2 _ H2 (e1.trans e2) hr2 (k env2)
    · rename_i hd
      exact ⟨false, by rw [h2]; exact hdec cc false hd C h1, fun z => absurd z Bool.false_ne_true, fun _ => c1 w1 cls d σ1 H1 e1 hr1 env1 xr⟩
    · exact c1.elim
/-! ## what a suite asks of its error -/
/-- e.f -/
def fldX (i : Nat) (nm fl c f : Str) (x : PV) : E MV := fun ρ s => if ρ[i]? = some none ∧ c = nm ∧ f = fl then .ok (.p x) s else .no
theorem es_fldX {a : Addr} {oe : Obj} {pn : List (Addr × Obj)} {q : Caught} {i : Nat} (T : PySem.OwnX.OwnTxt X.prog X.K X.mg nm fl C fI) (hm : mg.mg = X.mg) (h1 : mg.mg q.c = some (.ref q.C)) (hx : mg.ex = some ⟨i, a, q.dd, q.f, q.x⟩) (hz : Zc (.ref q.C) (some q.dd) oe) (hf : ∃ vs, oe.data = .fields vs) (he : PE (X.suite a ((a, oe) :: pn)) e (tVar i))
    (hb : attributeBase e fl X.env (eval e X.env) = eval e X.env := by rfl) : PE (X.suite a ((a, oe) :: pn)) (.Attribute e fl pos) (tM mg W (fldX i nm fl q.c q.f q.x)) := pe_imp (pe_fldE T hz hf he hb) fun σ H Q ⟨w, ρ, s, env, hr, c⟩ => by
  unfold fldX at c
  split at c
  · rename_i h
    obtain ⟨g1, g2, g3⟩ := h
    obtain ⟨h2, h3, u, h4, h5⟩ := env.2.2 _ hx g1
    refine ⟨.ref a, h2, rfl, ?_, q.dd, u, rfl, ?_, c w u H (Ext.refl _ _) hr h5⟩
    · have := T.gC
      rw [← hm, ← g2, h1] at this
      cases this; rfl
    · have h4' : H q.dd = some (.xd [(q.f, u)]) := h4
      rw [h4', g3]
  · exact c.elim
/-- isinstance(e, C) -/
def isX (i : Nat) (tab : Str → Option Bool) (c : Str) : E MV := fun ρ s => if ρ[i]? = some none then match tab c with
    | some b => .ok (.p (.bl b)) s
    | none => .no
  else .no
theorem es_isX {a : Addr} {oe : Obj} {pn : List (Addr × Obj)} {q : Caught} {i : Nat} {cv : V} {vv : Value} {tab : Str → Option Bool} {b : Expr} {x : Str} {p pos : Pos} (hcc : (X.suite a ((a, oe) :: pn)).mg x = none) (hv : bootBuiltins x = some (.builtin "isinstance")) (hx : mg.ex = some ⟨i, a, q.dd, q.f, q.x⟩) (hz : Zc (.ref q.C) (some q.dd) oe) (hf : ∃ vs, oe.data = .fields vs) (h1 : mg.mg q.c = some (.ref q.C))
    (he : PE (X.suite a ((a, oe) :: pn)) e (tVar i)) (hb : PE (X.suite a ((a, oe) :: pn)) b (tC cv)) (hcv : ∀ u, RelV cv u → u = vv) (htab : ∀ c r C, tab c = some r → mg.mg c = some (.ref C) → ExcC X.K C ∧ PySem.W.kitOne X.K (.ref C) vv = some r)
    (hg : Gl (X.suite a ((a, oe) :: pn)) x := by rfl) (hn : x ≠ "__name__" := by decide) (hdb : (x == ("__debug__" : Str)) = false := by decide)
    (hs1 : starEach (e :: [b]) X.env = (false, eval e X.env) :: starEach [b] X.env := by rfl) (hs2 : starEach (b :: []) X.env = (false, eval b X.env) :: starEach [] X.env := by rfl) (hpl : (backTo pos (starEach [b] X.env)).any (·.1) = false := by rfl) :
    PE (X.suite a ((a, oe) :: pn)) (.Call (.Name x p) [e, b] [] pos) (tM mg W (isX i tab q.c)) := by
  cases ht : tab q.c with
  | none => exact ⟨fun pins s σ H Q I ⟨w, ρ, s', env, hr, c⟩ => by
      unfold isX at c
      rw [ht] at c
      split at c <;> exact c.elim⟩
  | some r =>
    obtain ⟨hC, hk⟩ := htab _ r q.C ht h1
    refine pe_imp (cb hv (call_isD hC hz hf) hcc (pa_cons he (pa_cons hb pa_nil hs2) hs1) hg hn hdb hs1 hpl) fun σ H Q ⟨w, ρ, s, env, hr, c⟩ => ?_
    unfold isX at c
    rw [ht] at c
    split at c
    · rename_i g1
      obtain ⟨h2, h3, u, h4, h5⟩ := env.2.2 _ hx g1
      exact ⟨.ref a, h2, cv, vv, r, rfl, ⟨_, h4⟩, hcv, hk, okB c hr⟩
    · exact c.elim
end
end MP

/-! ## MNew -/
set_option Elab.async false
set_option linter.all false
set_option maxRecDepth 100000
set_option maxHeartbeats 2000000
/-! MP: a, b, .. = e, f, ..; {}; calls with keywords; the start of the law -/
namespace MP
open PySem PySem.Spec PyProof.Rows L2 AK
section
variable {X : Cx} {mg : Gm} {W : WX} {K : PySem.W.Frag} {e a b c o : Expr} {es tgs : List Expr} {st : Stmt} {pos apos cpos : Pos} {k : Nat}
/-! ## a, b, .. = e, f, .. -/
def asgT (ml : E (List MV)) (t : List MV → Env → S → Res Env) : ST := toS ml fun xs ρ s => if xs.length ≤ 16777216 then (Calm (t xs ρ s)).toSR ρ fun ρ1 s1 => .nx ρ1 s1 else .no
theorem ss_asgT {ml : E (List MV)} {t : List MV → Env → S → Res Env} {j1 j2 : Nat} {tpos epos : Pos} (hc : X.calm = true) (ha : PA X es (tML mg W ml)) (hg : PGs X tgs (tMGs mg t)) (hl : tgs.length = es.length := by rfl) (hn : (assignEach tgs X.env).length = tgs.length := by rfl) (hst : (assignEach tgs X.env).findIdx? (·.1) = none := by rfl)
    (hs : swapsWithSole [.Tuple tgs j1 tpos] (.Tuple es j2 epos) pos.line X.env = pure false := by rfl) (hw : swappedStores [.Tuple tgs j1 tpos] (.Tuple es j2 epos) X.env = pure none := by rfl)
    (h1 : (assignEach [.Tuple tgs j1 tpos] X.env).map (·.2) = [assign (.Tuple tgs j1 tpos) X.env] := by rfl) : PS X (.Assign [.Tuple tgs j1 tpos] (.Tuple es j2 epos) pos) (tMS mg W (asgT (bind ml fun xs => if xs.length = es.length then ret xs else fun _ _ => .no) t)) :=
  ps_imp (ps_asg (pe_tup ha) (pg_tup hc hg hn hst) hs hw h1) fun D σ H ⟨w, ρ, s, env, hr, c⟩ => by
    have c0 : CS mg W w H ((bind ml (fun xs => if xs.length = es.length then ret xs else fun _ _ => .no) ρ s).toSR ρ fun xs s1 => if xs.length ≤ 16777216 then (Calm (t xs ρ s1)).toSR ρ fun ρ1 s1 => .nx ρ1 s1 else .no) D := c
    refine ⟨w, ρ, s, env, hr, ?_⟩
    have c1 : CE mg (MRepL mg) (fun c d H => W c d σ H) w H (ml ρ s) fun xs H1 => ∃ a s1 w1, Ext w H w1 H1 ∧ HR mg w1 s1 H1 ∧ MRepL mg w1 H1 a xs ∧ CS mg W w1 H1 (if a.length = es.length then (if a.length ≤ 16777216 then (Calm (t a ρ s1)).toSR ρ fun ρ1 s1 => .nx ρ1 s1 else .no) else .no) D := by
      cases hq : ml ρ s with
      | no => unfold bind at c0; rw [hq] at c0; exact c0
      | exc cc f x s1 => unfold bind at c0; rw [hq] at c0; exact fun w1 cls d H1 e1 hr1 xr => c0 w1 cls d σ H1 e1 hr1 (env.ext e1) xr
      | ok a s1 =>
        refine fun w1 xs H1 e1 hr1 ra => ⟨a, s1, w1, e1, hr1, ra, CS.from e1 ?_⟩
        rw [bind_ok hq] at c0
        split at c0
        · rename_i hl2
          rw [if_pos hl2]
          exact c0
        · exact c0.elim
    refine c1.mono fun xs H1 ⟨a, s1, w1, e1, hr1, ra, c2⟩ => ?_
    split at c2
    · rename_i hlen
      split at c2
      · rename_i hz
        refine ⟨by rw [ra.len]; exact szl hz, fun p hp => ⟨p, xs, rfl, SqT.of upd_same, by rw [ra.len, hlen]; exact hl.symm, ?_⟩⟩
        obtain ⟨e2, hr2, nb⟩ := Ext.new hr1 hp (.tup xs)
        refine ⟨w1, ρ, s1, a, (env.ext e1).ext e2, hr2, ra.ext e2, ?_⟩
        cases hq : t a ρ s1 with
        | ok ρ1 s2 =>
          rw [hq] at c2
          exact fun w' σ' H' e3 hr3 env3 => c2 w' σ' H' (e2.trans e3) hr3 env3
        | no => rw [hq] at c2; exact c2.elim
        | exc => rw [hq] at c2; exact c2.elim
      · exact c2.elim
    · exact c2.elim
/-! ## {} -/
def newK : E MV := fun _ s => .ok (.p (.dK [] [])) s
def newKO : E MV := fun _ s => .ok (.o s.h.length) (s.new (.dK []))
def newT : E MV := fun _ s => .ok (.p (.dT [] [])) s
def newTO : E MV := fun _ s => .ok (.o s.h.length) (s.new (.dT []))
theorem es_newK (h : PE X e tDNewK) : PE X e (tM mg W newK) := pe_imp h fun σ H Q ⟨w, ρ, s, env, hr, c⟩ p hp => by
  obtain ⟨e1, h1, nb⟩ := Ext.new hr hp (.dK [])
  exact c w _ _ e1 h1 (show Rep mg w.bad _ _ _ by rw [Rep]; exact ⟨p, [], rfl, nb, .inl upd_same, rfl, List.nodup_nil, Nat.zero_le _, RepL.nil⟩)
theorem es_newKO (h : PE X e tDNewK) : PE X e (tM mg W newKO) := pe_imp h fun σ H Q ⟨w, ρ, s, env, hr, c⟩ p hp => by
  have e1 := Ext.alloc hr hp (.dK [])
  exact c (w.new p) _ _ e1 (hr.alloc hp ⟨[], upd_same, rfl, List.nodup_nil, Nat.zero_le _, rfl⟩) (MRep.fresh hr)
theorem es_newT (h : PE X e tDNewT) : PE X e (tM mg W newT) := pe_imp h fun σ H Q ⟨w, ρ, s, env, hr, c⟩ p hp => by
  obtain ⟨e1, h1, nb⟩ := Ext.new hr hp (.dT [])
  exact c w _ _ e1 h1 (show Rep mg w.bad _ _ _ by rw [Rep]; exact ⟨p, [], rfl, nb, .inl upd_same, rfl, List.nodup_nil, Nat.zero_le _, RepL.nil⟩)
theorem es_newTO (h : PE X e tDNewT) : PE X e (tM mg W newTO) := pe_imp h fun σ H Q ⟨w, ρ, s, env, hr, c⟩ p hp => by
  have e1 := Ext.alloc hr hp (.dT [])
  exact c (w.new p) _ _ e1 (hr.alloc hp ⟨[], upd_same, rfl, List.nodup_nil, Nat.zero_le _, rfl⟩) (MRep.fresh hr)
end
/-! ## a call with keywords -/
structure FnMK (P : Program) (w : World) (K : PySem.W.Frag) (mg : Str → Option Value) (base : Heap) (k : Nat) (x : Str) (n : Nat) (ks : List Str) (np : Nat) (gM : List MV → List MV → List MV) (m : DefV) : Prop where
  ex : ∃ (f : Addr) (fd : FuncData) (ps : List Str) (g : List Value → List Value → List Value) (gV : List V → List V → List V), ps.length = np ∧ FnG P w K mg base (L2.CX P w) k f fd ps (spM mg np m) ∧ mg x = some (.ref f) ∧ PySem.W.keepIn K (.ref f) = true ∧ KBn K fd ps n ks g gV ∧
    (∀ w H as bs vs zs, MRepL mg w H as vs → MRepL mg w H bs zs → as.length = n → bs.length = ks.length → MRepL mg w H (gM as bs) (gV vs zs))
section
variable {X : Cx} {mg : Gm} {W : WX} {e : Expr} {es : List Expr} {kws : List Keyword} {pos p : Pos} {n k j np : Nat} {x : Str} {ks : List Str} {m : DefV} {gM : List MV → List MV → List MV}
def callK (n nk np : Nat) (m : DefV) (gM : List MV → List MV → List MV) (ma mk : E (List MV)) : E MV := bind ma fun as => bind mk fun bs => lift fun s => if as.length = n ∧ bs.length = nk ∧ (gM as bs).length = np then m (gM as bs) s else .no
theorem ek_nil : PK X [] (tML mg W nilE) := ⟨fun pos pins s σ H Q I ⟨w, ρ, s', env, hr, c⟩ => pk_nil.run pos pins s σ H Q I (c w [] H (Ext.refl _ _) hr rfl)⟩
theorem ek_cons {nm : Option Str} {kpos : Pos} {ma : E MV} {mr : E (List MV)} (ha : PE X e (tM mg W ma)) (hr : PK X kws (tML mg W mr)) : PK X (⟨nm, e, kpos⟩ :: kws) (tML mg W (consE ma mr)) :=
  ⟨fun pos pins s0 σ H Q I ⟨w, ρ, s, env, hr', c⟩ => (pk_cons ha hr).run pos pins s0 σ H Q I (by
    refine ⟨w, ρ, s, env, hr', (CE.bind (r := ma ρ s) c).mono fun x H1 ⟨a, s1, w1, e1, hr1, ra, c1⟩ => ?_⟩
    refine ⟨w1, ρ, s1, env.ext e1, hr1, (CE.bind (r := mr ρ s1) c1).mono fun y H2 ⟨b, s2, w2, e2, hr2, rb, c2⟩ => ?_⟩
    exact c2 w2 (x :: y) H2 (Ext.refl _ _) hr2 ⟨x, y, rfl, ra.ext e2, rb⟩)⟩
theorem run_fnGK {CX : CXT} {f : Addr} {fd : FuncData} {ps : List Str} {sp : Sp} {E : XK} {g : List Value → List Value → List Value} {gV : List V → List V → List V} {pins : List (Addr × Obj)} {σ : L2.St} {H : Hp} {s : Shared} {Q : VK} {us ws : List Value} {vs zs : List V} (F : FnG X.prog X.w X.K X.mg X.base CX k f fd ps sp) (hr : Room k X.A) (gd : X.A.guards = some []) (hb : KBn X.K fd ps n ks g gV) (hx : ∀ s' e s'', Inv X pins σ H s' → CX X.stack H s' E e s'' → X.xe e s'')
    (I : Inv X pins σ H s) (r : Vals vs us) (rz : Vals zs ws) (l1 : vs.length = n) (l2 : zs.length = ks.length) (h : sp (gV vs zs) H Q E) : wpAny (model X.prog X.w) X.A (call (.ref f) us (ks.zip ws)) (EP X pins σ Q) X.xe s := by
  have r2 := hb.rel r rz
  refine wpAny_call (codeAny_mono (F.go X.A X.stack s H ⟨us, ks.zip ws⟩ (g us ws) (gV vs zs) Q E hr gd I.env0 (hb.to s us ws I.kIn (r.length.symm.trans l1) (rz.length.symm.trans l2)) r2 h) fun out s' hq => ?_)
  match out, hq with
  | .error e, hq => exact hx s e s' I hq
  | .ok (.ret u), hq => exact I.after hq
  | .ok .next, hq => exact hq.elim
  | .ok .brk, hq => exact hq.elim
  | .ok .cont, hq => exact hq.elim
/-- x(e, .., k = v, ..) -/
theorem es_callK {ma mk : E (List MV)} (F : FnMK X.prog X.w X.K X.mg X.base k x n ks np gM m) (hr : Room j X.A) (gd : X.A.guards = some []) (tk : Takes X W) (hmg : mg.mg = X.mg) (ha : PA X (e :: es) (tML mg W ma)) (hkw : PK X kws (tML mg W mk)) (hj : k ≤ j := by omega) (hg : Gl X x := by rfl) (hdb : (x == ("__debug__" : Str)) = false := by decide) {nk : Nat} (hnk : ks.length = nk := by rfl)
    (hall : (backToKw pos (keywordEach kws X.env)).all (·.1.isSome) = true := by rfl) (hks : (backToKw pos (keywordEach kws X.env)).filterMap (·.1) = ks := by rfl)
    (hpl : ((backTo pos (starEach (e :: es) X.env)).any (·.1) || (backToKw pos (keywordEach kws X.env)).any (·.1.isNone)) = false := by rfl) (he : starEach (e :: es) X.env = (false, eval e X.env) :: starEach es X.env := by rfl) :
    PE X (.Call (.Name x p) (e :: es) kws pos) (tM mg W (callK n nk np m gM ma mk)) := by
  subst hnk
  obtain ⟨m0, ex0⟩ := mg
  have hmg' : m0 = X.mg := hmg
  subst hmg'
  obtain ⟨f, fd, ps, g, gV, hps, F, hm, hk, hb, rel⟩ := F
  refine ⟨fun pins s0 σ H Q I ⟨w, ρ, s, env, hr', c⟩ => ?_⟩
  refine wpAny_Call_Name_kw (ld_glob I hg hm ?_ hdb)
  refine PySem.W.callWith_KW (h₀ := X.base) I.ok.mod.kin hk hall (thn (ha.run pos pins s0 σ H (fun vs H1 => tML ⟨X.mg, ex0⟩ W mk σ H1 fun zs H2 => vs.length = n ∧ zs.length = ks.length ∧ spM X.mg np m (gV vs zs) H2 Q (WE W σ)) I ⟨w, ρ, s, env, hr', ?_⟩) fun us s1 ⟨vs, H1, I1, r, q⟩ => ?_) hpl he
  · refine (CE.bind (R := MRepL X.mg) (r := ma ρ s) c).mono fun vs H1 ⟨as, s1, w1, e1, hr1, ra, c1⟩ => ?_
    refine ⟨w1, ρ, s1, env.ext e1, hr1, (CE.bind (R := MRepL X.mg) (r := mk ρ s1) c1).mono fun zs H2 ⟨bs, s2, w2, e2, hr2, rb, c2⟩ => ?_⟩
    have c3 : CE X.mg (MRep X.mg) (fun c d H => W c d σ H) w2 H2 (if as.length = n ∧ bs.length = ks.length ∧ (gM as bs).length = np then m (gM as bs) s2 else .no) Q := c2
    split at c3
    · rename_i h
      obtain ⟨h1, h2, h3⟩ := h
      exact ⟨(ra.len).trans h1, (rb.len).trans h2, w2, s2, gM as bs, hr2, rel w2 H2 as bs vs zs (ra.ext e2) rb h1 h2, h3, c3⟩
    · exact c3.elim
  · refine thn (hkw.run pos pins s1 σ H1 _ I1 q) fun ws s2 ⟨zs, H2, I2, rz, l1, l2, q2⟩ => ⟨I2.kIn, ?_⟩
    rw [hks]
    exact run_fnGK F (hr.mono hj) gd hb (fun s' e s'' I' h => passAt tk σ pins H2 s' e s'' I' h) I2 r rz l1 l2 q2
theorem es_callK0 {mk : E (List MV)} (F : FnMK X.prog X.w X.K X.mg X.base k x 0 ks np gM m) (hr : Room j X.A) (gd : X.A.guards = some []) (tk : Takes X W) (hmg : mg.mg = X.mg) (hkw : PK X kws (tML mg W mk)) (hj : k ≤ j := by omega) (hg : Gl X x := by rfl) (hdb : (x == ("__debug__" : Str)) = false := by decide) {nk : Nat} (hnk : ks.length = nk := by rfl)
    (hall : (backToKw pos (keywordEach kws X.env)).all (·.1.isSome) = true := by rfl) (hks : (backToKw pos (keywordEach kws X.env)).filterMap (·.1) = ks := by rfl)
    (hpl : ((backTo pos (starEach [] X.env)).any (·.1) || (backToKw pos (keywordEach kws X.env)).any (·.1.isNone)) = false := by rfl) :
    PE X (.Call (.Name x p) [] kws pos) (tM mg W (callK 0 nk np m gM nilE mk)) := by
  subst hnk
  obtain ⟨m0, ex0⟩ := mg
  have hmg' : m0 = X.mg := hmg
  subst hmg'
  obtain ⟨f, fd, ps, g, gV, hps, F, hm, hk, hb, rel⟩ := F
  refine ⟨fun pins s0 σ H Q I ⟨w, ρ, s, env, hr', c⟩ => ?_⟩
  refine wpAny_Call_Name_kw (ld_glob I hg hm ?_ hdb)
  refine PySem.W.callWith_KW0 (h₀ := X.base) I.ok.mod.kin hk hall (thn (hkw.run pos pins s0 σ H (fun zs H2 => zs.length = ks.length ∧ spM X.mg np m (gV [] zs) H2 Q (WE W σ)) I ⟨w, ρ, s, env, hr', ?_⟩) fun ws s2 ⟨zs, H2, I2, rz, l2, q2⟩ => ⟨I2.kIn, ?_⟩) hpl
  · have c1 : CE X.mg (MRep X.mg) (fun c d H => W c d σ H) w H ((mk ρ s).bind fun bs s => if ([] : List MV).length = 0 ∧ bs.length = ks.length ∧ (gM [] bs).length = np then m (gM [] bs) s else .no) Q := c
    refine (CE.bind (R := MRepL X.mg) (r := mk ρ s) c1).mono fun zs H2 ⟨bs, s2, w2, e2, hr2, rb, c2⟩ => ?_
    split at c2
    · rename_i h
      obtain ⟨h1, h2, h3⟩ := h
      exact ⟨(rb.len).trans h2, w2, s2, gM [] bs, hr2, rel w2 H2 [] bs [] zs rfl rb rfl h2, h3, c2⟩
    · exact c2.elim
  · rw [hks]
    exact run_fnGK (us := []) (vs := []) F (hr.mono hj) gd hb (fun s' e s'' I' h => passAt tk σ pins H2 s' e s'' I' h) I2 .nil rz rfl l2 q2
end
end MP

/-! ## MKit -/
set_option Elab.async false
set_option linter.all false
set_option maxRecDepth 100000
set_option maxHeartbeats 2000000
/-! MP: what a law's defs are shown from; the source of draws -/
namespace MP
open PySem PySem.Spec PyProof.Rows L2 AK
/-- the names of built-ins stand for the built-ins -/
structure Bts (mg : Str → Option Value) : Prop where
  abs : mg "abs" = none
  all : mg "all" = none
  any : mg "any" = none
  bool : mg "bool" = none
  dict : mg "dict" = none
  enumerate : mg "enumerate" = none
  int : mg "int" = none
  isinstance : mg "isinstance" = none
  len : mg "len" = none
  list : mg "list" = none
  max : mg "max" = none
  min : mg "min" = none
  range : mg "range" = none
  repr : mg "repr" = none
  reversed : mg "reversed" = none
  set : mg "set" = none
  sorted : mg "sorted" = none
  str : mg "str" = none
  sum : mg "sum" = none
  tuple : mg "tuple" = none
  zip : mg "zip" = none
  ValueError : mg "ValueError" = none
theorem bt_repr : bootBuiltins "repr" = some (.builtin "repr") := by decide +kernel
theorem room64 {k : Nat} {A : Around} (hr : Room k A) : A.units + 64 < cLine := by have := hr.un; omega
theorem room61 {k : Nat} {A : Around} (hr : Room k A) : A.units + 61 < cLine := by have := hr.un; omega
structure DefOk (K : PySem.W.Frag) (mg : Str → Option Value) (x : Str) (st : Stmt) (ps : List Str) : Prop where
  ex : ∃ (f : Addr) (fd : FuncData), Fun K x x st f fd ∧ mg x = some (.ref f) ∧ Binds K fd ps []
/-- items by their places -/
def selI {α : Type} (js : List Nat) (xs : List α) : List α := js.filterMap (xs[·]?)
theorem vals_selI {xs : List V} {us : List Value} (h : Vals xs us) : ∀ js : List Nat, Vals (selI js xs) (selI js us)
  | [] => .nil
  | j :: js => by
    have ih := vals_selI h js
    by_cases hj : j < xs.length
    · have hj2 : j < us.length := by rw [← h.length]; exact hj
      obtain ⟨u, hu, ru⟩ := h.get (i := j) (List.getElem?_eq_getElem hj)
      have e1 : selI (j :: js) xs = xs[j] :: selI js xs := by unfold selI; rw [List.filterMap_cons, List.getElem?_eq_getElem hj]
      have e2 : selI (j :: js) us = u :: selI js us := by unfold selI; rw [List.filterMap_cons, hu]
      rw [e1, e2]
      exact .cons ru ih
    · have e1 : selI (j :: js) xs = selI js xs := by unfold selI; rw [List.filterMap_cons, List.getElem?_eq_none (by omega)]
      have e2 : selI (j :: js) us = selI js us := by unfold selI; rw [List.filterMap_cons, List.getElem?_eq_none (by rw [← h.length]; omega)]
      rw [e1, e2]
      exact ih
theorem mrepL_selI {mg : Str → Option Value} {w : Wd} {H : Hp} {xs : List MV} {us : List V} (h : MRepL mg w H xs us) : ∀ js : List Nat, MRepL mg w H (selI js xs) (selI js us)
  | [] => rfl
  | j :: js => by
    have ih := mrepL_selI h js
    by_cases hj : j < xs.length
    · obtain ⟨u, hu, ru⟩ := h.get (i := j) (List.getElem?_eq_getElem hj)
      have e1 : selI (j :: js) xs = xs[j] :: selI js xs := by unfold selI; rw [List.filterMap_cons, List.getElem?_eq_getElem hj]
      have e2 : selI (j :: js) us = u :: selI js us := by unfold selI; rw [List.filterMap_cons, hu]
      rw [e1, e2]
      exact ⟨u, _, rfl, ru, ih⟩
    · have e1 : selI (j :: js) xs = selI js xs := by unfold selI; rw [List.filterMap_cons, List.getElem?_eq_none (by omega)]
      have e2 : selI (j :: js) us = selI js us := by unfold selI; rw [List.filterMap_cons, List.getElem?_eq_none (by rw [h.len]; omega)]
      rw [e1, e2]
      exact ih
section
variable {P : Program} {w : World} {K : PySem.W.Frag} {mg : Str → Option Value} {base : Heap} {x : Str} {st : Stmt} {N ps : List Str} {k ns : Nat} {mb : ST}
theorem DefOk.fn (o : DefOk K mg x st ps) (S0 : FnScope N ps (defScope st)) (hns : N.length = ns)
    (hb : ∀ (f : Addr) (cdv : Value) (B : Around) (up : List PySem.Env) (z : Shared) (H : Hp) (E : XK), Room k (B.deeper (envOfC x (defScope st) z.heap.objs.size f cdv)) → (B.deeper (envOfC x (defScope st) z.heap.objs.size f cdv)).guards = some [] →
      PSs (cxOf (L2.CX P w) P w K mg base N x (defScope st) f cdv B up z H E) (defBody st) (tMS ⟨mg, none⟩ (fun cls d _ H => E cls d H) mb)) : FnM P w K mg base (k + 1) x ps (defM ps.length ns mb) := by
  obtain ⟨f, fd, F, hm, hb0⟩ := o.ex
  exact fnM_of F S0 hm hb0 hns (hb f)
theorem DefOk.none (o : DefOk K mg x st ps) (S0 : FnScope N ps (defScope st)) : FnM P w K mg base (k + 1) x ps noDef := by
  obtain ⟨f, fd, F, hm, hb0⟩ := o.ex
  exact fnM_none F S0 hm hb0
/-- a call with keywords, without defaults: js puts the values in the parameters' order -/
theorem DefOk.kw {n np : Nat} {ks : List Str} {m : DefV} (js : List Nat) (o : DefOk K mg x st ps) (F : FnM P w K mg base k x ps m) (hp : ps.length = np)
    (hb : ∀ (kV doc pm : Value) (an : Option Addr) (cdv ct : Value) (us ws : List Value), us.length = n → ws.length = ks.length → bindArgs (PySem.W.fnOf x x (defArgs st) (defBody st) (defScope st) .none kV doc pm an cdv ct) ⟨us, ks.zip ws⟩ = pure (ps.zip (selI js (us ++ ws)))) : FnMK P w K mg base k x n ks np (fun as bs => selI js (as ++ bs)) m := by
  subst hp
  obtain ⟨f, fd, Fu, hm, _⟩ := o.ex
  obtain ⟨f2, fd2, FG, hm2, hk2, hb2, oc2, od2, osl2, lk2⟩ := F.ex
  obtain rfl : f = f2 := by rw [hm] at hm2; cases hm2; rfl
  obtain ⟨oc, od, kV, doc, pm, an, cdv, ct, osl, rfl, lk, _⟩ := Fu.ex
  rw [lk] at lk2
  cases lk2
  exact ⟨f, _, ps, fun us ws => selI js (us ++ ws), fun vs zs => selI js (vs ++ zs), rfl, FG, hm, hk2, ⟨fun s us ws _ h1 h2 => .of_eq (hb kV doc pm an cdv ct us ws h1 h2), fun r1 r2 => vals_selI (r1.append r2) js⟩, fun w H as bs vs zs h1 h2 _ _ => mrepL_selI (h1.append h2) js⟩
end
/-! ## x *= e -/
def mulI : Op2 := intOp (fun i j => decide (i.natAbs < 2 ^ 64)) fun i j => .int (i * j)
theorem sim_imul {mg : Gm} : SimIp mg (rI CMul fun i j => .int (i * j)) mulI := fun w s H a b x y X Q hr ra rb c => by
  unfold mulI intOp at c
  split at c
  · rename_i i j
    split at c
    · rename_i h
      have h' := of_decide_eq_true h
      exact ⟨i, j, m_int ra, m_int rb, .inl ⟨by omega, by omega⟩, c.okP hr (by rw [Rep])⟩
    · exact c.elim
  · exact c.elim
abbrev asgN (n : Nat) (ml : E (List MV)) (t : List MV → Env → S → Res Env) : ST := asgT (bind ml fun xs => if xs.length = n then ret xs else fun _ _ => .no) t
abbrev asgC (m : E MV) (t : TM) : ST := asgS m fun v ρ s => Calm (t v ρ s)
theorem gC {X : Cx} {x : Str} {a : Addr} {pos : Pos} (c : X.mg x = some (.ref a)) (hg : Gl X x := by rfl) (hd : (x == ("__debug__" : Str)) = false := by decide) : PE X (.Name x pos) (tC (.ref a)) := pe_glob hg c rfl hd
theorem bt_ValueError : bootBuiltins "ValueError" = some (.type "ValueError") := by decide +kernel
/-! ## draws -/
def trim (cs : List Int) : List Int := (cs.reverse.dropWhile fun x => decide (x = 0)).reverse
def Rn.draw (r : Rn) (m : Int) : Int × Rn := match (trim r.cells).reverse with
  | [] => (((r.stir * 48271 + 11) % 2147483647 / 64) % m, ⟨[], (r.stir * 48271 + 11) % 2147483647⟩)
  | x :: t => (x % m, ⟨t.reverse ++ [x / m], r.stir⟩)
theorem Rn.draw_lt {r : Rn} {m : Int} (h : 0 < m) : 0 ≤ (r.draw m).1 ∧ (r.draw m).1 < m := by
  unfold Rn.draw
  split
  · exact ⟨Int.emod_nonneg _ (by omega), Int.emod_lt_of_pos _ h⟩
  · exact ⟨Int.emod_nonneg _ (by omega), Int.emod_lt_of_pos _ h⟩
def drawV : DefV := fun vs s => match vs, s.g with
  | [.g, .p (.int m)], some r => if 0 < m ∧ m < 2 ^ 100 then .ok (.p (.int (r.draw m).1)) { s with g := some (r.draw m).2 } else .no
  | _, _ => .no
theorem drawV_ar : ∀ ds s, ds.length ≠ 2 → drawV ds s = .no := fun ds s h => by
  unfold drawV
  split
  · exact absurd rfl h
  · rfl
def sp_drawX : Sp := fun vs H Q _ => ∃ (g c : Addr) (m : Int) (r : Rn), vs = [.ref g, .int m] ∧ IsRng g c H ∧ H g = some (.lst [.ref c, .int r.stir]) ∧ H c = some (.lst (r.cells.map V.int)) ∧ 0 < m ∧ m < 2 ^ 100 ∧
  ∀ H', Fr (some (g, c)) H H' → H' g = some (.lst [.ref c, .int (r.draw m).2.stir]) → H' c = some (.lst ((r.draw m).2.cells.map V.int)) → Q (.int (r.draw m).1) H'
section
variable {P : Program} {w : World} {K : PySem.W.Frag} {mg : Str → Option Value} {base : Heap} {k : Nat} {f : Addr} {fd : FuncData} {ps : List Str} {sp sp' : Sp}
theorem FnG.imp (o : FnG P w K mg base (L2.CX P w) k f fd ps sp) (h : ∀ vs H Q E, sp' vs H Q E → sp vs H Q E) : FnG P w K mg base (L2.CX P w) k f fd ps sp' :=
  ⟨fun vs H Q E q => o.gl vs H Q E (h vs H Q E q), fun B up z H ar us vs Q E a b c d e q => o.go B up z H ar us vs Q E a b c d e (h vs H Q E q)⟩
theorem FnG.of0 (o : FnOk P w K mg base CX0 k f fd ps sp) : FnG P w K mg base (L2.CX P w) k f fd ps sp :=
  ⟨o.len, fun B up z H ar us vs Q E a _ b c d e => codeAny_mono (o.run B up z H ar us vs Q E a b c d e) fun out s' hq => by
    match out, hq with
    | .error e, hq => exact False.elim hq
    | .ok (.ret u), hq => exact hq
    | .ok .next, hq => exact hq
    | .ok .brk, hq => exact hq
    | .ok .cont, hq => exact hq⟩
theorem draw_of {vs : List V} {H : Hp} {Q : VK} {E : XK} (h : spM mg 2 drawV vs H Q E) : sp_drawX vs H Q E := by
  obtain ⟨w, s, ds, hr, rs, hl, c⟩ := h
  unfold drawV at c
  split at c
  · rename_i m r hg
    split at c
    · rename_i hm
      obtain ⟨u, _, rfl, r1, v, _, rfl, r2, r3⟩ := rs
      subst r3
      obtain rfl := m_int (mg := ⟨mg, none⟩) r2
      have rn := hr.rn
      rw [hg] at rn
      obtain ⟨a, d, h1, h2, h3, h4, h5, h6, h7, h8, h9⟩ := id rn
      obtain ⟨p, hp, rfl⟩ := r1
      rw [h1] at hp
      cases hp
      refine ⟨a, d, m, r, rfl, ⟨r.cells, r.stir, h3, h4, h5, h6, h7, h8⟩, h3, h4, hm.1, hm.2, fun H' fr k1 k2 => ?_⟩
      have off : ∀ b, b ≠ a → b ≠ d → H b ≠ none → H' b = H b := fun b n1 n2 hn => by
        cases e : H b with
        | none => exact absurd e hn
        | some o => exact fr.keep b o ⟨n1, n2⟩ e
      have ab : w.bad a := .inr (.inl ⟨_, h1, .inl rfl⟩)
      have db : w.bad d := .inr (.inl ⟨_, h1, .inr rfl⟩)
      have e : Ext w H w H' := ⟨Nat.le_refl _, fun _ _ _ h => h, .inr rfl, fun b o n q => ⟨n, o, by rw [off b (fun z => n (z ▸ ab)) (fun z => n (z ▸ db)) (by rw [q]; exact fun z => nomatch z)]; exact q, Like.refl o⟩, fun b hb => ⟨hb, off b ((hr.ap b hb).2 _ h1).1 ((hr.ap b hb).2 _ h1).2 (hr.there b (.inr (.inr hb)))⟩⟩
      have q := fr.good'
      obtain ⟨cs, st, g1, g2, g3, g4, g5, g6⟩ := q
      have e1 : st = (r.draw m).2.stir := by rw [k1] at g1; cases g1; rfl
      have e2 : cs = (r.draw m).2.cells := by
        rw [k2] at g2
        injection g2 with z
        injection z with z
        exact ((List.map_inj_right (fun _ _ e => V.int.inj e)).mp z).symm
      subst e1; subst e2
      refine c w (.int (r.draw m).1) H' e ⟨hr.len, fun n o q => ?_, hr.inj, fun b hb => ?_, hr.ap, ?_⟩ (show Rep mg _ _ _ _ by rw [Rep])
      · obtain ⟨b, q1, q2⟩ := hr.ob n o q
        have nb : H' b = H b := off b (fun z => (h9 n).1 (z ▸ q1)) (fun z => (h9 n).2 (z ▸ q1)) (hr.there b (.inl ⟨n, q1⟩))
        exact ⟨b, q1, q2.ext e nb⟩
      · by_cases z1 : b = a
        · rw [z1, k1]; exact fun z => nomatch z
        · by_cases z2 : b = d
          · rw [z2, k2]; exact fun z => nomatch z
          · rw [off b z1 z2 (hr.there b hb)]; exact hr.there b hb
      · exact ⟨a, d, h1, h2, k1, k2, g3, g4, g5, g6, h9⟩
    · exact c.elim
  · exact c.elim
end
end MP

/-! ## K11pa -/
set_option Elab.async false
set_option linter.all false
set_option maxRecDepth 100000
set_option maxHeartbeats 4000000
namespace K11
open PySem PySem.Spec PyProof.Rows L2 AK MP
def topS (i : Nat) : Stmt := PySem.Challenge.pw_asmany_k11_whole_formulas_and_their_firs.main.body.getD i (.Pass ⟨0, 0, 0, 0⟩)
abbrev s_is_integer : Stmt := topS 10
abbrev n_is_integer : List Str := ["value"]
abbrev p_is_integer : List Str := ["value"]
theorem sc_is_integer : FnScope n_is_integer p_is_integer (defScope s_is_integer) := ⟨rfl, rfl, rfl, by decide +kernel, rfl, by decide +kernel, by decide +kernel⟩
abbrev s_is_number : Stmt := topS 11
abbrev n_is_number : List Str := ["value"]
abbrev p_is_number : List Str := ["value"]
theorem sc_is_number : FnScope n_is_number p_is_number (defScope s_is_number) := ⟨rfl, rfl, rfl, by decide +kernel, rfl, by decide +kernel, by decide +kernel⟩
abbrev s_is_name : Stmt := topS 12
abbrev n_is_name : List Str := ["value", "sign"]
abbrev p_is_name : List Str := ["value"]
theorem sc_is_name : FnScope n_is_name p_is_name (defScope s_is_name) := ⟨rfl, rfl, rfl, by decide +kernel, rfl, by decide +kernel, by decide +kernel⟩
abbrev s_parts_of : Stmt := topS 15
abbrev n_parts_of : List Str := ["value"]
abbrev p_parts_of : List Str := ["value"]
theorem sc_parts_of : FnScope n_parts_of p_parts_of (defScope s_parts_of) := ⟨rfl, rfl, rfl, by decide +kernel, rfl, by decide +kernel, by decide +kernel⟩
abbrev s_check_formula : Stmt := topS 16
abbrev n_check_formula : List Str := ["value", "open_parts", "seen", "joints", "at", "part", "above", "parts", "wrong", "item"]
abbrev p_check_formula : List Str := ["value"]
theorem sc_check_formula : FnScope n_check_formula p_check_formula (defScope s_check_formula) := ⟨rfl, rfl, rfl, by decide +kernel, rfl, by decide +kernel, by decide +kernel⟩
abbrev s_names_in : Stmt := topS 17
abbrev n_names_in : List Str := ["formula", "part", "name"]
abbrev p_names_in : List Str := ["formula"]
theorem sc_names_in : FnScope n_names_in p_names_in (defScope s_names_in) := ⟨rfl, rfl, rfl, by decide +kernel, rfl, by decide +kernel, by decide +kernel⟩
abbrev s_kinds_of : Stmt := topS 18
abbrev n_kinds_of : List Str := ["formula"]
abbrev p_kinds_of : List Str := ["formula"]
theorem sc_kinds_of : FnScope n_kinds_of p_kinds_of (defScope s_kinds_of) := ⟨rfl, rfl, rfl, by decide +kernel, rfl, by decide +kernel, by decide +kernel⟩
abbrev s__law_heap : Stmt := topS 20
abbrev n__law_heap : List Str := ["_law_script", "_law_cells", "_law_stir", "_law_cell"]
abbrev p__law_heap : List Str := ["_law_script"]
theorem sc__law_heap : FnScope n__law_heap p__law_heap (defScope s__law_heap) := ⟨rfl, rfl, rfl, by decide +kernel, rfl, by decide +kernel, by decide +kernel⟩
abbrev s__law_draw : Stmt := topS 21
abbrev n__law_draw : List Str := ["_law_heap_here", "_law_many", "_law_rest"]
abbrev p__law_draw : List Str := ["_law_heap_here", "_law_many"]
theorem sc__law_draw : FnScope n__law_draw p__law_draw (defScope s__law_draw) := ⟨rfl, rfl, rfl, by decide +kernel, rfl, by decide +kernel, by decide +kernel⟩
abbrev s__law_pick : Stmt := topS 22
abbrev n__law_pick : List Str := ["_law_heap_here", "_law_some"]
abbrev p__law_pick : List Str := ["_law_heap_here", "_law_some"]
theorem sc__law_pick : FnScope n__law_pick p__law_pick (defScope s__law_pick) := ⟨rfl, rfl, rfl, by decide +kernel, rfl, by decide +kernel, by decide +kernel⟩
abbrev s__law_names : Stmt := topS 23
abbrev n__law_names : List Str := ["_law_heap_here", "_law_many", "_law_letters", "_law_found", "_law_front", "_law_turn", "_law_word", "_law_place"]
abbrev p__law_names : List Str := ["_law_heap_here", "_law_many"]
theorem sc__law_names : FnScope n__law_names p__law_names (defScope s__law_names) := ⟨rfl, rfl, rfl, by decide +kernel, rfl, by decide +kernel, by decide +kernel⟩
abbrev s__law_mixed : Stmt := topS 24
abbrev n__law_mixed : List Str := ["_law_heap_here", "_law_some", "_law_rest", "_law_found", "_law_turn"]
abbrev p__law_mixed : List Str := ["_law_heap_here", "_law_some"]
theorem sc__law_mixed : FnScope n__law_mixed p__law_mixed (defScope s__law_mixed) := ⟨rfl, rfl, rfl, by decide +kernel, rfl, by decide +kernel, by decide +kernel⟩
abbrev s__law_formula : Stmt := topS 25
abbrev n__law_formula : List Str := ["_law_heap_here", "_law_names_here", "_law_room", "_law_number", "_law_word", "_law_parts_here", "_law_rest", "_law_turn", "_law_cut"]
abbrev p__law_formula : List Str := ["_law_heap_here", "_law_names_here", "_law_room"]
theorem sc__law_formula : FnScope n__law_formula p__law_formula (defScope s__law_formula) := ⟨rfl, rfl, rfl, by decide +kernel, rfl, by decide +kernel, by decide +kernel⟩
abbrev s__law_parts : Stmt := topS 26
abbrev n__law_parts : List Str := ["_law_formula_here", "_law_found", "_law_part"]
abbrev p__law_parts : List Str := ["_law_formula_here"]
theorem sc__law_parts : FnScope n__law_parts p__law_parts (defScope s__law_parts) := ⟨rfl, rfl, rfl, by decide +kernel, rfl, by decide +kernel, by decide +kernel⟩
abbrev s__law_replaced : Stmt := topS 27
abbrev n__law_replaced : List Str := ["_law_formula_here", "_law_count", "_law_at", "_law_new", "_law_here", "_law_part"]
abbrev p__law_replaced : List Str := ["_law_formula_here", "_law_count", "_law_at", "_law_new"]
theorem sc__law_replaced : FnScope n__law_replaced p__law_replaced (defScope s__law_replaced) := ⟨rfl, rfl, rfl, by decide +kernel, rfl, by decide +kernel, by decide +kernel⟩
abbrev s__law_edge : Stmt := topS 28
abbrev n__law_edge : List Str := ["_law_heap_here", "_law_names_here", "_law_formula_here", "_law_parts_here", "_law_factors", "_law_at", "_law_inner", "_law_number"]
abbrev p__law_edge : List Str := ["_law_heap_here", "_law_names_here"]
theorem sc__law_edge : FnScope n__law_edge p__law_edge (defScope s__law_edge) := ⟨rfl, rfl, rfl, by decide +kernel, rfl, by decide +kernel, by decide +kernel⟩
abbrev s__law_is_name : Stmt := topS 29
abbrev n__law_is_name : List Str := ["_law_value", "_law_sign"]
abbrev p__law_is_name : List Str := ["_law_value"]
theorem sc__law_is_name : FnScope n__law_is_name p__law_is_name (defScope s__law_is_name) := ⟨rfl, rfl, rfl, by decide +kernel, rfl, by decide +kernel, by decide +kernel⟩
abbrev s__law_inside : Stmt := topS 30
abbrev n__law_inside : List Str := ["_law_value"]
abbrev p__law_inside : List Str := ["_law_value"]
theorem sc__law_inside : FnScope n__law_inside p__law_inside (defScope s__law_inside) := ⟨rfl, rfl, rfl, by decide +kernel, rfl, by decide +kernel, by decide +kernel⟩
abbrev s__law_wrong : Stmt := topS 31
abbrev n__law_wrong : List Str := ["_law_value", "_law_seen", "_law_above", "_law_here", "_law_inside_here", "_law_part", "_law_found"]
abbrev p__law_wrong : List Str := ["_law_value", "_law_seen", "_law_above"]
theorem sc__law_wrong : FnScope n__law_wrong p__law_wrong (defScope s__law_wrong) := ⟨rfl, rfl, rfl, by decide +kernel, rfl, by decide +kernel, by decide +kernel⟩
abbrev s__law_odd : Stmt := topS 32
abbrev n__law_odd : List Str := ["_law_heap_here", "_law_part", "_law_names_here", "_law_kind", "_law_name", "_law_word", "_law_other"]
abbrev p__law_odd : List Str := ["_law_heap_here", "_law_part", "_law_names_here"]
theorem sc__law_odd : FnScope n__law_odd p__law_odd (defScope s__law_odd) := ⟨rfl, rfl, rfl, by decide +kernel, rfl, by decide +kernel, by decide +kernel⟩
abbrev s__law_heard : Stmt := topS 33
abbrev n__law_heard : List Str := ["_law_value", "error"]
abbrev p__law_heard : List Str := ["_law_value"]
theorem sc__law_heard : FnScope n__law_heard p__law_heard (defScope s__law_heard) := ⟨rfl, rfl, rfl, by decide +kernel, rfl, by decide +kernel, by decide +kernel⟩
abbrev s__law_right : Stmt := topS 34
abbrev n__law_right : List Str := ["_law_value", "_law_seen", "_law_shown", "_law_wrong_here", "_law_told"]
abbrev p__law_right : List Str := ["_law_value"]
theorem sc__law_right : FnScope n__law_right p__law_right (defScope s__law_right) := ⟨rfl, rfl, rfl, by decide +kernel, rfl, by decide +kernel, by decide +kernel⟩
abbrev s__law_deep_right : Stmt := topS 35
abbrev n__law_deep_right : List Str := ["_law_heap_here", "_law_words", "_law_many", "_law_deep", "_law_high", "_law_turn", "_law_late"]
abbrev p__law_deep_right : List Str := ["_law_heap_here"]
theorem sc__law_deep_right : FnScope n__law_deep_right p__law_deep_right (defScope s__law_deep_right) := ⟨rfl, rfl, rfl, by decide +kernel, rfl, by decide +kernel, by decide +kernel⟩
abbrev s_law : Stmt := topS 36
abbrev n_law : List Str := ["_law_script", "_law_heap_here", "_law_names_here", "_law_formula_here", "_law_turn", "_law_parts_here", "_law_at", "_law_again", "_law_spoilt", "_law_both"]
abbrev p_law : List Str := ["_law_script"]
theorem sc_law : FnScope n_law p_law (defScope s_law) := ⟨rfl, rfl, rfl, by decide +kernel, rfl, by decide +kernel, by decide +kernel⟩
def dec_InvalidFormula : Str → Option Bool := fun c => if c = "InvalidFormula" then some true else none
def ix_ValueError : Str → Option Bool := fun c => if c = "InvalidFormula" then some true else none
def ix_PoolError : Str → Option Bool := fun c => if c = "InvalidFormula" then some true else none
def ix_Refused : Str → Option Bool := fun c => if c = "InvalidFormula" then some false else none
def ix_InvalidText : Str → Option Bool := fun c => if c = "InvalidFormula" then some false else none
def ix_InvalidNumber : Str → Option Bool := fun c => if c = "InvalidFormula" then some false else none
structure Kt (P : Program) (K : PySem.W.Frag) (mg : Str → Option Value) where
  bt : Bts mg
  c_LETTERS : ∃ t, mg "LETTERS" = some (.str "abcdefghijklmnopqrstuvwxyz" t)
  c_LONGEST_NAME : ∃ t, mg "LONGEST_NAME" = some (.int 5 t)
  c_MOST_AMOUNT : ∃ t, mg "MOST_AMOUNT" = some (.int 60 t)
  c_MOST_KINDS : ∃ t, mg "MOST_KINDS" = some (.int 8 t)
  C_PoolError : Addr
  e_PoolError_g : mg "PoolError" = some (.ref C_PoolError)
  C_InvalidText : Addr
  e_InvalidText_g : mg "InvalidText" = some (.ref C_InvalidText)
  C_InvalidFormula : Addr
  e_InvalidFormula_g : mg "InvalidFormula" = some (.ref C_InvalidFormula)
  I_InvalidFormula : Addr
  e_InvalidFormula_T : PySem.OwnX.OwnTxt P K mg "InvalidFormula" "at" C_InvalidFormula I_InvalidFormula
  C_InvalidNumber : Addr
  e_InvalidNumber_g : mg "InvalidNumber" = some (.ref C_InvalidNumber)
  C_Refused : Addr
  e_Refused_g : mg "Refused" = some (.ref C_Refused)
  x_InvalidFormula : ∀ c b, dec_InvalidFormula c = some b → ∀ C, mg c = some (.ref C) → PySem.W.exmOne K (.ref C) (.ref C_InvalidFormula) = some b
  t_ValueError : ∀ c r C, ix_ValueError c = some r → mg c = some (.ref C) → ExcC K C ∧ PySem.W.kitOne K (.ref C) (.type "ValueError") = some r
  t_PoolError : ∀ c r C, ix_PoolError c = some r → mg c = some (.ref C) → ExcC K C ∧ PySem.W.kitOne K (.ref C) (.ref C_PoolError) = some r
  t_Refused : ∀ c r C, ix_Refused c = some r → mg c = some (.ref C) → ExcC K C ∧ PySem.W.kitOne K (.ref C) (.ref C_Refused) = some r
  t_InvalidText : ∀ c r C, ix_InvalidText c = some r → mg c = some (.ref C) → ExcC K C ∧ PySem.W.kitOne K (.ref C) (.ref C_InvalidText) = some r
  t_InvalidNumber : ∀ c r C, ix_InvalidNumber c = some r → mg c = some (.ref C) → ExcC K C ∧ PySem.W.kitOne K (.ref C) (.ref C_InvalidNumber) = some r
  d_is_integer : DefOk K mg "is_integer" s_is_integer p_is_integer
  d_is_number : DefOk K mg "is_number" s_is_number p_is_number
  d_is_name : DefOk K mg "is_name" s_is_name p_is_name
  d_parts_of : DefOk K mg "parts_of" s_parts_of p_parts_of
  d_check_formula : DefOk K mg "check_formula" s_check_formula p_check_formula
  d_names_in : DefOk K mg "names_in" s_names_in p_names_in
  d_kinds_of : DefOk K mg "kinds_of" s_kinds_of p_kinds_of
  d__law_heap : DefOk K mg "_law_heap" s__law_heap p__law_heap
  d__law_draw : DefOk K mg "_law_draw" s__law_draw p__law_draw
  d__law_pick : DefOk K mg "_law_pick" s__law_pick p__law_pick
  d__law_names : DefOk K mg "_law_names" s__law_names p__law_names
  d__law_mixed : DefOk K mg "_law_mixed" s__law_mixed p__law_mixed
  d__law_formula : DefOk K mg "_law_formula" s__law_formula p__law_formula
  d__law_parts : DefOk K mg "_law_parts" s__law_parts p__law_parts
  d__law_replaced : DefOk K mg "_law_replaced" s__law_replaced p__law_replaced
  d__law_edge : DefOk K mg "_law_edge" s__law_edge p__law_edge
  d__law_is_name : DefOk K mg "_law_is_name" s__law_is_name p__law_is_name
  d__law_inside : DefOk K mg "_law_inside" s__law_inside p__law_inside
  d__law_wrong : DefOk K mg "_law_wrong" s__law_wrong p__law_wrong
  d__law_odd : DefOk K mg "_law_odd" s__law_odd p__law_odd
  d__law_heard : DefOk K mg "_law_heard" s__law_heard p__law_heard
  d__law_right : DefOk K mg "_law_right" s__law_right p__law_right
  d__law_deep_right : DefOk K mg "_law_deep_right" s__law_deep_right p__law_deep_right
  d_law : DefOk K mg "law" s_law p_law
end K11

/-! ## K11py -/
set_option Elab.async false
set_option linter.all false
set_option maxRecDepth 100000
set_option maxHeartbeats 4000000
namespace K11
open PySem PySem.Spec PyProof.Rows L2 AK
local macro_rules | `(tactic| walk_at "look") => `(tactic| first
  | assumption
  | with_reducible exact Fr.tup (by assumption) (by walk_at "look")
  | with_reducible exact Same.tup (by assumption) (by walk_at "look")
  | with_reducible exact FrmV.imm (Fr.imm (by assumption)) (by walk_at "look")
  | with_reducible exact FrmV.imm (Imm.of_same (by assumption)) (by walk_at "look")
  | with_reducible exact FrmL.imm (Fr.imm (by assumption)) (by walk_at "look")
  | with_reducible exact FrmL.imm (Imm.of_same (by assumption)) (by walk_at "look"))
local macro_rules | `(tactic| walk_at "v") => `(tactic| repeat (first
  | (with_reducible first
    | refine v_seq ?_ | refine v_next ?_ | refine v_set ?_ | refine v_ret ?_ | refine v_retN ?_ | refine v_drop ?_ | refine v_brk ?_ | refine v_if ?_
    | refine v_c ?_ | refine v_op ?_ | refine v_un ?_ | refine v_nil ?_ | refine v_cons ?_ | refine v_cb ?_ | refine v_call ?_ | refine v_test ?_ | refine v_tB ?_ | refine v_bl ?_
    | refine v_and ?_ | refine v_or ?_ | refine v_not ?_ | refine v_andV ?_ | refine v_orV ?_ | refine v_notV ?_ | refine v_ifE ?_ | refine v_true ?_ | refine v_false ?_ | refine v_ntrue ?_ | refine v_nfalse ?_
    | refine v_I0 ?_ | refine v_U ?_ | refine v_par ?_ | refine v_par2 ?_ | refine v_isII ?_ | refine v_isIB ?_ | refine v_lc ?_ | refine v_itup ?_ | refine v_ilist ?_
    | refine v_abs ?_ | refine v_max2 ?_ | refine v_int ?_ | refine v_intB ?_ | refine v_isN ?_ | refine v_notN ?_ | refine v_sl ?_ | refine v_np ?_ | refine v_pt ?_ | refine v_pi ?_ | refine v_bm ?_ | refine v_bm0 ?_ | refine v_revL ?_ | refine v_tup ?_ | refine v_lst ?_ | refine v_lc2 ?_ | refine v_dgetS ?_ | refine v_dc ?_ | refine v_zip ?_ | refine v_for ?_ | refine v_irng ?_ | refine v_asg ?_ | refine v_gsub ?_ | refine v_dnew ?_ | refine v_dput0 ?_ | refine v_din0 ?_ | refine v_dget20 ?_ | refine v_irng2 ?_ | refine v_par3 ?_ | refine v_par33 ?_ | refine v_m1 ?_ | refine v_istr ?_ | refine v_chain ?_ | refine v_inSg ?_)
  | ((with_reducible refine' v_var ?h ?_); (case h => with_unfolding_all rfl))
  | ((with_reducible refine v_eq ?h ?_); (case h => with_unfolding_all rfl))
  | ((with_reducible refine v_ne ?h ?_); (case h => with_unfolding_all rfl))
  | ((with_reducible refine' v_ixT ?h ?e ?_); (case h => exact SqT.of (by walk_at "look")); (case e => with_unfolding_all rfl))
  | ((with_reducible refine' v_ixL ?h ?e ?_); (case h => exact SqL.of (by assumption)); (case e => with_unfolding_all rfl))))

section
variable {P : Program} {w : World} {K : PySem.W.Frag} {mg : Str → Option Value} {base : Heap} {f : Addr} {fd : FuncData}
theorem ok_heap (F : Fun K "_law_heap" "_law_heap" s__law_heap f fd) (B : MP.Bts mg) : FnOk P w K mg base CX0 1 f fd p__law_heap (sp_heap K) := by
  refine F.ok sc__law_heap (fun vs H Q E h => ?_) (fun cdv A outer s H vs Q E hr h => ?_)
  · obtain ⟨a, ns, rfl, _⟩ := h; rfl
  obtain ⟨a, ns, rfl, ha, hl, q⟩ := h
  refine ⟨_, (pss_cons (ps_par (i := 1) (j := 2) rfl sc__law_heap.nd rfl rfl (by decide) rfl rfl (pa_cons (pe_lc (own := [("_law_cell", 3)]) (g := gName 3) rfl sc__law_heap.nd (piL (K := K) rfl (pe_slice (slL (K := K) rfl) (pv 0) po_none (po_some pe_int))) (blkOk_by (own := [("_law_cell", 3)]) (N := n__law_heap) (sc := defScope s__law_heap) (by decide +kernel)) (fun _ _ _ _ _ => (pg_name (i := 3) sc__law_heap.nd rfl (Or.inl rfl))) (fun _ _ _ _ _ => pts_nil) (fun _ _ _ _ _ => (cb bt_abs (crAbs (K := K) rfl) B.abs (pa_cons (pv 3) pa_nil)))) (pa_cons pe_int pa_nil)) rfl)
(pss_cons (ps_for PassesOwn.never rfl (piL (K := K) rfl (pv 1)) (pg_name (i := 3) sc__law_heap.nd rfl (Or.inl rfl))
(pss_one (ps_set (i := 2) sc__law_heap.nd rfl (Or.inl rfl) (pe_op op_mod (ct bt_int (crInt (K := K) rfl) B.int (pa_cons (pe_op op_add (pe_op op_add (pe_op op_mul (pv 2) pe_int) (pe_op op_mod (ct bt_int (crInt (K := K) rfl) B.int (pa_cons (pv 3) pa_nil)) pe_int)) pe_int) pa_nil)) pe_int))))
(pss_one (ps_ret (pe_lst (pa_cons (revL (K := K) rfl (pe_lc (own := [("_law_cell", 3)]) (g := gName 3) rfl sc__law_heap.nd (piL (K := K) rfl (pv 1)) (blkOk_by (own := [("_law_cell", 3)]) (N := n__law_heap) (sc := defScope s__law_heap) (by decide +kernel)) (fun _ _ _ _ _ => (pg_name (i := 3) sc__law_heap.nd rfl (Or.inl rfl))) (fun _ _ _ _ _ => pts_one (pt_cmpR op_ge (pv 3) (pe_op op_pow pe_int pe_int) (nomark _))) (fun _ _ _ _ _ => (pv 3)))) (pa_cons (pv 2) pa_nil))))))), ?_⟩
  walk_at "v"
  refine v_slLS ha fun p1 H1 n1 e1 h1 => ?_
  have hc : cutV (ns.map V.int) none (some 60) = (ns.take 60).map V.int := by rw [show (60 : Int) = ((60 : Nat) : Int) from rfl, cut_take, List.map_take]
  rw [hc] at h1
  refine v_lcLF none h1 trivial trivial (fun x => .int (if x < 0 then -x else x)) (by rw [List.length_take]; omega) (fun x => rfl) (fun x H2 Qn hx f2 qn => ?_) (fun D H2 hD f2 e2 => ?_)
  · walk_at "v"
    exact qn _ (Fr.refl trivial)
  · walk_at "v"
    have hcs : H2 D = some (HO.lst (((ns.take 60).map fun x => if x < 0 then -x else x).map V.int)) := by rw [e2, List.map_map]; rfl
    refine v_forL (SqL.of hcs) (fun i σ H' => H' = H2 ∧ ∃ (k : Int) (y : Option V), σ = [some (.ref a), some (.ref D), some (.int k), y] ∧ 0 ≤ k ∧ k < 2147483647) ⟨rfl, 7129, none, rfl, by omega, by omega⟩ (fun i σ H' _ q => by rw [q.1]; exact SqL.of hcs) (fun i x σ H' hx q => ?_) (fun σ H' q => ?_)
    · obtain ⟨rfl, k, y, rfl, hk0, hk1⟩ := q
      rw [List.getElem?_map] at hx
      obtain ⟨z, _, rfl⟩ := Option.map_eq_some_iff.mp hx
      walk_at "v"
      refine v_I (.inl ⟨by omega, by omega⟩) ?_
      walk_at "v"
      refine v_I (show (0 : Int) < 2147483543 by decide) ?_
      walk_at "v"
      refine v_I (show (0 : Int) < 2147483647 by decide) ?_
      refine ⟨rfl, _, some (.int z), rfl, ?_, ?_⟩
      · exact Int.emod_nonneg _ (by decide)
      · exact Int.emod_lt_of_pos _ (by decide)
    · obtain ⟨rfl, k, y, rfl, hk0, hk1⟩ := q
      walk_at "v"
      refine v_lcLP none hcs (Off.new trivial hD) trivial (fun x => decide (1000000000000000000 ≤ x)) V.int (by rw [List.length_map, List.length_take]; omega) (fun x => rfl) (fun x H3 Qt hx f3 qt => ?_) (fun x H3 Qn hx _ f3 qn => ?_) (fun D2 H3 hD2 f3 e3 => ?_)
      · walk_at "v"
        refine v_I ⟨by decide, by decide, by decide⟩ ?_
        walk_at "v"
        exact qt _ (Fr.refl trivial)
      · walk_at "v"
        exact qn _ (Fr.refl trivial)
      · refine v_rev e3 fun p3 H4 n4 s4 h4 => ?_
        walk_at "v"
        refine v_dl (fun g H5 n5 s5 h5 => ?_)
        have s1 : Same H H4 := e1.trans (f2.to.trans (f3.to.trans s4))
        refine q g p3 H5 (s1.free n5) ((e1.trans (f2.to.trans f3.to)).free n4) (s1.trans s5) ?_
        refine ⟨(((ns.take 60).map fun x => if x < 0 then -x else x).filter fun x => decide (1000000000000000000 ≤ x)).reverse, k, h5, ?_, ?_, ?_, hk0, hk1⟩
        · rw [s5 _ _ h4, List.map_reverse]
        · intro x hx
          rw [List.mem_reverse] at hx
          have := of_decide_eq_true (List.mem_filter.mp hx).2
          omega
        · rw [List.length_reverse]
          refine Nat.le_trans (List.length_filter_le _ _) ?_
          rw [List.length_map, List.length_take]; omega
theorem trim_snoc0 (r : List Int) : MP.trim (r ++ [0]) = MP.trim r := by unfold MP.trim; rw [List.reverse_append, List.reverse_singleton, List.singleton_append, List.dropWhile_cons_of_pos (by simp)]
theorem trim_snoc {r : List Int} {x : Int} (h : x ≠ 0) : MP.trim (r ++ [x]) = r ++ [x] := by unfold MP.trim; rw [List.reverse_append, List.reverse_singleton, List.singleton_append, List.dropWhile_cons_of_neg (by simpa using h), List.reverse_cons, List.reverse_reverse]
theorem ok_draw (F : Fun K "_law_draw" "_law_draw" s__law_draw f fd) (B : MP.Bts mg) : FnOk P w K mg base CX0 1 f fd p__law_draw MP.sp_drawX := by
  refine F.ok sc__law_draw (fun vs H Q E h => ?_) (fun cdv A outer s H vs Q E hr h => ?_)
  · obtain ⟨g, c, m, rn, hv, _⟩ := h; rw [hv]; rfl
  obtain ⟨g, c, m, rn, hv, hg, hgs0, hcs0, hm0, hm1, q⟩ := h
  subst hv
  have qE : MP.trim rn.cells = [] → ∀ H', Fr (some (g, c)) H H' → H' g = some (.lst [.ref c, .int ((rn.stir * 48271 + 11) % 2147483647)]) → H' c = some (.lst []) → Q (.int (((rn.stir * 48271 + 11) % 2147483647 / 64) % m)) H' := fun e H' f1 h1 h2 => by
    have ed : rn.draw m = (((rn.stir * 48271 + 11) % 2147483647 / 64) % m, ⟨[], (rn.stir * 48271 + 11) % 2147483647⟩) := by unfold MP.Rn.draw; rw [e]; rfl
    have := q H' f1 (by rw [ed]; exact h1) (by rw [ed]; exact h2)
    rw [ed] at this; exact this
  have qS : ∀ r x, MP.trim rn.cells = r ++ [x] → ∀ H', Fr (some (g, c)) H H' → H' g = some (.lst [.ref c, .int rn.stir]) → H' c = some (.lst ((r ++ [x / m]).map V.int)) → Q (.int (x % m)) H' := fun r x e H' f1 h1 h2 => by
    have ed : rn.draw m = (x % m, ⟨r ++ [x / m], rn.stir⟩) := by unfold MP.Rn.draw; rw [e, List.reverse_append, List.reverse_singleton, List.singleton_append]; show (x % m, (⟨r.reverse.reverse ++ [x / m], rn.stir⟩ : MP.Rn)) = _; rw [List.reverse_reverse]
    have := q H' f1 (by rw [ed]; exact h1) (by rw [ed]; exact h2)
    rw [ed] at this; exact this
  have hD := hr.units
  refine ⟨_, (Evl.pss_cut (ps_while PassesOwn.never (PW.pt (pw_and (pt_cmpR (opNeD (K := K) rfl hD) (pe_ix (ixL (K := K) rfl) (pv 0) pe_int (fun _ _ => rfl)) (pe_lst pa_nil) (nomark _)) (pw_and1 (pt_cmpR op_eq (pe_ix (ixL (K := K) rfl) (pe_ix (ixL (K := K) rfl) (pv 0) pe_int (fun _ _ => rfl)) (pe_un un_neg pe_int) (fun _ _ => rfl)) pe_int (nomark _)))))
(pss_one (ps_expr (bmL0 PySem.F.slot_list_pop PySem.F.type_list_pop (K := K) rfl mt_pop (pe_ix (ixL (K := K) rfl) (pv 0) pe_int (fun _ _ => rfl))))))
(pss_cons (ps_if (pt_cmpR (opNeD (K := K) rfl hD) (pe_ix (ixL (K := K) rfl) (pv 0) pe_int (fun _ _ => rfl)) (pe_lst pa_nil) (nomark _))
(pss_cons (ps_set (i := 2) sc__law_draw.nd rfl (Or.inl rfl) (bmL0 PySem.F.slot_list_pop PySem.F.type_list_pop (K := K) rfl mt_pop (pe_ix (ixL (K := K) rfl) (pv 0) pe_int (fun _ _ => rfl))))
(pss_cons (ps_expr (bmL PySem.F.slot_list_append PySem.F.type_list_append (K := K) rfl mt_append (pe_ix (ixL (K := K) rfl) (pv 0) pe_int (fun _ _ => rfl)) (pa_cons (pe_op op_fdivW (pv 2) (pv 1)) pa_nil)))
(pss_one (ps_ret (pe_op op_mod (ct bt_int (crInt (K := K) rfl) B.int (pa_cons (pv 2) pa_nil)) (pv 1))))))
pss_nil)
(pss_cons (ps_asg (pe_op op_mod (ct bt_int (crInt (K := K) rfl) B.int (pa_cons (pe_op op_add (pe_op op_mul (pe_ix (ixL (K := K) rfl) (pv 0) pe_int (fun _ _ => rfl)) pe_int) pe_int) pa_nil)) pe_int) (pg_sub (pv 0) pe_int set_list))
(pss_one (ps_ret (pe_op op_mod (ct bt_int (crInt (K := K) rfl) B.int (pa_cons (pe_op op_fdiv (pe_ix (ixL (K := K) rfl) (pv 0) pe_int (fun _ _ => rfl)) pe_int) pa_nil)) (pv 1))))))), ?_⟩
  walk_at "v"
  have sm : ∀ {H1 : Hp}, Fr (some (g, c)) H H1 → ∀ {cs : List Int}, H1 c = some (.lst (cs.map V.int)) → ∀ {cs' : List Int}, H1 c = some (.lst (cs'.map V.int)) → cs = cs' := fun f1 cs h1 cs' h2 => by
    rw [h1] at h2
    injection h2 with z
    injection z with z
    exact (List.map_inj_right (fun _ _ e => V.int.inj e)).mp z
  refine v_cut (fun σ H' => σ = [some (.ref g), some (.int m), none] ∧ Fr (some (g, c)) H H' ∧ H' g = some (.lst [.ref c, .int rn.stir]) ∧ H' c = some (.lst ((MP.trim rn.cells).map V.int))) ?_ ?_
  · refine v_while (fun n σ H' => σ = [some (.ref g), some (.int m), none] ∧ Fr (some (g, c)) H H' ∧ H' g = some (.lst [.ref c, .int rn.stir]) ∧ ∃ cells : List Int, H' c = some (.lst (cells.map V.int)) ∧ cells.length = n ∧ MP.trim cells = MP.trim rn.cells) rn.cells.length ⟨rfl, Fr.refl hg, hgs0, rn.cells, hcs0, rfl, rfl⟩ (fun n σ H1 q1 => ?_)
    obtain ⟨rfl, f1, hgs, cells, hc, hn, htr⟩ := q1
    obtain ⟨cells', stir, _, hc', hpos, hle, hk0, hk1⟩ := IsRng.at f1.good'
    obtain rfl := sm f1 hc hc'
    walk_at "v"
    refine v_dl (fun e1 H2 ne1 s2 he1 => ?_)
    have hc2' := s2 _ _ hc
    have hgs2 := s2 _ _ hgs
    refine v_neNil hc2' he1 ?_
    have f2 : Fr (some (g, c)) H H2 := f1.trans (Fr.same f1.good' s2)
    walk_at "v"
    rcases List.eq_nil_or_concat cells with rfl | ⟨r, x, rfl⟩
    · refine v_ntrue ?_
      refine v_false ?_
      exact ⟨rfl, f2, hgs2, by rw [← htr]; exact hc2'⟩
    · rw [List.concat_eq_append] at hn hpos hle hc2' htr
      have hcm : H2 c = some (.lst (r.map V.int ++ [V.int x])) := by rw [hc2', List.map_append]; rfl
      rw [List.concat_eq_append, show (r ++ [x]).isEmpty = false by cases r <;> rfl]
      walk_at "v"
      refine v_ixL (SqL.of hcm) (atI_last _ _) ?_
      walk_at "v"
      refine v_dec (fun e => ?_) (fun e => ?_)
      · refine ⟨fun σ' H' => σ' = [some (.ref g), some (.int m), none] ∧ Fr (some (g, c)) H H' ∧ H' g = some (.lst [.ref c, .int rn.stir]) ∧ ∃ cells : List Int, H' c = some (.lst (cells.map V.int)) ∧ cells.length = r.length ∧ MP.trim cells = MP.trim rn.cells, fun σ' H' q => ⟨r.length, by rw [← hn, List.length_append]; exact Nat.lt_succ_self _, q⟩, ?_⟩
        walk_at "v"
        refine ⟨tyL hcm, ?_⟩
        refine v_pop (y := .int x) hcm (by simp) ?_
        walk_at "v"
        rw [List.dropLast_concat]
        refine ⟨rfl, f2.trans (Fr.cell f2.good' (fun y hy => hpos y (List.mem_append_left _ hy)) ?_), by rw [upd_ne f2.good'.ne]; exact hgs2, r, upd_same, rfl, ?_⟩
        · rw [List.length_append] at hle
          omega
        · have ex : x = 0 := V.int.inj e
          subst ex
          rw [← htr, trim_snoc0]
      · have ex : x ≠ 0 := fun z => e (by rw [z])
        refine ⟨rfl, f2, hgs2, ?_⟩
        rw [← htr, trim_snoc ex]
        exact hc2'
  · rintro σ H1 ⟨rfl, f1, hgs, hc⟩
    obtain ⟨cells, stir, hgs', hc', hpos, hle, hk0', hk1'⟩ := IsRng.at f1.good'
    obtain rfl : rn.stir = stir := by rw [hgs] at hgs'; cases hgs'; rfl
    have etr := sm f1 hc' hc
    walk_at "v"
    refine v_dl (fun e1 H2 ne1 s2 he1 => ?_)
    have hc2' := s2 _ _ hc'
    have hgs2 := s2 _ _ hgs
    refine v_neNil hc2' he1 ?_
    have f2 : Fr (some (g, c)) H H2 := f1.trans (Fr.same f1.good' s2)
    walk_at "v"
    rcases List.eq_nil_or_concat cells with rfl | ⟨r, x, rfl⟩
    · refine v_ntrue ?_
      walk_at "v"
      refine v_I (.inl ⟨by omega, by omega⟩) ?_
      walk_at "v"
      refine v_I (show (0 : Int) < 2147483647 by decide) ?_
      walk_at "v"
      have hb0 : 0 ≤ (rn.stir * 48271 + 11) % 2147483647 := Int.emod_nonneg _ (by decide)
      have hb1 : (rn.stir * 48271 + 11) % 2147483647 < 2147483647 := Int.emod_lt_of_pos _ (by decide)
      refine v_setL (j := 1) hgs2 rfl ?_
      have f3 := f2.trans (Fr.stir f2.good' hb0 hb1)
      have h3 : (upd H2 g (.lst [.ref c, .int ((rn.stir * 48271 + 11) % 2147483647)])) g = some (.lst [.ref c, .int ((rn.stir * 48271 + 11) % 2147483647)]) := upd_same
      have h3c : (upd H2 g (.lst [.ref c, .int ((rn.stir * 48271 + 11) % 2147483647)])) c = some (.lst []) := by rw [upd_ne f2.good'.ne.symm]; exact hc2'
      rw [show ([V.ref c, V.int rn.stir].set 1 (V.int ((rn.stir * 48271 + 11) % 2147483647))) = [V.ref c, V.int ((rn.stir * 48271 + 11) % 2147483647)] from rfl]
      revert f3 h3 h3c
      generalize upd H2 g (.lst [.ref c, .int ((rn.stir * 48271 + 11) % 2147483647)]) = H3
      intro f3 h3 h3c
      walk_at "v"
      refine v_I ⟨by decide, by decide⟩ ?_
      walk_at "v"
      refine v_I (show (0 : Int) < m from hm0) ?_
      exact qE etr.symm H3 f3 h3 h3c
    · rw [List.concat_eq_append] at hpos hle hc2' etr
      have hcm : H2 c = some (.lst (r.map V.int ++ [V.int x])) := by rw [hc2', List.map_append]; rfl
      have hx0 : 0 ≤ x := hpos x (by simp)
      rw [List.length_append] at hle
      rw [List.concat_eq_append, show (r ++ [x]).isEmpty = false by cases r <;> rfl]
      walk_at "v"
      refine ⟨tyL hcm, ?_⟩
      refine v_pop (y := .int x) hcm (by simp) ?_
      walk_at "v"
      rw [List.dropLast_concat]
      have f3 := f2.trans (Fr.cell f2.good' (fun y hy => hpos y (List.mem_append_left _ hy)) (show r.length ≤ 60 by omega))
      have h3 : (upd H2 c (.lst (r.map V.int))) c = some (.lst (r.map V.int)) := upd_same
      have h3g : (upd H2 c (.lst (r.map V.int))) g = some (.lst [.ref c, .int rn.stir]) := by rw [upd_ne f2.good'.ne]; exact hgs2
      revert f3 h3 h3g
      generalize upd H2 c (.lst (r.map V.int)) = H3
      intro f3 h3 h3g
      walk_at "v"
      refine ⟨tyL h3, ?_⟩
      walk_at "v"
      refine v_I (wide_div hm0 (show m.natAbs < 2 ^ 100 by omega) (by decide) (by decide)) ?_
      walk_at "v"
      refine v_app h3 (by rw [List.length_map]; omega) ?_
      have hq0 : 0 ≤ x / m := Int.ediv_nonneg hx0 (by omega)
      have f4 := f3.trans (Fr.cell (cells' := r ++ [x / m]) f3.good' (fun y hy => by
        rcases List.mem_append.mp hy with h | h
        · exact hpos y (List.mem_append_left _ h)
        · rw [List.mem_singleton.mp h]; exact hq0) (by rw [List.length_append]; exact hle))
      rw [List.map_append] at f4
      walk_at "v"
      refine v_I (show (0 : Int) < m from hm0) ?_
      refine qS r x etr.symm _ f4 ?_ ?_
      · rw [upd_ne f3.good'.ne]; exact h3g
      · rw [upd_same, List.map_append]; rfl
theorem f__law_draw (T : Kt P K mg) : MP.FnM P w K mg base 1 "_law_draw" p__law_draw MP.drawV := by
  obtain ⟨f, fd, F, hm, hb⟩ := T.d__law_draw.ex
  exact ⟨⟨f, fd, MP.FnG.imp (MP.FnG.of0 (ok_draw F T.bt)) fun vs H Q E h => MP.draw_of h, hm, F.kp, hb, MP.Fun.lk F⟩, MP.drawV_ar⟩
end
end K11

/-! ## K11pb -/
set_option Elab.async false
set_option linter.all false
set_option maxRecDepth 100000
set_option maxHeartbeats 4000000
namespace K11
open PySem PySem.Spec PyProof.Rows L2 AK MP
section
variable {P : Program} {w : World} {K : PySem.W.Frag} {mg : Str → Option Value} {base : Heap}
def b_is_integer : ST :=
(retS (andE (isaE .I (var 0)) (notE (isaE .B (var 0)))))
def m_is_integer : DefV := defM 1 1 b_is_integer
theorem f_is_integer (T : Kt P K mg) : FnM P w K mg base 1 "is_integer" p_is_integer m_is_integer := T.d_is_integer.fn (k := 0) (mb := b_is_integer) sc_is_integer rfl (fun f0 cdv B up z H E room gd => by
  have hr := room
  have hu64 := room64 room
  have hu61 := room61 room
  exact (sb_one (ss_ret (es_and (es_isa (cb bt_isinstance (crIs (K := K) rfl) T.bt.isinstance (pa_cons (es_var (pv 0)) (pa_cons (tyn bt_int T.bt.int) pa_nil)))) (es_one (es_not (es_isa (cb bt_isinstance (crIs (K := K) rfl) T.bt.isinstance (pa_cons (es_var (pv 0)) (pa_cons (tyn bt_bool T.bt.bool) pa_nil))))))))))
def b_is_name : ST :=
(seqS (ifS (orT (notT (test (isaE .S (var 0)))) (notT (test (chain leV leV (cst (.int 1)) (unL lenV (consE (var 0) nilE)) (cst (.int 5))))))
(retS (cst (.bl false)))
skipS)
(retS (unL allV (consE (lcE mkLc (iterE (var 0)) [1] (nameT 1) yesT (bin (inV false) (var 1) (cst (.str "abcdefghijklmnopqrstuvwxyz")))) nilE))))
def m_is_name : DefV := defM 1 2 b_is_name
theorem f_is_name (T : Kt P K mg) : FnM P w K mg base 1 "is_name" p_is_name m_is_name := T.d_is_name.fn (k := 0) (mb := b_is_name) sc_is_name rfl (fun f0 cdv B up z H E room gd => by
  have hr := room
  have hu64 := room64 room
  have hu61 := room61 room
  exact (sb_cons (ss_if (PW.pt (ew_or (et_not (et_val (es_isa (cb bt_isinstance (crIs (K := K) rfl) T.bt.isinstance (pa_cons (es_var (pv 0)) (pa_cons (tyn bt_str T.bt.str) pa_nil)))))) (ew_or1 (et_not (et_chain op_leA sim_ord op_leA sim_ord (es_int pe_int) (es_cb sim_len (cb bt_len cr_lenA T.bt.len (ea_cons (es_var (pv 0)) ea_nil))) (es_int (gI T.c_LONGEST_NAME)))))))
(sb_one (ss_ret (es_bl pe_bl)))
sb_nil)
(sb_one (ss_ret (es_cb sim_all (cb bt_all (crAll (K := K) rfl rfl) T.bt.all (ea_cons (es_lc (pe_lc (own := [("sign", 1)]) rfl sc_is_name.nd (ei_seq (es_var (pv 0))) (blkOk_by (own := [("sign", 1)]) (N := n_is_name) (sc := defScope s_is_name) (by decide +kernel)) (fun _ _ _ _ _ => (sc_name (i := 1) (pg_name (i := 1) sc_is_name.nd rfl (Or.inl rfl)))) (fun _ _ _ _ _ => ets_nil) (fun _ _ _ _ _ => (es_cmp (op_inA hr) sim_in (es_var (pv 1)) (es_str (gS T.c_LETTERS)) (by rfl))))) ea_nil)))))))
def b_names_in (x_rec : DefV) : ST :=
(seqS (ifS (test (bin (eqV false) (bin ixV (var 0) (cst (.int 0))) (cst (.str "kind"))))
(retS (lstE (consE (bin ixV (var 0) (cst (.int 1))) nilE)))
skipS)
(seqS (ifS (test (bin (eqV false) (bin ixV (var 0) (cst (.int 0))) (cst (.str "many"))))
(retS (callE (x_rec) (consE (bin ixV (var 0) (cst (.int 2))) nilE)))
skipS)
(retS (lc2E mkLc (iterE (bin ixV (var 0) (cst (.int 1)))) [1, 2] (nameT 1) yesT (iterE (callE (x_rec) (consE (var 1) nilE))) [2] (nameT 2) yesT (var 2)))))
def m_names_in : Nat → DefV
  | 0 => noDef
  | n + 1 => defM 1 3 (b_names_in (m_names_in n))
theorem f_names_in (T : Kt P K mg) : ∀ n : Nat, FnM P w K mg base (n + 1) "names_in" p_names_in (m_names_in n)
  | 0 => T.d_names_in.none sc_names_in
  | n + 1 => by
    have ih := f_names_in T n
    refine T.d_names_in.fn (k := n + 1) (mb := b_names_in (m_names_in n)) sc_names_in rfl ?_
    exact fun f0 cdv B up z H E room gd => by
      have hr := room
      have hu64 := room64 room
      have hu61 := room61 room
      exact (sb_cons (ss_if (et_cmp (op_eqX hu64) sim_eq (es_ix hr (es_var (pv 0)) (es_int pe_int) (fun _ _ => rfl)) (es_str pe_str) (by rfl))
(sb_one (ss_ret (es_lst (ea_cons (es_ix hr (es_var (pv 0)) (es_int pe_int) (fun _ _ => rfl)) ea_nil))))
sb_nil)
(sb_cons (ss_if (et_cmp (op_eqX hu64) sim_eq (es_ix hr (es_var (pv 0)) (es_int pe_int) (fun _ _ => rfl)) (es_str pe_str) (by rfl))
(sb_one (ss_ret (es_call ih hr gd (takes_of rfl rfl rfl rfl) rfl (ea_cons (es_ix hr (es_var (pv 0)) (es_int pe_int) (fun _ _ => rfl)) ea_nil))))
sb_nil)
(sb_one (ss_ret (es_lc2 (pe_lc2 (own := [("part", 1), ("name", 2)]) (vs1 := [2]) rfl sc_names_in.nd (ei_seq (es_ix hr (es_var (pv 0)) (es_int pe_int) (fun _ _ => rfl))) (blkOk_by (own := [("part", 1), ("name", 2)]) (N := n_names_in) (sc := defScope s_names_in) (by decide +kernel)) (by decide) (fun _ _ _ _ _ => (sc_name (i := 1) (pg_name (i := 1) sc_names_in.nd rfl (Or.inl rfl)))) (fun _ _ _ _ _ => ets_nil) (fun _ _ _ _ _ => (ei_seq (es_call ih hr gd takes0 rfl (ea_cons (es_var (pv 1)) ea_nil)))) (fun _ _ _ _ _ => (sc_name (i := 2) (pg_name (i := 2) sc_names_in.nd rfl (Or.inl rfl)))) (fun _ _ _ _ _ => ets_nil) (fun _ _ _ _ _ => (es_var (pv 2)))))))))
def l__law_parts_1 (x_rec : DefV) : ST :=
(asgS (bin addV (var 1) (callE (x_rec) (consE (var 2) nilE))) (nameT 1))
def b__law_parts (x_rec : DefV) : ST :=
(seqS (ifS (test (bin (eqV false) (bin ixV (var 0) (cst (.int 0))) (cst (.str "kind"))))
(retS (lstE (consE (var 0) nilE)))
skipS)
(seqS (ifS (test (bin (eqV false) (bin ixV (var 0) (cst (.int 0))) (cst (.str "many"))))
(retS (bin addV (lstE (consE (var 0) nilE)) (callE (x_rec) (consE (bin ixV (var 0) (cst (.int 2))) nilE))))
skipS)
(seqS (asgS (lstE (consE (var 0) nilE)) (nameT 1))
(seqS (forS (iterE (bin ixV (var 0) (cst (.int 1)))) (nameT 2)
(l__law_parts_1 x_rec))
(retS (var 1))))))
def m__law_parts : Nat → DefV
  | 0 => noDef
  | n + 1 => defM 1 3 (b__law_parts (m__law_parts n))
theorem f__law_parts (T : Kt P K mg) : ∀ n : Nat, FnM P w K mg base (n + 1) "_law_parts" p__law_parts (m__law_parts n)
  | 0 => T.d__law_parts.none sc__law_parts
  | n + 1 => by
    have ih := f__law_parts T n
    refine T.d__law_parts.fn (k := n + 1) (mb := b__law_parts (m__law_parts n)) sc__law_parts rfl ?_
    exact fun f0 cdv B up z H E room gd => by
      have hr := room
      have hu64 := room64 room
      have hu61 := room61 room
      exact (sb_cons (ss_if (et_cmp (op_eqX hu64) sim_eq (es_ix hr (es_var (pv 0)) (es_int pe_int) (fun _ _ => rfl)) (es_str pe_str) (by rfl))
(sb_one (ss_ret (es_lst (ea_cons (es_var (pv 0)) ea_nil))))
sb_nil)
(sb_cons (ss_if (et_cmp (op_eqX hu64) sim_eq (es_ix hr (es_var (pv 0)) (es_int pe_int) (fun _ _ => rfl)) (es_str pe_str) (by rfl))
(sb_one (ss_ret (es_add (es_lst (ea_cons (es_var (pv 0)) ea_nil)) (es_call ih hr gd (takes_of rfl rfl rfl rfl) rfl (ea_cons (es_ix hr (es_var (pv 0)) (es_int pe_int) (fun _ _ => rfl)) ea_nil)))))
sb_nil)
(sb_cons (ss_set (ps_set (i := 1) sc__law_parts.nd rfl (Or.inl rfl) (es_lst (ea_cons (es_var (pv 0)) ea_nil))))
(sb_cons (ss_for (passes_of rfl) rfl (ei_seq (es_ix hr (es_var (pv 0)) (es_int pe_int) (fun _ _ => rfl))) (sg_name (i := 2) (pg_name (i := 2) sc__law_parts.nd rfl (Or.inl rfl)))
(sb_one (ss_set (ps_set (i := 1) sc__law_parts.nd rfl (Or.inl rfl) (es_add (es_var (pv 1)) (es_call ih hr gd (takes_of rfl rfl rfl rfl) rfl (ea_cons (es_var (pv 2)) ea_nil)))))))
(sb_one (ss_ret (es_var (pv 1))))))))
def b__law_replaced (x_rec : DefV) : ST :=
(seqS (asgS (bin ixV (var 1) (cst (.int 0))) (nameT 4))
(seqS (putS (bin addV (var 4) (cst (.int 1))) (var 1) (cst (.int 0)))
(seqS (ifS (test (bin (eqV false) (var 4) (var 2)))
(retS (var 3))
skipS)
(seqS (ifS (test (bin (eqV false) (bin ixV (var 0) (cst (.int 0))) (cst (.str "kind"))))
(retS (var 0))
skipS)
(seqS (ifS (test (bin (eqV false) (bin ixV (var 0) (cst (.int 0))) (cst (.str "many"))))
(retS (tupE (consE (cst (.str "many")) (consE (bin ixV (var 0) (cst (.int 1))) (consE (callE (x_rec) (consE (bin ixV (var 0) (cst (.int 2))) (consE (var 1) (consE (var 2) (consE (var 3) nilE))))) nilE)))))
skipS)
(retS (tupE (consE (bin ixV (var 0) (cst (.int 0))) (consE (unL tupV (consE (lcE mkLc (iterE (bin ixV (var 0) (cst (.int 1)))) [5] (nameT 5) yesT (callE (x_rec) (consE (var 5) (consE (var 1) (consE (var 2) (consE (var 3) nilE)))))) nilE)) nilE)))))))))
def m__law_replaced : Nat → DefV
  | 0 => noDef
  | n + 1 => defM 4 6 (b__law_replaced (m__law_replaced n))
theorem f__law_replaced (T : Kt P K mg) : ∀ n : Nat, FnM P w K mg base (n + 1) "_law_replaced" p__law_replaced (m__law_replaced n)
  | 0 => T.d__law_replaced.none sc__law_replaced
  | n + 1 => by
    have ih := f__law_replaced T n
    refine T.d__law_replaced.fn (k := n + 1) (mb := b__law_replaced (m__law_replaced n)) sc__law_replaced rfl ?_
    exact fun f0 cdv B up z H E room gd => by
      have hr := room
      have hu64 := room64 room
      have hu61 := room61 room
      exact (sb_cons (ss_set (ps_set (i := 4) sc__law_replaced.nd rfl (Or.inl rfl) (es_ix hr (es_var (pv 1)) (es_int pe_int) (fun _ _ => rfl))))
(sb_cons (ss_put hr (es_add (es_var (pv 4)) (es_int pe_int)) (es_var (pv 1)) (es_int pe_int))
(sb_cons (ss_if (et_cmp (op_eqX hu64) sim_eq (es_var (pv 4)) (es_var (pv 2)) (by rfl))
(sb_one (ss_ret (es_var (pv 3))))
sb_nil)
(sb_cons (ss_if (et_cmp (op_eqX hu64) sim_eq (es_ix hr (es_var (pv 0)) (es_int pe_int) (fun _ _ => rfl)) (es_str pe_str) (by rfl))
(sb_one (ss_ret (es_var (pv 0))))
sb_nil)
(sb_cons (ss_if (et_cmp (op_eqX hu64) sim_eq (es_ix hr (es_var (pv 0)) (es_int pe_int) (fun _ _ => rfl)) (es_str pe_str) (by rfl))
(sb_one (ss_ret (es_tup (ea_cons (es_str pe_str) (ea_cons (es_ix hr (es_var (pv 0)) (es_int pe_int) (fun _ _ => rfl)) (ea_cons (es_call ih hr gd (takes_of rfl rfl rfl rfl) rfl (ea_cons (es_ix hr (es_var (pv 0)) (es_int pe_int) (fun _ _ => rfl)) (ea_cons (es_var (pv 1)) (ea_cons (es_var (pv 2)) (ea_cons (es_var (pv 3)) ea_nil))))) ea_nil))))))
sb_nil)
(sb_one (ss_ret (es_tup (ea_cons (es_ix hr (es_var (pv 0)) (es_int pe_int) (fun _ _ => rfl)) (ea_cons (es_cb sim_tup (ct bt_tuple (crTup (K := K) rfl) T.bt.tuple (ea_cons (es_lc (pe_lc (own := [("_law_part", 5)]) rfl sc__law_replaced.nd (ei_seq (es_ix hr (es_var (pv 0)) (es_int pe_int) (fun _ _ => rfl))) (blkOk_by (own := [("_law_part", 5)]) (N := n__law_replaced) (sc := defScope s__law_replaced) (by decide +kernel)) (fun _ _ _ _ _ => (sc_name (i := 5) (pg_name (i := 5) sc__law_replaced.nd rfl (Or.inl rfl)))) (fun _ _ _ _ _ => ets_nil) (fun _ _ _ _ _ => (es_call ih hr gd takes0 rfl (ea_cons (es_var (pv 5)) (ea_cons (es_var (pv 1)) (ea_cons (es_var (pv 2)) (ea_cons (es_var (pv 3)) ea_nil)))))))) ea_nil))) ea_nil))))))))))
def b__law_is_name : ST :=
(seqS (ifS (orT (notT (test (isaE .S (var 0)))) (notT (test (chain leV leV (cst (.int 1)) (unL lenV (consE (var 0) nilE)) (cst (.int 5))))))
(retS (cst (.bl false)))
skipS)
(retS (unL allV (consE (lcE mkLc (iterE (var 0)) [1] (nameT 1) yesT (bin (inV false) (var 1) (cst (.str "abcdefghijklmnopqrstuvwxyz")))) nilE))))
def m__law_is_name : DefV := defM 1 2 b__law_is_name
theorem f__law_is_name (T : Kt P K mg) : FnM P w K mg base 1 "_law_is_name" p__law_is_name m__law_is_name := T.d__law_is_name.fn (k := 0) (mb := b__law_is_name) sc__law_is_name rfl (fun f0 cdv B up z H E room gd => by
  have hr := room
  have hu64 := room64 room
  have hu61 := room61 room
  exact (sb_cons (ss_if (PW.pt (ew_or (et_not (et_val (es_isa (cb bt_isinstance (crIs (K := K) rfl) T.bt.isinstance (pa_cons (es_var (pv 0)) (pa_cons (tyn bt_str T.bt.str) pa_nil)))))) (ew_or1 (et_not (et_chain op_leA sim_ord op_leA sim_ord (es_int pe_int) (es_cb sim_len (cb bt_len cr_lenA T.bt.len (ea_cons (es_var (pv 0)) ea_nil))) (es_int pe_int))))))
(sb_one (ss_ret (es_bl pe_bl)))
sb_nil)
(sb_one (ss_ret (es_cb sim_all (cb bt_all (crAll (K := K) rfl rfl) T.bt.all (ea_cons (es_lc (pe_lc (own := [("_law_sign", 1)]) rfl sc__law_is_name.nd (ei_seq (es_var (pv 0))) (blkOk_by (own := [("_law_sign", 1)]) (N := n__law_is_name) (sc := defScope s__law_is_name) (by decide +kernel)) (fun _ _ _ _ _ => (sc_name (i := 1) (pg_name (i := 1) sc__law_is_name.nd rfl (Or.inl rfl)))) (fun _ _ _ _ _ => ets_nil) (fun _ _ _ _ _ => (es_cmp (op_inA hr) sim_in (es_var (pv 1)) (es_str pe_str) (by rfl))))) ea_nil)))))))
end
end K11

/-! ## K11pc -/
set_option Elab.async false
set_option linter.all false
set_option maxRecDepth 100000
set_option maxHeartbeats 4000000
namespace K11
open PySem PySem.Spec PyProof.Rows L2 AK MP
section
variable {P : Program} {w : World} {K : PySem.W.Frag} {mg : Str → Option Value} {base : Heap}
def b_is_number : ST :=
(retS (andE (callE m_is_integer (consE (var 0) nilE)) (bin geV (var 0) (cst (.int 0)))))
def m_is_number : DefV := defM 1 1 b_is_number
theorem f_is_number (T : Kt P K mg) : FnM P w K mg base 2 "is_number" p_is_number m_is_number := T.d_is_number.fn (k := 1) (mb := b_is_number) sc_is_number rfl (fun f0 cdv B up z H E room gd => by
  have hr := room
  have hu64 := room64 room
  have hu61 := room61 room
  exact (sb_one (ss_ret (es_and (es_call (f_is_integer T) hr gd (takes_of rfl rfl rfl rfl) rfl (ea_cons (es_var (pv 0)) ea_nil)) (es_one (es_cmp op_geA sim_ord (es_var (pv 0)) (es_int pe_int) (by rfl)))))))
def b__law_pick : ST :=
(retS (bin ixV (var 1) (callE drawV (consE (var 0) (consE (unL lenV (consE (var 1) nilE)) nilE)))))
def m__law_pick : DefV := defM 2 2 b__law_pick
theorem f__law_pick (T : Kt P K mg) : FnM P w K mg base 2 "_law_pick" p__law_pick m__law_pick := T.d__law_pick.fn (k := 1) (mb := b__law_pick) sc__law_pick rfl (fun f0 cdv B up z H E room gd => by
  have hr := room
  have hu64 := room64 room
  have hu61 := room61 room
  exact (sb_one (ss_ret (es_ix hr (es_var (pv 1)) (es_call (f__law_draw T) hr gd (takes_of rfl rfl rfl rfl) rfl (ea_cons (es_var (pv 0)) (ea_cons (es_cb sim_len (cb bt_len cr_lenA T.bt.len (ea_cons (es_var (pv 1)) ea_nil))) ea_nil))) (fun _ _ => rfl)))))
def l__law_mixed_1 : ST :=
(dropS (methE appV (var 3) (consE (methE popAtV (var 2) (consE (callE drawV (consE (var 0) (consE (unL lenV (consE (var 2) nilE)) nilE))) nilE)) nilE)))
def b__law_mixed : ST :=
(seqS (par2 2 3 (consE (unL listO (consE (var 1) nilE)) (consE (lstM nilE) nilE)))
(seqS (forS (rngE1 (consE (unL lenV (consE (var 1) nilE)) nilE)) (nameT 4)
l__law_mixed_1)
(retS (var 3))))
def m__law_mixed : DefV := defM 2 5 b__law_mixed
theorem f__law_mixed (T : Kt P K mg) : FnM P w K mg base 2 "_law_mixed" p__law_mixed m__law_mixed := T.d__law_mixed.fn (k := 1) (mb := b__law_mixed) sc__law_mixed rfl (fun f0 cdv B up z H E room gd => by
  have hr := room
  have hu64 := room64 room
  have hu61 := room61 room
  exact (sb_cons (ss_par (ps_par (i := 2) (j := 3) rfl sc__law_mixed.nd rfl rfl (by decide) rfl rfl (ea_cons (es_cb sim_listO (ct bt_list (crList (K := K) rfl) T.bt.list (ea_cons (es_var (pv 1)) ea_nil))) (ea_cons (es_lstM ea_nil) ea_nil)) rfl))
(sb_cons (ss_for (passes_of rfl) rfl (ei_rng1 (pi_range1 rfl T.bt.range (ea_cons (es_cb sim_len (cb bt_len cr_lenA T.bt.len (ea_cons (es_var (pv 1)) ea_nil))) ea_nil))) (sg_name (i := 4) (pg_name (i := 4) sc__law_mixed.nd rfl (Or.inl rfl)))
(sb_one (ss_drop (es_bm sim_app (bmL PySem.F.slot_list_append PySem.F.type_list_append (K := K) rfl mt_append (es_var (pv 3)) (ea_cons (es_bm sim_popAt (bmL PySem.F.slot_list_pop PySem.F.type_list_pop (K := K) rfl mt_popAt (es_var (pv 2)) (ea_cons (es_call (f__law_draw T) hr gd (takes_of rfl rfl rfl rfl) rfl (ea_cons (es_var (pv 0)) (ea_cons (es_cb sim_len (cb bt_len cr_lenA T.bt.len (ea_cons (es_var (pv 2)) ea_nil))) ea_nil))) ea_nil))) ea_nil))))))
(sb_one (ss_ret (es_var (pv 3)))))))
def b__law_inside : ST :=
(seqS (ifS (orT (notT (test (isaE .T (var 0)))) (test (bin ltV (unL lenV (consE (var 0) nilE)) (cst (.int 2)))))
(retS (cst .non))
skipS)
(seqS (ifS (test (bin (eqV false) (bin ixV (var 0) (cst (.int 0))) (cst (.str "kind"))))
(retS (ifE (andT (test (bin (eqV false) (unL lenV (consE (var 0) nilE)) (cst (.int 2)))) (test (callE m__law_is_name (consE (bin ixV (var 0) (cst (.int 1))) nilE)))) (tupE nilE) (cst .non)))
skipS)
(seqS (ifS (test (bin (eqV false) (bin ixV (var 0) (cst (.int 0))) (cst (.str "many"))))
(seqS (ifS (orT (test (bin (eqV true) (unL lenV (consE (var 0) nilE)) (cst (.int 3)))) (orT (test (isaE .B (bin ixV (var 0) (cst (.int 1))))) (orT (notT (test (isaE .I (bin ixV (var 0) (cst (.int 1)))))) (notT (test (chain leV leV (cst (.int 2)) (bin ixV (var 0) (cst (.int 1))) (cst (.int 60))))))))
(retS (cst .non))
skipS)
(retS (tupE (consE (bin ixV (var 0) (cst (.int 2))) nilE))))
skipS)
(seqS (ifS (orT (test (bin (inV true) (bin ixV (var 0) (cst (.int 0))) (lstE (consE (cst (.str "and")) (consE (cst (.str "or")) nilE))))) (orT (test (bin (eqV true) (unL lenV (consE (var 0) nilE)) (cst (.int 2)))) (orT (notT (test (isaE .T (bin ixV (var 0) (cst (.int 1)))))) (test (bin ltV (unL lenV (consE (bin ixV (var 0) (cst (.int 1))) nilE)) (cst (.int 2)))))))
(retS (cst .non))
skipS)
(retS (bin ixV (var 0) (cst (.int 1))))))))
def m__law_inside : DefV := defM 1 1 b__law_inside
theorem f__law_inside (T : Kt P K mg) : FnM P w K mg base 2 "_law_inside" p__law_inside m__law_inside := T.d__law_inside.fn (k := 1) (mb := b__law_inside) sc__law_inside rfl (fun f0 cdv B up z H E room gd => by
  have hr := room
  have hu64 := room64 room
  have hu61 := room61 room
  exact (sb_cons (ss_if (PW.pt (ew_or (et_not (et_val (es_isa (cb bt_isinstance (crIs (K := K) rfl) T.bt.isinstance (pa_cons (es_var (pv 0)) (pa_cons (tyn bt_tuple T.bt.tuple) pa_nil)))))) (ew_or1 (et_cmp (op_ltA hr) sim_lt (es_cb sim_len (cb bt_len cr_lenA T.bt.len (ea_cons (es_var (pv 0)) ea_nil))) (es_int pe_int) (by rfl)))))
(sb_one (ss_ret (es_non pe_non)))
sb_nil)
(sb_cons (ss_if (et_cmp (op_eqX hu64) sim_eq (es_ix hr (es_var (pv 0)) (es_int pe_int) (fun _ _ => rfl)) (es_str pe_str) (by rfl))
(sb_one (ss_ret (es_if (PW.pt (ew_and (et_cmp (op_eqX hu64) sim_eq (es_cb sim_len (cb bt_len cr_lenA T.bt.len (ea_cons (es_var (pv 0)) ea_nil))) (es_int pe_int) (by rfl)) (ew_and1 (et_val (es_call (f__law_is_name T) hr gd (takes_of rfl rfl rfl rfl) rfl (ea_cons (es_ix hr (es_var (pv 0)) (es_int pe_int) (fun _ _ => rfl)) ea_nil)))))) (es_tup ea_nil) (es_non pe_non))))
sb_nil)
(sb_cons (ss_if (et_cmp (op_eqX hu64) sim_eq (es_ix hr (es_var (pv 0)) (es_int pe_int) (fun _ _ => rfl)) (es_str pe_str) (by rfl))
(sb_cons (ss_if (PW.pt (ew_or (et_cmp (op_neX hu64) sim_ne (es_cb sim_len (cb bt_len cr_lenA T.bt.len (ea_cons (es_var (pv 0)) ea_nil))) (es_int pe_int) (by rfl)) (ew_or (et_val (es_isa (cb bt_isinstance (crIs (K := K) rfl) T.bt.isinstance (pa_cons (es_ix hr (es_var (pv 0)) (es_int pe_int) (fun _ _ => rfl)) (pa_cons (tyn bt_bool T.bt.bool) pa_nil))))) (ew_or (et_not (et_val (es_isa (cb bt_isinstance (crIs (K := K) rfl) T.bt.isinstance (pa_cons (es_ix hr (es_var (pv 0)) (es_int pe_int) (fun _ _ => rfl)) (pa_cons (tyn bt_int T.bt.int) pa_nil)))))) (ew_or1 (et_not (et_chain op_leA sim_ord op_leA sim_ord (es_int pe_int) (es_ix hr (es_var (pv 0)) (es_int pe_int) (fun _ _ => rfl)) (es_int pe_int))))))))
(sb_one (ss_ret (es_non pe_non)))
sb_nil)
(sb_one (ss_ret (es_tup (ea_cons (es_ix hr (es_var (pv 0)) (es_int pe_int) (fun _ _ => rfl)) ea_nil)))))
sb_nil)
(sb_cons (ss_if (PW.pt (ew_or (et_cmp (op_notInA hr) sim_in (es_ix hr (es_var (pv 0)) (es_int pe_int) (fun _ _ => rfl)) (es_lst (ea_cons (es_str pe_str) (ea_cons (es_str pe_str) ea_nil))) (by rfl)) (ew_or (et_cmp (op_neX hu64) sim_ne (es_cb sim_len (cb bt_len cr_lenA T.bt.len (ea_cons (es_var (pv 0)) ea_nil))) (es_int pe_int) (by rfl)) (ew_or (et_not (et_val (es_isa (cb bt_isinstance (crIs (K := K) rfl) T.bt.isinstance (pa_cons (es_ix hr (es_var (pv 0)) (es_int pe_int) (fun _ _ => rfl)) (pa_cons (tyn bt_tuple T.bt.tuple) pa_nil)))))) (ew_or1 (et_cmp (op_ltA hr) sim_lt (es_cb sim_len (cb bt_len cr_lenA T.bt.len (ea_cons (es_ix hr (es_var (pv 0)) (es_int pe_int) (fun _ _ => rfl)) ea_nil))) (es_int pe_int) (by rfl)))))))
(sb_one (ss_ret (es_non pe_non)))
sb_nil)
(sb_one (ss_ret (es_ix hr (es_var (pv 0)) (es_int pe_int) (fun _ _ => rfl)))))))))
def b_parts_of : ST :=
(seqS (ifS (orT (notT (test (isaE .T (var 0)))) (orT (test (bin ltV (unL lenV (consE (var 0) nilE)) (cst (.int 2)))) (notT (test (isaE .S (bin ixV (var 0) (cst (.int 0))))))))
(retS (cst .non))
skipS)
(seqS (ifS (test (bin (eqV false) (bin ixV (var 0) (cst (.int 0))) (cst (.str "kind"))))
(retS (ifE (andT (test (bin (eqV false) (unL lenV (consE (var 0) nilE)) (cst (.int 2)))) (test (callE m_is_name (consE (bin ixV (var 0) (cst (.int 1))) nilE)))) (tupE nilE) (cst .non)))
skipS)
(seqS (ifS (test (bin (eqV false) (bin ixV (var 0) (cst (.int 0))) (cst (.str "many"))))
(retS (ifE (andT (test (bin (eqV false) (unL lenV (consE (var 0) nilE)) (cst (.int 3)))) (andT (test (callE m_is_number (consE (bin ixV (var 0) (cst (.int 1))) nilE))) (test (chain leV leV (cst (.int 2)) (bin ixV (var 0) (cst (.int 1))) (cst (.int 60)))))) (sliceE (var 0) (part (cst (.int 2))) noPart) (cst .non)))
skipS)
(seqS (ifS (andT (test (bin (inV false) (bin ixV (var 0) (cst (.int 0))) (tupE (consE (cst (.str "and")) (consE (cst (.str "or")) nilE))))) (andT (test (bin (eqV false) (unL lenV (consE (var 0) nilE)) (cst (.int 2)))) (andT (test (isaE .T (bin ixV (var 0) (cst (.int 1))))) (test (bin geV (unL lenV (consE (bin ixV (var 0) (cst (.int 1))) nilE)) (cst (.int 2)))))))
(retS (bin ixV (var 0) (cst (.int 1))))
skipS)
(retS (cst .non))))))
def m_parts_of : DefV := defM 1 1 b_parts_of
theorem f_parts_of (T : Kt P K mg) : FnM P w K mg base 3 "parts_of" p_parts_of m_parts_of := T.d_parts_of.fn (k := 2) (mb := b_parts_of) sc_parts_of rfl (fun f0 cdv B up z H E room gd => by
  have hr := room
  have hu64 := room64 room
  have hu61 := room61 room
  exact (sb_cons (ss_if (PW.pt (ew_or (et_not (et_val (es_isa (cb bt_isinstance (crIs (K := K) rfl) T.bt.isinstance (pa_cons (es_var (pv 0)) (pa_cons (tyn bt_tuple T.bt.tuple) pa_nil)))))) (ew_or (et_cmp (op_ltA hr) sim_lt (es_cb sim_len (cb bt_len cr_lenA T.bt.len (ea_cons (es_var (pv 0)) ea_nil))) (es_int pe_int) (by rfl)) (ew_or1 (et_not (et_val (es_isa (cb bt_isinstance (crIs (K := K) rfl) T.bt.isinstance (pa_cons (es_ix hr (es_var (pv 0)) (es_int pe_int) (fun _ _ => rfl)) (pa_cons (tyn bt_str T.bt.str) pa_nil))))))))))
(sb_one (ss_ret (es_non pe_non)))
sb_nil)
(sb_cons (ss_if (et_cmp (op_eqX hu64) sim_eq (es_ix hr (es_var (pv 0)) (es_int pe_int) (fun _ _ => rfl)) (es_str pe_str) (by rfl))
(sb_one (ss_ret (es_if (PW.pt (ew_and (et_cmp (op_eqX hu64) sim_eq (es_cb sim_len (cb bt_len cr_lenA T.bt.len (ea_cons (es_var (pv 0)) ea_nil))) (es_int pe_int) (by rfl)) (ew_and1 (et_val (es_call (f_is_name T) hr gd (takes_of rfl rfl rfl rfl) rfl (ea_cons (es_ix hr (es_var (pv 0)) (es_int pe_int) (fun _ _ => rfl)) ea_nil)))))) (es_tup ea_nil) (es_non pe_non))))
sb_nil)
(sb_cons (ss_if (et_cmp (op_eqX hu64) sim_eq (es_ix hr (es_var (pv 0)) (es_int pe_int) (fun _ _ => rfl)) (es_str pe_str) (by rfl))
(sb_one (ss_ret (es_if (PW.pt (ew_and (et_cmp (op_eqX hu64) sim_eq (es_cb sim_len (cb bt_len cr_lenA T.bt.len (ea_cons (es_var (pv 0)) ea_nil))) (es_int pe_int) (by rfl)) (ew_and (et_val (es_call (f_is_number T) hr gd (takes_of rfl rfl rfl rfl) rfl (ea_cons (es_ix hr (es_var (pv 0)) (es_int pe_int) (fun _ _ => rfl)) ea_nil))) (ew_and1 (et_chain op_leA sim_ord op_leA sim_ord (es_int pe_int) (es_ix hr (es_var (pv 0)) (es_int pe_int) (fun _ _ => rfl)) (es_int (gI T.c_MOST_AMOUNT))))))) (es_slice (es_var (pv 0)) (eo_some (es_int pe_int)) eo_none) (es_non pe_non))))
sb_nil)
(sb_cons (ss_if (PW.pt (ew_and (et_cmp (op_inA hr) sim_in (es_ix hr (es_var (pv 0)) (es_int pe_int) (fun _ _ => rfl)) (es_tup (ea_cons (es_str pe_str) (ea_cons (es_str pe_str) ea_nil))) (by rfl)) (ew_and (et_cmp (op_eqX hu64) sim_eq (es_cb sim_len (cb bt_len cr_lenA T.bt.len (ea_cons (es_var (pv 0)) ea_nil))) (es_int pe_int) (by rfl)) (ew_and (et_val (es_isa (cb bt_isinstance (crIs (K := K) rfl) T.bt.isinstance (pa_cons (es_ix hr (es_var (pv 0)) (es_int pe_int) (fun _ _ => rfl)) (pa_cons (tyn bt_tuple T.bt.tuple) pa_nil))))) (ew_and1 (et_cmp op_geA sim_ord (es_cb sim_len (cb bt_len cr_lenA T.bt.len (ea_cons (es_ix hr (es_var (pv 0)) (es_int pe_int) (fun _ _ => rfl)) ea_nil))) (es_int pe_int) (by rfl)))))))
(sb_one (ss_ret (es_ix hr (es_var (pv 0)) (es_int pe_int) (fun _ _ => rfl))))
sb_nil)
(sb_one (ss_ret (es_non pe_non))))))))
def l__law_names_1 : ST :=
(asgS (ifE (test (bin (inV false) (var 6) (var 3))) (bin addV (bin addV (sliceE (var 6) noPart (part (cst (.int 3)))) (bin ixV (var 2) (bin divV (var 7) (cst (.int 26))))) (bin ixV (var 2) (bin modV (unL intV (consE (var 7) nilE)) (cst (.int 26))))) (var 6)) (nameT 6))
def l__law_names_2 : ST :=
(seqS (asgS (bin addV (var 4) (m1E joinV (cst (.str "")) (lcE mkLc (rngE1 (consE (bin addV (cst (.int 1)) (callE drawV (consE (var 0) (consE (cst (.int 3)) nilE)))) nilE)) [7] (nameT 7) yesT (bin ixV (var 2) (callE drawV (consE (var 0) (consE (cst (.int 26)) nilE))))))) (nameT 6))
(seqS (forS (rngE1 (consE (bin addV (var 1) (cst (.int 1))) nilE)) (nameT 7)
l__law_names_1)
(dropS (methE appV (var 3) (consE (var 6) nilE)))))
def b__law_names : ST :=
(seqS (asgN 2 (consE (cst (.str "abcdefghijklmnopqrstuvwxyz")) (consE (lstM nilE) nilE)) (consT (nameT 2) (consT (nameT 3) nilT)))
(seqS (asgS (callE m__law_pick (consE (var 0) (consE (lstE (consE (cst (.str "")) (consE (cst (.str "")) (consE (bin ixV (var 2) (callE drawV (consE (var 0) (consE (cst (.int 26)) nilE)))) (consE (bin (mulV mkLs) (bin ixV (var 2) (callE drawV (consE (var 0) (consE (cst (.int 26)) nilE)))) (cst (.int 2))) nilE))))) nilE))) (nameT 4))
(seqS (forS (rngE1 (consE (var 1) nilE)) (nameT 5)
l__law_names_2)
(retS (unL sortedV (consE (var 3) nilE))))))
def m__law_names : DefV := defM 2 8 b__law_names
theorem f__law_names (T : Kt P K mg) : FnM P w K mg base 3 "_law_names" p__law_names m__law_names := T.d__law_names.fn (k := 2) (mb := b__law_names) sc__law_names rfl (fun f0 cdv B up z H E room gd => by
  have hr := room
  have hu64 := room64 room
  have hu61 := room61 room
  exact (sb_cons (ss_asgT rfl (ea_cons (es_str pe_str) (ea_cons (es_lstM ea_nil) ea_nil)) (sgs_cons (sg_name (i := 2) (pg_name (i := 2) sc__law_names.nd rfl (.inr rfl))) (sgs_cons (sg_name (i := 3) (pg_name (i := 3) sc__law_names.nd rfl (Or.inl rfl))) sgs_nil)))
(sb_cons (ss_set (ps_set (i := 4) sc__law_names.nd rfl (Or.inl rfl) (es_call (f__law_pick T) hr gd (takes_of rfl rfl rfl rfl) rfl (ea_cons (es_var (pv 0)) (ea_cons (es_lst (ea_cons (es_str pe_str) (ea_cons (es_str pe_str) (ea_cons (es_ix hr (es_var (pv 2)) (es_call (f__law_draw T) hr gd (takes_of rfl rfl rfl rfl) rfl (ea_cons (es_var (pv 0)) (ea_cons (es_int pe_int) ea_nil))) (fun _ _ => rfl)) (ea_cons (es_mul (es_ix hr (es_var (pv 2)) (es_call (f__law_draw T) hr gd (takes_of rfl rfl rfl rfl) rfl (ea_cons (es_var (pv 0)) (ea_cons (es_int pe_int) ea_nil))) (fun _ _ => rfl)) (es_int pe_int)) ea_nil))))) ea_nil)))))
(sb_cons (ss_for (passes_of rfl) rfl (ei_rng1 (pi_range1 rfl T.bt.range (ea_cons (es_var (pv 1)) ea_nil))) (sg_name (i := 5) (pg_name (i := 5) sc__law_names.nd rfl (Or.inl rfl)))
(sb_cons (ss_set (ps_set (i := 6) sc__law_names.nd rfl (Or.inl rfl) (es_add (es_var (pv 4)) (es_join (es_str pe_str) (es_lc (pe_lc (own := [("_law_place", 7)]) rfl sc__law_names.nd (ei_rng1 (pi_range1 rfl T.bt.range (ea_cons (es_add (es_int pe_int) (es_call (f__law_draw T) hr gd (takes_of rfl rfl rfl rfl) rfl (ea_cons (es_var (pv 0)) (ea_cons (es_int pe_int) ea_nil)))) ea_nil))) (blkOk_by (own := [("_law_place", 7)]) (N := n__law_names) (sc := defScope s__law_names) (by decide +kernel)) (fun _ _ _ _ _ => (sc_name (i := 7) (pg_name (i := 7) sc__law_names.nd rfl (Or.inl rfl)))) (fun _ _ _ _ _ => ets_nil) (fun _ _ _ _ _ => (es_ix hr (es_var (pv 2)) (es_call (f__law_draw T) hr gd takes0 rfl (ea_cons (es_var (pv 0)) (ea_cons (es_int pe_int) ea_nil))) (fun _ _ => rfl)))))))))
(sb_cons (ss_for (passes_of rfl) rfl (ei_rng1 (pi_range1 rfl T.bt.range (ea_cons (es_add (es_var (pv 1)) (es_int pe_int)) ea_nil))) (sg_name (i := 7) (pg_name (i := 7) sc__law_names.nd rfl (Or.inl rfl)))
(sb_one (ss_set (ps_set (i := 6) sc__law_names.nd rfl (Or.inl rfl) (es_if (et_cmp (op_inA hr) sim_in (es_var (pv 6)) (es_var (pv 3)) (by rfl)) (es_add (es_add (es_slice (es_var (pv 6)) eo_none (eo_some (es_int pe_int))) (es_ix hr (es_var (pv 2)) (es_div (es_var (pv 7)) (es_int pe_int)) (fun _ _ => rfl))) (es_ix hr (es_var (pv 2)) (es_mod (es_cb sim_int (ct bt_int (crInt (K := K) rfl) T.bt.int (ea_cons (es_var (pv 7)) ea_nil))) (es_int pe_int)) (fun _ _ => rfl))) (es_var (pv 6)))))))
(sb_one (ss_drop (es_bm sim_app (bmL PySem.F.slot_list_append PySem.F.type_list_append (K := K) rfl mt_append (es_var (pv 3)) (ea_cons (es_var (pv 6)) ea_nil))))))))
(sb_one (ss_ret (es_cb sim_sorted (cb bt_sorted cr_sortA T.bt.sorted (ea_cons (es_var (pv 3)) ea_nil)))))))))
end
end K11

/-! ## K11pd -/
set_option Elab.async false
set_option linter.all false
set_option maxRecDepth 100000
set_option maxHeartbeats 4000000
namespace K11
open PySem PySem.Spec PyProof.Rows L2 AK MP
section
variable {P : Program} {w : World} {K : PySem.W.Frag} {mg : Str → Option Value} {base : Heap}
def l__law_formula_1 (x_rec : DefV) : ST :=
(ifS (test (bin gtV (unL lenV (consE (var 6) nilE)) (cst (.int 0))))
(seqS (asgS (bin addV (cst (.int 1)) (callE drawV (consE (var 0) (consE (bin subV (unL lenV (consE (var 6) nilE)) (unL intV (consE (bin (eqV false) (var 7) (cst (.int 0))) nilE))) nilE)))) (nameT 8))
(seqS (dropS (methE appV (var 5) (consE (callE (x_rec) (consE (var 0) (consE (sliceE (var 6) noPart (part (var 8))) (consE (var 2) nilE)))) nilE)))
(asgS (sliceE (var 6) (part (var 8)) noPart) (nameT 6))))
skipS)
def b__law_formula (x_rec : DefV) : ST :=
(seqS (ifS (andT (test (bin gtV (var 2) (cst (.int 1)))) (test (bin (eqV false) (callE drawV (consE (var 0) (consE (cst (.int 3)) nilE))) (cst (.int 0)))))
(seqS (asgS (bin addV (cst (.int 2)) (callE drawV (consE (var 0) (consE (bin subV (var 2) (cst (.int 1))) nilE)))) (nameT 3))
(retS (tupE (consE (cst (.str "many")) (consE (var 3) (consE (callE (x_rec) (consE (var 0) (consE (var 1) (consE (bin divV (var 2) (var 3)) nilE)))) nilE))))))
skipS)
(seqS (ifS (test (bin (eqV false) (unL lenV (consE (var 1) nilE)) (cst (.int 1))))
(retS (tupE (consE (cst (.str "kind")) (consE (bin ixV (var 1) (cst (.int 0))) nilE))))
skipS)
(seqS (par3 4 5 6 (consE (callE m__law_pick (consE (var 0) (consE (lstE (consE (cst (.str "and")) (consE (cst (.str "or")) nilE))) nilE))) (consE (lstM nilE) (consE (var 1) nilE))))
(seqS (forS (rngE1 (consE (unL lenV (consE (var 1) nilE)) nilE)) (nameT 7)
(l__law_formula_1 x_rec))
(retS (tupE (consE (var 4) (consE (unL tupV (consE (var 5) nilE)) nilE))))))))
def m__law_formula : Nat → DefV
  | 0 => noDef
  | n + 1 => defM 3 9 (b__law_formula (m__law_formula n))
theorem f__law_formula (T : Kt P K mg) : ∀ n : Nat, FnM P w K mg base (n + 3) "_law_formula" p__law_formula (m__law_formula n)
  | 0 => T.d__law_formula.none sc__law_formula
  | n + 1 => by
    have ih := f__law_formula T n
    refine T.d__law_formula.fn (k := n + 3) (mb := b__law_formula (m__law_formula n)) sc__law_formula rfl ?_
    exact fun f0 cdv B up z H E room gd => by
      have hr := room
      have hu64 := room64 room
      have hu61 := room61 room
      exact (sb_cons (ss_if (PW.pt (ew_and (et_cmp op_gtA sim_ord (es_var (pv 2)) (es_int pe_int) (by rfl)) (ew_and1 (et_cmp (op_eqX hu64) sim_eq (es_call (f__law_draw T) hr gd (takes_of rfl rfl rfl rfl) rfl (ea_cons (es_var (pv 0)) (ea_cons (es_int pe_int) ea_nil))) (es_int pe_int) (by rfl)))))
(sb_cons (ss_set (ps_set (i := 3) sc__law_formula.nd rfl (Or.inl rfl) (es_add (es_int pe_int) (es_call (f__law_draw T) hr gd (takes_of rfl rfl rfl rfl) rfl (ea_cons (es_var (pv 0)) (ea_cons (es_sub (es_var (pv 2)) (es_int pe_int)) ea_nil))))))
(sb_one (ss_ret (es_tup (ea_cons (es_str pe_str) (ea_cons (es_var (pv 3)) (ea_cons (es_call ih hr gd (takes_of rfl rfl rfl rfl) rfl (ea_cons (es_var (pv 0)) (ea_cons (es_var (pv 1)) (ea_cons (es_div (es_var (pv 2)) (es_var (pv 3))) ea_nil)))) ea_nil)))))))
sb_nil)
(sb_cons (ss_if (et_cmp (op_eqX hu64) sim_eq (es_cb sim_len (cb bt_len cr_lenA T.bt.len (ea_cons (es_var (pv 1)) ea_nil))) (es_int pe_int) (by rfl))
(sb_one (ss_ret (es_tup (ea_cons (es_str pe_str) (ea_cons (es_ix hr (es_var (pv 1)) (es_int pe_int) (fun _ _ => rfl)) ea_nil)))))
sb_nil)
(sb_cons (ss_par3 (ps_par3 (i := 4) (j := 5) (l := 6) rfl sc__law_formula.nd rfl rfl rfl (by decide) (by decide) (by decide) rfl rfl rfl (ea_cons (es_call (f__law_pick T) hr gd (takes_of rfl rfl rfl rfl) rfl (ea_cons (es_var (pv 0)) (ea_cons (es_lst (ea_cons (es_str pe_str) (ea_cons (es_str pe_str) ea_nil))) ea_nil))) (ea_cons (es_lstM ea_nil) (ea_cons (es_var (pv 1)) ea_nil))) rfl rfl))
(sb_cons (ss_for (passes_of rfl) rfl (ei_rng1 (pi_range1 rfl T.bt.range (ea_cons (es_cb sim_len (cb bt_len cr_lenA T.bt.len (ea_cons (es_var (pv 1)) ea_nil))) ea_nil))) (sg_name (i := 7) (pg_name (i := 7) sc__law_formula.nd rfl (Or.inl rfl)))
(sb_one (ss_if (et_cmp op_gtA sim_ord (es_cb sim_len (cb bt_len cr_lenA T.bt.len (ea_cons (es_var (pv 6)) ea_nil))) (es_int pe_int) (by rfl))
(sb_cons (ss_set (ps_set (i := 8) sc__law_formula.nd rfl (Or.inl rfl) (es_add (es_int pe_int) (es_call (f__law_draw T) hr gd (takes_of rfl rfl rfl rfl) rfl (ea_cons (es_var (pv 0)) (ea_cons (es_sub (es_cb sim_len (cb bt_len cr_lenA T.bt.len (ea_cons (es_var (pv 6)) ea_nil))) (es_cb sim_int (ct bt_int (crInt (K := K) rfl) T.bt.int (ea_cons (es_cmp (op_eqX hu64) sim_eq (es_var (pv 7)) (es_int pe_int) (by rfl)) ea_nil)))) ea_nil))))))
(sb_cons (ss_drop (es_bm sim_app (bmL PySem.F.slot_list_append PySem.F.type_list_append (K := K) rfl mt_append (es_var (pv 5)) (ea_cons (es_call ih hr gd (takes_of rfl rfl rfl rfl) rfl (ea_cons (es_var (pv 0)) (ea_cons (es_slice (es_var (pv 6)) eo_none (eo_some (es_var (pv 8)))) (ea_cons (es_var (pv 2)) ea_nil)))) ea_nil))))
(sb_one (ss_set (ps_set (i := 6) sc__law_formula.nd rfl (Or.inl rfl) (es_slice (es_var (pv 6)) (eo_some (es_var (pv 8))) eo_none))))))
sb_nil)))
(sb_one (ss_ret (es_tup (ea_cons (es_var (pv 4)) (ea_cons (es_cb sim_tup (ct bt_tuple (crTup (K := K) rfl) T.bt.tuple (ea_cons (es_var (pv 5)) ea_nil))) ea_nil)))))))))
def l__law_wrong_1 (x_rec : DefV) : ST :=
(seqS (asgS (callE (x_rec) (consE (var 5) (consE (var 1) (consE (var 2) nilE)))) (nameT 6))
(ifS (test (un (isN true) (var 6)))
(retS (var 6))
skipS))
def b__law_wrong (x_rec : DefV) : ST :=
(seqS (par2 3 4 (consE (bin ixV (var 1) (cst (.int 0))) (consE (callE m__law_inside (consE (var 0) nilE)) nilE)))
(seqS (putS (bin addV (var 3) (cst (.int 1))) (var 1) (cst (.int 0)))
(seqS (ifS (test (un (isN false) (var 4)))
(retS (var 3))
skipS)
(seqS (ifS (test (bin (eqV false) (bin ixV (var 0) (cst (.int 0))) (cst (.str "kind"))))
(seqS (ifS (orT (test (bin (inV false) (bin ixV (var 0) (cst (.int 1))) (bin ixV (var 1) (cst (.int 1))))) (test (bin (eqV false) (unL lenV (consE (bin ixV (var 1) (cst (.int 1))) nilE)) (cst (.int 8)))))
(retS (var 3))
skipS)
(seqS (putS (bin addV (bin ixV (var 1) (cst (.int 1))) (lstE (consE (bin ixV (var 0) (cst (.int 1))) nilE))) (var 1) (cst (.int 1)))
(retS (cst .non))))
skipS)
(seqS (ifS (test (bin (eqV false) (bin ixV (var 0) (cst (.int 0))) (cst (.str "many"))))
(retS (ifE (test (bin gtV (bin (mulV mkLs) (var 2) (bin ixV (var 0) (cst (.int 1)))) (cst (.int 60)))) (var 3) (callE (x_rec) (consE (bin ixV (var 4) (cst (.int 0))) (consE (var 1) (consE (bin (mulV mkLs) (var 2) (bin ixV (var 0) (cst (.int 1)))) nilE))))))
skipS)
(seqS (putS (bin addV (bin ixV (var 1) (cst (.int 2))) (cst (.int 1))) (var 1) (cst (.int 2)))
(seqS (ifS (test (bin (eqV false) (bin ixV (var 1) (cst (.int 2))) (cst (.int 8))))
(retS (var 3))
skipS)
(seqS (forS (iterE (var 4)) (nameT 5)
(l__law_wrong_1 x_rec))
(retS (cst .non))))))))))
def m__law_wrong : Nat → DefV
  | 0 => noDef
  | n + 1 => defM 3 7 (b__law_wrong (m__law_wrong n))
theorem f__law_wrong (T : Kt P K mg) : ∀ n : Nat, FnM P w K mg base (n + 3) "_law_wrong" p__law_wrong (m__law_wrong n)
  | 0 => T.d__law_wrong.none sc__law_wrong
  | n + 1 => by
    have ih := f__law_wrong T n
    refine T.d__law_wrong.fn (k := n + 3) (mb := b__law_wrong (m__law_wrong n)) sc__law_wrong rfl ?_
    exact fun f0 cdv B up z H E room gd => by
      have hr := room
      have hu64 := room64 room
      have hu61 := room61 room
      exact (sb_cons (ss_par (ps_par (i := 3) (j := 4) rfl sc__law_wrong.nd rfl rfl (by decide) rfl rfl (ea_cons (es_ix hr (es_var (pv 1)) (es_int pe_int) (fun _ _ => rfl)) (ea_cons (es_call (f__law_inside T) hr gd (takes_of rfl rfl rfl rfl) rfl (ea_cons (es_var (pv 0)) ea_nil)) ea_nil)) rfl))
(sb_cons (ss_put hr (es_add (es_var (pv 3)) (es_int pe_int)) (es_var (pv 1)) (es_int pe_int))
(sb_cons (ss_if (et_isN (es_var (pv 4)))
(sb_one (ss_ret (es_var (pv 3))))
sb_nil)
(sb_cons (ss_if (et_cmp (op_eqX hu64) sim_eq (es_ix hr (es_var (pv 0)) (es_int pe_int) (fun _ _ => rfl)) (es_str pe_str) (by rfl))
(sb_cons (ss_if (PW.pt (ew_or (et_cmp (op_inA hr) sim_in (es_ix hr (es_var (pv 0)) (es_int pe_int) (fun _ _ => rfl)) (es_ix hr (es_var (pv 1)) (es_int pe_int) (fun _ _ => rfl)) (by rfl)) (ew_or1 (et_cmp (op_eqX hu64) sim_eq (es_cb sim_len (cb bt_len cr_lenA T.bt.len (ea_cons (es_ix hr (es_var (pv 1)) (es_int pe_int) (fun _ _ => rfl)) ea_nil))) (es_int pe_int) (by rfl)))))
(sb_one (ss_ret (es_var (pv 3))))
sb_nil)
(sb_cons (ss_put hr (es_add (es_ix hr (es_var (pv 1)) (es_int pe_int) (fun _ _ => rfl)) (es_lst (ea_cons (es_ix hr (es_var (pv 0)) (es_int pe_int) (fun _ _ => rfl)) ea_nil))) (es_var (pv 1)) (es_int pe_int))
(sb_one (ss_ret (es_non pe_non)))))
sb_nil)
(sb_cons (ss_if (et_cmp (op_eqX hu64) sim_eq (es_ix hr (es_var (pv 0)) (es_int pe_int) (fun _ _ => rfl)) (es_str pe_str) (by rfl))
(sb_one (ss_ret (es_if (et_cmp op_gtA sim_ord (es_mul (es_var (pv 2)) (es_ix hr (es_var (pv 0)) (es_int pe_int) (fun _ _ => rfl))) (es_int pe_int) (by rfl)) (es_var (pv 3)) (es_call ih hr gd (takes_of rfl rfl rfl rfl) rfl (ea_cons (es_ix hr (es_var (pv 4)) (es_int pe_int) (fun _ _ => rfl)) (ea_cons (es_var (pv 1)) (ea_cons (es_mul (es_var (pv 2)) (es_ix hr (es_var (pv 0)) (es_int pe_int) (fun _ _ => rfl))) ea_nil)))))))
sb_nil)
(sb_cons (ss_put hr (es_add (es_ix hr (es_var (pv 1)) (es_int pe_int) (fun _ _ => rfl)) (es_int pe_int)) (es_var (pv 1)) (es_int pe_int))
(sb_cons (ss_if (et_cmp (op_eqX hu64) sim_eq (es_ix hr (es_var (pv 1)) (es_int pe_int) (fun _ _ => rfl)) (es_int pe_int) (by rfl))
(sb_one (ss_ret (es_var (pv 3))))
sb_nil)
(sb_cons (ss_for (passes_of rfl) rfl (ei_seq (es_var (pv 4))) (sg_name (i := 5) (pg_name (i := 5) sc__law_wrong.nd rfl (Or.inl rfl)))
(sb_cons (ss_set (ps_set (i := 6) sc__law_wrong.nd rfl (Or.inl rfl) (es_call ih hr gd (takes_of rfl rfl rfl rfl) rfl (ea_cons (es_var (pv 5)) (ea_cons (es_var (pv 1)) (ea_cons (es_var (pv 2)) ea_nil))))))
(sb_one (ss_if (et_notN (es_var (pv 6)))
(sb_one (ss_ret (es_var (pv 6))))
sb_nil))))
(sb_one (ss_ret (es_non pe_non)))))))))))
def b__law_odd : ST :=
(seqS (par3 3 4 5 (consE (callE drawV (consE (var 0) (consE (cst (.int 6)) nilE))) (consE (callE m__law_pick (consE (var 0) (consE (var 2) nilE))) (consE (callE m__law_pick (consE (var 0) (consE (lstE (consE (cst (.str "and")) (consE (cst (.str "or")) nilE))) nilE))) nilE))))
(seqS (asgS (tupE (consE (cst (.str "kind")) (consE (var 4) nilE))) (nameT 6))
(seqS (ifS (test (bin (eqV false) (var 3) (cst (.int 0))))
(retS (callE m__law_pick (consE (var 0) (consE (lstE (consE (cst .non) (consE (cst (.int 7)) (consE (cst (.str "kind")) (consE (cst (.str "")) (consE (tupE nilE) (consE (tupE (consE (cst (.str "kind")) nilE)) (consE (lstE (consE (var 4) nilE)) (consE (tupE (consE (var 4) nilE)) (consE (tupE (consE (cst (.str "and")) (consE (tupE nilE) nilE))) (consE (tupE (consE (cst (.str "or")) (consE (tupE (consE (var 1) nilE)) nilE))) (consE (tupE (consE (var 5) (consE (var 1) (consE (var 6) nilE)))) (consE (tupE (consE (var 5) (consE (lstE (consE (var 1) (consE (var 6) nilE))) nilE))) (consE (tupE (consE (var 5) (consE (var 6) nilE))) (consE (tupE (consE (var 5) (consE (tupE (consE (var 1) (consE (var 6) nilE))) (consE (cst (.int 0)) nilE)))) (consE (tupE (consE (cst (.str "xor")) (consE (tupE (consE (var 1) (consE (var 6) nilE))) nilE))) (consE (tupE (consE (cst (.bl true)) (consE (var 1) nilE))) (consE (tupE (consE (var 1) (consE (var 6) nilE))) (consE (tupE (consE (cst (.int 0)) (consE (tupE (consE (var 1) (consE (var 6) nilE))) nilE))) (consE (cst (.bl true)) nilE)))))))))))))))))))) nilE))))
skipS)
(seqS (ifS (test (bin (eqV false) (var 3) (cst (.int 1))))
(retS (tupE (consE (cst (.str "kind")) (consE (callE m__law_pick (consE (var 0) (consE (lstE (consE (bin addV (var 4) (cst (.str "aaaaa"))) (consE (cst (.str "")) (consE (cst (.str "A")) (consE (bin addV (sliceE (var 4) noPart (part (cst (.int 4)))) (cst (.str "1"))) (consE (cst (.str "a b")) (consE (cst (.int 5)) (consE (cst .non) (consE (tupE (consE (var 4) nilE)) (consE (cst (.str "_")) (consE (cst (.str "a-")) nilE))))))))))) nilE))) nilE))))
skipS)
(seqS (ifS (test (bin (eqV false) (var 3) (cst (.int 2))))
(retS (tupE (consE (cst (.str "many")) (consE (callE m__law_pick (consE (var 0) (consE (lstE (consE (cst (.int 1)) (consE (cst (.int 0)) (consE (bin subV (cst (.int 0)) (cst (.int 2))) (consE (cst (.int 61)) (consE (cst (.int 100)) (consE (cst (.bl true)) (consE (cst (.str "2")) (consE (cst .non) (consE (tupE (consE (cst (.int 2)) nilE)) nilE)))))))))) nilE))) (consE (var 1) nilE)))))
skipS)
(seqS (ifS (test (bin (eqV false) (var 3) (cst (.int 3))))
(retS (callE m__law_pick (consE (var 0) (consE (lstE (consE (tupE (consE (cst (.str "kind")) (consE (var 4) (consE (var 4) nilE)))) (consE (tupE (consE (cst (.str "many")) (consE (cst (.int 2)) nilE))) (consE (tupE (consE (cst (.str "many")) (consE (var 1) nilE))) (consE (tupE (consE (cst (.str "many")) (consE (cst (.int 2)) (consE (var 1) (consE (var 1) nilE))))) (consE (tupE (consE (cst (.str "many")) (consE (cst (.int 2)) (consE (lstE (consE (var 1) nilE)) nilE)))) (consE (lstE (consE (var 5) (consE (tupE (consE (var 1) (consE (var 6) nilE))) nilE))) nilE))))))) nilE))))
skipS)
(seqS (ifS (test (bin (eqV false) (var 3) (cst (.int 4))))
(retS (tupE (consE (cst (.str "many")) (consE (bin addV (cst (.int 2)) (callE drawV (consE (var 0) (consE (cst (.int 59)) nilE)))) (consE (var 1) nilE)))))
skipS)
(retS (callE m__law_pick (consE (var 0) (consE (lstE (consE (var 6) (consE (tupE (consE (var 5) (consE (tupE (consE (var 1) (consE (var 6) nilE))) nilE))) (consE (tupE (consE (var 5) (consE (tupE (consE (var 6) (consE (var 1) nilE))) nilE))) (consE (tupE (consE (var 5) (consE (tupE (consE (tupE (consE (cst (.str "kind")) (consE (bin addV (sliceE (var 4) noPart (part (cst (.int 4)))) (cst (.str "z"))) nilE))) (consE (var 1) nilE))) nilE))) nilE))))) nilE)))))))))))
def m__law_odd : DefV := defM 3 7 b__law_odd
theorem f__law_odd (T : Kt P K mg) : FnM P w K mg base 3 "_law_odd" p__law_odd m__law_odd := T.d__law_odd.fn (k := 2) (mb := b__law_odd) sc__law_odd rfl (fun f0 cdv B up z H E room gd => by
  have hr := room
  have hu64 := room64 room
  have hu61 := room61 room
  exact (sb_cons (ss_par3 (ps_par3 (i := 3) (j := 4) (l := 5) rfl sc__law_odd.nd rfl rfl rfl (by decide) (by decide) (by decide) rfl rfl rfl (ea_cons (es_call (f__law_draw T) hr gd (takes_of rfl rfl rfl rfl) rfl (ea_cons (es_var (pv 0)) (ea_cons (es_int pe_int) ea_nil))) (ea_cons (es_call (f__law_pick T) hr gd (takes_of rfl rfl rfl rfl) rfl (ea_cons (es_var (pv 0)) (ea_cons (es_var (pv 2)) ea_nil))) (ea_cons (es_call (f__law_pick T) hr gd (takes_of rfl rfl rfl rfl) rfl (ea_cons (es_var (pv 0)) (ea_cons (es_lst (ea_cons (es_str pe_str) (ea_cons (es_str pe_str) ea_nil))) ea_nil))) ea_nil))) rfl rfl))
(sb_cons (ss_set (ps_set (i := 6) sc__law_odd.nd rfl (Or.inl rfl) (es_tup (ea_cons (es_str pe_str) (ea_cons (es_var (pv 4)) ea_nil)))))
(sb_cons (ss_if (et_cmp (op_eqX hu64) sim_eq (es_var (pv 3)) (es_int pe_int) (by rfl))
(sb_one (ss_ret (es_call (f__law_pick T) hr gd (takes_of rfl rfl rfl rfl) rfl (ea_cons (es_var (pv 0)) (ea_cons (es_lst (ea_cons (es_non pe_non) (ea_cons (es_int pe_int) (ea_cons (es_str pe_str) (ea_cons (es_str pe_str) (ea_cons (es_tup ea_nil) (ea_cons (es_tup (ea_cons (es_str pe_str) ea_nil)) (ea_cons (es_lst (ea_cons (es_var (pv 4)) ea_nil)) (ea_cons (es_tup (ea_cons (es_var (pv 4)) ea_nil)) (ea_cons (es_tup (ea_cons (es_str pe_str) (ea_cons (es_tup ea_nil) ea_nil))) (ea_cons (es_tup (ea_cons (es_str pe_str) (ea_cons (es_tup (ea_cons (es_var (pv 1)) ea_nil)) ea_nil))) (ea_cons (es_tup (ea_cons (es_var (pv 5)) (ea_cons (es_var (pv 1)) (ea_cons (es_var (pv 6)) ea_nil)))) (ea_cons (es_tup (ea_cons (es_var (pv 5)) (ea_cons (es_lst (ea_cons (es_var (pv 1)) (ea_cons (es_var (pv 6)) ea_nil))) ea_nil))) (ea_cons (es_tup (ea_cons (es_var (pv 5)) (ea_cons (es_var (pv 6)) ea_nil))) (ea_cons (es_tup (ea_cons (es_var (pv 5)) (ea_cons (es_tup (ea_cons (es_var (pv 1)) (ea_cons (es_var (pv 6)) ea_nil))) (ea_cons (es_int pe_int) ea_nil)))) (ea_cons (es_tup (ea_cons (es_str pe_str) (ea_cons (es_tup (ea_cons (es_var (pv 1)) (ea_cons (es_var (pv 6)) ea_nil))) ea_nil))) (ea_cons (es_tup (ea_cons (es_bl pe_bl) (ea_cons (es_var (pv 1)) ea_nil))) (ea_cons (es_tup (ea_cons (es_var (pv 1)) (ea_cons (es_var (pv 6)) ea_nil))) (ea_cons (es_tup (ea_cons (es_int pe_int) (ea_cons (es_tup (ea_cons (es_var (pv 1)) (ea_cons (es_var (pv 6)) ea_nil))) ea_nil))) (ea_cons (es_bl pe_bl) ea_nil)))))))))))))))))))) ea_nil)))))
sb_nil)
(sb_cons (ss_if (et_cmp (op_eqX hu64) sim_eq (es_var (pv 3)) (es_int pe_int) (by rfl))
(sb_one (ss_ret (es_tup (ea_cons (es_str pe_str) (ea_cons (es_call (f__law_pick T) hr gd (takes_of rfl rfl rfl rfl) rfl (ea_cons (es_var (pv 0)) (ea_cons (es_lst (ea_cons (es_add (es_var (pv 4)) (es_str pe_str)) (ea_cons (es_str pe_str) (ea_cons (es_str pe_str) (ea_cons (es_add (es_slice (es_var (pv 4)) eo_none (eo_some (es_int pe_int))) (es_str pe_str)) (ea_cons (es_str pe_str) (ea_cons (es_int pe_int) (ea_cons (es_non pe_non) (ea_cons (es_tup (ea_cons (es_var (pv 4)) ea_nil)) (ea_cons (es_str pe_str) (ea_cons (es_str pe_str) ea_nil))))))))))) ea_nil))) ea_nil)))))
sb_nil)
(sb_cons (ss_if (et_cmp (op_eqX hu64) sim_eq (es_var (pv 3)) (es_int pe_int) (by rfl))
(sb_one (ss_ret (es_tup (ea_cons (es_str pe_str) (ea_cons (es_call (f__law_pick T) hr gd (takes_of rfl rfl rfl rfl) rfl (ea_cons (es_var (pv 0)) (ea_cons (es_lst (ea_cons (es_int pe_int) (ea_cons (es_int pe_int) (ea_cons (es_sub (es_int pe_int) (es_int pe_int)) (ea_cons (es_int pe_int) (ea_cons (es_int pe_int) (ea_cons (es_bl pe_bl) (ea_cons (es_str pe_str) (ea_cons (es_non pe_non) (ea_cons (es_tup (ea_cons (es_int pe_int) ea_nil)) ea_nil)))))))))) ea_nil))) (ea_cons (es_var (pv 1)) ea_nil))))))
sb_nil)
(sb_cons (ss_if (et_cmp (op_eqX hu64) sim_eq (es_var (pv 3)) (es_int pe_int) (by rfl))
(sb_one (ss_ret (es_call (f__law_pick T) hr gd (takes_of rfl rfl rfl rfl) rfl (ea_cons (es_var (pv 0)) (ea_cons (es_lst (ea_cons (es_tup (ea_cons (es_str pe_str) (ea_cons (es_var (pv 4)) (ea_cons (es_var (pv 4)) ea_nil)))) (ea_cons (es_tup (ea_cons (es_str pe_str) (ea_cons (es_int pe_int) ea_nil))) (ea_cons (es_tup (ea_cons (es_str pe_str) (ea_cons (es_var (pv 1)) ea_nil))) (ea_cons (es_tup (ea_cons (es_str pe_str) (ea_cons (es_int pe_int) (ea_cons (es_var (pv 1)) (ea_cons (es_var (pv 1)) ea_nil))))) (ea_cons (es_tup (ea_cons (es_str pe_str) (ea_cons (es_int pe_int) (ea_cons (es_lst (ea_cons (es_var (pv 1)) ea_nil)) ea_nil)))) (ea_cons (es_lst (ea_cons (es_var (pv 5)) (ea_cons (es_tup (ea_cons (es_var (pv 1)) (ea_cons (es_var (pv 6)) ea_nil))) ea_nil))) ea_nil))))))) ea_nil)))))
sb_nil)
(sb_cons (ss_if (et_cmp (op_eqX hu64) sim_eq (es_var (pv 3)) (es_int pe_int) (by rfl))
(sb_one (ss_ret (es_tup (ea_cons (es_str pe_str) (ea_cons (es_add (es_int pe_int) (es_call (f__law_draw T) hr gd (takes_of rfl rfl rfl rfl) rfl (ea_cons (es_var (pv 0)) (ea_cons (es_int pe_int) ea_nil)))) (ea_cons (es_var (pv 1)) ea_nil))))))
sb_nil)
(sb_one (ss_ret (es_call (f__law_pick T) hr gd (takes_of rfl rfl rfl rfl) rfl (ea_cons (es_var (pv 0)) (ea_cons (es_lst (ea_cons (es_var (pv 6)) (ea_cons (es_tup (ea_cons (es_var (pv 5)) (ea_cons (es_tup (ea_cons (es_var (pv 1)) (ea_cons (es_var (pv 6)) ea_nil))) ea_nil))) (ea_cons (es_tup (ea_cons (es_var (pv 5)) (ea_cons (es_tup (ea_cons (es_var (pv 6)) (ea_cons (es_var (pv 1)) ea_nil))) ea_nil))) (ea_cons (es_tup (ea_cons (es_var (pv 5)) (ea_cons (es_tup (ea_cons (es_tup (ea_cons (es_str pe_str) (ea_cons (es_add (es_slice (es_var (pv 4)) eo_none (eo_some (es_int pe_int))) (es_str pe_str)) ea_nil))) (ea_cons (es_var (pv 1)) ea_nil))) ea_nil))) ea_nil))))) ea_nil)))))))))))))
def c_check_formula_1 : E Bool :=
(test (bin gtV (unL lenV (consE (var 1) nilE)) (cst (.int 0))))
def l_check_formula_1 : ST :=
(seqS (asgC (methE popV (var 1) nilE) (tupT 2 (consT (nameT 5) (consT (nameT 6) nilT))))
(seqS (asgS (callE m_parts_of (consE (var 5) nilE)) (nameT 7))
(seqS (ifS (test (un (isN false) (var 7)))
(raiseS "InvalidFormula" "at" (consE (var 4) nilE))
skipS)
(seqS (ifS (test (bin (eqV false) (bin ixV (var 5) (cst (.int 0))) (cst (.str "kind"))))
(seqS (asgS (orE (bin (inV false) (bin ixV (var 5) (cst (.int 1))) (var 2)) (bin geV (unL lenV (consE (var 2) nilE)) (cst (.int 8)))) (nameT 8))
(putS (cst (.bl true)) (var 2) (bin ixV (var 5) (cst (.int 1)))))
(ifS (test (bin (eqV false) (bin ixV (var 5) (cst (.int 0))) (cst (.str "many"))))
(seqS (augS 6 mulI (bin ixV (var 5) (cst (.int 1))))
(asgS (bin gtV (var 6) (cst (.int 60))) (nameT 8)))
(seqS (augS 3 iaddV (cst (.int 1)))
(asgS (bin geV (var 3) (cst (.int 8))) (nameT 8)))))
(seqS (ifS (test (var 8))
(raiseS "InvalidFormula" "at" (consE (var 4) nilE))
skipS)
(seqS (dropS (methE extV (var 1) (consE (lcE mkLc (revE (var 7)) [9] (nameT 9) yesT (tupE (consE (var 9) (consE (var 6) nilE)))) nilE)))
(augS 4 iaddV (cst (.int 1)))))))))
def b_check_formula : ST :=
(seqS (asgN 4 (consE (lstM (consE (tupE (consE (var 0) (consE (cst (.int 1)) nilE))) nilE)) (consE (newKO) (consE (cst (.int 0)) (consE (cst (.int 0)) nilE)))) (consT (nameT 1) (consT (nameT 2) (consT (nameT 3) (consT (nameT 4) nilT)))))
(whlF c_check_formula_1
l_check_formula_1 3000))
def m_check_formula : DefV := defM 1 10 b_check_formula
theorem f_check_formula (T : Kt P K mg) : FnM P w K mg base 4 "check_formula" p_check_formula m_check_formula := T.d_check_formula.fn (k := 3) (mb := b_check_formula) sc_check_formula rfl (fun f0 cdv B up z H E room gd => by
  have hr := room
  have hu64 := room64 room
  have hu61 := room61 room
  exact (sb_cons (ss_asgT rfl (ea_cons (es_lstM (ea_cons (es_tup (ea_cons (es_var (pv 0)) (ea_cons (es_int pe_int) ea_nil))) ea_nil)) (ea_cons (es_newKO pe_dnewK) (ea_cons (es_int pe_int) (ea_cons (es_int pe_int) ea_nil)))) (sgs_cons (sg_name (i := 1) (pg_name (i := 1) sc_check_formula.nd rfl (Or.inl rfl))) (sgs_cons (sg_name (i := 2) (pg_name (i := 2) sc_check_formula.nd rfl (Or.inl rfl))) (sgs_cons (sg_name (i := 3) (pg_name (i := 3) sc_check_formula.nd rfl (Or.inl rfl))) (sgs_cons (sg_name (i := 4) (pg_name (i := 4) sc_check_formula.nd rfl (Or.inl rfl))) sgs_nil)))))
(sb_one (ss_while (n := 3000) (passes_of rfl) (et_cmp op_gtA sim_ord (es_cb sim_len (cb bt_len cr_lenA T.bt.len (ea_cons (es_var (pv 1)) ea_nil))) (es_int pe_int) (by rfl))
(sb_cons (ss_asg (es_bm0 sim_pop (bmL0 PySem.F.slot_list_pop PySem.F.type_list_pop (K := K) rfl mt_pop (es_var (pv 1)))) (sg_tup (n := 2) rfl (sgs_cons (sg_name (i := 5) (pg_name (i := 5) sc_check_formula.nd rfl (Or.inl rfl))) (sgs_cons (sg_name (i := 6) (pg_name (i := 6) sc_check_formula.nd rfl (.inr rfl))) sgs_nil))))
(sb_cons (ss_set (ps_set (i := 7) sc_check_formula.nd rfl (Or.inl rfl) (es_call (f_parts_of T) hr gd (takes_of rfl rfl rfl rfl) rfl (ea_cons (es_var (pv 5)) ea_nil))))
(sb_cons (ss_if (et_isN (es_var (pv 7)))
(sb_one (ss_raise T.e_InvalidFormula_g (ps_raiseE rfl T.e_InvalidFormula_T hr (takes_of rfl rfl rfl rfl) (ea_cons (es_var (pv 4)) ea_nil))))
sb_nil)
(sb_cons (ss_if (et_cmp (op_eqX hu64) sim_eq (es_ix hr (es_var (pv 5)) (es_int pe_int) (fun _ _ => rfl)) (es_str pe_str) (by rfl))
(sb_cons (ss_set (ps_set (i := 8) sc_check_formula.nd rfl (Or.inl rfl) (es_or (es_cmp (op_inA hr) sim_in (es_ix hr (es_var (pv 5)) (es_int pe_int) (fun _ _ => rfl)) (es_var (pv 2)) (by rfl)) (es_one (es_cmp op_geA sim_ord (es_cb sim_len (cb bt_len cr_lenA T.bt.len (ea_cons (es_var (pv 2)) ea_nil))) (es_int (gI T.c_MOST_KINDS)) (by rfl))))))
(sb_one (ss_put hr (es_bl pe_bl) (es_var (pv 2)) (es_ix hr (es_var (pv 5)) (es_int pe_int) (fun _ _ => rfl)))))
(sb_one (ss_if (et_cmp (op_eqX hu64) sim_eq (es_ix hr (es_var (pv 5)) (es_int pe_int) (fun _ _ => rfl)) (es_str pe_str) (by rfl))
(sb_cons (ss_aug sim_imul (ps_aug (i := 6) sc_check_formula.nd rfl (.inr rfl) (es_ix hr (es_var (pv 5)) (es_int pe_int) (fun _ _ => rfl)) iop_mul))
(sb_one (ss_set (ps_set (i := 8) sc_check_formula.nd rfl (Or.inl rfl) (es_cmp op_gtA sim_ord (es_var (pv 6)) (es_int (gI T.c_MOST_AMOUNT)) (by rfl))))))
(sb_cons (ss_aug sim_iadd (ps_aug (i := 3) sc_check_formula.nd rfl (Or.inl rfl) (es_int pe_int) ip_add))
(sb_one (ss_set (ps_set (i := 8) sc_check_formula.nd rfl (Or.inl rfl) (es_cmp op_geA sim_ord (es_var (pv 3)) (es_int (gI T.c_MOST_KINDS)) (by rfl)))))))))
(sb_cons (ss_if (et_val (es_var (pv 8)))
(sb_one (ss_raise T.e_InvalidFormula_g (ps_raiseE rfl T.e_InvalidFormula_T hr (takes_of rfl rfl rfl rfl) (ea_cons (es_var (pv 4)) ea_nil))))
sb_nil)
(sb_cons (ss_drop (es_bm sim_ext (bmL PySem.F.slot_list_extend PySem.F.type_list_extend (K := K) rfl mt_extend (es_var (pv 1)) (ea_cons (es_lc (pe_lc (own := [("item", 9)]) rfl sc_check_formula.nd (ei_rev (RT.pi_revA rfl T.bt.reversed (es_var (pv 7)) rfl)) (blkOk_by (own := [("item", 9)]) (N := n_check_formula) (sc := defScope s_check_formula) (by decide +kernel)) (fun _ _ _ _ _ => (sc_name (i := 9) (pg_name (i := 9) sc_check_formula.nd rfl (Or.inl rfl)))) (fun _ _ _ _ _ => ets_nil) (fun _ _ _ _ _ => (es_tup (ea_cons (es_var (pv 9)) (ea_cons (es_var (pv 6)) ea_nil)))))) ea_nil))))
(sb_one (ss_aug sim_iadd (ps_aug (i := 4) sc_check_formula.nd rfl (Or.inl rfl) (es_int pe_int) ip_add)))))))))))))
def b__law_heard : ST :=
(tryAsS dec_InvalidFormula 1 (retS (tupE (consE (cst (.str "told")) (consE (callE m_check_formula (consE (var 0) nilE)) nilE)))) (fun c f x => (seqS (ifS (orT (test (isX 1 ix_InvalidNumber c)) (orT (test (isX 1 ix_InvalidText c)) (orT (test (isX 1 ix_Refused c)) (test (isaE .B (fldX 1 "InvalidFormula" "at" c f x))))))
(retS (tupE (consE (cst (.str "other")) (consE (cst (.int 0)) nilE))))
skipS)
(retS (ifE (andT (test (isX 1 ix_PoolError c)) (test (isX 1 ix_ValueError c))) (tupE (consE (cst (.str "formula")) (consE (fldX 1 "InvalidFormula" "at" c f x) nilE))) (tupE (consE (cst (.str "other")) (consE (cst (.int 1)) nilE))))))))
def m__law_heard : DefV := defM 1 2 b__law_heard
theorem f__law_heard (T : Kt P K mg) : FnM P w K mg base 5 "_law_heard" p__law_heard m__law_heard := T.d__law_heard.fn (k := 4) (mb := b__law_heard) sc__law_heard rfl (fun f0 cdv B up z H E room gd => by
  have hr := room
  have hu64 := room64 room
  have hu61 := room61 room
  exact (sb_one (ss_tryAs (i := 1) rfl rfl sc__law_heard.nd rfl rfl ⟨rfl, by decide, .inl T.e_InvalidFormula_g⟩ (takes_of rfl rfl rfl rfl) rfl T.x_InvalidFormula (fun W1 pn1 xe1 tk1 ps1 => (sb_one (ss_ret (es_tup (ea_cons (es_str pe_str) (ea_cons (es_call (f_check_formula T) hr gd tk1 rfl (ea_cons (es_var (pv 0)) ea_nil)) ea_nil))))))
(fun a oe pn ⟨c, f, x, C, dd⟩ hq0 hq1 hz hv => (sb_cons (ss_if (PW.pt (ew_or (et_val (es_isX T.bt.isinstance bt_isinstance rfl hz hv hq1 (pv 1) (gC T.e_InvalidNumber_g) (fun _ h => h) T.t_InvalidNumber)) (ew_or (et_val (es_isX T.bt.isinstance bt_isinstance rfl hz hv hq1 (pv 1) (gC T.e_InvalidText_g) (fun _ h => h) T.t_InvalidText)) (ew_or (et_val (es_isX T.bt.isinstance bt_isinstance rfl hz hv hq1 (pv 1) (gC T.e_Refused_g) (fun _ h => h) T.t_Refused)) (ew_or1 (et_val (es_isa (cb bt_isinstance (crIs (K := K) rfl) T.bt.isinstance (pa_cons (es_fldX T.e_InvalidFormula_T rfl hq1 rfl hz hv (pv 1)) (pa_cons (tyn bt_bool T.bt.bool) pa_nil))))))))))
(sb_one (ss_ret (es_tup (ea_cons (es_str pe_str) (ea_cons (es_int pe_int) ea_nil)))))
sb_nil)
(sb_one (ss_ret (es_if (PW.pt (ew_and (et_val (es_isX T.bt.isinstance bt_isinstance rfl hz hv hq1 (pv 1) (gC T.e_PoolError_g) (fun _ h => h) T.t_PoolError)) (ew_and1 (et_val (es_isX T.bt.isinstance bt_isinstance rfl hz hv hq1 (pv 1) (tyn bt_ValueError T.bt.ValueError) (fun _ h => h) T.t_ValueError))))) (es_tup (ea_cons (es_str pe_str) (ea_cons (es_fldX T.e_InvalidFormula_T rfl hq1 rfl hz hv (pv 1)) ea_nil))) (es_tup (ea_cons (es_str pe_str) (ea_cons (es_int pe_int) ea_nil)))))))))))
def b_kinds_of : ST :=
(retS (unL tupV (consE (unL sortedV (consE (callE (m_names_in 61) (consE (var 0) nilE)) nilE)) nilE)))
def m_kinds_of : DefV := defM 1 1 b_kinds_of
theorem f_kinds_of (T : Kt P K mg) : FnM P w K mg base 63 "kinds_of" p_kinds_of m_kinds_of := T.d_kinds_of.fn (k := 62) (mb := b_kinds_of) sc_kinds_of rfl (fun f0 cdv B up z H E room gd => by
  have hr := room
  have hu64 := room64 room
  have hu61 := room61 room
  exact (sb_one (ss_ret (es_cb sim_tup (ct bt_tuple (crTup (K := K) rfl) T.bt.tuple (ea_cons (es_cb sim_sorted (cb bt_sorted cr_sortA T.bt.sorted (ea_cons (es_call (f_names_in T 61) hr gd (takes_of rfl rfl rfl rfl) rfl (ea_cons (es_var (pv 0)) ea_nil)) ea_nil))) ea_nil))))))
end
end K11

/-! ## K11pe -/
set_option Elab.async false
set_option linter.all false
set_option maxRecDepth 100000
set_option maxHeartbeats 4000000
namespace K11
open PySem PySem.Spec PyProof.Rows L2 AK MP
section
variable {P : Program} {w : World} {K : PySem.W.Frag} {mg : Str → Option Value} {base : Heap}
def l__law_edge_1 : ST :=
(asgS (tupE (consE (cst (.str "many")) (consE (var 7) (consE (var 6) nilE)))) (nameT 6))
def b__law_edge : ST :=
(seqS (asgS (callE (m__law_formula 20) (consE (var 0) (consE (callE m__law_mixed (consE (var 0) (consE (var 1) nilE))) (consE (cst (.int 1)) nilE)))) (nameT 2))
(seqS (par2 3 4 (consE (callE (m__law_parts 61) (consE (var 2) nilE)) (consE (callE m__law_pick (consE (var 0) (consE (lstE (consE (lstE (consE (cst (.int 60)) nilE)) (consE (lstE (consE (cst (.int 2)) (consE (cst (.int 30)) nilE))) (consE (lstE (consE (cst (.int 2)) (consE (cst (.int 31)) nilE))) (consE (lstE (consE (cst (.int 6)) (consE (cst (.int 10)) nilE))) (consE (lstE (consE (cst (.int 7)) (consE (cst (.int 9)) nilE))) (consE (lstE (consE (cst (.int 3)) (consE (cst (.int 4)) (consE (cst (.int 5)) nilE)))) (consE (lstE (consE (cst (.int 3)) (consE (cst (.int 3)) (consE (cst (.int 7)) nilE)))) (consE (lstE (consE (cst (.int 8)) (consE (cst (.int 8)) nilE))) (consE (lstE (consE (cst (.int 2)) (consE (cst (.int 2)) (consE (cst (.int 3)) (consE (cst (.int 5)) nilE))))) (consE (lstE (consE (cst (.int 2)) (consE (cst (.int 2)) (consE (cst (.int 4)) (consE (cst (.int 4)) nilE))))) (consE (lstE (consE (cst (.int 20)) (consE (cst (.int 3)) nilE))) (consE (lstE (consE (cst (.int 31)) (consE (cst (.int 2)) nilE))) (consE (lstE (consE (cst (.int 2)) (consE (cst (.int 5)) (consE (cst (.int 2)) (consE (cst (.int 3)) nilE))))) (consE (lstE (consE (cst (.int 5)) (consE (cst (.int 13)) nilE))) (consE (lstE (consE (cst (.int 2)) (consE (cst (.int 2)) (consE (cst (.int 2)) (consE (cst (.int 2)) (consE (cst (.int 3)) nilE)))))) (consE (lstE (consE (cst (.int 2)) (consE (cst (.int 2)) (consE (cst (.int 2)) (consE (cst (.int 2)) (consE (cst (.int 4)) nilE)))))) nilE))))))))))))))))) nilE))) nilE)))
(seqS (asgS (callE drawV (consE (var 0) (consE (unL lenV (consE (var 3) nilE)) nilE))) (nameT 5))
(seqS (asgS (bin ixV (var 3) (var 5)) (nameT 6))
(seqS (forS (iterE (sliceE (var 4) (part (cst (.int 1))) noPart)) (nameT 7)
l__law_edge_1)
(retS (tupE (consE (cst (.str "many")) (consE (bin ixV (var 4) (cst (.int 0))) (consE (callE (m__law_replaced 61) (consE (var 2) (consE (lstM (consE (cst (.int 0)) nilE)) (consE (var 5) (consE (var 6) nilE))))) nilE))))))))))
def m__law_edge : DefV := defM 2 8 b__law_edge
theorem f__law_edge (T : Kt P K mg) : FnM P w K mg base 63 "_law_edge" p__law_edge m__law_edge := T.d__law_edge.fn (k := 62) (mb := b__law_edge) sc__law_edge rfl (fun f0 cdv B up z H E room gd => by
  have hr := room
  have hu64 := room64 room
  have hu61 := room61 room
  exact (sb_cons (ss_set (ps_set (i := 2) sc__law_edge.nd rfl (Or.inl rfl) (es_call (f__law_formula T 20) hr gd (takes_of rfl rfl rfl rfl) rfl (ea_cons (es_var (pv 0)) (ea_cons (es_call (f__law_mixed T) hr gd (takes_of rfl rfl rfl rfl) rfl (ea_cons (es_var (pv 0)) (ea_cons (es_var (pv 1)) ea_nil))) (ea_cons (es_int pe_int) ea_nil))))))
(sb_cons (ss_par (ps_par (i := 3) (j := 4) rfl sc__law_edge.nd rfl rfl (by decide) rfl rfl (ea_cons (es_call (f__law_parts T 61) hr gd (takes_of rfl rfl rfl rfl) rfl (ea_cons (es_var (pv 2)) ea_nil)) (ea_cons (es_call (f__law_pick T) hr gd (takes_of rfl rfl rfl rfl) rfl (ea_cons (es_var (pv 0)) (ea_cons (es_lst (ea_cons (es_lst (ea_cons (es_int pe_int) ea_nil)) (ea_cons (es_lst (ea_cons (es_int pe_int) (ea_cons (es_int pe_int) ea_nil))) (ea_cons (es_lst (ea_cons (es_int pe_int) (ea_cons (es_int pe_int) ea_nil))) (ea_cons (es_lst (ea_cons (es_int pe_int) (ea_cons (es_int pe_int) ea_nil))) (ea_cons (es_lst (ea_cons (es_int pe_int) (ea_cons (es_int pe_int) ea_nil))) (ea_cons (es_lst (ea_cons (es_int pe_int) (ea_cons (es_int pe_int) (ea_cons (es_int pe_int) ea_nil)))) (ea_cons (es_lst (ea_cons (es_int pe_int) (ea_cons (es_int pe_int) (ea_cons (es_int pe_int) ea_nil)))) (ea_cons (es_lst (ea_cons (es_int pe_int) (ea_cons (es_int pe_int) ea_nil))) (ea_cons (es_lst (ea_cons (es_int pe_int) (ea_cons (es_int pe_int) (ea_cons (es_int pe_int) (ea_cons (es_int pe_int) ea_nil))))) (ea_cons (es_lst (ea_cons (es_int pe_int) (ea_cons (es_int pe_int) (ea_cons (es_int pe_int) (ea_cons (es_int pe_int) ea_nil))))) (ea_cons (es_lst (ea_cons (es_int pe_int) (ea_cons (es_int pe_int) ea_nil))) (ea_cons (es_lst (ea_cons (es_int pe_int) (ea_cons (es_int pe_int) ea_nil))) (ea_cons (es_lst (ea_cons (es_int pe_int) (ea_cons (es_int pe_int) (ea_cons (es_int pe_int) (ea_cons (es_int pe_int) ea_nil))))) (ea_cons (es_lst (ea_cons (es_int pe_int) (ea_cons (es_int pe_int) ea_nil))) (ea_cons (es_lst (ea_cons (es_int pe_int) (ea_cons (es_int pe_int) (ea_cons (es_int pe_int) (ea_cons (es_int pe_int) (ea_cons (es_int pe_int) ea_nil)))))) (ea_cons (es_lst (ea_cons (es_int pe_int) (ea_cons (es_int pe_int) (ea_cons (es_int pe_int) (ea_cons (es_int pe_int) (ea_cons (es_int pe_int) ea_nil)))))) ea_nil))))))))))))))))) ea_nil))) ea_nil)) rfl))
(sb_cons (ss_set (ps_set (i := 5) sc__law_edge.nd rfl (Or.inl rfl) (es_call (f__law_draw T) hr gd (takes_of rfl rfl rfl rfl) rfl (ea_cons (es_var (pv 0)) (ea_cons (es_cb sim_len (cb bt_len cr_lenA T.bt.len (ea_cons (es_var (pv 3)) ea_nil))) ea_nil)))))
(sb_cons (ss_set (ps_set (i := 6) sc__law_edge.nd rfl (Or.inl rfl) (es_ix hr (es_var (pv 3)) (es_var (pv 5)) (fun _ _ => rfl))))
(sb_cons (ss_for (passes_of rfl) rfl (ei_seq (es_slice (es_var (pv 4)) (eo_some (es_int pe_int)) eo_none)) (sg_name (i := 7) (pg_name (i := 7) sc__law_edge.nd rfl (Or.inl rfl)))
(sb_one (ss_set (ps_set (i := 6) sc__law_edge.nd rfl (Or.inl rfl) (es_tup (ea_cons (es_str pe_str) (ea_cons (es_var (pv 7)) (ea_cons (es_var (pv 6)) ea_nil))))))))
(sb_one (ss_ret (es_tup (ea_cons (es_str pe_str) (ea_cons (es_ix hr (es_var (pv 4)) (es_int pe_int) (fun _ _ => rfl)) (ea_cons (es_call (f__law_replaced T 61) hr gd (takes_of rfl rfl rfl rfl) rfl (ea_cons (es_var (pv 2)) (ea_cons (es_lstM (ea_cons (es_int pe_int) ea_nil)) (ea_cons (es_var (pv 5)) (ea_cons (es_var (pv 6)) ea_nil))))) ea_nil))))))))))))
def b__law_right : ST :=
(seqS (par2 1 2 (consE (lstM (consE (cst (.int 0)) (consE (lstE nilE) (consE (cst (.int 0)) nilE)))) (consE (unL reprV (consE (var 0) nilE)) nilE)))
(seqS (asgS (callE (m__law_wrong 61) (consE (var 0) (consE (var 1) (consE (cst (.int 1)) nilE)))) (nameT 3))
(seqS (ifS (orT (test (bin (eqV true) (callE m__law_heard (consE (var 0) nilE)) (ifE (test (un (isN false) (var 3))) (tupE (consE (cst (.str "told")) (consE (cst .non) nilE))) (tupE (consE (cst (.str "formula")) (consE (var 3) nilE)))))) (test (bin (eqV true) (unL reprV (consE (var 0) nilE)) (var 2))))
(retS (cst (.bl false)))
skipS)
(seqS (ifS (test (un (isN true) (var 3)))
(retS (cst (.bl true)))
skipS)
(seqS (asgS (callE m_kinds_of (consE (var 0) nilE)) (nameT 4))
(retS (andE (isaE .T (var 4)) (andE (bin (eqV false) (var 4) (unL tupV (consE (unL sortedV (consE (bin ixV (var 1) (cst (.int 1))) nilE)) nilE))) (andE (bin (eqV false) (callK 0 1 1 m_kinds_of (fun as bs => selI [0] (as ++ bs)) nilE (consE (var 0) nilE)) (var 4)) (un (isN false) (callK 0 1 1 m_check_formula (fun as bs => selI [0] (as ++ bs)) nilE (consE (var 0) nilE))))))))))))
def m__law_right : DefV := defM 1 5 b__law_right
theorem f__law_right (T : Kt P K mg) : FnM P w K mg base 65 "_law_right" p__law_right m__law_right := T.d__law_right.fn (k := 64) (mb := b__law_right) sc__law_right rfl (fun f0 cdv B up z H E room gd => by
  have hr := room
  have hu64 := room64 room
  have hu61 := room61 room
  exact (sb_cons (ss_par (ps_par (i := 1) (j := 2) rfl sc__law_right.nd rfl rfl (by decide) rfl rfl (ea_cons (es_lstM (ea_cons (es_int pe_int) (ea_cons (es_lst ea_nil) (ea_cons (es_int pe_int) ea_nil)))) (ea_cons (es_cb sim_repr (cb bt_repr (cr_reprA gd hu61) T.bt.repr (ea_cons (es_var (pv 0)) ea_nil))) ea_nil)) rfl))
(sb_cons (ss_set (ps_set (i := 3) sc__law_right.nd rfl (Or.inl rfl) (es_call (f__law_wrong T 61) hr gd (takes_of rfl rfl rfl rfl) rfl (ea_cons (es_var (pv 0)) (ea_cons (es_var (pv 1)) (ea_cons (es_int pe_int) ea_nil))))))
(sb_cons (ss_if (PW.pt (ew_or (et_cmp (op_neX hu64) sim_ne (es_call (f__law_heard T) hr gd (takes_of rfl rfl rfl rfl) rfl (ea_cons (es_var (pv 0)) ea_nil)) (es_if (et_isN (es_var (pv 3))) (es_tup (ea_cons (es_str pe_str) (ea_cons (es_non pe_non) ea_nil))) (es_tup (ea_cons (es_str pe_str) (ea_cons (es_var (pv 3)) ea_nil)))) (by rfl)) (ew_or1 (et_cmp (op_neX hu64) sim_ne (es_cb sim_repr (cb bt_repr (cr_reprA gd hu61) T.bt.repr (ea_cons (es_var (pv 0)) ea_nil))) (es_var (pv 2)) (by rfl)))))
(sb_one (ss_ret (es_bl pe_bl)))
sb_nil)
(sb_cons (ss_if (et_notN (es_var (pv 3)))
(sb_one (ss_ret (es_bl pe_bl)))
sb_nil)
(sb_cons (ss_set (ps_set (i := 4) sc__law_right.nd rfl (Or.inl rfl) (es_call (f_kinds_of T) hr gd (takes_of rfl rfl rfl rfl) rfl (ea_cons (es_var (pv 0)) ea_nil))))
(sb_one (ss_ret (es_and (es_isa (cb bt_isinstance (crIs (K := K) rfl) T.bt.isinstance (pa_cons (es_var (pv 4)) (pa_cons (tyn bt_tuple T.bt.tuple) pa_nil)))) (es_and (es_cmp (op_eqX hu64) sim_eq (es_var (pv 4)) (es_cb sim_tup (ct bt_tuple (crTup (K := K) rfl) T.bt.tuple (ea_cons (es_cb sim_sorted (cb bt_sorted cr_sortA T.bt.sorted (ea_cons (es_ix hr (es_var (pv 1)) (es_int pe_int) (fun _ _ => rfl)) ea_nil))) ea_nil))) (by rfl)) (es_and (es_cmp (op_eqX hu64) sim_eq (es_callK0 (T.d_kinds_of.kw (n := 0) (ks := ["formula"]) [0] (f_kinds_of T) rfl (by intro _ _ _ _ _ _ us ws h1 h2; exact (match us, ws, h1, h2 with | [], [_], _, _ => rfl))) hr gd (takes_of rfl rfl rfl rfl) rfl (ek_cons (es_var (pv 0)) ek_nil)) (es_var (pv 4)) (by rfl)) (es_one (es_isN (es_callK0 (T.d_check_formula.kw (n := 0) (ks := ["value"]) [0] (f_check_formula T) rfl (by intro _ _ _ _ _ _ us ws h1 h2; exact (match us, ws, h1, h2 with | [], [_], _, _ => rfl))) hr gd (takes_of rfl rfl rfl rfl) rfl (ek_cons (es_var (pv 0)) ek_nil)))))))))))))))
def l__law_deep_right_1 : ST :=
(asgS (tupE (consE (bin ixV (var 1) (bin modV (unL intV (consE (var 5) nilE)) (cst (.int 2)))) (consE (tupE (consE (var 6) (consE (tupE (consE (cst (.str "kind")) (consE (bin ixV (cst (.str "bcdefghi")) (var 5)) nilE))) nilE))) nilE))) (nameT 6))
def l__law_deep_right_2 : ST :=
(seqS (asgS (tupE (consE (bin ixV (var 1) (bin modV (unL intV (consE (var 5) nilE)) (cst (.int 2)))) (consE (tupE (consE (var 3) (consE (tupE (consE (cst (.str "kind")) (consE (cst (.str "b")) nilE))) nilE))) nilE))) (nameT 3))
(asgS (tupE (consE (cst (.str "many")) (consE (var 2) (consE (var 4) nilE)))) (nameT 4)))
def b__law_deep_right : ST :=
(seqS (asgS (callE m__law_pick (consE (var 0) (consE (lstE (consE (lstE (consE (cst (.str "and")) (consE (cst (.str "and")) nilE))) (consE (lstE (consE (cst (.str "or")) (consE (cst (.str "or")) nilE))) (consE (lstE (consE (cst (.str "and")) (consE (cst (.str "or")) nilE))) (consE (lstE (consE (cst (.str "or")) (consE (cst (.str "and")) nilE))) nilE))))) nilE))) (nameT 1))
(seqS (par3 2 3 4 (consE (bin addV (cst (.int 2)) (callE drawV (consE (var 0) (consE (cst (.int 3)) nilE)))) (consE (tupE (consE (cst (.str "kind")) (consE (cst (.str "a")) nilE))) (consE (tupE (consE (cst (.str "kind")) (consE (cst (.str "b")) nilE))) nilE))))
(seqS (forS (rngE1 (consE (bin addV (cst (.int 9)) (callE drawV (consE (var 0) (consE (cst (.int 60)) nilE)))) nilE)) (nameT 5)
l__law_deep_right_2)
(seqS (ifS (orT (test (bin (eqV true) (callE m__law_heard (consE (var 3) nilE)) (tupE (consE (cst (.str "formula")) (consE (cst (.int 7)) nilE))))) (test (bin (eqV true) (callE m__law_heard (consE (var 4) nilE)) (tupE (consE (cst (.str "formula")) (consE (bin ixV (lstE (consE (cst (.int 5)) (consE (cst (.int 3)) (consE (cst (.int 2)) nilE)))) (bin subV (var 2) (cst (.int 2)))) nilE))))))
(retS (cst (.bl false)))
skipS)
(seqS (asgS (tupE (consE (cst (.str "kind")) (consE (cst (.str "a")) nilE))) (nameT 6))
(seqS (forS (rngE1 (consE (bin addV (cst (.int 6)) (callE drawV (consE (var 0) (consE (cst (.int 3)) nilE)))) nilE)) (nameT 5)
l__law_deep_right_1)
(retS (andE (callE m__law_right (consE (var 6) nilE)) (callE m__law_right (consE (tupE (consE (bin ixV (var 1) (cst (.int 0))) (consE (tupE (consE (tupE (consE (cst (.str "kind")) (consE (cst (.str "z")) nilE))) (consE (var 6) nilE))) nilE))) nilE))))))))))
def m__law_deep_right : DefV := defM 1 7 b__law_deep_right
theorem f__law_deep_right (T : Kt P K mg) : FnM P w K mg base 66 "_law_deep_right" p__law_deep_right m__law_deep_right := T.d__law_deep_right.fn (k := 65) (mb := b__law_deep_right) sc__law_deep_right rfl (fun f0 cdv B up z H E room gd => by
  have hr := room
  have hu64 := room64 room
  have hu61 := room61 room
  exact (sb_cons (ss_set (ps_set (i := 1) sc__law_deep_right.nd rfl (Or.inl rfl) (es_call (f__law_pick T) hr gd (takes_of rfl rfl rfl rfl) rfl (ea_cons (es_var (pv 0)) (ea_cons (es_lst (ea_cons (es_lst (ea_cons (es_str pe_str) (ea_cons (es_str pe_str) ea_nil))) (ea_cons (es_lst (ea_cons (es_str pe_str) (ea_cons (es_str pe_str) ea_nil))) (ea_cons (es_lst (ea_cons (es_str pe_str) (ea_cons (es_str pe_str) ea_nil))) (ea_cons (es_lst (ea_cons (es_str pe_str) (ea_cons (es_str pe_str) ea_nil))) ea_nil))))) ea_nil)))))
(sb_cons (ss_par3 (ps_par3 (i := 2) (j := 3) (l := 4) rfl sc__law_deep_right.nd rfl rfl rfl (by decide) (by decide) (by decide) rfl rfl rfl (ea_cons (es_add (es_int pe_int) (es_call (f__law_draw T) hr gd (takes_of rfl rfl rfl rfl) rfl (ea_cons (es_var (pv 0)) (ea_cons (es_int pe_int) ea_nil)))) (ea_cons (es_tup (ea_cons (es_str pe_str) (ea_cons (es_str pe_str) ea_nil))) (ea_cons (es_tup (ea_cons (es_str pe_str) (ea_cons (es_str pe_str) ea_nil))) ea_nil))) rfl rfl))
(sb_cons (ss_for (passes_of rfl) rfl (ei_rng1 (pi_range1 rfl T.bt.range (ea_cons (es_add (es_int pe_int) (es_call (f__law_draw T) hr gd (takes_of rfl rfl rfl rfl) rfl (ea_cons (es_var (pv 0)) (ea_cons (es_int pe_int) ea_nil)))) ea_nil))) (sg_name (i := 5) (pg_name (i := 5) sc__law_deep_right.nd rfl (Or.inl rfl)))
(sb_cons (ss_set (ps_set (i := 3) sc__law_deep_right.nd rfl (Or.inl rfl) (es_tup (ea_cons (es_ix hr (es_var (pv 1)) (es_mod (es_cb sim_int (ct bt_int (crInt (K := K) rfl) T.bt.int (ea_cons (es_var (pv 5)) ea_nil))) (es_int pe_int)) (fun _ _ => rfl)) (ea_cons (es_tup (ea_cons (es_var (pv 3)) (ea_cons (es_tup (ea_cons (es_str pe_str) (ea_cons (es_str pe_str) ea_nil))) ea_nil))) ea_nil)))))
(sb_one (ss_set (ps_set (i := 4) sc__law_deep_right.nd rfl (Or.inl rfl) (es_tup (ea_cons (es_str pe_str) (ea_cons (es_var (pv 2)) (ea_cons (es_var (pv 4)) ea_nil)))))))))
(sb_cons (ss_if (PW.pt (ew_or (et_cmp (op_neX hu64) sim_ne (es_call (f__law_heard T) hr gd (takes_of rfl rfl rfl rfl) rfl (ea_cons (es_var (pv 3)) ea_nil)) (es_tup (ea_cons (es_str pe_str) (ea_cons (es_int pe_int) ea_nil))) (by rfl)) (ew_or1 (et_cmp (op_neX hu64) sim_ne (es_call (f__law_heard T) hr gd (takes_of rfl rfl rfl rfl) rfl (ea_cons (es_var (pv 4)) ea_nil)) (es_tup (ea_cons (es_str pe_str) (ea_cons (es_ix hr (es_lst (ea_cons (es_int pe_int) (ea_cons (es_int pe_int) (ea_cons (es_int pe_int) ea_nil)))) (es_sub (es_var (pv 2)) (es_int pe_int)) (fun _ _ => rfl)) ea_nil))) (by rfl)))))
(sb_one (ss_ret (es_bl pe_bl)))
sb_nil)
(sb_cons (ss_set (ps_set (i := 6) sc__law_deep_right.nd rfl (Or.inl rfl) (es_tup (ea_cons (es_str pe_str) (ea_cons (es_str pe_str) ea_nil)))))
(sb_cons (ss_for (passes_of rfl) rfl (ei_rng1 (pi_range1 rfl T.bt.range (ea_cons (es_add (es_int pe_int) (es_call (f__law_draw T) hr gd (takes_of rfl rfl rfl rfl) rfl (ea_cons (es_var (pv 0)) (ea_cons (es_int pe_int) ea_nil)))) ea_nil))) (sg_name (i := 5) (pg_name (i := 5) sc__law_deep_right.nd rfl (Or.inl rfl)))
(sb_one (ss_set (ps_set (i := 6) sc__law_deep_right.nd rfl (Or.inl rfl) (es_tup (ea_cons (es_ix hr (es_var (pv 1)) (es_mod (es_cb sim_int (ct bt_int (crInt (K := K) rfl) T.bt.int (ea_cons (es_var (pv 5)) ea_nil))) (es_int pe_int)) (fun _ _ => rfl)) (ea_cons (es_tup (ea_cons (es_var (pv 6)) (ea_cons (es_tup (ea_cons (es_str pe_str) (ea_cons (es_ix hr (es_str pe_str) (es_var (pv 5)) (fun _ _ => rfl)) ea_nil))) ea_nil))) ea_nil)))))))
(sb_one (ss_ret (es_and (es_call (f__law_right T) hr gd (takes_of rfl rfl rfl rfl) rfl (ea_cons (es_var (pv 6)) ea_nil)) (es_one (es_call (f__law_right T) hr gd (takes_of rfl rfl rfl rfl) rfl (ea_cons (es_tup (ea_cons (es_ix hr (es_var (pv 1)) (es_int pe_int) (fun _ _ => rfl)) (ea_cons (es_tup (ea_cons (es_tup (ea_cons (es_str pe_str) (ea_cons (es_str pe_str) ea_nil))) (ea_cons (es_var (pv 6)) ea_nil))) ea_nil))) ea_nil)))))))))))))
end
end K11

/-! ## MSpec -/
set_option Elab.async false
set_option linter.all false
set_option maxRecDepth 100000
set_option maxHeartbeats 2000000
/-! MP: laws by which programs are worked out -/
namespace MP
open PySem PySem.Spec PyProof.Rows L2 AK
theorem S.drops_self {s : S} : s.drops s = true := by unfold S.drops; simp
@[simp] theorem S.back_self {s : S} : s.back s = s := by unfold S.back; rw [if_pos S.drops_self, List.take_length]
@[simp] theorem S.back_g {s : S} {g : Option Rn} : s.back { s with g := g } = { s with g := g } := by
  unfold S.back
  have h : s.drops { s with g := g } = true := by unfold S.drops; simp
  rw [if_pos h]
  show ({ g := g, h := s.h.take s.h.length } : S) = _
  rw [List.take_length]
theorem retC_p {s s' : S} {x : PV} : retC s (.p x) s' = .ok (.p x) (s.back s') := rfl
@[simp] theorem back_app {s : S} {g : Option Rn} {t : List (Option MO)} : s.back { g := g, h := s.h ++ t } = { s with g := g } := by
  unfold S.back
  have h : s.drops { g := g, h := s.h ++ t } = true := by unfold S.drops; simp
  rw [if_pos h]
  show ({ g := g, h := (s.h ++ t).take s.h.length } : S) = _
  rw [List.take_left]
/-- an object made within is handed out as a value -/
theorem retC_o {s : S} {g : Option Rn} {t : List (Option MO)} {n : Nat} {o : MO} {x : PV} (h : s.h.length + n < s.h.length + t.length) (ho : t[n]? = some (some o)) (hx : frzO o = some x) : retC s (.o (s.h.length + n)) { g := g, h := s.h ++ t } = .ok (.p x) { s with g := g } := by
  unfold retC
  have h1 : (MV.o (s.h.length + n)).lt s.h.length = false := by unfold MV.lt; exact decide_eq_false (by omega)
  rw [h1, if_neg Bool.false_ne_true]
  have h2 : frz s.h.length { g := g, h := s.h ++ t } (.o (s.h.length + n)) = some x := by
    unfold frz
    simp only
    rw [if_pos (Nat.le_add_right _ _), List.getElem?_append_right (Nat.le_add_right _ _), Nat.add_sub_cancel_left, ho]
    exact hx
  rw [h2]
  have h3 : s.drops { g := g, h := s.h ++ t } = true := by unfold S.drops; simp
  show (if s.drops { g := g, h := s.h ++ t } = true then Res.ok (MV.p x) (s.back { g := g, h := s.h ++ t }) else _) = _
  rw [if_pos h3, back_app]
theorem eqv_str {a b : Str} : PV.eqv (.str a) (.str b) = decide (a = b) := by
  unfold PV.eqv
  rw [PV.dat, PV.dat, PyData.eqv]
  by_cases h : a = b
  · rw [h]; simp
  · simp [h]
theorem eqv_int {a b : Int} : PV.eqv (.int a) (.int b) = decide (a = b) := by
  unfold PV.eqv
  rw [PV.dat, PV.dat, PyData.eqv]
  by_cases h : a = b
  · rw [h]; simp
  · simp [h]
/-- how a def ends, by how its body ends -/
def defR (s : S) (r : SR) : Res MV := match r with
  | .nx _ s' => .ok (.p .non) (s.back s')
  | .rt v s' => retC s v s'
  | .exc c f x _ s' => .exc c f x (s.back s')
  | _ => .no
theorem x_defM {np ns : Nat} {mb : ST} {ds : List MV} {s : S} : defM np ns mb ds s = if ds.length = np then defR s (mb (ds.map some ++ List.replicate (ns - np) none) s) else .no := rfl
@[simp] theorem x_defnx {s s' : S} {ρ : Env} : defR s (.nx ρ s') = .ok (.p .non) (s.back s') := rfl
@[simp] theorem x_defrt {s s' : S} {v : MV} : defR s (.rt v s') = retC s v s' := rfl
@[simp] theorem x_defexc {s s' : S} {c f : Str} {x : PV} {ρ : Env} : defR s (.exc c f x ρ s') = .exc c f x (s.back s') := rfl
@[simp] theorem x_defite {s : S} {c : Prop} [Decidable c] {r1 r2 : SR} : defR s (if c then r1 else r2) = if c then defR s r1 else defR s r2 := by split <;> rfl
/-! ## comprehensions over values -/
theorem lcI_map {it : Items} {t : TM} {me : E MV} {ρ : Env} {fin : List MV → S → Res MV} {s : S} {f : MV → MV} (hc : it.chk s = true) : ∀ (xs acc : List MV), (∀ x ∈ xs, ∃ ρ1, t x ρ s = .ok ρ1 s ∧ me ρ1 s = .ok (f x) s) → lcI it t yesT me ρ (fun _ => true) fin xs acc s = fin (acc ++ xs.map f) s
  | [], acc, _ => by unfold lcI; rw [if_pos hc, List.map_nil, List.append_nil]
  | x :: xs, acc, h => by
    obtain ⟨ρ1, h1, h2⟩ := h x List.mem_cons_self
    unfold lcI
    rw [if_pos hc, h1]
    have ih := lcI_map (fin := fin) hc xs (acc ++ [f x]) fun y hy => h y (List.mem_cons_of_mem _ hy)
    rw [List.append_assoc] at ih
    show (if true = true then (me ρ1 s).bindN fun v s3 => if true = true then lcI it t yesT me ρ (fun _ => true) fin xs (acc ++ [v]) s3 else .no else lcI it t yesT me ρ (fun _ => true) fin xs acc s) = _
    rw [if_pos rfl, h2]
    exact ih
/-! ## one step of a program -/
section
variable {α β : Type} {ρ ρ1 : Env} {s s1 : S} {x : PV} {v : MV} {n i : Nat}
@[simp] theorem x_bindok {a : α} {f : α → S → Res β} : (Res.ok a s).bind f = f a s := rfl
@[simp] theorem x_bindexc {c fl : Str} {f : α → S → Res β} : (Res.exc c fl x s : Res α).bind f = .exc c fl x s := rfl
@[simp] theorem x_bind {m : E α} {f : α → E β} : MP.bind m f ρ s = (m ρ s).bind fun a s1 => f a ρ s1 := rfl
@[simp] theorem x_ret {a : α} : MP.ret a ρ s = .ok a s := rfl
@[simp] theorem x_lift {r : S → Res α} : lift r ρ s = r s := rfl
@[simp] theorem x_cst : cst x ρ s = .ok (.p x) s := rfl
@[simp] theorem x_bin {g : Op2} {ma mb : E MV} : bin g ma mb ρ s = (ma ρ s).bind fun a s1 => (mb ρ s1).bind fun b s2 => g a b s2 := rfl
@[simp] theorem x_un {g : Op1} {ma : E MV} : un g ma ρ s = (ma ρ s).bind fun a s1 => g a s1 := rfl
@[simp] theorem x_unL {g : DefV} {ma : E (List MV)} : unL g ma ρ s = (ma ρ s).bind fun a s1 => g a s1 := rfl
@[simp] theorem x_callE {g : DefV} {ma : E (List MV)} : callE g ma ρ s = (ma ρ s).bind fun a s1 => g a s1 := rfl
@[simp] theorem x_isaE {T : Tg} {ma : E MV} : isaE T ma ρ s = (ma ρ s).bind fun a s1 => isaV T a s1 := rfl
@[simp] theorem x_nilE : nilE ρ s = .ok [] s := rfl
@[simp] theorem x_consE {ma : E MV} {mr : E (List MV)} : consE ma mr ρ s = (ma ρ s).bind fun a s1 => (mr ρ s1).bind fun as s2 => .ok (a :: as) s2 := rfl
@[simp] theorem x_tupE {ma : E (List MV)} : tupE ma ρ s = (ma ρ s).bind fun a s1 => mkT a s1 := rfl
@[simp] theorem x_lstE {ma : E (List MV)} : lstE ma ρ s = (ma ρ s).bind fun a s1 => mkL a s1 := rfl
@[simp] theorem x_lstM {ma : E (List MV)} : lstM ma ρ s = (ma ρ s).bind fun a s1 => mkO a s1 := rfl
theorem x_var (h : ρ[i]? = some (some v)) : var i ρ s = .ok v s := by unfold var; rw [h]
@[simp] theorem x_var0 {a : MV} {r : Env} : var 0 (some a :: r) s = .ok a s := rfl
@[simp] theorem x_varS {a : Option MV} {r : Env} : var (i + 1) (a :: r) s = var i r s := by unfold var; rw [List.getElem?_cons_succ]
@[simp] theorem x_test {m : E MV} : test m ρ s = (m ρ s).bind fun v s1 => asB v s1 := rfl
@[simp] theorem x_asB {b : Bool} : asB (.p (.bl b)) s = .ok b s := rfl
@[simp] theorem x_andE {ma mb : E MV} : andE ma mb ρ s = (test ma ρ s).bind fun k s1 => if k = true then mb ρ s1 else .ok (.p (.bl false)) s1 := by
  unfold andE; rw [x_bind]; congr; funext k s1; split <;> rfl
@[simp] theorem x_orE {ma mb : E MV} : orE ma mb ρ s = (test ma ρ s).bind fun k s1 => if k = true then .ok (.p (.bl true)) s1 else mb ρ s1 := by
  unfold orE; rw [x_bind]; congr; funext k s1; split <;> rfl
@[simp] theorem x_notE {ma : E MV} : notE ma ρ s = (test ma ρ s).bind fun k s1 => .ok (.p (.bl (!k))) s1 := rfl
@[simp] theorem x_andT {ma mb : E Bool} : andT ma mb ρ s = (ma ρ s).bind fun k s1 => if k = true then mb ρ s1 else .ok false s1 := by
  unfold andT; rw [x_bind]; congr; funext k s1; split <;> rfl
@[simp] theorem x_orT {ma mb : E Bool} : orT ma mb ρ s = (ma ρ s).bind fun k s1 => if k = true then .ok true s1 else mb ρ s1 := by
  unfold orT; rw [x_bind]; congr; funext k s1; split <;> rfl
@[simp] theorem x_notT {ma : E Bool} : notT ma ρ s = (ma ρ s).bind fun k s1 => .ok (!k) s1 := rfl
@[simp] theorem x_ifE {mc : E Bool} {ma mb : E α} : ifE mc ma mb ρ s = (mc ρ s).bind fun k s1 => if k = true then ma ρ s1 else mb ρ s1 := by
  unfold ifE; rw [x_bind]; congr; funext k s1; split <;> rfl
@[simp] theorem x_chain {g g' : Op2} {ma mb mc : E MV} : chain g g' ma mb mc ρ s = (ma ρ s).bind fun a s1 => (mb ρ s1).bind fun b s2 => (g a b s2).bind fun k s3 => (asB k s3).bind fun k s3 => if k = true then (mc ρ s3).bind fun c s4 => g' b c s4 else .ok (.p (.bl false)) s3 := by
  unfold chain
  simp only [x_bind, x_test, x_lift]
  congr; funext a s1; congr; funext b s2
  cases g a b s2 with
  | no => rfl
  | exc => rfl
  | ok k s3 =>
    simp only [Res.bind]
    cases asB k s3 with
    | no => rfl
    | exc => rfl
    | ok k s3 => simp only []; split <;> rfl
@[simp] theorem x_bindite {c : Prop} [Decidable c] {r1 r2 : Res α} {f : α → S → Res β} : (if c then r1 else r2).bind f = if c then r1.bind f else r2.bind f := by split <;> rfl
/-! statements -/
@[simp] theorem x_toSRok {a : α} {f : α → S → SR} : (Res.ok a s).toSR ρ f = f a s := rfl
@[simp] theorem x_toSRexc {c fl : Str} {f : α → S → SR} : (Res.exc c fl x s : Res α).toSR ρ f = .exc c fl x ρ s := rfl
@[simp] theorem x_toSRite {c : Prop} [Decidable c] {r1 r2 : Res α} {f : α → S → SR} : (if c then r1 else r2).toSR ρ f = if c then r1.toSR ρ f else r2.toSR ρ f := by split <;> rfl
@[simp] theorem x_toS {m : E α} {f : α → ST} : toS m f ρ s = (m ρ s).toSR ρ fun a s1 => f a ρ s1 := rfl
@[simp] theorem x_retS {m : E MV} : retS m ρ s = (m ρ s).toSR ρ fun v s1 => .rt v s1 := rfl
@[simp] theorem x_retN : retN ρ s = .rt (.p .non) s := rfl
@[simp] theorem x_dropS {m : E MV} : dropS m ρ s = (m ρ s).toSR ρ fun _ s1 => .nx ρ s1 := rfl
@[simp] theorem x_skipS : skipS ρ s = .nx ρ s := rfl
@[simp] theorem x_brkS : brkS ρ s = .bk ρ s := rfl
@[simp] theorem x_ctS : ctS ρ s = .ct ρ s := rfl
@[simp] theorem x_ifS {mc : E Bool} {a b : ST} : ifS mc a b ρ s = (mc ρ s).toSR ρ fun k s1 => if k = true then a ρ s1 else b ρ s1 := by
  unfold ifS; rw [x_toS]; congr; funext k s1; split <;> rfl
/-- one statement behind another, by how the first ends -/
def seqR (r : SR) (b : ST) : SR := match r with
  | .nx ρ1 s1 => b ρ1 s1
  | r => r
@[simp] theorem x_seqS {a b : ST} : seqS a b ρ s = seqR (a ρ s) b := by unfold seqS seqR; cases a ρ s <;> rfl
@[simp] theorem x_seqnx {b : ST} : seqR (.nx ρ s) b = b ρ s := rfl
@[simp] theorem x_seqrt {b : ST} : seqR (.rt v s) b = .rt v s := rfl
@[simp] theorem x_seqbk {b : ST} : seqR (.bk ρ s) b = .bk ρ s := rfl
@[simp] theorem x_seqct {b : ST} : seqR (.ct ρ s) b = .ct ρ s := rfl
@[simp] theorem x_seqexc {b : ST} {c fl : Str} : seqR (.exc c fl x ρ s) b = .exc c fl x ρ s := rfl
@[simp] theorem x_seqite {c : Prop} [Decidable c] {r1 r2 : SR} {b : ST} : seqR (if c then r1 else r2) b = if c then seqR r1 b else seqR r2 b := by split <;> rfl
@[simp] theorem x_asgS {m : E MV} {t : TM} : asgS m t ρ s = (m ρ s).toSR ρ fun a s1 => (t a ρ s1).toSR ρ fun ρ1 s2 => .nx ρ1 s2 := rfl
@[simp] theorem x_nameT {a : MV} : nameT i a ρ s = .ok (ρ.set i (some a)) s := rfl
@[simp] theorem x_par2 {j : Nat} {m : E (List MV)} : par2 i j m ρ s = (m ρ s).toSR ρ fun vs s1 => match vs with
  | [a, b] => .nx ((ρ.set i (some a)).set j (some b)) s1
  | _ => .no := by unfold par2; rw [x_toS] <;> congr
@[simp] theorem x_par3 {j l : Nat} {m : E (List MV)} : par3 i j l m ρ s = (m ρ s).toSR ρ fun vs s1 => match vs with
  | [a, b, c] => .nx (((ρ.set i (some a)).set j (some b)).set l (some c)) s1
  | _ => .no := by unfold par3; rw [x_toS] <;> congr
@[simp] theorem x_raiseS {c f : Str} {ma : E (List MV)} : raiseS c f ma ρ s = (ma ρ s).toSR ρ fun as s1 => match as with
  | [.p x] => .exc c f x ρ s1
  | _ => .no := by unfold raiseS; rw [x_toS] <;> congr
@[simp] theorem x_asgT {ml : E (List MV)} {t : List MV → Env → S → Res Env} : asgN n ml t ρ s = (ml ρ s).toSR ρ fun xs s1 => if xs.length = n then (if xs.length ≤ 16777216 then (Calm (t xs ρ s1)).toSR ρ fun ρ1 s1 => .nx ρ1 s1 else .no) else .no := by
  unfold asgN asgT
  rw [x_toS, x_bind]
  cases ml ρ s with
  | no => rfl
  | exc => rfl
  | ok xs s1 =>
    simp only [x_bindok, x_toSRok]
    split <;> rfl
@[simp] theorem x_nilT : nilT [] ρ s = .ok ρ s := rfl
@[simp] theorem x_consT {t : TM} {u : List MV → Env → S → Res Env} {a : MV} {r : List MV} : consT t u (a :: r) ρ s = (t a ρ s).bind fun ρ1 s1 => u r ρ1 s1 := rfl
@[simp] theorem x_calm : Calm (.ok ρ s) = .ok ρ s := rfl
@[simp] theorem x_tupT {t : List MV → Env → S → Res Env} {xs : List PV} : tupT n t (.p (.tup xs)) ρ s = if xs.length = n then t (xs.map MV.p) ρ s else .no := rfl
@[simp] theorem x_forS {mi : E Items} {t : TM} {b : ST} : forS mi t b ρ s = (mi ρ s).toSR ρ fun it s1 => forI it t b it.xs ρ s1 := rfl
@[simp] theorem x_iterE {m : E MV} : iterE m ρ s = (m ρ s).bind fun a s1 => itemsV a s1 := rfl
@[simp] theorem x_methE {g : OpM} {mo : E MV} {ma : E (List MV)} : methE g mo ma ρ s = (mo ρ s).bind fun o s1 => if isLst o s1 = true then (ma ρ s1).bind fun as s2 => g o as s2 else .no := rfl
@[simp] theorem x_m1E {g : Op2} {mo me : E MV} : m1E g mo me ρ s = (mo ρ s).bind fun o s1 => if isStr o = true then (me ρ s1).bind fun a s2 => g o a s2 else .no := rfl
/-! what operators do -/
@[simp] theorem x_isN {neg : Bool} : isN neg (.p .non) s = .ok (.p (.bl (!neg))) s := rfl
@[simp] theorem x_isNT {neg : Bool} {xs : List PV} : isN neg (.p (.tup xs)) s = .ok (.p (.bl neg)) s := rfl
@[simp] theorem x_isNL {neg : Bool} {xs : List PV} : isN neg (.p (.lst xs)) s = .ok (.p (.bl neg)) s := rfl
@[simp] theorem x_isNI {neg : Bool} {j : Int} : isN neg (.p (.int j)) s = .ok (.p (.bl neg)) s := rfl
@[simp] theorem x_isNS {neg : Bool} {z : Str} : isN neg (.p (.str z)) s = .ok (.p (.bl neg)) s := rfl
@[simp] theorem x_isNB {neg b : Bool} : isN neg (.p (.bl b)) s = .ok (.p (.bl neg)) s := rfl
@[simp] theorem x_isNO {neg : Bool} {j : Nat} : isN neg (.o j) s = .ok (.p (.bl neg)) s := rfl
@[simp] theorem x_one {f : MV → S → Res MV} : one f [v] s = f v s := rfl
@[simp] theorem x_retCp {s' : S} : retC s (.p x) s' = .ok (.p x) (s.back s') := rfl
@[simp] theorem x_leI {i j : Int} : leV (.p (.int i)) (.p (.int j)) s = .ok (.p (.bl (decide (i ≤ j)))) s := rfl
@[simp] theorem x_ltI {i j : Int} : ltV (.p (.int i)) (.p (.int j)) s = .ok (.p (.bl (decide (i < j)))) s := rfl
@[simp] theorem x_geI {i j : Int} : geV (.p (.int i)) (.p (.int j)) s = .ok (.p (.bl (decide (j ≤ i)))) s := rfl
@[simp] theorem x_gtI {i j : Int} : gtV (.p (.int i)) (.p (.int j)) s = .ok (.p (.bl (decide (j < i)))) s := rfl
@[simp] theorem x_addI {i j : Int} : addV (.p (.int i)) (.p (.int j)) s = .ok (.p (.int (i + j))) s := rfl
@[simp] theorem x_subI {i j : Int} : subV (.p (.int i)) (.p (.int j)) s = .ok (.p (.int (i - j))) s := rfl
@[simp] theorem x_iaddI {i j : Int} : iaddV (.p (.int i)) (.p (.int j)) s = .ok (.p (.int (i + j))) s := rfl
theorem x_modI {i j : Int} (h : 0 < j) : modV (.p (.int i)) (.p (.int j)) s = .ok (.p (.int (i % j))) s := by unfold modV intOp; simp [h]
@[simp] theorem x_intI {i : Int} : intV [.p (.int i)] s = .ok (.p (.int i)) s := rfl
@[simp] theorem x_intB {b : Bool} : intV [.p (.bl b)] s = .ok (.p (.int (b2z b))) s := rfl
@[simp] theorem x_lenT {xs : List PV} : lenV [.p (.tup xs)] s = .ok (.p (.int xs.length)) s := rfl
@[simp] theorem x_lenL {xs : List PV} : lenV [.p (.lst xs)] s = .ok (.p (.int xs.length)) s := rfl
theorem x_lenS {z : Str} (h : z.length ≤ 16777216) : lenV [.p (.str z)] s = .ok (.p (.int z.length)) s := by unfold lenV one; simp [h]
theorem x_lenO {xs : List MV} (h : s.h[n]? = some (some (.lst xs))) : lenV [.o n] s = .ok (.p (.int xs.length)) s := by unfold lenV one; simp [h]
theorem x_lenD {xs : List (Key × MV)} (h : s.h[n]? = some (some (.dK xs))) : lenV [.o n] s = .ok (.p (.int xs.length)) s := by unfold lenV one; simp [h]
/-! comprehensions -/
@[simp] theorem x_lcE {fin : List MV → S → Res MV} {mi : E Items} {vs : List Nat} {t : TM} {mt : E Bool} {me : E MV} : lcE fin mi vs t mt me ρ s = (mi ρ s).bind fun it s1 => lcI it t mt me (wipeE ρ vs) (fun _ => true) fin it.xs [] s1 := rfl
theorem allP_mapP {γ : Type} {F : γ → PV} (L : List γ) : allP (L.map fun a => MV.p (F a)) = some (L.map F) := by
  have := allP_map (L.map F)
  rw [List.map_map] at this
  exact this
theorem lc_list {γ : Type} {L : List γ} {g : γ → MV} (F : γ → PV) {t : TM} {me : E MV} (h : ∀ a ∈ L, ∃ ρ1, t (g a) ρ s = .ok ρ1 s ∧ me ρ1 s = .ok (.p (F a)) s) : lcI ⟨L.map g, none⟩ t yesT me ρ (fun _ => true) mkLc (L.map g) [] s = .ok (.p (.lst (L.map F))) s := by
  have hck : Items.chk ⟨L.map g, none⟩ s = true := rfl
  have key : ∀ (M : List γ) (acc : List MV), (∀ a ∈ M, a ∈ L) → lcI ⟨L.map g, none⟩ t yesT me ρ (fun _ => true) mkLc (M.map g) acc s = mkLc (acc ++ M.map fun a => MV.p (F a)) s := by
    intro M
    induction M with
    | nil => intro acc _; rw [List.map_nil, List.map_nil, List.append_nil]; unfold lcI; rw [if_pos hck]
    | cons x M ih =>
      intro acc hM
      obtain ⟨ρ1, h1, h2⟩ := h x (hM x List.mem_cons_self)
      have ih := ih (acc ++ [MV.p (F x)]) fun a ha => hM a (List.mem_cons_of_mem _ ha)
      rw [List.append_assoc] at ih
      rw [List.map_cons]
      unfold lcI
      rw [if_pos hck, h1]
      show (if true = true then (me ρ1 s).bindN fun v s3 => if true = true then lcI ⟨L.map g, none⟩ t yesT me ρ (fun _ => true) mkLc (M.map g) (acc ++ [v]) s3 else .no else lcI ⟨L.map g, none⟩ t yesT me ρ (fun _ => true) mkLc (M.map g) acc s) = _
      rw [if_pos rfl, h2]
      exact ih
  rw [key L [] fun a ha => ha, List.nil_append]
  unfold mkLc
  rw [allP_mapP]
theorem asBools_mapP {γ : Type} {F : γ → Bool} (L : List γ) : asBools (L.map fun a => PV.bl (F a)) = some (L.map F) := by
  have := asBools_map (L.map F)
  rw [List.map_map] at this
  exact this
theorem asInts_mapP {γ : Type} {F : γ → Int} (L : List γ) : asInts (L.map fun a => PV.int (F a)) = some (L.map F) := by
  have := asInts_map (L.map F)
  rw [List.map_map] at this
  exact this
theorem asStrs_mapP {γ : Type} {F : γ → Str} (L : List γ) : asStrs (L.map fun a => PV.str (F a)) = some (L.map F) := by
  have := asStrs_map (L.map F)
  rw [List.map_map] at this
  exact this
theorem x_all {γ : Type} {F : γ → Bool} {L : List γ} : allV [.p (.lst (L.map fun a => PV.bl (F a)))] s = .ok (.p (.bl (L.all F))) s := by
  have h : ((seqL s (.p (.lst (L.map fun a => PV.bl (F a))))).bind asBools) = some (L.map F) := asBools_mapP L
  unfold allV onBools one
  simp only []
  rw [h]
  simp [List.all_map]
theorem x_any {γ : Type} {F : γ → Bool} {L : List γ} : anyV [.p (.lst (L.map fun a => PV.bl (F a)))] s = .ok (.p (.bl (L.any F))) s := by
  have h : ((seqL s (.p (.lst (L.map fun a => PV.bl (F a))))).bind asBools) = some (L.map F) := asBools_mapP L
  unfold anyV onBools one
  simp only []
  rw [h]
  simp [List.any_map]
theorem x_sum {γ : Type} {F : γ → Int} {L : List γ} : sumV [.p (.lst (L.map fun a => PV.int (F a)))] s = .ok (.p (.int (L.map F).sum)) s := by
  have h : ((seqL s (.p (.lst (L.map fun a => PV.int (F a))))).bind asInts) = some (L.map F) := asInts_mapP L
  unfold sumV onInts one
  simp only []
  rw [h]
@[simp] theorem x_mkT {xs : List PV} (h : xs.length ≤ 16777216) : mkT (xs.map MV.p) s = .ok (.p (.tup xs)) s := by unfold mkT; rw [allP_map]; simp [h]
@[simp] theorem x_mkT1 {x : PV} : mkT [.p x] s = .ok (.p (.tup [x])) s := rfl
@[simp] theorem x_mkT0 : mkT [] s = .ok (.p (.tup [])) s := rfl
@[simp] theorem x_mkT2 {x y : PV} : mkT [.p x, .p y] s = .ok (.p (.tup [x, y])) s := rfl
@[simp] theorem x_mkT3 {x y z : PV} : mkT [.p x, .p y, .p z] s = .ok (.p (.tup [x, y, z])) s := rfl
@[simp] theorem x_mkL0 : mkL [] s = .ok (.p (.lst [])) s := rfl
@[simp] theorem x_mkL1 {x : PV} : mkL [.p x] s = .ok (.p (.lst [x])) s := rfl
@[simp] theorem x_mkL2 {x y : PV} : mkL [.p x, .p y] s = .ok (.p (.lst [x, y])) s := rfl
@[simp] theorem x_mkL3 {x y z : PV} : mkL [.p x, .p y, .p z] s = .ok (.p (.lst [x, y, z])) s := rfl
/-! equality, in -/
@[simp] theorem x_flat {y : PV} : flat s (.p y) = some y := rfl
theorem x_eq {a b : PV} (ha : PV.isD 60 a = true) (hb : PV.isD 60 b = true) : eqV false (.p a) (.p b) s = .ok (.p (.bl (a.eqv b))) s := by
  have h : eqD false (.p a) (.p b) s = .ok (.p (.bl (a.eqv b))) s := by unfold eqD; simp [ha, hb]
  unfold eqV
  split
  · rename_i x y e1 e2; cases e1; cases e2; rw [eqv_str]; rfl
  · exact h
theorem x_ne {a b : PV} (ha : PV.isD 60 a = true) (hb : PV.isD 60 b = true) : eqV true (.p a) (.p b) s = .ok (.p (.bl (!(a.eqv b)))) s := by
  have h : eqD true (.p a) (.p b) s = .ok (.p (.bl (!(a.eqv b)))) s := by unfold eqD; simp [ha, hb]
  unfold eqV
  split
  · rename_i x y e1 e2; cases e1; cases e2; rw [eqv_str]; rfl
  · exact h
@[simp] theorem isD_int {i : Int} : PV.isD n (.int i) = true := by cases n <;> rfl
@[simp] theorem isD_non : PV.isD n .non = true := by cases n <;> rfl
@[simp] theorem isD_bl {b : Bool} : PV.isD n (.bl b) = true := by cases n <;> rfl
theorem isD_strE {z : Str} : PV.isD n (.str z) = PyData.strOk z := by cases n <;> rfl
@[simp] theorem x_eqI {i j : Int} : eqV false (.p (.int i)) (.p (.int j)) s = .ok (.p (.bl (decide (i = j)))) s := by rw [x_eq isD_int isD_int, eqv_int]
theorem x_eqZ {a b : Str} : eqV false (.p (.str a)) (.p (.str b)) s = .ok (.p (.bl (decide (a = b)))) s := rfl
theorem x_neZ {a b : Str} : eqV true (.p (.str a)) (.p (.str b)) s = .ok (.p (.bl (!decide (a = b)))) s := rfl
theorem x_eqS {a b : Str} (ha : PyData.strOk a = true) (hb : PyData.strOk b = true) : eqV false (.p (.str a)) (.p (.str b)) s = .ok (.p (.bl (decide (a = b)))) s := by rw [x_eq (isD_strE.trans ha) (isD_strE.trans hb), eqv_str]
theorem x_neS {a b : Str} (ha : PyData.strOk a = true) (hb : PyData.strOk b = true) : eqV true (.p (.str a)) (.p (.str b)) s = .ok (.p (.bl (!decide (a = b)))) s := by rw [x_ne (isD_strE.trans ha) (isD_strE.trans hb), eqv_str]
/-- one sign in a text -/
theorem x_inSg {c : Nat} {z : Str} {neg : Bool} : inV neg (.p (.str ⟨#[c]⟩)) (.p (.str z)) s = .ok (.p (.bl (if neg then !decide (c ∈ z.cps.toList) else decide (c ∈ z.cps.toList)))) s := rfl
theorem x_inL {q : PV} {ys : List PV} {neg : Bool} (hq : PV.isD 60 q = true) (hy : PV.isD 60 (.lst ys) = true) : inV neg (.p q) (.p (.lst ys)) s = .ok (.p (.bl (if neg then !(ys.any fun y => y.eqv q) else ys.any fun y => y.eqv q))) s := by unfold inV; simp [hq, hy]
theorem x_inT {q : PV} {ys : List PV} {neg : Bool} (hq : PV.isD 60 q = true) (hy : PV.isD 60 (.tup ys) = true) : inV neg (.p q) (.p (.tup ys)) s = .ok (.p (.bl (if neg then !(ys.any fun y => y.eqv q) else ys.any fun y => y.eqv q))) s := by unfold inV; simp [hq, hy]
/-! items -/
theorem x_ix {xs : List PV} {k : Int} {y : PV} (h : atI xs k = some y) : ixV (.p (.tup xs)) (.p (.int k)) s = .ok (.p y) s := by unfold ixV; simp [h]
theorem x_ixL {xs : List PV} {k : Int} {y : PV} (h : atI xs k = some y) : ixV (.p (.lst xs)) (.p (.int k)) s = .ok (.p y) s := by unfold ixV; simp [h]
@[simp] theorem x_ix0 {x : PV} {r : List PV} : ixV (.p (.tup (x :: r))) (.p (.int 0)) s = .ok (.p x) s := x_ix (atI_nat (j := 0) rfl)
@[simp] theorem x_ix1 {x y : PV} {r : List PV} : ixV (.p (.tup (x :: y :: r))) (.p (.int 1)) s = .ok (.p y) s := x_ix (atI_nat (j := 1) rfl)
@[simp] theorem x_ix2 {x y z : PV} {r : List PV} : ixV (.p (.tup (x :: y :: z :: r))) (.p (.int 2)) s = .ok (.p z) s := x_ix (atI_nat (j := 2) rfl)
@[simp] theorem x_ixL0 {x : PV} {r : List PV} : ixV (.p (.lst (x :: r))) (.p (.int 0)) s = .ok (.p x) s := x_ixL (atI_nat (j := 0) rfl)
@[simp] theorem x_ixL1 {x y : PV} {r : List PV} : ixV (.p (.lst (x :: y :: r))) (.p (.int 1)) s = .ok (.p y) s := x_ixL (atI_nat (j := 1) rfl)
@[simp] theorem x_isaT {T : Tg} {xs : List PV} : isaV T (.p (.tup xs)) s = .ok (.p (.bl (T.is .T))) s := rfl
@[simp] theorem x_isaL {T : Tg} {xs : List PV} : isaV T (.p (.lst xs)) s = .ok (.p (.bl (T.is .L))) s := rfl
@[simp] theorem x_isaI {T : Tg} {i : Int} : isaV T (.p (.int i)) s = .ok (.p (.bl (T.is .I))) s := rfl
@[simp] theorem x_isaS {T : Tg} {i : Str} : isaV T (.p (.str i)) s = .ok (.p (.bl (T.is .S))) s := rfl
@[simp] theorem x_isaB {T : Tg} {b : Bool} : isaV T (.p (.bl b)) s = .ok (.p (.bl (T.is .B))) s := rfl
@[simp] theorem x_isaN {T : Tg} : isaV T (.p .non) s = .ok (.p (.bl (T.is .N))) s := rfl
theorem x_isa {T t : Tg} (h : tagP x = some t) : isaV T (.p x) s = .ok (.p (.bl (T.is t))) s := by have h2 : tagM s (.p x) = some t := h; unfold isaV; rw [h2]
end
@[simp] theorem tg1 : Tg.is .T .T = true := rfl
@[simp] theorem tg2 : Tg.is .S .S = true := rfl
@[simp] theorem tg3 : Tg.is .I .I = true := rfl
@[simp] theorem tg4 : Tg.is .I .B = true := rfl
@[simp] theorem tg5 : Tg.is .B .B = true := rfl
@[simp] theorem tg6 : Tg.is .L .L = true := rfl
@[simp] theorem tg7 {t : Tg} : Tg.is .T t = decide (t = .T) := by cases t <;> rfl
@[simp] theorem tg8 {t : Tg} : Tg.is .S t = decide (t = .S) := by cases t <;> rfl
@[simp] theorem tg9 {t : Tg} : Tg.is .B t = decide (t = .B) := by cases t <;> rfl
@[simp] theorem tg10 {t : Tg} : Tg.is .I t = (decide (t = .I) || decide (t = .B)) := by cases t <;> rfl
@[simp] theorem x_part {m : E MV} {ρ : Env} {s : S} : part m ρ s = (m ρ s).bind fun v s1 => partV v s1 := rfl
@[simp] theorem x_noPart {ρ : Env} {s : S} : noPart ρ s = .ok none s := rfl
@[simp] theorem x_sliceE {m : E MV} {l h : E (Option Int)} {ρ : Env} {s : S} : sliceE m l h ρ s = (m ρ s).bind fun a s1 => (l ρ s1).bind fun lo s2 => (h ρ s2).bind fun hi s3 => slV a lo hi s3 := rfl
@[simp] theorem x_partI {i : Int} {s : S} : partV (.p (.int i)) s = .ok (some i) s := rfl
@[simp] theorem x_slT {xs : List PV} {lo hi : Option Int} {s : S} : slV (.p (.tup xs)) lo hi s = .ok (.p (.tup (cutL xs lo hi))) s := rfl
@[simp] theorem x_slL {xs : List PV} {lo hi : Option Int} {s : S} : slV (.p (.lst xs)) lo hi s = .ok (.p (.lst (cutL xs lo hi))) s := rfl
theorem x_slS {z : Str} {lo hi : Option Int} {s : S} (h : z.length ≤ 16777216) : slV (.p (.str z)) lo hi s = .ok (.p (.str (cutS z lo hi))) s := by unfold slV; simp [h]
@[simp] theorem cutL_to {α : Type} {xs : List α} {i : Int} (h : 0 ≤ i) : cutL xs none (some i) = xs.take i.toNat := by
  obtain ⟨k, rfl⟩ := Int.eq_ofNat_of_zero_le h
  unfold cutL
  rw [HT.sIx_none, HT.sIx_nat, List.drop_zero, Nat.sub_zero, Int.toNat_natCast]
  rcases Nat.le_total k xs.length with h | h
  · rw [Nat.min_eq_left h]
  · rw [Nat.min_eq_right h, List.take_length, List.take_of_length_le h]
@[simp] theorem cutL_from {α : Type} {xs : List α} {i : Int} (h : 0 ≤ i) : cutL xs (some i) none = xs.drop i.toNat := by
  obtain ⟨k, rfl⟩ := Int.eq_ofNat_of_zero_le h
  unfold cutL
  rw [HT.sIx_none, HT.sIx_nat, Int.toNat_natCast]
  rcases Nat.le_total k xs.length with h | h
  · rw [Nat.min_eq_left h, List.take_of_length_le (by rw [List.length_drop]; omega)]
  · rw [Nat.min_eq_right h, List.drop_length, List.take_nil, List.drop_eq_nil_of_le h]
@[simp] theorem x_neI {i j : Int} {s : S} : eqV true (.p (.int i)) (.p (.int j)) s = .ok (.p (.bl (!decide (i = j)))) s := by rw [x_ne isD_int isD_int, eqv_int]
@[simp] theorem x_putS {mv mo mi : E MV} {ρ : Env} {s : S} : putS mv mo mi ρ s = (mv ρ s).toSR ρ fun v s1 => (mo ρ s1).toSR ρ fun o s2 => (mi ρ s2).toSR ρ fun i s3 => match storeV o i v s3 with
  | .ok _ s1 => .nx ρ s1
  | _ => .no := rfl
@[simp] theorem x_augS {i : Nat} {g : Op2} {m : E MV} {ρ : Env} {s : S} : augS i g m ρ s = match ρ[i]? with
  | some (some x) => (m ρ s).toSR ρ fun y s1 => (g x y s1).toSR ρ fun z s2 => .nx (ρ.set i (some z)) s2
  | _ => .no := by unfold augS; rfl
/-! loops -/
theorem x_whl {c : E Bool} {b : ST} {n : Nat} {ρ : Env} {s : S} : whlF c b (n + 1) ρ s = (c ρ s).toSR ρ fun k s1 => if k = true then (b ρ s1).turn (whlF c b n) else .nx ρ s1 := by
  rw [whlF, x_toS]; congr; funext k s1; split <;> rfl
@[simp] theorem x_turnnx {ρ : Env} {s : S} {go : Env → S → SR} : (SR.nx ρ s).turn go = go ρ s := rfl
@[simp] theorem x_turnrt {v : MV} {s : S} {go : Env → S → SR} : (SR.rt v s).turn go = .rt v s := rfl
@[simp] theorem x_turnbk {ρ : Env} {s : S} {go : Env → S → SR} : (SR.bk ρ s).turn go = .nx ρ s := rfl
@[simp] theorem x_turnct {ρ : Env} {s : S} {go : Env → S → SR} : (SR.ct ρ s).turn go = go ρ s := rfl
@[simp] theorem x_turnexc {c f : Str} {x : PV} {ρ : Env} {s : S} {go : Env → S → SR} : (SR.exc c f x ρ s).turn go = .exc c f x ρ s := rfl
@[simp] theorem x_revE {m : E MV} {ρ : Env} {s : S} : revE m ρ s = (m ρ s).bind fun a s1 => revI a s1 := rfl
@[simp] theorem x_revI {xs : List PV} {s : S} : revI (.p (.tup xs)) s = .ok ⟨(xs.map MV.p).reverse, none⟩ s := rfl
@[simp] theorem x_lc0 {t : TM} {mt : E Bool} {me : E MV} {ρ : Env} {lim : Nat → Bool} {fin : List MV → S → Res MV} {acc : List MV} {s : S} : lcI ⟨[], none⟩ t mt me ρ lim fin [] acc s = fin acc s := by unfold lcI; exact if_pos rfl
@[simp] theorem x_mkLc0 {s : S} : mkLc [] s = .ok (.p (.lst [])) s := rfl
/-! ## states with some objects at the end -/
def wS (g : Option Rn) (h t : List (Option MO)) : S := ⟨g, h ++ t⟩
section
variable {g g' : Option Rn} {h t : List (Option MO)} {a : Option MO} {o : MO} {k : Nat} {x : PV} {ρ : Env}
@[simp] theorem wS_g : (wS g h t).g = g := rfl
theorem wS_len : (wS g h t).h.length = h.length + t.length := List.length_append
@[simp] theorem wS_get0 : (wS g h (a :: t)).h[h.length]? = some a := by show (h ++ a :: t)[h.length]? = _; rw [List.getElem?_append_right (Nat.le_refl _), Nat.sub_self]; rfl
@[simp] theorem wS_get : (wS g h t).h[h.length + k]? = t[k]? := by show (h ++ t)[h.length + k]? = _; rw [List.getElem?_append_right (Nat.le_add_right _ _), Nat.add_sub_cancel_left]
@[simp] theorem wS_put0 : (wS g h (a :: t)).put h.length o = wS g h (some o :: t) := by
  show (⟨g, (h ++ a :: t).set h.length (some o)⟩ : S) = ⟨g, h ++ some o :: t⟩
  rw [List.set_append_right _ _ (Nat.le_refl _), Nat.sub_self]; rfl
@[simp] theorem wS_put : (wS g h t).put (h.length + k) o = wS g h (t.set k (some o)) := by
  show (⟨g, (h ++ t).set (h.length + k) (some o)⟩ : S) = ⟨g, h ++ t.set k (some o)⟩
  rw [List.set_append_right _ _ (Nat.le_add_right _ _), Nat.add_sub_cancel_left]
@[simp] theorem wS_new : (wS g h t).new o = wS g h (t ++ [some o]) := by show (⟨g, (h ++ t) ++ [some o]⟩ : S) = ⟨g, h ++ (t ++ [some o])⟩; rw [List.append_assoc]
@[simp] theorem wS_new0 : (⟨g, h⟩ : S).new o = wS g h [some o] := rfl
@[simp] theorem wS_setg : ({ wS g h t with g := g' } : S) = wS g' h t := rfl
@[simp] theorem wS_setg2 : (⟨g', (wS g h t).h⟩ : S) = wS g' h t := rfl
@[simp] theorem wS_back : (⟨g', h⟩ : S).back (wS g h t) = ⟨g, h⟩ := back_app (s := ⟨g', h⟩)
@[simp] theorem wS_back0 : (⟨g', h⟩ : S).back ⟨g, h⟩ = ⟨g, h⟩ := S.back_g (s := ⟨g', h⟩)
@[simp] theorem wS_nil : wS g h [] = ⟨g, h⟩ := by unfold wS; rw [List.append_nil]
@[simp] theorem wS_lt0 : (MV.o h.length).lt h.length = false := decide_eq_false (Nat.lt_irrefl _)
@[simp] theorem wS_lt : (MV.o (h.length + k)).lt h.length = false := decide_eq_false (by omega)
/-- an object made within is handed out as a value -/
theorem wS_ret {y : PV} (ha : t[k]? = some (some o)) (hx : frzO o = some y) : retC ⟨g', h⟩ (.o (h.length + k)) (wS g h t) = .ok (.p y) ⟨g, h⟩ :=
  retC_o (s := ⟨g', h⟩) (by have := (List.getElem?_eq_some_iff.mp ha).1; show h.length + k < h.length + t.length; omega) ha hx
@[simp] theorem wS_ret0 {xs : List PV} : retC ⟨g', h⟩ (.o h.length) (wS g h (some (.lst (xs.map MV.p)) :: t)) = .ok (.p (.lst xs)) ⟨g, h⟩ :=
  wS_ret (k := 0) rfl (show (allP (xs.map MV.p)).map PV.lst = _ by rw [allP_map]; rfl)
/-! objects -/
variable {s : S} {n : Nat} {xs : List MV} {v : MV}
theorem x_app (hs : s.h[n]? = some (some (.lst xs))) (hl : xs.length < 16777216) : appV (.o n) [v] s = .ok (.p .non) (s.put n (.lst (xs ++ [v]))) := by unfold appV; simp [hs, hl]
theorem x_pop (hs : s.h[n]? = some (some (.lst (xs ++ [v])))) : popV (.o n) [] s = .ok v (s.put n (.lst xs)) := by unfold popV; simp [hs]
theorem x_popAt {i : Int} (hs : s.h[n]? = some (some (.lst xs))) (h0 : 0 ≤ i) (h1 : i < 16777217) (hv : xs[i.toNat]? = some v) : popAtV (.o n) [.p (.int i)] s = .ok v (s.put n (.lst (xs.eraseIdx i.toNat))) := by unfold popAtV; simp [hs, h0, h1, hv]
theorem x_isLst (hs : s.h[n]? = some (some (.lst xs))) : isLst (.o n) s = true := by unfold isLst; simp [hs]
theorem x_ext {ys : List PV} (hs : s.h[n]? = some (some (.lst xs))) (hl : xs.length + ys.length ≤ 16777216) : extV (.o n) [.p (.lst ys)] s = .ok (.p .non) (s.put n (.lst (xs ++ ys.map MV.p))) := by unfold extV itL; simp [hs, hl]
@[simp] theorem x_mkO0 {ys : List MV} (hl : ys.length ≤ 16777216) : mkO ys ⟨g, h⟩ = .ok (.o h.length) (wS g h [some (.lst ys)]) := by unfold mkO; rw [if_pos hl]; rfl
@[simp] theorem x_mkO {ys : List MV} (hl : ys.length ≤ 16777216) : mkO ys (wS g h t) = .ok (.o (h.length + t.length)) (wS g h (t ++ [some (.lst ys)])) := by unfold mkO; rw [if_pos hl, wS_len, wS_new]
@[simp] theorem x_newKO0 : newKO ρ ⟨g, h⟩ = .ok (.o h.length) (wS g h [some (.dK [])]) := rfl
@[simp] theorem x_newKO : newKO ρ (wS g h t) = .ok (.o (h.length + t.length)) (wS g h (t ++ [some (.dK [])])) := by unfold newKO; rw [wS_len, wS_new]
@[simp] theorem x_newTO0 : newTO ρ ⟨g, h⟩ = .ok (.o h.length) (wS g h [some (.dT [])]) := rfl
@[simp] theorem x_newTO : newTO ρ (wS g h t) = .ok (.o (h.length + t.length)) (wS g h (t ++ [some (.dT [])])) := by unfold newTO; rw [wS_len, wS_new]
@[simp] theorem x_newK : newK ρ s = .ok (.p (.dK [] [])) s := rfl
@[simp] theorem x_mkOc0 {ys : List MV} : mkOc ys ⟨g, h⟩ = .ok (.o h.length) (wS g h [some (.lst ys)]) := rfl
@[simp] theorem x_mkOc {ys : List MV} : mkOc ys (wS g h t) = .ok (.o (h.length + t.length)) (wS g h (t ++ [some (.lst ys)])) := by unfold mkOc; rw [wS_len, wS_new]
end
/-! an object written, elsewhere nothing -/
section
variable {s : S} {n m : Nat} {o o' : MO} {x : PV}
theorem put_len : (s.put n o).h.length = s.h.length := by show (s.h.set n _).length = _; rw [List.length_set]
@[simp] theorem put_g : (s.put n o).g = s.g := rfl
theorem put_get (h : n < s.h.length) : (s.put n o).h[n]? = some (some o) := by show (s.h.set n _)[n]? = _; rw [List.getElem?_set_self h]
theorem put_get_ne (h : n ≠ m) : (s.put n o).h[m]? = s.h[m]? := by show (s.h.set n _)[m]? = _; rw [List.getElem?_set_ne h]
@[simp] theorem put_put : (s.put n o).put n o' = s.put n o' := by show (⟨s.g, (s.h.set n _).set n _⟩ : S) = ⟨s.g, s.h.set n _⟩; rw [List.set_set]
theorem put_same (h : s.h[n]? = some (some o)) : s.put n o = s := by
  have hn : n < s.h.length := (List.getElem?_eq_some_iff.mp h).1
  have e : s.h[n] = some o := (List.getElem?_eq_some_iff.mp h).2
  have : s.h.set n (some o) = s.h := by rw [← e]; exact List.set_getElem_self hn
  show (⟨s.g, s.h.set n (some o)⟩ : S) = s
  rw [this]
@[simp] theorem back_put : s.back (s.put n o) = s.put n o := by
  unfold S.back
  have h : s.drops (s.put n o) = true := by unfold S.drops; rw [put_len]; simp
  rw [if_pos h]
  show (⟨(s.put n o).g, (s.put n o).h.take s.h.length⟩ : S) = _
  rw [List.take_of_length_le (by rw [put_len]; exact Nat.le_refl _)]
theorem lt_of_get (h : s.h[n]? = some (some o)) : n < s.h.length := (List.getElem?_eq_some_iff.mp h).1
theorem x_ixO {xs : List MV} {k : Int} {v : MV} (h : s.h[n]? = some (some (.lst xs))) (hv : atI xs k = some v) : ixV (.o n) (.p (.int k)) s = .ok v s := by
  have e : ixO s n (.p (.int k)) = some v := by unfold ixO; rw [h]; exact hv
  unfold ixV
  simp only []
  rw [e]
theorem x_storeL {xs : List MV} {k : Nat} {v : MV} (h : s.h[n]? = some (some (.lst xs))) (hk : k < xs.length) : storeV (.o n) (.p (.int (k : Nat))) v s = .ok () (s.put n (.lst (xs.set k v))) := by
  have e : ixN xs.length (k : Int) = some k := by unfold ixN; rw [if_pos (by omega), if_pos (by omega)]; rfl
  unfold storeV
  simp only []
  rw [h]
  simp only [intO]
  rw [e]
theorem log2_small {i : Int} (h : i.natAbs < 2 ^ 64) : i.natAbs.log2 < 64 := by
  by_cases h0 : i.natAbs = 0
  · rw [h0]; decide
  · exact (Nat.log2_lt h0).mpr h
theorem x_mulI {i j : Int} {mk : List PV → S → Res MV} (hi : i.natAbs < 2 ^ 64) (hj : j.natAbs < 2 ^ 64) : mulV mk (.p (.int i)) (.p (.int j)) s = .ok (.p (.int (i * j))) s := by
  have h1 := log2_small hi
  have h2 := log2_small hj
  unfold mulV
  simp only []
  rw [if_pos (by omega)]
end
@[simp] theorem x_for0 {L : List MV} {t : TM} {b : ST} {ρ : Env} {s : S} : forI ⟨L, none⟩ t b [] ρ s = .nx ρ s := by unfold forI; exact if_pos rfl
theorem x_forN {L : List MV} {i : Nat} {b : ST} {x : MV} {xs : List MV} {ρ : Env} {s : S} : forI ⟨L, none⟩ (nameT i) b (x :: xs) ρ s = (b (ρ.set i (some x)) s).turn (forI ⟨L, none⟩ (nameT i) b xs) := by
  rw [forI]; exact if_pos rfl
/-! [b for a in L for b in G a] -/
@[simp] theorem x_lc2E {fin : List MV → S → Res MV} {mi : E Items} {vs : List Nat} {t : TM} {mt : E Bool} {mi1 : E Items} {vs1 : List Nat} {t1 : TM} {mt1 : E Bool} {me : E MV} {ρ : Env} {s : S} : lc2E fin mi vs t mt mi1 vs1 t1 mt1 me ρ s = (mi ρ s).bind fun it s1 => lc2I it t mt mi1 vs1 t1 mt1 me (wipeE ρ vs) (fun acc s => if acc.length ≤ 16777216 then fin acc s else .no) it.xs [] s1 := rfl
theorem lc_in {xs0 : List MV} {t : TM} {me : E MV} {ρ : Env} {lim : Nat → Bool} {fin : List MV → S → Res MV} {s : S} : ∀ (M : List PV) (acc : List MV), (∀ b ∈ M, ∃ ρ1, t (.p b) ρ s = .ok ρ1 s ∧ me ρ1 s = .ok (.p b) s) → (∀ k, k < acc.length + M.length → lim k = true) →
    lcI ⟨xs0, none⟩ t yesT me ρ lim fin (M.map MV.p) acc s = fin (acc ++ M.map MV.p) s
  | [], acc, _, _ => by rw [List.map_nil, List.append_nil]; unfold lcI; exact if_pos rfl
  | b :: M, acc, h, hl => by
    obtain ⟨ρ1, h1, h2⟩ := h b List.mem_cons_self
    have ih := lc_in (xs0 := xs0) (t := t) (me := me) (ρ := ρ) (lim := lim) (fin := fin) (s := s) M (acc ++ [MV.p b]) (fun c hc => h c (List.mem_cons_of_mem _ hc)) (fun k hk => hl k (by rw [List.length_append, List.length_singleton] at hk; rw [List.length_cons]; omega))
    rw [List.append_assoc] at ih
    rw [List.map_cons]
    unfold lcI
    have e : Items.chk ⟨xs0, none⟩ s = true := rfl
    rw [if_pos e, h1]
    show (if true = true then (me ρ1 s).bindN fun v s3 => if lim acc.length = true then lcI ⟨xs0, none⟩ t yesT me ρ lim fin (M.map MV.p) (acc ++ [v]) s3 else .no else lcI ⟨xs0, none⟩ t yesT me ρ lim fin (M.map MV.p) acc s) = _
    rw [if_pos rfl, h2]
    show (if lim acc.length = true then _ else _) = _
    rw [if_pos (hl acc.length (by rw [List.length_cons]; omega))]
    exact ih
theorem lc2_list {γ : Type} {L : List γ} {g : γ → MV} (G : γ → List PV) {t t1 : TM} {mi1 : E Items} {vs1 : List Nat} {me : E MV} {ρ : Env} {s : S} (tot : (L.flatMap G).length ≤ 1000000)
    (h : ∀ a ∈ L, ∃ ρ1, t (g a) ρ s = .ok ρ1 s ∧ mi1 ρ1 s = .ok ⟨(G a).map MV.p, none⟩ s ∧ ∀ b ∈ G a, ∃ ρ2, t1 (.p b) (wipeE ρ1 vs1) s = .ok ρ2 s ∧ me ρ2 s = .ok (.p b) s) :
    lc2I ⟨L.map g, none⟩ t yesT mi1 vs1 t1 yesT me ρ (fun acc s => if acc.length ≤ 16777216 then mkLc acc s else .no) (L.map g) [] s = .ok (.p (.lst (L.flatMap G))) s := by
  have key : ∀ (M : List γ) (acc : List PV), (∀ a ∈ M, a ∈ L) → acc.length + (M.flatMap G).length ≤ 1000000 → lc2I ⟨L.map g, none⟩ t yesT mi1 vs1 t1 yesT me ρ (fun acc s => if acc.length ≤ 16777216 then mkLc acc s else .no) (M.map g) (acc.map MV.p) s = .ok (.p (.lst (acc ++ M.flatMap G))) s := by
    intro M
    induction M with
    | nil =>
      intro acc _ hl
      rw [List.map_nil]
      unfold lc2I
      have e : Items.chk ⟨L.map g, none⟩ s = true := rfl
      rw [if_pos e]
      simp only [List.flatMap_nil, List.append_nil, List.length_nil] at hl ⊢
      rw [if_pos (by rw [List.length_map]; omega)]
      unfold mkLc
      rw [allP_map]
    | cons x M ih =>
      intro acc hM hl
      obtain ⟨ρ1, h1, h2, h3⟩ := h x (hM x List.mem_cons_self)
      rw [List.flatMap_cons, List.length_append] at hl
      have ih := ih (acc ++ G x) (fun a ha => hM a (List.mem_cons_of_mem _ ha)) (by rw [List.length_append]; omega)
      rw [List.map_cons, List.flatMap_cons]
      unfold lc2I
      have e : Items.chk ⟨L.map g, none⟩ s = true := rfl
      rw [if_pos e, h1]
      show (if true = true then (mi1 ρ1 s).bindN fun it1 s3 => lcI it1 t1 yesT me (wipeE ρ1 vs1) (fun n => decide (n < 16777216)) (fun acc s => lc2I ⟨L.map g, none⟩ t yesT mi1 vs1 t1 yesT me ρ (fun acc s => if acc.length ≤ 16777216 then mkLc acc s else .no) (M.map g) acc s) it1.xs (acc.map MV.p) s3 else lc2I ⟨L.map g, none⟩ t yesT mi1 vs1 t1 yesT me ρ (fun acc s => if acc.length ≤ 16777216 then mkLc acc s else .no) (M.map g) (acc.map MV.p) s) = _
      rw [if_pos rfl, h2]
      show lcI ⟨(G x).map MV.p, none⟩ t1 yesT me (wipeE ρ1 vs1) (fun n => decide (n < 16777216)) _ ((G x).map MV.p) (acc.map MV.p) s = _
      rw [lc_in (G x) (acc.map MV.p) h3 (fun k hk => decide_eq_true (by rw [List.length_map] at hk; omega)), ← List.map_append]
      rw [ih, List.append_assoc]
  have := key L [] (fun a ha => ha) (by simpa using tot)
  simpa using this
end MP

/-! ## MCheck -/
set_option Elab.async false
set_option linter.all false
set_option maxRecDepth 100000
set_option maxHeartbeats 1000000
/-! MP: formulas as data: the parts of one, the check of one (plain law) -/
namespace MP
open PySem PySem.Spec PyProof.Rows L2 AK
def abcS : Str := "abcdefghijklmnopqrstuvwxyz"
def nameS (s : Str) : Bool := decide (1 ≤ s.length) && decide (s.length ≤ 5) && s.cps.toList.all fun c => decide (c ∈ abcS.cps.toList)
def nameD : PV → Bool
  | .str s => nameS s
  | _ => false
/-- the parts of a formula's outermost step, as the program reads them -/
def kindParts : List PV → Option (List PV)
  | [d] => if nameD d = true then some [] else none
  | _ => none
def manyOk : PV → Bool
  | .int i => decide (2 ≤ i) && decide (i ≤ 60)
  | _ => false
def manyParts : List PV → Option (List PV)
  | [m, x] => if manyOk m = true then some [x] else none
  | _ => none
def nodeParts : List PV → Option (List PV)
  | [.tup es] => if 2 ≤ es.length then some es else none
  | _ => none
def partsD : PV → Option (List PV)
  | .tup (.str w :: ds) => if w = "kind" then kindParts ds else if w = "many" then manyParts ds else if w = "and" ∨ w = "or" then nodeParts ds else none
  | _ => none
/-! ## plain law: a stack of parts finds the same first wrong part as a walk in preorder -/
def tagD : PV → Str
  | .tup (.str w :: _) => w
  | _ => ""
def nameOf : PV → Str
  | .tup [_, .str n] => n
  | _ => ""
def manyOf : PV → Int
  | .tup [_, .int i, _] => i
  | _ => 0
structure Sn where
  at_ : Nat
  seen : List Str
  joints : Nat
def foldW (f : Sn → PV → Option Nat × Sn) : Sn → List PV → Option Nat × Sn
  | st, [] => (none, st)
  | st, p :: ps => match f st p with
    | (some i, s) => (some i, s)
    | (none, s) => foldW f s ps
def wrongF : Nat → Int → Sn → PV → Option Nat × Sn
  | 0, _, st, _ => (none, st)
  | n + 1, ab, st, d => match partsD d with
    | none => (some st.at_, { st with at_ := st.at_ + 1 })
    | some ps =>
      if tagD d = "kind" then (if nameOf d ∈ st.seen ∨ 8 ≤ st.seen.length then (some st.at_, { st with at_ := st.at_ + 1 }) else (none, { st with at_ := st.at_ + 1, seen := st.seen ++ [nameOf d] }))
      else if tagD d = "many" then (if 60 < ab * manyOf d then (some st.at_, { st with at_ := st.at_ + 1 }) else foldW (wrongF n (ab * manyOf d)) { st with at_ := st.at_ + 1 } ps)
      else (if 8 ≤ st.joints + 1 then (some st.at_, { st with at_ := st.at_ + 1, joints := st.joints + 1 }) else foldW (wrongF n ab) { st with at_ := st.at_ + 1, joints := st.joints + 1 } ps)
/-- the program's stack, k turns to go -/
inductive Chk : Nat → List (PV × Int) → Sn → Option Nat → Prop
  | done {st} : Chk 0 [] st none
  | bad {d ab rest st} : partsD d = none → Chk 1 ((d, ab) :: rest) st (some st.at_)
  | kindBad {d ab rest st ps} : partsD d = some ps → tagD d = "kind" → (nameOf d ∈ st.seen ∨ 8 ≤ st.seen.length) → Chk 1 ((d, ab) :: rest) st (some st.at_)
  | kind {d ab rest st ps k r} : partsD d = some ps → tagD d = "kind" → ¬ (nameOf d ∈ st.seen ∨ 8 ≤ st.seen.length) → Chk k (ps.map (fun p => (p, ab)) ++ rest) { st with at_ := st.at_ + 1, seen := st.seen ++ [nameOf d] } r → Chk (k + 1) ((d, ab) :: rest) st r
  | manyBad {d ab rest st ps} : partsD d = some ps → tagD d = "many" → 60 < ab * manyOf d → Chk 1 ((d, ab) :: rest) st (some st.at_)
  | many {d ab rest st ps k r} : partsD d = some ps → tagD d = "many" → ¬ 60 < ab * manyOf d → Chk k (ps.map (fun p => (p, ab * manyOf d)) ++ rest) { st with at_ := st.at_ + 1 } r → Chk (k + 1) ((d, ab) :: rest) st r
  | nodeBad {d ab rest st ps} : partsD d = some ps → tagD d ≠ "kind" → tagD d ≠ "many" → 8 ≤ st.joints + 1 → Chk 1 ((d, ab) :: rest) st (some st.at_)
  | node {d ab rest st ps k r} : partsD d = some ps → tagD d ≠ "kind" → tagD d ≠ "many" → ¬ 8 ≤ st.joints + 1 → Chk k (ps.map (fun p => (p, ab)) ++ rest) { st with at_ := st.at_ + 1, joints := st.joints + 1 } r → Chk (k + 1) ((d, ab) :: rest) st r
theorem kind_parts {d : PV} {ps : List PV} (h : partsD d = some ps) (t : tagD d = "kind") : ps = [] := by
  unfold partsD at h
  split at h
  · rename_i w ds
    have hw : w = "kind" := t
    rw [if_pos hw] at h
    unfold kindParts at h
    split at h
    · split at h
      · exact (Option.some.inj h).symm
      · cases h
    · cases h
  · cases h
mutual
def htD : PV → Nat
  | .tup ds => htL ds + 1
  | .lst ds => htL ds + 1
  | _ => 0
def htL : List PV → Nat
  | [] => 0
  | d :: ds => max (htD d) (htL ds)
end
theorem htL_mem : ∀ {ds : List PV} {d : PV}, d ∈ ds → htD d ≤ htL ds
  | [], d, h => by cases h
  | e :: ds, d, h => by
    rw [htL]
    rcases List.mem_cons.mp h with rfl | h
    · exact Nat.le_max_left _ _
    · exact Nat.le_trans (htL_mem h) (Nat.le_max_right _ _)
theorem parts_ht {d : PV} {ps : List PV} (h : partsD d = some ps) : ∀ p ∈ ps, htD p < htD d := by
  unfold partsD at h
  split at h
  · rename_i w ds
    have up : ∀ p, p ∈ ds → htD p < htD (.tup (.str w :: ds)) := fun p hp => by
      rw [htD]
      exact Nat.lt_succ_of_le (htL_mem (List.mem_cons_of_mem _ hp))
    split at h
    · unfold kindParts at h
      split at h
      · split at h
        · cases h; intro p hp; cases hp
        · cases h
      · cases h
    · split at h
      · unfold manyParts at h
        split at h
        · split at h
          · cases h
            intro p hp
            rw [List.mem_singleton.mp hp]
            exact up _ (by simp)
          · cases h
        · cases h
      · split at h
        · unfold nodeParts at h
          split at h
          · split at h
            · cases h
              intro p hp
              have h1 := htL_mem hp
              have h2 := up (.tup ps) (by simp)
              rw [htD] at h2
              omega
            · cases h
          · cases h
        · cases h
  · cases h
def OneOk (n : Nat) (ab : Int) (d : PV) : Prop := ∀ (st : Sn) (rest : List (PV × Int)), (∀ i s, wrongF n ab st d = (some i, s) → ∃ k, Chk k ((d, ab) :: rest) st (some i)) ∧ (∀ s r k, wrongF n ab st d = (none, s) → Chk k rest s r → ∃ k', Chk k' ((d, ab) :: rest) st r)
/-- what the stack does beside a list of parts, from what it does beside one -/
theorem chk_list {n : Nat} {ab : Int} : ∀ (ps : List PV), (∀ p ∈ ps, OneOk n ab p) → ∀ (st : Sn) (rest : List (PV × Int)), (∀ i s, foldW (wrongF n ab) st ps = (some i, s) → ∃ k, Chk k (ps.map (fun p => (p, ab)) ++ rest) st (some i)) ∧ (∀ s r k, foldW (wrongF n ab) st ps = (none, s) → Chk k rest s r → ∃ k', Chk k' (ps.map (fun p => (p, ab)) ++ rest) st r)
  | [], _, st, rest => ⟨fun i s h => (by rw [foldW] at h; cases h), fun s r k h c => (by rw [foldW] at h; cases h; exact ⟨k, c⟩)⟩
  | p :: ps, one, st, rest => by
    rw [foldW]
    cases e : wrongF n ab st p with
    | mk o s1 =>
      cases o with
      | some j =>
        dsimp only
        refine ⟨fun i s h => ?_, fun s r k h _ => (by cases h)⟩
        cases h
        exact (one p (.head _) st _).1 _ _ e
      | none =>
        dsimp only
        have ih := chk_list ps (fun q hq => one q (.tail _ hq)) s1 rest
        refine ⟨fun i s h => ?_, fun s r k h c => ?_⟩
        · obtain ⟨k, c⟩ := ih.1 i s h
          exact (one p (.head _) st _).2 s1 _ k e c
        · obtain ⟨k', c'⟩ := ih.2 s r k h c
          exact (one p (.head _) st _).2 s1 _ k' e c'
theorem chk_one : ∀ (n : Nat) (d : PV), htD d < n → ∀ ab, OneOk n ab d
  | 0, d, h, _ => absurd h (Nat.not_lt_zero _)
  | n + 1, d, h, ab => fun st rest => by
    rw [wrongF]
    cases e : partsD d with
    | none =>
      dsimp only
      refine ⟨fun i s q => ?_, fun s r k q _ => (by cases q)⟩
      cases q
      exact ⟨_, .bad e⟩
    | some ps =>
      dsimp only
      have sub : ∀ ab', ∀ p ∈ ps, OneOk n ab' p := fun ab' p hp => chk_one n p (by have := parts_ht e p hp; omega) ab'
      by_cases tk : tagD d = "kind"
      · rw [if_pos tk]
        have hps := kind_parts e tk
        by_cases c : nameOf d ∈ st.seen ∨ 8 ≤ st.seen.length
        · rw [if_pos c]
          refine ⟨fun i s q => ?_, fun s r k q _ => (by cases q)⟩
          cases q
          exact ⟨_, .kindBad e tk c⟩
        · rw [if_neg c]
          refine ⟨fun i s q => (by cases q), fun s r k q hc => ?_⟩
          cases q
          exact ⟨_, .kind e tk c (by rw [hps]; exact hc)⟩
      · rw [if_neg tk]
        by_cases tm : tagD d = "many"
        · rw [if_pos tm]
          by_cases c : 60 < ab * manyOf d
          · rw [if_pos c]
            refine ⟨fun i s q => ?_, fun s r k q _ => (by cases q)⟩
            cases q
            exact ⟨_, .manyBad e tm c⟩
          · rw [if_neg c]
            have ih := chk_list ps (sub (ab * manyOf d)) { st with at_ := st.at_ + 1 } rest
            refine ⟨fun i s q => ?_, fun s r k q hc => ?_⟩
            · obtain ⟨k, hc⟩ := ih.1 i s q
              exact ⟨_, .many e tm c hc⟩
            · obtain ⟨k', hc'⟩ := ih.2 s r k q hc
              exact ⟨_, .many e tm c hc'⟩
        · rw [if_neg tm]
          by_cases c : 8 ≤ st.joints + 1
          · rw [if_pos c]
            refine ⟨fun i s q => ?_, fun s r k q _ => (by cases q)⟩
            cases q
            exact ⟨_, .nodeBad e tk tm c⟩
          · rw [if_neg c]
            have ih := chk_list ps (sub ab) { st with at_ := st.at_ + 1, joints := st.joints + 1 } rest
            refine ⟨fun i s q => ?_, fun s r k q hc => ?_⟩
            · obtain ⟨k, hc⟩ := ih.1 i s q
              exact ⟨_, .node e tk tm c hc⟩
            · obtain ⟨k', hc'⟩ := ih.2 s r k q hc
              exact ⟨_, .node e tk tm c hc'⟩
/-- the program's check tells what the walk in preorder tells -/
theorem chk_wrong {n : Nat} {d : PV} (h : htD d < n) : ∃ k, Chk k [(d, 1)] ⟨0, [], 0⟩ (wrongF n 1 ⟨0, [], 0⟩ d).1 := by
  have o := chk_one n d h 1 ⟨0, [], 0⟩ []
  cases e : wrongF n 1 ⟨0, [], 0⟩ d with
  | mk r s =>
    cases r with
    | some i => exact o.1 i s e
    | none => exact o.2 s none 0 e .done
theorem parts_tag {d : PV} {ps : List PV} (h : partsD d = some ps) : ∃ ds, d = .tup (.str (tagD d) :: ds) := by
  unfold partsD at h
  split at h
  · exact ⟨_, rfl⟩
  · cases h
theorem parts_kind {d : PV} {ps : List PV} (h : partsD d = some ps) (t : tagD d = "kind") : d = .tup [.str "kind", .str (nameOf d)] ∧ nameS (nameOf d) = true := by
  obtain ⟨ds, e⟩ := parts_tag h
  rw [t] at e
  rw [e] at h
  have h2 : kindParts ds = some ps := h
  cases ds with
  | nil => cases h2
  | cons x r =>
    cases r with
    | cons y r => cases x <;> cases h2
    | nil =>
      have h3 : (if nameD x = true then some [] else none) = some ps := h2
      cases x with
      | str n =>
        rw [e]
        refine ⟨rfl, ?_⟩
        split at h3
        · rename_i hn; exact hn
        · cases h3
      | _ => simp [nameD] at h3
theorem parts_many {d : PV} {ps : List PV} (h : partsD d = some ps) (t : tagD d = "many") : ∃ x, d = .tup [.str "many", .int (manyOf d), x] ∧ ps = [x] ∧ 2 ≤ manyOf d ∧ manyOf d ≤ 60 := by
  obtain ⟨ds, e⟩ := parts_tag h
  rw [t] at e
  rw [e] at h
  have h2 : manyParts ds = some ps := h
  match ds, h2, e with
  | [], h2, _ => cases h2
  | [_], h2, _ => cases h2
  | _ :: _ :: _ :: _, h2, _ => cases h2
  | [m, x], h2, e =>
    have h3 : (if manyOk m = true then some [x] else none) = some ps := h2
    cases m with
    | int i =>
      split at h3
      · rename_i hn
        have hn' : (decide (2 ≤ i) && decide (i ≤ 60)) = true := hn
        rw [Bool.and_eq_true, decide_eq_true_eq, decide_eq_true_eq] at hn'
        cases h3
        rw [e]
        exact ⟨x, rfl, rfl, hn'.1, hn'.2⟩
      · cases h3
    | _ => simp [manyOk] at h3
/-! how many values a value holds -/
mutual
def szD : PV → Nat
  | .tup ds => szL ds + 1
  | .lst ds => szL ds + 1
  | _ => 1
def szL : List PV → Nat
  | [] => 0
  | d :: ds => szD d + szL ds
end
theorem szD_pos (d : PV) : 1 ≤ szD d := by cases d <;> (unfold szD; omega)
theorem szL_len : ∀ ds : List PV, ds.length ≤ szL ds
  | [] => Nat.zero_le _
  | d :: ds => by
    have := szD_pos d
    have := szL_len ds
    rw [szL, List.length_cons]; omega
theorem parts_sz {d : PV} {ps : List PV} (h : partsD d = some ps) : szL ps < szD d := by
  unfold partsD at h
  split at h
  · rename_i w ds
    rw [szD, szL]
    split at h
    · unfold kindParts at h
      split at h
      · split at h
        · cases h; rw [szL]; omega
        · cases h
      · cases h
    · split at h
      · unfold manyParts at h
        split at h
        · split at h
          · cases h
            rw [szL, szL, szL, szL, szL]; omega
          · cases h
        · cases h
      · split at h
        · unfold nodeParts at h
          split at h
          · split at h
            · cases h
              rw [szL, szL, szD]; omega
            · cases h
          · cases h
        · cases h
  · cases h
/-! ## values without dicts, of small texts and numbers -/
mutual
def okP : PV → Bool
  | .non => true
  | .bl _ => true
  | .int i => decide (i.natAbs < 2 ^ 64)
  | .str z => PyData.strOk z && decide (z.length ≤ 50)
  | .tup xs => okL xs
  | .lst xs => okL xs
  | _ => false
def okL : List PV → Bool
  | [] => true
  | x :: xs => okP x && okL xs
end
theorem okL_mem : ∀ {xs : List PV} {x : PV}, okL xs = true → x ∈ xs → okP x = true
  | y :: ys, x, h, hx => by
    rw [okL, Bool.and_eq_true] at h
    rcases List.mem_cons.mp hx with rfl | hx
    · exact h.1
    · exact okL_mem h.2 hx
theorem okL_of : ∀ {xs : List PV}, (∀ x ∈ xs, okP x = true) → okL xs = true
  | [], _ => by rw [okL]
  | x :: xs, h => by rw [okL, Bool.and_eq_true]; exact ⟨h x List.mem_cons_self, okL_of fun y hy => h y (List.mem_cons_of_mem _ hy)⟩
theorem isD_str {n : Nat} {z : Str} (h : okP (.str z) = true) : PV.isD n (.str z) = true := by
  rw [okP, Bool.and_eq_true] at h
  cases n <;> simpa [PV.isD] using h.1
theorem ok_tag {v : PV} (h : okP v = true) : ∃ t, tagP v = some t := by
  cases v <;> first | exact ⟨_, rfl⟩ | (simp [okP] at h; done)
theorem isD_of : ∀ {n : Nat} {v : PV}, okP v = true → htD v ≤ n → PV.isD n v = true := by
  intro n
  induction n with
  | zero =>
    intro v h hn
    cases v with
    | str z => exact isD_str h
    | tup xs => rw [htD] at hn; omega
    | lst xs => rw [htD] at hn; omega
    | _ => first | (simp [okP] at h; done) | (simp [PV.isD]; done)
  | succ n ih =>
    intro v h hn
    cases v with
    | str z => exact isD_str h
    | tup xs =>
      rw [htD] at hn
      rw [okP] at h
      simp only [PV.isD]
      exact List.all_eq_true.mpr fun x hx => ih (okL_mem h hx) (by have := htL_mem hx; omega)
    | lst xs =>
      rw [htD] at hn
      rw [okP] at h
      simp only [PV.isD]
      exact List.all_eq_true.mpr fun x hx => ih (okL_mem h hx) (by have := htL_mem hx; omega)
    | _ => first | (simp [okP] at h; done) | (simp [PV.isD]; done)
theorem ok_len {z : Str} (h : okP (.str z) = true) : z.length ≤ 50 := by rw [okP, Bool.and_eq_true] at h; exact of_decide_eq_true h.2
/-! how long the text of a value is -/
mutual
theorem ok_short : ∀ (v : PV), okP v = true → PyData.leavesShort 21 v.dat = true
  | .non, _ => rfl
  | .bl _, _ => rfl
  | .int i, h => by
    rw [okP] at h
    have h1 := of_decide_eq_true h
    have : (toString i).length ≤ 21 := PySem.int_text_length_le10 (k := 20) (by decide) (Nat.lt_trans h1 (by decide))
    rw [PV.dat]
    have e2 : (PyData.shown (.int i)).length ≤ 21 := by
      show (Str.ofString (toString i)).length ≤ 21
      rw [PySem.ofString_length]; exact this
    exact decide_eq_true e2
  | .str z, h => by
    rw [okP, Bool.and_eq_true] at h
    rw [PV.dat]
    show (z.cps.toList.all fun c => decide (c < 16 ^ 8)) = true
    refine List.all_eq_true.mpr fun c hc => decide_eq_true ?_
    have h1 : z.cps.all (· < 0x110000) = true := h.1
    rw [Array.all_eq_true'] at h1
    have := h1 c (Array.mem_toList_iff.mp hc)
    have h2 : c < 0x110000 := by simpa using this
    omega
  | .tup xs, h => by rw [okP] at h; rw [PV.dat]; exact ok_shortL xs h
  | .lst xs, h => by rw [okP] at h; rw [PV.dat]; exact ok_shortL xs h
  | .ty _, h => by simp [okP] at h
  | .dK _ _, h => by simp [okP] at h
  | .dT _ _, h => by simp [okP] at h
  | .ins _ _ _, h => by simp [okP] at h
theorem ok_shortL : ∀ (xs : List PV), okL xs = true → PyData.leavesShortAll 21 (datL xs) = true
  | [], _ => by rw [datL]; rfl
  | x :: xs, h => by
    rw [okL, Bool.and_eq_true] at h
    rw [datL, PyData.leavesShortAll, ok_short x h.1, ok_shortL xs h.2]; rfl
end
mutual
theorem ok_weight : ∀ (v : PV), okP v = true → v.dat.weight + 1 ≤ 66 * szD v
  | .non, _ => by have := szD_pos PV.non; rw [PV.dat]; show 0 + 1 ≤ _; omega
  | .bl b, _ => by have := szD_pos (PV.bl b); rw [PV.dat]; show 0 + 1 ≤ _; omega
  | .int i, h => by
    rw [okP] at h
    have h1 := log2_small (of_decide_eq_true h)
    have := szD_pos (PV.int i)
    rw [PV.dat, PyData.weight]
    split <;> omega
  | .str z, h => by
    have h1 : z.cps.size ≤ 50 := ok_len h
    have := szD_pos (PV.str z)
    rw [PV.dat, PyData.weight]
    omega
  | .tup xs, h => by rw [okP] at h; have := ok_weightL xs h; rw [PV.dat, szD, PyData.weight]; omega
  | .lst xs, h => by rw [okP] at h; have := ok_weightL xs h; rw [PV.dat, szD, PyData.weight]; omega
  | .ty _, h => by simp [okP] at h
  | .dK _ _, h => by simp [okP] at h
  | .dT _ _, h => by simp [okP] at h
  | .ins _ _ _, h => by simp [okP] at h
theorem ok_weightL : ∀ (xs : List PV), okL xs = true → PyData.weightAll (datL xs) ≤ 66 * szL xs
  | [], _ => by rw [datL, szL, PyData.weightAll]; omega
  | x :: xs, h => by
    rw [okL, Bool.and_eq_true] at h
    have h1 := ok_weight x h.1
    have h2 := ok_weightL xs h.2
    rw [datL, szL, PyData.weightAll]
    omega
end
theorem show_len {v : PV} (h : okP v = true) (hs : szD v ≤ 2900) : (showP v).length ≤ 10000000 := by
  have h1 := PySem.PyData.shown_le 21 (by decide) v.dat (ok_short v h)
  have h2 := ok_weight v h
  unfold showP
  omega
mutual
theorem ok_showable : ∀ (v : PV), okP v = true → v.dat.showable = true
  | .non, _ => rfl
  | .bl _, _ => rfl
  | .int i, h => by
    rw [okP] at h
    have h1 := log2_small (of_decide_eq_true h)
    rw [PV.dat]
    exact decide_eq_true (by omega)
  | .str z, h => rfl
  | .tup xs, h => by rw [okP] at h; rw [PV.dat]; exact ok_showL xs h
  | .lst xs, h => by rw [okP] at h; rw [PV.dat]; exact ok_showL xs h
  | .ty _, h => by simp [okP] at h
  | .dK _ _, h => by simp [okP] at h
  | .dT _ _, h => by simp [okP] at h
  | .ins _ _ _, h => by simp [okP] at h
theorem ok_showL : ∀ (xs : List PV), okL xs = true → PyData.showableAll (datL xs) = true
  | [], _ => by rw [datL]; rfl
  | x :: xs, h => by
    rw [okL, Bool.and_eq_true] at h
    rw [datL, PyData.showableAll, ok_showable x h.1, ok_showL xs h.2]; rfl
end
theorem x_repr {v : PV} {s : S} (h : okP v = true) (hd : htD v ≤ 60) (hs : szD v ≤ 2900) : reprV [.p v] s = .ok (.p (.str (showP v))) s := by
  unfold reprV one
  have e : (PV.isD 60 v && v.dat.showable && decide ((showP v).length ≤ 10000000)) = true := by rw [isD_of h hd, ok_showable v h, decide_eq_true (show_len h hs)]; rfl
  simp only [x_flat]
  rw [if_pos e]
end MP

/-! ## K11qa -/
set_option Elab.async false
set_option linter.all false
set_option maxRecDepth 100000
set_option maxHeartbeats 2000000
namespace K11
open PySem PySem.Spec PyProof.Rows L2 AK MP
def isInt : PV → Bool
  | .int _ => true
  | _ => false
def isNum : PV → Bool
  | .int i => decide (0 ≤ i)
  | _ => false
theorem sp_is_integer {v : PV} {s : S} (h : okP v = true) : m_is_integer [.p v] s = .ok (.p (.bl (isInt v))) s := by
  cases v <;> first
    | (simp [okP] at h; done)
    | (simp [m_is_integer, x_defM, b_is_integer, isaV, tagM, tagP, S.back_self, Tg.is, isInt]; done)
theorem sp_is_number {v : PV} {s : S} (h : okP v = true) : m_is_number [.p v] s = .ok (.p (.bl (isNum v))) s := by
  simp [m_is_number, x_defM, b_is_number, sp_is_integer h]
  cases v <;> simp [isInt, isNum, S.back_self]
theorem signs_all {z : Str} {ρ : MP.Env} {s : S} {t : TM} {me : E MV} {Z : Str} (h : ∀ c, ∃ ρ1, t (.p (.str ⟨#[c]⟩)) ρ s = .ok ρ1 s ∧ me ρ1 s = .ok (.p (.bl (decide (c ∈ Z.cps.toList)))) s) :
    lcI ⟨signs z, none⟩ t yesT me ρ (fun _ => true) mkLc (signs z) [] s = .ok (.p (.lst (z.cps.toList.map fun c => PV.bl (decide (c ∈ Z.cps.toList))))) s := lc_list (L := z.cps.toList) (g := fun c => MV.p (.str ⟨#[c]⟩)) _ fun c _ => h c
theorem sp_is_name {v : PV} {s : S} (h : okP v = true) : m_is_name [.p v] s = .ok (.p (.bl (nameD v))) s := by
  cases v <;> first
    | (simp [okP] at h; done)
    | (simp [m_is_name, x_defM, b_is_name, nameD]; done)
    | skip
  rename_i z
  have hz : z.length ≤ 1000 := Nat.le_trans (ok_len h) (by decide)
  have hz2 : z.cps.size ≤ 16777216 := Nat.le_trans hz (by decide)
  have hl : lenV [.p (.str z)] s = .ok (.p (.int z.length)) s := x_lenS (by omega)
  simp [m_is_name, x_defM, b_is_name, hl]
  by_cases h1 : 1 ≤ z.length
  · have e1 : (1 : Int) ≤ (z.length : Int) := by omega
    by_cases h5 : z.length ≤ 5
    · have e5 : (z.length : Int) ≤ 5 := by omega
      have e6 : ¬ (5 : Int) < (z.length : Int) := by omega
      simp [e1, e5, e6, itemsV, hz2]
      rw [signs_all (Z := abcS) fun c => ⟨_, rfl, rfl⟩]
      simp [x_all, nameD, nameS, h1, h5]
    · have e5 : ¬ (z.length : Int) ≤ 5 := by omega
      have e6 : (5 : Int) < (z.length : Int) := by omega
      simp [e1, e5, e6, nameD, nameS, h1, h5]
  · have e1 : ¬ (1 : Int) ≤ (z.length : Int) := by omega
    simp [e1, nameD, nameS, h1]
theorem strOk_of {z : Str} (h : okP (.str z) = true) : PyData.strOk z = true := by rw [okP, Bool.and_eq_true] at h; exact h.1
theorem sp_parts_of {v : PV} {s : S} (h : okP v = true) : m_parts_of [.p v] s = .ok (.p (match partsD v with | none => .non | some ps => .tup ps)) s := by
  cases v <;> first
    | (simp [okP] at h; done)
    | (simp [m_parts_of, x_defM, b_parts_of, partsD]; done)
    | skip
  rename_i xs
  cases xs with
  | nil => simp [m_parts_of, x_defM, b_parts_of, partsD]
  | cons a r =>
    cases r with
    | nil =>
      simp [m_parts_of, x_defM, b_parts_of]
      cases a <;> simp [partsD, kindParts, manyParts, nodeParts]
    | cons b r =>
      have ha : okP a = true := by rw [okP, okL, Bool.and_eq_true] at h; exact h.1
      have hb : okP b = true := by rw [okP, okL, okL, Bool.and_eq_true, Bool.and_eq_true] at h; exact h.2.1
      have e2 : ¬ ((r.length : Int) + 1 + 1 < 2) := by omega
      cases a <;> first
        | (simp [okP] at ha; done)
        | (simp [m_parts_of, x_defM, b_parts_of, partsD, e2]; done)
        | skip
      rename_i w
      have hw := strOk_of ha
      have k1 : PyData.strOk "kind" = true := by decide +kernel
      have k2 : PyData.strOk "many" = true := by decide +kernel
      have k3 : PyData.strOk "and" = true := by decide +kernel
      have k4 : PyData.strOk "or" = true := by decide +kernel
      have en : inV false (.p (.str w)) (.p (.tup [.str "and", .str "or"])) s = .ok (.p (.bl (decide (w = "and" ∨ w = "or")))) s := by
        rw [x_inT (isD_strE.trans hw) (by simp [PV.isD, k3, k4])]
        simp [eqv_str, eq_comm]
      by_cases w1 : w = "kind"
      · subst w1
        cases r with
        | nil =>
          simp [m_parts_of, x_defM, b_parts_of, partsD, x_eqS hw k1, sp_is_name hb, kindParts]
          cases nameD b <;> simp
        | cons c r =>
          have e3 : ¬ ((r.length : Int) + 1 + 1 + 1 < 2) := by omega
          have e4 : ¬ ((r.length : Int) + 1 + 1 + 1 = 2) := by omega
          simp [m_parts_of, x_defM, b_parts_of, partsD, x_eqS hw k1, e3, e4, kindParts]
      · by_cases w2 : w = "many"
        · subst w2
          match r, e2, h with
          | [], e2, h => simp [m_parts_of, x_defM, b_parts_of, partsD, x_eqS hw k1, x_eqS hw k2, w1, manyParts]
          | [c], e2, h =>
            simp [m_parts_of, x_defM, b_parts_of, partsD, x_eqS hw k1, x_eqS hw k2, w1, sp_is_number hb, manyParts]
            cases b with
            | int i =>
              by_cases i1 : 0 ≤ i
              · by_cases i2 : 2 ≤ i <;> by_cases i3 : i ≤ 60 <;> simp [isNum, manyOk, i1, i2, i3]
              · have i2 : ¬ 2 ≤ i := by omega
                simp [isNum, manyOk, i1, i2]
            | _ => simp [isNum, manyOk]
          | c :: d :: r, e2, h =>
            have e3 : ¬ ((r.length : Int) + 1 + 1 + 1 + 1 < 2) := by omega
            have e4 : ¬ ((r.length : Int) + 1 + 1 + 1 + 1 = 3) := by omega
            simp [m_parts_of, x_defM, b_parts_of, partsD, x_eqS hw k1, x_eqS hw k2, w1, e3, e4, manyParts]
        · simp [m_parts_of, x_defM, b_parts_of, partsD, e2, x_eqS hw k1, x_eqS hw k2, w1, w2, en]
          by_cases w3 : w = "and" ∨ w = "or"
          · simp [w3]
            cases r with
            | cons c r =>
              have e4 : ¬ ((r.length : Int) + 1 + 1 + 1 = 2) := by omega
              simp [e4, nodeParts]
            | nil =>
              cases b with
              | tup es =>
                by_cases i2 : 2 ≤ es.length
                · have e5 : (2 : Int) ≤ (es.length : Int) := by omega
                  simp [nodeParts, i2, e5]
                · have e5 : ¬ (2 : Int) ≤ (es.length : Int) := by omega
                  simp [nodeParts, i2, e5]
              | _ => first
                | (simp [okP] at hb; done)
                | (simp [nodeParts]; done)
          · simp [w3]
end K11

/-! ## K11qb -/
set_option Elab.async false
set_option linter.all false
set_option maxRecDepth 100000
set_option maxHeartbeats 4000000
namespace K11
open PySem PySem.Spec PyProof.Rows L2 AK MP
theorem eqv_tag {a : PV} {w : Str} (h : okP a = true) : a.eqv (.str w) = decide (a = .str w) := by
  cases a with
  | str z => rw [eqv_str]; simp
  | _ => first
    | (simp [okP] at h; done)
    | (simp [PV.eqv, PV.dat, PyData.eqv]; done)
theorem sp__law_is_name {v : PV} {s : S} (h : okP v = true) : m__law_is_name [.p v] s = .ok (.p (.bl (nameD v))) s := by
  cases v <;> first
    | (simp [okP] at h; done)
    | (simp [m__law_is_name, x_defM, b__law_is_name, nameD]; done)
    | skip
  rename_i z
  have hz : z.length ≤ 1000 := Nat.le_trans (ok_len h) (by decide)
  have hz2 : z.cps.size ≤ 16777216 := Nat.le_trans hz (by decide)
  have hl : lenV [.p (.str z)] s = .ok (.p (.int z.length)) s := x_lenS (by omega)
  simp [m__law_is_name, x_defM, b__law_is_name, hl]
  by_cases h1 : 1 ≤ z.length
  · have e1 : (1 : Int) ≤ (z.length : Int) := by omega
    by_cases h5 : z.length ≤ 5
    · have e5 : (z.length : Int) ≤ 5 := by omega
      have e6 : ¬ (5 : Int) < (z.length : Int) := by omega
      simp [e1, e5, e6, itemsV, hz2]
      rw [signs_all (Z := abcS) fun c => ⟨_, rfl, rfl⟩]
      simp [x_all, nameD, nameS, h1, h5]
    · have e5 : ¬ (z.length : Int) ≤ 5 := by omega
      have e6 : (5 : Int) < (z.length : Int) := by omega
      simp [e1, e5, e6, nameD, nameS, h1, h5]
  · have e1 : ¬ (1 : Int) ≤ (z.length : Int) := by omega
    simp [e1, nameD, nameS, h1]
theorem sp__law_inside {v : PV} {s : S} (h : okP v = true) (hd : htD v ≤ 60) : m__law_inside [.p v] s = .ok (.p (match partsD v with | none => .non | some ps => .tup ps)) s := by
  cases v <;> first
    | (simp [okP] at h; done)
    | (simp [m__law_inside, x_defM, b__law_inside, partsD]; done)
    | skip
  rename_i xs
  match xs, h, hd with
  | [], h, hd => simp [m__law_inside, x_defM, b__law_inside, partsD]
  | [a], h, hd =>
    simp [m__law_inside, x_defM, b__law_inside]
    cases a <;> simp [partsD, kindParts, manyParts, nodeParts]
  | a :: b :: r, h, hd =>
    have ha : okP a = true := by rw [okP, okL, Bool.and_eq_true] at h; exact h.1
    have hb : okP b = true := by rw [okP, okL, okL, Bool.and_eq_true, Bool.and_eq_true] at h; exact h.2.1
    have da : PV.isD 60 a = true := isD_of ha (by rw [htD, htL] at hd; omega)
    have e2 : ¬ ((r.length : Int) + 1 + 1 < 2) := by omega
    have k1 : PyData.strOk "kind" = true := by decide +kernel
    have k2 : PyData.strOk "many" = true := by decide +kernel
    have k3 : PyData.strOk "and" = true := by decide +kernel
    have k4 : PyData.strOk "or" = true := by decide +kernel
    have q1 : eqV false (.p a) (.p (.str "kind")) s = .ok (.p (.bl (decide (a = .str "kind")))) s := by rw [x_eq da (isD_strE.trans k1), eqv_tag ha]
    have q2 : eqV false (.p a) (.p (.str "many")) s = .ok (.p (.bl (decide (a = .str "many")))) s := by rw [x_eq da (isD_strE.trans k2), eqv_tag ha]
    have en : inV true (.p a) (.p (.lst [.str "and", .str "or"])) s = .ok (.p (.bl (!decide (a = .str "and" ∨ a = .str "or")))) s := by
      rw [x_inL da (by simp [PV.isD, k3, k4])]
      have f1 : (PV.str "and").eqv a = decide (a = .str "and") := by
        cases a with
        | str z => rw [eqv_str]; simp [eq_comm]
        | _ => first
          | (simp [okP] at ha; done)
          | (simp [PV.eqv, PV.dat, PyData.eqv]; done)
      have f2 : (PV.str "or").eqv a = decide (a = .str "or") := by
        cases a with
        | str z => rw [eqv_str]; simp [eq_comm]
        | _ => first
          | (simp [okP] at ha; done)
          | (simp [PV.eqv, PV.dat, PyData.eqv]; done)
      simp [f1, f2]
    have ea : ∀ w, a = .str w → partsD (.tup (a :: b :: r)) = if w = "kind" then kindParts (b :: r) else if w = "many" then manyParts (b :: r) else if w = "and" ∨ w = "or" then nodeParts (b :: r) else none := fun w e => by rw [e]; rfl
    by_cases w1 : a = .str "kind"
    · have q1' : eqV false (.p a) (.p (.str "kind")) s = .ok (.p (.bl true)) s := by rw [q1, decide_eq_true w1]
      rw [ea _ w1]
      cases r with
      | nil =>
        simp [m__law_inside, x_defM, b__law_inside, q1', sp__law_is_name hb, kindParts]
        cases nameD b <;> simp
      | cons c r =>
        have e3 : ¬ ((r.length : Int) + 1 + 1 + 1 < 2) := by omega
        have e4 : ¬ ((r.length : Int) + 1 + 1 + 1 = 2) := by omega
        simp [m__law_inside, x_defM, b__law_inside, q1', e3, e4, kindParts]
    · have q1' : eqV false (.p a) (.p (.str "kind")) s = .ok (.p (.bl false)) s := by rw [q1, decide_eq_false w1]
      by_cases w2 : a = .str "many"
      · have q2' : eqV false (.p a) (.p (.str "many")) s = .ok (.p (.bl true)) s := by rw [q2, decide_eq_true w2]
        rw [ea _ w2]
        have w1' : ¬ (("many" : Str) = "kind") := by decide +kernel
        match r, e2, h with
        | [], e2, h => simp [m__law_inside, x_defM, b__law_inside, q1', q2', w1', manyParts]
        | [c], e2, h =>
          simp [m__law_inside, x_defM, b__law_inside, q1', q2', w1', manyParts]
          cases b with
          | int i => by_cases i2 : 2 ≤ i <;> by_cases i3 : i ≤ 60 <;> simp [manyOk, i2, i3]
          | _ => first
            | (simp [okP] at hb; done)
            | (simp [manyOk]; done)
        | c :: d :: r, e2, h =>
          have e3 : ¬ ((r.length : Int) + 1 + 1 + 1 + 1 < 2) := by omega
          have e4 : ¬ ((r.length : Int) + 1 + 1 + 1 + 1 = 3) := by omega
          simp [m__law_inside, x_defM, b__law_inside, q1', q2', w1', e3, e4, manyParts]
      · have q2' : eqV false (.p a) (.p (.str "many")) s = .ok (.p (.bl false)) s := by rw [q2, decide_eq_false w2]
        by_cases w3 : a = .str "and" ∨ a = .str "or"
        · have et : partsD (.tup (a :: b :: r)) = nodeParts (b :: r) := by
            rcases w3 with w3 | w3
            · rw [ea _ w3, if_neg (by decide +kernel), if_neg (by decide +kernel), if_pos (.inl rfl)]
            · rw [ea _ w3, if_neg (by decide +kernel), if_neg (by decide +kernel), if_pos (.inr rfl)]
          rw [decide_eq_true w3] at en
          rw [et]
          simp [m__law_inside, x_defM, b__law_inside, e2, q1', q2', en]
          cases r with
          | cons c r =>
            have e4 : ¬ ((r.length : Int) + 1 + 1 + 1 = 2) := by omega
            simp [e4, nodeParts]
          | nil =>
            cases b with
            | tup es =>
              by_cases i2 : 2 ≤ es.length
              · have e5 : ¬ (es.length : Int) < 2 := by omega
                simp [nodeParts, i2, e5]
              · have e5 : (es.length : Int) < 2 := by omega
                simp [nodeParts, i2, e5]
            | _ => first
              | (simp [okP] at hb; done)
              | (simp [nodeParts]; done)
        · have et : partsD (.tup (a :: b :: r)) = none := by
            cases a with
            | str w =>
              rw [ea w rfl, if_neg (fun e => w1 (by rw [e])), if_neg (fun e => w2 (by rw [e])), if_neg (fun e => w3 (e.imp (fun e => by rw [e]) fun e => by rw [e]))]
            | _ => rfl
          rw [decide_eq_false w3] at en
          rw [et]
          simp [m__law_inside, x_defM, b__law_inside, e2, q1', q2', en]
end K11

/-! ## K11qc -/
set_option Elab.async false
set_option linter.all false
set_option maxRecDepth 100000
set_option maxHeartbeats 4000000
namespace K11
open PySem PySem.Spec PyProof.Rows L2 AK MP
def pr (x : PV × Int) : PV := .tup [x.1, .int x.2]
def stkO (stk : List (PV × Int)) : Option MO := some (.lst ((stk.reverse.map pr).map MV.p))
def seenO (ns : List Str) : Option MO := some (.dK (ns.map fun z => (Sum.inr z, MV.p (.bl true))))
theorem look_seen {ns : List Str} {z : Str} : look (ns.map fun z => ((Sum.inr z : Key), MV.p (.bl true))) (Sum.inr z) = if z ∈ ns then some (MV.p (.bl true)) else none := by
  induction ns with
  | nil => rfl
  | cons a t ih =>
    unfold look at ih ⊢
    rw [List.map_cons, List.find?_cons]
    by_cases e : a = z
    · subst e
      simp
    · have e1 : decide ((Sum.inr a : Key) = Sum.inr z) = false := decide_eq_false fun h => e (Sum.inr.inj h)
      simp only [e1]
      rw [ih]
      have e2 : (z ∈ a :: t) ↔ z ∈ t := by
        rw [List.mem_cons]
        exact ⟨fun h => h.elim (fun h => absurd h.symm e) id, .inr⟩
      by_cases m : z ∈ t
      · rw [if_pos m, if_pos (e2.mpr m)]
      · rw [if_neg m, if_neg (fun h => m (e2.mp h))]
theorem put_seen {ns : List Str} {z : Str} : putD (ns.map fun z => ((Sum.inr z : Key), MV.p (.bl true))) (Sum.inr z) (.p (.bl true)) = ((if z ∈ ns then ns else ns ++ [z]).map fun z => ((Sum.inr z : Key), MV.p (.bl true))) := by
  have ha : ((ns.map fun z => ((Sum.inr z : Key), MV.p (.bl true))).any fun kv => decide (kv.1 = (Sum.inr z : Key))) = decide (z ∈ ns) := by
    rw [List.any_map]
    by_cases m : z ∈ ns
    · rw [decide_eq_true m]
      exact List.any_eq_true.mpr ⟨z, m, by simp⟩
    · rw [decide_eq_false m]
      refine Bool.eq_false_iff.mpr fun h => m ?_
      obtain ⟨y, hy, e⟩ := List.any_eq_true.mp h
      have e' : y = z := by simpa using e
      exact e' ▸ hy
  unfold putD
  rw [ha]
  by_cases m : z ∈ ns
  · rw [decide_eq_true m, if_pos rfl, if_pos m, List.map_map]
    refine List.map_congr_left fun y _ => ?_
    show (if (Sum.inr y : Key) = Sum.inr z then ((Sum.inr y : Key), MV.p (.bl true)) else ((Sum.inr y : Key), MV.p (.bl true))) = _
    split <;> rfl
  · rw [decide_eq_false m, if_neg Bool.false_ne_true, if_neg m, List.map_append]
    rfl
theorem in_seen {g : Option Rn} {h : List (Option MO)} {o : Option MO} {ns : List Str} {z : Str} : MP.inV false (.p (.str z)) (.o (h.length + 1)) (wS g h [o, seenO ns]) = .ok (.p (.bl (decide (z ∈ ns)))) (wS g h [o, seenO ns]) := by
  have e1 : flat (wS g h [o, seenO ns]) (.o (h.length + 1)) = none := by
    unfold flat
    simp [seenO, lstO]
  have e2 : dlook (wS g h [o, seenO ns]) (.o (h.length + 1)) (.p (.str z)) = some (if z ∈ ns then some (MV.p (.bl true)) else none) := by
    unfold dlook dic
    simp [seenO, MP.keyOf, intO, dicO, look_seen]
  unfold MP.inV
  rw [e1]
  simp only []
  rw [e2]
  by_cases m : z ∈ ns <;> simp [m]
theorem put_seen' {g : Option Rn} {h : List (Option MO)} {o : Option MO} {ns : List Str} {z : Str} (hl : ns.length < 16777216) : storeV (.o (h.length + 1)) (.p (.str z)) (.p (.bl true)) (wS g h [o, seenO ns]) = .ok () (wS g h [o, seenO (if z ∈ ns then ns else ns ++ [z])]) := by
  unfold storeV
  simp [seenO, MP.keyOf, intO, dicO, hl, put_seen]
def stkL (stk : List (PV × Int)) : List MV := (stk.reverse.map pr).map MV.p
theorem stkL_cons {x : PV × Int} {t : List (PV × Int)} : stkL (x :: t) = stkL t ++ [.p (pr x)] := by unfold stkL; rw [List.reverse_cons, List.map_append, List.map_append]; rfl
theorem stkL_app {ps : List PV} {ab : Int} {t : List (PV × Int)} : stkL t ++ (ps.reverse.map fun q => PV.tup [q, .int ab]).map MV.p = stkL (ps.map (fun q => (q, ab)) ++ t) := by
  unfold stkL
  rw [List.reverse_append, List.map_append, List.map_append, ← List.map_reverse, List.map_map, List.map_map, List.map_map, List.map_map]
  rfl
theorem stkL_len {t : List (PV × Int)} : (stkL t).length = t.length := by unfold stkL; simp
def szS : List (PV × Int) → Nat
  | [] => 0
  | x :: t => szD x.1 + szS t
theorem szS_app {ps : List PV} {ab : Int} {t : List (PV × Int)} : szS (ps.map (fun q => (q, ab)) ++ t) = szL ps + szS t := by
  induction ps with
  | nil => simp [szL]
  | cons a ps ih =>
    show szD a + szS (ps.map (fun q => (q, ab)) ++ t) = _
    rw [ih, szL]; omega
theorem szS_len : ∀ {t : List (PV × Int)}, t.length ≤ szS t
  | [] => Nat.le_refl _
  | x :: t => by
    have := szD_pos x.1
    have := szS_len (t := t)
    rw [szS, List.length_cons]; omega
theorem chk_k : ∀ {k stk st r}, Chk k stk st r → k ≤ szS stk := by
  intro k stk st r c
  induction c with
  | done => exact Nat.zero_le _
  | @bad d ab rest st h => have := szD_pos d; rw [szS]; show 1 ≤ szD d + _; omega
  | @kindBad d ab rest st ps h1 h2 h3 => have := szD_pos d; rw [szS]; show 1 ≤ szD d + _; omega
  | @manyBad d ab rest st ps h1 h2 h3 => have := szD_pos d; rw [szS]; show 1 ≤ szD d + _; omega
  | @nodeBad d ab rest st ps h1 h2 h3 h4 => have := szD_pos d; rw [szS]; show 1 ≤ szD d + _; omega
  | @kind d ab rest st ps k r h1 h2 h3 h4 ih => rw [szS_app] at ih; have := parts_sz h1; rw [szS]; show _ ≤ szD d + _; omega
  | @many d ab rest st ps k r h1 h2 h3 h4 ih => rw [szS_app] at ih; have := parts_sz h1; rw [szS]; show _ ≤ szD d + _; omega
  | @node d ab rest st ps k r h1 h2 h3 h4 h5 ih => rw [szS_app] at ih; have := parts_sz h1; rw [szS]; show _ ≤ szD d + _; omega
theorem parts_ok {d : PV} {ps : List PV} (h : partsD d = some ps) (o : okP d = true) : okL ps = true := by
  unfold partsD at h
  split at h
  · rename_i w ds
    rw [okP, okL, Bool.and_eq_true] at o
    have o2 := o.2
    split at h
    · unfold kindParts at h
      split at h
      · split at h
        · cases h; rfl
        · cases h
      · cases h
    · split at h
      · unfold manyParts at h
        split at h
        · split at h
          · cases h
            rw [okL, okL, Bool.and_eq_true] at o2
            exact o2.2
          · cases h
        · cases h
      · split at h
        · unfold nodeParts at h
          split at h
          · split at h
            · cases h
              rw [okL, okP, Bool.and_eq_true] at o2
              exact o2.1
            · cases h
          · cases h
        · cases h
  · cases h
def ckEnv (v : PV) (h : List (Option MO)) (st : Sn) (q5 q6 q7 q8 q9 : Option MV) : MP.Env := [some (.p v), some (.o h.length), some (.o (h.length + 1)), some (.p (.int st.joints)), some (.p (.int st.at_)), q5, q6, q7, q8, q9]
def stOf (g : Option Rn) (h : List (Option MO)) (stk : List (PV × Int)) (st : Sn) : S := wS g h [some (.lst (stkL stk)), seenO st.seen]
theorem ck_c {v : PV} {g : Option Rn} {h : List (Option MO)} {st : Sn} {q5 q6 q7 q8 q9 : Option MV} {stk : List (PV × Int)} : c_check_formula_1 (ckEnv v h st q5 q6 q7 q8 q9) (stOf g h stk st) = .ok (decide (stk ≠ [])) (stOf g h stk st) := by
  have hl : lenV [.o h.length] (stOf g h stk st) = .ok (.p (.int stk.length)) (stOf g h stk st) := by
    have := x_lenO (s := stOf g h stk st) (n := h.length) (xs := stkL stk) (by unfold stOf; simp)
    rw [stkL_len] at this; exact this
  unfold c_check_formula_1 ckEnv
  simp [hl]
  cases stk <;> simp
theorem ck_pop {g : Option Rn} {h : List (Option MO)} {st : Sn} {x : PV × Int} {t : List (PV × Int)} : popV (.o h.length) [] (stOf g h (x :: t) st) = .ok (.p (pr x)) (stOf g h t st) := by
  have := x_pop (s := stOf g h (x :: t) st) (n := h.length) (xs := stkL t) (v := .p (pr x)) (by unfold stOf; rw [stkL_cons]; simp)
  rw [this]
  unfold stOf
  simp
theorem ck_isL {g : Option Rn} {h : List (Option MO)} {st : Sn} {t : List (PV × Int)} : isLst (.o h.length) (stOf g h t st) = true := x_isLst (xs := stkL t) (by unfold stOf; simp)
theorem ck_lenD {g : Option Rn} {h : List (Option MO)} {st : Sn} {t : List (PV × Int)} : lenV [.o (h.length + 1)] (stOf g h t st) = .ok (.p (.int st.seen.length)) (stOf g h t st) := by
  have := x_lenD (s := stOf g h t st) (n := h.length + 1) (xs := st.seen.map fun z => (Sum.inr z, MV.p (.bl true))) (by unfold stOf; simp [seenO])
  rw [List.length_map] at this; exact this
theorem ck_ext {g : Option Rn} {h : List (Option MO)} {st : Sn} {t : List (PV × Int)} {ps : List PV} {ab : Int} (hl : t.length + ps.length ≤ 16777216) : extV (.o h.length) [.p (.lst (ps.reverse.map fun q => PV.tup [q, .int ab]))] (stOf g h t st) = .ok (.p .non) (stOf g h (ps.map (fun q => (q, ab)) ++ t) st) := by
  have := x_ext (s := stOf g h t st) (n := h.length) (xs := stkL t) (ys := ps.reverse.map fun q => PV.tup [q, .int ab]) (by unfold stOf; simp) (by rw [stkL_len]; simpa using hl)
  rw [this]
  unfold stOf
  rw [wS_put0, stkL_app]
theorem ck_comp {ρ : MP.Env} {s : S} {ps : List PV} {ab : Int} {t : TM} {me : E MV} (hh : ∀ q, ∃ ρ1, t (.p q) ρ s = .ok ρ1 s ∧ me ρ1 s = .ok (.p (.tup [q, .int ab])) s) :
    lcI ⟨(ps.map MV.p).reverse, none⟩ t yesT me ρ (fun _ => true) mkLc (ps.map MV.p).reverse [] s = .ok (.p (.lst (ps.reverse.map fun q => PV.tup [q, .int ab]))) s := by
  rw [← List.map_reverse]
  exact lc_list (L := ps.reverse) (g := MV.p) _ fun q _ => hh q
theorem ck_ext0 {g : Option Rn} {h : List (Option MO)} {st : Sn} {t : List (PV × Int)} (hl : t.length ≤ 16777216) : extV (.o h.length) [.p (.lst [])] (stOf g h t st) = .ok (.p .non) (stOf g h t st) := ck_ext (ps := []) (ab := 0) (by simpa using hl)
section
variable {v d : PV} {g : Option Rn} {h : List (Option MO)} {st : Sn} {ab : Int} {rest : List (PV × Int)} {ps : List PV} {q5 q6 q7 q8 q9 : Option MV}
theorem k_kind : PyData.strOk "kind" = true := by decide +kernel
theorem k_many : PyData.strOk "many" = true := by decide +kernel
theorem tb_bad (od : okP d = true) (hp : partsD d = none) : l_check_formula_1 (ckEnv v h st q5 q6 q7 q8 q9) (stOf g h ((d, ab) :: rest) st) = .exc "InvalidFormula" "at" (.int st.at_) (ckEnv v h st (some (.p d)) (some (.p (.int ab))) (some (.p .non)) q8 q9) (stOf g h rest st) := by
  have e := sp_parts_of (v := d) (s := stOf g h rest st) od
  rw [hp] at e
  unfold l_check_formula_1 ckEnv
  simp [ck_isL, ck_pop, pr, e]
theorem tb_kind (od : okP d = true) (hp : partsD d = some ps) (ht : tagD d = "kind") (hl : st.seen.length < 16777216) (hr : rest.length ≤ 10000) : l_check_formula_1 (ckEnv v h st q5 q6 q7 q8 q9) (stOf g h ((d, ab) :: rest) st) =
    if nameOf d ∈ st.seen ∨ 8 ≤ st.seen.length then .exc "InvalidFormula" "at" (.int st.at_) (ckEnv v h st (some (.p d)) (some (.p (.int ab))) (some (.p (.tup ps))) (some (.p (.bl true))) q9) (stOf g h rest { st with seen := if nameOf d ∈ st.seen then st.seen else st.seen ++ [nameOf d] })
    else .nx (ckEnv v h { st with at_ := st.at_ + 1 } (some (.p d)) (some (.p (.int ab))) (some (.p (.tup ps))) (some (.p (.bl false))) q9) (stOf g h rest { st with at_ := st.at_ + 1, seen := st.seen ++ [nameOf d] }) := by
  have e := sp_parts_of (v := d) (s := stOf g h rest st) od
  rw [hp] at e
  obtain ⟨hd, hn⟩ := parts_kind hp ht
  obtain rfl := kind_parts hp ht
  have hin := in_seen (g := g) (h := h) (o := some (.lst (stkL rest))) (ns := st.seen) (z := nameOf d)
  have hput := put_seen' (g := g) (h := h) (o := some (.lst (stkL rest))) (ns := st.seen) (z := nameOf d) hl
  have hld := ck_lenD (g := g) (h := h) (st := st) (t := rest)
  revert e hin hput hld
  generalize nameOf d = z at *
  subst hd
  intro e hin hput hld
  have eq : MP.eqV false (.p (.str "kind")) (.p (.str "kind")) (stOf g h rest st) = .ok (.p (.bl true)) (stOf g h rest st) := by rw [x_eqS k_kind k_kind]; simp
  unfold l_check_formula_1 ckEnv
  have hin' : MP.inV false (.p (.str z)) (.o (h.length + 1)) (stOf g h rest st) = .ok (.p (.bl (decide (z ∈ st.seen)))) (stOf g h rest st) := hin
  have hput' : storeV (.o (h.length + 1)) (.p (.str z)) (.p (.bl true)) (stOf g h rest st) = .ok () (stOf g h rest { st with seen := if z ∈ st.seen then st.seen else st.seen ++ [z] }) := hput
  have hr' : rest.length ≤ 16777216 := by omega
  by_cases m : z ∈ st.seen
  · simp [ck_isL, ck_pop, pr, e, eq, hin', hput', m]
  · by_cases l8 : 8 ≤ st.seen.length
    · have l8' : (8 : Int) ≤ (st.seen.length : Int) := by omega
      simp [ck_isL, ck_pop, pr, e, eq, hin', hput', m, hld, l8, l8']
    · have l8' : ¬ (8 : Int) ≤ (st.seen.length : Int) := by omega
      simp [ck_isL, ck_pop, pr, e, eq, hin', hput', m, hld, l8, l8', ck_ext0 hr']
      rfl
theorem tb_many (od : okP d = true) (hp : partsD d = some ps) (ht : tagD d = "many") (h0 : 0 ≤ ab) (h1 : ab ≤ 60) (hr : rest.length ≤ 10000) (hs : szD d ≤ 10000) : l_check_formula_1 (ckEnv v h st q5 q6 q7 q8 q9) (stOf g h ((d, ab) :: rest) st) =
    if 60 < ab * manyOf d then .exc "InvalidFormula" "at" (.int st.at_) (ckEnv v h st (some (.p d)) (some (.p (.int (ab * manyOf d)))) (some (.p (.tup ps))) (some (.p (.bl true))) q9) (stOf g h rest st)
    else .nx (ckEnv v h { st with at_ := st.at_ + 1 } (some (.p d)) (some (.p (.int (ab * manyOf d)))) (some (.p (.tup ps))) (some (.p (.bl false))) q9) (stOf g h (ps.map (fun q => (q, ab * manyOf d)) ++ rest) { st with at_ := st.at_ + 1 }) := by
  have e := sp_parts_of (v := d) (s := stOf g h rest st) od
  rw [hp] at e
  obtain ⟨x, hd, rfl, m2, m60⟩ := parts_many hp ht
  revert e
  generalize manyOf d = i at *
  subst hd
  intro e
  have q1 : MP.eqV false (.p (.str "many")) (.p (.str "kind")) (stOf g h rest st) = .ok (.p (.bl false)) (stOf g h rest st) := by rw [x_eqS k_many k_kind]; simp; decide +kernel
  have q2 : MP.eqV false (.p (.str "many")) (.p (.str "many")) (stOf g h rest st) = .ok (.p (.bl true)) (stOf g h rest st) := by rw [x_eqS k_many k_many]; simp
  have mu : mulI (.p (.int ab)) (.p (.int i)) (stOf g h rest st) = .ok (.p (.int (ab * i))) (stOf g h rest st) := by
    unfold mulI MP.intOp
    exact if_pos (decide_eq_true (by omega))
  have hl : rest.length + [x].length ≤ 16777216 := by rw [List.length_singleton]; omega
  have hx := ck_ext (g := g) (h := h) (st := st) (t := rest) (ps := [x]) (ab := ab * i) hl
  unfold l_check_formula_1 ckEnv
  by_cases c : 60 < ab * i
  · simp [ck_isL, ck_pop, pr, e, q1, q2, mu, c]
  · have hc : ∀ ρ : MP.Env, lcI ⟨([x].map MV.p).reverse, none⟩ (nameT 9) yesT (tupE (consE (var 9) (consE (var 6) nilE))) [some (.p v), some (.o h.length), some (.o (h.length + 1)), some (.p (.int st.joints)), some (.p (.int st.at_)), some (.p (.tup [.str "many", .int i, x])), some (.p (.int (ab * i))), some (.p (.tup [x])), some (.p (.bl false)), none] (fun _ => true) mkLc ([x].map MV.p).reverse [] (stOf g h rest st) = .ok (.p (.lst ([x].reverse.map fun q => PV.tup [q, .int (ab * i)]))) (stOf g h rest st) := fun ρ => ck_comp fun q => ⟨_, rfl, rfl⟩
    have hc := hc []
    simp at hc hx
    simp [ck_isL, ck_pop, pr, e, q1, q2, mu, c, wipeE, hc, hx]
    rfl
theorem tb_node (od : okP d = true) (hp : partsD d = some ps) (hk : tagD d ≠ "kind") (hm : tagD d ≠ "many") (hr : rest.length ≤ 10000) (hs : szD d ≤ 10000) : l_check_formula_1 (ckEnv v h st q5 q6 q7 q8 q9) (stOf g h ((d, ab) :: rest) st) =
    if 8 ≤ st.joints + 1 then .exc "InvalidFormula" "at" (.int st.at_) (ckEnv v h { st with joints := st.joints + 1 } (some (.p d)) (some (.p (.int ab))) (some (.p (.tup ps))) (some (.p (.bl true))) q9) (stOf g h rest st)
    else .nx (ckEnv v h { st with at_ := st.at_ + 1, joints := st.joints + 1 } (some (.p d)) (some (.p (.int ab))) (some (.p (.tup ps))) (some (.p (.bl false))) q9) (stOf g h (ps.map (fun q => (q, ab)) ++ rest) { st with at_ := st.at_ + 1, joints := st.joints + 1 }) := by
  have e := sp_parts_of (v := d) (s := stOf g h rest st) od
  rw [hp] at e
  obtain ⟨ds, hd⟩ := parts_tag hp
  have hsz := parts_sz hp
  have hlen := szL_len ps
  revert e
  generalize tagD d = w at *
  subst hd
  intro e
  have hw : PyData.strOk w = true := by rw [okP, okL, Bool.and_eq_true] at od; exact strOk_of od.1
  have q1 : MP.eqV false (.p (.str w)) (.p (.str "kind")) (stOf g h rest st) = .ok (.p (.bl false)) (stOf g h rest st) := by rw [x_eqS hw k_kind, decide_eq_false hk]
  have q2 : MP.eqV false (.p (.str w)) (.p (.str "many")) (stOf g h rest st) = .ok (.p (.bl false)) (stOf g h rest st) := by rw [x_eqS hw k_many, decide_eq_false hm]
  have hl : rest.length + ps.length ≤ 16777216 := by omega
  have hx := ck_ext (g := g) (h := h) (st := st) (t := rest) (ps := ps) (ab := ab) hl
  unfold l_check_formula_1 ckEnv
  by_cases c : 8 ≤ st.joints + 1
  · have c' : (8 : Int) ≤ (st.joints : Int) + 1 := by omega
    simp [ck_isL, ck_pop, pr, e, q1, q2, c, c']
  · have c' : ¬ (8 : Int) ≤ (st.joints : Int) + 1 := by omega
    have hc : lcI ⟨(ps.map MV.p).reverse, none⟩ (nameT 9) yesT (tupE (consE (var 9) (consE (var 6) nilE))) [some (.p v), some (.o h.length), some (.o (h.length + 1)), some (.p (.int (st.joints + 1))), some (.p (.int st.at_)), some (.p (.tup (.str w :: ds))), some (.p (.int ab)), some (.p (.tup ps)), some (.p (.bl false)), none] (fun _ => true) mkLc (ps.map MV.p).reverse [] (stOf g h rest st) = .ok (.p (.lst (ps.reverse.map fun q => PV.tup [q, .int ab]))) (stOf g h rest st) := ck_comp fun q => ⟨_, rfl, rfl⟩
    simp at hc hx
    simp [ck_isL, ck_pop, pr, e, q1, q2, c, c', wipeE, hc, hx]
    rfl
end
theorem ck_loop {v : PV} {g : Option Rn} {h : List (Option MO)} : ∀ {k stk st r}, Chk k stk st r → (∀ x ∈ stk, okP x.1 = true ∧ 0 ≤ x.2 ∧ x.2 ≤ 60) → szS stk ≤ 10000 → st.seen.length ≤ 8 → ∀ N, k < N → ∀ q5 q6 q7 q8 q9, ∃ ρ' t', whlF c_check_formula_1 l_check_formula_1 N (ckEnv v h st q5 q6 q7 q8 q9) (stOf g h stk st) = (match r with
    | none => .nx ρ' (wS g h t')
    | some i => .exc "InvalidFormula" "at" (.int (i : Nat)) ρ' (wS g h t')) := by
  intro k stk st r c
  induction c with
  | @done st =>
    intro _ _ _ N hN q5 q6 q7 q8 q9
    obtain ⟨n, rfl⟩ : ∃ n, N = n + 1 := ⟨N - 1, by omega⟩
    rw [x_whl, ck_c]
    exact ⟨_, _, rfl⟩
  | @bad d ab rest st hp =>
    intro ho hs hn N hN q5 q6 q7 q8 q9
    obtain ⟨n, rfl⟩ : ∃ n, N = n + 1 := ⟨N - 1, by omega⟩
    obtain ⟨od, a0, a1⟩ := ho (d, ab) List.mem_cons_self
    rw [x_whl, ck_c]
    have e := tb_bad (v := v) (g := g) (h := h) (st := st) (ab := ab) (rest := rest) (q5 := q5) (q6 := q6) (q7 := q7) (q8 := q8) (q9 := q9) od hp
    exact ⟨_, _, by simp only [x_toSRok]; rw [decide_eq_true (by simp), if_pos rfl, e]; rfl⟩
  | @kindBad d ab rest st ps hp ht hc =>
    intro ho hs hn N hN q5 q6 q7 q8 q9
    obtain ⟨n, rfl⟩ : ∃ n, N = n + 1 := ⟨N - 1, by omega⟩
    obtain ⟨od, a0, a1⟩ := ho (d, ab) List.mem_cons_self
    have hl := szS_len (t := (d, ab) :: rest)
    rw [List.length_cons] at hl
    rw [x_whl, ck_c]
    have e := tb_kind (v := v) (g := g) (h := h) (st := st) (ab := ab) (rest := rest) (q5 := q5) (q6 := q6) (q7 := q7) (q8 := q8) (q9 := q9) od hp ht (by omega) (by omega)
    rw [if_pos hc] at e
    exact ⟨_, _, by simp only [x_toSRok]; rw [decide_eq_true (by simp), if_pos rfl, e]; rfl⟩
  | @kind d ab rest st ps k r hp ht hc c ih =>
    intro ho hs hn N hN q5 q6 q7 q8 q9
    obtain ⟨n, rfl⟩ : ∃ n, N = n + 1 := ⟨N - 1, by omega⟩
    obtain ⟨od, a0, a1⟩ := ho (d, ab) List.mem_cons_self
    have hl := szS_len (t := (d, ab) :: rest)
    rw [List.length_cons] at hl
    rw [x_whl, ck_c]
    have e := tb_kind (v := v) (g := g) (h := h) (st := st) (ab := ab) (rest := rest) (q5 := q5) (q6 := q6) (q7 := q7) (q8 := q8) (q9 := q9) od hp ht (by omega) (by omega)
    rw [if_neg hc] at e
    obtain rfl := kind_parts hp ht
    rw [szS] at hs
    obtain ⟨ρ', t', e2⟩ := ih (fun x hx => ho x (List.mem_cons_of_mem _ hx)) (by show szS rest ≤ _; omega) (by show (st.seen ++ [nameOf d]).length ≤ 8; rw [List.length_append, List.length_singleton]; have := not_or.mp hc; omega) n (by omega) (some (.p d)) (some (.p (.int ab))) (some (.p (.tup []))) (some (.p (.bl false))) q9
    exact ⟨ρ', t', by simp only [x_toSRok]; rw [decide_eq_true (by simp), if_pos rfl, e]; exact e2⟩
  | @manyBad d ab rest st ps hp ht hc =>
    intro ho hs hn N hN q5 q6 q7 q8 q9
    obtain ⟨n, rfl⟩ : ∃ n, N = n + 1 := ⟨N - 1, by omega⟩
    obtain ⟨od, a0, a1⟩ := ho (d, ab) List.mem_cons_self
    have hl := szS_len (t := (d, ab) :: rest)
    rw [List.length_cons] at hl
    rw [szS] at hs
    rw [x_whl, ck_c]
    have e := tb_many (v := v) (g := g) (h := h) (st := st) (ab := ab) (rest := rest) (q5 := q5) (q6 := q6) (q7 := q7) (q8 := q8) (q9 := q9) od hp ht a0 a1 (by rw [szS] at hl; omega) (by have : szD d + szS rest ≤ 10000 := hs; omega)
    rw [if_pos hc] at e
    exact ⟨_, _, by simp only [x_toSRok]; rw [decide_eq_true (by simp), if_pos rfl, e]; rfl⟩
  | @many d ab rest st ps k r hp ht hc c ih =>
    intro ho hs hn N hN q5 q6 q7 q8 q9
    obtain ⟨n, rfl⟩ : ∃ n, N = n + 1 := ⟨N - 1, by omega⟩
    obtain ⟨od, a0, a1⟩ := ho (d, ab) List.mem_cons_self
    have hl := szS_len (t := (d, ab) :: rest)
    rw [List.length_cons] at hl
    rw [szS] at hs
    have hs' : szD d + szS rest ≤ 10000 := hs
    rw [x_whl, ck_c]
    have e := tb_many (v := v) (g := g) (h := h) (st := st) (ab := ab) (rest := rest) (q5 := q5) (q6 := q6) (q7 := q7) (q8 := q8) (q9 := q9) od hp ht a0 a1 (by rw [szS] at hl; omega) (by omega)
    rw [if_neg hc] at e
    have hps := parts_ok hp od
    have hsz := parts_sz hp
    obtain ⟨x, _, _, m2, m60⟩ := parts_many hp ht
    have hab : 0 ≤ ab * manyOf d := Int.mul_nonneg a0 (by omega)
    obtain ⟨ρ', t', e2⟩ := ih (fun x hx => by
      rcases List.mem_append.mp hx with hx | hx
      · obtain ⟨q, hq, rfl⟩ := List.mem_map.mp hx
        exact ⟨okL_mem hps hq, hab, by omega⟩
      · exact ho x (List.mem_cons_of_mem _ hx)) (by rw [szS_app]; omega) hn n (by omega) (some (.p d)) (some (.p (.int (ab * manyOf d)))) (some (.p (.tup ps))) (some (.p (.bl false))) q9
    exact ⟨ρ', t', by simp only [x_toSRok]; rw [decide_eq_true (by simp), if_pos rfl, e]; exact e2⟩
  | @nodeBad d ab rest st ps hp hk hm hc =>
    intro ho hs hn N hN q5 q6 q7 q8 q9
    obtain ⟨n, rfl⟩ : ∃ n, N = n + 1 := ⟨N - 1, by omega⟩
    obtain ⟨od, a0, a1⟩ := ho (d, ab) List.mem_cons_self
    have hl := szS_len (t := (d, ab) :: rest)
    rw [List.length_cons] at hl
    rw [szS] at hs
    have hs' : szD d + szS rest ≤ 10000 := hs
    rw [x_whl, ck_c]
    have e := tb_node (v := v) (g := g) (h := h) (st := st) (ab := ab) (rest := rest) (q5 := q5) (q6 := q6) (q7 := q7) (q8 := q8) (q9 := q9) od hp hk hm (by rw [szS] at hl; omega) (by omega)
    rw [if_pos hc] at e
    exact ⟨_, _, by simp only [x_toSRok]; rw [decide_eq_true (by simp), if_pos rfl, e]; rfl⟩
  | @node d ab rest st ps k r hp hk hm hc c ih =>
    intro ho hs hn N hN q5 q6 q7 q8 q9
    obtain ⟨n, rfl⟩ : ∃ n, N = n + 1 := ⟨N - 1, by omega⟩
    obtain ⟨od, a0, a1⟩ := ho (d, ab) List.mem_cons_self
    have hl := szS_len (t := (d, ab) :: rest)
    rw [List.length_cons] at hl
    rw [szS] at hs
    have hs' : szD d + szS rest ≤ 10000 := hs
    rw [x_whl, ck_c]
    have e := tb_node (v := v) (g := g) (h := h) (st := st) (ab := ab) (rest := rest) (q5 := q5) (q6 := q6) (q7 := q7) (q8 := q8) (q9 := q9) od hp hk hm (by rw [szS] at hl; omega) (by omega)
    rw [if_neg hc] at e
    have hps := parts_ok hp od
    have hsz := parts_sz hp
    obtain ⟨ρ', t', e2⟩ := ih (fun x hx => by
      rcases List.mem_append.mp hx with hx | hx
      · obtain ⟨q, hq, rfl⟩ := List.mem_map.mp hx
        exact ⟨okL_mem hps hq, a0, a1⟩
      · exact ho x (List.mem_cons_of_mem _ hx)) (by rw [szS_app]; omega) hn n (by omega) (some (.p d)) (some (.p (.int ab))) (some (.p (.tup ps))) (some (.p (.bl false))) q9
    exact ⟨ρ', t', by simp only [x_toSRok]; rw [decide_eq_true (by simp), if_pos rfl, e]; exact e2⟩
/-- what the check of a value answers -/
def wrongV (v : PV) : Option Nat := (wrongF (htD v + 1) 1 ⟨0, [], 0⟩ v).1
theorem sp_check_formula {v : PV} {g : Option Rn} {h : List (Option MO)} (ho : okP v = true) (hs : szD v ≤ 2900) : m_check_formula [.p v] ⟨g, h⟩ = (match wrongV v with
    | none => .ok (.p .non) ⟨g, h⟩
    | some i => .exc "InvalidFormula" "at" (.int (i : Nat)) ⟨g, h⟩) := by
  obtain ⟨k, c⟩ := chk_wrong (n := htD v + 1) (d := v) (Nat.lt_succ_self _)
  have hk := chk_k c
  have hsz : szS [(v, (1 : Int))] = szD v := by rw [szS, szS, Nat.add_zero]
  rw [hsz] at hk
  obtain ⟨ρ', t', e⟩ := ck_loop (v := v) (g := g) (h := h) c (fun x hx => by
    rw [List.mem_singleton.mp hx]
    exact ⟨ho, (by decide : (0 : Int) ≤ 1), (by decide : (1 : Int) ≤ 60)⟩) (by rw [hsz]; omega) (by simp) 3000 (by omega) none none none none none
  have e1 : whlF c_check_formula_1 l_check_formula_1 3000 [some (.p v), some (.o h.length), some (.o (h.length + 1)), some (.p (.int 0)), some (.p (.int 0)), none, none, none, none, none] (wS g h [some (.lst [.p (.tup [v, .int 1])]), some (.dK [])]) = _ := e
  unfold m_check_formula
  rw [x_defM]
  simp [b_check_formula]
  rw [e1]
  unfold wrongV
  cases hw : (wrongF (htD v + 1) 1 ⟨0, [], 0⟩ v).1 <;> simp
end K11

/-! ## K11qd -/
set_option Elab.async false
set_option linter.all false
set_option maxRecDepth 100000
set_option maxHeartbeats 4000000
namespace K11
open PySem PySem.Spec PyProof.Rows L2 AK MP
def wrO (st : Sn) : MO := .lst [.p (.int st.at_), .p (.lst (st.seen.map PV.str)), .p (.int st.joints)]
def ansO : Option Nat → PV
  | none => .non
  | some i => .int (i : Nat)
section
variable {s : S} {n : Nat} {st : Sn}
theorem wr_ix0 (h : s.h[n]? = some (some (wrO st))) : ixV (.o n) (.p (.int 0)) s = .ok (.p (.int st.at_)) s := x_ixO h rfl
theorem wr_ix1 (h : s.h[n]? = some (some (wrO st))) : ixV (.o n) (.p (.int 1)) s = .ok (.p (.lst (st.seen.map PV.str))) s := x_ixO h rfl
theorem wr_ix2 (h : s.h[n]? = some (some (wrO st))) : ixV (.o n) (.p (.int 2)) s = .ok (.p (.int st.joints)) s := x_ixO h rfl
theorem wr_st0 (h : s.h[n]? = some (some (wrO st))) {k : Nat} : storeV (.o n) (.p (.int 0)) (.p (.int (k : Nat))) s = .ok () (s.put n (wrO { st with at_ := k })) := x_storeL (k := 0) h (show 0 < 3 by decide)
theorem wr_st1 (h : s.h[n]? = some (some (wrO st))) {ns : List Str} : storeV (.o n) (.p (.int 1)) (.p (.lst (ns.map PV.str))) s = .ok () (s.put n (wrO { st with seen := ns })) := x_storeL (k := 1) h (show 1 < 3 by decide)
theorem wr_st2 (h : s.h[n]? = some (some (wrO st))) {k : Nat} : storeV (.o n) (.p (.int 2)) (.p (.int (k : Nat))) s = .ok () (s.put n (wrO { st with joints := k })) := x_storeL (k := 2) h (show 2 < 3 by decide)
end
def Inv (st : Sn) : Prop := st.seen.length ≤ 8 ∧ st.joints ≤ 7 ∧ ∀ z ∈ st.seen, PyData.strOk z = true
theorem fold_inv {f : Sn → PV → Option Nat × Sn} : ∀ {ps : List PV} {st s' : Sn}, (∀ p ∈ ps, ∀ st s', Inv st → f st p = (none, s') → Inv s') → Inv st → foldW f st ps = (none, s') → Inv s'
  | [], st, s', _, h, e => by rw [foldW] at e; cases e; exact h
  | p :: ps, st, s', k, h, e => by
    rw [foldW] at e
    cases ef : f st p with
    | mk o s1 =>
      rw [ef] at e
      cases o with
      | some i => cases e
      | none => exact fold_inv (fun q hq => k q (List.mem_cons_of_mem _ hq)) (k p List.mem_cons_self st s1 h ef) e
theorem wrong_inv : ∀ (N : Nat) (ab : Int) (v : PV) (st s' : Sn), okP v = true → Inv st → wrongF N ab st v = (none, s') → Inv s'
  | 0, ab, v, st, s', _, h, e => by rw [wrongF] at e; cases e; exact h
  | N + 1, ab, v, st, s', ho, h, e => by
    rw [wrongF] at e
    cases hp : partsD v with
    | none => rw [hp] at e; cases e
    | some ps =>
      rw [hp] at e
      have hps := parts_ok hp ho
      simp only [] at e
      split at e
      · rename_i ht
        split at e
        · cases e
        · rename_i hc
          cases e
          have hc' := not_or.mp hc
          obtain ⟨hd, _⟩ := parts_kind hp ht
          refine ⟨by show (st.seen ++ [_]).length ≤ 8; rw [List.length_append, List.length_singleton]; omega, h.2.1, fun z hz => ?_⟩
          rcases List.mem_append.mp hz with hz | hz
          · exact h.2.2 z hz
          · rw [List.mem_singleton.mp hz]
            rw [hd, okP, okL, okL, Bool.and_eq_true, Bool.and_eq_true] at ho
            exact strOk_of ho.2.1
      · split at e
        · split at e
          · cases e
          · exact fold_inv (fun p hp st s' => wrong_inv N _ p st s' (okL_mem hps hp)) (show Inv { st with at_ := st.at_ + 1 } from h) e
        · split at e
          · cases e
          · rename_i hc
            exact fold_inv (fun p hp st s' => wrong_inv N _ p st s' (okL_mem hps hp)) (show Inv { st with at_ := st.at_ + 1, joints := st.joints + 1 } from ⟨h.1, by show st.joints + 1 ≤ 7; omega, h.2.2⟩) e
def endO : Option Nat → Option Nat
  | o => o
theorem wr_loop {N n : Nat} {ab : Int} {L : List MV} {f : Sn → PV → Option Nat × Sn} {q0 q3 q4 : Option MV} : ∀ (ps : List PV) (st : Sn) (s : S) (q5 q6 : Option MV), (∀ p ∈ ps, ∀ st s', Inv st → f st p = (none, s') → Inv s') → (∀ p ∈ ps, ∀ (st : Sn) (s : S), Inv st → s.h[n]? = some (some (wrO st)) → m__law_wrong N [.p p, .o n, .p (.int ab)] s = .ok (.p (ansO (f st p).1)) (s.put n (wrO (f st p).2))) →
    Inv st → s.h[n]? = some (some (wrO st)) → ∃ q5' q6', forI ⟨L, none⟩ (nameT 5) (l__law_wrong_1 (m__law_wrong N)) (ps.map MV.p) [q0, some (.o n), some (.p (.int ab)), q3, q4, q5, q6] s = (match (foldW f st ps).1 with
      | none => .nx [q0, some (.o n), some (.p (.int ab)), q3, q4, q5', q6'] (s.put n (wrO (foldW f st ps).2))
      | some i => .rt (.p (.int (i : Nat))) (s.put n (wrO (foldW f st ps).2)))
  | [], st, s, q5, q6, _, _, _, hn => ⟨q5, q6, by rw [foldW, List.map_nil, x_for0, put_same hn]⟩
  | p :: ps, st, s, q5, q6, k, h, hi, hn => by
    have e := h p List.mem_cons_self st s hi hn
    rw [List.map_cons, x_forN, foldW]
    cases ef : f st p with
    | mk o s1 =>
      rw [ef] at e
      cases o with
      | some i =>
        refine ⟨q5, q6, ?_⟩
        have e' : m__law_wrong N [.p p, .o n, .p (.int ab)] s = .ok (.p (.int (i : Nat))) (s.put n (wrO s1)) := e
        simp [l__law_wrong_1, e']
      | none =>
        have e' : m__law_wrong N [.p p, .o n, .p (.int ab)] s = .ok (.p .non) (s.put n (wrO s1)) := e
        have hlt := lt_of_get hn
        obtain ⟨q5', q6', ih⟩ := wr_loop (N := N) (n := n) (ab := ab) (L := L) (f := f) (q0 := q0) (q3 := q3) (q4 := q4) ps s1 (s.put n (wrO s1)) (some (.p p)) (some (.p .non)) (fun q hq => k q (List.mem_cons_of_mem _ hq)) (fun q hq => h q (List.mem_cons_of_mem _ hq)) (k p List.mem_cons_self st s1 hi ef) (put_get hlt)
        have tn : l__law_wrong_1 (m__law_wrong N) [q0, some (.o n), some (.p (.int ab)), q3, q4, some (.p p), q6] s = .nx [q0, some (.o n), some (.p (.int ab)), q3, q4, some (.p p), some (.p .non)] (s.put n (wrO s1)) := by
          unfold l__law_wrong_1
          simp [e']
        refine ⟨q5', q6', ?_⟩
        show (l__law_wrong_1 (m__law_wrong N) [q0, some (.o n), some (.p (.int ab)), q3, q4, some (.p p), q6] s).turn _ = _
        rw [tn, x_turnnx, ih]
        simp
theorem sp__law_wrong : ∀ (N : Nat) (v : PV) (ab : Int) (st : Sn) (n : Nat) (s : S), okP v = true → htD v < N → htD v ≤ 60 → 0 ≤ ab → ab ≤ 60 → Inv st → s.h[n]? = some (some (wrO st)) →
    m__law_wrong N [.p v, .o n, .p (.int ab)] s = .ok (.p (ansO (wrongF N ab st v).1)) (s.put n (wrO (wrongF N ab st v).2))
  | 0, v, ab, st, n, s, _, hN, _, _, _, _, _ => absurd hN (Nat.not_lt_zero _)
  | N + 1, v, ab, st, n, s, ho, hN, h60, a0, a1, hi, hn => by
    have e := sp__law_inside (v := v) (s := s) ho h60
    have hlt := lt_of_get hn
    have g1 : (s.put n (wrO { st with at_ := st.at_ + 1 })).h[n]? = some (some (wrO { st with at_ := st.at_ + 1 })) := put_get hlt
    have i0 := wr_ix0 hn
    have w0 : storeV (.o n) (.p (.int 0)) (.p (.int ((st.at_ : Int) + 1))) s = .ok () (s.put n (wrO { st with at_ := st.at_ + 1 })) := wr_st0 hn (k := st.at_ + 1)
    rw [wrongF]
    show defM 3 7 (b__law_wrong (m__law_wrong N)) [.p v, .o n, .p (.int ab)] s = _
    rw [x_defM]
    cases hp : partsD v with
    | none =>
      rw [hp] at e
      simp [b__law_wrong, i0, e, w0, ansO]
    | some ps =>
      rw [hp] at e
      have hps := parts_ok hp ho
      have hht := parts_ht hp
      obtain ⟨ds, hd⟩ := parts_tag hp
      have hw : PyData.strOk (tagD v) = true := by rw [hd, okP, okL, Bool.and_eq_true] at ho; exact strOk_of ho.1
      have i1 := wr_ix1 g1
      have i2 := wr_ix2 g1
      simp only []
      by_cases tk : tagD v = "kind"
      · rw [if_pos tk]
        obtain ⟨hv, hnm⟩ := parts_kind hp tk
        have hzo : PyData.strOk (nameOf v) = true := by rw [hv, okP, okL, okL, Bool.and_eq_true, Bool.and_eq_true] at ho; exact strOk_of ho.2.1
        have hin : MP.inV false (.p (.str (nameOf v))) (.p (.lst (st.seen.map PV.str))) (s.put n (wrO { st with at_ := st.at_ + 1 })) = .ok (.p (.bl (decide (nameOf v ∈ st.seen)))) (s.put n (wrO { st with at_ := st.at_ + 1 })) := by
          rw [x_inL (isD_strE.trans hzo) (by
            show ((st.seen.map PV.str).all (PV.isD 59)) = true
            rw [List.all_map]
            exact List.all_eq_true.mpr fun z hz => isD_strE.trans (hi.2.2 z hz))]
          rw [if_neg Bool.false_ne_true, List.any_map]
          congr 4
          by_cases m : nameOf v ∈ st.seen
          · rw [decide_eq_true m]
            exact List.any_eq_true.mpr ⟨_, m, by simp [eqv_str]⟩
          · rw [decide_eq_false m]
            refine Bool.eq_false_iff.mpr fun h => m ?_
            obtain ⟨y, hy, ey⟩ := List.any_eq_true.mp h
            have : y = nameOf v := by simpa [eqv_str] using ey
            exact this ▸ hy
        have q1 : MP.eqV false (.p (.str "kind")) (.p (.str "kind")) (s.put n (wrO { st with at_ := st.at_ + 1 })) = .ok (.p (.bl true)) (s.put n (wrO { st with at_ := st.at_ + 1 })) := by rw [x_eqS k_kind k_kind]; simp
        have w1 : storeV (.o n) (.p (.int 1)) (.p (.lst ((st.seen ++ [nameOf v]).map PV.str))) (s.put n (wrO { st with at_ := st.at_ + 1 })) = .ok () (s.put n (wrO { st with at_ := st.at_ + 1, seen := st.seen ++ [nameOf v] })) := by
          rw [wr_st1 g1, put_put]
        revert e hin w1
        generalize nameOf v = z at *
        subst hv
        intro e hin w1
        by_cases m : z ∈ st.seen
        · simp [b__law_wrong, i0, e, w0, ansO, q1, i1, hin, m]
        · by_cases l8 : 8 ≤ st.seen.length
          · have l8' : (st.seen.length : Int) = 8 := by have := hi.1; omega
            simp [b__law_wrong, i0, e, w0, ansO, q1, i1, hin, m, l8, l8']
          · have l8' : ¬ (st.seen.length : Int) = 8 := by omega
            have ad : addV (.p (.lst (st.seen.map PV.str))) (.p (.lst [.str z])) (s.put n (wrO { st with at_ := st.at_ + 1 })) = .ok (.p (.lst ((st.seen ++ [z]).map PV.str))) (s.put n (wrO { st with at_ := st.at_ + 1 })) := by
              have hl : (st.seen.map PV.str).length + [PV.str z].length ≤ sizeLine := by rw [List.length_map, List.length_singleton, sizeLine_eq]; omega
              rw [List.map_append]
              show (if (st.seen.map PV.str).length + [PV.str z].length ≤ sizeLine then _ else _) = _
              rw [if_pos hl]
              rfl
            simp only [List.map_append, List.map_cons, List.map_nil] at ad w1
            simp [b__law_wrong, i0, e, w0, ansO, q1, i1, hin, m, l8, l8', ad, w1]
      · rw [if_neg tk]
        have hi' : Inv { st with at_ := st.at_ + 1 } := hi
        by_cases tm : tagD v = "many"
        · rw [if_pos tm]
          obtain ⟨x, hv, rfl, m2, m60⟩ := parts_many hp tm
          have hx : okP x = true := okL_mem hps List.mem_cons_self
          have hhx := hht x List.mem_cons_self
          have q1 : MP.eqV false (.p (.str "many")) (.p (.str "kind")) (s.put n (wrO { st with at_ := st.at_ + 1 })) = .ok (.p (.bl false)) (s.put n (wrO { st with at_ := st.at_ + 1 })) := by rw [x_eqS k_many k_kind]; simp; decide +kernel
          have q2 : MP.eqV false (.p (.str "many")) (.p (.str "many")) (s.put n (wrO { st with at_ := st.at_ + 1 })) = .ok (.p (.bl true)) (s.put n (wrO { st with at_ := st.at_ + 1 })) := by rw [x_eqS k_many k_many]; simp
          have mu : mulV mkLs (.p (.int ab)) (.p (.int (manyOf v))) (s.put n (wrO { st with at_ := st.at_ + 1 })) = .ok (.p (.int (ab * manyOf v))) (s.put n (wrO { st with at_ := st.at_ + 1 })) := x_mulI (by omega) (by omega)
          have hab : 0 ≤ ab * manyOf v := Int.mul_nonneg a0 (by omega)
          have ih := fun h6 => sp__law_wrong N x (ab * manyOf v) { st with at_ := st.at_ + 1 } n (s.put n (wrO { st with at_ := st.at_ + 1 })) hx (by omega) (by omega) hab h6 hi' g1
          have ef : foldW (wrongF N (ab * manyOf v)) { st with at_ := st.at_ + 1 } [x] = wrongF N (ab * manyOf v) { st with at_ := st.at_ + 1 } x := by
            rw [foldW]
            cases wrongF N (ab * manyOf v) { st with at_ := st.at_ + 1 } x with
            | mk o s1 => cases o <;> rfl
          rw [ef]
          revert e mu ih
          generalize manyOf v = i at *
          subst hv
          intro e mu ih
          by_cases c : 60 < ab * i
          · simp [b__law_wrong, i0, e, w0, ansO, q1, q2, mu, c]
          · simp [b__law_wrong, i0, e, w0, ansO, q1, q2, mu, c, ih (by omega)]
        · rw [if_neg tm]
          have q1 : MP.eqV false (.p (.str (tagD v))) (.p (.str "kind")) (s.put n (wrO { st with at_ := st.at_ + 1 })) = .ok (.p (.bl false)) (s.put n (wrO { st with at_ := st.at_ + 1 })) := by rw [x_eqS hw k_kind, decide_eq_false tk]
          have q2 : MP.eqV false (.p (.str (tagD v))) (.p (.str "many")) (s.put n (wrO { st with at_ := st.at_ + 1 })) = .ok (.p (.bl false)) (s.put n (wrO { st with at_ := st.at_ + 1 })) := by rw [x_eqS hw k_many, decide_eq_false tm]
          have w2 : storeV (.o n) (.p (.int 2)) (.p (.int ((st.joints : Int) + 1))) (s.put n (wrO { st with at_ := st.at_ + 1 })) = .ok () (s.put n (wrO { st with at_ := st.at_ + 1, joints := st.joints + 1 })) := by
            have := wr_st2 g1 (k := st.joints + 1)
            rw [put_put] at this
            exact this
          have g2 : (s.put n (wrO { st with at_ := st.at_ + 1, joints := st.joints + 1 })).h[n]? = some (some (wrO { st with at_ := st.at_ + 1, joints := st.joints + 1 })) := put_get hlt
          have i3 := wr_ix2 g2
          by_cases c : 8 ≤ st.joints + 1
          · rw [if_pos c]
            have c' : (st.joints : Int) + 1 = 8 := by have := hi.2.1; omega
            revert e q1 q2
            generalize tagD v = w at *
            subst hd
            intro e q1 q2
            simp at i2 i3
            rw [c'] at w2 i3
            simp [b__law_wrong, i0, e, w0, ansO, q1, q2, i2, w2, i3, c']
          · rw [if_neg c]
            have c' : ¬ (st.joints : Int) + 1 = 8 := by omega
            have hi2 : Inv { st with at_ := st.at_ + 1, joints := st.joints + 1 } := ⟨hi.1, by show st.joints + 1 ≤ 7; omega, hi.2.2⟩
            obtain ⟨q5', q6', lp⟩ := wr_loop (N := N) (n := n) (ab := ab) (L := ps.map MV.p) (f := wrongF N ab) (q0 := some (.p v)) (q3 := some (.p (.int st.at_))) (q4 := some (.p (.tup ps))) ps { st with at_ := st.at_ + 1, joints := st.joints + 1 } (s.put n (wrO { st with at_ := st.at_ + 1, joints := st.joints + 1 })) none none
              (fun p hp' st s' => wrong_inv N ab p st s' (okL_mem hps hp')) (fun p hp' st s h h' => sp__law_wrong N p ab st n s (okL_mem hps hp') (by have := hht p hp'; omega) (by have := hht p hp'; omega) a0 a1 h h') hi2 g2
            revert e q1 q2 lp
            generalize tagD v = w at *
            subst hd
            intro e q1 q2 lp
            simp at i2 i3
            simp [b__law_wrong, i0, e, w0, q1, q2, i2, w2, i3, c', itemsV]
            rw [lp]
            cases (foldW (wrongF N ab) { st with at_ := st.at_ + 1, joints := st.joints + 1 } ps).1 <;> simp [ansO]
end K11

/-! ## K11qe -/
set_option Elab.async false
set_option linter.all false
set_option maxRecDepth 100000
set_option maxHeartbeats 4000000
namespace K11
open PySem PySem.Spec PyProof.Rows L2 AK MP
def namesV : Nat → PV → List Str
  | 0, _ => []
  | n + 1, v => match partsD v with
    | none => []
    | some ps => if tagD v = "kind" then [nameOf v] else ps.flatMap (namesV n)
def okF : Nat → PV → Prop
  | 0, _ => False
  | n + 1, v => ∃ ps, partsD v = some ps ∧ ∀ p ∈ ps, okF n p
theorem parts_node {d : PV} {ps : List PV} (h : partsD d = some ps) (h1 : tagD d ≠ "kind") (h2 : tagD d ≠ "many") : d = .tup [.str (tagD d), .tup ps] := by
  obtain ⟨ds, e⟩ := parts_tag h
  have h3 : (if tagD d = "and" ∨ tagD d = "or" then nodeParts ds else none) = some ps := by
    rw [e] at h
    have h' : (if tagD d = "kind" then kindParts ds else if tagD d = "many" then manyParts ds else if tagD d = "and" ∨ tagD d = "or" then nodeParts ds else none) = some ps := h
    rw [if_neg h1, if_neg h2] at h'
    exact h'
  split at h3
  · unfold nodeParts at h3
    split at h3
    · split at h3
      · cases h3; exact e
      · cases h3
    · cases h3
  · cases h3
theorem flat_len {f : PV → List Str} : ∀ {ps : List PV}, (∀ p ∈ ps, (f p).length ≤ szD p) → (ps.flatMap f).length ≤ szL ps
  | [], _ => Nat.le_refl _
  | p :: ps, h => by
    rw [List.flatMap_cons, List.length_append, szL]
    have := h p List.mem_cons_self
    have := flat_len (f := f) (ps := ps) fun q hq => h q (List.mem_cons_of_mem _ hq)
    omega
theorem names_len : ∀ (N : Nat) (v : PV), (namesV N v).length ≤ szD v
  | 0, v => Nat.zero_le _
  | N + 1, v => by
    rw [namesV]
    cases hp : partsD v with
    | none => exact Nat.zero_le _
    | some ps =>
      simp only []
      split
      · have := szD_pos v; rw [List.length_singleton]; omega
      · have := parts_sz hp
        have := flat_len (f := namesV N) (ps := ps) fun p _ => names_len N p
        omega
theorem flat_map {f : PV → List Str} : ∀ (ps : List PV), ps.flatMap (fun p => (f p).map PV.str) = (ps.flatMap f).map PV.str
  | [] => rfl
  | p :: ps => by rw [List.flatMap_cons, List.flatMap_cons, List.map_append, flat_map ps]
theorem szL_mem : ∀ {ps : List PV} {p : PV}, p ∈ ps → szD p ≤ szL ps
  | a :: t, p, h => by
    rw [szL]
    rcases List.mem_cons.mp h with rfl | h
    · omega
    · have := szL_mem h; omega
theorem sp_names_in : ∀ (N : Nat) (v : PV) (s : S), okP v = true → okF N v → szD v ≤ 10000 → m_names_in N [.p v] s = .ok (.p (.lst ((namesV N v).map PV.str))) s
  | 0, v, s, _, h, _ => h.elim
  | N + 1, v, s, ho, ⟨ps, hp, hf⟩, hs => by
    show defM 1 3 (b_names_in (m_names_in N)) [.p v] s = _
    rw [x_defM, namesV, hp]
    have hps := parts_ok hp ho
    have hsz := parts_sz hp
    obtain ⟨ds, hd⟩ := parts_tag hp
    have hw : PyData.strOk (tagD v) = true := by rw [hd, okP, okL, Bool.and_eq_true] at ho; exact strOk_of ho.1
    simp only []
    by_cases tk : tagD v = "kind"
    · rw [if_pos tk]
      obtain ⟨hv, hnm⟩ := parts_kind hp tk
      have q1 : MP.eqV false (.p (.str "kind")) (.p (.str "kind")) s = .ok (.p (.bl true)) s := by rw [x_eqS k_kind k_kind]; simp
      revert hv
      generalize nameOf v = z
      intro hv
      subst hv
      simp [b_names_in, q1]
    · rw [if_neg tk]
      by_cases tm : tagD v = "many"
      · obtain ⟨x, hv, rfl, m2, m60⟩ := parts_many hp tm
        have hx : okP x = true := okL_mem hps List.mem_cons_self
        have ih := sp_names_in N x s hx (hf x List.mem_cons_self) (by rw [szL, szL] at hsz; omega)
        have q1 : MP.eqV false (.p (.str "many")) (.p (.str "kind")) s = .ok (.p (.bl false)) s := by rw [x_eqS k_many k_kind]; simp; decide +kernel
        have q2 : MP.eqV false (.p (.str "many")) (.p (.str "many")) s = .ok (.p (.bl true)) s := by rw [x_eqS k_many k_many]; simp
        revert hv
        generalize manyOf v = i
        intro hv
        subst hv
        simp [b_names_in, q1, q2, ih]
      · have hv := parts_node hp tk tm
        have q1 : MP.eqV false (.p (.str (tagD v))) (.p (.str "kind")) s = .ok (.p (.bl false)) s := by rw [x_eqS hw k_kind, decide_eq_false tk]
        have q2 : MP.eqV false (.p (.str (tagD v))) (.p (.str "many")) s = .ok (.p (.bl false)) s := by rw [x_eqS hw k_many, decide_eq_false tm]
        have hlen := flat_len (f := namesV N) (ps := ps) fun p _ => names_len N p
        revert hv q1 q2
        generalize tagD v = w at *
        intro hv q1 q2
        subst hv
        have hc : lc2I ⟨ps.map MV.p, none⟩ (nameT 1) yesT (iterE (callE (m_names_in N) (consE (var 1) nilE))) [2] (nameT 2) yesT (var 2) [some (.p (.tup [.str w, .tup ps])), none, none] (fun acc s => if acc.length ≤ 16777216 then mkLc acc s else .no) (ps.map MV.p) [] s = .ok (.p (.lst (ps.flatMap fun p => (namesV N p).map PV.str))) s := by
          refine lc2_list (L := ps) (g := MV.p) (fun p => (namesV N p).map PV.str) (by rw [flat_map, List.length_map]; omega) fun p hp' => ⟨_, rfl, ?_, fun b hb => ⟨_, rfl, rfl⟩⟩
          have ih := sp_names_in N p s (okL_mem hps hp') (hf p hp') (by have := szL_mem hp'; omega)
          simp [ih, itemsV]
        rw [flat_map] at hc
        simp [b_names_in, q1, q2, itemsV, wipeE]
        rw [hc]
        simp
theorem sorted_strs {zs : List Str} {s : S} (h : zs.length < 64) : sortedV [.p (.lst (zs.map PV.str))] s = .ok (.p (.lst ((sortS zs).map PV.str))) s := by
  cases zs with
  | nil =>
    have e0 : sortI [] = [] := by simp [sortI]
    have e1 : sortS [] = [] := by simp [sortS]
    rw [e1]
    show (Res.ok (MV.p (.lst ((sortI []).map PV.int))) s) = _
    rw [e0]
    rfl
  | cons z t =>
    unfold sortedV one
    have e1 : seqL s (.p (.lst ((z :: t).map PV.str))) = some ((z :: t).map PV.str) := rfl
    have e2 : asInts ((z :: t).map PV.str) = none := rfl
    simp only []
    rw [e1]
    simp only []
    rw [e2]
    simp only []
    rw [asStrs_map]
    simp only []
    rw [if_pos h]
@[simp] theorem x_tupL {xs : List PV} {s : S} : tupV [.p (.lst xs)] s = .ok (.p (.tup xs)) s := rfl
theorem sp_kinds_of {v : PV} {s : S} (ho : okP v = true) (hf : okF 61 v) (hs : szD v ≤ 10000) (hl : (namesV 61 v).length < 64) : m_kinds_of [.p v] s = .ok (.p (.tup ((sortS (namesV 61 v)).map PV.str))) s := by
  unfold m_kinds_of
  rw [x_defM]
  simp [b_kinds_of, sp_names_in 61 v s ho hf hs, sorted_strs hl]
end K11

/-! ## K11qf -/
set_option Elab.async false
set_option linter.all false
set_option maxRecDepth 100000
set_option maxHeartbeats 4000000
namespace K11
open PySem PySem.Spec PyProof.Rows L2 AK MP
theorem fold_names {n : Nat} {f : Sn → PV → Option Nat × Sn} : ∀ {ps : List PV} {st s' : Sn}, (∀ p ∈ ps, ∀ st s', f st p = (none, s') → okF n p ∧ s'.seen = st.seen ++ namesV n p) → foldW f st ps = (none, s') → (∀ p ∈ ps, okF n p) ∧ s'.seen = st.seen ++ ps.flatMap (namesV n)
  | [], st, s', _, e => by rw [foldW] at e; cases e; exact ⟨fun p hp => absurd hp List.not_mem_nil, by simp⟩
  | p :: ps, st, s', k, e => by
    rw [foldW] at e
    cases ef : f st p with
    | mk o s1 =>
      rw [ef] at e
      cases o with
      | some i => cases e
      | none =>
        obtain ⟨k1, k2⟩ := k p List.mem_cons_self st s1 ef
        obtain ⟨i1, i2⟩ := fold_names (fun q hq => k q (List.mem_cons_of_mem _ hq)) e
        refine ⟨fun q hq => ?_, by rw [i2, k2, List.flatMap_cons, List.append_assoc]⟩
        rcases List.mem_cons.mp hq with rfl | hq
        · exact k1
        · exact i1 q hq
theorem wrong_names : ∀ (N : Nat) (ab : Int) (v : PV) (st s' : Sn), htD v < N → wrongF N ab st v = (none, s') → okF N v ∧ s'.seen = st.seen ++ namesV N v
  | 0, ab, v, st, s', h, e => absurd h (Nat.not_lt_zero _)
  | N + 1, ab, v, st, s', h, e => by
    rw [wrongF] at e
    cases hp : partsD v with
    | none => rw [hp] at e; cases e
    | some ps =>
      rw [hp] at e
      have hh := parts_ht hp
      simp only [] at e
      rw [namesV, hp]
      simp only []
      split at e
      · rename_i ht
        rw [if_pos ht]
        split at e
        · cases e
        · cases e
          obtain rfl := kind_parts hp ht
          exact ⟨⟨[], hp, fun p hp => absurd hp List.not_mem_nil⟩, rfl⟩
      · rename_i ht
        rw [if_neg ht]
        split at e
        · split at e
          · cases e
          · obtain ⟨i1, i2⟩ := fold_names (n := N) (fun p hp' st s' => wrong_names N _ p st s' (by have := hh p hp'; omega)) e
            exact ⟨⟨ps, hp, i1⟩, i2⟩
        · split at e
          · cases e
          · obtain ⟨i1, i2⟩ := fold_names (n := N) (fun p hp' st s' => wrong_names N _ p st s' (by have := hh p hp'; omega)) e
            exact ⟨⟨ps, hp, i1⟩, i2⟩
theorem fold_same {f f' : Sn → PV → Option Nat × Sn} : ∀ {ps : List PV} {st : Sn}, (∀ p ∈ ps, ∀ st, f st p = f' st p) → foldW f st ps = foldW f' st ps
  | [], _, _ => by rw [foldW, foldW]
  | p :: ps, st, h => by
    rw [foldW, foldW, h p List.mem_cons_self]
    cases f' st p with
    | mk o s1 =>
      cases o with
      | some i => rfl
      | none => exact fold_same fun q hq => h q (List.mem_cons_of_mem _ hq)
theorem wrong_fuel : ∀ (N M : Nat) (ab : Int) (v : PV) (st : Sn), htD v < N → htD v < M → wrongF N ab st v = wrongF M ab st v
  | 0, M, ab, v, st, h, _ => absurd h (Nat.not_lt_zero _)
  | N + 1, 0, ab, v, st, _, h => absurd h (Nat.not_lt_zero _)
  | N + 1, M + 1, ab, v, st, h, h' => by
    rw [wrongF, wrongF]
    cases hp : partsD v with
    | none => rfl
    | some ps =>
      have hh := parts_ht hp
      simp only []
      have k : ∀ ab st, foldW (wrongF N ab) st ps = foldW (wrongF M ab) st ps := fun ab st => fold_same fun p hp' st => wrong_fuel N M ab p st (by have := hh p hp'; omega) (by have := hh p hp'; omega)
      rw [k, k]
theorem eqv_self {x : PV} (h : PV.isD 60 x = true) : x.eqv x = true := PySem.SeqAt.eqv_refl _ (PV.isD_dat h).1
theorem x_ne_self {x : PV} {s : S} (h : PV.isD 60 x = true) : eqV true (.p x) (.p x) s = .ok (.p (.bl false)) s := by rw [x_ne h h, eqv_self h]; rfl
theorem x_eq_self {x : PV} {s : S} (h : PV.isD 60 x = true) : eqV false (.p x) (.p x) s = .ok (.p (.bl true)) s := by rw [x_eq h h, eqv_self h]
theorem sp_check {v : PV} {s : S} (ho : okP v = true) (hs : szD v ≤ 2900) : m_check_formula [.p v] s = (match wrongV v with
    | none => .ok (.p .non) s
    | some i => .exc "InvalidFormula" "at" (.int (i : Nat)) s) := by cases s; exact sp_check_formula ho hs
/-- what is heard of the check -/
def heardV (v : PV) : PV := match wrongV v with
  | none => .tup [.str "told", .non]
  | some i => .tup [.str "formula", .int (i : Nat)]
theorem sp__law_heard {v : PV} {s : S} (ho : okP v = true) (hs : szD v ≤ 2900) : m__law_heard [.p v] s = .ok (.p (heardV v)) s := by
  unfold m__law_heard heardV
  rw [x_defM]
  have e := sp_check (s := s) ho hs
  cases hw : wrongV v with
  | none =>
    rw [hw] at e
    simp [b__law_heard, tryAsS, e]
  | some i =>
    rw [hw] at e
    simp [b__law_heard, tryAsS, e, dec_InvalidFormula, unset, isX, ix_InvalidNumber, ix_InvalidText, ix_Refused, ix_PoolError, ix_ValueError, fldX]
end K11

/-! ## K11qg -/
set_option Elab.async false
set_option linter.all false
set_option maxRecDepth 100000
set_option maxHeartbeats 4000000
namespace K11
open PySem PySem.Spec PyProof.Rows L2 AK MP
theorem isD_strs {n : Nat} {zs : List Str} (h : ∀ z ∈ zs, PyData.strOk z = true) : PV.isD (n + 1) (.tup (zs.map PV.str)) = true := by
  show ((zs.map PV.str).all (PV.isD n)) = true
  rw [List.all_map]
  exact List.all_eq_true.mpr fun z hz => isD_strE.trans (h z hz)
@[simp] theorem x_callK {n nk np : Nat} {m : DefV} {gM : List MV → List MV → List MV} {ma mk : E (List MV)} {ρ : MP.Env} {s : S} : callK n nk np m gM ma mk ρ s = (ma ρ s).bind fun as s1 => (mk ρ s1).bind fun bs s2 => if as.length = n ∧ bs.length = nk ∧ (gM as bs).length = np then m (gM as bs) s2 else .no := rfl
theorem selI0 {x : MV} : selI [0] ([] ++ [x]) = [x] := rfl
theorem sp__law_right {v : PV} {s : S} (ho : okP v = true) (hd : htD v ≤ 60) (hs : szD v ≤ 2900) : m__law_right [.p v] s = .ok (.p (.bl true)) s := by
  obtain ⟨g, h⟩ := s
  have r0 := x_repr (s := (⟨g, h⟩ : S)) ho hd hs
  have r1 : reprV [.p v] (wS g h [some (wrO ⟨0, [], 0⟩)]) = .ok (.p (.str (showP v))) (wS g h [some (wrO ⟨0, [], 0⟩)]) := x_repr ho hd hs
  have hi0 : Inv ⟨0, [], 0⟩ := ⟨by decide, by decide, fun z hz => absurd hz List.not_mem_nil⟩
  have hw := sp__law_wrong 61 v 1 ⟨0, [], 0⟩ h.length (wS g h [some (wrO ⟨0, [], 0⟩)]) ho (by omega) hd (by decide) (by decide) hi0 (by simp)
  have hf : (wrongF 61 1 ⟨0, [], 0⟩ v).1 = wrongV v := by unfold wrongV; rw [wrong_fuel 61 (htD v + 1) 1 v ⟨0, [], 0⟩ (by omega) (by omega)]
  rw [hf, wS_put0] at hw
  cases hr : wrongF 61 1 ⟨0, [], 0⟩ v with
  | mk o st =>
    rw [hr] at hf hw
    have hf' : o = wrongV v := hf
    have hh := sp__law_heard (s := wS g h [some (wrO st)]) ho hs
    have r2 := x_repr (s := wS g h [some (wrO st)]) ho hd hs
    have w0 : wrO ⟨0, [], 0⟩ = .lst [.p (.int 0), .p (.lst []), .p (.int 0)] := rfl
    rw [w0] at hw r1
    cases o with
    | some i =>
      have hv : wrongV v = some i := hf'.symm
      have he : heardV v = .tup [.str "formula", .int (i : Nat)] := by unfold heardV; rw [hv]
      rw [he] at hh
      rw [hv] at hw
      have q1 : MP.eqV true (.p (.tup [.str "formula", .int (i : Nat)])) (.p (.tup [.str "formula", .int (i : Nat)])) (wS g h [some (wrO st)]) = .ok (.p (.bl false)) (wS g h [some (wrO st)]) := x_ne_self (by simp [PV.isD, show PyData.strOk "formula" = true by decide +kernel])
      unfold m__law_right
      rw [x_defM]
      simp [b__law_right, r1, hw, ansO, hh, q1, r2, x_neZ]
    | none =>
      have hv : wrongV v = none := hf'.symm
      have he : heardV v = .tup [.str "told", .non] := by unfold heardV; rw [hv]
      rw [he] at hh
      rw [hv] at hw
      obtain ⟨hok, hse⟩ := wrong_names 61 1 v ⟨0, [], 0⟩ st (by omega) hr
      have hi := wrong_inv 61 1 v ⟨0, [], 0⟩ st ho hi0 hr
      have hse' : st.seen = namesV 61 v := by rw [hse]; rfl
      have hl : (namesV 61 v).length < 64 := by rw [← hse']; have := hi.1; omega
      have kk := sp_kinds_of (s := wS g h [some (wrO st)]) ho hok (by omega) hl
      have dt : PV.isD 60 (.tup ((sortS (namesV 61 v)).map PV.str)) = true := isD_strs fun z hz => hi.2.2 z (by rw [hse']; exact (sortS_perm _).mem_iff.mp hz)
      have q1 : MP.eqV true (.p (.tup [.str "told", .non])) (.p (.tup [.str "told", .non])) (wS g h [some (wrO st)]) = .ok (.p (.bl false)) (wS g h [some (wrO st)]) := x_ne_self (by simp [PV.isD, show PyData.strOk "told" = true by decide +kernel])
      have q2 : MP.eqV false (.p (.tup ((sortS (namesV 61 v)).map PV.str))) (.p (.tup ((sortS (namesV 61 v)).map PV.str))) (wS g h [some (wrO st)]) = .ok (.p (.bl true)) (wS g h [some (wrO st)]) := x_eq_self dt
      have i1 : ixV (.o h.length) (.p (.int 1)) (wS g h [some (wrO st)]) = .ok (.p (.lst (st.seen.map PV.str))) (wS g h [some (wrO st)]) := wr_ix1 (by simp)
      rw [hse'] at i1
      have so := sorted_strs (s := wS g h [some (wrO st)]) hl
      have ck := sp_check (s := wS g h [some (wrO st)]) ho hs
      rw [hv] at ck
      unfold m__law_right
      rw [x_defM]
      simp [b__law_right, r1, hw, ansO, hh, q1, r2, x_neZ, kk, q2, i1, so, ck, selI]
end K11

/-! ## MDr -/
set_option Elab.async false
set_option linter.all false
set_option maxRecDepth 100000
set_option maxHeartbeats 2000000
/-! MP: programs that draw; loops by what stays true -/
namespace MP
open PySem PySem.Spec PyProof.Rows L2 AK
/-- the state with another source -/
def S.dr (s : S) (r : Rn) : S := { s with g := some r }
@[simp] theorem dr_h {s : S} {r : Rn} : (s.dr r).h = s.h := rfl
@[simp] theorem dr_g {s : S} {r : Rn} : (s.dr r).g = some r := rfl
@[simp] theorem dr_dr {s : S} {r r' : Rn} : (s.dr r).dr r' = s.dr r' := rfl
@[simp] theorem dr_back {s : S} {r r' : Rn} : (s.dr r).back (s.dr r') = s.dr r' := S.back_g (s := s.dr r) (g := some r')
@[simp] theorem dr_wS {g : Option Rn} {h t : List (Option MO)} {r : Rn} : (wS g h t).dr r = wS (some r) h t := rfl
@[simp] theorem dr_back2 {s : S} {r r' : Rn} {t : List (Option MO)} : (s.dr r).back (wS (some r') s.h t) = s.dr r' := back_app (s := s.dr r) (g := some r') (t := t)
theorem dr_eq {s : S} {r : Rn} : s.dr r = ⟨some r, s.h⟩ := rfl
theorem draw_ex (s : S) (r : Rn) {m : Int} (h0 : 0 < m) (h1 : m < 2 ^ 100) : ∃ (k : Nat) (r' : Rn), (k : Int) < m ∧ drawV [.g, .p (.int m)] (s.dr r) = .ok (.p (.int (k : Nat))) (s.dr r') := by
  obtain ⟨a, b⟩ := r.draw_lt h0
  obtain ⟨k, hk⟩ := Int.eq_ofNat_of_zero_le a
  refine ⟨k, (r.draw m).2, by omega, ?_⟩
  unfold drawV
  simp only [dr_g]
  rw [if_pos ⟨h0, h1⟩, hk]
  rfl
/-- a comprehension whose items are drawn -/
theorem lc_g {L : List MV} {t : TM} {me : E MV} {ρ : Env} {fin : List MV → S → Res MV} {s : S} (Pr : PV → Prop) : ∀ (xs : List MV) (acc : List MV) (r : Rn), (∀ x ∈ xs, ∀ r, ∃ ρ1, t x ρ (s.dr r) = .ok ρ1 (s.dr r) ∧ ∃ (y : PV) (r' : Rn), Pr y ∧ me ρ1 (s.dr r) = .ok (.p y) (s.dr r')) →
    ∃ (ys : List PV) (r' : Rn), ys.length = xs.length ∧ (∀ y ∈ ys, Pr y) ∧ lcI ⟨L, none⟩ t yesT me ρ (fun _ => true) fin xs acc (s.dr r) = fin (acc ++ ys.map MV.p) (s.dr r')
  | [], acc, r, _ => ⟨[], r, rfl, fun y h => absurd h List.not_mem_nil, by rw [List.map_nil, List.append_nil]; unfold lcI; exact if_pos rfl⟩
  | x :: xs, acc, r, h => by
    obtain ⟨ρ1, h1, y, r1, hy, h2⟩ := h x List.mem_cons_self r
    obtain ⟨ys, r2, k1, k2, k3⟩ := lc_g (L := L) (t := t) (me := me) (ρ := ρ) (fin := fin) (s := s) Pr xs (acc ++ [MV.p y]) r1 fun z hz => h z (List.mem_cons_of_mem _ hz)
    refine ⟨y :: ys, r2, by rw [List.length_cons, List.length_cons, k1], fun z hz => ?_, ?_⟩
    · rcases List.mem_cons.mp hz with rfl | hz
      · exact hy
      · exact k2 z hz
    · rw [List.append_assoc] at k3
      unfold lcI
      have e : Items.chk ⟨L, none⟩ (s.dr r) = true := rfl
      rw [if_pos e, h1]
      show (if true = true then (me ρ1 (s.dr r)).bindN fun v s3 => if true = true then lcI ⟨L, none⟩ t yesT me ρ (fun _ => true) fin xs (acc ++ [v]) s3 else .no else lcI ⟨L, none⟩ t yesT me ρ (fun _ => true) fin xs acc (s.dr r)) = _
      rw [if_pos rfl, h2]
      exact k3
/-- a loop that goes to its end -/
theorem for_inv {L : List MV} {i : Nat} {b : ST} (I : Nat → Env → S → Prop) : ∀ (xs : List MV) (n : Nat) (ρ : Env) (s : S), (∀ x ∈ xs, ∀ n ρ s, I n ρ s → ∃ ρ' s', b (ρ.set i (some x)) s = .nx ρ' s' ∧ I (n + 1) ρ' s') → I n ρ s → ∃ ρ' s', forI ⟨L, none⟩ (nameT i) b xs ρ s = .nx ρ' s' ∧ I (n + xs.length) ρ' s'
  | [], n, ρ, s, _, h => ⟨ρ, s, x_for0, h⟩
  | x :: xs, n, ρ, s, k, h => by
    obtain ⟨ρ1, s1, e1, h1⟩ := k x List.mem_cons_self n ρ s h
    obtain ⟨ρ2, s2, e2, h2⟩ := for_inv I xs (n + 1) ρ1 s1 (fun y hy => k y (List.mem_cons_of_mem _ hy)) h1
    refine ⟨ρ2, s2, ?_, by rw [List.length_cons]; rw [show n + (xs.length + 1) = n + 1 + xs.length by omega]; exact h2⟩
    rw [x_forN, e1]
    exact e2
@[simp] theorem x_rngE1 {m : E (List MV)} {ρ : Env} {s : S} : rngE1 m ρ s = (m ρ s).bind fun a s1 => rngV1 a s1 := rfl
@[simp] theorem x_rngE2 {m : E (List MV)} {ρ : Env} {s : S} : rngE2 m ρ s = (m ρ s).bind fun a s1 => rngV2 a s1 := rfl
theorem x_rng1 {k : Nat} {s : S} (h : k ≤ 16777216) : rngV1 [.p (.int (k : Nat))] s = .ok ⟨rngL 0 k, none⟩ s := by
  unfold rngV1
  have e : (okR (k : Int) && decide ((k : Int).toNat ≤ 16777216)) = true := by
    unfold okR
    rw [decide_eq_true (by omega), decide_eq_true (by omega), decide_eq_true (by rw [Int.toNat_natCast]; exact h)]; rfl
  simp only []
  rw [if_pos e, Int.toNat_natCast]
theorem rng_len {lo : Int} {n : Nat} : (rngL lo n).length = n := by unfold rngL; simp
theorem rng_mem {n : Nat} {x : MV} (h : x ∈ rngL 0 n) : ∃ k : Nat, k < n ∧ x = .p (.int (k : Nat)) := by
  unfold rngL at h
  obtain ⟨k, hk, rfl⟩ := List.mem_map.mp h
  exact ⟨k, List.mem_range.mp hk, by rw [Int.zero_add]⟩
theorem x_ixLn {xs : List PV} {k : Nat} {y : PV} {s : S} (h : xs[k]? = some y) : ixV (.p (.lst xs)) (.p (.int (k : Nat))) s = .ok (.p y) s := x_ixL (atI_nat h)
/-- one letter of a text -/
theorem x_ixSn {z : Str} {k : Nat} {c : Nat} {s : S} (h : z.cps.toList[k]? = some c) (hl : z.length ≤ 16777216) : ixV (.p (.str z)) (.p (.int (k : Nat))) s = .ok (.p (.str ⟨#[c]⟩)) s := by
  unfold ixV
  simp only []
  rw [atI_nat h]
  simp only []
  rw [if_pos hl]
end MP

/-! ## K11qh -/
set_option Elab.async false
set_option linter.all false
set_option maxRecDepth 100000
set_option maxHeartbeats 4000000
namespace K11
open PySem PySem.Spec PyProof.Rows L2 AK MP
theorem pick_ex (s : S) (r : Rn) {xs : List PV} (h0 : xs ≠ []) (hl : xs.length ≤ 100000) : ∃ x r', x ∈ xs ∧ m__law_pick [.g, .p (.lst xs)] (s.dr r) = .ok (.p x) (s.dr r') := by
  have hp : 0 < xs.length := List.length_pos_iff.mpr h0
  obtain ⟨k, r', hk, e⟩ := draw_ex s r (m := (xs.length : Int)) (by omega) (by omega)
  have hk' : k < xs.length := by omega
  refine ⟨xs[k], r', List.getElem_mem hk', ?_⟩
  unfold m__law_pick
  rw [x_defM]
  simp [b__law_pick, e, x_ixLn (List.getElem?_eq_getElem hk')]
/-! letters -/
def ltrs (z : Str) : Prop := ∀ c ∈ z.cps.toList, c ∈ abcS.cps.toList
theorem abc26 : abcS.cps.toList.length = 26 := by decide +kernel
theorem abcLen : abcS.length = 26 := by decide +kernel
theorem letter_ex (s : S) (r : Rn) : ∃ (c : Nat) (r' : Rn), c ∈ abcS.cps.toList ∧ ∃ k : Nat, drawV [.g, .p (.int 26)] (s.dr r) = .ok (.p (.int (k : Nat))) (s.dr r') ∧ ∀ s2, ixV (.p (.str "abcdefghijklmnopqrstuvwxyz")) (.p (.int (k : Nat))) s2 = .ok (.p (.str ⟨#[c]⟩)) s2 := by
  obtain ⟨k, r', hk, e⟩ := draw_ex s r (m := 26) (by decide) (by decide)
  have hk' : k < abcS.cps.toList.length := by rw [abc26]; omega
  exact ⟨abcS.cps.toList[k], r', List.getElem_mem hk', k, e, fun s2 => x_ixSn (z := abcS) (List.getElem?_eq_getElem hk') (by rw [abcLen]; decide)⟩
theorem ltrs_app {a b : Str} (h1 : ltrs a) (h2 : ltrs b) : ltrs (a ++ b) := fun c hc => by
  have : c ∈ a.cps.toList ++ b.cps.toList := by
    have e : (a ++ b).cps.toList = a.cps.toList ++ b.cps.toList := Array.toList_append
    rw [← e]; exact hc
  rcases List.mem_append.mp this with h | h
  · exact h1 c h
  · exact h2 c h
theorem app_len {a b : Str} : (a ++ b).length = a.length + b.length := by
  show (a.cps ++ b.cps).size = _
  rw [Array.size_append]; rfl
theorem x_addS {a b : Str} {s : S} (h : a.length + b.length ≤ 1000) : addV (.p (.str a)) (.p (.str b)) s = .ok (.p (.str (a ++ b))) s := by
  show (if a.length + b.length ≤ sizeLine then _ else _) = _
  rw [if_pos (by rw [sizeLine_eq]; omega)]
theorem ltrs_name {z : Str} (h : ltrs z) (h1 : 1 ≤ z.length) (h5 : z.length ≤ 5) : nameS z = true := by
  unfold nameS
  rw [decide_eq_true h1, decide_eq_true h5]
  exact List.all_eq_true.mpr fun c hc => decide_eq_true (h c hc)
theorem ltrs_ok {z : Str} (h : ltrs z) : PyData.strOk z = true := by
  unfold PyData.strOk
  rw [Array.all_eq_true']
  intro c hc
  have h1 := h c (Array.mem_toList_iff.mpr hc)
  have h2 : ∀ c ∈ abcS.cps.toList, c < 0x110000 := by decide +kernel
  simpa using h2 c h1
def letP (y : PV) : Prop := ∃ c ∈ abcS.cps.toList, y = .str ⟨#[c]⟩
/-- the letters drawn, joined -/
theorem join_ltrs : ∀ (ys : List PV), (∀ y ∈ ys, letP y) → ∃ zs : List Str, ys = zs.map PV.str ∧ zs.length = ys.length ∧ (∀ z ∈ zs, z.length = 1 ∧ ltrs z)
  | [], _ => ⟨[], rfl, rfl, fun z h => absurd h List.not_mem_nil⟩
  | y :: ys, h => by
    obtain ⟨c, hc, rfl⟩ := h y List.mem_cons_self
    obtain ⟨zs, e, l, k⟩ := join_ltrs ys fun z hz => h z (List.mem_cons_of_mem _ hz)
    refine ⟨⟨#[c]⟩ :: zs, by rw [e]; rfl, by rw [List.length_cons, List.length_cons, l], fun z hz => ?_⟩
    rcases List.mem_cons.mp hz with rfl | hz
    · exact ⟨rfl, fun d hd => by
        have : d ∈ [c] := hd
        rw [List.mem_singleton.mp this]; exact hc⟩
    · exact k z hz
end K11

/-! ## K11qi -/
set_option Elab.async false
set_option linter.all false
set_option maxRecDepth 100000
set_option maxHeartbeats 4000000
namespace K11
open PySem PySem.Spec PyProof.Rows L2 AK MP
def good (z : Str) : Prop := ltrs z ∧ 1 ≤ z.length ∧ z.length ≤ 5
def ltr (c : Nat) : PV := .str ⟨#[c]⟩
theorem join_cs {cs : List Nat} (hl : cs.length ≤ 1000) {s : S} : joinV (.p (.str "")) (.p (.lst (cs.map ltr))) s = .ok (.p (.str ⟨cs.toArray⟩)) s := by
  have e1 : (seqA s (.p (.lst (cs.map ltr)))).bind asStrs = some (cs.map fun c => (⟨#[c]⟩ : Str)) := asStrs_mapP (F := fun c => (⟨#[c]⟩ : Str)) cs
  have e2 : Txt.join "" (cs.map fun c => (⟨#[c]⟩ : Str)) = ⟨cs.toArray⟩ := by
    show Builtin.Str.glued (Str.ofString "") _ = _
    rw [StrLaws.glued_eq_join]
    exact join_ones cs
  have e3 : ((cs.map fun c => (⟨#[c]⟩ : Str)).map (·.length)).sum + (cs.map fun c => (⟨#[c]⟩ : Str)).length * Str.length "" ≤ 16777216 := by
    rw [List.map_map, show Str.length "" = 0 from rfl, Nat.mul_zero]
    have : (cs.map ((fun z : Str => z.length) ∘ fun c => (⟨#[c]⟩ : Str))) = List.replicate cs.length 1 := List.eq_replicate_iff.mpr ⟨List.length_map _, fun b hb => by obtain ⟨y, hy, rfl⟩ := List.mem_map.mp hb; rfl⟩
    rw [this, List.sum_replicate_nat]
    omega
  unfold joinV
  simp only []
  rw [e1]
  simp only []
  rw [if_pos e3, e2]
theorem cs_of : ∀ (ys : List PV), (∀ y ∈ ys, letP y) → ∃ cs : List Nat, ys = cs.map ltr ∧ ∀ c ∈ cs, c ∈ abcS.cps.toList
  | [], _ => ⟨[], rfl, fun z h => absurd h List.not_mem_nil⟩
  | y :: ys, h => by
    obtain ⟨c, hc, rfl⟩ := h y List.mem_cons_self
    obtain ⟨cs, e, k⟩ := cs_of ys fun z hz => h z (List.mem_cons_of_mem _ hz)
    refine ⟨c :: cs, by rw [e]; rfl, fun z hz => ?_⟩
    rcases List.mem_cons.mp hz with rfl | hz
    · exact hc
    · exact k z hz
theorem x_str0 {k : Nat} {s : S} {c : Nat} (h : abcS.cps.toList[k]? = some c) : ixV (.p (.str "abcdefghijklmnopqrstuvwxyz")) (.p (.int (k : Nat))) s = .ok (.p (.str ⟨#[c]⟩)) s := x_ixSn (z := abcS) h (by rw [abcLen]; decide)
theorem cut3 {z : Str} (h : ltrs z) : ltrs (cutS z none (some 3)) ∧ (cutS z none (some 3)).length ≤ 3 := by
  refine ⟨fun c hc => h c ?_, cutS_len z 3⟩
  have hc' : c ∈ (z.cps.toList.drop (HT.sIx z.length 0 none)).take (HT.sIx z.length z.length (some 3) - HT.sIx z.length 0 none) := hc
  exact List.mem_of_mem_drop (List.mem_of_mem_take hc')
theorem good_ok {z : Str} (h : good z) : PyData.strOk z = true := ltrs_ok h.1
def fndO (zs : List Str) : Option MO := some (.lst ((zs.map PV.str).map MV.p))
theorem in_found {g : Option Rn} {h : List (Option MO)} {zs : List Str} {w : Str} (hz : ∀ z ∈ zs, good z) (hw : good w) : ∃ b, MP.inV false (.p (.str w)) (.o h.length) (wS g h [fndO zs]) = .ok (.p (.bl b)) (wS g h [fndO zs]) := by
  have e1 : flat (wS g h [fndO zs]) (.o h.length) = some (.lst (zs.map PV.str)) := by
    show Option.map PV.lst ((lstO (wS g h [fndO zs]).h[h.length]?).bind allP) = _
    rw [wS_get0]
    show Option.map PV.lst (allP ((zs.map PV.str).map MV.p)) = _
    rw [allP_map]
    rfl
  have e2 : PV.isD 60 (.lst (zs.map PV.str)) = true := by
    show ((zs.map PV.str).all (PV.isD 59)) = true
    rw [List.all_map]
    exact List.all_eq_true.mpr fun z hz' => isD_strE.trans (good_ok (hz z hz'))
  have e3 : PV.isD 60 (.str w) = true := isD_strE.trans (good_ok hw)
  refine ⟨(zs.map PV.str).any fun y => y.eqv (.str w), ?_⟩
  unfold MP.inV
  rw [e1]
  simp only [x_flat]
  rw [e2, e3]
  rfl
theorem a26 {k : Nat} (h : k < 26) : ∃ c, abcS.cps.toList[k]? = some c ∧ c ∈ abcS.cps.toList := by
  have hk : k < abcS.cps.toList.length := by rw [abc26]; exact h
  exact ⟨_, List.getElem?_eq_getElem hk, List.getElem_mem hk⟩
theorem ltr_one {c : Nat} (h : c ∈ abcS.cps.toList) : ltrs ⟨#[c]⟩ := fun d hd => by
  have : d ∈ [c] := hd
  rw [List.mem_singleton.mp this]; exact h
def nmEnv (n : Nat) (h : List (Option MO)) (fr : Str) (q5 q6 q7 : Option MV) : MP.Env := [some .g, some (.p (.int (n : Nat))), some (.p (.str "abcdefghijklmnopqrstuvwxyz")), some (.o h.length), some (.p (.str fr)), q5, q6, q7]
theorem nm_in {g : Option Rn} {h : List (Option MO)} {zs : List Str} {w fr : Str} {n k : Nat} {q5 : Option MV} (hz : ∀ z ∈ zs, good z) (hw : good w) (hk : k < 26) : ∃ w', good w' ∧ l__law_names_1 (nmEnv n h fr q5 (some (.p (.str w))) (some (.p (.int (k : Nat))))) (wS g h [fndO zs]) = .nx (nmEnv n h fr q5 (some (.p (.str w'))) (some (.p (.int (k : Nat))))) (wS g h [fndO zs]) := by
  obtain ⟨b, e⟩ := in_found (g := g) (h := h) hz hw
  cases b with
  | false =>
    refine ⟨w, hw, ?_⟩
    unfold l__law_names_1 nmEnv
    simp [e]
  | true =>
    obtain ⟨c0, i0, m0⟩ := a26 (k := 0) (by decide)
    obtain ⟨c1, i1, m1⟩ := a26 hk
    have hl := cut3 hw.1
    have s1 := x_slS (z := w) (lo := none) (hi := some 3) (s := wS g h [fndO zs]) (by have := hw.2.2; omega)
    have dv : divV (.p (.int (k : Nat))) (.p (.int 26)) (wS g h [fndO zs]) = .ok (.p (.int ((0 : Nat) : Int))) (wS g h [fndO zs]) := by
      unfold divV MP.intOp
      simp only []
      rw [if_pos (by decide), show (k : Int) / 26 = ((0 : Nat) : Int) by omega]
    have md : modV (.p (.int (k : Nat))) (.p (.int 26)) (wS g h [fndO zs]) = .ok (.p (.int (k : Nat))) (wS g h [fndO zs]) := by
      rw [x_modI (by decide), show (k : Int) % 26 = (k : Int) by omega]
    have j0 := x_str0 (s := wS g h [fndO zs]) i0
    have j1 := x_str0 (s := wS g h [fndO zs]) i1
    have l0 : (⟨#[c0]⟩ : Str).length = 1 := rfl
    have l1 : (⟨#[c1]⟩ : Str).length = 1 := rfl
    have a0 := x_addS (a := cutS w none (some 3)) (b := ⟨#[c0]⟩) (s := wS g h [fndO zs]) (by omega)
    have a1 := x_addS (a := cutS w none (some 3) ++ ⟨#[c0]⟩) (b := ⟨#[c1]⟩) (s := wS g h [fndO zs]) (by rw [app_len]; omega)
    refine ⟨cutS w none (some 3) ++ ⟨#[c0]⟩ ++ ⟨#[c1]⟩, ⟨ltrs_app (ltrs_app hl.1 (ltr_one m0)) (ltr_one m1), by rw [app_len, app_len]; omega, by rw [app_len, app_len]; omega⟩, ?_⟩
    unfold l__law_names_1 nmEnv
    simp at j0 dv
    simp [e, s1, dv, md, j0, j1, a0, a1]
theorem nm_loop {g : Option Rn} {h : List (Option MO)} {zs : List Str} {fr : Str} {n : Nat} {q5 : Option MV} {L : List MV} (hz : ∀ z ∈ zs, good z) : ∀ (xs : List MV) (w : Str) (q7 : Option MV), (∀ x ∈ xs, ∃ k : Nat, k < 26 ∧ x = .p (.int (k : Nat))) → good w →
    ∃ w' q7', good w' ∧ forI ⟨L, none⟩ (nameT 7) l__law_names_1 xs (nmEnv n h fr q5 (some (.p (.str w))) q7) (wS g h [fndO zs]) = .nx (nmEnv n h fr q5 (some (.p (.str w'))) q7') (wS g h [fndO zs])
  | [], w, q7, _, hw => ⟨w, q7, hw, x_for0⟩
  | x :: xs, w, q7, hx, hw => by
    obtain ⟨k, hk, rfl⟩ := hx x List.mem_cons_self
    obtain ⟨w1, hw1, e1⟩ := nm_in (g := g) (h := h) (fr := fr) (n := n) (q5 := q5) hz hw hk
    obtain ⟨w2, q2, hw2, e2⟩ := nm_loop (g := g) (h := h) (zs := zs) (fr := fr) (n := n) (q5 := q5) (L := L) hz xs w1 (some (.p (.int (k : Nat)))) (fun y hy => hx y (List.mem_cons_of_mem _ hy)) hw1
    refine ⟨w2, q2, hw2, ?_⟩
    rw [x_forN]
    show (l__law_names_1 (nmEnv n h fr q5 (some (.p (.str w))) (some (.p (.int (k : Nat))))) (wS g h [fndO zs])).turn _ = _
    rw [e1, x_turnnx, e2]
theorem nm_turn {r : Rn} {h : List (Option MO)} {zs : List Str} {fr : Str} {n : Nat} {q5 q6 q7 : Option MV} (hf : ltrs fr ∧ fr.length ≤ 2) (hn : n ≤ 8) (hl : zs.length ≤ 100) (hz : ∀ z ∈ zs, good z) : ∃ w r' q6' q7', good w ∧ l__law_names_2 (nmEnv n h fr q5 q6 q7) (wS (some r) h [fndO zs]) = .nx (nmEnv n h fr q5 q6' q7') (wS (some r') h [fndO (zs ++ [w])]) := by
  obtain ⟨k, r1, hk, e1⟩ := draw_ex (wS none h [fndO zs]) r (m := 3) (by decide) (by decide)
  simp only [dr_wS] at e1
  have hr1 := x_rng1 (k := 1 + k) (s := wS (some r1) h [fndO zs]) (by omega)
  obtain ⟨ys, r2, yl, yp, e2⟩ := lc_g (L := rngL 0 (1 + k)) (t := nameT 7) (me := MP.bin ixV (var 2) (callE drawV (consE (var 0) (consE (cst (.int 26)) nilE)))) (ρ := nmEnv n h fr q5 q6 none) (fin := mkLc) (s := wS none h [fndO zs]) letP (rngL 0 (1 + k)) [] r1 (fun x hx r => by
    obtain ⟨c, r', hc, j, d1, d2⟩ := letter_ex (wS none h [fndO zs]) r
    refine ⟨_, rfl, .str ⟨#[c]⟩, r', ⟨c, hc, rfl⟩, ?_⟩
    simp only [dr_wS] at d1 ⊢
    unfold nmEnv
    simp [d1, d2])
  simp only [dr_wS, List.nil_append] at e2
  obtain ⟨cs, rfl, hcs⟩ := cs_of ys yp
  have cl : cs.length = 1 + k := by rw [List.length_map] at yl; rw [yl, rng_len]
  have emk : mkLc ((cs.map ltr).map MV.p) (wS (some r2) h [fndO zs]) = .ok (.p (.lst (cs.map ltr))) (wS (some r2) h [fndO zs]) := by unfold mkLc; rw [allP_map]
  rw [emk] at e2
  have ej := join_cs (cs := cs) (by omega) (s := wS (some r2) h [fndO zs])
  have jl : (⟨cs.toArray⟩ : Str).length = 1 + k := by show cs.toArray.size = _; rw [List.size_toArray, cl]
  have jg : ltrs ⟨cs.toArray⟩ := fun c hc => hcs c hc
  have ea := x_addS (a := fr) (b := ⟨cs.toArray⟩) (s := wS (some r2) h [fndO zs]) (by rw [jl]; omega)
  have gw : good (fr ++ ⟨cs.toArray⟩) := ⟨ltrs_app hf.1 jg, by rw [app_len, jl]; omega, by rw [app_len, jl]; omega⟩
  have hr2 := x_rng1 (k := n + 1) (s := wS (some r2) h [fndO zs]) (by omega)
  obtain ⟨w', q7', gw', e3⟩ := nm_loop (g := some r2) (h := h) (zs := zs) (fr := fr) (n := n) (q5 := q5) (L := rngL 0 (n + 1)) hz (rngL 0 (n + 1)) (fr ++ ⟨cs.toArray⟩) q7 (fun x hx => by obtain ⟨j, hj, e⟩ := rng_mem hx; exact ⟨j, by omega, e⟩) gw
  have eapp := x_app (s := wS (some r2) h [fndO zs]) (n := h.length) (xs := (zs.map PV.str).map MV.p) (v := .p (.str w')) (by simp [fndO]) (by simp; omega)
  have eput : (wS (some r2) h [fndO zs]).put h.length (.lst ((zs.map PV.str).map MV.p ++ [.p (.str w')])) = wS (some r2) h [fndO (zs ++ [w'])] := by rw [wS_put0]; unfold fndO; rw [List.map_append, List.map_append]; rfl
  rw [eput] at eapp
  have eil : isLst (.o h.length) (wS (some r2) h [fndO zs]) = true := x_isLst (xs := (zs.map PV.str).map MV.p) (by simp [fndO])
  refine ⟨w', r2, some (.p (.str w')), q7', gw', ?_⟩
  unfold l__law_names_2
  unfold nmEnv at e2 e3 ⊢
  simp at hr1 hr2 e2
  simp -implicitDefEqProofs [e1, hr1, wipeE, e2, ej, ea, hr2, isStr]
  rw [e3]
  simp -implicitDefEqProofs [eil, eapp]
end K11

/-! ## K11qj -/
set_option Elab.async false
set_option linter.all false
set_option maxRecDepth 100000
set_option maxHeartbeats 4000000
namespace K11
open PySem PySem.Spec PyProof.Rows L2 AK MP
theorem nm_outer {h : List (Option MO)} {fr : Str} {n : Nat} {L : List MV} (hf : ltrs fr ∧ fr.length ≤ 2) (hn : n ≤ 8) : ∀ (xs : List MV) (zs : List Str) (r : Rn) (q5 q6 q7 : Option MV), zs.length + xs.length ≤ 100 → (∀ z ∈ zs, good z) →
    ∃ zs' r' q5' q6' q7', zs'.length = zs.length + xs.length ∧ (∀ z ∈ zs', good z) ∧ forI ⟨L, none⟩ (nameT 5) l__law_names_2 xs (nmEnv n h fr q5 q6 q7) (wS (some r) h [fndO zs]) = .nx (nmEnv n h fr q5' q6' q7') (wS (some r') h [fndO zs'])
  | [], zs, r, q5, q6, q7, _, hz => ⟨zs, r, q5, q6, q7, rfl, hz, x_for0⟩
  | x :: xs, zs, r, q5, q6, q7, hl, hz => by
    rw [List.length_cons] at hl
    obtain ⟨w, r1, p6, p7, gw, e1⟩ := nm_turn (r := r) (h := h) (zs := zs) (fr := fr) (n := n) (q5 := some x) (q6 := q6) (q7 := q7) hf hn (by omega) hz
    obtain ⟨zs', r2, a5, a6, a7, l2, g2, e2⟩ := nm_outer hf hn xs (zs ++ [w]) r1 (some x) p6 p7 (by rw [List.length_append, List.length_singleton]; omega) (fun z hz' => by
      rcases List.mem_append.mp hz' with h | h
      · exact hz z h
      · rw [List.mem_singleton.mp h]; exact gw)
    refine ⟨zs', r2, a5, a6, a7, by rw [l2, List.length_append, List.length_singleton, List.length_cons]; omega, g2, ?_⟩
    rw [x_forN]
    show (l__law_names_2 (nmEnv n h fr (some x) q6 q7) (wS (some r) h [fndO zs])).turn _ = _
    rw [e1, x_turnnx, e2]
theorem sorted_obj {g : Option Rn} {h : List (Option MO)} {zs : List Str} (hl : zs.length < 64) : sortedV [.o h.length] (wS g h [fndO zs]) = .ok (.p (.lst ((sortS zs).map PV.str))) (wS g h [fndO zs]) := by
  have e1 : seqL (wS g h [fndO zs]) (.o h.length) = some (zs.map PV.str) := by
    have e0 : flat (wS g h [fndO zs]) (.o h.length) = some (.lst (zs.map PV.str)) := by
      show Option.map PV.lst ((lstO (wS g h [fndO zs]).h[h.length]?).bind allP) = _
      rw [wS_get0]
      show Option.map PV.lst (allP ((zs.map PV.str).map MV.p)) = _
      rw [allP_map]
      rfl
    unfold seqL
    rw [e0]
  have e2 := sorted_strs (zs := zs) (s := wS g h [fndO zs]) hl
  unfold sortedV one at e2 ⊢
  simp only [] at e2 ⊢
  rw [e1]
  exact e2
theorem names_ex (s : S) (r : Rn) {n : Nat} (h1 : 1 ≤ n) (h8 : n ≤ 8) : ∃ (zs : List Str) (r' : Rn), zs.length = n ∧ (∀ z ∈ zs, good z) ∧ SrtS zs ∧ m__law_names [.g, .p (.int (n : Nat))] (s.dr r) = .ok (.p (.lst (zs.map PV.str))) (s.dr r') := by
  obtain ⟨g0, h⟩ := s
  obtain ⟨c1, r1, m1, k1, d1, i1⟩ := letter_ex (wS none h [fndO []]) r
  obtain ⟨c2, r2, m2, k2, d2, i2⟩ := letter_ex (wS none h [fndO []]) r1
  have hrep : repZ ⟨#[c2]⟩ 2 = (⟨#[c2]⟩ : Str) ++ ⟨#[c2]⟩ := rfl
  have emul : mulV mkLs (.p (.str ⟨#[c2]⟩)) (.p (.int 2)) (wS (some r2) h [fndO []]) = .ok (.p (.str ((⟨#[c2]⟩ : Str) ++ ⟨#[c2]⟩))) (wS (some r2) h [fndO []]) := by
    have hc : -1000 ≤ (2 : Int) ∧ (2 : Int) ≤ 1000 ∧ Str.length ⟨#[c2]⟩ ≤ 1000 := ⟨by decide, by decide, by show 1 ≤ 1000; decide⟩
    unfold mulV
    simp only []
    rw [if_pos hc, hrep]
  obtain ⟨fv, r3, hfv, ep⟩ := pick_ex (wS none h [fndO []]) r2 (xs := [.str "", .str "", .str ⟨#[c1]⟩, .str ((⟨#[c2]⟩ : Str) ++ ⟨#[c2]⟩)]) (by simp) (by simp)
  have hfr : ∃ fr : Str, fv = .str fr ∧ ltrs fr ∧ fr.length ≤ 2 := by
    have l0 : ltrs "" := fun c hc => by
      have : c ∈ ([] : List Nat) := hc
      exact absurd this List.not_mem_nil
    simp only [List.mem_cons, List.not_mem_nil, or_false] at hfv
    rcases hfv with h | h | h | h
    · exact ⟨_, h, l0, by decide⟩
    · exact ⟨_, h, l0, by decide⟩
    · exact ⟨_, h, ltr_one m1, by show 1 ≤ 2; decide⟩
    · exact ⟨_, h, ltrs_app (ltr_one m2) (ltr_one m2), by rw [app_len]; show 1 + 1 ≤ 2; decide⟩
  obtain ⟨fr, rfl, hf⟩ := hfr
  simp only [dr_wS] at d1 d2 ep
  obtain ⟨zs, r4, a5, a6, a7, hl, hz, eo⟩ := nm_outer (h := h) (fr := fr) (n := n) (L := rngL 0 n) hf h8 (rngL 0 n) [] r3 none none none (by rw [rng_len]; simp; omega) (fun z hz => absurd hz List.not_mem_nil)
  have hl' : zs.length = n := by rw [hl, rng_len]; simp
  have hr := x_rng1 (k := n) (s := wS (some r3) h [fndO []]) (by omega)
  have hs := sorted_obj (g := some r4) (h := h) (zs := zs) (by omega)
  have e0 : (fndO [] : Option MO) = some (.lst []) := rfl
  refine ⟨sortS zs, r4, by rw [(sortS_perm zs).length_eq]; exact hl', fun z hz' => hz z ((sortS_perm zs).mem_iff.mp hz'), sortS_srt zs, ?_⟩
  unfold m__law_names
  rw [x_defM]
  unfold nmEnv at eo
  rw [e0] at d1 d2 ep eo hr emul
  have i1' := i1 (wS (some r1) h [some (.lst [])])
  have i2' := i2 (wS (some r2) h [some (.lst [])])
  rw [dr_eq]
  simp -implicitDefEqProofs [b__law_names, d1, i1', d2, i2', emul, mkL, allP, ep, hr]
  rw [eo]
  simp -implicitDefEqProofs [hs, dr_eq]
end K11

/-! ## K11qk -/
set_option Elab.async false
set_option linter.all false
set_option maxRecDepth 100000
set_option maxHeartbeats 4000000
namespace K11
open PySem PySem.Spec PyProof.Rows L2 AK MP
def lsO (xs : List PV) : Option MO := some (.lst (xs.map MV.p))
theorem erase_map {α β : Type} {f : α → β} {A : List α} {k : Nat} : (A.map f).eraseIdx k = (A.eraseIdx k).map f := by
  rw [List.eraseIdx_eq_take_drop_succ, List.eraseIdx_eq_take_drop_succ, List.map_append, List.map_take, List.map_drop]
theorem perm_erase {α : Type} : ∀ {xs : List α} {k : Nat} {y : α}, xs[k]? = some y → (y :: xs.eraseIdx k).Perm xs
  | x :: xs, 0, y, h => by cases h; exact List.Perm.refl _
  | x :: xs, k + 1, y, h => by
    have ih := perm_erase (xs := xs) (k := k) (y := y) h
    rw [List.eraseIdx_cons_succ]
    exact (List.Perm.swap x y _).trans (ih.cons x)
def mxEnv (xs : List PV) (h : List (Option MO)) (q4 : Option MV) : MP.Env := [some .g, some (.p (.lst xs)), some (.o h.length), some (.o (h.length + 1)), q4]
theorem mx_turn {xs A B : List PV} {h : List (Option MO)} {r : Rn} {q4 : Option MV} (hA : A ≠ []) (hl : A.length ≤ 1000) (hB : B.length ≤ 1000) : ∃ (A' : List PV) (y : PV) (r' : Rn), (y :: A').Perm A ∧ l__law_mixed_1 (mxEnv xs h q4) (wS (some r) h [lsO A, lsO B]) = .nx (mxEnv xs h q4) (wS (some r') h [lsO A', lsO (B ++ [y])]) := by
  have hp : 0 < A.length := List.length_pos_iff.mpr hA
  obtain ⟨k, r1, hk, e1⟩ := draw_ex (wS none h [lsO A, lsO B]) r (m := (A.length : Int)) (by omega) (by omega)
  simp only [dr_wS] at e1
  have hk' : k < A.length := by omega
  have hy : A[k]? = some A[k] := List.getElem?_eq_getElem hk'
  have el : lenV [.o h.length] (wS (some r) h [lsO A, lsO B]) = .ok (.p (.int A.length)) (wS (some r) h [lsO A, lsO B]) := by
    have := x_lenO (s := wS (some r) h [lsO A, lsO B]) (n := h.length) (xs := A.map MV.p) (by simp [lsO])
    rw [List.length_map] at this; exact this
  have ep := x_popAt (s := wS (some r1) h [lsO A, lsO B]) (n := h.length) (xs := A.map MV.p) (v := .p A[k]) (i := (k : Int)) (by simp [lsO]) (by omega) (by omega) (by rw [Int.toNat_natCast, List.getElem?_map, hy]; rfl)
  have ep2 : (wS (some r1) h [lsO A, lsO B]).put h.length (.lst ((A.map MV.p).eraseIdx ((k : Int).toNat))) = wS (some r1) h [lsO (A.eraseIdx k), lsO B] := by
    rw [wS_put0, Int.toNat_natCast, erase_map]; rfl
  rw [ep2] at ep
  have ea := x_app (s := wS (some r1) h [lsO (A.eraseIdx k), lsO B]) (n := h.length + 1) (xs := B.map MV.p) (v := .p A[k]) (by simp [lsO]) (by simp; omega)
  have ea2 : (wS (some r1) h [lsO (A.eraseIdx k), lsO B]).put (h.length + 1) (.lst (B.map MV.p ++ [.p A[k]])) = wS (some r1) h [lsO (A.eraseIdx k), lsO (B ++ [A[k]])] := by
    rw [wS_put]; unfold lsO; rw [List.map_append]; rfl
  rw [ea2] at ea
  have i1 : isLst (.o (h.length + 1)) (wS (some r) h [lsO A, lsO B]) = true := x_isLst (xs := B.map MV.p) (by simp [lsO])
  have i2 : isLst (.o h.length) (wS (some r) h [lsO A, lsO B]) = true := x_isLst (xs := A.map MV.p) (by simp [lsO])
  refine ⟨A.eraseIdx k, A[k], r1, perm_erase hy, ?_⟩
  unfold l__law_mixed_1 mxEnv
  simp -implicitDefEqProofs [i1, i2, el, e1, ep, ea]
theorem mx_loop {xs : List PV} {h : List (Option MO)} {L : List MV} : ∀ (T : List MV) (A B : List PV) (r : Rn) (q4 : Option MV), T.length = A.length → A.length + B.length ≤ 1000 → ∃ (C : List PV) (r' : Rn) (q4' : Option MV), C.Perm (A ++ B) ∧ forI ⟨L, none⟩ (nameT 4) l__law_mixed_1 T (mxEnv xs h q4) (wS (some r) h [lsO A, lsO B]) = .nx (mxEnv xs h q4') (wS (some r') h [lsO [], lsO C])
  | [], A, B, r, q4, hl, _ => by
    have : A = [] := List.eq_nil_of_length_eq_zero hl.symm
    subst this
    exact ⟨B, r, q4, List.Perm.refl _, x_for0⟩
  | x :: T, A, B, r, q4, hl, hm => by
    rw [List.length_cons] at hl
    have hA : A ≠ [] := fun e => by rw [e] at hl; simp at hl
    obtain ⟨A', y, r1, hp, e1⟩ := mx_turn (xs := xs) (h := h) (r := r) (A := A) (B := B) (q4 := some x) hA (by omega) (by omega)
    have hl' := hp.length_eq
    rw [List.length_cons] at hl'
    obtain ⟨C, r2, q, hc, e2⟩ := mx_loop (xs := xs) (h := h) (L := L) T A' (B ++ [y]) r1 (some x) (by omega) (by rw [List.length_append, List.length_singleton]; omega)
    refine ⟨C, r2, q, hc.trans ?_, ?_⟩
    · have h1 : (A' ++ (B ++ [y])).Perm (y :: A' ++ B) := by
        rw [← List.append_assoc]
        exact List.perm_append_comm.trans (by simp)
      exact h1.trans (hp.append_right B)
    · rw [x_forN]
      show (l__law_mixed_1 (mxEnv xs h (some x)) (wS (some r) h [lsO A, lsO B])).turn _ = _
      rw [e1, x_turnnx, e2]
theorem mixed_ex (s : S) (r : Rn) {xs : List PV} (hl : xs.length ≤ 100) : ∃ (ys : List PV) (r' : Rn), ys.Perm xs ∧ m__law_mixed [.g, .p (.lst xs)] (s.dr r) = .ok (.p (.lst ys)) (s.dr r') := by
  obtain ⟨g0, h⟩ := s
  obtain ⟨C, r1, q, hc, e⟩ := mx_loop (xs := xs) (h := h) (L := rngL 0 xs.length) (rngL 0 xs.length) xs [] r none rng_len (by simp; omega)
  rw [List.append_nil] at hc
  have hr := x_rng1 (k := xs.length) (s := wS (some r) h [lsO xs, lsO []]) (by omega)
  have el : listO [.p (.lst xs)] ⟨some r, h⟩ = .ok (.o h.length) (wS (some r) h [lsO xs]) := rfl
  refine ⟨C, r1, hc, ?_⟩
  unfold m__law_mixed
  rw [x_defM]
  unfold mxEnv at e
  have e0 : lsO [] = some (.lst []) := rfl
  rw [e0] at hr e
  rw [dr_eq]
  have rt := wS_ret (g := some r1) (g' := some r) (h := h) (t := [some (.lst []), lsO C]) (k := 1) (o := .lst (C.map MV.p)) (y := .lst C) rfl (show (allP (C.map MV.p)).map PV.lst = _ by rw [allP_map]; rfl)
  simp -implicitDefEqProofs [b__law_mixed, el, hr]
  rw [e]
  simp -implicitDefEqProofs [dr_eq, rt]
end K11

/-! ## K11ql -/
set_option Elab.async false
set_option linter.all false
set_option maxRecDepth 100000
set_option maxHeartbeats 4000000
namespace K11
open PySem PySem.Spec PyProof.Rows L2 AK MP
/-- formulas as the law draws them: their names in order, the room for numbers -/
inductive Fv : List Str → Nat → PV → Prop
  | kind {z : Str} {R : Nat} : good z → Fv [z] R (.tup [.str "kind", .str z])
  | many {N : List Str} {R m : Nat} {v : PV} : 2 ≤ m → m ≤ R → R ≤ 60 → Fv N (R / m) v → Fv N R (.tup [.str "many", .int (m : Nat), v])
  | node {w : Str} {R : Nat} {ps : List (List Str × PV)} : (w = "and" ∨ w = "or") → 2 ≤ ps.length → (∀ x ∈ ps, Fv x.1 R x.2) → Fv (ps.flatMap (·.1)) R (.tup [.str w, .tup (ps.map (·.2))])
abbrev RecOk (M : DefV) (F : Nat) : Prop := ∀ (N : List Str) (R : Nat) (s : S) (r : Rn), N ≠ [] → (∀ z ∈ N, good z) → N.length ≤ 8 → 1 ≤ R → R ≤ 60 → N.length + R.log2 < F → ∃ (v : PV) (r' : Rn), Fv N R v ∧ M [.g, .p (.lst (N.map PV.str)), .p (.int (R : Nat))] (s.dr r) = .ok (.p v) (s.dr r')
def fmEnv (N : List Str) (R : Nat) (h : List (Option MO)) (w : Str) (rest : List Str) (q3 q7 q8 : Option MV) : MP.Env := [some .g, some (.p (.lst (N.map PV.str))), some (.p (.int (R : Nat))), q3, some (.p (.str w)), some (.o h.length), some (.p (.lst (rest.map PV.str))), q7, q8]
theorem take_ne {α : Type} {xs : List α} {d : Nat} (h : xs ≠ []) : xs.take (1 + d) ≠ [] := fun e => by
  cases xs with
  | nil => exact h rfl
  | cons a t => rw [Nat.add_comm, List.take_succ_cons] at e; cases e
theorem fm_turn {F : Nat} (hM : RecOk (m__law_formula F) F) {N rest : List Str} {R k : Nat} {h : List (Option MO)} {w : Str} {r : Rn} {q3 q8 : Option MV} {B : List PV} (hB : B.length ≤ 100) (hr : rest ≠ []) (hg : ∀ z ∈ rest, good z) (h8 : rest.length ≤ 8) (R1 : 1 ≤ R) (R6 : R ≤ 60) (hb : 0 < rest.length - (if k = 0 then 1 else 0)) (hF : rest.length - (if k = 0 then 1 else 0) + R.log2 < F) :
    ∃ (c : Nat) (v : PV) (r' : Rn), 1 ≤ c ∧ c ≤ rest.length - (if k = 0 then 1 else 0) ∧ Fv (rest.take c) R v ∧ l__law_formula_1 (m__law_formula F) (fmEnv N R h w rest q3 (some (.p (.int (k : Nat)))) q8) (wS (some r) h [lsO B]) = .nx (fmEnv N R h w (rest.drop c) q3 (some (.p (.int (k : Nat)))) (some (.p (.int (c : Nat))))) (wS (some r') h [lsO (B ++ [v])]) := by
  obtain ⟨b, hbd⟩ : ∃ b : Nat, b = rest.length - (if k = 0 then 1 else 0) := ⟨_, rfl⟩
  rw [← hbd] at hb hF
  have hbl : b ≤ rest.length := by rw [hbd]; omega
  obtain ⟨d, r1, hd, e1⟩ := draw_ex (wS none h [lsO B]) r (m := (b : Int)) (by omega) (by omega)
  simp only [dr_wS] at e1
  have hd' : d < b := by omega
  obtain ⟨v, r2, hv, e2⟩ := hM (rest.take (1 + d)) R (wS none h [lsO B]) r1 (take_ne hr) (fun z hz => hg z (List.mem_of_mem_take hz)) (by rw [List.length_take]; omega) R1 R6 (by rw [List.length_take]; omega)
  simp only [dr_wS] at e2
  have ea := x_app (s := wS (some r2) h [lsO B]) (n := h.length) (xs := B.map MV.p) (v := .p v) (by simp [lsO]) (by simp; omega)
  have ea2 : (wS (some r2) h [lsO B]).put h.length (.lst (B.map MV.p ++ [.p v])) = wS (some r2) h [lsO (B ++ [v])] := by rw [wS_put0]; unfold lsO; rw [List.map_append]; rfl
  rw [ea2] at ea
  have i1 : isLst (.o h.length) (wS (some r1) h [lsO B]) = true := x_isLst (xs := B.map MV.p) (by simp [lsO])
  have hpos : (0 : Int) < (rest.length : Int) := by have : 0 < rest.length := List.length_pos_iff.mpr hr; omega
  have esub : (rest.length : Int) - b2z (decide (k = 0)) = (b : Int) := by
    rw [hbd]
    by_cases k0 : k = 0
    · rw [if_pos k0, decide_eq_true k0]
      show (rest.length : Int) - 1 = _
      omega
    · rw [if_neg k0, decide_eq_false k0]
      show (rest.length : Int) - 0 = _
      omega
  have hc1 : (0 : Int) ≤ 1 + (d : Int) := by omega
  have htn : (1 + (d : Int)).toNat = 1 + d := by omega
  have et : (rest.map PV.str).take (1 + d) = (rest.take (1 + d)).map PV.str := by rw [List.map_take]
  have ed : (rest.map PV.str).drop (1 + d) = (rest.drop (1 + d)).map PV.str := by rw [List.map_drop]
  refine ⟨1 + d, v, r2, by omega, by rw [← hbd]; omega, hv, ?_⟩
  unfold l__law_formula_1 fmEnv
  simp -implicitDefEqProofs only [x_ifS, x_test, x_bin, x_unL, x_consE, x_var0, x_varS, x_nilE, x_bindok, x_lenL, x_cst, x_gtI, x_asB, x_toSRok, List.length_map]
  rw [decide_eq_true hpos, if_pos rfl]
  have hmt : (rest.take (1 + d)).map PV.str = (rest.map PV.str).take (1 + d) := by rw [List.map_take]
  have hmd : (rest.drop (1 + d)).map PV.str = (rest.map PV.str).drop (1 + d) := by rw [List.map_drop]
  rw [hmt] at e2
  simp -implicitDefEqProofs [esub, e1, i1, hc1, htn, e2, ea]
end K11

/-! ## K11qm -/
set_option Elab.async false
set_option linter.all false
set_option maxRecDepth 100000
set_option maxHeartbeats 4000000
namespace K11
open PySem PySem.Spec PyProof.Rows L2 AK MP
theorem fm_skip {F : Nat} {N : List Str} {R : Nat} {h : List (Option MO)} {w : Str} {s : S} {q3 q7 q8 : Option MV} : l__law_formula_1 (m__law_formula F) (fmEnv N R h w [] q3 q7 q8) s = .nx (fmEnv N R h w [] q3 q7 q8) s := by
  unfold l__law_formula_1 fmEnv
  simp -implicitDefEqProofs
theorem fm_loop {F : Nat} (hM : RecOk (m__law_formula F) F) {N : List Str} {R : Nat} {h : List (Option MO)} {w : Str} {q3 : Option MV} {L : List MV} (R1 : 1 ≤ R) (R6 : R ≤ 60) : ∀ (T : List MV) (rest : List Str) (ps : List (List Str × PV)) (r : Rn) (q7 q8 : Option MV), (∀ x ∈ T, ∃ k : Nat, 1 ≤ k ∧ x = .p (.int (k : Nat))) → rest.length ≤ T.length → (∀ z ∈ rest, good z) → rest.length ≤ 8 → rest.length + R.log2 < F → (∀ x ∈ ps, Fv x.1 R x.2) → ps.length + T.length ≤ 100 →
    ∃ (ps' : List (List Str × PV)) (r' : Rn) (q7' q8' : Option MV), ps.length ≤ ps'.length ∧ (rest ≠ [] → ps.length < ps'.length) ∧ ps'.length ≤ 100 ∧ (∀ x ∈ ps', Fv x.1 R x.2) ∧ ps'.flatMap (·.1) = ps.flatMap (·.1) ++ rest ∧ forI ⟨L, none⟩ (nameT 7) (l__law_formula_1 (m__law_formula F)) T (fmEnv N R h w rest q3 q7 q8) (wS (some r) h [lsO (ps.map (·.2))]) = .nx (fmEnv N R h w [] q3 q7' q8') (wS (some r') h [lsO (ps'.map (·.2))])
  | [], rest, ps, r, q7, q8, _, hl, _, _, _, hp, hm => by
    have : rest = [] := List.eq_nil_of_length_eq_zero (Nat.le_zero.mp hl)
    subst this
    exact ⟨ps, r, q7, q8, Nat.le_refl _, fun h => absurd rfl h, by simpa using hm, hp, by simp, x_for0⟩
  | x :: T, rest, ps, r, q7, q8, hx, hl, hg, h8, hF, hp, hm => by
    obtain ⟨k, hk, rfl⟩ := hx x List.mem_cons_self
    rw [List.length_cons] at hl hm
    by_cases hr : rest = []
    · subst hr
      obtain ⟨ps', r', a7, a8, l1, l2, l3, l4, l5, e⟩ := fm_loop hM (N := N) (h := h) (w := w) (q3 := q3) (L := L) R1 R6 T [] ps r (some (.p (.int (k : Nat)))) q8 (fun y hy => hx y (List.mem_cons_of_mem _ hy)) (Nat.zero_le _) hg h8 hF hp (by omega)
      refine ⟨ps', r', a7, a8, l1, fun h => absurd rfl h, l3, l4, l5, ?_⟩
      rw [x_forN]
      show (l__law_formula_1 (m__law_formula F) (fmEnv N R h w [] q3 (some (.p (.int (k : Nat)))) q8) _).turn _ = _
      rw [fm_skip, x_turnnx, e]
    · have hk0 : ¬ k = 0 := by omega
      obtain ⟨c, v, r1, c1, c2, hv, e1⟩ := fm_turn hM (N := N) (rest := rest) (k := k) (h := h) (w := w) (r := r) (q3 := q3) (q8 := q8) (B := ps.map (·.2)) (by rw [List.length_map]; omega) hr hg h8 R1 R6 (by rw [if_neg hk0]; have := List.length_pos_iff.mpr hr; omega) (by rw [if_neg hk0]; omega)
      have eB : lsO (ps.map (·.2) ++ [v]) = lsO ((ps ++ [(rest.take c, v)]).map (·.2)) := by rw [List.map_append]; rfl
      rw [eB] at e1
      obtain ⟨ps', r', a7, a8, l1, l2, l3, l4, l5, e⟩ := fm_loop hM (N := N) (h := h) (w := w) (q3 := q3) (L := L) R1 R6 T (rest.drop c) (ps ++ [(rest.take c, v)]) r1 (some (.p (.int (k : Nat)))) (some (.p (.int (c : Nat)))) (fun y hy => hx y (List.mem_cons_of_mem _ hy)) (by rw [List.length_drop]; omega) (fun z hz => hg z (List.mem_of_mem_drop hz)) (by rw [List.length_drop]; omega) (by rw [List.length_drop]; omega) (fun x hx => by
        rcases List.mem_append.mp hx with hx | hx
        · exact hp x hx
        · rw [List.mem_singleton.mp hx]; exact hv) (by rw [List.length_append, List.length_singleton]; omega)
      rw [List.length_append, List.length_singleton] at l1
      refine ⟨ps', r', a7, a8, by omega, fun _ => by omega, l3, l4, ?_, ?_⟩
      · rw [l5, List.flatMap_append, List.append_assoc]
        simp
      · rw [x_forN]
        show (l__law_formula_1 (m__law_formula F) (fmEnv N R h w rest q3 (some (.p (.int (k : Nat)))) q8) _).turn _ = _
        rw [e1, x_turnnx, e]
theorem log2_half {R m : Nat} (h2 : 2 ≤ m) (h : m ≤ R) : (R / m).log2 + 1 ≤ R.log2 := by
  have h1 : R / m ≤ R / 2 := Nat.div_le_div_left h2 (by decide)
  have h3 : (R / m).log2 ≤ (R / 2).log2 := by
    by_cases z : R / m = 0
    · rw [z]; simp
    · by_cases z2 : R / 2 = 0
      · omega
      · exact (Nat.le_log2 z2).mpr (Nat.le_trans (Nat.log2_self_le z) h1)
  have h4 : R.log2 = (R / 2).log2 + 1 := by
    rw [Nat.log2_def, if_pos (by omega)]
  omega
theorem rng_cons {n : Nat} : rngL 0 (n + 1) = .p (.int ((0 : Nat) : Int)) :: (rngL 0 (n + 1)).tail ∧ (rngL 0 (n + 1)).tail.length = n ∧ ∀ x ∈ (rngL 0 (n + 1)).tail, ∃ k : Nat, 1 ≤ k ∧ x = .p (.int (k : Nat)) := by
  have e : rngL 0 (n + 1) = .p (.int ((0 : Nat) : Int)) :: (List.range n).map (fun i => MV.p (.int ((i + 1 : Nat) : Int))) := by
    unfold rngL
    rw [List.range_succ_eq_map, List.map_cons, List.map_map]
    congr 1
    refine List.map_congr_left fun i _ => ?_
    show MV.p (.int (0 + ((i + 1 : Nat) : Int))) = _
    rw [Int.zero_add]
  rw [e]
  refine ⟨rfl, by simp, fun x hx => ?_⟩
  obtain ⟨i, _, rfl⟩ := List.mem_map.mp hx
  exact ⟨i + 1, by omega, rfl⟩
end K11

/-! ## K11qn -/
set_option Elab.async false
set_option linter.all false
set_option maxRecDepth 100000
set_option maxHeartbeats 4000000
namespace K11
open PySem PySem.Spec PyProof.Rows L2 AK MP
theorem tup_obj {g : Option Rn} {h : List (Option MO)} {B : List PV} : tupV [.o h.length] (wS g h [lsO B]) = .ok (.p (.tup B)) (wS g h [lsO B]) := by
  have e0 : flat (wS g h [lsO B]) (.o h.length) = some (.lst B) := by
    show Option.map PV.lst ((lstO (wS g h [lsO B]).h[h.length]?).bind allP) = _
    rw [wS_get0]
    show Option.map PV.lst (allP (B.map MV.p)) = _
    rw [allP_map]
    rfl
  have e1 : seqL (wS g h [lsO B]) (.o h.length) = some B := by unfold seqL; rw [e0]
  unfold tupV one
  simp only []
  rw [e1]
theorem div_nn {R m : Nat} (h0 : 0 < m) (h1 : m ≤ 60) {s : S} : divV (.p (.int (R : Nat))) (.p (.int (m : Nat))) s = .ok (.p (.int ((R / m : Nat) : Int))) s := by
  have hl : m.log2 < 9000 := (Nat.log2_lt (by omega)).2 (Nat.lt_of_le_of_lt h1 (by
    calc 60 < 2 ^ 6 := by decide
      _ ≤ 2 ^ 9000 := Nat.pow_le_pow_right (by decide) (by decide)))
  have hc : (decide (0 < (m : Int)) && decide ((m : Int).natAbs.log2 < 9000)) = true := by
    rw [Int.natAbs_natCast, decide_eq_true hl, decide_eq_true (by omega)]; rfl
  unfold divV MP.intOp
  simp only []
  rw [if_pos hc, Int.natCast_ediv]
theorem fm_join {A B : ST} {N : List Str} {R : Nat} {h : List (Option MO)} {r : Rn} (hA : ∀ (r1 : Rn), 1 < R → ∃ (v : PV) (r' : Rn), Fv N R v ∧ A [some .g, some (.p (.lst (N.map PV.str))), some (.p (.int (R : Nat))), none, none, none, none, none, none] ⟨some r1, h⟩ = .rt (.p v) ⟨some r', h⟩)
    (hB : ∀ (r1 : Rn), ∃ (v : PV) (r' : Rn) (t : List (Option MO)), Fv N R v ∧ B [some .g, some (.p (.lst (N.map PV.str))), some (.p (.int (R : Nat))), none, none, none, none, none, none] ⟨some r1, h⟩ = .rt (.p v) (wS (some r') h t)) :
    ∃ (v : PV) (r' : Rn), Fv N R v ∧ defR ⟨some r, h⟩ (seqS (ifS (andT (test (bin gtV (var 2) (cst (.int 1)))) (test (bin (eqV false) (callE drawV (consE (var 0) (consE (cst (.int 3)) nilE))) (cst (.int 0))))) A skipS) B [some .g, some (.p (.lst (N.map PV.str))), some (.p (.int (R : Nat))), none, none, none, none, none, none] ⟨some r, h⟩) = .ok (.p v) ⟨some r', h⟩ := by
  have fin : ∀ (r1 : Rn), ∃ (v : PV) (r' : Rn), Fv N R v ∧ defR ⟨some r, h⟩ (B [some .g, some (.p (.lst (N.map PV.str))), some (.p (.int (R : Nat))), none, none, none, none, none, none] ⟨some r1, h⟩) = .ok (.p v) ⟨some r', h⟩ := by
    intro r1
    obtain ⟨v, r', t, hv, e⟩ := hB r1
    refine ⟨v, r', hv, ?_⟩
    rw [e]
    simp -implicitDefEqProofs
  by_cases hR : 1 < R
  · obtain ⟨k, r1, hk, e1⟩ := draw_ex ⟨none, h⟩ r (m := 3) (by decide) (by decide)
    rw [dr_eq, dr_eq] at e1
    have hR2 : (1 : Int) < (R : Int) := by omega
    have hR3 : ¬ ((R : Int) ≤ 1) := by omega
    by_cases k0 : k = 0
    · obtain ⟨v, r', hv, e⟩ := hA r1 hR
      refine ⟨v, r', hv, ?_⟩
      simp -implicitDefEqProofs [hR2, hR3, e1, k0, e]
    · obtain ⟨v, r', hv, e⟩ := fin r1
      refine ⟨v, r', hv, ?_⟩
      simp -implicitDefEqProofs [hR2, hR3, e1, k0, e]
  · have hR2 : ¬ (1 : Int) < (R : Int) := by omega
    have hR3 : ((R : Int) ≤ 1) := by omega
    obtain ⟨v, r', hv, e⟩ := fin r
    refine ⟨v, r', hv, ?_⟩
    simp -implicitDefEqProofs [hR2, hR3, e]
theorem formula_ok : ∀ F, RecOk (m__law_formula F) F
  | 0 => fun N R s r _ _ _ _ _ hF => absurd hF (Nat.not_lt_zero _)
  | F + 1 => fun N R s r hN hg h8 R1 R6 hF => by
    have IH := formula_ok F
    obtain ⟨g0, h⟩ := s
    have hNl : 0 < N.length := List.length_pos_iff.mpr hN
    have hmany : ∀ (r1 : Rn), 1 < R → ∃ (v : PV) (r' : Rn), Fv N R v ∧ (seqS (asgS (bin addV (cst (.int 2)) (callE drawV (consE (var 0) (consE (bin subV (var 2) (cst (.int 1))) nilE)))) (nameT 3))
        (retS (tupE (consE (cst (.str "many")) (consE (var 3) (consE (callE (m__law_formula F) (consE (var 0) (consE (var 1) (consE (bin divV (var 2) (var 3)) nilE)))) nilE)))))) [some .g, some (.p (.lst (N.map PV.str))), some (.p (.int (R : Nat))), none, none, none, none, none, none] ⟨some r1, h⟩ = .rt (.p v) ⟨some r', h⟩ := by
      intro r1 hR
      obtain ⟨d, r2, hd, e1⟩ := draw_ex ⟨none, h⟩ r1 (m := (R : Int) - 1) (by omega) (by omega)
      have hm : 2 + d ≤ R := by omega
      have hlg := log2_half (m := 2 + d) (by omega) hm
      obtain ⟨v, r3, hv, e2⟩ := IH N (R / (2 + d)) ⟨none, h⟩ r2 hN hg h8 (Nat.div_pos hm (by omega)) (by have := Nat.div_le_self R (2 + d); omega) (by omega)
      have dv := div_nn (R := R) (m := 2 + d) (by omega) (by omega) (s := ⟨some r2, h⟩)
      have em : ((2 + d : Nat) : Int) = 2 + (d : Int) := by omega
      rw [em] at dv
      rw [dr_eq, dr_eq] at e1 e2
      refine ⟨_, r3, Fv.many (m := 2 + d) (by omega) hm R6 hv, ?_⟩
      obtain ⟨q, hq⟩ : ∃ q, q = R / (2 + d) := ⟨_, rfl⟩
      rw [← hq] at dv e2
      rw [em]
      simp -implicitDefEqProofs [e1, dv, e2]
    have hrest : ∀ (r1 : Rn), ∃ (v : PV) (r' : Rn) (t : List (Option MO)), Fv N R v ∧ (seqS (ifS (test (bin (eqV false) (unL lenV (consE (var 1) nilE)) (cst (.int 1))))
(retS (tupE (consE (cst (.str "kind")) (consE (bin ixV (var 1) (cst (.int 0))) nilE))))
skipS)
(seqS (par3 4 5 6 (consE (callE m__law_pick (consE (var 0) (consE (lstE (consE (cst (.str "and")) (consE (cst (.str "or")) nilE))) nilE))) (consE (lstM nilE) (consE (var 1) nilE))))
(seqS (forS (rngE1 (consE (unL lenV (consE (var 1) nilE)) nilE)) (nameT 7)
(l__law_formula_1 (m__law_formula F)))
(retS (tupE (consE (var 4) (consE (unL tupV (consE (var 5) nilE)) nilE))))))) [some .g, some (.p (.lst (N.map PV.str))), some (.p (.int (R : Nat))), none, none, none, none, none, none] ⟨some r1, h⟩ = .rt (.p v) (wS (some r') h t) := by
      intro r1
      by_cases h1 : N.length = 1
      · obtain ⟨z, rfl⟩ := List.length_eq_one_iff.mp h1
        refine ⟨_, r1, [], Fv.kind (hg z List.mem_cons_self), ?_⟩
        simp -implicitDefEqProofs
      · have h2 : 2 ≤ N.length := by omega
        obtain ⟨wv, r2, hw, ep⟩ := pick_ex ⟨none, h⟩ r1 (xs := [.str "and", .str "or"]) (by simp) (by simp)
        have hwz : ∃ w : Str, wv = .str w ∧ (w = "and" ∨ w = "or") := by
          simp only [List.mem_cons, List.not_mem_nil, or_false] at hw
          rcases hw with e | e
          · exact ⟨_, e, .inl rfl⟩
          · exact ⟨_, e, .inr rfl⟩
        obtain ⟨w, rfl, hwo⟩ := hwz
        rw [dr_eq, dr_eq] at ep
        obtain ⟨n, hn⟩ : ∃ n, N.length = n + 1 := ⟨N.length - 1, by omega⟩
        obtain ⟨c1, c2, c3⟩ := rng_cons (n := n)
        obtain ⟨c, v, r3, k1, k2, hv, e1⟩ := fm_turn IH (N := N) (rest := N) (k := 0) (h := h) (w := w) (r := r2) (q3 := none) (q8 := none) (B := []) (by simp) hN hg h8 R1 R6 (by rw [if_pos rfl]; omega) (by rw [if_pos rfl]; omega)
        rw [if_pos rfl] at k2
        obtain ⟨ps, r4, a7, a8, l1, l2, l3, l4, l5, e2⟩ := fm_loop IH (N := N) (h := h) (w := w) (q3 := none) (L := rngL 0 (n + 1)) R1 R6 (rngL 0 (n + 1)).tail (N.drop c) [(N.take c, v)] r3 (some (.p (.int (0 : Nat)))) (some (.p (.int (c : Nat)))) c3 (by rw [c2, List.length_drop]; omega) (fun z hz => hg z (List.mem_of_mem_drop hz)) (by rw [List.length_drop]; omega) (by rw [List.length_drop]; omega) (fun x hx => by rw [List.mem_singleton.mp hx]; exact hv) (by rw [c2]; simp; omega)
        have hne : N.drop c ≠ [] := fun e => by
          have := congrArg List.length e
          rw [List.length_drop] at this
          simp at this
          omega
        have l2' := l2 hne
        rw [List.length_singleton] at l2'
        have eN : ps.flatMap (·.1) = N := by rw [l5]; simp
        have hr := x_rng1 (k := n + 1) (s := wS (some r2) h [lsO []]) (by omega)
        have et := tup_obj (g := some r4) (h := h) (B := ps.map (·.2))
        have hF := Fv.node (R := R) hwo (by omega) l4
        rw [eN] at hF
        refine ⟨_, r4, [lsO (ps.map (·.2))], hF, ?_⟩
        have ef : forI ⟨rngL 0 (n + 1), none⟩ (nameT 7) (l__law_formula_1 (m__law_formula F)) (rngL 0 (n + 1)) (fmEnv N R h w N none none none) (wS (some r2) h [lsO []]) = .nx (fmEnv N R h w [] none a7 a8) (wS (some r4) h [lsO (ps.map (·.2))]) := by
          conv => lhs; arg 4; rw [c1]
          rw [x_forN]
          show (l__law_formula_1 (m__law_formula F) (fmEnv N R h w N none (some (.p (.int ((0 : Nat) : Int)))) none) (wS (some r2) h [lsO []])).turn _ = _
          rw [e1, x_turnnx]
          exact e2
        unfold fmEnv at ef
        have e0 : lsO [] = some (.lst []) := rfl
        rw [e0] at ef hr
        have hn1 : ¬ ((n : Int) + 1 = 1) := by omega
        have hn2 : ¬ n = 0 := by omega
        simp -implicitDefEqProofs at hr
        simp -implicitDefEqProofs [hn, hn1, hn2, ep, hr]
        rw [ef]
        simp -implicitDefEqProofs [et]
    exact fm_join (r := r) hmany hrest
end K11

/-! ## K11qo -/
set_option Elab.async false
set_option linter.all false
set_option maxRecDepth 100000
set_option maxHeartbeats 4000000
namespace K11
open PySem PySem.Spec PyProof.Rows L2 AK MP
theorem good_okP {z : Str} (h : good z) : okP (.str z) = true := by
  rw [okP, good_ok h, decide_eq_true (by have := h.2.2; omega)]; rfl
theorem wd_okP {w : Str} (h : w = "and" ∨ w = "or") : okP (.str w) = true := by
  rcases h with rfl | rfl <;> decide +kernel
theorem Fv.okP {N : List Str} {R : Nat} {v : PV} (h : Fv N R v) : MP.okP v = true := by
  induction h with
  | kind g => 
    have h1 : MP.okP (.str "kind") = true := by decide +kernel
    rw [MP.okP, okL, okL, okL, h1, good_okP g]; rfl
  | @many N R m v a b c _ ih =>
    have h1 : MP.okP (.str "many") = true := by decide +kernel
    have h2 : MP.okP (.int (m : Nat)) = true := by rw [MP.okP, Int.natAbs_natCast]; exact decide_eq_true (by omega)
    rw [MP.okP, okL, okL, okL, okL, h1, h2, ih]; rfl
  | @node w R ps hw h2 _ ih =>
    have h1 : okL (ps.map (·.2)) = true := okL_of fun x hx => by
      obtain ⟨y, hy, rfl⟩ := List.mem_map.mp hx
      exact ih y hy
    rw [MP.okP, okL, okL, okL, wd_okP hw, MP.okP, h1]; rfl
theorem Fv.good {N : List Str} {R : Nat} {v : PV} (h : Fv N R v) : N ≠ [] ∧ ∀ z ∈ N, K11.good z := by
  induction h with
  | kind g => exact ⟨by simp, fun z hz => by rw [List.mem_singleton.mp hz]; exact g⟩
  | many _ _ _ _ ih => exact ih
  | @node w R ps hw h2 _ ih =>
    constructor
    · cases ps with
      | nil => simp at h2
      | cons a t => intro e; rw [List.flatMap_cons] at e; exact (ih a List.mem_cons_self).1 (List.append_eq_nil_iff.mp e).1
    · intro z hz
      obtain ⟨x, hx, hz⟩ := List.mem_flatMap.mp hz
      exact (ih x hx).2 z hz
theorem szD_s {z : Str} : szD (.str z) = 1 := by simp [szD]
theorem szD_i {i : Int} : szD (.int i) = 1 := by simp [szD]
theorem htD_s {z : Str} : htD (.str z) = 0 := by simp [htD]
theorem htD_i {i : Int} : htD (.int i) = 0 := by simp [htD]
theorem szL_sum {c : Nat} : ∀ (ps : List (List Str × PV)), (∀ x ∈ ps, szD x.2 + 3 * c ≤ 6 * x.1.length * c) → szL (ps.map (·.2)) + 3 * (ps.length * c) ≤ 6 * (ps.flatMap (·.1)).length * c
  | [], _ => by simp [szL]
  | x :: ps, h => by
    have h1 := h x List.mem_cons_self
    have h2 := szL_sum ps fun y hy => h y (List.mem_cons_of_mem _ hy)
    rw [List.map_cons, szL, List.length_cons, List.flatMap_cons, List.length_append, Nat.mul_add, Nat.add_mul, Nat.add_mul, Nat.one_mul]
    omega
theorem Fv.size {N : List Str} {R : Nat} {v : PV} (h : Fv N R v) : szD v + 3 * (R.log2 + 1) ≤ 6 * N.length * (R.log2 + 1) := by
  induction h with
  | kind g => rw [List.length_singleton, szD, szL, szL, szL, szD_s, szD_s]; omega
  | @many N R m v a b c hv ih =>
    have hl := log2_half a b
    have hn := List.length_pos_iff.mpr hv.good.1
    rw [szD, szL, szL, szL, szL, szD_s, szD_i]
    obtain ⟨c', hc'⟩ : ∃ c', c' = (R / m).log2 + 1 := ⟨_, rfl⟩
    rw [← hc'] at hl ih
    obtain ⟨e, he⟩ : ∃ e, R.log2 + 1 = c' + 1 + e := ⟨R.log2 - c', by omega⟩
    rw [he, Nat.mul_add (6 * N.length) (c' + 1) e, Nat.mul_add (6 * N.length) c' 1]
    have h3 : 3 * e ≤ 6 * N.length * e := Nat.mul_le_mul_right e (by omega)
    omega
  | @node w R ps hw h2 hp ih =>
    have hs := szL_sum ps ih
    rw [szD, szL, szL, szL, szD_s, szD]
    have h3 : 2 * (R.log2 + 1) ≤ ps.length * (R.log2 + 1) := Nat.mul_le_mul_right _ h2
    omega
theorem part_lt {ps : List (List Str × PV)} (hn : ∀ x ∈ ps, x.1 ≠ []) (h2 : 2 ≤ ps.length) {x : List Str × PV} (hx : x ∈ ps) : x.1.length < (ps.flatMap (·.1)).length := by
  obtain ⟨a, b, e⟩ := List.append_of_mem hx
  subst e
  rw [List.flatMap_append, List.flatMap_cons, List.length_append, List.length_append]
  cases a with
  | cons y a =>
    have := List.length_pos_iff.mpr (hn y List.mem_cons_self)
    rw [List.flatMap_cons, List.length_append]
    omega
  | nil =>
    cases b with
    | nil => simp at h2
    | cons y b =>
      have := List.length_pos_iff.mpr (hn y (by simp))
      rw [List.flatMap_cons, List.length_append]
      omega
theorem Fv.depth {N : List Str} {R : Nat} {v : PV} (h : Fv N R v) : htD v + 1 ≤ 2 * N.length + R.log2 := by
  induction h with
  | kind g => rw [htD, htL, htL, htL, htD_s, htD_s, List.length_singleton]; omega
  | @many N R m v a b c hv ih =>
    have hl := log2_half a b
    have hn := List.length_pos_iff.mpr hv.good.1
    rw [htD, htL, htL, htL, htL, htD_s, htD_i]
    omega
  | @node w R ps hw h2 hp ih =>
    have hn : ∀ x ∈ ps, x.1 ≠ [] := fun x hx => (hp x hx).good.1
    have hb : htL (ps.map (·.2)) + 3 ≤ 2 * (ps.flatMap (·.1)).length + R.log2 := by
      have : ∀ qs : List (List Str × PV), (∀ x ∈ qs, x ∈ ps) → htL (qs.map (·.2)) + 3 ≤ 2 * (ps.flatMap (·.1)).length + R.log2 := by
        intro qs
        induction qs with
        | nil =>
          intro _
          rw [List.map_nil, htL]
          cases ps with
          | nil => simp at h2
          | cons y t =>
            have := part_lt hn h2 (x := y) List.mem_cons_self
            have := List.length_pos_iff.mpr (hn y List.mem_cons_self)
            omega
        | cons x qs ihq =>
          intro hq
          have h1 := ihq fun y hy => hq y (List.mem_cons_of_mem _ hy)
          have hx := hq x List.mem_cons_self
          have h3 := ih x hx
          have h4 := part_lt hn h2 hx
          rw [List.map_cons, htL]
          omega
      exact this ps fun x hx => hx
    rw [htD, htL, htL, htL, htD_s, htD]
    omega
end K11

/-! ## K11qp -/
set_option Elab.async false
set_option linter.all false
set_option maxRecDepth 100000
set_option maxHeartbeats 4000000
namespace K11
open PySem PySem.Spec PyProof.Rows L2 AK MP
theorem good_nameS {z : Str} (h : good z) : nameS z = true := by
  unfold nameS
  rw [decide_eq_true h.2.1, decide_eq_true h.2.2]
  exact List.all_eq_true.mpr fun c hc => decide_eq_true (h.1 c hc)
theorem and_kind : ¬ (Str.ofString "and" = Str.ofString "kind") := by decide +kernel
theorem and_many : ¬ (Str.ofString "and" = Str.ofString "many") := by decide +kernel
theorem or_kind : ¬ (Str.ofString "or" = Str.ofString "kind") := by decide +kernel
theorem or_many : ¬ (Str.ofString "or" = Str.ofString "many") := by decide +kernel
theorem many_kind : ¬ (Str.ofString "many" = Str.ofString "kind") := by decide +kernel
theorem wd_kind {w : Str} (h : w = "and" ∨ w = "or") : w ≠ "kind" := by
  rcases h with rfl | rfl
  · exact and_kind
  · exact or_kind
theorem wd_many {w : Str} (h : w = "and" ∨ w = "or") : w ≠ "many" := by
  rcases h with rfl | rfl
  · exact and_many
  · exact or_many
theorem pt_eq {w : Str} {ds : List PV} : partsD (.tup (.str w :: ds)) = if w = "kind" then kindParts ds else if w = "many" then manyParts ds else if w = "and" ∨ w = "or" then nodeParts ds else none := rfl
theorem pt_kind {z : Str} (h : good z) : partsD (.tup [.str "kind", .str z]) = some [] := by
  rw [pt_eq, if_pos rfl]
  show (if nameS z = true then some [] else none) = _
  rw [good_nameS h]
  rfl
theorem pt_many {m : Nat} {v : PV} (h2 : 2 ≤ m) (h6 : m ≤ 60) : partsD (.tup [.str "many", .int (m : Nat), v]) = some [v] := by
  rw [pt_eq, if_neg many_kind, if_pos rfl]
  show (if (decide (2 ≤ (m : Int)) && decide ((m : Int) ≤ 60)) = true then some [v] else none) = _
  rw [decide_eq_true (by omega), decide_eq_true (by omega)]
  rfl
theorem pt_node {w : Str} {ps : List PV} (h : w = "and" ∨ w = "or") (h2 : 2 ≤ ps.length) : partsD (.tup [.str w, .tup ps]) = some ps := by
  rw [pt_eq, if_neg (wd_kind h), if_neg (wd_many h), if_pos h]
  show (if 2 ≤ ps.length then some ps else none) = _
  rw [if_pos h2]
theorem nm_eq {K : Nat} {v : PV} {ps : List PV} (h : partsD v = some ps) : namesV (K + 1) v = if tagD v = "kind" then [nameOf v] else ps.flatMap (namesV K) := by rw [namesV, h]
theorem Fv.okF {N : List Str} {R : Nat} {v : PV} (h : Fv N R v) : ∀ K, N.length + R.log2 ≤ K → K11.okF K v ∧ namesV K v = N := by
  induction h with
  | @kind z R g =>
    intro K hK
    cases K with
    | zero => simp at hK
    | succ K => 
      refine ⟨⟨[], pt_kind g, fun p hp => absurd hp List.not_mem_nil⟩, ?_⟩
      rw [nm_eq (pt_kind g), if_pos (show tagD (.tup [.str "kind", .str z]) = "kind" from rfl)]
      rfl
  | @many N R m v a b c hv ih =>
    intro K hK
    have hl := log2_half a b
    have hn := List.length_pos_iff.mpr hv.good.1
    cases K with
    | zero => omega
    | succ K =>
      obtain ⟨i1, i2⟩ := ih K (by omega)
      refine ⟨⟨[v], pt_many a (by omega), fun p hp => by rw [List.mem_singleton.mp hp]; exact i1⟩, ?_⟩
      rw [nm_eq (pt_many a (by omega)), if_neg (show ¬ tagD (.tup [.str "many", .int (m : Nat), v]) = "kind" from many_kind), List.flatMap_cons, List.flatMap_nil, List.append_nil, i2]
  | @node w R ps hw h2 hp ih =>
    intro K hK
    have hn : ∀ x ∈ ps, x.1 ≠ [] := fun x hx => (hp x hx).good.1
    cases K with
    | zero =>
      cases ps with
      | nil => simp at h2
      | cons y t =>
        have := part_lt hn h2 (x := y) List.mem_cons_self
        omega
    | succ K =>
      have hi : ∀ x ∈ ps, K11.okF K x.2 ∧ namesV K x.2 = x.1 := fun x hx => ih x hx K (by have := part_lt hn h2 hx; omega)
      have hps := pt_node (w := w) (ps := ps.map (·.2)) hw (by rw [List.length_map]; exact h2)
      refine ⟨⟨_, hps, fun p hp => ?_⟩, ?_⟩
      · obtain ⟨x, hx, rfl⟩ := List.mem_map.mp hp
        exact (hi x hx).1
      · rw [nm_eq hps, if_neg (show ¬ tagD (.tup [.str w, .tup (ps.map (·.2))]) = "kind" from wd_kind hw), List.flatMap_map]
        have : ∀ qs : List (List Str × PV), (∀ x ∈ qs, x ∈ ps) → qs.flatMap (fun a => namesV K a.2) = qs.flatMap (·.1) := by
          intro qs
          induction qs with
          | nil => intro _; rfl
          | cons x qs ihq =>
            intro hq
            rw [List.flatMap_cons, List.flatMap_cons, (hi x (hq x List.mem_cons_self)).2, ihq fun y hy => hq y (List.mem_cons_of_mem _ hy)]
        exact this ps fun x hx => hx
end K11

/-! ## K11qq -/
set_option Elab.async false
set_option linter.all false
set_option maxRecDepth 100000
set_option maxHeartbeats 4000000
namespace K11
open PySem PySem.Spec PyProof.Rows L2 AK MP
def PtL (v : PV) (c : Nat) (L : List PV) : Prop := L ≠ [] ∧ L.length ≤ c ∧ ∀ p ∈ L, okP p = true ∧ szD p ≤ szD v ∧ htD p ≤ htD v
theorem add_ll {a b : List PV} {s : S} (h : a.length + b.length ≤ 10000) : MP.addV (.p (.lst a)) (.p (.lst b)) s = .ok (.p (.lst (a ++ b))) s := by
  have h2 : a.length + b.length ≤ sizeLine := Nat.le_trans h (by decide +kernel)
  show (if a.length + b.length ≤ sizeLine then Res.ok (MV.p (.lst (a ++ b))) s else .no) = _
  rw [if_pos h2]
theorem pl_loop {F : Nat} {v : PV} {s : S} {G : List MV} : ∀ (ps acc : List PV) (q : Option MV) (c : Nat), PtL v c acc → (∀ x ∈ ps, ∃ L, PtL x (szD x) L ∧ m__law_parts F [.p x] s = .ok (.p (.lst L)) s) → (∀ x ∈ ps, szD x ≤ szD v ∧ htD x ≤ htD v) → c + szL ps ≤ 10000 →
    ∃ (L : List PV) (q' : Option MV), PtL v (c + szL ps) L ∧ forI ⟨G, none⟩ (nameT 2) (l__law_parts_1 (m__law_parts F)) (ps.map MV.p) [some (.p v), some (.p (.lst acc)), q] s = .nx [some (.p v), some (.p (.lst L)), q'] s
  | [], acc, q, c, ha, _, _, _ => ⟨acc, q, by rw [szL]; exact ha, x_for0⟩
  | x :: ps, acc, q, c, ha, hx, hz, hc => by
    obtain ⟨L1, ⟨n1, l1, p1⟩, e1⟩ := hx x List.mem_cons_self
    obtain ⟨z1, z2⟩ := hz x List.mem_cons_self
    rw [szL] at hc
    obtain ⟨L, q', hL, e⟩ := pl_loop (F := F) (v := v) (s := s) (G := G) ps (acc ++ L1) (some (.p x)) (c + szD x) ⟨fun e => ha.1 (List.append_eq_nil_iff.mp e).1, by rw [List.length_append]; have := ha.2.1; omega, fun p hp => by
      rcases List.mem_append.mp hp with h | h
      · exact ha.2.2 p h
      · obtain ⟨a, b, c⟩ := p1 p h
        exact ⟨a, by omega, by omega⟩⟩ (fun y hy => hx y (List.mem_cons_of_mem _ hy)) (fun y hy => hz y (List.mem_cons_of_mem _ hy)) (by omega)
    refine ⟨L, q', by rw [szL, ← Nat.add_assoc]; exact hL, ?_⟩
    rw [List.map_cons, x_forN]
    have ea : MP.addV (.p (.lst acc)) (.p (.lst L1)) s = .ok (.p (.lst (acc ++ L1))) s := add_ll (by have := ha.2.1; omega)
    have e2 : l__law_parts_1 (m__law_parts F) [some (.p v), some (.p (.lst acc)), some (.p x)] s = .nx [some (.p v), some (.p (.lst (acc ++ L1))), some (.p x)] s := by
      unfold l__law_parts_1
      simp -implicitDefEqProofs [e1, ea]
    show (l__law_parts_1 (m__law_parts F) [some (.p v), some (.p (.lst acc)), some (.p x)] s).turn _ = _
    rw [e2, x_turnnx, e]
theorem mem_sz {ps : List PV} {p : PV} (h : p ∈ ps) : szD p ≤ szL ps := by
  induction ps with
  | nil => cases h
  | cons a t ih =>
    rw [szL]
    rcases List.mem_cons.mp h with rfl | h
    · omega
    · have := ih h; omega
theorem self_pt {v : PV} {c : Nat} (h : MP.okP v = true) (hc : 1 ≤ c) : PtL v c [v] := ⟨by simp, hc, fun p hp => by rw [List.mem_singleton.mp hp]; exact ⟨h, Nat.le_refl _, Nat.le_refl _⟩⟩
theorem sp__law_parts {N : List Str} {R : Nat} {v : PV} (h : Fv N R v) : ∀ (K : Nat) (s : S), N.length + R.log2 ≤ K → szD v ≤ 3000 → ∃ L, PtL v (szD v) L ∧ m__law_parts K [.p v] s = .ok (.p (.lst L)) s := by
  have hok := h.okP
  induction h with
  | @kind z R g =>
    intro K s hK _
    cases K with
    | zero => simp at hK
    | succ K =>
      refine ⟨[_], self_pt hok (szD_pos _), ?_⟩
      show defM 1 3 (b__law_parts (m__law_parts K)) [_] s = _
      rw [x_defM]
      simp -implicitDefEqProofs [b__law_parts, x_eqZ]
  | @many N R m v a b c hv ih =>
    intro K s hK hsz
    have hl := log2_half a b
    have hn := List.length_pos_iff.mpr hv.good.1
    have e1 : szD (.tup [.str "many", .int (m : Nat), v]) = szD v + 3 := by rw [szD, szL, szL, szL, szL, szD_s, szD_i]; omega
    have e2 : htD (.tup [.str "many", .int (m : Nat), v]) = htD v + 1 := by rw [htD, htL, htL, htL, htL, htD_s, htD_i]; omega
    cases K with
    | zero => omega
    | succ K =>
      rw [e1] at hsz
      obtain ⟨L, ⟨l1, l2, l3⟩, e⟩ := ih hv.okP K s (by omega) (by omega)
      refine ⟨.tup [.str "many", .int (m : Nat), v] :: L, ⟨by simp, by rw [List.length_cons, e1]; omega, fun p hp => ?_⟩, ?_⟩
      · rcases List.mem_cons.mp hp with rfl | hp
        · exact ⟨hok, Nat.le_refl _, Nat.le_refl _⟩
        · obtain ⟨a1, a2, a3⟩ := l3 p hp
          exact ⟨a1, by omega, by omega⟩
      · have ea := add_ll (a := [.tup [.str "many", .int (m : Nat), v]]) (b := L) (s := s) (by rw [List.length_singleton]; omega)
        show defM 1 3 (b__law_parts (m__law_parts K)) [_] s = _
        rw [x_defM]
        simp -implicitDefEqProofs [b__law_parts, x_eqZ, many_kind, e, ea]
  | @node w R ps hw h2 hp ih =>
    intro K s hK hsz
    have hn : ∀ x ∈ ps, x.1 ≠ [] := fun x hx => (hp x hx).good.1
    have e1 : szD (.tup [.str w, .tup (ps.map (·.2))]) = szL (ps.map (·.2)) + 3 := by rw [szD, szL, szL, szL, szD_s, szD]; omega
    have e2 : htD (.tup [.str w, .tup (ps.map (·.2))]) = htL (ps.map (·.2)) + 2 := by rw [htD, htL, htL, htL, htD_s, htD]; omega
    cases K with
    | zero =>
      cases ps with
      | nil => simp at h2
      | cons y t =>
        have := part_lt hn h2 (x := y) List.mem_cons_self
        omega
    | succ K =>
      rw [e1] at hsz
      obtain ⟨L, q, hL, e⟩ := pl_loop (F := K) (v := .tup [.str w, .tup (ps.map (·.2))]) (s := s) (G := (ps.map (·.2)).map MV.p) (ps.map (·.2)) [.tup [.str w, .tup (ps.map (·.2))]] none 1 (self_pt hok (Nat.le_refl _)) (fun x hx => by
        have hs := mem_sz hx
        obtain ⟨y, hy, rfl⟩ := List.mem_map.mp hx
        exact ih y hy (hp y hy).okP K s (by have := part_lt hn h2 hy; omega) (by omega)) (fun x hx => by
        have hs := mem_sz hx
        have hh := htL_mem hx
        omega) (by omega)
      refine ⟨L, ⟨hL.1, by have := hL.2.1; omega, hL.2.2⟩, ?_⟩
      show defM 1 3 (b__law_parts (m__law_parts K)) [_] s = _
      rw [x_defM]
      simp -implicitDefEqProofs at e
      simp -implicitDefEqProofs [b__law_parts, x_eqZ, wd_kind hw, wd_many hw, itemsV]
      rw [e]
      simp -implicitDefEqProofs
end K11

/-! ## K11qr -/
set_option Elab.async false
set_option linter.all false
set_option maxRecDepth 100000
set_option maxHeartbeats 4000000
namespace K11
open PySem PySem.Spec PyProof.Rows L2 AK MP
abbrev cnO (k : Nat) : MO := .lst [.p (.int (k : Nat))]
def usd (a k c : Nat) : Nat := if a < k then c else 0
abbrev RpOk (M : DefV) (a : Nat) (o v : PV) : Prop := ∀ (s : S) (n k : Nat), s.h[n]? = some (some (cnO k)) → ∃ (x : PV) (k' : Nat), okP x = true ∧ k ≤ k' ∧ szD x + usd a k (szD o) ≤ szD v + usd a k' (szD o) ∧ htD x ≤ htD v + htD o ∧ M [.p v, .o n, .p (.int (a : Nat)), .p o] s = .ok (.p x) (s.put n (cnO k'))
theorem rp_loop {M : DefV} {a : Nat} {o v : PV} {n : Nat} {G : List MV} {q4 : Option MV} : ∀ (ps : List PV) (acc : List MV) (s : S) (k : Nat), (∀ x ∈ ps, RpOk M a o x) → s.h[n]? = some (some (cnO k)) → ∃ (xs : List PV) (k' : Nat), xs.length = ps.length ∧ okL xs = true ∧ k ≤ k' ∧ szL xs + usd a k (szD o) ≤ szL ps + usd a k' (szD o) ∧ htL xs ≤ htL ps + htD o ∧
    lcI ⟨G, none⟩ (nameT 5) yesT (callE M (consE (var 5) (consE (var 1) (consE (var 2) (consE (var 3) nilE))))) [some (.p v), some (.o n), some (.p (.int (a : Nat))), some (.p o), q4, none] (fun _ => true) mkLc (ps.map MV.p) acc s = mkLc (acc ++ xs.map MV.p) (s.put n (cnO k'))
  | [], acc, s, k, _, hn => ⟨[], k, rfl, by rw [okL], Nat.le_refl _, Nat.le_refl _, by rw [htL]; omega, by rw [put_same hn, List.map_nil, List.append_nil]; unfold lcI; exact if_pos rfl⟩
  | x :: ps, acc, s, k, hM, hn => by
    obtain ⟨y, k1, o1, l1, z1, d1, e1⟩ := hM x List.mem_cons_self s n k hn
    have hlt := lt_of_get hn
    obtain ⟨xs, k2, o2, o3, l2, z2, d2, e2⟩ := rp_loop (M := M) (v := v) (G := G) (q4 := q4) ps (acc ++ [MV.p y]) (s.put n (cnO k1)) k1 (fun z hz => hM z (List.mem_cons_of_mem _ hz)) (put_get hlt)
    rw [put_put] at e2
    refine ⟨y :: xs, k2, by rw [List.length_cons, List.length_cons, o2], by rw [okL, o1, o3]; rfl, by omega, by rw [szL, szL]; omega, by rw [htL, htL]; omega, ?_⟩
    have hc : callE M (consE (var 5) (consE (var 1) (consE (var 2) (consE (var 3) nilE)))) [some (.p v), some (.o n), some (.p (.int (a : Nat))), some (.p o), q4, some (.p x)] s = .ok (.p y) (s.put n (cnO k1)) := by
      simp -implicitDefEqProofs [e1]
    rw [List.append_assoc] at e2
    rw [List.map_cons, List.map_cons]
    unfold lcI
    rw [if_pos (show Items.chk ⟨G, none⟩ s = true from rfl)]
    show (if true = true then (callE M (consE (var 5) (consE (var 1) (consE (var 2) (consE (var 3) nilE)))) [some (.p v), some (.o n), some (.p (.int (a : Nat))), some (.p o), q4, some (.p x)] s).bindN fun z s3 => if true = true then lcI ⟨G, none⟩ (nameT 5) yesT (callE M (consE (var 5) (consE (var 1) (consE (var 2) (consE (var 3) nilE))))) [some (.p v), some (.o n), some (.p (.int (a : Nat))), some (.p o), q4, none] (fun _ => true) mkLc (ps.map MV.p) (acc ++ [z]) s3 else .no else lcI ⟨G, none⟩ (nameT 5) yesT (callE M (consE (var 5) (consE (var 1) (consE (var 2) (consE (var 3) nilE))))) [some (.p v), some (.o n), some (.p (.int (a : Nat))), some (.p o), q4, none] (fun _ => true) mkLc (ps.map MV.p) acc s) = _
    rw [if_pos rfl, hc]
    exact e2
theorem usd_le {a k c : Nat} : usd a k c ≤ usd a (k + 1) c := by
  unfold usd
  by_cases h : a < k
  · rw [if_pos h, if_pos (by omega)]
    exact Nat.le_refl _
  · rw [if_neg h]; exact Nat.zero_le _
theorem usd_at {a c : Nat} : usd a a c = 0 ∧ usd a (a + 1) c = c := ⟨if_neg (Nat.lt_irrefl _), if_pos (Nat.lt_succ_self _)⟩
theorem ix_cn {s : S} {n k : Nat} (hn : s.h[n]? = some (some (cnO k))) : ixV (.o n) (.p (.int 0)) s = .ok (.p (.int (k : Nat))) s := x_ixO hn (atI_nat (j := 0) rfl)
theorem st_cn {s : S} {n k : Nat} (hn : s.h[n]? = some (some (cnO k))) : storeV (.o n) (.p (.int 0)) (.p (.int ((k : Int) + 1))) s = .ok () (s.put n (cnO (k + 1))) := x_storeL (k := 0) (v := .p (.int ((k : Int) + 1))) hn (by simp)
theorem sp__law_replaced {N : List Str} {R : Nat} {v : PV} (h : Fv N R v) {a : Nat} {o : PV} (ho : okP o = true) : ∀ (K : Nat), N.length + R.log2 ≤ K → szD v ≤ 3000 → RpOk (m__law_replaced K) a o v := by
  have hok := h.okP
  induction h with
  | @kind z R g =>
    intro K hK _ s n k hn
    cases K with
    | zero => simp at hK
    | succ K =>
      have i1 := ix_cn hn
      have i2 := st_cn hn
      by_cases ha : k = a
      · subst ha
        refine ⟨o, k + 1, ho, by omega, by rw [usd_at.1, usd_at.2]; omega, by omega, ?_⟩
        show defM 4 6 (b__law_replaced (m__law_replaced K)) _ s = _
        rw [x_defM]
        simp -implicitDefEqProofs [b__law_replaced, i1, i2]
      · refine ⟨.tup [.str "kind", .str z], k + 1, hok, by omega, by have := usd_le (a := a) (k := k) (c := szD o); omega, by omega, ?_⟩
        have hka : ¬ (k : Int) = (a : Int) := by omega
        show defM 4 6 (b__law_replaced (m__law_replaced K)) _ s = _
        rw [x_defM]
        simp -implicitDefEqProofs [b__law_replaced, i1, i2, ha, hka, x_eqZ]
  | @many N R m v a' b c hv ih =>
    intro K hK hsz s n k hn
    have hl := log2_half a' b
    have hnn := List.length_pos_iff.mpr hv.good.1
    have hlt := lt_of_get hn
    have e1 : ∀ v, szD (.tup [.str "many", .int (m : Nat), v]) = szD v + 3 := fun v => by rw [szD, szL, szL, szL, szL, szD_s, szD_i]; omega
    have e2 : ∀ v, htD (.tup [.str "many", .int (m : Nat), v]) = htD v + 1 := fun v => by rw [htD, htL, htL, htL, htL, htD_s, htD_i]; omega
    cases K with
    | zero => omega
    | succ K =>
      have i1 := ix_cn hn
      have i2 := st_cn hn
      rw [e1] at hsz
      by_cases ha : k = a
      · subst ha
        refine ⟨o, k + 1, ho, by omega, by rw [usd_at.1, usd_at.2]; omega, by omega, ?_⟩
        show defM 4 6 (b__law_replaced (m__law_replaced K)) _ s = _
        rw [x_defM]
        simp -implicitDefEqProofs [b__law_replaced, i1, i2]
      · obtain ⟨x, k', o1, l1, z1, d1, e⟩ := ih hv.okP K (by omega) (by omega) (s.put n (cnO (k + 1))) n (k + 1) (put_get hlt)
        have hka : ¬ (k : Int) = (a : Int) := by omega
        have h1 : MP.okP (.str "many") = true := by decide +kernel
        have h2 : MP.okP (.int (m : Nat)) = true := by rw [MP.okP, Int.natAbs_natCast]; exact decide_eq_true (by omega)
        rw [put_put] at e
        refine ⟨.tup [.str "many", .int (m : Nat), x], k', by rw [MP.okP, okL, okL, okL, okL, h1, h2, o1]; rfl, by omega, by rw [e1, e1]; have := usd_le (a := a) (k := k) (c := szD o); omega, by rw [e2, e2]; omega, ?_⟩
        show defM 4 6 (b__law_replaced (m__law_replaced K)) _ s = _
        rw [x_defM]
        simp -implicitDefEqProofs [b__law_replaced, i1, i2, ha, hka, x_eqZ, many_kind, e]
  | @node w R ps hw h2 hp ih =>
    intro K hK hsz s n k hn
    have hnn : ∀ x ∈ ps, x.1 ≠ [] := fun x hx => (hp x hx).good.1
    have hlt := lt_of_get hn
    have e1 : ∀ qs, szD (.tup [.str w, .tup qs]) = szL qs + 3 := fun qs => by rw [szD, szL, szL, szL, szD_s, szD]; omega
    have e2 : ∀ qs, htD (.tup [.str w, .tup qs]) = htL qs + 2 := fun qs => by rw [htD, htL, htL, htL, htD_s, htD]; omega
    cases K with
    | zero =>
      cases ps with
      | nil => simp at h2
      | cons y t =>
        have := part_lt hnn h2 (x := y) List.mem_cons_self
        omega
    | succ K =>
      have i1 := ix_cn hn
      have i2 := st_cn hn
      rw [e1] at hsz
      by_cases ha : k = a
      · subst ha
        refine ⟨o, k + 1, ho, by omega, by rw [usd_at.1, usd_at.2]; omega, by omega, ?_⟩
        show defM 4 6 (b__law_replaced (m__law_replaced K)) _ s = _
        rw [x_defM]
        simp -implicitDefEqProofs [b__law_replaced, i1, i2]
      · obtain ⟨xs, k', o0, o1, l1, z1, d1, e⟩ := rp_loop (M := m__law_replaced K) (a := a) (o := o) (v := .tup [.str w, .tup (ps.map (·.2))]) (n := n) (G := (ps.map (·.2)).map MV.p) (q4 := some (.p (.int (k : Nat)))) (ps.map (·.2)) [] (s.put n (cnO (k + 1))) (k + 1) (fun x hx => by
          have hs := mem_sz hx
          obtain ⟨y, hy, rfl⟩ := List.mem_map.mp hx
          exact ih y hy (hp y hy).okP K (by have := part_lt hnn h2 hy; omega) (by omega)) (put_get hlt)
        have hka : ¬ (k : Int) = (a : Int) := by omega
        rw [put_put, List.nil_append] at e
        have em : mkLc (xs.map MV.p) (s.put n (cnO k')) = .ok (.p (.lst xs)) (s.put n (cnO k')) := by unfold mkLc; rw [allP_map]
        rw [em] at e
        have et : tupV [.p (.lst xs)] (s.put n (cnO k')) = .ok (.p (.tup xs)) (s.put n (cnO k')) := rfl
        refine ⟨.tup [.str w, .tup xs], k', by rw [MP.okP, okL, okL, okL, wd_okP hw, MP.okP, o1]; rfl, by omega, by rw [e1, e1]; have := usd_le (a := a) (k := k) (c := szD o); omega, by rw [e2, e2]; omega, ?_⟩
        show defM 4 6 (b__law_replaced (m__law_replaced K)) _ s = _
        rw [x_defM]
        simp -implicitDefEqProofs at e
        simp -implicitDefEqProofs [b__law_replaced, i1, i2, ha, hka, x_eqZ, wd_kind hw, wd_many hw, itemsV, wipeE]
        rw [e]
        simp -implicitDefEqProofs [et]
end K11

/-! ## K11qs -/
set_option Elab.async false
set_option linter.all false
set_option maxRecDepth 100000
set_option maxHeartbeats 4000000
namespace K11
open PySem PySem.Spec PyProof.Rows L2 AK MP
/-- bounds on a value -/
def Bd (c d : Nat) (v : PV) : Prop := okP v = true ∧ szD v ≤ c ∧ htD v ≤ d
theorem szs_ex (s : S) (r : Rn) {xs : List PV} (h0 : xs ≠ []) (hl : xs.length ≤ 1000) (hx : ∀ x ∈ xs, ∃ (m : Nat) (ms : List Nat), x = .lst ((m :: ms).map fun k => PV.int (k : Nat)) ∧ ms.length ≤ 5 ∧ m ≤ 1000 ∧ ∀ k ∈ ms, k ≤ 1000) : ∃ (m : Nat) (ms : List Nat) (r' : Rn), ms.length ≤ 5 ∧ m ≤ 1000 ∧ (∀ k ∈ ms, k ≤ 1000) ∧ m__law_pick [.g, .p (.lst xs)] (s.dr r) = .ok (.p (.lst ((m :: ms).map fun k => PV.int (k : Nat)))) (s.dr r') := by
  obtain ⟨x, r', h, e⟩ := pick_ex s r h0 (by omega)
  obtain ⟨m, ms, rfl, h1, h2, h3⟩ := hx x h
  exact ⟨m, ms, r', h1, h2, h3, e⟩
theorem many_bd {m : Nat} {v : PV} {c d : Nat} (hm : m ≤ 1000) (h : Bd c d v) : Bd (c + 3) (d + 1) (.tup [.str "many", .int (m : Nat), v]) := by
  have h1 : MP.okP (.str "many") = true := by decide +kernel
  have h2 : MP.okP (.int (m : Nat)) = true := by rw [MP.okP, Int.natAbs_natCast]; exact decide_eq_true (by omega)
  refine ⟨by rw [MP.okP, okL, okL, okL, okL, h1, h2, h.1]; rfl, ?_, ?_⟩
  · rw [szD, szL, szL, szL, szL, szD_s, szD_i]; have := h.2.1; omega
  · rw [htD, htL, htL, htL, htL, htD_s, htD_i]; have := h.2.2; omega
def wrapM : List Nat → PV → PV
  | [], v => v
  | m :: ms, v => wrapM ms (.tup [.str "many", .int (m : Nat), v])
theorem wrap_bd : ∀ {ms : List Nat} {v : PV} {c d : Nat}, (∀ k ∈ ms, k ≤ 1000) → Bd c d v → Bd (c + 3 * ms.length) (d + ms.length) (wrapM ms v)
  | [], v, c, d, _, h => h
  | m :: ms, v, c, d, hm, h => by
    have := wrap_bd (ms := ms) (fun k hk => hm k (List.mem_cons_of_mem _ hk)) (many_bd (hm m List.mem_cons_self) h)
    rw [List.length_cons, show c + 3 * (ms.length + 1) = c + 3 + 3 * ms.length by omega, show d + (ms.length + 1) = d + 1 + ms.length by omega]
    exact this
theorem eg_loop {A1 A2 A3 A4 A5 : Option MV} {s : S} {G : List MV} : ∀ (ms : List Nat) (v : PV) (q : Option MV), ∃ q', forI ⟨G, none⟩ (nameT 7) l__law_edge_1 (ms.map fun k => MV.p (.int (k : Nat))) [some .g, A1, A2, A3, A4, A5, some (.p v), q] s = .nx [some .g, A1, A2, A3, A4, A5, some (.p (wrapM ms v)), q'] s
  | [], v, q => ⟨q, x_for0⟩
  | m :: ms, v, q => by
    obtain ⟨q', e⟩ := eg_loop (A1 := A1) (A2 := A2) (A3 := A3) (A4 := A4) (A5 := A5) (s := s) (G := G) ms (.tup [.str "many", .int (m : Nat), v]) (some (.p (.int (m : Nat))))
    refine ⟨q', ?_⟩
    rw [List.map_cons, x_forN]
    have e1 : l__law_edge_1 [some .g, A1, A2, A3, A4, A5, some (.p v), some (.p (.int (m : Nat)))] s = .nx [some .g, A1, A2, A3, A4, A5, some (.p (.tup [.str "many", .int (m : Nat), v])), some (.p (.int (m : Nat)))] s := by
      unfold l__law_edge_1
      simp -implicitDefEqProofs
    show (l__law_edge_1 [some .g, A1, A2, A3, A4, A5, some (.p v), some (.p (.int (m : Nat)))] s).turn _ = _
    rw [e1, x_turnnx, e]
    rfl
/-- a formula drawn for some names -/
theorem perm_names {N : List Str} {ys : List PV} (h : ys.Perm (N.map PV.str)) : ∃ M : List Str, ys = M.map PV.str ∧ M.Perm N := by
  have hs : ∀ y ∈ ys, ∃ z, y = .str z := fun y hy => by
    obtain ⟨z, _, rfl⟩ := List.mem_map.mp (h.mem_iff.mp hy)
    exact ⟨z, rfl⟩
  have : ∀ ys : List PV, (∀ y ∈ ys, ∃ z, y = .str z) → ∃ M : List Str, ys = M.map PV.str := by
    intro ys
    induction ys with
    | nil => intro _; exact ⟨[], rfl⟩
    | cons y t ih =>
      intro hy
      obtain ⟨z, rfl⟩ := hy y List.mem_cons_self
      obtain ⟨M, rfl⟩ := ih fun x hx => hy x (List.mem_cons_of_mem _ hx)
      exact ⟨z :: M, rfl⟩
  obtain ⟨M, rfl⟩ := this ys hs
  refine ⟨M, rfl, ?_⟩
  have h2 := h.map (fun v : PV => match v with | .str z => z | _ => "")
  rw [List.map_map, List.map_map] at h2
  have e : ∀ L : List Str, L.map ((fun v : PV => match v with | .str z => z | _ => "") ∘ PV.str) = L := fun L => by
    have : ((fun v : PV => match v with | .str z => z | _ => "") ∘ PV.str) = id := rfl
    rw [this, List.map_id]
  rw [e, e] at h2
  exact h2
end K11

/-! ## K11qt -/
set_option Elab.async false
set_option linter.all false
set_option maxRecDepth 100000
set_option maxHeartbeats 4000000
namespace K11
open PySem PySem.Spec PyProof.Rows L2 AK MP
def edL : List (List Nat) := [[60], [2, 30], [2, 31], [6, 10], [7, 9], [3, 4, 5], [3, 3, 7], [8, 8], [2, 2, 3, 5], [2, 2, 4, 4], [20, 3], [31, 2], [2, 5, 2, 3], [5, 13], [2, 2, 2, 2, 3], [2, 2, 2, 2, 4]]
theorem ed_ok : ∀ l ∈ edL, l ≠ [] ∧ l.length ≤ 5 ∧ ∀ k ∈ l, k ≤ 1000 := by decide +kernel
theorem sizes_ex (s : S) (r : Rn) : ∃ (m : Nat) (ms : List Nat) (r' : Rn), ms.length ≤ 5 ∧ m ≤ 1000 ∧ (∀ k ∈ ms, k ≤ 1000) ∧ m__law_pick [.g, .p (.lst (edL.map fun l => .lst (l.map fun k => PV.int (k : Nat))))] (s.dr r) = .ok (.p (.lst (.int (m : Nat) :: ms.map fun k => PV.int (k : Nat)))) (s.dr r') := by
  refine szs_ex s r (by simp [edL]) (by simp [edL]) fun x hx => ?_
  obtain ⟨l, hl, rfl⟩ := List.mem_map.mp hx
  obtain ⟨h1, h2, h3⟩ := ed_ok l hl
  cases l with
  | nil => exact absurd rfl h1
  | cons m ms => exact ⟨m, ms, rfl, by rw [List.length_cons] at h2; omega, h3 m List.mem_cons_self, fun k hk => h3 k (List.mem_cons_of_mem _ hk)⟩
theorem log1 : Nat.log2 1 = 0 := by decide +kernel
theorem sp__law_edge (s : S) (r : Rn) {N : List Str} (hN : N ≠ []) (hg : ∀ z ∈ N, good z) (h8 : N.length ≤ 8) : ∃ (v : PV) (r' : Rn), Bd 300 60 v ∧ m__law_edge [.g, .p (.lst (N.map PV.str))] (s.dr r) = .ok (.p v) (s.dr r') := by
  obtain ⟨g0, h⟩ := s
  obtain ⟨ys, r1, hp, e1⟩ := mixed_ex ⟨none, h⟩ r (xs := N.map PV.str) (by rw [List.length_map]; omega)
  obtain ⟨M, rfl, hM⟩ := perm_names hp
  have hMl : M.length = N.length := hM.length_eq
  obtain ⟨v, r2, hv, e2⟩ := formula_ok 20 M 1 ⟨none, h⟩ r1 (fun e => by rw [e] at hMl; exact hN (List.eq_nil_of_length_eq_zero hMl.symm)) (fun z hz => hg z (hM.mem_iff.mp hz)) (by omega) (Nat.le_refl _) (by decide) (by rw [log1]; omega)
  have hsz := hv.size
  have hdp := hv.depth
  rw [log1] at hsz hdp
  obtain ⟨L, ⟨l1, l2, l3⟩, e3⟩ := sp__law_parts hv 61 ⟨some r2, h⟩ (by rw [log1]; omega) (by omega)
  obtain ⟨m, ms, r3, m1, m2, m3, e4⟩ := sizes_ex ⟨none, h⟩ r2
  have hLl := List.length_pos_iff.mpr l1
  obtain ⟨k, r4, hk, e5⟩ := draw_ex ⟨none, h⟩ r3 (m := (L.length : Int)) (by omega) (by omega)
  have hk' : k < L.length := by omega
  have e6 := x_ixLn (s := ⟨some r4, h⟩) (List.getElem?_eq_getElem hk')
  obtain ⟨p1, p2, p3⟩ := l3 L[k] (List.getElem_mem hk')
  have hb0 : Bd 45 15 L[k] := ⟨p1, by omega, by omega⟩
  have hb := wrap_bd m3 hb0
  obtain ⟨q, e7⟩ := eg_loop (A1 := some (.p (.lst (N.map PV.str)))) (A2 := some (.p v)) (A3 := some (.p (.lst L))) (A4 := some (.p (.lst (.int (m : Nat) :: ms.map fun k => PV.int (k : Nat))))) (A5 := some (.p (.int (k : Nat)))) (s := ⟨some r4, h⟩) (G := ms.map fun k => MV.p (.int (k : Nat))) ms L[k] none
  obtain ⟨x, k', x1, x2, x3, x4, e8⟩ := sp__law_replaced hv (a := k) hb.1 61 (by rw [log1]; omega) (by omega) (wS (some r4) h [some (cnO 0)]) h.length 0 (by simp)
  rw [wS_put0] at e8
  have hu : usd k k' (szD (wrapM ms L[k])) ≤ szD (wrapM ms L[k]) := by unfold usd; split <;> omega
  have hw1 := hb.2.1
  have hw2 := hb.2.2
  have hx : Bd 200 50 x := ⟨x1, by omega, by omega⟩
  have hz := many_bd m2 hx
  refine ⟨_, r4, ⟨hz.1, Nat.le_trans hz.2.1 (by decide), Nat.le_trans hz.2.2 (by decide)⟩, ?_⟩
  rw [dr_eq, dr_eq] at e1 e2 e4 e5
  simp -implicitDefEqProofs [edL] at e4
  have e9 : ((0 : Nat) : Int) = 0 := rfl
  unfold cnO at e8
  rw [e9] at e8
  have e10 : ((1 : Nat) : Int) = 1 := rfl
  rw [e10] at e2
  unfold m__law_edge
  rw [x_defM]
  have ei : (ms.map fun k => PV.int (k : Nat)).map MV.p = ms.map fun k => MV.p (.int (k : Nat)) := by rw [List.map_map]; rfl
  simp -implicitDefEqProofs [dr_eq, b__law_edge, e1, e2, e3, mkL, allP, e4, e5, e6, itemsV, ei]
  rw [e7]
  simp -implicitDefEqProofs [e8]
end K11

/-! ## K11qu -/
set_option Elab.async false
set_option linter.all false
set_option maxRecDepth 100000
set_option maxHeartbeats 4000000
namespace K11
open PySem PySem.Spec PyProof.Rows L2 AK MP
theorem Bd.str {z : Str} (h : okP (.str z) = true) : Bd 1 0 (.str z) := ⟨h, Nat.le_of_eq szD_s, Nat.le_of_eq htD_s⟩
theorem Bd.int {i : Int} (h : i.natAbs ≤ 1000) : Bd 1 0 (.int i) := ⟨by rw [okP]; exact decide_eq_true (by omega), Nat.le_of_eq szD_i, Nat.le_of_eq htD_i⟩
theorem Bd.non : Bd 1 0 .non := ⟨by decide, by decide, by decide⟩
theorem Bd.bl {b : Bool} : Bd 1 0 (.bl b) := ⟨by cases b <;> decide, by cases b <;> decide, by cases b <;> decide⟩
def BdL (c d : Nat) (xs : List PV) : Prop := okL xs = true ∧ szL xs ≤ c ∧ htL xs ≤ d
theorem BdL.nil : BdL 0 0 [] := ⟨by decide, by decide, by decide⟩
theorem BdL.cons {c1 d1 c d : Nat} {x : PV} {xs : List PV} (h : Bd c1 d1 x) (t : BdL c d xs) : BdL (c1 + c) (max d1 d) (x :: xs) := ⟨by rw [okL, h.1, t.1]; rfl, by rw [szL]; have := h.2.1; have := t.2.1; omega, by rw [htL]; have := h.2.2; have := t.2.2; omega⟩
theorem BdL.tup {c d : Nat} {xs : List PV} (h : BdL c d xs) : Bd (c + 1) (d + 1) (.tup xs) := ⟨by rw [okP]; exact h.1, by rw [szD]; have := h.2.1; omega, by rw [htD]; have := h.2.2; omega⟩
theorem BdL.lst {c d : Nat} {xs : List PV} (h : BdL c d xs) : Bd (c + 1) (d + 1) (.lst xs) := ⟨by rw [okP]; exact h.1, by rw [szD]; have := h.2.1; omega, by rw [htD]; have := h.2.2; omega⟩
theorem Bd.le {c d c' d' : Nat} {x : PV} (h : Bd c d x) (h1 : c ≤ c') (h2 : d ≤ d') : Bd c' d' x := ⟨h.1, Nat.le_trans h.2.1 h1, Nat.le_trans h.2.2 h2⟩
theorem ltrs_app_ok {z w : Str} (h : good z) (hw : ltrs w) (hl : w.length ≤ 5) : okP (.str (z ++ w)) = true := by
  rw [okP, ltrs_ok (ltrs_app h.1 hw), decide_eq_true (by rw [app_len]; have := h.2.2; omega)]; rfl
theorem strOk_app {a b : Str} (ha : PyData.strOk a = true) (hb : PyData.strOk b = true) : PyData.strOk (a ++ b) = true := by
  unfold PyData.strOk at *
  rw [Array.all_eq_true'] at *
  intro c hc
  have hc' : c ∈ a.cps ++ b.cps := hc
  rcases Array.mem_append.mp hc' with h | h
  · exact ha c h
  · exact hb c h
theorem cut4 {z : Str} (h : ltrs z) : ltrs (cutS z none (some 4)) ∧ (cutS z none (some 4)).length ≤ 4 := by
  refine ⟨fun c hc => h c ?_, cutS_len z 4⟩
  have hc' : c ∈ (z.cps.toList.drop (HT.sIx z.length 0 none)).take (HT.sIx z.length z.length (some 4) - HT.sIx z.length 0 none) := hc
  exact List.mem_of_mem_drop (List.mem_of_mem_take hc')
theorem cat_ok {a b : Str} (ha : ltrs a) (hl : a.length ≤ 5) (hb : okP (.str b) = true) (hbl : b.length ≤ 5) : okP (.str (a ++ b)) = true := by
  rw [okP, Bool.and_eq_true] at hb
  rw [okP, strOk_app (ltrs_ok ha) hb.1, decide_eq_true (by rw [app_len]; omega)]; rfl
def BdA (c d : Nat) (xs : List PV) : Prop := ∀ x ∈ xs, Bd c d x
theorem BdA.nil {c d : Nat} : BdA c d [] := fun x h => absurd h List.not_mem_nil
theorem BdA.cons {c d : Nat} {x : PV} {xs : List PV} (h : Bd c d x) (t : BdA c d xs) : BdA c d (x :: xs) := fun y hy => by
  rcases List.mem_cons.mp hy with rfl | hy
  · exact h
  · exact t y hy
def od0 (p : PV) (z w : Str) : List PV := [.non, (.int (7)), (.str "kind"), (.str ""), (.tup []), (.tup [(.str "kind")]), (.lst [(.str z)]), (.tup [(.str z)]), (.tup [(.str "and"), (.tup [])]), (.tup [(.str "or"), (.tup [p])]), (.tup [(.str w), p, (.tup [.str "kind", .str z])]), (.tup [(.str w), (.lst [p, (.tup [.str "kind", .str z])])]), (.tup [(.str w), (.tup [.str "kind", .str z])]), (.tup [(.str w), (.tup [p, (.tup [.str "kind", .str z])]), (.int (0))]), (.tup [(.str "xor"), (.tup [p, (.tup [.str "kind", .str z])])]), (.tup [(.bl true), p]), (.tup [p, (.tup [.str "kind", .str z])]), (.tup [(.int (0)), (.tup [p, (.tup [.str "kind", .str z])])]), (.bl true)]
theorem od0_bd {p : PV} {z w : Str} {c d : Nat} (hp : Bd c d p) (hz : Bd 1 0 (.str z)) (hw : Bd 1 0 (.str w)) (hk : Bd 3 1 (.tup [.str "kind", .str z])) (hA : Bd 1 0 (.str (z ++ "aaaaa"))) (hB : Bd 1 0 (.str (cutS z none (some 4) ++ "1"))) (hC : Bd 1 0 (.str (cutS z none (some 4) ++ "z"))) : BdA (2 * c + 20) (d + 3) (od0 p z w) :=
  (BdA.cons (Bd.le Bd.non (by omega) (by omega)) (BdA.cons (Bd.le (Bd.int (i := 7) (by decide)) (by omega) (by omega)) (BdA.cons (Bd.le (Bd.str (z := "kind") (by decide +kernel)) (by omega) (by omega)) (BdA.cons (Bd.le (Bd.str (z := "") (by decide +kernel)) (by omega) (by omega)) (BdA.cons (Bd.le (BdL.tup BdL.nil) (by omega) (by omega)) (BdA.cons (Bd.le (BdL.tup (BdL.cons (Bd.str (z := "kind") (by decide +kernel)) BdL.nil)) (by omega) (by omega)) (BdA.cons (Bd.le (BdL.lst (BdL.cons hz BdL.nil)) (by omega) (by omega)) (BdA.cons (Bd.le (BdL.tup (BdL.cons hz BdL.nil)) (by omega) (by omega)) (BdA.cons (Bd.le (BdL.tup (BdL.cons (Bd.str (z := "and") (by decide +kernel)) (BdL.cons (BdL.tup BdL.nil) BdL.nil))) (by omega) (by omega)) (BdA.cons (Bd.le (BdL.tup (BdL.cons (Bd.str (z := "or") (by decide +kernel)) (BdL.cons (BdL.tup (BdL.cons hp BdL.nil)) BdL.nil))) (by omega) (by omega)) (BdA.cons (Bd.le (BdL.tup (BdL.cons hw (BdL.cons hp (BdL.cons hk BdL.nil)))) (by omega) (by omega)) (BdA.cons (Bd.le (BdL.tup (BdL.cons hw (BdL.cons (BdL.lst (BdL.cons hp (BdL.cons hk BdL.nil))) BdL.nil))) (by omega) (by omega)) (BdA.cons (Bd.le (BdL.tup (BdL.cons hw (BdL.cons hk BdL.nil))) (by omega) (by omega)) (BdA.cons (Bd.le (BdL.tup (BdL.cons hw (BdL.cons (BdL.tup (BdL.cons hp (BdL.cons hk BdL.nil))) (BdL.cons (Bd.int (i := 0) (by decide)) BdL.nil)))) (by omega) (by omega)) (BdA.cons (Bd.le (BdL.tup (BdL.cons (Bd.str (z := "xor") (by decide +kernel)) (BdL.cons (BdL.tup (BdL.cons hp (BdL.cons hk BdL.nil))) BdL.nil))) (by omega) (by omega)) (BdA.cons (Bd.le (BdL.tup (BdL.cons Bd.bl (BdL.cons hp BdL.nil))) (by omega) (by omega)) (BdA.cons (Bd.le (BdL.tup (BdL.cons hp (BdL.cons hk BdL.nil))) (by omega) (by omega)) (BdA.cons (Bd.le (BdL.tup (BdL.cons (Bd.int (i := 0) (by decide)) (BdL.cons (BdL.tup (BdL.cons hp (BdL.cons hk BdL.nil))) BdL.nil))) (by omega) (by omega)) (BdA.cons (Bd.le Bd.bl (by omega) (by omega)) BdA.nil)))))))))))))))))))
def od1 (p : PV) (z w : Str) : List PV := [(.str (z ++ "aaaaa")), (.str ""), (.str "A"), (.str (cutS z none (some 4) ++ "1")), (.str "a b"), (.int (5)), .non, (.tup [(.str z)]), (.str "_"), (.str "a-")]
theorem od1_bd {p : PV} {z w : Str} {c d : Nat} (hp : Bd c d p) (hz : Bd 1 0 (.str z)) (hw : Bd 1 0 (.str w)) (hk : Bd 3 1 (.tup [.str "kind", .str z])) (hA : Bd 1 0 (.str (z ++ "aaaaa"))) (hB : Bd 1 0 (.str (cutS z none (some 4) ++ "1"))) (hC : Bd 1 0 (.str (cutS z none (some 4) ++ "z"))) : BdA (2) (1) (od1 p z w) :=
  (BdA.cons (Bd.le hA (by omega) (by omega)) (BdA.cons (Bd.le (Bd.str (z := "") (by decide +kernel)) (by omega) (by omega)) (BdA.cons (Bd.le (Bd.str (z := "A") (by decide +kernel)) (by omega) (by omega)) (BdA.cons (Bd.le hB (by omega) (by omega)) (BdA.cons (Bd.le (Bd.str (z := "a b") (by decide +kernel)) (by omega) (by omega)) (BdA.cons (Bd.le (Bd.int (i := 5) (by decide)) (by omega) (by omega)) (BdA.cons (Bd.le Bd.non (by omega) (by omega)) (BdA.cons (Bd.le (BdL.tup (BdL.cons hz BdL.nil)) (by omega) (by omega)) (BdA.cons (Bd.le (Bd.str (z := "_") (by decide +kernel)) (by omega) (by omega)) (BdA.cons (Bd.le (Bd.str (z := "a-") (by decide +kernel)) (by omega) (by omega)) BdA.nil))))))))))
def od2 (p : PV) (z w : Str) : List PV := [(.int (1)), (.int (0)), (.int (-2)), (.int (61)), (.int (100)), (.bl true), (.str "2"), .non, (.tup [(.int (2))])]
theorem od2_bd {p : PV} {z w : Str} {c d : Nat} (hp : Bd c d p) (hz : Bd 1 0 (.str z)) (hw : Bd 1 0 (.str w)) (hk : Bd 3 1 (.tup [.str "kind", .str z])) (hA : Bd 1 0 (.str (z ++ "aaaaa"))) (hB : Bd 1 0 (.str (cutS z none (some 4) ++ "1"))) (hC : Bd 1 0 (.str (cutS z none (some 4) ++ "z"))) : BdA (2) (1) (od2 p z w) :=
  (BdA.cons (Bd.le (Bd.int (i := 1) (by decide)) (by omega) (by omega)) (BdA.cons (Bd.le (Bd.int (i := 0) (by decide)) (by omega) (by omega)) (BdA.cons (Bd.le (Bd.int (i := -2) (by decide)) (by omega) (by omega)) (BdA.cons (Bd.le (Bd.int (i := 61) (by decide)) (by omega) (by omega)) (BdA.cons (Bd.le (Bd.int (i := 100) (by decide)) (by omega) (by omega)) (BdA.cons (Bd.le Bd.bl (by omega) (by omega)) (BdA.cons (Bd.le (Bd.str (z := "2") (by decide +kernel)) (by omega) (by omega)) (BdA.cons (Bd.le Bd.non (by omega) (by omega)) (BdA.cons (Bd.le (BdL.tup (BdL.cons (Bd.int (i := 2) (by decide)) BdL.nil)) (by omega) (by omega)) BdA.nil)))))))))
def od3 (p : PV) (z w : Str) : List PV := [(.tup [(.str "kind"), (.str z), (.str z)]), (.tup [(.str "many"), (.int (2))]), (.tup [(.str "many"), p]), (.tup [(.str "many"), (.int (2)), p, p]), (.tup [(.str "many"), (.int (2)), (.lst [p])]), (.lst [(.str w), (.tup [p, (.tup [.str "kind", .str z])])])]
theorem od3_bd {p : PV} {z w : Str} {c d : Nat} (hp : Bd c d p) (hz : Bd 1 0 (.str z)) (hw : Bd 1 0 (.str w)) (hk : Bd 3 1 (.tup [.str "kind", .str z])) (hA : Bd 1 0 (.str (z ++ "aaaaa"))) (hB : Bd 1 0 (.str (cutS z none (some 4) ++ "1"))) (hC : Bd 1 0 (.str (cutS z none (some 4) ++ "z"))) : BdA (2 * c + 20) (d + 3) (od3 p z w) :=
  (BdA.cons (Bd.le (BdL.tup (BdL.cons (Bd.str (z := "kind") (by decide +kernel)) (BdL.cons hz (BdL.cons hz BdL.nil)))) (by omega) (by omega)) (BdA.cons (Bd.le (BdL.tup (BdL.cons (Bd.str (z := "many") (by decide +kernel)) (BdL.cons (Bd.int (i := 2) (by decide)) BdL.nil))) (by omega) (by omega)) (BdA.cons (Bd.le (BdL.tup (BdL.cons (Bd.str (z := "many") (by decide +kernel)) (BdL.cons hp BdL.nil))) (by omega) (by omega)) (BdA.cons (Bd.le (BdL.tup (BdL.cons (Bd.str (z := "many") (by decide +kernel)) (BdL.cons (Bd.int (i := 2) (by decide)) (BdL.cons hp (BdL.cons hp BdL.nil))))) (by omega) (by omega)) (BdA.cons (Bd.le (BdL.tup (BdL.cons (Bd.str (z := "many") (by decide +kernel)) (BdL.cons (Bd.int (i := 2) (by decide)) (BdL.cons (BdL.lst (BdL.cons hp BdL.nil)) BdL.nil)))) (by omega) (by omega)) (BdA.cons (Bd.le (BdL.lst (BdL.cons hw (BdL.cons (BdL.tup (BdL.cons hp (BdL.cons hk BdL.nil))) BdL.nil))) (by omega) (by omega)) BdA.nil))))))
def od5 (p : PV) (z w : Str) : List PV := [(.tup [.str "kind", .str z]), (.tup [(.str w), (.tup [p, (.tup [.str "kind", .str z])])]), (.tup [(.str w), (.tup [(.tup [.str "kind", .str z]), p])]), (.tup [(.str w), (.tup [(.tup [(.str "kind"), (.str (cutS z none (some 4) ++ "z"))]), p])])]
theorem od5_bd {p : PV} {z w : Str} {c d : Nat} (hp : Bd c d p) (hz : Bd 1 0 (.str z)) (hw : Bd 1 0 (.str w)) (hk : Bd 3 1 (.tup [.str "kind", .str z])) (hA : Bd 1 0 (.str (z ++ "aaaaa"))) (hB : Bd 1 0 (.str (cutS z none (some 4) ++ "1"))) (hC : Bd 1 0 (.str (cutS z none (some 4) ++ "z"))) : BdA (2 * c + 20) (d + 3) (od5 p z w) :=
  (BdA.cons (Bd.le hk (by omega) (by omega)) (BdA.cons (Bd.le (BdL.tup (BdL.cons hw (BdL.cons (BdL.tup (BdL.cons hp (BdL.cons hk BdL.nil))) BdL.nil))) (by omega) (by omega)) (BdA.cons (Bd.le (BdL.tup (BdL.cons hw (BdL.cons (BdL.tup (BdL.cons hk (BdL.cons hp BdL.nil))) BdL.nil))) (by omega) (by omega)) (BdA.cons (Bd.le (BdL.tup (BdL.cons hw (BdL.cons (BdL.tup (BdL.cons (BdL.tup (BdL.cons (Bd.str (z := "kind") (by decide +kernel)) (BdL.cons hC BdL.nil))) (BdL.cons hp BdL.nil))) BdL.nil))) (by omega) (by omega)) BdA.nil))))
end K11

/-! ## K11qv -/
set_option Elab.async false
set_option linter.all false
set_option maxRecDepth 100000
set_option maxHeartbeats 4000000
namespace K11
open PySem PySem.Spec PyProof.Rows L2 AK MP
theorem x_mkT4 {x y z u : PV} {s : S} : mkT [.p x, .p y, .p z, .p u] s = .ok (.p (.tup [x, y, z, u])) s := rfl
theorem ltrs_of {z : Str} (h : z.cps.toList.all (fun c => decide (c ∈ abcS.cps.toList)) = true) : ltrs z := fun c hc => of_decide_eq_true (List.all_eq_true.mp h c hc)
theorem tag_bd {w : Str} {x : PV} {c d : Nat} (hw : okP (.str w) = true) (h : Bd c d x) : Bd (c + 2) (d + 1) (.tup [.str w, x]) := (BdL.tup (BdL.cons (Bd.str hw) (BdL.cons h BdL.nil))).le (by omega) (by omega)
theorem sp__law_odd (s : S) (r : Rn) {Z : List Str} (hne : Z ≠ []) (hg : ∀ z ∈ Z, good z) (hl : Z.length ≤ 20) {p : PV} {c d : Nat} (hp : Bd c d p) : ∃ (v : PV) (r' : Rn), Bd (2 * c + 20) (d + 3) v ∧ m__law_odd [.g, .p p, .p (.lst (Z.map PV.str))] (s.dr r) = .ok (.p v) (s.dr r') := by
  obtain ⟨k, r1, hk, e1⟩ := draw_ex s r (m := 6) (by decide) (by decide)
  obtain ⟨zv, r2, hz, e2⟩ := pick_ex s r1 (xs := Z.map PV.str) (by simpa using hne) (by rw [List.length_map]; omega)
  obtain ⟨wv, r3, hw, e3⟩ := pick_ex s r2 (xs := [.str "and", .str "or"]) (by simp) (by simp)
  obtain ⟨z, hzm, rfl⟩ := List.mem_map.mp hz
  have gz := hg z hzm
  have hwz : ∃ w : Str, wv = .str w ∧ (w = "and" ∨ w = "or") := by
    simp only [List.mem_cons, List.not_mem_nil, or_false] at hw
    rcases hw with e | e
    · exact ⟨_, e, .inl rfl⟩
    · exact ⟨_, e, .inr rfl⟩
  obtain ⟨w, rfl, hwo⟩ := hwz
  have bz : Bd 1 0 (.str z) := Bd.str (good_okP gz)
  have bw : Bd 1 0 (.str w) := Bd.str (wd_okP hwo)
  have kOk : okP (.str "kind") = true := by decide +kernel
  have mOk : okP (.str "many") = true := by decide +kernel
  have bk : Bd 3 1 (.tup [.str "kind", .str z]) := tag_bd kOk bz
  have h4 := cut4 gz.1
  have bA : Bd 1 0 (.str (z ++ "aaaaa")) := Bd.str (cat_ok gz.1 gz.2.2 (by decide +kernel) (by decide +kernel))
  have bB : Bd 1 0 (.str (cutS z none (some 4) ++ "1")) := Bd.str (cat_ok h4.1 (by omega) (by decide +kernel) (by decide +kernel))
  have bC : Bd 1 0 (.str (cutS z none (some 4) ++ "z")) := Bd.str (cat_ok h4.1 (by omega) (by decide +kernel) (by decide +kernel))
  have k6 : k = 0 ∨ k = 1 ∨ k = 2 ∨ k = 3 ∨ k = 4 ∨ k = 5 := by omega
  have sl : ∀ s, slV (.p (.str z)) none (some 4) s = .ok (.p (.str (cutS z none (some 4)))) s := fun s => x_slS (by have := gz.2.2; omega)
  have aA : ∀ s, MP.addV (.p (.str z)) (.p (.str "aaaaa")) s = .ok (.p (.str (z ++ "aaaaa"))) s := fun s => x_addS (by have h1 := gz.2.2; rw [show Str.length "aaaaa" = 5 from by decide +kernel]; omega)
  have aB : ∀ s, MP.addV (.p (.str (cutS z none (some 4)))) (.p (.str "1")) s = .ok (.p (.str (cutS z none (some 4) ++ "1"))) s := fun s => x_addS (by have h1 := h4.2; rw [show Str.length "1" = 1 from by decide +kernel]; omega)
  have aC : ∀ s, MP.addV (.p (.str (cutS z none (some 4)))) (.p (.str "z")) s = .ok (.p (.str (cutS z none (some 4) ++ "z"))) s := fun s => x_addS (by have h1 := h4.2; rw [show Str.length "z" = 1 from by decide +kernel]; omega)
  unfold m__law_odd
  rw [x_defM]
  rcases k6 with rfl | rfl | rfl | rfl | rfl | rfl
  · obtain ⟨v, r4, hv, e4⟩ := pick_ex s r3 (xs := od0 p z w) (by simp [od0]) (by simp [od0])
    have hb := od0_bd hp bz bw bk bA bB bC v hv
    refine ⟨v, r4, hb, ?_⟩
    simp -implicitDefEqProofs [od0] at e4
    simp -implicitDefEqProofs at e1
    simp -implicitDefEqProofs [b__law_odd, e1, e2, e3, mkL, allP, e4]
  · obtain ⟨v, r4, hv, e4⟩ := pick_ex s r3 (xs := od1 p z w) (by simp [od1]) (by simp [od1])
    have hb := tag_bd kOk (od1_bd hp bz bw bk bA bB bC v hv)
    refine ⟨_, r4, hb.le (by omega) (by omega), ?_⟩
    simp -implicitDefEqProofs [od1] at e4
    simp -implicitDefEqProofs at e1
    simp -implicitDefEqProofs [b__law_odd, e1, e2, e3, mkL, allP, sl, aA, aB, e4]
  · obtain ⟨v, r4, hv, e4⟩ := pick_ex s r3 (xs := od2 p z w) (by simp [od2]) (by simp [od2])
    have hb := BdL.tup (BdL.cons (Bd.str mOk) (BdL.cons (od2_bd hp bz bw bk bA bB bC v hv) (BdL.cons hp BdL.nil)))
    refine ⟨_, r4, hb.le (by omega) (by omega), ?_⟩
    simp -implicitDefEqProofs [od2] at e4
    simp -implicitDefEqProofs at e1
    simp -implicitDefEqProofs [b__law_odd, e1, e2, e3, mkL, allP, e4]
  · obtain ⟨v, r4, hv, e4⟩ := pick_ex s r3 (xs := od3 p z w) (by simp [od3]) (by simp [od3])
    have hb := od3_bd hp bz bw bk bA bB bC v hv
    refine ⟨v, r4, hb, ?_⟩
    simp -implicitDefEqProofs [od3] at e4
    simp -implicitDefEqProofs at e1
    simp -implicitDefEqProofs [b__law_odd, e1, e2, e3, mkL, allP, x_mkT4, e4]
  · obtain ⟨m, r4, hm, e4⟩ := draw_ex s r3 (m := 59) (by decide) (by decide)
    have hb := BdL.tup (BdL.cons (Bd.str mOk) (BdL.cons (Bd.int (i := 2 + (m : Int)) (by omega)) (BdL.cons hp BdL.nil)))
    refine ⟨_, r4, hb.le (by omega) (by omega), ?_⟩
    simp -implicitDefEqProofs at e1
    simp -implicitDefEqProofs [b__law_odd, e1, e2, e3, mkL, allP, e4]
  · obtain ⟨v, r4, hv, e4⟩ := pick_ex s r3 (xs := od5 p z w) (by simp [od5]) (by simp [od5])
    have hb := od5_bd hp bz bw bk bA bB bC v hv
    refine ⟨v, r4, hb, ?_⟩
    simp -implicitDefEqProofs [od5] at e4
    simp -implicitDefEqProofs at e1
    simp -implicitDefEqProofs [b__law_odd, e1, e2, e3, mkL, allP, sl, aC, e4]
end K11

/-! ## K11qw -/
set_option Elab.async false
set_option linter.all false
set_option maxRecDepth 100000
set_option maxHeartbeats 4000000
namespace K11
open PySem PySem.Spec PyProof.Rows L2 AK MP
inductive Dp : Nat → PV → Prop
  | z : Dp 0 (.tup [.str "kind", .str "a"])
  | s {n : Nat} {w z : Str} {v : PV} : (w = "and" ∨ w = "or") → okP (.str z) = true → Dp n v → Dp (n + 1) (.tup [.str w, .tup [v, .tup [.str "kind", .str z]]])
theorem Dp.bd {n : Nat} {v : PV} (h : Dp n v) : Bd (6 * n + 3) (2 * n + 1) v ∧ 2 * n ≤ htD v := by
  have kOk : okP (.str "kind") = true := by decide +kernel
  induction h with
  | z => exact ⟨tag_bd kOk (Bd.str (by decide +kernel)), Nat.zero_le _⟩
  | @s n w z v hw hz _ ih =>
    refine ⟨(BdL.tup (BdL.cons (Bd.str (wd_okP hw)) (BdL.cons (BdL.tup (BdL.cons ih.1 (BdL.cons (tag_bd kOk (Bd.str hz)) BdL.nil))) BdL.nil))).le (by omega) (by omega), ?_⟩
    rw [htD, htL, htL, htL, htD, htL, htL]
    have := ih.2
    omega
theorem Dp.wrong {n : Nat} {v : PV} (h : Dp n v) : ∀ (F j : Nat), n < F → j ≤ 7 → 8 ≤ j + n → (wrongF F 1 ⟨j, [], j⟩ v).1 = some 7 := by
  induction h with
  | z => intro F j _ h1 h2; omega
  | @s n w z v hw hz _ ih =>
    intro F j hF h1 h2
    cases F with
    | zero => omega
    | succ F =>
      have hps := pt_node (w := w) (ps := [v, .tup [.str "kind", .str z]]) hw (by simp)
      have t1 : ¬ tagD (.tup [.str w, .tup [v, .tup [.str "kind", .str z]]]) = "kind" := wd_kind hw
      have t2 : ¬ tagD (.tup [.str w, .tup [v, .tup [.str "kind", .str z]]]) = "many" := wd_many hw
      rw [wrongF, hps]
      show (if _ then _ else if _ then _ else if 8 ≤ j + 1 then _ else _ : Option Nat × Sn).1 = _
      rw [if_neg t1, if_neg t2]
      by_cases h7 : 8 ≤ j + 1
      · rw [if_pos h7]
        show some j = _
        rw [show j = 7 by omega]
      · rw [if_neg h7]
        have e := ih F (j + 1) (by omega) (by omega) (by omega)
        show (foldW (wrongF F 1) ⟨j + 1, [], j + 1⟩ [v, _]).1 = _
        rw [foldW]
        cases hh : wrongF F 1 ⟨j + 1, [], j + 1⟩ v with
        | mk a b =>
          rw [hh] at e
          have e' : a = some 7 := e
          rw [e']
def hiV (m : Nat) : Nat → PV
  | 0 => .tup [.str "kind", .str "b"]
  | n + 1 => .tup [.str "many", .int (m : Nat), hiV m n]
theorem hi_bd {m : Nat} (hm : m ≤ 1000) : ∀ n, Bd (3 * n + 3) (n + 1) (hiV m n) ∧ n ≤ htD (hiV m n)
  | 0 => ⟨tag_bd (by decide +kernel) (Bd.str (by decide +kernel)), Nat.zero_le _⟩
  | n + 1 => by
    obtain ⟨h1, h2⟩ := hi_bd hm n
    refine ⟨(many_bd hm h1).le (by omega) (by omega), ?_⟩
    rw [hiV, htD, htL, htL, htL, htL]
    omega
theorem hi_step {m n F j : Nat} {ab : Int} (h2 : 2 ≤ m) (h6 : m ≤ 60) : (wrongF (F + 1) ab ⟨j, [], 0⟩ (hiV m (n + 1))).1 = if 60 < ab * (m : Nat) then some j else (foldW (wrongF F (ab * (m : Nat))) ⟨j + 1, [], 0⟩ [hiV m n]).1 := by
  have hps := pt_many (m := m) (v := hiV m n) h2 h6
  have t1 : ¬ tagD (.tup [.str "many", .int (m : Nat), hiV m n]) = "kind" := many_kind
  rw [hiV, wrongF, hps]
  show (if _ then _ else if tagD (.tup [.str "many", .int (m : Nat), hiV m n]) = "many" then (if 60 < ab * (m : Nat) then _ else _) else _ : Option Nat × Sn).1 = _
  rw [if_neg t1, if_pos (show tagD (.tup [.str "many", .int (m : Nat), hiV m n]) = "many" from rfl)]
  split <;> rfl
theorem hi_go {m n F j i : Nat} {ab : Int} (h2 : 2 ≤ m) (h6 : m ≤ 60) (hab : ¬ 60 < ab * (m : Nat)) (h : (wrongF F (ab * (m : Nat)) ⟨j + 1, [], 0⟩ (hiV m n)).1 = some i) : (wrongF (F + 1) ab ⟨j, [], 0⟩ (hiV m (n + 1))).1 = some i := by
  rw [hi_step h2 h6, if_neg hab, foldW]
  cases hh : wrongF F (ab * (m : Nat)) ⟨j + 1, [], 0⟩ (hiV m n) with
  | mk a b =>
    rw [hh] at h
    have h' : a = some i := h
    rw [h']
theorem hi_end {m n F j : Nat} {ab : Int} (h2 : 2 ≤ m) (h6 : m ≤ 60) (hab : 60 < ab * (m : Nat)) : (wrongF (F + 1) ab ⟨j, [], 0⟩ (hiV m (n + 1))).1 = some j := by
  rw [hi_step h2 h6, if_pos hab]
theorem hi2 {n F : Nat} : (wrongF (F + 6) 1 ⟨0, [], 0⟩ (hiV 2 (n + 6))).1 = some 5 :=
  hi_go (by decide) (by decide) (by decide) (hi_go (by decide) (by decide) (by decide) (hi_go (by decide) (by decide) (by decide) (hi_go (by decide) (by decide) (by decide) (hi_go (by decide) (by decide) (by decide) (hi_end (by decide) (by decide) (by decide))))))
theorem hi3 {n F : Nat} : (wrongF (F + 4) 1 ⟨0, [], 0⟩ (hiV 3 (n + 4))).1 = some 3 :=
  hi_go (by decide) (by decide) (by decide) (hi_go (by decide) (by decide) (by decide) (hi_go (by decide) (by decide) (by decide) (hi_end (by decide) (by decide) (by decide))))
theorem hi4 {n F : Nat} : (wrongF (F + 3) 1 ⟨0, [], 0⟩ (hiV 4 (n + 3))).1 = some 2 :=
  hi_go (by decide) (by decide) (by decide) (hi_go (by decide) (by decide) (by decide) (hi_end (by decide) (by decide) (by decide)))
end K11

/-! ## K11qx -/
set_option Elab.async false
set_option linter.all false
set_option maxRecDepth 100000
set_option maxHeartbeats 4000000
namespace K11
open PySem PySem.Spec PyProof.Rows L2 AK MP
abbrev WsV (w0 w1 : Str) : PV := .lst [.str w0, .str w1]
theorem ws_ix {w0 w1 : Str} (h0 : w0 = "and" ∨ w0 = "or") (h1 : w1 = "and" ∨ w1 = "or") (k : Nat) : ∃ w : Str, (w = "and" ∨ w = "or") ∧ ∀ s, ixV (.p (WsV w0 w1)) (.p (.int ((k : Int) % 2))) s = .ok (.p (.str w)) s := by
  by_cases hk : k % 2 = 0
  · refine ⟨w0, h0, fun s => ?_⟩
    rw [show (k : Int) % 2 = 0 by omega]
    exact x_ixL0
  · refine ⟨w1, h1, fun s => ?_⟩
    rw [show (k : Int) % 2 = 1 by omega]
    exact x_ixL1
theorem dp_loop {w0 w1 : Str} (h0 : w0 = "and" ∨ w0 = "or") (h1 : w1 = "and" ∨ w1 = "or") {m : Nat} {s : S} {G : List MV} {q6 : Option MV} : ∀ (T : List MV) (n j : Nat) (v : PV) (q : Option MV), (∀ x ∈ T, ∃ k : Nat, x = .p (.int (k : Nat))) → Dp n v → ∃ (v' : PV) (q' : Option MV), Dp (n + T.length) v' ∧ forI ⟨G, none⟩ (nameT 5) l__law_deep_right_2 T [some .g, some (.p (WsV w0 w1)), some (.p (.int (m : Nat))), some (.p v), some (.p (hiV m j)), q, q6] s = .nx [some .g, some (.p (WsV w0 w1)), some (.p (.int (m : Nat))), some (.p v'), some (.p (hiV m (j + T.length))), q', q6] s
  | [], n, j, v, q, _, hv => ⟨v, q, hv, x_for0⟩
  | x :: T, n, j, v, q, hT, hv => by
    obtain ⟨k, rfl⟩ := hT x List.mem_cons_self
    obtain ⟨w, hw, ew⟩ := ws_ix h0 h1 k
    obtain ⟨v', q', hv', e⟩ := dp_loop h0 h1 (m := m) (s := s) (G := G) (q6 := q6) T (n + 1) (j + 1) (.tup [.str w, .tup [v, .tup [.str "kind", .str "b"]]]) (some (.p (.int (k : Nat)))) (fun y hy => hT y (List.mem_cons_of_mem _ hy)) (Dp.s hw (by decide +kernel) hv)
    refine ⟨v', q', by rw [List.length_cons, show n + (T.length + 1) = n + 1 + T.length by omega]; exact hv', ?_⟩
    have em := x_modI (i := (k : Int)) (j := 2) (s := s) (by decide)
    have e2 : l__law_deep_right_2 [some .g, some (.p (WsV w0 w1)), some (.p (.int (m : Nat))), some (.p v), some (.p (hiV m j)), some (.p (.int (k : Nat))), q6] s = .nx [some .g, some (.p (WsV w0 w1)), some (.p (.int (m : Nat))), some (.p (.tup [.str w, .tup [v, .tup [.str "kind", .str "b"]]])), some (.p (hiV m (j + 1))), some (.p (.int (k : Nat))), q6] s := by
      unfold l__law_deep_right_2
      simp -implicitDefEqProofs [em, ew, hiV]
    rw [x_forN]
    show (l__law_deep_right_2 [some .g, some (.p (WsV w0 w1)), some (.p (.int (m : Nat))), some (.p v), some (.p (hiV m j)), some (.p (.int (k : Nat))), q6] s).turn _ = _
    rw [e2, x_turnnx, e, List.length_cons, show j + (T.length + 1) = j + 1 + T.length by omega]
theorem b_ok : ∀ c ∈ Str.cps "bcdefghi" |>.toList, okP (.str ⟨#[c]⟩) = true := by decide +kernel
theorem b_len : (Str.cps "bcdefghi").toList.length = 8 := by decide +kernel
theorem b_ix {k : Nat} (h : k < 8) : ∃ z : Str, okP (.str z) = true ∧ ∀ s, ixV (.p (.str "bcdefghi")) (.p (.int (k : Nat))) s = .ok (.p (.str z)) s := by
  have hk : k < (Str.cps "bcdefghi").toList.length := by rw [b_len]; exact h
  exact ⟨_, b_ok _ (List.getElem_mem hk), fun s => x_ixSn (List.getElem?_eq_getElem hk) (by decide +kernel)⟩
theorem lt_loop {w0 w1 : Str} (h0 : w0 = "and" ∨ w0 = "or") (h1 : w1 = "and" ∨ w1 = "or") {a2 a3 a4 : Option MV} {s : S} {G : List MV} : ∀ (T : List MV) (n : Nat) (v : PV) (q : Option MV), (∀ x ∈ T, ∃ k : Nat, k < 8 ∧ x = .p (.int (k : Nat))) → Dp n v → ∃ (v' : PV) (q' : Option MV), Dp (n + T.length) v' ∧ forI ⟨G, none⟩ (nameT 5) l__law_deep_right_1 T [some .g, some (.p (WsV w0 w1)), a2, a3, a4, q, some (.p v)] s = .nx [some .g, some (.p (WsV w0 w1)), a2, a3, a4, q', some (.p v')] s
  | [], n, v, q, _, hv => ⟨v, q, hv, x_for0⟩
  | x :: T, n, v, q, hT, hv => by
    obtain ⟨k, hk, rfl⟩ := hT x List.mem_cons_self
    obtain ⟨w, hw, ew⟩ := ws_ix h0 h1 k
    obtain ⟨z, hz, ez⟩ := b_ix hk
    obtain ⟨v', q', hv', e⟩ := lt_loop h0 h1 (a2 := a2) (a3 := a3) (a4 := a4) (s := s) (G := G) T (n + 1) (.tup [.str w, .tup [v, .tup [.str "kind", .str z]]]) (some (.p (.int (k : Nat)))) (fun y hy => hT y (List.mem_cons_of_mem _ hy)) (Dp.s hw hz hv)
    refine ⟨v', q', by rw [List.length_cons, show n + (T.length + 1) = n + 1 + T.length by omega]; exact hv', ?_⟩
    have em := x_modI (i := (k : Int)) (j := 2) (s := s) (by decide)
    have e2 : l__law_deep_right_1 [some .g, some (.p (WsV w0 w1)), a2, a3, a4, some (.p (.int (k : Nat))), some (.p v)] s = .nx [some .g, some (.p (WsV w0 w1)), a2, a3, a4, some (.p (.int (k : Nat))), some (.p (.tup [.str w, .tup [v, .tup [.str "kind", .str z]]]))] s := by
      unfold l__law_deep_right_1
      simp -implicitDefEqProofs [em, ew, ez]
    rw [x_forN]
    show (l__law_deep_right_1 [some .g, some (.p (WsV w0 w1)), a2, a3, a4, some (.p (.int (k : Nat))), some (.p v)] s).turn _ = _
    rw [e2, x_turnnx, e]
theorem heard_ne {v : PV} {i : Nat} {s : S} (hb : Bd 2900 10000 v) (hw : wrongV v = some i) (hi : i < 8) : m__law_heard [.p v] s = .ok (.p (.tup [.str "formula", .int (i : Nat)])) s ∧ eqV true (.p (.tup [.str "formula", .int (i : Nat)])) (.p (.tup [.str "formula", .int (i : Nat)])) s = .ok (.p (.bl false)) s := by
  constructor
  · rw [sp__law_heard hb.1 hb.2.1]
    unfold heardV
    rw [hw]
  · have h8 : i = 0 ∨ i = 1 ∨ i = 2 ∨ i = 3 ∨ i = 4 ∨ i = 5 ∨ i = 6 ∨ i = 7 := by omega
    have hd : ∀ j : Nat, j < 8 → PV.isD 60 (.tup [.str "formula", .int (j : Nat)]) = true ∧ ((PV.tup [.str "formula", .int (j : Nat)]).eqv (.tup [.str "formula", .int (j : Nat)])) = true := by decide +kernel
    obtain ⟨d1, d2⟩ := hd i hi
    rw [x_ne d1 d1, d2]
    rfl
end K11

/-! ## K11pf -/
set_option Elab.async false
set_option linter.all false
set_option maxRecDepth 100000
set_option maxHeartbeats 4000000
namespace K11
open PySem PySem.Spec PyProof.Rows L2 AK MP
/-- the law after its first statement -/
def l_law_1 : ST :=
(seqS (asgS (callE (m__law_parts 61) (consE (var 3) nilE)) (nameT 5))
(seqS (par2 6 7 (consE (callE drawV (consE (var 1) (consE (unL lenV (consE (var 5) nilE)) nilE))) (consE (callE drawV (consE (var 1) (consE (unL lenV (consE (var 5) nilE)) nilE))) nilE)))
(seqS (asgS (callE (m__law_replaced 61) (consE (var 3) (consE (lstM (consE (cst (.int 0)) nilE)) (consE (var 6) (consE (callE m__law_odd (consE (var 1) (consE (bin ixV (var 5) (var 6)) (consE (bin addV (var 2) (lstE (consE (cst (.str "a")) (consE (cst (.str "zzzzz")) nilE)))) nilE)))) nilE))))) (nameT 8))
(seqS (ifS (notT (test (callE m__law_right (consE (var 8) nilE))))
(retS (cst (.bl false)))
skipS)
(seqS (asgS (callE (m__law_replaced 61) (consE (var 3) (consE (lstM (consE (cst (.int 0)) nilE)) (consE (var 7) (consE (callE m__law_odd (consE (var 1) (consE (bin ixV (var 5) (var 7)) (consE (var 2) nilE)))) nilE))))) (nameT 9))
(seqS (ifS (andT (test (bin ltV (var 7) (var 6))) (test (bin (eqV false) (callE drawV (consE (var 1) (consE (cst (.int 2)) nilE))) (cst (.int 0)))))
(asgS (tupE (consE (cst (.str "and")) (consE (tupE (consE (var 9) (consE (var 8) nilE))) nilE))) (nameT 9))
skipS)
(ifS (orT (notT (test (callE m__law_right (consE (var 9) nilE)))) (notT (test (callE m__law_right (consE (tupE (consE (cst (.str "or")) (consE (tupE (consE (var 8) (consE (tupE (consE (cst (.str "kind")) (consE (cst (.str "qqqqq")) nilE))) (consE (var 9) nilE)))) nilE))) nilE)))))
(retS (cst (.bl false)))
skipS)))))))
def r_law : ST :=
(seqS (asgS (callE m__law_names (consE (var 1) (consE (bin addV (cst (.int 1)) (callE drawV (consE (var 1) (consE (cst (.int 8)) nilE)))) nilE))) (nameT 2))
(seqS (asgS (callE (m__law_formula 20) (consE (var 1) (consE (callE m__law_mixed (consE (var 1) (consE (var 2) nilE))) (consE (callE m__law_pick (consE (var 1) (consE (lstE (consE (cst (.int 1)) (consE (cst (.int 4)) (consE (cst (.int 12)) (consE (cst (.int 60)) nilE))))) nilE))) nilE)))) (nameT 3))
(seqS (ifS (orT (test (bin (eqV true) (callE m_kinds_of (consE (var 3) nilE)) (unL tupV (consE (var 2) nilE)))) (notT (test (callE m__law_right (consE (var 3) nilE)))))
(retS (cst (.bl false)))
skipS)
(seqS (forS (rngE1 (consE (cst (.int 3)) nilE)) (nameT 4)
l_law_1)
(retS (andE (callE m__law_right (consE (var 3) nilE)) (andE (callE m__law_right (consE (callE m__law_edge (consE (var 1) (consE (var 2) nilE))) nilE)) (callE m__law_deep_right (consE (var 1) nilE)))))))))
end K11

/-! ## K11qy -/
set_option Elab.async false
set_option linter.all false
set_option maxRecDepth 100000
set_option maxHeartbeats 4000000
namespace K11
open PySem PySem.Spec PyProof.Rows L2 AK MP
theorem hi_wrong {n d : Nat} (hn : 9 ≤ n) (hd : d < 3) : ∃ i : Nat, i < 8 ∧ wrongV (hiV (2 + d) n) = some i ∧ ([5, 3, 2] : List Nat)[d]? = some i := by
  have h3 : d = 0 ∨ d = 1 ∨ d = 2 := by omega
  have hh := (hi_bd (m := 2 + d) (by omega) n).2
  unfold wrongV
  rcases h3 with rfl | rfl | rfl
  · refine ⟨5, by decide, ?_, rfl⟩
    obtain ⟨F, hF⟩ : ∃ F, htD (hiV (2 + 0) n) + 1 = F + 6 := ⟨htD (hiV (2 + 0) n) - 5, by omega⟩
    obtain ⟨n', rfl⟩ : ∃ n', n = n' + 6 := ⟨n - 6, by omega⟩
    rw [hF]; exact hi2
  · refine ⟨3, by decide, ?_, rfl⟩
    obtain ⟨F, hF⟩ : ∃ F, htD (hiV (2 + 1) n) + 1 = F + 4 := ⟨htD (hiV (2 + 1) n) - 3, by omega⟩
    obtain ⟨n', rfl⟩ : ∃ n', n = n' + 4 := ⟨n - 4, by omega⟩
    rw [hF]; exact hi3
  · refine ⟨2, by decide, ?_, rfl⟩
    obtain ⟨F, hF⟩ : ∃ F, htD (hiV (2 + 2) n) + 1 = F + 3 := ⟨htD (hiV (2 + 2) n) - 2, by omega⟩
    obtain ⟨n', rfl⟩ : ∃ n', n = n' + 3 := ⟨n - 3, by omega⟩
    rw [hF]; exact hi4
theorem dp_wrong {n : Nat} {v : PV} (h : Dp n v) (hn : 9 ≤ n) : wrongV v = some 7 := by
  have := h.bd.2
  exact h.wrong (htD v + 1) 0 (by omega) (by decide) (by omega)
theorem sp__law_deep_right (s : S) (r : Rn) : ∃ r', m__law_deep_right [.g] (s.dr r) = .ok (.p (.bl true)) (s.dr r') := by
  obtain ⟨wv, r1, hw, e1⟩ := pick_ex s r (xs := [WsV "and" "and", WsV "or" "or", WsV "and" "or", WsV "or" "and"]) (by simp) (by simp)
  have hwz : ∃ w0 w1 : Str, wv = WsV w0 w1 ∧ (w0 = "and" ∨ w0 = "or") ∧ (w1 = "and" ∨ w1 = "or") := by
    simp only [List.mem_cons, List.not_mem_nil, or_false] at hw
    rcases hw with e | e | e | e
    · exact ⟨_, _, e, .inl rfl, .inl rfl⟩
    · exact ⟨_, _, e, .inr rfl, .inr rfl⟩
    · exact ⟨_, _, e, .inl rfl, .inr rfl⟩
    · exact ⟨_, _, e, .inr rfl, .inl rfl⟩
  obtain ⟨w0, w1, rfl, h0, h1⟩ := hwz
  obtain ⟨d, r2, hd, e2⟩ := draw_ex s r1 (m := 3) (by decide) (by decide)
  obtain ⟨n, r3, hn, e3⟩ := draw_ex s r2 (m := 60) (by decide) (by decide)
  have er := x_rng1 (k := 9 + n) (s := s.dr r3) (by omega)
  obtain ⟨dv, q5, hdv, e4⟩ := dp_loop h0 h1 (m := 2 + d) (s := s.dr r3) (G := rngL 0 (9 + n)) (q6 := none) (rngL 0 (9 + n)) 0 0 (.tup [.str "kind", .str "a"]) none (fun x hx => by obtain ⟨j, hj, e⟩ := rng_mem hx; exact ⟨j, e⟩) Dp.z
  rw [rng_len, Nat.zero_add] at hdv e4
  obtain ⟨i, hi8, hwr, hix⟩ := hi_wrong (n := 9 + n) (d := d) (by omega) (by omega)
  have hb1 := hdv.bd.1
  have hb2 := (hi_bd (m := 2 + d) (by omega) (9 + n)).1
  obtain ⟨e5, e6⟩ := heard_ne (s := s.dr r3) (hb1.le (by omega) (by omega)) (dp_wrong hdv (by omega)) (by decide)
  obtain ⟨e7, e8⟩ := heard_ne (s := s.dr r3) (hb2.le (by omega) (by omega)) hwr hi8
  obtain ⟨l, r4, hl, e9⟩ := draw_ex s r3 (m := 3) (by decide) (by decide)
  have er2 := x_rng1 (k := 6 + l) (s := s.dr r4) (by omega)
  obtain ⟨lv, q7, hlv, e10⟩ := lt_loop h0 h1 (a2 := some (.p (.int ((2 + d : Nat) : Int)))) (a3 := some (.p dv)) (a4 := some (.p (hiV (2 + d) (9 + n)))) (s := s.dr r4) (G := rngL 0 (6 + l)) (rngL 0 (6 + l)) 0 (.tup [.str "kind", .str "a"]) q5 (fun x hx => by obtain ⟨j, hj, e⟩ := rng_mem hx; exact ⟨j, by omega, e⟩) Dp.z
  rw [rng_len, Nat.zero_add] at hlv
  have hb3 := hlv.bd.1
  have e11 := sp__law_right (s := s.dr r4) hb3.1 (by have := hb3.2.2; omega) (by have := hb3.2.1; omega)
  have kOk : okP (.str "kind") = true := by decide +kernel
  have hb4 := BdL.tup (BdL.cons (Bd.str (wd_okP h0)) (BdL.cons (BdL.tup (BdL.cons (tag_bd kOk (Bd.str (z := "z") (by decide +kernel))) (BdL.cons hb3 BdL.nil))) BdL.nil))
  have e12 := sp__law_right (s := s.dr r4) hb4.1 (by have := hb4.2.2; omega) (by have := hb4.2.1; omega)
  have ix3 : ∀ s, ixV (.p (.lst [.int 5, .int 3, .int 2])) (.p (.int (2 + (d : Int) - 2))) s = .ok (.p (.int (i : Nat))) s := fun s => by
    rw [show 2 + (d : Int) - 2 = (d : Nat) by omega]
    refine x_ixLn ?_
    have h3 : d = 0 ∨ d = 1 ∨ d = 2 := by omega
    rcases h3 with rfl | rfl | rfl <;> (cases hix; rfl)
  have c1 : ((2 + d : Nat) : Int) = 2 + (d : Int) := by omega
  have c2 : ((9 + n : Nat) : Int) = 9 + (n : Int) := by omega
  have c3 : ((6 + l : Nat) : Int) = 6 + (l : Int) := by omega
  rw [c1] at e4 e10
  rw [c2] at er
  rw [c3] at er2
  have e50 : ((7 : Nat) : Int) = 7 := rfl
  rw [e50] at e5 e6
  refine ⟨r4, ?_⟩
  unfold m__law_deep_right
  rw [x_defM]
  have hh0 : hiV (2 + d) 0 = .tup [.str "kind", .str "b"] := rfl
  rw [hh0] at e4
  simp -implicitDefEqProofs [b__law_deep_right, mkL, allP, e1, e2, e3, er]
  rw [e4]
  simp -implicitDefEqProofs [e5, e6, e7, ix3, e8, e9, er2]
  rw [e10]
  simp -implicitDefEqProofs [e11, e12]
end K11

/-! ## K11qz -/
set_option Elab.async false
set_option linter.all false
set_option maxRecDepth 100000
set_option maxHeartbeats 4000000
namespace K11
open PySem PySem.Spec PyProof.Rows L2 AK MP
def lwEnv (N : List Str) (v : PV) (q4 q5 q6 q7 q8 q9 : Option MV) : MP.Env := [none, some .g, some (.p (.lst (N.map PV.str))), some (.p v), q4, q5, q6, q7, q8, q9]
theorem good_a : good "a" := ⟨ltrs_of (by decide +kernel), by decide +kernel, by decide +kernel⟩
theorem good_z : good "zzzzz" := ⟨ltrs_of (by decide +kernel), by decide +kernel, by decide +kernel⟩
theorem Fv.small {M : List Str} {R : Nat} {v : PV} (hv : Fv M R v) (h8 : M.length ≤ 8) (hR : R.log2 ≤ 5) : Bd 270 20 v := by
  have h1 := hv.size
  have h2 := hv.depth
  have h3 : 6 * M.length * (R.log2 + 1) ≤ 48 * (R.log2 + 1) := Nat.mul_le_mul_right _ (by omega)
  exact ⟨hv.okP, by omega, by omega⟩
theorem right_bd {v : PV} {s : S} (h : Bd 2900 60 v) : m__law_right [.p v] s = .ok (.p (.bl true)) s := sp__law_right h.1 h.2.2 h.2.1
/-- one part replaced by an odd one -/
theorem spoil {M Z : List Str} {R : Nat} {v p : PV} (hv : Fv M R v) (h8 : M.length ≤ 8) (hR : R.log2 ≤ 5) (hne : Z ≠ []) (hg : ∀ z ∈ Z, good z) (hl : Z.length ≤ 20) (hp : Bd 270 20 p) (h t : List (Option MO)) (r : Rn) (a : Nat) : ∃ (o x : PV) (r' : Rn) (t' : List (Option MO)), Bd 830 43 x ∧ m__law_odd [.g, .p p, .p (.lst (Z.map PV.str))] (wS (some r) h (t ++ [some (.lst [.p (.int 0)])])) = .ok (.p o) (wS (some r') h (t ++ [some (.lst [.p (.int 0)])])) ∧ m__law_replaced 61 [.p v, .o (h.length + t.length), .p (.int (a : Nat)), .p o] (wS (some r') h (t ++ [some (.lst [.p (.int 0)])])) = .ok (.p x) (wS (some r') h t') := by
  obtain ⟨o, r1, ho, e1⟩ := sp__law_odd (wS none h (t ++ [some (.lst [.p (.int 0)])])) r hne hg hl hp
  have hb := hv.small h8 hR
  obtain ⟨x, k', x1, x2, x3, x4, e2⟩ := sp__law_replaced hv (a := a) ho.1 61 (by omega) (by have := hb.2.1; omega) (wS (some r1) h (t ++ [some (.lst [.p (.int 0)])])) (h.length + t.length) 0 (by simp)
  rw [wS_put] at e2
  simp only [dr_wS] at e1
  have hu : usd a k' (szD o) ≤ szD o := by unfold usd; split <;> omega
  have b1 := hb.2.1
  have b2 := hb.2.2
  have b3 := ho.2.1
  have b4 := ho.2.2
  exact ⟨o, x, r1, _, ⟨x1, by omega, by omega⟩, e1, e2⟩
theorem lw_turn {N M : List Str} {R : Nat} {v : PV} (hv : Fv M R v) (h8 : M.length ≤ 8) (hR : R.log2 ≤ 5) (hne : N ≠ []) (hg : ∀ z ∈ N, good z) (hl : N.length ≤ 8) {h t : List (Option MO)} {r : Rn} {q4 q5 q6 q7 q8 q9 : Option MV} : ∃ (r' : Rn) (t' : List (Option MO)) (a5 a6 a7 a8 a9 : Option MV), l_law_1 (lwEnv N v q4 q5 q6 q7 q8 q9) (wS (some r) h t) = .nx (lwEnv N v q4 a5 a6 a7 a8 a9) (wS (some r') h t') := by
  have hb := hv.small h8 hR
  have hb1 := hb.2.1
  obtain ⟨L, ⟨l1, l2, l3⟩, e1⟩ := sp__law_parts hv 61 (wS (some r) h t) (by omega) (by omega)
  have hLl := List.length_pos_iff.mpr l1
  obtain ⟨a, r1, ha, e2⟩ := draw_ex (wS none h t) r (m := (L.length : Int)) (by omega) (by omega)
  obtain ⟨b, r2, hb', e3⟩ := draw_ex (wS none h t) r1 (m := (L.length : Int)) (by omega) (by omega)
  simp only [dr_wS] at e2 e3
  have ha' : a < L.length := by omega
  have hb2 : b < L.length := by omega
  have ia : ∀ s, ixV (.p (.lst L)) (.p (.int (a : Nat))) s = .ok (.p L[a]) s := fun s => x_ixLn (List.getElem?_eq_getElem ha')
  have ib : ∀ s, ixV (.p (.lst L)) (.p (.int (b : Nat))) s = .ok (.p L[b]) s := fun s => x_ixLn (List.getElem?_eq_getElem hb2)
  have pa : Bd 270 20 L[a] := by obtain ⟨p1, p2, p3⟩ := l3 L[a] (List.getElem_mem ha'); have := hb.2.2; exact ⟨p1, by omega, by omega⟩
  have pb : Bd 270 20 L[b] := by obtain ⟨p1, p2, p3⟩ := l3 L[b] (List.getElem_mem hb2); have := hb.2.2; exact ⟨p1, by omega, by omega⟩
  obtain ⟨o1, x1, r3, t3, bx1, e4, e5⟩ := spoil hv h8 hR (Z := N ++ ([("a" : Str), ("zzzzz" : Str)] : List Str)) (by simp) (fun z hz => by
    rcases List.mem_append.mp hz with hz | hz
    · exact hg z hz
    · simp only [List.mem_cons, List.not_mem_nil, or_false] at hz
      rcases hz with rfl | rfl
      · exact good_a
      · exact good_z) (by simp; omega) pa h t r2 a
  obtain ⟨o2, x2, r4, t4, bx2, e6, e7⟩ := spoil hv h8 hR (Z := N) hne hg (by omega) pb h t3 r3 b
  have ez : (N ++ ([("a" : Str), ("zzzzz" : Str)] : List Str)).map PV.str = N.map PV.str ++ [.str "a", .str "zzzzz"] := by rw [List.map_append]; rfl
  rw [ez] at e4
  have ea : ∀ s, MP.addV (.p (.lst (N.map PV.str))) (.p (.lst [.str "a", .str "zzzzz"])) s = .ok (.p (.lst (N.map PV.str ++ [.str "a", .str "zzzzz"]))) s := fun s => add_ll (by rw [List.length_map]; simp; omega)
  have kOk : okP (.str "kind") = true := by decide +kernel
  have aOk : okP (.str "and") = true := by decide +kernel
  have oOk : okP (.str "or") = true := by decide +kernel
  have bq := tag_bd kOk (Bd.str (z := "qqqqq") (by decide +kernel))
  have both : Bd 1665 45 (.tup [.str "and", .tup [x2, x1]]) := (BdL.tup (BdL.cons (Bd.str aOk) (BdL.cons (BdL.tup (BdL.cons bx2 (BdL.cons bx1 BdL.nil))) BdL.nil))).le (by omega) (by omega)
  have big : ∀ y, Bd 1665 45 y → Bd 2900 60 (.tup [.str "or", .tup [x1, .tup [.str "kind", .str "qqqqq"], y]]) := fun y hy => (BdL.tup (BdL.cons (Bd.str oOk) (BdL.cons (BdL.tup (BdL.cons bx1 (BdL.cons bq (BdL.cons hy BdL.nil)))) BdL.nil))).le (by omega) (by omega)
  have R1 : ∀ s, m__law_right [.p x1] s = .ok (.p (.bl true)) s := fun s => right_bd (bx1.le (by omega) (by omega))
  have R2 : ∀ s, m__law_right [.p x2] s = .ok (.p (.bl true)) s := fun s => right_bd (bx2.le (by omega) (by omega))
  have R3 : ∀ s, m__law_right [.p (.tup [.str "and", .tup [x2, x1]])] s = .ok (.p (.bl true)) s := fun s => right_bd (both.le (by omega) (by omega))
  have R4 : ∀ s, m__law_right [.p (.tup [.str "or", .tup [x1, .tup [.str "kind", .str "qqqqq"], x2]])] s = .ok (.p (.bl true)) s := fun s => right_bd (big x2 (bx2.le (by omega) (by omega)))
  have R5 : ∀ s, m__law_right [.p (.tup [.str "or", .tup [x1, .tup [.str "kind", .str "qqqqq"], .tup [.str "and", .tup [x2, x1]]]])] s = .ok (.p (.bl true)) s := fun s => right_bd (big _ both)
  by_cases hba : (b : Int) < (a : Int)
  · obtain ⟨d, r5, hd, e8⟩ := draw_ex (wS none h t4) r4 (m := 2) (by decide) (by decide)
    simp only [dr_wS] at e8
    by_cases d0 : d = 0
    · subst d0
      refine ⟨r5, t4, some (.p (.lst L)), some (.p (.int (a : Nat))), some (.p (.int (b : Nat))), some (.p x1), some (.p (.tup [.str "and", .tup [x2, x1]])), ?_⟩
      unfold l_law_1 lwEnv
      simp -implicitDefEqProofs at e8
      have hba' : b < a := by omega
      simp -implicitDefEqProofs [e1, e2, e3, ia, ib, ea, e4, e5, e6, e7, R1, R3, R5, hba', e8]
    · refine ⟨r5, t4, some (.p (.lst L)), some (.p (.int (a : Nat))), some (.p (.int (b : Nat))), some (.p x1), some (.p x2), ?_⟩
      unfold l_law_1 lwEnv
      have hba' : b < a := by omega
      simp -implicitDefEqProofs [e1, e2, e3, ia, ib, ea, e4, e5, e6, e7, R1, R2, R4, hba', e8, d0]
  · refine ⟨r4, t4, some (.p (.lst L)), some (.p (.int (a : Nat))), some (.p (.int (b : Nat))), some (.p x1), some (.p x2), ?_⟩
    unfold l_law_1 lwEnv
    have hba' : ¬ b < a := by omega
    simp -implicitDefEqProofs [e1, e2, e3, ia, ib, ea, e4, e5, e6, e7, R1, R2, R4, hba']
end K11

/-! ## K11ra -/
set_option Elab.async false
set_option linter.all false
set_option maxRecDepth 100000
set_option maxHeartbeats 4000000
namespace K11
open PySem PySem.Spec PyProof.Rows L2 AK MP
theorem lw_loop {N M : List Str} {R : Nat} {v : PV} (hv : Fv M R v) (h8 : M.length ≤ 8) (hR : R.log2 ≤ 5) (hne : N ≠ []) (hg : ∀ z ∈ N, good z) (hl : N.length ≤ 8) {h : List (Option MO)} {G : List MV} : ∀ (T : List MV) (t : List (Option MO)) (r : Rn) (q4 q5 q6 q7 q8 q9 : Option MV), ∃ (r' : Rn) (t' : List (Option MO)) (a4 a5 a6 a7 a8 a9 : Option MV), forI ⟨G, none⟩ (nameT 4) l_law_1 T (lwEnv N v q4 q5 q6 q7 q8 q9) (wS (some r) h t) = .nx (lwEnv N v a4 a5 a6 a7 a8 a9) (wS (some r') h t')
  | [], t, r, q4, q5, q6, q7, q8, q9 => ⟨r, t, q4, q5, q6, q7, q8, q9, x_for0⟩
  | x :: T, t, r, q4, q5, q6, q7, q8, q9 => by
    obtain ⟨r1, t1, b5, b6, b7, b8, b9, e1⟩ := lw_turn hv h8 hR hne hg hl (h := h) (t := t) (r := r) (q4 := some x) (q5 := q5) (q6 := q6) (q7 := q7) (q8 := q8) (q9 := q9)
    obtain ⟨r2, t2, a4, a5, a6, a7, a8, a9, e2⟩ := lw_loop hv h8 hR hne hg hl (h := h) (G := G) T t1 r1 (some x) b5 b6 b7 b8 b9
    refine ⟨r2, t2, a4, a5, a6, a7, a8, a9, ?_⟩
    rw [x_forN]
    show (l_law_1 (lwEnv N v (some x) q5 q6 q7 q8 q9) (wS (some r) h t)).turn _ = _
    rw [e1, x_turnnx, e2]
theorem room_ex (s : S) (r : Rn) : ∃ (R : Nat) (r' : Rn), 1 ≤ R ∧ R ≤ 60 ∧ R.log2 ≤ 5 ∧ m__law_pick [.g, .p (.lst [.int 1, .int 4, .int 12, .int 60])] (s.dr r) = .ok (.p (.int (R : Nat))) (s.dr r') := by
  obtain ⟨x, r', hx, e⟩ := pick_ex s r (xs := [.int 1, .int 4, .int 12, .int 60]) (by simp) (by simp)
  simp only [List.mem_cons, List.not_mem_nil, or_false] at hx
  rcases hx with rfl | rfl | rfl | rfl
  · exact ⟨1, r', by decide, by decide, by decide +kernel, e⟩
  · exact ⟨4, r', by decide, by decide, by decide +kernel, e⟩
  · exact ⟨12, r', by decide, by decide, by decide +kernel, e⟩
  · exact ⟨60, r', by decide, by decide, by decide +kernel, e⟩
theorem sp_r_law (h : List (Option MO)) (r : Rn) : ∃ s', r_law [none, some .g, none, none, none, none, none, none, none, none] ⟨some r, h⟩ = .rt (.p (.bl true)) s' := by
  obtain ⟨n, r1, hn, e1⟩ := draw_ex ⟨none, h⟩ r (m := 8) (by decide) (by decide)
  obtain ⟨N, r2, nl, ng, ns, e2⟩ := names_ex ⟨none, h⟩ r1 (n := 1 + n) (by omega) (by omega)
  obtain ⟨ys, r3, hp, e3⟩ := mixed_ex ⟨none, h⟩ r2 (xs := N.map PV.str) (by rw [List.length_map]; omega)
  obtain ⟨M, rfl, hM⟩ := perm_names hp
  have hMl : M.length = N.length := hM.length_eq
  obtain ⟨R, r4, R1, R2, R3, e4⟩ := room_ex ⟨none, h⟩ r3
  have hNe : N ≠ [] := fun e => by rw [e] at nl; simp at nl; omega
  obtain ⟨v, r5, hv, e5⟩ := formula_ok 20 M R ⟨none, h⟩ r4 (fun e => by rw [e] at hMl; exact hNe (List.eq_nil_of_length_eq_zero hMl.symm)) (fun z hz => ng z (hM.mem_iff.mp hz)) (by omega) R1 R2 (by omega)
  have hb := hv.small (by omega) R3
  obtain ⟨k1, k2⟩ := hv.okF 61 (by omega)
  have e6 := sp_kinds_of (s := ⟨some r5, h⟩) hv.okP k1 (by have := hb.2.1; omega) (by rw [k2]; omega)
  rw [k2, ← sortS_eq hM.symm ns] at e6
  have hd : PV.isD 60 (.tup (N.map PV.str)) = true := isD_of (by
    rw [okP]
    exact okL_of fun x hx => by obtain ⟨z, hz, rfl⟩ := List.mem_map.mp hx; exact good_okP (ng z hz)) (by
    rw [htD]
    have : ∀ L : List Str, htL (L.map PV.str) = 0 := fun L => by
      induction L with
      | nil => rw [List.map_nil, htL]
      | cons a t ih => rw [List.map_cons, htL, ih, htD_s]; rfl
    rw [this]; decide)
  have e7 := x_ne_self (s := ⟨some r5, h⟩) hd
  have e8 : ∀ s, m__law_right [.p v] s = .ok (.p (.bl true)) s := fun s => right_bd (hb.le (by decide) (by decide))
  have et : ∀ s, tupV [.p (.lst (N.map PV.str))] s = .ok (.p (.tup (N.map PV.str))) s := fun s => rfl
  have er := x_rng1 (k := 3) (s := ⟨some r5, h⟩) (by decide)
  obtain ⟨r6, t6, a4, a5, a6, a7, a8, a9, e9⟩ := lw_loop hv (by omega) R3 hNe ng (by omega) (h := h) (G := rngL 0 3) (rngL 0 3) [] r5 none none none none none none
  obtain ⟨x, r7, hx, e10⟩ := sp__law_edge (wS none h t6) r6 hNe ng (by omega)
  have e11 : ∀ s, m__law_right [.p x] s = .ok (.p (.bl true)) s := fun s => right_bd (hx.le (by decide) (by decide))
  obtain ⟨r8, e12⟩ := sp__law_deep_right (wS none h t6) r7
  simp only [dr_wS] at e10 e12
  rw [dr_eq, dr_eq] at e1 e2 e3 e4 e5
  rw [wS_nil] at e9
  have c1 : ((1 + n : Nat) : Int) = 1 + (n : Int) := by omega
  rw [c1] at e2
  have c3 : ((3 : Nat) : Int) = 3 := rfl
  rw [c3] at er
  refine ⟨wS (some r8) h t6, ?_⟩
  unfold lwEnv at e9
  simp -implicitDefEqProofs [r_law, mkL, allP, e1, e2, e3, e4, e5, e6, et, e7, e8, er]
  rw [e9]
  simp -implicitDefEqProofs [e8, e10, e11, e12]
end K11

/-! ## K11rb -/
set_option Elab.async false
set_option linter.all false
set_option maxRecDepth 100000
set_option maxHeartbeats 4000000
namespace K11
open PySem PySem.Spec PyProof.Rows L2 AK MP
section
variable {P : Program} {w : World} {K : PySem.W.Frag} {mg : Str → Option Value} {base : Heap}
/-- the walk of law after its first statement -/
theorem pr_law (T : Kt P K mg) {f0 : Addr} {cdv : Value} {B : Around} {up : List PySem.Env} {z : Shared} {H : Hp} {E : XK} (room : Room 66 (B.deeper (envOfC "law" (defScope s_law) z.heap.objs.size f0 cdv))) (gd : (B.deeper (envOfC "law" (defScope s_law) z.heap.objs.size f0 cdv)).guards = some []) :
    PSs (cxOf (L2.CX P w) P w K mg base n_law "law" (defScope s_law) f0 cdv B up z H E) ((defBody s_law).drop 1) (tMS ⟨mg, none⟩ (fun cls d _ H => E cls d H) r_law) := by
  have hr := room
  have hu64 := room64 room
  have hu61 := room61 room
  exact (sb_cons (ss_set (ps_set (i := 2) sc_law.nd rfl (Or.inl rfl) (es_call (f__law_names T) hr gd (takes_of rfl rfl rfl rfl) rfl (ea_cons (es_var (pv 1)) (ea_cons (es_add (es_int pe_int) (es_call (f__law_draw T) hr gd (takes_of rfl rfl rfl rfl) rfl (ea_cons (es_var (pv 1)) (ea_cons (es_int pe_int) ea_nil)))) ea_nil)))))
(sb_cons (ss_set (ps_set (i := 3) sc_law.nd rfl (Or.inl rfl) (es_call (f__law_formula T 20) hr gd (takes_of rfl rfl rfl rfl) rfl (ea_cons (es_var (pv 1)) (ea_cons (es_call (f__law_mixed T) hr gd (takes_of rfl rfl rfl rfl) rfl (ea_cons (es_var (pv 1)) (ea_cons (es_var (pv 2)) ea_nil))) (ea_cons (es_call (f__law_pick T) hr gd (takes_of rfl rfl rfl rfl) rfl (ea_cons (es_var (pv 1)) (ea_cons (es_lst (ea_cons (es_int pe_int) (ea_cons (es_int pe_int) (ea_cons (es_int pe_int) (ea_cons (es_int pe_int) ea_nil))))) ea_nil))) ea_nil))))))
(sb_cons (ss_if (PW.pt (ew_or (et_cmp (op_neX hu64) sim_ne (es_call (f_kinds_of T) hr gd (takes_of rfl rfl rfl rfl) rfl (ea_cons (es_var (pv 3)) ea_nil)) (es_cb sim_tup (ct bt_tuple (crTup (K := K) rfl) T.bt.tuple (ea_cons (es_var (pv 2)) ea_nil))) (by rfl)) (ew_or1 (et_not (et_val (es_call (f__law_right T) hr gd (takes_of rfl rfl rfl rfl) rfl (ea_cons (es_var (pv 3)) ea_nil)))))))
(sb_one (ss_ret (es_bl pe_bl)))
sb_nil)
(sb_cons (ss_for (passes_of rfl) rfl (ei_rng1 (pi_range1 rfl T.bt.range (ea_cons (es_int pe_int) ea_nil))) (sg_name (i := 4) (pg_name (i := 4) sc_law.nd rfl (Or.inl rfl)))
(sb_cons (ss_set (ps_set (i := 5) sc_law.nd rfl (Or.inl rfl) (es_call (f__law_parts T 61) hr gd (takes_of rfl rfl rfl rfl) rfl (ea_cons (es_var (pv 3)) ea_nil))))
(sb_cons (ss_par (ps_par (i := 6) (j := 7) rfl sc_law.nd rfl rfl (by decide) rfl rfl (ea_cons (es_call (f__law_draw T) hr gd (takes_of rfl rfl rfl rfl) rfl (ea_cons (es_var (pv 1)) (ea_cons (es_cb sim_len (cb bt_len cr_lenA T.bt.len (ea_cons (es_var (pv 5)) ea_nil))) ea_nil))) (ea_cons (es_call (f__law_draw T) hr gd (takes_of rfl rfl rfl rfl) rfl (ea_cons (es_var (pv 1)) (ea_cons (es_cb sim_len (cb bt_len cr_lenA T.bt.len (ea_cons (es_var (pv 5)) ea_nil))) ea_nil))) ea_nil)) rfl))
(sb_cons (ss_set (ps_set (i := 8) sc_law.nd rfl (Or.inl rfl) (es_call (f__law_replaced T 61) hr gd (takes_of rfl rfl rfl rfl) rfl (ea_cons (es_var (pv 3)) (ea_cons (es_lstM (ea_cons (es_int pe_int) ea_nil)) (ea_cons (es_var (pv 6)) (ea_cons (es_call (f__law_odd T) hr gd (takes_of rfl rfl rfl rfl) rfl (ea_cons (es_var (pv 1)) (ea_cons (es_ix hr (es_var (pv 5)) (es_var (pv 6)) (fun _ _ => rfl)) (ea_cons (es_add (es_var (pv 2)) (es_lst (ea_cons (es_str pe_str) (ea_cons (es_str pe_str) ea_nil)))) ea_nil)))) ea_nil)))))))
(sb_cons (ss_if (et_not (et_val (es_call (f__law_right T) hr gd (takes_of rfl rfl rfl rfl) rfl (ea_cons (es_var (pv 8)) ea_nil))))
(sb_one (ss_ret (es_bl pe_bl)))
sb_nil)
(sb_cons (ss_set (ps_set (i := 9) sc_law.nd rfl (Or.inl rfl) (es_call (f__law_replaced T 61) hr gd (takes_of rfl rfl rfl rfl) rfl (ea_cons (es_var (pv 3)) (ea_cons (es_lstM (ea_cons (es_int pe_int) ea_nil)) (ea_cons (es_var (pv 7)) (ea_cons (es_call (f__law_odd T) hr gd (takes_of rfl rfl rfl rfl) rfl (ea_cons (es_var (pv 1)) (ea_cons (es_ix hr (es_var (pv 5)) (es_var (pv 7)) (fun _ _ => rfl)) (ea_cons (es_var (pv 2)) ea_nil)))) ea_nil)))))))
(sb_cons (ss_if (PW.pt (ew_and (et_cmp (op_ltA hr) sim_lt (es_var (pv 7)) (es_var (pv 6)) (by rfl)) (ew_and1 (et_cmp (op_eqX hu64) sim_eq (es_call (f__law_draw T) hr gd (takes_of rfl rfl rfl rfl) rfl (ea_cons (es_var (pv 1)) (ea_cons (es_int pe_int) ea_nil))) (es_int pe_int) (by rfl)))))
(sb_one (ss_set (ps_set (i := 9) sc_law.nd rfl (Or.inl rfl) (es_tup (ea_cons (es_str pe_str) (ea_cons (es_tup (ea_cons (es_var (pv 9)) (ea_cons (es_var (pv 8)) ea_nil))) ea_nil))))))
sb_nil)
(sb_one (ss_if (PW.pt (ew_or (et_not (et_val (es_call (f__law_right T) hr gd (takes_of rfl rfl rfl rfl) rfl (ea_cons (es_var (pv 9)) ea_nil)))) (ew_or1 (et_not (et_val (es_call (f__law_right T) hr gd (takes_of rfl rfl rfl rfl) rfl (ea_cons (es_tup (ea_cons (es_str pe_str) (ea_cons (es_tup (ea_cons (es_var (pv 8)) (ea_cons (es_tup (ea_cons (es_str pe_str) (ea_cons (es_str pe_str) ea_nil))) (ea_cons (es_var (pv 9)) ea_nil)))) ea_nil))) ea_nil)))))))
(sb_one (ss_ret (es_bl pe_bl)))
sb_nil)))))))))
(sb_one (ss_ret (es_and (es_call (f__law_right T) hr gd (takes_of rfl rfl rfl rfl) rfl (ea_cons (es_var (pv 3)) ea_nil)) (es_and (es_call (f__law_right T) hr gd (takes_of rfl rfl rfl rfl) rfl (ea_cons (es_call (f__law_edge T) hr gd (takes_of rfl rfl rfl rfl) rfl (ea_cons (es_var (pv 1)) (ea_cons (es_var (pv 2)) ea_nil))) ea_nil)) (es_one (es_call (f__law_deep_right T) hr gd (takes_of rfl rfl rfl rfl) rfl (ea_cons (es_var (pv 1)) ea_nil)))))))))))
end
end K11

/-! ## K11rc -/
set_option Elab.async false
set_option linter.all false
set_option maxRecDepth 100000
set_option maxHeartbeats 4000000
namespace K11
open PySem PySem.Spec PyProof.Rows L2 AK MP
section
variable {P : Program} {w : World} {K : PySem.W.Frag} {mg : Str → Option Value} {base : Heap} {f : Addr} {fd : FuncData}
def sp_law (K : PySem.W.Frag) : Sp := fun vs H Q _ => ∃ (a : Addr) (ns : List Int), vs = [.ref a] ∧ SqL K H a (ns.map V.int) ∧ ns.length ≤ 63 ∧ ∀ H', Q (.bl true) H'
theorem ok_law (T : Kt P K mg) (F : Fun K "law" "law" s_law f fd) : FnG P w K mg base (L2.CX P w) 67 f fd p_law (sp_law K) := by
  refine okGX F sc_law (fun vs H Q E h => ?_) (fun cdv B up z H vs Q E room gd hsp => ?_)
  · obtain ⟨a, ns, rfl, _⟩ := h; rfl
  obtain ⟨a, ns, rfl, ha, hl, q⟩ := hsp
  obtain ⟨fh, fdh, Fh, hmh, hbh⟩ := T.d__law_heap.ex
  refine ⟨_, pss_cons (ps_set (i := 1) sc_law.nd rfl (Or.inl rfl) (pe_callGS (MP.FnG.of0 (ok_heap Fh T.bt)) (room.mono (by omega)) gd rfl hmh Fh.kp hbh (fun σ => passAt (W := fun cls d _ H => E cls d H) (takes_of rfl rfl rfl rfl) σ) (pa_cons (pv 0) pa_nil))) (pr_law T room gd), ?_⟩
  refine ⟨.ref a, rfl, a, ns, rfl, ha, hl, fun g c H1 ng nc e1 hg => ?_⟩
  obtain ⟨cells, stir, h1, h2, h3, h4, h5, h6⟩ := hg
  obtain ⟨s', er⟩ := sp_r_law [] ⟨cells, stir⟩
  have hgc : g ≠ c := fun e => by
    subst e
    rw [h1] at h2
    cases cells with
    | nil => cases h2
    | cons y t => cases h2
  refine ⟨⟨[], some (g, c), fun _ => False⟩, [none, some .g, none, none, none, none, none, none, none, none], ⟨some ⟨cells, stir⟩, []⟩, ⟨rfl, fun i v hi => ?_, fun x hx => by cases hx⟩, ⟨rfl, fun n o h => by simp at h, fun n m a h => by simp at h, fun b hb => ?_, fun a h => h.elim, ⟨g, c, rfl, hgc, h1, h2, h3, h4, h5, h6, fun n => by simp⟩⟩, ?_⟩
  · match i, hi with
    | 1, hi => cases hi; exact ⟨_, rfl, (g, c), rfl, rfl⟩
    | 0, hi => cases hi
    | i + 2, hi =>
      have : (List.replicate 8 (none : Option MV))[i]? = some (some v) := hi
      have := List.getElem?_replicate.symm.trans this
      split at this <;> cases this
  · rcases hb with ⟨n, hn⟩ | ⟨p, hp, hb⟩ | hb
    · simp at hn
    · cases hp
      rcases hb with rfl | rfl
      · rw [h1]; intro h; cases h
      · rw [h2]; intro h; cases h
    · exact hb.elim
  · rw [er]
    intro w' x H' _ _ hx
    have hx' : x = .bl true := hx
    subst hx'
    exact q H'
end
end K11

/-! ## MEnd -/
set_option Elab.async false
set_option linter.all false
set_option maxRecDepth 100000
namespace MP
open PySem PySem.Spec PyProof.Rows L2 AK
/-- isinstance of an error of the class D by the class C -/
theorem kit_ref {K : PySem.W.Frag} {D C : Addr} {r : Bool} (h2 : PySem.W.isClsIn K C = true) (h3 : PySem.W.typeIn K (.ref C) = some (.type "type")) (hD : PySem.W.subIn K (.ref D) (.ref D) = some true) (h4 : PySem.W.subIn K (.ref D) (.ref C) = some r) : PySem.W.kitOne K (.ref D) (.ref C) = some r := by
  have e2 : ((PySem.W.clsIn K C).isSome && PySem.W.typeIn K (.ref C) == some (.type "type")) = true := by
    have h2' : (PySem.W.clsIn K C).isSome = true := h2
    rw [h2', h3] <;> rfl
  have e3 : PySem.W.kitCls K (.ref D) (.ref C) = some r := by
    show (if ((PySem.W.clsIn K C).isSome && PySem.W.typeIn K (.ref C) == some (.type "type")) = true then PySem.W.subIn K (.ref D) (.ref C) else none) = some r
    rw [if_pos e2, h4]
  show (if (Value.ref D == Value.ref C) = true then some true else PySem.W.kitCls K (.ref D) (.ref C)) = some r
  by_cases e : D = C
  · subst e
    rw [hD] at h4
    cases h4
    split
    · rfl
    · exact e3
  · have hb : ¬ (Value.ref D == Value.ref C) = true := fun h => e (by cases eq_of_beq h; rfl)
    rw [if_neg hb, e3]
theorem kit_type {K : PySem.W.Frag} {D : Addr} {t : String} {r : Bool} (hm : PySem.W.kitMeta t = true) (h4 : PySem.W.subIn K (.ref D) (.type t) = some r) : PySem.W.kitOne K (.ref D) (.type t) = some r := by
  have hb : ¬ (Value.ref D == Value.type t) = true := fun h => by cases eq_of_beq h
  show (if (Value.ref D == Value.type t) = true then some true else if PySem.W.kitMeta t = true then PySem.W.subIn K (.ref D) (.type t) else none) = some r
  rw [if_neg hb, if_pos hm, h4]
/-- an error of the class at S is what «except S» names -/
theorem exm_self {K : PySem.W.Frag} {S : Addr} (h1 : PySem.W.subIn K (.ref S) (.type "BaseException") = some true) (h2 : PySem.W.isClsIn K S = true) (h3 : PySem.W.typeIn K (.ref S) = some (.type "type")) (h4 : PySem.W.subIn K (.ref S) (.ref S) = some true) :
    PySem.W.exmOne K (.ref S) (.ref S) = some true := by
  have e1 : (PySem.W.subIn K (.ref S) (.type "BaseException") == some true) = true := by rw [h1] <;> rfl
  have e2 : ((PySem.W.clsIn K S).isSome && PySem.W.typeIn K (.ref S) == some (.type "type")) = true := by
    have h2' : (PySem.W.clsIn K S).isSome = true := h2
    rw [h2', h3] <;> rfl
  show (if (PySem.W.subIn K (.ref S) (.type "BaseException") == some true) = true then (if ((PySem.W.clsIn K S).isSome && PySem.W.typeIn K (.ref S) == some (.type "type")) = true then PySem.W.subIn K (.ref S) (.ref S) else none) else none) = some true
  rw [if_pos e1, if_pos e2]
  exact h4
theorem own_use {Gl : Prop} (P : Program) {K : PySem.W.Frag} {h : Heap} {mg : Str → Option Value} {cn fl qual tx : Str} {C f1 cda cc : Addr} (X : K.In h) (G : h.Ns mainGlobals mg) (hfl : PySem.OwnX.FldOk fl)
    {nm q : Str} {N : Addr} {bs bm : List Value} {sn : List Str} {sub : List Value} {ab : Bool} {col : Option Bool} {dd : Option Addr} {m0 m1 m2 m3 m5 : Option Value}
    {od1 an1 : Option Addr} {sl1 : Array (Option Value)} {oc1 dc1 pm1 ct1 : Value} {p1 p2 q1 q2 q3 q4 q5 q6 r1 r2 r3 r4 : Pos} {ccl cl : Value} {cdd cld : Option Addr} {ccs csl : Array (Option Value)} {vs : Array Value} {file : Str} {tf : Tok} {pl : PySem.Env → Sem Bool}
    (aC : PySem.W.nsIn K mainGlobals cn = some (some (.ref C)))
    (xL : K.lookup C = some (excClassObj nm q C N bs bm true sn sub ab col dd m0 m1 m2 m3 m5 "ValueError.__new__"))
    (sa : PySem.W.findIn K (.ref C) "__setattr__" = some (some (.builtin "object.__setattr__"))) (ga : PySem.W.findIn K (.ref C) "__getattribute__" = some (some (.builtin "BaseException.__getattribute__"))) (gg : PySem.W.findIn K (.ref C) "__getattr__" = some none) (nb : PySem.W.findIn K (.ref C) fl = some none)
    (a1 : PySem.W.findIn K (.ref C) "__init__" = some (some (.ref f1))) (t1 : PySem.W.typeIn K (.ref f1) = some (.type "function"))
    (l1 : K.lookup f1 = some ⟨oc1, od1, .func (PySem.W.ksFn "__init__" qual (PySem.OwnX.iA fl p1 p2) (PySem.OwnX.iB fl tx q1 q2 q3 q4 q5 q6 r1 r2 r3 r4) (PySem.OwnX.iS fl) .none .none dc1 pm1 an1 (.ref cda) ct1 cc), sl1⟩) (c1 : PySem.W.codeIn K (.ref cda) qual = true)
    (lc : K.lookup cc = some ⟨cl, cld, .cell (some (.ref C)), csl⟩) (ld : K.lookup cda = some ⟨ccl, cdd, .fields vs, ccs⟩)
    (kC : PySem.W.keepIn K (.ref C) = true) (eC : PySem.W.subIn K (.ref C) (.type "BaseException") = some true) (vC : PySem.W.subIn K (.ref C) (.type "ValueError") = some true) (tC : PySem.W.typeIn K (.ref C) = some (.type "type")) (hC : PySem.W.hasDictIn K C = true) (iC : PySem.W.isClsIn K C = true) (sC : PySem.W.subIn K (.ref C) (.ref C) = some true)
    (mC : PySem.W.mroIn K C (.ref C) = some true) (uC : PySem.W.ks_superIn K C C "__init__" = some (some (.builtin "ValueError.__init__"))) (zS : PySem.W.nsIn K mainGlobals "super" = some none) (yS : PySem.W.nsIn K cStatics "thirdparty.any" = some none)
    (hbm : PySem.HandSPX.refsVE bm = true) (hvs : vs[2]? = some (.str file tf)) (hfile : ((P.main.file : Str) == file) = true) (htop : (P.main.scope.names.lookup ("super" : Str)).isSome = false) (hpl : PySem.OwnX.CallEq tx q1 q2 q3 q4 q5 pl) (fin : PySem.OwnX.OwnTxt P K mg cn fl C f1 → Gl) : Gl := fin
  { fld := hfl, gC := PySem.W.mg_of X G aC, cls := ⟨nm, q, N, bs, _, sn, sub, ab, col, dd, m0, m1, m2, m3, m5, xL, hbm⟩, sa := sa, ga := ga, gg := gg, noN := nb, iC := a1, tC := t1, kC := kC, exC := eC, veC := vC, tyC := tC, hdC := hC, te := exm_self eC iC tC sC, mroC := mC, sup := uC,
    noS := PySem.W.mg_none_of X G zS, anyS := yS, top := htop, fn := ⟨_, _, _, _, _, _, _, _, _, _, _, _, _, _, _, _, _, _, _, _, _, _, _, _, _, _, _, _, _, _, _, _, _, hpl, l1, c1, lc, ld, hvs, hfile⟩ }
/-- the law's end, the context may hang on the world -/
theorem walkGW {l : PySem.W.OpenLaw} {n k : Nat} {q : Program} {loose : List Str} {XP : (Str → Option Value) → Heap → Prop} {YP : World → Heap → Prop} {d : DefRec} {K : Params → PySem.W.Frag} {CX : World → CXT} {sp : PySem.W.Frag → Sp} {x : Str}
    (hn : l.most = some n) (hn2 : n ≤ sizeLine) (hdf : d.params.defaults = []) (room : Room k callerA) (hY : ∀ (w : World) (h : Heap), YP w h → (K w.params).In h)
    (F : ∀ (w : World) (mg : Str → Option Value) (fa : Addr) (h : Heap), (K w.params).In h → h.Ns mainGlobals mg → mg d.name = some (.ref fa) →
      ∃ fd : FuncData, (∀ (s : Shared) (u : Value), BindsTo s fd ⟨[u], []⟩ [(x, u)]) ∧ ∀ base : Heap, (K w.params).In base → base.Ns mainGlobals mg → FnG l.prog w (K w.params) mg base (CX w) k fa fd [x] (sp (K w.params)))
    (hsp : ∀ (K : PySem.W.Frag) (H : Hp) (a : Addr) (ns : List Int), ns.length ≤ n → Only H → SqL K H a (ns.map V.int) → sp K [.ref a] H (fun v _ => v = .bl true) fun _ _ _ => False)
    (hCX : ∀ (w : World) (H : Hp) (s : Shared) (e : Value) (s' : Shared), CX w [] H s (fun _ _ _ => False) e s' → False) :
    PySem.W.WalkO q loose XP YP l.row.toRowW d [] (fun f vs => PySem.call f vs) := by
  refine Att.attach_call hn hdf fun w s₀ z mg mb fa o pm cd doc a us ns G Y ho hd hcd hmg hobj hints hlen hg => ?_
  obtain ⟨fd, bt, hF⟩ := F w mg fa _ (hY w _ Y) G.T.g hmg
  exact lawG (hY w _ Y) G.T.g G.T.b G.T.builtins G.T.nolimit hg hobj hints (Nat.le_trans hlen hn2) room hF bt (fun H on hS => hsp _ H a ns hlen on hS) fun H e s' => hCX w H z e s'
end MP

/-! ## K11rd -/
set_option Elab.async false
set_option linter.all false
set_option maxRecDepth 100000
set_option maxHeartbeats 8000000
namespace K11
open PySem PySem.Spec PyProof.Rows L2 AK MP
theorem all_mk {w : World} {fa : Addr} {P : Program} {K : PySem.W.Frag} {h : Heap} {mg : Str → Option Value} {f1 f2 f3 f4 f5 f6 f7 f8 f9 f10 f11 f12 f13 f14 f15 f16 f17 f18 f19 f20 f21 f22 f23 f24 : Addr} (X : K.In h) (G : h.Ns mainGlobals mg) (hfa : mg "law" = some (.ref fa)) 
    {C_PoolError C_InvalidText C_InvalidFormula C_InvalidNumber C_Refused I_InvalidFormula : Addr} {t_LETTERS t_LONGEST_NAME t_MOST_AMOUNT t_MOST_KINDS : Tok} {od1 an1 od2 an2 od3 an3 od4 an4 od5 an5 od6 an6 od7 an7 od8 an8 od9 an9 od10 an10 od11 an11 od12 an12 od13 an13 od14 an14 od15 an15 od16 an16 od17 an17 od18 an18 od19 an19 od20 an20 od21 an21 od22 an22 od23 an23 od24 an24 : Option Addr} {sl1 sl2 sl3 sl4 sl5 sl6 sl7 sl8 sl9 sl10 sl11 sl12 sl13 sl14 sl15 sl16 sl17 sl18 sl19 sl20 sl21 sl22 sl23 sl24 : Array (Option Value)}
    {oc1 kV1 dc1 pm1 cd1 ct1 oc2 kV2 dc2 pm2 cd2 ct2 oc3 kV3 dc3 pm3 cd3 ct3 oc4 kV4 dc4 pm4 cd4 ct4 oc5 kV5 dc5 pm5 cd5 ct5 oc6 kV6 dc6 pm6 cd6 ct6 oc7 kV7 dc7 pm7 cd7 ct7 oc8 kV8 dc8 pm8 cd8 ct8 oc9 kV9 dc9 pm9 cd9 ct9 oc10 kV10 dc10 pm10 cd10 ct10 oc11 kV11 dc11 pm11 cd11 ct11 oc12 kV12 dc12 pm12 cd12 ct12 oc13 kV13 dc13 pm13 cd13 ct13 oc14 kV14 dc14 pm14 cd14 ct14 oc15 kV15 dc15 pm15 cd15 ct15 oc16 kV16 dc16 pm16 cd16 ct16 oc17 kV17 dc17 pm17 cd17 ct17 oc18 kV18 dc18 pm18 cd18 ct18 oc19 kV19 dc19 pm19 cd19 ct19 oc20 kV20 dc20 pm20 cd20 ct20 oc21 kV21 dc21 pm21 cd21 ct21 oc22 kV22 dc22 pm22 cd22 ct22 oc23 kV23 dc23 pm23 cd23 ct23 oc24 kV24 dc24 pm24 cd24 ct24 : Value}
    (a1 : PySem.W.nsIn K mainGlobals "is_integer" = some (some (.ref f1))) (l1 : K.lookup f1 = some ⟨oc1, od1, .func (PySem.W.fnOf "is_integer" "is_integer" (defArgs s_is_integer) (defBody s_is_integer) (defScope s_is_integer) .none kV1 dc1 pm1 an1 cd1 ct1), sl1⟩) (c1 : PySem.W.codeIn K cd1 "is_integer" = true) (k1 : PySem.W.keepIn K (.ref f1) = true)
    (a2 : PySem.W.nsIn K mainGlobals "is_number" = some (some (.ref f2))) (l2 : K.lookup f2 = some ⟨oc2, od2, .func (PySem.W.fnOf "is_number" "is_number" (defArgs s_is_number) (defBody s_is_number) (defScope s_is_number) .none kV2 dc2 pm2 an2 cd2 ct2), sl2⟩) (c2 : PySem.W.codeIn K cd2 "is_number" = true) (k2 : PySem.W.keepIn K (.ref f2) = true)
    (a3 : PySem.W.nsIn K mainGlobals "is_name" = some (some (.ref f3))) (l3 : K.lookup f3 = some ⟨oc3, od3, .func (PySem.W.fnOf "is_name" "is_name" (defArgs s_is_name) (defBody s_is_name) (defScope s_is_name) .none kV3 dc3 pm3 an3 cd3 ct3), sl3⟩) (c3 : PySem.W.codeIn K cd3 "is_name" = true) (k3 : PySem.W.keepIn K (.ref f3) = true)
    (a4 : PySem.W.nsIn K mainGlobals "parts_of" = some (some (.ref f4))) (l4 : K.lookup f4 = some ⟨oc4, od4, .func (PySem.W.fnOf "parts_of" "parts_of" (defArgs s_parts_of) (defBody s_parts_of) (defScope s_parts_of) .none kV4 dc4 pm4 an4 cd4 ct4), sl4⟩) (c4 : PySem.W.codeIn K cd4 "parts_of" = true) (k4 : PySem.W.keepIn K (.ref f4) = true)
    (a5 : PySem.W.nsIn K mainGlobals "check_formula" = some (some (.ref f5))) (l5 : K.lookup f5 = some ⟨oc5, od5, .func (PySem.W.fnOf "check_formula" "check_formula" (defArgs s_check_formula) (defBody s_check_formula) (defScope s_check_formula) .none kV5 dc5 pm5 an5 cd5 ct5), sl5⟩) (c5 : PySem.W.codeIn K cd5 "check_formula" = true) (k5 : PySem.W.keepIn K (.ref f5) = true)
    (a6 : PySem.W.nsIn K mainGlobals "names_in" = some (some (.ref f6))) (l6 : K.lookup f6 = some ⟨oc6, od6, .func (PySem.W.fnOf "names_in" "names_in" (defArgs s_names_in) (defBody s_names_in) (defScope s_names_in) .none kV6 dc6 pm6 an6 cd6 ct6), sl6⟩) (c6 : PySem.W.codeIn K cd6 "names_in" = true) (k6 : PySem.W.keepIn K (.ref f6) = true)
    (a7 : PySem.W.nsIn K mainGlobals "kinds_of" = some (some (.ref f7))) (l7 : K.lookup f7 = some ⟨oc7, od7, .func (PySem.W.fnOf "kinds_of" "kinds_of" (defArgs s_kinds_of) (defBody s_kinds_of) (defScope s_kinds_of) .none kV7 dc7 pm7 an7 cd7 ct7), sl7⟩) (c7 : PySem.W.codeIn K cd7 "kinds_of" = true) (k7 : PySem.W.keepIn K (.ref f7) = true)
    (a8 : PySem.W.nsIn K mainGlobals "_law_heap" = some (some (.ref f8))) (l8 : K.lookup f8 = some ⟨oc8, od8, .func (PySem.W.fnOf "_law_heap" "_law_heap" (defArgs s__law_heap) (defBody s__law_heap) (defScope s__law_heap) .none kV8 dc8 pm8 an8 cd8 ct8), sl8⟩) (c8 : PySem.W.codeIn K cd8 "_law_heap" = true) (k8 : PySem.W.keepIn K (.ref f8) = true)
    (a9 : PySem.W.nsIn K mainGlobals "_law_draw" = some (some (.ref f9))) (l9 : K.lookup f9 = some ⟨oc9, od9, .func (PySem.W.fnOf "_law_draw" "_law_draw" (defArgs s__law_draw) (defBody s__law_draw) (defScope s__law_draw) .none kV9 dc9 pm9 an9 cd9 ct9), sl9⟩) (c9 : PySem.W.codeIn K cd9 "_law_draw" = true) (k9 : PySem.W.keepIn K (.ref f9) = true)
    (a10 : PySem.W.nsIn K mainGlobals "_law_pick" = some (some (.ref f10))) (l10 : K.lookup f10 = some ⟨oc10, od10, .func (PySem.W.fnOf "_law_pick" "_law_pick" (defArgs s__law_pick) (defBody s__law_pick) (defScope s__law_pick) .none kV10 dc10 pm10 an10 cd10 ct10), sl10⟩) (c10 : PySem.W.codeIn K cd10 "_law_pick" = true) (k10 : PySem.W.keepIn K (.ref f10) = true)
    (a11 : PySem.W.nsIn K mainGlobals "_law_names" = some (some (.ref f11))) (l11 : K.lookup f11 = some ⟨oc11, od11, .func (PySem.W.fnOf "_law_names" "_law_names" (defArgs s__law_names) (defBody s__law_names) (defScope s__law_names) .none kV11 dc11 pm11 an11 cd11 ct11), sl11⟩) (c11 : PySem.W.codeIn K cd11 "_law_names" = true) (k11 : PySem.W.keepIn K (.ref f11) = true)
    (a12 : PySem.W.nsIn K mainGlobals "_law_mixed" = some (some (.ref f12))) (l12 : K.lookup f12 = some ⟨oc12, od12, .func (PySem.W.fnOf "_law_mixed" "_law_mixed" (defArgs s__law_mixed) (defBody s__law_mixed) (defScope s__law_mixed) .none kV12 dc12 pm12 an12 cd12 ct12), sl12⟩) (c12 : PySem.W.codeIn K cd12 "_law_mixed" = true) (k12 : PySem.W.keepIn K (.ref f12) = true)
    (a13 : PySem.W.nsIn K mainGlobals "_law_formula" = some (some (.ref f13))) (l13 : K.lookup f13 = some ⟨oc13, od13, .func (PySem.W.fnOf "_law_formula" "_law_formula" (defArgs s__law_formula) (defBody s__law_formula) (defScope s__law_formula) .none kV13 dc13 pm13 an13 cd13 ct13), sl13⟩) (c13 : PySem.W.codeIn K cd13 "_law_formula" = true) (k13 : PySem.W.keepIn K (.ref f13) = true)
    (a14 : PySem.W.nsIn K mainGlobals "_law_parts" = some (some (.ref f14))) (l14 : K.lookup f14 = some ⟨oc14, od14, .func (PySem.W.fnOf "_law_parts" "_law_parts" (defArgs s__law_parts) (defBody s__law_parts) (defScope s__law_parts) .none kV14 dc14 pm14 an14 cd14 ct14), sl14⟩) (c14 : PySem.W.codeIn K cd14 "_law_parts" = true) (k14 : PySem.W.keepIn K (.ref f14) = true)
    (a15 : PySem.W.nsIn K mainGlobals "_law_replaced" = some (some (.ref f15))) (l15 : K.lookup f15 = some ⟨oc15, od15, .func (PySem.W.fnOf "_law_replaced" "_law_replaced" (defArgs s__law_replaced) (defBody s__law_replaced) (defScope s__law_replaced) .none kV15 dc15 pm15 an15 cd15 ct15), sl15⟩) (c15 : PySem.W.codeIn K cd15 "_law_replaced" = true) (k15 : PySem.W.keepIn K (.ref f15) = true)
    (a16 : PySem.W.nsIn K mainGlobals "_law_edge" = some (some (.ref f16))) (l16 : K.lookup f16 = some ⟨oc16, od16, .func (PySem.W.fnOf "_law_edge" "_law_edge" (defArgs s__law_edge) (defBody s__law_edge) (defScope s__law_edge) .none kV16 dc16 pm16 an16 cd16 ct16), sl16⟩) (c16 : PySem.W.codeIn K cd16 "_law_edge" = true) (k16 : PySem.W.keepIn K (.ref f16) = true)
    (a17 : PySem.W.nsIn K mainGlobals "_law_is_name" = some (some (.ref f17))) (l17 : K.lookup f17 = some ⟨oc17, od17, .func (PySem.W.fnOf "_law_is_name" "_law_is_name" (defArgs s__law_is_name) (defBody s__law_is_name) (defScope s__law_is_name) .none kV17 dc17 pm17 an17 cd17 ct17), sl17⟩) (c17 : PySem.W.codeIn K cd17 "_law_is_name" = true) (k17 : PySem.W.keepIn K (.ref f17) = true)
    (a18 : PySem.W.nsIn K mainGlobals "_law_inside" = some (some (.ref f18))) (l18 : K.lookup f18 = some ⟨oc18, od18, .func (PySem.W.fnOf "_law_inside" "_law_inside" (defArgs s__law_inside) (defBody s__law_inside) (defScope s__law_inside) .none kV18 dc18 pm18 an18 cd18 ct18), sl18⟩) (c18 : PySem.W.codeIn K cd18 "_law_inside" = true) (k18 : PySem.W.keepIn K (.ref f18) = true)
    (a19 : PySem.W.nsIn K mainGlobals "_law_wrong" = some (some (.ref f19))) (l19 : K.lookup f19 = some ⟨oc19, od19, .func (PySem.W.fnOf "_law_wrong" "_law_wrong" (defArgs s__law_wrong) (defBody s__law_wrong) (defScope s__law_wrong) .none kV19 dc19 pm19 an19 cd19 ct19), sl19⟩) (c19 : PySem.W.codeIn K cd19 "_law_wrong" = true) (k19 : PySem.W.keepIn K (.ref f19) = true)
    (a20 : PySem.W.nsIn K mainGlobals "_law_odd" = some (some (.ref f20))) (l20 : K.lookup f20 = some ⟨oc20, od20, .func (PySem.W.fnOf "_law_odd" "_law_odd" (defArgs s__law_odd) (defBody s__law_odd) (defScope s__law_odd) .none kV20 dc20 pm20 an20 cd20 ct20), sl20⟩) (c20 : PySem.W.codeIn K cd20 "_law_odd" = true) (k20 : PySem.W.keepIn K (.ref f20) = true)
    (a21 : PySem.W.nsIn K mainGlobals "_law_heard" = some (some (.ref f21))) (l21 : K.lookup f21 = some ⟨oc21, od21, .func (PySem.W.fnOf "_law_heard" "_law_heard" (defArgs s__law_heard) (defBody s__law_heard) (defScope s__law_heard) .none kV21 dc21 pm21 an21 cd21 ct21), sl21⟩) (c21 : PySem.W.codeIn K cd21 "_law_heard" = true) (k21 : PySem.W.keepIn K (.ref f21) = true)
    (a22 : PySem.W.nsIn K mainGlobals "_law_right" = some (some (.ref f22))) (l22 : K.lookup f22 = some ⟨oc22, od22, .func (PySem.W.fnOf "_law_right" "_law_right" (defArgs s__law_right) (defBody s__law_right) (defScope s__law_right) .none kV22 dc22 pm22 an22 cd22 ct22), sl22⟩) (c22 : PySem.W.codeIn K cd22 "_law_right" = true) (k22 : PySem.W.keepIn K (.ref f22) = true)
    (a23 : PySem.W.nsIn K mainGlobals "_law_deep_right" = some (some (.ref f23))) (l23 : K.lookup f23 = some ⟨oc23, od23, .func (PySem.W.fnOf "_law_deep_right" "_law_deep_right" (defArgs s__law_deep_right) (defBody s__law_deep_right) (defScope s__law_deep_right) .none kV23 dc23 pm23 an23 cd23 ct23), sl23⟩) (c23 : PySem.W.codeIn K cd23 "_law_deep_right" = true) (k23 : PySem.W.keepIn K (.ref f23) = true)
    (a24 : PySem.W.nsIn K mainGlobals "law" = some (some (.ref f24))) (l24 : K.lookup f24 = some ⟨oc24, od24, .func (PySem.W.fnOf "law" "law" (defArgs s_law) (defBody s_law) (defScope s_law) .none kV24 dc24 pm24 an24 cd24 ct24), sl24⟩) (c24 : PySem.W.codeIn K cd24 "law" = true) (k24 : PySem.W.keepIn K (.ref f24) = true)
    (z1 : PySem.W.nsIn K mainGlobals "abs" = some none)
    (z2 : PySem.W.nsIn K mainGlobals "all" = some none)
    (z3 : PySem.W.nsIn K mainGlobals "any" = some none)
    (z4 : PySem.W.nsIn K mainGlobals "bool" = some none)
    (z5 : PySem.W.nsIn K mainGlobals "dict" = some none)
    (z6 : PySem.W.nsIn K mainGlobals "enumerate" = some none)
    (z7 : PySem.W.nsIn K mainGlobals "int" = some none)
    (z8 : PySem.W.nsIn K mainGlobals "isinstance" = some none)
    (z9 : PySem.W.nsIn K mainGlobals "len" = some none)
    (z10 : PySem.W.nsIn K mainGlobals "list" = some none)
    (z11 : PySem.W.nsIn K mainGlobals "max" = some none)
    (z12 : PySem.W.nsIn K mainGlobals "min" = some none)
    (z13 : PySem.W.nsIn K mainGlobals "range" = some none)
    (z14 : PySem.W.nsIn K mainGlobals "repr" = some none)
    (z15 : PySem.W.nsIn K mainGlobals "reversed" = some none)
    (z16 : PySem.W.nsIn K mainGlobals "set" = some none)
    (z17 : PySem.W.nsIn K mainGlobals "sorted" = some none)
    (z18 : PySem.W.nsIn K mainGlobals "str" = some none)
    (z19 : PySem.W.nsIn K mainGlobals "sum" = some none)
    (z20 : PySem.W.nsIn K mainGlobals "tuple" = some none)
    (z21 : PySem.W.nsIn K mainGlobals "zip" = some none)
    (z22 : PySem.W.nsIn K mainGlobals "ValueError" = some none)
    (m_LETTERS : PySem.W.nsIn K mainGlobals "LETTERS" = some (some (.str "abcdefghijklmnopqrstuvwxyz" t_LETTERS)))
    (m_LONGEST_NAME : PySem.W.nsIn K mainGlobals "LONGEST_NAME" = some (some (.int 5 t_LONGEST_NAME)))
    (m_MOST_AMOUNT : PySem.W.nsIn K mainGlobals "MOST_AMOUNT" = some (some (.int 60 t_MOST_AMOUNT)))
    (m_MOST_KINDS : PySem.W.nsIn K mainGlobals "MOST_KINDS" = some (some (.int 8 t_MOST_KINDS)))
    (g_PoolError : PySem.W.nsIn K mainGlobals "PoolError" = some (some (.ref C_PoolError)))
    (u_PoolError : PySem.W.isClsIn K C_PoolError = true) (v_PoolError : PySem.W.typeIn K (.ref C_PoolError) = some (.type "type"))
    (g_InvalidText : PySem.W.nsIn K mainGlobals "InvalidText" = some (some (.ref C_InvalidText)))
    (u_InvalidText : PySem.W.isClsIn K C_InvalidText = true) (v_InvalidText : PySem.W.typeIn K (.ref C_InvalidText) = some (.type "type"))
    (g_InvalidFormula : PySem.W.nsIn K mainGlobals "InvalidFormula" = some (some (.ref C_InvalidFormula)))
    (u_InvalidFormula : PySem.W.isClsIn K C_InvalidFormula = true) (v_InvalidFormula : PySem.W.typeIn K (.ref C_InvalidFormula) = some (.type "type"))
    (g_InvalidNumber : PySem.W.nsIn K mainGlobals "InvalidNumber" = some (some (.ref C_InvalidNumber)))
    (u_InvalidNumber : PySem.W.isClsIn K C_InvalidNumber = true) (v_InvalidNumber : PySem.W.typeIn K (.ref C_InvalidNumber) = some (.type "type"))
    (g_Refused : PySem.W.nsIn K mainGlobals "Refused" = some (some (.ref C_Refused)))
    (u_Refused : PySem.W.isClsIn K C_Refused = true) (v_Refused : PySem.W.typeIn K (.ref C_Refused) = some (.type "type"))
    (xg_InvalidFormula : PySem.W.findIn K (.ref C_InvalidFormula) "__getattribute__" = some (some (.builtin "BaseException.__getattribute__"))) (xk_InvalidFormula : PySem.W.findIn K (.ref C_InvalidFormula) "__getattr__" = some none) (xs_InvalidFormula : PySem.W.subIn K (.ref C_InvalidFormula) (.type "BaseException") = some true) (xd_InvalidFormula : PySem.W.hasDictIn K C_InvalidFormula = true) (xa_InvalidFormula : PySem.W.findIn K (.ref C_InvalidFormula) "__class__" = some (some (.builtin "object.__class__"))) (xm_InvalidFormula : PySem.W.mroIn K C_InvalidFormula (.type "object") = some true) (xx_InvalidFormula : PySem.W.subIn K (.ref C_InvalidFormula) (.ref C_InvalidFormula) = some true)
    (s_InvalidFormula_ValueError : PySem.W.subIn K (.ref C_InvalidFormula) (.type "ValueError") = some true)
    (s_InvalidFormula_PoolError : PySem.W.subIn K (.ref C_InvalidFormula) (.ref C_PoolError) = some true)
    (s_InvalidFormula_Refused : PySem.W.subIn K (.ref C_InvalidFormula) (.ref C_Refused) = some false)
    (s_InvalidFormula_InvalidText : PySem.W.subIn K (.ref C_InvalidFormula) (.ref C_InvalidText) = some false)
    (s_InvalidFormula_InvalidNumber : PySem.W.subIn K (.ref C_InvalidFormula) (.ref C_InvalidNumber) = some false)
    (xn : PySem.W.specialIn K (.builtin "object.__class__") "__get__" = some (some (.builtin "getset_descriptor.__get__"))) (xt : PySem.W.takesIn K (.builtin "object.__class__") = some true)
    (T_InvalidFormula : PySem.OwnX.OwnTxt P K mg "InvalidFormula" "at" C_InvalidFormula I_InvalidFormula)
    : ∃ fd : FuncData, (∀ (s : Shared) (v : Value), BindsTo s fd ⟨[v], []⟩ [("_law_script", v)]) ∧ ∀ base : Heap, K.In base → base.Ns mainGlobals mg → FnG P w K mg base (L2.CX P w) 67 fa fd ["_law_script"] (sp_law K) := by
  have e := hfa.symm.trans (PySem.W.mg_of X G a24)
  cases e
  have F1 := fun_mk (st := s_is_integer) l1 c1 k1
  have b1 := F1.binds (ps := p_is_integer) fun _ _ _ _ _ _ us hl => match us, hl with | [_], _ => rfl
  have F2 := fun_mk (st := s_is_number) l2 c2 k2
  have b2 := F2.binds (ps := p_is_number) fun _ _ _ _ _ _ us hl => match us, hl with | [_], _ => rfl
  have F3 := fun_mk (st := s_is_name) l3 c3 k3
  have b3 := F3.binds (ps := p_is_name) fun _ _ _ _ _ _ us hl => match us, hl with | [_], _ => rfl
  have F4 := fun_mk (st := s_parts_of) l4 c4 k4
  have b4 := F4.binds (ps := p_parts_of) fun _ _ _ _ _ _ us hl => match us, hl with | [_], _ => rfl
  have F5 := fun_mk (st := s_check_formula) l5 c5 k5
  have b5 := F5.binds (ps := p_check_formula) fun _ _ _ _ _ _ us hl => match us, hl with | [_], _ => rfl
  have F6 := fun_mk (st := s_names_in) l6 c6 k6
  have b6 := F6.binds (ps := p_names_in) fun _ _ _ _ _ _ us hl => match us, hl with | [_], _ => rfl
  have F7 := fun_mk (st := s_kinds_of) l7 c7 k7
  have b7 := F7.binds (ps := p_kinds_of) fun _ _ _ _ _ _ us hl => match us, hl with | [_], _ => rfl
  have F8 := fun_mk (st := s__law_heap) l8 c8 k8
  have b8 := F8.binds (ps := p__law_heap) fun _ _ _ _ _ _ us hl => match us, hl with | [_], _ => rfl
  have F9 := fun_mk (st := s__law_draw) l9 c9 k9
  have b9 := F9.binds (ps := p__law_draw) fun _ _ _ _ _ _ us hl => match us, hl with | [_, _], _ => rfl
  have F10 := fun_mk (st := s__law_pick) l10 c10 k10
  have b10 := F10.binds (ps := p__law_pick) fun _ _ _ _ _ _ us hl => match us, hl with | [_, _], _ => rfl
  have F11 := fun_mk (st := s__law_names) l11 c11 k11
  have b11 := F11.binds (ps := p__law_names) fun _ _ _ _ _ _ us hl => match us, hl with | [_, _], _ => rfl
  have F12 := fun_mk (st := s__law_mixed) l12 c12 k12
  have b12 := F12.binds (ps := p__law_mixed) fun _ _ _ _ _ _ us hl => match us, hl with | [_, _], _ => rfl
  have F13 := fun_mk (st := s__law_formula) l13 c13 k13
  have b13 := F13.binds (ps := p__law_formula) fun _ _ _ _ _ _ us hl => match us, hl with | [_, _, _], _ => rfl
  have F14 := fun_mk (st := s__law_parts) l14 c14 k14
  have b14 := F14.binds (ps := p__law_parts) fun _ _ _ _ _ _ us hl => match us, hl with | [_], _ => rfl
  have F15 := fun_mk (st := s__law_replaced) l15 c15 k15
  have b15 := F15.binds (ps := p__law_replaced) fun _ _ _ _ _ _ us hl => match us, hl with | [_, _, _, _], _ => rfl
  have F16 := fun_mk (st := s__law_edge) l16 c16 k16
  have b16 := F16.binds (ps := p__law_edge) fun _ _ _ _ _ _ us hl => match us, hl with | [_, _], _ => rfl
  have F17 := fun_mk (st := s__law_is_name) l17 c17 k17
  have b17 := F17.binds (ps := p__law_is_name) fun _ _ _ _ _ _ us hl => match us, hl with | [_], _ => rfl
  have F18 := fun_mk (st := s__law_inside) l18 c18 k18
  have b18 := F18.binds (ps := p__law_inside) fun _ _ _ _ _ _ us hl => match us, hl with | [_], _ => rfl
  have F19 := fun_mk (st := s__law_wrong) l19 c19 k19
  have b19 := F19.binds (ps := p__law_wrong) fun _ _ _ _ _ _ us hl => match us, hl with | [_, _, _], _ => rfl
  have F20 := fun_mk (st := s__law_odd) l20 c20 k20
  have b20 := F20.binds (ps := p__law_odd) fun _ _ _ _ _ _ us hl => match us, hl with | [_, _, _], _ => rfl
  have F21 := fun_mk (st := s__law_heard) l21 c21 k21
  have b21 := F21.binds (ps := p__law_heard) fun _ _ _ _ _ _ us hl => match us, hl with | [_], _ => rfl
  have F22 := fun_mk (st := s__law_right) l22 c22 k22
  have b22 := F22.binds (ps := p__law_right) fun _ _ _ _ _ _ us hl => match us, hl with | [_], _ => rfl
  have F23 := fun_mk (st := s__law_deep_right) l23 c23 k23
  have b23 := F23.binds (ps := p__law_deep_right) fun _ _ _ _ _ _ us hl => match us, hl with | [_], _ => rfl
  have F24 := fun_mk (st := s_law) l24 c24 k24
  have b24 := F24.binds (ps := p_law) fun _ _ _ _ _ _ us hl => match us, hl with | [_], _ => rfl
  have ec_InvalidFormula : ∀ C, mg "InvalidFormula" = some (.ref C) → C = C_InvalidFormula := fun C h => by cases h.symm.trans (PySem.W.mg_of X G g_InvalidFormula); rfl
  have T : Kt P K mg := {
    bt := by constructor <;> first | exact PySem.W.mg_none_of X G z1 | exact PySem.W.mg_none_of X G z2 | exact PySem.W.mg_none_of X G z3 | exact PySem.W.mg_none_of X G z4 | exact PySem.W.mg_none_of X G z5 | exact PySem.W.mg_none_of X G z6 | exact PySem.W.mg_none_of X G z7 | exact PySem.W.mg_none_of X G z8 | exact PySem.W.mg_none_of X G z9 | exact PySem.W.mg_none_of X G z10 | exact PySem.W.mg_none_of X G z11 | exact PySem.W.mg_none_of X G z12 | exact PySem.W.mg_none_of X G z13 | exact PySem.W.mg_none_of X G z14 | exact PySem.W.mg_none_of X G z15 | exact PySem.W.mg_none_of X G z16 | exact PySem.W.mg_none_of X G z17 | exact PySem.W.mg_none_of X G z18 | exact PySem.W.mg_none_of X G z19 | exact PySem.W.mg_none_of X G z20 | exact PySem.W.mg_none_of X G z21 | exact PySem.W.mg_none_of X G z22
    c_LETTERS := ⟨_, PySem.W.mg_of X G m_LETTERS⟩
    c_LONGEST_NAME := ⟨_, PySem.W.mg_of X G m_LONGEST_NAME⟩
    c_MOST_AMOUNT := ⟨_, PySem.W.mg_of X G m_MOST_AMOUNT⟩
    c_MOST_KINDS := ⟨_, PySem.W.mg_of X G m_MOST_KINDS⟩
    C_PoolError := C_PoolError
    e_PoolError_g := PySem.W.mg_of X G g_PoolError
    C_InvalidText := C_InvalidText
    e_InvalidText_g := PySem.W.mg_of X G g_InvalidText
    C_InvalidFormula := C_InvalidFormula
    e_InvalidFormula_g := PySem.W.mg_of X G g_InvalidFormula
    I_InvalidFormula := I_InvalidFormula
    e_InvalidFormula_T := T_InvalidFormula
    C_InvalidNumber := C_InvalidNumber
    e_InvalidNumber_g := PySem.W.mg_of X G g_InvalidNumber
    C_Refused := C_Refused
    e_Refused_g := PySem.W.mg_of X G g_Refused
    x_InvalidFormula := fun c r h C hC => by
      unfold dec_InvalidFormula at h
      split at h
      · rename_i q; subst q; cases h; rw [ec_InvalidFormula C hC]; exact exm_self xs_InvalidFormula u_InvalidFormula v_InvalidFormula xx_InvalidFormula
      · cases h
    t_ValueError := fun c r C h hC => by
      unfold ix_ValueError at h
      split at h
      · rename_i q; subst q; cases h; rw [ec_InvalidFormula C hC]; exact ⟨⟨xg_InvalidFormula, xk_InvalidFormula, xs_InvalidFormula, xd_InvalidFormula, xa_InvalidFormula, xn, xt, xm_InvalidFormula⟩, kit_type (by decide) s_InvalidFormula_ValueError⟩
      · cases h
    t_PoolError := fun c r C h hC => by
      unfold ix_PoolError at h
      split at h
      · rename_i q; subst q; cases h; rw [ec_InvalidFormula C hC]; exact ⟨⟨xg_InvalidFormula, xk_InvalidFormula, xs_InvalidFormula, xd_InvalidFormula, xa_InvalidFormula, xn, xt, xm_InvalidFormula⟩, kit_ref u_PoolError v_PoolError xx_InvalidFormula s_InvalidFormula_PoolError⟩
      · cases h
    t_Refused := fun c r C h hC => by
      unfold ix_Refused at h
      split at h
      · rename_i q; subst q; cases h; rw [ec_InvalidFormula C hC]; exact ⟨⟨xg_InvalidFormula, xk_InvalidFormula, xs_InvalidFormula, xd_InvalidFormula, xa_InvalidFormula, xn, xt, xm_InvalidFormula⟩, kit_ref u_Refused v_Refused xx_InvalidFormula s_InvalidFormula_Refused⟩
      · cases h
    t_InvalidText := fun c r C h hC => by
      unfold ix_InvalidText at h
      split at h
      · rename_i q; subst q; cases h; rw [ec_InvalidFormula C hC]; exact ⟨⟨xg_InvalidFormula, xk_InvalidFormula, xs_InvalidFormula, xd_InvalidFormula, xa_InvalidFormula, xn, xt, xm_InvalidFormula⟩, kit_ref u_InvalidText v_InvalidText xx_InvalidFormula s_InvalidFormula_InvalidText⟩
      · cases h
    t_InvalidNumber := fun c r C h hC => by
      unfold ix_InvalidNumber at h
      split at h
      · rename_i q; subst q; cases h; rw [ec_InvalidFormula C hC]; exact ⟨⟨xg_InvalidFormula, xk_InvalidFormula, xs_InvalidFormula, xd_InvalidFormula, xa_InvalidFormula, xn, xt, xm_InvalidFormula⟩, kit_ref u_InvalidNumber v_InvalidNumber xx_InvalidFormula s_InvalidFormula_InvalidNumber⟩
      · cases h
    d_is_integer := ⟨_, _, F1, PySem.W.mg_of X G a1, b1⟩
    d_is_number := ⟨_, _, F2, PySem.W.mg_of X G a2, b2⟩
    d_is_name := ⟨_, _, F3, PySem.W.mg_of X G a3, b3⟩
    d_parts_of := ⟨_, _, F4, PySem.W.mg_of X G a4, b4⟩
    d_check_formula := ⟨_, _, F5, PySem.W.mg_of X G a5, b5⟩
    d_names_in := ⟨_, _, F6, PySem.W.mg_of X G a6, b6⟩
    d_kinds_of := ⟨_, _, F7, PySem.W.mg_of X G a7, b7⟩
    d__law_heap := ⟨_, _, F8, PySem.W.mg_of X G a8, b8⟩
    d__law_draw := ⟨_, _, F9, PySem.W.mg_of X G a9, b9⟩
    d__law_pick := ⟨_, _, F10, PySem.W.mg_of X G a10, b10⟩
    d__law_names := ⟨_, _, F11, PySem.W.mg_of X G a11, b11⟩
    d__law_mixed := ⟨_, _, F12, PySem.W.mg_of X G a12, b12⟩
    d__law_formula := ⟨_, _, F13, PySem.W.mg_of X G a13, b13⟩
    d__law_parts := ⟨_, _, F14, PySem.W.mg_of X G a14, b14⟩
    d__law_replaced := ⟨_, _, F15, PySem.W.mg_of X G a15, b15⟩
    d__law_edge := ⟨_, _, F16, PySem.W.mg_of X G a16, b16⟩
    d__law_is_name := ⟨_, _, F17, PySem.W.mg_of X G a17, b17⟩
    d__law_inside := ⟨_, _, F18, PySem.W.mg_of X G a18, b18⟩
    d__law_wrong := ⟨_, _, F19, PySem.W.mg_of X G a19, b19⟩
    d__law_odd := ⟨_, _, F20, PySem.W.mg_of X G a20, b20⟩
    d__law_heard := ⟨_, _, F21, PySem.W.mg_of X G a21, b21⟩
    d__law_right := ⟨_, _, F22, PySem.W.mg_of X G a22, b22⟩
    d__law_deep_right := ⟨_, _, F23, PySem.W.mg_of X G a23, b23⟩
    d_law := ⟨_, _, F24, PySem.W.mg_of X G a24, b24⟩ }
  refine ⟨PySem.W.fnOf "law" "law" (defArgs s_law) (defBody s_law) (defScope s_law) .none kV24 dc24 pm24 an24 cd24 ct24, fun s v => .of_eq rfl, fun base _ _ => ?_⟩
  exact ok_law T F24
end K11
open PySem PySem.W PyProof.Rows
set_option maxRecDepth 100000 in
set_option maxHeartbeats 0 in
theorem PySem.Challenge.cw_asmany_k11_whole_formulas_and_their_firs_holds : PySem.Challenge.rw_asmany_k11_whole_formulas_and_their_firs.Holds := by
  w_on; o_law; k_head; (case hw => w_witness2)
  k_fill
  refine MP.walkGW (l := PySem.Challenge.rw_asmany_k11_whole_formulas_and_their_firs) (n := 63) (k := 67) (x := "_law_script") (CX := fun w => L2.CX PySem.Challenge.pw_asmany_k11_whole_formulas_and_their_firs w) (sp := K11.sp_law) rfl (by decide) rfl ⟨rfl, by decide, by decide⟩ (fun w h Y => PySem.W.kIn_of Y) ?F (fun _ _ a ns hl _ hS => ⟨a, ns, rfl, hS, hl, fun _ => rfl⟩) (fun _ _ _ _ _ z => by obtain ⟨_, _, _, _, _, _, _, _, _, _, _, _, hE⟩ := z; exact hE)
  case F =>
    intro w mg fa h KX G hmg
    refine' MP.own_use (fl := "at") PySem.Challenge.pw_asmany_k11_whole_formulas_and_their_firs (cn := "InvalidFormula") KX G (.inl rfl) ?aC ?xL ?sa ?ga ?gg ?nb ?a1 ?t1 ?l1 ?c1 ?lc ?ld ?kC ?eC ?vC ?tC ?hC ?iC ?sC ?mC ?uC ?zS ?yS ?hbm ?hvs ?hfile ?htop ?hpl ?fin
    (case aC => k_is)
    (case xL => k_is)
    (case sa => k_is)
    (case ga => k_is)
    (case gg => k_is)
    (case nb => k_is)
    (case a1 => k_is)
    (case t1 => k_is)
    (case l1 => k_is)
    (case c1 => k_is)
    (case lc => k_is)
    (case ld => k_is)
    (case kC => k_is)
    (case eC => k_is)
    (case vC => k_is)
    (case tC => k_is)
    (case hC => k_is)
    (case iC => k_is)
    (case sC => first | rfl | k_is)
    (case mC => k_is)
    (case uC => ks_is)
    (case zS => k_is)
    (case yS => k_is)
    (case hbm => decide +kernel)
    (case hvs => rfl)
    (case hfile => decide +kernel)
    (case htop => decide +kernel)
    (case hpl => exact fun env => by rfl)
    case fin =>
      intro T_InvalidFormula
      refine' K11.all_mk (P := PySem.Challenge.pw_asmany_k11_whole_formulas_and_their_firs) KX G hmg ?a1 ?l1 ?c1 ?k1 ?a2 ?l2 ?c2 ?k2 ?a3 ?l3 ?c3 ?k3 ?a4 ?l4 ?c4 ?k4 ?a5 ?l5 ?c5 ?k5 ?a6 ?l6 ?c6 ?k6 ?a7 ?l7 ?c7 ?k7 ?a8 ?l8 ?c8 ?k8 ?a9 ?l9 ?c9 ?k9 ?a10 ?l10 ?c10 ?k10 ?a11 ?l11 ?c11 ?k11 ?a12 ?l12 ?c12 ?k12 ?a13 ?l13 ?c13 ?k13 ?a14 ?l14 ?c14 ?k14 ?a15 ?l15 ?c15 ?k15 ?a16 ?l16 ?c16 ?k16 ?a17 ?l17 ?c17 ?k17 ?a18 ?l18 ?c18 ?k18 ?a19 ?l19 ?c19 ?k19 ?a20 ?l20 ?c20 ?k20 ?a21 ?l21 ?c21 ?k21 ?a22 ?l22 ?c22 ?k22 ?a23 ?l23 ?c23 ?k23 ?a24 ?l24 ?c24 ?k24 ?z1 ?z2 ?z3 ?z4 ?z5 ?z6 ?z7 ?z8 ?z9 ?z10 ?z11 ?z12 ?z13 ?z14 ?z15 ?z16 ?z17 ?z18 ?z19 ?z20 ?z21 ?z22 ?m_LETTERS ?m_LONGEST_NAME ?m_MOST_AMOUNT ?m_MOST_KINDS ?g_PoolError ?u_PoolError ?v_PoolError ?g_InvalidText ?u_InvalidText ?v_InvalidText ?g_InvalidFormula ?u_InvalidFormula ?v_InvalidFormula ?g_InvalidNumber ?u_InvalidNumber ?v_InvalidNumber ?g_Refused ?u_Refused ?v_Refused ?xg_InvalidFormula ?xk_InvalidFormula ?xs_InvalidFormula ?xd_InvalidFormula ?xa_InvalidFormula ?xm_InvalidFormula ?xx_InvalidFormula ?s_InvalidFormula_ValueError ?s_InvalidFormula_PoolError ?s_InvalidFormula_Refused ?s_InvalidFormula_InvalidText ?s_InvalidFormula_InvalidNumber ?xn ?xt T_InvalidFormula
      (case a1 => k_is)
      (case l1 => k_is)
      (case c1 => k_is)
      (case k1 => k_is)
      (case a2 => k_is)
      (case l2 => k_is)
      (case c2 => k_is)
      (case k2 => k_is)
      (case a3 => k_is)
      (case l3 => k_is)
      (case c3 => k_is)
      (case k3 => k_is)
      (case a4 => k_is)
      (case l4 => k_is)
      (case c4 => k_is)
      (case k4 => k_is)
      (case a5 => k_is)
      (case l5 => k_is)
      (case c5 => k_is)
      (case k5 => k_is)
      (case a6 => k_is)
      (case l6 => k_is)
      (case c6 => k_is)
      (case k6 => k_is)
      (case a7 => k_is)
      (case l7 => k_is)
      (case c7 => k_is)
      (case k7 => k_is)
      (case a8 => k_is)
      (case l8 => k_is)
      (case c8 => k_is)
      (case k8 => k_is)
      (case a9 => k_is)
      (case l9 => k_is)
      (case c9 => k_is)
      (case k9 => k_is)
      (case a10 => k_is)
      (case l10 => k_is)
      (case c10 => k_is)
      (case k10 => k_is)
      (case a11 => k_is)
      (case l11 => k_is)
      (case c11 => k_is)
      (case k11 => k_is)
      (case a12 => k_is)
      (case l12 => k_is)
      (case c12 => k_is)
      (case k12 => k_is)
      (case a13 => k_is)
      (case l13 => k_is)
      (case c13 => k_is)
      (case k13 => k_is)
      (case a14 => k_is)
      (case l14 => k_is)
      (case c14 => k_is)
      (case k14 => k_is)
      (case a15 => k_is)
      (case l15 => k_is)
      (case c15 => k_is)
      (case k15 => k_is)
      (case a16 => k_is)
      (case l16 => k_is)
      (case c16 => k_is)
      (case k16 => k_is)
      (case a17 => k_is)
      (case l17 => k_is)
      (case c17 => k_is)
      (case k17 => k_is)
      (case a18 => k_is)
      (case l18 => k_is)
      (case c18 => k_is)
      (case k18 => k_is)
      (case a19 => k_is)
      (case l19 => k_is)
      (case c19 => k_is)
      (case k19 => k_is)
      (case a20 => k_is)
      (case l20 => k_is)
      (case c20 => k_is)
      (case k20 => k_is)
      (case a21 => k_is)
      (case l21 => k_is)
      (case c21 => k_is)
      (case k21 => k_is)
      (case a22 => k_is)
      (case l22 => k_is)
      (case c22 => k_is)
      (case k22 => k_is)
      (case a23 => k_is)
      (case l23 => k_is)
      (case c23 => k_is)
      (case k23 => k_is)
      (case a24 => k_is)
      (case l24 => k_is)
      (case c24 => k_is)
      (case k24 => k_is)
      (case z1 => k_is)
      (case z2 => k_is)
      (case z3 => k_is)
      (case z4 => k_is)
      (case z5 => k_is)
      (case z6 => k_is)
      (case z7 => k_is)
      (case z8 => k_is)
      (case z9 => k_is)
      (case z10 => k_is)
      (case z11 => k_is)
      (case z12 => k_is)
      (case z13 => k_is)
      (case z14 => k_is)
      (case z15 => k_is)
      (case z16 => k_is)
      (case z17 => k_is)
      (case z18 => k_is)
      (case z19 => k_is)
      (case z20 => k_is)
      (case z21 => k_is)
      (case z22 => k_is)
      (case m_LETTERS => k_is)
      (case m_LONGEST_NAME => k_is)
      (case m_MOST_AMOUNT => k_is)
      (case m_MOST_KINDS => k_is)
      (case g_PoolError => k_is)
      (case u_PoolError => k_is)
      (case v_PoolError => k_is)
      (case g_InvalidText => k_is)
      (case u_InvalidText => k_is)
      (case v_InvalidText => k_is)
      (case g_InvalidFormula => k_is)
      (case u_InvalidFormula => k_is)
      (case v_InvalidFormula => k_is)
      (case g_InvalidNumber => k_is)
      (case u_InvalidNumber => k_is)
      (case v_InvalidNumber => k_is)
      (case g_Refused => k_is)
      (case u_Refused => k_is)
      (case v_Refused => k_is)
      (case xg_InvalidFormula => k_is)
      (case xk_InvalidFormula => k_is)
      (case xs_InvalidFormula => k_is)
      (case xd_InvalidFormula => k_is)
      (case xa_InvalidFormula => k_is)
      (case xm_InvalidFormula => k_is)
      (case xx_InvalidFormula => first | k_is | rfl)
      (case s_InvalidFormula_ValueError => first | k_is | rfl)
      (case s_InvalidFormula_PoolError => first | k_is | rfl)
      (case s_InvalidFormula_Refused => first | k_is | rfl)
      (case s_InvalidFormula_InvalidText => first | k_is | rfl)
      (case s_InvalidFormula_InvalidNumber => first | k_is | rfl)
      (case xn => k_is)
      (case xt => k_is)
