import PyProof.Rows.All
import Wide.All
import OpenK.AllK
import Wide.FinOn
import HandS.ForMost
import HandS.Walk
import HandS.Zip
import HandS.DictComp
import HandS.Conv
import HandS.TupLen
import HandS.Style
import HandS.Wide
import HandS.IsInst
import HandS.Steps
import HandS.Evl
import KE.KDictDisplayH
import KE.KDictCopyH
import PyProof.Rows.TupDisplay
import HandS.TupMul
import PyProof.StrOps2
import KE.KxText
import KE.KSortTupG
import HandS.Defaults
import PySem.Challenge.RW_asmany_k14_whole_shares_of_sums_of_ways
/-! ## AKit -/
set_option Elab.async false
set_option linter.all false
set_option maxRecDepth 100000
namespace AK
open PySem PySem.Spec PyProof.Rows L2

/-! ## readings, one step each -/
section
variable {D : Ends} {σ : L2.St} {H : Hp} {Q : VK} {K : PySem.W.Frag}
theorem v_seq {t u : TS} (q : t { D with nx := u D } σ H) : tSeq t u D σ H := q
theorem v_cut {t u : TS} (Mid : L2.St → Hp → Prop) (h : t { D with nx := Mid } σ H) (k : ∀ σ' H', Mid σ' H' → u D σ' H') : Evl.tCut t u D σ H := ⟨Mid, h, k⟩
theorem v_next (q : D.nx σ H) : tNext D σ H := q
theorem v_set {te : TE} {i : Nat} (q : te σ H fun v H1 => D.nx (σ.set i (some v)) H1) : tAsg te (gName i) D σ H := q
theorem v_asg {te : TE} {g : TG} (q : te σ H fun v H1 => g v σ H1 D.nx) : tAsg te g D σ H := q
theorem v_ret {te : TE} (q : te σ H D.rt) : tRet te D σ H := q
theorem v_retN (q : D.rt .non H) : tRetN D σ H := q
theorem v_drop {te : TE} (q : te σ H fun _ H1 => D.nx σ H1) : tDrop te D σ H := q
theorem v_brk (q : D.bk σ H) : tBreak D σ H := q
theorem v_if {c : TT} {t u : TS} (q : c σ H fun b H1 => if b = true then t D σ H1 else u D σ H1) : tIfS c t u D σ H := q
theorem v_par {i j : Nat} {ta : TA} (q : ta σ H fun vs H1 => ∃ v w, vs = [v, w] ∧ D.nx ((σ.set i (some v)).set j (some w)) H1) : tPar i j ta D σ H := q
theorem v_par2 {i j : Nat} {v w : V} (q : D.nx ((σ.set i (some v)).set j (some w)) H) : ∃ v' w', [v, w] = [v', w'] ∧ D.nx ((σ.set i (some v')).set j (some w')) H := ⟨v, w, rfl, q⟩
theorem v_aug {i : Nat} {te : TE} {f : Int → Int → Int} {a : Int} (h : σ[i]? = some (some (.int a))) (q : te σ H fun y H1 => ipI f (.int a) y H1 fun z H2 => D.nx (σ.set i (some z)) H2) : tAug i te (ipI f) D σ H := ⟨_, h, q⟩
theorem v_ip {f : Int → Int → Int} {a b : Int} (q : Q (.int (f a b)) H) : ipI f (.int a) (.int b) H Q := ⟨a, b, rfl, rfl, q⟩
theorem v_var {i : Nat} {v : V} (h : σ[i]? = some (some v)) (q : Q v H) : tVar i σ H Q := ⟨v, h, q⟩
theorem v_c {v : V} (q : Q v H) : tC v σ H Q := q
theorem v_op {r : R2} {ta tb : TE} (q : ta σ H fun x H1 => tb σ H1 fun y H2 => r x y H2 Q) : tOp r ta tb σ H Q := q
theorem v_un {r : V → Hp → VK → Prop} {ta : TE} (q : ta σ H fun x H1 => r x H1 Q) : tUn r ta σ H Q := q
theorem v_nil {R : List V → Hp → Prop} (q : R [] H) : tNil σ H R := q
theorem v_cons {ta : TE} {tr : TA} {R : List V → Hp → Prop} (q : ta σ H fun x H1 => tr σ H1 fun xs H2 => R (x :: xs) H2) : tCons ta tr σ H R := q
theorem v_cb {r : List V → Hp → VK → Prop} {t : TA} (q : t σ H fun vs H1 => r vs H1 Q) : tCB r t σ H Q := q
theorem v_call {sp : Sp} {dvs : List V} {E : XK} {t : TA} (q : t σ H fun vs H1 => sp (vs ++ dvs) H1 Q E) : tCall sp dvs E t σ H Q := q
theorem v_test {te : TE} {R : Bool → Hp → Prop} (q : te σ H fun x H1 => ∃ k, x = .bl k ∧ R k H1) : tTest te σ H R := q
theorem v_tB {te : TE} {R : Bool → Hp → Prop} (q : te σ H fun x H1 => ∃ k, x = .bl k ∧ R k H1) : tB te σ H R := q
theorem v_bl {k : Bool} {R : Bool → Prop} (q : R k) : ∃ k', V.bl k = .bl k' ∧ R k' := ⟨k, rfl, q⟩
theorem v_and {t u : TT} {R : Bool → Hp → Prop} (q : t σ H fun c H1 => if c = true then u σ H1 R else R false H1) : tAnd t u σ H R := q
theorem v_or {t u : TT} {R : Bool → Hp → Prop} (q : t σ H fun c H1 => if c = true then R true H1 else u σ H1 R) : tOr t u σ H R := q
theorem v_not {t : TT} {R : Bool → Hp → Prop} (q : t σ H fun c H1 => R (!c) H1) : tNot t σ H R := q
theorem v_andV {ta tb : TE} (q : ta σ H fun x H1 => ∃ c, x = .bl c ∧ if c = true then tb σ H1 Q else Q (.bl false) H1) : tAndV ta tb σ H Q := q
theorem v_orV {ta tb : TE} (q : ta σ H fun x H1 => ∃ c, x = .bl c ∧ if c = true then Q (.bl true) H1 else tb σ H1 Q) : tOrV ta tb σ H Q := q
theorem v_notV {ta : TE} (q : ta σ H fun x H1 => ∃ c, x = .bl c ∧ Q (.bl (!c)) H1) : tNotV ta σ H Q := q
theorem v_ifE {c : TT} {ta tb : TE} (q : c σ H fun b H1 => if b = true then ta σ H1 Q else tb σ H1 Q) : tIf c ta tb σ H Q := q
theorem v_true {A B : Prop} (q : A) : if true = true then A else B := by rw [if_pos rfl]; exact q
theorem v_false {A B : Prop} (q : B) : if false = true then A else B := by rw [if_neg Bool.false_ne_true]; exact q
theorem v_ntrue {A B : Prop} (q : B) : if (!true) = true then A else B := v_false q
theorem v_nfalse {A B : Prop} (q : A) : if (!false) = true then A else B := v_true q
theorem v_dec {p : Prop} [Decidable p] {A B : Prop} (q1 : p → A) (q2 : ¬ p → B) : if decide p = true then A else B := by
  by_cases h : p
  · rw [if_pos (decide_eq_true h)]; exact q1 h
  · rw [if_neg (by rw [decide_eq_false h]; exact Bool.false_ne_true)]; exact q2 h
theorem v_ndec {p : Prop} [Decidable p] {A B : Prop} (q1 : ¬ p → A) (q2 : p → B) : if (!decide p) = true then A else B := by
  by_cases h : p
  · rw [decide_eq_true h]; exact v_false (q2 h)
  · rw [decide_eq_false h]; exact v_true (q1 h)
theorem v_bool {b : Bool} {A B : Prop} (q1 : b = true → A) (q2 : b = false → B) : if b = true then A else B := by
  cases b
  · exact v_false (q2 rfl)
  · exact v_true (q1 rfl)
theorem v_yes {A B : Hp → Prop} (q : A H) : tYes σ H (fun b H3 => if b = true then A H3 else B H3) := v_true (A := A H) (B := B H) q
/-! operators on values -/
theorem v_eq {x y : V} (h : scal x y = true) (q : Q (.bl (decide (x = y))) H) : rEq x y H Q := ⟨h, q⟩
theorem v_ne {x y : V} (h : scal x y = true) (q : Q (.bl (!decide (x = y))) H) : rNe x y H Q := ⟨h, q⟩
theorem v_I0 {g : Int → Int → V} {i j : Int} (q : Q (g i j) H) : rI0 g (.int i) (.int j) H Q := ⟨i, j, rfl, rfl, q⟩
theorem v_I {C : Int → Int → Prop} {g : Int → Int → V} {i j : Int} (h : C i j) (q : Q (g i j) H) : rI C g (.int i) (.int j) H Q := ⟨i, j, rfl, rfl, h, q⟩
theorem v_U {g : Int → V} {i : Int} (q : Q (g i) H) : rU g (.int i) H Q := ⟨i, rfl, q⟩
theorem v_ixL {p : Addr} {xs : List V} {i : Int} {v : V} (h : SqL K H p xs) (ha : atI xs i = some v) (q : Q v H) : rIxL K (.ref p) (.int i) H Q := ⟨p, xs, i, v, rfl, rfl, h, ha, q⟩
theorem v_ixT {p : Addr} {xs : List V} {i : Int} {v : V} (h : SqT K H p xs) (ha : atI xs i = some v) (q : Q v H) : rIxT K (.ref p) (.int i) H Q := ⟨p, xs, i, v, rfl, rfl, h, ha, q⟩
end

/-! ## heaps: what stands, stays -/
theorem same_new {H : Hp} {p : Addr} (h : H p = none) (o : HO) : Same H (upd H p o) := fun b u q => by rw [upd_ne (ne_of_none q h)]; exact q
theorem Same.tup {H H' : Hp} (e : Same H H') {a : Addr} {xs : List V} (h : H a = some (.tup xs)) : H' a = some (.tup xs) := e _ _ h
theorem Same.mut {H H' : Hp} {p : Addr} {o : HO} (e : Same H H') (h : H p = none) : Same H (upd H' p o) := fun a u ha => by
  rw [upd_ne (ne_of_none ha h)]; exact e a u ha

section
variable {D : Ends} {σ : L2.St} {H : Hp} {Q : VK} {K : PySem.W.Frag}
theorem v_new {o : HO} {R : Addr → Hp → Prop} (q : ∀ p H', H p = none → Same H H' → H' p = some o → R p H') : ∀ p, H p = none → R p (upd H p o) :=
  fun p h => q p _ h (same_new h o) upd_same
def rNewT (xs : List V) (H : Hp) (Q : VK) : Prop := xs.length ≤ sizeLine ∧ ∀ p, H p = none → Q (.ref p) (upd H p (.tup xs))
def rNewL (xs : List V) (H : Hp) (Q : VK) : Prop := xs.length ≤ sizeLine ∧ ∀ p, H p = none → Q (.ref p) (upd H p (.lst xs))
theorem v_tup {t : TA} (q : t σ H fun xs H1 => rNewT xs H1 Q) : tTup t σ H Q := q
theorem v_lst {t : TA} (q : t σ H fun xs H1 => rNewL xs H1 Q) : tLst t σ H Q := q
/-- a display's new object -/
theorem v_dl {xs : List V} (q : ∀ p H', H p = none → Same H H' → H' p = some (.lst xs) → Q (.ref p) H') (h : xs.length ≤ 1000 := by first | decide | simp | skip) : rNewL xs H Q := ⟨Nat.le_trans h (by decide), v_new q⟩
theorem v_dt {xs : List V} (q : ∀ p H', H p = none → Same H H' → H' p = some (.tup xs) → Q (.ref p) H') (h : xs.length ≤ 1000 := by first | decide | simp | skip) : rNewT xs H Q := ⟨Nat.le_trans h (by decide), v_new q⟩
end

/-! ## a def of the text, ready to be called -/
structure Fn (P : Program) (w : World) (K : PySem.W.Frag) (mg : Str → Option Value) (base : Heap) (k : Nat) (x : Str) (ps : List Str) (sp : Sp) : Prop where
  ex : ∃ (f : Addr) (fd : FuncData), FnOk P w K mg base CX0 k f fd ps sp ∧ mg x = some (.ref f) ∧ PySem.W.keepIn K (.ref f) = true ∧ Binds K fd ps []
theorem Fn.mono {P : Program} {w : World} {K : PySem.W.Frag} {mg : Str → Option Value} {base : Heap} {j k : Nat} {x : Str} {ps : List Str} {sp : Sp} (h : Fn P w K mg base j x ps sp) (e : j ≤ k) : Fn P w K mg base k x ps sp := by
  obtain ⟨f, fd, F, m, kp, b⟩ := h
  exact ⟨f, fd, F.mono e, m, kp, b⟩
theorem Fn.imp {P : Program} {w : World} {K : PySem.W.Frag} {mg : Str → Option Value} {base : Heap} {k : Nat} {x : Str} {ps : List Str} {sp sp' : Sp} (h : Fn P w K mg base k x ps sp) (e : ∀ vs H Q E, sp' vs H Q E → sp vs H Q E) : Fn P w K mg base k x ps sp' := by
  obtain ⟨f, fd, F, m, kp, b⟩ := h
  exact ⟨f, fd, F.imp e, m, kp, b⟩
section
variable {X : Cx} {e : Expr} {es : List Expr} {t : TA} {p pos : Pos}
theorem cal {k j : Nat} {x : Str} {ps : List Str} {sp : Sp} (h : Fn X.prog X.w X.K X.mg X.base k x ps sp) (hr : Room j X.A) (ha : PA X (e :: es) t) (hj : k ≤ j := by omega) (hg : Gl X x := by rfl) (hdb : (x == ("__debug__" : Str)) = false := by decide)
    (he : starEach (e :: es) X.env = (false, eval e X.env) :: starEach es X.env := by rfl) (hpl : (backTo pos (starEach es X.env)).any (·.1) = false := by rfl) : PE X (.Call (.Name x p) (e :: es) [] pos) (tCall sp [] E0 t) := by
  obtain ⟨f, fd, F, m, kp, b⟩ := h
  exact pe_call F (hr.mono hj) hg m kp b .nil pass0 ha hdb he hpl
end

/-! ## the built-ins' names -/
structure Bt (mg : Str → Option Value) : Prop where
  abs : mg "abs" = none
  all : mg "all" = none
  any : mg "any" = none
  int : mg "int" = none
  isinstance : mg "isinstance" = none
  len : mg "len" = none
  list : mg "list" = none
  max : mg "max" = none
  min : mg "min" = none
  range : mg "range" = none
  sorted : mg "sorted" = none
  sum : mg "sum" = none
  tuple : mg "tuple" = none
  zip : mg "zip" = none
  bool : mg "bool" = none
theorem bt_abs : bootBuiltins "abs" = some (.builtin "abs") := by decide +kernel
theorem bt_all : bootBuiltins "all" = some (.builtin "all") := by decide +kernel
theorem bt_any : bootBuiltins "any" = some (.builtin "any") := by decide +kernel
theorem bt_isinstance : bootBuiltins "isinstance" = some (.builtin "isinstance") := by decide +kernel
theorem bt_len : bootBuiltins "len" = some (.builtin "len") := by decide +kernel
theorem bt_max : bootBuiltins "max" = some (.builtin "max") := by decide +kernel
theorem bt_min : bootBuiltins "min" = some (.builtin "min") := by decide +kernel
theorem bt_sorted : bootBuiltins "sorted" = some (.builtin "sorted") := by decide +kernel
theorem bt_sum : bootBuiltins "sum" = some (.builtin "sum") := by decide +kernel
theorem bt_int : bootBuiltins "int" = some (.type "int") := by decide +kernel
theorem bt_bool : bootBuiltins "bool" = some (.type "bool") := by decide +kernel
theorem bt_str : bootBuiltins "str" = some (.type "str") := by decide +kernel
theorem bt_list : bootBuiltins "list" = some (.type "list") := by decide +kernel
theorem bt_tuple : bootBuiltins "tuple" = some (.type "tuple") := by decide +kernel
section
variable {X : Cx} {e : Expr} {es : List Expr} {t : TA} {p pos : Pos} {r : List V → Hp → VK → Prop}
/-- a call of a built-in, of a built-in type -/
theorem cb {x : Str} {id : String} (hv : bootBuiltins x = some (.builtin id)) (hc : CallR X (.builtin id) r) (hm : X.mg x = none) (ha : PA X (e :: es) t) (hg : Gl X x := by rfl) (hn : x ≠ "__name__" := by decide) (hdb : (x == ("__debug__" : Str)) = false := by decide)
    (he : starEach (e :: es) X.env = (false, eval e X.env) :: starEach es X.env := by rfl) (hpl : (backTo pos (starEach es X.env)).any (·.1) = false := by rfl) : PE X (.Call (.Name x p) (e :: es) [] pos) (tCB r t) := pe_callB hc hg hm hv ha hn hdb he hpl
theorem ct {x : Str} {T : String} (hv : bootBuiltins x = some (.type T)) (hc : CallR X (.type T) r) (hm : X.mg x = none) (ha : PA X (e :: es) t) (hg : Gl X x := by rfl) (hn : x ≠ "__name__" := by decide) (hdb : (x == ("__debug__" : Str)) = false := by decide)
    (he : starEach (e :: es) X.env = (false, eval e X.env) :: starEach es X.env := by rfl) (hpl : (backTo pos (starEach es X.env)).any (·.1) = false := by rfl) : PE X (.Call (.Name x p) (e :: es) [] pos) (tCB r t) := pe_callTy hc hg hm hv ha hn hdb he hpl
/-- a built-in type's name as a value -/
theorem tyn {x : Str} {T : String} (hv : bootBuiltins x = some (.type T)) (hm : X.mg x = none) (hg : Gl X x := by rfl) (hn : x ≠ "__name__" := by decide) (hd : (x == ("__debug__" : Str)) = false := by decide) : PE X (.Name x pos) (tC (.ty T)) := pe_bltn hg hm hv rfl hn hd
end
/-- isinstance with a built-in type -/
def rIs (K : PySem.W.Frag) : List V → Hp → VK → Prop := fun xs H Q => ∃ (x : V) (a b : String) (k : Bool), xs = [x, .ty b] ∧ TyX K H x (.type a) ∧ kitB a b = some k ∧ Q (.bl k) H
theorem cr_is {X : Cx} : CallR X (.builtin "isinstance") (rIs X.K) := by
  intro pins s σ H xs us Q I r h
  obtain ⟨x, a, b, k, rfl, ty, e, q⟩ := h
  exact call_isi pins s σ H _ us Q I r ⟨x, .ty b, .type a, .type b, k, rfl, .ty b, ty, kit_ty e, q⟩

/-! ## what stays: tuples through every change; everything but a source of draws -/
def Imm (H H' : Hp) : Prop := ∀ a xs, H a = some (.tup xs) → H' a = some (.tup xs)
theorem Imm.refl (H : Hp) : Imm H H := fun _ _ h => h
theorem Imm.trans {H H1 H2 : Hp} (a : Imm H H1) (b : Imm H1 H2) : Imm H H2 := fun x xs h => b x xs (a x xs h)
theorem Imm.of_same {H H' : Hp} (e : Same H H') : Imm H H' := fun a xs h => e a _ h
/-- a list or a dict written anew -/
theorem Imm.mutL {H : Hp} {p : Addr} {xs : List V} {o : HO} (h : H p = some (.lst xs)) : Imm H (upd H p o) := fun a ys ha => by
  rw [upd_ne (ne_of ha h (by intro z; cases z))]; exact ha
theorem Imm.mutT {H : Hp} {p : Addr} {kvs : List (List Key × V)} {o : HO} (h : H p = some (.dT kvs)) : Imm H (upd H p o) := fun a ys ha => by
  rw [upd_ne (ne_of ha h (by intro z; cases z))]; exact ha
theorem Imm.mutK {H : Hp} {p : Addr} {kvs : List (Key × V)} {o : HO} (h : H p = some (.dK kvs)) : Imm H (upd H p o) := fun a ys ha => by
  rw [upd_ne (ne_of ha h (by intro z; cases z))]; exact ha

/-- a source of draws at g, its great cells at c -/
def IsRng (g c : Addr) (H : Hp) : Prop := ∃ (cells : List Int) (stir : Int), H g = some (.lst [.ref c, .int stir]) ∧ H c = some (.lst (cells.map V.int)) ∧ (∀ x ∈ cells, 0 ≤ x) ∧ cells.length ≤ 60 ∧ 0 ≤ stir ∧ stir < 2147483647
abbrev Rg := Option (Addr × Addr)
def Good : Rg → Hp → Prop
  | none, _ => True
  | some (g, c), H => IsRng g c H
def Off : Rg → Addr → Prop
  | none, _ => True
  | some (g, c), a => a ≠ g ∧ a ≠ c
structure Fr (r : Rg) (H H' : Hp) : Prop where
  good : Good r H
  good' : Good r H'
  keep : ∀ a o, Off r a → H a = some o → H' a = some o
theorem Off.new {r : Rg} {H : Hp} {p : Addr} (g : Good r H) (h : H p = none) : Off r p := by
  match r, g with
  | none, _ => trivial
  | some (x, c), ⟨cells, stir, h1, h2, _⟩ => exact ⟨(ne_of_none h1 h).symm, (ne_of_none h2 h).symm⟩
theorem Off.tup {r : Rg} {H : Hp} {p : Addr} {xs : List V} (g : Good r H) (h : H p = some (.tup xs)) : Off r p := by
  match r, g with
  | none, _ => trivial
  | some (x, c), ⟨cells, stir, h1, h2, _⟩ => exact ⟨ne_of h h1 (by intro z; cases z), ne_of h h2 (by intro z; cases z)⟩
theorem Off.dT {r : Rg} {H : Hp} {p : Addr} {xs : List (List Key × V)} (g : Good r H) (h : H p = some (.dT xs)) : Off r p := by
  match r, g with
  | none, _ => trivial
  | some (x, c), ⟨cells, stir, h1, h2, _⟩ => exact ⟨ne_of h h1 (by intro z; cases z), ne_of h h2 (by intro z; cases z)⟩
theorem Fr.refl {r : Rg} {H : Hp} (g : Good r H) : Fr r H H := ⟨g, g, fun _ _ _ h => h⟩
theorem Fr.trans {r : Rg} {H H1 H2 : Hp} (a : Fr r H H1) (b : Fr r H1 H2) : Fr r H H2 := ⟨a.good, b.good', fun p o f h => b.keep p o f (a.keep p o f h)⟩
theorem Good.same {r : Rg} {H H' : Hp} (g : Good r H) (e : Same H H') : Good r H' := by
  match r, g with
  | none, _ => trivial
  | some (x, c), ⟨cells, stir, h1, h2, h3⟩ => exact ⟨cells, stir, e _ _ h1, e _ _ h2, h3⟩
theorem Fr.same {r : Rg} {H H' : Hp} (g : Good r H) (e : Same H H') : Fr r H H' := ⟨g, g.same e, fun p o _ h => e p o h⟩
theorem Fr.to {H H' : Hp} (e : Fr none H H') : Same H H' := fun a o h => e.keep a o trivial h
theorem Fr.imm {r : Rg} {H H' : Hp} (e : Fr r H H') : Imm H H' := fun a xs h => e.keep a _ (Off.tup e.good h) h
theorem Fr.tup {r : Rg} {H H' : Hp} {a : Addr} {xs : List V} (e : Fr r H H') (h : H a = some (.tup xs)) : H' a = some (.tup xs) := e.imm a xs h
theorem Fr.dT {r : Rg} {H H' : Hp} {a : Addr} {xs : List (List Key × V)} (e : Fr r H H') (h : H a = some (.dT xs)) : H' a = some (.dT xs) := e.keep a _ (Off.dT e.good h) h
theorem Fr.lst {r : Rg} {H H' : Hp} {a : Addr} {xs : List V} (e : Fr r H H') (f : Off r a) (h : H a = some (.lst xs)) : H' a = some (.lst xs) := e.keep a _ f h
theorem Fr.free {r : Rg} {H H' : Hp} (e : Fr r H H') {p : Addr} (h : H' p = none) : H p = none := by
  cases q : H p with
  | none => rfl
  | some o =>
    exfalso
    match r, e with
    | none, e => rw [e.keep p o trivial q] at h; cases h
    | some (g, c), e =>
      obtain ⟨cells, stir, h1, h2, _⟩ := e.good'
      by_cases hg : p = g
      · subst hg; rw [h1] at h; cases h
      · by_cases hc : p = c
        · subst hc; rw [h2] at h; cases h
        · rw [e.keep p o ⟨hg, hc⟩ q] at h; cases h
/-- something that was not there at H may change -/
theorem Fr.mut {r : Rg} {H H' : Hp} {p : Addr} {o : HO} (e : Fr r H H') (h : H p = none) : Fr r H (upd H' p o) := by
  refine ⟨e.good, ?_, fun a u f ha => ?_⟩
  · have f := Off.new e.good h
    match r, f, e.good' with
    | none, _, _ => trivial
    | some (g, c), f, ⟨cells, stir, h1, h2, h3⟩ => exact ⟨cells, stir, by rw [upd_ne f.1.symm]; exact h1, by rw [upd_ne f.2.symm]; exact h2, h3⟩
  · rw [upd_ne (ne_of_none ha h)]; exact e.keep a u f ha
theorem Fr.new {r : Rg} {H : Hp} {p : Addr} {o : HO} (g : Good r H) (h : H p = none) : Fr r H (upd H p o) := (Fr.refl g).mut h

theorem len_flat_mem {α β : Type} {f : α → List β} : ∀ {l : List α} {x : α}, x ∈ l → (f x).length ≤ (l.flatMap f).length
  | [], _, h => by simp at h
  | a :: l, x, h => by
    rw [List.flatMap_cons, List.length_append]
    rcases List.mem_cons.mp h with rfl | h
    · omega
    · have := len_flat_mem (f := f) h
      omega
/-! ## comprehensions: each item told by a word that tuples' staying keeps -/
theorem lst_ext {ys zs : List V} (hl : ys.length = zs.length) (h : ∀ (i : Nat) (y z : V), ys[i]? = some y → zs[i]? = some z → y = z) : ys = zs := by
  apply List.ext_getElem hl
  intro i h1 h2
  exact h i _ _ (List.getElem?_eq_getElem h1) (List.getElem?_eq_getElem h2)
section
variable {K : PySem.W.Frag} {σ : L2.St} {Q : VK} {g : TG} {te : TE} {vs : List Nat}
theorem lc_any {J : It} {n : Nat} {G : Hp → Prop} {Y : Nat → Hp → V → Hp → Prop} {r : Rg} {H1 : Hp} {D : Addr} {Qd : Hp → Prop} (w : L2.Walk J n G Y) (gd : Good r H1) (hD : H1 D = none) (R : Nat → V → Hp → Prop)
    (hR : ∀ i v H H', Imm H H' → R i v H → R i v H') (hn : n ≤ 1000000) (hG : ∀ H, Fr r H1 H → G H)
    (hs : ∀ i x H H' (Qn : VK), i < n → Fr r H1 H → Y i H x H' → (∀ y H3, Fr r H H3 → R i y H3 → Qn y H3) → g x (wipe σ vs) H' fun σ2 H2 => wipe σ2 vs = wipe σ vs ∧ te σ2 H2 Qn)
    (hd : ∀ ys H, Fr r H1 H → H D = some (.lst ys) → ys.length = n → (∀ i y, ys[i]? = some y → R i y H) → Qd H) :
    ∃ W : Nat → Nat → Hp → Prop, (∃ m, W 0 m (upd H1 D (.lst []))) ∧ ∀ i m H, W i m H →
      (J.stop i H ∧ Qd H) ∨ (J.go i H ∧ ∃ Nx : Hp → Prop, (∀ H', Nx H' → ∃ m', m' < m ∧ W (i + 1) m' H') ∧ ∀ x H', J.yld i H x H' → g x (wipe σ vs) H' fun σ2 H2 => wipe σ2 vs = wipe σ vs ∧ tYes σ2 H2 fun b H3 =>
        if b = true then te σ2 H3 fun y H4 => ∃ acc, H4 D = some (.lst acc) ∧ acc.length < sizeLine ∧ Nx (upd H4 D (.lst (acc ++ [y]))) else Nx H3) := by
  refine lc_it w (fun i H => Fr r H1 H ∧ ∃ ys, H D = some (.lst ys) ∧ ys.length = i ∧ ∀ j y, ys[j]? = some y → R j y H) ⟨Fr.new gd hD, [], upd_same, rfl, fun j y h => by simp at h⟩
    (fun i H _ p => hG H p.1) (fun i x H H' hi p hy => ?_) (fun H p => ?_)
  · obtain ⟨fr, ys, e, hl, hr⟩ := p
    have hoff : Off r D := Off.new gd hD
    refine hs i x H H' (fun y H4 => ∃ acc, H4 D = some (.lst acc) ∧ acc.length < sizeLine ∧ (fun i H => Fr r H1 H ∧ ∃ ys, H D = some (.lst ys) ∧ ys.length = i ∧ ∀ j y, ys[j]? = some y → R j y H) (i + 1) (upd H4 D (.lst (acc ++ [y])))) hi fr hy (fun y H3 f3 r3 => ?_)
    have e3 : H3 D = some (.lst ys) := f3.lst hoff e
    have im : Imm H3 (upd H3 D (.lst (ys ++ [y]))) := Imm.mutL e3
    refine ⟨ys, e3, Nat.lt_of_le_of_lt (show ys.length ≤ 1000000 by omega) (by decide), (fr.trans f3).mut hD, ys ++ [y], upd_same, by rw [List.length_append, hl]; rfl, fun j z hz => ?_⟩
    by_cases hj : j < ys.length
    · rw [List.getElem?_append_left hj] at hz
      exact hR j z _ _ (f3.imm.trans im) (hr j z hz)
    · have hj2 : j = ys.length := by
        have := (List.getElem?_eq_some_iff.mp hz).1
        rw [List.length_append] at this
        simp at this
        omega
      subst hj2
      rw [List.getElem?_append_right (Nat.le_refl _), Nat.sub_self] at hz
      have ez : y = z := Option.some.inj hz
      subst ez
      rw [hl]
      exact hR _ _ _ _ im r3
  · obtain ⟨fr, ys, e, hl, hr⟩ := p
    exact hd ys H fr e hl hr
end

section
variable {σ : L2.St} {H : Hp} {Q : VK} {K : PySem.W.Frag}
theorem kit_int_int : kitB "int" "int" = some true := by decide +kernel
theorem kit_int_bool : kitB "int" "bool" = some false := by decide +kernel
theorem kit_tup_tup : kitB "tuple" "tuple" = some true := by decide +kernel
theorem v_isII {i : Int} (q : Q (.bl true) H) : rIs K [.int i, .ty "int"] H Q := ⟨_, "int", "int", true, rfl, .base (.int i), kit_int_int, q⟩
theorem v_isIB {i : Int} (q : Q (.bl false) H) : rIs K [.int i, .ty "bool"] H Q := ⟨_, "int", "bool", false, rfl, .base (.int i), kit_int_bool, q⟩
theorem v_isTT {a : Addr} {xs : List V} (h : H a = some (.tup xs)) (q : Q (.bl true) H) : rIs K [.ref a, .ty "tuple"] H Q := ⟨_, "tuple", "tuple", true, rfl, .base (.tup h), kit_tup_tup, q⟩
def rLenS (K : PySem.W.Frag) : List V → Hp → VK → Prop := fun xs H Q => ∃ p ys, xs = [.ref p] ∧ (SqL K H p ys ∨ SqT K H p ys) ∧ Q (.int ys.length) H
theorem v_lenT {a : Addr} {xs : List V} (h : H a = some (.tup xs)) (q : Q (.int (xs.length : Nat)) H) : rLenS K [.ref a] H Q := ⟨a, xs, rfl, .inr (SqT.of h), q⟩
theorem v_lenL {a : Addr} {xs : List V} (h : H a = some (.lst xs)) (q : Q (.int (xs.length : Nat)) H) : rLenS K [.ref a] H Q := ⟨a, xs, rfl, .inl (SqL.of h), q⟩
theorem v_all {a : Addr} {bs : List Bool} (h : H a = some (.lst (bs.map V.bl))) (q : Q (.bl (bs.all id)) H) : rAll K [.ref a] H Q := ⟨a, bs, rfl, SqL.of h, q⟩
theorem v_any {a : Addr} {bs : List Bool} (h : H a = some (.lst (bs.map V.bl))) (q : Q (.bl (bs.any id)) H) : rAny K [.ref a] H Q := ⟨a, bs, rfl, SqL.of h, q⟩
theorem v_sum {a : Addr} {ns : List Int} (h : H a = some (.lst (ns.map V.int))) (q : Q (.int ns.sum) H) : rSum K [.ref a] H Q := ⟨a, ns, rfl, SqL.of h, q⟩
def rTupOf (K : PySem.W.Frag) : List V → Hp → VK → Prop := fun xs H Q => ∃ p ys, xs = [.ref p] ∧ ((SqL K H p ys ∧ ∀ l, H l = none → Q (.ref l) (upd H l (.tup ys))) ∨ (SqT K H p ys ∧ Q (.ref p) H))
theorem v_tupL {a : Addr} {xs : List V} (h : H a = some (.lst xs)) (q : ∀ p H', H p = none → Same H H' → H' p = some (.tup xs) → Q (.ref p) H') : rTupOf K [.ref a] H Q := ⟨a, xs, rfl, .inl ⟨SqL.of h, v_new q⟩⟩
theorem v_tupT {a : Addr} {xs : List V} (h : H a = some (.tup xs)) (q : Q (.ref a) H) : rTupOf K [.ref a] H Q := ⟨a, xs, rfl, .inr ⟨SqT.of h, q⟩⟩
def rListOf (K : PySem.W.Frag) : List V → Hp → VK → Prop := fun xs H Q => ∃ p ys, xs = [.ref p] ∧ (SqL K H p ys ∨ SqT K H p ys) ∧ ∀ l, H l = none → Q (.ref l) (upd H l (.lst ys))
theorem v_listL {a : Addr} {xs : List V} (h : H a = some (.lst xs)) (q : ∀ p H', H p = none → Same H H' → H' p = some (.lst xs) → Q (.ref p) H') : rListOf K [.ref a] H Q := ⟨a, xs, rfl, .inl (SqL.of h), v_new q⟩
theorem v_listT {a : Addr} {xs : List V} (h : H a = some (.tup xs)) (q : ∀ p H', H p = none → Same H H' → H' p = some (.lst xs) → Q (.ref p) H') : rListOf K [.ref a] H Q := ⟨a, xs, rfl, .inr (SqT.of h), v_new q⟩
end
section
variable {K : PySem.W.Frag} {σ : L2.St} {H : Hp} {Q : VK} {te tl : TE} {vs : List Nat} {j : Nat} {r : Rg} {H1 : Hp} {a D : Addr} {xs : List V} {Qd : Hp → Prop}
theorem v_itup {R : It → Hp → Prop} (q : tl σ H fun x H1 => ∃ a, x = .ref a ∧ (∃ xs, SqT K H1 a xs) ∧ R (Itt K a) H1) : iTup K tl σ H R := q
theorem v_ilist {R : It → Hp → Prop} (q : tl σ H fun x H1 => ∃ a, x = .ref a ∧ (∃ xs, SqL K H1 a xs) ∧ R (Itl K a) H1) : iList K tl σ H R := q
theorem v_lc {wi : TI} {g : TG} {tt : TT} (q : wi σ H fun J H1 => ∀ D, H1 D = none → ∃ W : Nat → Nat → Hp → Prop, (∃ m, W 0 m (upd H1 D (.lst []))) ∧ ∀ i m H, W i m H →
  (J.stop i H ∧ Q (.ref D) H) ∨ (J.go i H ∧ ∃ Nx : Hp → Prop, (∀ H', Nx H' → ∃ m', m' < m ∧ W (i + 1) m' H') ∧ ∀ x H', J.yld i H x H' → g x (wipe σ vs) H' fun σ2 H2 => wipe σ2 vs = wipe σ vs ∧ tt σ2 H2 fun b H3 =>
    if b = true then te σ2 H3 fun y H4 => ∃ acc, H4 D = some (.lst acc) ∧ acc.length < sizeLine ∧ Nx (upd H4 D (.lst (acc ++ [y]))) else Nx H3)) : tLc wi g tt te vs σ H Q := q
theorem lc_tupR (hx : H1 a = some (.tup xs)) (gd : Good r H1) (hD : H1 D = none) (R : Nat → V → Hp → Prop) (hR : ∀ i v H H', Imm H H' → R i v H → R i v H') (hn : xs.length ≤ 1000000)
    (hw : ∀ x, wipe ((wipe σ vs).set j (some x)) vs = wipe σ vs)
    (hs : ∀ i x H (Qn : VK), xs[i]? = some x → Fr r H1 H → (∀ y H3, Fr r H H3 → R i y H3 → Qn y H3) → te ((wipe σ vs).set j (some x)) H Qn)
    (hd : ∀ ys H, Fr r H1 H → H D = some (.lst ys) → ys.length = xs.length → (∀ i y, ys[i]? = some y → R i y H) → Qd H) :
    ∃ W : Nat → Nat → Hp → Prop, (∃ m, W 0 m (upd H1 D (.lst []))) ∧ ∀ i m H, W i m H →
      ((Itt K a).stop i H ∧ Qd H) ∨ ((Itt K a).go i H ∧ ∃ Nx : Hp → Prop, (∀ H', Nx H' → ∃ m', m' < m ∧ W (i + 1) m' H') ∧ ∀ x H', (Itt K a).yld i H x H' → gName j x (wipe σ vs) H' fun σ2 H2 => wipe σ2 vs = wipe σ vs ∧ tYes σ2 H2 fun b H3 =>
        if b = true then te σ2 H3 fun y H4 => ∃ acc, H4 D = some (.lst acc) ∧ acc.length < sizeLine ∧ Nx (upd H4 D (.lst (acc ++ [y]))) else Nx H3) :=
  lc_any (walk_tup (xs := xs)) gd hD R hR hn (fun H f => SqT.of (f.tup hx)) (fun i x H H' Qn hi f y q => by obtain ⟨rfl, hy⟩ := y; exact ⟨hw x, hs i x _ Qn hy f q⟩) hd
theorem lc_listR (hx : H1 a = some (.lst xs)) (ho : Off r a) (gd : Good r H1) (hD : H1 D = none) (R : Nat → V → Hp → Prop) (hR : ∀ i v H H', Imm H H' → R i v H → R i v H') (hn : xs.length ≤ 1000000)
    (hw : ∀ x, wipe ((wipe σ vs).set j (some x)) vs = wipe σ vs)
    (hs : ∀ i x H (Qn : VK), xs[i]? = some x → Fr r H1 H → (∀ y H3, Fr r H H3 → R i y H3 → Qn y H3) → te ((wipe σ vs).set j (some x)) H Qn)
    (hd : ∀ ys H, Fr r H1 H → H D = some (.lst ys) → ys.length = xs.length → (∀ i y, ys[i]? = some y → R i y H) → Qd H) :
    ∃ W : Nat → Nat → Hp → Prop, (∃ m, W 0 m (upd H1 D (.lst []))) ∧ ∀ i m H, W i m H →
      ((Itl K a).stop i H ∧ Qd H) ∨ ((Itl K a).go i H ∧ ∃ Nx : Hp → Prop, (∀ H', Nx H' → ∃ m', m' < m ∧ W (i + 1) m' H') ∧ ∀ x H', (Itl K a).yld i H x H' → gName j x (wipe σ vs) H' fun σ2 H2 => wipe σ2 vs = wipe σ vs ∧ tYes σ2 H2 fun b H3 =>
        if b = true then te σ2 H3 fun y H4 => ∃ acc, H4 D = some (.lst acc) ∧ acc.length < sizeLine ∧ Nx (upd H4 D (.lst (acc ++ [y]))) else Nx H3) :=
  lc_any (walk_list (xs := xs)) gd hD R hR hn (fun H f => SqL.of (f.lst ho hx)) (fun i x H H' Qn hi f y q => by obtain ⟨rfl, hy⟩ := y; exact ⟨hw x, hs i x _ Qn hy f q⟩) hd
theorem map_of_at {α β : Type} {xs : List α} {ys : List β} {f : α → β} (hl : ys.length = xs.length) (h : ∀ (i : Nat) (x : α) (y : β), xs[i]? = some x → ys[i]? = some y → y = f x) : ys = xs.map f := by
  apply List.ext_getElem (by rw [List.length_map, hl])
  intro i h1 h2
  have h3 : i < xs.length := by rw [← hl]; exact h1
  rw [List.getElem_map]
  exact h i _ _ (List.getElem?_eq_getElem h3) (List.getElem?_eq_getElem h1)
/-- each item's value by a function -/
theorem lc_tupF (hx : H1 a = some (.tup xs)) (gd : Good r H1) (hD : H1 D = none) (f : V → V) (hn : xs.length ≤ 1000000)
    (hw : ∀ x, wipe ((wipe σ vs).set j (some x)) vs = wipe σ vs)
    (hs : ∀ x H (Qn : VK), x ∈ xs → Fr r H1 H → (∀ H3, Fr r H H3 → Qn (f x) H3) → te ((wipe σ vs).set j (some x)) H Qn)
    (hd : ∀ H, Fr r H1 H → H D = some (.lst (xs.map f)) → Qd H) :
    ∃ W : Nat → Nat → Hp → Prop, (∃ m, W 0 m (upd H1 D (.lst []))) ∧ ∀ i m H, W i m H →
      ((Itt K a).stop i H ∧ Qd H) ∨ ((Itt K a).go i H ∧ ∃ Nx : Hp → Prop, (∀ H', Nx H' → ∃ m', m' < m ∧ W (i + 1) m' H') ∧ ∀ x H', (Itt K a).yld i H x H' → gName j x (wipe σ vs) H' fun σ2 H2 => wipe σ2 vs = wipe σ vs ∧ tYes σ2 H2 fun b H3 =>
        if b = true then te σ2 H3 fun y H4 => ∃ acc, H4 D = some (.lst acc) ∧ acc.length < sizeLine ∧ Nx (upd H4 D (.lst (acc ++ [y]))) else Nx H3) :=
  lc_tupR hx gd hD (fun i v _ => ∃ x, xs[i]? = some x ∧ v = f x) (fun _ _ _ _ _ h => h) hn hw (fun i x H Qn hi fr q => hs x H Qn (List.mem_of_getElem? hi) fr fun H3 f3 => q _ H3 f3 ⟨x, hi, rfl⟩)
    (fun ys H fr e hl hr => hd H fr (by rw [e, map_of_at hl fun i x y h1 h2 => by obtain ⟨x', h3, h4⟩ := hr i y h2; rw [h1] at h3; cases h3; exact h4]))
theorem lc_listF (hx : H1 a = some (.lst xs)) (ho : Off r a) (gd : Good r H1) (hD : H1 D = none) (f : V → V) (hn : xs.length ≤ 1000000)
    (hw : ∀ x, wipe ((wipe σ vs).set j (some x)) vs = wipe σ vs)
    (hs : ∀ x H (Qn : VK), x ∈ xs → Fr r H1 H → (∀ H3, Fr r H H3 → Qn (f x) H3) → te ((wipe σ vs).set j (some x)) H Qn)
    (hd : ∀ H, Fr r H1 H → H D = some (.lst (xs.map f)) → Qd H) :
    ∃ W : Nat → Nat → Hp → Prop, (∃ m, W 0 m (upd H1 D (.lst []))) ∧ ∀ i m H, W i m H →
      ((Itl K a).stop i H ∧ Qd H) ∨ ((Itl K a).go i H ∧ ∃ Nx : Hp → Prop, (∀ H', Nx H' → ∃ m', m' < m ∧ W (i + 1) m' H') ∧ ∀ x H', (Itl K a).yld i H x H' → gName j x (wipe σ vs) H' fun σ2 H2 => wipe σ2 vs = wipe σ vs ∧ tYes σ2 H2 fun b H3 =>
        if b = true then te σ2 H3 fun y H4 => ∃ acc, H4 D = some (.lst acc) ∧ acc.length < sizeLine ∧ Nx (upd H4 D (.lst (acc ++ [y]))) else Nx H3) :=
  lc_listR hx ho gd hD (fun i v _ => ∃ x, xs[i]? = some x ∧ v = f x) (fun _ _ _ _ _ h => h) hn hw (fun i x H Qn hi fr q => hs x H Qn (List.mem_of_getElem? hi) fr fun H3 f3 => q _ H3 f3 ⟨x, hi, rfl⟩)
    (fun ys H fr e hl hr => hd H fr (by rw [e, map_of_at hl fun i x y h1 h2 => by obtain ⟨x', h3, h4⟩ := hr i y h2; rw [h1] at h3; cases h3; exact h4]))
end

section
variable {K : PySem.W.Frag} {σ : L2.St} {H : Hp} {te : TE} {vs : List Nat} {j : Nat} {a : Addr} {xs : List V} {Qd : Addr → Hp → Prop}
theorem v_lcTR (r : Rg) (hx : H a = some (.tup xs)) (gd : Good r H) (R : Nat → V → Hp → Prop) (hR : ∀ i v H H', Imm H H' → R i v H → R i v H') (hn : xs.length ≤ 1000000)
    (hw : ∀ x, wipe ((wipe σ vs).set j (some x)) vs = wipe σ vs)
    (hs : ∀ i x H2 (Qn : VK), xs[i]? = some x → Fr r H H2 → (∀ y H3, Fr r H2 H3 → R i y H3 → Qn y H3) → te ((wipe σ vs).set j (some x)) H2 Qn)
    (hd : ∀ D ys H2, H D = none → Fr r H H2 → H2 D = some (.lst ys) → ys.length = xs.length → (∀ i y, ys[i]? = some y → R i y H2) → Qd D H2) :
    ∃ a', V.ref a = .ref a' ∧ (∃ xs, SqT K H a' xs) ∧ ∀ D, H D = none → ∃ W : Nat → Nat → Hp → Prop, (∃ m, W 0 m (upd H D (.lst []))) ∧ ∀ i m H, W i m H →
      ((Itt K a').stop i H ∧ Qd D H) ∨ ((Itt K a').go i H ∧ ∃ Nx : Hp → Prop, (∀ H', Nx H' → ∃ m', m' < m ∧ W (i + 1) m' H') ∧ ∀ x H', (Itt K a').yld i H x H' → gName j x (wipe σ vs) H' fun σ2 H2 => wipe σ2 vs = wipe σ vs ∧ tYes σ2 H2 fun b H3 =>
        if b = true then te σ2 H3 fun y H4 => ∃ acc, H4 D = some (.lst acc) ∧ acc.length < sizeLine ∧ Nx (upd H4 D (.lst (acc ++ [y]))) else Nx H3) :=
  ⟨a, rfl, ⟨xs, SqT.of hx⟩, fun D hD => lc_tupR hx gd hD R hR hn hw hs (fun ys H2 => hd D ys H2 hD)⟩
theorem v_lcTF (r : Rg) {α : Type} {L : List α} {e : α → V} (hx : H a = some (.tup (L.map e))) (gd : Good r H) (f : α → V) (hn : L.length ≤ 1000000)
    (hw : ∀ x, wipe ((wipe σ vs).set j (some x)) vs = wipe σ vs)
    (hs : ∀ x H2 (Qn : VK), x ∈ L → Fr r H H2 → (∀ H3, Fr r H2 H3 → Qn (f x) H3) → te ((wipe σ vs).set j (some (e x))) H2 Qn)
    (hd : ∀ D H2, H D = none → Fr r H H2 → H2 D = some (.lst (L.map f)) → Qd D H2) :
    ∃ a', V.ref a = .ref a' ∧ (∃ xs, SqT K H a' xs) ∧ ∀ D, H D = none → ∃ W : Nat → Nat → Hp → Prop, (∃ m, W 0 m (upd H D (.lst []))) ∧ ∀ i m H, W i m H →
      ((Itt K a').stop i H ∧ Qd D H) ∨ ((Itt K a').go i H ∧ ∃ Nx : Hp → Prop, (∀ H', Nx H' → ∃ m', m' < m ∧ W (i + 1) m' H') ∧ ∀ x H', (Itt K a').yld i H x H' → gName j x (wipe σ vs) H' fun σ2 H2 => wipe σ2 vs = wipe σ vs ∧ tYes σ2 H2 fun b H3 =>
        if b = true then te σ2 H3 fun y H4 => ∃ acc, H4 D = some (.lst acc) ∧ acc.length < sizeLine ∧ Nx (upd H4 D (.lst (acc ++ [y]))) else Nx H3) :=
  ⟨a, rfl, ⟨_, SqT.of hx⟩, fun D hD => lc_tupR hx gd hD (fun i v _ => ∃ x, L[i]? = some x ∧ v = f x) (fun _ _ _ _ _ h => h) (by rw [List.length_map]; exact hn) hw
    (fun i y H2 Qn hi fr q => by
      rw [List.getElem?_map] at hi
      obtain ⟨x, h1, h2⟩ := Option.map_eq_some_iff.mp hi
      subst h2
      exact hs x H2 Qn (List.mem_of_getElem? h1) fr fun H3 f3 => q _ H3 f3 ⟨x, h1, rfl⟩)
    (fun ys H2 fr e2 hl hr => hd D H2 hD fr (by
      rw [e2, map_of_at (ys := ys) (xs := L) (f := f) (by rw [hl, List.length_map]) fun i x y h1 h2 => by obtain ⟨x', h3, h4⟩ := hr i y h2; rw [h1] at h3; cases h3; exact h4]))⟩
theorem v_lcLR (r : Rg) (hx : H a = some (.lst xs)) (ho : Off r a) (gd : Good r H) (R : Nat → V → Hp → Prop) (hR : ∀ i v H H', Imm H H' → R i v H → R i v H') (hn : xs.length ≤ 1000000)
    (hw : ∀ x, wipe ((wipe σ vs).set j (some x)) vs = wipe σ vs)
    (hs : ∀ i x H2 (Qn : VK), xs[i]? = some x → Fr r H H2 → (∀ y H3, Fr r H2 H3 → R i y H3 → Qn y H3) → te ((wipe σ vs).set j (some x)) H2 Qn)
    (hd : ∀ D ys H2, H D = none → Fr r H H2 → H2 D = some (.lst ys) → ys.length = xs.length → (∀ i y, ys[i]? = some y → R i y H2) → Qd D H2) :
    ∃ a', V.ref a = .ref a' ∧ (∃ xs, SqL K H a' xs) ∧ ∀ D, H D = none → ∃ W : Nat → Nat → Hp → Prop, (∃ m, W 0 m (upd H D (.lst []))) ∧ ∀ i m H, W i m H →
      ((Itl K a').stop i H ∧ Qd D H) ∨ ((Itl K a').go i H ∧ ∃ Nx : Hp → Prop, (∀ H', Nx H' → ∃ m', m' < m ∧ W (i + 1) m' H') ∧ ∀ x H', (Itl K a').yld i H x H' → gName j x (wipe σ vs) H' fun σ2 H2 => wipe σ2 vs = wipe σ vs ∧ tYes σ2 H2 fun b H3 =>
        if b = true then te σ2 H3 fun y H4 => ∃ acc, H4 D = some (.lst acc) ∧ acc.length < sizeLine ∧ Nx (upd H4 D (.lst (acc ++ [y]))) else Nx H3) :=
  ⟨a, rfl, ⟨xs, SqL.of hx⟩, fun D hD => lc_listR hx ho gd hD R hR hn hw hs (fun ys H2 => hd D ys H2 hD)⟩
theorem v_lcLF (r : Rg) {α : Type} {L : List α} {e : α → V} (hx : H a = some (.lst (L.map e))) (ho : Off r a) (gd : Good r H) (f : α → V) (hn : L.length ≤ 1000000)
    (hw : ∀ x, wipe ((wipe σ vs).set j (some x)) vs = wipe σ vs)
    (hs : ∀ x H2 (Qn : VK), x ∈ L → Fr r H H2 → (∀ H3, Fr r H2 H3 → Qn (f x) H3) → te ((wipe σ vs).set j (some (e x))) H2 Qn)
    (hd : ∀ D H2, H D = none → Fr r H H2 → H2 D = some (.lst (L.map f)) → Qd D H2) :
    ∃ a', V.ref a = .ref a' ∧ (∃ xs, SqL K H a' xs) ∧ ∀ D, H D = none → ∃ W : Nat → Nat → Hp → Prop, (∃ m, W 0 m (upd H D (.lst []))) ∧ ∀ i m H, W i m H →
      ((Itl K a').stop i H ∧ Qd D H) ∨ ((Itl K a').go i H ∧ ∃ Nx : Hp → Prop, (∀ H', Nx H' → ∃ m', m' < m ∧ W (i + 1) m' H') ∧ ∀ x H', (Itl K a').yld i H x H' → gName j x (wipe σ vs) H' fun σ2 H2 => wipe σ2 vs = wipe σ vs ∧ tYes σ2 H2 fun b H3 =>
        if b = true then te σ2 H3 fun y H4 => ∃ acc, H4 D = some (.lst acc) ∧ acc.length < sizeLine ∧ Nx (upd H4 D (.lst (acc ++ [y]))) else Nx H3) :=
  ⟨a, rfl, ⟨_, SqL.of hx⟩, fun D hD => lc_listR hx ho gd hD (fun i v _ => ∃ x, L[i]? = some x ∧ v = f x) (fun _ _ _ _ _ h => h) (by rw [List.length_map]; exact hn) hw
    (fun i y H2 Qn hi fr q => by
      rw [List.getElem?_map] at hi
      obtain ⟨x, h1, h2⟩ := Option.map_eq_some_iff.mp hi
      subst h2
      exact hs x H2 Qn (List.mem_of_getElem? h1) fr fun H3 f3 => q _ H3 f3 ⟨x, h1, rfl⟩)
    (fun ys H2 fr e2 hl hr => hd D H2 hD fr (by
      rw [e2, map_of_at (ys := ys) (xs := L) (f := f) (by rw [hl, List.length_map]) fun i x y h1 h2 => by obtain ⟨x', h3, h4⟩ := hr i y h2; rw [h1] at h3; cases h3; exact h4]))⟩
end

/-! ## the rules with the written part named by itself (a comprehension's block has the same one) -/
section
variable {X : Cx} {K : PySem.W.Frag} {a b e : Expr} {es : List Expr} {ta tb te tl : TE} {t : TA} {pos apos cpos : Pos}
theorem ixL (hK : X.K = K) : IxR X (rIxL K) := hK ▸ ix_list
theorem ixT (hK : X.K = K) : IxR X (rIxT K) := hK ▸ ix_tup
theorem ixS (hK : X.K = K) : IxR X rIxS := ix_str
theorem crIs (hK : X.K = K) : CallR X (.builtin "isinstance") (rIs K) := hK ▸ cr_is
theorem crLen (hK : X.K = K) : CallR X (.builtin "len") (rLenS K) := hK ▸ call_len_seq
def rLenStr : List V → Hp → VK → Prop := fun xs H Q => ∃ z, xs = [.str z] ∧ z.length ≤ sizeLine ∧ Q (.int z.length) H
theorem crLenS (hK : X.K = K) : CallR X (.builtin "len") rLenStr := call_len_str
theorem crLenT (hK : X.K = K) : CallR X (.builtin "len") rLenT := call_len_dT
theorem crSum (hK : X.K = K) (hc : X.calm = true) : CallR X (.builtin "sum") (rSum K) := hK ▸ cr_sum hc
theorem crMax (hK : X.K = K) (hc : X.calm = true) : CallR X (.builtin "max") (rMax K) := hK ▸ cr_max hc
theorem crMin (hK : X.K = K) (hc : X.calm = true) : CallR X (.builtin "min") (rMin K) := hK ▸ cr_min hc
theorem crAll (hK : X.K = K) (hc : X.calm = true) : CallR X (.builtin "all") (rAll K) := hK ▸ cr_all hc
theorem crAny (hK : X.K = K) (hc : X.calm = true) : CallR X (.builtin "any") (rAny K) := hK ▸ cr_any hc
theorem crTup (hK : X.K = K) : CallR X (.type "tuple") (rTupOf K) := hK ▸ call_tuple_of
theorem crList (hK : X.K = K) : CallR X (.type "list") (rListOf K) := hK ▸ call_list_of
def rListDT : List V → Hp → VK → Prop := fun xs H Q => ∃ d kvs, xs = [V.ref d] ∧ Rd H d (.dT kvs) ∧ ∀ p bs, H p = none → IsKeys H kvs bs → Q (.ref p) (upd H p (.lst (bs.map V.ref)))
theorem crListT (hK : X.K = K) (hc : X.calm = true) : CallR X (.type "list") rListDT := call_list_dT hc
theorem crSortedS (hK : X.K = K) : CallR X (.builtin "sorted") (rSortedS K) := hK ▸ cr_sortedS
def rAbs : List V → Hp → VK → Prop := fun xs H Q => ∃ i, xs = [.int i] ∧ Q (.int (if i < 0 then -i else i)) H
theorem crAbs (hK : X.K = K) : CallR X (.builtin "abs") rAbs := call_abs
def rMax2 : List V → Hp → VK → Prop := fun xs H Q => ∃ i j, xs = [.int i, .int j] ∧ Q (.int (if j > i then j else i)) H
theorem crMax2 (hK : X.K = K) (hc : X.calm = true) : CallR X (.builtin "max") rMax2 := call_max2 hc
def rMin2 : List V → Hp → VK → Prop := fun xs H Q => ∃ i j, xs = [.int i, .int j] ∧ Q (.int (if j < i then j else i)) H
theorem crMin2 (hK : X.K = K) (hc : X.calm = true) : CallR X (.builtin "min") rMin2 := call_min2 hc
def rInt1 : List V → Hp → VK → Prop := fun xs H Q => (∃ i, xs = [.int i] ∧ Q (.int i) H) ∨ ∃ k, xs = [.bl k] ∧ Q (.int (if k then 1 else 0)) H
theorem crInt (hK : X.K = K) : CallR X (.type "int") rInt1 := call_int1
theorem slL (hK : X.K = K) : SlR X (rSlL K) := hK ▸ sl_list
theorem slT (hK : X.K = K) : SlR X (rSlT K) := hK ▸ sl_tup
theorem slS (hK : X.K = K) : SlR X rSlS := sl_str
theorem opInL (hK : X.K = K) : OpR X (compareOp .In) (rIn K false) := hK ▸ op_in_seq
theorem opNotInL (hK : X.K = K) : OpR X (compareOp .NotIn) (rIn K true) := hK ▸ op_notIn_seq
theorem opEqD (hK : X.K = K) (hu : X.A.units + 64 < cLine) : OpR X (compareOp .Eq) (rEqD K) := hK ▸ op_eqD hu
theorem opNeD (hK : X.K = K) (hu : X.A.units + 64 < cLine) : OpR X (compareOp .NotEq) (rNeD K) := hK ▸ op_neD hu
theorem mtIndex (hK : X.K = K) : MtR X "list.index" (rIndex K) := hK ▸ mt_index
theorem piL {tg : Expr} (hK : X.K = K) (hl : PE X e tl) : PI X tg e (iList K tl) := hK ▸ pi_list hl
theorem piT {tg : Expr} (hK : X.K = K) (hl : PE X e tl) : PI X tg e (iTup K tl) := hK ▸ pi_tup hl
theorem pgT {k : Nat} {tt : TGs} {n : Nat} (hK : X.K = K) (hc : X.calm = true) (h : PGs X es tt) (hn : (assignEach es X.env).length = n := by rfl) (hst : (assignEach es X.env).findIdx? (·.1) = none := by rfl) : PG X (.Tuple es k pos) (gTup K n tt) := hK ▸ pg_tup hc h hn hst
theorem revL {k : Nat} {p1 p2 p3 : Pos} (hK : X.K = K) (he : PE X e te) : PE X (.Subscript e (.Slice none none (some (.UnaryOp .USub (.Constant (.int 1) k p1) p2)) p3) pos) (tRevL K te) := hK ▸ pe_revL he
theorem zipA {e2 : Expr} {p tpos : Pos} {elts : List Expr} {kk : Nat} (hK : X.K = K) (hm : X.mg "zip" = none) (ha : PA X [e, e2] t) (hg : Gl X "zip" := by rfl)
    (hs : starEach [e, e2] X.env = (false, eval e X.env) :: starEach [e2] X.env := by rfl) (hpl : (backTo pos (starEach [e2] X.env)).any (·.1) = false := by rfl) :
    PI X (.Tuple elts kk tpos) (.Call (.Name "zip" p) [e, e2] [] pos) (RZ.iZipA K t) := hK ▸ RZ.pi_zipA hg hm ha hs hpl
theorem enumA {p tpos : Pos} {elts : List Expr} {kk : Nat} (hK : X.K = K) (hm : X.mg "enumerate" = none) (ha : PA X [e] t) (hg : Gl X "enumerate" := by rfl) (hs : starEach [e] X.env = [(false, eval e X.env)] := by rfl) :
    PI X (.Tuple elts kk tpos) (.Call (.Name "enumerate" p) [e] [] pos) (iEnum K t) := hK ▸ pi_enum hg hm ha hs
/-- methods of lists -/
theorem bmL {name : Str} {id : String} {r : V → List V → Hp → VK → Prop} {o : Expr} {to : TE} (slot : Slot "list" name id) (hty : typeOf (.builtin id) = pure (.type "method_descriptor")) (hK : X.K = K) (hm : MtR X id r) (ho : PE X o to) (ha : PA X (e :: es) t)
    (hbase : attributeBase o name X.env (eval o X.env) = eval o X.env := by rfl)
    (hfew : ((backTo cpos (starEach (e :: es) X.env)).all (fun x => !x.1) && (backToKw cpos (keywordEach [] X.env)).all (fun x => x.1.isSome)
      && decide ((e :: es).length + ([] : List Keyword).length + (if ([] : List Keyword).isEmpty then 0 else 1) < 30)) = true := by rfl)
    (hline : (apos.endLine == cpos.line) = true := by rfl) (hs : starEach (e :: es) X.env = (false, eval e X.env) :: starEach es X.env := by rfl) (hplain : (backTo cpos (starEach es X.env)).any (·.1) = false := by rfl) :
    PE X (.Call (.Attribute o name apos) (e :: es) [] cpos) (tBM K "list" r to t) := hK ▸ pe_bm PySem.F.plainAttrs_list slot hty hm ho ha hbase hfew hline hs hplain
theorem bmL0 {name : Str} {id : String} {r : V → List V → Hp → VK → Prop} {o : Expr} {to : TE} (slot : Slot "list" name id) (hty : typeOf (.builtin id) = pure (.type "method_descriptor")) (hK : X.K = K) (hm : MtR X id r) (ho : PE X o to)
    (hbase : attributeBase o name X.env (eval o X.env) = eval o X.env := by rfl) (hline : (apos.endLine == cpos.line) = true := by rfl) : PE X (.Call (.Attribute o name apos) [] [] cpos) (tBM0 K "list" r to) :=
  hK ▸ pe_bm0 PySem.F.plainAttrs_list slot hty hm ho hbase hline
def rJoin (K : PySem.W.Frag) : V → List V → Hp → VK → Prop := fun x xs H Q => ∃ a p, ∃ ys : List Str, x = .str a ∧ xs = [.ref p] ∧ (SqL K H p (ys.map V.str) ∨ SqT K H p (ys.map V.str)) ∧
      (ys.map (·.length)).sum + ys.length * a.length ≤ 16777216 ∧ Q (.str (Txt.join a ys)) H
theorem joinA {o : Expr} {to : TE} (hK : X.K = K) (ho : PE X o to) (he : PE X e te) (hs : starEach [e] X.env = [(false, eval e X.env)] := by rfl) (hbase : attributeBase o "join" X.env (eval o X.env) = eval o X.env := by rfl) (hline : (apos.endLine == pos.line) = true := by rfl) :
    PE X (.Call (.Attribute o "join" apos) [e] [] pos) (tM1 (rJoin K) to te) := hK ▸ pe_join ho he hs hbase hline
end
section
variable {σ : L2.St} {H : Hp} {Q : VK} {K : PySem.W.Frag} {a : Addr} {xs : List V}
theorem v_abs {i : Int} (q : Q (.int (if i < 0 then -i else i)) H) : rAbs [.int i] H Q := ⟨i, rfl, q⟩
theorem v_max2 {i j : Int} (q : Q (.int (if j > i then j else i)) H) : rMax2 [.int i, .int j] H Q := ⟨i, j, rfl, q⟩
theorem v_int {i : Int} (q : Q (.int i) H) : rInt1 [.int i] H Q := .inl ⟨i, rfl, q⟩
theorem v_intB {k : Bool} (q : Q (.int (if k then 1 else 0)) H) : rInt1 [.bl k] H Q := .inr ⟨k, rfl, q⟩
theorem v_isN {x : V} (q : Q (.bl (decide (x = .non))) H) : rIsN x .non H Q := ⟨rfl, q⟩
theorem v_notN {x : V} (q : Q (.bl (!decide (x = .non))) H) : rNotN x .non H Q := ⟨rfl, q⟩
theorem v_lenStr {z : Str} (h : z.length ≤ sizeLine) (q : Q (.int z.length) H) : rLenStr [.str z] H Q := ⟨z, rfl, h, q⟩
theorem v_lenDT {kvs : List (List Key × V)} (h : H a = some (.dT kvs)) (q : Q (.int ((kvs.length : Nat) : Int)) H) : rLenT [.ref a] H Q := ⟨a, kvs, rfl, h, q⟩
theorem v_max {ns : List Int} (h : H a = some (.lst (ns.map V.int))) (h0 : 0 < ns.length) (q : ∀ m, m ∈ ns → (∀ y, y ∈ ns → y ≤ m) → Q (.int m) H) : rMax K [.ref a] H Q := ⟨a, ns, rfl, SqL.of h, h0, q⟩
theorem v_min {ns : List Int} (h : H a = some (.lst (ns.map V.int))) (h0 : 0 < ns.length) (q : ∀ m, m ∈ ns → (∀ y, y ∈ ns → m ≤ y) → Q (.int m) H) : rMin K [.ref a] H Q := ⟨a, ns, rfl, SqL.of h, h0, q⟩
theorem v_sl {r : V → Option Int → Option Int → Hp → VK → Prop} {te : TE} {tl th : TO} (q : te σ H fun x H1 => tl σ H1 fun l H2 => th σ H2 fun u H3 => r x l u H3 Q) : tSl r te tl th σ H Q := q
theorem v_np {R : Option Int → Hp → Prop} (q : R none H) : tNoPart σ H R := q
theorem v_pt {te : TE} {R : Option Int → Hp → Prop} (q : te σ H fun x H1 => ∃ i, x = .int i ∧ R (some i) H1) : tPart te σ H R := q
theorem v_pi {i : Int} {R : Int → Prop} (q : R i) : ∃ i', V.int i = .int i' ∧ R i' := ⟨i, rfl, q⟩
theorem v_slL {lo hi : Option Int} (h : H a = some (.lst xs)) (q : ∀ p H', H p = none → Same H H' → H' p = some (.lst (cutV xs lo hi)) → Q (.ref p) H') : rSlL K (.ref a) lo hi H Q := ⟨a, xs, rfl, SqL.of h, v_new q⟩
theorem v_slS {z : Str} {lo hi : Option Int} (h : z.length ≤ sizeLine) (q : Q (.str (cutS z lo hi)) H) : rSlS (.str z) lo hi H Q := ⟨z, rfl, h, q⟩
def rRev (K : PySem.W.Frag) (x : V) (H1 : Hp) (Q : VK) : Prop := ∃ a xs, x = .ref a ∧ SqL K H1 a xs ∧ ∀ p, H1 p = none → Q (.ref p) (upd H1 p (.lst xs.reverse))
theorem v_revL {te : TE} (q : te σ H fun x H1 => rRev K x H1 Q) : tRevL K te σ H Q := q
theorem v_rev {p : Addr} {ys : List V} (h : H p = some (.lst ys)) (q : ∀ p H', H p = none → Same H H' → H' p = some (.lst ys.reverse) → Q (.ref p) H') : rRev K (.ref p) H Q := ⟨p, ys, rfl, SqL.of h, v_new q⟩
theorem v_bm {T : String} {r : V → List V → Hp → VK → Prop} {to : TE} {t : TA} (q : to σ H fun x H1 => tyV K T x H1 ∧ t σ H1 fun xs H2 => r x xs H2 Q) : tBM K T r to t σ H Q := q
theorem v_bm0 {T : String} {r : V → List V → Hp → VK → Prop} {to : TE} (q : to σ H fun x H1 => tyV K T x H1 ∧ r x [] H1 Q) : tBM0 K T r to σ H Q := q
theorem tyL (h : H a = some (.lst xs)) : tyV K "list" (.ref a) H := .inl ⟨rfl, _, SqL.of h⟩
theorem v_app {y : V} (h : H a = some (.lst xs)) (hl : xs.length < 1000000) (q : Q .non (upd H a (.lst (xs ++ [y])))) : rAppend (.ref a) [y] H Q := ⟨a, xs, y, rfl, rfl, h, Nat.lt_trans hl (by decide), q⟩
theorem v_dget {a : Addr} {y v : V} (h : DGet H a y (some v)) (q : Q v H) : ∃ a' v', V.ref a = .ref a' ∧ DGet H a' y (some v') ∧ Q v' H := ⟨a, v, rfl, h, q⟩
end

section
variable {σ : L2.St} {H : Hp} {Q : VK} {K : PySem.W.Frag} {xs : List V}
theorem v_lc2 {wi wi1 : TI} {g g1 : TG} {tt tt1 : TT} {te : TE} {vs vs1 : List Nat} (q : wi σ H fun J H1 => ∀ D, H1 D = none → ∃ W : Nat → Nat → Hp → Prop, (∃ m, W 0 m (upd H1 D (.lst []))) ∧ ∀ i m H, W i m H →
  (J.stop i H ∧ Q (.ref D) H) ∨ (J.go i H ∧ ∃ Nx : Hp → Prop, (∀ H', Nx H' → ∃ m', m' < m ∧ W (i + 1) m' H') ∧ ∀ x H', J.yld i H x H' → g x (wipe σ vs) H' fun σ2 H2 => wipe σ2 vs = wipe σ vs ∧ tt σ2 H2 fun b H3 =>
    if b = true then wi1 σ2 H3 fun J1 H4 => ∃ W1 : Nat → Nat → Hp → Prop, (∃ m, W1 0 m H4) ∧ ∀ j k H, W1 j k H →
      (J1.stop j H ∧ Nx H) ∨ (J1.go j H ∧ ∃ Nx1 : Hp → Prop, (∀ H', Nx1 H' → ∃ k', k' < k ∧ W1 (j + 1) k' H') ∧ ∀ x H', J1.yld j H x H' → g1 x (wipe σ2 vs1) H' fun σ3 H5 => wipe σ3 vs1 = wipe σ2 vs1 ∧ tt1 σ3 H5 fun b H6 =>
        if b = true then te σ3 H6 fun y H7 => ∃ acc, H7 D = some (.lst acc) ∧ acc.length < sizeLine ∧ Nx1 (upd H7 D (.lst (acc ++ [y]))) else Nx1 H6)
    else Nx H3)) : tLc2 wi g tt wi1 g1 tt1 te vs vs1 σ H Q := q
end

section
variable {σ : L2.St} {H : Hp} {Q : VK}
theorem v_dgetS {td ty : TE} (q : td σ H fun x H1 => ty σ H1 fun y H2 => ∃ a v, x = .ref a ∧ DGet H2 a y (some v) ∧ Q v H2) : tDGet td ty σ H Q := q
theorem v_keyS {d : Addr} {kvs : List (Key × V)} {n : Str} {v : V} (h : H d = some (.dK kvs)) (e : valV kvs (Sum.inr n) = some v) (q : Q v H) : ∃ a v', V.ref d = .ref a ∧ DGet H a (.str n) (some v') ∧ Q v' H :=
  ⟨d, v, rfl, .inl ⟨kvs, Sum.inr n, .inl h, rfl, e.symm⟩, q⟩
end

section
variable {σ : L2.St} {H : Hp} {Q : VK} {K : PySem.W.Frag}
theorem v_dc {wi : TI} {g : TG} {tt : TT} {tk tv : TE} {vs : List Nat} (q : wi σ H fun J H1 => ∀ D, H1 D = none → ∃ W : Nat → Nat → Hp → Prop, (∃ m, W 0 m (upd H1 D (.dK []))) ∧ ∀ i m H, W i m H →
  (J.stop i H ∧ Q (.ref D) H) ∨ (J.go i H ∧ ∃ Nx : Hp → Prop, (∀ H', Nx H' → ∃ m', m' < m ∧ W (i + 1) m' H') ∧ ∀ x H', J.yld i H x H' → g x (wipe σ vs) H' fun σ2 H2 => wipe σ2 vs = wipe σ vs ∧ tt σ2 H2 fun b H3 =>
    if b = true then tk σ2 H3 fun y H4 => tv σ2 H4 fun z H5 => ∃ kvs k, y = kV k ∧ H5 D = some (.dK kvs) ∧ kvs.length < sizeLine ∧ Nx (upd H5 D (.dK (putK kvs k z))) else Nx H3)) : tDc wi g tt tk tv vs σ H Q := q
theorem v_zip {ta : TA} {R : It → Hp → Prop} (q : ta σ H fun vs H1 => ∃ a b xs ys, vs = [.ref a, .ref b] ∧ ((SqL K H1 a xs ∧ SqL K H1 b ys ∧ R (Itz K a b) H1) ∨ (SqT K H1 a xs ∧ SqT K H1 b ys ∧ R (RZ.ItzT K a b) H1))) : RZ.iZipA K ta σ H R := q
end

/-! ## constants of the text -/
theorem gI {X : Cx} {x : Str} {i : Int} {pos : Pos} (c : ∃ t, X.mg x = some (.int i t)) (hg : Gl X x := by rfl) (hd : (x == ("__debug__" : Str)) = false := by decide) : PE X (.Name x pos) (tC (.int i)) := by
  obtain ⟨t, c⟩ := c
  exact pe_glob hg c ⟨t, rfl⟩ hd
theorem gS {X : Cx} {x : Str} {z : Str} {pos : Pos} (c : ∃ t, X.mg x = some (.str z t)) (hg : Gl X x := by rfl) (hd : (x == ("__debug__" : Str)) = false := by decide) : PE X (.Name x pos) (tC (.str z)) := by
  obtain ⟨t, c⟩ := c
  exact pe_glob hg c ⟨t, rfl⟩ hd
end AK

/-! ## AFm -/
set_option Elab.async false
set_option linter.all false
set_option maxRecDepth 100000
namespace AK
open PySem PySem.Spec PyProof.Rows L2

/-! ## formulas as data -/
inductive Fm where
  | kind (n : Str)
  | many (m : Int) (f : Fm)
  | node (w : Bool) (fs : List Fm)
mutual
def Fm.depth : Fm → Nat
  | .kind _ => 1
  | .many _ f => f.depth + 1
  | .node _ fs => Fm.depthL fs + 1
def Fm.depthL : List Fm → Nat
  | [] => 0
  | f :: fs => max f.depth (Fm.depthL fs)
end
mutual
def Fm.names : Fm → List Str
  | .kind n => [n]
  | .many _ f => f.names
  | .node _ fs => Fm.namesL fs
def Fm.namesL : List Fm → List Str
  | [] => []
  | f :: fs => f.names ++ Fm.namesL fs
end
theorem Fm.namesL_flat : ∀ fs : List Fm, Fm.namesL fs = fs.flatMap Fm.names
  | [] => rfl
  | f :: fs => by rw [Fm.namesL, List.flatMap_cons, Fm.namesL_flat fs]
theorem Fm.depthL_mem : ∀ {fs : List Fm} {f : Fm}, f ∈ fs → f.depth ≤ Fm.depthL fs
  | [], _, h => by simp at h
  | g :: fs, f, h => by
    rw [Fm.depthL]
    rcases List.mem_cons.mp h with rfl | h
    · exact Nat.le_max_left _ _
    · exact Nat.le_trans (Fm.depthL_mem h) (Nat.le_max_right _ _)
def wordOf (w : Bool) : Str := if w then "and" else "or"
mutual
def FrmV (H : Hp) : Fm → V → Prop
  | .kind n, v => ∃ a, v = .ref a ∧ H a = some (.tup [.str "kind", .str n])
  | .many m f, v => ∃ a u, v = .ref a ∧ H a = some (.tup [.str "many", .int m, u]) ∧ FrmV H f u
  | .node w fs, v => ∃ a p us, v = .ref a ∧ H a = some (.tup [.str (wordOf w), .ref p]) ∧ H p = some (.tup us) ∧ FrmL H fs us
def FrmL (H : Hp) : List Fm → List V → Prop
  | [], us => us = []
  | f :: fs, us => ∃ u r, us = u :: r ∧ FrmV H f u ∧ FrmL H fs r
end
mutual
theorem FrmV.imm {H H' : Hp} (e : Imm H H') : ∀ {f : Fm} {v : V}, FrmV H f v → FrmV H' f v
  | .kind n, v, h => by
    rw [FrmV] at h ⊢
    obtain ⟨a, e1, e2⟩ := h
    exact ⟨a, e1, e _ _ e2⟩
  | .many m f, v, h => by
    rw [FrmV] at h ⊢
    obtain ⟨a, u, e1, e2, e3⟩ := h
    exact ⟨a, u, e1, e _ _ e2, FrmV.imm e e3⟩
  | .node w fs, v, h => by
    rw [FrmV] at h ⊢
    obtain ⟨a, p, us, e1, e2, e3, e4⟩ := h
    exact ⟨a, p, us, e1, e _ _ e2, e _ _ e3, FrmL.imm e e4⟩
theorem FrmL.imm {H H' : Hp} (e : Imm H H') : ∀ {fs : List Fm} {us : List V}, FrmL H fs us → FrmL H' fs us
  | [], us, h => by rw [FrmL] at h ⊢; exact h
  | f :: fs, us, h => by
    rw [FrmL] at h ⊢
    obtain ⟨u, r, e1, e2, e3⟩ := h
    exact ⟨u, r, e1, FrmV.imm e e2, FrmL.imm e e3⟩
end
theorem FrmL.len {H : Hp} : ∀ {fs : List Fm} {us : List V}, FrmL H fs us → us.length = fs.length
  | [], us, h => by rw [FrmL] at h; rw [h]; rfl
  | f :: fs, us, h => by
    rw [FrmL] at h
    obtain ⟨u, r, rfl, _, e3⟩ := h
    rw [List.length_cons, List.length_cons, FrmL.len e3]
theorem FrmL.at {H : Hp} : ∀ {fs : List Fm} {us : List V} {i : Nat} {f : Fm} {u : V}, FrmL H fs us → fs[i]? = some f → us[i]? = some u → FrmV H f u
  | [], us, i, f, u, h, h1, h2 => by simp at h1
  | g :: fs, us, 0, f, u, h, h1, h2 => by
    rw [FrmL] at h
    obtain ⟨u', r, rfl, e2, e3⟩ := h
    have a1 : g = f := Option.some.inj h1
    have a2 : u' = u := Option.some.inj h2
    rw [← a1, ← a2]; exact e2
  | g :: fs, us, i + 1, f, u, h, h1, h2 => by
    rw [FrmL] at h
    obtain ⟨u', r, rfl, e2, e3⟩ := h
    exact FrmL.at e3 h1 h2
theorem FrmL.of {H : Hp} : ∀ {fs : List Fm} {us : List V}, us.length = fs.length → (∀ (i : Nat) (f : Fm) (u : V), fs[i]? = some f → us[i]? = some u → FrmV H f u) → FrmL H fs us
  | [], us, h, _ => by rw [FrmL]; exact List.length_eq_zero_iff.mp h
  | f :: fs, [], h, _ => by simp at h
  | f :: fs, u :: us, h, q => by
    rw [FrmL]
    exact ⟨u, us, rfl, q 0 f u rfl rfl, FrmL.of (by simpa using h) fun i f u h1 h2 => q (i + 1) f u h1 h2⟩
theorem FrmL.append {H : Hp} {fs gs : List Fm} {us ws : List V} (h : FrmL H fs us) (h' : FrmL H gs ws) : FrmL H (fs ++ gs) (us ++ ws) := by
  refine FrmL.of (by rw [List.length_append, List.length_append, h.len, h'.len]) fun i f u h1 h2 => ?_
  by_cases hi : i < fs.length
  · rw [List.getElem?_append_left hi] at h1
    rw [List.getElem?_append_left (by rw [h.len]; exact hi)] at h2
    exact h.at h1 h2
  · rw [List.getElem?_append_right (by omega)] at h1
    rw [List.getElem?_append_right (by rw [h.len]; omega), h.len] at h2
    exact h'.at h1 h2

/-! ## comprehensions over a tuple that stands for data -/
section
variable {K : PySem.W.Frag} {σ : L2.St} {H : Hp} {te : TE} {vs : List Nat} {j : Nat} {a : Addr} {us : List V} {Qd : Addr → Hp → Prop} {α : Type} {L : List α}
theorem v_lcTD (r : Rg) (hx : H a = some (.tup us)) (hl : us.length = L.length) (gd : Good r H) (f : α → V) (hn : L.length ≤ 1000000)
    (hw : ∀ x, wipe ((wipe σ vs).set j (some x)) vs = wipe σ vs)
    (hs : ∀ (i : Nat) (x : V) (d : α) (H2 : Hp) (Qn : VK), us[i]? = some x → L[i]? = some d → Fr r H H2 → (∀ H3, Fr r H2 H3 → Qn (f d) H3) → te ((wipe σ vs).set j (some x)) H2 Qn)
    (hd : ∀ D H2, H D = none → Fr r H H2 → H2 D = some (.lst (L.map f)) → Qd D H2) :
    ∃ a', V.ref a = .ref a' ∧ (∃ xs, SqT K H a' xs) ∧ ∀ D, H D = none → ∃ W : Nat → Nat → Hp → Prop, (∃ m, W 0 m (upd H D (.lst []))) ∧ ∀ i m H, W i m H →
      ((Itt K a').stop i H ∧ Qd D H) ∨ ((Itt K a').go i H ∧ ∃ Nx : Hp → Prop, (∀ H', Nx H' → ∃ m', m' < m ∧ W (i + 1) m' H') ∧ ∀ x H', (Itt K a').yld i H x H' → gName j x (wipe σ vs) H' fun σ2 H2 => wipe σ2 vs = wipe σ vs ∧ tYes σ2 H2 fun b H3 =>
        if b = true then te σ2 H3 fun y H4 => ∃ acc, H4 D = some (.lst acc) ∧ acc.length < sizeLine ∧ Nx (upd H4 D (.lst (acc ++ [y]))) else Nx H3) :=
  ⟨a, rfl, ⟨_, SqT.of hx⟩, fun D hD => lc_tupR hx gd hD (fun i v _ => ∃ d, L[i]? = some d ∧ v = f d) (fun _ _ _ _ _ h => h) (by rw [hl]; exact hn) hw
    (fun i x H2 Qn hi fr q => by
      have h1 : i < L.length := by rw [← hl]; exact (List.getElem?_eq_some_iff.mp hi).1
      exact hs i x L[i] H2 Qn hi (List.getElem?_eq_getElem h1) fr fun H3 f3 => q _ H3 f3 ⟨_, List.getElem?_eq_getElem h1, rfl⟩)
    (fun ys H2 fr e2 hl2 hr => hd D H2 hD fr (by
      rw [e2, map_of_at (ys := ys) (xs := L) (f := f) (by rw [hl2, hl]) fun i x y h1 h2 => by obtain ⟨x', h3, h4⟩ := hr i y h2; rw [h1] at h3; cases h3; exact h4]))⟩
/-- [y for x in t for y in l(x)]: the lists put together -/
theorem v_lc2TD {tl1 : TE} {j1 : Nat} {vs1 : List Nat} (r : Rg) (hx : H a = some (.tup us)) (hl : us.length = L.length) (gd : Good r H) (f : α → List V) (hn : (L.flatMap f).length ≤ 1000000)
    (hw : ∀ x, wipe ((wipe σ vs).set j (some x)) vs = wipe σ vs) (hw1 : ∀ x y, wipe ((wipe ((wipe σ vs).set j (some x)) vs1).set j1 (some y)) vs1 = wipe ((wipe σ vs).set j (some x)) vs1)
    (hj : ∀ x y, ((wipe ((wipe σ vs).set j (some x)) vs1).set j1 (some y))[j1]? = some (some y))
    (hs : ∀ (i : Nat) (x : V) (d : α) (H2 : Hp) (Qn : VK), us[i]? = some x → L[i]? = some d → Fr r H H2 → (∀ p H3, H2 p = none → Fr r H2 H3 → H3 p = some (.lst (f d)) → Qn (.ref p) H3) → tl1 ((wipe σ vs).set j (some x)) H2 Qn)
    (hd : ∀ D H2, H D = none → Fr r H H2 → H2 D = some (.lst (L.flatMap f)) → Qd D H2) :
    ∃ a', V.ref a = .ref a' ∧ (∃ xs, SqT K H a' xs) ∧ ∀ D, H D = none → ∃ W : Nat → Nat → Hp → Prop, (∃ m, W 0 m (upd H D (.lst []))) ∧ ∀ i m H, W i m H →
      ((Itt K a').stop i H ∧ Qd D H) ∨ ((Itt K a').go i H ∧ ∃ Nx : Hp → Prop, (∀ H', Nx H' → ∃ m', m' < m ∧ W (i + 1) m' H') ∧ ∀ x H', (Itt K a').yld i H x H' → gName j x (wipe σ vs) H' fun σ2 H2 => wipe σ2 vs = wipe σ vs ∧ tYes σ2 H2 fun b H3 =>
        if b = true then iList K tl1 σ2 H3 fun J1 H4 => ∃ W1 : Nat → Nat → Hp → Prop, (∃ m, W1 0 m H4) ∧ ∀ j k H, W1 j k H →
          (J1.stop j H ∧ Nx H) ∨ (J1.go j H ∧ ∃ Nx1 : Hp → Prop, (∀ H', Nx1 H' → ∃ k', k' < k ∧ W1 (j + 1) k' H') ∧ ∀ x H', J1.yld j H x H' → gName j1 x (wipe σ2 vs1) H' fun σ3 H5 => wipe σ3 vs1 = wipe σ2 vs1 ∧ tYes σ3 H5 fun b H6 =>
            if b = true then tVar j1 σ3 H6 fun y H7 => ∃ acc, H7 D = some (.lst acc) ∧ acc.length < sizeLine ∧ Nx1 (upd H7 D (.lst (acc ++ [y]))) else Nx1 H6)
        else Nx H3) := by
  refine ⟨a, rfl, ⟨_, SqT.of hx⟩, fun D hD => ?_⟩
  have hoff : Off r D := Off.new gd hD
  have hlen : ∀ i, ((L.take i).flatMap f).length ≤ 1000000 := fun i => by
    have e : L.flatMap f = (L.take i).flatMap f ++ (L.drop i).flatMap f := by rw [← List.flatMap_append, List.take_append_drop]
    rw [e, List.length_append] at hn
    omega
  refine ⟨fun i m H' => m = us.length - i ∧ i ≤ us.length ∧ Fr r H H' ∧ H' D = some (.lst ((L.take i).flatMap f)), ⟨us.length, by omega, Nat.zero_le _, Fr.new gd hD, by rw [upd_same]; rfl⟩, ?_⟩
  rintro i m H1 ⟨rfl, hi, fr, eD⟩
  by_cases hlt : i < us.length
  · have hlt2 : i < L.length := by rw [← hl]; exact hlt
    refine .inr ⟨⟨us, us[i], SqT.of (fr.tup hx), List.getElem?_eq_getElem hlt⟩, fun H' => Fr r H H' ∧ H' D = some (.lst ((L.take (i + 1)).flatMap f)), fun H' p => ⟨us.length - (i + 1), by omega, rfl, hlt, p.1, p.2⟩, fun x H' y => ?_⟩
    obtain ⟨rfl, hy⟩ := y
    have ex : us[i]? = some x := hy us (SqT.of (fr.tup hx))
    have ed : L[i]? = some L[i] := List.getElem?_eq_getElem hlt2
    have et : (L.take (i + 1)).flatMap f = (L.take i).flatMap f ++ f L[i] := by rw [List.take_add_one, ed, Option.toList_some, List.flatMap_append, List.flatMap_singleton]
    refine ⟨hw x, ?_⟩
    refine v_yes ?_
    refine hs i x L[i] _ _ ex ed fr fun p H3 np f3 ep => ?_
    have pD : p ≠ D := fun z => by rw [z, eD] at np; cases np
    have op : Off r p := Off.new fr.good' np
    refine ⟨p, rfl, ⟨_, SqL.of ep⟩, ?_⟩
    refine ⟨fun k m H' => m = (f L[i]).length - k ∧ k ≤ (f L[i]).length ∧ Fr r H H' ∧ H' p = some (.lst (f L[i])) ∧ H' D = some (.lst ((L.take i).flatMap f ++ (f L[i]).take k)),
      ⟨(f L[i]).length, by omega, Nat.zero_le _, fr.trans f3, ep, by rw [f3.lst hoff eD, List.take_zero, List.append_nil]⟩, ?_⟩
    rintro k m H4 ⟨rfl, hk, f4, ep4, eD4⟩
    by_cases hkl : k < (f L[i]).length
    · refine .inr ⟨⟨_, (f L[i])[k], SqL.of ep4, List.getElem?_eq_getElem hkl⟩, fun H' => Fr r H H' ∧ H' p = some (.lst (f L[i])) ∧ H' D = some (.lst ((L.take i).flatMap f ++ (f L[i]).take (k + 1))),
        fun H' q => ⟨(f L[i]).length - (k + 1), by omega, rfl, hkl, q.1, q.2.1, q.2.2⟩, fun y H5 hy5 => ?_⟩
      obtain ⟨rfl, hy5⟩ := hy5
      have ey : (f L[i])[k]? = some y := hy5 _ (SqL.of ep4)
      refine ⟨hw1 x y, ?_⟩
      refine v_yes ?_
      have hle := hlen (i + 1)
      rw [et, List.length_append] at hle
      have hmin : ((f L[i]).take k).length ≤ (f L[i]).length := by rw [List.length_take]; omega
      refine ⟨y, hj x y, _, eD4, ?_, f4.mut hD, ?_, ?_⟩
      · rw [List.length_append]
        exact Nat.lt_of_le_of_lt (show _ ≤ 1000000 by omega) (by decide)
      · rw [upd_ne pD]; exact ep4
      · rw [upd_same, List.append_assoc, List.take_add_one, ey]
        rfl
    · have ek : k = (f L[i]).length := by omega
      subst ek
      refine .inl ⟨⟨_, SqL.of ep4, Nat.le_refl _⟩, f4, ?_⟩
      rw [et, eD4, List.take_length]
  · have ei : i = us.length := by omega
    subst ei
    refine .inl ⟨⟨us, SqT.of (fr.tup hx), Nat.le_refl _⟩, ?_⟩
    refine hd D H1 hD fr ?_
    rw [eD, hl, List.take_length]
end
end AK

/-! ## AShare -/
set_option Elab.async false
set_option linter.all false
set_option maxRecDepth 100000
namespace AK
open PySem PySem.Spec PyProof.Rows L2
/-! ## shares, as the program reckons them -/
def allSame (l : List Int) : Bool := l.all fun a => decide (a = l.headD 0)
mutual
def Fm.share (x : Str → Int) : Fm → Option Int
  | .kind n => some (x n)
  | .many m f => match f.share x with
    | none => none
    | some i => if 0 < i % m then none else some (i / m)
  | .node w fs => match Fm.shareL x fs with
    | none => none
    | some l => if w = true then (if allSame l = true then some (l.headD 0) else none) else some l.sum
def Fm.shareL (x : Str → Int) : List Fm → Option (List Int)
  | [] => some []
  | f :: fs => match f.share x, Fm.shareL x fs with
    | some a, some l => some (a :: l)
    | _, _ => none
end
mutual
def Fm.ok : Fm → Prop
  | .kind _ => True
  | .many m f => 2 ≤ m ∧ m ≤ 60 ∧ f.ok
  | .node _ fs => fs ≠ [] ∧ fs.length ≤ 1000 ∧ Fm.okL fs
def Fm.okL : List Fm → Prop
  | [] => True
  | f :: fs => f.ok ∧ Fm.okL fs
end
theorem Fm.okL_mem : ∀ {fs : List Fm} {f : Fm}, Fm.okL fs → f ∈ fs → f.ok
  | [], _, _, h => by simp at h
  | g :: fs, f, h, m => by
    rw [Fm.okL] at h
    rcases List.mem_cons.mp m with rfl | m
    · exact h.1
    · exact Fm.okL_mem h.2 m
theorem Fm.names_mem {fs : List Fm} {f : Fm} {n : Str} (h : f ∈ fs) (hn : n ∈ f.names) : n ∈ Fm.namesL fs := by
  rw [Fm.namesL_flat]; exact List.mem_flatMap.mpr ⟨f, h, hn⟩
def ov : Option Int → V
  | none => .non
  | some i => .int i
theorem ov_non {o : Option Int} : ov o = .non ↔ o = none := by
  cases o with
  | none => exact ⟨fun _ => rfl, fun _ => rfl⟩
  | some i => exact ⟨fun h => (by cases h), fun h => (by cases h)⟩
theorem Fm.shareL_none (x : Str → Int) : ∀ fs : List Fm, Fm.shareL x fs = none → (fs.map fun g => decide (ov (g.share x) = V.non)).any id = true
  | [], h => by rw [Fm.shareL] at h; cases h
  | f :: fs, h => by
    rw [List.map_cons, List.any_cons]
    cases e : f.share x with
    | none => rfl
    | some a =>
      rw [Fm.shareL, e] at h
      cases e2 : Fm.shareL x fs with
      | none => rw [Fm.shareL_none x fs e2, Bool.or_true]
      | some l => rw [e2] at h; cases h
theorem Fm.shareL_some (x : Str → Int) : ∀ (fs : List Fm) (l : List Int), Fm.shareL x fs = some l → (fs.map fun g => decide (ov (g.share x) = V.non)).any id = false ∧ (fs.map fun g => ov (g.share x)) = l.map V.int
  | [], l, h => by rw [Fm.shareL] at h; cases h; exact ⟨rfl, rfl⟩
  | f :: fs, l, h => by
    rw [Fm.shareL] at h
    cases e : f.share x with
    | none => rw [e] at h; cases h
    | some a =>
      cases e2 : Fm.shareL x fs with
      | none => rw [e, e2] at h; cases h
      | some l' =>
        rw [e, e2] at h
        cases h
        obtain ⟨h1, h2⟩ := Fm.shareL_some x fs l' e2
        refine ⟨?_, ?_⟩
        · rw [List.map_cons, List.any_cons, h1, e]; rfl
        · rw [List.map_cons, List.map_cons, h2, e]; rfl
theorem Fm.shareL_len (x : Str → Int) {fs : List Fm} {l : List Int} (h : Fm.shareL x fs = some l) : l.length = fs.length := by
  have := congrArg List.length (Fm.shareL_some x fs l h).2
  rw [List.length_map, List.length_map] at this
  exact this.symm
theorem minmax_same {l : List Int} {a b : Int} (ha : a ∈ l) (hb : b ∈ l) (h1 : ∀ y, y ∈ l → a ≤ y) (h2 : ∀ y, y ∈ l → y ≤ b) : (a = b) ↔ allSame l = true := by
  unfold allSame
  rw [List.all_eq_true]
  have hd : l.headD 0 ∈ l := by
    cases l with
    | nil => simp at ha
    | cons x r => exact List.mem_cons_self
  constructor
  · intro e y hy
    have p1 := h1 y hy; have p2 := h2 y hy; have p3 := h1 _ hd; have p4 := h2 _ hd
    exact decide_eq_true (by omega)
  · intro q
    have p1 := of_decide_eq_true (q a ha); have p2 := of_decide_eq_true (q b hb)
    omega
end AK

/-! ## ADict -/
set_option Elab.async false
set_option linter.all false
set_option maxRecDepth 100000
namespace AK
open PySem PySem.Spec PyProof.Rows L2
/-! ## sorted names -/
def SrtS (l : List Str) : Prop := l.Pairwise fun a b => ¬ b.cps.toList < a.cps.toList
theorem rising_pairwise : ∀ (p : Str) (l : List Str), risingS p l = true → SrtS (p :: l)
  | p, [], _ => List.pairwise_singleton _ _
  | p, x :: r, h => by
    have h' : (!ltCps x.cps.toList p.cps.toList && risingS x r) = true := h
    rw [Bool.and_eq_true] at h'
    have ih := rising_pairwise x r h'.2
    have h1 : ¬ x.cps.toList < p.cps.toList := by
      have := h'.1
      rw [ltCps_eq] at this
      intro z
      rw [decide_eq_true z] at this
      cases this
    refine List.pairwise_cons.mpr ⟨fun y hy => ?_, ih⟩
    rcases List.mem_cons.mp hy with rfl | hy
    · exact h1
    · have h2 := (List.pairwise_cons.mp ih).1 y hy
      have a1 : p.cps.toList ≤ x.cps.toList := List.not_lt.mp h1
      have a2 : x.cps.toList ≤ y.cps.toList := List.not_lt.mp h2
      exact List.not_lt.mpr (List.le_trans a1 a2)
theorem srtS_of : ∀ {l : List Str}, sortedS l = true → SrtS l
  | [], _ => List.Pairwise.nil
  | x :: r, h => rising_pairwise x r h
theorem Str.ext_list {a b : Str} (h : a.cps.toList = b.cps.toList) : a = b := by
  cases a; cases b
  have : (_ : Array Nat) = _ := Array.toList_inj.mp h
  simp only at this
  rw [this]
theorem srtS_eq {l m : List Str} (h1 : SrtS l) (h2 : SrtS m) (hp : l.Perm m) : l = m :=
  List.Perm.eq_of_pairwise (fun a b _ _ p q => Str.ext_list (List.le_antisymm (List.not_lt.mp p) (List.not_lt.mp q))) h1 h2 hp
/-- the kinds of a formula, in order -/
def Kinds (fm : Fm) (ks : List Str) : Prop := ks.Perm fm.names ∧ SrtS ks
theorem Kinds.eq {fm : Fm} {ks ls : List Str} (h : Kinds fm ks) (h' : Kinds fm ls) : ks = ls := srtS_eq h.2 h'.2 (h.1.trans h'.1.symm)
theorem v_sortedS {K : PySem.W.Frag} {H : Hp} {Q : VK} {a : Addr} {xs : List Str} (h : H a = some (.lst (xs.map V.str))) (hl : xs.length < 64) (q : ∀ ys p H', ys.Perm xs → SrtS ys → H p = none → Same H H' → H' p = some (.lst (ys.map V.str)) → Q (.ref p) H') : rSortedS K [.ref a] H Q :=
  ⟨a, xs, rfl, SqL.of h, hl, fun ys p hp hs np => q ys p _ hp (srtS_of hs) np (same_new np _) upd_same⟩

/-! ## a row of amounts by name -/
def rows (ks : List Str) (ns : List Int) : List (Key × V) := (ks.zip ns).map fun p => (Sum.inr p.1, V.int p.2)
def rowOf (ks : List Str) (ns : List Int) (n : Str) : Int := (((ks.zip ns).find? fun p => decide (p.1 = n)).map (·.2)).getD 0
theorem valV_rows {n : Str} : ∀ {ks : List Str} {ns : List Int}, ks.length = ns.length → n ∈ ks → valV (rows ks ns) (Sum.inr n) = some (.int (rowOf ks ns n))
  | [], _, _, h => by simp at h
  | k :: ks, [], h, _ => by simp at h
  | k :: ks, x :: ns, hl, hm => by
    unfold valV rows rowOf
    rw [List.zip_cons_cons, List.map_cons, List.find?_cons, List.find?_cons]
    by_cases e : k = n
    · subst e
      simp
    · have e1 : decide ((Sum.inr k : Key) = Sum.inr n) = false := decide_eq_false fun z => e (Sum.inr.inj z)
      have e2 : decide (k = n) = false := decide_eq_false e
      simp only [e1, e2]
      have hm2 : n ∈ ks := by
        rcases List.mem_cons.mp hm with z | z
        · exact absurd z.symm e
        · exact z
      exact valV_rows (by simpa using hl) hm2
theorem rowOf_at {ks : List Str} {ns : List Int} : ∀ {i : Nat} {k : Str} {x : Int}, ks.Nodup → ks[i]? = some k → ns[i]? = some x → rowOf ks ns k = x := by
  induction ks generalizing ns with
  | nil => intro i k x _ h; simp at h
  | cons a ks ih =>
    intro i k x hd h1 h2
    cases ns with
    | nil => simp at h2
    | cons b ns =>
      unfold rowOf
      rw [List.zip_cons_cons, List.find?_cons]
      cases i with
      | zero =>
        have e1 : a = k := Option.some.inj h1
        have e2 : b = x := Option.some.inj h2
        subst e1; subst e2
        simp
      | succ i =>
        have h1' : ks[i]? = some k := h1
        have h2' : ns[i]? = some x := h2
        have hk : k ∈ ks := List.mem_of_getElem? h1'
        have hne : a ≠ k := fun z => (List.nodup_cons.mp hd).1 (z ▸ hk)
        simp only [decide_eq_false hne]
        exact ih (List.nodup_cons.mp hd).2 h1' h2'
theorem any_key {ks : List Str} {ns : List Int} {k : Str} (h : k ∉ ks) : ((rows ks ns).any fun kv => decide (kv.1 = (Sum.inr k : Key))) = false := by
  rw [Bool.eq_false_iff]
  intro z
  obtain ⟨kv, hm, hk⟩ := List.any_eq_true.mp z
  unfold rows at hm
  obtain ⟨p, hp, rfl⟩ := List.mem_map.mp hm
  have e : p.1 = k := Sum.inr.inj (of_decide_eq_true hk)
  exact h (e ▸ (List.of_mem_zip hp).1)
/-! ## zip of two tuples: what is walked -/
theorem walk_zipT {K : PySem.W.Frag} {a b : Addr} {xs ys : List V} {n : Nat} (hn : n = min xs.length ys.length) : L2.Walk (RZ.ItzT K a b) n (fun H => SqT K H a xs ∧ SqT K H b ys) (YPair (fun i => xs[i]?) (fun i => ys[i]?)) := by
  subst hn
  refine ⟨fun i _ hi q => ?_, fun _ q => ⟨xs, ys, q.1, q.2, by omega⟩, fun i H v H' _ q y => ?_⟩
  · have h1 : i < xs.length := by omega
    have h2 : i < ys.length := by omega
    exact ⟨xs, ys, xs[i], ys[i], q.1, q.2, by simp [h1], by simp [h2]⟩
  · obtain ⟨T, x, z, h1, h2, h3, h4, h5⟩ := y
    exact ⟨T, x, z, h1, h2, h3, h4 xs q.1, h5 ys q.2⟩
section
variable {K : PySem.W.Frag} {σ : L2.St} {H : Hp} {vs : List Nat} {i j : Nat} {a b D : Addr} {Qd : Hp → Prop} {ks : List Str} {ns : List Int}
/-- {name: amount for name, amount in zip(names, amounts)} -/
theorem dc_rows (hx : H a = some (.tup (ks.map V.str))) (hy : H b = some (.tup (ns.map V.int))) (hl : ks.length = ns.length) (hn : ks.length ≤ 1000) (hnd : ks.Nodup) (hD : H D = none)
    (hw : ∀ x y, wipe (((wipe σ vs).set i (some x)).set j (some y)) vs = wipe σ vs) (hi : ∀ x y, (((wipe σ vs).set i (some x)).set j (some y))[i]? = some (some x)) (hj : ∀ x y, (((wipe σ vs).set i (some x)).set j (some y))[j]? = some (some y))
    (hd : ∀ H2, Same H H2 → H2 D = some (.dK (rows ks ns)) → Qd H2) :
    ∃ W : Nat → Nat → Hp → Prop, (∃ m, W 0 m (upd H D (.dK []))) ∧ ∀ k m H, W k m H →
      ((RZ.ItzT K a b).stop k H ∧ Qd H) ∨ ((RZ.ItzT K a b).go k H ∧ ∃ Nx : Hp → Prop, (∀ H', Nx H' → ∃ m', m' < m ∧ W (k + 1) m' H') ∧ ∀ x H', (RZ.ItzT K a b).yld k H x H' →
        gTup K 2 (gCons (gName i) (gCons (gName j) gNil)) x (wipe σ vs) H' fun σ2 H2 => wipe σ2 vs = wipe σ vs ∧ tYes σ2 H2 fun c H3 =>
          if c = true then tVar i σ2 H3 fun y H4 => tVar j σ2 H4 fun z H5 => ∃ kvs k, y = kV k ∧ H5 D = some (.dK kvs) ∧ kvs.length < sizeLine ∧ Nx (upd H5 D (.dK (putK kvs k z))) else Nx H3) := by
  have w := walk_zipT (K := K) (a := a) (b := b) (xs := ks.map V.str) (ys := ns.map V.int) (n := ks.length) (by rw [List.length_map, List.length_map, hl, Nat.min_self])
  refine ⟨fun k m H' => m = ks.length - k ∧ k ≤ ks.length ∧ Same H H' ∧ H' D = some (.dK (rows (ks.take k) (ns.take k))), ⟨ks.length, by omega, Nat.zero_le _, same_new hD _, by rw [upd_same]; rfl⟩, ?_⟩
  rintro k m H1 ⟨rfl, hk, s1, eD⟩
  have g1 : SqT K H1 a (ks.map V.str) ∧ SqT K H1 b (ns.map V.int) := ⟨SqT.of (s1 _ _ hx), SqT.of (s1 _ _ hy)⟩
  by_cases hlt : k < ks.length
  · refine .inr ⟨w.goes k H1 hlt g1, fun H' => Same H H' ∧ H' D = some (.dK (rows (ks.take (k + 1)) (ns.take (k + 1)))), fun H' p => ⟨ks.length - (k + 1), by omega, rfl, hlt, p.1, p.2⟩, fun x H' y => ?_⟩
    obtain ⟨T, x1, x2, rfl, nT, rfl, e1, e2⟩ := w.yields k H1 x H' hlt g1 y
    have hlt2 : k < ns.length := by omega
    have f1 : x1 = V.str ks[k] := by
      have : (ks.map V.str)[k]? = some x1 := e1
      rw [List.getElem?_map, List.getElem?_eq_getElem hlt] at this
      exact (Option.some.inj this).symm
    have f2 : x2 = V.int ns[k] := by
      have : (ns.map V.int)[k]? = some x2 := e2
      rw [List.getElem?_map, List.getElem?_eq_getElem hlt2] at this
      exact (Option.some.inj this).symm
    subst f1; subst f2
    have TD : D ≠ T := fun z => by rw [← z, eD] at nT; cases nT
    refine ⟨T, [V.str ks[k], V.int ns[k]], rfl, SqT.of upd_same, rfl, _, _, rfl, _, _, rfl, rfl, hw _ _, ?_⟩
    refine v_yes ?_
    refine ⟨_, hi _ _, _, hj _ _, rows (ks.take k) (ns.take k), Sum.inr ks[k], rfl, by rw [upd_ne TD]; exact eD, ?_, Same.mut (s1.trans (same_new nT _)) hD, ?_⟩
    · have : (rows (ks.take k) (ns.take k)).length ≤ 1000 := by
        unfold rows
        rw [List.length_map, List.length_zip, List.length_take]
        omega
      exact Nat.lt_of_le_of_lt this (by decide)
    · rw [upd_same]
      have hk2 : ks[k] ∉ ks.take k := by
        intro hm
        obtain ⟨q, hq, e⟩ := List.mem_take_iff_getElem.mp hm
        have := (List.getElem_inj hnd).mp e
        omega
      have e4 : putK (rows (ks.take k) (ns.take k)) (Sum.inr ks[k]) (V.int ns[k]) = rows (ks.take (k + 1)) (ns.take (k + 1)) := by
        have hz : ks.take (k + 1) = ks.take k ++ [ks[k]] := by rw [List.take_add_one, List.getElem?_eq_getElem hlt]; rfl
        have hz2 : ns.take (k + 1) = ns.take k ++ [ns[k]] := by rw [List.take_add_one, List.getElem?_eq_getElem hlt2]; rfl
        unfold putK
        rw [any_key hk2]
        rw [hz, hz2]
        unfold rows
        rw [List.zip_append (by rw [List.length_take, List.length_take]; omega), List.map_append]
        rfl
      rw [e4]
  · have ek : k = ks.length := by omega
    subst ek
    refine .inl ⟨w.stops H1 g1, hd H1 s1 ?_⟩
    rw [eD, List.take_length, hl, List.take_length]
end
end AK

/-! ## ARng -/
set_option Elab.async false
set_option linter.all false
set_option maxRecDepth 100000
namespace AK
open PySem PySem.Spec PyProof.Rows L2
/-! ## lists of whole numbers beside the empty list -/
theorem dp_ints {K : PySem.W.Frag} {H : Hp} {a : Addr} {ns : List Int} (h : H a = some (.lst (ns.map V.int))) : Dp K H (.ref a) (.list (ns.map PyData.int)) := by
  refine .lst (SqL.of h) ?_
  clear h
  induction ns with
  | nil => exact .nil
  | cons n r ih => exact .cons (.int n) ih
theorem depth_ints : ∀ ns : List Int, PyData.depthAll (ns.map PyData.int) = 0
  | [] => rfl
  | n :: r => by
    have := depth_ints r
    simp [PyData.depthAll, PyData.depth, this]
theorem lay_ints : ∀ ns : List Int, PyData.canLayAll0 (ns.map PyData.int) = true
  | [] => rfl
  | n :: r => by
    have := lay_ints r
    simp [PyData.canLayAll0, PyData.canLay0, this]
theorem shaped_ints (ns : List Int) : SeqAt.shaped (.list (ns.map PyData.int)) = true := by
  unfold SeqAt.shaped
  simp [PyData.canLay0, PyData.depth, lay_ints, depth_ints]
theorem eqv_ints_nil (ns : List Int) : PyData.eqv (.list (ns.map PyData.int)) (.list []) = ns.isEmpty := by
  cases ns with
  | nil => simp [PyData.eqv, PyData.eqvAll]
  | cons n r => simp [PyData.eqv, PyData.eqvAll]
theorem v_neNil {K : PySem.W.Frag} {H : Hp} {Q : VK} {a b : Addr} {ns : List Int} (h : H a = some (.lst (ns.map V.int))) (h' : H b = some (.lst [])) (q : Q (.bl (!ns.isEmpty)) H) : rNeD K (.ref a) (.ref b) H Q :=
  ⟨.list (ns.map PyData.int), .list [], dp_ints h, dp_ints (ns := []) h', shaped_ints ns, shaped_ints [], by rw [eqv_ints_nil]; exact q⟩

/-! ## slices -/
theorem cut_take (xs : List V) (k : Nat) : cutV xs none (some (k : Int)) = xs.take k := by
  unfold cutV
  rw [HT.sIx_none, HT.sIx_nat, List.drop_zero, Nat.sub_zero]
  rcases Nat.le_total k xs.length with h | h
  · rw [Nat.min_eq_left h]
  · rw [Nat.min_eq_right h, List.take_length, List.take_of_length_le h]
theorem cut_drop (xs : List V) (k : Nat) : cutV xs (some (k : Int)) none = xs.drop k := by
  unfold cutV
  rw [HT.sIx_none, HT.sIx_nat]
  rcases Nat.le_total k xs.length with h | h
  · rw [Nat.min_eq_left h, List.take_of_length_le (by rw [List.length_drop]; omega)]
  · rw [Nat.min_eq_right h, List.drop_length, List.take_nil, List.drop_eq_nil_of_le h]
/-! ## the source of draws changes -/
theorem IsRng.ne {g c : Addr} {H : Hp} (h : IsRng g c H) : g ≠ c := by
  obtain ⟨cells, stir, h1, h2, _⟩ := h
  refine ne_of h1 h2 fun z => ?_
  injection z with z
  cases cells with
  | nil => cases z
  | cons x r => injection z with z _; cases z
theorem Fr.cell {g c : Addr} {H : Hp} {cells' : List Int} (h : IsRng g c H) (h0 : ∀ x ∈ cells', 0 ≤ x) (hl : cells'.length ≤ 60) : Fr (some (g, c)) H (upd H c (.lst (cells'.map V.int))) := by
  have hne := h.ne
  obtain ⟨cells, stir, h1, h2, h3, h4, h5, h6⟩ := id h
  exact ⟨h, ⟨cells', stir, by rw [upd_ne hne]; exact h1, upd_same, h0, hl, h5, h6⟩, fun a o f ha => by rw [upd_ne f.2]; exact ha⟩
theorem Fr.stir {g c : Addr} {H : Hp} {k : Int} (h : IsRng g c H) (h0 : 0 ≤ k) (hl : k < 2147483647) : Fr (some (g, c)) H (upd H g (.lst [.ref c, .int k])) := by
  have hne := h.ne
  obtain ⟨cells, stir, h1, h2, h3, h4, h5, h6⟩ := id h
  exact ⟨h, ⟨cells, k, upd_same, by rw [upd_ne hne.symm]; exact h2, h3, h4, h0, hl⟩, fun a o f ha => by rw [upd_ne f.1]; exact ha⟩
/-! ## what the law's own makers promise -/
def sp_heap (K : PySem.W.Frag) : Sp := fun vs H Q _ => ∃ (a : Addr) (ns : List Int), vs = [.ref a] ∧ SqL K H a (ns.map V.int) ∧ ns.length ≤ 63 ∧ ∀ g c H', H g = none → H c = none → Same H H' → IsRng g c H' → Q (.ref g) H'
def sp_draw : Sp := fun vs H Q _ => ∃ (g c : Addr) (m : Int), vs = [.ref g, .int m] ∧ IsRng g c H ∧ 0 < m ∧ m < 2 ^ 100 ∧ ∀ k H', 0 ≤ k → k < m → Fr (some (g, c)) H H' → Q (.int k) H'
def sp_pick : Sp := fun vs H Q _ => ∃ (g c l : Addr) (xs : List V), vs = [.ref g, .ref l] ∧ IsRng g c H ∧ H l = some (.lst xs) ∧ l ≠ g ∧ l ≠ c ∧ xs ≠ [] ∧ xs.length ≤ 1000000 ∧ ∀ (i : Nat) (v : V) (H' : Hp), xs[i]? = some v → Fr (some (g, c)) H H' → Q v H'
/-! a comprehension over a list of data with a test -/
section
variable {K : PySem.W.Frag} {σ : L2.St} {H : Hp} {te : TE} {tt : TT} {vs : List Nat} {j : Nat} {a : Addr} {Qd : Addr → Hp → Prop} {α : Type} {L : List α} {e : α → V}
theorem v_lcLP (r : Rg) (hx : H a = some (.lst (L.map e))) (ho : Off r a) (gd : Good r H) (p : α → Bool) (f : α → V) (hn : L.length ≤ 1000000)
    (hw : ∀ x, wipe ((wipe σ vs).set j (some x)) vs = wipe σ vs)
    (hs : ∀ x H2 (Qt : Bool → Hp → Prop), x ∈ L → Fr r H H2 → (∀ H3, Fr r H2 H3 → Qt (p x) H3) → tt ((wipe σ vs).set j (some (e x))) H2 Qt)
    (he : ∀ x H2 (Qn : VK), x ∈ L → p x = true → Fr r H H2 → (∀ H3, Fr r H2 H3 → Qn (f x) H3) → te ((wipe σ vs).set j (some (e x))) H2 Qn)
    (hd : ∀ D H2, H D = none → Fr r H H2 → H2 D = some (.lst ((L.filter p).map f)) → Qd D H2) :
    ∃ a', V.ref a = .ref a' ∧ (∃ xs, SqL K H a' xs) ∧ ∀ D, H D = none → ∃ W : Nat → Nat → Hp → Prop, (∃ m, W 0 m (upd H D (.lst []))) ∧ ∀ i m H, W i m H →
      ((Itl K a').stop i H ∧ Qd D H) ∨ ((Itl K a').go i H ∧ ∃ Nx : Hp → Prop, (∀ H', Nx H' → ∃ m', m' < m ∧ W (i + 1) m' H') ∧ ∀ x H', (Itl K a').yld i H x H' → gName j x (wipe σ vs) H' fun σ2 H2 => wipe σ2 vs = wipe σ vs ∧ tt σ2 H2 fun b H3 =>
        if b = true then te σ2 H3 fun y H4 => ∃ acc, H4 D = some (.lst acc) ∧ acc.length < sizeLine ∧ Nx (upd H4 D (.lst (acc ++ [y]))) else Nx H3) := by
  refine ⟨a, rfl, ⟨_, SqL.of hx⟩, fun D hD => ?_⟩
  have hoff : Off r D := Off.new gd hD
  refine lc_it (walk_list (K := K) (a := a) (xs := L.map e)) (fun i H' => Fr r H H' ∧ H' D = some (.lst (((L.take i).filter p).map f))) ⟨Fr.new gd hD, by rw [upd_same]; rfl⟩ (fun i H' _ q => SqL.of (q.1.lst ho hx)) (fun i x H1 H' hi q hy => ?_) (fun H' q => ?_)
  · obtain ⟨rfl, hy⟩ := hy
    obtain ⟨fr, eD⟩ := q
    rw [List.length_map] at hi
    rw [List.getElem?_map, List.getElem?_eq_getElem hi] at hy
    have ex : e L[i] = x := Option.some.inj hy
    subst ex
    have hm : L[i] ∈ L := List.getElem_mem hi
    have et : L.take (i + 1) = L.take i ++ [L[i]] := by rw [List.take_add_one, List.getElem?_eq_getElem hi]; rfl
    refine ⟨hw _, ?_⟩
    refine hs L[i] _ _ hm fr fun H3 f3 => ?_
    have fr3 := fr.trans f3
    have eD3 := f3.lst hoff eD
    refine v_bool (fun hp => ?_) (fun hp => ?_)
    · refine he L[i] H3 _ hm hp fr3 fun H4 f4 => ?_
      refine ⟨_, f4.lst hoff eD3, ?_, (fr3.trans f4).mut hD, ?_⟩
      · have h1 : (((L.take i).filter p).map f).length ≤ L.length := by
          rw [List.length_map]
          refine Nat.le_trans (List.length_filter_le _ _) ?_
          rw [List.length_take]; omega
        exact Nat.lt_of_le_of_lt (Nat.le_trans h1 hn) (by decide)
      · rw [upd_same, et, List.filter_append, List.filter_cons_of_pos hp, List.filter_nil, List.map_append]
        rfl
    · refine ⟨fr3, ?_⟩
      rw [eD3, et, List.filter_append, List.filter_cons_of_neg (by rw [hp]; exact Bool.false_ne_true), List.filter_nil, List.append_nil]
  · obtain ⟨fr, eD⟩ := q
    rw [List.length_map] at eD
    exact hd D H' hD fr (by rw [eD, List.take_length])
end
/-! ## loops: for over a list that stays -/
theorem v_forL {K : PySem.W.Frag} {σ : L2.St} {H : Hp} {D : Ends} {tb : TS} {j : Nat} {a : Addr} {xs : List V} (hx : SqL K H a xs) (Pv : Nat → L2.St → Hp → Prop) (h0 : Pv 0 σ H) (hG : ∀ i σ H, i ≤ xs.length → Pv i σ H → SqL K H a xs)
    (hs : ∀ i x σ H, xs[i]? = some x → Pv i σ H → tb { D with nx := Pv (i + 1), ct := Pv (i + 1), bk := D.nx } (σ.set j (some x)) H) (hd : ∀ σ H, Pv xs.length σ H → D.nx σ H) :
    ∃ a', V.ref a = .ref a' ∧ (∃ xs, SqL K H a' xs) ∧ ∃ W : Nat → Nat → L2.St → Hp → Prop, (∃ m, W 0 m σ H) ∧ ∀ i m σ H, W i m σ H →
      ((Itl K a').stop i H ∧ D.nx σ H) ∨ ((Itl K a').go i H ∧ ∃ N : L2.St → Hp → Prop, (∀ σ' H', N σ' H' → ∃ m', m' < m ∧ W (i + 1) m' σ' H') ∧ ∀ x H', (Itl K a').yld i H x H' → gName j x σ H' fun σ2 H2 => tb { D with nx := N, ct := N, bk := D.nx } σ2 H2) :=
  ⟨a, rfl, ⟨xs, hx⟩, for_it (walk_list (K := K) (a := a) (xs := xs)) (g := gName j) Pv h0 hG (fun i x σ H H' hi q hy => by obtain ⟨rfl, hy⟩ := hy; exact hs i x σ _ hy q) hd⟩
theorem v_forR {σ : L2.St} {H : Hp} {D : Ends} {tb : TS} {j : Nat} {n : Int} (hn0 : 0 ≤ n) (hn1 : n ≤ 1000000) (Pv : Nat → L2.St → Hp → Prop) (h0 : Pv 0 σ H)
    (hs : ∀ (i : Nat) σ H, (i : Int) < n → Pv i σ H → tb { D with nx := Pv (i + 1), ct := Pv (i + 1), bk := D.nx } (σ.set j (some (.int (i : Int)))) H) (hd : ∀ σ H, Pv n.toNat σ H → D.nx σ H) :
    ∃ n' : Int, [V.int n] = [.int n'] ∧ -(2 ^ 62) ≤ n' ∧ n' < 2 ^ 62 ∧ ∃ W : Nat → Nat → L2.St → Hp → Prop, (∃ m, W 0 m σ H) ∧ ∀ i m σ H, W i m σ H →
      ((Itr 0 n'.toNat).stop i H ∧ D.nx σ H) ∨ ((Itr 0 n'.toNat).go i H ∧ ∃ N : L2.St → Hp → Prop, (∀ σ' H', N σ' H' → ∃ m', m' < m ∧ W (i + 1) m' σ' H') ∧ ∀ x H', (Itr 0 n'.toNat).yld i H x H' → gName j x σ H' fun σ2 H2 => tb { D with nx := N, ct := N, bk := D.nx } σ2 H2) :=
  ⟨n, rfl, by omega, by omega, for_it (walk_range (lo := 0) (n := n.toNat)) (g := gName j) Pv h0 (fun _ _ _ _ _ => trivial) (fun i x σ H H' hi q hy => by
    obtain ⟨rfl, rfl⟩ := hy
    have e : (0 : Int) + (i : Int) = (i : Int) := Int.zero_add _
    show tb { D with nx := Pv (i + 1), ct := Pv (i + 1), bk := D.nx } (σ.set j (some (.int (0 + (i : Int))))) _
    rw [e]
    exact hs i σ _ (by omega) q) hd⟩
theorem v_for {σ : L2.St} {H : Hp} {D : Ends} {wi : TI} {g : TG} {tb : TS} (q : wi σ H fun J H1 => ∃ W : Nat → Nat → L2.St → Hp → Prop, (∃ m, W 0 m σ H1) ∧ ∀ i m σ H, W i m σ H →
  (J.stop i H ∧ D.nx σ H) ∨ (J.go i H ∧ ∃ N : L2.St → Hp → Prop, (∀ σ' H', N σ' H' → ∃ m', m' < m ∧ W (i + 1) m' σ' H') ∧ ∀ x H', J.yld i H x H' → g x σ H' fun σ2 H2 => tb { D with nx := N, ct := N, bk := D.nx } σ2 H2)) : tFor wi g tb D σ H := q
theorem v_irng {σ : L2.St} {H : Hp} {ta : TA} {R : It → Hp → Prop} (q : ta σ H fun vs H1 => ∃ j : Int, vs = [.int j] ∧ -(2 ^ 62) ≤ j ∧ j < 2 ^ 62 ∧ R (Itr 0 j.toNat) H1) : iRng1 ta σ H R := q
theorem v_slLS {K : PySem.W.Frag} {H : Hp} {Q : VK} {a : Addr} {xs : List V} {lo hi : Option Int} (h : SqL K H a xs) (q : ∀ p H', H p = none → Same H H' → H' p = some (.lst (cutV xs lo hi)) → Q (.ref p) H') : rSlL K (.ref a) lo hi H Q := ⟨a, xs, rfl, h, v_new q⟩
theorem v_pop {H : Hp} {Q : VK} {a : Addr} {xs : List V} {y : V} (h : H a = some (.lst xs)) (e : xs[xs.length - 1]? = some y) (q : Q y (upd H a (.lst xs.dropLast))) : rPop (.ref a) [] H Q := ⟨a, xs, y, rfl, rfl, h, e, q⟩
theorem v_gsub {σ : L2.St} {H : Hp} {to ti : TE} {t : TSet} {v : V} {Q : L2.St → Hp → Prop} (q : to σ H fun o H1 => ti σ H1 fun i H2 => t o i v H2 fun H3 => Q σ H3) : gSub to ti t v σ H Q := q
theorem v_setL {H : Hp} {R : Hp → Prop} {p : Addr} {xs : List V} {k : Int} {j : Nat} {v : V} (h : H p = some (.lst xs)) (e : ixN xs.length k = some j) (q : R (upd H p (.lst (xs.set j v)))) : rSetL (.ref p) (.int k) v H R := ⟨p, xs, k, j, rfl, rfl, h, e, q⟩
theorem v_while {σ : L2.St} {H : Hp} {D : Ends} {c : TT} {tb : TS} (W : Nat → L2.St → Hp → Prop) (m0 : Nat) (h0 : W m0 σ H)
    (hs : ∀ m σ H, W m σ H → c σ H fun b H1 => if b = true then ∃ N : L2.St → Hp → Prop, (∀ σ' H', N σ' H' → ∃ m', m' < m ∧ W m' σ' H') ∧ tb { D with nx := N, ct := N, bk := D.nx } σ H1 else D.nx σ H1) : tWhile c tb D σ H := ⟨W, ⟨m0, h0⟩, hs⟩
theorem IsRng.at {g c : Addr} {H : Hp} (h : IsRng g c H) : ∃ (cells : List Int) (stir : Int), H g = some (.lst [.ref c, .int stir]) ∧ H c = some (.lst (cells.map V.int)) ∧ (∀ x ∈ cells, 0 ≤ x) ∧ cells.length ≤ 60 ∧ 0 ≤ stir ∧ stir < 2147483647 := h
theorem atI_int {α : Type} {xs : List α} {k : Int} {v : α} (h0 : 0 ≤ k) (h : xs[k.toNat]? = some v) : atI xs k = some v := by
  obtain ⟨n, rfl⟩ := Int.eq_ofNat_of_zero_le h0
  exact atI_nat h
end AK

/-! ## ARules -/
set_option Elab.async false
set_option linter.all false
set_option maxRecDepth 100000
namespace AK
open PySem PySem.Spec PyProof.Rows L2
/-! ## {t: v}, the key a tuple -/
def tDisp1T (tk tv : TE) : TE := fun σ H Q => ∀ p, H p = none → tk σ (upd H p (.dT [])) fun x H1 => tv σ H1 fun y H2 => ∃ (b : Addr) (k : List Key), x = .ref b ∧ H2 p = some (.dT []) ∧ H2 b = some (.tup (k.map kV)) ∧ Q (.ref p) (upd H2 p (.dT [(k, y)]))
theorem pe_disp1T {X : Cx} {k v : Expr} {tk tv : TE} {pos : Pos} (hu : X.A.units + 1 < cLine) (hk : PE X k tk) (hv : PE X v tv) : PE X (.Dict [some k] [v] pos) (tDisp1T tk tv) := by
  refine ⟨fun pins s σ H Q I q => ?_⟩
  have hn := I.hok.fresh (Nat.le_refl s.heap.objs.size)
  have I1 := I.laid (a := s.heap.objs.size) (o := .dT []) (h' := s.heap.push { cls := .type "dict", data := .dict #[] }) (t' := s.toks) (fun _ _ q => Heap.get?_push_of_some _ q) (Nat.le_refl _) (dt_empty s.heap I.big)
  have h : PPs X pos [some k] [v] [(tk, tv)] := pps_cons hk hv pps_nil
  refine wpAny_Dict_any rfl rfl (by simp) (by simp) (thn (h.run pins _ σ _ (fun ps H2 => match ps with
    | [(x, y)] => ∃ (b : Addr) (k : List Key), x = .ref b ∧ H2 s.heap.objs.size = some (.dT []) ∧ H2 b = some (.tup (k.map kV)) ∧ Q (.ref s.heap.objs.size) (upd H2 s.heap.objs.size (.dT [(k, y)]))
    | _ => False) I1 (q _ hn)) fun ws s2 ⟨ps, H2, I2, rel, q2⟩ => ?_)
  match ps, rel, q2 with
  | [(x, y)], rel, ⟨b, kk, ex, e, eb, q2⟩ =>
    subst ex
    cases rel with
    | @cons p1 w1 ps1 ws1 h1 t1 =>
      cases t1
      obtain ⟨u1, u2⟩ := w1
      cases (show u1 = Value.ref b from h1.1)
      obtain ⟨z, hd, xs, relx, dd⟩ := dt_of I2.hok e
      cases relx
      refine wpAny_storeAllH (knd := tupleKind (mixKind X.prog X.w)) (show X.A.units < cLine by omega) [(Value.ref b, u2)] [(kk, b, u2)] [] s2 _ ⟨rfl, rfl, key_of I2.hok eb, trivial⟩ dd (show 1 ≤ sizeLine by decide) fun h' tk' dd' hs => ?_
      obtain ⟨q', es, ep, hq, h2, h3, h4, _, h5⟩ := dd'
      refine ⟨.ref s.heap.objs.size, _, d_write (ob := .dT [(kk, y)]) I2 (by rw [e]; exact True.intro) hs ⟨q', hq⟩ ⟨show 1 ≤ sizeLine by decide, hd, [(kk, b, u2)], ?_, q', es, ep, hq, h2, h3, h4, h5⟩, rfl, q2⟩
      refine .cons ⟨rfl, ?_, h1.2⟩ .nil
      rw [upd_ne (ne_of eb e (fun z => nomatch z))]
      exact eb
/-! ## d.update(e), both keyed by tuples, d not empty -/
def mergeT (kvs more : List (List Key × V)) : List (List Key × V) := more.foldl (fun acc kv => putK acc kv.1 kv.2) kvs
theorem KT.merge {H : Hp} : ∀ {more : List (List Key × V)} {ys : List (List Key × Addr × Value)} {kvs : List (List Key × V)} {xs : List (List Key × Addr × Value)}, KT H more ys → KT H kvs xs → KT H (mergeT kvs more) (storedAllH xs ys) := by
  intro more ys kvs xs r
  induction r generalizing kvs xs with
  | nil => intro q; exact q
  | @cons p q ps qs h t ih =>
    intro r0
    have e := r0.put p.1 h.2.1 h.2.2
    rw [h.1] at e
    have e2 : KT H (putK kvs p.1 p.2) (storedH xs q.1 q.2.1 q.2.2) := by rw [h.1]; exact e
    exact ih e2
theorem length_mergeT : ∀ (more kvs : List (List Key × V)), (mergeT kvs more).length ≤ kvs.length + more.length
  | [], kvs => by show kvs.length ≤ kvs.length + 0; omega
  | p :: r, kvs => by
    have h1 := length_mergeT r (putK kvs p.1 p.2)
    have h2 := length_putK kvs p.1 p.2
    show (mergeT (putK kvs p.1 p.2) r).length ≤ _
    rw [List.length_cons]; omega
def rUpdT : V → List V → Hp → VK → Prop := fun x xs H Q => ∃ (d o : Addr) (kvs more : List (List Key × V)), x = .ref d ∧ xs = [.ref o] ∧ d ≠ o ∧ H d = some (.dT kvs) ∧ H o = some (.dT more) ∧ kvs ≠ [] ∧ kvs.length + more.length ≤ sizeLine ∧ Q .non (upd H d (.dT (mergeT kvs more)))
theorem mt_updT {X : Cx} (hu : X.A.units + 1 < cLine) : MtR X "dict.update" rUpdT := by
  intro pins s σ H x xs v us Q I rx rs h
  obtain ⟨d, o, kvs, more, rfl, rfl, hdo, ed, eo, hne, hz, q⟩ := h
  cases rx
  cases Vals.ref1 rs
  obtain ⟨z1, hd1, xs1, rel1, dd1⟩ := dt_of I.hok ed
  obtain ⟨z2, hd2, xs2, rel2, dd2⟩ := dt_of I.hok eo
  have l1 := Paired.length rel1
  have l2 := Paired.length rel2
  refine call_update_dictH (knd := tupleKind (mixKind X.prog X.w)) (tupleKind_room_in1 hu) hdo hd2 dd1 dd2 (.inl fun e => hne (by rw [e] at l1; exact List.length_eq_zero_iff.mp l1)) (by omega) fun h' dd' _ hs => ?_
  obtain ⟨q', es, ep, hq, h2, h3, h4, _, h5⟩ := dd'
  refine ⟨.non, _, d_write (ob := .dT (mergeT kvs more)) I (by rw [ed]; exact True.intro) hs ⟨q', hq⟩ ⟨Nat.le_trans (length_mergeT more kvs) hz, hd1, storedAllH xs1 xs2, ?_, q', es, ep, hq, h2, h3, h4, h5⟩, rfl, q⟩
  refine (KT.merge rel2 rel1).keeps fun c ys ec => ?_
  rw [upd_ne (ne_of ec ed (fun z => nomatch z))]
  exact ec

/-! ## t * 1 is t itself -/
theorem tuple_mul1 (l : Addr) (items : Array Value) (n : Nat) (dd : Option Addr) (sl : Array (Option Value)) (u : Tok) :
    Meets (Builtin.«tuple.__mul__» ⟨[.ref l, .int 1 u], []⟩) (fun _ R s => s.heap.get? l = some { cls := .type "tuple", dict := dd, data := .seq items n, slots := sl } ∧
      R (.ok (.ret (Value.ref l))) s) :=
  .of_wp fun prog w A R s h => by
    obtain ⟨hp, g, d, tk, os⟩ := s
    obtain ⟨hl, h⟩ := h
    have f1 := AutoSeq1.idx_int
    have c0 : (decide ((1 : Int) < -(2 ^ 63)) || decide ((1 : Int) ≥ 2 ^ 63)) = false := by decide
    have c1 : (items.isEmpty || (1 : Int) == 1) = true := by cases items.isEmpty <;> rfl
    wp_walk using wpAny_loadPart' hl
    repeat (first
      | (refine wpAny_ite_false (decide_eq_false (by rw [c0]; exact Bool.false_ne_true)) ?_; wp_walk using wpAny_loadPart' hl)
      | (refine wpAny_ite_true (decide_eq_true c1) ?_; wp_walk using wpAny_loadPart' hl))
    exact ⟨_, rfl, h⟩
/-- t * k, k from 1 on, t not empty: some tuple that holds so many of it -/
def rRep1 (K : PySem.W.Frag) : R2 := fun x y H Q => ∃ (l : Addr) (k : Int) (xs : List V), x = .ref l ∧ y = .int k ∧ H l = some (.tup xs) ∧ xs ≠ [] ∧ 1 ≤ k ∧ k ≤ 1000 ∧ xs.length ≤ 1000 ∧ ∀ p H', Same H H' → H' p = some (.tup (List.replicate k.toNat xs).flatten) → Q (.ref p) H'
theorem op_rep1 {X : Cx} {K : PySem.W.Frag} (hK : X.K = K) : OpR X (binaryOp .Mult) (rRep1 K) := by
  intro pins s σ H x y v u Q I rx ry h
  obtain ⟨l, k, xs, rfl, rfl, hT, hne, h1, h2, hz, q⟩ := h
  by_cases hk : k = 1
  · subst hk
    cases rx
    obtain ⟨t, rfl⟩ := ry
    obtain ⟨its, r, ⟨⟨cls, dd, data, sl⟩, ho, hc, n, hd⟩, hs⟩ := I.tuple (SqT.of hT)
    simp only at hc hd
    subst hc hd
    refine wpAny_binaryOp_repeat_ref (T := "tuple") (U := "int") (by decide) ⟨_, ho, rfl⟩ (fun s' => typeIs_int s' 1 t) noFill_tuple_mul F.fills_int_mul F.slot_int_rmul repeat_tuple F.slot_int_index.lookup
      (call_meets F.slot_int_rmul (typeIs_int s 1 t) F.entry_int_rmul (F.args_int_rmul_2 _ _) (int_rmul_tuple 1 t l its.toArray n dd sl)
        ⟨ho, rfl, ⟨_, ho, rfl⟩, call_meets F.slot_tuple_mul ⟨_, ho, rfl⟩ F.entry_tuple_mul (F.args_tuple_mul_2 _ _) (tuple_mul1 l its.toArray n dd sl t) ⟨ho, ?_⟩⟩)
    exact ⟨.ref l, H, I, rfl, q l H (Same.refl _) (by rw [hT]; simp)⟩
  · exact op_repT pins s σ H _ _ v u Q I rx ry ⟨l, k, xs, rfl, rfl, SqT.of hT, hne, by omega, h2, hz, fun p hp => q p _ (same_new hp _) upd_same⟩
theorem v_rep1 {K : PySem.W.Frag} {H : Hp} {Q : VK} {l : Addr} {k : Int} {xs : List V} (h : H l = some (.tup xs)) (h0 : xs ≠ []) (h1 : 1 ≤ k) (h2 : k ≤ 1000) (h3 : xs.length ≤ 1000) (q : ∀ p H', Same H H' → H' p = some (.tup (List.replicate k.toNat xs).flatten) → Q (.ref p) H') : rRep1 K (.ref l) (.int k) H Q :=
  ⟨l, k, xs, rfl, rfl, h, h0, h1, h2, h3, q⟩
/-! ## text * 2 -/
def rStr2 : R2 := fun x y H Q => ∃ z : Str, x = .str z ∧ y = .int 2 ∧ 0 < z.length ∧ z.length ≤ 1000 ∧ Q (.str (z ++ z)) H
theorem op_str2 {X : Cx} : OpR X (binaryOp .Mult) rStr2 := by
  intro pins s σ H x y v u Q I rx ry h
  obtain ⟨z, rfl, rfl, h0, h1, q⟩ := h
  obtain ⟨t, rfl⟩ := rx
  obtain ⟨t', rfl⟩ := ry
  have hz : ((2 : Int) == 1 || z.length == 0) = false := by
    rw [beq_eq_false_iff_ne.mpr (show z.length ≠ 0 by omega)]; rfl
  refine P.mul_str (by decide) (fun _ _ => by omega) (fun _ _ => ?_) ?_
  · have e : (2 : Int).toNat = 2 := rfl
    unfold Builtin.Str.tooLong
    rw [e, sizeLine_eq]
    exact decide_eq_false (by omega)
  · rw [if_neg (by decide), hz, if_neg Bool.false_ne_true]
    have e : (⟨List.foldl (fun x1 x2 => x1 ++ x2) #[] (List.replicate (Int.toNat 2) z.cps)⟩ : Str) = z ++ z := by
      show (⟨(#[] ++ z.cps) ++ z.cps⟩ : Str) = ⟨z.cps ++ z.cps⟩
      rw [Array.empty_append]
    rw [e]
    refine ⟨?_, ?_⟩
    · show (z.cps ++ z.cps).size ≤ sizeLine
      have e2 : z.length = z.cps.size := rfl
      rw [Array.size_append, sizeLine_eq]
      omega
    · exact ⟨.str (z ++ z), H, I.tok _, ⟨_, rfl⟩, q⟩
theorem v_str2 {H : Hp} {Q : VK} {z : Str} (h0 : 0 < z.length) (h1 : z.length ≤ 1000) (q : Q (.str (z ++ z)) H) : rStr2 (.str z) (.int 2) H Q := ⟨z, rfl, rfl, h0, h1, q⟩
/-! ## l.pop(i) -/
theorem v_popAt {H : Hp} {Q : VK} {l : Addr} {xs : List V} {i : Int} {y : V} (h : H l = some (.lst xs)) (h0 : 0 ≤ i) (e : xs[i.toNat]? = some y) (hz : xs.length ≤ 1000000) (q : Q y (upd H l (.lst (xs.eraseIdx i.toNat)))) : rPopAt (.ref l) [.int i] H Q := by
  have hk : i.toNat < xs.length := (List.getElem?_eq_some_iff.mp e).1
  refine ⟨l, xs, i, i.toNat, y, rfl, rfl, h, by omega, by omega, ?_, e, q⟩
  unfold seqIndex?
  have h1 : ¬ i < 0 := by omega
  have h2 : (decide (0 ≤ i) && decide (i < (xs.length : Int))) = true := by
    rw [Bool.and_eq_true]
    exact ⟨decide_eq_true h0, decide_eq_true (by omega)⟩
  simp only [h1, if_false, h2, if_true]
end AK

/-! ## AVec -/
set_option Elab.async false
set_option linter.all false
set_option maxRecDepth 100000
namespace AK
open PySem PySem.Spec PyProof.Rows L2
/-! ## rows of whole numbers, and dicts keyed by them -/
abbrev Vec := List Int
def kOf (k : Vec) : List Key := k.map Sum.inl
theorem kOf_inj {k k' : Vec} (h : kOf k = kOf k') : k = k' := (List.map_inj_right (fun _ _ e => Sum.inl.inj e)).mp h
theorem kV_kOf (k : Vec) : (kOf k).map kV = k.map V.int := by
  unfold kOf
  rw [List.map_map]; rfl
theorem kOf_dec (k k' : Vec) : decide (kOf k = kOf k') = decide (k = k') := decide_eq_decide.mpr ⟨kOf_inj, fun h => by rw [h]⟩
section
variable {β : Type}
def dTo (g : β → V) (kvs : List (Vec × β)) : List (List Key × V) := kvs.map fun p => (kOf p.1, g p.2)
def lookI (kvs : List (Vec × β)) (k : Vec) : Option β := (kvs.find? fun p => decide (p.1 = k)).map (·.2)
theorem valV_dTo (g : β → V) : ∀ (kvs : List (Vec × β)) (k : Vec), valV (dTo g kvs) (kOf k) = (lookI kvs k).map g
  | [], _ => rfl
  | p :: r, k => by
    have ih := valV_dTo g r k
    unfold valV lookI dTo at ih ⊢
    rw [List.map_cons, List.find?_cons, List.find?_cons]
    dsimp only
    rw [kOf_dec]
    by_cases h : p.1 = k
    · rw [decide_eq_true h]; rfl
    · rw [decide_eq_false h]
      exact ih
theorem any_dTo (g : β → V) (k : Vec) : ∀ kvs : List (Vec × β), ((dTo g kvs).any fun kv => decide (kv.1 = kOf k)) = kvs.any fun p => decide (p.1 = k)
  | [] => rfl
  | p :: r => by
    have ih := any_dTo g k r
    unfold dTo at ih ⊢
    rw [List.map_cons, List.any_cons, List.any_cons, ih]
    dsimp only
    rw [kOf_dec]
theorem putK_dToNew (g : β → V) {kvs : List (Vec × β)} {k : Vec} {b : β} (h : lookI kvs k = none) : putK (dTo g kvs) (kOf k) (g b) = dTo g (kvs ++ [(k, b)]) := by
  rw [putK_new _ (by rw [valV_dTo, h]; rfl)]
  unfold dTo
  rw [List.map_append]; rfl
theorem dTo_len (g : β → V) (kvs : List (Vec × β)) : (dTo g kvs).length = kvs.length := List.length_map _
theorem lookI_some {kvs : List (Vec × β)} {k : Vec} {b : β} (h : lookI kvs k = some b) : (k, b) ∈ kvs := by
  unfold lookI at h
  obtain ⟨p, h1, h2⟩ := Option.map_eq_some_iff.mp h
  have h3 := List.find?_some h1
  have h4 := List.mem_of_find?_eq_some h1
  rw [← of_decide_eq_true h3, ← h2]
  exact h4
theorem lookI_none {kvs : List (Vec × β)} {k : Vec} (h : lookI kvs k = none) : ∀ b, (k, b) ∉ kvs := by
  unfold lookI at h
  intro b hb
  have := List.find?_eq_none.mp (Option.map_eq_none_iff.mp h) _ hb
  exact this (decide_eq_true rfl)
end
/-! sets of rows: all values True -/
def stT (ks : List Vec) : List (List Key × V) := dTo (fun _ : Unit => V.bl true) (ks.map fun k => (k, ()))
def ins (ks : List Vec) (k : Vec) : List Vec := if k ∈ ks then ks else ks ++ [k]
theorem stT_len (ks : List Vec) : (stT ks).length = ks.length := by unfold stT; rw [dTo_len, List.length_map]
theorem stT_nil {ks : List Vec} (h : ks ≠ []) : stT ks ≠ [] := fun e => h (List.length_eq_zero_iff.mp (by rw [← stT_len, e]; rfl))
theorem stT_one (k : Vec) : stT [k] = [(kOf k, V.bl true)] := rfl
theorem any_stT (ks : List Vec) (k : Vec) : ((stT ks).any fun kv => decide (kv.1 = kOf k)) = decide (k ∈ ks) := by
  unfold stT
  rw [any_dTo, List.any_map]
  induction ks with
  | nil => rfl
  | cons a r ih =>
    rw [List.any_cons, ih]
    show (decide (a = k) || decide (k ∈ r)) = decide (k ∈ a :: r)
    rw [← Bool.decide_or]
    exact decide_eq_decide.mpr ⟨fun h => by rcases h with rfl | h; exact .head _; exact .tail _ h, fun h => by rcases List.mem_cons.mp h with h | h; exact .inl h.symm; exact .inr h⟩
theorem putK_stT (ks : List Vec) (k : Vec) : putK (stT ks) (kOf k) (.bl true) = stT (ins ks k) := by
  unfold putK ins
  rw [any_stT]
  by_cases h : k ∈ ks
  · rw [if_pos (decide_eq_true h), if_pos h]
    refine (List.map_congr_left fun p hp => ?_).trans (List.map_id _)
    unfold stT dTo at hp
    rw [List.map_map] at hp
    obtain ⟨x, _, rfl⟩ := List.mem_map.mp hp
    show (if _ then _ else _) = _
    split
    · rfl
    · rfl
  · rw [if_neg (by rw [decide_eq_false h]; exact Bool.false_ne_true), if_neg h]
    unfold stT dTo
    rw [List.map_append, List.map_append]; rfl
theorem mergeT_stT : ∀ (ys xs : List Vec), mergeT (stT xs) (stT ys) = stT (ys.foldl ins xs)
  | [], xs => rfl
  | y :: ys, xs => by
    show mergeT (putK (stT xs) (kOf y) (.bl true)) (stT ys) = _
    rw [putK_stT, mergeT_stT ys]; rfl
theorem mem_ins {ks : List Vec} {k z : Vec} : z ∈ ins ks k ↔ z ∈ ks ∨ z = k := by
  unfold ins
  split
  · exact ⟨.inl, fun h => by rcases h with h | rfl; exact h; assumption⟩
  · rw [List.mem_append, List.mem_singleton]
theorem ins_len (ks : List Vec) (k : Vec) : (ins ks k).length ≤ ks.length + 1 := by
  unfold ins
  split
  · omega
  · rw [List.length_append, List.length_singleton]; omega
theorem ins_len' (ks : List Vec) (k : Vec) : ks.length ≤ (ins ks k).length := by
  unfold ins
  split
  · omega
  · rw [List.length_append]; omega
theorem mem_insL {z : Vec} : ∀ {ys ks : List Vec}, z ∈ ys.foldl ins ks ↔ z ∈ ks ∨ z ∈ ys
  | [], ks => by simp
  | y :: ys, ks => by
    rw [List.foldl_cons, mem_insL, mem_ins, List.mem_cons, or_assoc]
theorem insL_len : ∀ (ys ks : List Vec), (ys.foldl ins ks).length ≤ ks.length + ys.length
  | [], ks => by simp
  | y :: ys, ks => by
    rw [List.foldl_cons, List.length_cons]
    have h1 := insL_len ys (ins ks y)
    have h2 := ins_len ks y
    omega
def addV (x y : Vec) : Vec := List.zipWith (· + ·) x y
def sumsL (xs ys : List Vec) : List Vec := (xs.flatMap fun x => ys.map (addV x)).foldl ins []
theorem len_flatMap_const {α β : Type} {f : α → List β} {k : Nat} : ∀ {l : List α}, (∀ x ∈ l, (f x).length = k) → (l.flatMap f).length = l.length * k
  | [], _ => by simp
  | a :: l, h => by
    rw [List.flatMap_cons, List.length_append, len_flatMap_const (fun x hx => h x (List.mem_cons_of_mem _ hx)), h a List.mem_cons_self, List.length_cons, Nat.succ_mul, Nat.add_comm]
theorem sumsL_len (xs ys : List Vec) : (sumsL xs ys).length ≤ xs.length * ys.length := by
  unfold sumsL
  refine Nat.le_trans (insL_len _ _) ?_
  rw [len_flatMap_const (k := ys.length) fun x _ => List.length_map _, List.length_nil]
  omega
theorem mem_sumsL {z : Vec} {xs ys : List Vec} : z ∈ sumsL xs ys ↔ ∃ x ∈ xs, ∃ y ∈ ys, z = addV x y := by
  unfold sumsL
  rw [mem_insL, List.mem_flatMap]
  constructor
  · rintro (h | ⟨x, hx, h⟩)
    · cases h
    · obtain ⟨y, hy, e⟩ := List.mem_map.mp h
      exact ⟨x, hx, y, hy, e.symm⟩
  · rintro ⟨x, hx, y, hy, rfl⟩
    exact .inr ⟨x, hx, List.mem_map_of_mem hy⟩
/-! ## readings about them -/
section
variable {D : Ends} {σ : L2.St} {H : Hp} {Q : VK} {K : PySem.W.Frag}
def rNewD (H : Hp) (Q : VK) : Prop := ∀ p, H p = none → Q (.ref p) (upd H p (.dT []))
theorem v_dnew (q : rNewD H Q) : tDNewT σ H Q := q
theorem v_dnewT (q : ∀ p H', H p = none → Same H H' → H' p = some (.dT []) → Q (.ref p) H') : rNewD H Q := v_new (R := fun p H' => Q (.ref p) H') q
theorem v_dput0 {td ty tv : TE} (q : tv σ H fun v H1 => td σ H1 fun x H2 => ty σ H2 fun y H3 => ∃ a H4, x = .ref a ∧ DPut H3 a y v H4 ∧ D.nx σ H4) : sDPut td ty tv D σ H := q
theorem v_dputT {a b : Addr} {v : V} {kvs : List (List Key × V)} {k : Vec} {R : Hp → Prop} (e : H a = some (.dT kvs)) (eb : H b = some (.tup (k.map V.int))) (hl : kvs.length < 16777216) (q : R (upd H a (.dT (putK kvs (kOf k) v)))) :
    ∃ a' H4, V.ref a = .ref a' ∧ DPut H a' (.ref b) v H4 ∧ R H4 := ⟨a, _, rfl, DPut.t e (by rw [kV_kOf]; exact eb) (by rw [sizeLine_eq]; exact hl), q⟩
theorem v_din0 {td ty : TE} (q : ty σ H fun y H1 => td σ H1 fun x H2 => ∃ a o, x = .ref a ∧ DGet H2 a y o ∧ Q (.bl o.isSome) H2) : tDIn ty td σ H Q := q
theorem v_dinT {β : Type} {g : β → V} {a b : Addr} {kvs : List (Vec × β)} {k : Vec} (e : H a = some (.dT (dTo g kvs))) (eb : H b = some (.tup (k.map V.int))) (q : Q (.bl (lookI kvs k).isSome) H) : ∃ a' o, V.ref a = .ref a' ∧ DGet H a' (.ref b) o ∧ Q (.bl o.isSome) H :=
  ⟨a, _, rfl, DGet.t e (by rw [kV_kOf]; exact eb), by rw [valV_dTo, Option.isSome_map]; exact q⟩
theorem v_dinB {β : Type} {g : β → V} {a b : Addr} {kvs : List (Vec × β)} {k : Vec} {R : Bool → Prop} (e : H a = some (.dT (dTo g kvs))) (eb : H b = some (.tup (k.map V.int))) (q : R (lookI kvs k).isSome) : ∃ a' o, V.ref a = .ref a' ∧ DGet H a' (.ref b) o ∧ ∃ k', V.bl o.isSome = .bl k' ∧ R k' :=
  ⟨a, _, rfl, DGet.t e (by rw [kV_kOf]; exact eb), _, rfl, by rw [valV_dTo, Option.isSome_map]; exact q⟩
theorem v_dgetT {β : Type} {g : β → V} {a b : Addr} {kvs : List (Vec × β)} {k : Vec} {x : β} (e : H a = some (.dT (dTo g kvs))) (eb : H b = some (.tup (k.map V.int))) (hx : lookI kvs k = some x) (q : Q (g x) H) : ∃ a' v, V.ref a = .ref a' ∧ DGet H a' (.ref b) (some v) ∧ Q v H :=
  ⟨a, g x, rfl, by have := DGet.t (H := H) (b := b) (k := kOf k) e (by rw [kV_kOf]; exact eb); rw [valV_dTo, hx] at this; exact this, q⟩
theorem v_dget20 {td ty tx : TE} (q : td σ H fun x H1 => ∃ a, x = .ref a ∧ IsD H1 a ∧ ty σ H1 fun y H2 => tx σ H2 fun z H3 => ∃ o, DGet H3 a y o ∧ Q (o.getD z) H3) : tDGet2 td ty tx σ H Q := q
theorem isDT {a : Addr} {kvs : List (List Key × V)} (e : H a = some (.dT kvs)) : IsD H a := by
  exact .inr ⟨_, .inl e⟩
end
section
variable {K : PySem.W.Frag} {σ : L2.St} {H : Hp} {te : TE} {vs : List Nat} {j : Nat} {Qd : Addr → Hp → Prop}
theorem v_lcRg (r : Rg) (gd : Good r H) {n : Int} (hn0 : 0 ≤ n) (hn : n ≤ 1000000) (f : Nat → V)
    (hw : ∀ x, wipe ((wipe σ vs).set j (some x)) vs = wipe σ vs)
    (hs : ∀ (i : Nat) H2 (Qn : VK), (i : Int) < n → Fr r H H2 → (∀ H3, Fr r H2 H3 → Qn (f i) H3) → te ((wipe σ vs).set j (some (.int (i : Int)))) H2 Qn)
    (hd : ∀ D H2, H D = none → Fr r H H2 → H2 D = some (.lst ((List.range n.toNat).map f)) → Qd D H2) :
    ∃ n' : Int, [V.int n] = [.int n'] ∧ -(2 ^ 62) ≤ n' ∧ n' < 2 ^ 62 ∧ ∀ D, H D = none → ∃ W : Nat → Nat → Hp → Prop, (∃ m, W 0 m (upd H D (.lst []))) ∧ ∀ i m H, W i m H →
      ((Itr 0 n'.toNat).stop i H ∧ Qd D H) ∨ ((Itr 0 n'.toNat).go i H ∧ ∃ Nx : Hp → Prop, (∀ H', Nx H' → ∃ m', m' < m ∧ W (i + 1) m' H') ∧ ∀ x H', (Itr 0 n'.toNat).yld i H x H' → gName j x (wipe σ vs) H' fun σ2 H2 => wipe σ2 vs = wipe σ vs ∧ tYes σ2 H2 fun b H3 =>
        if b = true then te σ2 H3 fun y H4 => ∃ acc, H4 D = some (.lst acc) ∧ acc.length < sizeLine ∧ Nx (upd H4 D (.lst (acc ++ [y]))) else Nx H3) := by
  refine ⟨n, rfl, by omega, by omega, fun D hD => ?_⟩
  refine lc_any (walk_range (lo := 0) (n := n.toNat)) gd hD (fun i v _ => v = f i) (fun _ _ _ _ _ h => h) (by omega) (fun _ _ => trivial) (fun i x H1 H' Qn hi fr hy q => ?_) (fun ys H2 fr e2 hl hr => ?_)
  · obtain ⟨rfl, rfl⟩ := hy
    have e : (0 : Int) + (i : Int) = (i : Int) := Int.zero_add _
    refine ⟨hw _, ?_⟩
    show te ((wipe σ vs).set j (some (.int (0 + (i : Int))))) _ Qn
    rw [e]
    exact hs i _ Qn (by omega) fr fun H3 f3 => q _ H3 f3 rfl
  · refine hd D H2 hD fr ?_
    rw [e2, map_of_at (ys := ys) (xs := List.range n.toNat) (f := f) (by rw [hl, List.length_range]) fun i x y h1 h2 => by
      obtain ⟨h3, h4⟩ := List.getElem?_eq_some_iff.mp h1
      rw [List.getElem_range] at h4
      rw [← h4]; exact hr i y h2]
end
theorem addV_range {x y : Vec} (h : x.length = y.length) : ((List.range x.length).map fun i => V.int (x.getD i 0 + y.getD i 0)) = (addV x y).map V.int := by
  apply List.ext_getElem
  · unfold addV
    rw [List.length_map, List.length_range, List.length_map, List.length_zipWith, h, Nat.min_self]
  · intro i h1 h2
    rw [List.length_map, List.length_range] at h1
    have h3 : i < y.length := by rw [← h]; exact h1
    rw [List.getElem_map, List.getElem_map, List.getElem_range]
    unfold addV
    rw [List.getElem_zipWith]
    simp [List.getD, h1, h3]
/-! ## list(d), d keyed by rows -/
theorem keys_dTo {β : Type} {g : β → V} {H : Hp} : ∀ {kvs : List (Vec × β)} {bs : List Addr}, IsKeys H (dTo g kvs) bs → bs.length = kvs.length ∧ ∀ (i : Nat) (b : Addr), bs[i]? = some b → ∃ q, kvs[i]? = some q ∧ H b = some (.tup (q.1.map V.int))
  | [], bs, h => by
    cases h
    exact ⟨rfl, fun i b h => by simp at h⟩
  | p :: kvs, bs, h => by
    cases h with
    | cons h1 h2 =>
      obtain ⟨e, a⟩ := keys_dTo (kvs := kvs) h2
      refine ⟨congrArg Nat.succ e, fun i b hb => ?_⟩
      cases i with
      | zero =>
        refine ⟨p, rfl, ?_⟩
        have e2 := Option.some.inj hb
        rw [← e2, ← kV_kOf]
        exact h1
      | succ i => exact a i b hb
theorem v_listD {β : Type} {g : β → V} {H : Hp} {Q : VK} {d : Addr} {kvs : List (Vec × β)} (h : H d = some (.dT (dTo g kvs))) (q : ∀ (p : Addr) (bs : List Addr) (H' : Hp), H p = none → Same H H' → H' p = some (.lst (bs.map V.ref)) → bs.length = kvs.length →
    (∀ (i : Nat) (b : Addr), bs[i]? = some b → ∃ q, kvs[i]? = some q ∧ H' b = some (.tup (q.1.map V.int))) → Q (.ref p) H') : rListDT [.ref d] H Q :=
  ⟨d, _, rfl, .inl h, fun p bs hp hk => by
    obtain ⟨e, a⟩ := keys_dTo hk
    have e2 := same_new hp (.lst (bs.map V.ref))
    refine q p bs _ hp e2 upd_same e fun i b hb => ?_
    obtain ⟨q, h1, h2⟩ := a i b hb
    exact ⟨q, h1, e2 _ _ h2⟩⟩
theorem v_listS {H : Hp} {Q : VK} {d : Addr} {ks : List Vec} (h : H d = some (.dT (stT ks))) (q : ∀ (p : Addr) (bs : List Addr) (H' : Hp), H p = none → Same H H' → H' p = some (.lst (bs.map V.ref)) → bs.length = ks.length →
    (∀ (i : Nat) (b : Addr), bs[i]? = some b → ∃ k, ks[i]? = some k ∧ H' b = some (.tup (k.map V.int))) → Q (.ref p) H') : rListDT [.ref d] H Q :=
  v_listD h fun p bs H' h1 h2 h3 h4 h5 => q p bs H' h1 h2 h3 (by rw [h4, List.length_map]) fun i b hb => by
    obtain ⟨x, h6, h7⟩ := h5 i b hb
    rw [List.getElem?_map] at h6
    obtain ⟨k, h8, rfl⟩ := Option.map_eq_some_iff.mp h6
    exact ⟨k, h8, h7⟩
end AK

/-! ## ALaid -/
set_option Elab.async false
set_option linter.all false
set_option maxRecDepth 100000
namespace AK
open PySem PySem.Spec PyProof.Rows L2
/-! ## methods of dicts -/
section
variable {X : Cx} {K : PySem.W.Frag} {e : Expr} {es : List Expr} {t : TA} {pos apos cpos : Pos}
theorem bmD {name : Str} {id : String} {r : V → List V → Hp → VK → Prop} {o : Expr} {to : TE} (slot : Slot "dict" name id) (hty : typeOf (.builtin id) = pure (.type "method_descriptor")) (hK : X.K = K) (hm : MtR X id r) (ho : PE X o to) (ha : PA X (e :: es) t)
    (hbase : attributeBase o name X.env (eval o X.env) = eval o X.env := by rfl)
    (hfew : ((backTo cpos (starEach (e :: es) X.env)).all (fun x => !x.1) && (backToKw cpos (keywordEach [] X.env)).all (fun x => x.1.isSome)
      && decide ((e :: es).length + ([] : List Keyword).length + (if ([] : List Keyword).isEmpty then 0 else 1) < 30)) = true := by rfl)
    (hline : (apos.endLine == cpos.line) = true := by rfl) (hs : starEach (e :: es) X.env = (false, eval e X.env) :: starEach es X.env := by rfl) (hplain : (backTo cpos (starEach es X.env)).any (·.1) = false := by rfl) :
    PE X (.Call (.Attribute o name apos) (e :: es) [] cpos) (tBM K "dict" r to t) := hK ▸ pe_bm PySem.F.plainAttrs_dict slot hty hm ho ha hbase hfew hline hs hplain
end
section
variable {σ : L2.St} {H : Hp} {Q : VK} {K : PySem.W.Frag}
theorem tyD {a : Addr} {kvs : List (List Key × V)} (h : H a = some (.dT kvs)) : tyV K "dict" (.ref a) H := .inr (.inr (.inl ⟨rfl, .inr ⟨_, h⟩⟩))
theorem v_updT {d o : Addr} {xs ys : List Vec} (hd : H d = some (.dT (stT xs))) (ho : H o = some (.dT (stT ys))) (hne : d ≠ o) (h0 : xs ≠ []) (hz : xs.length + ys.length ≤ 1000000) (q : Q .non (upd H d (.dT (stT (ys.foldl ins xs))))) : rUpdT (.ref d) [.ref o] H Q :=
  ⟨d, o, _, _, rfl, rfl, hne, hd, ho, stT_nil h0, by rw [stT_len, stT_len]; exact Nat.le_trans hz (by decide), by rw [mergeT_stT]; exact q⟩
def rDisp1 (k v : TE) : TE := tDisp1T k v
theorem v_disp1 {tk tv : TE} (q : ∀ p H', H p = none → Same H H' → H' p = some (.dT []) → tk σ H' fun x H1 => tv σ H1 fun y H2 => ∃ (b : Addr) (k : List Key), x = .ref b ∧ H2 p = some (.dT []) ∧ H2 b = some (.tup (k.map kV)) ∧ Q (.ref p) (upd H2 p (.dT [(k, y)]))) : tDisp1T tk tv σ H Q :=
  v_new (R := fun p H' => tk σ H' fun x H1 => tv σ H1 fun y H2 => ∃ (b : Addr) (k : List Key), x = .ref b ∧ H2 p = some (.dT []) ∧ H2 b = some (.tup (k.map kV)) ∧ Q (.ref p) (upd H2 p (.dT [(k, y)]))) q
end
theorem v_slT1 {H : Hp} {Q : VK} {K : PySem.W.Frag} {a : Addr} {y : V} {ys : List V} (h : H a = some (.tup (y :: ys))) (q : ∀ p H', H p = none → Same H H' → H' p = some (.tup ys) → Q (.ref p) H') : rSlT K (.ref a) (some 1) none H Q := by
  refine ⟨a, _, rfl, SqT.of h, fun z => ?_, ?_⟩
  · have e := HT.sIx_nat (y :: ys).length 0 1
    rw [show ((1 : Nat) : Int) = 1 from rfl] at e
    rw [e, List.length_cons] at z
    omega
  · have e := cut_drop (y :: ys) 1
    rw [show ((1 : Nat) : Int) = 1 from rfl, List.drop_one, List.tail_cons] at e
    rw [e]
    exact v_new q
theorem v_forT {K : PySem.W.Frag} {σ : L2.St} {H : Hp} {D : Ends} {tb : TS} {j : Nat} {a : Addr} {xs : List V} (hx : H a = some (.tup xs)) (Pv : Nat → L2.St → Hp → Prop) (h0 : Pv 0 σ H) (hG : ∀ i σ H', Pv i σ H' → Imm H H')
    (hs : ∀ i x σ H, xs[i]? = some x → Pv i σ H → tb { D with nx := Pv (i + 1), ct := Pv (i + 1), bk := D.nx } (σ.set j (some x)) H) (hd : ∀ σ H, Pv xs.length σ H → D.nx σ H) :
    ∃ a', V.ref a = .ref a' ∧ (∃ xs, SqT K H a' xs) ∧ ∃ W : Nat → Nat → L2.St → Hp → Prop, (∃ m, W 0 m σ H) ∧ ∀ i m σ H, W i m σ H →
      ((Itt K a').stop i H ∧ D.nx σ H) ∨ ((Itt K a').go i H ∧ ∃ N : L2.St → Hp → Prop, (∀ σ' H', N σ' H' → ∃ m', m' < m ∧ W (i + 1) m' σ' H') ∧ ∀ x H', (Itt K a').yld i H x H' → gName j x σ H' fun σ2 H2 => tb { D with nx := N, ct := N, bk := D.nx } σ2 H2) :=
  ⟨a, rfl, ⟨xs, SqT.of hx⟩, for_it (walk_tup (K := K) (a := a) (xs := xs)) (g := gName j) Pv h0 (fun i σ H' _ q => SqT.of (hG i σ H' q _ _ hx)) (fun i x σ H H' hi q hy => by obtain ⟨rfl, hy⟩ := hy; exact hs i x σ _ hy q) hd⟩
/-! ## the ways laid out, as the law reckons them -/
def powL (z : Vec) (P : List Vec) : Nat → List Vec
  | 0 => [z]
  | k + 1 => sumsL (powL z P k) P
def zeroV (n : Nat) : Vec := List.replicate n 0
mutual
def Fm.laid (nms : List Str) : Fm → List Vec
  | .kind nm => [nms.map fun s => if s = nm then 1 else 0]
  | .many m f => powL (zeroV nms.length) (f.laid nms) m.toNat
  | .node w fs => Fm.laidN nms w fs
def Fm.laidN (nms : List Str) (w : Bool) : List Fm → List Vec
  | [] => []
  | f :: fs => Fm.laidR nms w (f.laid nms) fs
def Fm.laidR (nms : List Str) (w : Bool) (acc : List Vec) : List Fm → List Vec
  | [] => acc
  | f :: fs => Fm.laidR nms w (if w = true then sumsL acc (f.laid nms) else (f.laid nms).foldl ins acc) fs
end
mutual
def Fm.rm : Nat → Fm → Prop
  | r, .kind _ => 1 ≤ r
  | r, .many m f => 2 ≤ m ∧ m ≤ r ∧ f.rm (r / m.toNat)
  | r, .node _ fs => fs ≠ [] ∧ Fm.rmL r fs
def Fm.rmL : Nat → List Fm → Prop
  | _, [] => True
  | r, f :: fs => f.rm r ∧ Fm.rmL r fs
end
theorem Fm.laidR_app (nms : List Str) (w : Bool) : ∀ (as bs : List Fm) (acc : List Vec), Fm.laidR nms w acc (as ++ bs) = Fm.laidR nms w (Fm.laidR nms w acc as) bs
  | [], bs, acc => by rw [List.nil_append, Fm.laidR]
  | f :: fs, bs, acc => by rw [List.cons_append, Fm.laidR, Fm.laidR, Fm.laidR_app]
theorem Fm.laidR_snoc (nms : List Str) (w : Bool) (fs : List Fm) (f : Fm) (acc : List Vec) : Fm.laidR nms w acc (fs ++ [f]) = (if w = true then sumsL (Fm.laidR nms w acc fs) (f.laid nms) else (f.laid nms).foldl ins (Fm.laidR nms w acc fs)) := by
  rw [Fm.laidR_app, Fm.laidR, Fm.laidR]
/-! lengths of rows -/
theorem addV_len {x y : Vec} {n : Nat} (hx : x.length = n) (hy : y.length = n) : (addV x y).length = n := by
  unfold addV
  rw [List.length_zipWith, hx, hy, Nat.min_self]
theorem sumsL_rows {xs ys : List Vec} {n : Nat} (hx : ∀ x ∈ xs, x.length = n) (hy : ∀ x ∈ ys, x.length = n) : ∀ x ∈ sumsL xs ys, x.length = n := fun z hz => by
  obtain ⟨x, h1, y, h2, rfl⟩ := mem_sumsL.mp hz
  exact addV_len (hx x h1) (hy y h2)
theorem insL_rows {xs ys : List Vec} {n : Nat} (hx : ∀ x ∈ xs, x.length = n) (hy : ∀ x ∈ ys, x.length = n) : ∀ x ∈ ys.foldl ins xs, x.length = n := fun z hz => by
  rcases mem_insL.mp hz with h | h
  · exact hx z h
  · exact hy z h
theorem zeroV_len (n : Nat) : (zeroV n).length = n := List.length_replicate
theorem powL_rows {z : Vec} {P : List Vec} {n : Nat} (hz : z.length = n) (hP : ∀ x ∈ P, x.length = n) : ∀ k, ∀ x ∈ powL z P k, x.length = n
  | 0, x, h => by rw [powL] at h; rw [List.mem_singleton.mp h]; exact hz
  | k + 1, x, h => sumsL_rows (powL_rows hz hP k) hP x h
mutual
theorem Fm.laid_rows (nms : List Str) : ∀ (f : Fm), ∀ x ∈ f.laid nms, x.length = nms.length
  | .kind nm, x, h => by
    rw [Fm.laid] at h
    rw [List.mem_singleton.mp h, List.length_map]
  | .many m f, x, h => by
    rw [Fm.laid] at h
    exact powL_rows (zeroV_len _) (Fm.laid_rows nms f) _ x h
  | .node w fs, x, h => by
    rw [Fm.laid] at h
    exact Fm.laidN_rows nms w fs x h
theorem Fm.laidN_rows (nms : List Str) (w : Bool) : ∀ (fs : List Fm), ∀ x ∈ Fm.laidN nms w fs, x.length = nms.length
  | [], x, h => by rw [Fm.laidN] at h; cases h
  | f :: fs, x, h => by
    rw [Fm.laidN] at h
    exact Fm.laidR_rows nms w fs _ (Fm.laid_rows nms f) x h
theorem Fm.laidR_rows (nms : List Str) (w : Bool) : ∀ (fs : List Fm) (acc : List Vec), (∀ x ∈ acc, x.length = nms.length) → ∀ x ∈ Fm.laidR nms w acc fs, x.length = nms.length
  | [], acc, ha, x, h => by rw [Fm.laidR] at h; exact ha x h
  | f :: fs, acc, ha, x, h => by
    rw [Fm.laidR] at h
    refine Fm.laidR_rows nms w fs _ (fun y hy => ?_) x h
    cases w with
    | true => exact sumsL_rows ha (Fm.laid_rows nms f) y hy
    | false => exact insL_rows ha (Fm.laid_rows nms f) y hy
end
/-! how many -/
theorem ne_sumsL {xs ys : List Vec} (hx : xs ≠ []) (hy : ys ≠ []) : sumsL xs ys ≠ [] := by
  obtain ⟨x, r, rfl⟩ := List.exists_cons_of_ne_nil hx
  obtain ⟨y, r', rfl⟩ := List.exists_cons_of_ne_nil hy
  exact List.ne_nil_of_mem (mem_sumsL.mpr ⟨x, .head _, y, .head _, rfl⟩)
theorem ne_insL {xs : List Vec} (ys : List Vec) (hx : xs ≠ []) : ys.foldl ins xs ≠ [] := by
  obtain ⟨x, r, rfl⟩ := List.exists_cons_of_ne_nil hx
  exact List.ne_nil_of_mem (mem_insL.mpr (.inl (.head _)))
theorem ne_powL {z : Vec} {P : List Vec} (hP : P ≠ []) : ∀ k, powL z P k ≠ []
  | 0 => by rw [powL]; exact List.cons_ne_nil _ _
  | k + 1 => ne_sumsL (ne_powL hP k) hP
mutual
theorem Fm.laid_ne (nms : List Str) : ∀ {r : Nat} (f : Fm), f.rm r → f.laid nms ≠ []
  | r, .kind nm, _ => by rw [Fm.laid]; exact List.cons_ne_nil _ _
  | r, .many m f, h => by
    rw [Fm.rm] at h
    rw [Fm.laid]
    exact ne_powL (Fm.laid_ne nms f h.2.2) _
  | r, .node w fs, h => by
    rw [Fm.rm] at h
    rw [Fm.laid]
    exact Fm.laidN_ne nms w fs h.1 h.2
theorem Fm.laidN_ne (nms : List Str) (w : Bool) : ∀ {r : Nat} (fs : List Fm), fs ≠ [] → Fm.rmL r fs → Fm.laidN nms w fs ≠ []
  | r, [], h, _ => absurd rfl h
  | r, f :: fs, _, h => by
    rw [Fm.rmL] at h
    rw [Fm.laidN]
    exact Fm.laidR_ne nms w fs _ (Fm.laid_ne nms f h.1) h.2
theorem Fm.laidR_ne (nms : List Str) (w : Bool) : ∀ {r : Nat} (fs : List Fm) (acc : List Vec), acc ≠ [] → Fm.rmL r fs → Fm.laidR nms w acc fs ≠ []
  | r, [], acc, h, _ => by rw [Fm.laidR]; exact h
  | r, f :: fs, acc, ha, h => by
    rw [Fm.rmL] at h
    rw [Fm.laidR]
    refine Fm.laidR_ne nms w fs _ ?_ h.2
    cases w with
    | true => exact ne_sumsL ha (Fm.laid_ne nms f h.1)
    | false => exact ne_insL _ ha
end
mutual
theorem Fm.names_pos : ∀ {r : Nat} (f : Fm), f.rm r → 1 ≤ f.names.length ∧ 1 ≤ r
  | r, .kind nm, h => by rw [Fm.rm] at h; exact ⟨Nat.le_refl 1, h⟩
  | r, .many m f, h => by
    rw [Fm.rm] at h
    obtain ⟨h1, h2, h3⟩ := h
    rw [Fm.names]
    exact ⟨(Fm.names_pos f h3).1, by omega⟩
  | r, .node w fs, h => by
    rw [Fm.rm] at h
    rw [Fm.names]
    exact Fm.namesL_pos fs h.1 h.2
theorem Fm.namesL_pos : ∀ {r : Nat} (fs : List Fm), fs ≠ [] → Fm.rmL r fs → 1 ≤ (Fm.namesL fs).length ∧ 1 ≤ r
  | r, [], h, _ => absurd rfl h
  | r, f :: fs, _, h => by
    rw [Fm.rmL] at h
    rw [Fm.namesL, List.length_append]
    have := Fm.names_pos f h.1
    omega
end
theorem two_pow_add {a b : Nat} (ha : 1 ≤ a) (hb : 1 ≤ b) : 2 ^ a + 2 ^ b ≤ 2 ^ (a + b) := by
  rw [Nat.pow_add]
  have h1 : 2 ≤ 2 ^ a := Nat.le_trans (Nat.le_refl 2) (Nat.pow_le_pow_right (n := 2) (by decide) ha)
  have h2 : 2 ≤ 2 ^ b := Nat.le_trans (Nat.le_refl 2) (Nat.pow_le_pow_right (n := 2) (by decide) hb)
  generalize 2 ^ a = A at h1
  generalize 2 ^ b = B at h2
  obtain ⟨A', rfl⟩ : ∃ A', A = A' + 2 := ⟨A - 2, by omega⟩
  obtain ⟨B', rfl⟩ : ∃ B', B = B' + 2 := ⟨B - 2, by omega⟩
  rw [Nat.add_mul, Nat.mul_add]
  have : 0 ≤ A' * B' := Nat.zero_le _
  omega
theorem powL_len {z : Vec} {P : List Vec} {c : Nat} (hP : P.length ≤ 2 ^ c) : ∀ k, (powL z P k).length ≤ 2 ^ (c * k)
  | 0 => by rw [powL]; simp
  | k + 1 => by
    rw [powL]
    refine Nat.le_trans (sumsL_len _ _) ?_
    rw [Nat.mul_succ, Nat.pow_add]
    exact Nat.mul_le_mul (powL_len hP k) hP
mutual
theorem Fm.laid_len (nms : List Str) : ∀ {r : Nat} (f : Fm), f.rm r → (f.laid nms).length ≤ 2 ^ (f.names.length * r)
  | r, .kind nm, _ => by rw [Fm.laid]; exact Nat.one_le_two_pow
  | r, .many m f, h => by
    rw [Fm.rm] at h
    rw [Fm.laid, Fm.names]
    refine Nat.le_trans (powL_len (Fm.laid_len nms f h.2.2) _) (Nat.pow_le_pow_right (by decide) ?_)
    rw [Nat.mul_assoc]
    exact Nat.mul_le_mul_left _ (Nat.div_mul_le_self _ _)
  | r, .node w fs, h => by
    rw [Fm.rm] at h
    rw [Fm.laid, Fm.names]
    exact Fm.laidN_len nms w fs h.1 h.2
theorem Fm.laidN_len (nms : List Str) (w : Bool) : ∀ {r : Nat} (fs : List Fm), fs ≠ [] → Fm.rmL r fs → (Fm.laidN nms w fs).length ≤ 2 ^ ((Fm.namesL fs).length * r)
  | r, [], h, _ => absurd rfl h
  | r, f :: fs, _, h => by
    rw [Fm.rmL] at h
    rw [Fm.laidN, Fm.namesL, List.length_append]
    exact Fm.laidR_len nms w fs _ _ (Fm.laid_len nms f h.1) (Fm.names_pos f h.1) h.2
theorem Fm.laidR_len (nms : List Str) (w : Bool) : ∀ {r : Nat} (fs : List Fm) (acc : List Vec) (k : Nat), acc.length ≤ 2 ^ (k * r) → (1 ≤ k ∧ 1 ≤ r) → Fm.rmL r fs → (Fm.laidR nms w acc fs).length ≤ 2 ^ ((k + (Fm.namesL fs).length) * r)
  | r, [], acc, k, h, _, _ => by rw [Fm.laidR]; exact h
  | r, f :: fs, acc, k, ha, hk, h => by
    rw [Fm.rmL] at h
    rw [Fm.laidR, Fm.namesL, List.length_append, ← Nat.add_assoc]
    have h1 := Fm.laid_len nms f h.1
    have h2 := Fm.names_pos f h.1
    refine Fm.laidR_len nms w fs _ _ ?_ ⟨by omega, hk.2⟩ h.2
    rw [Nat.add_mul]
    cases w with
    | true =>
      refine Nat.le_trans (sumsL_len _ _) ?_
      rw [Nat.pow_add]
      exact Nat.mul_le_mul ha h1
    | false =>
      refine Nat.le_trans (insL_len _ _) (Nat.le_trans (Nat.add_le_add ha h1) (two_pow_add (Nat.mul_pos hk.1 hk.2) (Nat.mul_pos h2.1 h2.2)))
end
theorem Fm.rmL_at : ∀ {r : Nat} {fs : List Fm} {f : Fm}, Fm.rmL r fs → f ∈ fs → f.rm r
  | r, [], f, _, h => by cases h
  | r, g :: fs, f, h, m => by
    rw [Fm.rmL] at h
    rcases List.mem_cons.mp m with rfl | m
    · exact h.1
    · exact Fm.rmL_at h.2 m
theorem Fm.rmL_of : ∀ {r : Nat} {fs : List Fm}, (∀ f ∈ fs, f.rm r) → Fm.rmL r fs
  | r, [], _ => by rw [Fm.rmL]; trivial
  | r, g :: fs, h => by
    rw [Fm.rmL]
    exact ⟨h g (.head _), Fm.rmL_of fun f hf => h f (.tail _ hf)⟩
end AK

/-! ## AKnown -/
set_option Elab.async false
set_option linter.all false
set_option maxRecDepth 100000
namespace AK
open PySem PySem.Spec PyProof.Rows L2
/-! ## the sums of so many ways, each with its number -/
def knownL (z : Vec) (W : List Vec) : Nat → List (Vec × Int)
  | 0 => [(z, 0)]
  | k + 1 => knownL z W k ++ (powL z W (k + 1)).map fun x => (x, ((k + 1 : Nat) : Int))
theorem mem_knownL {z : Vec} {W : List Vec} {x : Vec} {j : Int} : ∀ {k : Nat}, (x, j) ∈ knownL z W k ↔ ∃ i : Nat, i ≤ k ∧ j = (i : Int) ∧ x ∈ powL z W i
  | 0 => by
    rw [knownL, List.mem_singleton]
    constructor
    · intro h
      injection h with h1 h2
      exact ⟨0, Nat.le_refl _, by rw [h2]; rfl, by rw [powL, h1]; exact .head _⟩
    · rintro ⟨i, h1, h2, h3⟩
      obtain rfl : i = 0 := by omega
      rw [powL, List.mem_singleton] at h3
      rw [h2, h3]; rfl
  | k + 1 => by
    rw [knownL, List.mem_append, mem_knownL (k := k)]
    constructor
    · rintro (⟨i, h1, h2, h3⟩ | h)
      · exact ⟨i, by omega, h2, h3⟩
      · obtain ⟨y, h1, h2⟩ := List.mem_map.mp h
        injection h2 with h2 h3
        exact ⟨k + 1, Nat.le_refl _, h3.symm, by rw [← h2]; exact h1⟩
    · rintro ⟨i, h1, h2, h3⟩
      by_cases e : i = k + 1
      · subst e
        exact .inr (List.mem_map.mpr ⟨x, h3, by rw [h2]⟩)
      · exact .inl ⟨i, by omega, h2, h3⟩
theorem ins_nodup {ks : List Vec} {k : Vec} (h : ks.Nodup) : (ins ks k).Nodup := by
  unfold ins
  split
  · exact h
  · rename_i hk
    exact List.nodup_append.mpr ⟨h, by simp, fun a ha b hb e => hk (by rw [List.mem_singleton.mp hb] at e; rw [← e]; exact ha)⟩
theorem insL_nodup : ∀ {ys ks : List Vec}, ks.Nodup → (ys.foldl ins ks).Nodup
  | [], _, h => h
  | y :: ys, ks, h => by
    rw [List.foldl_cons]
    exact insL_nodup (ins_nodup h)
theorem sumsL_nodup (xs ys : List Vec) : (sumsL xs ys).Nodup := insL_nodup List.nodup_nil
theorem powL_nodup (z : Vec) (W : List Vec) : ∀ k, (powL z W k).Nodup
  | 0 => by rw [powL]; simp
  | k + 1 => sumsL_nodup _ _
/-- x is the sum of so many ways for one number alone -/
def Uniq (z : Vec) (W : List Vec) : Prop := ∀ x i j, x ∈ powL z W i → x ∈ powL z W j → i = j
theorem known_new {z : Vec} {W : List Vec} (U : Uniq z W) {k j : Nat} {x : Vec} (hx : (powL z W (k + 1))[j]? = some x) :
    lookI (knownL z W k ++ ((powL z W (k + 1)).take j).map fun x => (x, ((k + 1 : Nat) : Int))) x = none := by
  cases e : lookI (knownL z W k ++ ((powL z W (k + 1)).take j).map fun x => (x, ((k + 1 : Nat) : Int))) x with
  | none => rfl
  | some b =>
    exfalso
    have hm := List.mem_of_getElem? hx
    rcases List.mem_append.mp (lookI_some e) with h | h
    · obtain ⟨i, h1, _, h3⟩ := mem_knownL.mp h
      have := U x i (k + 1) h3 hm
      omega
    · obtain ⟨y, h1, h2⟩ := List.mem_map.mp h
      injection h2 with h2 _
      subst h2
      obtain ⟨i, hi, hi2⟩ := List.mem_take_iff_getElem.mp h1
      have hj := List.getElem?_eq_some_iff.mp hx
      obtain ⟨hj1, hj2⟩ := hj
      have := (List.getElem_inj (powL_nodup z W (k + 1))).mp (hi2.trans hj2.symm)
      omega
theorem lookI_known {z : Vec} {W : List Vec} (U : Uniq z W) {k : Nat} {x : Vec} {j : Nat} (hj : j ≤ k) (hx : x ∈ powL z W j) : lookI (knownL z W k) x = some (j : Int) := by
  cases e : lookI (knownL z W k) x with
  | none => exact absurd (mem_knownL.mpr ⟨j, hj, rfl, hx⟩) (lookI_none e _)
  | some b =>
    obtain ⟨i, _, h2, h3⟩ := mem_knownL.mp (lookI_some e)
    rw [h2, U x i j h3 hx]
theorem v_listK {z : Vec} {W : List Vec} (k : Nat) : (knownL z W k).length = ((List.range (k + 1)).map fun j => (powL z W j).length).sum := by
  induction k with
  | zero => rfl
  | succ k ih =>
    rw [knownL, List.length_append, List.length_map, ih, List.range_succ (n := k + 1), List.map_append, List.sum_append]
    simp
/-! range from 1 on -/
theorem v_irng2 {σ : L2.St} {H : Hp} {ta : TA} {R : It → Hp → Prop} (q : ta σ H fun vs H1 => ∃ i j : Int, vs = [.int i, .int j] ∧ (-(2 ^ 62) ≤ i ∧ i < 2 ^ 62 ∧ -(2 ^ 62) ≤ j ∧ j < 2 ^ 62) ∧ R (Itr i (j - i).toNat) H1) : iRng2 ta σ H R := q
theorem v_forR2 {σ : L2.St} {H : Hp} {D : Ends} {tb : TS} {j : Nat} {lo hi : Int} (h1 : -1000000 ≤ lo) (h2 : lo ≤ hi) (h3 : hi ≤ 1000000) (Pv : Nat → L2.St → Hp → Prop) (h0 : Pv 0 σ H)
    (hs : ∀ (i : Nat) σ H, lo + (i : Int) < hi → Pv i σ H → tb { D with nx := Pv (i + 1), ct := Pv (i + 1), bk := D.nx } (σ.set j (some (.int (lo + (i : Int))))) H) (hd : ∀ σ H, Pv (hi - lo).toNat σ H → D.nx σ H) :
    ∃ i' j' : Int, [V.int lo, V.int hi] = [.int i', .int j'] ∧ (-(2 ^ 62) ≤ i' ∧ i' < 2 ^ 62 ∧ -(2 ^ 62) ≤ j' ∧ j' < 2 ^ 62) ∧ ∃ W : Nat → Nat → L2.St → Hp → Prop, (∃ m, W 0 m σ H) ∧ ∀ i m σ H, W i m σ H →
      ((Itr i' (j' - i').toNat).stop i H ∧ D.nx σ H) ∨ ((Itr i' (j' - i').toNat).go i H ∧ ∃ N : L2.St → Hp → Prop, (∀ σ' H', N σ' H' → ∃ m', m' < m ∧ W (i + 1) m' σ' H') ∧ ∀ x H', (Itr i' (j' - i').toNat).yld i H x H' → gName j x σ H' fun σ2 H2 => tb { D with nx := N, ct := N, bk := D.nx } σ2 H2) :=
  ⟨lo, hi, rfl, ⟨by omega, by omega, by omega, by omega⟩, for_it (walk_range (lo := lo) (n := (hi - lo).toNat)) (g := gName j) Pv h0 (fun _ _ _ _ _ => trivial) (fun i x σ H H' hi' q hy => by
    obtain ⟨rfl, rfl⟩ := hy
    exact hs i σ _ (by omega) q) hd⟩
theorem v_par3 {D : Ends} {σ : L2.St} {H : Hp} {i j l : Nat} {ta : TA} (q : ta σ H fun vs H1 => ∃ u v w, vs = [u, v, w] ∧ D.nx (((σ.set i (some u)).set j (some v)).set l (some w)) H1) : tPar3 i j l ta D σ H := q
theorem v_par33 {D : Ends} {σ : L2.St} {H : Hp} {i j l : Nat} {u v w : V} (q : D.nx (((σ.set i (some u)).set j (some v)).set l (some w)) H) : ∃ u' v' w', [u, v, w] = [u', v', w'] ∧ D.nx (((σ.set i (some u')).set j (some v')).set l (some w')) H := ⟨u, v, w, rfl, q⟩
theorem ixN_of {n : Nat} {k : Int} (h0 : 0 ≤ k) (h : k.toNat < n) : ixN n k = some k.toNat := by
  unfold ixN
  rw [if_pos h0, if_pos (by omega)]
end AK

/-! ## ANames -/
set_option Elab.async false
set_option linter.all false
set_option maxRecDepth 100000
namespace AK
open PySem PySem.Spec PyProof.Rows L2
/-! ## texts -/
def rAddSt : R2 := fun x y H Q => ∃ i j, x = .str i ∧ y = .str j ∧ i.length + j.length ≤ sizeLine ∧ Q (.str (i ++ j)) H
theorem op_addSt {X : Cx} : OpR X (binaryOp .Add) rAddSt := op_add_str
section
variable {H : Hp} {Q : VK} {K : PySem.W.Frag} {σ : L2.St}
theorem v_addSt {a b : Str} (h : a.length + b.length ≤ 1000000) (q : Q (.str (a ++ b)) H) : rAddSt (.str a) (.str b) H Q := ⟨a, b, rfl, rfl, Nat.le_trans h (by decide), q⟩
theorem v_ixStr {z : Str} {i : Int} {c : Nat} (h : z.length ≤ 1000000) (h0 : 0 ≤ i) (e : z.cps.toList[i.toNat]? = some c) (q : Q (.str ⟨#[c]⟩) H) : rIxS (.str z) (.int i) H Q := ⟨z, i, c, rfl, rfl, Nat.le_trans h (by decide), atI_int h0 e, q⟩
theorem inV_str (z : Str) : ∀ ns : List Str, inV (.str z) (ns.map V.str) = decide (z ∈ ns)
  | [] => rfl
  | n :: r => by
    have ih := inV_str z r
    unfold inV at ih ⊢
    rw [List.map_cons, List.any_cons, ih]
    show (n == z || decide (z ∈ r)) = decide (z ∈ n :: r)
    by_cases h : n = z
    · rw [h, beq_self_eq_true, Bool.true_or]
      exact (decide_eq_true (List.mem_cons_self (a := z) (l := r))).symm
    · rw [beq_eq_false_iff_ne.mpr h, Bool.false_or]
      exact decide_eq_decide.mpr ⟨fun q => .tail _ q, fun q => by rcases List.mem_cons.mp q with e | e; exact absurd e.symm h; exact e⟩
theorem flat_strs (ns : List Str) : (ns.map V.str).all flatV = true := List.all_eq_true.mpr fun x hx => by
  obtain ⟨s, _, rfl⟩ := List.mem_map.mp hx; rfl
theorem v_inS {a : Addr} {z : Str} {ns : List Str} (h : H a = some (.lst (ns.map V.str))) (q : Q (.bl (decide (z ∈ ns))) H) : rIn K false (.str z) (.ref a) H Q :=
  ⟨a, _, rfl, .inl (SqL.of h), rfl, flat_strs ns, by rw [if_neg Bool.false_ne_true, inV_str]; exact q⟩
theorem v_m1 {r : V → List V → Hp → VK → Prop} {z : Str} {te : TE} (q : te σ H fun y H2 => r (.str z) [y] H2 Q) : tM1 r (tC (.str z)) te σ H Q := ⟨⟨z, rfl⟩, q⟩
theorem cutS_len (z : Str) (k : Nat) : (cutS z none (some (k : Int))).length ≤ k := by
  show (List.toArray _).size ≤ _
  rw [List.size_toArray, List.length_take, HT.sIx_none, HT.sIx_nat]
  omega
/-- ''.join of one-letter texts -/
theorem v_join1 {p : Addr} {ys : List Str} (h : H p = some (.lst (ys.map V.str))) (h1 : ∀ y ∈ ys, y.length = 1) (hl : ys.length ≤ 1000) (q : ∀ z : Str, z.length = ys.length → Q (.str z) H) : rJoin K (.str "") [.ref p] H Q := by
  refine ⟨"", p, ys, rfl, rfl, .inl (SqL.of h), ?_, q _ (PySem.W.KT.join_ones ys h1)⟩
  have e : ys.map (·.length) = List.replicate ys.length 1 := List.eq_replicate_iff.mpr ⟨List.length_map _, fun b hb => by obtain ⟨y, hy, rfl⟩ := List.mem_map.mp hb; exact h1 y hy⟩
  rw [e, List.sum_replicate_nat, show Str.length "" = 0 from rfl]
  omega
end
theorem str_last {a b c d : Str} (h : a ++ b = c ++ d) (h1 : b.length = 1) (h2 : d.length = 1) : b = d := by
  have e : a.cps.toList ++ b.cps.toList = c.cps.toList ++ d.cps.toList := by
    have := congrArg (fun s : Str => s.cps.toList) h
    rwa [show (a ++ b).cps.toList = a.cps.toList ++ b.cps.toList from Array.toList_append, show (c ++ d).cps.toList = c.cps.toList ++ d.cps.toList from Array.toList_append] at this
  have hl : b.cps.toList.length = d.cps.toList.length := by
    rw [Array.length_toList, Array.length_toList]; exact h1.trans h2.symm
  have := (List.append_inj' e hl).2
  have q := Array.toList_inj.mp this
  cases b; cases d; cases q; rfl
theorem nodup_sub {α : Type} [DecidableEq α] : ∀ {S l : List α}, S.Nodup → (∀ x ∈ S, x ∈ l) → S.length ≤ l.length
  | [], l, _, _ => Nat.zero_le _
  | x :: S, l, h, q => by
    obtain ⟨h1, h2⟩ := List.nodup_cons.mp h
    have hx := q x (.head _)
    have ih := nodup_sub (S := S) (l := l.erase x) h2 fun y hy => (List.mem_erase_of_ne (fun z => h1 (by rw [← z]; exact hy))).mpr (q y (.tail _ hy))
    rw [List.length_erase_of_mem hx] at ih
    have := List.length_pos_of_mem hx
    rw [List.length_cons]
    omega
section
variable {K : PySem.W.Frag} {σ : L2.St} {H : Hp} {te : TE} {vs : List Nat} {j : Nat} {Qd : Addr → Hp → Prop}
/-- over a range, each item told by a word -/
theorem v_lcRgR (r : Rg) (gd : Good r H) {n : Int} (hn0 : 0 ≤ n) (hn : n ≤ 1000000) (R : Nat → V → Prop)
    (hw : ∀ x, wipe ((wipe σ vs).set j (some x)) vs = wipe σ vs)
    (hs : ∀ (i : Nat) H2 (Qn : VK), (i : Int) < n → Fr r H H2 → (∀ y H3, Fr r H2 H3 → R i y → Qn y H3) → te ((wipe σ vs).set j (some (.int (i : Int)))) H2 Qn)
    (hd : ∀ D ys H2, H D = none → Fr r H H2 → H2 D = some (.lst ys) → ys.length = n.toNat → (∀ i y, ys[i]? = some y → R i y) → Qd D H2) :
    ∃ n' : Int, [V.int n] = [.int n'] ∧ -(2 ^ 62) ≤ n' ∧ n' < 2 ^ 62 ∧ ∀ D, H D = none → ∃ W : Nat → Nat → Hp → Prop, (∃ m, W 0 m (upd H D (.lst []))) ∧ ∀ i m H, W i m H →
      ((Itr 0 n'.toNat).stop i H ∧ Qd D H) ∨ ((Itr 0 n'.toNat).go i H ∧ ∃ Nx : Hp → Prop, (∀ H', Nx H' → ∃ m', m' < m ∧ W (i + 1) m' H') ∧ ∀ x H', (Itr 0 n'.toNat).yld i H x H' → gName j x (wipe σ vs) H' fun σ2 H2 => wipe σ2 vs = wipe σ vs ∧ tYes σ2 H2 fun b H3 =>
        if b = true then te σ2 H3 fun y H4 => ∃ acc, H4 D = some (.lst acc) ∧ acc.length < sizeLine ∧ Nx (upd H4 D (.lst (acc ++ [y]))) else Nx H3) := by
  refine ⟨n, rfl, by omega, by omega, fun D hD => ?_⟩
  refine lc_any (walk_range (lo := 0) (n := n.toNat)) gd hD (fun i v _ => R i v) (fun _ _ _ _ _ h => h) (by omega) (fun _ _ => trivial) (fun i x H1 H' Qn hi fr hy q => ?_) (fun ys H2 fr e2 hl hr => hd D ys H2 hD fr e2 hl hr)
  obtain ⟨rfl, rfl⟩ := hy
  have e : (0 : Int) + (i : Int) = (i : Int) := Int.zero_add _
  refine ⟨hw _, ?_⟩
  show te ((wipe σ vs).set j (some (.int (0 + (i : Int))))) _ Qn
  rw [e]
  exact hs i _ Qn (by omega) fr fun y H3 f3 ry => q y H3 f3 ry
end
theorem strs_of {ys : List V} (h : ∀ (i : Nat) (y : V), ys[i]? = some y → ∃ z : Str, y = .str z ∧ z.length = 1) : ∃ zs : List Str, ys = zs.map V.str ∧ ∀ z ∈ zs, z.length = 1 := by
  induction ys with
  | nil => exact ⟨[], rfl, fun z hz => by cases hz⟩
  | cons y r ih =>
    obtain ⟨z, e, hz⟩ := h 0 y rfl
    obtain ⟨zs, e2, h2⟩ := ih fun i y hy => h (i + 1) y hy
    exact ⟨z :: zs, by rw [List.map_cons, e, e2], fun x hx => by rcases List.mem_cons.mp hx with rfl | hx; exact hz; exact h2 x hx⟩
def abc : Str := "abcdefghijklmnopqrstuvwxyz"
def letter (k : Nat) : Str := ⟨#[97 + k]⟩
theorem abc_at {k : Nat} (h : k < 26) : abc.cps.toList[k]? = some (97 + k) := by
  have : ∀ k : Fin 26, abc.cps.toList[(k : Nat)]? = some (97 + (k : Nat)) := by decide +kernel
  exact this ⟨k, h⟩
theorem abc_len : abc.length = 26 := by decide +kernel
theorem abc_le : Str.length abc ≤ 1000000 := by rw [abc_len]; decide
theorem letter_len (k : Nat) : (letter k).length = 1 := rfl
theorem letter_inj {i j : Nat} (h : letter i = letter j) : i = j := by
  have := congrArg (fun s : Str => s.cps.toList) h
  injection this with h1 _
  omega
/-! a tuple taken apart -/
theorem v_gT2 {K : PySem.W.Frag} {σ : L2.St} {H : Hp} {t u : TG} {p : Addr} {x y : V} {Q : L2.St → Hp → Prop} (h : H p = some (.tup [x, y])) (q : t x σ H fun σ1 H1 => u y σ1 H1 Q) : gTup K 2 (gCons t (gCons u gNil)) (.ref p) σ H Q :=
  ⟨p, _, rfl, SqT.of h, rfl, x, [y], rfl, by
    show t x σ H fun σ' H' => ∃ v r, [y] = v :: r ∧ u v σ' H' fun σ'' H'' => r = [] ∧ Q σ'' H''
    have e : (fun σ' H' => ∃ v r, [y] = v :: r ∧ u v σ' H' fun σ'' H'' => r = [] ∧ Q σ'' H'') = fun σ1 H1 => u y σ1 H1 Q := by
      funext σ' H'
      apply propext
      constructor
      · rintro ⟨v, r, e, q⟩
        injection e with e1 e2
        subst e1 e2
        simpa using q
      · intro q
        exact ⟨y, [], rfl, by simpa using q⟩
    rw [e]; exact q⟩
theorem v_gT3 {K : PySem.W.Frag} {σ : L2.St} {H : Hp} {t u s : TG} {p : Addr} {x y z : V} {Q : L2.St → Hp → Prop} (h : H p = some (.tup [x, y, z])) (q : t x σ H fun σ1 H1 => u y σ1 H1 fun σ2 H2 => s z σ2 H2 Q) : gTup K 3 (gCons t (gCons u (gCons s gNil))) (.ref p) σ H Q :=
  ⟨p, _, rfl, SqT.of h, rfl, x, [y, z], rfl, by
    show t x σ H fun σ' H' => ∃ v r, [y, z] = v :: r ∧ u v σ' H' fun σ2 H2 => ∃ v' r', r = v' :: r' ∧ s v' σ2 H2 fun σ3 H3 => r' = [] ∧ Q σ3 H3
    have e : (fun σ' H' => ∃ v r, [y, z] = v :: r ∧ u v σ' H' fun σ2 H2 => ∃ v' r', r = v' :: r' ∧ s v' σ2 H2 fun σ3 H3 => r' = [] ∧ Q σ3 H3) = fun σ1 H1 => u y σ1 H1 fun σ2 H2 => s z σ2 H2 Q := by
      funext σ' H'
      have e2 : (fun σ2 H2 => ∃ v' r', [z] = v' :: r' ∧ s v' σ2 H2 fun σ3 H3 => r' = [] ∧ Q σ3 H3) = fun σ2 H2 => s z σ2 H2 Q := by
        funext σ2 H2
        apply propext
        constructor
        · rintro ⟨v, r, e, q⟩
          injection e with e1 e2
          subst e1 e2
          simpa using q
        · intro q
          exact ⟨z, [], rfl, by simpa using q⟩
      apply propext
      constructor
      · rintro ⟨v, r, e, q⟩
        injection e with e1 e3
        subst e1 e3
        rw [e2] at q; exact q
      · intro q
        exact ⟨y, [z], rfl, by rw [e2]; exact q⟩
    rw [e]; exact q⟩
theorem v_gname {σ : L2.St} {H : Hp} {i : Nat} {v : V} {Q : L2.St → Hp → Prop} (q : Q (σ.set i (some v)) H) : gName i v σ H Q := q
end AK

/-! ## ASort -/
set_option Elab.async false
set_option linter.all false
set_option maxRecDepth 100000
namespace AK
open PySem PySem.Spec PyProof.Rows L2
/-! ## sorted of a list of rows of whole numbers: the same tuples in some order -/
def sh0 : Nat → Bool := fun _ => false
theorem tupItems_ints : ∀ (ns : List Int) (us : List Value) (i : Nat), Vals (ns.map V.int) us → tupItems sh0 i us = some (ns.map Sum.inl)
  | [], us, i, h => by cases h; rfl
  | n :: ns, us, i, h => by
    rw [List.map_cons] at h
    cases h with
    | cons h1 h2 =>
      obtain ⟨t, rfl⟩ := h1
      have ih := tupItems_ints ns _ (i + 1) h2
      show (if sh0 i = true then none else (tupItems sh0 (i + 1) _).map (Sum.inl n :: ·)) = _
      rw [if_neg (show ¬ sh0 i = true from Bool.false_ne_true), ih]
      rfl
theorem refs_of : ∀ {ts : List Addr} {us : List Value}, Vals (ts.map V.ref) us → us = ts.map Value.ref
  | [], us, r => by
    rw [List.map_nil] at r
    cases r
    rfl
  | t :: ts, us, r => by
    rw [List.map_cons] at r
    cases r with
    | cons h q =>
      cases h
      rw [List.map_cons, ← refs_of q]
theorem to_refs : ∀ ts : List Addr, Vals (ts.map V.ref) (ts.map Value.ref)
  | [] => .nil
  | _ :: ts => .cons rfl (to_refs ts)
def rSortVec (K : PySem.W.Frag) : List V → Hp → VK → Prop := fun vs H Q => ∃ (a : Addr) (ts : List Addr), vs = [.ref a] ∧ SqL K H a (ts.map V.ref) ∧ (∀ t ∈ ts, ∃ ns : Vec, ns ≠ [] ∧ H t = some (.tup (ns.map V.int))) ∧
  ∀ (ts' : List Addr) (p : Addr), ts'.Perm ts → H p = none → Q (.ref p) (upd H p (.lst (ts'.map V.ref)))
theorem tups_of {X : Cx} {pins : List (Addr × Obj)} {σ : L2.St} {H : Hp} {s : Shared} (I : Inv X pins σ H s) : ∀ (ts : List Addr), (∀ t ∈ ts, ∃ ns : Vec, ns ≠ [] ∧ H t = some (.tup (ns.map V.int))) →
    (∃ fs, TupsOf s.heap sh0 (ts.map Value.ref) fs) ∧ ∀ v, v ∈ ts.map Value.ref → ∃ l, G.tupKeyC s.heap sh0 v = some l
  | [], _ => ⟨⟨[], .nil⟩, fun v hv => by cases hv⟩
  | t :: ts, h => by
    obtain ⟨⟨fs, ih1⟩, ih2⟩ := tups_of I ts fun x hx => h x (.tail _ hx)
    obtain ⟨ns, hne, ht⟩ := h t (.head _)
    obtain ⟨_, its, r2, o, ho, hc, n, hd⟩ := I.hok _ _ ht
    obtain ⟨m, ms, rfl⟩ := List.exists_cons_of_ne_nil hne
    have hti := tupItems_ints _ its 0 r2
    rw [List.map_cons] at r2
    cases r2 with
    | @cons _ u _ us h1 h2 =>
      obtain ⟨tk, rfl⟩ := h1
      refine ⟨⟨_, .cons ⟨t, o, _, n, rfl, ho, hc, hd, rfl, fun _ => ⟨m, tk, rfl⟩, fun z => nomatch z⟩ ih1⟩, fun v hv => ?_⟩
      rcases List.mem_cons.mp hv with rfl | hv
      · refine ⟨(m :: ms).map Sum.inl, ?_⟩
        unfold G.tupKeyC
        have e1 : G.isTupObj s.heap (.ref t) = true := by simp [G.isTupObj, ho, hc]
        rw [if_pos e1]
        simp only [tupKey, ho, hd]
        exact hti
      · exact ih2 v hv
theorem cr_sortVec {X : Cx} : CallR X (.builtin "sorted") (rSortVec X.K) := by
  intro pins s σ H vs us Q I r h
  obtain ⟨a, ts, rfl, hs, hx, q⟩ := h
  obtain ⟨its, rv, hl, hz⟩ := I.list hs
  rw [Vals.ref1 r]
  have ei := refs_of rv
  subst ei
  obtain ⟨⟨fs, ht⟩, hk⟩ := tups_of I ts hx
  have hz2 : (ts.map Value.ref).length ≤ sizeLine := by rw [← rv.length]; exact hz
  refine G.sorted_tups hl.isList ht hk hz2 fun st' hp _ _ => ?_
  obtain ⟨ep, he'⟩ := PyProof.Rows.sortedAll_at s.heap (ts.map Value.ref) ((arrOf st').map (·.2))
  have hperm : ((arrOf st').map (·.2)).toList.Perm (ts.map Value.ref) := by
    rw [Array.toList_map]
    have e := (Array.perm_iff_toList_perm.mp hp).map (·.2)
    rw [pairsOf_toList] at e
    have e2 : ((ts.map Value.ref).zip (ts.map Value.ref)).map (·.2) = ts.map Value.ref := by
      rw [List.map_snd_zip]
      exact Nat.le_refl _
    rw [e2] at e
    exact e
  obtain ⟨ts', hts', e3⟩ : ∃ ts' : List Addr, ts'.Perm ts ∧ ((arrOf st').map (·.2)).toList = ts'.map Value.ref := by
    generalize ((arrOf st').map (·.2)).toList = out at hperm
    have hr : ∀ v ∈ out, ∃ t, v = Value.ref t := fun v hv => by
      obtain ⟨t, _, e⟩ := List.mem_map.mp (hperm.mem_iff.mp hv)
      exact ⟨t, e.symm⟩
    have h2 : out = (out.map fun v => match v with | .ref a => a | _ => 0).map Value.ref := by
      rw [List.map_map]
      refine ((List.map_congr_left fun v hv => ?_).trans (List.map_id _)).symm
      obtain ⟨t, rfl⟩ := hr v hv
      rfl
    refine ⟨out.map fun v => match v with | .ref a => a | _ => 0, ?_, h2⟩
    have h3 := hperm.map fun v => match v with | .ref a => a | _ => (0 : Addr)
    rw [List.map_map] at h3
    exact h3.trans (List.Perm.of_eq ((List.map_congr_left fun _ _ => rfl).trans (List.map_id _)))
  have hlen : (ts'.map V.ref).length ≤ sizeLine := by
    rw [List.length_map, hts'.length_eq]
    rw [List.length_map] at hz2
    exact hz2
  have hh : (({ s with heap := sortedAll s.heap (ts.map Value.ref) ((arrOf st').map (·.2)) } : Shared).heap).get? (s.heap.objs.size + 1) = some (seqObj "list" (ts'.map Value.ref).toArray ep) := by
    rw [← e3]
    exact he'
  exact ⟨.ref _, upd H (s.heap.objs.size + 1) (.lst (ts'.map V.ref)), I.laid (t' := s.toks) (fun _ _ => PyProof.Rows.sortedAll_old) (Nat.le_succ _) ⟨hlen, _, ep, to_refs ts', hh⟩, rfl, q ts' _ hts' (I.hok.fresh (Nat.le_succ _))⟩
theorem crSortVec {X : Cx} {K : PySem.W.Frag} (hK : X.K = K) : CallR X (.builtin "sorted") (rSortVec K) := hK ▸ cr_sortVec
theorem v_sortVec {K : PySem.W.Frag} {H : Hp} {Q : VK} {a : Addr} {ts : List Addr} (h : H a = some (.lst (ts.map V.ref))) (hx : ∀ t ∈ ts, ∃ ns : Vec, ns ≠ [] ∧ H t = some (.tup (ns.map V.int)))
    (q : ∀ (ts' : List Addr) (p : Addr) (H' : Hp), ts'.Perm ts → H p = none → Same H H' → H' p = some (.lst (ts'.map V.ref)) → Q (.ref p) H') : rSortVec K [.ref a] H Q :=
  ⟨a, ts, rfl, SqL.of h, hx, fun ts' p hp np => q ts' p _ hp np (same_new np _) upd_same⟩

/-! ## a call by keywords alone -/
structure FnK (P : Program) (w : World) (K : PySem.W.Frag) (mg : Str → Option Value) (base : Heap) (k : Nat) (x : Str) (ps ks : List Str) (g : List Value → List Value → List Value) (gV : List V → List V → List V) (sp : Sp) : Prop where
  ex : ∃ (f : Addr) (fd : FuncData), FnOk P w K mg base CX0 k f fd ps sp ∧ mg x = some (.ref f) ∧ PySem.W.keepIn K (.ref f) = true ∧ KBn K fd ps 0 ks g gV
def tCallK0 (m : Nat) (sp : Sp) (gV : List V → List V → List V) (E : XK) (tk : TA) : TE := fun σ H Q => tk σ H fun zs H2 => zs.length = m ∧ sp (gV [] zs) H2 Q E
theorem calK {X : Cx} {k j : Nat} {x : Str} {ps ks : List Str} {g : List Value → List Value → List Value} {gV : List V → List V → List V} {sp : Sp} {kws : List Keyword} {tk : TA} {p pos : Pos} (h : FnK X.prog X.w X.K X.mg X.base k x ps ks g gV sp) (hr : Room j X.A) (hkw : PK X kws tk) (hj : k ≤ j := by omega) (hg : Gl X x := by rfl)
    (hall : (backToKw pos (keywordEach kws X.env)).all (·.1.isSome) = true := by rfl) (hks : (backToKw pos (keywordEach kws X.env)).filterMap (·.1) = ks := by rfl)
    (hdb : (x == ("__debug__" : Str)) = false := by decide)
    (hpl : ((backTo pos (starEach [] X.env)).any (·.1) || (backToKw pos (keywordEach kws X.env)).any (·.1.isNone)) = false := by rfl) :
    PE X (.Call (.Name x p) [] kws pos) (tCallK0 ks.length sp gV E0 tk) := by
  obtain ⟨f, fd, F, hm, hk, hb⟩ := h
  refine ⟨fun pins s σ H Q I h => ?_⟩
  refine wpAny_Call_Name_kw (ld_glob I hg hm ?_ hdb)
  refine PySem.W.callWith_KW0 (h₀ := X.base) I.ok.mod.kin hk hall (thn (hkw.run pos pins s σ H _ I h) fun ws s2 ⟨zs, H2, I2, rz, l2, q2⟩ => ⟨I2.kIn, ?_⟩) hpl
  rw [hks]
  exact run_fnN (us := []) (vs := []) F (hr.mono hj) hb pass0 I2 .nil rz rfl l2 q2
end AK

/-! ## AMath -/
set_option Elab.async false
set_option linter.all false
set_option maxRecDepth 100000
namespace AK
open PySem PySem.Spec PyProof.Rows L2
/-! ## plain law: what a formula's share says -/
abbrev Row := Str → Int
def fadd (a b : Row) : Row := fun s => a s + b s
theorem fadd_assoc (a b c : Row) : fadd (fadd a b) c = fadd a (fadd b c) := funext fun s => Int.add_assoc _ _ _
theorem fadd_comm (a b : Row) : fadd a b = fadd b a := funext fun s => Int.add_comm _ _
def fzero : Row := fun _ => 0
theorem fadd_zero (a : Row) : fadd a fzero = a := funext fun s => Int.add_zero _
theorem fzero_add (a : Row) : fadd fzero a = a := funext fun s => Int.zero_add _
/-- sums of so many -/
def Nk (P : Row → Prop) : Nat → Row → Prop
  | 0, a => a = fzero
  | k + 1, a => ∃ b c, Nk P k b ∧ P c ∧ a = fadd b c
section
variable {P Q : Row → Prop}
theorem nk_one {a : Row} : Nk P 1 a ↔ P a := by
  constructor
  · rintro ⟨b, c, rfl, h, rfl⟩
    rw [fzero_add]; exact h
  · intro h
    exact ⟨fzero, a, rfl, h, (fzero_add a).symm⟩
theorem nk_add : ∀ {j i : Nat} {a : Row}, Nk P (i + j) a ↔ ∃ b c, Nk P i b ∧ Nk P j c ∧ a = fadd b c
  | 0, i, a => by
    constructor
    · intro h
      exact ⟨a, fzero, h, rfl, (fadd_zero a).symm⟩
    · rintro ⟨b, c, h, rfl, rfl⟩
      rw [fadd_zero]; exact h
  | j + 1, i, a => by
    constructor
    · rintro ⟨b, c, h1, h2, rfl⟩
      obtain ⟨d, e, h3, h4, rfl⟩ := nk_add.mp h1
      exact ⟨d, fadd e c, h3, ⟨e, c, h4, h2, rfl⟩, fadd_assoc _ _ _⟩
    · rintro ⟨b, c, h1, ⟨d, e, h2, h3, rfl⟩, rfl⟩
      exact ⟨fadd b d, e, nk_add.mpr ⟨b, d, h1, h2, rfl⟩, h3, (fadd_assoc _ _ _).symm⟩
theorem nk_mul {m : Nat} : ∀ {k : Nat} {a : Row}, Nk (Nk P m) k a ↔ Nk P (m * k) a
  | 0, a => Iff.rfl
  | k + 1, a => by
    rw [Nat.mul_succ]
    constructor
    · rintro ⟨b, c, h1, h2, rfl⟩
      exact nk_add.mpr ⟨b, c, nk_mul.mp h1, h2, rfl⟩
    · intro h
      obtain ⟨b, c, h1, h2, rfl⟩ := nk_add.mp h
      exact ⟨b, c, nk_mul.mpr h1, h2, rfl⟩
theorem swap4 (a b c d : Row) : fadd (fadd a b) (fadd c d) = fadd (fadd a c) (fadd b d) := funext fun s => by
  show a s + b s + (c s + d s) = a s + c s + (b s + d s)
  omega
def Both (P Q : Row → Prop) : Row → Prop := fun a => ∃ b c, P b ∧ Q c ∧ a = fadd b c
theorem nk_both : ∀ {k : Nat} {a : Row}, Nk (Both P Q) k a ↔ ∃ b c, Nk P k b ∧ Nk Q k c ∧ a = fadd b c
  | 0, a => by
    constructor
    · intro h
      exact ⟨fzero, fzero, rfl, rfl, by rw [fadd_zero]; exact h⟩
    · rintro ⟨b, c, rfl, rfl, h⟩
      rw [fadd_zero] at h; exact h
  | k + 1, a => by
    constructor
    · rintro ⟨b, c, h1, ⟨d, e, h2, h3, rfl⟩, rfl⟩
      obtain ⟨u, v, h4, h5, rfl⟩ := nk_both.mp h1
      exact ⟨fadd u d, fadd v e, ⟨u, d, h4, h2, rfl⟩, ⟨v, e, h5, h3, rfl⟩, swap4 _ _ _ _⟩
    · rintro ⟨b, c, ⟨u, d, h4, h2, rfl⟩, ⟨v, e, h5, h3, rfl⟩, rfl⟩
      exact ⟨fadd u v, fadd d e, nk_both.mpr ⟨u, v, h4, h5, rfl⟩, ⟨d, e, h2, h3, rfl⟩, swap4 _ _ _ _⟩
def Either (P Q : Row → Prop) : Row → Prop := fun a => P a ∨ Q a
theorem nk_either : ∀ {k : Nat} {a : Row}, Nk (Either P Q) k a ↔ ∃ (i j : Nat) (b c : Row), i + j = k ∧ Nk P i b ∧ Nk Q j c ∧ a = fadd b c
  | 0, a => by
    constructor
    · intro h
      exact ⟨0, 0, fzero, fzero, rfl, rfl, rfl, by rw [fadd_zero]; exact h⟩
    · rintro ⟨i, j, b, c, h, h1, h2, h3⟩
      obtain rfl : i = 0 := by omega
      obtain rfl : j = 0 := by omega
      rw [show b = fzero from h1, show c = fzero from h2, fadd_zero] at h3
      exact h3
  | k + 1, a => by
    constructor
    · rintro ⟨b, c, h1, h2, rfl⟩
      obtain ⟨i, j, u, v, e, h4, h5, rfl⟩ := nk_either.mp h1
      rcases h2 with h2 | h2
      · refine ⟨i + 1, j, fadd u c, v, by omega, ⟨u, c, h4, h2, rfl⟩, h5, ?_⟩
        rw [fadd_assoc, fadd_assoc, fadd_comm v c]
      · exact ⟨i, j + 1, u, fadd v c, by omega, h4, ⟨v, c, h5, h2, rfl⟩, fadd_assoc _ _ _⟩
    · rintro ⟨i, j, b, c, e, h1, h2, rfl⟩
      cases i with
      | zero =>
        cases j with
        | zero => omega
        | succ j =>
          obtain ⟨v, d, h3, h4, rfl⟩ := h2
          exact ⟨fadd b v, d, nk_either.mpr ⟨0, j, b, v, by omega, h1, h3, rfl⟩, .inr h4, (fadd_assoc _ _ _).symm⟩
      | succ i =>
        obtain ⟨v, d, h3, h4, rfl⟩ := h1
        refine ⟨fadd v c, d, nk_either.mpr ⟨i, j, v, c, by omega, h3, h2, rfl⟩, .inl h4, ?_⟩
        rw [fadd_assoc, fadd_assoc, fadd_comm d c]
theorem nk_congr (h : ∀ a, P a ↔ Q a) : ∀ {k : Nat} {a : Row}, Nk P k a ↔ Nk Q k a
  | 0, a => Iff.rfl
  | k + 1, a => by
    constructor
    · rintro ⟨b, c, h1, h2, e⟩
      exact ⟨b, c, (nk_congr h).mp h1, (h c).mp h2, e⟩
    · rintro ⟨b, c, h1, h2, e⟩
      exact ⟨b, c, (nk_congr h).mpr h1, (h c).mpr h2, e⟩
end
mutual
def Fm.Way : Fm → Row → Prop
  | .kind nm, a => a = fun s => if s = nm then 1 else 0
  | .many m f, a => Nk f.Way m.toNat a
  | .node w fs, a => if w = true then Fm.WayA fs a else Fm.WayO fs a
def Fm.WayA : List Fm → Row → Prop
  | [], a => a = fzero
  | f :: fs, a => Both f.Way (Fm.WayA fs) a
def Fm.WayO : List Fm → Row → Prop
  | [], _ => False
  | f :: fs, a => Either f.Way (Fm.WayO fs) a
end
/-! a share looks at the formula's own names alone -/
mutual
theorem Fm.share_congr {a b : Row} : ∀ (f : Fm), (∀ s ∈ f.names, a s = b s) → f.share a = f.share b
  | .kind nm, h => by
    rw [Fm.share, Fm.share, h nm (by rw [Fm.names]; exact .head _)]
  | .many m f, h => by
    rw [Fm.share, Fm.share, Fm.share_congr f fun s hs => h s (by rw [Fm.names]; exact hs)]
  | .node w fs, h => by
    rw [Fm.share, Fm.share, Fm.shareL_congr fs fun s hs => h s (by rw [Fm.names]; exact hs)]
theorem Fm.shareL_congr {a b : Row} : ∀ (fs : List Fm), (∀ s ∈ Fm.namesL fs, a s = b s) → Fm.shareL a fs = Fm.shareL b fs
  | [], h => by rw [Fm.shareL, Fm.shareL]
  | f :: fs, h => by
    rw [Fm.shareL, Fm.shareL, Fm.share_congr f fun s hs => h s (by rw [Fm.namesL]; exact List.mem_append_left _ hs), Fm.shareL_congr fs fun s hs => h s (by rw [Fm.namesL]; exact List.mem_append_right _ hs)]
end
/-! shares of rows without a negative amount -/
theorem allSame_iff {l : List Int} {k : Int} (hne : l ≠ []) : (allSame l = true ∧ l.headD 0 = k) ↔ ∀ x ∈ l, x = k := by
  obtain ⟨x, r, rfl⟩ := List.exists_cons_of_ne_nil hne
  unfold allSame
  rw [List.all_eq_true]
  constructor
  · rintro ⟨h1, h2⟩ y hy
    have := of_decide_eq_true (h1 y hy)
    rw [this, h2]
  · intro h
    refine ⟨fun y hy => decide_eq_true ?_, h x (.head _)⟩
    rw [h y hy]
    exact (h x (.head _)).symm
theorem shareL_cons {a : Row} {f : Fm} {fs : List Fm} {l : List Int} : Fm.shareL a (f :: fs) = some l ↔ ∃ x r, l = x :: r ∧ f.share a = some x ∧ Fm.shareL a fs = some r := by
  rw [Fm.shareL]
  cases f.share a with
  | none =>
    constructor
    · intro h; cases h
    · rintro ⟨x, r, _, h, _⟩; cases h
  | some x =>
    cases Fm.shareL a fs with
    | none =>
      constructor
      · intro h; cases h
      · rintro ⟨x, r, _, _, h⟩; cases h
    | some r =>
      constructor
      · intro h
        exact ⟨x, r, (Option.some.inj h).symm, rfl, rfl⟩
      · rintro ⟨x', r', rfl, h1, h2⟩
        rw [Option.some.inj h1, Option.some.inj h2]
theorem shareL_nil {a : Row} {l : List Int} : Fm.shareL a [] = some l ↔ l = [] := by
  rw [Fm.shareL]
  exact ⟨fun h => (Option.some.inj h).symm, fun h => by rw [h]⟩
theorem share_many {a : Row} {m : Int} {f : Fm} {k : Int} (hm : 0 < m) : (Fm.many m f).share a = some k ↔ f.share a = some (m * k) := by
  rw [Fm.share]
  cases f.share a with
  | none => exact ⟨fun h => (by cases h), fun h => (by cases h)⟩
  | some i =>
    constructor
    · intro h
      dsimp only at h
      by_cases c : 0 < i % m
      · rw [if_pos c] at h; cases h
      · rw [if_neg c] at h
        have h1 := Int.emod_nonneg i (show m ≠ 0 by omega)
        have h2 : i % m = 0 := by omega
        have h3 := Int.mul_ediv_add_emod i m
        rw [← Option.some.inj h]
        congr 1
        omega
    · intro h
      rw [Option.some.inj h]
      dsimp only
      rw [Int.mul_emod_right, if_neg (by omega), Int.mul_ediv_cancel_left _ (by omega)]
theorem shareL_len {a : Row} : ∀ {fs : List Fm} {l : List Int}, Fm.shareL a fs = some l → l.length = fs.length
  | [], l, h => by rw [shareL_nil.mp h]; rfl
  | f :: fs, l, h => by
    obtain ⟨x, r, rfl, _, h2⟩ := shareL_cons.mp h
    rw [List.length_cons, List.length_cons, shareL_len h2]
theorem share_and {a : Row} {fs : List Fm} {k : Int} (hne : fs ≠ []) : (Fm.node true fs).share a = some k ↔ ∃ l, Fm.shareL a fs = some l ∧ ∀ x ∈ l, x = k := by
  rw [Fm.share]
  cases e : Fm.shareL a fs with
  | none => exact ⟨fun h => (by cases h), fun ⟨l, h, _⟩ => (by cases h)⟩
  | some l =>
    have hl : l ≠ [] := fun z => hne (List.length_eq_zero_iff.mp (by rw [← shareL_len e, z]; rfl))
    dsimp only
    rw [if_pos rfl]
    constructor
    · intro h
      refine ⟨l, rfl, (allSame_iff hl).mp ?_⟩
      by_cases c : allSame l = true
      · rw [if_pos c] at h
        exact ⟨c, Option.some.inj h⟩
      · rw [if_neg c] at h; cases h
    · rintro ⟨l', h, h2⟩
      cases h
      obtain ⟨h3, h4⟩ := (allSame_iff hl).mpr h2
      rw [if_pos h3, h4]
theorem share_or {a : Row} {fs : List Fm} {k : Int} : (Fm.node false fs).share a = some k ↔ ∃ l, Fm.shareL a fs = some l ∧ l.sum = k := by
  rw [Fm.share]
  cases e : Fm.shareL a fs with
  | none => exact ⟨fun h => (by cases h), fun ⟨l, h, _⟩ => (by cases h)⟩
  | some l =>
    dsimp only
    rw [if_neg Bool.false_ne_true]
    exact ⟨fun h => ⟨l, rfl, Option.some.inj h⟩, fun ⟨l', h, h2⟩ => by cases h; rw [h2]⟩
theorem sum_nonneg : ∀ {l : List Int}, (∀ x ∈ l, 0 ≤ x) → 0 ≤ l.sum
  | [], _ => Int.le_refl _
  | x :: l, h => by
    rw [List.sum_cons]
    have h1 := h x (.head _)
    have h2 := sum_nonneg fun y hy => h y (.tail _ hy)
    omega
mutual
theorem Fm.share_nonneg {a : Row} (ha : ∀ s, 0 ≤ a s) : ∀ (f : Fm) {k : Int}, f.ok → f.share a = some k → 0 ≤ k
  | .kind nm, k, _, h => by
    rw [Fm.share] at h
    rw [← Option.some.inj h]; exact ha nm
  | .many m f, k, ho, h => by
    rw [Fm.ok] at ho
    have h1 := Fm.share_nonneg ha f ho.2.2 ((share_many (by omega)).mp h)
    exact Int.nonneg_of_mul_nonneg_right h1 (by omega) 
  | .node w fs, k, ho, h => by
    rw [Fm.ok] at ho
    cases w with
    | true =>
      obtain ⟨l, h1, h2⟩ := (share_and ho.1).mp h
      obtain ⟨x, r, rfl⟩ := List.exists_cons_of_ne_nil (show l ≠ [] from fun z => ho.1 (List.length_eq_zero_iff.mp (by rw [← AK.shareL_len h1, z]; rfl)))
      have := Fm.shareL_nonneg ha fs ho.2.2 h1 x (.head _)
      rw [← h2 x (.head _)]; exact this
    | false =>
      obtain ⟨l, h1, h2⟩ := share_or.mp h
      have h3 := Fm.shareL_nonneg ha fs ho.2.2 h1
      rw [← h2]
      exact sum_nonneg h3
theorem Fm.shareL_nonneg {a : Row} (ha : ∀ s, 0 ≤ a s) : ∀ (fs : List Fm) {l : List Int}, Fm.okL fs → Fm.shareL a fs = some l → ∀ x ∈ l, 0 ≤ x
  | [], l, _, h, x, hx => by rw [shareL_nil.mp h] at hx; cases hx
  | f :: fs, l, ho, h, x, hx => by
    rw [Fm.okL] at ho
    obtain ⟨y, r, rfl, h1, h2⟩ := shareL_cons.mp h
    rcases List.mem_cons.mp hx with rfl | hx
    · exact Fm.share_nonneg ha f ho.1 h1
    · exact Fm.shareL_nonneg ha fs ho.2 h2 x hx
end
/-! ## a share is the number of ways that add up to the row -/
def Sup (ns : List Str) (a : Row) : Prop := (∀ s, s ∉ ns → a s = 0) ∧ ∀ s, 0 ≤ a s
theorem Sup.zero (ns : List Str) : Sup ns fzero := ⟨fun _ _ => rfl, fun _ => Int.le_refl _⟩
theorem Sup.add {ns ms : List Str} {a b : Row} (h : Sup ns a) (h' : Sup ms b) : Sup (ns ++ ms) (fadd a b) := by
  refine ⟨fun s hs => ?_, fun s => ?_⟩
  · show a s + b s = 0
    rw [h.1 s (fun z => hs (List.mem_append_left _ z)), h'.1 s (fun z => hs (List.mem_append_right _ z))]; rfl
  · have h1 := h.2 s
    have h2 := h'.2 s
    show 0 ≤ a s + b s
    omega
def cutTo (ns : List Str) (a : Row) : Row := fun s => if s ∈ ns then a s else 0
theorem cutTo_sup {ns : List Str} {a : Row} (h : ∀ s, 0 ≤ a s) : Sup ns (cutTo ns a) := by
  refine ⟨fun s hs => if_neg hs, fun s => ?_⟩
  unfold cutTo
  split
  · exact h s
  · exact Int.le_refl _
theorem cutTo_add {ns ms : List Str} {a : Row} (hd : ∀ s, s ∈ ns → s ∉ ms) (h : Sup (ns ++ ms) a) : a = fadd (cutTo ns a) (cutTo ms a) := funext fun s => by
  show a s = (if s ∈ ns then a s else 0) + (if s ∈ ms then a s else 0)
  by_cases h1 : s ∈ ns
  · rw [if_pos h1, if_neg (hd s h1)]; omega
  · by_cases h2 : s ∈ ms
    · rw [if_neg h1, if_pos h2]; omega
    · rw [if_neg h1, if_neg h2, h.1 s fun z => (List.mem_append.mp z).elim h1 h2]; rfl
mutual
theorem Fm.way_iff : ∀ (f : Fm), f.ok → f.names.Nodup → ∀ (k : Nat) (a : Row), Nk f.Way k a ↔ Sup f.names a ∧ f.share a = some (k : Int)
  | .kind nm, _, _, k, a => by
    rw [Fm.names, Fm.share]
    have unit : ∀ b, Fm.Way (.kind nm) b ↔ b = fun s => if s = nm then 1 else 0 := fun b => by rw [Fm.Way]
    have e : Nk (Fm.Way (.kind nm)) k a ↔ a = fun s => if s = nm then (k : Int) else 0 := by
      induction k generalizing a with
      | zero =>
        show a = fzero ↔ _
        have : (fun s => if s = nm then ((0 : Nat) : Int) else 0 : Row) = fzero := funext fun s => by split <;> rfl
        rw [this]
      | succ k ih =>
        constructor
        · rintro ⟨b, c, h1, h2, rfl⟩
          rw [(ih b).mp h1, (unit c).mp h2]
          funext s
          show (if s = nm then (k : Int) else 0) + (if s = nm then 1 else 0) = if s = nm then ((k + 1 : Nat) : Int) else 0
          split
          · omega
          · rfl
        · intro h
          refine ⟨_, _, (ih _).mpr rfl, (unit _).mpr rfl, ?_⟩
          rw [h]
          funext s
          show (if s = nm then ((k + 1 : Nat) : Int) else 0) = (if s = nm then (k : Int) else 0) + (if s = nm then 1 else 0)
          split
          · omega
          · rfl
    rw [e]
    constructor
    · rintro rfl
      refine ⟨⟨fun s hs => if_neg fun z => hs (by rw [z]; exact .head _), fun s => ?_⟩, by dsimp only; rw [if_pos rfl]⟩
      dsimp only
      split <;> omega
    · rintro ⟨h1, h2⟩
      funext s
      by_cases h : s = nm
      · rw [if_pos h, h]; exact Option.some.inj h2
      · rw [if_neg h]; exact h1.1 s fun z => h (List.mem_singleton.mp z)
  | .many m f, ho, hn, k, a => by
    rw [Fm.ok] at ho
    rw [Fm.names] at hn ⊢
    have e1 : ∀ b, Fm.Way (.many m f) b ↔ Nk f.Way m.toNat b := fun b => by rw [Fm.Way]
    rw [nk_congr e1, nk_mul, Fm.way_iff f ho.2.2 hn, share_many (by omega)]
    have e2 : ((m.toNat * k : Nat) : Int) = m * (k : Int) := by
      rw [Int.natCast_mul, Int.toNat_of_nonneg (by omega)]
    rw [e2]
  | .node w fs, ho, hn, k, a => by
    rw [Fm.ok] at ho
    rw [Fm.names] at hn ⊢
    cases w with
    | true =>
      have e1 : ∀ b, Fm.Way (.node true fs) b ↔ Fm.WayA fs b := fun b => by rw [Fm.Way, if_pos rfl]
      rw [nk_congr e1, Fm.wayA_iff fs ho.2.2 hn, share_and ho.1]
    | false =>
      have e1 : ∀ b, Fm.Way (.node false fs) b ↔ Fm.WayO fs b := fun b => by rw [Fm.Way, if_neg Bool.false_ne_true]
      rw [nk_congr e1, Fm.wayO_iff fs ho.2.2 hn, share_or]
theorem Fm.wayA_iff : ∀ (fs : List Fm), Fm.okL fs → (Fm.namesL fs).Nodup → ∀ (k : Nat) (a : Row), Nk (Fm.WayA fs) k a ↔ Sup (Fm.namesL fs) a ∧ ∃ l, Fm.shareL a fs = some l ∧ ∀ x ∈ l, x = (k : Int)
  | [], _, _, k, a => by
    have e : Nk (Fm.WayA []) k a ↔ a = fzero := by
      induction k generalizing a with
      | zero => exact Iff.rfl
      | succ k ih =>
        constructor
        · rintro ⟨b, c, h1, h2, rfl⟩
          rw [(ih b).mp h1, show c = fzero by rw [Fm.WayA] at h2; exact h2, fadd_zero]
        · rintro rfl
          exact ⟨fzero, fzero, (ih _).mpr rfl, by rw [Fm.WayA], (fadd_zero _).symm⟩
    rw [e]
    constructor
    · rintro rfl
      exact ⟨Sup.zero _, [], shareL_nil.mpr rfl, fun x hx => by cases hx⟩
    · rintro ⟨h, _⟩
      funext s
      exact h.1 s (by rw [Fm.namesL]; exact List.not_mem_nil)
  | f :: fs, ho, hn, k, a => by
    rw [Fm.okL] at ho
    rw [Fm.namesL] at hn ⊢
    obtain ⟨n1, n2, n3⟩ := List.nodup_append.mp hn
    have hd : ∀ s, s ∈ f.names → s ∉ Fm.namesL fs := fun s h1 h2 => n3 s h1 s h2 rfl
    have e1 : ∀ b, Fm.WayA (f :: fs) b ↔ Both f.Way (Fm.WayA fs) b := fun b => by rw [Fm.WayA]
    rw [nk_congr e1, nk_both]
    constructor
    · rintro ⟨b, c, h1, h2, rfl⟩
      obtain ⟨s1, q1⟩ := (Fm.way_iff f ho.1 n1 k b).mp h1
      obtain ⟨s2, l, q2, q3⟩ := (Fm.wayA_iff fs ho.2 n2 k c).mp h2
      refine ⟨s1.add s2, (k : Int) :: l, shareL_cons.mpr ⟨_, l, rfl, ?_, ?_⟩, fun x hx => ?_⟩
      · rw [← q1]
        refine Fm.share_congr f fun s hs => ?_
        show b s + c s = b s
        rw [s2.1 s (hd s hs)]; omega
      · rw [← q2]
        refine Fm.shareL_congr fs fun s hs => ?_
        show b s + c s = c s
        rw [s1.1 s fun z => hd s z hs]; omega
      · rcases List.mem_cons.mp hx with rfl | hx
        · rfl
        · exact q3 x hx
    · rintro ⟨h, l, h2, h3⟩
      obtain ⟨x, r, rfl, h4, h5⟩ := shareL_cons.mp h2
      refine ⟨cutTo f.names a, cutTo (Fm.namesL fs) a, (Fm.way_iff f ho.1 n1 k _).mpr ⟨cutTo_sup h.2, ?_⟩, (Fm.wayA_iff fs ho.2 n2 k _).mpr ⟨cutTo_sup h.2, r, ?_, fun y hy => h3 y (.tail _ hy)⟩, cutTo_add hd h⟩
      · rw [← h3 x (.head _), ← h4]
        exact Fm.share_congr f fun s hs => if_pos hs
      · rw [← h5]
        exact Fm.shareL_congr fs fun s hs => if_pos hs
theorem Fm.wayO_iff : ∀ (fs : List Fm), Fm.okL fs → (Fm.namesL fs).Nodup → ∀ (k : Nat) (a : Row), Nk (Fm.WayO fs) k a ↔ Sup (Fm.namesL fs) a ∧ ∃ l, Fm.shareL a fs = some l ∧ l.sum = (k : Int)
  | [], _, _, k, a => by
    constructor
    · intro h
      cases k with
      | zero =>
        rw [show a = fzero from h]
        exact ⟨Sup.zero _, [], shareL_nil.mpr rfl, rfl⟩
      | succ k =>
        obtain ⟨b, c, _, h2, _⟩ := h
        rw [Fm.WayO] at h2
        exact h2.elim
    · rintro ⟨h, l, h1, h2⟩
      rw [shareL_nil.mp h1] at h2
      have hk : k = 0 := by
        have : (0 : Int) = (k : Int) := h2
        omega
      rw [hk]
      funext s
      exact h.1 s (by rw [Fm.namesL]; exact List.not_mem_nil)
  | f :: fs, ho, hn, k, a => by
    rw [Fm.okL] at ho
    rw [Fm.namesL] at hn ⊢
    obtain ⟨n1, n2, n3⟩ := List.nodup_append.mp hn
    have hd : ∀ s, s ∈ f.names → s ∉ Fm.namesL fs := fun s h1 h2 => n3 s h1 s h2 rfl
    have e1 : ∀ b, Fm.WayO (f :: fs) b ↔ Either f.Way (Fm.WayO fs) b := fun b => by rw [Fm.WayO]
    rw [nk_congr e1, nk_either]
    constructor
    · rintro ⟨i, j, b, c, e, h1, h2, rfl⟩
      obtain ⟨s1, q1⟩ := (Fm.way_iff f ho.1 n1 i b).mp h1
      obtain ⟨s2, l, q2, q3⟩ := (Fm.wayO_iff fs ho.2 n2 j c).mp h2
      refine ⟨s1.add s2, (i : Int) :: l, shareL_cons.mpr ⟨_, l, rfl, ?_, ?_⟩, by rw [List.sum_cons, q3]; omega⟩
      · rw [← q1]
        refine Fm.share_congr f fun s hs => ?_
        show b s + c s = b s
        rw [s2.1 s (hd s hs)]; omega
      · rw [← q2]
        refine Fm.shareL_congr fs fun s hs => ?_
        show b s + c s = c s
        rw [s1.1 s fun z => hd s z hs]; omega
    · rintro ⟨h, l, h2, h3⟩
      obtain ⟨x, r, rfl, h4, h5⟩ := shareL_cons.mp h2
      have hx := Fm.share_nonneg h.2 f ho.1 h4
      have hr := sum_nonneg (Fm.shareL_nonneg h.2 fs ho.2 h5)
      rw [List.sum_cons] at h3
      refine ⟨x.toNat, r.sum.toNat, cutTo f.names a, cutTo (Fm.namesL fs) a, by omega, (Fm.way_iff f ho.1 n1 _ _).mpr ⟨cutTo_sup h.2, ?_⟩, (Fm.wayO_iff fs ho.2 n2 _ _).mpr ⟨cutTo_sup h.2, r, ?_, by omega⟩, cutTo_add hd h⟩
      · rw [Int.toNat_of_nonneg hx, ← h4]
        exact Fm.share_congr f fun s hs => if_pos hs
      · rw [← h5]
        exact Fm.shareL_congr fs fun s hs => if_pos hs
end
end AK

/-! ## AMath2 -/
set_option Elab.async false
set_option linter.all false
set_option maxRecDepth 100000
namespace AK
open PySem PySem.Spec PyProof.Rows L2
/-! ## rows as lists in the order of the names -/
theorem rowOf_cons {n : Str} {nms : List Str} {x : Int} {xs : List Int} (s : Str) : rowOf (n :: nms) (x :: xs) s = if n = s then x else rowOf nms xs s := by
  unfold rowOf
  rw [List.zip_cons_cons, List.find?_cons]
  by_cases h : n = s
  · rw [if_pos h]
    dsimp only
    rw [decide_eq_true h]; rfl
  · rw [if_neg h]
    dsimp only
    rw [decide_eq_false h]
theorem rowOf_nil (xs : List Int) (s : Str) : rowOf [] xs s = 0 := rfl
theorem rowOf_add : ∀ {nms : List Str} {x y : Vec}, x.length = nms.length → y.length = nms.length → rowOf nms (addV x y) = fadd (rowOf nms x) (rowOf nms y)
  | [], x, y, _, _ => funext fun s => rfl
  | n :: nms, [], y, h, _ => by simp at h
  | n :: nms, x :: xs, [], _, h => by simp at h
  | n :: nms, x :: xs, y :: ys, h, h' => funext fun s => by
    have ih := congrFun (rowOf_add (nms := nms) (x := xs) (y := ys) (by simpa using h) (by simpa using h')) s
    show rowOf (n :: nms) ((x + y) :: addV xs ys) s = rowOf (n :: nms) (x :: xs) s + rowOf (n :: nms) (y :: ys) s
    rw [rowOf_cons, rowOf_cons, rowOf_cons]
    by_cases c : n = s
    · rw [if_pos c, if_pos c, if_pos c]
    · rw [if_neg c, if_neg c, if_neg c]; exact ih
theorem rowOf_mul (m : Int) : ∀ (nms : List Str) (x : Vec), rowOf nms (x.map (m * ·)) = fun s => m * rowOf nms x s
  | [], x => funext fun s => by rw [rowOf_nil, rowOf_nil]; omega
  | n :: nms, [] => funext fun s => by
    show (0 : Int) = m * 0
    omega
  | n :: nms, x :: xs => funext fun s => by
    have ih := congrFun (rowOf_mul m nms xs) s
    rw [List.map_cons, rowOf_cons, rowOf_cons]
    by_cases c : n = s
    · rw [if_pos c, if_pos c]
    · rw [if_neg c, if_neg c]; exact ih
theorem rowOf_map (f : Row) : ∀ (nms : List Str) (s : Str), rowOf nms (nms.map f) s = if s ∈ nms then f s else 0
  | [], s => by rw [rowOf_nil, if_neg List.not_mem_nil]
  | n :: nms, s => by
    rw [List.map_cons, rowOf_cons, rowOf_map f nms s]
    by_cases c : n = s
    · rw [if_pos c, if_pos (by rw [c]; exact .head _), c]
    · rw [if_neg c]
      by_cases h : s ∈ nms
      · rw [if_pos h, if_pos (.tail _ h)]
      · rw [if_neg h, if_neg fun z => (List.mem_cons.mp z).elim (fun e => c e.symm) h]
theorem rowOf_sup {nms : List Str} {a : Row} (h : ∀ s, s ∉ nms → a s = 0) : rowOf nms (nms.map a) = a := funext fun s => by
  rw [rowOf_map]
  by_cases c : s ∈ nms
  · rw [if_pos c]
  · rw [if_neg c, h s c]
theorem rowOf_out {nms : List Str} {x : Vec} {s : Str} (h : s ∉ nms) : rowOf nms x s = 0 := by
  induction nms generalizing x with
  | nil => rfl
  | cons n nms ih =>
    cases x with
    | nil => rfl
    | cons y ys =>
      rw [rowOf_cons, if_neg fun z => h (by rw [z]; exact .head _)]
      exact ih fun z => h (.tail _ z)
theorem map_rowOf : ∀ {nms : List Str} {x : Vec}, nms.Nodup → x.length = nms.length → nms.map (rowOf nms x) = x
  | [], [], _, _ => rfl
  | [], y :: ys, _, h => by simp at h
  | n :: nms, [], _, h => by simp at h
  | n :: nms, y :: ys, hn, h => by
    obtain ⟨h1, h2⟩ := List.nodup_cons.mp hn
    rw [List.map_cons, rowOf_cons, if_pos rfl]
    congr 1
    refine (List.map_congr_left fun s hs => ?_).trans (map_rowOf (nms := nms) (x := ys) h2 (by simpa using h))
    rw [rowOf_cons, if_neg fun z => h1 (by rw [z]; exact hs)]
theorem rowOf_inj {nms : List Str} {x y : Vec} (hn : nms.Nodup) (hx : x.length = nms.length) (hy : y.length = nms.length) (h : rowOf nms x = rowOf nms y) : x = y := by
  rw [← map_rowOf hn hx, ← map_rowOf hn hy, h]
theorem rowOf_zero (nms : List Str) : rowOf nms (zeroV nms.length) = fzero := by
  have e : zeroV nms.length = nms.map fzero := by
    unfold zeroV
    exact (List.eq_replicate_iff.mpr ⟨List.length_map _, fun b hb => by obtain ⟨s, _, rfl⟩ := List.mem_map.mp hb; rfl⟩).symm
  rw [e]
  exact rowOf_sup fun _ _ => rfl
/-! the laid lists and the ways -/
theorem powL_way {nms : List Str} {P : List Vec} {W : Row → Prop} (h : ∀ y ∈ P, y.length = nms.length ∧ W (rowOf nms y)) : ∀ {k : Nat} {x : Vec}, x ∈ powL (zeroV nms.length) P k → Nk W k (rowOf nms x)
  | 0, x, hx => by
    rw [powL] at hx
    rw [List.mem_singleton.mp hx]
    exact rowOf_zero nms
  | k + 1, x, hx => by
    rw [powL] at hx
    obtain ⟨y, hy, p, hp, rfl⟩ := mem_sumsL.mp hx
    have ly := powL_rows (zeroV_len nms.length) (fun z hz => (h z hz).1) k y hy
    rw [rowOf_add ly (h p hp).1]
    exact ⟨_, _, powL_way h hy, (h p hp).2, rfl⟩
theorem way_powL {nms : List Str} {P : List Vec} {W : Row → Prop} (hl : ∀ y ∈ P, y.length = nms.length) (h : ∀ b, W b → ∃ y ∈ P, rowOf nms y = b) : ∀ {k : Nat} {a : Row}, Nk W k a → ∃ x ∈ powL (zeroV nms.length) P k, rowOf nms x = a
  | 0, a, ha => ⟨zeroV nms.length, by rw [powL]; exact .head _, by rw [rowOf_zero]; exact (show a = fzero from ha).symm⟩
  | k + 1, a, ⟨b, c, h1, h2, h3⟩ => by
    obtain ⟨x, hx, ex⟩ := way_powL hl h h1
    obtain ⟨y, hy, ey⟩ := h c h2
    refine ⟨addV x y, by rw [powL]; exact mem_sumsL.mpr ⟨x, hx, y, hy, rfl⟩, ?_⟩
    rw [rowOf_add (powL_rows (zeroV_len nms.length) hl k x hx) (hl y hy), ex, ey, h3]
theorem both_assoc {P Q R : Row → Prop} {a : Row} : Both (Both P Q) R a ↔ Both P (Both Q R) a := by
  constructor
  · rintro ⟨b, c, ⟨d, e, h1, h2, rfl⟩, h3, rfl⟩
    exact ⟨d, fadd e c, h1, ⟨e, c, h2, h3, rfl⟩, fadd_assoc _ _ _⟩
  · rintro ⟨d, x, h1, ⟨e, c, h2, h3, rfl⟩, rfl⟩
    exact ⟨fadd d e, c, ⟨d, e, h1, h2, rfl⟩, h3, (fadd_assoc _ _ _).symm⟩
mutual
theorem Fm.laid_way {nms : List Str} : ∀ (f : Fm), (∀ s ∈ f.names, s ∈ nms) → ∀ x ∈ f.laid nms, f.Way (rowOf nms x)
  | .kind nm, h, x, hx => by
    rw [Fm.laid] at hx
    rw [List.mem_singleton.mp hx, Fm.Way]
    have hm : nm ∈ nms := h nm (by rw [Fm.names]; exact .head _)
    exact rowOf_sup (a := fun s => if s = nm then 1 else 0) fun s hs => if_neg fun z => hs (by rw [z]; exact hm)
  | .many m f, h, x, hx => by
    rw [Fm.laid] at hx
    rw [Fm.Way]
    rw [Fm.names] at h
    exact powL_way (fun y hy => ⟨Fm.laid_rows nms f y hy, Fm.laid_way f h y hy⟩) hx
  | .node w fs, h, x, hx => by
    rw [Fm.laid] at hx
    rw [Fm.Way]
    rw [Fm.names] at h
    cases w with
    | true => rw [if_pos rfl]; exact Fm.laidNA_way fs h x hx
    | false => rw [if_neg Bool.false_ne_true]; exact Fm.laidNO_way fs h x hx
theorem Fm.laidNA_way {nms : List Str} : ∀ (fs : List Fm), (∀ s ∈ Fm.namesL fs, s ∈ nms) → ∀ x ∈ Fm.laidN nms true fs, Fm.WayA fs (rowOf nms x)
  | [], _, x, hx => by rw [Fm.laidN] at hx; cases hx
  | f :: fs, h, x, hx => by
    rw [Fm.laidN] at hx
    rw [Fm.namesL] at h
    rw [Fm.WayA]
    exact Fm.laidRA_way fs (fun s hs => h s (List.mem_append_right _ hs)) _ f.Way (fun y hy => ⟨Fm.laid_rows nms f y hy, Fm.laid_way f (fun s hs => h s (List.mem_append_left _ hs)) y hy⟩) x hx
theorem Fm.laidNO_way {nms : List Str} : ∀ (fs : List Fm), (∀ s ∈ Fm.namesL fs, s ∈ nms) → ∀ x ∈ Fm.laidN nms false fs, Fm.WayO fs (rowOf nms x)
  | [], _, x, hx => by rw [Fm.laidN] at hx; cases hx
  | f :: fs, h, x, hx => by
    rw [Fm.laidN] at hx
    rw [Fm.namesL] at h
    rw [Fm.WayO]
    exact Fm.laidRO_way fs (fun s hs => h s (List.mem_append_right _ hs)) _ f.Way (fun y hy => Fm.laid_way f (fun s hs => h s (List.mem_append_left _ hs)) y hy) x hx
theorem Fm.laidRA_way {nms : List Str} : ∀ (fs : List Fm), (∀ s ∈ Fm.namesL fs, s ∈ nms) → ∀ (acc : List Vec) (A : Row → Prop), (∀ y ∈ acc, y.length = nms.length ∧ A (rowOf nms y)) → ∀ x ∈ Fm.laidR nms true acc fs, Both A (Fm.WayA fs) (rowOf nms x)
  | [], _, acc, A, ha, x, hx => by
    rw [Fm.laidR] at hx
    exact ⟨rowOf nms x, fzero, (ha x hx).2, by rw [Fm.WayA], (fadd_zero _).symm⟩
  | f :: fs, h, acc, A, ha, x, hx => by
    rw [Fm.laidR, if_pos rfl] at hx
    rw [Fm.namesL] at h
    have q := Fm.laidRA_way fs (fun s hs => h s (List.mem_append_right _ hs)) _ (Both A f.Way) (fun y hy => by
      obtain ⟨u, hu, v, hv, rfl⟩ := mem_sumsL.mp hy
      have lv := Fm.laid_rows nms f v hv
      refine ⟨addV_len (ha u hu).1 lv, ?_⟩
      rw [rowOf_add (ha u hu).1 lv]
      exact ⟨_, _, (ha u hu).2, Fm.laid_way f (fun s hs => h s (List.mem_append_left _ hs)) v hv, rfl⟩) x hx
    obtain ⟨b, c, h1, h2, e1⟩ := both_assoc.mp q
    exact ⟨b, c, h1, by rw [Fm.WayA]; exact h2, e1⟩
theorem Fm.laidRO_way {nms : List Str} : ∀ (fs : List Fm), (∀ s ∈ Fm.namesL fs, s ∈ nms) → ∀ (acc : List Vec) (A : Row → Prop), (∀ y ∈ acc, A (rowOf nms y)) → ∀ x ∈ Fm.laidR nms false acc fs, Either A (Fm.WayO fs) (rowOf nms x)
  | [], _, acc, A, ha, x, hx => by
    rw [Fm.laidR] at hx
    exact .inl (ha x hx)
  | f :: fs, h, acc, A, ha, x, hx => by
    rw [Fm.laidR, if_neg Bool.false_ne_true] at hx
    rw [Fm.namesL] at h
    have q := Fm.laidRO_way fs (fun s hs => h s (List.mem_append_right _ hs)) _ (Either A f.Way) (fun y hy => by
      rcases mem_insL.mp hy with hy | hy
      · exact .inl (ha y hy)
      · exact .inr (Fm.laid_way f (fun s hs => h s (List.mem_append_left _ hs)) y hy)) x hx
    rcases q with (q | q) | q
    · exact .inl q
    · exact .inr (by rw [Fm.WayO]; exact .inl q)
    · exact .inr (by rw [Fm.WayO]; exact .inr q)
end
mutual
theorem Fm.way_laid {nms : List Str} : ∀ (f : Fm), (∀ s ∈ f.names, s ∈ nms) → f.ok → ∀ a, f.Way a → ∃ x ∈ f.laid nms, rowOf nms x = a
  | .kind nm, h, _, a, ha => by
    rw [Fm.Way] at ha
    rw [Fm.laid]
    have hm : nm ∈ nms := h nm (by rw [Fm.names]; exact .head _)
    exact ⟨_, .head _, by rw [ha]; exact rowOf_sup (a := fun s => if s = nm then 1 else 0) fun s hs => if_neg fun z => hs (by rw [z]; exact hm)⟩
  | .many m f, h, ho, a, ha => by
    rw [Fm.ok] at ho
    rw [Fm.laid]
    rw [Fm.Way] at ha
    rw [Fm.names] at h
    exact way_powL (Fm.laid_rows nms f) (fun b hb => Fm.way_laid f h ho.2.2 b hb) ha
  | .node w fs, h, ho, a, ha => by
    rw [Fm.ok] at ho
    rw [Fm.laid]
    rw [Fm.Way] at ha
    rw [Fm.names] at h
    cases w with
    | true => rw [if_pos rfl] at ha; exact Fm.way_laidNA fs h ho.1 ho.2.2 a ha
    | false => rw [if_neg Bool.false_ne_true] at ha; exact Fm.way_laidNO fs h ho.2.2 a ha
theorem Fm.way_laidNA {nms : List Str} : ∀ (fs : List Fm), (∀ s ∈ Fm.namesL fs, s ∈ nms) → fs ≠ [] → Fm.okL fs → ∀ a, Fm.WayA fs a → ∃ x ∈ Fm.laidN nms true fs, rowOf nms x = a
  | [], _, hne, _, a, ha => absurd rfl hne
  | f :: fs, h, _, ho, a, ha => by
    rw [Fm.laidN]
    rw [Fm.namesL] at h
    rw [Fm.okL] at ho
    rw [Fm.WayA] at ha
    obtain ⟨b, c, h1, h2, rfl⟩ := ha
    obtain ⟨y, hy, ey⟩ := Fm.way_laid f (fun s hs => h s (List.mem_append_left _ hs)) ho.1 b h1
    exact Fm.way_laidRA fs (fun s hs => h s (List.mem_append_right _ hs)) ho.2 _ (Fm.laid_rows nms f) y hy b c ey h2
theorem Fm.way_laidNO {nms : List Str} : ∀ (fs : List Fm), (∀ s ∈ Fm.namesL fs, s ∈ nms) → Fm.okL fs → ∀ a, Fm.WayO fs a → ∃ x ∈ Fm.laidN nms false fs, rowOf nms x = a
  | [], _, _, a, ha => by rw [Fm.WayO] at ha; exact ha.elim
  | f :: fs, h, ho, a, ha => by
    rw [Fm.laidN]
    rw [Fm.namesL] at h
    rw [Fm.okL] at ho
    rw [Fm.WayO] at ha
    rcases ha with ha | ha
    · obtain ⟨y, hy, ey⟩ := Fm.way_laid f (fun s hs => h s (List.mem_append_left _ hs)) ho.1 a ha
      exact ⟨y, Fm.laidRO_acc fs _ y hy, ey⟩
    · exact Fm.way_laidRO fs (fun s hs => h s (List.mem_append_right _ hs)) ho.2 _ a ha
theorem Fm.way_laidRA {nms : List Str} : ∀ (fs : List Fm), (∀ s ∈ Fm.namesL fs, s ∈ nms) → Fm.okL fs → ∀ (acc : List Vec), (∀ y ∈ acc, y.length = nms.length) → ∀ (y : Vec), y ∈ acc → ∀ (b c : Row), rowOf nms y = b → Fm.WayA fs c → ∃ x ∈ Fm.laidR nms true acc fs, rowOf nms x = fadd b c
  | [], _, _, acc, hl, y, hy, b, c, ey, hc => by
    rw [Fm.WayA] at hc
    rw [Fm.laidR]
    exact ⟨y, hy, by rw [ey, hc, fadd_zero]⟩
  | f :: fs, h, ho, acc, hl, y, hy, b, c, ey, hc => by
    rw [Fm.namesL] at h
    rw [Fm.okL] at ho
    rw [Fm.WayA] at hc
    obtain ⟨d, e, h1, h2, rfl⟩ := hc
    obtain ⟨z, hz, ez⟩ := Fm.way_laid f (fun s hs => h s (List.mem_append_left _ hs)) ho.1 d h1
    rw [Fm.laidR, if_pos rfl, ← fadd_assoc]
    have lz := Fm.laid_rows nms f z hz
    exact Fm.way_laidRA fs (fun s hs => h s (List.mem_append_right _ hs)) ho.2 _ (sumsL_rows hl (Fm.laid_rows nms f)) (addV y z) (mem_sumsL.mpr ⟨y, hy, z, hz, rfl⟩) _ _ (by rw [rowOf_add (hl y hy) lz, ey, ez]) h2
theorem Fm.way_laidRO {nms : List Str} : ∀ (fs : List Fm), (∀ s ∈ Fm.namesL fs, s ∈ nms) → Fm.okL fs → ∀ (acc : List Vec) (a : Row), Fm.WayO fs a → ∃ x ∈ Fm.laidR nms false acc fs, rowOf nms x = a
  | [], _, _, acc, a, ha => by rw [Fm.WayO] at ha; exact ha.elim
  | f :: fs, h, ho, acc, a, ha => by
    rw [Fm.namesL] at h
    rw [Fm.okL] at ho
    rw [Fm.WayO] at ha
    rw [Fm.laidR, if_neg Bool.false_ne_true]
    rcases ha with ha | ha
    · obtain ⟨y, hy, ey⟩ := Fm.way_laid f (fun s hs => h s (List.mem_append_left _ hs)) ho.1 a ha
      exact ⟨y, Fm.laidRO_acc fs _ y (mem_insL.mpr (.inr hy)), ey⟩
    · exact Fm.way_laidRO fs (fun s hs => h s (List.mem_append_right _ hs)) ho.2 _ a ha
theorem Fm.laidRO_acc {nms : List Str} : ∀ (fs : List Fm) (acc : List Vec), ∀ x ∈ acc, x ∈ Fm.laidR nms false acc fs
  | [], acc, x, hx => by rw [Fm.laidR]; exact hx
  | f :: fs, acc, x, hx => by
    rw [Fm.laidR, if_neg Bool.false_ne_true]
    exact Fm.laidRO_acc fs _ x (mem_insL.mpr (.inl hx))
end
/-- THE LAW: a row is so many ways put together where the share says so -/
theorem Fm.known_iff {nms : List Str} {f : Fm} (hn : nms.Nodup) (hp : f.names.Perm nms) (ho : f.ok) {x : Vec} (hx : x.length = nms.length) (k : Nat) : x ∈ powL (zeroV nms.length) (f.laid nms) k ↔ (∀ i ∈ x, 0 ≤ i) ∧ f.share (rowOf nms x) = some (k : Int) := by
  have hsub : ∀ s ∈ f.names, s ∈ nms := fun s hs => hp.mem_iff.mp hs
  have hnd : f.names.Nodup := hp.nodup_iff.mpr hn
  have hiff := Fm.way_iff f ho hnd k (rowOf nms x)
  have hpos : (∀ i ∈ x, 0 ≤ i) ↔ ∀ s, 0 ≤ rowOf nms x s := by
    constructor
    · intro h s
      by_cases c : s ∈ nms
      · have := map_rowOf hn hx
        exact h _ (by rw [← this]; exact List.mem_map.mpr ⟨s, c, by rw [this]⟩)
      · rw [rowOf_out c]; exact Int.le_refl _
    · intro h i hi
      rw [← map_rowOf hn hx] at hi
      obtain ⟨s, _, rfl⟩ := List.mem_map.mp hi
      exact h s
  constructor
  · intro h
    obtain ⟨h1, h2⟩ := hiff.mp (powL_way (fun y hy => ⟨Fm.laid_rows nms f y hy, Fm.laid_way f hsub y hy⟩) h)
    exact ⟨hpos.mpr h1.2, h2⟩
  · rintro ⟨h1, h2⟩
    have h3 := hiff.mpr ⟨⟨fun s hs => rowOf_out fun z => hs (hp.mem_iff.mpr z), hpos.mp h1⟩, h2⟩
    obtain ⟨y, hy, ey⟩ := way_powL (Fm.laid_rows nms f) (fun b hb => Fm.way_laid f hsub ho b hb) h3
    have ly := powL_rows (zeroV_len nms.length) (Fm.laid_rows nms f) k y hy
    rw [← rowOf_inj hn ly hx ey]
    exact hy
end AK

/-! ## AMath3 -/
set_option Elab.async false
set_option linter.all false
set_option maxRecDepth 100000
namespace AK
open PySem PySem.Spec PyProof.Rows L2
/-! ## no way has a great amount -/
theorem nk_le {P : Row → Prop} {c : Int} (h : ∀ b, P b → ∀ s, b s ≤ c) : ∀ {k : Nat} {a : Row}, Nk P k a → ∀ s, a s ≤ (k : Int) * c
  | 0, a, ha, s => by
    rw [show a = fzero from ha]
    show (0 : Int) ≤ ((0 : Nat) : Int) * c
    omega
  | k + 1, a, ⟨b, d, h1, h2, h3⟩, s => by
    have q1 := nk_le h h1 s
    have q2 := h d h2 s
    rw [h3]
    show b s + d s ≤ _
    have : ((k + 1 : Nat) : Int) * c = (k : Int) * c + c := by rw [Int.natCast_add, Int.add_mul]; omega
    omega
mutual
theorem Fm.way_le : ∀ {r : Nat} (f : Fm), f.rm r → f.ok → f.names.Nodup → ∀ a, f.Way a → ∀ s, a s ≤ (r : Int)
  | r, .kind nm, h, _, _, a, ha, s => by
    rw [Fm.rm] at h
    rw [Fm.Way] at ha
    rw [ha]
    dsimp only
    split <;> omega
  | r, .many m f, h, ho, hn, a, ha, s => by
    rw [Fm.rm] at h
    rw [Fm.ok] at ho
    rw [Fm.Way] at ha
    rw [Fm.names] at hn
    have q := nk_le (fun b hb s => Fm.way_le f h.2.2 ho.2.2 hn b hb s) ha s
    have e : (m.toNat : Int) * ((r / m.toNat : Nat) : Int) ≤ (r : Int) := by
      rw [← Int.natCast_mul]
      have := Nat.mul_div_le r m.toNat
      omega
    omega
  | r, .node w fs, h, ho, hn, a, ha, s => by
    rw [Fm.rm] at h
    rw [Fm.ok] at ho
    rw [Fm.Way] at ha
    rw [Fm.names] at hn
    cases w with
    | true => rw [if_pos rfl] at ha; exact Fm.wayA_le fs h.2 ho.2.2 hn a ha s
    | false => rw [if_neg Bool.false_ne_true] at ha; exact Fm.wayO_le fs h.2 ho.2.2 hn a ha s
theorem Fm.wayA_le : ∀ {r : Nat} (fs : List Fm), Fm.rmL r fs → Fm.okL fs → (Fm.namesL fs).Nodup → ∀ a, Fm.WayA fs a → ∀ s, a s ≤ (r : Int)
  | r, [], _, _, _, a, ha, s => by
    rw [Fm.WayA] at ha
    rw [ha]
    show (0 : Int) ≤ r
    omega
  | r, f :: fs, h, ho, hn, a, ha, s => by
    rw [Fm.rmL] at h
    rw [Fm.okL] at ho
    rw [Fm.namesL] at hn
    rw [Fm.WayA] at ha
    obtain ⟨b, c, h1, h2, rfl⟩ := ha
    obtain ⟨n1, n2, n3⟩ := List.nodup_append.mp hn
    have q1 := Fm.way_le f h.1 ho.1 n1 b h1 s
    have q2 := Fm.wayA_le fs h.2 ho.2 n2 c h2 s
    have s1 := ((Fm.way_iff f ho.1 n1 1 b).mp (nk_one.mpr h1)).1
    have s2 := ((Fm.wayA_iff fs ho.2 n2 1 c).mp (nk_one.mpr h2)).1
    show b s + c s ≤ _
    by_cases hs : s ∈ f.names
    · rw [s2.1 s fun z => n3 s hs s z rfl]; omega
    · rw [s1.1 s hs]; omega
theorem Fm.wayO_le : ∀ {r : Nat} (fs : List Fm), Fm.rmL r fs → Fm.okL fs → (Fm.namesL fs).Nodup → ∀ a, Fm.WayO fs a → ∀ s, a s ≤ (r : Int)
  | r, [], _, _, _, a, ha, s => by rw [Fm.WayO] at ha; exact ha.elim
  | r, f :: fs, h, ho, hn, a, ha, s => by
    rw [Fm.rmL] at h
    rw [Fm.okL] at ho
    rw [Fm.namesL] at hn
    rw [Fm.WayO] at ha
    obtain ⟨n1, n2, n3⟩ := List.nodup_append.mp hn
    rcases ha with ha | ha
    · exact Fm.way_le f h.1 ho.1 n1 a ha s
    · exact Fm.wayO_le fs h.2 ho.2 n2 a ha s
end
/-! ## one more of one kind: at most one way more -/
def at1 (u : Str) (ns : List Str) : Int := if u ∈ ns then 1 else 0
mutual
theorem Fm.share_step {a b : Row} {u : Str} (hab : ∀ s, a s ≤ b s + if s = u then 1 else 0) : ∀ (f : Fm) {j k : Int}, f.ok → f.names.Nodup → f.share b = some j → f.share a = some k → k ≤ j + at1 u f.names
  | .kind nm, j, k, _, _, hb, ha => by
    rw [Fm.share] at ha hb
    rw [← Option.some.inj ha, ← Option.some.inj hb]
    have := hab nm
    unfold at1
    rw [Fm.names]
    by_cases h : nm = u
    · rw [if_pos h] at this
      rw [if_pos (by rw [h]; exact .head _)]; exact this
    · rw [if_neg h] at this
      rw [if_neg fun z => h (List.mem_singleton.mp z).symm]; exact this
  | .many m f, j, k, ho, hn, hb, ha => by
    rw [Fm.ok] at ho
    rw [Fm.names] at hn ⊢
    have q := Fm.share_step hab f ho.2.2 hn ((share_many (by omega)).mp hb) ((share_many (by omega)).mp ha)
    have h01 : 0 ≤ at1 u f.names ∧ at1 u f.names ≤ 1 := by unfold at1; split <;> omega
    by_cases c : k ≤ j + at1 u f.names
    · exact c
    · exfalso
      have h1 : m * (j + at1 u f.names + 1) ≤ m * k := Int.mul_le_mul_of_nonneg_left (by omega) (by omega)
      rw [Int.mul_add, Int.mul_add, Int.mul_one] at h1
      have h2 : at1 u f.names ≤ m * at1 u f.names := by
        have := Int.mul_le_mul_of_nonneg_right (show (1 : Int) ≤ m by omega) h01.1
        omega
      omega
  | .node w fs, j, k, ho, hn, hb, ha => by
    rw [Fm.ok] at ho
    rw [Fm.names] at hn ⊢
    cases w with
    | true =>
      obtain ⟨lb, hb1, hb2⟩ := (share_and ho.1).mp hb
      obtain ⟨la, ha1, ha2⟩ := (share_and ho.1).mp ha
      exact Fm.shareA_step hab fs ho.1 ho.2.2 hn hb1 ha1 hb2 ha2
    | false =>
      obtain ⟨lb, hb1, hb2⟩ := share_or.mp hb
      obtain ⟨la, ha1, ha2⟩ := share_or.mp ha
      rw [← hb2, ← ha2]
      exact Fm.shareO_step hab fs ho.2.2 hn hb1 ha1
theorem Fm.shareA_step {a b : Row} {u : Str} (hab : ∀ s, a s ≤ b s + if s = u then 1 else 0) : ∀ (fs : List Fm) {lb la : List Int} {j k : Int}, fs ≠ [] → Fm.okL fs → (Fm.namesL fs).Nodup → Fm.shareL b fs = some lb → Fm.shareL a fs = some la → (∀ x ∈ lb, x = j) → (∀ x ∈ la, x = k) → k ≤ j + at1 u (Fm.namesL fs)
  | [], _, _, _, _, hne, _, _, _, _, _, _ => absurd rfl hne
  | f :: fs, lb, la, j, k, _, ho, hn, hb, ha, hb2, ha2 => by
    rw [Fm.okL] at ho
    rw [Fm.namesL] at hn ⊢
    obtain ⟨n1, n2, n3⟩ := List.nodup_append.mp hn
    obtain ⟨x, r, rfl, h1, _⟩ := shareL_cons.mp hb
    obtain ⟨y, r', rfl, h2, _⟩ := shareL_cons.mp ha
    have q := Fm.share_step hab f ho.1 n1 h1 h2
    rw [hb2 x (.head _), ha2 y (.head _)] at q
    have : at1 u f.names ≤ at1 u (f.names ++ Fm.namesL fs) := by
      unfold at1
      by_cases c : u ∈ f.names
      · rw [if_pos c, if_pos (List.mem_append_left _ c)]; exact Int.le_refl _
      · rw [if_neg c]; split <;> omega
    omega
theorem Fm.shareO_step {a b : Row} {u : Str} (hab : ∀ s, a s ≤ b s + if s = u then 1 else 0) : ∀ (fs : List Fm) {lb la : List Int}, Fm.okL fs → (Fm.namesL fs).Nodup → Fm.shareL b fs = some lb → Fm.shareL a fs = some la → la.sum ≤ lb.sum + at1 u (Fm.namesL fs)
  | [], lb, la, _, _, hb, ha => by
    rw [shareL_nil.mp hb, shareL_nil.mp ha]
    unfold at1
    show (0 : Int) ≤ 0 + _
    split <;> omega
  | f :: fs, lb, la, ho, hn, hb, ha => by
    rw [Fm.okL] at ho
    rw [Fm.namesL] at hn ⊢
    obtain ⟨n1, n2, n3⟩ := List.nodup_append.mp hn
    obtain ⟨x, r, rfl, h1, h3⟩ := shareL_cons.mp hb
    obtain ⟨y, r', rfl, h2, h4⟩ := shareL_cons.mp ha
    have q1 := Fm.share_step hab f ho.1 n1 h1 h2
    have q2 := Fm.shareO_step hab fs ho.2 n2 h3 h4
    rw [List.sum_cons, List.sum_cons]
    have : at1 u f.names + at1 u (Fm.namesL fs) ≤ at1 u (f.names ++ Fm.namesL fs) := by
      unfold at1
      by_cases c : u ∈ f.names
      · rw [if_pos c, if_neg fun z => n3 u c u z rfl, if_pos (List.mem_append_left _ c)]; omega
      · by_cases d : u ∈ Fm.namesL fs
        · rw [if_neg c, if_pos d, if_pos (List.mem_append_right _ d)]; omega
        · rw [if_neg c, if_neg d]; split <;> omega
    omega
end
/-! ## so many times a row that has a share -/
mutual
theorem Fm.share_lin {a w : Row} {g : Int} : ∀ (f : Fm) {t : Int}, f.ok → f.share w = some t → f.share (fun s => a s + g * w s) = (f.share a).map (· + g * t)
  | .kind nm, t, _, h => by
    rw [Fm.share] at h ⊢
    rw [Fm.share, ← Option.some.inj h]; rfl
  | .many m f, t, ho, h => by
    rw [Fm.ok] at ho
    have q := Fm.share_lin (a := a) (g := g) f ho.2.2 ((share_many (by omega)).mp h)
    rw [Fm.share, Fm.share, q]
    cases f.share a with
    | none => rfl
    | some i =>
      have e : g * (m * t) = m * (g * t) := by rw [← Int.mul_assoc, Int.mul_comm g m, Int.mul_assoc]
      show (if 0 < (i + g * (m * t)) % m then none else some ((i + g * (m * t)) / m)) = (if 0 < i % m then none else some (i / m)).map (· + g * t)
      rw [e, Int.add_mul_emod_self_left, Int.add_mul_ediv_left _ _ (by omega)]
      split <;> rfl
  | .node w' fs, t, ho, h => by
    rw [Fm.ok] at ho
    cases w' with
    | true =>
      obtain ⟨l, h1, h2⟩ := (share_and ho.1).mp h
      have q := Fm.shareLA_lin (a := a) (g := g) fs ho.2.2 h1 h2
      rw [Fm.share, Fm.share, q]
      cases e : Fm.shareL a fs with
      | none => rfl
      | some r =>
        have hr : r ≠ [] := fun z => ho.1 (List.length_eq_zero_iff.mp (by rw [← AK.shareL_len e, z]; rfl))
        obtain ⟨x, r', rfl⟩ := List.exists_cons_of_ne_nil hr
        show (if true = true then (if allSame ((x :: r').map (· + g * t)) = true then some (((x :: r').map (· + g * t)).headD 0) else none) else _) = (if true = true then (if allSame (x :: r') = true then some x else none) else _).map (· + g * t)
        rw [if_pos rfl, if_pos rfl]
        have e2 : allSame ((x :: r').map (· + g * t)) = allSame (x :: r') := by
          unfold allSame
          rw [List.all_map]
          congr 1
          funext y
          show decide (y + g * t = x + g * t) = decide (y = x)
          exact decide_eq_decide.mpr ⟨fun z => by omega, fun z => by omega⟩
        rw [e2]
        split <;> rfl
    | false =>
      obtain ⟨l, h1, h2⟩ := share_or.mp h
      rw [Fm.share, Fm.share]
      cases e : Fm.shareL a fs with
      | none => rw [Fm.shareLO_none (g := g) fs ho.2.2 h1 e]; rfl
      | some r =>
        obtain ⟨r', h3, h4⟩ := Fm.shareLO_lin (g := g) fs ho.2.2 h1 e
        rw [h3]
        dsimp only
        rw [if_neg Bool.false_ne_true, if_neg Bool.false_ne_true, h4, h2]; rfl
theorem Fm.shareLA_lin {a w : Row} {g : Int} : ∀ (fs : List Fm) {l : List Int} {t : Int}, Fm.okL fs → Fm.shareL w fs = some l → (∀ x ∈ l, x = t) → Fm.shareL (fun s => a s + g * w s) fs = (Fm.shareL a fs).map fun r => r.map (· + g * t)
  | [], l, t, _, _, _ => by rw [Fm.shareL, Fm.shareL]; rfl
  | f :: fs, l, t, ho, h, h2 => by
    rw [Fm.okL] at ho
    obtain ⟨x, r, rfl, h3, h4⟩ := shareL_cons.mp h
    rw [h2 x (.head _)] at h3
    rw [Fm.shareL, Fm.shareL, Fm.share_lin (a := a) (g := g) f ho.1 h3, Fm.shareLA_lin (a := a) (g := g) fs ho.2 h4 fun y hy => h2 y (.tail _ hy)]
    cases f.share a with
    | none => rfl
    | some i =>
      cases Fm.shareL a fs with
      | none => rfl
      | some r => rfl
theorem Fm.shareLO_none {a w : Row} {g : Int} : ∀ (fs : List Fm) {l : List Int}, Fm.okL fs → Fm.shareL w fs = some l → Fm.shareL a fs = none → Fm.shareL (fun s => a s + g * w s) fs = none
  | [], l, _, _, h => by rw [Fm.shareL] at h; cases h
  | f :: fs, l, ho, h, h2 => by
    rw [Fm.okL] at ho
    obtain ⟨x, r, rfl, h3, h4⟩ := shareL_cons.mp h
    rw [Fm.shareL] at h2 ⊢
    rw [Fm.share_lin (a := a) (g := g) f ho.1 h3]
    cases e : f.share a with
    | none => rfl
    | some i =>
      rw [e] at h2
      cases e2 : Fm.shareL a fs with
      | none => rw [Fm.shareLO_none (g := g) fs ho.2 h4 e2]; rfl
      | some r => rw [e2] at h2; cases h2
theorem Fm.shareLO_lin {a w : Row} {g : Int} : ∀ (fs : List Fm) {l r : List Int}, Fm.okL fs → Fm.shareL w fs = some l → Fm.shareL a fs = some r → ∃ r', Fm.shareL (fun s => a s + g * w s) fs = some r' ∧ r'.sum = r.sum + g * l.sum
  | [], l, r, _, h, h2 => ⟨[], shareL_nil.mpr rfl, by
    rw [shareL_nil.mp h, shareL_nil.mp h2]
    show (0 : Int) = 0 + g * 0
    omega⟩
  | f :: fs, l, r, ho, h, h2 => by
    rw [Fm.okL] at ho
    obtain ⟨x, lr, rfl, h3, h4⟩ := shareL_cons.mp h
    obtain ⟨y, rr, rfl, h5, h6⟩ := shareL_cons.mp h2
    obtain ⟨r', h7, h8⟩ := Fm.shareLO_lin (g := g) fs ho.2 h4 h6
    have q := Fm.share_lin (a := a) (g := g) f ho.1 h3
    rw [h5] at q
    refine ⟨(y + g * x) :: r', shareL_cons.mpr ⟨_, r', rfl, q, h7⟩, ?_⟩
    rw [List.sum_cons, List.sum_cons, List.sum_cons, h8, Int.mul_add]
    omega
end
end AK

/-! ## AMath4 -/
set_option Elab.async false
set_option linter.all false
set_option maxRecDepth 100000
namespace AK
open PySem PySem.Spec PyProof.Rows L2
/-! ## how many ways at most -/
def fN (n : Nat) : Nat := if n ≤ 4 then n else 2 ^ (n - 1)
theorem fN_le {n : Nat} (h : 1 ≤ n) : fN n ≤ 2 ^ (n - 1) := by
  unfold fN
  split
  · have : n = 1 ∨ n = 2 ∨ n = 3 ∨ n = 4 := by omega
    rcases this with rfl | rfl | rfl | rfl <;> decide
  · exact Nat.le_refl _
theorem fN_pos {n : Nat} (h : 1 ≤ n) : 1 ≤ fN n := by
  unfold fN
  split
  · exact h
  · exact Nat.one_le_two_pow
theorem fN_mul {a b : Nat} (ha : 1 ≤ a) (hb : 1 ≤ b) : fN a * fN b ≤ fN (a + b) := by
  by_cases h : a + b ≤ 4
  · have : (a = 1 ∧ b = 1) ∨ (a = 1 ∧ b = 2) ∨ (a = 1 ∧ b = 3) ∨ (a = 2 ∧ b = 1) ∨ (a = 2 ∧ b = 2) ∨ (a = 3 ∧ b = 1) := by omega
    rcases this with ⟨rfl, rfl⟩ | ⟨rfl, rfl⟩ | ⟨rfl, rfl⟩ | ⟨rfl, rfl⟩ | ⟨rfl, rfl⟩ | ⟨rfl, rfl⟩ <;> decide
  · have e : fN (a + b) = 2 ^ (a + b - 1) := if_neg h
    rw [e]
    refine Nat.le_trans (Nat.mul_le_mul (fN_le ha) (fN_le hb)) ?_
    rw [← Nat.pow_add]
    exact Nat.pow_le_pow_right (by decide) (by omega)
theorem fN_add {a b : Nat} (ha : 1 ≤ a) (hb : 1 ≤ b) : fN a + fN b ≤ fN (a + b) := by
  by_cases h : a + b ≤ 4
  · have : (a = 1 ∧ b = 1) ∨ (a = 1 ∧ b = 2) ∨ (a = 1 ∧ b = 3) ∨ (a = 2 ∧ b = 1) ∨ (a = 2 ∧ b = 2) ∨ (a = 3 ∧ b = 1) := by omega
    rcases this with ⟨rfl, rfl⟩ | ⟨rfl, rfl⟩ | ⟨rfl, rfl⟩ | ⟨rfl, rfl⟩ | ⟨rfl, rfl⟩ | ⟨rfl, rfl⟩ <;> decide
  · have e : fN (a + b) = 2 ^ (a + b - 1) := if_neg h
    rw [e]
    refine Nat.le_trans (Nat.add_le_add (fN_le ha) (fN_le hb)) ?_
    obtain ⟨a', rfl⟩ : ∃ a', a = a' + 1 := ⟨a - 1, by omega⟩
    obtain ⟨b', rfl⟩ : ∃ b', b = b' + 1 := ⟨b - 1, by omega⟩
    rw [Nat.add_sub_cancel, Nat.add_sub_cancel, show a' + 1 + (b' + 1) - 1 = (a' + b') + 1 by omega, Nat.pow_succ]
    have h1 : 2 ^ a' ≤ 2 ^ (a' + b') := Nat.pow_le_pow_right (by decide) (by omega)
    have h2 : 2 ^ b' ≤ 2 ^ (a' + b') := Nat.pow_le_pow_right (by decide) (by omega)
    omega
theorem pow_add_le (x y : Nat) : ∀ {r : Nat}, 1 ≤ r → x ^ r + y ^ r ≤ (x + y) ^ r
  | 0, h => by omega
  | 1, _ => by rw [Nat.pow_one, Nat.pow_one, Nat.pow_one]; exact Nat.le_refl _
  | r + 2, _ => by
    have ih := pow_add_le x y (r := r + 1) (by omega)
    rw [Nat.pow_succ (n := x) (m := r + 1), Nat.pow_succ (n := y) (m := r + 1), Nat.pow_succ (n := x + y) (m := r + 1)]
    refine Nat.le_trans ?_ (Nat.mul_le_mul_right _ ih)
    rw [Nat.add_mul, Nat.mul_add, Nat.mul_add]
    omega
theorem powL_len2 {z : Vec} {P : List Vec} {c : Nat} (hP : P.length ≤ c) : ∀ k, (powL z P k).length ≤ c ^ k
  | 0 => by rw [powL]; simp
  | k + 1 => by
    rw [powL, Nat.pow_succ]
    exact Nat.le_trans (sumsL_len _ _) (Nat.mul_le_mul (powL_len2 hP k) hP)
mutual
theorem Fm.laid_len2 (nms : List Str) : ∀ {r : Nat} (f : Fm), f.rm r → (f.laid nms).length ≤ fN f.names.length ^ r
  | r, .kind nm, _ => by
    rw [Fm.laid, Fm.names]
    show 1 ≤ fN 1 ^ r
    rw [show fN 1 = 1 from rfl, Nat.one_pow]
    exact Nat.le_refl _
  | r, .many m f, h => by
    rw [Fm.rm] at h
    rw [Fm.laid, Fm.names]
    refine Nat.le_trans (powL_len2 (Fm.laid_len2 nms f h.2.2) _) ?_
    rw [← Nat.pow_mul]
    exact Nat.pow_le_pow_right (fN_pos (Fm.names_pos f h.2.2).1) (Nat.div_mul_le_self _ _)
  | r, .node w fs, h => by
    rw [Fm.rm] at h
    rw [Fm.laid, Fm.names]
    exact Fm.laidN_len2 nms w fs h.1 h.2
theorem Fm.laidN_len2 (nms : List Str) (w : Bool) : ∀ {r : Nat} (fs : List Fm), fs ≠ [] → Fm.rmL r fs → (Fm.laidN nms w fs).length ≤ fN (Fm.namesL fs).length ^ r
  | r, [], h, _ => absurd rfl h
  | r, f :: fs, _, h => by
    rw [Fm.rmL] at h
    rw [Fm.laidN, Fm.namesL, List.length_append]
    exact Fm.laidR_len2 nms w fs _ _ (Fm.laid_len2 nms f h.1) (Fm.names_pos f h.1) h.2
theorem Fm.laidR_len2 (nms : List Str) (w : Bool) : ∀ {r : Nat} (fs : List Fm) (acc : List Vec) (k : Nat), acc.length ≤ fN k ^ r → (1 ≤ k ∧ 1 ≤ r) → Fm.rmL r fs → (Fm.laidR nms w acc fs).length ≤ fN (k + (Fm.namesL fs).length) ^ r
  | r, [], acc, k, h, _, _ => by rw [Fm.laidR]; exact h
  | r, f :: fs, acc, k, ha, hk, h => by
    rw [Fm.rmL] at h
    rw [Fm.laidR, Fm.namesL, List.length_append, ← Nat.add_assoc]
    have h1 := Fm.laid_len2 nms f h.1
    have h2 := Fm.names_pos f h.1
    refine Fm.laidR_len2 nms w fs _ _ ?_ ⟨by omega, hk.2⟩ h.2
    cases w with
    | true =>
      refine Nat.le_trans (sumsL_len _ _) (Nat.le_trans (Nat.mul_le_mul ha h1) ?_)
      rw [← Nat.mul_pow]
      exact Nat.pow_le_pow_left (fN_mul hk.1 h2.1) _
    | false =>
      refine Nat.le_trans (insL_len _ _) (Nat.le_trans (Nat.add_le_add ha h1) (Nat.le_trans (pow_add_le _ _ hk.2) ?_))
      exact Nat.pow_le_pow_left (fN_add hk.1 h2.1) _
end
theorem Fm.laid_500 (nms : List Str) {r : Nat} {f : Fm} (h : f.rm r) (hb : (f.names.length ≤ 4 ∧ r ≤ 3) ∨ (f.names.length ≤ 8 ∧ r ≤ 1)) : (f.laid nms).length ≤ 500 := by
  obtain ⟨hn, hr⟩ := Fm.names_pos f h
  refine Nat.le_trans (Fm.laid_len2 nms f h) ?_
  generalize f.names.length = n at *
  rcases hb with ⟨h1, h2⟩ | ⟨h1, h2⟩
  · have e : fN n ≤ 4 := by unfold fN; rw [if_pos h1]; exact h1
    refine Nat.le_trans (Nat.pow_le_pow_left e r) (Nat.le_trans (Nat.pow_le_pow_right (by decide) h2) (by decide))
  · obtain rfl : r = 1 := by omega
    rw [Nat.pow_one]
    refine Nat.le_trans (fN_le hn) (Nat.le_trans (Nat.pow_le_pow_right (n := 2) (by decide) (show n - 1 ≤ 7 by omega)) (by decide))
/-! ## a row beside a known one -/
theorem rowOf_bump : ∀ (nms : List Str) (x : Vec) (u : Nat) (h : u < nms.length) (s : Str), rowOf nms (x.set u (x.getD u 0 + 1)) s ≤ rowOf nms x s + if s = nms[u] then 1 else 0
  | [], x, u, h, s => absurd h (Nat.not_lt_zero _)
  | n :: nms, [], u, h, s => by
    rw [List.set_nil]
    split <;> omega
  | n :: nms, y :: ys, 0, h, s => by
    show rowOf (n :: nms) ((y + 1) :: ys) s ≤ rowOf (n :: nms) (y :: ys) s + if s = n then 1 else 0
    rw [rowOf_cons, rowOf_cons]
    by_cases c : n = s
    · rw [if_pos c, if_pos c, if_pos c.symm]; omega
    · rw [if_neg c, if_neg c, if_neg fun z => c z.symm]; omega
  | n :: nms, y :: ys, u + 1, h, s => by
    have ih := rowOf_bump nms ys u (by simpa using h) s
    show rowOf (n :: nms) (y :: ys.set u (ys.getD u 0 + 1)) s ≤ rowOf (n :: nms) (y :: ys) s + if s = nms[u]'(by simpa using h) then 1 else 0
    rw [rowOf_cons, rowOf_cons]
    by_cases c : n = s
    · rw [if_pos c, if_pos c]; split <;> omega
    · rw [if_neg c, if_neg c]; exact ih
theorem rowOf_drop : ∀ (nms : List Str) (x : Vec) (u : Nat) (s : Str), rowOf nms (x.set u (x.getD u 0 - 1)) s ≤ rowOf nms x s
  | [], x, u, s => by rw [rowOf_nil, rowOf_nil]; exact Int.le_refl _
  | n :: nms, [], u, s => by rw [List.set_nil]; exact Int.le_refl _
  | n :: nms, y :: ys, 0, s => by
    show rowOf (n :: nms) ((y - 1) :: ys) s ≤ rowOf (n :: nms) (y :: ys) s
    rw [rowOf_cons, rowOf_cons]
    by_cases c : n = s
    · rw [if_pos c, if_pos c]; omega
    · rw [if_neg c, if_neg c]; exact Int.le_refl _
  | n :: nms, y :: ys, u + 1, s => by
    have ih := rowOf_drop nms ys u s
    show rowOf (n :: nms) (y :: ys.set u (ys.getD u 0 - 1)) s ≤ rowOf (n :: nms) (y :: ys) s
    rw [rowOf_cons, rowOf_cons]
    by_cases c : n = s
    · rw [if_pos c, if_pos c]; exact Int.le_refl _
    · rw [if_neg c, if_neg c]; exact ih
theorem mem_set {x : Vec} {u : Nat} {v : Int} (h : ∀ i ∈ x, 0 ≤ i) (hv : 0 ≤ v) : ∀ i ∈ x.set u v, 0 ≤ i := fun i hi => by
  rcases List.mem_or_eq_of_mem_set hi with h1 | h1
  · exact h i h1
  · rw [h1]; exact hv
section
variable {nms : List Str} {f : Fm}
theorem uniq_laid (hn : nms.Nodup) (hp : f.names.Perm nms) (ho : f.ok) : Uniq (zeroV nms.length) (f.laid nms) := fun x i j h1 h2 => by
  have lx := powL_rows (zeroV_len nms.length) (Fm.laid_rows nms f) i x h1
  have e1 := ((Fm.known_iff hn hp ho lx i).mp h1).2
  have e2 := ((Fm.known_iff hn hp ho lx j).mp h2).2
  rw [e1] at e2
  have := Option.some.inj e2
  omega
/-- a row not much above a known one has the share that the known rows tell -/
theorem near_due (hn : nms.Nodup) (hp : f.names.Perm nms) (ho : f.ok) {x y : Vec} {j k : Nat} (hx : x ∈ powL (zeroV nms.length) (f.laid nms) j) (hj : j < k) (hy : y.length = nms.length) (hpos : ∀ i ∈ y, 0 ≤ i) {u : Str} (hle : ∀ s, rowOf nms y s ≤ rowOf nms x s + if s = u then 1 else 0) :
    f.share (rowOf nms y) = lookI (knownL (zeroV nms.length) (f.laid nms) k) y := by
  have lx := powL_rows (zeroV_len nms.length) (Fm.laid_rows nms f) j x hx
  have ex := ((Fm.known_iff hn hp ho lx j).mp hx).2
  have hnd : f.names.Nodup := hp.nodup_iff.mpr hn
  cases e : lookI (knownL (zeroV nms.length) (f.laid nms) k) y with
  | some d =>
    obtain ⟨i, _, rfl, h3⟩ := mem_knownL.mp (lookI_some e)
    exact ((Fm.known_iff hn hp ho hy i).mp h3).2
  | none =>
    cases es : f.share (rowOf nms y) with
    | none => rfl
    | some d =>
      exfalso
      have hpos2 : ∀ s, 0 ≤ rowOf nms y s := fun s => by
        by_cases c : s ∈ nms
        · have := map_rowOf hn hy
          exact hpos _ (by rw [← this]; exact List.mem_map.mpr ⟨s, c, by rw [this]⟩)
        · rw [rowOf_out c]; exact Int.le_refl _
      have h0 := Fm.share_nonneg hpos2 f ho es
      have h1 := Fm.share_step hle f ho hnd ex es
      have h2 : at1 u f.names ≤ 1 := by unfold at1; split <;> omega
      obtain ⟨dn, rfl⟩ := Int.eq_ofNat_of_zero_le h0
      have h3 := (Fm.known_iff hn hp ho hy dn).mpr ⟨hpos, es⟩
      exact lookI_none e _ (mem_knownL.mpr ⟨dn, by omega, rfl, h3⟩)
theorem way_bound (hn : nms.Nodup) (hp : f.names.Perm nms) (ho : f.ok) {r : Nat} (hr : f.rm r) (h60 : r ≤ 60) {x : Vec} (hx : x ∈ powL (zeroV nms.length) (f.laid nms) 1) : ∀ i ∈ x, 0 ≤ i ∧ i ≤ 60 := fun i hi => by
  have lx := powL_rows (zeroV_len nms.length) (Fm.laid_rows nms f) 1 x hx
  have hnd : f.names.Nodup := hp.nodup_iff.mpr hn
  refine ⟨((Fm.known_iff hn hp ho lx 1).mp hx).1 i hi, ?_⟩
  have hw := nk_one.mp (powL_way (fun y hy => ⟨Fm.laid_rows nms f y hy, Fm.laid_way f (fun s hs => hp.mem_iff.mp hs) y hy⟩) hx)
  rw [← map_rowOf hn lx] at hi
  obtain ⟨s, _, rfl⟩ := List.mem_map.mp hi
  have := Fm.way_le f hr ho hnd _ hw s
  omega
theorem way_one {x : Vec} (hx : x ∈ f.laid nms) : x ∈ powL (zeroV nms.length) (f.laid nms) 1 := by
  rw [powL, powL]
  refine mem_sumsL.mpr ⟨zeroV nms.length, .head _, x, hx, ?_⟩
  have lx := Fm.laid_rows nms f x hx
  unfold addV zeroV
  apply List.ext_getElem
  · rw [List.length_zipWith, List.length_replicate, lx, Nat.min_self]
  · intro i h1 h2
    rw [List.getElem_zipWith, List.getElem_replicate]
    omega
/-- so many times a way, beside a row -/
theorem beside_share (hn : nms.Nodup) (hp : f.names.Perm nms) (ho : f.ok) {x w : Vec} (hx : x.length = nms.length) (hw : w ∈ f.laid nms) (g : Int) : f.share (rowOf nms (addV x (w.map (g * ·)))) = (f.share (rowOf nms x)).map (· + g) := by
  have lw := Fm.laid_rows nms f w hw
  rw [rowOf_add hx (by rw [List.length_map]; exact lw), rowOf_mul]
  have e := ((Fm.known_iff hn hp ho lw 1).mp (way_one hw)).2
  have q := Fm.share_lin (a := rowOf nms x) (g := g) f ho e
  rw [show g * ((1 : Nat) : Int) = g by omega] at q
  exact q
end
theorem perm_map {α β : Type} {fn : α → β} (gn : β → α) (hg : ∀ x, gn (fn x) = x) {l : List β} {xs : List α} (h : l.Perm (xs.map fn)) : ∃ ys : List α, l = ys.map fn ∧ ys.Perm xs := by
  refine ⟨l.map gn, ?_, ?_⟩
  · rw [List.map_map]
    refine ((List.map_congr_left fun x hx => ?_).trans (List.map_id _)).symm
    obtain ⟨y, _, rfl⟩ := List.mem_map.mp (h.mem_iff.mp hx)
    show fn (gn (fn y)) = fn y
    rw [hg]
  · have h2 := h.map gn
    rw [List.map_map] at h2
    refine h2.trans (List.Perm.of_eq ((List.map_congr_left fun x _ => ?_).trans (List.map_id _)))
    exact hg x
def unS : V → Str
  | .str s => s
  | _ => ""
theorem v_iteC {b : Bool} {x y : V} {σ : L2.St} {H : Hp} {Q : VK} (q : Q (if b = true then x else y) H) : if b = true then tC x σ H Q else tC y σ H Q := by
  cases b
  · exact q
  · exact q
/-! ## what the law's step beside a row may give -/
def Turned (x y : Vec) : Prop := y = x ∨ (∃ u, u < x.length ∧ y = x.set u (x.getD u 0 + 1)) ∨ ∃ y0, ((∃ u, u < x.length ∧ y0 = x.set u (x.getD u 0 + 1)) ∨ y0 = x) ∧ ∃ d, d < x.length ∧ 0 < y0.getD d 0 ∧ y = y0.set d (y0.getD d 0 - 1)
theorem getD_nonneg {x : Vec} (h : ∀ i ∈ x, 0 ≤ i) (u : Nat) : 0 ≤ x.getD u 0 := by
  by_cases c : u < x.length
  · have : x.getD u 0 = x[u] := by simp [List.getD, c]
    rw [this]; exact h _ (List.getElem_mem c)
  · have : x.getD u 0 = 0 := by simp [List.getD, c]
    rw [this]; exact Int.le_refl _
theorem turned_near {nms : List Str} {x y : Vec} (hx : x.length = nms.length) (h1 : 1 ≤ nms.length) (hpos : ∀ i ∈ x, 0 ≤ i) (h : Turned x y) : y.length = nms.length ∧ (∀ i ∈ y, 0 ≤ i) ∧ ∃ u, ∀ s, rowOf nms y s ≤ rowOf nms x s + if s = u then 1 else 0 := by
  have up : ∀ y0, ((∃ u, u < x.length ∧ y0 = x.set u (x.getD u 0 + 1)) ∨ y0 = x) → y0.length = nms.length ∧ (∀ i ∈ y0, 0 ≤ i) ∧ ∃ u, ∀ s, rowOf nms y0 s ≤ rowOf nms x s + if s = u then 1 else 0 := by
    rintro y0 (⟨u, hu, rfl⟩ | rfl)
    · refine ⟨by rw [List.length_set, hx], mem_set hpos ?_, nms[u]'(by omega), fun s => rowOf_bump nms x u (by omega) s⟩
      have := getD_nonneg hpos u
      omega
    · exact ⟨hx, hpos, nms[0]'(by omega), fun s => by split <;> omega⟩
  rcases h with rfl | h | ⟨y0, h2, d, hd, hd0, rfl⟩
  · exact up _ (.inr rfl)
  · exact up _ (.inl h)
  · obtain ⟨h3, h4, u, h5⟩ := up y0 h2
    refine ⟨by rw [List.length_set, h3], mem_set h4 (by omega), u, fun s => ?_⟩
    exact Int.le_trans (rowOf_drop nms y0 d s) (h5 s)
def unI : V → Int
  | .int i => i
  | _ => 0
def valAt (H : Hp) (kvs : List (Vec × Int)) (b : Addr) : Int := match H b with
  | some (.tup us) => (lookI kvs (us.map unI)).getD 0
  | _ => 0
theorem valAt_of {H : Hp} {kvs : List (Vec × Int)} {b : Addr} {x : Vec} {j : Int} (h : H b = some (.tup (x.map V.int))) (e : lookI kvs x = some j) : valAt H kvs b = j := by
  unfold valAt
  rw [h]
  have : (x.map V.int).map unI = x := by
    rw [List.map_map]
    exact (List.map_congr_left fun _ _ => rfl).trans (List.map_id x)
  dsimp only
  rw [this, e]; rfl
section
variable {σ : L2.St} {H : Hp} {Q : VK}
theorem v_dget2T {a b : Addr} {kvs : List (Vec × Int)} {k : Vec} (e : H a = some (.dT (dTo V.int kvs))) (eb : H b = some (.tup (k.map V.int))) (q : Q (ov (lookI kvs k)) H) : ∃ o, DGet H a (.ref b) o ∧ Q (o.getD .non) H :=
  ⟨_, DGet.t e (by rw [kV_kOf]; exact eb), by
    rw [valV_dTo]
    cases h : lookI kvs k with
    | none => rw [h] at q; exact q
    | some i => rw [h] at q; exact q⟩
theorem dgetT {β : Type} {g : β → V} {a b : Addr} {kvs : List (Vec × β)} {k : Vec} {x : β} (e : H a = some (.dT (dTo g kvs))) (eb : H b = some (.tup (k.map V.int))) (hx : lookI kvs k = some x) : DGet H a (.ref b) (some (g x)) := by
  have := DGet.t (H := H) (b := b) (k := kOf k) e (by rw [kV_kOf]; exact eb)
  rw [valV_dTo, hx] at this; exact this
theorem dget2_eq (kvs : List (Vec × Int)) (k : Vec) : (valV (dTo V.int kvs) (kOf k)).getD .non = ov (lookI kvs k) := by
  rw [valV_dTo]
  cases lookI kvs k <;> rfl
theorem v_iteO {i j : Nat} {due : Option Int} {gr : Int} (h1 : σ[i]? = some (some (ov due))) (h2 : σ[j]? = some (some (.int gr))) (q : Q (ov (due.map (· + gr))) H) : if decide (ov due = V.non) = true then tC V.non σ H Q else tOp (rI0 fun i j => V.int (i + j)) (tVar i) (tVar j) σ H Q := by
  cases due with
  | none => exact v_true (show Q V.non H from q)
  | some d =>
    refine v_dec (fun c => (by cases c)) (fun _ => ?_)
    exact v_op (v_var h1 (v_var h2 (v_I0 q)))
theorem v_dgetR {td ty : TE} {R : VK} (q : td σ H fun x H1 => ty σ H1 fun y H2 => ∃ a v, x = .ref a ∧ DGet H2 a y (some v) ∧ R v H2) : tDGet td ty σ H R := q
theorem v_callK0 {m : Nat} {sp : Sp} {gV : List V → List V → List V} {E : XK} {tk : TA} (q : tk σ H fun zs H2 => zs.length = m ∧ sp (gV [] zs) H2 Q E) : tCallK0 m sp gV E tk σ H Q := q
theorem v_allT {K : PySem.W.Frag} {α : Type} {a : Addr} {bs : List α} (h : H a = some (.lst (bs.map fun _ => V.bl true))) (q : Q (.bl true) H) : rAll K [.ref a] H Q := by
  refine ⟨a, bs.map fun _ => true, rfl, SqL.of (by rw [h, List.map_map]; rfl), ?_⟩
  have e : (bs.map fun _ => true).all id = true := List.all_eq_true.mpr fun x hx => by obtain ⟨_, _, rfl⟩ := List.mem_map.mp hx; rfl
  rw [e]; exact q
end
end AK

/-! ## ADeep -/
set_option Elab.async false
set_option linter.all false
set_option maxRecDepth 100000
namespace AK
open PySem PySem.Spec PyProof.Rows L2
/-! ## the law's fixed deep formula -/
def manyIf (m : Int) (f : Fm) : Fm := if m = 1 then f else .many m f
theorem share_manyIf {a : Row} {m : Int} {f : Fm} {k : Int} (hm : 0 < m) : (manyIf m f).share a = some k ↔ f.share a = some (m * k) := by
  unfold manyIf
  split
  · rename_i h
    rw [h, Int.one_mul]
  · exact share_many hm
theorem manyIf_names (m : Int) (f : Fm) : (manyIf m f).names = f.names := by
  unfold manyIf
  split
  · rfl
  · rw [Fm.names]
theorem manyIf_ok {m : Int} {f : Fm} (h1 : 1 ≤ m) (h2 : m ≤ 60) (h : f.ok) : (manyIf m f).ok := by
  unfold manyIf
  split
  · exact h
  · rw [Fm.ok]; exact ⟨by omega, h2, h⟩
theorem manyIf_depth (m : Int) (f : Fm) : (manyIf m f).depth ≤ f.depth + 1 := by
  unfold manyIf
  split
  · omega
  · rw [Fm.depth]; omega
def in1 (k2 k3 : Str) : Fm := .node true [.kind k2, .kind k3]
def in2 (th : Int) (k1 k2 k3 : Str) : Fm := .node false [.kind k1, manyIf th (in1 k2 k3)]
def in3 (se th : Int) (k0 k1 k2 k3 : Str) : Fm := .node true [manyIf se (in2 th k1 k2 k3), .kind k0]
def deepFm (fi se th : Int) (k0 k1 k2 k3 : Str) : Fm := .many fi (in3 se th k0 k1 k2 k3)
theorem deep_names (fi se th : Int) (k0 k1 k2 k3 : Str) : (deepFm fi se th k0 k1 k2 k3).names = [k1, k2, k3, k0] := by
  unfold deepFm in3 in2 in1
  simp [Fm.names, Fm.namesL, manyIf_names]
theorem deep_ok {fi se th : Int} {k0 k1 k2 k3 : Str} (h1 : 2 ≤ fi) (h2 : fi ≤ 60) (h3 : 1 ≤ se) (h4 : se ≤ 60) (h5 : 1 ≤ th) (h6 : th ≤ 60) : (deepFm fi se th k0 k1 k2 k3).ok := by
  unfold deepFm in3
  rw [Fm.ok, Fm.ok, Fm.okL, Fm.okL, Fm.okL, Fm.ok]
  refine ⟨h1, h2, List.cons_ne_nil _ _, by simp, manyIf_ok h3 h4 ?_, trivial, trivial⟩
  unfold in2
  rw [Fm.ok, Fm.okL, Fm.okL, Fm.okL, Fm.ok]
  refine ⟨List.cons_ne_nil _ _, by simp, trivial, manyIf_ok h5 h6 ?_, trivial⟩
  unfold in1
  rw [Fm.ok, Fm.okL, Fm.okL, Fm.okL, Fm.ok, Fm.ok]
  exact ⟨List.cons_ne_nil _ _, by simp, trivial, trivial, trivial⟩
theorem deep_depth (fi se th : Int) (k0 k1 k2 k3 : Str) : (deepFm fi se th k0 k1 k2 k3).depth ≤ 11 := by
  have h1 : (in1 k2 k3).depth ≤ 2 := by unfold in1; simp [Fm.depth, Fm.depthL]
  have h2 := manyIf_depth th (in1 k2 k3)
  have h3 : (in2 th k1 k2 k3).depth ≤ 4 := by unfold in2; simp only [Fm.depth, Fm.depthL]; omega
  have h4 := manyIf_depth se (in2 th k1 k2 k3)
  have h5 : (in3 se th k0 k1 k2 k3).depth ≤ 6 := by unfold in3; simp only [Fm.depth, Fm.depthL]; omega
  unfold deepFm
  rw [Fm.depth]
  omega
theorem share_pair {a : Row} {f g : Fm} {k : Int} : (Fm.node true [f, g]).share a = some k ↔ f.share a = some k ∧ g.share a = some k := by
  rw [share_and (List.cons_ne_nil _ _)]
  constructor
  · rintro ⟨l, h, h2⟩
    obtain ⟨x, r, rfl, h3, h4⟩ := shareL_cons.mp h
    obtain ⟨y, r', rfl, h5, _⟩ := shareL_cons.mp h4
    rw [h3, h5, h2 x (.head _), h2 y (.tail _ (.head _))]
    exact ⟨rfl, rfl⟩
  · rintro ⟨h1, h2⟩
    refine ⟨[k, k], shareL_cons.mpr ⟨k, [k], rfl, h1, shareL_cons.mpr ⟨k, [], rfl, h2, shareL_nil.mpr rfl⟩⟩, fun x hx => ?_⟩
    simpa using hx
theorem share_pairO {a : Row} {f g : Fm} {k : Int} : (Fm.node false [f, g]).share a = some k ↔ ∃ x y, f.share a = some x ∧ g.share a = some y ∧ x + y = k := by
  rw [share_or]
  constructor
  · rintro ⟨l, h, h2⟩
    obtain ⟨x, r, rfl, h3, h4⟩ := shareL_cons.mp h
    obtain ⟨y, r', rfl, h5, h6⟩ := shareL_cons.mp h4
    rw [shareL_nil.mp h6] at h2
    exact ⟨x, y, h3, h5, by simpa using h2⟩
  · rintro ⟨x, y, h1, h2, h3⟩
    exact ⟨[x, y], shareL_cons.mpr ⟨x, [y], rfl, h1, shareL_cons.mpr ⟨y, [], rfl, h2, shareL_nil.mpr rfl⟩⟩, by simpa using h3⟩
theorem share_kind {a : Row} {n : Str} {k : Int} : (Fm.kind n).share a = some k ↔ a n = k := by
  rw [Fm.share]
  exact ⟨fun h => Option.some.inj h, fun h => by rw [h]⟩
theorem deep_share {a : Row} {fi se th : Int} {k0 k1 k2 k3 : Str} {k : Int} (h1 : 0 < fi) (h2 : 0 < se) (h3 : 0 < th) :
    (deepFm fi se th k0 k1 k2 k3).share a = some k ↔ a k0 = fi * k ∧ ∃ y, a k2 = th * y ∧ a k3 = th * y ∧ a k1 + y = se * (fi * k) := by
  unfold deepFm in3
  rw [share_many h1, share_pair, share_manyIf h2, share_kind]
  unfold in2
  rw [share_pairO]
  constructor
  · rintro ⟨⟨x, y, h4, h5, h6⟩, h7⟩
    rw [share_kind] at h4
    rw [share_manyIf h3] at h5
    unfold in1 at h5
    rw [share_pair, share_kind, share_kind] at h5
    exact ⟨h7, y, h5.1, h5.2, by rw [h4]; exact h6⟩
  · rintro ⟨h7, y, h8, h9, h10⟩
    refine ⟨⟨a k1, y, share_kind.mpr rfl, (share_manyIf h3).mpr ?_, h10⟩, h7⟩
    unfold in1
    exact share_pair.mpr ⟨share_kind.mpr h8, share_kind.mpr h9⟩
structure Tri (f s t : Int) : Prop where
  f1 : 2 ≤ f
  f2 : f ≤ 60
  s1 : 1 ≤ s
  t1 : 1 ≤ t
  fs : f * s ≤ 60
  fst : f * s * t ≤ 60
  s2 : s ≤ 60
  t2 : t ≤ 60
def goodRow (f s t r0 r1 r2 r3 : Int) : Prop := r0 % f = 0 ∧ r2 = r3 ∧ r2 % t = 0 ∧ r1 + r2 / t = f * s * (r0 / f)
theorem deep_due {a : Row} {f s t : Int} {k0 k1 k2 k3 : Str} (T : Tri f s t) (b : Bool) (hb : b = true ↔ goodRow f s t (a k0) (a k1) (a k2) (a k3)) :
    (deepFm f s t k0 k1 k2 k3).share a = if b = true then some (a k0 / f) else none := by
  obtain ⟨f1, f2, s1, t1, fs, fst, s2, t2⟩ := T
  have key := fun k => deep_share (a := a) (k0 := k0) (k1 := k1) (k2 := k2) (k3 := k3) (k := k) (show 0 < f by omega) (show 0 < s by omega) (show 0 < t by omega)
  by_cases g : b = true
  · rw [if_pos g]
    obtain ⟨h1, h2, h3, h4⟩ := hb.mp g
    refine (key _).mpr ⟨?_, a k2 / t, ?_, ?_, ?_⟩
    · exact (Int.mul_ediv_cancel' (Int.dvd_of_emod_eq_zero h1)).symm
    · exact (Int.mul_ediv_cancel' (Int.dvd_of_emod_eq_zero h3)).symm
    · rw [← h2]; exact (Int.mul_ediv_cancel' (Int.dvd_of_emod_eq_zero h3)).symm
    · rw [h4, Int.mul_comm f s, Int.mul_assoc]
  · rw [if_neg g]
    cases e : (deepFm f s t k0 k1 k2 k3).share a with
    | none => rfl
    | some k =>
      exfalso
      obtain ⟨h1, y, h2, h3, h4⟩ := (key k).mp e
      refine g (hb.mpr ⟨?_, ?_, ?_, ?_⟩)
      · rw [h1]; exact Int.mul_emod_right _ _
      · rw [h2, h3]
      · rw [h2]; exact Int.mul_emod_right _ _
      · rw [h2, h1, Int.mul_ediv_cancel_left _ (by omega), Int.mul_ediv_cancel_left _ (by omega), h4, Int.mul_comm f s, Int.mul_assoc]
theorem deep_bound {a : Row} {f s t : Int} {k0 k1 k2 k3 : Str} (T : Tri f s t) (h0 : 0 ≤ a k1 ∧ 0 ≤ a k2) (h : (deepFm f s t k0 k1 k2 k3).share a = some 1) : (0 ≤ a k0 ∧ a k0 ≤ 60) ∧ (0 ≤ a k1 ∧ a k1 ≤ 60) ∧ (0 ≤ a k2 ∧ a k2 ≤ 60) ∧ (0 ≤ a k3 ∧ a k3 ≤ 60) := by
  obtain ⟨f1, f2, s1, t1, fs, fst, s2, t2⟩ := T
  obtain ⟨h1, y, h2, h3, h4⟩ := (deep_share (show 0 < f by omega) (show 0 < s by omega) (show 0 < t by omega)).mp h
  rw [Int.mul_one] at h1 h4
  have hy : 0 ≤ y := by
    rw [h2] at h0
    exact Int.nonneg_of_mul_nonneg_right h0.2 (by omega)
  have hy2 : y ≤ f * s := by rw [Int.mul_comm f s]; omega
  have hty : t * y ≤ f * s * t := by
    rw [Int.mul_comm (f * s) t]
    exact Int.mul_le_mul_of_nonneg_left hy2 (by omega)
  have : s * f ≤ 60 := by rw [Int.mul_comm]; exact fs
  refine ⟨by omega, by omega, by omega, by omega⟩
theorem rowOf_ix : ∀ {nms : List Str} {as : Vec} {i : Nat} (h : i < nms.length), nms.Nodup → rowOf nms as (nms[i]) = as.getD i 0
  | n :: nms, [], i, h, _ => by
    show (0 : Int) = _
    simp
  | n :: nms, x :: xs, 0, h, _ => by
    show rowOf (n :: nms) (x :: xs) n = x
    rw [rowOf_cons, if_pos rfl]
  | n :: nms, x :: xs, i + 1, h, hn => by
    obtain ⟨h1, h2⟩ := List.nodup_cons.mp hn
    have hi : i < nms.length := by simpa using h
    have ih := rowOf_ix (nms := nms) (as := xs) hi h2
    show rowOf (n :: nms) (x :: xs) (nms[i]) = xs.getD i 0
    rw [rowOf_cons, if_neg fun z => h1 (by rw [z]; exact List.getElem_mem hi)]
    exact ih
section
variable {σ : L2.St} {H : Hp} {Q : VK}
theorem v_iteM {i j : Nat} {t : Int} {f : Fm} {x : V} (h1 : σ[i]? = some (some x)) (h2 : σ[j]? = some (some (.int t))) (hf : FrmV H f x) (q : ∀ v H', Same H H' → FrmV H' (manyIf t f) v → Q v H') :
    if decide (V.int t = V.int 1) = true then tVar i σ H Q else tTup (tCons (tC (.str "many")) (tCons (tVar j) (tCons (tVar i) tNil))) σ H Q := by
  refine v_dec (fun c => ?_) (fun c => ?_)
  · refine v_var h1 (q x H (Same.refl H) ?_)
    unfold manyIf
    rw [if_pos (V.int.inj c)]
    exact hf
  · refine v_tup (v_cons (v_c (v_cons (v_var h2 (v_cons (v_var h1 (v_nil ?_)))))))
    refine v_dt (fun p H' n' e' h' => q (.ref p) H' e' ?_)
    unfold manyIf
    rw [if_neg fun z => c (by rw [z]), FrmV]
    exact ⟨p, x, rfl, h', hf.imm (Imm.of_same e')⟩
theorem v_iteB {i : Nat} {b : Bool} {d : Int} (h1 : σ[i]? = some (some (.int d))) (q : Q (ov (if b = true then some d else none)) H) : if b = true then tVar i σ H Q else tC V.non σ H Q := by
  cases b
  · exact q
  · exact v_var h1 q
end
theorem FrmV.pair {H : Hp} {w : Bool} {f g : Fm} {p q : Addr} {u v : V} (hp : H p = some (.tup [.str (wordOf w), .ref q])) (hq : H q = some (.tup [u, v])) (hu : FrmV H f u) (hv : FrmV H g v) : FrmV H (.node w [f, g]) (.ref p) := by
  rw [FrmV]
  refine ⟨p, q, [u, v], rfl, hp, hq, ?_⟩
  rw [FrmL]
  refine ⟨u, [v], rfl, hu, ?_⟩
  rw [FrmL]
  refine ⟨v, [], rfl, hv, ?_⟩
  rw [FrmL]
theorem first_at {a : Int} : ∀ {os : List Int}, a ∈ os → ∃ j : Nat, os[j]? = some a ∧ ∀ (m : Nat) (z : Int), m < j → os[m]? = some z → z ≠ a
  | [], h => by cases h
  | x :: os, h => by
    by_cases c : x = a
    · exact ⟨0, by rw [c]; rfl, fun m z hm => absurd hm (Nat.not_lt_zero _)⟩
    · have h2 : a ∈ os := by rcases List.mem_cons.mp h with e | e; exact absurd e.symm c; exact e
      obtain ⟨j, h3, h4⟩ := first_at h2
      refine ⟨j + 1, h3, fun m z hm hz => ?_⟩
      cases m with
      | zero => rw [← Option.some.inj hz]; exact c
      | succ m => exact h4 m z (by omega) hz
theorem flat_ints (ns : List Int) : (ns.map V.int).all flatV = true := List.all_eq_true.mpr fun x hx => by
  obtain ⟨s, _, rfl⟩ := List.mem_map.mp hx; rfl
theorem v_indexI {K : PySem.W.Frag} {H : Hp} {Q : VK} {l : Addr} {os : List Int} {a : Int} (h : H l = some (.lst (os.map V.int))) (ha : a ∈ os) (q : ∀ j : Nat, os[j]? = some a → Q (.int (j : Nat)) H) : rIndex K (.ref l) [.int a] H Q := by
  obtain ⟨j, h1, h2⟩ := first_at ha
  refine ⟨l, _, .int a, j, .int a, rfl, rfl, SqL.of h, rfl, flat_ints os, by rw [List.getElem?_map, h1]; rfl, beq_self_eq_true _, fun m z hm hz => ?_, q j h1⟩
  rw [List.getElem?_map] at hz
  obtain ⟨z', h3, rfl⟩ := Option.map_eq_some_iff.mp hz
  exact beq_eq_false_iff_ne.mpr (h2 m z' hm h3)
theorem ints_of {ys : List V} (h : ∀ (i : Nat) (y : V), ys[i]? = some y → ∃ z : Int, y = .int z) : ∃ zs : List Int, ys = zs.map V.int := by
  induction ys with
  | nil => exact ⟨[], rfl⟩
  | cons y r ih =>
    obtain ⟨z, e⟩ := h 0 y rfl
    obtain ⟨zs, e2⟩ := ih fun i y hy => h (i + 1) y hy
    exact ⟨z :: zs, by rw [List.map_cons, e, e2]⟩
end AK

/-! ## K14p -/
set_option Elab.async false
set_option linter.all false
set_option maxRecDepth 100000
set_option maxHeartbeats 4000000
namespace K14
open PySem PySem.Spec PyProof.Rows L2 AK
local macro_rules | `(tactic| walk_at "look") => `(tactic| first
  | assumption
  | with_reducible exact Fr.tup (by assumption) (by walk_at "look")
  | with_reducible exact Same.tup (by assumption) (by walk_at "look")
  | with_reducible exact FrmV.imm (Fr.imm (by assumption)) (by walk_at "look")
  | with_reducible exact FrmV.imm (Imm.of_same (by assumption)) (by walk_at "look")
  | with_reducible exact FrmL.imm (Fr.imm (by assumption)) (by walk_at "look")
  | with_reducible exact FrmL.imm (Imm.of_same (by assumption)) (by walk_at "look"))
local macro_rules | `(tactic| walk_at "v") => `(tactic| repeat (first
  | (with_reducible first
    | refine v_seq ?_ | refine v_next ?_ | refine v_set ?_ | refine v_ret ?_ | refine v_retN ?_ | refine v_drop ?_ | refine v_brk ?_ | refine v_if ?_
    | refine v_c ?_ | refine v_op ?_ | refine v_un ?_ | refine v_nil ?_ | refine v_cons ?_ | refine v_cb ?_ | refine v_call ?_ | refine v_test ?_ | refine v_tB ?_ | refine v_bl ?_
    | refine v_and ?_ | refine v_or ?_ | refine v_not ?_ | refine v_andV ?_ | refine v_orV ?_ | refine v_notV ?_ | refine v_ifE ?_ | refine v_true ?_ | refine v_false ?_ | refine v_ntrue ?_ | refine v_nfalse ?_
    | refine v_I0 ?_ | refine v_U ?_ | refine v_par ?_ | refine v_par2 ?_ | refine v_isII ?_ | refine v_isIB ?_ | refine v_lc ?_ | refine v_itup ?_ | refine v_ilist ?_
    | refine v_abs ?_ | refine v_max2 ?_ | refine v_int ?_ | refine v_intB ?_ | refine v_isN ?_ | refine v_notN ?_ | refine v_sl ?_ | refine v_np ?_ | refine v_pt ?_ | refine v_pi ?_ | refine v_bm ?_ | refine v_bm0 ?_ | refine v_revL ?_ | refine v_tup ?_ | refine v_lst ?_ | refine v_lc2 ?_ | refine v_dgetS ?_ | refine v_dc ?_ | refine v_zip ?_ | refine v_for ?_ | refine v_irng ?_ | refine v_asg ?_ | refine v_gsub ?_ | refine v_dnew ?_ | refine v_dput0 ?_ | refine v_din0 ?_ | refine v_dget20 ?_ | refine v_irng2 ?_ | refine v_par3 ?_ | refine v_par33 ?_ | refine v_m1 ?_)
  | ((with_reducible refine' v_var ?h ?_); (case h => with_unfolding_all rfl))
  | ((with_reducible refine v_eq ?h ?_); (case h => with_unfolding_all rfl))
  | ((with_reducible refine v_ne ?h ?_); (case h => with_unfolding_all rfl))
  | ((with_reducible refine' v_ixT ?h ?e ?_); (case h => exact SqT.of (by walk_at "look")); (case e => with_unfolding_all rfl))
  | ((with_reducible refine' v_ixL ?h ?e ?_); (case h => exact SqL.of (by assumption)); (case e => with_unfolding_all rfl))))

def topS (i : Nat) : Stmt := PySem.Challenge.pw_asmany_k14_whole_shares_of_sums_of_ways.main.body.getD i (.Pass ⟨0, 0, 0, 0⟩)
abbrev s_is_integer : Stmt := topS 2
abbrev n_is_integer : List Str := ["value"]
abbrev p_is_integer : List Str := ["value"]
theorem sc_is_integer : FnScope n_is_integer p_is_integer (defScope s_is_integer) := ⟨rfl, rfl, rfl, by decide +kernel, rfl, by decide +kernel, by decide +kernel⟩
abbrev s_is_number : Stmt := topS 3
abbrev n_is_number : List Str := ["value"]
abbrev p_is_number : List Str := ["value"]
theorem sc_is_number : FnScope n_is_number p_is_number (defScope s_is_number) := ⟨rfl, rfl, rfl, by decide +kernel, rfl, by decide +kernel, by decide +kernel⟩
abbrev s_is_amounts : Stmt := topS 4
abbrev n_is_amounts : List Str := ["value", "size", "most", "item"]
abbrev p_is_amounts : List Str := ["value", "size", "most"]
theorem sc_is_amounts : FnScope n_is_amounts p_is_amounts (defScope s_is_amounts) := ⟨rfl, rfl, rfl, by decide +kernel, rfl, by decide +kernel, by decide +kernel⟩
abbrev s_names_in : Stmt := topS 6
abbrev n_names_in : List Str := ["formula", "part", "name"]
abbrev p_names_in : List Str := ["formula"]
theorem sc_names_in : FnScope n_names_in p_names_in (defScope s_names_in) := ⟨rfl, rfl, rfl, by decide +kernel, rfl, by decide +kernel, by decide +kernel⟩
section
variable {P : Program} {w : World} {K : PySem.W.Frag} {mg : Str → Option Value} {base : Heap} {f : Addr} {fd : FuncData}
def sp_is_integer : Sp := fun vs H Q _ => ∃ i, vs = [.int i] ∧ ∀ H', Same H H' → Q (.bl true) H'
theorem ok_is_integer (F : Fun K "is_integer" "is_integer" s_is_integer f fd) (B : Bt mg) : FnOk P w K mg base CX0 1 f fd p_is_integer sp_is_integer := by
  refine F.ok sc_is_integer (fun vs H Q E h => ?_) (fun cdv A outer s H vs Q E hr h => ?_)
  · obtain ⟨i, rfl, _⟩ := h; rfl
  obtain ⟨i, rfl, q⟩ := h
  refine ⟨_, (pss_one (ps_ret (pe_and (cb bt_isinstance (crIs (K := K) rfl) B.isinstance (pa_cons (pv 0) (pa_cons (tyn bt_int B.int) pa_nil))) (pe_one (pe_not (cb bt_isinstance (crIs (K := K) rfl) B.isinstance (pa_cons (pv 0) (pa_cons (tyn bt_bool B.bool) pa_nil)))))))), ?_⟩
  walk_at "v"
  exact q _ (Same.refl _)
def sp_is_number : Sp := fun vs H Q _ => ∃ i, vs = [.int i] ∧ ∀ H', Same H H' → Q (.bl (decide (0 ≤ i))) H'
theorem ok_is_number (F : Fun K "is_number" "is_number" s_is_number f fd) (B : Bt mg) (h_is_integer : Fn P w K mg base 1 "is_integer" p_is_integer sp_is_integer) : FnOk P w K mg base CX0 2 f fd p_is_number sp_is_number := by
  refine F.ok sc_is_number (fun vs H Q E h => ?_) (fun cdv A outer s H vs Q E hr h => ?_)
  · obtain ⟨i, rfl, _⟩ := h; rfl
  obtain ⟨i, rfl, q⟩ := h
  refine ⟨_, (pss_one (ps_ret (pe_and (cal h_is_integer hr (pa_cons (pv 0) pa_nil)) (pe_one (pe_cmpR op_ge (pv 0) pe_int (nomark _)))))), ?_⟩
  walk_at "v"
  refine ⟨i, rfl, fun H1 e1 => ?_⟩
  walk_at "v"
  exact q _ e1
def sp_is_amounts : Sp := fun vs H Q _ => ∃ (a : Addr) (ns : List Int) (n m : Int), vs = [.ref a, .int n, .int m] ∧ H a = some (.tup (ns.map V.int)) ∧ ns.length ≤ 1000 ∧ ∀ H', Same H H' → Q (.bl (decide ((ns.length : Int) = n) && ns.all fun x => decide (0 ≤ x) && decide (x ≤ m))) H'
theorem ok_is_amounts (F : Fun K "is_amounts" "is_amounts" s_is_amounts f fd) (B : Bt mg) (h_is_number : Fn P w K mg base 2 "is_number" p_is_number sp_is_number) : FnOk P w K mg base CX0 3 f fd p_is_amounts sp_is_amounts := by
  refine F.ok sc_is_amounts (fun vs H Q E h => ?_) (fun cdv A outer s H vs Q E hr h => ?_)
  · obtain ⟨a, ns, n, m, rfl, _⟩ := h; rfl
  obtain ⟨a, ns, n, m, rfl, ha, hl, q⟩ := h
  refine ⟨_, (pss_cons (ps_if (PW.pt (pw_or (pt_not (pt_val (cb bt_isinstance (crIs (K := K) rfl) B.isinstance (pa_cons (pv 0) (pa_cons (tyn bt_tuple B.tuple) pa_nil))))) (pw_or1 (pt_cmpR op_ne (cb bt_len (crLen (K := K) rfl) B.len (pa_cons (pv 0) pa_nil)) (pv 1) (nomark _)))))
(pss_one (ps_ret pe_bl))
pss_nil)
(pss_one (ps_ret (cb bt_all (crAll (K := K) rfl rfl) B.all (pa_cons (pe_lc (own := [("item", 3)]) (g := gName 3) rfl sc_is_amounts.nd (piT (K := K) rfl (pv 0)) (blkOk_by (own := [("item", 3)]) (N := n_is_amounts) (sc := defScope s_is_amounts) (by decide +kernel)) (fun _ _ _ _ _ => (pg_name (i := 3) sc_is_amounts.nd rfl (Or.inl rfl))) (fun _ _ _ _ _ => pts_nil) (fun _ _ _ _ _ => (pe_and (cal h_is_number hr (pa_cons (pv 3) pa_nil)) (pe_one (pe_cmpR op_le (pv 3) (pv 2) (nomark _)))))) pa_nil))))), ?_⟩
  walk_at "v"
  refine v_isTT ha ?_
  walk_at "v"
  refine v_lenT ha ?_
  walk_at "v"
  refine v_ndec (fun c => ?_) (fun c => ?_)
  · walk_at "v"
    have e : decide ((ns.length : Int) = n) = false := decide_eq_false fun e => c (by rw [List.length_map, e])
    have q1 := q H (Same.refl _)
    rw [e] at q1
    exact q1
  · walk_at "v"
    have e : decide ((ns.length : Int) = n) = true := decide_eq_true (by have := V.int.inj c; rw [List.length_map] at this; exact this)
    refine v_lcTF none ha trivial (fun x => .bl (decide (0 ≤ x) && decide (x ≤ m))) (by omega) (fun x => rfl) (fun i H2 Qn hx f2 qn => ?_) (fun D H2 hD f2 e2 => ?_)
    · walk_at "v"
      refine ⟨i, rfl, fun H3 e3 => ?_⟩
      walk_at "v"
      have q3 := qn H3 (Fr.same trivial e3)
      refine v_dec (fun c0 => ?_) (fun c0 => ?_)
      · walk_at "v"
        rw [decide_eq_true c0] at q3
        exact q3
      · walk_at "v"
        rw [decide_eq_false c0] at q3
        exact q3
    · walk_at "v"
      refine v_all (bs := ns.map fun x => decide (0 ≤ x) && decide (x ≤ m)) (by rw [e2, List.map_map]; rfl) ?_
      have q1 := q _ f2.to
      rw [e, Bool.true_and] at q1
      rw [List.all_map]
      exact q1
def sp_names_in (n : Nat) : Sp := fun vs H Q _ => ∃ (v : V) (fm : Fm), vs = [v] ∧ FrmV H fm v ∧ fm.depth ≤ n ∧ fm.names.length ≤ 1000 ∧ ∀ p H', H p = none → Same H H' → H' p = some (.lst (fm.names.map V.str)) → Q (.ref p) H'
theorem ok_names_in (F : Fun K "names_in" "names_in" s_names_in f fd) (B : Bt mg) {n : Nat} (h_names_in : Fn P w K mg base n "names_in" p_names_in (sp_names_in n)) : FnOk P w K mg base CX0 (n + 1) f fd p_names_in (sp_names_in (n + 1)) := by
  refine F.ok sc_names_in (fun vs H Q E h => ?_) (fun cdv A outer s H vs Q E hr h => ?_)
  · obtain ⟨a, fm, rfl, _⟩ := h; rfl
  obtain ⟨v, fm, rfl, hf, hd, hl, q⟩ := h
  refine ⟨_, (pss_cons (ps_if (pt_cmpR op_eq (pe_ix (ixT (K := K) rfl) (pv 0) pe_int (fun _ _ => rfl)) pe_str (nomark _))
(pss_one (ps_ret (pe_lst (pa_cons (pe_ix (ixT (K := K) rfl) (pv 0) pe_int (fun _ _ => rfl)) pa_nil))))
pss_nil)
(pss_cons (ps_if (pt_cmpR op_eq (pe_ix (ixT (K := K) rfl) (pv 0) pe_int (fun _ _ => rfl)) pe_str (nomark _))
(pss_one (ps_ret (cal h_names_in hr (pa_cons (pe_ix (ixT (K := K) rfl) (pv 0) pe_int (fun _ _ => rfl)) pa_nil))))
pss_nil)
(pss_one (ps_ret (pe_lc2 (own := [("part", 1), ("name", 2)]) (vs1 := [2]) rfl sc_names_in.nd (piT (K := K) rfl (pe_ix (ixT (K := K) rfl) (pv 0) pe_int (fun _ _ => rfl))) (blkOk_by (own := [("part", 1), ("name", 2)]) (N := n_names_in) (sc := defScope s_names_in) (by decide +kernel)) (by decide) (fun _ _ _ _ _ => (pg_name (i := 1) sc_names_in.nd rfl (Or.inl rfl))) (fun _ _ _ _ _ => pts_nil) (fun _ _ _ _ _ => (piL (K := K) rfl (cal h_names_in hr (pa_cons (pv 1) pa_nil)))) (fun _ _ _ _ _ => (pg_name (i := 2) sc_names_in.nd rfl (Or.inl rfl))) (fun _ _ _ _ _ => pts_nil) (fun _ _ _ _ _ => (pv 2))))))), ?_⟩
  cases fm with
  | kind nm =>
    rw [FrmV] at hf
    obtain ⟨a, rfl, ha⟩ := hf
    walk_at "v"
    refine v_dec (fun _ => ?_) (fun c => absurd rfl c)
    walk_at "v"
    exact v_dl (fun p H1 np e1 hp => q p H1 np e1 hp)
  | many m g => 
    rw [FrmV] at hf
    obtain ⟨a, u, rfl, ha, hu⟩ := hf
    walk_at "v"
    refine v_dec (fun c => absurd c (by decide)) (fun _ => ?_)
    walk_at "v"
    refine v_dec (fun _ => ?_) (fun c => absurd rfl c)
    walk_at "v"
    exact ⟨u, g, rfl, hu, Nat.le_of_succ_le_succ hd, hl, q⟩
  | node b fs => 
    rw [FrmV] at hf
    obtain ⟨a, p, us, rfl, ha, hp, hu⟩ := hf
    walk_at "v"
    refine v_dec (fun c => absurd c (by cases b <;> decide)) (fun _ => ?_)
    walk_at "v"
    refine v_dec (fun c => absurd c (by cases b <;> decide)) (fun _ => ?_)
    walk_at "v"
    refine v_lc2TD none hp hu.len trivial (fun g => g.names.map V.str) ?_ (fun x => rfl) (fun x y => rfl) (fun x y => rfl) (fun i x d H2 Qn hx hd2 f2 qn => ?_) (fun D H2 hD f2 e2 => ?_)
    · rw [Fm.names, Fm.namesL_flat] at hl
      have e : (fs.flatMap fun g => g.names.map V.str).length = (fs.flatMap Fm.names).length := by
        rw [← List.map_flatMap, List.length_map]
      omega
    · walk_at "v"
      have hm : d ∈ fs := List.mem_of_getElem? hd2
      have hdd := Fm.depthL_mem hm
      rw [Fm.depth] at hd
      refine ⟨x, d, rfl, (hu.at hd2 hx).imm f2.imm, by omega, ?_, fun p3 H3 np e3 h3 => qn p3 H3 np (Fr.same trivial e3) h3⟩
      rw [Fm.names, Fm.namesL_flat] at hl
      have : d.names.length ≤ (fs.flatMap Fm.names).length := len_flat_mem hm
      omega
    · refine q D H2 hD f2.to ?_
      rw [e2, Fm.names, Fm.namesL_flat, List.map_flatMap]
end
end K14

/-! ## K14q -/
set_option Elab.async false
set_option linter.all false
set_option maxRecDepth 100000
set_option maxHeartbeats 4000000
namespace K14
open PySem PySem.Spec PyProof.Rows L2 AK
local macro_rules | `(tactic| walk_at "look") => `(tactic| first
  | assumption
  | with_reducible exact Fr.tup (by assumption) (by walk_at "look")
  | with_reducible exact Same.tup (by assumption) (by walk_at "look")
  | with_reducible exact FrmV.imm (Fr.imm (by assumption)) (by walk_at "look")
  | with_reducible exact FrmV.imm (Imm.of_same (by assumption)) (by walk_at "look")
  | with_reducible exact FrmL.imm (Fr.imm (by assumption)) (by walk_at "look")
  | with_reducible exact FrmL.imm (Imm.of_same (by assumption)) (by walk_at "look"))
local macro_rules | `(tactic| walk_at "v") => `(tactic| repeat (first
  | (with_reducible first
    | refine v_seq ?_ | refine v_next ?_ | refine v_set ?_ | refine v_ret ?_ | refine v_retN ?_ | refine v_drop ?_ | refine v_brk ?_ | refine v_if ?_
    | refine v_c ?_ | refine v_op ?_ | refine v_un ?_ | refine v_nil ?_ | refine v_cons ?_ | refine v_cb ?_ | refine v_call ?_ | refine v_test ?_ | refine v_tB ?_ | refine v_bl ?_
    | refine v_and ?_ | refine v_or ?_ | refine v_not ?_ | refine v_andV ?_ | refine v_orV ?_ | refine v_notV ?_ | refine v_ifE ?_ | refine v_true ?_ | refine v_false ?_ | refine v_ntrue ?_ | refine v_nfalse ?_
    | refine v_I0 ?_ | refine v_U ?_ | refine v_par ?_ | refine v_par2 ?_ | refine v_isII ?_ | refine v_isIB ?_ | refine v_lc ?_ | refine v_itup ?_ | refine v_ilist ?_
    | refine v_abs ?_ | refine v_max2 ?_ | refine v_int ?_ | refine v_intB ?_ | refine v_isN ?_ | refine v_notN ?_ | refine v_sl ?_ | refine v_np ?_ | refine v_pt ?_ | refine v_pi ?_ | refine v_bm ?_ | refine v_bm0 ?_ | refine v_revL ?_ | refine v_tup ?_ | refine v_lst ?_ | refine v_lc2 ?_ | refine v_dgetS ?_ | refine v_dc ?_ | refine v_zip ?_ | refine v_for ?_ | refine v_irng ?_ | refine v_asg ?_ | refine v_gsub ?_ | refine v_dnew ?_ | refine v_dput0 ?_ | refine v_din0 ?_ | refine v_dget20 ?_ | refine v_irng2 ?_ | refine v_par3 ?_ | refine v_par33 ?_ | refine v_m1 ?_)
  | ((with_reducible refine' v_var ?h ?_); (case h => with_unfolding_all rfl))
  | ((with_reducible refine v_eq ?h ?_); (case h => with_unfolding_all rfl))
  | ((with_reducible refine v_ne ?h ?_); (case h => with_unfolding_all rfl))
  | ((with_reducible refine' v_ixT ?h ?e ?_); (case h => exact SqT.of (by walk_at "look")); (case e => with_unfolding_all rfl))
  | ((with_reducible refine' v_ixL ?h ?e ?_); (case h => exact SqL.of (by assumption)); (case e => with_unfolding_all rfl))))

abbrev s_share_in : Stmt := topS 9
abbrev n_share_in : List Str := ["formula", "row", "inner", "shares", "part", "found"]
abbrev p_share_in : List Str := ["formula", "row"]
theorem sc_share_in : FnScope n_share_in p_share_in (defScope s_share_in) := ⟨rfl, rfl, rfl, by decide +kernel, rfl, by decide +kernel, by decide +kernel⟩
abbrev s_kinds_of : Stmt := topS 7
abbrev n_kinds_of : List Str := ["formula"]
abbrev p_kinds_of : List Str := ["formula"]
theorem sc_kinds_of : FnScope n_kinds_of p_kinds_of (defScope s_kinds_of) := ⟨rfl, rfl, rfl, by decide +kernel, rfl, by decide +kernel, by decide +kernel⟩
abbrev s_share : Stmt := topS 10
abbrev n_share : List Str := ["formula", "amounts", "name", "amount"]
abbrev p_share : List Str := ["formula", "amounts"]
theorem sc_share : FnScope n_share p_share (defScope s_share) := ⟨rfl, rfl, rfl, by decide +kernel, rfl, by decide +kernel, by decide +kernel⟩
abbrev s_is_way : Stmt := topS 11
abbrev n_is_way : List Str := ["formula", "value"]
abbrev p_is_way : List Str := ["formula", "value"]
theorem sc_is_way : FnScope n_is_way p_is_way (defScope s_is_way) := ⟨rfl, rfl, rfl, by decide +kernel, rfl, by decide +kernel, by decide +kernel⟩
section
variable {P : Program} {w : World} {K : PySem.W.Frag} {mg : Str → Option Value} {base : Heap} {f : Addr} {fd : FuncData}
def sp_share_in (n : Nat) : Sp := fun vs H Q _ => ∃ (v : V) (d : Addr) (fm : Fm) (kvs : List (Key × V)) (x : Str → Int), vs = [v, .ref d] ∧ FrmV H fm v ∧ H d = some (.dK kvs) ∧ (∀ nm ∈ fm.names, valV kvs (Sum.inr nm) = some (.int (x nm))) ∧ fm.depth ≤ n ∧ fm.ok ∧
  ∀ H', Same H H' → Q (ov (fm.share x)) H'
theorem ok_share_in (F : Fun K "share_in" "share_in" s_share_in f fd) (B : Bt mg) {n : Nat} (h_share_in : Fn P w K mg base n "share_in" p_share_in (sp_share_in n)) : FnOk P w K mg base CX0 (n + 1) f fd p_share_in (sp_share_in (n + 1)) := by
  refine F.ok sc_share_in (fun vs H Q E h => ?_) (fun cdv A outer s H vs Q E hr h => ?_)
  · obtain ⟨v, d, fm, kvs, x, rfl, _⟩ := h; rfl
  obtain ⟨v, d, fm, kvs, x, rfl, hf, hk, hx, hd, ho, q⟩ := h
  have hu := hu_of hr
  refine ⟨_, (pss_cons (ps_if (pt_cmpR op_eq (pe_ix (ixT (K := K) rfl) (pv 0) pe_int (fun _ _ => rfl)) pe_str (nomark _))
(pss_one (ps_ret (pe_dget hu (pv 1) (pe_ix (ixT (K := K) rfl) (pv 0) pe_int (fun _ _ => rfl)) (fun _ _ => rfl))))
pss_nil)
(pss_cons (ps_if (pt_cmpR op_eq (pe_ix (ixT (K := K) rfl) (pv 0) pe_int (fun _ _ => rfl)) pe_str (nomark _))
(pss_cons (ps_set (i := 2) sc_share_in.nd rfl (Or.inl rfl) (cal h_share_in hr (pa_cons (pe_ix (ixT (K := K) rfl) (pv 0) pe_int (fun _ _ => rfl)) (pa_cons (pv 1) pa_nil))))
(pss_one (ps_ret (pe_ifExp (PW.pt (pw_or (pt_cmpR op_isN1 (pv 2) pe_non (nomark _)) (pw_or1 (pt_cmpR op_gt (pe_op op_mod (pv 2) (pe_ix (ixT (K := K) rfl) (pv 0) pe_int (fun _ _ => rfl))) pe_int (nomark _))))) pe_non (pe_op op_fdiv (pv 2) (pe_ix (ixT (K := K) rfl) (pv 0) pe_int (fun _ _ => rfl)))))))
pss_nil)
(pss_cons (ps_setLc (i := 3) (own := [("part", 4)]) (g := gName 4) rfl sc_share_in.nd rfl rfl (sw_true rfl rfl rfl (by decide +kernel)) (piT (K := K) rfl (pe_ix (ixT (K := K) rfl) (pv 0) pe_int (fun _ _ => rfl))) (blkOk_by (own := [("part", 4)]) (N := n_share_in) (sc := defScope s_share_in) (by decide +kernel)) (fun _ _ _ _ _ => (pg_name (i := 4) sc_share_in.nd rfl (Or.inl rfl))) (fun _ _ _ _ _ => pts_nil) (fun _ _ _ _ _ => (cal h_share_in hr (pa_cons (pv 4) (pa_cons (pv 1) pa_nil)))))
(pss_cons (ps_if (pt_val (cb bt_any (crAny (K := K) rfl rfl) B.any (pa_cons (pe_lc (own := [("found", 5)]) (g := gName 5) rfl sc_share_in.nd (piL (K := K) rfl (pv 3)) (blkOk_by (own := [("found", 5)]) (N := n_share_in) (sc := defScope s_share_in) (by decide +kernel)) (fun _ _ _ _ _ => (pg_name (i := 5) sc_share_in.nd rfl (Or.inl rfl))) (fun _ _ _ _ _ => pts_nil) (fun _ _ _ _ _ => (pe_cmpR op_isN1 (pv 5) pe_non (nomark _)))) pa_nil)))
(pss_one (ps_ret pe_non))
pss_nil)
(pss_cons (ps_if (pt_cmpR op_eq (pe_ix (ixT (K := K) rfl) (pv 0) pe_int (fun _ _ => rfl)) pe_str (nomark _))
(pss_one (ps_ret (cb bt_sum (crSum (K := K) rfl rfl) B.sum (pa_cons (pv 3) pa_nil))))
pss_nil)
(pss_one (ps_ret (pe_ifExp (pt_cmpR op_eq (cb bt_min (crMin (K := K) rfl rfl) B.min (pa_cons (pv 3) pa_nil)) (cb bt_max (crMax (K := K) rfl rfl) B.max (pa_cons (pv 3) pa_nil)) (nomark _)) (pe_ix (ixL (K := K) rfl) (pv 3) pe_int (fun _ _ => rfl)) pe_non)))))))), ?_⟩
  cases fm with
  | kind nm =>
    rw [FrmV] at hf
    obtain ⟨a, rfl, ha⟩ := hf
    walk_at "v"
    refine v_dec (fun _ => ?_) (fun c => absurd rfl c)
    walk_at "v"
    refine v_keyS hk (hx nm (by rw [Fm.names]; exact List.mem_singleton.mpr rfl)) ?_
    exact q H (Same.refl _)
  | many m g => 
    rw [FrmV] at hf
    obtain ⟨a, u, rfl, ha, hg⟩ := hf
    rw [Fm.ok] at ho
    rw [Fm.depth] at hd
    rw [Fm.names] at hx
    walk_at "v"
    refine v_dec (fun c => absurd c (by decide)) (fun _ => ?_)
    walk_at "v"
    refine v_dec (fun _ => ?_) (fun c => absurd rfl c)
    walk_at "v"
    refine ⟨u, d, g, kvs, x, rfl, hg, hk, hx, by omega, ho.2.2, fun H1 e1 => ?_⟩
    walk_at "v"
    have q1 := q H1 e1
    rw [Fm.share] at q1
    cases e : g.share x with
    | none =>
      rw [e] at q1
      refine v_dec (fun _ => ?_) (fun c => absurd rfl c)
      walk_at "v"
      exact q1
    | some i =>
      rw [e] at q1
      refine v_dec (fun c => by cases c) (fun _ => ?_)
      walk_at "v"
      refine v_I (show (0 : Int) < m by omega) ?_
      walk_at "v"
      refine v_dec (fun c => ?_) (fun c => ?_)
      · walk_at "v"
        simp only [c, if_true] at q1
        exact q1
      · walk_at "v"
        simp only [c, if_false] at q1
        refine v_I ⟨by omega, by omega⟩ ?_
        exact q1
  | node b fs => 
    rw [FrmV] at hf
    obtain ⟨a, p, us, rfl, ha, hp, hg⟩ := hf
    rw [Fm.ok] at ho
    rw [Fm.depth] at hd
    rw [Fm.names] at hx
    walk_at "v"
    refine v_dec (fun c => absurd c (by cases b <;> decide)) (fun _ => ?_)
    walk_at "v"
    refine v_dec (fun c => absurd c (by cases b <;> decide)) (fun _ => ?_)
    walk_at "v"
    refine v_lcTD none hp hg.len trivial (fun g => ov (g.share x)) (by omega) (fun x => rfl) (fun i y g H2 Qn hy hg2 f2 qn => ?_) (fun D H2 hD f2 e2 => ?_)
    · walk_at "v"
      have hm : g ∈ fs := List.mem_of_getElem? hg2
      have hdd := Fm.depthL_mem hm
      exact ⟨y, d, g, kvs, x, rfl, (hg.at hg2 hy).imm f2.imm, f2.keep _ _ trivial hk, fun nm h => hx nm (Fm.names_mem hm h), by omega, Fm.okL_mem ho.2.2 hm, fun H3 e3 => qn H3 (Fr.same trivial e3)⟩
    · walk_at "v"
      refine v_lcLF (L := fs) none e2 (Off.new trivial hD) trivial (fun g => .bl (decide (ov (g.share x) = V.non))) (by omega) (fun x => rfl) (fun g H3 Qn hg3 f3 qn => ?_) (fun D2 H3 hD2 f3 e3 => ?_)
      · walk_at "v"
        exact qn _ (Fr.refl trivial)
      · walk_at "v"
        refine v_any (bs := fs.map fun g => decide (ov (g.share x) = V.non)) (by rw [e3, List.map_map]; rfl) ?_
        refine v_bl ?_
        have e4 : H3 D = some (HO.lst (fs.map fun g => ov (g.share x))) := f3.keep _ _ trivial e2
        have s3 : Same H H3 := f2.to.trans f3.to
        have q1 := q H3 s3
        rw [Fm.share] at q1
        cases es : Fm.shareL x fs with
        | none =>
          rw [es] at q1
          rw [Fm.shareL_none x fs es]
          walk_at "v"
          exact q1
        | some l =>
          rw [es] at q1
          obtain ⟨h1, h2⟩ := Fm.shareL_some x fs l es
          have hl := Fm.shareL_len x es
          rw [h1]
          rw [h2] at e4
          have ha3 : H3 a = some (HO.tup [V.str (wordOf b), V.ref p]) := s3 _ _ ha
          walk_at "v"
          cases b with
          | false =>
            refine v_dec (fun _ => ?_) (fun c => absurd rfl c)
            walk_at "v"
            refine v_sum e4 ?_
            exact q1
          | true =>
            refine v_dec (fun c => absurd c (by decide)) (fun _ => ?_)
            walk_at "v"
            have h0 : 0 < l.length := by rw [hl]; exact List.length_pos_iff.mpr ho.1
            refine v_min e4 h0 fun m1 hm1 hle1 => ?_
            walk_at "v"
            refine v_max e4 h0 fun m2 hm2 hle2 => ?_
            walk_at "v"
            have hs := minmax_same hm1 hm2 hle1 hle2
            refine v_dec (fun c => ?_) (fun c => ?_)
            · have c1 := hs.mp (V.int.inj c)
              simp only [if_true, c1] at q1
              walk_at "v"
              obtain ⟨y, r, rfl⟩ : ∃ y r, l = y :: r := by
                cases l with
                | nil => simp at h0
                | cons y r => exact ⟨y, r, rfl⟩
              refine v_ixL (SqL.of e4) (atI_nat (j := 0) rfl) ?_
              exact q1
            · have c1 : ¬ allSame l = true := fun z => c (by rw [hs.mpr z])
              simp only [if_true, c1] at q1
              walk_at "v"
              exact q1
end
end K14

/-! ## K14r -/
set_option Elab.async false
set_option linter.all false
set_option maxRecDepth 100000
set_option maxHeartbeats 4000000
namespace K14
open PySem PySem.Spec PyProof.Rows L2 AK
local macro_rules | `(tactic| walk_at "look") => `(tactic| first
  | assumption
  | with_reducible exact Fr.tup (by assumption) (by walk_at "look")
  | with_reducible exact Same.tup (by assumption) (by walk_at "look")
  | with_reducible exact FrmV.imm (Fr.imm (by assumption)) (by walk_at "look")
  | with_reducible exact FrmV.imm (Imm.of_same (by assumption)) (by walk_at "look")
  | with_reducible exact FrmL.imm (Fr.imm (by assumption)) (by walk_at "look")
  | with_reducible exact FrmL.imm (Imm.of_same (by assumption)) (by walk_at "look"))
local macro_rules | `(tactic| walk_at "v") => `(tactic| repeat (first
  | (with_reducible first
    | refine v_seq ?_ | refine v_next ?_ | refine v_set ?_ | refine v_ret ?_ | refine v_retN ?_ | refine v_drop ?_ | refine v_brk ?_ | refine v_if ?_
    | refine v_c ?_ | refine v_op ?_ | refine v_un ?_ | refine v_nil ?_ | refine v_cons ?_ | refine v_cb ?_ | refine v_call ?_ | refine v_test ?_ | refine v_tB ?_ | refine v_bl ?_
    | refine v_and ?_ | refine v_or ?_ | refine v_not ?_ | refine v_andV ?_ | refine v_orV ?_ | refine v_notV ?_ | refine v_ifE ?_ | refine v_true ?_ | refine v_false ?_ | refine v_ntrue ?_ | refine v_nfalse ?_
    | refine v_I0 ?_ | refine v_U ?_ | refine v_par ?_ | refine v_par2 ?_ | refine v_isII ?_ | refine v_isIB ?_ | refine v_lc ?_ | refine v_itup ?_ | refine v_ilist ?_
    | refine v_abs ?_ | refine v_max2 ?_ | refine v_int ?_ | refine v_intB ?_ | refine v_isN ?_ | refine v_notN ?_ | refine v_sl ?_ | refine v_np ?_ | refine v_pt ?_ | refine v_pi ?_ | refine v_bm ?_ | refine v_bm0 ?_ | refine v_revL ?_ | refine v_tup ?_ | refine v_lst ?_ | refine v_lc2 ?_ | refine v_dgetS ?_ | refine v_dc ?_ | refine v_zip ?_ | refine v_for ?_ | refine v_irng ?_ | refine v_asg ?_ | refine v_gsub ?_ | refine v_dnew ?_ | refine v_dput0 ?_ | refine v_din0 ?_ | refine v_dget20 ?_ | refine v_irng2 ?_ | refine v_par3 ?_ | refine v_par33 ?_ | refine v_m1 ?_)
  | ((with_reducible refine' v_var ?h ?_); (case h => with_unfolding_all rfl))
  | ((with_reducible refine v_eq ?h ?_); (case h => with_unfolding_all rfl))
  | ((with_reducible refine v_ne ?h ?_); (case h => with_unfolding_all rfl))
  | ((with_reducible refine' v_ixT ?h ?e ?_); (case h => exact SqT.of (by walk_at "look")); (case e => with_unfolding_all rfl))
  | ((with_reducible refine' v_ixL ?h ?e ?_); (case h => exact SqL.of (by assumption)); (case e => with_unfolding_all rfl))))

section
variable {P : Program} {w : World} {K : PySem.W.Frag} {mg : Str → Option Value} {base : Heap} {f : Addr} {fd : FuncData}
def sp_kinds_of (n : Nat) : Sp := fun vs H Q _ => ∃ (v : V) (fm : Fm), vs = [v] ∧ FrmV H fm v ∧ fm.depth ≤ n ∧ fm.names.length < 64 ∧ ∀ ks p H', Kinds fm ks → H p = none → Same H H' → H' p = some (.tup (ks.map V.str)) → Q (.ref p) H'
theorem ok_kinds_of (F : Fun K "kinds_of" "kinds_of" s_kinds_of f fd) (B : Bt mg) {n : Nat} (h_names_in : Fn P w K mg base n "names_in" p_names_in (sp_names_in n)) : FnOk P w K mg base CX0 (n + 1) f fd p_kinds_of (sp_kinds_of n) := by
  refine F.ok sc_kinds_of (fun vs H Q E h => ?_) (fun cdv A outer s H vs Q E hr h => ?_)
  · obtain ⟨v, fm, rfl, _⟩ := h; rfl
  obtain ⟨v, fm, rfl, hf, hd, hl, q⟩ := h
  refine ⟨_, (pss_one (ps_ret (ct bt_tuple (crTup (K := K) rfl) B.tuple (pa_cons (cb bt_sorted (crSortedS (K := K) rfl) B.sorted (pa_cons (cal h_names_in hr (pa_cons (pv 0) pa_nil)) pa_nil)) pa_nil)))), ?_⟩
  walk_at "v"
  refine ⟨v, fm, rfl, hf, hd, by omega, fun p H1 np e1 hp => ?_⟩
  walk_at "v"
  refine v_sortedS hp hl fun ys p2 H2 hperm hsrt np2 e2 hp2 => ?_
  walk_at "v"
  refine v_tupL hp2 fun p3 H3 np3 e3 hp3 => ?_
  exact q ys p3 H3 ⟨hperm, hsrt⟩ ((e1.trans e2).free np3) ((e1.trans e2).trans e3) hp3
def sp_share (n : Nat) : Sp := fun vs H Q _ => ∃ (v : V) (a : Addr) (fm : Fm) (ks : List Str) (ns : List Int), vs = [v, .ref a] ∧ FrmV H fm v ∧ H a = some (.tup (ns.map V.int)) ∧ Kinds fm ks ∧ fm.names.Nodup ∧ ns.length = ks.length ∧ fm.depth ≤ n ∧ fm.ok ∧ fm.names.length < 64 ∧
  ∀ H', Same H H' → Q (ov (fm.share (rowOf ks ns))) H'
theorem ok_share (F : Fun K "share" "share" s_share f fd) (B : Bt mg) {n : Nat} (h_kinds_of : Fn P w K mg base (n + 1) "kinds_of" p_kinds_of (sp_kinds_of n)) (h_share_in : Fn P w K mg base n "share_in" p_share_in (sp_share_in n)) :
    FnOk P w K mg base CX0 (n + 2) f fd p_share (sp_share n) := by
  refine F.ok sc_share (fun vs H Q E h => ?_) (fun cdv A outer s H vs Q E hr h => ?_)
  · obtain ⟨v, a, fm, ks, ns, rfl, _⟩ := h; rfl
  obtain ⟨v, a, fm, ks, ns, rfl, hf, ha, hk, hnd, hl, hd, ho, hlen, q⟩ := h
  have hu := hu_of hr
  refine ⟨_, (pss_one (ps_ret (cal h_share_in hr (pa_cons (pv 0) (pa_cons (pe_dc (own := [("name", 2), ("amount", 3)]) rfl sc_share.nd (zipA (K := K) rfl B.zip (pa_cons (cal h_kinds_of hr (pa_cons (pv 0) pa_nil)) (pa_cons (pv 1) pa_nil))) (blkOk_by (own := [("name", 2), ("amount", 3)]) (N := n_share) (sc := defScope s_share) (by decide +kernel)) (fun _ _ _ _ _ => (pgT (K := K) (n := 2) rfl rfl (pgs_cons (pg_name (i := 2) sc_share.nd rfl (Or.inl rfl)) (pgs_cons (pg_name (i := 3) sc_share.nd rfl (Or.inl rfl)) pgs_nil)))) (fun _ _ _ _ _ => pts_nil) (fun _ _ _ _ _ => (pv 2)) (fun _ _ _ _ _ => (pv 3))) pa_nil))))), ?_⟩
  walk_at "v"
  refine ⟨v, fm, rfl, hf, hd, hlen, fun ks' p H1 hk' np e1 hp => ?_⟩
  cases hk.eq hk'
  walk_at "v"
  have hl2 : ks.length = fm.names.length := hk.1.length_eq
  refine ⟨p, a, _, _, rfl, .inr ⟨SqT.of hp, SqT.of (e1 _ _ ha), fun D hD => ?_⟩⟩
  refine dc_rows hp (e1 _ _ ha) hl.symm (by omega) (hk.1.nodup_iff.mpr hnd) hD (fun _ _ => rfl) (fun _ _ => rfl) (fun _ _ => rfl) (fun H2 e2 hD2 => ?_)
  walk_at "v"
  refine ⟨v, D, fm, _, rowOf ks ns, rfl, by walk_at "look", hD2, fun nm hm => valV_rows hl.symm (hk.1.mem_iff.mpr hm), hd, ho, fun H3 e3 => ?_⟩
  exact q H3 ((e1.trans e2).trans e3)
def sp_is_way (n : Nat) : Sp := fun vs H Q _ => ∃ (v : V) (a : Addr) (fm : Fm) (ks : List Str) (ns : List Int), vs = [v, .ref a] ∧ FrmV H fm v ∧ H a = some (.tup (ns.map V.int)) ∧ Kinds fm ks ∧ fm.names.Nodup ∧ ns.length = ks.length ∧ fm.depth ≤ n ∧ fm.ok ∧ fm.names.length < 64 ∧
  ∀ H', Same H H' → Q (.bl ((ns.all fun x => decide (0 ≤ x) && decide (x ≤ 60)) && decide (fm.share (rowOf ks ns) = some 1))) H'
theorem ok_is_way (F : Fun K "is_way" "is_way" s_is_way f fd) (B : Bt mg) {n : Nat} (c_MOST_AMOUNT : ∃ t, mg "MOST_AMOUNT" = some (.int 60 t)) (h_is_amounts : Fn P w K mg base 3 "is_amounts" p_is_amounts sp_is_amounts) (h_kinds_of : Fn P w K mg base (n + 1) "kinds_of" p_kinds_of (sp_kinds_of n)) (h_share : Fn P w K mg base (n + 2) "share" p_share (sp_share n)) :
    FnOk P w K mg base CX0 (n + 5) f fd p_is_way (sp_is_way n) := by
  refine F.ok sc_is_way (fun vs H Q E h => ?_) (fun cdv A outer s H vs Q E hr h => ?_)
  · obtain ⟨v, a, fm, ks, ns, rfl, _⟩ := h; rfl
  obtain ⟨v, a, fm, ks, ns, rfl, hf, ha, hk, hnd, hl, hd, ho, hlen, q⟩ := h
  refine ⟨_, (pss_one (ps_ret (pe_and (cal h_is_amounts hr (pa_cons (pv 1) (pa_cons (cb bt_len (crLen (K := K) rfl) B.len (pa_cons (cal h_kinds_of hr (pa_cons (pv 0) pa_nil)) pa_nil)) (pa_cons (gI c_MOST_AMOUNT) pa_nil)))) (pe_one (pe_cmpR op_eq (cal h_share hr (pa_cons (pv 0) (pa_cons (pv 1) pa_nil))) pe_int (nomark _)))))), ?_⟩
  walk_at "v"
  refine ⟨v, fm, rfl, hf, hd, hlen, fun ks' p H1 hk' np e1 hp => ?_⟩
  cases hk.eq hk'
  walk_at "v"
  refine v_lenT hp ?_
  walk_at "v"
  have hl2 : ks.length = fm.names.length := hk.1.length_eq
  refine ⟨a, ns, _, _, rfl, e1 _ _ ha, by omega, fun H2 e2 => ?_⟩
  have e : decide ((ns.length : Int) = ((List.map V.str ks).length : Nat)) = true := decide_eq_true (by rw [List.length_map, hl])
  rw [e, Bool.true_and]
  refine v_bl ?_
  have q2 := q H2 (e1.trans e2)
  refine v_bool (fun c => ?_) (fun c => ?_)
  · rw [c, Bool.true_and] at q2
    walk_at "v"
    refine ⟨v, a, fm, ks, ns, rfl, by walk_at "look", by walk_at "look", hk, hnd, hl, hd, ho, hlen, fun H3 e3 => ?_⟩
    have q3 := q H3 ((e1.trans e2).trans e3)
    rw [c, Bool.true_and] at q3
    cases es : fm.share (rowOf ks ns) with
    | none =>
      rw [es] at q3
      walk_at "v"
      exact q3
    | some i =>
      rw [es] at q3
      walk_at "v"
      have ed : decide (ov (some i) = V.int 1) = decide (some i = some (1 : Int)) := decide_eq_decide.mpr ⟨fun z => by rw [V.int.inj z], fun z => by rw [Option.some.inj z]; rfl⟩
      rw [← ed] at q3
      exact q3
  · rw [c, Bool.false_and] at q2
    exact q2
end
end K14

/-! ## K14s -/
set_option Elab.async false
set_option linter.all false
set_option maxRecDepth 100000
set_option maxHeartbeats 4000000
namespace K14
open PySem PySem.Spec PyProof.Rows L2 AK
local macro_rules | `(tactic| walk_at "look") => `(tactic| first
  | assumption
  | with_reducible exact Fr.tup (by assumption) (by walk_at "look")
  | with_reducible exact Same.tup (by assumption) (by walk_at "look")
  | with_reducible exact FrmV.imm (Fr.imm (by assumption)) (by walk_at "look")
  | with_reducible exact FrmV.imm (Imm.of_same (by assumption)) (by walk_at "look")
  | with_reducible exact FrmL.imm (Fr.imm (by assumption)) (by walk_at "look")
  | with_reducible exact FrmL.imm (Imm.of_same (by assumption)) (by walk_at "look"))
local macro_rules | `(tactic| walk_at "v") => `(tactic| repeat (first
  | (with_reducible first
    | refine v_seq ?_ | refine v_next ?_ | refine v_set ?_ | refine v_ret ?_ | refine v_retN ?_ | refine v_drop ?_ | refine v_brk ?_ | refine v_if ?_
    | refine v_c ?_ | refine v_op ?_ | refine v_un ?_ | refine v_nil ?_ | refine v_cons ?_ | refine v_cb ?_ | refine v_call ?_ | refine v_test ?_ | refine v_tB ?_ | refine v_bl ?_
    | refine v_and ?_ | refine v_or ?_ | refine v_not ?_ | refine v_andV ?_ | refine v_orV ?_ | refine v_notV ?_ | refine v_ifE ?_ | refine v_true ?_ | refine v_false ?_ | refine v_ntrue ?_ | refine v_nfalse ?_
    | refine v_I0 ?_ | refine v_U ?_ | refine v_par ?_ | refine v_par2 ?_ | refine v_isII ?_ | refine v_isIB ?_ | refine v_lc ?_ | refine v_itup ?_ | refine v_ilist ?_
    | refine v_abs ?_ | refine v_max2 ?_ | refine v_int ?_ | refine v_intB ?_ | refine v_isN ?_ | refine v_notN ?_ | refine v_sl ?_ | refine v_np ?_ | refine v_pt ?_ | refine v_pi ?_ | refine v_bm ?_ | refine v_bm0 ?_ | refine v_revL ?_ | refine v_tup ?_ | refine v_lst ?_ | refine v_lc2 ?_ | refine v_dgetS ?_ | refine v_dc ?_ | refine v_zip ?_ | refine v_for ?_ | refine v_irng ?_ | refine v_asg ?_ | refine v_gsub ?_ | refine v_dnew ?_ | refine v_dput0 ?_ | refine v_din0 ?_ | refine v_dget20 ?_ | refine v_irng2 ?_ | refine v_par3 ?_ | refine v_par33 ?_ | refine v_m1 ?_)
  | ((with_reducible refine' v_var ?h ?_); (case h => with_unfolding_all rfl))
  | ((with_reducible refine v_eq ?h ?_); (case h => with_unfolding_all rfl))
  | ((with_reducible refine v_ne ?h ?_); (case h => with_unfolding_all rfl))
  | ((with_reducible refine' v_ixT ?h ?e ?_); (case h => exact SqT.of (by walk_at "look")); (case e => with_unfolding_all rfl))
  | ((with_reducible refine' v_ixL ?h ?e ?_); (case h => exact SqL.of (by assumption)); (case e => with_unfolding_all rfl))))

abbrev s__law_heap : Stmt := topS 13
abbrev n__law_heap : List Str := ["_law_script", "_law_cells", "_law_stir", "_law_cell"]
abbrev p__law_heap : List Str := ["_law_script"]
theorem sc__law_heap : FnScope n__law_heap p__law_heap (defScope s__law_heap) := ⟨rfl, rfl, rfl, by decide +kernel, rfl, by decide +kernel, by decide +kernel⟩
abbrev s__law_draw : Stmt := topS 14
abbrev n__law_draw : List Str := ["_law_heap_here", "_law_many", "_law_rest"]
abbrev p__law_draw : List Str := ["_law_heap_here", "_law_many"]
theorem sc__law_draw : FnScope n__law_draw p__law_draw (defScope s__law_draw) := ⟨rfl, rfl, rfl, by decide +kernel, rfl, by decide +kernel, by decide +kernel⟩
abbrev s__law_pick : Stmt := topS 15
abbrev n__law_pick : List Str := ["_law_heap_here", "_law_some"]
abbrev p__law_pick : List Str := ["_law_heap_here", "_law_some"]
theorem sc__law_pick : FnScope n__law_pick p__law_pick (defScope s__law_pick) := ⟨rfl, rfl, rfl, by decide +kernel, rfl, by decide +kernel, by decide +kernel⟩
section
variable {P : Program} {w : World} {K : PySem.W.Frag} {mg : Str → Option Value} {base : Heap} {f : Addr} {fd : FuncData}
theorem ok_heap (F : Fun K "_law_heap" "_law_heap" s__law_heap f fd) (B : Bt mg) : FnOk P w K mg base CX0 1 f fd p__law_heap (sp_heap K) := by
  refine F.ok sc__law_heap (fun vs H Q E h => ?_) (fun cdv A outer s H vs Q E hr h => ?_)
  · obtain ⟨a, ns, rfl, _⟩ := h; rfl
  obtain ⟨a, ns, rfl, ha, hl, q⟩ := h
  refine ⟨_, (pss_cons (ps_par (i := 1) (j := 2) rfl sc__law_heap.nd rfl rfl (by decide) rfl rfl (pa_cons (pe_lc (own := [("_law_cell", 3)]) (g := gName 3) rfl sc__law_heap.nd (piL (K := K) rfl (pe_slice (slL (K := K) rfl) (pv 0) po_none (po_some pe_int))) (blkOk_by (own := [("_law_cell", 3)]) (N := n__law_heap) (sc := defScope s__law_heap) (by decide +kernel)) (fun _ _ _ _ _ => (pg_name (i := 3) sc__law_heap.nd rfl (Or.inl rfl))) (fun _ _ _ _ _ => pts_nil) (fun _ _ _ _ _ => (cb bt_abs (crAbs (K := K) rfl) B.abs (pa_cons (pv 3) pa_nil)))) (pa_cons pe_int pa_nil)) rfl)
(pss_cons (ps_for PassesOwn.never rfl (piL (K := K) rfl (pv 1)) (pg_name (i := 3) sc__law_heap.nd rfl (Or.inl rfl))
(pss_one (ps_set (i := 2) sc__law_heap.nd rfl (Or.inl rfl) (pe_op op_mod (ct bt_int (crInt (K := K) rfl) B.int (pa_cons (pe_op op_add (pe_op op_add (pe_op op_mul (pv 2) pe_int) (pe_op op_mod (ct bt_int (crInt (K := K) rfl) B.int (pa_cons (pv 3) pa_nil)) pe_int)) pe_int) pa_nil)) pe_int))))
(pss_one (ps_ret (pe_lst (pa_cons (revL (K := K) rfl (pe_lc (own := [("_law_cell", 3)]) (g := gName 3) rfl sc__law_heap.nd (piL (K := K) rfl (pv 1)) (blkOk_by (own := [("_law_cell", 3)]) (N := n__law_heap) (sc := defScope s__law_heap) (by decide +kernel)) (fun _ _ _ _ _ => (pg_name (i := 3) sc__law_heap.nd rfl (Or.inl rfl))) (fun _ _ _ _ _ => pts_one (pt_cmpR op_ge (pv 3) (pe_op op_pow pe_int pe_int) (nomark _))) (fun _ _ _ _ _ => (pv 3)))) (pa_cons (pv 2) pa_nil))))))), ?_⟩
  walk_at "v"
  refine v_slLS ha fun p1 H1 n1 e1 h1 => ?_
  have hc : cutV (ns.map V.int) none (some 60) = (ns.take 60).map V.int := by rw [show (60 : Int) = ((60 : Nat) : Int) from rfl, cut_take, List.map_take]
  rw [hc] at h1
  refine v_lcLF none h1 trivial trivial (fun x => .int (if x < 0 then -x else x)) (by rw [List.length_take]; omega) (fun x => rfl) (fun x H2 Qn hx f2 qn => ?_) (fun D H2 hD f2 e2 => ?_)
  · walk_at "v"
    exact qn _ (Fr.refl trivial)
  · walk_at "v"
    have hcs : H2 D = some (HO.lst (((ns.take 60).map fun x => if x < 0 then -x else x).map V.int)) := by rw [e2, List.map_map]; rfl
    refine v_forL (SqL.of hcs) (fun i σ H' => H' = H2 ∧ ∃ (k : Int) (y : Option V), σ = [some (.ref a), some (.ref D), some (.int k), y] ∧ 0 ≤ k ∧ k < 2147483647) ⟨rfl, 7919, none, rfl, by omega, by omega⟩ (fun i σ H' _ q => by rw [q.1]; exact SqL.of hcs) (fun i x σ H' hx q => ?_) (fun σ H' q => ?_)
    · obtain ⟨rfl, k, y, rfl, hk0, hk1⟩ := q
      rw [List.getElem?_map] at hx
      obtain ⟨z, _, rfl⟩ := Option.map_eq_some_iff.mp hx
      walk_at "v"
      refine v_I (.inl ⟨by omega, by omega⟩) ?_
      walk_at "v"
      refine v_I (show (0 : Int) < 2147483543 by decide) ?_
      walk_at "v"
      refine v_I (show (0 : Int) < 2147483647 by decide) ?_
      refine ⟨rfl, _, some (.int z), rfl, ?_, ?_⟩
      · exact Int.emod_nonneg _ (by decide)
      · exact Int.emod_lt_of_pos _ (by decide)
    · obtain ⟨rfl, k, y, rfl, hk0, hk1⟩ := q
      walk_at "v"
      refine v_lcLP none hcs (Off.new trivial hD) trivial (fun x => decide (1000000000000000000 ≤ x)) V.int (by rw [List.length_map, List.length_take]; omega) (fun x => rfl) (fun x H3 Qt hx f3 qt => ?_) (fun x H3 Qn hx _ f3 qn => ?_) (fun D2 H3 hD2 f3 e3 => ?_)
      · walk_at "v"
        refine v_I ⟨by decide, by decide, by decide⟩ ?_
        walk_at "v"
        exact qt _ (Fr.refl trivial)
      · walk_at "v"
        exact qn _ (Fr.refl trivial)
      · refine v_rev e3 fun p3 H4 n4 s4 h4 => ?_
        walk_at "v"
        refine v_dl (fun g H5 n5 s5 h5 => ?_)
        have s1 : Same H H4 := e1.trans (f2.to.trans (f3.to.trans s4))
        refine q g p3 H5 (s1.free n5) ((e1.trans (f2.to.trans f3.to)).free n4) (s1.trans s5) ?_
        refine ⟨(((ns.take 60).map fun x => if x < 0 then -x else x).filter fun x => decide (1000000000000000000 ≤ x)).reverse, k, h5, ?_, ?_, ?_, hk0, hk1⟩
        · rw [s5 _ _ h4, List.map_reverse]
        · intro x hx
          rw [List.mem_reverse] at hx
          have := of_decide_eq_true (List.mem_filter.mp hx).2
          omega
        · rw [List.length_reverse]
          refine Nat.le_trans (List.length_filter_le _ _) ?_
          rw [List.length_map, List.length_take]; omega
theorem ok_draw (F : Fun K "_law_draw" "_law_draw" s__law_draw f fd) (B : Bt mg) : FnOk P w K mg base CX0 1 f fd p__law_draw sp_draw := by
  refine F.ok sc__law_draw (fun vs H Q E h => ?_) (fun cdv A outer s H vs Q E hr h => ?_)
  · obtain ⟨g, c, m, rfl, _⟩ := h; rfl
  obtain ⟨g, c, m, rfl, hg, hm0, hm1, q⟩ := h
  have hD := hr.units
  refine ⟨_, (Evl.pss_cut (ps_while PassesOwn.never (PW.pt (pw_and (pt_cmpR (opNeD (K := K) rfl hD) (pe_ix (ixL (K := K) rfl) (pv 0) pe_int (fun _ _ => rfl)) (pe_lst pa_nil) (nomark _)) (pw_and1 (pt_cmpR op_eq (pe_ix (ixL (K := K) rfl) (pe_ix (ixL (K := K) rfl) (pv 0) pe_int (fun _ _ => rfl)) (pe_un un_neg pe_int) (fun _ _ => rfl)) pe_int (nomark _)))))
(pss_one (ps_expr (bmL0 PySem.F.slot_list_pop PySem.F.type_list_pop (K := K) rfl mt_pop (pe_ix (ixL (K := K) rfl) (pv 0) pe_int (fun _ _ => rfl))))))
(pss_cons (ps_if (pt_cmpR (opNeD (K := K) rfl hD) (pe_ix (ixL (K := K) rfl) (pv 0) pe_int (fun _ _ => rfl)) (pe_lst pa_nil) (nomark _))
(pss_cons (ps_set (i := 2) sc__law_draw.nd rfl (Or.inl rfl) (bmL0 PySem.F.slot_list_pop PySem.F.type_list_pop (K := K) rfl mt_pop (pe_ix (ixL (K := K) rfl) (pv 0) pe_int (fun _ _ => rfl))))
(pss_cons (ps_expr (bmL PySem.F.slot_list_append PySem.F.type_list_append (K := K) rfl mt_append (pe_ix (ixL (K := K) rfl) (pv 0) pe_int (fun _ _ => rfl)) (pa_cons (pe_op op_fdivW (pv 2) (pv 1)) pa_nil)))
(pss_one (ps_ret (pe_op op_mod (ct bt_int (crInt (K := K) rfl) B.int (pa_cons (pv 2) pa_nil)) (pv 1))))))
pss_nil)
(pss_cons (ps_asg (pe_op op_mod (ct bt_int (crInt (K := K) rfl) B.int (pa_cons (pe_op op_add (pe_op op_mul (pe_ix (ixL (K := K) rfl) (pv 0) pe_int (fun _ _ => rfl)) pe_int) pe_int) pa_nil)) pe_int) (pg_sub (pv 0) pe_int set_list))
(pss_one (ps_ret (pe_op op_mod (ct bt_int (crInt (K := K) rfl) B.int (pa_cons (pe_op op_fdiv (pe_ix (ixL (K := K) rfl) (pv 0) pe_int (fun _ _ => rfl)) pe_int) pa_nil)) (pv 1))))))), ?_⟩
  walk_at "v"
  obtain ⟨cells0, stir0, hg1, hc1, hc2, hc3, hs1, hs2⟩ := hg.at
  refine v_cut (fun σ H' => σ = [some (.ref g), some (.int m), none] ∧ Fr (some (g, c)) H H') ?_ ?_
  · refine v_while (fun n σ H' => σ = [some (.ref g), some (.int m), none] ∧ Fr (some (g, c)) H H' ∧ ∃ cells : List Int, H' c = some (.lst (cells.map V.int)) ∧ cells.length = n) cells0.length ⟨rfl, Fr.refl hg, cells0, hc1, rfl⟩ (fun n σ H1 q1 => ?_)
    obtain ⟨rfl, f1, cells, hc, hn⟩ := q1
    obtain ⟨cells', stir, hgs, hc', hpos, hle, hk0, hk1⟩ := IsRng.at f1.good'
    obtain rfl : cells = cells' := by
      rw [hc] at hc'
      injection hc' with z
      injection z with z
      exact (List.map_inj_right (fun _ _ e => V.int.inj e)).mp z
    walk_at "v"
    refine v_dl (fun e1 H2 ne1 s2 he1 => ?_)
    have hc2' := s2 _ _ hc
    have hgs2 := s2 _ _ hgs
    refine v_neNil hc2' he1 ?_
    have f2 : Fr (some (g, c)) H H2 := f1.trans (Fr.same f1.good' s2)
    walk_at "v"
    rcases List.eq_nil_or_concat cells with rfl | ⟨r, x, rfl⟩
    · refine v_ntrue ?_
      refine v_false ?_
      exact ⟨rfl, f2⟩
    · rw [List.concat_eq_append] at hn hpos hle hc2'
      have hcm : H2 c = some (.lst (r.map V.int ++ [V.int x])) := by rw [hc2', List.map_append]; rfl
      rw [List.concat_eq_append, show (r ++ [x]).isEmpty = false by cases r <;> rfl]
      walk_at "v"
      refine v_ixL (SqL.of hcm) (atI_last _ _) ?_
      walk_at "v"
      refine v_dec (fun e => ?_) (fun e => ?_)
      · refine ⟨fun σ' H' => σ' = [some (.ref g), some (.int m), none] ∧ Fr (some (g, c)) H H' ∧ ∃ cells : List Int, H' c = some (.lst (cells.map V.int)) ∧ cells.length = r.length, fun σ' H' q => ⟨r.length, by rw [← hn, List.length_append]; exact Nat.lt_succ_self _, q⟩, ?_⟩
        walk_at "v"
        refine ⟨tyL hcm, ?_⟩
        refine v_pop (y := .int x) hcm (by simp) ?_
        walk_at "v"
        rw [List.dropLast_concat]
        refine ⟨rfl, f2.trans (Fr.cell f2.good' (fun y hy => hpos y (List.mem_append_left _ hy)) ?_), r, upd_same, rfl⟩
        rw [List.length_append] at hle
        omega
      · exact ⟨rfl, f2⟩
  · rintro σ H1 ⟨rfl, f1⟩
    obtain ⟨cells, stir, hgs, hc, hpos, hle, hk0, hk1⟩ := IsRng.at f1.good'
    walk_at "v"
    refine v_dl (fun e1 H2 ne1 s2 he1 => ?_)
    have hc2' := s2 _ _ hc
    have hgs2 := s2 _ _ hgs
    refine v_neNil hc2' he1 ?_
    have f2 : Fr (some (g, c)) H H2 := f1.trans (Fr.same f1.good' s2)
    walk_at "v"
    rcases List.eq_nil_or_concat cells with rfl | ⟨r, x, rfl⟩
    · refine v_ntrue ?_
      walk_at "v"
      refine v_I (.inl ⟨by omega, by omega⟩) ?_
      walk_at "v"
      refine v_I (show (0 : Int) < 2147483647 by decide) ?_
      walk_at "v"
      have hb0 : 0 ≤ (stir * 48271 + 11) % 2147483647 := Int.emod_nonneg _ (by decide)
      have hb1 : (stir * 48271 + 11) % 2147483647 < 2147483647 := Int.emod_lt_of_pos _ (by decide)
      refine v_setL (j := 1) hgs2 rfl ?_
      have f3 := f2.trans (Fr.stir f2.good' hb0 hb1)
      have h3 : (upd H2 g (.lst [.ref c, .int ((stir * 48271 + 11) % 2147483647)])) g = some (.lst [.ref c, .int ((stir * 48271 + 11) % 2147483647)]) := upd_same
      rw [show ([V.ref c, V.int stir].set 1 (V.int ((stir * 48271 + 11) % 2147483647))) = [V.ref c, V.int ((stir * 48271 + 11) % 2147483647)] from rfl]
      revert f3 h3
      generalize upd H2 g (.lst [.ref c, .int ((stir * 48271 + 11) % 2147483647)]) = H3
      intro f3 h3
      walk_at "v"
      refine v_I ⟨by decide, by decide⟩ ?_
      walk_at "v"
      refine v_I (show (0 : Int) < m from hm0) ?_
      exact q _ H3 (Int.emod_nonneg _ (by omega)) (Int.emod_lt_of_pos _ hm0) f3
    · rw [List.concat_eq_append] at hpos hle hc2'
      have hcm : H2 c = some (.lst (r.map V.int ++ [V.int x])) := by rw [hc2', List.map_append]; rfl
      have hx0 : 0 ≤ x := hpos x (by simp)
      rw [List.length_append] at hle
      rw [List.concat_eq_append, show (r ++ [x]).isEmpty = false by cases r <;> rfl]
      walk_at "v"
      refine ⟨tyL hcm, ?_⟩
      refine v_pop (y := .int x) hcm (by simp) ?_
      walk_at "v"
      rw [List.dropLast_concat]
      have f3 := f2.trans (Fr.cell f2.good' (fun y hy => hpos y (List.mem_append_left _ hy)) (show r.length ≤ 60 by omega))
      have h3 : (upd H2 c (.lst (r.map V.int))) c = some (.lst (r.map V.int)) := upd_same
      have h3g : (upd H2 c (.lst (r.map V.int))) g = some (.lst [.ref c, .int stir]) := by rw [upd_ne f2.good'.ne]; exact hgs2
      revert f3 h3 h3g
      generalize upd H2 c (.lst (r.map V.int)) = H3
      intro f3 h3 h3g
      walk_at "v"
      refine ⟨tyL h3, ?_⟩
      walk_at "v"
      refine v_I (wide_div hm0 (show m.natAbs < 2 ^ 100 by omega) (by decide) (by decide)) ?_
      walk_at "v"
      refine v_app h3 (by rw [List.length_map]; omega) ?_
      have hq0 : 0 ≤ x / m := Int.ediv_nonneg hx0 (by omega)
      have f4 := f3.trans (Fr.cell (cells' := r ++ [x / m]) f3.good' (fun y hy => by
        rcases List.mem_append.mp hy with h | h
        · exact hpos y (List.mem_append_left _ h)
        · rw [List.mem_singleton.mp h]; exact hq0) (by rw [List.length_append]; exact hle))
      rw [List.map_append] at f4
      walk_at "v"
      refine v_I (show (0 : Int) < m from hm0) ?_
      exact q _ _ (Int.emod_nonneg _ (by omega)) (Int.emod_lt_of_pos _ hm0) f4
theorem ok_pick (F : Fun K "_law_pick" "_law_pick" s__law_pick f fd) (B : Bt mg) (h_law_draw : Fn P w K mg base 1 "_law_draw" p__law_draw sp_draw) : FnOk P w K mg base CX0 2 f fd p__law_pick sp_pick := by
  refine F.ok sc__law_pick (fun vs H Q E h => ?_) (fun cdv A outer s H vs Q E hr h => ?_)
  · obtain ⟨g, c, l, xs, rfl, _⟩ := h; rfl
  obtain ⟨g, c, l, xs, rfl, hg, hl, o1, o2, h0, hn, q⟩ := h
  refine ⟨_, (pss_one (ps_ret (pe_ix (ixL (K := K) rfl) (pv 1) (cal h_law_draw hr (pa_cons (pv 0) (pa_cons (cb bt_len (crLen (K := K) rfl) B.len (pa_cons (pv 1) pa_nil)) pa_nil))) (fun _ _ => rfl)))), ?_⟩
  walk_at "v"
  refine v_lenL hl ?_
  walk_at "v"
  have hp : 0 < xs.length := List.length_pos_iff.mpr h0
  refine ⟨g, c, _, rfl, hg, by omega, by omega, fun k H1 hk0 hk1 f1 => ?_⟩
  have hk : k.toNat < xs.length := by omega
  refine v_ixL (v := xs[k.toNat]) (SqL.of (f1.lst ⟨o1, o2⟩ hl)) (atI_int hk0 (List.getElem?_eq_getElem hk)) ?_
  exact q k.toNat _ H1 (List.getElem?_eq_getElem hk) f1
end
end K14

/-! ## K14t -/
set_option Elab.async false
set_option linter.all false
set_option maxRecDepth 100000
set_option maxHeartbeats 4000000
namespace K14
open PySem PySem.Spec PyProof.Rows L2 AK
local macro_rules | `(tactic| walk_at "look") => `(tactic| first
  | assumption
  | with_reducible exact Fr.tup (by assumption) (by walk_at "look")
  | with_reducible exact Same.tup (by assumption) (by walk_at "look")
  | with_reducible exact FrmV.imm (Fr.imm (by assumption)) (by walk_at "look")
  | with_reducible exact FrmV.imm (Imm.of_same (by assumption)) (by walk_at "look")
  | with_reducible exact FrmL.imm (Fr.imm (by assumption)) (by walk_at "look")
  | with_reducible exact FrmL.imm (Imm.of_same (by assumption)) (by walk_at "look"))
local macro_rules | `(tactic| walk_at "v") => `(tactic| repeat (first
  | (with_reducible first
    | refine v_seq ?_ | refine v_next ?_ | refine v_set ?_ | refine v_ret ?_ | refine v_retN ?_ | refine v_drop ?_ | refine v_brk ?_ | refine v_if ?_
    | refine v_c ?_ | refine v_op ?_ | refine v_un ?_ | refine v_nil ?_ | refine v_cons ?_ | refine v_cb ?_ | refine v_call ?_ | refine v_test ?_ | refine v_tB ?_ | refine v_bl ?_
    | refine v_and ?_ | refine v_or ?_ | refine v_not ?_ | refine v_andV ?_ | refine v_orV ?_ | refine v_notV ?_ | refine v_ifE ?_ | refine v_true ?_ | refine v_false ?_ | refine v_ntrue ?_ | refine v_nfalse ?_
    | refine v_I0 ?_ | refine v_U ?_ | refine v_par ?_ | refine v_par2 ?_ | refine v_isII ?_ | refine v_isIB ?_ | refine v_lc ?_ | refine v_itup ?_ | refine v_ilist ?_
    | refine v_abs ?_ | refine v_max2 ?_ | refine v_int ?_ | refine v_intB ?_ | refine v_isN ?_ | refine v_notN ?_ | refine v_sl ?_ | refine v_np ?_ | refine v_pt ?_ | refine v_pi ?_ | refine v_bm ?_ | refine v_bm0 ?_ | refine v_revL ?_ | refine v_tup ?_ | refine v_lst ?_ | refine v_lc2 ?_ | refine v_dgetS ?_ | refine v_dc ?_ | refine v_zip ?_ | refine v_for ?_ | refine v_irng ?_ | refine v_asg ?_ | refine v_gsub ?_ | refine v_dnew ?_ | refine v_dput0 ?_ | refine v_din0 ?_ | refine v_dget20 ?_ | refine v_irng2 ?_ | refine v_par3 ?_ | refine v_par33 ?_ | refine v_m1 ?_)
  | ((with_reducible refine' v_var ?h ?_); (case h => with_unfolding_all rfl))
  | ((with_reducible refine v_eq ?h ?_); (case h => with_unfolding_all rfl))
  | ((with_reducible refine v_ne ?h ?_); (case h => with_unfolding_all rfl))
  | ((with_reducible refine' v_ixT ?h ?e ?_); (case h => exact SqT.of (by walk_at "look")); (case e => with_unfolding_all rfl))
  | ((with_reducible refine' v_ixL ?h ?e ?_); (case h => exact SqL.of (by assumption)); (case e => with_unfolding_all rfl))))

abbrev s__law_mixed : Stmt := topS 17
abbrev n__law_mixed : List Str := ["_law_heap_here", "_law_some", "_law_rest", "_law_found", "_law_turn"]
abbrev p__law_mixed : List Str := ["_law_heap_here", "_law_some"]
theorem sc__law_mixed : FnScope n__law_mixed p__law_mixed (defScope s__law_mixed) := ⟨rfl, rfl, rfl, by decide +kernel, rfl, by decide +kernel, by decide +kernel⟩
section
variable {P : Program} {w : World} {K : PySem.W.Frag} {mg : Str → Option Value} {base : Heap} {f : Addr} {fd : FuncData}
theorem erase_perm {α : Type} : ∀ {xs : List α} {k : Nat} {y : α}, xs[k]? = some y → (y :: xs.eraseIdx k).Perm xs
  | [], _, _, h => by simp at h
  | x :: xs, 0, y, h => by
    have e : x = y := Option.some.inj h
    subst e
    exact List.Perm.refl _
  | x :: xs, k + 1, y, h => by
    have ih := erase_perm (xs := xs) (k := k) (y := y) h
    exact (List.Perm.swap x y _).trans (List.Perm.cons x ih)
def sp_mixed : Sp := fun vs H Q _ => ∃ (g c l : Addr) (xs : List V), vs = [.ref g, .ref l] ∧ IsRng g c H ∧ H l = some (.lst xs) ∧ l ≠ g ∧ l ≠ c ∧ xs.length ≤ 1000 ∧ ∀ p ys H', ys.Perm xs → H p = none → Fr (some (g, c)) H H' → H' p = some (.lst ys) → Q (.ref p) H'
theorem ok_mixed (F : Fun K "_law_mixed" "_law_mixed" s__law_mixed f fd) (B : Bt mg) (h_law_draw : Fn P w K mg base 1 "_law_draw" p__law_draw sp_draw) : FnOk P w K mg base CX0 2 f fd p__law_mixed sp_mixed := by
  refine F.ok sc__law_mixed (fun vs H Q E h => ?_) (fun cdv A outer s H vs Q E hr h => ?_)
  · obtain ⟨g, c, l, xs, rfl, _⟩ := h; rfl
  obtain ⟨g, c, l, xs, rfl, hg, hl, o1, o2, hn, q⟩ := h
  refine ⟨_, (pss_cons (ps_par (i := 2) (j := 3) rfl sc__law_mixed.nd rfl rfl (by decide) rfl rfl (pa_cons (ct bt_list (crList (K := K) rfl) B.list (pa_cons (pv 1) pa_nil)) (pa_cons (pe_lst pa_nil) pa_nil)) rfl)
(pss_cons (ps_for PassesOwn.never rfl (pi_range1 rfl B.range (pa_cons (cb bt_len (crLen (K := K) rfl) B.len (pa_cons (pv 1) pa_nil)) pa_nil)) (pg_name (i := 4) sc__law_mixed.nd rfl (Or.inl rfl))
(pss_one (ps_expr (bmL PySem.F.slot_list_append PySem.F.type_list_append (K := K) rfl mt_append (pv 3) (pa_cons (bmL PySem.F.slot_list_pop PySem.F.type_list_pop (K := K) rfl mt_popAt (pv 2) (pa_cons (cal h_law_draw hr (pa_cons (pv 0) (pa_cons (cb bt_len (crLen (K := K) rfl) B.len (pa_cons (pv 2) pa_nil)) pa_nil))) pa_nil)) pa_nil)))))
(pss_one (ps_ret (pv 3))))), ?_⟩
  walk_at "v"
  refine v_listL hl fun r H1 n1 e1 h1 => ?_
  walk_at "v"
  refine v_dl fun d H2 n2 e2 h2 => ?_
  walk_at "v"
  have hrd : d ≠ r := ne_of_none h1 n2 |>.symm
  have hl2 := (e1.trans e2) _ _ hl
  refine v_lenL hl2 ?_
  refine v_forR (by omega) (by omega) (fun i σ H' => ∃ (t : Option V) (rs ys : List V), σ = [some (.ref g), some (.ref l), some (.ref r), some (.ref d), t] ∧ Fr (some (g, c)) H H' ∧ H' r = some (.lst rs) ∧ H' d = some (.lst ys) ∧ (ys ++ rs).Perm xs ∧ ys.length = i) ⟨none, xs, [], rfl, Fr.same hg (e1.trans e2), e2 _ _ h1, h2, List.Perm.refl _, rfl⟩ (fun i σ H' hi q' => ?_) (fun σ H' q' => ?_)
  · obtain ⟨t, rs, ys, rfl, fr, hr', hd', hp, hy⟩ := q'
    have hrd' : r ≠ d := hrd.symm
    have hlr := hp.length_eq
    rw [List.length_append] at hlr
    walk_at "v"
    refine ⟨tyL hd', ?_⟩
    walk_at "v"
    refine ⟨tyL hr', ?_⟩
    walk_at "v"
    refine v_lenL hr' ?_
    walk_at "v"
    refine ⟨g, c, _, rfl, fr.good', by omega, by omega, fun k H3 hk0 hk1 f3 => ?_⟩
    have np : H r = none := n1
    have nd : H d = none := e1.free n2
    have hr3 := f3.lst (Off.new hg np) hr'
    have hd3 := f3.lst (Off.new hg nd) hd'
    have hk : k.toNat < rs.length := by omega
    walk_at "v"
    refine v_popAt hr3 hk0 (List.getElem?_eq_getElem hk) (by omega) ?_
    have hd4 : upd H3 r (.lst (rs.eraseIdx k.toNat)) d = some (.lst ys) := by rw [upd_ne hrd]; exact hd3
    have hr4 : upd H3 r (.lst (rs.eraseIdx k.toNat)) r = some (.lst (rs.eraseIdx k.toNat)) := upd_same
    have f4 := (fr.trans f3).mut (o := .lst (rs.eraseIdx k.toNat)) np
    revert hd4 hr4 f4
    generalize upd H3 r (.lst (rs.eraseIdx k.toNat)) = H4
    intro hd4 hr4 f4
    walk_at "v"
    refine v_app hd4 (by omega) ?_
    refine ⟨_, _, _, rfl, f4.mut nd, by rw [upd_ne hrd']; exact hr4, upd_same, ?_, by rw [List.length_append, hy]; rfl⟩
    rw [List.append_assoc]
    exact (List.Perm.append_left ys (erase_perm (List.getElem?_eq_getElem hk))).trans hp
  · obtain ⟨t, rs, ys, rfl, fr, hr', hd', hp, hy⟩ := q'
    walk_at "v"
    have hlr := hp.length_eq
    rw [List.length_append] at hlr
    have : rs = [] := List.length_eq_zero_iff.mp (by omega)
    subst this
    rw [List.append_nil] at hp
    exact q d ys H' hp (e1.free n2) fr hd'
end
end K14

/-! ## K14u -/
set_option Elab.async false
set_option linter.all false
set_option maxRecDepth 100000
set_option maxHeartbeats 4000000
namespace K14
open PySem PySem.Spec PyProof.Rows L2 AK
local macro_rules | `(tactic| walk_at "look") => `(tactic| first
  | assumption
  | with_reducible exact Fr.tup (by assumption) (by walk_at "look")
  | with_reducible exact Same.tup (by assumption) (by walk_at "look")
  | with_reducible exact FrmV.imm (Fr.imm (by assumption)) (by walk_at "look")
  | with_reducible exact FrmV.imm (Imm.of_same (by assumption)) (by walk_at "look")
  | with_reducible exact FrmL.imm (Fr.imm (by assumption)) (by walk_at "look")
  | with_reducible exact FrmL.imm (Imm.of_same (by assumption)) (by walk_at "look"))
local macro_rules | `(tactic| walk_at "v") => `(tactic| repeat (first
  | (with_reducible first
    | refine v_seq ?_ | refine v_next ?_ | refine v_set ?_ | refine v_ret ?_ | refine v_retN ?_ | refine v_drop ?_ | refine v_brk ?_ | refine v_if ?_
    | refine v_c ?_ | refine v_op ?_ | refine v_un ?_ | refine v_nil ?_ | refine v_cons ?_ | refine v_cb ?_ | refine v_call ?_ | refine v_test ?_ | refine v_tB ?_ | refine v_bl ?_
    | refine v_and ?_ | refine v_or ?_ | refine v_not ?_ | refine v_andV ?_ | refine v_orV ?_ | refine v_notV ?_ | refine v_ifE ?_ | refine v_true ?_ | refine v_false ?_ | refine v_ntrue ?_ | refine v_nfalse ?_
    | refine v_I0 ?_ | refine v_U ?_ | refine v_par ?_ | refine v_par2 ?_ | refine v_isII ?_ | refine v_isIB ?_ | refine v_lc ?_ | refine v_itup ?_ | refine v_ilist ?_
    | refine v_abs ?_ | refine v_max2 ?_ | refine v_int ?_ | refine v_intB ?_ | refine v_isN ?_ | refine v_notN ?_ | refine v_sl ?_ | refine v_np ?_ | refine v_pt ?_ | refine v_pi ?_ | refine v_bm ?_ | refine v_bm0 ?_ | refine v_revL ?_ | refine v_tup ?_ | refine v_lst ?_ | refine v_lc2 ?_ | refine v_dgetS ?_ | refine v_dc ?_ | refine v_zip ?_ | refine v_for ?_ | refine v_irng ?_ | refine v_asg ?_ | refine v_gsub ?_ | refine v_dnew ?_ | refine v_dput0 ?_ | refine v_din0 ?_ | refine v_dget20 ?_ | refine v_irng2 ?_ | refine v_par3 ?_ | refine v_par33 ?_ | refine v_m1 ?_)
  | ((with_reducible refine' v_var ?h ?_); (case h => with_unfolding_all rfl))
  | ((with_reducible refine v_eq ?h ?_); (case h => with_unfolding_all rfl))
  | ((with_reducible refine v_ne ?h ?_); (case h => with_unfolding_all rfl))
  | ((with_reducible refine' v_ixT ?h ?e ?_); (case h => exact SqT.of (by walk_at "look")); (case e => with_unfolding_all rfl))
  | ((with_reducible refine' v_ixL ?h ?e ?_); (case h => exact SqL.of (by assumption)); (case e => with_unfolding_all rfl))))

abbrev s__law_sums : Stmt := topS 19
abbrev n__law_sums : List Str := ["_law_some", "_law_more", "_law_found", "_law_one", "_law_other", "_law_k"]
abbrev p__law_sums : List Str := ["_law_some", "_law_more"]
theorem sc__law_sums : FnScope n__law_sums p__law_sums (defScope s__law_sums) := ⟨rfl, rfl, rfl, by decide +kernel, rfl, by decide +kernel, by decide +kernel⟩
section
variable {P : Program} {w : World} {K : PySem.W.Frag} {mg : Str → Option Value} {base : Heap} {f : Addr} {fd : FuncData}
def sp_sums : Sp := fun vs H Q _ => ∃ (a b : Addr) (xs ys : List Vec) (n : Nat), vs = [.ref a, .ref b] ∧ H a = some (.dT (stT xs)) ∧ H b = some (.dT (stT ys)) ∧ (∀ x ∈ xs, x.length = n) ∧ (∀ y ∈ ys, y.length = n) ∧ n ≤ 1000 ∧ xs.length ≤ 100000 ∧ ys.length ≤ 100000 ∧ xs.length * ys.length ≤ 100000 ∧
  ∀ p H', H p = none → Same H H' → H' p = some (.dT (stT (sumsL xs ys))) → Q (.ref p) H'
theorem ok_sums (F : Fun K "_law_sums" "_law_sums" s__law_sums f fd) (B : Bt mg) : FnOk P w K mg base CX0 1 f fd p__law_sums sp_sums := by
  refine F.ok sc__law_sums (fun vs H Q E h => ?_) (fun cdv A outer s H vs Q E hr h => ?_)
  · obtain ⟨a, b, xs, ys, n, rfl, _⟩ := h; rfl
  obtain ⟨a, b, xs, ys, n, rfl, ha, hb, lx, ly, hn, hz1, hz2, hz, q⟩ := h
  have hu := hu_of hr
  refine ⟨_, (pss_cons (ps_set (i := 2) sc__law_sums.nd rfl (Or.inl rfl) pe_dnewT)
(pss_cons (ps_for PassesOwn.never rfl (piL (K := K) rfl (ct bt_list (crListT (K := K) rfl rfl) B.list (pa_cons (pv 0) pa_nil))) (pg_name (i := 3) sc__law_sums.nd rfl (.inr rfl))
(pss_one (ps_for PassesOwn.never rfl (piL (K := K) rfl (ct bt_list (crListT (K := K) rfl rfl) B.list (pa_cons (pv 1) pa_nil))) (pg_name (i := 4) sc__law_sums.nd rfl (.inr rfl))
(pss_one (ps_dput hu (pv 2) (ct bt_tuple (crTup (K := K) rfl) B.tuple (pa_cons (pe_lc (own := [("_law_k", 5)]) (g := gName 5) rfl sc__law_sums.nd (pi_range1 rfl B.range (pa_cons (cb bt_len (crLen (K := K) rfl) B.len (pa_cons (pv 3) pa_nil)) pa_nil)) (blkOk_by (own := [("_law_k", 5)]) (N := n__law_sums) (sc := defScope s__law_sums) (by decide +kernel)) (fun _ _ _ _ _ => (pg_name (i := 5) sc__law_sums.nd rfl (Or.inl rfl))) (fun _ _ _ _ _ => pts_nil) (fun _ _ _ _ _ => (pe_op op_add (pe_ix (ixT (K := K) rfl) (pv 3) (pv 5) (fun _ _ => rfl)) (pe_ix (ixT (K := K) rfl) (pv 4) (pv 5) (fun _ _ => rfl))))) pa_nil)) pe_bl rfl)))))
(pss_one (ps_ret (pv 2))))), ?_⟩
  walk_at "v"
  refine v_dnewT fun d H1 n1 e1 h1 => ?_
  walk_at "v"
  refine v_listS (e1 _ _ ha) fun p bs H2 n2 e2 h2 hlen hbs => ?_
  have hdp : d ≠ p := ne_of_none h1 n2
  have np : H p = none := e1.free n2
  refine v_forL (SqL.of h2) (fun i σ H' => ∃ t1 t2, σ = [some (.ref a), some (.ref b), some (.ref d), t1, t2, none] ∧ Same H H' ∧ H' p = some (.lst (bs.map V.ref)) ∧ (∀ (i : Nat) (b : Addr), bs[i]? = some b → ∃ k, xs[i]? = some k ∧ H' b = some (.tup (k.map V.int))) ∧
      H' d = some (.dT (stT (((xs.take i).flatMap fun x => ys.map (addV x)).foldl ins [])))) ⟨none, none, rfl, e1.trans e2, h2, hbs, e2 _ _ h1⟩ (fun i σ H' _ q => ?_) (fun i x σ H' hx q => ?_) (fun σ H' q0 => ?_)
  · obtain ⟨t1, t2, rfl, s0, hp', _⟩ := q
    exact SqL.of hp'
  · obtain ⟨t1, t2, rfl, s0, hp', hbs', hd'⟩ := q
    rw [List.getElem?_map] at hx
    obtain ⟨b1, hb1, rfl⟩ := Option.map_eq_some_iff.mp hx
    obtain ⟨x, hxi, hb1'⟩ := hbs' i b1 hb1
    have hxm := List.mem_of_getElem? hxi
    walk_at "v"
    refine v_listS (s0 _ _ hb) fun p2 cs H3 n3 e3 h3 hlen3 hcs => ?_
    have hdp2 : d ≠ p2 := ne_of_none hd' n3
    have np2 : H p2 = none := s0.free n3
    refine v_forL (SqL.of h3) (fun j σ H' => ∃ t2, σ = [some (.ref a), some (.ref b), some (.ref d), some (.ref b1), t2, none] ∧ Same H H' ∧ H' p = some (.lst (bs.map V.ref)) ∧ (∀ (i : Nat) (b : Addr), bs[i]? = some b → ∃ k, xs[i]? = some k ∧ H' b = some (.tup (k.map V.int))) ∧
        H' p2 = some (.lst (cs.map V.ref)) ∧ (∀ (i : Nat) (b : Addr), cs[i]? = some b → ∃ k, ys[i]? = some k ∧ H' b = some (.tup (k.map V.int))) ∧
        H' d = some (.dT (stT (((ys.take j).map (addV x)).foldl ins (((xs.take i).flatMap fun x => ys.map (addV x)).foldl ins []))))) ⟨t2, rfl, s0.trans e3, e3 _ _ hp', fun i b hb => by obtain ⟨k, h4, h5⟩ := hbs' i b hb; exact ⟨k, h4, e3 _ _ h5⟩, h3, hcs, e3 _ _ hd'⟩ (fun i σ H' _ q => ?_) (fun j y σ H4 hy q => ?_) (fun σ H' q => ?_)
    · obtain ⟨t2, rfl, _, _, _, h4, _⟩ := q
      exact SqL.of h4
    · obtain ⟨t2, rfl, s4, hp4, hbs4, hp24, hcs4, hd4⟩ := q
      rw [List.getElem?_map] at hy
      obtain ⟨c1, hc1, rfl⟩ := Option.map_eq_some_iff.mp hy
      obtain ⟨y, hyj, hc1'⟩ := hcs4 j c1 hc1
      have hym := List.mem_of_getElem? hyj
      obtain ⟨x', hx', hb14⟩ := hbs4 i b1 hb1
      rw [hxi] at hx'
      cases hx'
      have hxl := lx x hxm
      have hyl := ly y hym
      walk_at "v"
      refine v_lenT hb14 ?_
      walk_at "v"
      have hxl2 : (x.map V.int).length = n := by rw [List.length_map, hxl]
      rw [hxl2]
      refine v_lcRg none trivial (n := (n : Int)) (by omega) (by omega) (fun i => .int (x.getD i 0 + y.getD i 0)) (fun _ => rfl) (fun k H5 Qn hk f5 qn => ?_) (fun D H5 hD f5 e5 => ?_)
      · have hk2 : k < n := by omega
        walk_at "v"
        refine v_ixT (v := .int (x.getD k 0)) (SqT.of (f5.tup hb14)) (atI_nat (by simp [hxl, hk2])) ?_
        walk_at "v"
        refine v_ixT (v := .int (y.getD k 0)) (SqT.of (f5.tup hc1')) (atI_nat (by simp [hyl, hk2])) ?_
        walk_at "v"
        exact qn _ (Fr.refl trivial)
      · walk_at "v"
        refine v_tupL e5 fun p3 H6 n6 e6 h6 => ?_
        have hty : ((List.range (n : Int).toNat).map fun i => V.int (x.getD i 0 + y.getD i 0)) = (addV x y).map V.int := by
          rw [Int.toNat_natCast, ← hxl]; exact addV_range (by rw [hxl, hyl])
        rw [hty] at h6
        have s6 := f5.to.trans e6
        have hpd : p ≠ d := hdp.symm
        have hp2d : p2 ≠ d := hdp2.symm
        have hd6 := s6 _ _ hd4
        have hbnd : (((ys.take j).map (addV x)).foldl ins (((xs.take i).flatMap fun x => ys.map (addV x)).foldl ins [])).length ≤ 200000 := by
          refine Nat.le_trans (insL_len _ _) ?_
          have h7 := insL_len ((xs.take i).flatMap fun x => ys.map (addV x)) []
          rw [len_flatMap_const (k := ys.length) fun x _ => List.length_map _, List.length_nil] at h7
          have h8 : ((ys.take j).map (addV x)).length ≤ ys.length := by rw [List.length_map, List.length_take]; omega
          have h9 : (xs.take i).length * ys.length ≤ xs.length * ys.length := Nat.mul_le_mul_right _ (by rw [List.length_take]; omega)
          omega
        walk_at "v"
        refine v_dputT (kvs := stT _) hd6 h6 (by rw [stT_len]; omega) ?_
        rw [putK_stT]
        have nt : ∀ {c : Addr} {us : List V}, H6 c = some (.tup us) → (upd H6 d (.dT (stT (ins (((ys.take j).map (addV x)).foldl ins (((xs.take i).flatMap fun x => ys.map (addV x)).foldl ins [])) (addV x y))))) c = some (.tup us) := fun {c us} hc => by
          rw [upd_ne (ne_of hc hd6 (fun z => nomatch z))]; exact hc
        refine ⟨_, rfl, AK.Same.mut (s4.trans s6) n1, ?_, ?_, ?_, ?_, ?_⟩
        · rw [upd_ne hpd]; exact s6 _ _ hp4
        · intro i b hb
          obtain ⟨k, h7, h8⟩ := hbs4 i b hb
          exact ⟨k, h7, nt (s6 _ _ h8)⟩
        · rw [upd_ne hp2d]; exact s6 _ _ hp24
        · intro i b hb
          obtain ⟨k, h7, h8⟩ := hcs4 i b hb
          exact ⟨k, h7, nt (s6 _ _ h8)⟩
        · rw [upd_same, List.take_add_one, hyj, Option.toList_some, List.map_append, List.foldl_append]
          rfl
    · obtain ⟨t3, rfl, s4, hp4, hbs4, hp24, hcs4, hd4⟩ := q
      refine ⟨_, t3, rfl, s4, hp4, hbs4, ?_⟩
      rw [hd4, List.take_add_one, hxi, Option.toList_some, List.flatMap_append, List.foldl_append, List.flatMap_singleton, List.length_map, hlen3, List.take_length]
  · obtain ⟨t3, t4, rfl, s4, hp4, hbs4, hd4⟩ := q0
    walk_at "v"
    refine q d H' n1 s4 ?_
    rw [hd4, List.length_map, hlen, List.take_length]
    rfl
end
end K14

/-! ## K14v -/
set_option Elab.async false
set_option linter.all false
set_option maxRecDepth 100000
set_option maxHeartbeats 4000000
namespace K14
open PySem PySem.Spec PyProof.Rows L2 AK
local macro_rules | `(tactic| walk_at "look") => `(tactic| first
  | assumption
  | with_reducible exact Fr.tup (by assumption) (by walk_at "look")
  | with_reducible exact Same.tup (by assumption) (by walk_at "look")
  | with_reducible exact FrmV.imm (Fr.imm (by assumption)) (by walk_at "look")
  | with_reducible exact FrmV.imm (Imm.of_same (by assumption)) (by walk_at "look")
  | with_reducible exact FrmL.imm (Fr.imm (by assumption)) (by walk_at "look")
  | with_reducible exact FrmL.imm (Imm.of_same (by assumption)) (by walk_at "look"))
local macro_rules | `(tactic| walk_at "v") => `(tactic| repeat (first
  | (with_reducible first
    | refine v_seq ?_ | refine v_next ?_ | refine v_set ?_ | refine v_ret ?_ | refine v_retN ?_ | refine v_drop ?_ | refine v_brk ?_ | refine v_if ?_
    | refine v_c ?_ | refine v_op ?_ | refine v_un ?_ | refine v_nil ?_ | refine v_cons ?_ | refine v_cb ?_ | refine v_call ?_ | refine v_test ?_ | refine v_tB ?_ | refine v_bl ?_
    | refine v_and ?_ | refine v_or ?_ | refine v_not ?_ | refine v_andV ?_ | refine v_orV ?_ | refine v_notV ?_ | refine v_ifE ?_ | refine v_true ?_ | refine v_false ?_ | refine v_ntrue ?_ | refine v_nfalse ?_
    | refine v_I0 ?_ | refine v_U ?_ | refine v_par ?_ | refine v_par2 ?_ | refine v_isII ?_ | refine v_isIB ?_ | refine v_lc ?_ | refine v_itup ?_ | refine v_ilist ?_
    | refine v_abs ?_ | refine v_max2 ?_ | refine v_int ?_ | refine v_intB ?_ | refine v_isN ?_ | refine v_notN ?_ | refine v_sl ?_ | refine v_np ?_ | refine v_pt ?_ | refine v_pi ?_ | refine v_bm ?_ | refine v_bm0 ?_ | refine v_revL ?_ | refine v_tup ?_ | refine v_lst ?_ | refine v_lc2 ?_ | refine v_dgetS ?_ | refine v_dc ?_ | refine v_zip ?_ | refine v_for ?_ | refine v_irng ?_ | refine v_asg ?_ | refine v_gsub ?_ | refine v_dnew ?_ | refine v_dput0 ?_ | refine v_din0 ?_ | refine v_dget20 ?_ | refine v_irng2 ?_ | refine v_par3 ?_ | refine v_par33 ?_ | refine v_m1 ?_)
  | ((with_reducible refine' v_var ?h ?_); (case h => with_unfolding_all rfl))
  | ((with_reducible refine v_eq ?h ?_); (case h => with_unfolding_all rfl))
  | ((with_reducible refine v_ne ?h ?_); (case h => with_unfolding_all rfl))
  | ((with_reducible refine' v_ixT ?h ?e ?_); (case h => exact SqT.of (by walk_at "look")); (case e => with_unfolding_all rfl))
  | ((with_reducible refine' v_ixL ?h ?e ?_); (case h => exact SqL.of (by assumption)); (case e => with_unfolding_all rfl))))

abbrev s__law_laid : Stmt := topS 20
abbrev n__law_laid : List Str := ["_law_formula_here", "_law_names_here", "_law_part", "_law_found", "_law_turn", "_law_name"]
abbrev p__law_laid : List Str := ["_law_formula_here", "_law_names_here"]
theorem sc__law_laid : FnScope n__law_laid p__law_laid (defScope s__law_laid) := ⟨rfl, rfl, rfl, by decide +kernel, rfl, by decide +kernel, by decide +kernel⟩
section
variable {P : Program} {w : World} {K : PySem.W.Frag} {mg : Str → Option Value} {base : Heap} {f : Addr} {fd : FuncData}
def sp_laid (n : Nat) : Sp := fun vs H Q _ => ∃ (v : V) (l : Addr) (fm : Fm) (nms : List Str) (r : Nat), vs = [v, .ref l] ∧ FrmV H fm v ∧ H l = some (.lst (nms.map V.str)) ∧ 1 ≤ nms.length ∧ nms.length ≤ 60 ∧ fm.depth ≤ n ∧ fm.rm r ∧ fm.names.length * r ≤ 14 ∧
  ∀ p H', H p = none → Same H H' → H' p = some (.dT (stT (fm.laid nms))) → Q (.ref p) H'
theorem rep0 (n : Nat) : (List.replicate ((n : Int)).toNat [V.int 0]).flatten = (zeroV n).map V.int := by
  rw [Int.toNat_natCast]
  unfold zeroV
  rw [List.map_replicate]
  induction n with
  | zero => rfl
  | succ n ih => rw [List.replicate_succ, List.flatten_cons, ih, List.replicate_succ]; rfl
theorem ok_laid (F : Fun K "_law_laid" "_law_laid" s__law_laid f fd) (B : Bt mg) {n : Nat} (h_law_sums : Fn P w K mg base 1 "_law_sums" p__law_sums sp_sums) (h_law_laid : Fn P w K mg base (n + 1) "_law_laid" p__law_laid (sp_laid n)) : FnOk P w K mg base CX0 (n + 2) f fd p__law_laid (sp_laid (n + 1)) := by
  refine F.ok sc__law_laid (fun vs H Q E h => ?_) (fun cdv A outer s H vs Q E hr h => ?_)
  · obtain ⟨v, l, fm, nms, r, rfl, _⟩ := h; rfl
  obtain ⟨v, l, fm, nms, r, rfl, hf, hl, hn0, hn1, hdp, hrm, hb, q⟩ := h
  have hu := hu_of hr
  refine ⟨_, (pss_cons (ps_if (pt_cmpR op_eq (pe_ix (ixT (K := K) rfl) (pv 0) pe_int (fun _ _ => rfl)) pe_str (nomark _))
(pss_one (ps_ret (pe_disp1T hu (ct bt_tuple (crTup (K := K) rfl) B.tuple (pa_cons (pe_lc (own := [("_law_name", 5)]) (g := gName 5) rfl sc__law_laid.nd (piL (K := K) rfl (pv 1)) (blkOk_by (own := [("_law_name", 5)]) (N := n__law_laid) (sc := defScope s__law_laid) (by decide +kernel)) (fun _ _ _ _ _ => (pg_name (i := 5) sc__law_laid.nd rfl (Or.inl rfl))) (fun _ _ _ _ _ => pts_nil) (fun _ _ _ _ _ => (ct bt_int (crInt (K := K) rfl) B.int (pa_cons (pe_cmpR op_eq (pv 5) (pe_ix (ixT (K := K) rfl) (pv 0) pe_int (fun _ _ => rfl)) (nomark _)) pa_nil)))) pa_nil)) pe_bl)))
pss_nil)
(pss_cons (ps_if (pt_cmpR op_eq (pe_ix (ixT (K := K) rfl) (pv 0) pe_int (fun _ _ => rfl)) pe_str (nomark _))
(pss_cons (ps_par (i := 2) (j := 3) rfl sc__law_laid.nd rfl rfl (by decide) rfl rfl (pa_cons (cal h_law_laid hr (pa_cons (pe_ix (ixT (K := K) rfl) (pv 0) pe_int (fun _ _ => rfl)) (pa_cons (pv 1) pa_nil))) (pa_cons (pe_disp1T hu (pe_op (op_rep1 (K := K) rfl) (pe_tup (pa_cons pe_int pa_nil)) (cb bt_len (crLen (K := K) rfl) B.len (pa_cons (pv 1) pa_nil))) pe_bl) pa_nil)) rfl)
(pss_cons (ps_for PassesOwn.never rfl (pi_range1 rfl B.range (pa_cons (pe_ix (ixT (K := K) rfl) (pv 0) pe_int (fun _ _ => rfl)) pa_nil)) (pg_name (i := 4) sc__law_laid.nd rfl (Or.inl rfl))
(pss_one (ps_set (i := 3) sc__law_laid.nd rfl (Or.inl rfl) (cal h_law_sums hr (pa_cons (pv 3) (pa_cons (pv 2) pa_nil))))))
(pss_one (ps_ret (pv 3)))))
pss_nil)
(pss_cons (ps_set (i := 3) sc__law_laid.nd rfl (Or.inl rfl) (cal h_law_laid hr (pa_cons (pe_ix (ixT (K := K) rfl) (pe_ix (ixT (K := K) rfl) (pv 0) pe_int (fun _ _ => rfl)) pe_int (fun _ _ => rfl)) (pa_cons (pv 1) pa_nil))))
(pss_cons (ps_for PassesOwn.never rfl (piT (K := K) rfl (pe_slice (slT (K := K) rfl) (pe_ix (ixT (K := K) rfl) (pv 0) pe_int (fun _ _ => rfl)) (po_some pe_int) po_none)) (pg_name (i := 2) sc__law_laid.nd rfl (Or.inl rfl))
(pss_one (ps_if (pt_cmpR op_eq (pe_ix (ixT (K := K) rfl) (pv 0) pe_int (fun _ _ => rfl)) pe_str (nomark _))
(pss_one (ps_set (i := 3) sc__law_laid.nd rfl (Or.inl rfl) (cal h_law_sums hr (pa_cons (pv 3) (pa_cons (cal h_law_laid hr (pa_cons (pv 2) (pa_cons (pv 1) pa_nil))) pa_nil)))))
(pss_one (ps_expr (bmD PySem.F.slot_dict_update PySem.F.type_dict_update (K := K) rfl (mt_updT hu) (pv 3) (pa_cons (cal h_law_laid hr (pa_cons (pv 2) (pa_cons (pv 1) pa_nil))) pa_nil)))))))
(pss_one (ps_ret (pv 3))))))), ?_⟩
  cases fm with
  | kind nm =>
    rw [FrmV] at hf
    obtain ⟨a, rfl, ha⟩ := hf
    walk_at "v"
    refine v_dec (fun _ => ?_) (fun c => absurd rfl c)
    walk_at "v"
    refine v_disp1 fun p H1 n1 e1 h1 => ?_
    walk_at "v"
    refine v_lcLF none (e1 _ _ hl) trivial trivial (fun s => .int (if s = nm then 1 else 0)) (by omega) (fun _ => rfl) (fun s H2 Qn hs f2 qn => ?_) (fun D H2 hD f2 e2 => ?_)
    · have ha2 := f2.tup (e1 _ _ ha)
      walk_at "v"
      have e : (if decide (V.str s = V.str nm) = true then (1 : Int) else 0) = if s = nm then 1 else 0 := by
        by_cases h : s = nm
        · rw [h, if_pos (decide_eq_true rfl), if_pos rfl]
        · rw [if_neg h, if_neg (fun z => h (V.str.inj (of_decide_eq_true z)))]
      rw [e]
      exact qn _ (Fr.refl trivial)
    · walk_at "v"
      refine v_tupL e2 fun p3 H3 n3 e3 h3 => ?_
      walk_at "v"
      have h13 := e3 _ _ (f2.to _ _ h1)
      refine ⟨p3, kOf (nms.map fun s => if s = nm then 1 else 0), rfl, h13, by rw [kV_kOf, List.map_map]; exact h3, ?_⟩
      refine q p _ n1 (AK.Same.mut (e1.trans (f2.to.trans e3)) n1) ?_
      rw [upd_same]; rfl
  | many m g =>
    rw [FrmV] at hf
    obtain ⟨a, u, rfl, ha, hu2⟩ := hf
    rw [Fm.rm] at hrm
    rw [Fm.names] at hb
    obtain ⟨hm2, hmr, hrg⟩ := hrm
    have hr14 : r ≤ 14 := Nat.le_trans (Nat.le_mul_of_pos_left r (Fm.names_pos g hrg).1) hb
    have hdg : g.depth ≤ n := Nat.le_of_succ_le_succ hdp
    walk_at "v"
    refine v_dec (fun c => absurd c (by decide)) (fun _ => ?_)
    walk_at "v"
    refine v_dec (fun _ => ?_) (fun c => absurd rfl c)
    walk_at "v"
    have hbg : g.names.length * (r / m.toNat) ≤ 14 := Nat.le_trans (Nat.mul_le_mul_left _ (Nat.div_le_self _ _)) hb
    refine ⟨u, l, g, nms, _, rfl, hu2, hl, hn0, hn1, hdg, hrg, hbg, fun p1 H1 n1 e1 h1 => ?_⟩
    walk_at "v"
    refine v_disp1 fun p2 H2 n2 e2 h2 => ?_
    walk_at "v"
    refine v_dt (fun p3 H3 n3 e3 h3 => ?_)
    walk_at "v"
    refine v_lenL (((e1.trans e2).trans e3) _ _ hl) ?_
    refine v_rep1 h3 (List.cons_ne_nil _ _) (by rw [List.length_map]; omega) (by rw [List.length_map]; omega) (by simp) fun p4 H4 e4 h4 => ?_
    rw [List.length_map, rep0] at h4
    walk_at "v"
    have h24 := e4 _ _ (e3 _ _ h2)
    refine ⟨p4, kOf (zeroV nms.length), rfl, h24, by rw [kV_kOf]; exact h4, ?_⟩
    have s5 : Same H (upd H4 p2 (.dT [(kOf (zeroV nms.length), V.bl true)])) := AK.Same.mut (((e1.trans e2).trans e3).trans e4) (e1.free n2)
    have h25 : upd H4 p2 (.dT [(kOf (zeroV nms.length), V.bl true)]) p2 = some (.dT (stT (powL (zeroV nms.length) (g.laid nms) 0))) := upd_same
    have h15 : upd H4 p2 (.dT [(kOf (zeroV nms.length), V.bl true)]) p1 = some (.dT (stT (g.laid nms))) := by
      rw [upd_ne (ne_of_none h1 n2)]; exact ((e2.trans e3).trans e4) _ _ h1
    revert s5 h25 h15
    generalize upd H4 p2 (.dT [(kOf (zeroV nms.length), V.bl true)]) = H5
    intro s5 h25 h15
    walk_at "v"
    have ha5 := s5 _ _ ha
    walk_at "v"
    have np1 := n1
    have np2 : H p2 = none := e1.free n2
    refine v_forR (by omega) (by omega) (fun i σ H' => ∃ (p : Addr) (t : Option V), σ = [some (.ref a), some (.ref l), some (.ref p1), some (.ref p), t, none] ∧ H p = none ∧ Same H H' ∧ H' p1 = some (.dT (stT (g.laid nms))) ∧ H' p = some (.dT (stT (powL (zeroV nms.length) (g.laid nms) i)))) ⟨p2, none, rfl, np2, s5, h15, h25⟩ (fun i σ H' hi q => ?_) (fun σ H' q => ?_)
    · obtain ⟨p, t, rfl, np, s6, h16, h26⟩ := q
      walk_at "v"
      have hc := Fm.laid_len nms g hrg
      have hk : ∀ k, k ≤ m.toNat → (powL (zeroV nms.length) (g.laid nms) k).length ≤ 2 ^ 14 := fun k hk => by
        refine Nat.le_trans (powL_len hc k) (Nat.pow_le_pow_right (by decide) (Nat.le_trans ?_ hb))
        rw [Nat.mul_assoc]
        refine Nat.mul_le_mul_left _ (Nat.le_trans (Nat.mul_le_mul_left _ hk) (Nat.div_mul_le_self _ _))
      have hc2 : (g.laid nms).length ≤ 2 ^ 14 := Nat.le_trans hc (Nat.pow_le_pow_right (by decide) hbg)
      have hpr : (powL (zeroV nms.length) (g.laid nms) i).length * (g.laid nms).length ≤ 2 ^ 14 := by
        refine Nat.le_trans (Nat.mul_le_mul (powL_len hc i) hc) ?_
        rw [← Nat.pow_add, ← Nat.mul_succ]
        refine Nat.pow_le_pow_right (by decide) (Nat.le_trans ?_ hb)
        rw [Nat.mul_assoc]
        refine Nat.mul_le_mul_left _ (Nat.le_trans (Nat.mul_le_mul_left _ (by omega)) (Nat.div_mul_le_self _ _))
      refine ⟨p, p1, _, _, nms.length, rfl, h26, h16, powL_rows (zeroV_len _) (Fm.laid_rows nms g) i, Fm.laid_rows nms g, by omega, Nat.le_trans (hk i (by omega)) (by decide), Nat.le_trans hc2 (by decide), Nat.le_trans hpr (by decide), fun p' H7 n7 e7 h7 => ?_⟩
      walk_at "v"
      exact ⟨p', _, rfl, s6.free n7, s6.trans e7, e7 _ _ h16, h7⟩
    · obtain ⟨p, t, rfl, np, s6, h16, h26⟩ := q
      walk_at "v"
      exact q p H' np s6 (by rw [h26]; rfl)
  | node b fs =>
    rw [FrmV] at hf
    obtain ⟨a, p, us, rfl, ha, hp, hu2⟩ := hf
    rw [Fm.rm] at hrm
    rw [Fm.names] at hb
    obtain ⟨hne, hrl⟩ := hrm
    obtain ⟨g, gs, rfl⟩ := List.exists_cons_of_ne_nil hne
    rw [FrmL] at hu2
    obtain ⟨u, ur, rfl, hg1, hg2⟩ := hu2
    rw [Fm.rmL] at hrl
    obtain ⟨hrg, hrs⟩ := hrl
    have hgl := hg2.len
    have hdg : ∀ x ∈ g :: gs, x.depth ≤ n := fun x hx => Nat.le_trans (Fm.depthL_mem hx) (Nat.le_of_succ_le_succ hdp)
    rw [Fm.namesL, List.length_append] at hb
    have hbx : ∀ k, k ≤ g.names.length + (Fm.namesL gs).length → k * r ≤ 14 := fun k hk => Nat.le_trans (Nat.mul_le_mul_right _ hk) hb
    have hpg := Fm.names_pos g hrg
    walk_at "v"
    have hw1 : decide (V.str (wordOf b) = V.str "kind") = false := by cases b <;> rfl
    have hw2 : decide (V.str (wordOf b) = V.str "many") = false := by cases b <;> rfl
    rw [hw1]
    walk_at "v"
    rw [hw2]
    walk_at "v"
    refine v_ixT (SqT.of hp) (atI_int (k := 0) (by decide) rfl) ?_
    walk_at "v"
    refine ⟨u, l, g, nms, r, rfl, hg1, hl, hn0, hn1, hdg g (.head _), hrg, hbx _ (by omega), fun p1 H1 n1 e1 h1 => ?_⟩
    walk_at "v"
    have ha1 := e1 _ _ ha
    have hp1 := e1 _ _ hp
    walk_at "v"
    refine v_slT1 hp1 fun p2 H2 n2 e2 h2 => ?_
    have nbase : ∀ k, (Fm.laidR nms b (g.laid nms) (gs.take k)).length ≤ 2 ^ ((g.names.length + (Fm.namesL (gs.take k)).length) * r) := fun k => Fm.laidR_len nms b _ _ _ (Fm.laid_len nms g hrg) hpg (Fm.rmL_of fun x hx => Fm.rmL_at hrs (List.mem_of_mem_take hx))
    refine v_forT h2 (fun i σ H' => ∃ (p : Addr) (t : Option V), σ = [some (.ref a), some (.ref l), t, some (.ref p), none, none] ∧ H p = none ∧ Same H H' ∧ Imm H2 H' ∧ H' p = some (.dT (stT (Fm.laidR nms b (g.laid nms) (gs.take i))))) ⟨p1, none, rfl, n1, e1.trans e2, Imm.refl _, by rw [List.take_zero, Fm.laidR]; exact e2 _ _ h1⟩ (fun i σ H' q => ?_) (fun i x σ H' hx q => ?_) (fun σ H' q => ?_)
    · obtain ⟨_, _, _, _, _, q, _⟩ := q
      exact q
    · obtain ⟨pf, t, rfl, np, s3, im3, h3⟩ := q
      have hi : i < gs.length := by rw [← hgl]; exact (List.getElem?_eq_some_iff.mp hx).1
      have hgi : gs[i]? = some gs[i] := List.getElem?_eq_getElem hi
      have hgm : gs[i] ∈ gs := List.getElem_mem hi
      have hfx := (hg2.at hgi hx).imm (Imm.of_same s3)
      have hl3 := s3 _ _ hl
      have ha3 := s3 _ _ ha
      have hp3 := s3 _ _ hp
      have htk : gs.take (i + 1) = gs.take i ++ [gs[i]] := by rw [List.take_add_one, hgi]; rfl
      have hsp : (Fm.namesL (gs.take i)).length + gs[i].names.length ≤ (Fm.namesL gs).length := by
        have e : Fm.namesL gs = Fm.namesL (gs.take (i + 1)) ++ Fm.namesL (gs.drop (i + 1)) := by
          rw [Fm.namesL_flat, Fm.namesL_flat, Fm.namesL_flat, ← List.flatMap_append, List.take_append_drop]
        rw [e, htk, Fm.namesL_flat, Fm.namesL_flat, List.flatMap_append, List.flatMap_singleton, List.length_append, List.length_append]
        omega
      have hbi : gs[i].names.length * r ≤ 14 := hbx _ (by omega)
      have hrgi := Fm.rmL_at hrs hgm
      have l1 := nbase i
      have l2 := Fm.laid_len nms gs[i] hrgi
      have l3 : (g.names.length + (Fm.namesL (gs.take i)).length) * r + gs[i].names.length * r ≤ 14 := by
        rw [← Nat.add_mul]; exact hbx _ (by omega)
      have l4 : (Fm.laidR nms b (g.laid nms) (gs.take i)).length ≤ 2 ^ 14 := Nat.le_trans l1 (Nat.pow_le_pow_right (by decide) (by omega))
      have l5 : (gs[i].laid nms).length ≤ 2 ^ 14 := Nat.le_trans l2 (Nat.pow_le_pow_right (by decide) hbi)
      have l6 : (Fm.laidR nms b (g.laid nms) (gs.take i)).length * (gs[i].laid nms).length ≤ 2 ^ 14 := by
        refine Nat.le_trans (Nat.mul_le_mul l1 l2) ?_
        rw [← Nat.pow_add]
        exact Nat.pow_le_pow_right (by decide) l3
      have rows1 := Fm.laidR_rows nms b (gs.take i) _ (Fm.laid_rows nms g)
      walk_at "v"
      cases b with
      | true =>
        refine v_dec (fun _ => ?_) (fun c => absurd rfl c)
        walk_at "v"
        refine ⟨x, l, gs[i], nms, r, rfl, hfx, hl3, hn0, hn1, hdg _ (.tail _ hgm), hrgi, hbi, fun p4 H4 n4 e4 h4 => ?_⟩
        walk_at "v"
        refine ⟨pf, p4, _, _, nms.length, rfl, e4 _ _ h3, h4, rows1, Fm.laid_rows nms _, by omega, Nat.le_trans l4 (by decide), Nat.le_trans l5 (by decide), Nat.le_trans l6 (by decide), fun p5 H5 n5 e5 h5 => ?_⟩
        walk_at "v"
        refine ⟨p5, _, rfl, (s3.trans e4).free n5, (s3.trans e4).trans e5, im3.trans (Imm.of_same (e4.trans e5)), ?_⟩
        rw [h5, htk, Fm.laidR_snoc, if_pos rfl]
      | false =>
        refine v_dec (fun c => absurd c (by decide)) (fun _ => ?_)
        walk_at "v"
        refine ⟨tyD h3, ?_⟩
        walk_at "v"
        refine ⟨x, l, gs[i], nms, r, rfl, hfx, hl3, hn0, hn1, hdg _ (.tail _ hgm), hrgi, hbi, fun p4 H4 n4 e4 h4 => ?_⟩
        walk_at "v"
        refine v_updT (e4 _ _ h3) h4 (ne_of_none h3 n4) (Fm.laidR_ne nms false _ _ (Fm.laid_ne nms g hrg) (Fm.rmL_of (r := r) fun x hx => Fm.rmL_at hrs (List.mem_of_mem_take hx))) (by omega) ?_
        refine ⟨pf, _, rfl, np, AK.Same.mut (s3.trans e4) np, (im3.trans (Imm.of_same e4)).trans (Imm.mutT (e4 _ _ h3)), ?_⟩
        rw [upd_same, htk, Fm.laidR_snoc, if_neg Bool.false_ne_true]
    · obtain ⟨pf, t, rfl, np, s3, im3, h3⟩ := q
      walk_at "v"
      refine q pf H' np s3 ?_
      rw [h3, hgl, List.take_length, Fm.laid, Fm.laidN]
end
end K14

/-! ## K14w -/
set_option Elab.async false
set_option linter.all false
set_option maxRecDepth 100000
set_option maxHeartbeats 4000000
namespace K14
open PySem PySem.Spec PyProof.Rows L2 AK
local macro_rules | `(tactic| walk_at "look") => `(tactic| first
  | assumption
  | with_reducible exact Fr.tup (by assumption) (by walk_at "look")
  | with_reducible exact Same.tup (by assumption) (by walk_at "look")
  | with_reducible exact FrmV.imm (Fr.imm (by assumption)) (by walk_at "look")
  | with_reducible exact FrmV.imm (Imm.of_same (by assumption)) (by walk_at "look")
  | with_reducible exact FrmL.imm (Fr.imm (by assumption)) (by walk_at "look")
  | with_reducible exact FrmL.imm (Imm.of_same (by assumption)) (by walk_at "look"))
local macro_rules | `(tactic| walk_at "v") => `(tactic| repeat (first
  | (with_reducible first
    | refine v_seq ?_ | refine v_next ?_ | refine v_set ?_ | refine v_ret ?_ | refine v_retN ?_ | refine v_drop ?_ | refine v_brk ?_ | refine v_if ?_
    | refine v_c ?_ | refine v_op ?_ | refine v_un ?_ | refine v_nil ?_ | refine v_cons ?_ | refine v_cb ?_ | refine v_call ?_ | refine v_test ?_ | refine v_tB ?_ | refine v_bl ?_
    | refine v_and ?_ | refine v_or ?_ | refine v_not ?_ | refine v_andV ?_ | refine v_orV ?_ | refine v_notV ?_ | refine v_ifE ?_ | refine v_true ?_ | refine v_false ?_ | refine v_ntrue ?_ | refine v_nfalse ?_
    | refine v_I0 ?_ | refine v_U ?_ | refine v_par ?_ | refine v_par2 ?_ | refine v_isII ?_ | refine v_isIB ?_ | refine v_lc ?_ | refine v_itup ?_ | refine v_ilist ?_
    | refine v_abs ?_ | refine v_max2 ?_ | refine v_int ?_ | refine v_intB ?_ | refine v_isN ?_ | refine v_notN ?_ | refine v_sl ?_ | refine v_np ?_ | refine v_pt ?_ | refine v_pi ?_ | refine v_bm ?_ | refine v_bm0 ?_ | refine v_revL ?_ | refine v_tup ?_ | refine v_lst ?_ | refine v_lc2 ?_ | refine v_dgetS ?_ | refine v_dc ?_ | refine v_zip ?_ | refine v_for ?_ | refine v_irng ?_ | refine v_asg ?_ | refine v_gsub ?_ | refine v_dnew ?_ | refine v_dput0 ?_ | refine v_din0 ?_ | refine v_dget20 ?_ | refine v_irng2 ?_ | refine v_par3 ?_ | refine v_par33 ?_ | refine v_m1 ?_)
  | ((with_reducible refine' v_var ?h ?_); (case h => with_unfolding_all rfl))
  | ((with_reducible refine v_eq ?h ?_); (case h => with_unfolding_all rfl))
  | ((with_reducible refine v_ne ?h ?_); (case h => with_unfolding_all rfl))
  | ((with_reducible refine' v_ixT ?h ?e ?_); (case h => exact SqT.of (by walk_at "look")); (case e => with_unfolding_all rfl))
  | ((with_reducible refine' v_ixL ?h ?e ?_); (case h => exact SqL.of (by assumption)); (case e => with_unfolding_all rfl))))

abbrev s__law_known : Stmt := topS 21
abbrev n__law_known : List Str := ["_law_ways", "_law_zero", "_law_known_here", "_law_last", "_law_most", "_law_many", "_law_item"]
abbrev p__law_known : List Str := ["_law_ways", "_law_zero"]
theorem sc__law_known : FnScope n__law_known p__law_known (defScope s__law_known) := ⟨rfl, rfl, rfl, by decide +kernel, rfl, by decide +kernel, by decide +kernel⟩
section
variable {P : Program} {w : World} {K : PySem.W.Frag} {mg : Str → Option Value} {base : Heap} {f : Addr} {fd : FuncData}
def sp_known : Sp := fun vs H Q _ => ∃ (a b : Addr) (W : List Vec) (z : Vec) (n : Nat), vs = [.ref a, .ref b] ∧ H a = some (.dT (stT W)) ∧ H b = some (.tup (z.map V.int)) ∧ (∀ x ∈ W, x.length = n) ∧ z.length = n ∧ n ≤ 1000 ∧ W ≠ [] ∧ W.length ≤ 500 ∧ Uniq z W ∧
  ∀ p d k H', 1 ≤ k → k ≤ 3 → Same H H' → H' p = some (.tup [.ref d, .int (k : Nat)]) → H d = none → H' d = some (.dT (dTo V.int (knownL z W k))) → (knownL z W k).length ≤ 2000 → Q (.ref p) H'
theorem ok_known (F : Fun K "_law_known" "_law_known" s__law_known f fd) (B : Bt mg) (h_law_sums : Fn P w K mg base 1 "_law_sums" p__law_sums sp_sums) : FnOk P w K mg base CX0 2 f fd p__law_known sp_known := by
  refine F.ok sc__law_known (fun vs H Q E h => ?_) (fun cdv A outer s H vs Q E hr h => ?_)
  · obtain ⟨a, b, W, z, n, rfl, _⟩ := h; rfl
  obtain ⟨a, b, W, z, n, rfl, ha, hb, hW, hz, hn, hne, hlen, U, q⟩ := h
  have hu := hu_of hr
  refine ⟨_, (pss_cons (ps_par3 (i := 2) (j := 3) (l := 4) rfl sc__law_known.nd rfl rfl rfl (by decide) (by decide) (by decide) rfl rfl rfl (pa_cons (pe_disp1T hu (pv 1) pe_int) (pa_cons (pe_disp1T hu (pv 1) pe_bl) (pa_cons pe_int pa_nil))) rfl rfl)
(pss_cons (ps_for PassesOwn.never rfl (pi_range2 rfl B.range (pa_cons pe_int (pa_cons pe_int pa_nil))) (pg_name (i := 5) sc__law_known.nd rfl (Or.inl rfl))
(pss_one (ps_if (pt_cmpR op_le (pe_op op_mul (cb bt_len (crLenT (K := K) rfl) B.len (pa_cons (pv 3) pa_nil)) (cb bt_len (crLenT (K := K) rfl) B.len (pa_cons (pv 0) pa_nil))) pe_int (nomark _))
(pss_cons (ps_set (i := 3) sc__law_known.nd rfl (Or.inl rfl) (cal h_law_sums hr (pa_cons (pv 3) (pa_cons (pv 0) pa_nil))))
(pss_cons (ps_set (i := 4) sc__law_known.nd rfl (Or.inl rfl) (pv 5))
(pss_one (ps_for PassesOwn.never rfl (piL (K := K) rfl (ct bt_list (crListT (K := K) rfl rfl) B.list (pa_cons (pv 3) pa_nil))) (pg_name (i := 6) sc__law_known.nd rfl (Or.inl rfl))
(pss_cons (ps_if (pt_cmp (pc_din hu (pv 6) (pv 2)))
(pss_one (ps_ret (pe_tup (pa_cons pe_non (pa_cons pe_int pa_nil)))))
pss_nil)
(pss_one (ps_dput hu (pv 2) (pv 6) (pv 5) rfl)))))))
pss_nil)))
(pss_one (ps_ret (pe_tup (pa_cons (pv 2) (pa_cons (pv 4) pa_nil))))))), ?_⟩
  walk_at "v"
  refine v_disp1 fun d H1 n1 e1 h1 => ?_
  walk_at "v"
  refine ⟨b, kOf z, rfl, h1, by rw [kV_kOf]; exact e1 _ _ hb, ?_⟩
  have e1' : Same H (upd H1 d (.dT [(kOf z, V.int 0)])) := AK.Same.mut e1 n1
  have h1' : upd H1 d (.dT [(kOf z, V.int 0)]) d = some (.dT (dTo V.int (knownL z W 0))) := upd_same
  revert e1' h1'
  generalize upd H1 d (.dT [(kOf z, V.int 0)]) = H2
  intro e2 h2
  walk_at "v"
  refine v_disp1 fun p H3 n3 e3 h3 => ?_
  walk_at "v"
  refine ⟨b, kOf z, rfl, h3, by rw [kV_kOf]; exact (e2.trans e3) _ _ hb, ?_⟩
  have e3' : Same H (upd H3 p (.dT [(kOf z, V.bl true)])) := AK.Same.mut (e2.trans e3) (e2.free n3)
  have hdp : d ≠ p := ne_of_none h2 n3
  have h3' : upd H3 p (.dT [(kOf z, V.bl true)]) p = some (.dT (stT (powL z W 0))) := upd_same
  have h2' : upd H3 p (.dT [(kOf z, V.bl true)]) d = some (.dT (dTo V.int (knownL z W 0))) := by rw [upd_ne hdp]; exact e3 _ _ h2
  have np : H p = none := e2.free n3
  revert e3' h3' h2'
  generalize upd H3 p (.dT [(kOf z, V.bl true)]) = H4
  intro e4 h4 h24
  walk_at "v"
  refine v_forR2 (by decide) (by decide) (by decide) (fun i σ H' => ∃ (p : Addr) (k : Nat) (t1 t2 : Option V), σ = [some (.ref a), some (.ref b), some (.ref d), some (.ref p), some (.int (k : Nat)), t1, t2] ∧ H p = none ∧ d ≠ p ∧ Same H H' ∧ H' d = some (.dT (dTo V.int (knownL z W k))) ∧ H' p = some (.dT (stT (powL z W k))) ∧
      k ≤ i ∧ (1 ≤ i → 1 ≤ k) ∧ (k = i ∨ 500 < (powL z W k).length * W.length) ∧ (knownL z W k).length ≤ 1 + 500 * k ∧ (powL z W k).length ≤ 500) ⟨p, 0, none, none, rfl, np, hdp, e4, h24, h4, Nat.le_refl _, fun z => z,   .inl rfl, Nat.le_refl _, by rw [powL]; simp⟩ (fun i σ H' hi q0 => ?_) (fun σ H' q0 => ?_)
  · obtain ⟨p, k, t1, t2, rfl, np, hdp, s5, hd5, hp5, hki, hk1, hkk, hkl, hp500⟩ := q0
    have ha5 := s5 _ _ ha
    walk_at "v"
    refine v_lenDT hp5 ?_
    walk_at "v"
    refine v_lenDT ha5 ?_
    walk_at "v"
    rw [stT_len, stT_len]
    refine v_I (.inl ⟨by omega, by omega⟩) ?_
    walk_at "v"
    refine v_dec (fun c => ?_) (fun c => ?_)
    · have hc : (powL z W k).length * W.length ≤ 500 := by
        rw [← Int.natCast_mul] at c; omega
      have hk : k = i := by rcases hkk with h | h; exact h; omega
      subst hk
      have hWp : 1 ≤ W.length := List.length_pos_iff.mpr hne
      have hPp : 1 ≤ (powL z W k).length := List.length_pos_iff.mpr (ne_powL hne k)
      have hP5 : (powL z W k).length ≤ 500 := Nat.le_trans (Nat.le_mul_of_pos_right _ hWp) hc
      walk_at "v"
      refine ⟨p, a, _, _, n, rfl, hp5, ha5, powL_rows hz hW k, hW, hn, by omega, by omega, by omega, fun p' H6 n6 e6 h6 => ?_⟩
      have hz6 : (powL z W (k + 1)).length ≤ 500 := Nat.le_trans (sumsL_len _ _) hc
      have h6' : H6 p' = some (.dT (stT (powL z W (k + 1)))) := h6
      have np' : H p' = none := s5.free n6
      have hdp' : d ≠ p' := ne_of_none hd5 n6
      walk_at "v"
      refine v_listS h6' fun lp bs H7 n7 e7 h7 hbl hbs => ?_
      have hdl : d ≠ lp := ne_of_none (e6 _ _ hd5) n7
      refine v_forL (SqL.of h7) (fun j σ H' => ∃ (t2 : Option V), σ = [some (.ref a), some (.ref b), some (.ref d), some (.ref p'), some (.int (1 + (k : Nat))), some (.int (1 + (k : Nat))), t2] ∧ Same H H' ∧ H' lp = some (.lst (bs.map V.ref)) ∧
          H' d = some (.dT (dTo V.int (knownL z W k ++ ((powL z W (k + 1)).take j).map fun x => (x, ((k + 1 : Nat) : Int))))) ∧ H' p' = some (.dT (stT (powL z W (k + 1)))) ∧
          (∀ (i : Nat) (b : Addr), bs[i]? = some b → ∃ x, (powL z W (k + 1))[i]? = some x ∧ H' b = some (.tup (x.map V.int)))) ⟨t2, rfl, (s5.trans e6).trans e7, h7, by rw [List.take_zero, List.map_nil, List.append_nil]; exact e7 _ _ (e6 _ _ hd5), e7 _ _ h6', hbs⟩ (fun j σ H' _ q1 => ?_) (fun j x σ H' hx q1 => ?_) (fun σ H' q1 => ?_)
      · obtain ⟨_, _, _, q1, _⟩ := q1
        exact SqL.of q1
      · obtain ⟨t3, rfl, s8, h8, hd8, hp8, hb8⟩ := q1
        rw [List.getElem?_map] at hx
        obtain ⟨b1, hb1, rfl⟩ := Option.map_eq_some_iff.mp hx
        obtain ⟨x, hxj, hxt⟩ := hb8 j b1 hb1
        have hnew := known_new U hxj
        walk_at "v"
        refine v_dinB hd8 hxt ?_
        rw [hnew, Option.isSome_none]
        walk_at "v"
        refine v_dputT (kvs := dTo V.int _) hd8 hxt (by
          rw [dTo_len, List.length_append, List.length_map, List.length_take]; omega) ?_
        have ek : (V.int (1 + (k : Int))) = V.int ((k + 1 : Nat) : Int) := by congr 1; omega
        rw [ek, putK_dToNew V.int hnew]
        have nt : ∀ {c : Addr} {us : List V}, H' c = some (.tup us) → (upd H' d (.dT (dTo V.int (knownL z W k ++ ((powL z W (k + 1)).take j).map (fun x => (x, ((k + 1 : Nat) : Int))) ++ [(x, ((k + 1 : Nat) : Int))])))) c = some (.tup us) := fun {c us} hc => by
          rw [upd_ne (ne_of hc hd8 (fun z => nomatch z))]; exact hc
        refine ⟨_, rfl, AK.Same.mut s8 n1, by rw [upd_ne hdl.symm]; exact h8, ?_, by rw [upd_ne hdp'.symm]; exact hp8, fun i b hb => ?_⟩
        · rw [upd_same, List.take_add_one, hxj, Option.toList_some, List.map_append, ← List.append_assoc]; rfl
        · obtain ⟨y, h9, h10⟩ := hb8 i b hb
          exact ⟨y, h9, nt h10⟩
      · obtain ⟨t3, rfl, s8, h8, hd8, hp8, hb8⟩ := q1
        refine ⟨p', k + 1, some (.int (1 + (k : Nat))), t3, ?_, np', hdp', s8, ?_, hp8, by omega, fun _ => by omega, .inl rfl, ?_, hz6⟩
        · rw [show ((k + 1 : Nat) : Int) = 1 + (k : Int) by omega]
        · rw [hd8, List.length_map, hbl, List.take_length]; rfl
        · rw [knownL, List.length_append, List.length_map]; omega
    · have hc : 500 < (powL z W k).length * W.length := by
        rw [← Int.natCast_mul] at c; omega
      refine ⟨p, k, _, t2, rfl, np, hdp, s5, hd5, hp5, by omega, fun h => ?_, .inr hc, hkl, hp500⟩
      by_cases hi0 : 1 ≤ i
      · exact hk1 hi0
      · have hk0 : k = 0 := by omega
        rw [hk0, powL] at hc
        simp at hc
        omega
  · obtain ⟨p, k, t1, t2, rfl, np, hdp, s5, hd5, hp5, hki, hk1, hkk, hkl, hp500⟩ := q0
    have hk3 : k ≤ 3 := hki
    walk_at "v"
    refine v_dt (fun t H6 n6 e6 h6 => ?_)
    exact q t d k H6 (hk1 (by decide)) hk3 (s5.trans e6) h6 n1 (e6 _ _ hd5) (by omega)
end
end K14

/-! ## K14x -/
set_option Elab.async false
set_option linter.all false
set_option maxRecDepth 100000
set_option maxHeartbeats 4000000
namespace K14
open PySem PySem.Spec PyProof.Rows L2 AK
local macro_rules | `(tactic| walk_at "look") => `(tactic| first
  | assumption
  | with_reducible exact Fr.tup (by assumption) (by walk_at "look")
  | with_reducible exact Same.tup (by assumption) (by walk_at "look")
  | with_reducible exact FrmV.imm (Fr.imm (by assumption)) (by walk_at "look")
  | with_reducible exact FrmV.imm (Imm.of_same (by assumption)) (by walk_at "look")
  | with_reducible exact FrmL.imm (Fr.imm (by assumption)) (by walk_at "look")
  | with_reducible exact FrmL.imm (Imm.of_same (by assumption)) (by walk_at "look"))
local macro_rules | `(tactic| walk_at "v") => `(tactic| repeat (first
  | (with_reducible first
    | refine v_seq ?_ | refine v_next ?_ | refine v_set ?_ | refine v_ret ?_ | refine v_retN ?_ | refine v_drop ?_ | refine v_brk ?_ | refine v_if ?_
    | refine v_c ?_ | refine v_op ?_ | refine v_un ?_ | refine v_nil ?_ | refine v_cons ?_ | refine v_cb ?_ | refine v_call ?_ | refine v_test ?_ | refine v_tB ?_ | refine v_bl ?_
    | refine v_and ?_ | refine v_or ?_ | refine v_not ?_ | refine v_andV ?_ | refine v_orV ?_ | refine v_notV ?_ | refine v_ifE ?_ | refine v_true ?_ | refine v_false ?_ | refine v_ntrue ?_ | refine v_nfalse ?_
    | refine v_I0 ?_ | refine v_U ?_ | refine v_par ?_ | refine v_par2 ?_ | refine v_isII ?_ | refine v_isIB ?_ | refine v_lc ?_ | refine v_itup ?_ | refine v_ilist ?_
    | refine v_abs ?_ | refine v_max2 ?_ | refine v_int ?_ | refine v_intB ?_ | refine v_isN ?_ | refine v_notN ?_ | refine v_sl ?_ | refine v_np ?_ | refine v_pt ?_ | refine v_pi ?_ | refine v_bm ?_ | refine v_bm0 ?_ | refine v_revL ?_ | refine v_tup ?_ | refine v_lst ?_ | refine v_lc2 ?_ | refine v_dgetS ?_ | refine v_dc ?_ | refine v_zip ?_ | refine v_for ?_ | refine v_irng ?_ | refine v_asg ?_ | refine v_gsub ?_ | refine v_dnew ?_ | refine v_dput0 ?_ | refine v_din0 ?_ | refine v_dget20 ?_ | refine v_irng2 ?_ | refine v_par3 ?_ | refine v_par33 ?_ | refine v_m1 ?_)
  | ((with_reducible refine' v_var ?h ?_); (case h => with_unfolding_all rfl))
  | ((with_reducible refine v_eq ?h ?_); (case h => with_unfolding_all rfl))
  | ((with_reducible refine v_ne ?h ?_); (case h => with_unfolding_all rfl))
  | ((with_reducible refine' v_ixT ?h ?e ?_); (case h => exact SqT.of (by walk_at "look")); (case e => with_unfolding_all rfl))
  | ((with_reducible refine' v_ixL ?h ?e ?_); (case h => exact SqL.of (by assumption)); (case e => with_unfolding_all rfl))))

abbrev s__law_shared : Stmt := topS 22
abbrev n__law_shared : List Str := ["_law_formula_here", "_law_amounts", "_law_due", "_law_told"]
abbrev p__law_shared : List Str := ["_law_formula_here", "_law_amounts", "_law_due"]
theorem sc__law_shared : FnScope n__law_shared p__law_shared (defScope s__law_shared) := ⟨rfl, rfl, rfl, by decide +kernel, rfl, by decide +kernel, by decide +kernel⟩
abbrev s__law_turned : Stmt := topS 23
abbrev n__law_turned : List Str := ["_law_heap_here", "_law_amounts", "_law_turned_here", "_law_up", "_law_down", "_law_kind"]
abbrev p__law_turned : List Str := ["_law_heap_here", "_law_amounts"]
theorem sc__law_turned : FnScope n__law_turned p__law_turned (defScope s__law_turned) := ⟨rfl, rfl, rfl, by decide +kernel, rfl, by decide +kernel, by decide +kernel⟩
abbrev s__law_beside : Stmt := topS 24
abbrev n__law_beside : List Str := ["_law_one", "_law_other", "_law_many", "_law_k"]
abbrev p__law_beside : List Str := ["_law_one", "_law_other", "_law_many"]
theorem sc__law_beside : FnScope n__law_beside p__law_beside (defScope s__law_beside) := ⟨rfl, rfl, rfl, by decide +kernel, rfl, by decide +kernel, by decide +kernel⟩
section
variable {P : Program} {w : World} {K : PySem.W.Frag} {mg : Str → Option Value} {base : Heap} {f : Addr} {fd : FuncData}
def sp_shared (n : Nat) : Sp := fun vs H Q _ => ∃ (v : V) (a : Addr) (fm : Fm) (ks : List Str) (ns : List Int) (due : Option Int), vs = [v, .ref a, ov due] ∧ FrmV H fm v ∧ H a = some (.tup (ns.map V.int)) ∧ Kinds fm ks ∧ fm.names.Nodup ∧ ns.length = ks.length ∧ fm.depth ≤ n ∧ fm.ok ∧ fm.names.length < 64 ∧
  fm.share (rowOf ks ns) = due ∧ (due = some 1 → ∀ x ∈ ns, 0 ≤ x ∧ x ≤ 60) ∧ ∀ H', Same H H' → Q (.bl true) H'
theorem ok_shared (F : Fun K "_law_shared" "_law_shared" s__law_shared f fd) (B : Bt mg) {n : Nat} (h_share : Fn P w K mg base (n + 2) "share" p_share (sp_share n)) (h_is_way : Fn P w K mg base (n + 5) "is_way" p_is_way (sp_is_way n)) :
    FnOk P w K mg base CX0 (n + 6) f fd p__law_shared (sp_shared n) := by
  refine F.ok sc__law_shared (fun vs H Q E h => ?_) (fun cdv A outer s H vs Q E hr h => ?_)
  · obtain ⟨v, a, fm, ks, ns, due, rfl, _⟩ := h; rfl
  obtain ⟨v, a, fm, ks, ns, due, rfl, hf, ha, hk, hnd, hl, hd, ho, hlen, hs, hb, q⟩ := h
  have hu := hu_of hr
  refine ⟨_, (pss_cons (ps_set (i := 3) sc__law_shared.nd rfl (Or.inl rfl) (cal h_share hr (pa_cons (pv 0) (pa_cons (pv 1) pa_nil))))
(pss_cons (ps_if (pt_cmpR op_isN1 (pv 2) pe_non (nomark _))
(pss_one (ps_ret (pe_and (pe_cmpR op_isN1 (pv 3) pe_non (nomark _)) (pe_one (pe_not (cal h_is_way hr (pa_cons (pv 0) (pa_cons (pv 1) pa_nil))))))))
pss_nil)
(pss_one (ps_ret (pe_and (pe_cmpR op_eq (pv 3) (pv 2) (nomark _)) (pe_and (cb bt_isinstance (crIs (K := K) rfl) B.isinstance (pa_cons (pv 3) (pa_cons (tyn bt_int B.int) pa_nil))) (pe_and (pe_not (cb bt_isinstance (crIs (K := K) rfl) B.isinstance (pa_cons (pv 3) (pa_cons (tyn bt_bool B.bool) pa_nil)))) (pe_one (pe_cmpR op_eq (cal h_is_way hr (pa_cons (pv 0) (pa_cons (pv 1) pa_nil))) (pe_cmpR op_eq (pv 2) pe_int (nomark _)) (nomark _)))))))))), ?_⟩
  walk_at "v"
  refine ⟨v, a, fm, ks, ns, rfl, hf, ha, hk, hnd, hl, hd, ho, hlen, fun H1 e1 => ?_⟩
  rw [hs]
  have hf1 := hf.imm (Imm.of_same e1)
  have ha1 := e1 _ _ ha
  cases due with
  | none =>
    walk_at "v"
    refine v_dec (fun _ => ?_) (fun c => absurd rfl c)
    walk_at "v"
    refine v_dec (fun _ => ?_) (fun c => absurd rfl c)
    walk_at "v"
    refine ⟨v, a, fm, ks, ns, rfl, hf1, ha1, hk, hnd, hl, hd, ho, hlen, fun H2 e2 => ?_⟩
    rw [hs, show decide ((none : Option Int) = some 1) = false from rfl, Bool.and_false]
    refine ⟨false, rfl, ?_⟩
    exact q H2 (e1.trans e2)
  | some k =>
    rw [show ov (some k) = V.int k from rfl]
    walk_at "v"
    refine v_dec (fun c => (by cases c)) (fun _ => ?_)
    walk_at "v"
    refine v_dec (fun _ => ?_) (fun c => absurd rfl c)
    walk_at "v"
    refine ⟨v, a, fm, ks, ns, rfl, hf1, ha1, hk, hnd, hl, hd, ho, hlen, fun H2 e2 => ?_⟩
    rw [hs]
    walk_at "v"
    have e : decide (V.bl ((ns.all fun x => decide (0 ≤ x) && decide (x ≤ 60)) && decide ((some k : Option Int) = some 1)) = V.bl (decide (V.int k = V.int 1))) = true := by
      refine decide_eq_true ?_
      congr 1
      by_cases c : k = 1
      · subst c
        rw [decide_eq_true (show (some 1 : Option Int) = some 1 from rfl), Bool.and_true, decide_eq_true (show V.int 1 = V.int 1 from rfl)]
        refine List.all_eq_true.mpr fun x hx => ?_
        have h := hb rfl x hx
        rw [decide_eq_true h.1, decide_eq_true h.2]; rfl
      · rw [decide_eq_false (fun z => c (Option.some.inj z)), Bool.and_false, decide_eq_false (fun z => c (V.int.inj z))]
    rw [e]
    exact q H2 (e1.trans e2)
def sp_beside : Sp := fun vs H Q _ => ∃ (a b : Addr) (x y : Vec) (m : Int), vs = [.ref a, .ref b, .int m] ∧ H a = some (.tup (x.map V.int)) ∧ H b = some (.tup (y.map V.int)) ∧ x.length = y.length ∧ x.length ≤ 1000 ∧ (-(2 ^ 64) < m ∧ m < 2 ^ 64) ∧
  ∀ p H', Same H H' → H' p = some (.tup ((addV x (y.map (m * ·))).map V.int)) → Q (.ref p) H'
theorem ok_beside (F : Fun K "_law_beside" "_law_beside" s__law_beside f fd) (B : Bt mg) : FnOk P w K mg base CX0 1 f fd p__law_beside sp_beside := by
  refine F.ok sc__law_beside (fun vs H Q E h => ?_) (fun cdv A outer s H vs Q E hr h => ?_)
  · obtain ⟨a, b, x, y, m, rfl, _⟩ := h; rfl
  obtain ⟨a, b, x, y, m, rfl, ha, hb, hl, hn, hm, q⟩ := h
  refine ⟨_, (pss_one (ps_ret (ct bt_tuple (crTup (K := K) rfl) B.tuple (pa_cons (pe_lc (own := [("_law_k", 3)]) (g := gName 3) rfl sc__law_beside.nd (pi_range1 rfl B.range (pa_cons (cb bt_len (crLen (K := K) rfl) B.len (pa_cons (pv 0) pa_nil)) pa_nil)) (blkOk_by (own := [("_law_k", 3)]) (N := n__law_beside) (sc := defScope s__law_beside) (by decide +kernel)) (fun _ _ _ _ _ => (pg_name (i := 3) sc__law_beside.nd rfl (Or.inl rfl))) (fun _ _ _ _ _ => pts_nil) (fun _ _ _ _ _ => (pe_op op_add (pe_ix (ixT (K := K) rfl) (pv 0) (pv 3) (fun _ _ => rfl)) (pe_op op_mul (pv 2) (pe_ix (ixT (K := K) rfl) (pv 1) (pv 3) (fun _ _ => rfl)))))) pa_nil)))), ?_⟩
  walk_at "v"
  refine v_lenT ha ?_
  walk_at "v"
  rw [List.length_map]
  refine v_lcRg none trivial (n := (x.length : Int)) (by omega) (by omega) (fun i => .int (x.getD i 0 + (y.map (m * ·)).getD i 0)) (fun _ => rfl) (fun k H5 Qn hk f5 qn => ?_) (fun D H5 hD f5 e5 => ?_)
  · have hk2 : k < x.length := by omega
    have hk3 : k < y.length := by omega
    walk_at "v"
    refine v_ixT (v := .int (x.getD k 0)) (SqT.of (f5.tup ha)) (atI_nat (by simp [hk2])) ?_
    walk_at "v"
    refine v_ixT (v := .int (y.getD k 0)) (SqT.of (f5.tup hb)) (atI_nat (by simp [hk3])) ?_
    walk_at "v"
    refine v_I (.inl hm) ?_
    walk_at "v"
    have e : (y.map (m * ·)).getD k 0 = m * y.getD k 0 := by simp [List.getD, hk3]
    have qn2 := qn _ (Fr.refl trivial)
    rw [e] at qn2
    exact qn2
  · walk_at "v"
    refine v_tupL e5 fun p3 H6 n6 e6 h6 => ?_
    rw [Int.toNat_natCast, addV_range (by rw [List.length_map, hl])] at h6
    exact q p3 H6 (f5.to.trans e6) h6
def sp_turned : Sp := fun vs H Q _ => ∃ (g c a : Addr) (x : Vec), vs = [.ref g, .ref a] ∧ IsRng g c H ∧ H a = some (.tup (x.map V.int)) ∧ 1 ≤ x.length ∧ x.length ≤ 1000 ∧ (∀ i ∈ x, 0 ≤ i) ∧
  ∀ p y H', Fr (some (g, c)) H H' → H' p = some (.tup (y.map V.int)) → (y = x ∨ (∃ u, u < x.length ∧ y = x.set u (x.getD u 0 + 1)) ∨ ∃ y0, ((∃ u, u < x.length ∧ y0 = x.set u (x.getD u 0 + 1)) ∨ y0 = x) ∧ ∃ d, d < x.length ∧ 0 < y0.getD d 0 ∧ y = y0.set d (y0.getD d 0 - 1)) → Q (.ref p) H'
theorem ok_turned (F : Fun K "_law_turned" "_law_turned" s__law_turned f fd) (B : Bt mg) (h_law_draw : Fn P w K mg base 1 "_law_draw" p__law_draw sp_draw) : FnOk P w K mg base CX0 2 f fd p__law_turned sp_turned := by
  refine F.ok sc__law_turned (fun vs H Q E h => ?_) (fun cdv A outer s H vs Q E hr h => ?_)
  · obtain ⟨g, c, a, x, rfl, _⟩ := h; rfl
  obtain ⟨g, c, a, x, rfl, hg, ha, hl0, hl1, hpos, q⟩ := h
  refine ⟨_, (pss_cons (ps_set (i := 2) sc__law_turned.nd rfl (Or.inl rfl) (ct bt_list (crList (K := K) rfl) B.list (pa_cons (pv 1) pa_nil)))
(pss_cons (ps_par3 (i := 3) (j := 4) (l := 5) rfl sc__law_turned.nd rfl rfl rfl (by decide) (by decide) (by decide) rfl rfl rfl (pa_cons (cal h_law_draw hr (pa_cons (pv 0) (pa_cons (cb bt_len (crLen (K := K) rfl) B.len (pa_cons (pv 2) pa_nil)) pa_nil))) (pa_cons (cal h_law_draw hr (pa_cons (pv 0) (pa_cons (cb bt_len (crLen (K := K) rfl) B.len (pa_cons (pv 2) pa_nil)) pa_nil))) (pa_cons (cal h_law_draw hr (pa_cons (pv 0) (pa_cons pe_int pa_nil))) pa_nil))) rfl rfl)
(Evl.pss_cut (ps_if (pt_cmpR op_lt (pv 5) pe_int (nomark _))
(pss_one (ps_asg (pe_op op_add (pe_ix (ixL (K := K) rfl) (pv 2) (pv 3) (fun _ _ => rfl)) pe_int) (pg_sub (pv 2) (pv 3) set_list)))
pss_nil)
(pss_cons (ps_if (PW.pt (pw_and (pt_cmpR op_gt (pv 5) pe_int (nomark _)) (pw_and1 (pt_cmpR op_gt (pe_ix (ixL (K := K) rfl) (pv 2) (pv 4) (fun _ _ => rfl)) pe_int (nomark _)))))
(pss_one (ps_asg (pe_op op_sub (pe_ix (ixL (K := K) rfl) (pv 2) (pv 4) (fun _ _ => rfl)) pe_int) (pg_sub (pv 2) (pv 4) set_list)))
pss_nil)
(pss_one (ps_ret (ct bt_tuple (crTup (K := K) rfl) B.tuple (pa_cons (pv 2) pa_nil)))))))), ?_⟩
  walk_at "v"
  refine v_listT ha fun t H1 n1 e1 h1 => ?_
  have hg1 : IsRng g c H1 := Good.same (r := some (g, c)) hg e1
  have ot : Off (some (g, c)) t := Off.new (r := some (g, c)) hg n1
  walk_at "v"
  refine v_lenL h1 ?_
  walk_at "v"
  rw [List.length_map]
  refine ⟨g, c, _, rfl, hg1, by omega, by omega, fun u H2 hu0 hu1 f2 => ?_⟩
  walk_at "v"
  refine v_lenL (f2.lst ot h1) ?_
  walk_at "v"
  rw [List.length_map]
  refine ⟨g, c, _, rfl, f2.good', by omega, by omega, fun d H3 hd0 hd1 f3 => ?_⟩
  walk_at "v"
  refine ⟨g, c, _, rfl, f3.good', by decide, by decide, fun k H4 hk0 hk1 f4 => ?_⟩
  walk_at "v"
  have f14 : Fr (some (g, c)) H H4 := (Fr.same (r := some (g, c)) hg e1).trans ((f2.trans f3).trans f4)
  have h4 := ((f2.trans f3).trans f4).lst ot h1
  have hu2 : u.toNat < x.length := by omega
  have hd2 : d.toNat < x.length := by omega
  refine v_cut (fun σ H' => ∃ y : Vec, σ = [some (.ref g), some (.ref a), some (.ref t), some (.int u), some (.int d), some (.int k)] ∧ Fr (some (g, c)) H H' ∧ H' t = some (.lst (y.map V.int)) ∧ ((∃ u, u < x.length ∧ y = x.set u (x.getD u 0 + 1)) ∨ y = x)) ?_ ?_
  · walk_at "v"
    refine v_dec (fun _ => ?_) (fun _ => ?_)
    · walk_at "v"
      refine v_ixL (v := .int (x.getD u.toNat 0)) (SqL.of h4) (atI_int hu0 (by simp [List.getD, hu2])) ?_
      walk_at "v"
      refine v_setL (j := u.toNat) h4 (ixN_of hu0 (by rw [List.length_map]; exact hu2)) ?_
      refine ⟨x.set u.toNat (x.getD u.toNat 0 + 1), rfl, f14.mut n1, ?_, .inl ⟨u.toNat, hu2, rfl⟩⟩
      rw [upd_same, List.map_set]
    · walk_at "v"
      exact ⟨x, rfl, f14, h4, .inr rfl⟩
  · rintro σ H5 ⟨y, rfl, f5, h5, hy⟩
    have hyl : y.length = x.length := by
      rcases hy with ⟨u, _, rfl⟩ | rfl
      · rw [List.length_set]
      · rfl
    have hd5 : d.toNat < y.length := by omega
    have fin : ∀ (y' : Vec) (H6 : Hp), (y' = y ∨ 0 < y.getD d.toNat 0 ∧ y' = y.set d.toNat (y.getD d.toNat 0 - 1)) → (y' = x ∨ (∃ u, u < x.length ∧ y' = x.set u (x.getD u 0 + 1)) ∨ ∃ y0, ((∃ u, u < x.length ∧ y0 = x.set u (x.getD u 0 + 1)) ∨ y0 = x) ∧ ∃ d, d < x.length ∧ 0 < y0.getD d 0 ∧ y' = y0.set d (y0.getD d 0 - 1)) := by
      rintro y' H6 (rfl | ⟨h1, h2⟩)
      · rcases hy with h | h
        · exact .inr (.inl h)
        · exact .inl h
      · exact .inr (.inr ⟨y, hy, d.toNat, hd2, h1, h2⟩)
    walk_at "v"
    refine v_dec (fun _ => ?_) (fun _ => ?_)
    · walk_at "v"
      refine v_ixL (v := .int (y.getD d.toNat 0)) (SqL.of h5) (atI_int hd0 (by simp [List.getD, hd5])) ?_
      walk_at "v"
      refine v_dec (fun c => ?_) (fun _ => ?_)
      · walk_at "v"
        refine v_ixL (v := .int (y.getD d.toNat 0)) (SqL.of h5) (atI_int hd0 (by simp [List.getD, hd5])) ?_
        walk_at "v"
        refine v_setL (j := d.toNat) h5 (ixN_of hd0 (by rw [List.length_map]; exact hd5)) ?_
        have f6 := f5.mut (o := .lst ((y.map V.int).set d.toNat (.int (y.getD d.toNat 0 - 1)))) n1
        have h6 : upd H5 t (.lst ((y.map V.int).set d.toNat (.int (y.getD d.toNat 0 - 1)))) t = some (.lst ((y.set d.toNat (y.getD d.toNat 0 - 1)).map V.int)) := by rw [upd_same, List.map_set]
        revert f6 h6
        generalize upd H5 t (.lst ((y.map V.int).set d.toNat (.int (y.getD d.toNat 0 - 1)))) = H6
        intro f6 h6
        walk_at "v"
        refine v_tupL h6 fun p H7 n7 e7 h7 => ?_
        exact q p _ H7 (f6.trans (Fr.same f6.good' e7)) h7 (fin _ H6 (.inr ⟨c, rfl⟩))
      · walk_at "v"
        refine v_tupL h5 fun p H7 n7 e7 h7 => ?_
        exact q p _ H7 (f5.trans (Fr.same f5.good' e7)) h7 (fin _ H5 (.inl rfl))
    · walk_at "v"
      refine v_tupL h5 fun p H7 n7 e7 h7 => ?_
      exact q p _ H7 (f5.trans (Fr.same f5.good' e7)) h7 (fin _ H5 (.inl rfl))
end
end K14

/-! ## K14y -/
set_option Elab.async false
set_option linter.all false
set_option maxRecDepth 100000
set_option maxHeartbeats 4000000
namespace K14
open PySem PySem.Spec PyProof.Rows L2 AK
local macro_rules | `(tactic| walk_at "look") => `(tactic| first
  | assumption
  | with_reducible exact Fr.tup (by assumption) (by walk_at "look")
  | with_reducible exact Same.tup (by assumption) (by walk_at "look")
  | with_reducible exact FrmV.imm (Fr.imm (by assumption)) (by walk_at "look")
  | with_reducible exact FrmV.imm (Imm.of_same (by assumption)) (by walk_at "look")
  | with_reducible exact FrmL.imm (Fr.imm (by assumption)) (by walk_at "look")
  | with_reducible exact FrmL.imm (Imm.of_same (by assumption)) (by walk_at "look"))
local macro_rules | `(tactic| walk_at "v") => `(tactic| repeat (first
  | (with_reducible first
    | refine v_seq ?_ | refine v_next ?_ | refine v_set ?_ | refine v_ret ?_ | refine v_retN ?_ | refine v_drop ?_ | refine v_brk ?_ | refine v_if ?_
    | refine v_c ?_ | refine v_op ?_ | refine v_un ?_ | refine v_nil ?_ | refine v_cons ?_ | refine v_cb ?_ | refine v_call ?_ | refine v_test ?_ | refine v_tB ?_ | refine v_bl ?_
    | refine v_and ?_ | refine v_or ?_ | refine v_not ?_ | refine v_andV ?_ | refine v_orV ?_ | refine v_notV ?_ | refine v_ifE ?_ | refine v_true ?_ | refine v_false ?_ | refine v_ntrue ?_ | refine v_nfalse ?_
    | refine v_I0 ?_ | refine v_U ?_ | refine v_par ?_ | refine v_par2 ?_ | refine v_isII ?_ | refine v_isIB ?_ | refine v_lc ?_ | refine v_itup ?_ | refine v_ilist ?_
    | refine v_abs ?_ | refine v_max2 ?_ | refine v_int ?_ | refine v_intB ?_ | refine v_isN ?_ | refine v_notN ?_ | refine v_sl ?_ | refine v_np ?_ | refine v_pt ?_ | refine v_pi ?_ | refine v_bm ?_ | refine v_bm0 ?_ | refine v_revL ?_ | refine v_tup ?_ | refine v_lst ?_ | refine v_lc2 ?_ | refine v_dgetS ?_ | refine v_dc ?_ | refine v_zip ?_ | refine v_for ?_ | refine v_irng ?_ | refine v_asg ?_ | refine v_gsub ?_ | refine v_dnew ?_ | refine v_dput0 ?_ | refine v_din0 ?_ | refine v_dget20 ?_ | refine v_irng2 ?_ | refine v_par3 ?_ | refine v_par33 ?_ | refine v_m1 ?_)
  | ((with_reducible refine' v_var ?h ?_); (case h => with_unfolding_all rfl))
  | ((with_reducible refine v_eq ?h ?_); (case h => with_unfolding_all rfl))
  | ((with_reducible refine v_ne ?h ?_); (case h => with_unfolding_all rfl))
  | ((with_reducible refine' v_ixT ?h ?e ?_); (case h => exact SqT.of (by walk_at "look")); (case e => with_unfolding_all rfl))
  | ((with_reducible refine' v_ixL ?h ?e ?_); (case h => exact SqL.of (by assumption)); (case e => with_unfolding_all rfl))))

abbrev s__law_names : Stmt := topS 16
abbrev n__law_names : List Str := ["_law_heap_here", "_law_many", "_law_letters", "_law_found", "_law_front", "_law_turn", "_law_word", "_law_place"]
abbrev p__law_names : List Str := ["_law_heap_here", "_law_many"]
theorem sc__law_names : FnScope n__law_names p__law_names (defScope s__law_names) := ⟨rfl, rfl, rfl, by decide +kernel, rfl, by decide +kernel, by decide +kernel⟩
section
variable {P : Program} {w : World} {K : PySem.W.Frag} {mg : Str → Option Value} {base : Heap} {f : Addr} {fd : FuncData}
def sp_names : Sp := fun vs H Q _ => ∃ (g c : Addr) (m : Int), vs = [.ref g, .int m] ∧ IsRng g c H ∧ 1 ≤ m ∧ m ≤ 20 ∧ ∀ p (ns : List Str) H', ns.Nodup → SrtS ns → ns.length = m.toNat → H p = none → Fr (some (g, c)) H H' → H' p = some (.lst (ns.map V.str)) → Q (.ref p) H'
theorem ok_names (F : Fun K "_law_names" "_law_names" s__law_names f fd) (B : Bt mg) (h_law_draw : Fn P w K mg base 1 "_law_draw" p__law_draw sp_draw) (h_law_pick : Fn P w K mg base 2 "_law_pick" p__law_pick sp_pick) : FnOk P w K mg base CX0 3 f fd p__law_names sp_names := by
  refine F.ok sc__law_names (fun vs H Q E h => ?_) (fun cdv A outer s H vs Q E hr h => ?_)
  · obtain ⟨g, c, m, rfl, _⟩ := h; rfl
  obtain ⟨g, c, m, rfl, hg, hm0, hm1, q⟩ := h
  refine ⟨_, (pss_cons (ps_asg (pe_tup (pa_cons pe_str (pa_cons (pe_lst pa_nil) pa_nil))) (pgT (K := K) (n := 2) rfl rfl (pgs_cons (pg_name (i := 2) sc__law_names.nd rfl (.inr rfl)) (pgs_cons (pg_name (i := 3) sc__law_names.nd rfl (Or.inl rfl)) pgs_nil))))
(pss_cons (ps_set (i := 4) sc__law_names.nd rfl (Or.inl rfl) (cal h_law_pick hr (pa_cons (pv 0) (pa_cons (pe_lst (pa_cons pe_str (pa_cons pe_str (pa_cons (pe_ix (ixS (K := K) rfl) (pv 2) (cal h_law_draw hr (pa_cons (pv 0) (pa_cons pe_int pa_nil))) (fun _ _ => rfl)) (pa_cons (pe_op op_str2 (pe_ix (ixS (K := K) rfl) (pv 2) (cal h_law_draw hr (pa_cons (pv 0) (pa_cons pe_int pa_nil))) (fun _ _ => rfl)) pe_int) pa_nil))))) pa_nil))))
(pss_cons (ps_for PassesOwn.never rfl (pi_range1 rfl B.range (pa_cons (pv 1) pa_nil)) (pg_name (i := 5) sc__law_names.nd rfl (Or.inl rfl))
(pss_cons (ps_set (i := 6) sc__law_names.nd rfl (Or.inl rfl) (pe_op op_addSt (pv 4) (joinA (K := K) rfl pe_str (pe_lc (own := [("_law_place", 7)]) (g := gName 7) rfl sc__law_names.nd (pi_range1 rfl B.range (pa_cons (pe_op op_add pe_int (cal h_law_draw hr (pa_cons (pv 0) (pa_cons pe_int pa_nil)))) pa_nil)) (blkOk_by (own := [("_law_place", 7)]) (N := n__law_names) (sc := defScope s__law_names) (by decide +kernel)) (fun _ _ _ _ _ => (pg_name (i := 7) sc__law_names.nd rfl (Or.inl rfl))) (fun _ _ _ _ _ => pts_nil) (fun _ _ _ _ _ => (pe_ix (ixS (K := K) rfl) (pv 2) (cal h_law_draw hr (pa_cons (pv 0) (pa_cons pe_int pa_nil))) (fun _ _ => rfl)))))))
(pss_cons (ps_for PassesOwn.never rfl (pi_range1 rfl B.range (pa_cons (pe_op op_add (pv 1) pe_int) pa_nil)) (pg_name (i := 7) sc__law_names.nd rfl (Or.inl rfl))
(pss_one (ps_set (i := 6) sc__law_names.nd rfl (Or.inl rfl) (pe_ifExp (pt_cmpR (opInL (K := K) rfl) (pv 6) (pv 3) (by rfl)) (pe_op op_addSt (pe_op op_addSt (pe_slice (slS (K := K) rfl) (pv 6) po_none (po_some pe_int)) (pe_ix (ixS (K := K) rfl) (pv 2) (pe_op op_fdiv (pv 7) pe_int) (fun _ _ => rfl))) (pe_ix (ixS (K := K) rfl) (pv 2) (pe_op op_mod (ct bt_int (crInt (K := K) rfl) B.int (pa_cons (pv 7) pa_nil)) pe_int) (fun _ _ => rfl))) (pv 6)))))
(pss_one (ps_expr (bmL PySem.F.slot_list_append PySem.F.type_list_append (K := K) rfl mt_append (pv 3) (pa_cons (pv 6) pa_nil)))))))
(pss_one (ps_ret (cb bt_sorted (crSortedS (K := K) rfl) B.sorted (pa_cons (pv 3) pa_nil))))))), ?_⟩
  walk_at "v"
  refine v_dl fun d H1 n1 e1 h1 => ?_
  walk_at "v"
  refine v_dt (fun t H2 n2 e2 h2 => ?_)
  refine v_gT2 h2 ?_
  refine v_gname ?_
  refine v_gname ?_
  have h12 := e2 _ _ h1
  have f2 : Fr (some (g, c)) H H2 := Fr.same (r := some (g, c)) hg (e1.trans e2)
  have od : Off (some (g, c)) d := Off.new (r := some (g, c)) hg n1
  walk_at "v"
  refine ⟨g, c, _, rfl, f2.good', by decide, by decide, fun k1 H3 hk1 hk1' f3 => ?_⟩
  refine v_ixStr (c := 97 + k1.toNat) abc_le hk1 (abc_at (by omega)) ?_
  walk_at "v"
  refine ⟨g, c, _, rfl, f3.good', by decide, by decide, fun k2 H4 hk2 hk2' f4 => ?_⟩
  refine v_ixStr (c := 97 + k2.toNat) abc_le hk2 (abc_at (by omega)) ?_
  walk_at "v"
  refine v_str2 (show 0 < 1 by decide) (show 1 ≤ 1000 by decide) ?_
  walk_at "v"
  refine v_dl fun l H5 n5 e5 h5 => ?_
  walk_at "v"
  have f5 := ((f2.trans f3).trans f4).trans (Fr.same f4.good' e5)
  have ol : Off (some (g, c)) l := Off.new f4.good' n5
  refine ⟨g, c, l, _, rfl, f5.good', h5, ol.1, ol.2, List.cons_ne_nil _ _, by simp, fun i v H6 hi f6 => ?_⟩
  have hv : ∃ z : Str, v = .str z ∧ z.length ≤ 2 := by
    rcases i with _ | _ | _ | _ | i
    · exact ⟨_, (Option.some.inj hi).symm, by decide⟩
    · exact ⟨_, (Option.some.inj hi).symm, by decide⟩
    · exact ⟨_, (Option.some.inj hi).symm, by show 1 ≤ 2; decide⟩
    · exact ⟨_, (Option.some.inj hi).symm, by show 2 ≤ 2; decide⟩
    · simp at hi
  obtain ⟨fz, rfl, hfz⟩ := hv
  have f16 := f5.trans f6
  have hd6 := f6.lst od (e5 _ _ (f4.lst od (f3.lst od h12)))
  walk_at "v"
  refine v_forR (by omega) (by omega) (fun i σ H' => ∃ (t1 t2 t3 : Option V) (ns : List Str), σ = [some (.ref g), some (.int m), some (.str abc), some (.ref d), some (.str fz), t1, t2, t3] ∧ Fr (some (g, c)) H H' ∧ H' d = some (.lst (ns.map V.str)) ∧ ns.Nodup ∧ ns.length = i) ⟨none, none, none, [], rfl, f16, hd6, List.nodup_nil, rfl⟩ (fun i σ H' hi q0 => ?_) (fun σ H' q0 => ?_)
  · obtain ⟨t1, t2, t3, ns, rfl, f7, h7, hnd, hnl⟩ := q0
    walk_at "v"
    refine ⟨g, c, _, rfl, f7.good', by decide, by decide, fun k3 H8 hk3 hk3' f8 => ?_⟩
    walk_at "v"
    refine v_lcRgR (some (g, c)) f8.good' (by omega) (by omega) (fun _ v => ∃ z : Str, v = .str z ∧ z.length = 1) (fun _ => rfl) (fun j H9 Qn hj f9 qn => ?_) (fun D ys H9 hD f9 e9 hl9 hy9 => ?_)
    · walk_at "v"
      refine ⟨g, c, _, rfl, f9.good', by decide, by decide, fun k4 H10 hk4 hk4' f10 => ?_⟩
      refine v_ixStr (c := 97 + k4.toNat) abc_le hk4 (abc_at (by omega)) ?_
      exact qn _ H10 f10 ⟨_, rfl, rfl⟩
    · obtain ⟨zs, rfl, hzs⟩ := strs_of hy9
      rw [List.length_map] at hl9
      walk_at "v"
      refine v_join1 e9 hzs (by omega) fun w0 hw0 => ?_
      walk_at "v"
      refine v_addSt (by omega) ?_
      have f79 := (f7.trans f8).trans f9
      have h79 := f9.lst od (f8.lst od h7)
      walk_at "v"
      have hw1 : (fz ++ w0).length ≤ 5 := by rw [PySem.Str.length_append]; omega
      refine v_forR (by omega) (by omega) (fun k σ H' => ∃ (wd : Str) (t3 : Option V), σ = [some (.ref g), some (.int m), some (.str abc), some (.ref d), some (.str fz), some (.int i), some (.str wd), t3] ∧ H' = H9 ∧ wd.length ≤ 5 ∧
        (wd ∉ ns ∨ ∃ S : List Str, S.Nodup ∧ S.length = k ∧ (∀ x ∈ S, x ∈ ns) ∧ ∀ x ∈ S, ∃ (j : Nat) (p : Str), j < k ∧ x = p ++ letter j)) ⟨fz ++ w0, t3, rfl, rfl, hw1, .inr ⟨[], List.nodup_nil, rfl, fun x hx => (by cases hx), fun x hx => (by cases hx)⟩⟩ (fun k σ H' hk q1 => ?_) (fun σ H' q1 => ?_)
      · obtain ⟨wd, t4, rfl, rfl, hwl, hS⟩ := q1
        walk_at "v"
        refine v_inS h79 ?_
        walk_at "v"
        refine v_dec (fun hin => ?_) (fun hout => ?_)
        · obtain ⟨S, hS1, hS2, hS3, hS4⟩ := hS.resolve_left (fun z => z hin)
          walk_at "v"
          refine v_slS (Nat.le_trans hwl (by decide)) ?_
          walk_at "v"
          refine v_I ⟨by decide, by decide⟩ ?_
          refine v_ixStr (c := 97 + 0) abc_le (by omega) (by rw [show ((k : Int) / 26).toNat = 0 by omega]; exact abc_at (by decide)) ?_
          have hc3 : (cutS wd none (some 3)).length ≤ 3 := cutS_len wd 3
          refine v_addSt (by show _ + 1 ≤ _; omega) ?_
          walk_at "v"
          refine v_I (show (0 : Int) < 26 by decide) ?_
          refine v_ixStr (c := 97 + k) abc_le (by omega) (by rw [show ((k : Int) % 26).toNat = k by omega]; exact abc_at (by omega)) ?_
          have hc4 : (cutS wd none (some 3) ++ (⟨#[97 + 0]⟩ : Str)).length ≤ 4 := by
            rw [PySem.Str.length_append]
            show _ + 1 ≤ 4; omega
          refine v_addSt (by show _ + 1 ≤ _; omega) ?_
          refine ⟨_, _, rfl, rfl, ?_, ?_⟩
          · rw [PySem.Str.length_append]
            show _ + 1 ≤ 5; omega
          · by_cases hn : (cutS wd none (some 3) ++ (⟨#[97 + 0]⟩ : Str) ++ (⟨#[97 + k]⟩ : Str)) ∈ ns
            · refine .inr ⟨(cutS wd none (some 3) ++ (⟨#[97 + 0]⟩ : Str) ++ (⟨#[97 + k]⟩ : Str)) :: S, List.nodup_cons.mpr ⟨fun hm => ?_, hS1⟩, by rw [List.length_cons, hS2], fun x hx => ?_, fun x hx => ?_⟩
              · obtain ⟨j, p, hj, e⟩ := hS4 _ hm
                have := letter_inj (i := k) (j := j) (str_last (b := letter k) e rfl rfl)
                omega
              · rcases List.mem_cons.mp hx with rfl | hx
                · exact hn
                · exact hS3 x hx
              · rcases List.mem_cons.mp hx with rfl | hx
                · exact ⟨k, _, Nat.lt_succ_self _, rfl⟩
                · obtain ⟨j, p, hj, e⟩ := hS4 x hx
                  exact ⟨j, p, Nat.lt_succ_of_lt hj, e⟩
            · exact .inl hn
        · walk_at "v"
          exact ⟨wd, _, rfl, rfl, hwl, .inl hout⟩
      · obtain ⟨wd, t4, rfl, rfl, hwl, hS⟩ := q1
        have hnew : wd ∉ ns := by
          rcases hS with h | ⟨S, hS1, hS2, hS3, _⟩
          · exact h
          · have := nodup_sub hS1 hS3
            omega
        walk_at "v"
        refine ⟨tyL h79, ?_⟩
        walk_at "v"
        refine v_app h79 (by rw [List.length_map]; omega) ?_
        refine ⟨_, _, _, ns ++ [wd], rfl, f79.mut n1, ?_, ?_, by rw [List.length_append, hnl]; rfl⟩
        · rw [upd_same, List.map_append]; rfl
        · exact List.nodup_append.mpr ⟨hnd, by simp, fun a ha b hb e => hnew (by rw [List.mem_singleton.mp hb] at e; rw [← e]; exact ha)⟩
  · obtain ⟨t1, t2, t3, ns, rfl, f7, h7, hnd, hnl⟩ := q0
    walk_at "v"
    refine v_sortedS h7 (by omega) fun ys p H8 hperm hsrt n8 e8 h8 => ?_
    exact q p ys H8 (hperm.nodup_iff.mpr hnd) hsrt (by rw [hperm.length_eq, hnl]) (f7.free n8) (f7.trans (Fr.same f7.good' e8)) h8
end
end K14

/-! ## K14z -/
set_option Elab.async false
set_option linter.all false
set_option maxRecDepth 100000
set_option maxHeartbeats 4000000
namespace K14
open PySem PySem.Spec PyProof.Rows L2 AK
local macro_rules | `(tactic| walk_at "look") => `(tactic| first
  | assumption
  | with_reducible exact Fr.tup (by assumption) (by walk_at "look")
  | with_reducible exact Same.tup (by assumption) (by walk_at "look")
  | with_reducible exact FrmV.imm (Fr.imm (by assumption)) (by walk_at "look")
  | with_reducible exact FrmV.imm (Imm.of_same (by assumption)) (by walk_at "look")
  | with_reducible exact FrmL.imm (Fr.imm (by assumption)) (by walk_at "look")
  | with_reducible exact FrmL.imm (Imm.of_same (by assumption)) (by walk_at "look"))
local macro_rules | `(tactic| walk_at "v") => `(tactic| repeat (first
  | (with_reducible first
    | refine v_seq ?_ | refine v_next ?_ | refine v_set ?_ | refine v_ret ?_ | refine v_retN ?_ | refine v_drop ?_ | refine v_brk ?_ | refine v_if ?_
    | refine v_c ?_ | refine v_op ?_ | refine v_un ?_ | refine v_nil ?_ | refine v_cons ?_ | refine v_cb ?_ | refine v_call ?_ | refine v_test ?_ | refine v_tB ?_ | refine v_bl ?_
    | refine v_and ?_ | refine v_or ?_ | refine v_not ?_ | refine v_andV ?_ | refine v_orV ?_ | refine v_notV ?_ | refine v_ifE ?_ | refine v_true ?_ | refine v_false ?_ | refine v_ntrue ?_ | refine v_nfalse ?_
    | refine v_I0 ?_ | refine v_U ?_ | refine v_par ?_ | refine v_par2 ?_ | refine v_isII ?_ | refine v_isIB ?_ | refine v_lc ?_ | refine v_itup ?_ | refine v_ilist ?_
    | refine v_abs ?_ | refine v_max2 ?_ | refine v_int ?_ | refine v_intB ?_ | refine v_isN ?_ | refine v_notN ?_ | refine v_sl ?_ | refine v_np ?_ | refine v_pt ?_ | refine v_pi ?_ | refine v_bm ?_ | refine v_bm0 ?_ | refine v_revL ?_ | refine v_tup ?_ | refine v_lst ?_ | refine v_lc2 ?_ | refine v_dgetS ?_ | refine v_dc ?_ | refine v_zip ?_ | refine v_for ?_ | refine v_irng ?_ | refine v_asg ?_ | refine v_gsub ?_ | refine v_dnew ?_ | refine v_dput0 ?_ | refine v_din0 ?_ | refine v_dget20 ?_ | refine v_irng2 ?_ | refine v_par3 ?_ | refine v_par33 ?_ | refine v_m1 ?_)
  | ((with_reducible refine' v_var ?h ?_); (case h => with_unfolding_all rfl))
  | ((with_reducible refine v_eq ?h ?_); (case h => with_unfolding_all rfl))
  | ((with_reducible refine v_ne ?h ?_); (case h => with_unfolding_all rfl))
  | ((with_reducible refine' v_ixT ?h ?e ?_); (case h => exact SqT.of (by walk_at "look")); (case e => with_unfolding_all rfl))
  | ((with_reducible refine' v_ixL ?h ?e ?_); (case h => exact SqL.of (by assumption)); (case e => with_unfolding_all rfl))))

abbrev s__law_formula : Stmt := topS 18
abbrev n__law_formula : List Str := ["_law_heap_here", "_law_names_here", "_law_room", "_law_number", "_law_word", "_law_parts", "_law_rest", "_law_turn", "_law_cut"]
abbrev p__law_formula : List Str := ["_law_heap_here", "_law_names_here", "_law_room"]
theorem sc__law_formula : FnScope n__law_formula p__law_formula (defScope s__law_formula) := ⟨rfl, rfl, rfl, by decide +kernel, rfl, by decide +kernel, by decide +kernel⟩
section
variable {P : Program} {w : World} {K : PySem.W.Frag} {mg : Str → Option Value} {base : Heap} {f : Addr} {fd : FuncData}
def sp_formula (n : Nat) : Sp := fun vs H Q _ => ∃ (g c l : Addr) (r : Nat) (nms : List Str), vs = [.ref g, .ref l, .int (r : Nat)] ∧ IsRng g c H ∧ H l = some (.lst (nms.map V.str)) ∧ l ≠ g ∧ l ≠ c ∧ 1 ≤ nms.length ∧ nms.length ≤ 60 ∧ 1 ≤ r ∧ r ≤ 60 ∧ nms.length + r ≤ n ∧
  ∀ v fm H', Fr (some (g, c)) H H' → FrmV H' fm v → fm.names = nms → fm.rm r → fm.depth ≤ n → fm.ok → Q v H'
theorem depthL_le {n : Nat} : ∀ {fs : List Fm}, (∀ x ∈ fs, x.depth ≤ n) → Fm.depthL fs ≤ n
  | [], _ => by rw [Fm.depthL]; exact Nat.zero_le _
  | f :: fs, h => by
    rw [Fm.depthL]
    exact Nat.max_le.mpr ⟨h f (.head _), depthL_le fun x hx => h x (.tail _ hx)⟩
theorem okL_of : ∀ {fs : List Fm}, (∀ x ∈ fs, x.ok) → Fm.okL fs
  | [], _ => by rw [Fm.okL]; trivial
  | f :: fs, h => by
    rw [Fm.okL]
    exact ⟨h f (.head _), okL_of fun x hx => h x (.tail _ hx)⟩
theorem ok_formula (F : Fun K "_law_formula" "_law_formula" s__law_formula f fd) (B : Bt mg) {n : Nat} (h_law_draw : Fn P w K mg base 1 "_law_draw" p__law_draw sp_draw) (h_law_pick : Fn P w K mg base 2 "_law_pick" p__law_pick sp_pick)
    (h_law_formula : Fn P w K mg base (n + 2) "_law_formula" p__law_formula (sp_formula n)) : FnOk P w K mg base CX0 (n + 3) f fd p__law_formula (sp_formula (n + 1)) := by
  refine F.ok sc__law_formula (fun vs H Q E h => ?_) (fun cdv A outer s H vs Q E hr h => ?_)
  · obtain ⟨g, c, l, r, nms, rfl, _⟩ := h; rfl
  obtain ⟨g, c, l, r, nms, rfl, hg, hl, o1, o2, hn0, hn1, hr0, hr1, hm, q⟩ := h
  have ol : Off (some (g, c)) l := ⟨o1, o2⟩
  refine ⟨_, (Evl.pss_cut (ps_if (PW.pt (pw_and (pt_cmpR op_gt (pv 2) pe_int (nomark _)) (pw_and1 (pt_cmpR op_eq (cal h_law_draw hr (pa_cons (pv 0) (pa_cons pe_int pa_nil))) pe_int (nomark _)))))
(pss_cons (ps_set (i := 3) sc__law_formula.nd rfl (Or.inl rfl) (pe_op op_add pe_int (cal h_law_draw hr (pa_cons (pv 0) (pa_cons (pe_op op_sub (pv 2) pe_int) pa_nil)))))
(pss_one (ps_ret (pe_tup (pa_cons pe_str (pa_cons (pv 3) (pa_cons (cal h_law_formula hr (pa_cons (pv 0) (pa_cons (pv 1) (pa_cons (pe_op op_fdiv (pv 2) (pv 3)) pa_nil)))) pa_nil)))))))
pss_nil)
(pss_cons (ps_if (pt_cmpR op_eq (cb bt_len (crLen (K := K) rfl) B.len (pa_cons (pv 1) pa_nil)) pe_int (nomark _))
(pss_one (ps_ret (pe_tup (pa_cons pe_str (pa_cons (pe_ix (ixL (K := K) rfl) (pv 1) pe_int (fun _ _ => rfl)) pa_nil)))))
pss_nil)
(pss_cons (ps_par3 (i := 4) (j := 5) (l := 6) rfl sc__law_formula.nd rfl rfl rfl (by decide) (by decide) (by decide) rfl rfl rfl (pa_cons (cal h_law_pick hr (pa_cons (pv 0) (pa_cons (pe_lst (pa_cons pe_str (pa_cons pe_str pa_nil))) pa_nil))) (pa_cons (pe_lst pa_nil) (pa_cons (pv 1) pa_nil))) rfl rfl)
(pss_cons (ps_for PassesOwn.never rfl (pi_range1 rfl B.range (pa_cons (cb bt_len (crLen (K := K) rfl) B.len (pa_cons (pv 1) pa_nil)) pa_nil)) (pg_name (i := 7) sc__law_formula.nd rfl (Or.inl rfl))
(pss_one (ps_if (pt_cmpR op_gt (cb bt_len (crLen (K := K) rfl) B.len (pa_cons (pv 6) pa_nil)) pe_int (nomark _))
(pss_cons (ps_set (i := 8) sc__law_formula.nd rfl (Or.inl rfl) (pe_op op_add pe_int (cal h_law_draw hr (pa_cons (pv 0) (pa_cons (pe_op op_sub (cb bt_len (crLen (K := K) rfl) B.len (pa_cons (pv 6) pa_nil)) (ct bt_int (crInt (K := K) rfl) B.int (pa_cons (pe_cmpR op_eq (pv 7) pe_int (nomark _)) pa_nil))) pa_nil)))))
(pss_cons (ps_expr (bmL PySem.F.slot_list_append PySem.F.type_list_append (K := K) rfl mt_append (pv 5) (pa_cons (cal h_law_formula hr (pa_cons (pv 0) (pa_cons (pe_slice (slL (K := K) rfl) (pv 6) po_none (po_some (pv 8))) (pa_cons (pv 2) pa_nil)))) pa_nil)))
(pss_one (ps_set (i := 6) sc__law_formula.nd rfl (Or.inl rfl) (pe_slice (slL (K := K) rfl) (pv 6) (po_some (pv 8)) po_none)))))
pss_nil)))
(pss_one (ps_ret (pe_tup (pa_cons (pv 4) (pa_cons (ct bt_tuple (crTup (K := K) rfl) B.tuple (pa_cons (pv 5) pa_nil)) pa_nil))))))))), ?_⟩
  walk_at "v"
  refine v_cut (fun σ H' => σ = [some (.ref g), some (.ref l), some (.int (r : Nat)), none, none, none, none, none, none] ∧ Fr (some (g, c)) H H') ?_ ?_
  · walk_at "v"
    refine v_dec (fun hr2 => ?_) (fun _ => ?_)
    · have hr2' : 1 < r := by omega
      walk_at "v"
      refine ⟨g, c, _, rfl, hg, by decide, by decide, fun k H1 hk0 hk1 f1 => ?_⟩
      walk_at "v"
      refine v_dec (fun _ => ?_) (fun _ => ?_)
      · walk_at "v"
        refine ⟨g, c, _, rfl, f1.good', by omega, by omega, fun k2 H2 hk20 hk21 f2 => ?_⟩
        walk_at "v"
        refine v_I ⟨by omega, by omega⟩ ?_
        obtain ⟨num, hnum⟩ := Int.eq_ofNat_of_zero_le (show 0 ≤ 2 + k2 by omega)
        rw [hnum]
        have h2n : 2 ≤ num := by omega
        have hnr : num ≤ r := by omega
        have hd0 : 1 ≤ r / num := (Nat.one_le_div_iff (by omega)).mpr hnr
        have hd1 : r / num < r := Nat.div_lt_self (by omega) h2n
        refine ⟨g, c, l, r / num, nms, by rw [Int.natCast_ediv]; rfl, f2.good', (f1.trans f2).lst ol hl, o1, o2, hn0, hn1, hd0, by omega, by omega, fun v fm H3 f3 hf hnm hrm hdp hok => ?_⟩
        walk_at "v"
        refine v_dt (fun p H4 n4 e4 h4 => ?_)
        refine q (.ref p) (.many (num : Nat) fm) H4 ((f1.trans f2).trans (f3.trans (Fr.same f3.good' e4))) ?_ ?_ ?_ ?_ ?_
        · rw [FrmV]
          exact ⟨p, v, rfl, h4, hf.imm (Imm.of_same e4)⟩
        · rw [Fm.names, hnm]
        · rw [Fm.rm]
          exact ⟨by omega, by omega, by rw [Int.toNat_natCast]; exact hrm⟩
        · rw [Fm.depth]; omega
        · rw [Fm.ok]
          exact ⟨by omega, by omega, hok⟩
      · walk_at "v"
        exact ⟨rfl, f1⟩
    · walk_at "v"
      exact ⟨rfl, Fr.refl hg⟩
  · rintro σ H1 ⟨rfl, f1⟩
    have hl1 := f1.lst ol hl
    walk_at "v"
    refine v_lenL hl1 ?_
    walk_at "v"
    refine v_dec (fun c1 => ?_) (fun c1 => ?_)
    · have hlen : nms.length = 1 := by
        have := V.int.inj c1
        rw [List.length_map] at this; omega
      obtain ⟨nm, rfl⟩ := List.length_eq_one_iff.mp hlen
      walk_at "v"
      refine v_dt (fun p H2 n2 e2 h2 => ?_)
      refine q (.ref p) (.kind nm) H2 (f1.trans (Fr.same f1.good' e2)) ?_ rfl ?_ ?_ ?_
      · rw [FrmV]; exact ⟨p, rfl, h2⟩
      · rw [Fm.rm]; exact hr0
      · rw [Fm.depth]; omega
      · rw [Fm.ok]; trivial
    · have hlen : 2 ≤ nms.length := by
        have : nms.length ≠ 1 := fun z => c1 (by rw [List.length_map, z]; rfl)
        omega
      walk_at "v"
      refine v_dl fun t H2 n2 e2 h2 => ?_
      walk_at "v"
      have f2 := f1.trans (Fr.same f1.good' e2)
      have ot : Off (some (g, c)) t := Off.new f1.good' n2
      refine ⟨g, c, t, _, rfl, f2.good', h2, ot.1, ot.2, List.cons_ne_nil _ _, by simp, fun i v H3 hi f3 => ?_⟩
      have hv : ∃ b : Bool, v = .str (wordOf b) := by
        rcases i with _ | _ | i
        · exact ⟨true, (Option.some.inj hi).symm⟩
        · exact ⟨false, (Option.some.inj hi).symm⟩
        · simp at hi
      obtain ⟨b, rfl⟩ := hv
      walk_at "v"
      refine v_dl fun d H4 n4 e4 h4 => ?_
      walk_at "v"
      have f4 := (f2.trans f3).trans (Fr.same f3.good' e4)
      have nd : H d = none := (f2.trans f3).free n4
      refine v_lenL (f4.lst ol hl) ?_
      refine v_forR (by omega) (by rw [List.length_map]; omega) (fun i σ H' => ∃ (l' : Addr) (t1 t2 : Option V) (fs : List Fm) (us : List V) (rs : List Str), σ = [some (.ref g), some (.ref l), some (.int (r : Nat)), none, some (.str (wordOf b)), some (.ref d), some (.ref l'), t1, t2] ∧ Fr (some (g, c)) H H' ∧
        H' d = some (.lst us) ∧ FrmL H' fs us ∧ H' l' = some (.lst (rs.map V.str)) ∧ Off (some (g, c)) l' ∧ l' ≠ d ∧ Fm.namesL fs ++ rs = nms ∧ (∀ x ∈ fs, x.rm r ∧ x.depth ≤ n ∧ x.ok) ∧ rs.length ≤ nms.length - i ∧ (1 ≤ i → fs ≠ [] ∧ rs.length < nms.length) ∧ fs.length ≤ i)
        ⟨l, none, none, [], [], nms, rfl, f4, h4, rfl, f4.lst ol hl, ol, ?_, rfl, fun x hx => (by cases hx), Nat.le_refl _, fun z => absurd z (by decide), Nat.le_refl _⟩ (fun i σ H' hi q0 => ?_) (fun σ H' q0 => ?_)
      · exact ne_of_none hl nd
      · obtain ⟨l', t1, t2, fs, us, rs, rfl, f5, h5, hf5, hl5, ol5, hld, hnm, hfs, hrl, hi1, hfl⟩ := q0
        walk_at "v"
        refine v_lenL hl5 ?_
        walk_at "v"
        refine v_dec (fun c2 => ?_) (fun c2 => ?_)
        · have hrs0 : 0 < rs.length := by rw [List.length_map] at c2; omega
          walk_at "v"
          refine v_lenL hl5 ?_
          walk_at "v"
          rw [List.length_map]
          have hz : (if decide (V.int (i : Nat) = V.int 0) = true then (1 : Int) else 0) = if i = 0 then 1 else 0 := by
            by_cases h : i = 0
            · rw [if_pos h, if_pos (decide_eq_true (by rw [h]; rfl))]
            · rw [if_neg h, if_neg (fun z => h (by have := V.int.inj (of_decide_eq_true z); omega))]
          rw [hz]
          have hpos : 0 < (rs.length : Int) - (if i = 0 then (1 : Int) else 0) := by
            by_cases h : i = 0
            · rw [if_pos h]
              subst h
              have : fs = [] := List.length_eq_zero_iff.mp (by omega)
              rw [this] at hnm
              have e : rs = nms := hnm
              rw [e]; omega
            · rw [if_neg h]; omega
          refine ⟨g, c, _, rfl, f5.good', hpos, by omega, fun k H6 hk0 hk1 f6 => ?_⟩
          obtain ⟨cn, hcn⟩ := Int.eq_ofNat_of_zero_le (show 0 ≤ 1 + k by omega)
          have hc1 : 1 ≤ cn := by omega
          have hc2 : cn ≤ rs.length := by
            split at hk1 <;> omega
          have hrl2 : rs.length ≤ nms.length := by rw [← hnm, List.length_append]; omega
          have hc3 : cn < nms.length := by
            by_cases h : i = 0
            · rw [if_pos h] at hk1; omega
            · have := (hi1 (by omega)).2; omega
          walk_at "v"
          rw [hcn]
          have h6 := f6.lst (Off.new hg nd) h5
          have hl6 := f6.lst ol5 hl5
          have hf6 := hf5.imm f6.imm
          refine ⟨tyL h6, ?_⟩
          walk_at "v"
          refine v_slLS (SqL.of hl6) fun p7 H7 n7 e7 h7 => ?_
          rw [cut_take, ← List.map_take] at h7
          have f57 := (f5.trans f6).trans (Fr.same f6.good' e7)
          have o7 : Off (some (g, c)) p7 := Off.new f6.good' n7
          walk_at "v"
          have hr1' : r ≤ 60 := hr1
          refine ⟨g, c, p7, r, rs.take cn, rfl, f57.good', h7, o7.1, o7.2, by rw [List.length_take]; omega, by rw [List.length_take]; omega, hr0, hr1, by rw [List.length_take]; omega, fun v fm H8 f8 hf8 hnm8 hrm8 hdp8 hok8 => ?_⟩
          walk_at "v"
          have h8 := f8.lst (Off.new hg nd) (e7 _ _ h6)
          have hl8 := f8.lst ol5 (e7 _ _ hl6)
          have hfl8 := hf6.imm ((Imm.of_same e7).trans f8.imm)
          have hul : us.length ≤ 60 := by rw [hf5.len]; omega
          refine v_app h8 (by omega) ?_
          have f59 := (f57.trans f8).mut (o := .lst (us ++ [v])) nd
          have i9 : Imm H8 (upd H8 d (.lst (us ++ [v]))) := Imm.mutL h8
          have h9 : upd H8 d (.lst (us ++ [v])) d = some (.lst (us ++ [v])) := upd_same
          have hl9 : upd H8 d (.lst (us ++ [v])) l' = some (.lst (rs.map V.str)) := by rw [upd_ne hld]; exact hl8
          revert f59 i9 h9 hl9
          generalize upd H8 d (.lst (us ++ [v])) = H9
          intro f59 i9 h9 hl9
          walk_at "v"
          refine v_slLS (SqL.of hl9) fun p10 H10 n10 e10 h10 => ?_
          rw [cut_drop, ← List.map_drop] at h10
          refine ⟨p10, _, _, fs ++ [fm], us ++ [v], rs.drop cn, rfl, f59.trans (Fr.same f59.good' e10), e10 _ _ h9, ?_, h10, Off.new f59.good' n10, (ne_of_none h9 n10).symm, ?_, ?_, ?_, fun _ => ⟨by simp, ?_⟩, ?_⟩
          · refine (hfl8.imm (i9.trans (Imm.of_same e10))).append ?_
            rw [FrmL]
            exact ⟨v, [], rfl, hf8.imm (i9.trans (Imm.of_same e10)), by rw [FrmL]⟩
          · rw [Fm.namesL_flat, List.flatMap_append, List.flatMap_singleton, hnm8, ← Fm.namesL_flat, List.append_assoc, List.take_append_drop, hnm]
          · intro x hx
            rcases List.mem_append.mp hx with hx | hx
            · exact hfs x hx
            · rw [List.mem_singleton.mp hx]; exact ⟨hrm8, hdp8, hok8⟩
          · rw [List.length_drop]; omega
          · rw [List.length_drop]; omega
          · rw [List.length_append, List.length_singleton]; omega
        · walk_at "v"
          have hrs : rs = [] := List.length_eq_zero_iff.mp (by rw [List.length_map] at c2; omega)
          refine ⟨l', _, _, fs, us, rs, rfl, f5, h5, hf5, hl5, ol5, hld, hnm, hfs, by rw [hrs]; exact Nat.zero_le _, fun _ => ⟨fun z => ?_, by rw [hrs]; exact Nat.lt_of_lt_of_le (by decide) hlen⟩, by omega⟩
          rw [z, hrs] at hnm
          rw [← hnm] at hlen
          exact absurd hlen (by decide)
      · obtain ⟨l', t1, t2, fs, us, rs, rfl, f5, h5, hf5, hl5, ol5, hld, hnm, hfs, hrl, hi1, hfl⟩ := q0
        rw [List.length_map] at hrl hi1 hfl
        have hrs : rs = [] := List.length_eq_zero_iff.mp (by omega)
        rw [hrs, List.append_nil] at hnm
        have hne : fs ≠ [] := (hi1 (by omega)).1
        walk_at "v"
        refine v_tupL h5 fun p6 H6 n6 e6 h6 => ?_
        walk_at "v"
        refine v_dt (fun p7 H7 n7 e7 h7 => ?_)
        refine q (.ref p7) (.node b fs) H7 (f5.trans (Fr.same f5.good' (e6.trans e7))) ?_ ?_ ?_ ?_ ?_
        · rw [FrmV]
          exact ⟨p7, p6, us, rfl, h7, e7 _ _ h6, hf5.imm (Imm.of_same (e6.trans e7))⟩
        · rw [Fm.names]; exact hnm
        · rw [Fm.rm]
          exact ⟨hne, Fm.rmL_of fun x hx => (hfs x hx).1⟩
        · rw [Fm.depth]
          exact Nat.succ_le_succ (depthL_le fun x hx => (hfs x hx).2.1)
        · rw [Fm.ok]
          exact ⟨hne, by omega, okL_of fun x hx => (hfs x hx).2.2⟩
end
end K14

/-! ## K14deep -/
set_option Elab.async false
set_option linter.all false
set_option maxRecDepth 100000
set_option maxHeartbeats 8000000
namespace K14
open PySem PySem.Spec PyProof.Rows L2 AK
local macro_rules | `(tactic| walk_at "look") => `(tactic| first
  | assumption
  | with_reducible exact Fr.tup (by assumption) (by walk_at "look")
  | with_reducible exact Same.tup (by assumption) (by walk_at "look")
  | with_reducible exact FrmV.imm (Fr.imm (by assumption)) (by walk_at "look")
  | with_reducible exact FrmV.imm (Imm.of_same (by assumption)) (by walk_at "look")
  | with_reducible exact FrmL.imm (Fr.imm (by assumption)) (by walk_at "look")
  | with_reducible exact FrmL.imm (Imm.of_same (by assumption)) (by walk_at "look"))
local macro_rules | `(tactic| walk_at "v") => `(tactic| repeat (first
  | (with_reducible first
    | refine v_seq ?_ | refine v_next ?_ | refine v_set ?_ | refine v_ret ?_ | refine v_retN ?_ | refine v_drop ?_ | refine v_brk ?_ | refine v_if ?_
    | refine v_c ?_ | refine v_op ?_ | refine v_un ?_ | refine v_nil ?_ | refine v_cons ?_ | refine v_cb ?_ | refine v_call ?_ | refine v_test ?_ | refine v_tB ?_ | refine v_bl ?_
    | refine v_and ?_ | refine v_or ?_ | refine v_not ?_ | refine v_andV ?_ | refine v_orV ?_ | refine v_notV ?_ | refine v_ifE ?_ | refine v_true ?_ | refine v_false ?_ | refine v_ntrue ?_ | refine v_nfalse ?_
    | refine v_I0 ?_ | refine v_U ?_ | refine v_par ?_ | refine v_par2 ?_ | refine v_isII ?_ | refine v_isIB ?_ | refine v_lc ?_ | refine v_itup ?_ | refine v_ilist ?_
    | refine v_abs ?_ | refine v_max2 ?_ | refine v_int ?_ | refine v_intB ?_ | refine v_isN ?_ | refine v_notN ?_ | refine v_sl ?_ | refine v_np ?_ | refine v_pt ?_ | refine v_pi ?_ | refine v_bm ?_ | refine v_bm0 ?_ | refine v_revL ?_ | refine v_tup ?_ | refine v_lst ?_ | refine v_lc2 ?_ | refine v_dgetS ?_ | refine v_dc ?_ | refine v_zip ?_ | refine v_for ?_ | refine v_irng ?_ | refine v_asg ?_ | refine v_gsub ?_ | refine v_dnew ?_ | refine v_dput0 ?_ | refine v_din0 ?_ | refine v_dget20 ?_ | refine v_irng2 ?_ | refine v_par3 ?_ | refine v_par33 ?_ | refine v_m1 ?_)
  | ((with_reducible refine' v_var ?h ?_); (case h => with_unfolding_all rfl))
  | ((with_reducible refine v_eq ?h ?_); (case h => with_unfolding_all rfl))
  | ((with_reducible refine v_ne ?h ?_); (case h => with_unfolding_all rfl))
  | ((with_reducible refine' v_ixT ?h ?e ?_); (case h => exact SqT.of (by walk_at "look")); (case e => with_unfolding_all rfl))
  | ((with_reducible refine' v_ixL ?h ?e ?_); (case h => exact SqL.of (by assumption)); (case e => with_unfolding_all rfl))))

abbrev s__law_deep_right : Stmt := topS 25
abbrev n__law_deep_right : List Str := ["_law_heap_here", "_law_first", "_law_second", "_law_third", "_law_names_here", "_law_order", "_law_kinds", "_law_inner", "_law_formula_here", "_law_many", "_law_units", "_law_row", "_law_turn", "_law_due", "_law_good", "_law_amounts", "_law_at"]
abbrev p__law_deep_right : List Str := ["_law_heap_here"]
theorem sc__law_deep_right : FnScope n__law_deep_right p__law_deep_right (defScope s__law_deep_right) := ⟨rfl, rfl, rfl, by decide +kernel, rfl, by decide +kernel, by decide +kernel⟩
section
variable {P : Program} {w : World} {K : PySem.W.Frag} {mg : Str → Option Value} {base : Heap} {f : Addr} {fd : FuncData}
def sp_deep : Sp := fun vs H Q _ => ∃ (g c : Addr), vs = [.ref g] ∧ IsRng g c H ∧ ∀ H', Q (.bl true) H'
theorem ok_deep (F : Fun K "_law_deep_right" "_law_deep_right" s__law_deep_right f fd) (B : Bt mg) (h_law_draw : Fn P w K mg base 1 "_law_draw" p__law_draw sp_draw) (h_law_pick : Fn P w K mg base 2 "_law_pick" p__law_pick sp_pick)
    (h_law_names : Fn P w K mg base 3 "_law_names" p__law_names sp_names) (h_law_mixed : Fn P w K mg base 2 "_law_mixed" p__law_mixed sp_mixed) (h_law_shared : Fn P w K mg base (11 + 6) "_law_shared" p__law_shared (sp_shared 11)) : FnOk P w K mg base CX0 100 f fd p__law_deep_right sp_deep := by
  refine F.ok sc__law_deep_right (fun vs H Q E h => ?_) (fun cdv A outer s H vs Q E hr h => ?_)
  · obtain ⟨g, c, rfl, _⟩ := h; rfl
  obtain ⟨g, c, rfl, hg, q⟩ := h
  have hu := hu_of hr
  refine ⟨_, (pss_cons (ps_asg (cal h_law_pick hr (pa_cons (pv 0) (pa_cons (pe_lst (pa_cons (pe_tup (pa_cons pe_int (pa_cons pe_int (pa_cons pe_int pa_nil)))) (pa_cons (pe_tup (pa_cons pe_int (pa_cons pe_int (pa_cons pe_int pa_nil)))) (pa_cons (pe_tup (pa_cons pe_int (pa_cons pe_int (pa_cons pe_int pa_nil)))) (pa_cons (pe_tup (pa_cons pe_int (pa_cons pe_int (pa_cons pe_int pa_nil)))) (pa_cons (pe_tup (pa_cons pe_int (pa_cons pe_int (pa_cons pe_int pa_nil)))) (pa_cons (pe_tup (pa_cons pe_int (pa_cons pe_int (pa_cons pe_int pa_nil)))) (pa_cons (pe_tup (pa_cons pe_int (pa_cons pe_int (pa_cons pe_int pa_nil)))) (pa_cons (pe_tup (pa_cons pe_int (pa_cons pe_int (pa_cons pe_int pa_nil)))) pa_nil))))))))) pa_nil))) (pgT (K := K) (n := 3) rfl rfl (pgs_cons (pg_name (i := 1) sc__law_deep_right.nd rfl (Or.inl rfl)) (pgs_cons (pg_name (i := 2) sc__law_deep_right.nd rfl (Or.inl rfl)) (pgs_cons (pg_name (i := 3) sc__law_deep_right.nd rfl (Or.inl rfl)) pgs_nil)))))
(pss_cons (ps_set (i := 4) sc__law_deep_right.nd rfl (.inr rfl) (cal h_law_names hr (pa_cons (pv 0) (pa_cons pe_int pa_nil))))
(pss_cons (ps_set (i := 5) sc__law_deep_right.nd rfl (.inr rfl) (cal h_law_mixed hr (pa_cons (pv 0) (pa_cons (pe_lst (pa_cons pe_int (pa_cons pe_int (pa_cons pe_int (pa_cons pe_int pa_nil))))) pa_nil))))
(pss_cons (ps_setLc (i := 6) (own := [("_law_at", 16)]) (g := gName 16) rfl sc__law_deep_right.nd rfl rfl (sw_true rfl rfl rfl (by decide +kernel)) (piL (K := K) rfl (pv 5)) (blkOk_by (own := [("_law_at", 16)]) (N := n__law_deep_right) (sc := defScope s__law_deep_right) (by decide +kernel)) (fun _ _ _ _ _ => (pg_name (i := 16) sc__law_deep_right.nd rfl (Or.inl rfl))) (fun _ _ _ _ _ => pts_nil) (fun _ _ _ _ _ => (pe_tup (pa_cons pe_str (pa_cons (pe_ix (ixL (K := K) rfl) (pv 4) (pv 16) (fun _ _ => rfl)) pa_nil)))))
(pss_cons (ps_set (i := 7) sc__law_deep_right.nd rfl (Or.inl rfl) (pe_tup (pa_cons pe_str (pa_cons (pe_tup (pa_cons (pe_ix (ixL (K := K) rfl) (pv 6) pe_int (fun _ _ => rfl)) (pa_cons (pe_ix (ixL (K := K) rfl) (pv 6) pe_int (fun _ _ => rfl)) pa_nil))) pa_nil))))
(pss_cons (ps_set (i := 7) sc__law_deep_right.nd rfl (Or.inl rfl) (pe_tup (pa_cons pe_str (pa_cons (pe_tup (pa_cons (pe_ix (ixL (K := K) rfl) (pv 6) pe_int (fun _ _ => rfl)) (pa_cons (pe_ifExp (pt_cmpR op_eq (pv 3) pe_int (nomark _)) (pv 7) (pe_tup (pa_cons pe_str (pa_cons (pv 3) (pa_cons (pv 7) pa_nil))))) pa_nil))) pa_nil))))
(pss_cons (ps_set (i := 8) sc__law_deep_right.nd rfl (Or.inl rfl) (pe_tup (pa_cons pe_str (pa_cons (pv 1) (pa_cons (pe_tup (pa_cons pe_str (pa_cons (pe_tup (pa_cons (pe_ifExp (pt_cmpR op_eq (pv 2) pe_int (nomark _)) (pv 7) (pe_tup (pa_cons pe_str (pa_cons (pv 2) (pa_cons (pv 7) pa_nil))))) (pa_cons (pe_ix (ixL (K := K) rfl) (pv 6) pe_int (fun _ _ => rfl)) pa_nil))) pa_nil))) pa_nil)))))
(pss_cons (ps_set (i := 9) sc__law_deep_right.nd rfl (Or.inl rfl) (pe_op op_add (cal h_law_pick hr (pa_cons (pv 0) (pa_cons (pe_lst (pa_cons pe_int (pa_cons pe_int (pa_cons pe_int (pa_cons pe_int (pa_cons pe_int (pa_cons (pe_op op_pow pe_int pe_int) (pa_cons (pe_op op_pow pe_int pe_int) pa_nil)))))))) pa_nil))) (cal h_law_draw hr (pa_cons (pv 0) (pa_cons pe_int pa_nil)))))
(pss_cons (ps_set (i := 10) sc__law_deep_right.nd rfl (Or.inl rfl) (cal h_law_draw hr (pa_cons (pv 0) (pa_cons (pe_op op_add (pe_op op_mul (pe_op op_mul (pv 1) (pv 2)) (pv 9)) pe_int) pa_nil))))
(pss_cons (ps_set (i := 11) sc__law_deep_right.nd rfl (.inr rfl) (pe_lst (pa_cons (pe_op op_mul (pv 1) (pv 9)) (pa_cons (pe_op op_sub (pe_op op_mul (pe_op op_mul (pv 1) (pv 2)) (pv 9)) (pv 10)) (pa_cons (pe_op op_mul (pv 3) (pv 10)) (pa_cons (pe_op op_mul (pv 3) (pv 10)) pa_nil))))))
(pss_cons (ps_for PassesOwn.never rfl (pi_range1 rfl B.range (pa_cons pe_int pa_nil)) (pg_name (i := 12) sc__law_deep_right.nd rfl (Or.inl rfl))
(pss_cons (ps_set (i := 13) sc__law_deep_right.nd rfl (Or.inl rfl) (pe_op op_fdiv (pe_ix (ixL (K := K) rfl) (pv 11) pe_int (fun _ _ => rfl)) (pv 1)))
(Evl.pss_cut (ps_set (i := 14) sc__law_deep_right.nd rfl (Or.inl rfl) (pe_and (pe_cmpR op_eq (pe_op op_mod (ct bt_int (crInt (K := K) rfl) B.int (pa_cons (pe_ix (ixL (K := K) rfl) (pv 11) pe_int (fun _ _ => rfl)) pa_nil)) (pv 1)) pe_int (nomark _)) (pe_and (pe_cmpR op_eq (pe_ix (ixL (K := K) rfl) (pv 11) pe_int (fun _ _ => rfl)) (pe_ix (ixL (K := K) rfl) (pv 11) pe_int (fun _ _ => rfl)) (nomark _)) (pe_and (pe_cmpR op_eq (pe_op op_mod (ct bt_int (crInt (K := K) rfl) B.int (pa_cons (pe_ix (ixL (K := K) rfl) (pv 11) pe_int (fun _ _ => rfl)) pa_nil)) (pv 3)) pe_int (nomark _)) (pe_one (pe_cmpR op_eq (pe_op op_add (pe_ix (ixL (K := K) rfl) (pv 11) pe_int (fun _ _ => rfl)) (pe_op op_fdiv (pe_ix (ixL (K := K) rfl) (pv 11) pe_int (fun _ _ => rfl)) (pv 3))) (pe_op op_mul (pe_op op_mul (pv 1) (pv 2)) (pv 13)) (nomark _)))))))
(pss_cons (ps_set (i := 15) sc__law_deep_right.nd rfl (Or.inl rfl) (ct bt_tuple (crTup (K := K) rfl) B.tuple (pa_cons (pe_lc (own := [("_law_at", 16)]) (g := gName 16) rfl sc__law_deep_right.nd (pi_range1 rfl B.range (pa_cons pe_int pa_nil)) (blkOk_by (own := [("_law_at", 16)]) (N := n__law_deep_right) (sc := defScope s__law_deep_right) (by decide +kernel)) (fun _ _ _ _ _ => (pg_name (i := 16) sc__law_deep_right.nd rfl (Or.inl rfl))) (fun _ _ _ _ _ => pts_nil) (fun _ _ _ _ _ => (pe_ix (ixL (K := K) rfl) (pv 11) (bmL PySem.F.slot_list_index PySem.F.type_list_index (K := K) rfl (mtIndex (K := K) rfl) (pv 5) (pa_cons (pv 16) pa_nil)) (fun _ _ => rfl)))) pa_nil)))
(pss_cons (ps_if (pt_not (pt_val (cal h_law_shared hr (pa_cons (pv 8) (pa_cons (pv 15) (pa_cons (pe_ifExp (pt_val (pv 14)) (pv 13) pe_non) pa_nil))))))
(pss_one (ps_ret pe_bl))
pss_nil)
(pss_cons (ps_set (i := 16) sc__law_deep_right.nd rfl (Or.inl rfl) (cal h_law_draw hr (pa_cons (pv 0) (pa_cons pe_int pa_nil))))
(pss_cons (ps_asg (cb bt_max (crMax2 (K := K) rfl rfl) B.max (pa_cons pe_int (pa_cons (pe_op op_add (pe_ix (ixL (K := K) rfl) (pv 11) (pv 16) (fun _ _ => rfl)) (cal h_law_pick hr (pa_cons (pv 0) (pa_cons (pe_lst (pa_cons pe_int (pa_cons (pe_op op_sub pe_int pe_int) (pa_cons (pv 1) (pa_cons (pv 3) pa_nil))))) pa_nil)))) pa_nil))) (pg_sub (pv 11) (pv 16) set_list))
(pss_one (ps_if (PW.pt (pw_and (pt_cmpR op_gt (pv 16) pe_int (nomark _)) (pw_and1 (pt_cmpR op_gt (cal h_law_draw hr (pa_cons (pv 0) (pa_cons pe_int pa_nil))) pe_int (nomark _)))))
(pss_one (ps_asg (pe_ix (ixL (K := K) rfl) (pv 11) (pv 16) (fun _ _ => rfl)) (pg_sub (pv 11) (pe_op op_sub pe_int (pv 16)) set_list)))
pss_nil)))))))))
(pss_one (ps_ret pe_bl))))))))))))), ?_⟩
  walk_at "v"
  refine v_dt (fun a1 H1 n1 e1 h1 => ?_)
  walk_at "v"
  refine v_dt (fun a2 H2 n2 e2 h2 => ?_)
  walk_at "v"
  refine v_dt (fun a3 H3 n3 e3 h3 => ?_)
  walk_at "v"
  refine v_dt (fun a4 H4 n4 e4 h4 => ?_)
  walk_at "v"
  refine v_dt (fun a5 H5 n5 e5 h5 => ?_)
  walk_at "v"
  refine v_dt (fun a6 H6 n6 e6 h6 => ?_)
  walk_at "v"
  refine v_dt (fun a7 H7 n7 e7 h7 => ?_)
  walk_at "v"
  refine v_dt (fun a8 H8 n8 e8 h8 => ?_)
  walk_at "v"
  refine v_dl fun lt H9 n9 e9 h9 => ?_
  walk_at "v"
  have s8 : Same H H8 := ((((((e1.trans e2).trans e3).trans e4).trans e5).trans e6).trans e7).trans e8
  have f9 : Fr (some (g, c)) H H9 := Fr.same (r := some (g, c)) hg (s8.trans e9)
  have olt : Off (some (g, c)) lt := Off.new (r := some (g, c)) hg (s8.free n9)
  refine ⟨g, c, lt, _, rfl, f9.good', h9, olt.1, olt.2, List.cons_ne_nil _ _, by simp, fun i v H10 hi f10 => ?_⟩
  obtain ⟨p, fi, se, th, rfl, hpt, T⟩ : ∃ (p : Addr) (fi se th : Int), v = .ref p ∧ H10 p = some (.tup [.int fi, .int se, .int th]) ∧ Tri fi se th := by
    have hv := List.mem_of_getElem? hi
    simp only [List.mem_cons, List.not_mem_nil, or_false] at hv
    rcases hv with rfl | rfl | rfl | rfl | rfl | rfl | rfl | rfl
    · exact ⟨_, _, _, _, rfl, f10.tup (e9 _ _ (e8 _ _ (e7 _ _ (e6 _ _ (e5 _ _ (e4 _ _ (e3 _ _ (e2 _ _ h1)))))))), by constructor <;> decide⟩
    · exact ⟨_, _, _, _, rfl, f10.tup (e9 _ _ (e8 _ _ (e7 _ _ (e6 _ _ (e5 _ _ (e4 _ _ (e3 _ _ h2))))))), by constructor <;> decide⟩
    · exact ⟨_, _, _, _, rfl, f10.tup (e9 _ _ (e8 _ _ (e7 _ _ (e6 _ _ (e5 _ _ (e4 _ _ h3)))))), by constructor <;> decide⟩
    · exact ⟨_, _, _, _, rfl, f10.tup (e9 _ _ (e8 _ _ (e7 _ _ (e6 _ _ (e5 _ _ h4))))), by constructor <;> decide⟩
    · exact ⟨_, _, _, _, rfl, f10.tup (e9 _ _ (e8 _ _ (e7 _ _ (e6 _ _ h5)))), by constructor <;> decide⟩
    · exact ⟨_, _, _, _, rfl, f10.tup (e9 _ _ (e8 _ _ (e7 _ _ h6))), by constructor <;> decide⟩
    · exact ⟨_, _, _, _, rfl, f10.tup (e9 _ _ (e8 _ _ h7)), by constructor <;> decide⟩
    · exact ⟨_, _, _, _, rfl, f10.tup (e9 _ _ h8), by constructor <;> decide⟩
  obtain ⟨T1, T2, T3, T4, T5, T6, T7, T8⟩ := id T
  refine v_gT3 hpt ?_
  refine v_gname ?_
  refine v_gname ?_
  refine v_gname ?_
  have fa := f9.trans f10
  walk_at "v"
  refine ⟨g, c, 4, rfl, fa.good', by decide, by decide, fun pn nms H11 hnd hsrt hnl n11 f11 h11 => ?_⟩
  have hnl4 : nms.length = 4 := hnl
  have fb := fa.trans f11
  have opn : Off (some (g, c)) pn := Off.new fa.good' n11
  walk_at "v"
  refine v_dl fun l4 H12 n12 e12 h12 => ?_
  walk_at "v"
  have fc := fb.trans (Fr.same fb.good' e12)
  have ol4 : Off (some (g, c)) l4 := Off.new fb.good' n12
  refine ⟨g, c, l4, [.int 0, .int 1, .int 2, .int 3], rfl, fc.good', h12, ol4.1, ol4.2, by simp, fun po ys H13 hperm n13 f13 h13 => ?_⟩
  obtain ⟨os, rfl, hop⟩ := perm_map (fn := V.int) (xs := [0, 1, 2, 3]) unI (fun _ => rfl) hperm
  have fd' := fc.trans f13
  have opo : Off (some (g, c)) po := Off.new fc.good' n13
  have hol : os.length = 4 := hop.length_eq
  have hond : os.Nodup := hop.nodup_iff.mpr (by decide)
  have hom : ∀ o, o ∈ os ↔ 0 ≤ o ∧ o ≤ 3 := fun o => by
    rw [hop.mem_iff]
    simp only [List.mem_cons, List.not_mem_nil, or_false]
    omega
  have h13n : H13 pn = some (.lst (nms.map V.str)) := f13.lst opn (e12 _ _ h11)
  walk_at "v"
  refine v_lcLR none h13 trivial trivial (fun i v H' => ∀ o, os[i]? = some o → FrmV H' (.kind (nms.getD o.toNat "")) v) (fun i v H1 H2 im h o ho => (h o ho).imm im) (by rw [List.length_map, hol]; decide) (fun _ => rfl) (fun i x H14 Qn hi f14 qn => ?_) (fun pk ks H14 hD f14 h14 hkl hks => ?_)
  · rw [List.getElem?_map] at hi
    obtain ⟨o, ho, rfl⟩ := Option.map_eq_some_iff.mp hi
    have ho2 := (hom o).mp (List.mem_of_getElem? ho)
    have hlt : o.toNat < nms.length := by omega
    have h14n := f14.to _ _ h13n
    walk_at "v"
    refine v_ixL (v := .str (nms.getD o.toNat "")) (SqL.of h14n) (atI_int ho2.1 (by rw [List.getElem?_map]; simp [List.getD, hlt])) ?_
    walk_at "v"
    refine v_dt (fun p' H15 n15 e15 h15 => ?_)
    refine qn _ H15 (Fr.same trivial e15) fun o' ho' => ?_
    rw [ho] at ho'
    cases ho'
    rw [FrmV]
    exact ⟨p', rfl, h15⟩
  rw [List.length_map, hol] at hkl
  obtain ⟨o0, o1, o2, o3, rfl⟩ : ∃ o0 o1 o2 o3, os = [o0, o1, o2, o3] := by
    match os, hol with
    | [a, b, c, d], _ => exact ⟨a, b, c, d, rfl⟩
  obtain ⟨v0, v1, v2, v3, rfl⟩ : ∃ v0 v1 v2 v3, ks = [v0, v1, v2, v3] := by
    match ks, hkl with
    | [a, b, c, d], _ => exact ⟨a, b, c, d, rfl⟩
  have k0 := hks 0 v0 rfl o0 rfl
  have k1 := hks 1 v1 rfl o1 rfl
  have k2 := hks 2 v2 rfl o2 rfl
  have k3 := hks 3 v3 rfl o3 rfl
  have r0 := (hom o0).mp (by simp)
  have r1 := (hom o1).mp (by simp)
  have r2 := (hom o2).mp (by simp)
  have r3 := (hom o3).mp (by simp)
  walk_at "v"
  refine v_dt (fun p1 H15 n15 e15 h15 => ?_)
  walk_at "v"
  refine v_dt (fun p2 H16 n16 e16 h16 => ?_)
  have s16 := e15.trans e16
  have h14b := s16 _ _ h14
  have hi1 : FrmV H16 (in1 (nms.getD o2.toNat "") (nms.getD o3.toNat "")) (.ref p2) := FrmV.pair (w := true) h16 (e16 _ _ h15) (k2.imm (Imm.of_same s16)) (k3.imm (Imm.of_same s16))
  walk_at "v"
  refine v_iteM (by with_unfolding_all rfl) (by with_unfolding_all rfl) hi1 fun w1 H17 e17 hw1 => ?_
  walk_at "v"
  refine v_dt (fun p3 H18 n18 e18 h18 => ?_)
  walk_at "v"
  refine v_dt (fun p4 H19 n19 e19 h19 => ?_)
  have s19 := ((s16.trans e17).trans e18).trans e19
  have h14c := s19 _ _ h14
  have hi2 : FrmV H19 (in2 th (nms.getD o1.toNat "") (nms.getD o2.toNat "") (nms.getD o3.toNat "")) (.ref p4) := FrmV.pair (w := false) h19 (e19 _ _ h18) (k1.imm (Imm.of_same s19)) (hw1.imm (Imm.of_same (e18.trans e19)))
  walk_at "v"
  refine v_iteM (by with_unfolding_all rfl) (by with_unfolding_all rfl) hi2 fun w2 H20 e20 hw2 => ?_
  have h14d := e20 _ _ h14c
  walk_at "v"
  refine v_dt (fun p5 H21 n21 e21 h21 => ?_)
  walk_at "v"
  refine v_dt (fun p6 H22 n22 e22 h22 => ?_)
  walk_at "v"
  refine v_dt (fun p7 H23 n23 e23 h23 => ?_)
  have s20 := s19.trans e20
  have s23 := ((s20.trans e21).trans e22).trans e23
  have hi3 : FrmV H22 (in3 se th (nms.getD o0.toNat "") (nms.getD o1.toNat "") (nms.getD o2.toNat "") (nms.getD o3.toNat "")) (.ref p6) := FrmV.pair (w := true) h22 (e22 _ _ h21) (hw2.imm (Imm.of_same (e21.trans e22))) (k0.imm (Imm.of_same ((s20.trans e21).trans e22)))
  have hfm : FrmV H23 (deepFm fi se th (nms.getD o0.toNat "") (nms.getD o1.toNat "") (nms.getD o2.toNat "") (nms.getD o3.toNat "")) (.ref p7) := by
    unfold deepFm
    rw [FrmV]
    exact ⟨p7, _, rfl, h23, hi3.imm (Imm.of_same e23)⟩
  have gt : ∀ o : Int, 0 ≤ o ∧ o ≤ 3 → ∃ h : o.toNat < nms.length, nms.getD o.toNat "" = nms[o.toNat] := fun o ho => by
    have h : o.toNat < nms.length := by omega
    exact ⟨h, by simp [List.getD, h]⟩
  have hdnames : (deepFm fi se th (nms.getD o0.toNat "") (nms.getD o1.toNat "") (nms.getD o2.toNat "") (nms.getD o3.toNat "")).names.Perm nms := by
    rw [deep_names]
    have e1 : [nms.getD o1.toNat "", nms.getD o2.toNat "", nms.getD o3.toNat "", nms.getD o0.toNat ""].Perm ([o0, o1, o2, o3].map fun o => nms.getD o.toNat "") := by
      show [_, _, _, _].Perm [_, _, _, _]
      exact (List.perm_append_comm (l₁ := [nms.getD o1.toNat "", nms.getD o2.toNat "", nms.getD o3.toNat ""]) (l₂ := [nms.getD o0.toNat ""]))
    refine e1.trans ((hop.map _).trans ?_)
    match nms, hnl4 with
    | [a, b, c, d], _ => exact List.Perm.refl _
  have hdk : Kinds (deepFm fi se th (nms.getD o0.toNat "") (nms.getD o1.toNat "") (nms.getD o2.toNat "") (nms.getD o3.toNat "")) nms := ⟨hdnames.symm, hsrt⟩
  have hdok := deep_ok (k0 := nms.getD o0.toNat "") (k1 := nms.getD o1.toNat "") (k2 := nms.getD o2.toNat "") (k3 := nms.getD o3.toNat "") T1 T2 T3 T7 T4 T8
  have hddp := deep_depth fi se th (nms.getD o0.toNat "") (nms.getD o1.toNat "") (nms.getD o2.toNat "") (nms.getD o3.toNat "")
  have hdl : (deepFm fi se th (nms.getD o0.toNat "") (nms.getD o1.toNat "") (nms.getD o2.toNat "") (nms.getD o3.toNat "")).names.length < 64 := by rw [deep_names]; simp
  have fe : Fr (some (g, c)) H H23 := (fd'.trans (Fr.same fd'.good' f14.to)).trans (Fr.same (fd'.trans (Fr.same fd'.good' f14.to)).good' s23)
  have ho23 : H23 po = some (.lst ([o0, o1, o2, o3].map V.int)) := s23 _ _ (f14.to _ _ h13)
  walk_at "v"
  refine v_I ⟨by decide, by decide, by decide⟩ ?_
  walk_at "v"
  refine v_I ⟨by decide, by decide, by decide⟩ ?_
  walk_at "v"
  refine v_dl fun lm H24 n24 e24 h24 => ?_
  walk_at "v"
  have olm : Off (some (g, c)) lm := Off.new fe.good' n24
  have ff := fe.trans (Fr.same fe.good' e24)
  refine ⟨g, c, lm, _, rfl, ff.good', h24, olm.1, olm.2, List.cons_ne_nil _ _, by simp, fun i4 v4 H25 hi4 f25 => ?_⟩
  obtain ⟨mn, rfl, hm1, hm2⟩ : ∃ mn : Int, v4 = .int mn ∧ 1 ≤ mn ∧ mn ≤ 10 ^ 15 := by
    have hv := List.mem_of_getElem? hi4
    simp only [List.mem_cons, List.not_mem_nil, or_false] at hv
    rcases hv with rfl | rfl | rfl | rfl | rfl | rfl | rfl
    all_goals exact ⟨_, rfl, by decide, by decide⟩
  walk_at "v"
  refine ⟨g, c, 2, rfl, f25.good', by decide, by decide, fun d2 H26 hd0 hd1 f26 => ?_⟩
  obtain ⟨my, hmy⟩ : ∃ my, my = mn + d2 := ⟨_, rfl⟩
  have hmy1 : 1 ≤ my := by omega
  have hmy2 : my ≤ 10 ^ 15 + 1 := by omega
  walk_at "v"
  rw [← hmy]
  refine v_I (.inl ⟨by omega, by omega⟩) ?_
  walk_at "v"
  have hfs0 : 2 ≤ fi * se := by
    have := Int.mul_le_mul T1 T3 (by decide) (by omega)
    omega
  refine v_I (.inl ⟨by omega, by omega⟩) ?_
  walk_at "v"
  have hfsm : fi * se * my ≤ 60 * (10 ^ 15 + 1) := Int.mul_le_mul T5 hmy2 (by omega) (by decide)
  have hfsm0 : 0 ≤ fi * se * my := Int.mul_nonneg (by omega) (by omega)
  refine ⟨g, c, _, rfl, f26.good', by omega, by omega, fun un H27 hu0 hu1 f27 => ?_⟩
  walk_at "v"
  refine v_I (.inl ⟨by omega, by omega⟩) ?_
  walk_at "v"
  refine v_I (.inl ⟨by omega, by omega⟩) ?_
  walk_at "v"
  refine v_I (.inl ⟨by omega, by omega⟩) ?_
  walk_at "v"
  refine v_I (.inl ⟨by omega, by omega⟩) ?_
  walk_at "v"
  refine v_I (.inl ⟨by omega, by omega⟩) ?_
  walk_at "v"
  have fg0 := ((ff.trans f25).trans f26).trans f27
  have im27 : Imm H23 H27 := (Imm.of_same e24).trans ((f25.imm.trans f26.imm).trans f27.imm)
  have ho27 : H27 po = some (.lst ([o0, o1, o2, o3].map V.int)) := f27.lst opo (f26.lst opo (f25.lst opo (e24 _ _ ho23)))
  refine v_dl fun pr H28 n28 e28 h28 => ?_
  walk_at "v"
  have nr : H pr = none := fg0.free n28
  have opr : Off (some (g, c)) pr := Off.new hg nr
  have hpo : po ≠ pr := ne_of_none ho27 n28
  have hun0 : 0 ≤ th * un := Int.mul_nonneg (by omega) hu0
  have hfm0 : 0 ≤ fi * my := Int.mul_nonneg (by omega) (by omega)
  refine v_forR (by decide) (by decide) (fun i σ H' => ∃ (t12 t13 t14 t15 t16 : Option V) (rl : List Int), σ = [some (.ref g), some (.int fi), some (.int se), some (.int th), some (.ref pn), some (.ref po), some (.ref pk), some (.ref p4), some (.ref p7), some (.int my), some (.int un), some (.ref pr), t12, t13, t14, t15, t16] ∧
      Fr (some (g, c)) H H' ∧ Imm H23 H' ∧ H' po = some (.lst ([o0, o1, o2, o3].map V.int)) ∧ H' pr = some (.lst (rl.map V.int)) ∧ rl.length = 4 ∧ ∀ x ∈ rl, 0 ≤ x) ⟨none, none, none, none, none, [fi * my, fi * se * my - un, th * un, th * un], rfl, fg0.trans (Fr.same fg0.good' e28), im27.trans (Imm.of_same e28), e28 _ _ ho27, h28, rfl, ?_⟩ (fun ti σ H' hti q0 => ?_) (fun σ H' q0 => ?_)
  · intro x hx
    simp only [List.mem_cons, List.not_mem_nil, or_false] at hx
    rcases hx with rfl | rfl | rfl | rfl <;> omega
  · obtain ⟨t12, t13, t14, t15, t16, rl, rfl, fh, im, ho, hrow, hrl, hpos⟩ := q0
    obtain ⟨r0', r1', r2', r3', rfl⟩ : ∃ a b c d, rl = [a, b, c, d] := by
      match rl, hrl with
      | [a, b, c, d], _ => exact ⟨a, b, c, d, rfl⟩
    have hrow' : H' pr = some (.lst [.int r0', .int r1', .int r2', .int r3']) := hrow
    have p0 := hpos r0' (by simp)
    have p1' := hpos r1' (by simp)
    have p2' := hpos r2' (by simp)
    have p3' := hpos r3' (by simp)
    walk_at "v"
    refine v_I ⟨by omega, by omega⟩ ?_
    walk_at "v"
    refine v_cut (fun σ H'' => H'' = H' ∧ ∃ b : Bool, σ = [some (.ref g), some (.int fi), some (.int se), some (.int th), some (.ref pn), some (.ref po), some (.ref pk), some (.ref p4), some (.ref p7), some (.int my), some (.int un), some (.ref pr), some (.int (ti : Int)), some (.int (r0' / fi)), some (.bl b), t15, t16] ∧ (b = true ↔ goodRow fi se th r0' r1' r2' r3')) ?_ ?_
    · walk_at "v"
      refine v_I (show 0 < fi by omega) ?_
      walk_at "v"
      have vi : ∀ {x y : Int}, V.int x = V.int y → x = y := fun h => V.int.inj h
      refine v_dec (fun c1 => ?_) (fun c1 => ⟨rfl, false, rfl, fun z => absurd z Bool.false_ne_true, fun z => absurd (by rw [z.1]) c1⟩)
      walk_at "v"
      refine v_dec (fun c2 => ?_) (fun c2 => ⟨rfl, false, rfl, fun z => absurd z Bool.false_ne_true, fun z => absurd (by rw [z.2.1]) c2⟩)
      walk_at "v"
      refine v_I (show 0 < th by omega) ?_
      walk_at "v"
      refine v_dec (fun c3 => ?_) (fun c3 => ⟨rfl, false, rfl, fun z => absurd z Bool.false_ne_true, fun z => absurd (by rw [z.2.2.1]) c3⟩)
      walk_at "v"
      refine v_I ⟨by omega, by omega⟩ ?_
      walk_at "v"
      refine v_I (.inl ⟨by omega, by omega⟩) ?_
      walk_at "v"
      refine v_I (.inl ⟨by omega, by omega⟩) ?_
      walk_at "v"
      refine ⟨rfl, _, rfl, fun z => ⟨vi c1, vi c2, vi c3, vi (of_decide_eq_true z)⟩, fun z => decide_eq_true (by rw [z.2.2.2])⟩
    · rintro σ H'' ⟨rfl, b, rfl, hb⟩
      walk_at "v"
      refine v_lcRgR none trivial (by decide) (by decide) (fun i v => ∃ j : Nat, ([o0, o1, o2, o3] : List Int)[j]? = some (i : Int) ∧ v = .int (([r0', r1', r2', r3'] : List Int).getD j 0)) (fun _ => rfl) (fun i H29 Qn hi f29 qn => ?_) (fun D ys H29 hD f29 h29 hyl hys => ?_)
      · have ho29 := f29.to _ _ ho
        have hr29 := f29.to _ _ hrow
        walk_at "v"
        refine ⟨tyL ho29, ?_⟩
        walk_at "v"
        refine v_indexI ho29 ((hom _).mpr ⟨by omega, by omega⟩) fun j hj => ?_
        have hj4 : j < 4 := (List.getElem?_eq_some_iff.mp hj).1
        refine v_ixL (v := .int (([r0', r1', r2', r3'] : List Int).getD j 0)) (SqL.of hr29) (atI_nat (by
          rw [List.getElem?_map]
          simp [List.getD, hj4])) ?_
        exact qn _ H29 (Fr.refl trivial) ⟨j, hj, rfl⟩
      obtain ⟨as, rfl⟩ := ints_of fun i y hy => by
        obtain ⟨j, _, e⟩ := hys i y hy
        exact ⟨_, e⟩
      rw [List.length_map] at hyl
      have hal : as.length = nms.length := by rw [hyl, hnl4]; rfl
      have val : ∀ (k : Nat) (o : Int), ([o0, o1, o2, o3] : List Int)[k]? = some o → 0 ≤ o ∧ o ≤ 3 → rowOf nms as (nms.getD o.toNat "") = ([r0', r1', r2', r3'] : List Int).getD k 0 := fun k o hk ho3 => by
        obtain ⟨hlt, e⟩ := gt o ho3
        rw [e, rowOf_ix hlt hnd]
        have hlt2 : o.toNat < as.length := by omega
        obtain ⟨j, hj, e2⟩ := hys o.toNat (.int as[o.toNat]) (by rw [List.getElem?_map, List.getElem?_eq_getElem hlt2]; rfl)
        rw [Int.toNat_of_nonneg ho3.1] at hj
        have hjk : j = k := by
          obtain ⟨q1, q2⟩ := List.getElem?_eq_some_iff.mp hj
          obtain ⟨q3, q4⟩ := List.getElem?_eq_some_iff.mp hk
          exact (List.getElem_inj hond).mp (q2.trans q4.symm)
        rw [← hjk]
        have e3 : as.getD o.toNat 0 = as[o.toNat] := by simp [List.getD, hlt2]
        rw [e3]
        exact V.int.inj e2
      have a0 : rowOf nms as (nms.getD o0.toNat "") = r0' := val 0 o0 rfl r0
      have a1' : rowOf nms as (nms.getD o1.toNat "") = r1' := val 1 o1 rfl r1
      have a2' : rowOf nms as (nms.getD o2.toNat "") = r2' := val 2 o2 rfl r2
      have a3' : rowOf nms as (nms.getD o3.toNat "") = r3' := val 3 o3 rfl r3
      have hdue := deep_due (a := rowOf nms as) (k0 := nms.getD o0.toNat "") (k1 := nms.getD o1.toNat "") (k2 := nms.getD o2.toNat "") (k3 := nms.getD o3.toNat "") T b (by rw [a0, a1', a2', a3']; exact hb)
      rw [a0] at hdue
      walk_at "v"
      refine v_tupL h29 fun pa H30 n30 e30 h30 => ?_
      walk_at "v"
      refine v_iteB (by with_unfolding_all rfl) ?_
      walk_at "v"
      have fj : Fr (some (g, c)) H H30 := fh.trans (Fr.same fh.good' (f29.to.trans e30))
      have im30 : Imm H23 H30 := im.trans (Imm.of_same (f29.to.trans e30))
      refine ⟨.ref p7, pa, _, nms, as, _, rfl, hfm.imm im30, h30, hdk, hdnames.nodup_iff.mpr hnd, hal, hddp, hdok, hdl, hdue, fun z => ?_, fun H31 e31 => ?_⟩
      · rw [← hdue] at z
        have hbd := deep_bound T ⟨by rw [a1']; exact p1', by rw [a2']; exact p2'⟩ z
        rw [a0, a1', a2', a3'] at hbd
        intro x hx
        obtain ⟨i, hi, hix⟩ := List.mem_iff_getElem.mp hx
        obtain ⟨j, hj, e2⟩ := hys i (.int as[i]) (by rw [List.getElem?_map, List.getElem?_eq_getElem hi]; rfl)
        have e3 := V.int.inj e2
        rw [← hix, e3]
        have hj4 : j < 4 := (List.getElem?_eq_some_iff.mp hj).1
        have : j = 0 ∨ j = 1 ∨ j = 2 ∨ j = 3 := by omega
        rcases this with rfl | rfl | rfl | rfl
        · exact hbd.1
        · exact hbd.2.1
        · exact hbd.2.2.1
        · exact hbd.2.2.2
      walk_at "v"
      have s31 : Same H'' H31 := (f29.to.trans e30).trans e31
      have fk : Fr (some (g, c)) H H31 := fh.trans (Fr.same fh.good' s31)
      have im31 : Imm H23 H31 := im.trans (Imm.of_same s31)
      have ho31 := s31 _ _ ho
      have hr31 := s31 _ _ hrow
      refine ⟨g, c, 4, rfl, fk.good', by decide, by decide, fun at' H32 hat0 hat1 f32 => ?_⟩
      have hr32 := f32.lst opr hr31
      have hat2 : at'.toNat < 4 := by omega
      walk_at "v"
      refine v_ixL (v := .int (([r0', r1', r2', r3'] : List Int).getD at'.toNat 0)) (SqL.of hr32) (atI_int hat0 (by
          rw [List.getElem?_map]
          simp [List.getD, hat2])) ?_
      walk_at "v"
      refine v_dl fun lp H33 n33 e33 h33 => ?_
      walk_at "v"
      have fl := (fk.trans f32).trans (Fr.same f32.good' e33)
      have olp : Off (some (g, c)) lp := Off.new f32.good' n33
      refine ⟨g, c, lp, _, rfl, fl.good', h33, olp.1, olp.2, List.cons_ne_nil _ _, by simp, fun i5 v5 H34 hi5 f34 => ?_⟩
      obtain ⟨dv, rfl⟩ : ∃ dv : Int, v5 = .int dv := by
        have hv := List.mem_of_getElem? hi5
        simp only [List.mem_cons, List.not_mem_nil, or_false] at hv
        rcases hv with rfl | rfl | rfl | rfl
        all_goals exact ⟨_, rfl⟩
      walk_at "v"
      have hr34 := f34.lst opr (e33 _ _ hr32)
      have ho34 := f34.lst opo (e33 _ _ (f32.lst opo ho31))
      have im34 : Imm H23 H34 := im31.trans ((f32.imm.trans (Imm.of_same e33)).trans f34.imm)
      have fm34 := fl.trans f34
      obtain ⟨nv, hnv, hnv0⟩ : ∃ nv : Int, nv = (if ([r0', r1', r2', r3'] : List Int).getD at'.toNat 0 + dv > 0 then ([r0', r1', r2', r3'] : List Int).getD at'.toNat 0 + dv else 0) ∧ 0 ≤ nv := by
        refine ⟨_, rfl, ?_⟩
        split <;> omega
      rw [← hnv]
      refine v_setL hr34 (ixN_of hat0 (by rw [List.length_map]; exact hat2)) ?_
      have hpos' : ∀ x ∈ ([r0', r1', r2', r3'] : List Int).set at'.toNat nv, 0 ≤ x := mem_set hpos hnv0
      have hl' : (([r0', r1', r2', r3'] : List Int).set at'.toNat nv).length = 4 := by rw [List.length_set]; rfl
      have f35 := fm34.mut (o := .lst ((([r0', r1', r2', r3'] : List Int).map V.int).set at'.toNat (.int nv))) nr
      have im35 : Imm H23 (upd H34 pr (.lst ((([r0', r1', r2', r3'] : List Int).map V.int).set at'.toNat (.int nv)))) := im34.trans (Imm.mutL hr34)
      have ho35 : upd H34 pr (.lst ((([r0', r1', r2', r3'] : List Int).map V.int).set at'.toNat (.int nv))) po = some (.lst ([o0, o1, o2, o3].map V.int)) := by rw [upd_ne hpo]; exact ho34
      have hr35 : upd H34 pr (.lst ((([r0', r1', r2', r3'] : List Int).map V.int).set at'.toNat (.int nv))) pr = some (.lst ((([r0', r1', r2', r3'] : List Int).set at'.toNat nv).map V.int)) := by rw [upd_same, List.map_set]
      revert f35 im35 ho35 hr35 hpos' hl'
      generalize upd H34 pr (.lst ((([r0', r1', r2', r3'] : List Int).map V.int).set at'.toNat (.int nv))) = H35
      generalize ([r0', r1', r2', r3'] : List Int).set at'.toNat nv = rl2
      intro hpos' hl' f35 im35 ho35 hr35
      walk_at "v"
      refine v_dec (fun c1 => ?_) (fun c1 => ?_)
      · walk_at "v"
        refine ⟨g, c, 3, rfl, f35.good', by decide, by decide, fun k3' H36 hk30 hk31 f36 => ?_⟩
        have hr36 := f36.lst opr hr35
        have ho36 := f36.lst opo ho35
        walk_at "v"
        refine v_dec (fun c2 => ?_) (fun c2 => ?_)
        · have hat3 : at'.toNat < rl2.length := by omega
          walk_at "v"
          refine v_ixL (v := .int (rl2.getD at'.toNat 0)) (SqL.of hr36) (atI_int hat0 (by
            rw [List.getElem?_map]
            simp [List.getD, hat3])) ?_
          walk_at "v"
          refine v_setL hr36 (ixN_of (by omega) (by rw [List.length_map]; omega)) ?_
          refine ⟨_, _, _, _, _, rl2.set (5 - at').toNat (rl2.getD at'.toNat 0), rfl, (f35.trans f36).mut nr, (im35.trans f36.imm).trans (Imm.mutL hr36), by rw [upd_ne hpo]; exact ho36, by rw [upd_same, List.map_set], by rw [List.length_set]; exact hl', mem_set hpos' (getD_nonneg hpos' _)⟩
        · walk_at "v"
          exact ⟨_, _, _, _, _, rl2, rfl, f35.trans f36, im35.trans f36.imm, ho36, hr36, hl', hpos'⟩
      · walk_at "v"
        exact ⟨_, _, _, _, _, rl2, rfl, f35, im35, ho35, hr35, hl', hpos'⟩
  · obtain ⟨t12, t13, t14, t15, t16, rl, rfl, fh, im, ho, hrow, hrl, hpos⟩ := q0
    walk_at "v"
    exact q H'
end
end K14

/-! ## K14law -/
set_option Elab.async false
set_option linter.all false
set_option maxRecDepth 100000
set_option maxHeartbeats 8000000
namespace K14
open PySem PySem.Spec PyProof.Rows L2 AK
local macro_rules | `(tactic| walk_at "look") => `(tactic| first
  | assumption
  | with_reducible exact Fr.tup (by assumption) (by walk_at "look")
  | with_reducible exact Same.tup (by assumption) (by walk_at "look")
  | with_reducible exact FrmV.imm (Fr.imm (by assumption)) (by walk_at "look")
  | with_reducible exact FrmV.imm (Imm.of_same (by assumption)) (by walk_at "look")
  | with_reducible exact FrmL.imm (Fr.imm (by assumption)) (by walk_at "look")
  | with_reducible exact FrmL.imm (Imm.of_same (by assumption)) (by walk_at "look"))
local macro_rules | `(tactic| walk_at "v") => `(tactic| repeat (first
  | (with_reducible first
    | refine v_seq ?_ | refine v_next ?_ | refine v_set ?_ | refine v_ret ?_ | refine v_retN ?_ | refine v_drop ?_ | refine v_brk ?_ | refine v_if ?_
    | refine v_c ?_ | refine v_op ?_ | refine v_un ?_ | refine v_nil ?_ | refine v_cons ?_ | refine v_cb ?_ | refine v_call ?_ | refine v_test ?_ | refine v_tB ?_ | refine v_bl ?_
    | refine v_and ?_ | refine v_or ?_ | refine v_not ?_ | refine v_andV ?_ | refine v_orV ?_ | refine v_notV ?_ | refine v_ifE ?_ | refine v_true ?_ | refine v_false ?_ | refine v_ntrue ?_ | refine v_nfalse ?_
    | refine v_I0 ?_ | refine v_U ?_ | refine v_par ?_ | refine v_par2 ?_ | refine v_isII ?_ | refine v_isIB ?_ | refine v_lc ?_ | refine v_itup ?_ | refine v_ilist ?_
    | refine v_abs ?_ | refine v_max2 ?_ | refine v_int ?_ | refine v_intB ?_ | refine v_isN ?_ | refine v_notN ?_ | refine v_sl ?_ | refine v_np ?_ | refine v_pt ?_ | refine v_pi ?_ | refine v_bm ?_ | refine v_bm0 ?_ | refine v_revL ?_ | refine v_tup ?_ | refine v_lst ?_ | refine v_lc2 ?_ | refine v_dgetS ?_ | refine v_dc ?_ | refine v_zip ?_ | refine v_for ?_ | refine v_irng ?_ | refine v_asg ?_ | refine v_gsub ?_ | refine v_dnew ?_ | refine v_dput0 ?_ | refine v_din0 ?_ | refine v_dget20 ?_ | refine v_irng2 ?_ | refine v_par3 ?_ | refine v_par33 ?_ | refine v_m1 ?_)
  | ((with_reducible refine' v_var ?h ?_); (case h => with_unfolding_all rfl))
  | ((with_reducible refine v_eq ?h ?_); (case h => with_unfolding_all rfl))
  | ((with_reducible refine v_ne ?h ?_); (case h => with_unfolding_all rfl))
  | ((with_reducible refine' v_ixT ?h ?e ?_); (case h => exact SqT.of (by walk_at "look")); (case e => with_unfolding_all rfl))
  | ((with_reducible refine' v_ixL ?h ?e ?_); (case h => exact SqL.of (by assumption)); (case e => with_unfolding_all rfl))))

abbrev s_law : Stmt := topS 26
abbrev n_law : List Str := ["_law_script", "_law_heap_here", "_law_names_here", "_law_formula_here", "_law_zero", "_law_ways", "_law_known_here", "_law_most", "_law_rows", "_law_low", "_law_turn", "_law_near", "_law_due", "_law_way", "_law_great", "_law_other", "_law_item"]
abbrev p_law : List Str := ["_law_script"]
theorem sc_law : FnScope n_law p_law (defScope s_law) := ⟨rfl, rfl, rfl, by decide +kernel, rfl, by decide +kernel, by decide +kernel⟩
section
variable {P : Program} {w : World} {K : PySem.W.Frag} {mg : Str → Option Value} {base : Heap} {f : Addr} {fd : FuncData}
def sp_law (K : PySem.W.Frag) : Sp := fun vs H Q _ => ∃ (a : Addr) (ns : List Int), vs = [.ref a] ∧ SqL K H a (ns.map V.int) ∧ ns.length ≤ 63 ∧ ∀ H', Q (.bl true) H'
def gK : List Value → List Value → List Value := fun _ ws => [ws.getD 1 .none, ws.getD 0 .none]
def gKV : List V → List V → List V := fun _ zs => [zs.getD 1 .non, zs.getD 0 .non]
theorem ok_law (F : Fun K "law" "law" s_law f fd) (B : Bt mg) (h_law_heap : Fn P w K mg base 1 "_law_heap" p__law_heap (sp_heap K)) (h_law_draw : Fn P w K mg base 1 "_law_draw" p__law_draw sp_draw) (h_law_pick : Fn P w K mg base 2 "_law_pick" p__law_pick sp_pick)
    (h_law_names : Fn P w K mg base 3 "_law_names" p__law_names sp_names) (h_law_mixed : Fn P w K mg base 2 "_law_mixed" p__law_mixed sp_mixed) (h_law_formula : Fn P w K mg base (11 + 2) "_law_formula" p__law_formula (sp_formula 11))
    (h_law_laid : Fn P w K mg base (11 + 1) "_law_laid" p__law_laid (sp_laid 11)) (h_law_known : Fn P w K mg base 2 "_law_known" p__law_known sp_known) (h_law_shared : Fn P w K mg base (11 + 6) "_law_shared" p__law_shared (sp_shared 11))
    (h_share : Fn P w K mg base (11 + 2) "share" p_share (sp_share 11)) (hk_share : FnK P w K mg base (11 + 2) "share" p_share ["amounts", "formula"] gK gKV (sp_share 11)) (h_law_turned : Fn P w K mg base 2 "_law_turned" p__law_turned sp_turned)
    (h_law_beside : Fn P w K mg base 1 "_law_beside" p__law_beside sp_beside) (h_law_deep_right : Fn P w K mg base 100 "_law_deep_right" p__law_deep_right sp_deep) : FnOk P w K mg base CX0 101 f fd p_law (sp_law K) := by
  refine F.ok sc_law (fun vs H Q E h => ?_) (fun cdv A outer s H vs Q E hr h => ?_)
  · obtain ⟨a, ns, rfl, _⟩ := h; rfl
  obtain ⟨a, ns, rfl, ha, hl, q⟩ := h
  have hu := hu_of hr
  refine ⟨_, (pss_cons (ps_set (i := 1) sc_law.nd rfl (Or.inl rfl) (cal h_law_heap hr (pa_cons (pv 0) pa_nil)))
(pss_cons (ps_set (i := 2) sc_law.nd rfl (Or.inl rfl) (cal h_law_names hr (pa_cons (pv 1) (pa_cons (cal h_law_pick hr (pa_cons (pv 1) (pa_cons (pe_lst (pa_cons pe_int (pa_cons pe_int (pa_cons pe_int (pa_cons pe_int (pa_cons pe_int (pa_cons pe_int (pa_cons pe_int (pa_cons pe_int (pa_cons pe_int (pa_cons (pe_op op_add pe_int (cal h_law_draw hr (pa_cons (pv 1) (pa_cons pe_int pa_nil)))) pa_nil))))))))))) pa_nil))) pa_nil))))
(pss_cons (ps_asg (pe_tup (pa_cons (cal h_law_formula hr (pa_cons (pv 1) (pa_cons (cal h_law_mixed hr (pa_cons (pv 1) (pa_cons (pv 2) pa_nil))) (pa_cons (pe_ifExp (pt_cmpR op_lt (cb bt_len (crLen (K := K) rfl) B.len (pa_cons (pv 2) pa_nil)) pe_int (nomark _)) pe_int pe_int) pa_nil)))) (pa_cons (pe_op (op_rep1 (K := K) rfl) (pe_tup (pa_cons pe_int pa_nil)) (cb bt_len (crLen (K := K) rfl) B.len (pa_cons (pv 2) pa_nil))) pa_nil))) (pgT (K := K) (n := 2) rfl rfl (pgs_cons (pg_name (i := 3) sc_law.nd rfl (.inr rfl)) (pgs_cons (pg_name (i := 4) sc_law.nd rfl (Or.inl rfl)) pgs_nil))))
(pss_cons (ps_set (i := 5) sc_law.nd rfl (Or.inl rfl) (cal h_law_laid hr (pa_cons (pv 3) (pa_cons (pv 2) pa_nil))))
(pss_cons (ps_asg (cal h_law_known hr (pa_cons (pv 5) (pa_cons (pv 4) pa_nil))) (pgT (K := K) (n := 2) rfl rfl (pgs_cons (pg_name (i := 6) sc_law.nd rfl (.inr rfl)) (pgs_cons (pg_name (i := 7) sc_law.nd rfl (.inr rfl)) pgs_nil))))
(pss_cons (ps_if (PW.pt (pw_or (pt_cmpR op_isN1 (pv 6) pe_non (nomark _)) (pw_or1 (pt_not (pt_val (cb bt_all (crAll (K := K) rfl rfl) B.all (pa_cons (pe_lc (own := [("_law_item", 16)]) (g := gName 16) rfl sc_law.nd (piL (K := K) rfl (ct bt_list (crListT (K := K) rfl rfl) B.list (pa_cons (pv 6) pa_nil))) (blkOk_by (own := [("_law_item", 16)]) (N := n_law) (sc := defScope s_law) (by decide +kernel)) (fun _ _ _ _ _ => (pg_name (i := 16) sc_law.nd rfl (Or.inl rfl))) (fun _ _ _ _ _ => pts_nil) (fun _ _ _ _ _ => (cal h_law_shared hr (pa_cons (pv 3) (pa_cons (pv 16) (pa_cons (pe_dget hu (pv 6) (pv 16) (fun _ _ => rfl)) pa_nil)))))) pa_nil)))))))
(pss_one (ps_ret pe_bl))
pss_nil)
(pss_cons (ps_set (i := 8) sc_law.nd rfl (Or.inl rfl) (cb bt_sorted (crSortVec (K := K) rfl) B.sorted (pa_cons (ct bt_list (crListT (K := K) rfl rfl) B.list (pa_cons (pv 5) pa_nil)) pa_nil)))
(pss_cons (ps_if (PW.pt (pw_or (pt_cmpR op_ne (calK hk_share hr (pk_cons (pe_ix (ixL (K := K) rfl) (pv 8) pe_int (fun _ _ => rfl)) (pk_cons (pv 3) pk_nil))) pe_int (nomark _)) (pw_or1 (pt_cmpR op_ne (cal h_share hr (pa_cons (pv 3) (pa_cons (pv 4) pa_nil))) pe_int (nomark _)))))
(pss_one (ps_ret pe_bl))
pss_nil)
(pss_cons (ps_setLc (i := 9) (own := [("_law_item", 16)]) (g := gName 16) rfl sc_law.nd rfl rfl (sw_true rfl rfl rfl (by decide +kernel)) (piL (K := K) rfl (cb bt_sorted (crSortVec (K := K) rfl) B.sorted (pa_cons (ct bt_list (crListT (K := K) rfl rfl) B.list (pa_cons (pv 6) pa_nil)) pa_nil))) (blkOk_by (own := [("_law_item", 16)]) (N := n_law) (sc := defScope s_law) (by decide +kernel)) (fun _ _ _ _ _ => (pg_name (i := 16) sc_law.nd rfl (Or.inl rfl))) (fun _ _ _ _ _ => pts_one (pt_cmpR op_lt (pe_dget hu (pv 6) (pv 16) (fun _ _ => rfl)) (pv 7) (nomark _))) (fun _ _ _ _ _ => (pv 16)))
(pss_cons (ps_for PassesOwn.never rfl (pi_range1 rfl B.range (pa_cons pe_int pa_nil)) (pg_name (i := 10) sc_law.nd rfl (Or.inl rfl))
(pss_cons (ps_set (i := 11) sc_law.nd rfl (Or.inl rfl) (cal h_law_turned hr (pa_cons (pv 1) (pa_cons (cal h_law_pick hr (pa_cons (pv 1) (pa_cons (pv 9) pa_nil))) pa_nil))))
(pss_cons (ps_par (i := 12) (j := 13) rfl sc_law.nd rfl rfl (by decide) rfl rfl (pa_cons (pe_dget2 hu (pv 6) (pv 11) pe_non ⟨by rfl, by rfl, by rfl, by rfl⟩) (pa_cons (cal h_law_pick hr (pa_cons (pv 1) (pa_cons (pv 8) pa_nil))) pa_nil)) rfl)
(pss_cons (ps_if (pt_not (pt_val (cal h_law_shared hr (pa_cons (pv 3) (pa_cons (pv 11) (pa_cons (pv 12) pa_nil))))))
(pss_one (ps_ret pe_bl))
pss_nil)
(pss_cons (ps_set (i := 14) sc_law.nd rfl (Or.inl rfl) (pe_op op_sub (cal h_law_pick hr (pa_cons (pv 1) (pa_cons (pe_lst (pa_cons pe_int (pa_cons (pe_op op_pow pe_int pe_int) (pa_cons (pe_op op_pow pe_int pe_int) (pa_cons (pe_op op_pow pe_int pe_int) pa_nil))))) pa_nil))) (cal h_law_draw hr (pa_cons (pv 1) (pa_cons pe_int pa_nil)))))
(pss_cons (ps_if (pt_not (pt_val (cal h_law_shared hr (pa_cons (pv 3) (pa_cons (cal h_law_beside hr (pa_cons (pv 11) (pa_cons (pv 13) (pa_cons (pv 14) pa_nil)))) (pa_cons (pe_ifExp (pt_cmpR op_isN1 (pv 12) pe_non (nomark _)) pe_non (pe_op op_add (pv 12) (pv 14))) pa_nil))))))
(pss_one (ps_ret pe_bl))
pss_nil)
(pss_cons (ps_set (i := 15) sc_law.nd rfl (Or.inl rfl) (cal h_law_pick hr (pa_cons (pv 1) (pa_cons (pv 8) pa_nil))))
(pss_one (ps_if (pt_not (pt_val (cal h_law_shared hr (pa_cons (pv 3) (pa_cons (cal h_law_beside hr (pa_cons (cal h_law_beside hr (pa_cons (pv 4) (pa_cons (pv 13) (pa_cons (pv 14) pa_nil)))) (pa_cons (pv 15) (pa_cons (pv 10) pa_nil)))) (pa_cons (pe_op op_add (pv 14) (pv 10)) pa_nil))))))
(pss_one (ps_ret pe_bl))
pss_nil)))))))))
(pss_one (ps_ret (cal h_law_deep_right hr (pa_cons (pv 1) pa_nil)))))))))))))), ?_⟩
  walk_at "v"
  refine ⟨a, ns, rfl, ha, hl, fun g c H1 ng nc e1 hg => ?_⟩
  walk_at "v"
  refine ⟨g, c, _, rfl, hg, by decide, by decide, fun k0 H2 hk0 hk0' f2 => ?_⟩
  walk_at "v"
  refine v_dl fun l1 H3 n3 e3 h3 => ?_
  walk_at "v"
  have f3 := f2.trans (Fr.same f2.good' e3)
  have ol1 : Off (some (g, c)) l1 := Off.new f2.good' n3
  refine ⟨g, c, l1, _, rfl, f3.good', h3, ol1.1, ol1.2, List.cons_ne_nil _ _, by simp, fun i v H4 hi f4 => ?_⟩
  obtain ⟨m, rfl, hm⟩ : ∃ m : Int, v = .int m ∧ ((1 ≤ m ∧ m ≤ 4) ∨ (6 ≤ m ∧ m ≤ 8)) := by
    have hv := List.mem_of_getElem? hi
    simp only [List.mem_cons, List.not_mem_nil, or_false] at hv
    rcases hv with rfl | rfl | rfl | rfl | rfl | rfl | rfl | rfl | rfl | rfl
    all_goals first
      | exact ⟨_, rfl, .inl (by decide)⟩
      | exact ⟨_, rfl, .inr (by omega)⟩
  have f14 := f3.trans f4
  walk_at "v"
  refine ⟨g, c, m, rfl, f14.good', by omega, by omega, fun pn nms H5 hnd hsrt hnl n5 f5 h5 => ?_⟩
  have f15 := f14.trans f5
  have opn : Off (some (g, c)) pn := Off.new f14.good' n5
  have hn1 : 1 ≤ nms.length := by omega
  have hn8 : nms.length ≤ 8 := by omega
  walk_at "v"
  refine ⟨g, c, pn, _, rfl, f5.good', h5, opn.1, opn.2, by rw [List.length_map]; omega, fun pm ys H6 hperm n6 f6 h6 => ?_⟩
  obtain ⟨mns, rfl, hmp⟩ := perm_map unS (fun _ => rfl) hperm
  walk_at "v"
  refine v_lenL (f6.lst opn h5) ?_
  walk_at "v"
  refine v_iteC ?_
  obtain ⟨r, hr3, er⟩ : ∃ r : Nat, (r = 3 ∧ nms.length ≤ 4 ∨ r = 1) ∧ (if decide (((nms.map V.str).length : Int) < 5) = true then V.int 3 else V.int 1) = V.int (r : Nat) := by
    rw [List.length_map]
    by_cases c : (nms.length : Int) < 5
    · rw [if_pos (decide_eq_true c)]
      exact ⟨3, .inl ⟨rfl, by omega⟩, rfl⟩
    · rw [if_neg (by rw [decide_eq_false c]; exact Bool.false_ne_true)]
      exact ⟨1, .inr rfl, rfl⟩
  rw [er]
  walk_at "v"
  have f16 := f15.trans f6
  have opm : Off (some (g, c)) pm := Off.new f5.good' n6
  have hml := hmp.length_eq
  refine ⟨g, c, pm, r, mns, rfl, f6.good', h6, opm.1, opm.2, by omega, by omega, by omega, by omega, by omega, fun fv fm H7 f7 hfv hfn hfr hfd hfo => ?_⟩
  walk_at "v"
  refine v_dt (fun t0 H8 n8 e8 h8 => ?_)
  walk_at "v"
  have h58 := e8 _ _ (f7.lst opn (f6.lst opn h5))
  refine v_lenL h58 ?_
  refine v_rep1 h8 (List.cons_ne_nil _ _) (by rw [List.length_map]; omega) (by rw [List.length_map]; omega) (by simp) fun pz H9 e9 h9 => ?_
  rw [List.length_map, rep0] at h9
  walk_at "v"
  refine v_dt (fun t1 H10 n10 e10 h10 => ?_)
  refine v_gT2 h10 ?_
  refine v_gname ?_
  refine v_gname ?_
  have hp : fm.names.Perm nms := by rw [hfn]; exact hmp
  have hnml : fm.names.length = nms.length := hp.length_eq
  have s810 : Same H7 H10 := (e8.trans e9).trans e10
  have f17 : Fr (some (g, c)) H1 H10 := (f16.trans f7).trans (Fr.same f7.good' s810)
  have hfv10 := hfv.imm (Imm.of_same s810)
  have h510 : H10 pn = some (.lst (nms.map V.str)) := (e9.trans e10) _ _ h58
  have hz10 := e10 _ _ h9
  have hkinds : Kinds fm nms := ⟨hp.symm, hsrt⟩
  have hfnd : fm.names.Nodup := hp.nodup_iff.mpr hnd
  walk_at "v"
  refine ⟨fv, pn, fm, nms, r, rfl, hfv10, h510, hn1, by omega, hfd, hfr, ?_, fun pw H11 n11 e11 h11 => ?_⟩
  · rw [hnml]
    rcases hr3 with ⟨rfl, h⟩ | rfl <;> omega
  walk_at "v"
  have hWne := Fm.laid_ne nms fm hfr
  have hW500 : (fm.laid nms).length ≤ 500 := Fm.laid_500 nms hfr (by rw [hnml]; rcases hr3 with ⟨rfl, h⟩ | rfl <;> omega)
  have hWrows := Fm.laid_rows nms fm
  have hU := uniq_laid hnd hp hfo
  refine ⟨pw, pz, fm.laid nms, zeroV nms.length, nms.length, rfl, h11, e11 _ _ hz10, hWrows, zeroV_len _, by omega, hWne, hW500, hU, fun pt pk most H12 hm1 hm3 e12 h12 n12 hk12 hkl => ?_⟩
  walk_at "v"
  refine v_gT2 h12 ?_
  refine v_gname ?_
  refine v_gname ?_
  walk_at "v"
  refine v_dec (fun c => (by cases c)) (fun _ => ?_)
  walk_at "v"
  -- the items of a list of known rows
  have item : ∀ (x : Vec) (j : Int), (x, j) ∈ knownL (zeroV nms.length) (fm.laid nms) most → ∃ i : Nat, i ≤ most ∧ j = (i : Int) ∧ x ∈ powL (zeroV nms.length) (fm.laid nms) i ∧ x.length = nms.length ∧ (∀ y ∈ x, 0 ≤ y) ∧ fm.share (rowOf nms x) = some (i : Int) ∧ lookI (knownL (zeroV nms.length) (fm.laid nms) most) x = some (i : Int) := fun x j hm => by
    obtain ⟨i, h1, h2, h3⟩ := mem_knownL.mp hm
    have lx := powL_rows (zeroV_len nms.length) hWrows i x h3
    obtain ⟨h4, h5⟩ := (Fm.known_iff hnd hp hfo lx i).mp h3
    exact ⟨i, h1, h2, h3, lx, h4, h5, lookI_known hU h1 h3⟩
  have s1012 : Same H10 H12 := e11.trans e12
  have f18 : Fr (some (g, c)) H1 H12 := f17.trans (Fr.same f17.good' s1012)
  have hfv12 := hfv10.imm (Imm.of_same s1012)
  have h512 := s1012 _ _ h510
  have hz12 := s1012 _ _ hz10
  have hw12 := e12 _ _ h11
  refine v_listD hk12 fun pq bs H13 n13 e13 h13 hbl hbs => ?_
  walk_at "v"
  refine v_lcLF none h13 trivial trivial (fun _ => .bl true) (by omega) (fun _ => rfl) (fun b H14 Qn hb f14' qn => ?_) (fun D H14 hD f14' h14 => ?_)
  · obtain ⟨i, hi, hib⟩ := List.mem_iff_getElem.mp hb
    obtain ⟨⟨x, j⟩, hq1, hq2⟩ := hbs i b (List.getElem?_eq_some_iff.mpr ⟨hi, hib⟩)
    obtain ⟨i', h1, rfl, h3, h4, h5, h6, h7⟩ := item x j (List.mem_of_getElem? hq1)
    have hk14 := f14'.dT (e13 _ _ hk12)
    have hb14 := f14'.tup hq2
    walk_at "v"
    refine ⟨pk, .int (i' : Int), rfl, dgetT hk14 hb14 h7, ?_⟩
    walk_at "v"
    refine ⟨fv, b, fm, nms, x, some (i' : Int), rfl, hfv12.imm ((Imm.of_same e13).trans f14'.imm), hb14, hkinds, hfnd, h4, hfd, hfo, by omega, h6, fun z => ?_, fun H15 e15 => ?_⟩
    · have : i' = 1 := by have := Option.some.inj z; omega
      subst this
      exact way_bound hnd hp hfo hfr (by omega) h3
    · exact qn H15 (Fr.same trivial e15)
  walk_at "v"
  refine v_allT h14 ?_
  walk_at "v"
  have s1214 : Same H12 H14 := e13.trans f14'.to
  have hw14 := s1214 _ _ hw12
  refine v_listS hw14 fun pq2 cs H15 n15 e15 h15 hcl hcs => ?_
  walk_at "v"
  have hcs2 : ∀ t ∈ cs, ∃ y ∈ fm.laid nms, H15 t = some (.tup (y.map V.int)) := fun t ht => by
    obtain ⟨i, hi, hib⟩ := List.mem_iff_getElem.mp ht
    obtain ⟨y, h1, h2⟩ := hcs i t (List.getElem?_eq_some_iff.mpr ⟨hi, hib⟩)
    exact ⟨y, List.mem_of_getElem? h1, h2⟩
  have ne_row : ∀ y : Vec, y.length = nms.length → y ≠ [] := fun y h z => by rw [z] at h; simp at h; omega
  refine v_sortVec h15 (fun t ht => by obtain ⟨y, h1, h2⟩ := hcs2 t ht; exact ⟨y, ne_row y (hWrows y h1), h2⟩) fun rs pr H16 hrp n16 e16 h16 => ?_
  have hrs : ∀ t ∈ rs, ∃ y ∈ fm.laid nms, H16 t = some (.tup (y.map V.int)) := fun t ht => by
    obtain ⟨y, h1, h2⟩ := hcs2 t (hrp.mem_iff.mp ht)
    exact ⟨y, h1, e16 _ _ h2⟩
  have hrl : rs.length = (fm.laid nms).length := by rw [hrp.length_eq, hcl]
  have hr1 : 1 ≤ rs.length := by rw [hrl]; exact List.length_pos_iff.mpr hWne
  obtain ⟨t0', rs', rfl⟩ := List.exists_cons_of_ne_nil (show rs ≠ [] from fun z => by rw [z] at hr1; exact absurd hr1 (by decide))
  have s1216 : Same H12 H16 := (s1214.trans e15).trans e16
  have hfv16 := hfv12.imm (Imm.of_same s1216)
  have hz16 := s1216 _ _ hz12
  walk_at "v"
  refine v_callK0 ?_
  obtain ⟨y0, hy0, ht0⟩ := hrs t0' (.head _)
  have ly0 := hWrows y0 hy0
  have sy0 := ((Fm.known_iff hnd hp hfo ly0 1).mp (way_one hy0)).2
  walk_at "v"
  refine v_ixL (v := .ref t0') (SqL.of h16) (atI_int (k := 0) (by decide) rfl) ?_
  walk_at "v"
  refine ⟨rfl, fv, t0', fm, nms, y0, rfl, hfv16, ht0, hkinds, hfnd, ly0, hfd, hfo, by omega, fun H17 e17 => ?_⟩
  rw [sy0]
  walk_at "v"
  refine v_ndec (fun c => absurd rfl c) (fun _ => ?_)
  walk_at "v"
  have hzp : zeroV nms.length ∈ powL (zeroV nms.length) (fm.laid nms) 0 := by rw [powL]; exact .head _
  have sz := ((Fm.known_iff hnd hp hfo (zeroV_len _) 0).mp hzp).2
  refine ⟨fv, pz, fm, nms, zeroV nms.length, rfl, hfv16.imm (Imm.of_same e17), e17 _ _ hz16, hkinds, hfnd, zeroV_len _, hfd, hfo, by omega, fun H18 e18 => ?_⟩
  rw [sz]
  walk_at "v"
  refine v_ndec (fun c => absurd rfl c) (fun _ => ?_)
  walk_at "v"
  have s1218 : Same H12 H18 := (s1216.trans e17).trans e18
  have hk18 := s1218 _ _ hk12
  refine v_listD hk18 fun pq3 ds H19 n19 e19 h19 hdl hds => ?_
  have hds2 : ∀ t ∈ ds, ∃ (x : Vec) (i : Nat), i ≤ most ∧ x ∈ powL (zeroV nms.length) (fm.laid nms) i ∧ x.length = nms.length ∧ (∀ y ∈ x, 0 ≤ y) ∧ lookI (knownL (zeroV nms.length) (fm.laid nms) most) x = some (i : Int) ∧ H19 t = some (.tup (x.map V.int)) := fun t ht => by
    obtain ⟨k, hi, hib⟩ := List.mem_iff_getElem.mp ht
    obtain ⟨⟨x, j⟩, hq1, hq2⟩ := hds k t (List.getElem?_eq_some_iff.mpr ⟨hi, hib⟩)
    obtain ⟨i', h1, rfl, h3, h4, h5, h6, h7⟩ := item x j (List.mem_of_getElem? hq1)
    exact ⟨x, i', h1, h3, h4, h5, h7, hq2⟩
  have hzd : ∃ t ∈ ds, H19 t = some (.tup ((zeroV nms.length).map V.int)) := by
    obtain ⟨k, hk, hk2⟩ := List.mem_iff_getElem.mp (mem_knownL.mpr ⟨0, Nat.zero_le _, rfl, hzp⟩ : (zeroV nms.length, ((0 : Nat) : Int)) ∈ knownL (zeroV nms.length) (fm.laid nms) most)
    have hk3 : k < ds.length := by rw [hdl]; exact hk
    obtain ⟨q, hq1, hq2⟩ := hds k ds[k] (List.getElem?_eq_getElem hk3)
    rw [List.getElem?_eq_getElem hk, hk2] at hq1
    rw [← Option.some.inj hq1] at hq2
    exact ⟨ds[k], List.getElem_mem hk3, hq2⟩
  walk_at "v"
  refine v_sortVec h19 (fun t ht => by obtain ⟨x, i, _, _, h4, _, _, h8⟩ := hds2 t ht; exact ⟨x, ne_row x h4, h8⟩) fun ls pl0 H20 hlp n20 e20 h20 => ?_
  have hls : ∀ t ∈ ls, ∃ (x : Vec) (i : Nat), i ≤ most ∧ x ∈ powL (zeroV nms.length) (fm.laid nms) i ∧ x.length = nms.length ∧ (∀ y ∈ x, 0 ≤ y) ∧ lookI (knownL (zeroV nms.length) (fm.laid nms) most) x = some (i : Int) ∧ H20 t = some (.tup (x.map V.int)) := fun t ht => by
    obtain ⟨x, i, h1, h2, h3, h4, h5, h6⟩ := hds2 t (hlp.mem_iff.mp ht)
    exact ⟨x, i, h1, h2, h3, h4, h5, e20 _ _ h6⟩
  have hk20 := (e19.trans e20) _ _ hk18
  have hlsl : ls.length ≤ 2000 := by rw [hlp.length_eq, hdl]; exact hkl
  walk_at "v"
  refine v_lcLP none h20 trivial trivial (fun b => decide (valAt H20 (knownL (zeroV nms.length) (fm.laid nms) most) b < (most : Int))) V.ref (by omega) (fun _ => rfl) (fun b H21 Qt hb f21 qt => ?_) (fun b H21 Qn hb _ f21 qn => ?_) (fun pl H21 hD f21 h21 => ?_)
  · obtain ⟨x, i, h1, h2, h3, h4, h5, h6⟩ := hls b hb
    walk_at "v"
    refine ⟨pk, .int (i : Int), rfl, dgetT (f21.dT hk20) (f21.tup h6) h5, ?_⟩
    walk_at "v"
    have e := qt _ (Fr.refl trivial)
    rw [valAt_of h6 h5] at e
    exact e
  · walk_at "v"
    exact qn _ (Fr.refl trivial)
  have s1221 : Same H12 H21 := ((s1218.trans e19).trans e20).trans f21.to
  have f1_21 : Fr (some (g, c)) H1 H21 := f18.trans (Fr.same f18.good' s1221)
  -- what the loop keeps
  have hlow : ∀ t ∈ ls.filter (fun b => decide (valAt H20 (knownL (zeroV nms.length) (fm.laid nms) most) b < (most : Int))), ∃ (x : Vec) (i : Nat), i < most ∧ x ∈ powL (zeroV nms.length) (fm.laid nms) i ∧ x.length = nms.length ∧ (∀ y ∈ x, 0 ≤ y) ∧ H21 t = some (.tup (x.map V.int)) := fun t ht => by
    obtain ⟨h1, h2⟩ := List.mem_filter.mp ht
    obtain ⟨x, i, h3, h4, h5, h6, h7, h8⟩ := hls t h1
    have h9 := of_decide_eq_true h2
    rw [valAt_of h8 h7] at h9
    exact ⟨x, i, by omega, h4, h5, h6, f21.tup h8⟩
  have hlne : ls.filter (fun b => decide (valAt H20 (knownL (zeroV nms.length) (fm.laid nms) most) b < (most : Int))) ≠ [] := by
    obtain ⟨t, h1, h2⟩ := hzd
    refine List.ne_nil_of_mem (List.mem_filter.mpr ⟨hlp.mem_iff.mpr h1, decide_eq_true ?_⟩)
    rw [valAt_of (e20 _ _ h2) (lookI_known hU (Nat.zero_le most) hzp)]
    omega
  have hll : (ls.filter (fun b => decide (valAt H20 (knownL (zeroV nms.length) (fm.laid nms) most) b < (most : Int)))).length ≤ 2000 := Nat.le_trans (List.length_filter_le _ _) hlsl
  revert hlow hlne hll h21
  generalize ls.filter (fun b => decide (valAt H20 (knownL (zeroV nms.length) (fm.laid nms) most) b < (most : Int))) = lows
  intro h21 hlow hlne hll
  have s1621 : Same H16 H21 := ((((e17.trans e18).trans e19).trans e20).trans f21.to)
  have hpr21 := s1621 _ _ h16
  have hrs21 : ∀ t ∈ t0' :: rs', ∃ y ∈ fm.laid nms, H21 t = some (.tup (y.map V.int)) := fun t ht => by
    obtain ⟨y, h1, h2⟩ := hrs t ht
    exact ⟨y, h1, s1621 _ _ h2⟩
  have opr : Off (some (g, c)) pr := Off.new f18.good' (((s1214.trans e15)).free n16)
  have opl : Off (some (g, c)) pl := Off.new f18.good' (((s1218.trans e19).trans e20).free hD)
  have hfv21 := hfv12.imm (Imm.of_same s1221)
  have hz21 := s1221 _ _ hz12
  have hk21 := s1221 _ _ hk12
  walk_at "v"
  have good21 : Good (some (g, c)) H21 := f1_21.good'
  have row : ∀ {H' : Hp} {i : Nat} {v : V}, Fr (some (g, c)) H21 H' → ((t0' :: rs').map V.ref)[i]? = some v → ∃ (t : Addr) (y : Vec), v = .ref t ∧ y ∈ fm.laid nms ∧ y.length = nms.length ∧ H' t = some (.tup (y.map V.int)) := fun {H' i v} fr hi => by
    rw [List.getElem?_map] at hi
    obtain ⟨t, h1, h2⟩ := Option.map_eq_some_iff.mp hi
    obtain ⟨y, h3, h4⟩ := hrs21 t (List.mem_of_getElem? h1)
    exact ⟨t, y, h2.symm, h3, hWrows y h3, fr.tup h4⟩
  have hrl2 : ((t0' :: rs').map V.ref).length ≤ 1000000 := by rw [List.length_map, hrl]; omega
  refine v_forR (by decide) (by decide) (fun i σ H' => ∃ (t10 t11 t12 t13 t14 t15 : Option V), σ = [some (.ref a), some (.ref g), some (.ref pn), some fv, some (.ref pz), some (.ref pw), some (.ref pk), some (.int (most : Nat)), some (.ref pr), some (.ref pl), t10, t11, t12, t13, t14, t15, none] ∧ Fr (some (g, c)) H21 H') ⟨none, none, none, none, none, none, rfl, Fr.refl good21⟩ (fun ti σ H' hti q0 => ?_) (fun σ H' q0 => ?_)
  · obtain ⟨t10, t11, t12, t13, t14, t15, rfl, fa⟩ := q0
    walk_at "v"
    refine ⟨g, c, pl, _, rfl, fa.good', fa.lst opl h21, opl.1, opl.2, fun z => hlne (List.map_eq_nil_iff.mp z), by rw [List.length_map]; omega, fun i1 v1 H22 hi1 f22 => ?_⟩
    rw [List.getElem?_map] at hi1
    obtain ⟨t, hi2, rfl⟩ := Option.map_eq_some_iff.mp hi1
    obtain ⟨x, j, hj, hxp, hxl, hxpos, hxt⟩ := hlow t (List.mem_of_getElem? hi2)
    walk_at "v"
    have fb := fa.trans f22
    refine ⟨g, c, t, x, rfl, fb.good', fb.tup hxt, by omega, by omega, hxpos, fun py y H23 f23 hyt hturn => ?_⟩
    obtain ⟨hyl, hypos, un, hun⟩ := turned_near hxl hn1 hxpos hturn
    have hdue := near_due hnd hp hfo hxp hj hyl hypos hun
    have fc := fb.trans f23
    walk_at "v"
    refine ⟨pk, rfl, isDT (fc.dT hk21), ?_⟩
    walk_at "v"
    refine ⟨_, DGet.t (k := kOf y) (fc.dT hk21) (by rw [kV_kOf]; exact hyt), ?_⟩
    rw [dget2_eq, ← hdue]
    have hd60 : fm.share (rowOf nms y) = some 1 → ∀ z ∈ y, 0 ≤ z ∧ z ≤ 60 := fun e => way_bound hnd hp hfo hfr (by omega) ((Fm.known_iff hnd hp hfo hyl 1).mpr ⟨hypos, e⟩)
    have hd0 : ∀ d, fm.share (rowOf nms y) = some d → 0 ≤ d := fun d e => by
      refine Fm.share_nonneg (fun s => ?_) fm hfo e
      by_cases c : s ∈ nms
      · have := map_rowOf hnd hyl
        exact hypos _ (by rw [← this]; exact List.mem_map.mpr ⟨s, c, by rw [this]⟩)
      · rw [rowOf_out c]; exact Int.le_refl _
    revert hd60 hd0
    generalize hdd : fm.share (rowOf nms y) = due
    intro hd60 hd0
    walk_at "v"
    refine ⟨g, c, pr, _, rfl, fc.good', fc.lst opr hpr21, opr.1, opr.2, List.cons_ne_nil _ _, hrl2, fun i3 v3 H24 hi3 f24 => ?_⟩
    have fd' := fc.trans f24
    obtain ⟨tw, wy, rfl, hwy, hwl, hwt⟩ := row fd' hi3
    have hyt4 := f24.tup hyt
    walk_at "v"
    refine ⟨fv, py, fm, nms, y, due, rfl, hfv21.imm fd'.imm, hyt4, hkinds, hfnd, hyl, hfd, hfo, by omega, hdd, hd60, fun H25 e25 => ?_⟩
    have fe := fd'.trans (Fr.same fd'.good' e25)
    have hyt5 := e25 _ _ hyt4
    have hwt5 := e25 _ _ hwt
    walk_at "v"
    refine v_I ⟨by decide, by decide, by decide⟩ ?_
    walk_at "v"
    refine v_I ⟨by decide, by decide, by decide⟩ ?_
    walk_at "v"
    refine v_I ⟨by decide, by decide, by decide⟩ ?_
    walk_at "v"
    refine v_dl fun lg H26 n26 e26 h26 => ?_
    walk_at "v"
    have olg : Off (some (g, c)) lg := Off.new fe.good' n26
    have ff := fe.trans (Fr.same fe.good' e26)
    refine ⟨g, c, lg, _, rfl, ff.good', h26, olg.1, olg.2, List.cons_ne_nil _ _, by simp, fun i4 v4 H27 hi4 f27 => ?_⟩
    obtain ⟨gr0, rfl, hg1, hg2⟩ : ∃ gr : Int, v4 = .int gr ∧ 60 ≤ gr ∧ gr ≤ 10 ^ 17 := by
      have hv := List.mem_of_getElem? hi4
      simp only [List.mem_cons, List.not_mem_nil, or_false] at hv
      rcases hv with rfl | rfl | rfl | rfl
      · exact ⟨_, rfl, by decide, by decide⟩
      · exact ⟨_, rfl, by decide, by decide⟩
      · exact ⟨_, rfl, by decide, by decide⟩
      · exact ⟨_, rfl, by decide, by decide⟩
    walk_at "v"
    refine ⟨g, c, _, rfl, f27.good', by decide, by decide, fun dr H28 hdr0 hdr1 f28 => ?_⟩
    obtain ⟨gr, egr⟩ : ∃ gr, gr = gr0 - dr := ⟨_, rfl⟩
    have hgr2 : 2 ≤ gr := by omega
    have hgr17 : gr ≤ 10 ^ 17 := by omega
    walk_at "v"
    rw [← egr]
    have fg := (ff.trans f27).trans f28
    have im58 : Imm H25 H28 := (Imm.of_same e26).trans (f27.imm.trans f28.imm)
    refine ⟨py, tw, y, wy, gr, rfl, im58 _ _ hyt5, im58 _ _ hwt5, by omega, by omega, ⟨by omega, by omega⟩, fun pb H29 e29 h29 => ?_⟩
    have hb1 := beside_share hnd hp hfo hyl hwy gr
    have hbl : (addV y (wy.map (gr * ·))).length = nms.length := addV_len hyl (by rw [List.length_map]; exact hwl)
    have fh := fg.trans (Fr.same fg.good' e29)
    walk_at "v"
    refine v_iteO (by with_unfolding_all rfl) (by with_unfolding_all rfl) ?_
    rw [hdd] at hb1
    walk_at "v"
    refine ⟨fv, pb, fm, nms, _, due.map (· + gr), rfl, hfv21.imm fh.imm, h29, hkinds, hfnd, hbl, hfd, hfo, by omega, hb1, fun z => ?_, fun H30 e30 => ?_⟩
    · exfalso
      cases due with
      | none => cases z
      | some dd =>
        have h1 := hd0 dd rfl
        have h2 : dd + gr = 1 := Option.some.inj z
        omega
    have fi := fh.trans (Fr.same fh.good' e30)
    walk_at "v"
    refine ⟨g, c, pr, _, rfl, fi.good', fi.lst opr hpr21, opr.1, opr.2, List.cons_ne_nil _ _, hrl2, fun i5 v5 H31 hi5 f31 => ?_⟩
    have fj := fi.trans f31
    obtain ⟨to, oy, rfl, hoy, hol, hot⟩ := row fj hi5
    have hwt31 : H31 tw = some (.tup (wy.map V.int)) := (((Imm.of_same e29).trans (Imm.of_same e30)).trans f31.imm) _ _ (im58 _ _ hwt5)
    walk_at "v"
    refine ⟨pz, tw, zeroV nms.length, wy, gr, rfl, fj.tup hz21, hwt31, by rw [zeroV_len, hwl], by rw [zeroV_len]; omega, ⟨by omega, by omega⟩, fun pc H32 e32 h32 => ?_⟩
    have hbl2 : (addV (zeroV nms.length) (wy.map (gr * ·))).length = nms.length := addV_len (zeroV_len _) (by rw [List.length_map]; exact hwl)
    have hb2 := beside_share hnd hp hfo (zeroV_len nms.length) hwy gr
    rw [sz] at hb2
    walk_at "v"
    refine ⟨pc, to, _, oy, (ti : Int), rfl, h32, e32 _ _ hot, by rw [hbl2, hol], by rw [hbl2]; omega, ⟨by omega, by omega⟩, fun pe H33 e33 h33 => ?_⟩
    have hb3 := beside_share hnd hp hfo hbl2 hoy (ti : Int)
    rw [hb2] at hb3
    have hbl3 : (addV (addV (zeroV nms.length) (wy.map (gr * ·))) (oy.map ((ti : Int) * ·))).length = nms.length := addV_len hbl2 (by rw [List.length_map]; exact hol)
    have fk := fj.trans (Fr.same fj.good' (e32.trans e33))
    walk_at "v"
    refine ⟨fv, pe, fm, nms, _, some (gr + (ti : Int)), rfl, hfv21.imm fk.imm, h33, hkinds, hfnd, hbl3, hfd, hfo, by omega, ?_, fun z => ?_, fun H34 e34 => ?_⟩
    · rw [hb3]
      show some (((0 : Nat) : Int) + gr + (ti : Int)) = some (gr + (ti : Int))
      congr 1
      omega
    · exfalso
      have h2 : gr + (ti : Int) = 1 := Option.some.inj z
      omega
    walk_at "v"
    exact ⟨_, _, _, _, _, _, rfl, fk.trans (Fr.same fk.good' e34)⟩
  · obtain ⟨t10, t11, t12, t13, t14, t15, rfl, fa⟩ := q0
    walk_at "v"
    exact ⟨g, c, rfl, fa.good', q⟩
end
end K14

/-! ## K14end -/
set_option Elab.async false
set_option linter.all false
set_option maxRecDepth 100000
set_option maxHeartbeats 8000000
namespace K14
open PySem PySem.Spec PyProof.Rows L2 AK
section
variable {P : Program} {w : World} {K : PySem.W.Frag} {mg : Str → Option Value} {base : Heap} {f : Addr} {fd : FuncData}
theorem fn_none {ps : List Str} {sp : Sp} {k : Nat} (no : ∀ vs H Q E, ¬ sp vs H Q E) : FnOk P w K mg base CX0 k f fd ps sp := ⟨fun vs H Q E h => absurd h (no vs H Q E), fun A outer s H args us vs Q E _ _ _ _ h => absurd h (no vs H Q E)⟩
theorem depth_pos : ∀ fm : Fm, 1 ≤ fm.depth
  | .kind _ => by rw [Fm.depth]; exact Nat.le_refl _
  | .many _ f => by rw [Fm.depth]; omega
  | .node _ fs => by rw [Fm.depth]; omega
theorem none_names_in : FnOk P w K mg base CX0 0 f fd p_names_in (sp_names_in 0) := fn_none fun vs H Q E ⟨_, fm, _, _, h, _⟩ => by
  have := depth_pos fm
  omega
theorem none_share_in : FnOk P w K mg base CX0 0 f fd p_share_in (sp_share_in 0) := fn_none fun vs H Q E h => by
  unfold sp_share_in at h
  obtain ⟨_, _, fm, _, _, _, _, _, _, h, _⟩ := h
  have := depth_pos fm
  omega
theorem none_formula : FnOk P w K mg base CX0 (0 + 2) f fd p__law_formula (sp_formula 0) := fn_none fun vs H Q E ⟨_, _, _, _, _, _, _, _, _, _, _, _, h1, _, h2, _⟩ => by omega
theorem none_laid : FnOk P w K mg base CX0 (0 + 1) f fd p__law_laid (sp_laid 0) := fn_none fun vs H Q E ⟨_, _, fm, _, _, _, _, _, _, _, h, _⟩ => by
  have := depth_pos fm
  omega
end
theorem kb_rel {vs : List V} {us : List Value} {zs : List V} {ws : List Value} (r : Vals zs ws) : Vals (gKV vs zs) (gK us ws) := by
  have d : ∀ (zs : List V) (ws : List Value), Vals zs ws → ∀ i : Nat, RelV (zs.getD i .non) (ws.getD i .none) := by
    intro zs ws r
    induction r with
    | nil => intro i; exact rfl
    | cons h t ih =>
      intro i
      cases i with
      | zero => exact h
      | succ i => exact ih i
  exact .cons (d _ _ r 1) (.cons (d _ _ r 0) .nil)
theorem all_mk {l : PySem.W.OpenLaw} {w : World} {K : PySem.W.Frag} {h : Heap} {mg : Str → Option Value} {fa f1 f2 f3 f4 f5 f6 f7 f8 f9 f10 f11 f12 f13 f14 f15 f16 f17 f18 f19 f20 f21 f22 : Addr} (X : K.In h) (G : h.Ns mainGlobals mg) (hfa : mg "law" = some (.ref fa))
    {od1 an1 od2 an2 od3 an3 od4 an4 od5 an5 od6 an6 od7 an7 od8 an8 od9 an9 od10 an10 od11 an11 od12 an12 od13 an13 od14 an14 od15 an15 od16 an16 od17 an17 od18 an18 od19 an19 od20 an20 od21 an21 od22 an22 : Option Addr} {sl1 sl2 sl3 sl4 sl5 sl6 sl7 sl8 sl9 sl10 sl11 sl12 sl13 sl14 sl15 sl16 sl17 sl18 sl19 sl20 sl21 sl22 : Array (Option Value)}
    {oc1 kV1 dc1 pm1 cd1 ct1 oc2 kV2 dc2 pm2 cd2 ct2 oc3 kV3 dc3 pm3 cd3 ct3 oc4 kV4 dc4 pm4 cd4 ct4 oc5 kV5 dc5 pm5 cd5 ct5 oc6 kV6 dc6 pm6 cd6 ct6 oc7 kV7 dc7 pm7 cd7 ct7 oc8 kV8 dc8 pm8 cd8 ct8 oc9 kV9 dc9 pm9 cd9 ct9 oc10 kV10 dc10 pm10 cd10 ct10 oc11 kV11 dc11 pm11 cd11 ct11 oc12 kV12 dc12 pm12 cd12 ct12 oc13 kV13 dc13 pm13 cd13 ct13 oc14 kV14 dc14 pm14 cd14 ct14 oc15 kV15 dc15 pm15 cd15 ct15 oc16 kV16 dc16 pm16 cd16 ct16 oc17 kV17 dc17 pm17 cd17 ct17 oc18 kV18 dc18 pm18 cd18 ct18 oc19 kV19 dc19 pm19 cd19 ct19 oc20 kV20 dc20 pm20 cd20 ct20 oc21 kV21 dc21 pm21 cd21 ct21 oc22 kV22 dc22 pm22 cd22 ct22 : Value} {tM : Tok}
    (a1 : PySem.W.nsIn K mainGlobals "is_integer" = some (some (.ref f1))) (l1 : K.lookup f1 = some ⟨oc1, od1, .func (PySem.W.fnOf "is_integer" "is_integer" (defArgs s_is_integer) (defBody s_is_integer) (defScope s_is_integer) .none kV1 dc1 pm1 an1 cd1 ct1), sl1⟩) (c1 : PySem.W.codeIn K cd1 "is_integer" = true) (k1 : PySem.W.keepIn K (.ref f1) = true)
    (a2 : PySem.W.nsIn K mainGlobals "is_number" = some (some (.ref f2))) (l2 : K.lookup f2 = some ⟨oc2, od2, .func (PySem.W.fnOf "is_number" "is_number" (defArgs s_is_number) (defBody s_is_number) (defScope s_is_number) .none kV2 dc2 pm2 an2 cd2 ct2), sl2⟩) (c2 : PySem.W.codeIn K cd2 "is_number" = true) (k2 : PySem.W.keepIn K (.ref f2) = true)
    (a3 : PySem.W.nsIn K mainGlobals "is_amounts" = some (some (.ref f3))) (l3 : K.lookup f3 = some ⟨oc3, od3, .func (PySem.W.fnOf "is_amounts" "is_amounts" (defArgs s_is_amounts) (defBody s_is_amounts) (defScope s_is_amounts) .none kV3 dc3 pm3 an3 cd3 ct3), sl3⟩) (c3 : PySem.W.codeIn K cd3 "is_amounts" = true) (k3 : PySem.W.keepIn K (.ref f3) = true)
    (a4 : PySem.W.nsIn K mainGlobals "names_in" = some (some (.ref f4))) (l4 : K.lookup f4 = some ⟨oc4, od4, .func (PySem.W.fnOf "names_in" "names_in" (defArgs s_names_in) (defBody s_names_in) (defScope s_names_in) .none kV4 dc4 pm4 an4 cd4 ct4), sl4⟩) (c4 : PySem.W.codeIn K cd4 "names_in" = true) (k4 : PySem.W.keepIn K (.ref f4) = true)
    (a5 : PySem.W.nsIn K mainGlobals "kinds_of" = some (some (.ref f5))) (l5 : K.lookup f5 = some ⟨oc5, od5, .func (PySem.W.fnOf "kinds_of" "kinds_of" (defArgs s_kinds_of) (defBody s_kinds_of) (defScope s_kinds_of) .none kV5 dc5 pm5 an5 cd5 ct5), sl5⟩) (c5 : PySem.W.codeIn K cd5 "kinds_of" = true) (k5 : PySem.W.keepIn K (.ref f5) = true)
    (a6 : PySem.W.nsIn K mainGlobals "share_in" = some (some (.ref f6))) (l6 : K.lookup f6 = some ⟨oc6, od6, .func (PySem.W.fnOf "share_in" "share_in" (defArgs s_share_in) (defBody s_share_in) (defScope s_share_in) .none kV6 dc6 pm6 an6 cd6 ct6), sl6⟩) (c6 : PySem.W.codeIn K cd6 "share_in" = true) (k6 : PySem.W.keepIn K (.ref f6) = true)
    (a7 : PySem.W.nsIn K mainGlobals "share" = some (some (.ref f7))) (l7 : K.lookup f7 = some ⟨oc7, od7, .func (PySem.W.fnOf "share" "share" (defArgs s_share) (defBody s_share) (defScope s_share) .none kV7 dc7 pm7 an7 cd7 ct7), sl7⟩) (c7 : PySem.W.codeIn K cd7 "share" = true) (k7 : PySem.W.keepIn K (.ref f7) = true)
    (a8 : PySem.W.nsIn K mainGlobals "is_way" = some (some (.ref f8))) (l8 : K.lookup f8 = some ⟨oc8, od8, .func (PySem.W.fnOf "is_way" "is_way" (defArgs s_is_way) (defBody s_is_way) (defScope s_is_way) .none kV8 dc8 pm8 an8 cd8 ct8), sl8⟩) (c8 : PySem.W.codeIn K cd8 "is_way" = true) (k8 : PySem.W.keepIn K (.ref f8) = true)
    (a9 : PySem.W.nsIn K mainGlobals "_law_heap" = some (some (.ref f9))) (l9 : K.lookup f9 = some ⟨oc9, od9, .func (PySem.W.fnOf "_law_heap" "_law_heap" (defArgs s__law_heap) (defBody s__law_heap) (defScope s__law_heap) .none kV9 dc9 pm9 an9 cd9 ct9), sl9⟩) (c9 : PySem.W.codeIn K cd9 "_law_heap" = true) (k9 : PySem.W.keepIn K (.ref f9) = true)
    (a10 : PySem.W.nsIn K mainGlobals "_law_draw" = some (some (.ref f10))) (l10 : K.lookup f10 = some ⟨oc10, od10, .func (PySem.W.fnOf "_law_draw" "_law_draw" (defArgs s__law_draw) (defBody s__law_draw) (defScope s__law_draw) .none kV10 dc10 pm10 an10 cd10 ct10), sl10⟩) (c10 : PySem.W.codeIn K cd10 "_law_draw" = true) (k10 : PySem.W.keepIn K (.ref f10) = true)
    (a11 : PySem.W.nsIn K mainGlobals "_law_pick" = some (some (.ref f11))) (l11 : K.lookup f11 = some ⟨oc11, od11, .func (PySem.W.fnOf "_law_pick" "_law_pick" (defArgs s__law_pick) (defBody s__law_pick) (defScope s__law_pick) .none kV11 dc11 pm11 an11 cd11 ct11), sl11⟩) (c11 : PySem.W.codeIn K cd11 "_law_pick" = true) (k11 : PySem.W.keepIn K (.ref f11) = true)
    (a12 : PySem.W.nsIn K mainGlobals "_law_names" = some (some (.ref f12))) (l12 : K.lookup f12 = some ⟨oc12, od12, .func (PySem.W.fnOf "_law_names" "_law_names" (defArgs s__law_names) (defBody s__law_names) (defScope s__law_names) .none kV12 dc12 pm12 an12 cd12 ct12), sl12⟩) (c12 : PySem.W.codeIn K cd12 "_law_names" = true) (k12 : PySem.W.keepIn K (.ref f12) = true)
    (a13 : PySem.W.nsIn K mainGlobals "_law_mixed" = some (some (.ref f13))) (l13 : K.lookup f13 = some ⟨oc13, od13, .func (PySem.W.fnOf "_law_mixed" "_law_mixed" (defArgs s__law_mixed) (defBody s__law_mixed) (defScope s__law_mixed) .none kV13 dc13 pm13 an13 cd13 ct13), sl13⟩) (c13 : PySem.W.codeIn K cd13 "_law_mixed" = true) (k13 : PySem.W.keepIn K (.ref f13) = true)
    (a14 : PySem.W.nsIn K mainGlobals "_law_formula" = some (some (.ref f14))) (l14 : K.lookup f14 = some ⟨oc14, od14, .func (PySem.W.fnOf "_law_formula" "_law_formula" (defArgs s__law_formula) (defBody s__law_formula) (defScope s__law_formula) .none kV14 dc14 pm14 an14 cd14 ct14), sl14⟩) (c14 : PySem.W.codeIn K cd14 "_law_formula" = true) (k14 : PySem.W.keepIn K (.ref f14) = true)
    (a15 : PySem.W.nsIn K mainGlobals "_law_sums" = some (some (.ref f15))) (l15 : K.lookup f15 = some ⟨oc15, od15, .func (PySem.W.fnOf "_law_sums" "_law_sums" (defArgs s__law_sums) (defBody s__law_sums) (defScope s__law_sums) .none kV15 dc15 pm15 an15 cd15 ct15), sl15⟩) (c15 : PySem.W.codeIn K cd15 "_law_sums" = true) (k15 : PySem.W.keepIn K (.ref f15) = true)
    (a16 : PySem.W.nsIn K mainGlobals "_law_laid" = some (some (.ref f16))) (l16 : K.lookup f16 = some ⟨oc16, od16, .func (PySem.W.fnOf "_law_laid" "_law_laid" (defArgs s__law_laid) (defBody s__law_laid) (defScope s__law_laid) .none kV16 dc16 pm16 an16 cd16 ct16), sl16⟩) (c16 : PySem.W.codeIn K cd16 "_law_laid" = true) (k16 : PySem.W.keepIn K (.ref f16) = true)
    (a17 : PySem.W.nsIn K mainGlobals "_law_known" = some (some (.ref f17))) (l17 : K.lookup f17 = some ⟨oc17, od17, .func (PySem.W.fnOf "_law_known" "_law_known" (defArgs s__law_known) (defBody s__law_known) (defScope s__law_known) .none kV17 dc17 pm17 an17 cd17 ct17), sl17⟩) (c17 : PySem.W.codeIn K cd17 "_law_known" = true) (k17 : PySem.W.keepIn K (.ref f17) = true)
    (a18 : PySem.W.nsIn K mainGlobals "_law_shared" = some (some (.ref f18))) (l18 : K.lookup f18 = some ⟨oc18, od18, .func (PySem.W.fnOf "_law_shared" "_law_shared" (defArgs s__law_shared) (defBody s__law_shared) (defScope s__law_shared) .none kV18 dc18 pm18 an18 cd18 ct18), sl18⟩) (c18 : PySem.W.codeIn K cd18 "_law_shared" = true) (k18 : PySem.W.keepIn K (.ref f18) = true)
    (a19 : PySem.W.nsIn K mainGlobals "_law_turned" = some (some (.ref f19))) (l19 : K.lookup f19 = some ⟨oc19, od19, .func (PySem.W.fnOf "_law_turned" "_law_turned" (defArgs s__law_turned) (defBody s__law_turned) (defScope s__law_turned) .none kV19 dc19 pm19 an19 cd19 ct19), sl19⟩) (c19 : PySem.W.codeIn K cd19 "_law_turned" = true) (k19 : PySem.W.keepIn K (.ref f19) = true)
    (a20 : PySem.W.nsIn K mainGlobals "_law_beside" = some (some (.ref f20))) (l20 : K.lookup f20 = some ⟨oc20, od20, .func (PySem.W.fnOf "_law_beside" "_law_beside" (defArgs s__law_beside) (defBody s__law_beside) (defScope s__law_beside) .none kV20 dc20 pm20 an20 cd20 ct20), sl20⟩) (c20 : PySem.W.codeIn K cd20 "_law_beside" = true) (k20 : PySem.W.keepIn K (.ref f20) = true)
    (a21 : PySem.W.nsIn K mainGlobals "_law_deep_right" = some (some (.ref f21))) (l21 : K.lookup f21 = some ⟨oc21, od21, .func (PySem.W.fnOf "_law_deep_right" "_law_deep_right" (defArgs s__law_deep_right) (defBody s__law_deep_right) (defScope s__law_deep_right) .none kV21 dc21 pm21 an21 cd21 ct21), sl21⟩) (c21 : PySem.W.codeIn K cd21 "_law_deep_right" = true) (k21 : PySem.W.keepIn K (.ref f21) = true)
    (a22 : PySem.W.nsIn K mainGlobals "law" = some (some (.ref f22))) (l22 : K.lookup f22 = some ⟨oc22, od22, .func (PySem.W.fnOf "law" "law" (defArgs s_law) (defBody s_law) (defScope s_law) .none kV22 dc22 pm22 an22 cd22 ct22), sl22⟩) (c22 : PySem.W.codeIn K cd22 "law" = true) (k22 : PySem.W.keepIn K (.ref f22) = true)
    (m1 : PySem.W.nsIn K mainGlobals "MOST_AMOUNT" = some (some (.int 60 tM)))
    (z1 : PySem.W.nsIn K mainGlobals "abs" = some none)
    (z2 : PySem.W.nsIn K mainGlobals "all" = some none)
    (z3 : PySem.W.nsIn K mainGlobals "any" = some none)
    (z4 : PySem.W.nsIn K mainGlobals "int" = some none)
    (z5 : PySem.W.nsIn K mainGlobals "isinstance" = some none)
    (z6 : PySem.W.nsIn K mainGlobals "len" = some none)
    (z7 : PySem.W.nsIn K mainGlobals "list" = some none)
    (z8 : PySem.W.nsIn K mainGlobals "max" = some none)
    (z9 : PySem.W.nsIn K mainGlobals "min" = some none)
    (z10 : PySem.W.nsIn K mainGlobals "range" = some none)
    (z11 : PySem.W.nsIn K mainGlobals "sorted" = some none)
    (z12 : PySem.W.nsIn K mainGlobals "sum" = some none)
    (z13 : PySem.W.nsIn K mainGlobals "tuple" = some none)
    (z14 : PySem.W.nsIn K mainGlobals "zip" = some none)
    (z15 : PySem.W.nsIn K mainGlobals "bool" = some none)
    : ∃ fd : FuncData, (∀ (s : Shared) (v : Value), BindsTo s fd ⟨[v], []⟩ [("_law_script", v)]) ∧ ∀ base : Heap, K.In base → base.Ns mainGlobals mg → FnOk l.prog w K mg base CX0 101 fa fd ["_law_script"] (sp_law K) := by
  have e := hfa.symm.trans (PySem.W.mg_of X G a22)
  cases e
  have B : Bt mg := by constructor <;> first | exact PySem.W.mg_none_of X G z1 | exact PySem.W.mg_none_of X G z2 | exact PySem.W.mg_none_of X G z3 | exact PySem.W.mg_none_of X G z4 | exact PySem.W.mg_none_of X G z5 | exact PySem.W.mg_none_of X G z6 | exact PySem.W.mg_none_of X G z7 | exact PySem.W.mg_none_of X G z8 | exact PySem.W.mg_none_of X G z9 | exact PySem.W.mg_none_of X G z10 | exact PySem.W.mg_none_of X G z11 | exact PySem.W.mg_none_of X G z12 | exact PySem.W.mg_none_of X G z13 | exact PySem.W.mg_none_of X G z14 | exact PySem.W.mg_none_of X G z15
  have cM : ∃ t, mg "MOST_AMOUNT" = some (.int 60 t) := ⟨tM, PySem.W.mg_of X G m1⟩
  have F1 := fun_mk (st := s_is_integer) l1 c1 k1
  have b1 := F1.binds (ps := p_is_integer) fun _ _ _ _ _ _ us hl => match us, hl with | [_], _ => rfl
  have F2 := fun_mk (st := s_is_number) l2 c2 k2
  have b2 := F2.binds (ps := p_is_number) fun _ _ _ _ _ _ us hl => match us, hl with | [_], _ => rfl
  have F3 := fun_mk (st := s_is_amounts) l3 c3 k3
  have b3 := F3.binds (ps := p_is_amounts) fun _ _ _ _ _ _ us hl => match us, hl with | [_, _, _], _ => rfl
  have F4 := fun_mk (st := s_names_in) l4 c4 k4
  have b4 := F4.binds (ps := p_names_in) fun _ _ _ _ _ _ us hl => match us, hl with | [_], _ => rfl
  have F5 := fun_mk (st := s_kinds_of) l5 c5 k5
  have b5 := F5.binds (ps := p_kinds_of) fun _ _ _ _ _ _ us hl => match us, hl with | [_], _ => rfl
  have F6 := fun_mk (st := s_share_in) l6 c6 k6
  have b6 := F6.binds (ps := p_share_in) fun _ _ _ _ _ _ us hl => match us, hl with | [_, _], _ => rfl
  have F7 := fun_mk (st := s_share) l7 c7 k7
  have b7 := F7.binds (ps := p_share) fun _ _ _ _ _ _ us hl => match us, hl with | [_, _], _ => rfl
  have F8 := fun_mk (st := s_is_way) l8 c8 k8
  have b8 := F8.binds (ps := p_is_way) fun _ _ _ _ _ _ us hl => match us, hl with | [_, _], _ => rfl
  have F9 := fun_mk (st := s__law_heap) l9 c9 k9
  have b9 := F9.binds (ps := p__law_heap) fun _ _ _ _ _ _ us hl => match us, hl with | [_], _ => rfl
  have F10 := fun_mk (st := s__law_draw) l10 c10 k10
  have b10 := F10.binds (ps := p__law_draw) fun _ _ _ _ _ _ us hl => match us, hl with | [_, _], _ => rfl
  have F11 := fun_mk (st := s__law_pick) l11 c11 k11
  have b11 := F11.binds (ps := p__law_pick) fun _ _ _ _ _ _ us hl => match us, hl with | [_, _], _ => rfl
  have F12 := fun_mk (st := s__law_names) l12 c12 k12
  have b12 := F12.binds (ps := p__law_names) fun _ _ _ _ _ _ us hl => match us, hl with | [_, _], _ => rfl
  have F13 := fun_mk (st := s__law_mixed) l13 c13 k13
  have b13 := F13.binds (ps := p__law_mixed) fun _ _ _ _ _ _ us hl => match us, hl with | [_, _], _ => rfl
  have F14 := fun_mk (st := s__law_formula) l14 c14 k14
  have b14 := F14.binds (ps := p__law_formula) fun _ _ _ _ _ _ us hl => match us, hl with | [_, _, _], _ => rfl
  have F15 := fun_mk (st := s__law_sums) l15 c15 k15
  have b15 := F15.binds (ps := p__law_sums) fun _ _ _ _ _ _ us hl => match us, hl with | [_, _], _ => rfl
  have F16 := fun_mk (st := s__law_laid) l16 c16 k16
  have b16 := F16.binds (ps := p__law_laid) fun _ _ _ _ _ _ us hl => match us, hl with | [_, _], _ => rfl
  have F17 := fun_mk (st := s__law_known) l17 c17 k17
  have b17 := F17.binds (ps := p__law_known) fun _ _ _ _ _ _ us hl => match us, hl with | [_, _], _ => rfl
  have F18 := fun_mk (st := s__law_shared) l18 c18 k18
  have b18 := F18.binds (ps := p__law_shared) fun _ _ _ _ _ _ us hl => match us, hl with | [_, _, _], _ => rfl
  have F19 := fun_mk (st := s__law_turned) l19 c19 k19
  have b19 := F19.binds (ps := p__law_turned) fun _ _ _ _ _ _ us hl => match us, hl with | [_, _], _ => rfl
  have F20 := fun_mk (st := s__law_beside) l20 c20 k20
  have b20 := F20.binds (ps := p__law_beside) fun _ _ _ _ _ _ us hl => match us, hl with | [_, _, _], _ => rfl
  have F21 := fun_mk (st := s__law_deep_right) l21 c21 k21
  have b21 := F21.binds (ps := p__law_deep_right) fun _ _ _ _ _ _ us hl => match us, hl with | [_], _ => rfl
  have F22 := fun_mk (st := s_law) l22 c22 k22
  refine ⟨PySem.W.fnOf "law" "law" (defArgs s_law) (defBody s_law) (defScope s_law) .none kV22 dc22 pm22 an22 cd22 ct22, fun s v => .of_eq rfl, fun base _ _ => ?_⟩
  have h_is_integer : Fn l.prog w K mg base 1 "is_integer" p_is_integer sp_is_integer := ⟨⟨f1, _, ok_is_integer F1 B, PySem.W.mg_of X G a1, k1, b1⟩⟩
  have h_is_number : Fn l.prog w K mg base 2 "is_number" p_is_number sp_is_number := ⟨⟨f2, _, ok_is_number F2 B h_is_integer, PySem.W.mg_of X G a2, k2, b2⟩⟩
  have h_is_amounts : Fn l.prog w K mg base 3 "is_amounts" p_is_amounts sp_is_amounts := ⟨⟨f3, _, ok_is_amounts F3 B h_is_number, PySem.W.mg_of X G a3, k3, b3⟩⟩
  have r_names_in : ∀ n : Nat, Fn l.prog w K mg base n "names_in" p_names_in (sp_names_in n) := fun n => by
    induction n with
    | zero => exact ⟨⟨f4, _, none_names_in, PySem.W.mg_of X G a4, k4, b4⟩⟩
    | succ n ih => exact ⟨⟨f4, _, ok_names_in F4 B ih, PySem.W.mg_of X G a4, k4, b4⟩⟩
  have r_share_in : ∀ n : Nat, Fn l.prog w K mg base n "share_in" p_share_in (sp_share_in n) := fun n => by
    induction n with
    | zero => exact ⟨⟨f6, _, none_share_in, PySem.W.mg_of X G a6, k6, b6⟩⟩
    | succ n ih => exact ⟨⟨f6, _, ok_share_in F6 B ih, PySem.W.mg_of X G a6, k6, b6⟩⟩
  have h_kinds_of : Fn l.prog w K mg base (11 + 1) "kinds_of" p_kinds_of (sp_kinds_of 11) := ⟨⟨f5, _, ok_kinds_of F5 B (r_names_in 11), PySem.W.mg_of X G a5, k5, b5⟩⟩
  have h_share : Fn l.prog w K mg base (11 + 2) "share" p_share (sp_share 11) := ⟨⟨f7, _, ok_share F7 B h_kinds_of (r_share_in 11), PySem.W.mg_of X G a7, k7, b7⟩⟩
  have h_is_way : Fn l.prog w K mg base (11 + 5) "is_way" p_is_way (sp_is_way 11) := ⟨⟨f8, _, ok_is_way F8 B cM h_is_amounts h_kinds_of h_share, PySem.W.mg_of X G a8, k8, b8⟩⟩
  have hk_share : FnK l.prog w K mg base (11 + 2) "share" p_share ["amounts", "formula"] gK gKV (sp_share 11) := ⟨f7, _, ok_share F7 B h_kinds_of (r_share_in 11), PySem.W.mg_of X G a7, k7, ⟨fun s us ws _ h1 h2 => match us, ws, h1, h2 with | [], [_, _], _, _ => .of_eq rfl, fun r1 r2 => kb_rel r2⟩⟩
  have h_law_heap : Fn l.prog w K mg base 1 "_law_heap" p__law_heap (sp_heap K) := ⟨⟨f9, _, ok_heap F9 B, PySem.W.mg_of X G a9, k9, b9⟩⟩
  have h_law_draw : Fn l.prog w K mg base 1 "_law_draw" p__law_draw sp_draw := ⟨⟨f10, _, ok_draw F10 B, PySem.W.mg_of X G a10, k10, b10⟩⟩
  have h_law_pick : Fn l.prog w K mg base 2 "_law_pick" p__law_pick sp_pick := ⟨⟨f11, _, ok_pick F11 B h_law_draw, PySem.W.mg_of X G a11, k11, b11⟩⟩
  have h_law_names : Fn l.prog w K mg base 3 "_law_names" p__law_names sp_names := ⟨⟨f12, _, ok_names F12 B h_law_draw h_law_pick, PySem.W.mg_of X G a12, k12, b12⟩⟩
  have h_law_mixed : Fn l.prog w K mg base 2 "_law_mixed" p__law_mixed sp_mixed := ⟨⟨f13, _, ok_mixed F13 B h_law_draw, PySem.W.mg_of X G a13, k13, b13⟩⟩
  have r_law_formula : ∀ n : Nat, Fn l.prog w K mg base (n + 2) "_law_formula" p__law_formula (sp_formula n) := fun n => by
    induction n with
    | zero => exact ⟨⟨f14, _, none_formula, PySem.W.mg_of X G a14, k14, b14⟩⟩
    | succ n ih => exact ⟨⟨f14, _, ok_formula F14 B h_law_draw h_law_pick ih, PySem.W.mg_of X G a14, k14, b14⟩⟩
  have h_law_sums : Fn l.prog w K mg base 1 "_law_sums" p__law_sums sp_sums := ⟨⟨f15, _, ok_sums F15 B, PySem.W.mg_of X G a15, k15, b15⟩⟩
  have r_law_laid : ∀ n : Nat, Fn l.prog w K mg base (n + 1) "_law_laid" p__law_laid (sp_laid n) := fun n => by
    induction n with
    | zero => exact ⟨⟨f16, _, none_laid, PySem.W.mg_of X G a16, k16, b16⟩⟩
    | succ n ih => exact ⟨⟨f16, _, ok_laid F16 B h_law_sums ih, PySem.W.mg_of X G a16, k16, b16⟩⟩
  have h_law_known : Fn l.prog w K mg base 2 "_law_known" p__law_known sp_known := ⟨⟨f17, _, ok_known F17 B h_law_sums, PySem.W.mg_of X G a17, k17, b17⟩⟩
  have h_law_shared : Fn l.prog w K mg base (11 + 6) "_law_shared" p__law_shared (sp_shared 11) := ⟨⟨f18, _, ok_shared F18 B h_share h_is_way, PySem.W.mg_of X G a18, k18, b18⟩⟩
  have h_law_turned : Fn l.prog w K mg base 2 "_law_turned" p__law_turned sp_turned := ⟨⟨f19, _, ok_turned F19 B h_law_draw, PySem.W.mg_of X G a19, k19, b19⟩⟩
  have h_law_beside : Fn l.prog w K mg base 1 "_law_beside" p__law_beside sp_beside := ⟨⟨f20, _, ok_beside F20 B, PySem.W.mg_of X G a20, k20, b20⟩⟩
  have h_law_deep_right : Fn l.prog w K mg base 100 "_law_deep_right" p__law_deep_right sp_deep := ⟨⟨f21, _, ok_deep F21 B h_law_draw h_law_pick h_law_names h_law_mixed h_law_shared, PySem.W.mg_of X G a21, k21, b21⟩⟩
  exact ok_law F22 B h_law_heap h_law_draw h_law_pick h_law_names h_law_mixed (r_law_formula 11) (r_law_laid 11) h_law_known h_law_shared h_share hk_share h_law_turned h_law_beside h_law_deep_right
theorem walk {l : PySem.W.OpenLaw} {q : Program} {loose : List Str} {XP : (Str → Option Value) → Heap → Prop} {YP : World → Heap → Prop} {d : DefRec} {K : Params → PySem.W.Frag} (hn : l.most = some 63) (hdf : d.params.defaults = [])
    (hY : ∀ (w : World) (h : Heap), YP w h → (K w.params).In h)
    (F : ∀ (w : World) (mg : Str → Option Value) (fa : Addr) (h : Heap), (K w.params).In h → h.Ns mainGlobals mg → mg d.name = some (.ref fa) →
      ∃ fd : FuncData, (∀ (s : Shared) (u : Value), BindsTo s fd ⟨[u], []⟩ [("_law_script", u)]) ∧ ∀ base : Heap, (K w.params).In base → base.Ns mainGlobals mg → FnOk l.prog w (K w.params) mg base CX0 101 fa fd ["_law_script"] (sp_law (K w.params))) :
    PySem.W.WalkO q loose XP YP l.row.toRowW d [] (fun f vs => PySem.call f vs) :=
  L2.walk_of (n := 63) (k := 101) (x := "_law_script") (CX := fun _ => CX0) (sp := fun w => sp_law (K w.params)) hn (by decide) hdf ⟨rfl, by decide, by decide⟩ hY F (fun _ _ a ns hl _ hS => ⟨a, ns, rfl, hS, hl, fun _ => rfl⟩) fun _ _ _ _ _ z => z
end K14
open PySem PySem.W PyProof.Rows
set_option maxRecDepth 100000 in
set_option maxHeartbeats 0 in
theorem PySem.Challenge.cw_asmany_k14_whole_shares_of_sums_of_ways_holds : PySem.Challenge.rw_asmany_k14_whole_shares_of_sums_of_ways.Holds := by
  w_on; o_law; k_head; (case hw => w_witness2)
  k_fill
  refine K14.walk (l := PySem.Challenge.rw_asmany_k14_whole_shares_of_sums_of_ways) rfl rfl (fun w h Y => PySem.W.kIn_of Y) ?F
  case F =>
    intro w mg fa h KX G hmg
    refine' K14.all_mk KX G hmg ?a1 ?l1 ?c1 ?k1 ?a2 ?l2 ?c2 ?k2 ?a3 ?l3 ?c3 ?k3 ?a4 ?l4 ?c4 ?k4 ?a5 ?l5 ?c5 ?k5 ?a6 ?l6 ?c6 ?k6 ?a7 ?l7 ?c7 ?k7 ?a8 ?l8 ?c8 ?k8 ?a9 ?l9 ?c9 ?k9 ?a10 ?l10 ?c10 ?k10 ?a11 ?l11 ?c11 ?k11 ?a12 ?l12 ?c12 ?k12 ?a13 ?l13 ?c13 ?k13 ?a14 ?l14 ?c14 ?k14 ?a15 ?l15 ?c15 ?k15 ?a16 ?l16 ?c16 ?k16 ?a17 ?l17 ?c17 ?k17 ?a18 ?l18 ?c18 ?k18 ?a19 ?l19 ?c19 ?k19 ?a20 ?l20 ?c20 ?k20 ?a21 ?l21 ?c21 ?k21 ?a22 ?l22 ?c22 ?k22 ?m1 ?z1 ?z2 ?z3 ?z4 ?z5 ?z6 ?z7 ?z8 ?z9 ?z10 ?z11 ?z12 ?z13 ?z14 ?z15
    (case a1 => k_is)
    (case l1 => k_is)
    (case c1 => k_is)
    (case k1 => k_is)
    (case a2 => k_is)
    (case l2 => k_is)
    (case c2 => k_is)
    (case k2 => k_is)
    (case a3 => k_is)
    (case l3 => k_is)
    (case c3 => k_is)
    (case k3 => k_is)
    (case a4 => k_is)
    (case l4 => k_is)
    (case c4 => k_is)
    (case k4 => k_is)
    (case a5 => k_is)
    (case l5 => k_is)
    (case c5 => k_is)
    (case k5 => k_is)
    (case a6 => k_is)
    (case l6 => k_is)
    (case c6 => k_is)
    (case k6 => k_is)
    (case a7 => k_is)
    (case l7 => k_is)
    (case c7 => k_is)
    (case k7 => k_is)
    (case a8 => k_is)
    (case l8 => k_is)
    (case c8 => k_is)
    (case k8 => k_is)
    (case a9 => k_is)
    (case l9 => k_is)
    (case c9 => k_is)
    (case k9 => k_is)
    (case a10 => k_is)
    (case l10 => k_is)
    (case c10 => k_is)
    (case k10 => k_is)
    (case a11 => k_is)
    (case l11 => k_is)
    (case c11 => k_is)
    (case k11 => k_is)
    (case a12 => k_is)
    (case l12 => k_is)
    (case c12 => k_is)
    (case k12 => k_is)
    (case a13 => k_is)
    (case l13 => k_is)
    (case c13 => k_is)
    (case k13 => k_is)
    (case a14 => k_is)
    (case l14 => k_is)
    (case c14 => k_is)
    (case k14 => k_is)
    (case a15 => k_is)
    (case l15 => k_is)
    (case c15 => k_is)
    (case k15 => k_is)
    (case a16 => k_is)
    (case l16 => k_is)
    (case c16 => k_is)
    (case k16 => k_is)
    (case a17 => k_is)
    (case l17 => k_is)
    (case c17 => k_is)
    (case k17 => k_is)
    (case a18 => k_is)
    (case l18 => k_is)
    (case c18 => k_is)
    (case k18 => k_is)
    (case a19 => k_is)
    (case l19 => k_is)
    (case c19 => k_is)
    (case k19 => k_is)
    (case a20 => k_is)
    (case l20 => k_is)
    (case c20 => k_is)
    (case k20 => k_is)
    (case a21 => k_is)
    (case l21 => k_is)
    (case c21 => k_is)
    (case k21 => k_is)
    (case a22 => k_is)
    (case l22 => k_is)
    (case c22 => k_is)
    (case k22 => k_is)
    (case m1 => k_is)
    (case z1 => k_is)
    (case z2 => k_is)
    (case z3 => k_is)
    (case z4 => k_is)
    (case z5 => k_is)
    (case z6 => k_is)
    (case z7 => k_is)
    (case z8 => k_is)
    (case z9 => k_is)
    (case z10 => k_is)
    (case z11 => k_is)
    (case z12 => k_is)
    (case z13 => k_is)
    (case z14 => k_is)
    (case z15 => k_is)
