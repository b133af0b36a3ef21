import PyProof.Rows.All
import Wide.All
import OpenK.AllK
import Wide.FinOn
import HandS.ForExc
import HandS.Comp
import HandS.Iter
import HandS.Text
import HandS.Wide
import HandS.IsInst
import HandS.ExcIs
import KE.RegKIsAll
import KE.LtSeq
import KE.DataCmp
import HandS.Walk
import PySem.Challenge.RW_goldplaces_k15_whole_rows_of_the_product
set_option Elab.async false
set_option linter.all false
set_option maxRecDepth 100000
set_option maxHeartbeats 0
namespace GP
open PySem L2

/-! ### what stands in the heap: tuples and lists by their values -/
def TU (H : Hp) (v : V) (xs : List V) : Prop := ∃ a, v = .ref a ∧ H a = some (.tup xs)
def LS (H : Hp) (v : V) (xs : List V) : Prop := ∃ a, v = .ref a ∧ H a = some (.lst xs)
abbrev N2 (H : Hp) (v : V) (a b : Int) : Prop := TU H v [.int a, .int b]
abbrev LI (H : Hp) (v : V) (ns : List Int) : Prop := LS H v (ns.map V.int)
theorem TU.same {H H' : Hp} {v : V} {xs : List V} (s : Same H H') (h : TU H v xs) : TU H' v xs := by
  obtain ⟨a, e, q⟩ := h
  exact ⟨a, e, s _ _ q⟩
theorem LS.same {H H' : Hp} {v : V} {xs : List V} (s : Same H H') (h : LS H v xs) : LS H' v xs := by
  obtain ⟨a, e, q⟩ := h
  exact ⟨a, e, s _ _ q⟩
/-- the list that a def is filling -/
def LK (H : Hp) (l : Addr) (ns : List Int) : Prop := H l = some (.lst (ns.map V.int))
theorem LK.same {H H' : Hp} {l : Addr} {ns : List Int} (s : Same H H') (h : LK H l ns) : LK H' l ns := s _ _ h
theorem LK.new {H : Hp} {l : Addr} {ns : List Int} : LK (upd H l (.lst (ns.map V.int))) l ns := upd_same
theorem LK.app {H0 H : Hp} {p l : Addr} {ns ms : List Int} {o : HO} (hp : LK H0 p ms) (hl : H0 l = none) (k : LK H l ns) : LK (upd H p o) l ns := by
  have e : l ≠ p := fun e => by
    subst e
    have z : H0 l = some (.lst (ms.map V.int)) := hp
    rw [hl] at z; cases z
  show upd H p o l = _
  rw [upd_ne e]
  exact k
theorem LK.ls {H : Hp} {l : Addr} {ns : List Int} (h : LK H l ns) : LI H (.ref l) ns := ⟨l, rfl, h⟩
theorem TU.app {H : Hp} {l : Addr} {ns : List Int} {o : HO} {v : V} {xs : List V} (h : LK H l ns) (t : TU H v xs) : TU (upd H l o) v xs := by
  obtain ⟨a, e, q⟩ := t
  exact ⟨a, e, by rw [upd_ne (ne_of q h (by intro z; cases z))]; exact q⟩
theorem Same.back {H H1 H' : Hp} (b : Same H1 H') (a : Same H H1) : Same H H' := a.trans b
theorem SqL_same {K : PySem.W.Frag} {H H' : Hp} {a : Addr} {xs : List V} (s : Same H H') (h : SqL K H a xs) : SqL K H' a xs := s.seq h
theorem same_new {H : Hp} {p : Addr} {o : HO} (h : H p = none) : Same H (upd H p o) := fun b x e => by
  rw [upd_ne (ne_of_none e h)]
  exact e
theorem line8 {n : Nat} (h : n ≤ 8) : n ≤ sizeLine := Nat.le_trans h (by decide)
theorem lineK {n : Nat} (h : n ≤ 100000) : n < sizeLine := Nat.lt_of_le_of_lt h (by decide)

/-! ### a def that may be called -/
structure Cal (P : Program) (w : World) (K : PySem.W.Frag) (mg : Str → Option Value) (base : Heap) (CX : CXT) (k : Nat) (x : Str) (ps : List Str) (sp : Sp) : Prop where
  ex : ∃ f fd, mg x = some (.ref f) ∧ PySem.W.keepIn K (.ref f) = true ∧ Binds K fd ps [] ∧ FnOk P w K mg base CX k f fd ps sp
theorem pe_callC {X : Cx} {CX : CXT} {k : Nat} {x : Str} {ps : List Str} {sp : Sp} {E : XK} {p pos : Pos} {e : Expr} {es : List Expr} {t : TA} (C : Cal X.prog X.w X.K X.mg X.base CX k x ps sp) (hr : Room k X.A) (hx : Passes CX X E) (ha : PA X (e :: es) t) (hg : Gl X x := by rfl)
    (hdb : (x == ("__debug__" : Str)) = false := by decide) (he : starEach (e :: es) X.env = (false, eval e X.env) :: starEach es X.env := by rfl) (hpl : (backTo pos (starEach es X.env)).any (·.1) = false := by rfl) :
    PE X (.Call (.Name x p) (e :: es) [] pos) (tCall sp [] E t) := by
  obtain ⟨f, fd, h1, h2, h3, h4⟩ := C.ex
  exact pe_call h4 hr hg h1 h2 h3 .nil hx ha hdb he hpl
/-- as a call in a try's body -/
theorem pe_callT {X : Cx} {k : Nat} {x : Str} {ps : List Str} {sp : Sp} {W : WX} {p pos : Pos} {e : Expr} {es : List Expr} {t : TA} (tk : Takes X W) (C : Cal X.prog X.w X.K X.mg X.base (L2.CX X.prog X.w) k x ps sp) (hr : Room k X.A) (ha : PA X (e :: es) t) (hg : Gl X x := by rfl)
    (hdb : (x == ("__debug__" : Str)) = false := by decide) (he : starEach (e :: es) X.env = (false, eval e X.env) :: starEach es X.env := by rfl) (hpl : (backTo pos (starEach es X.env)).any (·.1) = false := by rfl) :
    PE X (.Call (.Name x p) (e :: es) [] pos) (tCallS sp (WE W) t) := by
  obtain ⟨f, fd, h1, h2, h3, h4⟩ := C.ex
  exact pe_callS h4 hr hg h1 h2 h3 (fun σ => passAt tk σ) ha hdb he hpl
/-- the built-in names that the texts use: none of them is the module's own -/
structure NB (mg : Str → Option Value) : Prop where
  len : mg "len" = none
  range : mg "range" = none
  abs : mg "abs" = none
  int : mg "int" = none
  bool : mg "bool" = none
  isinstance : mg "isinstance" = none
  tuple : mg "tuple" = none
  list : mg "list" = none
  str : mg "str" = none
  max : mg "max" = none
  min : mg "min" = none
  ValueError : mg "ValueError" = none

/-- an own class of exceptions -/
structure EX (K : PySem.W.Frag) (mg : Str → Option Value) (x : Str) (C : Addr) : Prop where
  mgC : mg x = some (.ref C)
  exc : PySem.W.excIn K C [.type "ValueError", .type "Exception", .type "BaseException", .type "object"] "ValueError.__new__" = true
  keep : PySem.W.keepIn K (.ref C) = true
  sub : PySem.W.subIn K (.ref C) (.type "BaseException") = some true
  typ : PySem.W.typeIn K (.ref C) = some (.type "type")
section
variable {X : Cx}
theorem op_mulA : OpR X (binaryOp .Mult) (rI (fun i j => CMul i j ∨ CMulW i j) fun i j => .int (i * j)) := opI fun _ _ _ _ _ _ _ hc q => PyProof.Rows.mul_int q (hc.elim CMul.ok CMulW.ok)
theorem op_fdivA : OpR X (binaryOp .FloorDiv) (rI (fun i j => CDiv i j ∨ CDivW i j) fun i j => .int (i / j)) := opI fun i j _ _ _ _ _ hc q => by
  have h1 : (0 : Int) < j := hc.elim (fun h => h.1) (fun h => h.1)
  exact PyProof.Rows.floordiv_int (by omega) (by rw [Int.fdiv_eq_ediv_of_nonneg i (by omega)]; exact q) (.inl (hc.elim (fun h => PyProof.noPylong_small (by have := h.2; omega)) (fun h => PyProof.noPylong_of_log2 h.2)))
end

/-! the built-ins' readings by names -/
def rLen1 (K : PySem.W.Frag) : List V → Hp → VK → Prop := fun xs H Q => ∃ p ys, xs = [.ref p] ∧ (SqL K H p ys ∨ SqT K H p ys) ∧ Q (.int ys.length) H
def rLenS1 : List V → Hp → VK → Prop := fun xs H Q => ∃ z, xs = [.str z] ∧ z.length ≤ sizeLine ∧ Q (.int z.length) H
def rAbs1 : List V → Hp → VK → Prop := fun xs H Q => ∃ i, xs = [.int i] ∧ Q (.int (if i < 0 then -i else i)) H
def rInt1 : List V → Hp → VK → Prop := fun xs H Q => (∃ i, xs = [.int i] ∧ Q (.int i) H) ∨ ∃ k, xs = [.bl k] ∧ Q (.int (if k then 1 else 0)) H
def rStr1 : List V → Hp → VK → Prop := fun xs H Q => ∃ i, xs = [.int i] ∧ i.natAbs.log2 < 1920 ∧ Q (.str (toString i)) H
def rMax1 : List V → Hp → VK → Prop := fun xs H Q => ∃ i j, xs = [.int i, .int j] ∧ Q (.int (if j > i then j else i)) H
def rAddS : R2 := fun x y H Q => ∃ i j, x = .str i ∧ y = .str j ∧ i.length + j.length ≤ sizeLine ∧ Q (.str (i ++ j)) H
def rNotInS : R2 := fun x y H Q => ∃ i j, x = .str i ∧ y = .str j ∧ Q (.bl (!(!(Builtin.Str.occurrences j i 0 j.length 1).isEmpty))) H
def rIsN1 : R2 := fun x y H Q => y = .non ∧ Q (.bl (decide (x = .non))) H
def rListOf (K : PySem.W.Frag) : List V → Hp → VK → Prop := fun xs H Q => ∃ p ys, xs = [.ref p] ∧ (SqL K H p ys ∨ SqT K H p ys) ∧ ∀ l, H l = none → Q (.ref l) (upd H l (.lst ys))
section
variable {X : Cx}
theorem g_listOf : CallR X (.type "list") (rListOf X.K) := call_list_of
theorem g_len : CallR X (.builtin "len") (rLen1 X.K) := call_len_seq
theorem g_lenS : CallR X (.builtin "len") rLenS1 := call_len_str
theorem g_abs : CallR X (.builtin "abs") rAbs1 := call_abs
theorem g_int : CallR X (.type "int") rInt1 := call_int1
theorem g_str : CallR X (.type "str") rStr1 := call_str_int
theorem g_max2 (hc : X.calm = true) : CallR X (.builtin "max") rMax1 := call_max2 hc
theorem g_addS : OpR X (binaryOp .Add) rAddS := op_add_str
theorem g_notInS : OpR X (compareOp .NotIn) rNotInS := op_notin_str
theorem g_isN : OpR X (compareOp .Is) rIsN1 := op_isN
end

/-! ### readings, step by step -/
def MkT (xs : List V) (H : Hp) (Q : VK) : Prop := xs.length ≤ sizeLine ∧ ∀ p, H p = none → Q (.ref p) (upd H p (.tup xs))
def MkL (xs : List V) (H : Hp) (Q : VK) : Prop := xs.length ≤ sizeLine ∧ ∀ p, H p = none → Q (.ref p) (upd H p (.lst xs))
section
variable {K : PySem.W.Frag} {σ : St} {H : Hp} {Q : VK} {ta tb tc : TE} {D : Ends} {t u : TS} {x y v : V}
theorem iVar {i : Nat} (h : σ[i]? = some (some v)) (q : Q v H) : tVar i σ H Q := ⟨v, h, q⟩
theorem iC (q : Q v H) : tC v σ H Q := q
theorem iOp {r : R2} (q : ta σ H fun x H1 => tb σ H1 fun y H2 => r x y H2 Q) : tOp r ta tb σ H Q := q
theorem iUn {r : V → Hp → VK → Prop} (q : ta σ H fun x H1 => r x H1 Q) : tUn r ta σ H Q := q
theorem iI0 {g : Int → Int → V} {i j : Int} (q : Q (g i j) H) : rI0 g (.int i) (.int j) H Q := ⟨i, j, rfl, rfl, q⟩
theorem iI {C : Int → Int → Prop} {g : Int → Int → V} {i j : Int} (c : C i j) (q : Q (g i j) H) : rI C g (.int i) (.int j) H Q := ⟨i, j, rfl, rfl, c, q⟩
theorem iU {g : Int → V} {i : Int} (q : Q (g i) H) : rU g (.int i) H Q := ⟨i, rfl, q⟩
theorem decI {i j : Int} : decide (V.int i = V.int j) = decide (i = j) := by
  by_cases h : i = j
  · subst h; rw [decide_eq_true rfl, decide_eq_true rfl]
  · rw [decide_eq_false h, decide_eq_false (fun z => h (V.int.inj z))]
theorem decS {i j : Str} : decide (V.str i = V.str j) = decide (i = j) := by
  by_cases h : i = j
  · subst h; rw [decide_eq_true rfl, decide_eq_true rfl]
  · rw [decide_eq_false h, decide_eq_false (fun z => h (V.str.inj z))]
theorem decB {i j : Bool} : decide (V.bl i = V.bl j) = decide (i = j) := by cases i <;> cases j <;> rfl
theorem iEqI {i j : Int} (q : Q (.bl (decide (i = j))) H) : rEq (.int i) (.int j) H Q := ⟨rfl, by rw [decI]; exact q⟩
theorem iNeI {i j : Int} (q : Q (.bl (!decide (i = j))) H) : rNe (.int i) (.int j) H Q := ⟨rfl, by rw [decI]; exact q⟩
theorem iEqB {i j : Bool} (q : Q (.bl (decide (i = j))) H) : rEq (.bl i) (.bl j) H Q := ⟨rfl, by rw [decB]; exact q⟩
theorem iNeB {i j : Bool} (q : Q (.bl (!decide (i = j))) H) : rNe (.bl i) (.bl j) H Q := ⟨rfl, by rw [decB]; exact q⟩
theorem iEqS {i j : Str} (q : Q (.bl (decide (i = j))) H) : rEq (.str i) (.str j) H Q := ⟨rfl, by rw [decS]; exact q⟩
theorem iNeS {i j : Str} (q : Q (.bl (!decide (i = j))) H) : rNe (.str i) (.str j) H Q := ⟨rfl, by rw [decS]; exact q⟩
theorem iTest {Q : Bool → Hp → Prop} (q : ta σ H fun x H' => ∃ k, x = .bl k ∧ Q k H') : tTest ta σ H Q := q
theorem iTB {Q : Bool → Hp → Prop} (q : ta σ H fun x H' => ∃ k, x = .bl k ∧ Q k H') : tB ta σ H Q := q
theorem iBl {b : Bool} {P : Bool → Prop} (q : P b) : ∃ k, V.bl b = .bl k ∧ P k := ⟨b, rfl, q⟩
theorem iNot {t : L2.TT} {Q : Bool → Hp → Prop} (q : t σ H fun c H1 => Q (!c) H1) : tNot t σ H Q := q
theorem iAnd {t u : L2.TT} {Q : Bool → Hp → Prop} (q : t σ H fun c H1 => if c = true then u σ H1 Q else Q false H1) : tAnd t u σ H Q := q
theorem iOr {t u : L2.TT} {Q : Bool → Hp → Prop} (q : t σ H fun c H1 => if c = true then Q true H1 else u σ H1 Q) : tOr t u σ H Q := q
theorem iAndV (q : ta σ H fun x H1 => ∃ c, x = .bl c ∧ if c = true then tb σ H1 Q else Q (.bl false) H1) : tAndV ta tb σ H Q := q
theorem iOrV (q : ta σ H fun x H1 => ∃ c, x = .bl c ∧ if c = true then Q (.bl true) H1 else tb σ H1 Q) : tOrV ta tb σ H Q := q
theorem iNotV (q : ta σ H fun x H1 => ∃ c, x = .bl c ∧ Q (.bl (!c)) H1) : tNotV ta σ H Q := q
theorem iIf {p A B : Prop} [Decidable p] (h1 : p → A) (h2 : ¬ p → B) : if decide p = true then A else B := by
  by_cases h : p
  · rw [if_pos (decide_eq_true h)]; exact h1 h
  · rw [if_neg (by rw [decide_eq_false h]; exact Bool.false_ne_true)]; exact h2 h
theorem iIfN {p A B : Prop} [Decidable p] (h1 : ¬ p → A) (h2 : p → B) : if (!decide p) = true then A else B := by
  by_cases h : p
  · rw [decide_eq_true h]; exact iteF (h2 h)
  · rw [decide_eq_false h]; exact iteT (h1 h)
theorem iIfB {b : Bool} {A B : Prop} (h1 : b = true → A) (h2 : b = false → B) : if b = true then A else B := by
  cases b
  · exact iteF (h2 rfl)
  · exact iteT (h1 rfl)
theorem iIfNB {b : Bool} {A B : Prop} (h1 : b = false → A) (h2 : b = true → B) : if (!b) = true then A else B := by
  cases b
  · exact iteT (h1 rfl)
  · exact iteF (h2 rfl)
theorem iIfT {p A B : Prop} [Decidable p] (h : p) (q : A) : if decide p = true then A else B := by rw [decide_eq_true h]; exact iteT q
theorem iIfF {p A B : Prop} [Decidable p] (h : ¬ p) (q : B) : if decide p = true then A else B := by rw [decide_eq_false h]; exact iteF q
theorem iIfNT {p A B : Prop} [Decidable p] (h : p) (q : B) : if (!decide p) = true then A else B := by rw [decide_eq_true h]; exact iteF q
theorem iIfNF {p A B : Prop} [Decidable p] (h : ¬ p) (q : A) : if (!decide p) = true then A else B := by rw [decide_eq_false h]; exact iteT q
theorem iIfBT {b : Bool} {A B : Prop} (h : b = true) (q : A) : if b = true then A else B := by rw [h]; exact iteT q
theorem iIfBF {b : Bool} {A B : Prop} (h : b = false) (q : B) : if b = true then A else B := by rw [h]; exact iteF q
theorem iIfNBT {b : Bool} {A B : Prop} (h : b = true) (q : B) : if (!b) = true then A else B := by rw [h]; exact iteF q
theorem iIfNBF {b : Bool} {A B : Prop} (h : b = false) (q : A) : if (!b) = true then A else B := by rw [h]; exact iteT q
theorem iNT {A B : Prop} (q : B) : if (!true) = true then A else B := iteF q
theorem iNF {A B : Prop} (q : A) : if (!false) = true then A else B := iteT q
theorem iNNT {A B : Prop} (q : A) : if (!(!true)) = true then A else B := iteT q
theorem iNNF {A B : Prop} (q : B) : if (!(!false)) = true then A else B := iteF q
theorem iRtI {i j : Int} (e : i = j) (q : Q (.int i) H) : Q (.int j) H := by rw [← e]; exact q
theorem iRtB {i j : Bool} (e : i = j) (q : Q (.bl i) H) : Q (.bl j) H := by rw [← e]; exact q
theorem iSeq (q : t { D with nx := u D } σ H) : tSeq t u D σ H := q
theorem iAsg {i : Nat} (q : ta σ H fun x H1 => D.nx (σ.set i (some x)) H1) : tAsg ta (gName i) D σ H := q
theorem iDrop (q : ta σ H fun _ H1 => D.nx σ H1) : tDrop ta D σ H := q
theorem iRet (q : ta σ H D.rt) : tRet ta D σ H := q
theorem iRetN (q : D.rt .non H) : tRetN D σ H := q
theorem iIfS {c : L2.TT} (q : c σ H fun b H1 => if b = true then t D σ H1 else u D σ H1) : tIfS c t u D σ H := q
theorem iNext (q : D.nx σ H) : tNext D σ H := q
theorem iNil {Q : List V → Hp → Prop} (q : Q [] H) : tNil σ H Q := q
theorem iCons {tr : TA} {Q : List V → Hp → Prop} (q : ta σ H fun x H1 => tr σ H1 fun xs H2 => Q (x :: xs) H2) : tCons ta tr σ H Q := q
theorem iCall {sp : Sp} {E : XK} {t : TA} (q : t σ H fun vs H1 => sp vs H1 Q E) : tCall sp [] E t σ H Q := by
  have e : (fun (vs : List V) H1 => sp (vs ++ []) H1 Q E) = fun vs H1 => sp vs H1 Q E := by
    funext vs H1; rw [List.append_nil]
  unfold tCall
  rw [e]
  exact q
theorem iCallS {sp : Sp} {E : St → XK} {t : TA} (q : t σ H fun vs H1 => sp vs H1 Q (E σ)) : tCallS sp E t σ H Q := q
theorem iCB {r : List V → Hp → VK → Prop} {t : TA} (q : t σ H fun vs H1 => r vs H1 Q) : tCB r t σ H Q := q
theorem iTup {t : TA} (q : t σ H fun xs H1 => MkT xs H1 Q) : tTup t σ H Q := q
theorem iLst {t : TA} (q : t σ H fun xs H1 => MkL xs H1 Q) : tLst t σ H Q := q
theorem iMkT {xs : List V} (q : ∀ v H', Same H H' → TU H' v xs → Q v H') (hl : Nat.ble xs.length 8 = true) : MkT xs H Q :=
  ⟨line8 (Nat.le_of_ble_eq_true hl), fun p hp => q _ _ (same_new hp) ⟨p, rfl, upd_same⟩⟩
theorem iMkL0 (q : ∀ p, H p = none → Same H (upd H p (.lst [])) → (upd H p (.lst [])) p = some (.lst []) → Q (.ref p) (upd H p (.lst []))) : MkL [] H Q :=
  ⟨line8 (by decide), fun p hp => q p hp (same_new hp) upd_same⟩
def BMk (K : PySem.W.Frag) (T : String) (r : V → List V → Hp → VK → Prop) (t : TA) (σ : St) (x : V) (H1 : Hp) (Q : VK) : Prop := tyV K T x H1 ∧ t σ H1 fun xs H2 => r x xs H2 Q
theorem iBM {T : String} {r : V → List V → Hp → VK → Prop} {to : TE} {t : TA} (q : to σ H fun x H1 => BMk K T r t σ x H1 Q) : tBM K T r to t σ H Q := q
theorem iBMl {l : Addr} {ns : List Int} {r : V → List V → Hp → VK → Prop} {t : TA} (h : LK H l ns) (q : t σ H fun ys H2 => r (.ref l) ys H2 Q) : BMk K "list" r t σ (.ref l) H Q := ⟨.inl ⟨rfl, _, .inl (.inl h)⟩, q⟩
theorem iApp {l : Addr} {xs : List V} {y : V} (h : H l = some (.lst xs)) (hl : xs.length ≤ 100000) (q : Q .non (upd H l (.lst (xs ++ [y])))) : rAppend (.ref l) [y] H Q := ⟨l, xs, y, rfl, rfl, h, lineK hl, q⟩
theorem iAppI {l : Addr} {ns : List Int} {y : Int} (h : LK H l ns) (hl : ns.length ≤ 100000) (q : Q .non (upd H l (.lst ((ns ++ [y]).map V.int)))) : rAppend (.ref l) [.int y] H Q := iApp h (by rw [List.length_map]; exact hl) (by rw [List.map_append] at q; exact q)
theorem same_app {H0 : Hp} {l : Addr} {o : HO} (n : H0 l = none) (s : Same H0 H) : Same H0 (upd H l o) := fun b x e => by
  rw [upd_ne (ne_of_none e n)]
  exact s b x e
theorem iMkI1 {a : Int} (q : ∀ v H', Same H H' → LI H' v [a] → Q v H') : MkL [.int a] H Q := ⟨line8 (Nat.le_of_ble_eq_true rfl), fun p hp => q _ _ (same_new hp) ⟨p, rfl, upd_same⟩⟩
theorem iMkI2 {a b : Int} (q : ∀ v H', Same H H' → LI H' v [a, b] → Q v H') : MkL [.int a, .int b] H Q := ⟨line8 (Nat.le_of_ble_eq_true rfl), fun p hp => q _ _ (same_new hp) ⟨p, rfl, upd_same⟩⟩
theorem iMkL {a : V} {r : List V} (q : ∀ v H', Same H H' → LS H' v (a :: r) → Q v H') (hl : Nat.ble (a :: r).length 8 = true) : MkL (a :: r) H Q :=
  ⟨line8 (Nat.le_of_ble_eq_true hl), fun p hp => q _ _ (same_new hp) ⟨p, rfl, upd_same⟩⟩
theorem iIxT {xs : List V} {i : Int} (h : TU H v xs) (e : atI xs i = some y) (q : Q y H) : rIx K v (.int i) H Q := by
  obtain ⟨a, rfl, h⟩ := h
  exact .inr (.inl ⟨a, xs, i, y, rfl, rfl, SqT.of h, e, q⟩)
theorem iIxL {xs : List V} {i : Int} (h : LS H v xs) (e : atI xs i = some y) (q : Q y H) : rIx K v (.int i) H Q := by
  obtain ⟨a, rfl, h⟩ := h
  exact .inl ⟨a, xs, i, y, rfl, rfl, SqL.of h, e, q⟩
theorem atI_getD {ns : List Int} {i : Int} (h0 : 0 ≤ i) (h1 : i < ns.length) : atI (ns.map V.int) i = some (.int (ns.getD i.toNat 0)) := by
  have hk : i.toNat < ns.length := by omega
  have ek : ((i.toNat : Nat) : Int) = i := by omega
  have e : atI (ns.map V.int) ((i.toNat : Nat) : Int) = some (.int (ns.getD i.toNat 0)) := atI_nat (by
    rw [List.getElem?_map, List.getElem?_eq_getElem hk, List.getD_eq_getElem?_getD, List.getElem?_eq_getElem hk]
    rfl)
  rw [ek] at e
  exact e
theorem iIxI {ns : List Int} {i : Int} (h : LI H v ns) (h0 : 0 ≤ i) (h1 : i < ns.length) (q : Q (.int (ns.getD i.toNat 0)) H) : rIx K v (.int i) H Q := iIxL h (atI_getD h0 h1) q
theorem iIxN {ns : List Int} {i : Nat} (h : LI H v ns) (h1 : i < ns.length) (q : Q (.int (ns.getD i 0)) H) : rIx K v (.int (i : Nat)) H Q := iIxI h (by omega) (by omega) (by rw [Int.toNat_natCast]; exact q)
theorem iIxP {ns : List Int} {i : Nat} (h : LI H v ns) (h1 : 0 < i ∧ i - 1 < ns.length) (q : Q (.int (ns.getD (i - 1) 0)) H) : rIx K v (.int ((i : Nat) - 1)) H Q := iIxI h (by omega) (by omega) (by rw [show (((i : Nat) : Int) - 1).toNat = i - 1 by omega]; exact q)
theorem iIxE {ys : List Int} {y : Int} (h : LI H v (ys ++ [y])) (q : Q (.int y) H) : rIx K v (.int (-1)) H Q := iIxL h (by rw [List.map_append]; exact atI_last _ _) q
theorem iIxS {z : Str} {i : Int} {c : Nat} (hz : z.length ≤ sizeLine) (e : atI z.cps.toList i = some c) (q : Q (.str ⟨#[c]⟩) H) : rIx K (.str z) (.int i) H Q :=
  .inr (.inr ⟨z, i, c, rfl, rfl, hz, e, q⟩)
theorem iCatI {a b : V} {xs ys : List Int} (h1 : LI H a xs) (h2 : LI H b ys) (hl : xs.length + ys.length ≤ 100000) (q : ∀ v H', Same H H' → LI H' v (xs ++ ys) → Q v H') : rCat a b H Q := by
  obtain ⟨p, rfl, h1⟩ := h1
  obtain ⟨r, rfl, h2⟩ := h2
  exact ⟨p, r, _, _, rfl, rfl, h1, h2, by rw [List.length_map, List.length_map]; exact Nat.le_of_lt (lineK hl), fun d hd => q _ _ (same_new hd) ⟨d, rfl, by rw [upd_same, List.map_append]⟩⟩
/-! slices -/
def cutI (ns : List Int) (lo hi : Option Int) : List Int := (ns.drop (HT.sIx ns.length 0 lo)).take (HT.sIx ns.length ns.length hi - HT.sIx ns.length 0 lo)
theorem cutI_map (ns : List Int) (lo hi : Option Int) : cutV (ns.map V.int) lo hi = (cutI ns lo hi).map V.int := by
  unfold cutV cutI
  rw [List.length_map, List.map_take, List.map_drop]
theorem cutI_length (ns : List Int) (lo hi : Option Int) : (cutI ns lo hi).length ≤ ns.length := by
  unfold cutI
  rw [List.length_take, List.length_drop]
  omega
theorem len_cut {ns : List Int} {lo hi : Option Int} {N : Nat} (h : ns.length ≤ N) : (cutI ns lo hi).length ≤ N := Nat.le_trans (cutI_length _ _ _) h
theorem len_app {xs ys : List Int} {N : Nat} (h1 : xs.length ≤ N / 2) (h2 : ys.length ≤ N / 2) : (xs ++ ys).length ≤ N := by rw [List.length_append]; omega
theorem len_two {xs ys : List Int} (h1 : xs.length ≤ 50000) (h2 : ys.length ≤ 50000) : xs.length + ys.length ≤ 100000 := by omega
theorem cut_last (ns : List Int) (y : Int) : cutI (ns ++ [y]) none (some (-1)) = ns := by
  unfold cutI
  have e1 : HT.sIx (ns ++ [y]).length 0 none = 0 := rfl
  have e2 : HT.sIx (ns ++ [y]).length (ns ++ [y]).length (some (-1)) = ns.length := by
    unfold HT.sIx
    simp
    try omega
  rw [e1, e2, List.drop_zero, Nat.sub_zero]
  simp
theorem iSl {r : V → Option Int → Option Int → Hp → VK → Prop} {te : TE} {tl th : TO} (q : te σ H fun x H1 => tl σ H1 fun l H2 => th σ H2 fun u H3 => r x l u H3 Q) : tSl r te tl th σ H Q := q
theorem iNoPart {Q : Option Int → Hp → Prop} (q : Q none H) : tNoPart σ H Q := q
theorem iPart {Q : Option Int → Hp → Prop} (q : ta σ H fun x H1 => ∃ i, x = .int i ∧ Q (some i) H1) : tPart ta σ H Q := q
theorem iIntP {n : Int} {P : Int → Prop} (q : P n) : ∃ i, V.int n = .int i ∧ P i := ⟨n, rfl, q⟩
theorem iSlI {ns : List Int} {lo hi : Option Int} (h : LI H v ns) (q : ∀ r H', Same H H' → LI H' r (cutI ns lo hi) → Q r H') : rSlL K v lo hi H Q := by
  obtain ⟨a, rfl, h⟩ := h
  exact ⟨a, _, rfl, SqL.of h, fun p hp => q _ _ (same_new hp) ⟨p, rfl, by rw [upd_same, cutI_map]⟩⟩
theorem iListOf {xs : List V} (h : LS H v xs) (q : ∀ r H', Same H H' → LS H' r xs → Q r H') : rListOf K [v] H Q := by
  obtain ⟨a, rfl, h⟩ := h
  exact ⟨a, xs, rfl, .inl (SqL.of h), fun p hp => q _ _ (same_new hp) ⟨p, rfl, upd_same⟩⟩
theorem iListOfI {ns : List Int} (h : LI H v ns) (q : ∀ r H', Same H H' → LI H' r ns → Q r H') : rListOf K [v] H Q := iListOf h q
theorem iListOfN {ns : List Int} (h : LI H v ns) (q : ∀ l H', H l = none → Same H H' → LK H' l ns → Q (.ref l) H') : rListOf K [v] H Q := by
  obtain ⟨a, rfl, h⟩ := h
  exact ⟨a, _, rfl, .inl (SqL.of h), fun p hp => q _ _ hp (same_new hp) upd_same⟩
theorem iCat {a b : V} {xs ys : List V} (h1 : LS H a xs) (h2 : LS H b ys) (hl : xs.length + ys.length ≤ 100000) (q : ∀ v H', Same H H' → LS H' v (xs ++ ys) → Q v H') : rCat a b H Q := by
  obtain ⟨p, rfl, h1⟩ := h1
  obtain ⟨r, rfl, h2⟩ := h2
  exact ⟨p, r, xs, ys, rfl, rfl, h1, h2, Nat.le_of_lt (lineK hl), fun d hd => q _ _ (same_new hd) ⟨d, rfl, upd_same⟩⟩
theorem iLenL {xs : List V} (h : LS H v xs) (q : Q (.int xs.length) H) : rLen1 K [v] H Q := by
  obtain ⟨p, rfl, h⟩ := h
  exact ⟨p, xs, rfl, .inl (SqL.of h), q⟩
theorem iLenI {ns : List Int} (h : LI H v ns) (q : Q (.int ns.length) H) : rLen1 K [v] H Q := iLenL h (by rw [List.length_map]; exact q)
theorem iLenT {xs : List V} (h : TU H v xs) (q : Q (.int xs.length) H) : rLen1 K [v] H Q := by
  obtain ⟨p, rfl, h⟩ := h
  exact ⟨p, xs, rfl, .inr (SqT.of h), q⟩
theorem iLenS {z : Str} (h : z.length ≤ 100000) (q : Q (.int z.length) H) : rLenS1 [.str z] H Q := ⟨z, rfl, Nat.le_of_lt (lineK h), q⟩
/-! isinstance -/
theorem iIsi {c : V} {tt u : Value} {b : Bool} (k : ClsV c u) (ty : TyX K H x tt) (e : PySem.W.kitOne K tt u = some b) (q : Q (.bl b) H) : rIsi K [x, c] H Q := ⟨x, c, tt, u, b, rfl, k, ty, e, q⟩
theorem is_int_int {i : Int} (q : Q (.bl true) H) : rIsi K [.int i, .ty "int"] H Q := iIsi (.ty "int") (.base (.int i)) (kit_ty (b := "int") (by decide +kernel)) q
theorem is_int_bool {i : Int} (q : Q (.bl false) H) : rIsi K [.int i, .ty "bool"] H Q := iIsi (.ty "bool") (.base (.int i)) (kit_ty (b := "bool") (by decide +kernel)) q
theorem is_int_str {i : Int} (q : Q (.bl false) H) : rIsi K [.int i, .ty "str"] H Q := iIsi (.ty "str") (.base (.int i)) (kit_ty (b := "str") (by decide +kernel)) q
theorem is_int_tuple {i : Int} (q : Q (.bl false) H) : rIsi K [.int i, .ty "tuple"] H Q := iIsi (.ty "tuple") (.base (.int i)) (kit_ty (b := "tuple") (by decide +kernel)) q
theorem is_int_list {i : Int} (q : Q (.bl false) H) : rIsi K [.int i, .ty "list"] H Q := iIsi (.ty "list") (.base (.int i)) (kit_ty (b := "list") (by decide +kernel)) q
theorem is_bool_int {i : Bool} (q : Q (.bl true) H) : rIsi K [.bl i, .ty "int"] H Q := iIsi (.ty "int") (.base (.bl i)) (kit_ty (b := "int") (by decide +kernel)) q
theorem is_bool_bool {i : Bool} (q : Q (.bl true) H) : rIsi K [.bl i, .ty "bool"] H Q := iIsi (.ty "bool") (.base (.bl i)) (kit_ty (b := "bool") (by decide +kernel)) q
theorem is_bool_str {i : Bool} (q : Q (.bl false) H) : rIsi K [.bl i, .ty "str"] H Q := iIsi (.ty "str") (.base (.bl i)) (kit_ty (b := "str") (by decide +kernel)) q
theorem is_bool_tuple {i : Bool} (q : Q (.bl false) H) : rIsi K [.bl i, .ty "tuple"] H Q := iIsi (.ty "tuple") (.base (.bl i)) (kit_ty (b := "tuple") (by decide +kernel)) q
theorem is_bool_list {i : Bool} (q : Q (.bl false) H) : rIsi K [.bl i, .ty "list"] H Q := iIsi (.ty "list") (.base (.bl i)) (kit_ty (b := "list") (by decide +kernel)) q
theorem is_str_int {i : Str} (q : Q (.bl false) H) : rIsi K [.str i, .ty "int"] H Q := iIsi (.ty "int") (.base (.str i)) (kit_ty (b := "int") (by decide +kernel)) q
theorem is_str_bool {i : Str} (q : Q (.bl false) H) : rIsi K [.str i, .ty "bool"] H Q := iIsi (.ty "bool") (.base (.str i)) (kit_ty (b := "bool") (by decide +kernel)) q
theorem is_str_str {i : Str} (q : Q (.bl true) H) : rIsi K [.str i, .ty "str"] H Q := iIsi (.ty "str") (.base (.str i)) (kit_ty (b := "str") (by decide +kernel)) q
theorem is_str_tuple {i : Str} (q : Q (.bl false) H) : rIsi K [.str i, .ty "tuple"] H Q := iIsi (.ty "tuple") (.base (.str i)) (kit_ty (b := "tuple") (by decide +kernel)) q
theorem is_str_list {i : Str} (q : Q (.bl false) H) : rIsi K [.str i, .ty "list"] H Q := iIsi (.ty "list") (.base (.str i)) (kit_ty (b := "list") (by decide +kernel)) q
theorem is_NoneType_int  (q : Q (.bl false) H) : rIsi K [.non, .ty "int"] H Q := iIsi (.ty "int") (.base .non) (kit_ty (b := "int") (by decide +kernel)) q
theorem is_NoneType_bool  (q : Q (.bl false) H) : rIsi K [.non, .ty "bool"] H Q := iIsi (.ty "bool") (.base .non) (kit_ty (b := "bool") (by decide +kernel)) q
theorem is_NoneType_str  (q : Q (.bl false) H) : rIsi K [.non, .ty "str"] H Q := iIsi (.ty "str") (.base .non) (kit_ty (b := "str") (by decide +kernel)) q
theorem is_NoneType_tuple  (q : Q (.bl false) H) : rIsi K [.non, .ty "tuple"] H Q := iIsi (.ty "tuple") (.base .non) (kit_ty (b := "tuple") (by decide +kernel)) q
theorem is_NoneType_list  (q : Q (.bl false) H) : rIsi K [.non, .ty "list"] H Q := iIsi (.ty "list") (.base .non) (kit_ty (b := "list") (by decide +kernel)) q
theorem is_tuple_int {xs : List V} (h : TU H v xs) (q : Q (.bl false) H) : rIsi K [v, .ty "int"] H Q := by
  obtain ⟨a, rfl, h⟩ := h
  exact iIsi (.ty "int") (.base (.tup h)) (kit_ty (b := "int") (by decide +kernel)) q
theorem is_tuple_bool {xs : List V} (h : TU H v xs) (q : Q (.bl false) H) : rIsi K [v, .ty "bool"] H Q := by
  obtain ⟨a, rfl, h⟩ := h
  exact iIsi (.ty "bool") (.base (.tup h)) (kit_ty (b := "bool") (by decide +kernel)) q
theorem is_tuple_str {xs : List V} (h : TU H v xs) (q : Q (.bl false) H) : rIsi K [v, .ty "str"] H Q := by
  obtain ⟨a, rfl, h⟩ := h
  exact iIsi (.ty "str") (.base (.tup h)) (kit_ty (b := "str") (by decide +kernel)) q
theorem is_tuple_tuple {xs : List V} (h : TU H v xs) (q : Q (.bl true) H) : rIsi K [v, .ty "tuple"] H Q := by
  obtain ⟨a, rfl, h⟩ := h
  exact iIsi (.ty "tuple") (.base (.tup h)) (kit_ty (b := "tuple") (by decide +kernel)) q
theorem is_tuple_list {xs : List V} (h : TU H v xs) (q : Q (.bl false) H) : rIsi K [v, .ty "list"] H Q := by
  obtain ⟨a, rfl, h⟩ := h
  exact iIsi (.ty "list") (.base (.tup h)) (kit_ty (b := "list") (by decide +kernel)) q
theorem is_list_int {xs : List V} (h : LS H v xs) (q : Q (.bl false) H) : rIsi K [v, .ty "int"] H Q := by
  obtain ⟨a, rfl, h⟩ := h
  exact iIsi (.ty "int") (.base (.lst h)) (kit_ty (b := "int") (by decide +kernel)) q
theorem is_list_bool {xs : List V} (h : LS H v xs) (q : Q (.bl false) H) : rIsi K [v, .ty "bool"] H Q := by
  obtain ⟨a, rfl, h⟩ := h
  exact iIsi (.ty "bool") (.base (.lst h)) (kit_ty (b := "bool") (by decide +kernel)) q
theorem is_list_str {xs : List V} (h : LS H v xs) (q : Q (.bl false) H) : rIsi K [v, .ty "str"] H Q := by
  obtain ⟨a, rfl, h⟩ := h
  exact iIsi (.ty "str") (.base (.lst h)) (kit_ty (b := "str") (by decide +kernel)) q
theorem is_list_tuple {xs : List V} (h : LS H v xs) (q : Q (.bl false) H) : rIsi K [v, .ty "tuple"] H Q := by
  obtain ⟨a, rfl, h⟩ := h
  exact iIsi (.ty "tuple") (.base (.lst h)) (kit_ty (b := "tuple") (by decide +kernel)) q
theorem is_list_list {xs : List V} (h : LS H v xs) (q : Q (.bl true) H) : rIsi K [v, .ty "list"] H Q := by
  obtain ⟨a, rfl, h⟩ := h
  exact iIsi (.ty "list") (.base (.lst h)) (kit_ty (b := "list") (by decide +kernel)) q
theorem iLenQ {a : Addr} {xs : List V} (h : SqL K H a xs) (q : Q (.int xs.length) H) : rLen1 K [.ref a] H Q := ⟨a, xs, rfl, .inl h, q⟩
theorem iIxQ {a : Addr} {xs : List V} {i : Int} (h : SqL K H a xs) (e : atI xs i = some y) (q : Q y H) : rIx K (.ref a) (.int i) H Q := .inl ⟨a, xs, i, y, rfl, rfl, h, e, q⟩
theorem iAbs {i : Int} (q : Q (.int (if i < 0 then -i else i)) H) : rAbs1 [.int i] H Q := ⟨i, rfl, q⟩
theorem iIntB {k : Bool} (q : Q (.int (if k = true then 1 else 0)) H) : rInt1 [.bl k] H Q := .inr ⟨k, rfl, q⟩
theorem iStrI {i : Int} (h : i.natAbs.log2 < 1920) (q : Q (.str (toString i)) H) : rStr1 [.int i] H Q := ⟨i, rfl, h, q⟩
theorem iMax2 {i j : Int} (q : Q (.int (if j > i then j else i)) H) : rMax1 [.int i, .int j] H Q := ⟨i, j, rfl, q⟩
theorem iAddS {i j : Str} (h : i.length + j.length ≤ 100000) (q : Q (.str (i ++ j)) H) : rAddS (.str i) (.str j) H Q := ⟨i, j, rfl, rfl, Nat.le_of_lt (lineK h), q⟩
theorem iIsN (q : Q (.bl (decide (x = .non))) H) : rIsN1 x .non H Q := ⟨rfl, q⟩
theorem pw (a b : Nat) (i : Int) (j : Int) (r : Int) (c : CPow i j) (e : i ^ j.toNat = r) (q : Q (.int r) H) : rI CPow (fun i j => .int (i ^ j.toNat)) (.int i) (.int j) H Q := ⟨i, j, rfl, rfl, c, by show Q (.int (i ^ j.toNat)) H; rw [e]; exact q⟩
theorem iP6 (q : Q (.int 1000000) H) : rI CPow (fun i j => .int (i ^ j.toNat)) (.int 10) (.int 6) H Q := pw 0 0 10 6 _ ⟨by decide, by decide, by decide⟩ (by decide +kernel) q
theorem iP10 (q : Q (.int 10000000000) H) : rI CPow (fun i j => .int (i ^ j.toNat)) (.int 10) (.int 10) H Q := pw 0 0 10 10 _ ⟨by decide, by decide, by decide⟩ (by decide +kernel) q
theorem iP12 (q : Q (.int 1000000000000) H) : rI CPow (fun i j => .int (i ^ j.toNat)) (.int 10) (.int 12) H Q := pw 0 0 10 12 _ ⟨by decide, by decide, by decide⟩ (by decide +kernel) q
theorem iP14 (q : Q (.int 100000000000000) H) : rI CPow (fun i j => .int (i ^ j.toNat)) (.int 10) (.int 14) H Q := pw 0 0 10 14 _ ⟨by decide, by decide, by decide⟩ (by decide +kernel) q
theorem iP15 (q : Q (.int 1000000000000000) H) : rI CPow (fun i j => .int (i ^ j.toNat)) (.int 10) (.int 15) H Q := pw 0 0 10 15 _ ⟨by decide, by decide, by decide⟩ (by decide +kernel) q
theorem iP30 (q : Q (.int 1000000000000000000000000000000) H) : rI CPow (fun i j => .int (i ^ j.toNat)) (.int 10) (.int 30) H Q := pw 0 0 10 30 _ ⟨by decide, by decide, by decide⟩ (by decide +kernel) q
theorem iP45 (q : Q (.int 1000000000000000000000000000000000000000000000) H) : rI CPow (fun i j => .int (i ^ j.toNat)) (.int 10) (.int 45) H Q := pw 0 0 10 45 _ ⟨by decide, by decide, by decide⟩ (by decide +kernel) q
/-! == of data -/
theorem dpInts : ∀ ns : List Int, DpAll K H (ns.map V.int) (ns.map PyData.int)
  | [] => .nil
  | n :: ns => .cons (.int n) (dpInts ns)
theorem dpN {a b : Int} (h : N2 H v a b) : Dp K H v (.tuple ([a, b].map PyData.int)) := by
  obtain ⟨p, rfl, h⟩ := h
  exact .tup (SqT.of h) (dpInts [a, b])
theorem dpL {ns : List Int} (h : LI H v ns) : Dp K H v (.list (ns.map PyData.int)) := by
  obtain ⟨p, rfl, h⟩ := h
  exact .lst (SqL.of h) (dpInts ns)
theorem eqvInts : ∀ ns ms : List Int, PyData.eqvAll (ns.map PyData.int) (ms.map PyData.int) = decide (ns = ms)
  | [], [] => by simp [PyData.eqvAll]
  | [], _ :: _ => by simp [PyData.eqvAll]
  | _ :: _, [] => by simp [PyData.eqvAll]
  | n :: ns, m :: ms => by
    have h0 : PyData.eqvAll ((n :: ns).map PyData.int) ((m :: ms).map PyData.int) = (PyData.eqv (.int n) (.int m) && PyData.eqvAll (ns.map PyData.int) (ms.map PyData.int)) := by simp only [List.map_cons, PyData.eqvAll]
    have h1 : PyData.eqv (.int n) (.int m) = (n == m) := by simp only [PyData.eqv]
    rw [h0, eqvInts ns ms, h1]
    by_cases h1 : n = m
    · by_cases h2 : ns = ms
      · subst h1 h2; simp
      · have : ¬ (n :: ns = m :: ms) := fun z => h2 (List.cons.inj z).2
        simp [h1, h2]
    · have : ¬ (n :: ns = m :: ms) := fun z => h1 (List.cons.inj z).1
      simp [h1]
theorem clInts : ∀ ns : List Int, PyData.canLayAll0 (ns.map PyData.int) = true
  | [] => by simp [PyData.canLayAll0]
  | n :: ns => by
    have q := clInts ns
    simp only [List.map_cons, PyData.canLayAll0, PyData.canLay0, Bool.true_and]
    exact q
theorem dpInts0 : ∀ ns : List Int, PyData.depthAll (ns.map PyData.int) = 0
  | [] => by simp [PyData.depthAll]
  | n :: ns => by
    have q := dpInts0 ns
    simp only [List.map_cons, PyData.depthAll, PyData.depth, q]
    rfl
theorem shT (ns : List Int) : SeqAt.shaped (.tuple (ns.map PyData.int)) = true := by
  unfold SeqAt.shaped
  simp only [PyData.canLay0, PyData.depth, clInts ns, dpInts0 ns]
  rfl
theorem shL (ns : List Int) : SeqAt.shaped (.list (ns.map PyData.int)) = true := by
  unfold SeqAt.shaped
  simp only [PyData.canLay0, PyData.depth, clInts ns, dpInts0 ns]
  rfl
theorem eqvT (ns ms : List Int) : PyData.eqv (.tuple (ns.map PyData.int)) (.tuple (ms.map PyData.int)) = decide (ns = ms) := by
  have h : PyData.eqv (.tuple (ns.map PyData.int)) (.tuple (ms.map PyData.int)) = PyData.eqvAll (ns.map PyData.int) (ms.map PyData.int) := by simp only [PyData.eqv]
  rw [h, eqvInts]
theorem eqvL (ns ms : List Int) : PyData.eqv (.list (ns.map PyData.int)) (.list (ms.map PyData.int)) = decide (ns = ms) := by
  have h : PyData.eqv (.list (ns.map PyData.int)) (.list (ms.map PyData.int)) = PyData.eqvAll (ns.map PyData.int) (ms.map PyData.int) := by simp only [PyData.eqv]
  rw [h, eqvInts]
theorem iEqN {a b c d : Int} (h1 : N2 H x a b) (h2 : N2 H y c d) (q : Q (.bl (decide ([a, b] = [c, d]))) H) : rEqD K x y H Q :=
  ⟨_, _, dpN h1, dpN h2, shT _, shT _, by rw [eqvT]; exact q⟩
theorem iNeN {a b c d : Int} (h1 : N2 H x a b) (h2 : N2 H y c d) (q : Q (.bl (!decide ([a, b] = [c, d]))) H) : rNeD K x y H Q :=
  ⟨_, _, dpN h1, dpN h2, shT _, shT _, by rw [eqvT]; exact q⟩
theorem dpR {H : Hp} {v x y : V} {xs ys : List Int} (h : LS H v [x, y]) (h1 : LI H x xs) (h2 : LI H y ys) : Dp K H v (.list [.list (xs.map PyData.int), .list (ys.map PyData.int)]) := by
  obtain ⟨p, rfl, h⟩ := h
  exact .lst (SqL.of h) (.cons (dpL h1) (.cons (dpL h2) .nil))
theorem shR (xs ys : List Int) : SeqAt.shaped (.list [.list (xs.map PyData.int), .list (ys.map PyData.int)]) = true := by
  unfold SeqAt.shaped
  simp only [PyData.canLay0, PyData.canLayAll0, PyData.depth, PyData.depthAll, clInts, dpInts0]
  rfl
theorem eqvR (xs ys : List Int) : PyData.eqv (.list [.list (xs.map PyData.int), .list (ys.map PyData.int)]) (.list [.list (xs.map PyData.int), .list (ys.map PyData.int)]) = true := by
  simp only [PyData.eqv, PyData.eqvAll, eqvInts]
  simp
theorem iEqDI {i j : Int} (q : Q (.bl (decide (i = j))) H) : rEqD K (.int i) (.int j) H Q := by
  refine ⟨_, _, .int i, .int j, rfl, rfl, ?_⟩
  have e : PyData.eqv (.int i) (.int j) = decide (i = j) := by
    have h1 : PyData.eqv (.int i) (.int j) = (i == j) := by simp only [PyData.eqv]
    rw [h1]
    by_cases h : i = j
    · subst h; simp
    · rw [decide_eq_false h]; exact beq_eq_false_iff_ne.mpr h
  rw [e]
  exact q
/-- [x, y] against [z, w] of the same lists -/
theorem iEqR {a b x' y' : V} {xs ys : List Int} (h1 : LS H a [x, y]) (h2 : LS H b [x', y']) (k1 : LI H x xs) (k2 : LI H y ys) (k3 : LI H x' xs) (k4 : LI H y' ys) (q : Q (.bl true) H) : rEqD K a b H Q :=
  ⟨_, _, dpR h1 k1 k2, dpR h2 k3 k4, shR _ _, shR _ _, by rw [eqvR]; exact q⟩
theorem iNeR {a b x' y' : V} {xs ys : List Int} (h1 : LS H a [x, y]) (h2 : LS H b [x', y']) (k1 : LI H x xs) (k2 : LI H y ys) (k3 : LI H x' xs) (k4 : LI H y' ys) (q : Q (.bl (!true)) H) : rNeD K a b H Q :=
  ⟨_, _, dpR h1 k1 k2, dpR h2 k3 k4, shR _ _, shR _ _, by rw [eqvR]; exact q⟩
theorem iEqL {ns ms : List Int} (h1 : LI H x ns) (h2 : LI H y ms) (q : Q (.bl (decide (ns = ms))) H) : rEqD K x y H Q :=
  ⟨_, _, dpL h1, dpL h2, shL _, shL _, by rw [eqvL]; exact q⟩
theorem iNeL {ns ms : List Int} (h1 : LI H x ns) (h2 : LI H y ms) (q : Q (.bl (!decide (ns = ms))) H) : rNeD K x y H Q :=
  ⟨_, _, dpL h1, dpL h2, shL _, shL _, by rw [eqvL]; exact q⟩
end
/-! ### what is caught -/
theorem pss_exc {X : Cx} {K : PySem.W.Frag} {st : List Stmt} {cls : Value} {d : Option Addr} {t : Addr → TS} (h : ∀ Dc, cls = .ref Dc → d = none → ExcC K Dc → PSs X st (t Dc)) :
    PSs X st (fun D σ H => ∃ Dc, (cls = .ref Dc ∧ d = none ∧ ExcC K Dc) ∧ t Dc D σ H) := ⟨fun pins s σ H D I ⟨Dc, ⟨h1, h2, h3⟩, q⟩ => (h Dc h1 h2 h3).run pins s σ H D I q⟩
theorem zc_of {cls : Value} {d : Option Addr} {Dc : Addr} {oe : Obj} (e1 : cls = .ref Dc) (e2 : d = none) (h : Zc cls d oe) : Zc (.ref Dc) none oe := by subst e1 e2; exact h
theorem iWAs {K : PySem.W.Frag} {R : Addr} {c : Value} {i : Nat} {ts : Addr → Value → Option Addr → TS} {Wout : WX} {D : Ends} {σ : St} {H : Hp} (h : PySem.W.exmOne K (.ref R) c = some true)
    (q : ∀ a, H a = none → ts a (.ref R) none { nx := fun σ' H' => D.nx (σ'.set i none) H', rt := D.rt, bk := fun σ' H' => D.bk (σ'.set i none) H', ct := fun σ' H' => D.ct (σ'.set i none) H' } (σ.set i (some (.ref a))) H) : WE (wAs K c i ts Wout D) σ (.ref R) none H :=
  ⟨true, h, fun _ => q, fun z => nomatch z⟩
theorem iIsE {K : PySem.W.Frag} {D a A : Addr} {b : Bool} {H : Hp} {Q : VK} (k : PySem.W.kitOne K (.ref D) (.ref A) = some b) (q : Q (.bl b) H) : rIsE K D a [.ref a, .ref A] H Q := ⟨.ref A, .ref A, b, rfl, fun _ h => h, k, q⟩
theorem iIsET {K : PySem.W.Frag} {D a : Addr} {n : String} {b : Bool} {H : Hp} {Q : VK} (k : PySem.W.kitOne K (.ref D) (.type n) = some b) (q : Q (.bl b) H) : rIsE K D a [.ref a, .ty n] H Q := ⟨.ty n, .type n, b, rfl, fun _ h => h, k, q⟩
theorem exm_of {K : PySem.W.Frag} {R G : Addr} (h1 : PySem.W.subIn K (.ref G) (.type "BaseException") = some true) (h2 : PySem.W.hasDictIn K G = true) (h3 : PySem.W.typeIn K (.ref G) = some (.type "type")) (h4 : PySem.W.subIn K (.ref R) (.ref G) = some true) : PySem.W.exmOne K (.ref R) (.ref G) = some true := PySem.W.exm_ref h1 h2 h3 h4

/-! ### loops -/
section
variable {K : PySem.W.Frag} {σ : St} {H : Hp} {g : TG} {tb : TS} {D : Ends} {x v : V}
def RF1 (g : TG) (tb : TS) (D : Ends) (σ : St) (vs : List V) (H1 : Hp) : Prop := ∃ j : Int, vs = [.int j] ∧ -(2 ^ 62) ≤ j ∧ j < 2 ^ 62 ∧ ∃ W : Nat → Nat → St → Hp → Prop, (∃ m, W 0 m σ H1) ∧ ∀ i m σ H, W i m σ H →
  ((Itr 0 j.toNat).stop i H ∧ D.nx σ H) ∨ ((Itr 0 j.toNat).go i H ∧ ∃ N : St → Hp → Prop, (∀ σ' H', N σ' H' → ∃ m', m' < m ∧ W (i + 1) m' σ' H') ∧ ∀ x H', (Itr 0 j.toNat).yld i H x H' → g x σ H' fun σ2 H2 => tb { D with nx := N, ct := N, bk := D.nx } σ2 H2)
theorem iForR {ta : TA} (q : ta σ H fun vs H1 => RF1 g tb D σ vs H1) : tFor (iRng1 ta) g tb D σ H := q
theorem iRF1 {s : Nat} {j : Int} (b : j < 2 ^ 62 ∧ -(2 ^ 62) ≤ j) (Pv : Nat → St → Hp → Prop) (h0 : Pv 0 σ H)
    (hs : ∀ (i : Nat) σ H, i < j.toNat → Pv i σ H → tb { D with nx := Pv (i + 1), ct := Pv (i + 1), bk := D.nx } (σ.set s (some (.int (i : Nat)))) H) (hd : ∀ σ H, Pv j.toNat σ H → D.nx σ H) : RF1 (gName s) tb D σ [.int j] H :=
  ⟨j, rfl, b.2, b.1, for_range (lo := 0) (n := j.toNat) Pv h0 (fun i σ H hi p => by
    show tb _ (σ.set s (some (.int (0 + (i : Int))))) H
    rw [Int.zero_add]
    exact hs i σ H hi p) hd⟩
def RF3 (g : TG) (tb : TS) (D : Ends) (σ : St) (vs : List V) (H1 : Hp) : Prop := ∃ (i0 j c : Int) (n : Nat), vs = [.int i0, .int j, .int c] ∧ RgC i0 j c n ∧ ∃ W : Nat → Nat → St → Hp → Prop, (∃ m, W 0 m σ H1) ∧ ∀ i m σ H, W i m σ H →
  ((Itc i0 c n).stop i H ∧ D.nx σ H) ∨ ((Itc i0 c n).go i H ∧ ∃ N : St → Hp → Prop, (∀ σ' H', N σ' H' → ∃ m', m' < m ∧ W (i + 1) m' σ' H') ∧ ∀ x H', (Itc i0 c n).yld i H x H' → g x σ H' fun σ2 H2 => tb { D with nx := N, ct := N, bk := D.nx } σ2 H2)
theorem iForR3 {ta : TA} (q : ta σ H fun vs H1 => RF3 g tb D σ vs H1) : tFor (iRng3 ta) g tb D σ H := q
/-- range(i0, j, -1) -/
theorem iRF3 {s : Nat} {i0 j : Int} (b : -(2 ^ 62) ≤ i0 ∧ i0 < 2 ^ 62 ∧ -(2 ^ 62) ≤ j ∧ j < 2 ^ 62) (Pv : Nat → St → Hp → Prop) (h0 : Pv 0 σ H)
    (hs : ∀ (i : Nat) σ H, i < (i0 - j).toNat → Pv i σ H → tb { D with nx := Pv (i + 1), ct := Pv (i + 1), bk := D.nx } (σ.set s (some (.int (i0 - (i : Nat))))) H) (hd : ∀ σ H, Pv (i0 - j).toNat σ H → D.nx σ H) : RF3 (gName s) tb D σ [.int i0, .int j, .int (-1)] H :=
  ⟨i0, j, -1, (i0 - j).toNat, rfl, RgC.neg b.1 b.2.1 b.2.2.1 b.2.2.2, for_rangeC (lo := i0) (c := -1) (n := (i0 - j).toNat) Pv h0 (fun i σ H hi p => by
    show tb _ (σ.set s (some (.int (i0 + (i : Nat) * -1)))) H
    rw [show i0 + ((i : Nat) : Int) * -1 = i0 - (i : Nat) by omega]
    exact hs i σ H hi p) hd⟩
def FL (K : PySem.W.Frag) (g : TG) (tb : TS) (D : Ends) (σ : St) (x : V) (H1 : Hp) : Prop := ∃ a, x = .ref a ∧ (∃ xs, SqL K H1 a xs) ∧ ∃ W : Nat → Nat → St → Hp → Prop, (∃ m, W 0 m σ H1) ∧ ∀ i m σ H, W i m σ H →
  ((Itl K a).stop i H ∧ D.nx σ H) ∨ ((Itl K a).go i H ∧ ∃ N : St → Hp → Prop, (∀ σ' H', N σ' H' → ∃ m', m' < m ∧ W (i + 1) m' σ' H') ∧ ∀ x H', (Itl K a).yld i H x H' → g x σ H' fun σ2 H2 => tb { D with nx := N, ct := N, bk := D.nx } σ2 H2)
theorem iForL {tl : TE} (q : tl σ H fun x H1 => FL K g tb D σ x H1) : tFor (iList K tl) g tb D σ H := q
theorem iFL {s : Nat} {xs : List V} (h : LS H v xs) (Pv : Nat → St → Hp → Prop) (h0 : Pv 0 σ H) (hk : ∀ i σ H', Pv i σ H' → LS H' v xs)
    (hs : ∀ (i : Nat) y σ H, xs[i]? = some y → Pv i σ H → tb { D with nx := Pv (i + 1), ct := Pv (i + 1), bk := D.nx } (σ.set s (some y)) H) (hd : ∀ σ H, Pv xs.length σ H → D.nx σ H) : FL K (gName s) tb D σ v H := by
  obtain ⟨a, rfl, h⟩ := h
  refine ⟨a, rfl, ⟨xs, SqL.of h⟩, for_list (K := K) (a := a) (xs := xs) Pv h0 (fun i σ H _ p => ?_) (fun i y σ H e p => hs i y σ H e p) hd⟩
  obtain ⟨a', e, q⟩ := hk i σ H p
  cases e
  exact SqL.of q
def FT (K : PySem.W.Frag) (g : TG) (tb : TS) (D : Ends) (σ : St) (x : V) (H1 : Hp) : Prop := ∃ a, x = .ref a ∧ (∃ xs, SqT K H1 a xs) ∧ ∃ W : Nat → Nat → St → Hp → Prop, (∃ m, W 0 m σ H1) ∧ ∀ i m σ H, W i m σ H →
  ((Itt K a).stop i H ∧ D.nx σ H) ∨ ((Itt K a).go i H ∧ ∃ N : St → Hp → Prop, (∀ σ' H', N σ' H' → ∃ m', m' < m ∧ W (i + 1) m' σ' H') ∧ ∀ x H', (Itt K a).yld i H x H' → g x σ H' fun σ2 H2 => tb { D with nx := N, ct := N, bk := D.nx } σ2 H2)
theorem iForT {tl : TE} (q : tl σ H fun x H1 => FT K g tb D σ x H1) : tFor (L2.iTup K tl) g tb D σ H := q
theorem iFT {s : Nat} {xs : List V} (h : TU H v xs) (Pv : Nat → St → Hp → Prop) (h0 : Pv 0 σ H) (hk : ∀ i σ H', Pv i σ H' → TU H' v xs)
    (hs : ∀ (i : Nat) y σ H, xs[i]? = some y → Pv i σ H → tb { D with nx := Pv (i + 1), ct := Pv (i + 1), bk := D.nx } (σ.set s (some y)) H) (hd : ∀ σ H, Pv xs.length σ H → D.nx σ H) : FT K (gName s) tb D σ v H := by
  obtain ⟨a, rfl, h⟩ := h
  refine ⟨a, rfl, ⟨xs, SqT.of h⟩, for_tup (K := K) (a := a) (xs := xs) Pv h0 (fun i σ H _ p => ?_) (fun i y σ H e p => hs i y σ H e p) hd⟩
  obtain ⟨a', e, q⟩ := hk i σ H p
  cases e
  exact SqT.of q
/-! comprehensions -/
def LcT (D : Addr) (P : Hp → Prop) (y : V) (H4 : Hp) : Prop := ∃ acc, H4 D = some (.lst acc) ∧ acc.length < sizeLine ∧ P (upd H4 D (.lst (acc ++ [y])))
def LcB (te : TE) (σ2 : St) (D : Addr) (P : Hp → Prop) (b : Bool) (H3 : Hp) : Prop := if b = true then te σ2 H3 fun y H4 => LcT D P y H4 else P H3
theorem iLcBT {te : TE} {P : Hp → Prop} {D : Addr} (q : te σ H fun y H4 => LcT D P y H4) : LcB te σ D P true H := iteT q
theorem iLcBd {te : TE} {P : Hp → Prop} {D : Addr} {p : Prop} [Decidable p] (h1 : p → te σ H fun y H4 => LcT D P y H4) (h2 : ¬ p → P H) : LcB te σ D P (decide p) H := by
  unfold LcB
  exact iIf h1 h2
theorem iLcBF {te : TE} {P : Hp → Prop} {D : Addr} (q : P H) : LcB te σ D P false H := iteF q
theorem iLcTI {P : Hp → Prop} {D : Addr} {ns : List Int} {y : Int} (h : LK H D ns) (hl : ns.length ≤ 100000) (q : P (upd H D (.lst ((ns ++ [y]).map V.int)))) : LcT D P (.int y) H :=
  ⟨_, h, by rw [List.length_map]; exact lineK hl, by rw [List.map_append] at q; exact q⟩
theorem iYes {Q : Bool → Hp → Prop} (q : Q true H) : tYes σ H Q := q
def RLc (g : TG) (tt : L2.TT) (te : TE) (vs : List Nat) (σ : St) (as : List V) (H1 : Hp) (Q : VK) : Prop := ∃ j : Int, as = [.int j] ∧ -(2 ^ 62) ≤ j ∧ j < 2 ^ 62 ∧ ∀ D, H1 D = none → ∃ W : Nat → Nat → Hp → Prop, (∃ m, W 0 m (upd H1 D (.lst []))) ∧ ∀ i m H, W i m H →
  ((Itr 0 j.toNat).stop i H ∧ Q (.ref D) H) ∨ ((Itr 0 j.toNat).go i H ∧ ∃ Nx : Hp → Prop, (∀ H', Nx H' → ∃ m', m' < m ∧ W (i + 1) m' H') ∧ ∀ x H', (Itr 0 j.toNat).yld i H x H' → g x (wipe σ vs) H' fun σ2 H2 => wipe σ2 vs = wipe σ vs ∧ tt σ2 H2 fun b H3 =>
    if b = true then te σ2 H3 fun y H4 => ∃ acc, H4 D = some (.lst acc) ∧ acc.length < sizeLine ∧ Nx (upd H4 D (.lst (acc ++ [y]))) else Nx H3)
theorem iLcR {ta : TA} {tt : L2.TT} {te : TE} {vs : List Nat} {Q : VK} (q : ta σ H fun as H1 => RLc g tt te vs σ as H1 Q) : tLc (iRng1 ta) g tt te vs σ H Q := q
theorem iRLc {s : Nat} {tt : L2.TT} {te : TE} {vs : List Nat} {Q : VK} {j : Int} (b : j < 2 ^ 62 ∧ -(2 ^ 62) ≤ j) (Pv : Addr → Nat → Hp → Prop) (h0 : ∀ D, H D = none → Pv D 0 (upd H D (.lst [])))
    (hw : ∀ i : Nat, wipe ((wipe σ vs).set s (some (.int (i : Nat)))) vs = wipe σ vs)
    (hs : ∀ D (i : Nat) H', H D = none → i < j.toNat → Pv D i H' → tt ((wipe σ vs).set s (some (.int (i : Nat)))) H' fun b H3 => LcB te ((wipe σ vs).set s (some (.int (i : Nat)))) D (Pv D (i + 1)) b H3)
    (hd : ∀ D H', H D = none → Pv D j.toNat H' → Q (.ref D) H') : RLc (gName s) tt te vs σ [.int j] H Q :=
  ⟨j, rfl, b.2, b.1, fun D hD => lc_range (lo := 0) (n := j.toNat) (Pv D) (h0 D hD) (fun i H' hi p => by
    have e : (0 : Int) + (i : Nat) = (i : Nat) := Int.zero_add _
    show wipe ((wipe σ vs).set s (some (.int (0 + (i : Nat))))) vs = wipe σ vs ∧ tt ((wipe σ vs).set s (some (.int (0 + (i : Nat))))) H' _
    rw [e]
    exact ⟨hw i, hs D i H' hD hi p⟩) (fun H' p => hd D H' hD p)⟩
def LLc (K : PySem.W.Frag) (g : TG) (tt : L2.TT) (te : TE) (vs : List Nat) (σ : St) (x : V) (H1 : Hp) (Q : VK) : Prop := ∃ a, x = .ref a ∧ (∃ xs, SqL K H1 a xs) ∧ ∀ D, H1 D = none → ∃ W : Nat → Nat → Hp → Prop, (∃ m, W 0 m (upd H1 D (.lst []))) ∧ ∀ i m H, W i m H →
  ((Itl K a).stop i H ∧ Q (.ref D) H) ∨ ((Itl K a).go i H ∧ ∃ Nx : Hp → Prop, (∀ H', Nx H' → ∃ m', m' < m ∧ W (i + 1) m' H') ∧ ∀ x H', (Itl K a).yld i H x H' → g x (wipe σ vs) H' fun σ2 H2 => wipe σ2 vs = wipe σ vs ∧ tt σ2 H2 fun b H3 =>
    if b = true then te σ2 H3 fun y H4 => ∃ acc, H4 D = some (.lst acc) ∧ acc.length < sizeLine ∧ Nx (upd H4 D (.lst (acc ++ [y]))) else Nx H3)
theorem iLcL {tl : TE} {tt : L2.TT} {te : TE} {vs : List Nat} {Q : VK} (q : tl σ H fun x H1 => LLc K g tt te vs σ x H1 Q) : tLc (iList K tl) g tt te vs σ H Q := q
theorem iLLc {s : Nat} {tt : L2.TT} {te : TE} {vs : List Nat} {Q : VK} {ns : List Int} (h : LI H v ns) (Pv : Addr → Nat → Hp → Prop) (h0 : ∀ D, H D = none → Pv D 0 (upd H D (.lst [])))
    (hk : ∀ D i H', H D = none → Pv D i H' → Same H H')
    (hw : ∀ y : Int, wipe ((wipe σ vs).set s (some (.int y))) vs = wipe σ vs)
    (hs : ∀ D (i : Nat) y H', H D = none → ns[i]? = some y → Pv D i H' → tt ((wipe σ vs).set s (some (.int y))) H' fun b H3 => LcB te ((wipe σ vs).set s (some (.int y))) D (Pv D (i + 1)) b H3)
    (hd : ∀ D H', H D = none → Pv D ns.length H' → Q (.ref D) H') : LLc K (gName s) tt te vs σ v H Q := by
  obtain ⟨a, rfl, h⟩ := h
  refine ⟨a, rfl, ⟨_, SqL.of h⟩, fun D hD => lc_list (K := K) (a := a) (xs := ns.map V.int) (Pv D) (h0 D hD) (fun i H' _ p => SqL.of (hk D i H' hD p _ _ h)) (fun i x H' e p => ?_) (fun H' p => hd D H' hD (by rw [List.length_map] at p; exact p))⟩
  rw [List.getElem?_map] at e
  obtain ⟨y, hy, rfl⟩ := Option.map_eq_some_iff.mp e
  exact ⟨hw y, hs D i y H' hD hy p⟩
def WhB (tb : TS) (D : Ends) (W : Nat → St → Hp → Prop) (m : Nat) (σ : St) (b : Bool) (H1 : Hp) : Prop :=
  if b = true then ∃ N : St → Hp → Prop, (∀ σ' H', N σ' H' → ∃ m', m' < m ∧ W m' σ' H') ∧ tb { D with nx := N, ct := N, bk := D.nx } σ H1 else D.nx σ H1
theorem iWhile {c : L2.TT} (W : Nat → St → Hp → Prop) (h0 : ∃ m, W m σ H) (hs : ∀ m σ H, W m σ H → c σ H fun b H1 => WhB tb D W m σ b H1) : tWhile c tb D σ H := ⟨W, h0, hs⟩
theorem iWh {W : Nat → St → Hp → Prop} {m : Nat} {p : Prop} [Decidable p] (h1 : p → tb { D with nx := fun σ' H' => ∃ m', m' < m ∧ W m' σ' H', ct := fun σ' H' => ∃ m', m' < m ∧ W m' σ' H', bk := D.nx } σ H) (h2 : ¬ p → D.nx σ H) : WhB tb D W m σ (decide p) H := by
  unfold WhB
  by_cases h : p
  · rw [decide_eq_true h]; exact iteT ⟨_, fun _ _ q => q, h1 h⟩
  · rw [decide_eq_false h]; exact iteF (h2 h)
theorem iWhN {W : Nat → St → Hp → Prop} {m : Nat} {p : Prop} [Decidable p] (h1 : ¬ p → tb { D with nx := fun σ' H' => ∃ m', m' < m ∧ W m' σ' H', ct := fun σ' H' => ∃ m', m' < m ∧ W m' σ' H', bk := D.nx } σ H) (h2 : p → D.nx σ H) : WhB tb D W m σ (!decide p) H := by
  unfold WhB
  by_cases h : p
  · rw [decide_eq_true h]; exact iteF (h2 h)
  · rw [decide_eq_false h]; exact iteT ⟨_, fun _ _ q => q, h1 h⟩
end
end GP

/-! ### the walk over a reading: walk_at "go" -/
local macro_rules | `(tactic| walk_at "hp") => `(tactic| first
  | assumption
  | (apply GP.TU.same; assumption; walk_at "hp")
  | (apply GP.LS.same; assumption; walk_at "hp")
  | (apply GP.SqL_same; assumption; walk_at "hp")
  | (apply GP.LK.same; assumption; walk_at "hp")
  | exact GP.LK.new
  | ((with_reducible apply GP.LK.ls); walk_at "hp")
  | ((with_reducible apply GP.TU.app); walk_at "hp"; walk_at "hp")
  | (apply GP.TU.same; (with_reducible apply GP.same_app); assumption; walk_at "sm"; walk_at "hp")
  | (apply GP.LS.same; (with_reducible apply GP.same_app); assumption; walk_at "sm"; walk_at "hp")
  | (apply GP.SqL_same; (with_reducible apply GP.same_app); assumption; walk_at "sm"; walk_at "hp"))
local macro_rules | `(tactic| walk_at "sm") => `(tactic| first
  | assumption
  | exact L2.Same.refl _
  | (apply GP.Same.back; assumption; walk_at "sm")
  | ((with_reducible apply GP.same_app); assumption; walk_at "sm"))
local macro_rules | `(tactic| walk_at "side") => `(tactic| first
  | assumption
  | exact Or.inl (Or.inl ⟨by decide, by decide⟩)
  | exact Or.inl (Or.inr ⟨by decide, by decide⟩)
  | exact Or.inl ⟨by decide, by decide⟩
  | exact ⟨by decide, by decide, by decide⟩
  | exact Or.inl (Or.inl ⟨by omega, by omega⟩)
  | exact Or.inl (Or.inr ⟨by omega, by omega⟩)
  | (show (0 : Int) < _; first | decide | omega)
  | exact Or.inl ⟨by omega, by omega⟩
  | exact Or.inr (by assumption))
local macro_rules | `(tactic| walk_at "lb") => `(tactic| first
  | ((with_reducible refine GP.len_cut ?_); walk_at "lb")
  | ((with_reducible refine GP.len_app ?_ ?_) <;> walk_at "lb")
  | omega
  | (simp only [List.length_cons, List.length_nil]; omega))
local macro_rules | `(tactic| walk_at "len") => `(tactic| ((with_reducible refine GP.len_two ?_ ?_) <;> walk_at "lb"))
local macro_rules | `(tactic| walk_at "eqs") => `(tactic| fail "no equation")
local macro_rules | `(tactic| walk_at "callee") => `(tactic| fail "no callee")
local macro_rules | `(tactic| walk_at "step") => `(tactic| first
  | ((with_reducible refine' GP.iVar ?h ?_); (case h => exact rfl))
  | with_reducible refine GP.iC ?_
  | with_reducible refine GP.iOp ?_
  | with_reducible refine GP.iUn ?_
  | with_reducible refine GP.iI0 ?_
  | with_reducible refine GP.iP6 ?_
  | with_reducible refine GP.iP10 ?_
  | with_reducible refine GP.iP12 ?_
  | with_reducible refine GP.iP14 ?_
  | with_reducible refine GP.iP15 ?_
  | with_reducible refine GP.iP30 ?_
  | with_reducible refine GP.iP45 ?_
  | ((with_reducible refine GP.iI ?h ?_); (case h => walk_at "side"))
  | with_reducible refine GP.iU ?_
  | with_reducible refine GP.iCons ?_
  | with_reducible refine GP.iNil ?_
  | with_reducible refine GP.iSeq ?_
  | with_reducible refine GP.iAsg ?_
  | with_reducible refine GP.iDrop ?_
  | with_reducible refine GP.iRet ?_
  | with_reducible refine GP.iRetN ?_
  | with_reducible refine GP.iIfS ?_
  | with_reducible refine GP.iNext ?_
  | with_reducible refine GP.iTest ?_
  | with_reducible refine GP.iTB ?_
  | with_reducible refine GP.iBl ?_
  | with_reducible refine GP.iNot ?_
  | with_reducible refine GP.iAnd ?_
  | with_reducible refine GP.iOr ?_
  | with_reducible refine GP.iAndV ?_
  | with_reducible refine GP.iOrV ?_
  | with_reducible refine GP.iNotV ?_
  | with_reducible refine GP.iEqI ?_
  | with_reducible refine GP.iNeI ?_
  | with_reducible refine GP.iEqB ?_
  | with_reducible refine GP.iNeB ?_
  | with_reducible refine GP.iEqS ?_
  | with_reducible refine GP.iNeS ?_
  | with_reducible refine GP.iCall ?_
  | with_reducible refine GP.iCallS ?_
  | with_reducible refine GP.iCB ?_
  | with_reducible refine GP.iForR ?_
  | with_reducible refine GP.iForR3 ?_
  | with_reducible refine GP.iForL ?_
  | with_reducible refine GP.iLcR ?_
  | with_reducible refine GP.iLcL ?_
  | with_reducible refine GP.iYes ?_
  | with_reducible refine GP.iLcBT ?_
  | with_reducible refine GP.iLcBF ?_
  | ((with_reducible refine' GP.iLcTI ?h ?hl ?_); (case h => walk_at "hp"); (case hl => omega))
  | with_reducible refine GP.iForT ?_
  | with_reducible refine GP.iTup ?_
  | with_reducible refine GP.iBM ?_
  | ((with_reducible refine' GP.iBMl ?h ?_); (case h => walk_at "hp"))
  | ((with_reducible refine' GP.iAppI ?h ?hl ?_); (case h => walk_at "hp"); (case hl => omega))
  | with_reducible refine GP.iLst ?_
  | ((with_reducible refine GP.iMkT ?_ ?hl); (case hl => exact rfl); intro _ _ _ _)
  | ((with_reducible refine GP.iMkI1 ?_); intro _ _ _ _)
  | ((with_reducible refine GP.iMkI2 ?_); intro _ _ _ _)
  | ((with_reducible refine GP.iMkL ?_ ?hl); (case hl => exact rfl); intro _ _ _ _)
  | ((with_reducible refine' GP.iIxT ?h ?e ?_); (case h => walk_at "hp"); (case e => exact rfl))
  | ((with_reducible refine' GP.iLenI ?h ?_); (case h => walk_at "hp"))
  | ((with_reducible refine' GP.iLenT ?h ?_); (case h => walk_at "hp"))
  | ((with_reducible refine' GP.iLenL ?h ?_); (case h => walk_at "hp"))
  | with_reducible refine GP.is_int_int ?_
  | with_reducible refine GP.is_int_bool ?_
  | with_reducible refine GP.is_int_str ?_
  | with_reducible refine GP.is_int_tuple ?_
  | with_reducible refine GP.is_int_list ?_
  | with_reducible refine GP.is_bool_int ?_
  | with_reducible refine GP.is_bool_bool ?_
  | with_reducible refine GP.is_bool_str ?_
  | with_reducible refine GP.is_bool_tuple ?_
  | with_reducible refine GP.is_bool_list ?_
  | with_reducible refine GP.is_str_int ?_
  | with_reducible refine GP.is_str_bool ?_
  | with_reducible refine GP.is_str_str ?_
  | with_reducible refine GP.is_str_tuple ?_
  | with_reducible refine GP.is_str_list ?_
  | with_reducible refine GP.is_NoneType_int ?_
  | with_reducible refine GP.is_NoneType_bool ?_
  | with_reducible refine GP.is_NoneType_str ?_
  | with_reducible refine GP.is_NoneType_tuple ?_
  | with_reducible refine GP.is_NoneType_list ?_
  | ((with_reducible refine' GP.is_tuple_int ?h ?_); (case h => walk_at "hp"))
  | ((with_reducible refine' GP.is_tuple_bool ?h ?_); (case h => walk_at "hp"))
  | ((with_reducible refine' GP.is_tuple_str ?h ?_); (case h => walk_at "hp"))
  | ((with_reducible refine' GP.is_tuple_tuple ?h ?_); (case h => walk_at "hp"))
  | ((with_reducible refine' GP.is_tuple_list ?h ?_); (case h => walk_at "hp"))
  | ((with_reducible refine' GP.is_list_int ?h ?_); (case h => walk_at "hp"))
  | ((with_reducible refine' GP.is_list_bool ?h ?_); (case h => walk_at "hp"))
  | ((with_reducible refine' GP.is_list_str ?h ?_); (case h => walk_at "hp"))
  | ((with_reducible refine' GP.is_list_tuple ?h ?_); (case h => walk_at "hp"))
  | ((with_reducible refine' GP.is_list_list ?h ?_); (case h => walk_at "hp"))
  | with_reducible refine L2.iteT ?_
  | with_reducible refine L2.iteF ?_
  | ((with_reducible refine' GP.iLenQ ?h ?_); (case h => walk_at "hp"))
  | with_reducible refine GP.iAbs ?_
  | with_reducible refine GP.iMax2 ?_
  | with_reducible refine GP.iIsN ?_
  | with_reducible refine GP.iIntB ?_
  | with_reducible refine GP.iEqDI ?_
  | ((with_reducible refine' GP.iEqN ?h1 ?h2 ?_); (case h1 => walk_at "hp"); (case h2 => walk_at "hp"))
  | ((with_reducible refine' GP.iNeN ?h1 ?h2 ?_); (case h1 => walk_at "hp"); (case h2 => walk_at "hp"))
  | with_reducible refine GP.iNT ?_
  | with_reducible refine GP.iNF ?_
  | with_reducible refine GP.iNNT ?_
  | with_reducible refine GP.iNNF ?_
  | ((with_reducible refine GP.iIfBT ?h ?_); (case h => assumption))
  | ((with_reducible refine GP.iIfBF ?h ?_); (case h => assumption))
  | ((with_reducible refine GP.iIfNBT ?h ?_); (case h => assumption))
  | ((with_reducible refine GP.iIfNBF ?h ?_); (case h => assumption))
  | ((with_reducible refine GP.iIfT ?h ?_); (case h => first | assumption | exact rfl | omega | walk_at "eqs"))
  | ((with_reducible refine GP.iIfF ?h ?_); (case h => first | assumption | omega))
  | ((with_reducible refine GP.iIfNT ?h ?_); (case h => first | assumption | exact rfl | omega | walk_at "eqs"))
  | ((with_reducible refine GP.iIfNF ?h ?_); (case h => first | assumption | omega))
  | ((with_reducible refine' GP.iIxL ?h ?e ?_); (case h => walk_at "hp"); (case e => exact rfl))
  | ((with_reducible refine' GP.iIxN ?h ?h1 ?_); (case h => walk_at "hp"); (case h1 => omega))
  | ((with_reducible refine' GP.iIxP ?h ?h1 ?_); (case h => walk_at "hp"); (case h1 => omega))
  | ((with_reducible refine' GP.iIxI ?h ?h0 ?h1 ?_); (case h => walk_at "hp"); (case h0 => omega); (case h1 => omega))
  | ((with_reducible refine' GP.iEqR ?h1 ?h2 ?k1 ?k2 ?k3 ?k4 ?_); (case h1 => walk_at "hp"); (case h2 => walk_at "hp"); (case k1 => walk_at "hp"); (case k2 => walk_at "hp"); (case k3 => walk_at "hp"); (case k4 => walk_at "hp"))
  | ((with_reducible refine' GP.iNeR ?h1 ?h2 ?k1 ?k2 ?k3 ?k4 ?_); (case h1 => walk_at "hp"); (case h2 => walk_at "hp"); (case k1 => walk_at "hp"); (case k2 => walk_at "hp"); (case k3 => walk_at "hp"); (case k4 => walk_at "hp"))
  | ((with_reducible refine' GP.iEqL ?h1 ?h2 ?_); (case h1 => walk_at "hp"); (case h2 => walk_at "hp"))
  | ((with_reducible refine' GP.iNeL ?h1 ?h2 ?_); (case h1 => walk_at "hp"); (case h2 => walk_at "hp"))
  | with_reducible refine GP.iSl ?_
  | with_reducible refine GP.iNoPart ?_
  | with_reducible refine GP.iPart ?_
  | with_reducible refine GP.iIntP ?_
  | ((with_reducible refine' GP.iSlI ?h ?_); (case h => walk_at "hp"); intro _ _ _ _)
  | ((with_reducible refine' GP.iListOfN ?h ?_); (case h => walk_at "hp"); intro _ _ _ _ _)
  | ((with_reducible refine' GP.iListOf ?h ?_); (case h => walk_at "hp"); intro _ _ _ _)
  | ((with_reducible refine' GP.iCatI ?h1 ?h2 ?h3 ?_); (case h1 => walk_at "hp"); (case h2 => walk_at "hp"); (case h3 => walk_at "len"); intro _ _ _ _)
  | ((with_reducible refine' GP.iIsE ?h ?_); (case h => assumption))
  | ((with_reducible refine' GP.iIsET ?h ?_); (case h => assumption))
  | walk_at "callee")
local macro_rules | `(tactic| walk_at "if") => `(tactic| first
  | with_reducible refine GP.iIf ?_ ?_
  | with_reducible refine GP.iIfN ?_ ?_
  | with_reducible refine GP.iIfNB ?_ ?_
  | with_reducible refine GP.iIfB ?_ ?_
  | with_reducible refine GP.iLcBd ?_ ?_)
local macro_rules | `(tactic| walk_at "go") => `(tactic| repeat (walk_at "step"))
local macro_rules | `(tactic| walk_at "ifs") => `(tactic| (walk_at "go"; try (walk_at "if" <;> (intro _; walk_at "ifs"))))

namespace GP
open PySem L2
def top (i : Nat) : Stmt := PySem.Challenge.pw_goldplaces_k15_whole_rows_of_the_product.main.body.getD i (.Pass ⟨0, 0, 0, 0⟩)
abbrev s_summed : Stmt := top 6
abbrev N_summed : List Str := ["one", "other"]
theorem sc_summed : FnScope ["one", "other"] ["one", "other"] (defScope s_summed) := ⟨rfl, rfl, rfl, by decide +kernel, rfl, by decide +kernel, by decide +kernel⟩
abbrev s_less : Stmt := top 7
abbrev N_less : List Str := ["one", "other"]
theorem sc_less : FnScope ["one", "other"] ["one", "other"] (defScope s_less) := ⟨rfl, rfl, rfl, by decide +kernel, rfl, by decide +kernel, by decide +kernel⟩
abbrev s_times : Stmt := top 8
abbrev N_times : List Str := ["one", "other", "far"]
theorem sc_times : FnScope ["one", "other", "far"] ["one", "other"] (defScope s_times) := ⟨rfl, rfl, rfl, by decide +kernel, rfl, by decide +kernel, by decide +kernel⟩
abbrev s_sign : Stmt := top 9
abbrev N_sign : List Str := ["number", "plain", "rooted"]
theorem sc_sign : FnScope ["number", "plain", "rooted"] ["number"] (defScope s_sign) := ⟨rfl, rfl, rfl, by decide +kernel, rfl, by decide +kernel, by decide +kernel⟩
abbrev s_raised : Stmt := top 10
abbrev N_raised : List Str := ["number"]
theorem sc_raised : FnScope ["number"] ["number"] (defScope s_raised) := ⟨rfl, rfl, rfl, by decide +kernel, rfl, by decide +kernel, by decide +kernel⟩
abbrev s_lowered : Stmt := top 11
abbrev N_lowered : List Str := ["number"]
theorem sc_lowered : FnScope ["number"] ["number"] (defScope s_lowered) := ⟨rfl, rfl, rfl, by decide +kernel, rfl, by decide +kernel, by decide +kernel⟩
abbrev s_power : Stmt := top 12
abbrev N_power : List Str := ["k", "found", "step"]
theorem sc_power : FnScope ["k", "found", "step"] ["k"] (defScope s_power) := ⟨rfl, rfl, rfl, by decide +kernel, rfl, by decide +kernel, by decide +kernel⟩
abbrev s_is_row : Stmt := top 15
abbrev N_is_row : List Str := ["places", "k"]
theorem sc_is_row : FnScope ["places", "k"] ["places"] (defScope s_is_row) := ⟨rfl, rfl, rfl, by decide +kernel, rfl, by decide +kernel, by decide +kernel⟩
abbrev s_asked_row : Stmt := top 16
abbrev N_asked_row : List Str := ["places"]
theorem sc_asked_row : FnScope ["places"] ["places"] (defScope s_asked_row) := ⟨rfl, rfl, rfl, by decide +kernel, rfl, by decide +kernel, by decide +kernel⟩
abbrev s_total : Stmt := top 17
abbrev N_total : List Str := ["places", "found", "place"]
theorem sc_total : FnScope ["places", "found", "place"] ["places"] (defScope s_total) := ⟨rfl, rfl, rfl, by decide +kernel, rfl, by decide +kernel, by decide +kernel⟩
abbrev s_value : Stmt := top 18
abbrev N_value : List Str := ["row"]
theorem sc_value : FnScope ["row"] ["row"] (defScope s_value) := ⟨rfl, rfl, rfl, by decide +kernel, rfl, by decide +kernel, by decide +kernel⟩
abbrev s_row_of : Stmt := top 19
abbrev N_row_of : List Str := ["number", "found", "place", "step", "left"]
theorem sc_row_of : FnScope ["number", "found", "place", "step", "left"] ["number"] (defScope s_row_of) := ⟨rfl, rfl, rfl, by decide +kernel, rfl, by decide +kernel, by decide +kernel⟩
abbrev s_cleaned : Stmt := top 20
abbrev N_cleaned : List Str := ["places"]
theorem sc_cleaned : FnScope ["places"] ["places"] (defScope s_cleaned) := ⟨rfl, rfl, rfl, by decide +kernel, rfl, by decide +kernel, by decide +kernel⟩
abbrev s_added : Stmt := top 21
abbrev N_added : List Str := ["one", "other"]
theorem sc_added : FnScope ["one", "other"] ["one", "other"] (defScope s_added) := ⟨rfl, rfl, rfl, by decide +kernel, rfl, by decide +kernel, by decide +kernel⟩
abbrev s_multiplied : Stmt := top 22
abbrev N_multiplied : List Str := ["one", "other"]
theorem sc_multiplied : FnScope ["one", "other"] ["one", "other"] (defScope s_multiplied) := ⟨rfl, rfl, rfl, by decide +kernel, rfl, by decide +kernel, by decide +kernel⟩
abbrev s_order : Stmt := top 23
abbrev N_order : List Str := ["one", "other"]
theorem sc_order : FnScope ["one", "other"] ["one", "other"] (defScope s_order) := ⟨rfl, rfl, rfl, by decide +kernel, rfl, by decide +kernel, by decide +kernel⟩
abbrev s_figures : Stmt := top 25
abbrev N_figures : List Str := ["row", "first", "last", "text", "place"]
theorem sc_figures : FnScope ["row", "first", "last", "text", "place"] ["row", "first", "last"] (defScope s_figures) := ⟨rfl, rfl, rfl, by decide +kernel, rfl, by decide +kernel, by decide +kernel⟩
abbrev s_shown : Stmt := top 26
abbrev N_shown : List Str := ["row", "text", "least"]
theorem sc_shown : FnScope ["row", "text", "least"] ["row"] (defScope s_shown) := ⟨rfl, rfl, rfl, by decide +kernel, rfl, by decide +kernel, by decide +kernel⟩
abbrev s_asked_figures : Stmt := top 27
abbrev N_asked_figures : List Str := ["text", "figure"]
theorem sc_asked_figures : FnScope ["text", "figure"] ["text"] (defScope s_asked_figures) := ⟨rfl, rfl, rfl, by decide +kernel, rfl, by decide +kernel, by decide +kernel⟩
abbrev s_read : Stmt := top 28
abbrev N_read : List Str := ["text", "halves", "half", "whole", "row", "k"]
theorem sc_read : FnScope ["text", "halves", "half", "whole", "row", "k"] ["text"] (defScope s_read) := ⟨rfl, rfl, rfl, by decide +kernel, rfl, by decide +kernel, by decide +kernel⟩
abbrev s__law_cell_at : Stmt := top 30
abbrev N__law_cell_at : List Str := ["script", "k"]
theorem sc__law_cell_at : FnScope ["script", "k"] ["script", "k"] (defScope s__law_cell_at) := ⟨rfl, rfl, rfl, by decide +kernel, rfl, by decide +kernel, by decide +kernel⟩
abbrev s__law_part : Stmt := top 31
abbrev N__law_part : List Str := ["cell"]
theorem sc__law_part : FnScope ["cell"] ["cell"] (defScope s__law_part) := ⟨rfl, rfl, rfl, by decide +kernel, rfl, by decide +kernel, by decide +kernel⟩
abbrev s__law_square : Stmt := top 32
abbrev N__law_square : List Str := ["a", "b"]
theorem sc__law_square : FnScope ["a", "b"] ["a", "b"] (defScope s__law_square) := ⟨rfl, rfl, rfl, by decide +kernel, rfl, by decide +kernel, by decide +kernel⟩
abbrev s_law : Stmt := top 33
abbrev N_law : List Str := ["script", "one", "two", "rows"]
theorem sc_law : FnScope ["script", "one", "two", "rows"] ["script"] (defScope s_law) := ⟨rfl, rfl, rfl, by decide +kernel, rfl, by decide +kernel, by decide +kernel⟩
end GP

/-! ### numbers a + b G, plain: which are above nought -/
namespace GM
abbrev Z := Int × Int
def up (z : Z) : Z := (z.2, z.1 + z.2)
def dn (z : Z) : Z := (z.2 - z.1, z.1)
def mul (z w : Z) : Z := (z.1 * w.1 + z.2 * w.2, z.1 * w.2 + z.2 * w.1 + z.2 * w.2)
def add (z w : Z) : Z := (z.1 + w.1, z.2 + w.2)
def sub (z w : Z) : Z := (z.1 - w.1, z.2 - w.2)
def neg (z : Z) : Z := (0 - z.1, 0 - z.2)
theorem up_dn (z : Z) : up (dn z) = z := by obtain ⟨a, b⟩ := z; simp only [up, dn]; exact Prod.ext rfl (by show b - a + a = b; omega)
theorem dn_up (z : Z) : dn (up z) = z := by obtain ⟨a, b⟩ := z; simp only [up, dn]; exact Prod.ext (by show a + b - b = a; omega) rfl
def upn : Nat → Z → Z
  | 0, z => z
  | n + 1, z => upn n (up z)
def Nn (z : Z) : Prop := 0 ≤ z.1 ∧ 0 ≤ z.2 ∧ 0 < z.1 + z.2
theorem Nn.up {z : Z} (h : Nn z) : Nn (up z) := by
  obtain ⟨a, b⟩ := z
  simp only [Nn, GM.up] at *
  omega
theorem Nn.upn : ∀ (n : Nat) {z : Z}, Nn z → Nn (upn n z)
  | 0, _, h => h
  | n + 1, _, h => Nn.upn n h.up
theorem upn_add : ∀ (n : Nat) (z w : Z), upn n (add z w) = add (upn n z) (upn n w)
  | 0, _, _ => rfl
  | n + 1, z, w => by
    have e : up (add z w) = add (up z) (up w) := by simp only [up, add]; exact Prod.ext rfl (by show z.1 + w.1 + (z.2 + w.2) = z.1 + z.2 + (w.1 + w.2); omega)
    show upn n (up (add z w)) = _
    rw [e]
    exact upn_add n _ _
theorem upn_neg : ∀ (n : Nat) (z : Z), upn n (neg z) = neg (upn n z)
  | 0, _ => rfl
  | n + 1, z => by
    have e : up (neg z) = neg (up z) := by simp only [up, neg]; exact Prod.ext rfl (by show 0 - z.1 + (0 - z.2) = 0 - (z.1 + z.2); omega)
    show upn n (up (neg z)) = _
    rw [e]
    exact upn_neg n _
theorem upn_plus : ∀ (n m : Nat) (z : Z), upn (n + m) z = upn m (upn n z)
  | 0, m, z => by rw [Nat.zero_add]; rfl
  | n + 1, m, z => by
    rw [show n + 1 + m = (n + m) + 1 by omega]
    exact upn_plus n m (up z)
theorem up_mul (z w : Z) : up (mul z w) = mul (up z) w := by
  simp only [up, mul]
  exact Prod.ext (by show z.1 * w.2 + z.2 * w.1 + z.2 * w.2 = z.2 * w.1 + (z.1 + z.2) * w.2; grind) (by show _ = z.2 * w.2 + (z.1 + z.2) * w.1 + (z.1 + z.2) * w.2; grind)
theorem mul_comm (z w : Z) : mul z w = mul w z := by
  simp only [mul]
  exact Prod.ext (by show z.1 * w.1 + z.2 * w.2 = w.1 * z.1 + w.2 * z.2; grind) (by show z.1 * w.2 + z.2 * w.1 + z.2 * w.2 = w.1 * z.2 + w.2 * z.1 + w.2 * z.2; grind)
theorem upn_mul : ∀ (n : Nat) (z w : Z), upn n (mul z w) = mul (upn n z) w
  | 0, _, _ => rfl
  | n + 1, z, w => by
    show upn n (up (mul z w)) = _
    rw [up_mul]
    exact upn_mul n _ _
/-- above nought -/
def P (z : Z) : Prop := ∃ n, Nn (upn n z)
theorem P.of {z : Z} (h : Nn z) : P z := ⟨0, h⟩
theorem P.add {z w : Z} (h : P z) (k : P w) : P (add z w) := by
  obtain ⟨n, h⟩ := h
  obtain ⟨m, k⟩ := k
  refine ⟨n + m, ?_⟩
  rw [upn_add, upn_plus n m z, Nat.add_comm n m, upn_plus m n w]
  have a := Nn.upn m h
  have b := Nn.upn n k
  generalize upn m (upn n z) = x at a
  generalize upn n (upn m w) = y at b
  simp only [Nn, GM.add] at *
  omega
theorem Nn.mul {z w : Z} (h : Nn z) (k : Nn w) : Nn (mul z w) := by
  obtain ⟨a, b⟩ := z
  obtain ⟨c, d⟩ := w
  simp only [Nn, GM.mul] at *
  have h1 := Int.mul_nonneg h.1 k.1
  have h2 := Int.mul_nonneg h.1 k.2.1
  have h3 := Int.mul_nonneg h.2.1 k.1
  have h4 := Int.mul_nonneg h.2.1 k.2.1
  refine ⟨by omega, by omega, ?_⟩
  have h5 : 0 < (a + b) * (c + d) := Int.mul_pos h.2.2 k.2.2
  have h6 : (a + b) * (c + d) = a * c + a * d + (b * c + b * d) := by grind
  omega
theorem P.mul {z w : Z} (h : P z) (k : P w) : P (mul z w) := by
  obtain ⟨n, h⟩ := h
  obtain ⟨m, k⟩ := k
  refine ⟨n + m, ?_⟩
  rw [upn_plus, upn_mul, mul_comm, upn_mul, mul_comm]
  exact h.mul k
theorem P.up {z : Z} (h : P z) : P (up z) := by
  obtain ⟨n, h⟩ := h
  refine ⟨n, ?_⟩
  have e : upn n (GM.up z) = GM.up (upn n z) := by
    have a := upn_plus n 1 z
    have b := upn_plus 1 n z
    rw [Nat.add_comm] at a
    exact b.symm.trans a
  rw [e]
  exact h.up
theorem P.dn {z : Z} (h : P z) : P (dn z) := by
  obtain ⟨n, h⟩ := h
  refine ⟨n + 1, ?_⟩
  show Nn (upn n (GM.up (GM.dn z)))
  rw [up_dn]
  exact h
theorem P_up {z : Z} : P (up z) ↔ P z := ⟨fun h => by have k := h.dn; rw [dn_up] at k; exact k, P.up⟩
theorem P_dn {z : Z} : P (dn z) ↔ P z := ⟨fun h => by have k := h.up; rw [up_dn] at k; exact k, P.dn⟩
theorem not_P0 : ¬ P (0, 0) := fun ⟨n, h⟩ => by
  have e : ∀ n, upn n (0, 0) = (0, 0) := fun n => by
    induction n with
    | zero => rfl
    | succ n ih => exact ih
  rw [e] at h
  simp only [Nn] at h
  omega
theorem add_neg (z : Z) : add z (neg z) = (0, 0) := by
  simp only [add, neg]
  exact Prod.ext (by show z.1 + (0 - z.1) = 0; omega) (by show z.2 + (0 - z.2) = 0; omega)
theorem P.asym {z : Z} (h : P z) : ¬ P (neg z) := fun k => not_P0 (by have q := h.add k; rw [add_neg] at q; exact q)
/-- each number is nought, above or below -/
theorem tri : ∀ (n : Nat) (z : Z), z.1.natAbs + z.2.natAbs ≤ n → z = (0, 0) ∨ P z ∨ P (neg z)
  | n, (a, b), hn => by
    by_cases h0 : a = 0 ∧ b = 0
    · exact .inl (Prod.ext h0.1 h0.2)
    · by_cases h1 : 0 ≤ a ∧ 0 ≤ b
      · exact .inr (.inl (.of ⟨h1.1, h1.2, by show 0 < a + b; omega⟩))
      · by_cases h2 : a ≤ 0 ∧ b ≤ 0
        · exact .inr (.inr (.of ⟨by show 0 ≤ 0 - a; omega, by show 0 ≤ 0 - b; omega, by show 0 < 0 - a + (0 - b); omega⟩))
        · -- of unlike signs: a step up makes the parts less
          by_cases h3 : (a + b).natAbs + b.natAbs < a.natAbs + b.natAbs
          · have dn : b.natAbs + (a + b).natAbs < n := by have : a.natAbs + b.natAbs ≤ n := hn; omega
            match n, dn with
            | m + 1, dn =>
              rcases tri m (up (a, b)) (by show b.natAbs + (a + b).natAbs ≤ m; omega) with e | e | e
              · have e1 : b = 0 := congrArg Prod.fst e
                have e2 : a + b = 0 := congrArg Prod.snd e
                omega
              · exact .inr (.inl (P_up.mp e))
              · refine .inr (.inr (P_up.mp ?_))
                have q : up (neg (a, b)) = neg (up (a, b)) := by simp only [up, neg]; exact Prod.ext rfl (by show 0 - a + (0 - b) = 0 - (a + b); omega)
                rw [q]; exact e
          · -- then a + b has b's sign
            by_cases h4 : 0 < b
            · exact .inr (.inl (P_up.mp (.of ⟨by show 0 ≤ b; omega, by show 0 ≤ a + b; omega, by show 0 < b + (a + b); omega⟩)))
            · refine .inr (.inr (P_up.mp (.of ⟨by show 0 ≤ 0 - b; omega, by show 0 ≤ 0 - a + (0 - b); omega, by show 0 < 0 - b + (0 - a + (0 - b)); omega⟩)))
theorem tri' (z : Z) : z = (0, 0) ∨ P z ∨ P (neg z) := tri _ z (Nat.le_refl _)

/-! ### the sign as the program reckons it -/
def sg (a b : Int) : Int :=
  if 2 * a + b = 0 ∧ b = 0 then 0 else if 0 ≤ 2 * a + b ∧ 0 ≤ b then 1 else if 2 * a + b ≤ 0 ∧ b ≤ 0 then -1
  else if 0 < 2 * a + b then (if 5 * b * b < (2 * a + b) * (2 * a + b) then 1 else -1) else (if (2 * a + b) * (2 * a + b) < 5 * b * b then 1 else -1)
theorem sqnn (x : Int) : 0 ≤ x * x := by
  by_cases h : 0 ≤ x
  · exact Int.mul_nonneg h h
  · exact Int.mul_nonneg_of_nonpos_of_nonpos (by omega) (by omega)
theorem sq_lt {x y : Int} (h0 : 0 ≤ x) (h : x < y) : x * x < y * y :=
  Int.lt_of_le_of_lt (Int.mul_le_mul_of_nonneg_left (Int.le_of_lt h) h0) (Int.mul_lt_mul_of_pos_right h (by omega))
theorem sq_le {x y : Int} (h0 : 0 ≤ x) (h : x ≤ y) : x * x ≤ y * y := Int.mul_le_mul h h h0 (by omega)
theorem lt_of_sq {x y : Int} (h0 : 0 ≤ y) (h : x * x < y * y) : x < y := by
  by_cases c : x < y
  · exact c
  · exact absurd h (by have := sq_le h0 (Int.not_lt.mp c); omega)
/-- no square is five squares -/
theorem sq5 : ∀ (n : Nat) (p r : Int), p.natAbs ≤ n → p * p = 5 * (r * r) → p = 0 ∧ r = 0
  | n, p, r, hn, h => by
    have h5 : p % 5 = 0 := by
      have e : p * p % 5 = 0 := by omega
      have e2 : p * p % 5 = ((p % 5) * (p % 5)) % 5 := Int.mul_emod p p 5
      have c : p % 5 = 0 ∨ p % 5 = 1 ∨ p % 5 = 2 ∨ p % 5 = 3 ∨ p % 5 = 4 := by omega
      rcases c with c | c | c | c | c
      · exact c
      all_goals (rw [c] at e2; omega)
    obtain ⟨q, rfl⟩ : ∃ q, p = 5 * q := ⟨p / 5, by omega⟩
    have h1 : r * r = 5 * (q * q) := by
      have e : 5 * q * (5 * q) = 5 * (5 * (q * q)) := by grind
      omega
    have h6 : r % 5 = 0 := by
      have e : r * r % 5 = 0 := by omega
      have e2 : r * r % 5 = ((r % 5) * (r % 5)) % 5 := Int.mul_emod r r 5
      have c : r % 5 = 0 ∨ r % 5 = 1 ∨ r % 5 = 2 ∨ r % 5 = 3 ∨ r % 5 = 4 := by omega
      rcases c with c | c | c | c | c
      · exact c
      all_goals (rw [c] at e2; omega)
    obtain ⟨t, rfl⟩ : ∃ t, r = 5 * t := ⟨r / 5, by omega⟩
    have h2 : q * q = 5 * (t * t) := by
      have e : 5 * t * (5 * t) = 5 * (5 * (t * t)) := by grind
      omega
    by_cases hq : q = 0
    · subst hq
      have : t * t = 0 := by omega
      have : t = 0 := by
        rcases Int.mul_eq_zero.mp this with z | z <;> exact z
      omega
    · match n with
      | 0 => omega
      | m + 1 =>
        have := sq5 m q t (by omega) h2
        omega
/-- above nought, by the norm -/
theorem sg_one {a b : Int} : sg a b = 1 ↔ (5 * (b * b) < (2 * a + b) * (2 * a + b) ∧ 0 < 2 * a + b) ∨ ((2 * a + b) * (2 * a + b) < 5 * (b * b) ∧ 0 < b) := by
  have e5 : 5 * b * b = 5 * (b * b) := by grind
  unfold sg
  rw [e5]
  generalize hp : 2 * a + b = p
  have hs := sq5 _ p b (Nat.le_refl _)
  have pp : 0 ≤ p * p := sqnn _
  have bb : 0 ≤ b * b := sqnn _
  have z1 : p * p = 0 → p = 0 := fun h => by rcases Int.mul_eq_zero.mp h with z | z <;> exact z
  have z2 : b * b = 0 → b = 0 := fun h => by rcases Int.mul_eq_zero.mp h with z | z <;> exact z
  have y1 : p = 0 → p * p = 0 := fun h => by rw [h]; rfl
  have y2 : b = 0 → b * b = 0 := fun h => by rw [h]; rfl
  generalize p * p = x at *
  generalize b * b = y at *
  repeat' split
  all_goals omega
theorem sg_up {a b : Int} (h : sg a b = 1) : sg b (a + b) = 1 := by
  rw [sg_one] at *
  have e1 : (2 * b + (a + b)) * (2 * b + (a + b)) - 5 * ((a + b) * (a + b)) = 5 * (b * b) - (2 * a + b) * (2 * a + b) := by grind
  rcases h with ⟨h1, h2⟩ | ⟨h1, h2⟩
  · refine .inr ⟨by omega, ?_⟩
    -- p > 0, p p > 5 r r: p + r > 0
    have : -b < 2 * a + b := lt_of_sq (by omega) (by
      have e : -b * -b = b * b := by grind
      have : 0 ≤ b * b := sqnn _
      omega)
    omega
  · refine .inl ⟨by omega, ?_⟩
    have : -(2 * a + b) < 5 * b := lt_of_sq (by omega) (by
      have e : -(2 * a + b) * -(2 * a + b) = (2 * a + b) * (2 * a + b) := by grind
      have e2 : 5 * b * (5 * b) = 25 * (b * b) := by grind
      have : 0 ≤ b * b := sqnn _
      omega)
    omega
theorem sg_dn {a b : Int} (h : sg a b = 1) : sg (b - a) a = 1 := by
  rw [sg_one] at *
  have e1 : (2 * (b - a) + a) * (2 * (b - a) + a) - 5 * (a * a) = 5 * (b * b) - (2 * a + b) * (2 * a + b) := by grind
  rcases h with ⟨h1, h2⟩ | ⟨h1, h2⟩
  · refine .inr ⟨by omega, ?_⟩
    have : b < 2 * a + b := lt_of_sq (by omega) (by
      have : 0 ≤ b * b := sqnn _
      omega)
    omega
  · refine .inl ⟨by omega, ?_⟩
    have : 2 * a + b < 5 * b := lt_of_sq (by omega) (by
      have e2 : 5 * b * (5 * b) = 25 * (b * b) := by grind
      have : 0 ≤ b * b := sqnn _
      omega)
    omega
theorem sg_upn : ∀ (n : Nat) (z : Z), sg (upn n z).1 (upn n z).2 = 1 → sg z.1 z.2 = 1
  | 0, _, h => h
  | n + 1, z, h => by
    have q := sg_dn (sg_upn n (up z) h)
    have e : z.1 + z.2 - z.2 = z.1 := by omega
    have q' : sg (z.1 + z.2 - z.2) z.2 = 1 := q
    rw [e] at q'
    exact q'
theorem sg_nn {z : Z} (h : Nn z) : sg z.1 z.2 = 1 := by
  simp only [Nn] at h
  unfold sg
  rw [if_neg (by omega), if_pos (by omega)]
theorem sg_neg (a b : Int) : sg (0 - a) (0 - b) = 0 - sg a b := by
  have e1 : 5 * (0 - b) * (0 - b) = 5 * b * b := by grind
  have e2 : (2 * (0 - a) + (0 - b)) * (2 * (0 - a) + (0 - b)) = (2 * a + b) * (2 * a + b) := by grind
  have hs := sq5 _ (2 * a + b) b (Nat.le_refl _)
  have e5 : 5 * b * b = 5 * (b * b) := by grind
  unfold sg
  rw [e1, e2, e5]
  generalize hp : (2 * a + b) * (2 * a + b) = x at *
  generalize b * b = y at *
  repeat' split
  all_goals omega
theorem sg_P {z : Z} : sg z.1 z.2 = 1 ↔ P z := by
  constructor
  · intro h
    rcases tri' z with e | e | e
    · rw [e] at h; exact absurd h (by decide)
    · exact e
    · obtain ⟨n, e⟩ := e
      have q := sg_upn n _ (sg_nn e)
      have q' : sg (0 - z.1) (0 - z.2) = 1 := q
      rw [sg_neg, h] at q'
      omega
  · intro ⟨n, h⟩
    exact sg_upn n z (sg_nn h)
theorem sg_M {z : Z} : sg z.1 z.2 = -1 ↔ P (neg z) := by
  rw [← sg_P]
  show _ ↔ sg (0 - z.1) (0 - z.2) = 1
  rw [sg_neg]
  omega
theorem sg_Z {z : Z} : sg z.1 z.2 = 0 ↔ z = (0, 0) := by
  constructor
  · intro h
    rcases tri' z with e | e | e
    · exact e
    · rw [sg_P.mpr e] at h; omega
    · rw [sg_M.mpr e] at h; omega
  · intro h; rw [h]; decide
theorem sg_tri (a b : Int) : sg a b = 1 ∨ sg a b = 0 ∨ sg a b = -1 := by
  rcases tri' (a, b) with e | e | e
  · exact .inr (.inl (sg_Z.mpr e))
  · exact .inl (sg_P.mpr e)
  · exact .inr (.inr (sg_M.mpr e))
theorem neg_neg (z : Z) : neg (neg z) = z := by
  obtain ⟨a, b⟩ := z
  simp only [neg]
  exact Prod.ext (by show 0 - (0 - a) = a; omega) (by show 0 - (0 - b) = b; omega)
theorem neg_mul (z w : Z) : mul (neg z) w = neg (mul z w) := by
  simp only [mul, neg]
  exact Prod.ext (by show (0 - z.1) * w.1 + (0 - z.2) * w.2 = 0 - (z.1 * w.1 + z.2 * w.2); grind) (by show (0 - z.1) * w.2 + (0 - z.2) * w.1 + (0 - z.2) * w.2 = 0 - (z.1 * w.2 + z.2 * w.1 + z.2 * w.2); grind)
theorem mul_zero (z : Z) : mul z (0, 0) = (0, 0) := by
  simp only [mul]
  exact Prod.ext (by show z.1 * 0 + z.2 * 0 = 0; omega) (by show z.1 * 0 + z.2 * 0 + z.2 * 0 = 0; omega)
theorem sg_mul (z w : Z) : sg (mul z w).1 (mul z w).2 = sg z.1 z.2 * sg w.1 w.2 := by
  rcases tri' z with e | e | e
  · rw [e, mul_comm, mul_zero]
    show (0 : Int) = 0 * _
    omega
  · rcases tri' w with k | k | k
    · rw [k, mul_zero]
      show (0 : Int) = _ * 0
      omega
    · rw [sg_P.mpr e, sg_P.mpr k, sg_P.mpr (e.mul k)]; rfl
    · have q : P (neg (mul z w)) := by rw [mul_comm, ← neg_mul, mul_comm]; exact e.mul k
      rw [sg_P.mpr e, sg_M.mpr k, sg_M.mpr q]; rfl
  · rcases tri' w with k | k | k
    · rw [k, mul_zero]
      show (0 : Int) = _ * 0
      omega
    · have q : P (neg (mul z w)) := by rw [← neg_mul]; exact e.mul k
      rw [sg_M.mpr e, sg_P.mpr k, sg_M.mpr q]; rfl
    · have q : P (mul z w) := by
        have q := e.mul k
        rw [neg_mul, mul_comm, neg_mul, neg_neg, mul_comm] at q
        exact q
      rw [sg_M.mpr e, sg_M.mpr k, sg_P.mpr q]; rfl
theorem neg_add (z w : Z) : neg (add z w) = add (neg z) (neg w) := by
  simp only [add, neg]
  exact Prod.ext (by show 0 - (z.1 + w.1) = 0 - z.1 + (0 - w.1); omega) (by show 0 - (z.2 + w.2) = 0 - z.2 + (0 - w.2); omega)
theorem sg_add {z w : Z} (h : sg z.1 z.2 = sg w.1 w.2) : sg (add z w).1 (add z w).2 = sg z.1 z.2 := by
  rcases tri' z with e | e | e
  · have k : w = (0, 0) := sg_Z.mp (by rw [← h]; exact sg_Z.mpr e)
    rw [e, k]; rfl
  · have k : P w := sg_P.mp (by rw [← h]; exact sg_P.mpr e)
    rw [sg_P.mpr e, sg_P.mpr (e.add k)]
  · have k : P (neg w) := sg_M.mp (by rw [← h]; exact sg_M.mpr e)
    rw [sg_M.mpr e, sg_M.mpr (by rw [neg_add]; exact e.add k)]
/-- the sign by squares -/
def sq (a b : Int) : Int := (2 * a + b) * (if 2 * a + b < 0 then -(2 * a + b) else 2 * a + b) + 5 * b * (if b < 0 then -b else b)
theorem sg_sq (a b : Int) : sg a b = (if 0 < sq a b then 1 else 0) - (if sq a b < 0 then 1 else 0) := by
  have hs := sq5 _ (2 * a + b) b (Nat.le_refl _)
  have e5 : 5 * b * b = 5 * (b * b) := by grind
  have e6 : 5 * b * -b = -(5 * (b * b)) := by grind
  have e7 : (2 * a + b) * -(2 * a + b) = -((2 * a + b) * (2 * a + b)) := by grind
  have pp : 0 ≤ (2 * a + b) * (2 * a + b) := sqnn _
  have bb : 0 ≤ b * b := sqnn _
  have z1 : (2 * a + b) * (2 * a + b) = 0 → 2 * a + b = 0 := fun h => by rcases Int.mul_eq_zero.mp h with z | z <;> exact z
  have z2 : b * b = 0 → b = 0 := fun h => by rcases Int.mul_eq_zero.mp h with z | z <;> exact z
  have y1 : 2 * a + b = 0 → (2 * a + b) * (2 * a + b) = 0 := fun h => by rw [h]; rfl
  have y2 : b = 0 → b * b = 0 := fun h => by rw [h]; rfl
  unfold sg sq
  by_cases c1 : 2 * a + b < 0
  · by_cases c2 : b < 0
    · rw [if_pos c1, if_pos c2, e6, e7, e5]
      generalize (2 * a + b) * (2 * a + b) = x at *
      generalize b * b = y at *
      repeat' split
      all_goals omega
    · rw [if_pos c1, if_neg c2, e7, e5]
      generalize (2 * a + b) * (2 * a + b) = x at *
      generalize b * b = y at *
      repeat' split
      all_goals omega
  · by_cases c2 : b < 0
    · rw [if_neg c1, if_pos c2, e6, e5]
      generalize (2 * a + b) * (2 * a + b) = x at *
      generalize b * b = y at *
      repeat' split
      all_goals omega
    · rw [if_neg c1, if_neg c2, e5]
      generalize (2 * a + b) * (2 * a + b) = x at *
      generalize b * b = y at *
      repeat' split
      all_goals omega
end GM

/-! ### powers of G -/
namespace GM
def pwN : Nat → Z
  | 0 => (1, 0)
  | n + 1 => up (pwN n)
def pwD : Nat → Z
  | 0 => (1, 0)
  | n + 1 => dn (pwD n)
/-- G to the power k -/
def pw (k : Int) : Z := if 0 < k then pwN k.toNat else pwD (-k).toNat
def pwI (k : Int) (i : Nat) : Z := if 0 < k then pwN i else pwD i
theorem pwI_end (k : Int) : pwI k (if k < 0 then -k else k).toNat = pw k := by
  unfold pwI pw
  by_cases h : 0 < k
  · rw [if_pos h, if_pos h, if_neg (by omega)]
  · rw [if_neg h, if_neg h]
    by_cases h1 : k < 0
    · rw [if_pos h1]
    · have : k = 0 := by omega
      subst this; rfl
theorem pw_nat (n : Nat) : pw (n : Int) = pwN n := by
  unfold pw
  by_cases h : 0 < (n : Int)
  · rw [if_pos h]; rfl
  · have : n = 0 := by omega
    subst this; rfl
theorem pw_neg (n : Nat) : pw (-(n : Int)) = pwD n := by
  unfold pw
  rw [if_neg (by omega)]
  congr 1; omega
theorem pw_succ (k : Int) : pw (k + 1) = up (pw k) := by
  by_cases h : 0 ≤ k
  · obtain ⟨n, rfl⟩ : ∃ n : Nat, k = n := ⟨k.toNat, by omega⟩
    rw [show (n : Int) + 1 = ((n + 1 : Nat) : Int) by omega, pw_nat, pw_nat]; rfl
  · obtain ⟨n, rfl⟩ : ∃ n : Nat, k = -((n + 1 : Nat) : Int) := ⟨(-k - 1).toNat, by omega⟩
    rw [show -((n + 1 : Nat) : Int) + 1 = -(n : Int) by omega, pw_neg, pw_neg]
    show pwD n = up (dn (pwD n))
    rw [up_dn]
theorem pw_pred (k : Int) : pw (k - 1) = dn (pw k) := by
  have e := pw_succ (k - 1)
  rw [show k - 1 + 1 = k by omega] at e
  rw [e, dn_up]
theorem pw0 : pw 0 = (1, 0) := rfl
theorem P_pw (k : Int) : P (pw k) := by
  by_cases h : 0 ≤ k
  · obtain ⟨n, rfl⟩ : ∃ n : Nat, k = n := ⟨k.toNat, by omega⟩
    rw [pw_nat]
    induction n with
    | zero => exact .of (by unfold Nn; decide)
    | succ n ih => exact (ih (by omega)).up
  · obtain ⟨n, rfl⟩ : ∃ n : Nat, k = -(n : Int) := ⟨(-k).toNat, by omega⟩
    rw [pw_neg]
    clear h
    induction n with
    | zero => exact .of (by unfold Nn; decide)
    | succ n ih => exact ih.dn
theorem dn_mul (z w : Z) : dn (mul z w) = mul (dn z) w := by
  have e := up_mul (dn z) w
  rw [up_dn] at e
  rw [← e, dn_up]
theorem one_mul (z : Z) : mul (1, 0) z = z := by
  simp only [mul]
  exact Prod.ext (by show 1 * z.1 + 0 * z.2 = z.1; omega) (by show 1 * z.2 + 0 * z.1 + 0 * z.2 = z.2; omega)
theorem pw_add (i j : Int) : mul (pw i) (pw j) = pw (i + j) := by
  by_cases h : 0 ≤ i
  · obtain ⟨n, rfl⟩ : ∃ n : Nat, i = n := ⟨i.toNat, by omega⟩
    clear h
    induction n with
    | zero => rw [show ((0 : Nat) : Int) + j = j by omega]; exact one_mul _
    | succ n ih => rw [show ((n + 1 : Nat) : Int) = (n : Int) + 1 by omega, pw_succ, ← up_mul, ih, ← pw_succ]; congr 1; omega
  · obtain ⟨n, rfl⟩ : ∃ n : Nat, i = -(n : Int) := ⟨(-i).toNat, by omega⟩
    clear h
    induction n with
    | zero => rw [show -((0 : Nat) : Int) + j = j by omega]; exact one_mul _
    | succ n ih => rw [show -((n + 1 : Nat) : Int) = -(n : Int) - 1 by omega, pw_pred, ← dn_mul, ih, ← pw_pred]; congr 1; omega
/-- each one is the sum of the two ahead of it -/
theorem pw_sum (k : Int) : pw k = add (pw (k - 1)) (pw (k - 2)) := by
  have e1 : pw k = up (pw (k - 1)) := by rw [← pw_succ]; congr 1; omega
  have e2 : pw (k - 2) = dn (pw (k - 1)) := by rw [← pw_pred]; congr 1; omega
  rw [e1, e2]
  simp only [up, add, dn]
  exact Prod.ext (by show (pw (k - 1)).2 = (pw (k - 1)).1 + ((pw (k - 1)).2 - (pw (k - 1)).1); omega) (by show (pw (k - 1)).1 + (pw (k - 1)).2 = (pw (k - 1)).2 + (pw (k - 1)).1; omega)
theorem pw_more (k : Int) : P (sub (pw k) (pw (k - 1))) := by
  have e : sub (pw k) (pw (k - 1)) = pw (k - 2) := by
    rw [pw_sum k]
    simp only [sub, add]
    exact Prod.ext (by show (pw (k - 1)).1 + (pw (k - 2)).1 - (pw (k - 1)).1 = (pw (k - 2)).1; omega) (by show (pw (k - 1)).2 + (pw (k - 2)).2 - (pw (k - 1)).2 = (pw (k - 2)).2; omega)
  rw [e]
  exact P_pw _
/-- sizes -/
theorem pwN_size : ∀ n : Nat, (pwN n).1.natAbs < 2 ^ (n + 1) ∧ (pwN n).2.natAbs < 2 ^ (n + 1)
  | 0 => by decide
  | n + 1 => by
    have q := pwN_size n
    have e : 2 ^ (n + 1 + 1) = 2 * 2 ^ (n + 1) := by rw [Nat.pow_succ]; omega
    rw [e]
    show (pwN n).2.natAbs < _ ∧ ((pwN n).1 + (pwN n).2).natAbs < _
    omega
theorem pwD_size : ∀ n : Nat, (pwD n).1.natAbs < 2 ^ (n + 1) ∧ (pwD n).2.natAbs < 2 ^ (n + 1)
  | 0 => by decide
  | n + 1 => by
    have q := pwD_size n
    have e : 2 ^ (n + 1 + 1) = 2 * 2 ^ (n + 1) := by rw [Nat.pow_succ]; omega
    rw [e]
    show ((pwD n).2 - (pwD n).1).natAbs < _ ∧ (pwD n).1.natAbs < _
    omega
theorem pwI_size (k : Int) (n : Nat) : (pwI k n).1.natAbs < 2 ^ (n + 1) ∧ (pwI k n).2.natAbs < 2 ^ (n + 1) := by
  unfold pwI
  split
  · exact pwN_size n
  · exact pwD_size n
theorem pw_size {k : Int} {n : Nat} (h : k.natAbs < n) : (pw k).1.natAbs < 2 ^ n ∧ (pw k).2.natAbs < 2 ^ n := by
  rw [← pwI_end]
  have q := pwI_size k (if k < 0 then -k else k).toNat
  have e : (if k < 0 then -k else k).toNat + 1 ≤ n := by split <;> omega
  have e2 : 2 ^ ((if k < 0 then -k else k).toNat + 1) ≤ 2 ^ n := Nat.pow_le_pow_right (by decide) e
  omega
end GM

/-! ### lists of places, their sums -/
namespace GM
def sumP : List Int → Z
  | [] => (0, 0)
  | k :: r => add (pw k) (sumP r)
theorem add_zero (z : Z) : add z (0, 0) = z := by
  simp only [add]
  exact Prod.ext (by show z.1 + 0 = z.1; omega) (by show z.2 + 0 = z.2; omega)
theorem zero_add (z : Z) : add (0, 0) z = z := by
  simp only [add]
  exact Prod.ext (by show 0 + z.1 = z.1; omega) (by show 0 + z.2 = z.2; omega)
theorem add_assoc (x y z : Z) : add (add x y) z = add x (add y z) := by
  simp only [add]
  exact Prod.ext (by show x.1 + y.1 + z.1 = x.1 + (y.1 + z.1); omega) (by show x.2 + y.2 + z.2 = x.2 + (y.2 + z.2); omega)
theorem add_comm (x y : Z) : add x y = add y x := by
  simp only [add]
  exact Prod.ext (by show x.1 + y.1 = y.1 + x.1; omega) (by show x.2 + y.2 = y.2 + x.2; omega)
theorem sumP_app : ∀ xs ys : List Int, sumP (xs ++ ys) = add (sumP xs) (sumP ys)
  | [], ys => (zero_add _).symm
  | k :: r, ys => by
    show add (pw k) (sumP (r ++ ys)) = add (add (pw k) (sumP r)) (sumP ys)
    rw [sumP_app r ys, add_assoc]
theorem sumP_rev : ∀ xs : List Int, sumP xs.reverse = sumP xs
  | [] => rfl
  | k :: r => by
    rw [List.reverse_cons, sumP_app, sumP_rev r]
    show add (sumP r) (add (pw k) (0, 0)) = add (pw k) (sumP r)
    rw [add_zero, add_comm]
theorem sumP_take {xs : List Int} {i : Nat} {k : Int} (h : xs[i]? = some k) : sumP (xs.take (i + 1)) = add (sumP (xs.take i)) (pw k) := by
  rw [List.take_add_one, h, sumP_app]
  show add _ (add (pw k) (0, 0)) = _
  rw [add_zero]
theorem sumP_size {n m : Nat} : ∀ xs : List Int, (∀ k ∈ xs, k.natAbs < n) → xs.length ≤ m → (sumP xs).1.natAbs < 2 ^ (n + m) ∧ (sumP xs).2.natAbs < 2 ^ (n + m) := by
  have main : ∀ xs : List Int, (∀ k ∈ xs, k.natAbs < n) → (sumP xs).1.natAbs < 2 ^ (n + xs.length) ∧ (sumP xs).2.natAbs < 2 ^ (n + xs.length) := by
    intro xs
    induction xs with
    | nil => intro _; exact ⟨Nat.pow_pos (by decide), Nat.pow_pos (by decide)⟩
    | cons k r ih =>
      intro h
      have q := ih (fun j hj => h j (List.mem_cons_of_mem _ hj))
      have p := pw_size (h k List.mem_cons_self)
      have e : 2 ^ (n + (k :: r).length) = 2 * 2 ^ (n + r.length) := by
        rw [List.length_cons, show n + (r.length + 1) = (n + r.length) + 1 by omega, Nat.pow_succ]; omega
      have e2 : 2 ^ n ≤ 2 ^ (n + r.length) := Nat.pow_le_pow_right (by decide) (by omega)
      rw [e]
      show ((pw k).1 + (sumP r).1).natAbs < _ ∧ ((pw k).2 + (sumP r).2).natAbs < _
      omega
  intro xs h hm
  have q := main xs h
  have e2 : 2 ^ (n + xs.length) ≤ 2 ^ (n + m) := Nat.pow_le_pow_right (by decide) (by omega)
  omega
/-- each less by two or more than the one ahead -/
def gap : List Int → Bool
  | x :: y :: r => decide (y + 2 ≤ x) && gap (y :: r)
  | _ => true
/-- a row: the loop's own words -/
def rowAt (xs : List Int) (k : Nat) : Bool :=
  !(decide (80 < xs.getD k 0) || decide (xs.getD k 0 < -80) || (decide (0 < k) && decide (xs.getD (k - 1) 0 - xs.getD k 0 < 2)))
def isRow (xs : List Int) : Bool := (List.range xs.length).all (rowAt xs)
theorem isRow_iff {xs : List Int} : isRow xs = true ↔ ∀ k, k < xs.length → rowAt xs k = true := by
  unfold isRow
  rw [List.all_eq_true]
  exact ⟨fun h k hk => h k (List.mem_range.mpr hk), fun h k hk => h k (List.mem_range.mp hk)⟩
theorem gap_iff : ∀ {xs : List Int}, gap xs = true ↔ ∀ k, k + 1 < xs.length → 2 ≤ xs.getD k 0 - xs.getD (k + 1) 0
  | [] => ⟨fun _ k hk => by simp at hk, fun _ => rfl⟩
  | [_] => ⟨fun _ k hk => by simp at hk, fun _ => rfl⟩
  | x :: y :: r => by
    show (decide (y + 2 ≤ x) && gap (y :: r)) = true ↔ _
    rw [Bool.and_eq_true, decide_eq_true_eq, gap_iff]
    constructor
    · intro ⟨h1, h2⟩ k hk
      match k with
      | 0 => show 2 ≤ x - y; omega
      | k + 1 => exact h2 k (by simp at hk ⊢; omega)
    · intro h
      refine ⟨?_, fun k hk => h (k + 1) (by simp at hk ⊢; omega)⟩
      have : 2 ≤ x - y := h 0 (by simp)
      omega
theorem rowAt_iff {xs : List Int} {k : Nat} : rowAt xs k = true ↔ xs.getD k 0 ≤ 80 ∧ -80 ≤ xs.getD k 0 ∧ (0 < k → 2 ≤ xs.getD (k - 1) 0 - xs.getD k 0) := by
  unfold rowAt
  simp only [Bool.not_eq_true', Bool.or_eq_false_iff, Bool.and_eq_false_iff, decide_eq_false_iff_not]
  omega
theorem isRow_gap {xs : List Int} : isRow xs = true ↔ gap xs = true ∧ ∀ k ∈ xs, -80 ≤ k ∧ k ≤ 80 := by
  rw [isRow_iff, gap_iff]
  have D : ∀ k, k < xs.length → xs.getD k 0 ∈ xs := fun k hk => by
    rw [List.getD_eq_getElem?_getD, List.getElem?_eq_getElem hk]; exact List.getElem_mem hk
  constructor
  · intro h
    refine ⟨fun k hk => ?_, fun v hv => ?_⟩
    · exact (rowAt_iff.mp (h (k + 1) hk)).2.2 (by omega)
    · obtain ⟨k, hk, rfl⟩ := List.getElem_of_mem hv
      have q := rowAt_iff.mp (h k hk)
      have e : xs.getD k 0 = xs[k] := by rw [List.getD_eq_getElem?_getD, List.getElem?_eq_getElem hk]; rfl
      rw [e] at q
      omega
  · intro ⟨h1, h2⟩ k hk
    have q := h2 _ (D k hk)
    refine rowAt_iff.mpr ⟨q.2, q.1, fun h0 => ?_⟩
    match k, h0 with
    | k + 1, _ => exact h1 k hk
end GM

/-! ### the order of rows, the greedy row -/
namespace GM
/-- z is less than w -/
def lt (z w : Z) : Prop := P (sub w z)
def le (z w : Z) : Prop := ¬ P (sub z w)
theorem sub_add_cancel (x y : Z) : add (sub x y) y = x := by
  obtain ⟨a, b⟩ := x; obtain ⟨c, d⟩ := y
  simp only [add, sub]
  exact Prod.ext (by show a - c + c = a; omega) (by show b - d + d = b; omega)
theorem neg_sub (x y : Z) : neg (sub x y) = sub y x := by
  simp only [neg, sub]
  exact Prod.ext (by show 0 - (x.1 - y.1) = y.1 - x.1; omega) (by show 0 - (x.2 - y.2) = y.2 - x.2; omega)
theorem sub_self (x : Z) : sub x x = (0, 0) := by
  simp only [sub]
  exact Prod.ext (by show x.1 - x.1 = 0; omega) (by show x.2 - x.2 = 0; omega)
theorem sub_eq0 {x y : Z} (h : sub x y = (0, 0)) : x = y := by
  have h1 : x.1 - y.1 = 0 := congrArg Prod.fst h
  have h2 : x.2 - y.2 = 0 := congrArg Prod.snd h
  exact Prod.ext (by omega) (by omega)
theorem lt_irrefl (x : Z) : ¬ lt x x := by unfold lt; rw [sub_self]; exact not_P0
theorem lt_trans {x y z : Z} (h : lt x y) (k : lt y z) : lt x z := by
  unfold lt at *
  have q := h.add k
  have e : add (sub y x) (sub z y) = sub z x := by
    simp only [add, sub]
    exact Prod.ext (by show y.1 - x.1 + (z.1 - y.1) = z.1 - x.1; omega) (by show y.2 - x.2 + (z.2 - y.2) = z.2 - x.2; omega)
  rw [e] at q; exact q
theorem lt_asymm {x y : Z} (h : lt x y) : ¬ lt y x := fun k => lt_irrefl x (lt_trans h k)
theorem lt_tri (x y : Z) : x = y ∨ lt x y ∨ lt y x := by
  rcases tri' (sub x y) with e | e | e
  · exact .inl (sub_eq0 e)
  · exact .inr (.inr e)
  · rw [neg_sub] at e; exact .inr (.inl e)
theorem not_lt {x y : Z} : ¬ lt x y ↔ x = y ∨ lt y x := by
  constructor
  · intro h
    rcases lt_tri x y with e | e | e
    · exact .inl e
    · exact absurd e h
    · exact .inr e
  · rintro (rfl | h)
    · exact lt_irrefl _
    · exact lt_asymm h
theorem lt_add {x y z w : Z} (h : lt x y) (k : lt z w) : lt (add x z) (add y w) := by
  unfold lt at *
  have q := h.add k
  have e : add (sub y x) (sub w z) = sub (add y w) (add x z) := by
    simp only [add, sub]
    exact Prod.ext (by show y.1 - x.1 + (w.1 - z.1) = y.1 + w.1 - (x.1 + z.1); omega) (by show y.2 - x.2 + (w.2 - z.2) = y.2 + w.2 - (x.2 + z.2); omega)
  rw [e] at q; exact q
theorem lt_addl {x y : Z} (z : Z) (h : lt x y) : lt (add z x) (add z y) := by
  unfold lt at *
  have e : sub (add z y) (add z x) = sub y x := by
    simp only [add, sub]
    exact Prod.ext (by show z.1 + y.1 - (z.1 + x.1) = y.1 - x.1; omega) (by show z.2 + y.2 - (z.2 + x.2) = y.2 - x.2; omega)
  rw [e]; exact h
theorem pw_lt_succ (k : Int) : lt (pw k) (pw (k + 1)) := by
  have h := pw_more (k + 1)
  rw [show k + 1 - 1 = k by omega] at h
  exact h
theorem pw_lt {i j : Int} (h : i < j) : lt (pw i) (pw j) := by
  obtain ⟨n, rfl⟩ : ∃ n : Nat, j = i + 1 + n := ⟨(j - i - 1).toNat, by omega⟩
  clear h
  induction n with
  | zero => rw [show i + 1 + ((0 : Nat) : Int) = i + 1 by omega]; exact pw_lt_succ i
  | succ n ih => exact lt_trans ih (by rw [show i + 1 + ((n + 1 : Nat) : Int) = (i + 1 + n) + 1 by omega]; exact pw_lt_succ _)
theorem zero_lt {z : Z} : lt (0, 0) z ↔ P z := by
  unfold lt
  have e : sub z (0, 0) = z := by simp only [sub]; exact Prod.ext (by show z.1 - 0 = z.1; omega) (by show z.2 - 0 = z.2; omega)
  rw [e]
/-- a row's sum is less than the power above its greatest place -/
theorem sum_lt : ∀ (r : List Int) (k : Int), gap (k :: r) = true → lt (sumP (k :: r)) (pw (k + 1))
  | [], k, _ => by
    show lt (add (pw k) (0, 0)) _
    rw [add_zero]; exact pw_lt_succ k
  | j :: r, k, g => by
    have g' : (decide (j + 2 ≤ k) && gap (j :: r)) = true := g
    rw [Bool.and_eq_true, decide_eq_true_eq] at g'
    have ih := sum_lt r j g'.2
    show lt (add (pw k) (sumP (j :: r))) _
    have e : pw (k + 1) = add (pw k) (pw (k - 1)) := by
      have q := pw_sum (k + 1)
      rw [show k + 1 - 1 = k by omega, show k + 1 - 2 = k - 1 by omega] at q
      exact q
    rw [e]
    refine lt_addl _ ?_
    by_cases c : j + 1 = k - 1
    · rw [← c]; exact ih
    · exact lt_trans ih (pw_lt (by omega))
theorem sum_nn : ∀ (r : List Int), sumP r = (0, 0) ∨ P (sumP r)
  | [] => .inl rfl
  | k :: r => .inr (by
    show P (add (pw k) (sumP r))
    rcases sum_nn r with e | e
    · rw [e, add_zero]; exact P_pw k
    · exact (P_pw k).add e)
theorem sum_pos (k : Int) (r : List Int) : P (sumP (k :: r)) := by
  show P (add (pw k) (sumP r))
  rcases sum_nn r with e | e
  · rw [e, add_zero]; exact P_pw k
  · exact (P_pw k).add e
theorem gap_tail {k : Int} {r : List Int} (g : gap (k :: r) = true) : gap r = true := by
  cases r with
  | nil => rfl
  | cons j r =>
    have g' : (decide (j + 2 ≤ k) && gap (j :: r)) = true := g
    rw [Bool.and_eq_true] at g'
    exact g'.2
/-- the program's order of lists is that of their sums -/
def lexLt : List Int → List Int → Bool
  | [], [] => false
  | [], _ :: _ => true
  | _ :: _, [] => false
  | x :: xs, y :: ys => if x = y then lexLt xs ys else decide (x < y)
theorem lex_lt : ∀ xs ys : List Int, gap xs = true → gap ys = true → lexLt xs ys = true → lt (sumP xs) (sumP ys)
  | [], [], _, _, h => by cases h
  | [], y :: ys, _, _, _ => zero_lt.mpr (sum_pos y ys)
  | _ :: _, [], _, _, h => by cases h
  | x :: xs, y :: ys, gx, gy, h => by
    have h' : (if x = y then lexLt xs ys else decide (x < y)) = true := h
    by_cases c : x = y
    · rw [if_pos c] at h'
      subst c
      exact lt_addl _ (lex_lt xs ys (gap_tail gx) (gap_tail gy) h')
    · rw [if_neg c, decide_eq_true_eq] at h'
      have a := sum_lt xs x gx
      -- the power above x is at most y's
      have b : pw (x + 1) = pw y ∨ lt (pw (x + 1)) (pw y) := by
        by_cases d : x + 1 = y
        · rw [d]; exact .inl rfl
        · exact .inr (pw_lt (by omega))
      have e : pw y = sumP (y :: ys) ∨ lt (pw y) (sumP (y :: ys)) := by
        rcases sum_nn ys with z | z
        · left; show _ = add (pw y) (sumP ys); rw [z, add_zero]
        · right
          have q := lt_addl (pw y) (zero_lt.mpr z)
          rw [add_zero] at q; exact q
      rcases b with b | b
      · rw [b] at a
        rcases e with e | e
        · rw [← e]; exact a
        · exact lt_trans a e
      · have a2 := lt_trans a b
        rcases e with e | e
        · rw [← e]; exact a2
        · exact lt_trans a2 e
theorem lex_tri : ∀ xs ys : List Int, xs = ys ∨ lexLt xs ys = true ∨ lexLt ys xs = true
  | [], [] => .inl rfl
  | [], _ :: _ => .inr (.inl rfl)
  | _ :: _, [] => .inr (.inr rfl)
  | x :: xs, y :: ys => by
    by_cases c : x = y
    · subst c
      rcases lex_tri xs ys with h | h | h
      · left; rw [h]
      · right; left; show (if x = x then lexLt xs ys else _) = true; rw [if_pos rfl]; exact h
      · right; right; show (if x = x then lexLt ys xs else _) = true; rw [if_pos rfl]; exact h
    · right
      by_cases d : x < y
      · left; show (if x = y then lexLt xs ys else decide (x < y)) = true; rw [if_neg c, decide_eq_true d]
      · right; show (if y = x then lexLt ys xs else decide (y < x)) = true; rw [if_neg (fun z => c z.symm), decide_eq_true (by omega)]
/-- just one row each -/
theorem row_one {xs ys : List Int} (gx : gap xs = true) (gy : gap ys = true) (h : sumP xs = sumP ys) : xs = ys := by
  rcases lex_tri xs ys with e | e | e
  · exact e
  · have q := lex_lt xs ys gx gy e
    rw [h] at q; exact absurd q (lt_irrefl _)
  · have q := lex_lt ys xs gy gx e
    rw [h] at q; exact absurd q (lt_irrefl _)
end GM

/-! ### each number not below nought has a row; how far it goes -/
namespace GM
theorem mul_add (x y z : Z) : mul x (add y z) = add (mul x y) (mul x z) := by
  simp only [mul, add]
  exact Prod.ext (by show x.1 * (y.1 + z.1) + x.2 * (y.2 + z.2) = x.1 * y.1 + x.2 * y.2 + (x.1 * z.1 + x.2 * z.2); grind) (by show x.1 * (y.2 + z.2) + x.2 * (y.1 + z.1) + x.2 * (y.2 + z.2) = x.1 * y.2 + x.2 * y.1 + x.2 * y.2 + (x.1 * z.2 + x.2 * z.1 + x.2 * z.2); grind)
theorem mul_sub (x y z : Z) : mul x (sub y z) = sub (mul x y) (mul x z) := by
  simp only [mul, sub]
  exact Prod.ext (by show x.1 * (y.1 - z.1) + x.2 * (y.2 - z.2) = x.1 * y.1 + x.2 * y.2 - (x.1 * z.1 + x.2 * z.2); grind) (by show x.1 * (y.2 - z.2) + x.2 * (y.1 - z.1) + x.2 * (y.2 - z.2) = x.1 * y.2 + x.2 * y.1 + x.2 * y.2 - (x.1 * z.2 + x.2 * z.1 + x.2 * z.2); grind)
theorem sumP_shift (c : Int) : ∀ r : List Int, sumP (r.map (fun k => c + k)) = mul (pw c) (sumP r)
  | [] => (mul_zero _).symm
  | k :: r => by
    show add (pw (c + k)) (sumP (r.map _)) = mul (pw c) (add (pw k) (sumP r))
    rw [sumP_shift c r, mul_add, pw_add]
theorem gap_shift (c : Int) : ∀ r : List Int, gap (r.map (fun k => c + k)) = gap r
  | [] => rfl
  | [_] => rfl
  | x :: y :: r => by
    show (decide (c + y + 2 ≤ c + x) && gap ((y :: r).map _)) = (decide (y + 2 ≤ x) && gap (y :: r))
    rw [gap_shift c (y :: r)]
    congr 1
    by_cases h : y + 2 ≤ x
    · rw [decide_eq_true h, decide_eq_true (by omega)]
    · rw [decide_eq_false h, decide_eq_false (by omega)]
/-- head of a row whose sum is small -/
theorem head_le {r : List Int} {c : Int} (g : gap r = true) (h : lt (sumP r) (pw c)) : ∀ k ∈ r, k < c := by
  match r with
  | [] => intro k hk; cases hk
  | x :: r =>
    have hx : x < c := by
      by_cases d : x < c
      · exact d
      · -- pw c ≤ pw x ≤ the sum
        have a : pw c = pw x ∨ lt (pw c) (pw x) := by
          by_cases e : c = x
          · rw [e]; exact .inl rfl
          · exact .inr (pw_lt (by omega))
        have b : pw x = sumP (x :: r) ∨ lt (pw x) (sumP (x :: r)) := by
          rcases sum_nn r with z | z
          · left; show _ = add (pw x) (sumP r); rw [z, add_zero]
          · right
            have q := lt_addl (pw x) (zero_lt.mpr z)
            rw [add_zero] at q; exact q
        have k : lt (pw c) (sumP (x :: r)) ∨ pw c = sumP (x :: r) := by
          rcases a with a | a <;> rcases b with b | b
          · right; rw [a, b]
          · left; rw [a]; exact b
          · left; rw [← b]; exact a
          · left; exact lt_trans a b
        rcases k with k | k
        · exact absurd (lt_trans h k) (lt_irrefl _)
        · rw [k] at h; exact absurd h (lt_irrefl _)
    have all : ∀ (r : List Int) (x : Int), gap (x :: r) = true → ∀ k ∈ r, k < x := by
      intro r
      induction r with
      | nil => intro x _ k hk; cases hk
      | cons y r ih =>
        intro x g k hk
        have g' : (decide (y + 2 ≤ x) && gap (y :: r)) = true := g
        rw [Bool.and_eq_true, decide_eq_true_eq] at g'
        rcases List.mem_cons.mp hk with rfl | hk
        · omega
        · have := ih y g'.2 k hk; omega
    intro k hk
    rcases List.mem_cons.mp hk with rfl | hk
    · exact hx
    · have := all r x g k hk; omega
theorem gap_cons {x : Int} {r : List Int} (g : gap r = true) (h : ∀ k ∈ r, k + 2 ≤ x) : gap (x :: r) = true := by
  cases r with
  | nil => rfl
  | cons y r =>
    show (decide (y + 2 ≤ x) && gap (y :: r)) = true
    rw [Bool.and_eq_true, decide_eq_true_eq]
    exact ⟨h y List.mem_cons_self, g⟩
theorem P_nn_not {z : Z} (h : 0 ≤ z.1) (k : 0 ≤ z.2) : ¬ P (neg z) := by
  intro p
  by_cases c : z.1 = 0 ∧ z.2 = 0
  · have e : neg z = (0, 0) := by simp only [neg]; exact Prod.ext (by show 0 - z.1 = 0; omega) (by show 0 - z.2 = 0; omega)
    rw [e] at p; exact not_P0 p
  · exact (P.of (z := z) ⟨h, k, by omega⟩).asym p
theorem not_P_np {z : Z} (h : z.1 ≤ 0) (k : z.2 ≤ 0) : ¬ P z := by
  intro p
  have := P_nn_not (z := neg z) (by show 0 ≤ 0 - z.1; omega) (by show 0 ≤ 0 - z.2; omega)
  rw [neg_neg] at this
  exact this p
theorem exists_row : ∀ (n : Nat) (u : Z), u.1.natAbs + u.2.natAbs ≤ n → P u → lt u (0, 1) → ∃ r, gap r = true ∧ sumP r = u ∧ ∀ k ∈ r, k ≤ 0
  | n, (a, b), hn, hp, hl => by
    -- not both parts below or at nought; below G
    have h1 : ¬ (a ≤ 0 ∧ b ≤ 0) := fun h => not_P_np h.1 h.2 hp
    have h2 : ¬ (0 ≤ a ∧ 1 ≤ b) := fun h => by
      have q : lt (a, b) (0, 1) := hl
      unfold lt at q
      exact not_P_np (z := sub (0, 1) (a, b)) (by show 0 - a ≤ 0; omega) (by show 1 - b ≤ 0; omega) q
    have hn' : a.natAbs + b.natAbs ≤ n := hn
    by_cases c : lt (a, b) (1, 0)
    · -- the place 0 is not taken: a step up
      have h3 : ¬ (1 ≤ a ∧ 0 ≤ b) := fun h => by
        unfold lt at c
        exact not_P_np (z := sub (1, 0) (a, b)) (by show 1 - a ≤ 0; omega) (by show 0 - b ≤ 0; omega) c
      have hu : lt (up (a, b)) (0, 1) := by
        unfold lt at c ⊢
        have q := c.up
        have e : up (sub (1, 0) (a, b)) = sub (0, 1) (up (a, b)) := by
          simp only [up, sub]
          exact Prod.ext rfl (by show 1 - a + (0 - b) = 1 - (a + b); omega)
        rw [e] at q; exact q
      have hpu : P (up (a, b)) := hp.up
      have h4 : ¬ (b ≤ 0 ∧ a + b ≤ 0) := fun h => not_P_np (z := up (a, b)) h.1 h.2 hpu
      have h5 : ¬ (0 ≤ b ∧ 1 ≤ a + b) := fun h => by
        unfold lt at hu
        exact not_P_np (z := sub (0, 1) (up (a, b))) (by show 0 - b ≤ 0; omega) (by show 1 - (a + b) ≤ 0; omega) hu
      have dec : b.natAbs + (a + b).natAbs < n := by omega
      match n, dec with
      | m + 1, dec =>
        obtain ⟨r, g, s, k⟩ := exists_row m (up (a, b)) (by show b.natAbs + (a + b).natAbs ≤ m; omega) hpu hu
        refine ⟨r.map (fun k => -1 + k), by rw [gap_shift]; exact g, ?_, ?_⟩
        · rw [sumP_shift, s]
          have e : mul (pw (-1)) (up (a, b)) = dn (up (a, b)) := by
            have q := dn_mul (1, 0) (up (a, b))
            rw [one_mul] at q
            exact q.symm
          rw [e, dn_up]
        · intro k' hk'
          obtain ⟨j, hj, rfl⟩ := List.mem_map.mp hk'
          have := k j hj
          omega
    · -- the place 0 is taken
      have c' : (a, b) = (1, 0) ∨ lt (1, 0) (a, b) := not_lt.mp c
      rcases c' with e | c'
      · exact ⟨[0], rfl, by rw [e]; rfl, fun k hk => by rw [List.mem_singleton] at hk; omega⟩
      · have hp' : P (a - 1, b) := by
          unfold lt at c'
          have e : sub (a, b) (1, 0) = (a - 1, b) := by simp only [sub]; exact Prod.ext rfl (by show b - 0 = b; omega)
          rw [e] at c'; exact c'
        have hl' : lt (a - 1, b) (pw (-1)) := by
          unfold lt at hl ⊢
          have e : sub (pw (-1)) (a - 1, b) = sub (0, 1) (a, b) := by
            rw [show pw (-1) = (-1, 1) from by decide]
            simp only [sub]
            exact Prod.ext (by show -1 - (a - 1) = 0 - a; omega) rfl
          rw [e]; exact hl
        have hu : lt (up (a - 1, b)) (1, 0) := by
          unfold lt at hl' ⊢
          have q := hl'.up
          have e : up (sub (pw (-1)) (a - 1, b)) = sub (1, 0) (up (a - 1, b)) := by
            rw [show pw (-1) = (-1, 1) from by decide]
            simp only [up, sub]
            exact Prod.ext rfl (by show -1 - (a - 1) + (1 - b) = 0 - (a - 1 + b); omega)
          rw [e] at q; exact q
        have hu2 : lt (up (a - 1, b)) (0, 1) := lt_trans hu (pw_lt (i := 0) (j := 1) (by decide))
        have hpu : P (up (a - 1, b)) := hp'.up
        have h4 : ¬ (b ≤ 0 ∧ a - 1 + b ≤ 0) := fun h => not_P_np (z := up (a - 1, b)) h.1 h.2 hpu
        have h5 : ¬ (1 ≤ b ∧ 0 ≤ a - 1 + b) := fun h => by
          unfold lt at hu
          exact not_P_np (z := sub (1, 0) (up (a - 1, b))) (by show 1 - b ≤ 0; omega) (by show 0 - (a - 1 + b) ≤ 0; omega) hu
        have h6 : ¬ (a - 1 ≤ 0 ∧ b ≤ 0) := fun h => not_P_np (z := (a - 1, b)) h.1 h.2 hp'
        have h7 : ¬ (a ≤ -1 ∧ b ≤ 1) := fun h => by
          -- above 1, but below nought
          unfold lt at c'
          have e : P (sub (-1, 1) (1, 0)) := by
            have q : P (add (sub (a, b) (1, 0)) (sub (-1, 1) (a, b))) ∨ (a, b) = (-1, 1) := by
              by_cases e : (a, b) = (-1, 1)
              · exact .inr e
              · have n : Nn (sub (-1, 1) (a, b)) := by
                  have h1 : ¬ (a = -1 ∧ b = 1) := fun h => e (Prod.ext h.1 h.2)
                  exact ⟨by show 0 ≤ -1 - a; omega, by show 0 ≤ 1 - b; omega, by show 0 < -1 - a + (1 - b); omega⟩
                exact .inl (c'.add (.of n))
            rcases q with q | q
            · have e : add (sub (a, b) (1, 0)) (sub (-1, 1) (a, b)) = sub (-1, 1) (1, 0) := by
                simp only [add, sub]
                exact Prod.ext (by show a - 1 + (-1 - a) = -1 - 1; omega) (by show b - 0 + (1 - b) = 1 - 0; omega)
              rw [e] at q; exact q
            · rw [q] at c'; exact c'
          have f : P (neg (sub (-1, 1) (1, 0))) := ⟨2, by unfold Nn; decide⟩
          exact e.asym f
        have dec : b.natAbs + (a - 1 + b).natAbs < n := by omega
        match n, dec with
        | m + 1, dec =>
          obtain ⟨r, g, s, k⟩ := exists_row m (up (a - 1, b)) (by show b.natAbs + (a - 1 + b).natAbs ≤ m; omega) hpu hu2
          have k1 : ∀ k ∈ r, k < 0 := head_le g (by rw [s]; exact hu)
          refine ⟨0 :: r.map (fun k => -1 + k), gap_cons (by rw [gap_shift]; exact g) ?_, ?_, ?_⟩
          · intro k' hk'
            obtain ⟨j, hj, rfl⟩ := List.mem_map.mp hk'
            have := k1 j hj
            omega
          · show add (pw 0) (sumP (r.map _)) = (a, b)
            rw [sumP_shift, s]
            have e : mul (pw (-1)) (up (a - 1, b)) = dn (up (a - 1, b)) := by
              have q := dn_mul (1, 0) (up (a - 1, b))
              rw [one_mul] at q
              exact q.symm
            rw [e, dn_up]
            simp only [pw0, add]
            exact Prod.ext (by show 1 + (a - 1) = a; omega) (by show 0 + b = b; omega)
          · intro k' hk'
            rcases List.mem_cons.mp hk' with rfl | hk'
            · omega
            · obtain ⟨j, hj, rfl⟩ := List.mem_map.mp hk'
              have := k1 j hj
              omega
/-- the row of a number below a power -/
theorem has_row {z : Z} {K : Int} (h : z = (0, 0) ∨ P z) (hl : lt z (pw K)) : ∃ r, gap r = true ∧ sumP r = z ∧ ∀ k ∈ r, k < K := by
  rcases h with e | h
  · exact ⟨[], rfl, e.symm, fun k hk => nomatch hk⟩
  · have hp := (P_pw (1 - K)).mul h
    have hl' : lt (mul (pw (1 - K)) z) (0, 1) := by
      unfold lt at hl ⊢
      have q := (P_pw (1 - K)).mul hl
      rw [mul_sub, pw_add, show 1 - K + K = 1 by omega] at q
      exact q
    obtain ⟨r, g, s, _⟩ := exists_row _ _ (Nat.le_refl _) hp hl'
    have g2 : gap (r.map (fun k => (K - 1) + k)) = true := by rw [gap_shift]; exact g
    have s2 : sumP (r.map (fun k => (K - 1) + k)) = z := by
      rw [sumP_shift, s]
      have e : mul (pw (K - 1)) (mul (pw (1 - K)) z) = mul (mul (pw (K - 1)) (pw (1 - K))) z := by
        simp only [mul]
        exact Prod.ext (by grind) (by grind)
      rw [e, pw_add, show K - 1 + (1 - K) = 0 by omega, pw0, one_mul]
    exact ⟨_, g2, s2, head_le g2 (by rw [s2]; exact hl)⟩

/-! the other one -/
def cj (z : Z) : Z := (z.1 + z.2, 0 - z.2)
theorem cj_add (z w : Z) : cj (add z w) = add (cj z) (cj w) := by
  simp only [cj, add]
  exact Prod.ext (by show z.1 + w.1 + (z.2 + w.2) = z.1 + z.2 + (w.1 + w.2); omega) (by show 0 - (z.2 + w.2) = 0 - z.2 + (0 - w.2); omega)
theorem cj_up (z : Z) : cj (up z) = neg (dn (cj z)) := by
  simp only [cj, up, dn, neg]
  exact Prod.ext (by show z.2 + (z.1 + z.2) = 0 - (0 - z.2 - (z.1 + z.2)); omega) (by show 0 - (z.1 + z.2) = 0 - (z.1 + z.2); rfl)
theorem cj_dn (z : Z) : cj (dn z) = neg (up (cj z)) := by
  simp only [cj, up, dn, neg]
  exact Prod.ext (by show z.2 - z.1 + z.1 = 0 - (0 - z.2); omega) (by show 0 - z.1 = 0 - (z.1 + z.2 + (0 - z.2)); omega)
theorem dn_neg (z : Z) : dn (neg z) = neg (dn z) := by
  simp only [dn, neg]
  exact Prod.ext (by show 0 - z.2 - (0 - z.1) = 0 - (z.2 - z.1); omega) rfl
theorem up_neg (z : Z) : up (neg z) = neg (up z) := by
  simp only [up, neg]
  exact Prod.ext rfl (by show 0 - z.1 + (0 - z.2) = 0 - (z.1 + z.2); omega)
theorem cj_pw (k : Int) : cj (pw k) = pw (-k) ∨ cj (pw k) = neg (pw (-k)) := by
  by_cases h : 0 ≤ k
  · obtain ⟨n, rfl⟩ : ∃ n : Nat, k = n := ⟨k.toNat, by omega⟩
    clear h
    induction n with
    | zero => left; decide
    | succ n ih =>
      have e : pw (-((n + 1 : Nat) : Int)) = dn (pw (-(n : Int))) := by rw [← pw_pred]; congr 1; omega
      rw [show (((n + 1 : Nat)) : Int) = (n : Int) + 1 by omega] at *
      rw [pw_succ, cj_up]
      rcases ih with ih | ih
      · right; rw [ih, e]
      · left; rw [ih, dn_neg, neg_neg, e]
  · obtain ⟨n, rfl⟩ : ∃ n : Nat, k = -(n : Int) := ⟨(-k).toNat, by omega⟩
    clear h
    induction n with
    | zero => left; decide
    | succ n ih =>
      have e : pw (-((n + 1 : Nat) : Int)) = dn (pw (-(n : Int))) := by rw [← pw_pred]; congr 1; omega
      have e2 : pw (- -((n + 1 : Nat) : Int)) = up (pw (- -(n : Int))) := by rw [← pw_succ]; congr 1; omega
      rw [e, e2, cj_dn]
      rcases ih with ih | ih
      · right; rw [ih]
      · left; rw [ih, up_neg, neg_neg]
theorem neg_lt_neg {x y : Z} (h : lt x y) : lt (neg y) (neg x) := by
  unfold lt at *
  have e : sub (neg x) (neg y) = sub y x := by
    simp only [sub, neg]
    exact Prod.ext (by show 0 - x.1 - (0 - y.1) = y.1 - x.1; omega) (by show 0 - x.2 - (0 - y.2) = y.2 - x.2; omega)
  rw [e]; exact h
theorem neg_pw_lt (i j : Int) : lt (neg (pw i)) (pw j) := by
  unfold lt
  have e : sub (pw j) (neg (pw i)) = add (pw j) (pw i) := by
    simp only [sub, neg, add]
    exact Prod.ext (by show (pw j).1 - (0 - (pw i).1) = (pw j).1 + (pw i).1; omega) (by show (pw j).2 - (0 - (pw i).2) = (pw j).2 + (pw i).2; omega)
  rw [e]; exact (P_pw j).add (P_pw i)
theorem gap_init : ∀ {r : List Int} {l : Int}, gap (r ++ [l]) = true → gap r = true ∧ ∀ k ∈ r, l + 2 ≤ k
  | [], _, _ => ⟨rfl, fun k hk => nomatch hk⟩
  | [x], l, g => by
    have g' : (decide (l + 2 ≤ x) && true) = true := g
    rw [Bool.and_eq_true, decide_eq_true_eq] at g'
    exact ⟨rfl, fun k hk => by rw [List.mem_singleton] at hk; omega⟩
  | x :: y :: r, l, g => by
    have g' : (decide (y + 2 ≤ x) && gap (y :: r ++ [l])) = true := g
    rw [Bool.and_eq_true, decide_eq_true_eq] at g'
    have ih := gap_init (r := y :: r) g'.2
    refine ⟨by show (decide (y + 2 ≤ x) && gap (y :: r)) = true; rw [Bool.and_eq_true, decide_eq_true_eq]; exact ⟨g'.1, ih.1⟩, fun k hk => ?_⟩
    rcases List.mem_cons.mp hk with rfl | hk
    · have := ih.2 y List.mem_cons_self; omega
    · exact ih.2 k hk
theorem cj_bound : ∀ (n : Nat) (r : List Int) (c : Int), r.length ≤ n → gap r = true → (∀ k ∈ r, c ≤ k) → lt (cj (sumP r)) (pw (1 - c)) ∧ lt (neg (cj (sumP r))) (pw (1 - c))
  | n, r, c, hn, g, hc => by
    rcases List.eq_nil_or_concat r with rfl | ⟨r0, l, rfl⟩
    · have e : cj (sumP []) = (0, 0) := rfl
      have e2 : neg (cj (sumP [])) = (0, 0) := rfl
      rw [e2, e]
      exact ⟨zero_lt.mpr (P_pw _), zero_lt.mpr (P_pw _)⟩
    · rw [List.concat_eq_append] at *
      have gi := gap_init g
      have hl : c ≤ l := hc l (by simp)
      match n, hn with
      | 0, hn => simp at hn
      | m + 1, hn =>
        have ih := cj_bound m r0 (l + 2) (by simp at hn; omega) gi.1 gi.2
        have es : sumP (r0 ++ [l]) = add (sumP r0) (pw l) := by rw [sumP_app]; show add _ (add (pw l) (0, 0)) = _; rw [add_zero]
        have e1 : add (pw (1 - (l + 2))) (pw (-l)) = pw (1 - l) := by
          have q := pw_sum (1 - l)
          rw [show 1 - l - 1 = -l by omega, show 1 - l - 2 = 1 - (l + 2) by omega] at q
          rw [q, add_comm]
        have mono : ∀ x, lt x (pw (1 - l)) → lt x (pw (1 - c)) := fun x hx => by
          by_cases d : c = l
          · rw [d]; exact hx
          · exact lt_trans hx (pw_lt (by omega))
        rw [es, cj_add, neg_add]
        have b1 : ∀ x, (x = pw (-l) ∨ x = neg (pw (-l))) → lt (add (cj (sumP r0)) x) (pw (1 - l)) ∧ lt (add (neg (cj (sumP r0))) x) (pw (1 - l)) := fun x hx => by
          rw [← e1]
          rcases hx with rfl | rfl
          · rw [add_comm (cj (sumP r0)), add_comm (neg (cj (sumP r0))), add_comm (pw (1 - (l + 2)))]
            exact ⟨lt_addl _ ih.1, lt_addl _ ih.2⟩
          · exact ⟨lt_add ih.1 (neg_pw_lt _ _), lt_add ih.2 (neg_pw_lt _ _)⟩
        refine ⟨mono _ (b1 _ (cj_pw l)).1, mono _ (b1 _ ?_).2⟩
        rcases cj_pw l with h | h
        · right; rw [h]
        · left; rw [h, neg_neg]
/-- the least place, by the size of the other one -/
theorem last_ge {r : List Int} {K : Int} (g : gap r = true) (h1 : lt (cj (sumP r)) (pw K)) (h2 : lt (neg (cj (sumP r))) (pw K)) : ∀ k ∈ r, -K - 2 < k := by
  rcases List.eq_nil_or_concat r with rfl | ⟨r0, l, rfl⟩
  · intro k hk; cases hk
  · rw [List.concat_eq_append] at *
    have gi := gap_init g
    have ih := cj_bound _ r0 (l + 2) (Nat.le_refl _) gi.1 gi.2
    have es : sumP (r0 ++ [l]) = add (sumP r0) (pw l) := by rw [sumP_app]; show add _ (add (pw l) (0, 0)) = _; rw [add_zero]
    have e1 : pw (-l) = add (pw (-l - 2)) (pw (1 - (l + 2))) := by
      have q := pw_sum (-l)
      rw [show -l - 1 = 1 - (l + 2) by omega] at q
      rw [q, add_comm]
    have low : ∀ x y, lt (neg x) (pw (1 - (l + 2))) → y = pw (-l) → lt (pw (-l - 2)) (add x y) := fun x y hx hy => by
      rw [hy, e1]
      unfold lt at hx ⊢
      have e : sub (add x (add (pw (-l - 2)) (pw (1 - (l + 2))))) (pw (-l - 2)) = sub (pw (1 - (l + 2))) (neg x) := by
        simp only [sub, add, neg]
        exact Prod.ext (by show x.1 + ((pw (-l - 2)).1 + (pw (1 - (l + 2))).1) - (pw (-l - 2)).1 = (pw (1 - (l + 2))).1 - (0 - x.1); omega) (by show x.2 + ((pw (-l - 2)).2 + (pw (1 - (l + 2))).2) - (pw (-l - 2)).2 = (pw (1 - (l + 2))).2 - (0 - x.2); omega)
      rw [e]; exact hx
    have main : lt (pw (-l - 2)) (pw K) := by
      rw [es, cj_add] at h1 h2
      rw [neg_add] at h2
      rcases cj_pw l with h | h
      · exact lt_trans (low _ _ ih.2 h) h1
      · exact lt_trans (low _ _ (by rw [neg_neg]; exact ih.1) (by rw [h, neg_neg])) h2
    have hl : -l - 2 < K := by
      by_cases d : -l - 2 < K
      · exact d
      · by_cases e : K = -l - 2
        · rw [e] at main; exact absurd main (lt_irrefl _)
        · exact absurd (lt_trans main (pw_lt (show K < -l - 2 by omega))) (lt_irrefl _)
    intro k hk
    rcases List.mem_append.mp hk with h | h
    · have := gi.2 k h; omega
    · rw [List.mem_singleton] at h; omega
theorem sg_ge {z w : Z} : 0 ≤ sg (sub z w).1 (sub z w).2 ↔ ¬ lt z w := by
  unfold lt
  rw [← neg_sub z w, ← sg_M]
  have := sg_tri (sub z w).1 (sub z w).2
  omega
/-- a number is below a power whose parts are greater -/
theorem lt_of_parts {z w : Z} (h1 : z.1 ≤ w.1) (h2 : z.2 < w.2) : lt z w := P.of (z := sub w z) ⟨by show 0 ≤ w.1 - z.1; omega, by show 0 ≤ w.2 - z.2; omega, by show 0 < w.1 - z.1 + (w.2 - z.2); omega⟩
theorem pw_big : ∀ n : Nat, (2 : Int) ^ n ≤ (pwN (2 * n + 2)).1 ∧ (2 : Int) ^ n ≤ (pwN (2 * n + 2)).2
  | 0 => by decide
  | n + 1 => by
    have ih := pw_big n
    have e : pwN (2 * (n + 1) + 2) = up (up (pwN (2 * n + 2))) := rfl
    rw [e, Int.pow_succ]
    show _ ≤ (pwN (2 * n + 2)).1 + (pwN (2 * n + 2)).2 ∧ _ ≤ (pwN (2 * n + 2)).2 + ((pwN (2 * n + 2)).1 + (pwN (2 * n + 2)).2)
    have p : (0 : Int) < 2 ^ n := Int.pow_pos (by decide)
    omega
theorem lt_big {z : Z} {n : Nat} (h1 : z.1.natAbs < 2 ^ n) (h2 : z.2.natAbs < 2 ^ n) : lt z (pw ((2 * n + 2 : Nat) : Int)) := by
  have b := pw_big n
  rw [pw_nat]
  have e : ((2 ^ n : Nat) : Int) = (2 : Int) ^ n := by simp
  exact lt_of_parts (by omega) (by omega)
theorem gap_len : ∀ (r : List Int) (c : Int), gap r = true → (∀ k ∈ r, c ≤ k) → ∀ d, (∀ k ∈ r, k < d) → c ≤ d → (2 * r.length : Int) ≤ d - c + 1
  | [], c, _, _, d, _, h => by show (2 * 0 : Int) ≤ _; omega
  | x :: r, c, g, hc, d, hd, _ => by
    have hx := hc x List.mem_cons_self
    have hx2 := hd x List.mem_cons_self
    match r, g, hc with
    | [], _, _ => show (2 * 1 : Int) ≤ _; omega
    | y :: r, g, hc =>
      have g' : (decide (y + 2 ≤ x) && gap (y :: r)) = true := g
      rw [Bool.and_eq_true, decide_eq_true_eq] at g'
      have hy := hc y (List.mem_cons_of_mem _ List.mem_cons_self)
      have dd : ∀ k ∈ y :: r, k < y + 1 := by
        have all : ∀ (r : List Int) (x : Int), gap (x :: r) = true → ∀ k ∈ r, k < x := by
          intro r
          induction r with
          | nil => intro x _ k hk; cases hk
          | cons y r ih =>
            intro x g k hk
            have g' : (decide (y + 2 ≤ x) && gap (y :: r)) = true := g
            rw [Bool.and_eq_true, decide_eq_true_eq] at g'
            rcases List.mem_cons.mp hk with rfl | hk
            · omega
            · have := ih y g'.2 k hk; omega
        intro k hk
        rcases List.mem_cons.mp hk with rfl | hk
        · omega
        · have := all r y g'.2 k hk; omega
      have ih := gap_len (y :: r) c g'.2 (fun k hk => hc k (List.mem_cons_of_mem _ hk)) (y + 1) dd (by omega)
      have e : ((x :: y :: r).length : Int) = ((y :: r).length : Int) + 1 := by simp
      rw [e]
      omega
end GM

/-! ### rows as texts -/
namespace GM
def fig (r : List Int) (p : Int) : Nat := if p ∈ r then 49 else 48
/-- the figures of n places from c down -/
def figs (r : List Int) : Int → Nat → List Nat
  | _, 0 => []
  | c, n + 1 => fig r c :: figs r (c - 1) n
theorem figs_len (r : List Int) : ∀ (n : Nat) (c : Int), (figs r c n).length = n
  | 0, _ => rfl
  | n + 1, c => by
    show (figs r (c - 1) n).length + 1 = n + 1
    rw [figs_len r n]
theorem figs_add (r : List Int) (m : Nat) : ∀ (n : Nat) (c : Int), figs r c (n + m) = figs r c n ++ figs r (c - n) m
  | 0, c => by
    rw [Nat.zero_add, show c - ((0 : Nat) : Int) = c by omega]; rfl
  | n + 1, c => by
    have e : n + 1 + m = (n + m) + 1 := by omega
    rw [e]
    show fig r c :: figs r (c - 1) (n + m) = fig r c :: (figs r (c - 1) n ++ figs r (c - ((n + 1 : Nat) : Int)) m)
    rw [figs_add r m n (c - 1), show c - 1 - (n : Int) = c - ((n + 1 : Nat) : Int) by omega]
theorem figs_snoc (r : List Int) (n : Nat) (c : Int) : figs r c (n + 1) = figs r c n ++ [fig r (c - n)] := figs_add r 1 n c
/-- the places of the ones, the first one's place being c -/
def ones : Int → List Nat → List Int
  | _, [] => []
  | c, x :: l => if x = 49 then c :: ones (c - 1) l else ones (c - 1) l
theorem ones_app : ∀ (a b : List Nat) (c : Int), ones c (a ++ b) = ones c a ++ ones (c - a.length) b
  | [], b, c => by
    show ones c b = ones (c - ((0 : Nat) : Int)) b
    rw [show c - ((0 : Nat) : Int) = c by omega]
  | x :: a, b, c => by
    have ih := ones_app a b (c - 1)
    rw [show c - 1 - (a.length : Int) = c - ((x :: a).length : Nat) by rw [List.length_cons]; omega] at ih
    show (if x = 49 then c :: ones (c - 1) (a ++ b) else ones (c - 1) (a ++ b)) = (if x = 49 then c :: ones (c - 1) a else ones (c - 1) a) ++ _
    rw [ih]
    split <;> rfl
theorem ones_take {l : List Nat} {i x : Nat} (c : Int) (h : l[i]? = some x) : ones c (l.take (i + 1)) = ones c (l.take i) ++ (if x = 49 then [c - i] else []) := by
  have hl : i < l.length := by
    by_cases d : i < l.length
    · exact d
    · rw [List.getElem?_eq_none (by omega)] at h; cases h
  rw [List.take_add_one, h, ones_app, List.length_take, show min i l.length = i by omega]
  rfl
theorem ones_len : ∀ (l : List Nat) (c : Int), (ones c l).length ≤ l.length
  | [], _ => Nat.le_refl 0
  | x :: l, c => by
    have ih := ones_len l (c - 1)
    show (if x = 49 then c :: ones (c - 1) l else ones (c - 1) l).length ≤ l.length + 1
    split
    · rw [List.length_cons]; omega
    · omega
theorem gap_le : ∀ {r : List Int} {c : Int}, gap (c :: r) = true → ∀ k ∈ r, k + 2 ≤ c
  | [], _, _, _, hk => nomatch hk
  | x :: r, c, g, k, hk => by
    have g' : (decide (x + 2 ≤ c) && gap (x :: r)) = true := g
    rw [Bool.and_eq_true, decide_eq_true_eq] at g'
    rcases List.mem_cons.mp hk with rfl | hk
    · exact g'.1
    · have := gap_le g'.2 k hk
      omega
theorem figs_cons {r : List Int} {d : Int} : ∀ (n : Nat) (c : Int), c < d → figs (d :: r) c n = figs r c n
  | 0, _, _ => rfl
  | n + 1, c, h => by
    show fig (d :: r) c :: figs (d :: r) (c - 1) n = fig r c :: figs r (c - 1) n
    rw [figs_cons n (c - 1) (by omega)]
    congr 1
    unfold fig
    have e : c ∈ d :: r ↔ c ∈ r := ⟨fun h' => (List.mem_cons.mp h').elim (fun e => by omega) id, List.mem_cons_of_mem _⟩
    simp only [e]
theorem ones_figs : ∀ (n : Nat) (c : Int) (r : List Int), gap r = true → (∀ k ∈ r, c - n < k ∧ k ≤ c) → ones c (figs r c n) = r
  | 0, c, [], _, _ => rfl
  | 0, c, k :: r, _, h => by have := h k List.mem_cons_self; omega
  | n + 1, c, [], g, h => by
    show (if fig [] c = 49 then c :: ones (c - 1) (figs [] (c - 1) n) else ones (c - 1) (figs [] (c - 1) n)) = []
    rw [ones_figs n (c - 1) [] rfl (fun _ hk => nomatch hk), if_neg (by unfold fig; rw [if_neg (fun hk => nomatch hk)]; decide)]
  | n + 1, c, d :: r, g, h => by
    have hd := h d List.mem_cons_self
    have hr := gap_le g
    by_cases e : c = d
    · subst e
      show (if fig (c :: r) c = 49 then c :: ones (c - 1) (figs (c :: r) (c - 1) n) else ones (c - 1) (figs (c :: r) (c - 1) n)) = c :: r
      rw [figs_cons n (c - 1) (by omega), ones_figs n (c - 1) r (gap_tail g) (fun k hk => by have := hr k hk; have := h k (List.mem_cons_of_mem _ hk); omega), if_pos (by unfold fig; rw [if_pos List.mem_cons_self])]
    · have nm : c ∉ d :: r := fun hc => by
        rcases List.mem_cons.mp hc with z | z
        · exact e z
        · have := hr c z; omega
      show (if fig (d :: r) c = 49 then c :: ones (c - 1) (figs (d :: r) (c - 1) n) else ones (c - 1) (figs (d :: r) (c - 1) n)) = d :: r
      rw [if_neg (by unfold fig; rw [if_neg nm]; decide)]
      refine ones_figs n (c - 1) (d :: r) g (fun k hk => ?_)
      have := h k hk
      rcases List.mem_cons.mp hk with rfl | hk
      · omega
      · have := hr k hk; omega
/-- only figures -/
def all01 (l : List Nat) : Prop := ∀ x ∈ l, x = 48 ∨ x = 49
instance (l : List Nat) : Decidable (all01 l) := inferInstanceAs (Decidable (∀ x ∈ l, x = 48 ∨ x = 49))
theorem figs_01 (r : List Int) : ∀ (n : Nat) (c : Int), all01 (figs r c n)
  | 0, _ => fun _ h => nomatch h
  | n + 1, c => fun x h => by
    rcases List.mem_cons.mp h with rfl | h
    · unfold fig; split
      · exact .inr rfl
      · exact .inl rfl
    · exact figs_01 r n (c - 1) x h
def top (r : List Int) : Int := max 0 (r.headD 0)
def least (r : List Int) : Int := min 0 (r.getLastD 0)
def note (r : List Int) : List Nat := figs r (top r) (top r + 1).toNat ++ (if least r < 0 then 46 :: figs r (-1) (-least r).toNat else [])
theorem top_ge {r : List Int} (g : gap r = true) : ∀ k ∈ r, k ≤ top r := by
  intro k hk
  match r, g, hk with
  | d :: r, g, hk =>
    have e : top (d :: r) = max 0 d := rfl
    rw [e]
    rcases List.mem_cons.mp hk with rfl | hk
    · omega
    · have := gap_le g k hk; omega
theorem last_le : ∀ {r : List Int}, gap r = true → ∀ k ∈ r, ∀ d, r.getLast? = some d → d ≤ k
  | [x], _, k, hk, d, hd => by
    have e1 : x = d := Option.some.inj hd
    have e2 := List.mem_singleton.mp hk
    omega
  | x :: y :: r, g, k, hk, d, hd => by
    have hd' : (y :: r).getLast? = some d := by rw [← hd]; exact (List.getLast?_cons_cons).symm
    rcases List.mem_cons.mp hk with rfl | hk
    · have a := last_le (gap_tail g) y List.mem_cons_self d hd'
      have b := gap_le g y List.mem_cons_self
      omega
    · exact last_le (gap_tail g) k hk d hd'
theorem least_le {r : List Int} (g : gap r = true) : ∀ k ∈ r, least r ≤ k := by
  intro k hk
  unfold least
  rw [List.getLastD_eq_getLast?]
  cases h : r.getLast? with
  | none => rw [List.getLast?_eq_none_iff] at h; subst h; cases hk
  | some d =>
    have := last_le g k hk d h
    show min 0 d ≤ k
    omega
theorem top_mem {r : List Int} (h : 0 < top r) : top r ∈ r := by
  cases r with
  | nil => exact absurd h (by decide)
  | cons d r =>
    have e : top (d :: r) = max 0 d := rfl
    rw [e] at h ⊢
    rw [show max 0 d = d by omega]
    exact List.mem_cons_self
theorem least_mem {r : List Int} (h : least r < 0) : least r ∈ r := by
  unfold least at h ⊢
  rw [List.getLastD_eq_getLast?] at h ⊢
  cases e : r.getLast? with
  | none => rw [e] at h; exact absurd h (by decide)
  | some d =>
    rw [e] at h
    have h' : min 0 d < 0 := h
    show min 0 d ∈ r
    rw [show min 0 d = d by omega]
    exact List.mem_of_getLast? e
/-- what a text tells: the place of its point, its figures -/
def pt (l : List Nat) : Nat := (l.takeWhile (fun x => x != 46)).length
def marks (l : List Nat) : List Nat := l.take (pt l) ++ l.drop (pt l + 1)
def okT (l : List Nat) : Prop := all01 (marks l) ∧ pt l ≠ 0 ∧ pt l + 1 ≠ l.length ∧ ¬ (1 < pt l ∧ l.head? = some 48) ∧ ¬ (pt l < l.length ∧ l.getLast? = some 48) ∧ isRow (ones ((pt l : Int) - 1) (marks l)) = true
instance (l : List Nat) : Decidable (okT l) := inferInstanceAs (Decidable (_ ∧ _))
def readT (l : List Nat) : Option (List Int) := if okT l then some (ones ((pt l : Int) - 1) (marks l)) else none
theorem pt_A : ∀ {l : List Nat}, 46 ∉ l → pt l = l.length
  | [], _ => rfl
  | x :: l, h => by
    have hx : x ≠ 46 := fun e => h (by rw [e]; exact List.mem_cons_self)
    have e : pt (x :: l) = pt l + 1 := by
      unfold pt
      rw [List.takeWhile_cons_of_pos (by simp [hx]), List.length_cons]
    rw [e, pt_A (fun k => h (List.mem_cons_of_mem _ k)), List.length_cons]
theorem pt_B : ∀ {a : List Nat} (b : List Nat), 46 ∉ a → pt (a ++ 46 :: b) = a.length
  | [], b, _ => by
    show ((46 :: b).takeWhile (fun x => x != 46)).length = 0
    rw [List.takeWhile_cons_of_neg (by simp)]; rfl
  | x :: a, b, h => by
    have hx : x ≠ 46 := fun e => h (by rw [e]; exact List.mem_cons_self)
    have e : pt (x :: (a ++ 46 :: b)) = pt (a ++ 46 :: b) + 1 := by
      unfold pt
      rw [List.takeWhile_cons_of_pos (by simp [hx]), List.length_cons]
    show pt (x :: (a ++ 46 :: b)) = _
    rw [e, pt_B b (fun k => h (List.mem_cons_of_mem _ k)), List.length_cons]
theorem marks_A {l : List Nat} (h : 46 ∉ l) : marks l = l := by
  unfold marks
  rw [pt_A h, List.take_length, List.drop_eq_nil_of_le (by omega), List.append_nil]
theorem marks_B {a : List Nat} (b : List Nat) (h : 46 ∉ a) : marks (a ++ 46 :: b) = a ++ b := by
  unfold marks
  rw [pt_B b h]
  have e1 : (a ++ 46 :: b).take a.length = a := List.take_left
  have e2 : (a ++ 46 :: b).drop (a.length + 1) = b := by
    rw [← List.drop_drop, List.drop_left]; rfl
  rw [e1, e2]
theorem cut_at (l : List Nat) : 46 ∉ l ∨ ∃ a b, l = a ++ 46 :: b ∧ 46 ∉ a := by
  induction l with
  | nil => exact .inl (fun h => nomatch h)
  | cons x l ih =>
    by_cases e : x = 46
    · exact .inr ⟨[], l, by rw [e]; rfl, fun h => nomatch h⟩
    · rcases ih with h | ⟨a, b, rfl, h⟩
      · exact .inl (fun k => (List.mem_cons.mp k).elim (fun z => e z.symm) h)
      · exact .inr ⟨x :: a, b, rfl, fun k => (List.mem_cons.mp k).elim (fun z => e z.symm) h⟩
theorem all01_app {a b : List Nat} : all01 (a ++ b) ↔ all01 a ∧ all01 b :=
  ⟨fun h => ⟨fun x hx => h x (List.mem_append_left _ hx), fun x hx => h x (List.mem_append_right _ hx)⟩, fun h x hx => (List.mem_append.mp hx).elim (h.1 x) (h.2 x)⟩
theorem okT_A {l : List Nat} (h : 46 ∉ l) : okT l ↔ l ≠ [] ∧ all01 l ∧ ¬ (1 < l.length ∧ l.head? = some 48) ∧ isRow (ones ((l.length : Int) - 1) l) = true := by
  unfold okT
  rw [marks_A h, pt_A h]
  have e : l.length ≠ 0 ↔ l ≠ [] := by rw [ne_eq, List.length_eq_zero_iff]
  constructor
  · rintro ⟨h1, h2, h3, h4, h5, h6⟩
    exact ⟨e.mp h2, h1, h4, h6⟩
  · rintro ⟨h1, h2, h3, h4⟩
    exact ⟨h2, e.mpr h1, by omega, h3, fun k => by omega, h4⟩
theorem okT_B {a : List Nat} (b : List Nat) (h : 46 ∉ a) : okT (a ++ 46 :: b) ↔ (a ≠ [] ∧ all01 a ∧ ¬ (1 < a.length ∧ a.head? = some 48)) ∧ (b ≠ [] ∧ all01 b ∧ b.getLast? ≠ some 48) ∧ isRow (ones ((a.length : Int) - 1) (a ++ b)) = true := by
  unfold okT
  rw [marks_B b h, pt_B b h, all01_app]
  have e : a.length ≠ 0 ↔ a ≠ [] := by rw [ne_eq, List.length_eq_zero_iff]
  have e2 : a.length + 1 ≠ (a ++ 46 :: b).length ↔ b ≠ [] := by
    rw [List.length_append, List.length_cons, ne_eq, ne_eq, ← List.length_eq_zero_iff]; omega
  have e3 : a.length < (a ++ 46 :: b).length := by rw [List.length_append, List.length_cons]; omega
  have e4 : b ≠ [] → (a ++ 46 :: b).getLast? = b.getLast? := fun hb => by
    cases b with
    | nil => exact absurd rfl hb
    | cons y b => rw [List.getLast?_append, List.getLast?_cons_cons, List.getLast?_cons]; rfl
  have e5 : a ≠ [] → (a ++ 46 :: b).head? = a.head? := fun ha => by
    cases a with
    | nil => exact absurd rfl ha
    | cons y a => rfl
  rw [e, e2]
  constructor
  · rintro ⟨h1, h2, h3, h4, h5, h6⟩
    refine ⟨⟨h2, h1.1, ?_⟩, ⟨h3, h1.2, ?_⟩, h6⟩
    · rw [e5 h2] at h4; exact h4
    · rw [e4 h3] at h5; exact fun k => h5 ⟨e3, k⟩
  · rintro ⟨⟨h1, h2, h3⟩, ⟨h4, h5, h6⟩, h7⟩
    refine ⟨⟨h2, h5⟩, h1, h4, ?_, ?_, h7⟩
    · rw [e5 h1]; exact h3
    · rw [e4 h4]; exact fun k => h6 k.2
theorem no46 {l : List Nat} (h : all01 l) : 46 ∉ l := fun k => by have := h _ k; omega
theorem figs_pos (r : List Int) (c : Int) (n : Nat) (h : 0 < n) : (figs r c n).head? = some (fig r c) := by
  match n, h with
  | n + 1, _ => rfl
theorem figs_last (r : List Int) (c : Int) (n : Nat) : (figs r c (n + 1)).getLast? = some (fig r (c - n)) := by
  rw [figs_snoc, List.getLast?_concat]
/-- what is written is read -/
theorem read_note {r : List Int} (h : isRow r = true) : readT (note r) = some r := by
  obtain ⟨g, hb⟩ := isRow_gap.mp h
  have tg := top_ge g
  have lg := least_le g
  have t0 : 0 ≤ top r := by unfold top; omega
  have l0 : least r ≤ 0 := by unfold least; omega
  have a01 := figs_01 r (top r + 1).toNat (top r)
  have na := no46 a01
  have len := figs_len r (top r + 1).toNat (top r)
  have ha : figs r (top r) (top r + 1).toNat ≠ [] := fun e => by rw [e] at len; rw [List.length_nil] at len; omega
  have hh : ¬ (1 < (figs r (top r) (top r + 1).toNat).length ∧ (figs r (top r) (top r + 1).toNat).head? = some 48) := fun ⟨k1, k2⟩ => by
    rw [len] at k1
    rw [figs_pos r _ _ (by omega)] at k2
    have := Option.some.inj k2
    unfold fig at this
    rw [if_pos (top_mem (by omega))] at this
    cases this
  have c1 : (((figs r (top r) (top r + 1).toNat).length : Nat) : Int) - 1 = top r := by rw [len]; omega
  unfold note
  by_cases hl : least r < 0
  · rw [if_pos hl]
    have b01 := figs_01 r (-least r).toNat (-1)
    have blen := figs_len r (-least r).toNat (-1)
    have hbn : figs r (-1) (-least r).toNat ≠ [] := fun e => by rw [e] at blen; rw [List.length_nil] at blen; omega
    have hbl : (figs r (-1) (-least r).toNat).getLast? ≠ some 48 := by
      have e : (-least r).toNat = ((-least r).toNat - 1) + 1 := by omega
      rw [e, figs_last]
      intro k
      have := Option.some.inj k
      unfold fig at this
      rw [show (-1 : Int) - (((-least r).toNat - 1 : Nat) : Int) = least r by omega, if_pos (least_mem hl)] at this
      cases this
    have rd : ones (top r) (figs r (top r) (top r + 1).toNat ++ figs r (-1) (-least r).toNat) = r := by
      have e := figs_add r (-least r).toNat (top r + 1).toNat (top r)
      rw [show top r - (((top r + 1).toNat : Nat) : Int) = -1 by omega] at e
      rw [← e]
      exact ones_figs _ _ r g (fun k hk => ⟨by have := lg k hk; omega, tg k hk⟩)
    unfold readT
    rw [if_pos ((okT_B _ na).mpr ⟨⟨ha, a01, hh⟩, ⟨hbn, b01, hbl⟩, by rw [c1, rd]; exact h⟩), marks_B _ na, pt_B _ na, c1, rd]
  · rw [if_neg hl, List.append_nil]
    have rd : ones (top r) (figs r (top r) (top r + 1).toNat) = r := ones_figs _ _ r g (fun k hk => ⟨by have := lg k hk; omega, tg k hk⟩)
    unfold readT
    rw [if_pos ((okT_A na).mpr ⟨ha, a01, hh, by rw [c1, rd]; exact h⟩), marks_A na, pt_A na, c1, rd]
theorem note_len {r : List Int} (h : isRow r = true) : (note r).length ≤ 200 := by
  obtain ⟨g, hb⟩ := isRow_gap.mp h
  have t1 : top r ≤ 80 := by
    by_cases c : 0 < top r
    · exact (hb _ (top_mem c)).2
    · omega
  have l1 : -80 ≤ least r := by
    by_cases c : least r < 0
    · exact (hb _ (least_mem c)).1
    · omega
  unfold note
  rw [List.length_append, figs_len]
  split
  · rw [List.length_cons, figs_len]; omega
  · rw [List.length_nil]; omega
end GM

/-! ### numbers.py: the plain ones -/
namespace GP
open PySem L2
def sp_summed : Sp := fun vs H Q _ => ∃ v w a b c d, vs = [v, w] ∧ N2 H v a b ∧ N2 H w c d ∧ ∀ r H', Same H H' → N2 H' r (a + c) (b + d) → Q r H'
def sp_less : Sp := fun vs H Q _ => ∃ v w a b c d, vs = [v, w] ∧ N2 H v a b ∧ N2 H w c d ∧ ∀ r H', Same H H' → N2 H' r (a - c) (b - d) → Q r H'
theorem c_summed {H : Hp} {Q : VK} {E : XK} {v w : V} {a b c d : Int} (h1 : N2 H v a b) (h2 : N2 H w c d) (q : ∀ r H', Same H H' → N2 H' r (a + c) (b + d) → Q r H') : sp_summed [v, w] H Q E := ⟨v, w, a, b, c, d, rfl, h1, h2, q⟩
theorem c_less {H : Hp} {Q : VK} {E : XK} {v w : V} {a b c d : Int} (h1 : N2 H v a b) (h2 : N2 H w c d) (q : ∀ r H', Same H H' → N2 H' r (a - c) (b - d) → Q r H') : sp_less [v, w] H Q E := ⟨v, w, a, b, c, d, rfl, h1, h2, q⟩
end GP
local macro_rules | `(tactic| walk_at "callee") => `(tactic| ((with_reducible refine' GP.c_summed ?h1 ?h2 ?_); (case h1 => walk_at "hp"); (case h2 => walk_at "hp"); intro _ _ _ _))
local macro_rules | `(tactic| walk_at "callee") => `(tactic| ((with_reducible refine' GP.c_less ?h1 ?h2 ?_); (case h1 => walk_at "hp"); (case h2 => walk_at "hp"); intro _ _ _ _))

/-! ### numbers.py: products -/
namespace GP
open PySem L2
abbrev Mu (i j : Int) : Prop := CMul i j ∨ CMulW i j
theorem mu_of {a b : Int} {n m : Nat} (ha : a.natAbs < 2 ^ n) (hb : b.natAbs < 2 ^ m) (h0 : 0 < n) (h1 : 0 < m) (h : n + m ≤ 1000000) : Mu a b := .inr (wide_mul ha hb h0 h1 h)
/-- sizes in bits -/
def Bd (n : Nat) (a : Int) : Prop := a.natAbs < 2 ^ n
theorem Bd.mono {n m : Nat} {a : Int} (h : Bd m a) (hm : Nat.ble m n = true) : Bd n a := Nat.lt_of_lt_of_le h (Nat.pow_le_pow_right (by decide) (Nat.le_of_ble_eq_true hm))
theorem Bd.add {n : Nat} {a b : Int} (ha : Bd (n - 1) a) (hb : Bd (n - 1) b) (hn : Nat.ble 1 n = true) : Bd n (a + b) := by
  unfold Bd at *
  have e : 2 ^ n = 2 * 2 ^ (n - 1) := by
    have h := Nat.le_of_ble_eq_true hn
    conv => lhs; rw [show n = (n - 1) + 1 by omega, Nat.pow_succ]
    omega
  rw [e]; omega
theorem Bd.sub {n : Nat} {a b : Int} (ha : Bd (n - 1) a) (hb : Bd (n - 1) b) (hn : Nat.ble 1 n = true) : Bd n (a - b) := by
  unfold Bd at *
  have e : 2 ^ n = 2 * 2 ^ (n - 1) := by
    have h := Nat.le_of_ble_eq_true hn
    conv => lhs; rw [show n = (n - 1) + 1 by omega, Nat.pow_succ]
    omega
  rw [e]; omega
theorem Bd.mul {n : Nat} {a b : Int} (ha : Bd (n / 2) a) (hb : Bd (n / 2) b) : Bd n (a * b) := by
  unfold Bd at *
  have h := wide_lt ha hb
  exact Nat.lt_of_lt_of_le h (Nat.pow_le_pow_right (by decide) (by omega))
theorem Bd.neg {n : Nat} {a : Int} (ha : Bd n a) : Bd n (-a) := by unfold Bd at *; omega
theorem Bd.zero {n : Nat} : Bd n 0 := Nat.pow_pos (by decide)
theorem Bd.one {n : Nat} (hn : Nat.ble 1 n = true) : Bd n 1 := Nat.lt_of_lt_of_le (by decide : 1 < 2 ^ 1) (Nat.pow_le_pow_right (by decide) (Nat.le_of_ble_eq_true hn))
theorem mu_bd {a b : Int} (ha : Bd 400000 a) (hb : Bd 400000 b) : Mu a b := mu_of ha hb (by decide) (by decide) (by decide)
/-- what a product of two numbers asks -/
def Mu4 (a b c d : Int) : Prop := Mu b d ∧ Mu a c ∧ Mu a d ∧ Mu b c
theorem mu4_of {a b c d : Int} {n m : Nat} (ha : a.natAbs < 2 ^ n) (hb : b.natAbs < 2 ^ n) (hc : c.natAbs < 2 ^ m) (hd : d.natAbs < 2 ^ m) (h0 : 0 < n) (h1 : 0 < m) (h : n + m ≤ 1000000) : Mu4 a b c d :=
  ⟨mu_of hb hd h0 h1 h, mu_of ha hc h0 h1 h, mu_of ha hd h0 h1 h, mu_of hb hc h0 h1 h⟩
def sp_times : Sp := fun vs H Q _ => ∃ v w a b c d, vs = [v, w] ∧ N2 H v a b ∧ N2 H w c d ∧ Mu4 a b c d ∧ ∀ r H', Same H H' → N2 H' r (a * c + b * d) (a * d + b * c + b * d) → Q r H'
def sp_turned : Sp := fun vs H Q _ => ∃ v a b, vs = [v] ∧ N2 H v a b ∧ ∀ r H', Same H H' → N2 H' r (a + b) (0 - b) → Q r H'
def sp_norm : Sp := fun vs H Q _ => ∃ v a b, vs = [v] ∧ N2 H v a b ∧ Mu a a ∧ Mu a b ∧ Mu b b ∧ Q (.int (a * a + a * b - b * b)) H
theorem c_times {H : Hp} {Q : VK} {E : XK} {v w : V} {a b c d : Int} (h1 : N2 H v a b) (h2 : N2 H w c d) (h3 : Mu4 a b c d) (q : ∀ r H', Same H H' → N2 H' r (a * c + b * d) (a * d + b * c + b * d) → Q r H') : sp_times [v, w] H Q E := ⟨v, w, a, b, c, d, rfl, h1, h2, h3, q⟩
theorem c_turned {H : Hp} {Q : VK} {E : XK} {v : V} {a b : Int} (h1 : N2 H v a b) (q : ∀ r H', Same H H' → N2 H' r (a + b) (0 - b) → Q r H') : sp_turned [v] H Q E := ⟨v, a, b, rfl, h1, q⟩
theorem c_norm {H : Hp} {Q : VK} {E : XK} {v : V} {a b : Int} (h1 : N2 H v a b) (h2 : Mu a a ∧ Mu a b ∧ Mu b b) (q : Q (.int (a * a + a * b - b * b)) H) : sp_norm [v] H Q E := ⟨v, a, b, rfl, h1, h2.1, h2.2.1, h2.2.2, q⟩
end GP
local macro_rules | `(tactic| walk_at "bd") => `(tactic| first
  | exact GP.Bd.zero
  | exact GP.Bd.one rfl
  | ((with_reducible refine GP.Bd.add ?_ ?_ rfl) <;> walk_at "bd")
  | ((with_reducible refine GP.Bd.sub ?_ ?_ rfl) <;> walk_at "bd")
  | ((with_reducible refine GP.Bd.mul ?_ ?_) <;> walk_at "bd")
  | ((with_reducible refine GP.Bd.neg ?_) <;> walk_at "bd")
  | exact GP.Bd.mono (by assumption) rfl)
local macro_rules | `(tactic| walk_at "mu") => `(tactic| first
  | assumption
  | exact ⟨GP.mu_bd (by walk_at "bd") (by walk_at "bd"), GP.mu_bd (by walk_at "bd") (by walk_at "bd"), GP.mu_bd (by walk_at "bd") (by walk_at "bd"), GP.mu_bd (by walk_at "bd") (by walk_at "bd")⟩
  | exact ⟨GP.mu_bd (by walk_at "bd") (by walk_at "bd"), GP.mu_bd (by walk_at "bd") (by walk_at "bd"), GP.mu_bd (by walk_at "bd") (by walk_at "bd")⟩)
local macro_rules | `(tactic| walk_at "side") => `(tactic| exact GP.mu_bd (by walk_at "bd") (by walk_at "bd"))
local macro_rules | `(tactic| walk_at "callee") => `(tactic| ((with_reducible refine' GP.c_times ?h1 ?h2 ?h3 ?_); (case h1 => walk_at "hp"); (case h2 => walk_at "hp"); (case h3 => walk_at "mu"); intro _ _ _ _))
local macro_rules | `(tactic| walk_at "callee") => `(tactic| ((with_reducible refine' GP.c_turned ?h1 ?_); (case h1 => walk_at "hp"); intro _ _ _ _))
local macro_rules | `(tactic| walk_at "callee") => `(tactic| ((with_reducible refine' GP.c_norm ?h1 ?h3 ?_); (case h1 => walk_at "hp"); (case h3 => walk_at "mu")))

namespace GP
open PySem L2
theorem ok_less {P : Program} {w : World} {K : PySem.W.Frag} {mg : Str → Option Value} {base : Heap} {f : Addr} {fd : FuncData} (F : Fun K "less" "less" s_less f fd) : FnOk P w K mg base CX0 1 f fd ["one", "other"] sp_less := by
  refine F.ok sc_less (fun vs H Q E h => ?_) (fun cdv A outer s H vs Q E hr h => ?_)
  · obtain ⟨v, w, a, b, c, d, rfl, _⟩ := h
    rfl
  obtain ⟨v, w, a, b, c, d, rfl, h1, h2, q⟩ := h
  refine ⟨_, (pss_one (ps_ret (pe_tup (pa_cons (pe_op op_sub (pe_ix ix_seq (pv 0) pe_int (fun _ _ => rfl)) (pe_ix ix_seq (pv 1) pe_int (fun _ _ => rfl))) (pa_cons (pe_op op_sub (pe_ix ix_seq (pv 0) pe_int (fun _ _ => rfl)) (pe_ix ix_seq (pv 1) pe_int (fun _ _ => rfl))) pa_nil))))), ?_⟩
  walk_at "go"
  exact q _ _ (by walk_at "sm") (by walk_at "hp")
end GP

namespace GP
open PySem L2
theorem ok_summed {P : Program} {w : World} {K : PySem.W.Frag} {mg : Str → Option Value} {base : Heap} {f : Addr} {fd : FuncData} (F : Fun K "summed" "summed" s_summed f fd) : FnOk P w K mg base CX0 1 f fd ["one", "other"] sp_summed := by
  refine F.ok sc_summed (fun vs H Q E h => ?_) (fun cdv A outer s H vs Q E hr h => ?_)
  · obtain ⟨v, w, a, b, c, d, rfl, _⟩ := h
    rfl
  obtain ⟨v, w, a, b, c, d, rfl, h1, h2, q⟩ := h
  refine ⟨_, (pss_one (ps_ret (pe_tup (pa_cons (pe_op op_add (pe_ix ix_seq (pv 0) pe_int (fun _ _ => rfl)) (pe_ix ix_seq (pv 1) pe_int (fun _ _ => rfl))) (pa_cons (pe_op op_add (pe_ix ix_seq (pv 0) pe_int (fun _ _ => rfl)) (pe_ix ix_seq (pv 1) pe_int (fun _ _ => rfl))) pa_nil))))), ?_⟩
  walk_at "go"
  exact q _ _ (by walk_at "sm") (by walk_at "hp")
end GP

namespace GP
open PySem L2
theorem ok_times {P : Program} {w : World} {K : PySem.W.Frag} {mg : Str → Option Value} {base : Heap} {f : Addr} {fd : FuncData} (F : Fun K "times" "times" s_times f fd) : FnOk P w K mg base CX0 1 f fd ["one", "other"] sp_times := by
  refine F.ok sc_times (fun vs H Q E h => ?_) (fun cdv A outer s H vs Q E hr h => ?_)
  · obtain ⟨v, w, a, b, c, d, rfl, _⟩ := h
    rfl
  obtain ⟨v, w, a, b, c, d, rfl, h1, h2, ⟨m1, m2, m3, m4⟩, q⟩ := h
  refine ⟨_, (pss_cons (ps_set (i := 2) sc_times.nd rfl (Or.inl rfl) (pe_op op_mulA (pe_ix ix_seq (pv 0) pe_int (fun _ _ => rfl)) (pe_ix ix_seq (pv 1) pe_int (fun _ _ => rfl))))
      (pss_one (ps_ret (pe_tup (pa_cons (pe_op op_add (pe_op op_mulA (pe_ix ix_seq (pv 0) pe_int (fun _ _ => rfl)) (pe_ix ix_seq (pv 1) pe_int (fun _ _ => rfl))) (pv 2)) (pa_cons (pe_op op_add (pe_op op_add (pe_op op_mulA (pe_ix ix_seq (pv 0) pe_int (fun _ _ => rfl)) (pe_ix ix_seq (pv 1) pe_int (fun _ _ => rfl))) (pe_op op_mulA (pe_ix ix_seq (pv 0) pe_int (fun _ _ => rfl)) (pe_ix ix_seq (pv 1) pe_int (fun _ _ => rfl)))) (pv 2)) pa_nil)))))), ?_⟩
  walk_at "go"
  exact q _ _ (by walk_at "sm") (by walk_at "hp")
end GP

namespace GP
open PySem L2
def sp_sign : Sp := fun vs H Q _ => ∃ v a b, vs = [v] ∧ N2 H v a b ∧ Bd 3000 a ∧ Bd 3000 b ∧ Q (.int (GM.sg a b)) H
theorem c_sign {H : Hp} {Q : VK} {E : XK} {v : V} {a b : Int} (h1 : N2 H v a b) (h2 : Bd 3000 a) (h3 : Bd 3000 b) (q : Q (.int (GM.sg a b)) H) : sp_sign [v] H Q E := ⟨v, a, b, rfl, h1, h2, h3, q⟩
theorem ok_sign {P : Program} {w : World} {K : PySem.W.Frag} {mg : Str → Option Value} {base : Heap} {f : Addr} {fd : FuncData} (F : Fun K "sign" "sign" s_sign f fd) : FnOk P w K mg base CX0 1 f fd ["number"] sp_sign := by
  refine F.ok sc_sign (fun vs H Q E h => ?_) (fun cdv A outer s H vs Q E hr h => ?_)
  · obtain ⟨v, a, b, rfl, _⟩ := h
    rfl
  obtain ⟨v, a, b, rfl, h1, ba, bb, q⟩ := h
  have b1 : Bd 3002 (2 * a + b) := by
    unfold Bd at *
    have e : (2 : Nat) ^ 3002 = 4 * 2 ^ 3000 := by decide +kernel
    rw [e]
    generalize (2 : Nat) ^ 3000 = x at *
    omega
  have m1 : Mu (2 * a + b) (2 * a + b) := mu_of b1 b1 (by decide) (by decide) (by decide)
  have m2 : Mu (5 * b) b := mu_of (show (5 * b).natAbs < 2 ^ 3003 by
    unfold Bd at bb
    have e : (2 : Nat) ^ 3003 = 8 * 2 ^ 3000 := by decide +kernel
    rw [e]
    generalize (2 : Nat) ^ 3000 = x at *
    omega) bb (by decide) (by decide) (by decide)
  refine ⟨_, (pss_cons (ps_set (i := 1) sc_sign.nd rfl (Or.inl rfl) (pe_op op_add (pe_op op_mulA pe_int (pe_ix ix_seq (pv 0) pe_int (fun _ _ => rfl))) (pe_ix ix_seq (pv 0) pe_int (fun _ _ => rfl))))
      (pss_cons (ps_set (i := 2) sc_sign.nd rfl (Or.inl rfl) (pe_ix ix_seq (pv 0) pe_int (fun _ _ => rfl)))
      (pss_cons (ps_if (PW.pt (pw_and (pt_cmpR op_eq (pv 1) pe_int (nomark _)) (pw_and1 (pt_cmpR op_eq (pv 2) pe_int (nomark _))))) (pss_one (ps_ret pe_int)) pss_nil)
      (pss_cons (ps_if (PW.pt (pw_and (pt_cmpR op_ge (pv 1) pe_int (nomark _)) (pw_and1 (pt_cmpR op_ge (pv 2) pe_int (nomark _))))) (pss_one (ps_ret pe_int)) pss_nil)
      (pss_cons (ps_if (PW.pt (pw_and (pt_cmpR op_le (pv 1) pe_int (nomark _)) (pw_and1 (pt_cmpR op_le (pv 2) pe_int (nomark _))))) (pss_one (ps_ret (pe_un un_neg pe_int))) pss_nil)
      (pss_cons (ps_if (pt_cmpR op_gt (pv 1) pe_int (nomark _)) (pss_cons (ps_if (pt_cmpR op_gt (pe_op op_mulA (pv 1) (pv 1)) (pe_op op_mulA (pe_op op_mulA pe_int (pv 2)) (pv 2)) (nomark _)) (pss_one (ps_ret pe_int)) pss_nil)
      (pss_one (ps_ret (pe_un un_neg pe_int)))) pss_nil)
      (pss_cons (ps_if (pt_cmpR op_gt (pe_op op_mulA (pe_op op_mulA pe_int (pv 2)) (pv 2)) (pe_op op_mulA (pv 1) (pv 1)) (nomark _)) (pss_one (ps_ret pe_int)) pss_nil)
      (pss_one (ps_ret (pe_un un_neg pe_int)))))))))), ?_⟩
  clear ba bb b1
  walk_at "ifs"
  all_goals exact iRtI (by unfold GM.sg; (repeat' split) <;> omega) q
end GP
local macro_rules | `(tactic| walk_at "callee") => `(tactic| ((with_reducible refine' GP.c_sign ?h1 ?h2 ?h3 ?_); (case h1 => walk_at "hp"); (case h2 => walk_at "bd"); (case h3 => walk_at "bd")))

namespace GP
open PySem L2
def sp_raised : Sp := fun vs H Q _ => ∃ v a b, vs = [v] ∧ N2 H v a b ∧ ∀ r H', Same H H' → N2 H' r b (a + b) → Q r H'
def sp_lowered : Sp := fun vs H Q _ => ∃ v a b, vs = [v] ∧ N2 H v a b ∧ ∀ r H', Same H H' → N2 H' r (b - a) a → Q r H'
theorem c_raised {H : Hp} {Q : VK} {E : XK} {v : V} {a b : Int} (h1 : N2 H v a b) (q : ∀ r H', Same H H' → N2 H' r b (a + b) → Q r H') : sp_raised [v] H Q E := ⟨v, a, b, rfl, h1, q⟩
theorem c_lowered {H : Hp} {Q : VK} {E : XK} {v : V} {a b : Int} (h1 : N2 H v a b) (q : ∀ r H', Same H H' → N2 H' r (b - a) a → Q r H') : sp_lowered [v] H Q E := ⟨v, a, b, rfl, h1, q⟩
theorem ok_raised {P : Program} {w : World} {K : PySem.W.Frag} {mg : Str → Option Value} {base : Heap} {f : Addr} {fd : FuncData} (F : Fun K "raised" "raised" s_raised f fd) : FnOk P w K mg base CX0 1 f fd ["number"] sp_raised := by
  refine F.ok sc_raised (fun vs H Q E h => ?_) (fun cdv A outer s H vs Q E hr h => ?_)
  · obtain ⟨v, a, b, rfl, _⟩ := h
    rfl
  obtain ⟨v, a, b, rfl, h1, q⟩ := h
  refine ⟨_, (pss_one (ps_ret (pe_tup (pa_cons (pe_ix ix_seq (pv 0) pe_int (fun _ _ => rfl)) (pa_cons (pe_op op_add (pe_ix ix_seq (pv 0) pe_int (fun _ _ => rfl)) (pe_ix ix_seq (pv 0) pe_int (fun _ _ => rfl))) pa_nil))))), ?_⟩
  walk_at "go"
  exact q _ _ (by walk_at "sm") (by walk_at "hp")
theorem ok_lowered {P : Program} {w : World} {K : PySem.W.Frag} {mg : Str → Option Value} {base : Heap} {f : Addr} {fd : FuncData} (F : Fun K "lowered" "lowered" s_lowered f fd) : FnOk P w K mg base CX0 1 f fd ["number"] sp_lowered := by
  refine F.ok sc_lowered (fun vs H Q E h => ?_) (fun cdv A outer s H vs Q E hr h => ?_)
  · obtain ⟨v, a, b, rfl, _⟩ := h
    rfl
  obtain ⟨v, a, b, rfl, h1, q⟩ := h
  refine ⟨_, (pss_one (ps_ret (pe_tup (pa_cons (pe_op op_sub (pe_ix ix_seq (pv 0) pe_int (fun _ _ => rfl)) (pe_ix ix_seq (pv 0) pe_int (fun _ _ => rfl))) (pa_cons (pe_ix ix_seq (pv 0) pe_int (fun _ _ => rfl)) pa_nil))))), ?_⟩
  walk_at "go"
  exact q _ _ (by walk_at "sm") (by walk_at "hp")
end GP
local macro_rules | `(tactic| walk_at "callee") => `(tactic| ((with_reducible refine' GP.c_raised ?h1 ?_); (case h1 => walk_at "hp"); intro _ _ _ _))
local macro_rules | `(tactic| walk_at "callee") => `(tactic| ((with_reducible refine' GP.c_lowered ?h1 ?_); (case h1 => walk_at "hp"); intro _ _ _ _))

namespace GP
open PySem L2
def sp_power : Sp := fun vs H Q _ => ∃ k : Int, vs = [.int k] ∧ k.natAbs < 1000 ∧ ∀ r H', Same H H' → N2 H' r (GM.pw k).1 (GM.pw k).2 → Q r H'
theorem c_power {H : Hp} {Q : VK} {E : XK} {k : Int} (h1 : k.natAbs < 1000) (q : ∀ r H', Same H H' → N2 H' r (GM.pw k).1 (GM.pw k).2 → Q r H') : sp_power [.int k] H Q E := ⟨k, rfl, h1, q⟩
theorem bd_pw1 (k : Int) (h : k.natAbs < 1000) : Bd 1000 (GM.pw k).1 := (GM.pw_size h).1
theorem bd_pw2 (k : Int) (h : k.natAbs < 1000) : Bd 1000 (GM.pw k).2 := (GM.pw_size h).2
theorem ok_power {P : Program} {w : World} {K : PySem.W.Frag} {mg : Str → Option Value} {base : Heap} {f : Addr} {fd : FuncData} (F : Fun K "power" "power" s_power f fd) (nb : NB mg) (c_raised : Cal P w K mg base CX0 1 "raised" ["number"] sp_raised) (c_lowered : Cal P w K mg base CX0 1 "lowered" ["number"] sp_lowered) : FnOk P w K mg base CX0 2 f fd ["k"] sp_power := by
  refine F.ok sc_power (fun vs H Q E h => ?_) (fun cdv A outer s H vs Q E hr h => ?_)
  · obtain ⟨k, rfl, _⟩ := h
    rfl
  obtain ⟨k, rfl, hk, q⟩ := h
  refine ⟨_, (pss_cons (ps_set (i := 1) sc_power.nd rfl (Or.inl rfl) (pe_tup (pa_cons pe_int (pa_cons pe_int pa_nil))))
      (pss_cons (ps_for PassesOwn.never rfl (pi_range1 (by rfl) nb.range (pa_cons (pe_callB g_abs (by rfl) nb.abs (by decide +kernel) (pa_cons (pv 0) pa_nil)) pa_nil)) (pg_name (i := 2) sc_power.nd rfl (Or.inl rfl)) (pss_one (ps_if (pt_cmpR op_gt (pv 0) pe_int (nomark _)) (pss_one (ps_set (i := 1) sc_power.nd rfl (Or.inl rfl) (pe_callC c_raised hr pass0 (pa_cons (pv 1) pa_nil)))) (pss_one (ps_set (i := 1) sc_power.nd rfl (Or.inl rfl) (pe_callC c_lowered hr pass0 (pa_cons (pv 1) pa_nil)))))))
      (pss_one (ps_ret (pv 1))))), ?_⟩
  walk_at "go"
  refine iRF1 ⟨by split <;> omega, by split <;> omega⟩ (fun i σ' H' => ∃ (v : V) (z : Option V), σ' = [some (.int k), some v, z] ∧ Same H H' ∧ N2 H' v (GM.pwI k i).1 (GM.pwI k i).2) ⟨_, none, rfl, by walk_at "sm", ?_⟩ (fun i σ' H' hi hP => ?_) (fun σ' H' hP => ?_)
  · have e : GM.pwI k 0 = (1, 0) := by unfold GM.pwI; split <;> rfl
    rw [e]
    walk_at "hp"
  · obtain ⟨v, z, rfl, hs, hv⟩ := hP
    walk_at "go"
    refine GP.iIf (fun h => ?_) (fun h => ?_)
    · walk_at "go"
      have e : GM.pwI k (i + 1) = GM.up (GM.pwI k i) := by unfold GM.pwI; rw [if_pos h, if_pos h]; rfl
      refine ⟨_, _, rfl, by walk_at "sm", ?_⟩
      rw [e]
      walk_at "hp"
    · walk_at "go"
      have e : GM.pwI k (i + 1) = GM.dn (GM.pwI k i) := by unfold GM.pwI; rw [if_neg h, if_neg h]; rfl
      refine ⟨_, _, rfl, by walk_at "sm", ?_⟩
      rw [e]
      walk_at "hp"
  · obtain ⟨v, z, rfl, hs, hv⟩ := hP
    walk_at "go"
    rw [GM.pwI_end] at hv
    exact q _ _ (by walk_at "sm") (by walk_at "hp")
end GP
local macro_rules | `(tactic| walk_at "callee") => `(tactic| ((with_reducible refine GP.c_power ?h1 ?_); (case h1 => omega); intro _ _ _ _))
local macro_rules | `(tactic| walk_at "bd") => `(tactic| first
  | exact GP.Bd.mono (GP.bd_pw1 _ (by omega)) rfl
  | exact GP.Bd.mono (GP.bd_pw2 _ (by omega)) rfl)

namespace GP
open PySem L2
def sp_is_row : Sp := fun vs H Q _ => ∃ v ns, vs = [v] ∧ LI H v ns ∧ ns.length ≤ 1000 ∧ Q (.bl (GM.isRow ns)) H
theorem c_isrow {H : Hp} {Q : VK} {E : XK} {v : V} {ns : List Int} (h1 : LI H v ns) (h2 : ns.length ≤ 1000) (q : Q (.bl (GM.isRow ns)) H) : sp_is_row [v] H Q E := ⟨v, ns, rfl, h1, h2, q⟩
theorem ok_is_row {P : Program} {w : World} {K : PySem.W.Frag} {mg : Str → Option Value} {base : Heap} {f : Addr} {fd : FuncData} (F : Fun K "is_row" "is_row" s_is_row f fd) (nb : NB mg) {t_FAR : Tok} (g_FAR : mg "FAR" = some (.int 80 t_FAR)) : FnOk P w K mg base CX0 1 f fd ["places"] sp_is_row := by
  refine F.ok sc_is_row (fun vs H Q E h => ?_) (fun cdv A outer s H vs Q E hr h => ?_)
  · obtain ⟨v, ns, rfl, _⟩ := h
    rfl
  obtain ⟨v, ns, rfl, h1, hl, q⟩ := h
  refine ⟨_, (pss_cons (ps_for PassesOwn.never rfl (pi_range1 (by rfl) nb.range (pa_cons (pe_callB g_len (by rfl) nb.len (by decide +kernel) (pa_cons (pv 0) pa_nil)) pa_nil)) (pg_name (i := 1) sc_is_row.nd rfl (Or.inl rfl)) (pss_one (ps_if (PW.pt (pw_or (pt_cmpR op_gt (pe_ix ix_seq (pv 0) (pv 1) (fun _ _ => rfl)) (pe_glob (v := .int 80) (by rfl) g_FAR ⟨_, rfl⟩) (nomark _)) (pw_or (pt_cmpR op_lt (pe_ix ix_seq (pv 0) (pv 1) (fun _ _ => rfl)) (pe_op op_sub pe_int (pe_glob (v := .int 80) (by rfl) g_FAR ⟨_, rfl⟩)) (nomark _)) (pw_or1 (PW.pt (pw_and (pt_cmpR op_gt (pv 1) pe_int (nomark _)) (pw_and1 (pt_cmpR op_lt (pe_op op_sub (pe_ix ix_seq (pv 0) (pe_op op_sub (pv 1) pe_int) (fun _ _ => rfl)) (pe_ix ix_seq (pv 0) (pv 1) (fun _ _ => rfl))) pe_int (nomark _))))))))) (pss_one (ps_ret pe_bl)) pss_nil)))
      (pss_one (ps_ret pe_bl))), ?_⟩
  walk_at "go"
  try rw [List.length_map]
  refine iRF1 ⟨by omega, by omega⟩ (fun i σ' H' => ∃ (z : Option V), σ' = [some v, z] ∧ H' = H ∧ ∀ k, k < i → GM.rowAt ns k = true) ⟨_, rfl, rfl, fun k hk => by omega⟩ (fun i σ' H' hi hP => ?_) (fun σ' H' hP => ?_)
  · obtain ⟨z, rfl, rfl, hk⟩ := hP
    have bad : GM.rowAt ns i = false → Q (.bl false) H' := fun hb => by
      have e : GM.isRow ns = false := by
        cases c : GM.isRow ns
        · rfl
        · rw [GM.isRow_iff.mp c i (by omega)] at hb; cases hb
      rw [e] at q; exact q
    have good : GM.rowAt ns i = true → ∀ k, k < i + 1 → GM.rowAt ns k = true := fun hg k hk' => by
      by_cases c : k = i
      · rw [c]; exact hg
      · exact hk k (by omega)
    rw [GM.rowAt_iff] at good
    have bad' : (¬ (ns.getD i 0 ≤ 80 ∧ -80 ≤ ns.getD i 0 ∧ (0 < i → 2 ≤ ns.getD (i - 1) 0 - ns.getD i 0))) → Q (.bl false) H' := fun hb => bad (by
      cases c : GM.rowAt ns i
      · rfl
      · exact absurd (GM.rowAt_iff.mp c) hb)
    walk_at "ifs"
    all_goals first
      | exact bad' (by omega)
      | exact ⟨_, rfl, rfl, good (by omega)⟩
  · obtain ⟨z, rfl, rfl, hk⟩ := hP
    walk_at "go"
    have e : GM.isRow ns = true := GM.isRow_iff.mpr (fun k h => hk k (by omega))
    rw [e] at q; exact q
end GP
local macro_rules | `(tactic| walk_at "callee") => `(tactic| ((with_reducible refine' GP.c_isrow ?h1 ?h2 ?_); (case h1 => walk_at "hp"); (case h2 => omega)))

namespace GP
open PySem L2
def sp_asked_row (C : Addr) : Sp := fun vs H Q E => ∃ v ns, vs = [v] ∧ LI H v ns ∧ ns.length ≤ 1000 ∧ (GM.isRow ns = true → Q .non H) ∧ (GM.isRow ns = false → E (.ref C) none H)
theorem c_asked {C : Addr} {H : Hp} {Q : VK} {E : XK} {v : V} {ns : List Int} (h1 : LI H v ns) (h2 : ns.length ≤ 1000) (h3 : GM.isRow ns = true) (q : Q .non H) : sp_asked_row C [v] H Q E := ⟨v, ns, rfl, h1, h2, fun _ => q, fun h => by rw [h3] at h; cases h⟩
theorem c_askedX {C : Addr} {H : Hp} {Q : VK} {E : XK} {v : V} {ns : List Int} (h1 : LI H v ns) (h2 : ns.length ≤ 1000) (h3 : GM.isRow ns = false) (q : E (.ref C) none H) : sp_asked_row C [v] H Q E := ⟨v, ns, rfl, h1, h2, fun h => (by rw [h3] at h; cases h), fun _ => q⟩
theorem ok_asked_row {P : Program} {w : World} {K : PySem.W.Frag} {mg : Str → Option Value} {base : Heap} {f : Addr} {fd : FuncData} (F : Fun K "asked_row" "asked_row" s_asked_row f fd) {C_NoRow : Addr} (e_NoRow : EX K mg "NoRow" C_NoRow) (c_is_row : Cal P w K mg base CX0 1 "is_row" ["places"] sp_is_row) : FnOk P w K mg base (L2.CX P w) 2 f fd ["places"] (sp_asked_row C_NoRow) := by
  refine F.okX sc_asked_row (fun vs H Q E h => ?_) (fun cdv A outer s H vs Q E hr h => ?_)
  · obtain ⟨v, ns, rfl, _⟩ := h
    rfl
  obtain ⟨v, ns, rfl, h1, hl, q1, q2⟩ := h
  refine ⟨_, (pss_one (ps_if (pt_not (pt_val (pe_callC c_is_row hr pass0 (pa_cons (pv 0) pa_nil)))) (pss_one (ps_raise rfl (takes_of rfl rfl rfl rfl) (pmk_own PySem.F.excBase_ValueError e_NoRow.exc e_NoRow.mgC e_NoRow.keep (raises_own e_NoRow.sub e_NoRow.typ) (by rfl)))) pss_nil)), ?_⟩
  walk_at "go"
  walk_at "if"
  · intro c
    exact q2 c
  · intro c
    walk_at "go"
    exact q1 c
end GP
local macro_rules | `(tactic| walk_at "callee") => `(tactic| ((with_reducible refine' GP.c_asked ?h1 ?h2 ?h3 ?_); (case h1 => walk_at "hp"); (case h2 => omega); (case h3 => assumption)))
local macro_rules | `(tactic| walk_at "callee") => `(tactic| ((with_reducible refine' GP.c_askedX ?h1 ?h2 ?h3 ?_); (case h1 => walk_at "hp"); (case h2 => omega); (case h3 => assumption)))

namespace GP
open PySem L2
def sp_total : Sp := fun vs H Q _ => ∃ v ns, vs = [v] ∧ LI H v ns ∧ ns.length ≤ 1000 ∧ (∀ k ∈ ns, k.natAbs < 1000) ∧ ∀ r H', Same H H' → N2 H' r (GM.sumP ns).1 (GM.sumP ns).2 → Q r H'
theorem c_total {H : Hp} {Q : VK} {E : XK} {v : V} {ns : List Int} (h1 : LI H v ns) (h2 : ns.length ≤ 1000) (h3 : ∀ k ∈ ns, k.natAbs < 1000) (q : ∀ r H', Same H H' → N2 H' r (GM.sumP ns).1 (GM.sumP ns).2 → Q r H') : sp_total [v] H Q E := ⟨v, ns, rfl, h1, h2, h3, q⟩
theorem ok_total {P : Program} {w : World} {K : PySem.W.Frag} {mg : Str → Option Value} {base : Heap} {f : Addr} {fd : FuncData} (F : Fun K "total" "total" s_total f fd) (c_summed : Cal P w K mg base CX0 1 "summed" ["one", "other"] sp_summed) (c_power : Cal P w K mg base CX0 2 "power" ["k"] sp_power) : FnOk P w K mg base CX0 3 f fd ["places"] sp_total := by
  refine F.ok sc_total (fun vs H Q E h => ?_) (fun cdv A outer s H vs Q E hr h => ?_)
  · obtain ⟨v, ns, rfl, _⟩ := h
    rfl
  obtain ⟨v, ns, rfl, h1, hl, hk, q⟩ := h
  refine ⟨_, (pss_cons (ps_set (i := 1) sc_total.nd rfl (Or.inl rfl) (pe_tup (pa_cons pe_int (pa_cons pe_int pa_nil))))
      (pss_cons (ps_for PassesOwn.never rfl (pi_list (pv 0)) (pg_name (i := 2) sc_total.nd rfl (Or.inl rfl)) (pss_one (ps_set (i := 1) sc_total.nd rfl (Or.inl rfl) (pe_callC c_summed (hr.mono (by decide)) pass0 (pa_cons (pv 1) (pa_cons (pe_callC c_power hr pass0 (pa_cons (pv 2) pa_nil)) pa_nil))))))
      (pss_one (ps_ret (pv 1))))), ?_⟩
  walk_at "go"
  rename_i v0 H0 s0 n0
  refine iFL (xs := ns.map V.int) (by walk_at "hp") (fun i σ' H' => ∃ (u : V) (z : Option V), σ' = [some v, some u, z] ∧ Same H H' ∧ N2 H' u (GM.sumP (ns.take i)).1 (GM.sumP (ns.take i)).2) ⟨_, none, rfl, by walk_at "sm", by walk_at "hp"⟩ (fun i σ' H' hP => ?_) (fun i y σ' H' hi hP => ?_) (fun σ' H' hP => ?_)
  · obtain ⟨u, z, rfl, hs, hu⟩ := hP
    walk_at "hp"
  · obtain ⟨u, z, rfl, hs, hu⟩ := hP
    rw [List.getElem?_map] at hi
    obtain ⟨n, hn, rfl⟩ := Option.map_eq_some_iff.mp hi
    have b := hk n (List.mem_of_getElem? hn)
    walk_at "go"
    rw [GM.sumP_take hn]
    exact ⟨_, _, rfl, by walk_at "sm", by walk_at "hp"⟩
  · obtain ⟨u, z, rfl, hs, hu⟩ := hP
    rw [List.length_map, List.take_length] at hu
    walk_at "go"
    exact q _ _ (by walk_at "sm") (by walk_at "hp")
end GP
local macro_rules | `(tactic| walk_at "callee") => `(tactic| ((with_reducible refine' GP.c_total ?h1 ?h2 ?h3 ?_); (case h1 => walk_at "hp"); (case h2 => omega); (case h3 => first | assumption | walk_at "small"); intro _ _ _ _))
local macro_rules | `(tactic| walk_at "small") => `(tactic| assumption)

namespace GP
open PySem L2
theorem row_small {ns : List Int} (h : GM.isRow ns = true) : ∀ k ∈ ns, k.natAbs < 1000 := fun k hk => by
  have := (GM.isRow_gap.mp h).2 k hk
  omega
def sp_value (C : Addr) : Sp := fun vs H Q E => ∃ v ns, vs = [v] ∧ LI H v ns ∧ ns.length ≤ 1000 ∧ (GM.isRow ns = true → ∀ r H', Same H H' → N2 H' r (GM.sumP ns).1 (GM.sumP ns).2 → Q r H') ∧ (GM.isRow ns = false → E (.ref C) none H)
theorem c_value {C : Addr} {H : Hp} {Q : VK} {E : XK} {v : V} {ns : List Int} (h1 : LI H v ns) (h2 : ns.length ≤ 1000) (h3 : GM.isRow ns = true) (q : ∀ r H', Same H H' → N2 H' r (GM.sumP ns).1 (GM.sumP ns).2 → Q r H') : sp_value C [v] H Q E := ⟨v, ns, rfl, h1, h2, fun _ => q, fun h => by rw [h3] at h; cases h⟩
theorem ok_value {P : Program} {w : World} {K : PySem.W.Frag} {mg : Str → Option Value} {base : Heap} {f : Addr} {fd : FuncData} (F : Fun K "value" "value" s_value f fd) {C_NoRow : Addr} (c_asked_row : Cal P w K mg base (L2.CX P w) 2 "asked_row" ["places"] (sp_asked_row C_NoRow)) (c_total : Cal P w K mg base CX0 3 "total" ["places"] sp_total) : FnOk P w K mg base (L2.CX P w) 4 f fd ["row"] (sp_value C_NoRow) := by
  refine F.okX sc_value (fun vs H Q E h => ?_) (fun cdv A outer s H vs Q E hr h => ?_)
  · obtain ⟨v, ns, rfl, _⟩ := h
    rfl
  obtain ⟨v, ns, rfl, h1, hl, q1, q2⟩ := h
  refine ⟨_, (pss_cons (ps_expr (pe_callC c_asked_row (hr.mono (by decide)) (passes_call (takes_of rfl rfl rfl rfl) (fun _ _ _ _ h => h)) (pa_cons (pv 0) pa_nil)))
      (pss_one (ps_ret (pe_callC c_total hr pass0 (pa_cons (pv 0) pa_nil))))), ?_⟩
  cases c : GM.isRow ns
  · walk_at "go"
    exact q2 c
  · have sm := row_small c
    walk_at "go"
    exact q1 c _ _ (by walk_at "sm") (by walk_at "hp")
end GP
local macro_rules | `(tactic| walk_at "small") => `(tactic| exact GP.row_small (by assumption))
local macro_rules | `(tactic| walk_at "callee") => `(tactic| ((with_reducible refine' GP.c_value ?h1 ?h2 ?h3 ?_); (case h1 => walk_at "hp"); (case h2 => omega); (case h3 => assumption); intro _ _ _ _))

namespace GP
open PySem L2
def cellAt (ns : List Int) (k : Int) : Int := ns.getD k.toNat 0
def sp__law_cell_at (K : PySem.W.Frag) : Sp := fun vs H Q _ => ∃ (a : Addr) (ns : List Int) (k : Int), vs = [.ref a, .int k] ∧ SqL K H a (ns.map V.int) ∧ 0 ≤ k ∧ Q (.int (cellAt ns k)) H
theorem c_cell {K : PySem.W.Frag} {H : Hp} {Q : VK} {E : XK} {a : Addr} {ns : List Int} {k : Int} (h1 : SqL K H a (ns.map V.int)) (h0 : 0 ≤ k) (q : Q (.int (cellAt ns k)) H) : sp__law_cell_at K [.ref a, .int k] H Q E := ⟨a, ns, k, rfl, h1, h0, q⟩
theorem ok__law_cell_at {P : Program} {w : World} {K : PySem.W.Frag} {mg : Str → Option Value} {base : Heap} {f : Addr} {fd : FuncData} (F : Fun K "_law_cell_at" "_law_cell_at" s__law_cell_at f fd) (nb : NB mg) : FnOk P w K mg base CX0 1 f fd ["script", "k"] (sp__law_cell_at K) := by
  refine F.ok sc__law_cell_at (fun vs H Q E h => ?_) (fun cdv A outer s H vs Q E hr h => ?_)
  · obtain ⟨a, ns, k, rfl, _⟩ := h
    rfl
  obtain ⟨a, ns, k, rfl, hS, h0, q⟩ := h
  refine ⟨_, (pss_cons (ps_if (pt_cmpR op_lt (pv 1) (pe_callB g_len (by rfl) nb.len (by decide +kernel) (pa_cons (pv 0) pa_nil)) (nomark _)) (pss_one (ps_ret (pe_ix ix_seq (pv 0) (pv 1) (fun _ _ => rfl)))) pss_nil)
      (pss_one (ps_ret pe_int))), ?_⟩
  walk_at "go"
  rw [List.length_map]
  refine GP.iIf (fun h => ?_) (fun h => ?_)
  · walk_at "go"
    have hk : k.toNat < ns.length := by omega
    have ek : ((k.toNat : Nat) : Int) = k := by omega
    have e : atI (ns.map V.int) ((k.toNat : Nat) : Int) = some (.int (cellAt ns k)) := atI_nat (by
      rw [List.getElem?_map, List.getElem?_eq_getElem hk]
      unfold cellAt
      rw [List.getD_eq_getElem?_getD, List.getElem?_eq_getElem hk]
      rfl)
    rw [ek] at e
    exact iIxQ hS e q
  · walk_at "go"
    have e : cellAt ns k = 0 := by
      unfold cellAt
      rw [List.getD_eq_getElem?_getD, List.getElem?_eq_none (by omega)]
      rfl
    rw [e] at q
    exact q
end GP
local macro_rules | `(tactic| walk_at "callee") => `(tactic| ((with_reducible refine' GP.c_cell ?h1 ?h2 ?_); (case h1 => walk_at "hp"); (case h2 => first | decide | omega)))

namespace GP
open PySem L2
/-- sizes: below the power Kb, the other one too -/
structure Sz (a b Kb : Int) : Prop where
  k0 : 0 ≤ Kb
  k1 : Kb ≤ 900
  h1 : GM.lt (a, b) (GM.pw Kb)
  h2 : GM.lt (GM.cj (a, b)) (GM.pw Kb)
  h3 : GM.lt (GM.neg (GM.cj (a, b))) (GM.pw Kb)
  ba : Bd 1000 a
  bb : Bd 1000 b
theorem sz_of {a b : Int} {n : Nat} (ha : Bd n a) (hb : Bd n b) (hn : n ≤ 440) : Sz a b (2 * (n + 1) + 2 : Nat) := by
  have e : 2 ^ n ≤ 2 ^ (n + 1) := Nat.pow_le_pow_right (by decide) (by omega)
  have e2 : 2 ^ (n + 1) = 2 * 2 ^ n := by rw [Nat.pow_succ]; omega
  unfold Bd at ha hb
  refine ⟨by omega, by omega, GM.lt_big (by show a.natAbs < _; omega) (by show b.natAbs < _; omega), GM.lt_big (by show (a + b).natAbs < _; omega) (by show (0 - b).natAbs < _; omega), GM.lt_big (by show (0 - (a + b)).natAbs < _; omega) (by show (0 - (0 - b)).natAbs < _; omega), ?_, ?_⟩
  · exact Bd.mono ha (Nat.ble_eq_true_of_le (by omega))
  · exact Bd.mono hb (Nat.ble_eq_true_of_le (by omega))
def sp_row_of (C : Addr) : Sp := fun vs H Q E => ∃ v a b Kb, vs = [v] ∧ N2 H v a b ∧ Sz a b Kb ∧
  (0 ≤ GM.sg a b → ∀ p xs H', H p = none → Same H H' → LK H' p xs → GM.gap xs = true → GM.sumP xs = (a, b) → (∀ k ∈ xs, -Kb - 2 < k ∧ k < Kb) → xs.length ≤ 1000 → Q (.ref p) H') ∧ (GM.sg a b < 0 → E (.ref C) none H)
theorem c_rowof {C : Addr} {H : Hp} {Q : VK} {E : XK} {v : V} {a b Kb : Int} (h1 : N2 H v a b) (h2 : Sz a b Kb) (h3 : 0 ≤ GM.sg a b) (q : ∀ p xs H', H p = none → Same H H' → LK H' p xs → GM.gap xs = true → GM.sumP xs = (a, b) → (∀ k ∈ xs, -Kb - 2 < k ∧ k < Kb) → xs.length ≤ 1000 → Q (.ref p) H') : sp_row_of C [v] H Q E :=
  ⟨v, a, b, Kb, rfl, h1, h2, fun _ => q, fun h => by omega⟩
theorem ok_row_of {P : Program} {w : World} {K : PySem.W.Frag} {mg : Str → Option Value} {base : Heap} {f : Addr} {fd : FuncData} (F : Fun K "row_of" "row_of" s_row_of f fd) {C_NoNumber : Addr} (e_NoNumber : EX K mg "NoNumber" C_NoNumber) (c_sign : Cal P w K mg base CX0 1 "sign" ["number"] sp_sign) (c_raised : Cal P w K mg base CX0 1 "raised" ["number"] sp_raised) (c_lowered : Cal P w K mg base CX0 1 "lowered" ["number"] sp_lowered) (c_less : Cal P w K mg base CX0 1 "less" ["one", "other"] sp_less) : FnOk P w K mg base (L2.CX P w) 2 f fd ["number"] (sp_row_of C_NoNumber) := by
  refine F.okX sc_row_of (fun vs H Q E h => ?_) (fun cdv A outer s H vs Q E hr h => ?_)
  · obtain ⟨v, a, b, Kb, rfl, _⟩ := h
    rfl
  obtain ⟨v, a, b, Kb, rfl, hv, sz, q1, q2⟩ := h
  obtain ⟨k0, k1, z1, z2, z3, ba, bb⟩ := sz
  refine ⟨_, (pss_cons (ps_if (pt_cmpR op_lt (pe_callC c_sign hr pass0 (pa_cons (pv 0) pa_nil)) pe_int (nomark _)) (pss_one (ps_raise rfl (takes_of rfl rfl rfl rfl) (pmk_own PySem.F.excBase_ValueError e_NoNumber.exc e_NoNumber.mgC e_NoNumber.keep (raises_own e_NoNumber.sub e_NoNumber.typ) (by rfl)))) pss_nil)
      (pss_cons (ps_set (i := 1) sc_row_of.nd rfl (Or.inl rfl) (pe_lst pa_nil))
      (pss_cons (ps_set (i := 2) sc_row_of.nd rfl (Or.inl rfl) pe_int)
      (pss_cons (ps_set (i := 3) sc_row_of.nd rfl (Or.inl rfl) (pe_tup (pa_cons pe_int (pa_cons pe_int pa_nil))))
      (pss_cons (ps_while (passes_of rfl) (pt_cmpR op_ge (pe_callC c_sign hr pass0 (pa_cons (pe_callC c_less hr pass0 (pa_cons (pv 0) (pa_cons (pe_callC c_raised hr pass0 (pa_cons (pv 3) pa_nil)) pa_nil))) pa_nil)) pe_int (nomark _)) (pss_cons (ps_set (i := 3) sc_row_of.nd rfl (Or.inl rfl) (pe_callC c_raised hr pass0 (pa_cons (pv 3) pa_nil)))
      (pss_one (ps_set (i := 2) sc_row_of.nd rfl (Or.inl rfl) (pe_op op_add (pv 2) pe_int)))))
      (pss_cons (ps_set (i := 4) sc_row_of.nd rfl (Or.inl rfl) (pv 0))
      (pss_cons (ps_while (passes_of rfl) (pt_cmpR (op_neD hr.units) (pv 4) (pe_tup (pa_cons pe_int (pa_cons pe_int pa_nil))) (nomark _)) (pss_cons (ps_if (pt_cmpR op_ge (pe_callC c_sign hr pass0 (pa_cons (pe_callC c_less hr pass0 (pa_cons (pv 4) (pa_cons (pv 3) pa_nil))) pa_nil)) pe_int (nomark _)) (pss_cons (ps_set (i := 4) sc_row_of.nd rfl (Or.inl rfl) (pe_callC c_less hr pass0 (pa_cons (pv 4) (pa_cons (pv 3) pa_nil))))
      (pss_one (ps_expr (pe_bm PySem.F.plainAttrs_list PySem.F.slot_list_append PySem.F.type_list_append mt_append (pv 1) (pa_cons (pv 2) pa_nil))))) pss_nil)
      (pss_cons (ps_set (i := 3) sc_row_of.nd rfl (Or.inl rfl) (pe_callC c_lowered hr pass0 (pa_cons (pv 3) pa_nil)))
      (pss_one (ps_set (i := 2) sc_row_of.nd rfl (Or.inl rfl) (pe_op op_sub (pv 2) pe_int))))))
      (pss_one (ps_ret (pv 1)))))))))), ?_⟩
  walk_at "go"
  walk_at "if"
  · intro c
    exact q2 c
  intro c
  have hz : (a, b) = (0, 0) ∨ GM.P (a, b) := by
    rcases GM.tri' (a, b) with e | e | e
    · exact .inl e
    · exact .inr e
    · have := GM.sg_M.mpr e
      have d : GM.sg a b = -1 := this
      omega
  obtain ⟨row, g, hs, hlt⟩ := GM.has_row hz z1
  have hge := GM.last_ge g (by rw [hs]; exact z2) (by rw [hs]; exact z3)
  have hb : ∀ k ∈ row, -Kb - 2 < k ∧ k < Kb := fun k hk => ⟨hge k hk, hlt k hk⟩
  have hlen : row.length ≤ 1000 := by
    have := GM.gap_len row (-Kb - 1) g (fun k hk => by have := hb k hk; omega) Kb hlt (by omega)
    omega
  walk_at "go"
  refine iMkL0 (fun l nl s0 hl0' => ?_)
  have hl0 : LK (upd H l (.lst [])) l [] := hl0'
  walk_at "go"
  refine iWhile (fun m σ' H' => ∃ (place : Int) (step : V) (z : Option V), σ' = [some v, some (.ref l), some (.int place), some step, z] ∧ Same H H' ∧ LK H' l [] ∧ N2 H' step (GM.pw place).1 (GM.pw place).2 ∧ 0 ≤ place ∧ place ≤ Kb ∧ m = (Kb - place).toNat)
    ⟨_, 0, _, none, rfl, by walk_at "sm", by walk_at "hp", by rw [GM.pw0]; walk_at "hp", Int.le_refl 0, k0, rfl⟩ (fun m σ' H' hW => ?_)
  obtain ⟨place, step, z, rfl, hs1, hl1, hst, p0, p1, rfl⟩ := hW
  walk_at "go"
  have ec : (0 ≤ GM.sg (a - (GM.pw place).2) (b - ((GM.pw place).1 + (GM.pw place).2))) ↔ ¬ GM.lt (a, b) (GM.pw (place + 1)) := by
    rw [← GM.sg_ge, GM.pw_succ]; exact Iff.rfl
  refine iWh (fun hc => ?_) (fun hc => ?_)
  · -- a turn of the first loop
    have nlt := ec.mp hc
    have pl : place + 1 < Kb := by
      by_cases d : place + 1 < Kb
      · exact d
      · by_cases e : place + 1 = Kb
        · rw [e] at nlt; exact absurd z1 nlt
        · exact absurd (GM.lt_trans z1 (GM.pw_lt (show Kb < place + 1 by omega))) nlt
    walk_at "go"
    refine ⟨_, ?_, place + 1, _, _, rfl, ?_, ?_, ?_, by omega, by omega, rfl⟩
    · omega
    · walk_at "sm"
    · walk_at "hp"
    · rw [GM.pw_succ]
      walk_at "hp"
  · -- the second loop
    have hlt1 : GM.lt (a, b) (GM.pw (place + 1)) := by
      by_cases d : GM.lt (a, b) (GM.pw (place + 1))
      · exact d
      · exact absurd (ec.mpr d) hc
    rename_i r1 H1 s1 n1 r2 H2 s2 n2
    have hl2 : LK H2 l [] := by walk_at "hp"
    have hst2 : N2 H2 step (GM.pw place).1 (GM.pw place).2 := by walk_at "hp"
    have hs2 : Same H H2 := by walk_at "sm"
    have hv2 : N2 H2 v a b := TU.same hs2 hv
    clear hl1 hs1 hst s1 s2 n1 n2 hl0 s0
    walk_at "go"
    refine iWhile (fun m σ' H' => ∃ (acc rest : List Int) (place : Int) (step left : V), σ' = [some v, some (.ref l), some (.int place), some step, some left] ∧ Same H H' ∧ LK H' l acc ∧ N2 H' step (GM.pw place).1 (GM.pw place).2 ∧ N2 H' left (GM.sumP rest).1 (GM.sumP rest).2 ∧ row = acc ++ rest ∧ (∀ k ∈ rest, k ≤ place) ∧ -Kb - 3 ≤ place ∧ place ≤ Kb ∧ m = (place + Kb + 4).toNat)
      ⟨_, [], row, place, step, v, rfl, hs2, hl2, hst2, by rw [hs]; exact hv2, rfl, fun k hk => by have := GM.head_le g (by rw [hs]; exact hlt1) k hk; omega, by omega, p1, rfl⟩ (fun m σ' H' hW => ?_)
    clear hs2 hl2 hst2 hlt1 hv2 p0 p1 ec hc
    obtain ⟨acc, rest, pl, st, left, rfl, hs3, hl3, hst3, hle3, er, hpl, q3, q4, rfl⟩ := hW
    walk_at "go"
    refine iWhN (fun hne => ?_) (fun heq => ?_)
    · -- a turn
      match rest, er, hpl, hle3, hne with
      | [], _, _, _, hne => exact absurd rfl hne
      | k :: r', er, hpl, hle3, _ =>
      have gr : GM.gap (k :: r') = true := by
        have : ∀ xs : List Int, GM.gap (xs ++ (k :: r')) = true → GM.gap (k :: r') = true := by
          intro xs
          induction xs with
          | nil => exact id
          | cons x xs ih => intro h; exact ih (GM.gap_tail h)
        exact this acc (by rw [← er]; exact g)
      have kin : k ∈ row := by rw [er]; simp
      have kb := hb k kin
      have kp := hpl k List.mem_cons_self
      have bs := GM.sumP_size (n := 1000) (m := 1000) (k :: r') (fun j hj => by
        have := hb j (by rw [er]; exact List.mem_append_right _ hj); omega) (by
        have : row.length = acc.length + (k :: r').length := by rw [er, List.length_append]
        omega)
      have bs1 : Bd 2000 (GM.sumP (k :: r')).1 := bs.1
      have bs2 : Bd 2000 (GM.sumP (k :: r')).2 := bs.2
      have hl3len : acc.length ≤ 1000 := by
        have : row.length = acc.length + (k :: r').length := by rw [er, List.length_append]
        omega
      have ec : (0 ≤ GM.sg ((GM.sumP (k :: r')).1 - (GM.pw pl).1) ((GM.sumP (k :: r')).2 - (GM.pw pl).2)) ↔ ¬ GM.lt (GM.sumP (k :: r')) (GM.pw pl) := GM.sg_ge
      have hd : GM.pw (pl - 1) = ((GM.pw pl).2 - (GM.pw pl).1, (GM.pw pl).1) := GM.pw_pred pl
      walk_at "go"
      walk_at "if"
      · intro hc
        have nlt := ec.mp hc
        have ek : k = pl := by
          by_cases d : k = pl
          · exact d
          · have h1 := GM.sum_lt r' k gr
            by_cases e : k + 1 = pl
            · rw [e] at h1; exact absurd h1 nlt
            · exact absurd (GM.lt_trans h1 (GM.pw_lt (show k + 1 < pl by omega))) nlt
        subst ek
        have es : GM.sumP r' = ((GM.sumP (k :: r')).1 - (GM.pw k).1, (GM.sumP (k :: r')).2 - (GM.pw k).2) := by
          show GM.sumP r' = ((GM.pw k).1 + (GM.sumP r').1 - (GM.pw k).1, (GM.pw k).2 + (GM.sumP r').2 - (GM.pw k).2)
          exact Prod.ext (by show (GM.sumP r').1 = _; omega) (by show (GM.sumP r').2 = _; omega)
        walk_at "go"
        refine ⟨_, ?_, acc ++ [k], r', k - 1, _, _, rfl, ?_, ?_, ?_, ?_, ?_, ?_, by omega, by omega, rfl⟩
        · omega
        · walk_at "sm"
        · walk_at "hp"
        · rw [hd]
          walk_at "hp"
        · rw [es]
          walk_at "hp"
        · rw [er]; simp
        · intro j hj
          have := GM.head_le (GM.gap_tail gr) (c := k) (by
            have h := GM.sum_lt r' k gr
            unfold GM.lt at h ⊢
            have e : GM.sub (GM.pw (k + 1)) (GM.sumP (k :: r')) = GM.sub (GM.pw (k - 1)) (GM.sumP r') := by
              have q := GM.pw_sum (k + 1)
              rw [show k + 1 - 1 = k by omega, show k + 1 - 2 = k - 1 by omega] at q
              rw [q]
              simp only [GM.sub, GM.add, GM.sumP]
              exact Prod.ext (by show _ = (GM.pw (k - 1)).1 - (GM.sumP r').1; omega) (by show _ = (GM.pw (k - 1)).2 - (GM.sumP r').2; omega)
            rw [e] at h
            exact GM.lt_trans h (GM.pw_lt (show k - 1 < k by omega))) j hj
          omega
      · intro hc
        have hlt3 : GM.lt (GM.sumP (k :: r')) (GM.pw pl) := by
          by_cases d : GM.lt (GM.sumP (k :: r')) (GM.pw pl)
          · exact d
          · exact absurd (ec.mpr d) hc
        have hle := GM.head_le gr hlt3
        walk_at "go"
        refine ⟨_, ?_, acc, k :: r', pl - 1, _, _, rfl, ?_, ?_, ?_, ?_, er, fun j hj => by have := hle j hj; omega, by omega, by omega, rfl⟩
        · omega
        · walk_at "sm"
        · walk_at "hp"
        · rw [hd]
          walk_at "hp"
        · walk_at "hp"
    · -- the end
      have e0 : GM.sumP rest = (0, 0) := by
        have h1 : (GM.sumP rest).1 = 0 := (List.cons.inj heq).1
        have h2 : (GM.sumP rest).2 = 0 := (List.cons.inj (List.cons.inj heq).2).1
        exact Prod.ext h1 h2
      have er0 : rest = [] := by
        cases rest with
        | nil => rfl
        | cons k r => exact absurd (by have := GM.sum_pos k r; rw [e0] at this; exact this) GM.not_P0
      subst er0
      rw [List.append_nil] at er
      subst er
      walk_at "go"
      exact q1 (by omega) _ _ _ nl (by walk_at "sm") (by walk_at "hp") g hs hb hlen
end GP
local macro_rules | `(tactic| walk_at "callee") => `(tactic| ((with_reducible refine' GP.c_rowof ?h1 ?h2 ?h3 ?_); (case h1 => walk_at "hp"); (case h2 => walk_at "sz"); (case h3 => walk_at "nn"); intro _ _ _ _ _ _ _ _ _ _))
local macro_rules | `(tactic| walk_at "sz") => `(tactic| assumption)
local macro_rules | `(tactic| walk_at "nn") => `(tactic| first | assumption | omega)

namespace GP
open PySem L2
def sp_law (K : PySem.W.Frag) : Sp := fun vs H Q _ => ∃ (a : Addr) (ns : List Int), vs = [.ref a] ∧ SqL K H a (ns.map V.int) ∧ ns.length ≤ 63 ∧ ∀ H', Q (.bl true) H'
/-- a row's sum: not below nought, of a bounded size -/
theorem sum_sg (xs : List Int) : 0 ≤ GM.sg (GM.sumP xs).1 (GM.sumP xs).2 := by
  rcases GM.sum_nn xs with h | h
  · have := GM.sg_Z.mpr h; omega
  · have := GM.sg_P.mpr h; omega
theorem sum_bd {xs : List Int} {n m : Nat} (h : ∀ k ∈ xs, k.natAbs < n) (hm : xs.length ≤ m) : Bd (n + m) (GM.sumP xs).1 ∧ Bd (n + m) (GM.sumP xs).2 := GM.sumP_size xs h hm
end GP

namespace GP
open PySem L2
def sp_cleaned : Sp := fun vs H Q _ => ∃ v ns, vs = [v] ∧ LI H v ns ∧ ns.length ≤ 170 ∧ (∀ k ∈ ns, k.natAbs < 220) ∧ ∀ p xs H', H p = none → Same H H' → LK H' p xs → GM.gap xs = true → GM.sumP xs = GM.sumP ns → (∀ k ∈ xs, k.natAbs < 810) → xs.length ≤ 1000 → Q (.ref p) H'
theorem c_cleaned {H : Hp} {Q : VK} {E : XK} {v : V} {ns : List Int} (h1 : LI H v ns) (h2 : ns.length ≤ 170) (h3 : ∀ k ∈ ns, k.natAbs < 220) (q : ∀ p xs H', H p = none → Same H H' → LK H' p xs → GM.gap xs = true → GM.sumP xs = GM.sumP ns → (∀ k ∈ xs, k.natAbs < 810) → xs.length ≤ 1000 → Q (.ref p) H') : sp_cleaned [v] H Q E := ⟨v, ns, rfl, h1, h2, h3, q⟩
theorem ok_cleaned {P : Program} {w : World} {K : PySem.W.Frag} {mg : Str → Option Value} {base : Heap} {f : Addr} {fd : FuncData} (F : Fun K "cleaned" "cleaned" s_cleaned f fd) {C_NoNumber : Addr} (c_row_of : Cal P w K mg base (L2.CX P w) 2 "row_of" ["number"] (sp_row_of C_NoNumber)) (c_total : Cal P w K mg base CX0 3 "total" ["places"] sp_total) : FnOk P w K mg base CX0 4 f fd ["places"] sp_cleaned := by
  refine F.ok sc_cleaned (fun vs H Q E h => ?_) (fun cdv A outer s H vs Q E hr h => ?_)
  · obtain ⟨v, ns, rfl, _⟩ := h
    rfl
  obtain ⟨v, ns, rfl, h1, hl, hk, q⟩ := h
  refine ⟨_, (pss_one (ps_ret (pe_callC c_row_of (hr.mono (by decide)) passL (pa_cons (pe_callC c_total hr pass0 (pa_cons (pv 0) pa_nil)) pa_nil)))), ?_⟩
  have sm : ∀ k ∈ ns, k.natAbs < 1000 := fun k h => Nat.lt_trans (hk k h) (by decide)
  have bd := sum_bd (n := 220) (m := 170) hk hl
  have sz := sz_of bd.1 bd.2 (by decide)
  have nn := sum_sg ns
  walk_at "go"
  rename_i r1 H1 s1 n1 p xs H2 np s2 l2 g2 e2 b2 len2
  refine q p xs H2 ?_ (by walk_at "sm") l2 g2 e2 (fun k hk => by have := b2 k hk; omega) len2
  cases c : H p with
  | none => rfl
  | some o => rw [s1 p o c] at np; cases np
end GP
local macro_rules | `(tactic| walk_at "callee") => `(tactic| ((with_reducible refine' GP.c_cleaned ?h1 ?h2 ?h3 ?_); (case h1 => walk_at "hp"); (case h2 => walk_at "lb"); (case h3 => walk_at "small2"); intro _ _ _ _ _ _ _ _ _ _))
local macro_rules | `(tactic| walk_at "small2") => `(tactic| assumption)

namespace GP
open PySem L2
theorem row_len {ns : List Int} (h : GM.isRow ns = true) : ns.length ≤ 81 := by
  have q := GM.isRow_gap.mp h
  have := GM.gap_len ns (-80) q.1 (fun k hk => (q.2 k hk).1) 81 (fun k hk => by have := q.2 k hk; omega) (by omega)
  omega
theorem row_220 {ns : List Int} (h : GM.isRow ns = true) : ∀ k ∈ ns, k.natAbs < 220 := fun k hk => by
  have := (GM.isRow_gap.mp h).2 k hk
  omega
theorem app_220 {ns ms : List Int} (h : ∀ k ∈ ns, k.natAbs < 220) (h' : ∀ k ∈ ms, k.natAbs < 220) : ∀ k ∈ ns ++ ms, k.natAbs < 220 := fun k hk => (List.mem_append.mp hk).elim (h k) (h' k)
end GP

namespace GP
open PySem L2
def sp_added (C : Addr) : Sp := fun vs H Q E => ∃ v w ns ms, vs = [v, w] ∧ LI H v ns ∧ LI H w ms ∧ ns.length ≤ 1000 ∧ ms.length ≤ 1000 ∧
  (GM.isRow ns = true → GM.isRow ms = true → ∀ p xs H', H p = none → Same H H' → LK H' p xs → GM.gap xs = true → GM.sumP xs = GM.add (GM.sumP ns) (GM.sumP ms) → (∀ k ∈ xs, k.natAbs < 810) → xs.length ≤ 1000 → Q (.ref p) H') ∧
  ((GM.isRow ns = false ∨ GM.isRow ms = false) → E (.ref C) none H)
theorem c_added {C : Addr} {H : Hp} {Q : VK} {E : XK} {v w : V} {ns ms : List Int} (h1 : LI H v ns) (h2 : LI H w ms) (h3 : GM.isRow ns = true) (h4 : GM.isRow ms = true)
  (q : ∀ p xs H', H p = none → Same H H' → LK H' p xs → GM.gap xs = true → GM.sumP xs = GM.add (GM.sumP ns) (GM.sumP ms) → (∀ k ∈ xs, k.natAbs < 810) → xs.length ≤ 1000 → Q (.ref p) H') : sp_added C [v, w] H Q E :=
  ⟨v, w, ns, ms, rfl, h1, h2, Nat.le_trans (row_len h3) (by decide), Nat.le_trans (row_len h4) (by decide), fun _ _ => q, fun h => by rw [h3, h4] at h; rcases h with h | h <;> cases h⟩
theorem ok_added {P : Program} {w : World} {K : PySem.W.Frag} {mg : Str → Option Value} {base : Heap} {f : Addr} {fd : FuncData} (F : Fun K "added" "added" s_added f fd) {C_NoRow : Addr} (c_asked_row : Cal P w K mg base (L2.CX P w) 2 "asked_row" ["places"] (sp_asked_row C_NoRow)) (c_cleaned : Cal P w K mg base CX0 4 "cleaned" ["places"] sp_cleaned) : FnOk P w K mg base (L2.CX P w) 5 f fd ["one", "other"] (sp_added C_NoRow) := by
  refine F.okX sc_added (fun vs H Q E h => ?_) (fun cdv A outer s H vs Q E hr h => ?_)
  · obtain ⟨v, w, ns, ms, rfl, _⟩ := h
    rfl
  obtain ⟨v, w, ns, ms, rfl, h1, h2, hl1, hl2, q1, q2⟩ := h
  refine ⟨_, (pss_cons (ps_expr (pe_callC c_asked_row (hr.mono (by decide)) (passes_call (takes_of rfl rfl rfl rfl) (fun _ _ _ _ h => h)) (pa_cons (pv 0) pa_nil)))
      (pss_cons (ps_expr (pe_callC c_asked_row (hr.mono (by decide)) (passes_call (takes_of rfl rfl rfl rfl) (fun _ _ _ _ h => h)) (pa_cons (pv 1) pa_nil)))
      (pss_one (ps_ret (pe_callC c_cleaned hr pass0 (pa_cons (pe_op op_cat (pv 0) (pv 1)) pa_nil)))))), ?_⟩
  cases c1 : GM.isRow ns
  · walk_at "go"
    exact q2 (.inl c1)
  · cases c2 : GM.isRow ms
    · walk_at "go"
      exact q2 (.inr c2)
    · have a220 := app_220 (row_220 c1) (row_220 c2)
      have n1 := row_len c1
      have n2 := row_len c2
      have n3 : (ns ++ ms).length ≤ 170 := by rw [List.length_append]; omega
      walk_at "go"
      rename_i r1 H1 s1 t1 p xs H2 np s2 l2 g2 e2 b2 len2
      refine q1 c1 c2 p xs H2 ?_ (by walk_at "sm") l2 g2 (by rw [e2, GM.sumP_app]) b2 len2
      cases c : H p with
      | none => rfl
      | some o => rw [s1 p o c] at np; cases np
def sp_multiplied (C : Addr) : Sp := fun vs H Q E => ∃ v w ns ms, vs = [v, w] ∧ LI H v ns ∧ LI H w ms ∧ ns.length ≤ 1000 ∧ ms.length ≤ 1000 ∧
  (GM.isRow ns = true → GM.isRow ms = true → ∀ p xs H', H p = none → Same H H' → LK H' p xs → GM.gap xs = true → GM.sumP xs = GM.mul (GM.sumP ns) (GM.sumP ms) → (∀ k ∈ xs, k.natAbs < 810) → xs.length ≤ 1000 → Q (.ref p) H') ∧
  ((GM.isRow ns = false ∨ GM.isRow ms = false) → E (.ref C) none H)
theorem c_multiplied {C : Addr} {H : Hp} {Q : VK} {E : XK} {v w : V} {ns ms : List Int} (h1 : LI H v ns) (h2 : LI H w ms) (h3 : GM.isRow ns = true) (h4 : GM.isRow ms = true)
  (q : ∀ p xs H', H p = none → Same H H' → LK H' p xs → GM.gap xs = true → GM.sumP xs = GM.mul (GM.sumP ns) (GM.sumP ms) → (∀ k ∈ xs, k.natAbs < 810) → xs.length ≤ 1000 → Q (.ref p) H') : sp_multiplied C [v, w] H Q E :=
  ⟨v, w, ns, ms, rfl, h1, h2, Nat.le_trans (row_len h3) (by decide), Nat.le_trans (row_len h4) (by decide), fun _ _ => q, fun h => by rw [h3, h4] at h; rcases h with h | h <;> cases h⟩
theorem ok_multiplied {P : Program} {w : World} {K : PySem.W.Frag} {mg : Str → Option Value} {base : Heap} {f : Addr} {fd : FuncData} (F : Fun K "multiplied" "multiplied" s_multiplied f fd) {C_NoNumber : Addr} {C_NoRow : Addr} (c_asked_row : Cal P w K mg base (L2.CX P w) 2 "asked_row" ["places"] (sp_asked_row C_NoRow)) (c_row_of : Cal P w K mg base (L2.CX P w) 2 "row_of" ["number"] (sp_row_of C_NoNumber)) (c_times : Cal P w K mg base CX0 1 "times" ["one", "other"] sp_times) (c_total : Cal P w K mg base CX0 3 "total" ["places"] sp_total) : FnOk P w K mg base (L2.CX P w) 4 f fd ["one", "other"] (sp_multiplied C_NoRow) := by
  refine F.okX sc_multiplied (fun vs H Q E h => ?_) (fun cdv A outer s H vs Q E hr h => ?_)
  · obtain ⟨v, w, ns, ms, rfl, _⟩ := h
    rfl
  obtain ⟨v, w, ns, ms, rfl, h1, h2, hl1, hl2, q1, q2⟩ := h
  refine ⟨_, (pss_cons (ps_expr (pe_callC c_asked_row (hr.mono (by decide)) (passes_call (takes_of rfl rfl rfl rfl) (fun _ _ _ _ h => h)) (pa_cons (pv 0) pa_nil)))
      (pss_cons (ps_expr (pe_callC c_asked_row (hr.mono (by decide)) (passes_call (takes_of rfl rfl rfl rfl) (fun _ _ _ _ h => h)) (pa_cons (pv 1) pa_nil)))
      (pss_one (ps_ret (pe_callC c_row_of (hr.mono (by decide)) (passes_call (takes_of rfl rfl rfl rfl) (fun _ _ _ _ h => h)) (pa_cons (pe_callC c_times (hr.mono (by decide)) pass0 (pa_cons (pe_callC c_total hr pass0 (pa_cons (pv 0) pa_nil)) (pa_cons (pe_callC c_total hr pass0 (pa_cons (pv 1) pa_nil)) pa_nil))) pa_nil)))))), ?_⟩
  cases c1 : GM.isRow ns
  · walk_at "go"
    exact q2 (.inl c1)
  · cases c2 : GM.isRow ms
    · walk_at "go"
      exact q2 (.inr c2)
    · have sm1 := row_small c1
      have sm2 := row_small c2
      have bd1 := sum_bd (n := 81) (m := 81) (fun k hk => by have := (GM.isRow_gap.mp c1).2 k hk; omega) (row_len c1)
      have bd2 := sum_bd (n := 81) (m := 81) (fun k hk => by have := (GM.isRow_gap.mp c2).2 k hk; omega) (row_len c2)
      obtain ⟨ba, bb⟩ := bd1
      obtain ⟨bc, bd⟩ := bd2
      have nn : 0 ≤ GM.sg ((GM.sumP ns).1 * (GM.sumP ms).1 + (GM.sumP ns).2 * (GM.sumP ms).2) ((GM.sumP ns).1 * (GM.sumP ms).2 + (GM.sumP ns).2 * (GM.sumP ms).1 + (GM.sumP ns).2 * (GM.sumP ms).2) := by
        have e := GM.sg_mul (GM.sumP ns) (GM.sumP ms)
        have e' : GM.sg ((GM.sumP ns).1 * (GM.sumP ms).1 + (GM.sumP ns).2 * (GM.sumP ms).2) ((GM.sumP ns).1 * (GM.sumP ms).2 + (GM.sumP ns).2 * (GM.sumP ms).1 + (GM.sumP ns).2 * (GM.sumP ms).2) = _ := e
        rw [e']
        exact Int.mul_nonneg (sum_sg ns) (sum_sg ms)
      have sz := sz_of (n := 340) (a := (GM.sumP ns).1 * (GM.sumP ms).1 + (GM.sumP ns).2 * (GM.sumP ms).2) (b := (GM.sumP ns).1 * (GM.sumP ms).2 + (GM.sumP ns).2 * (GM.sumP ms).1 + (GM.sumP ns).2 * (GM.sumP ms).2) (by walk_at "bd") (by walk_at "bd") (by decide)
      walk_at "go"
      rename_i u1 H1 s1 t1 u2 H2 s2 t2 u3 H3 s3 t3 p xs H4 np s4 l4 g4 e4 b4 len4
      have s03 : Same H H3 := (s1.trans s2).trans s3
      refine q1 c1 c2 p xs H4 ?_ (by walk_at "sm") l4 g4 e4 (fun k hk => by have := b4 k hk; omega) len4
      cases c : H p with
      | none => rfl
      | some o => rw [s03 p o c] at np; cases np
end GP
local macro_rules | `(tactic| walk_at "small2") => `(tactic| exact GP.row_220 (by assumption))
local macro_rules | `(tactic| walk_at "callee") => `(tactic| ((with_reducible refine' GP.c_added ?h1 ?h2 ?h3 ?h4 ?_); (case h1 => walk_at "hp"); (case h2 => walk_at "hp"); (case h3 => assumption); (case h4 => assumption); intro _ _ _ _ _ _ _ _ _ _))
local macro_rules | `(tactic| walk_at "callee") => `(tactic| ((with_reducible refine' GP.c_multiplied ?h1 ?h2 ?h3 ?h4 ?_); (case h1 => walk_at "hp"); (case h2 => walk_at "hp"); (case h3 => assumption); (case h4 => assumption); intro _ _ _ _ _ _ _ _ _ _))

namespace GP
open PySem L2
theorem first_lex (e r : Nat → Bool) : ∀ (xs ys : List Int) (k : Nat), (∀ j, j < xs.length → j < ys.length → e (k + j) = (xs.getD j 0 == ys.getD j 0)) → (∀ j, j < xs.length → j < ys.length → r (k + j) = decide (xs.getD j 0 < ys.getD j 0)) →
    SeqAt.firstLt e r (decide (xs.length < ys.length)) (List.range' k (min xs.length ys.length)) = GM.lexLt xs ys
  | [], [], _, _, _ => rfl
  | [], y :: ys, k, _, _ => by
    have : min ([] : List Int).length (y :: ys).length = 0 := by simp
    rw [this]
    show decide (0 < (y :: ys).length) = true
    simp
  | x :: xs, [], k, _, _ => by
    have : min (x :: xs).length ([] : List Int).length = 0 := by simp
    rw [this]
    show decide ((x :: xs).length < 0) = false
    simp
  | x :: xs, y :: ys, k, he, hr => by
    have m : min (x :: xs).length (y :: ys).length = min xs.length ys.length + 1 := by simp only [List.length_cons]; omega
    have ih := first_lex e r xs ys (k + 1) (fun j h1 h2 => by have := he (j + 1) (by simp; omega) (by simp; omega); rw [show k + 1 + j = k + (j + 1) by omega]; exact this) (fun j h1 h2 => by have := hr (j + 1) (by simp; omega) (by simp; omega); rw [show k + 1 + j = k + (j + 1) by omega]; exact this)
    have h0 : e k = (x == y) := he 0 (by simp) (by simp)
    have r0 : r k = decide (x < y) := hr 0 (by simp) (by simp)
    rw [m, List.range'_succ]
    show (if e k = true then SeqAt.firstLt e r _ (List.range' (k + 1) (min xs.length ys.length)) else r k) = (if x = y then GM.lexLt xs ys else decide (x < y))
    rw [h0, r0]
    by_cases c : x = y
    · subst c
      rw [if_pos (beq_self_eq_true x), if_pos rfl, ← ih]
      congr 1
      by_cases d : xs.length < ys.length
      · rw [decide_eq_true d, decide_eq_true (by simp; omega)]
      · rw [decide_eq_false d, decide_eq_false (by simp; omega)]
    · rw [if_neg (by rw [beq_eq_false_iff_ne.mpr c]; exact Bool.false_ne_true), if_neg c]
def rLtL : R2 := fun x y H Q => ∃ ns ms, LI H x ns ∧ LI H y ms ∧ Q (.bl (GM.lexLt ns ms)) H
def rGtL : R2 := fun x y H Q => ∃ ns ms, LI H x ns ∧ LI H y ms ∧ Q (.bl (GM.lexLt ms ns)) H
theorem val_at {ns : List Int} {its : List Value} (r : Vals (ns.map V.int) its) {j : Nat} (h : j < its.toArray.size) : ∃ t, its.toArray[j] = .int (ns.getD j 0) t := by
  have hl : its.length = ns.length := by rw [← r.length, List.length_map]
  have hj : j < ns.length := by simp at h; omega
  have e : (ns.map V.int)[j]? = some (.int (ns.getD j 0)) := by
    rw [List.getElem?_map, List.getElem?_eq_getElem hj, List.getD_eq_getElem?_getD, List.getElem?_eq_getElem hj]; rfl
  obtain ⟨u, hu, t, rfl⟩ := r.get e
  refine ⟨t, ?_⟩
  have : its.toArray[j]? = some (.int (ns.getD j 0) t) := by simpa using hu
  rw [Array.getElem?_eq_getElem h] at this
  exact Option.some.inj this
section
variable {X : Cx}
theorem op_ltL (hu : X.A.units < cLine) : OpR X (compareOp .Lt) rLtL := by
  intro pins s σ H x y v u Q I rx ry h
  obtain ⟨ns, ms, ⟨a, rfl, ha⟩, ⟨b, rfl, hb⟩, q⟩ := h
  cases rx
  cases ry
  obtain ⟨its, r1, p1, _⟩ := I.list (SqL.of (K := X.K) ha)
  obtain ⟨its2, r2, p2, _⟩ := I.list (SqL.of (K := X.K) hb)
  have l1 : its.length = ns.length := by rw [← r1.length, List.length_map]
  have l2 : its2.length = ms.length := by rw [← r2.length, List.length_map]
  have e := first_lex (fun j => (ns.getD j 0 == ms.getD j 0)) (fun j => decide (ns.getD j 0 < ms.getD j 0)) ns ms 0 (fun j _ _ => by rw [Nat.zero_add]) (fun j _ _ => by rw [Nat.zero_add])
  refine SeqAt.RcLt.lists (e := fun j => (ns.getD j 0 == ms.getD j 0)) (r := fun j => decide (ns.getD j 0 < ms.getD j 0)) p1.isList p2.isList hu (fun j h1 h2 => ?_) (fun j h1 h2 _ => ?_) X.prog X.w _ _ ⟨.bl (GM.lexLt ns ms), H, I, ?_, q⟩
  · obtain ⟨t, et⟩ := val_at r1 h1
    obtain ⟨t', et'⟩ := val_at r2 h2
    rw [et, et']
    exact eqAt_V (y := .int (ns.getD j 0)) (x := .int (ms.getD j 0)) ⟨t, rfl⟩ ⟨t', rfl⟩ rfl rfl
  · obtain ⟨t, et⟩ := val_at r1 h1
    obtain ⟨t', et'⟩ := val_at r2 h2
    rw [et, et']
    exact fun _ _ _ _ h => PyProof.Rows.lt_int h
  · show Value.bool _ = Value.bool _
    rw [← e, List.range_eq_range']
    simp only [List.size_toArray, l1, l2]
theorem op_gtL (hu : X.A.units < cLine) : OpR X (compareOp .Gt) rGtL := by
  intro pins s σ H x y v u Q I rx ry h
  obtain ⟨ns, ms, ⟨a, rfl, ha⟩, ⟨b, rfl, hb⟩, q⟩ := h
  cases rx
  cases ry
  obtain ⟨its, r1, p1, _⟩ := I.list (SqL.of (K := X.K) ha)
  obtain ⟨its2, r2, p2, _⟩ := I.list (SqL.of (K := X.K) hb)
  have l1 : its.length = ns.length := by rw [← r1.length, List.length_map]
  have l2 : its2.length = ms.length := by rw [← r2.length, List.length_map]
  have e := first_lex (fun j => (ns.getD j 0 == ms.getD j 0)) (fun j => decide (ms.getD j 0 < ns.getD j 0)) ms ns 0 (fun j _ _ => by rw [Nat.zero_add]; exact Bool.beq_comm) (fun j _ _ => by rw [Nat.zero_add])
  refine SeqAt.RcOp.lists_gt (e := fun j => (ns.getD j 0 == ms.getD j 0)) (r := fun j => decide (ms.getD j 0 < ns.getD j 0)) p1.isList p2.isList hu (fun j h1 h2 => ?_) (fun j h1 h2 _ => ?_) X.prog X.w _ _ ⟨.bl (GM.lexLt ms ns), H, I, ?_, q⟩
  · obtain ⟨t, et⟩ := val_at r1 h1
    obtain ⟨t', et'⟩ := val_at r2 h2
    rw [et, et']
    exact eqAt_V (y := .int (ns.getD j 0)) (x := .int (ms.getD j 0)) ⟨t, rfl⟩ ⟨t', rfl⟩ rfl rfl
  · obtain ⟨t, et⟩ := val_at r1 h1
    obtain ⟨t', et'⟩ := val_at r2 h2
    rw [et, et']
    exact fun _ _ _ _ h => PyProof.Rows.gt_int h
  · show Value.bool _ = Value.bool _
    rw [← e, List.range_eq_range']
    simp only [List.size_toArray, l1, l2]
    rw [Nat.min_comm]
    try rfl
end
theorem iLtL {H : Hp} {Q : VK} {a b : V} {ns ms : List Int} (h1 : LI H a ns) (h2 : LI H b ms) (q : Q (.bl (GM.lexLt ns ms)) H) : rLtL a b H Q := ⟨ns, ms, h1, h2, q⟩
theorem iGtL {H : Hp} {Q : VK} {a b : V} {ns ms : List Int} (h1 : LI H a ns) (h2 : LI H b ms) (q : Q (.bl (GM.lexLt ms ns)) H) : rGtL a b H Q := ⟨ns, ms, h1, h2, q⟩
end GP
local macro_rules | `(tactic| walk_at "callee") => `(tactic| ((with_reducible refine' GP.iLtL ?h1 ?h2 ?_); (case h1 => walk_at "hp"); (case h2 => walk_at "hp")))
local macro_rules | `(tactic| walk_at "callee") => `(tactic| ((with_reducible refine' GP.iGtL ?h1 ?h2 ?_); (case h1 => walk_at "hp"); (case h2 => walk_at "hp")))

namespace GP
open PySem L2
def ordI (ns ms : List Int) : Int := if GM.lexLt ms ns = true then 1 else if GM.lexLt ns ms = true then -1 else 0
def sp_order (C : Addr) : Sp := fun vs H Q E => ∃ v w ns ms, vs = [v, w] ∧ LI H v ns ∧ LI H w ms ∧ ns.length ≤ 1000 ∧ ms.length ≤ 1000 ∧
  (GM.isRow ns = true → GM.isRow ms = true → Q (.int (ordI ns ms)) H) ∧ ((GM.isRow ns = false ∨ GM.isRow ms = false) → E (.ref C) none H)
theorem c_order {C : Addr} {H : Hp} {Q : VK} {E : XK} {v w : V} {ns ms : List Int} (h1 : LI H v ns) (h2 : LI H w ms) (h3 : GM.isRow ns = true) (h4 : GM.isRow ms = true) (q : Q (.int (ordI ns ms)) H) : sp_order C [v, w] H Q E :=
  ⟨v, w, ns, ms, rfl, h1, h2, Nat.le_trans (row_len h3) (by decide), Nat.le_trans (row_len h4) (by decide), fun _ _ => q, fun h => by rw [h3, h4] at h; rcases h with h | h <;> cases h⟩
theorem ok_order {P : Program} {w : World} {K : PySem.W.Frag} {mg : Str → Option Value} {base : Heap} {f : Addr} {fd : FuncData} (F : Fun K "order" "order" s_order f fd) {C_NoRow : Addr} (c_asked_row : Cal P w K mg base (L2.CX P w) 2 "asked_row" ["places"] (sp_asked_row C_NoRow)) : FnOk P w K mg base (L2.CX P w) 3 f fd ["one", "other"] (sp_order C_NoRow) := by
  refine F.okX sc_order (fun vs H Q E h => ?_) (fun cdv A outer s H vs Q E hr h => ?_)
  · obtain ⟨v, w, ns, ms, rfl, _⟩ := h
    rfl
  obtain ⟨v, w, ns, ms, rfl, h1, h2, hl1, hl2, q1, q2⟩ := h
  refine ⟨_, (pss_cons (ps_expr (pe_callC c_asked_row hr (passes_call (takes_of rfl rfl rfl rfl) (fun _ _ _ _ h => h)) (pa_cons (pv 0) pa_nil)))
      (pss_cons (ps_expr (pe_callC c_asked_row hr (passes_call (takes_of rfl rfl rfl rfl) (fun _ _ _ _ h => h)) (pa_cons (pv 1) pa_nil)))
      (pss_cons (ps_if (pt_cmpR (op_gtL hr.units0) (pv 0) (pv 1) (nomark _)) (pss_one (ps_ret pe_int)) pss_nil)
      (pss_cons (ps_if (pt_cmpR (op_ltL hr.units0) (pv 0) (pv 1) (nomark _)) (pss_one (ps_ret (pe_un un_neg pe_int))) pss_nil)
      (pss_one (ps_ret pe_int)))))), ?_⟩
  cases c1 : GM.isRow ns
  · walk_at "go"
    exact q2 (.inl c1)
  · cases c2 : GM.isRow ms
    · walk_at "go"
      exact q2 (.inr c2)
    · walk_at "go"
      have q3 := q1 c1 c2
      unfold ordI at q3
      walk_at "if" <;> intro d1
      · rw [if_pos d1] at q3
        walk_at "go"
        exact q3
      · rw [if_neg (by rw [d1]; exact Bool.false_ne_true)] at q3
        walk_at "go"
        walk_at "if" <;> intro d2
        · rw [if_pos d2] at q3
          walk_at "go"
          exact q3
        · rw [if_neg (by rw [d2]; exact Bool.false_ne_true)] at q3
          walk_at "go"
          exact q3
end GP
local macro_rules | `(tactic| walk_at "callee") => `(tactic| ((with_reducible refine' GP.c_order ?h1 ?h2 ?h3 ?h4 ?_); (case h1 => walk_at "hp"); (case h2 => walk_at "hp"); (case h3 => assumption); (case h4 => assumption)))

/-! ### texts by their signs -/
namespace GP
open PySem L2
def S (l : List Nat) : Str := ⟨l.toArray⟩
theorem S_len (l : List Nat) : (S l).length = l.length := by simp [S, Str.length]
theorem S_app (l m : List Nat) : S l ++ S m = S (l ++ m) := by
  apply TL.ext_tl
  rw [TL.tl_append]
  rfl
theorem S_inj {l m : List Nat} : S l = S m ↔ l = m := ⟨fun h => congrArg TL.tl h, fun h => by rw [h]⟩
theorem S_of (z : Str) : z = S z.cps.toList := (TL.mk_tl z).symm
theorem lit_0 : (("0" : Str)) = S [48] := by decide +kernel
theorem lit_1 : (("1" : Str)) = S [49] := by decide +kernel
theorem lit_dot : (("." : Str)) = S [46] := by decide +kernel
theorem lit_nil : (("" : Str)) = S [] := by decide +kernel
theorem str_0 : ((toString (0 : Int) : String) : Str) = S [48] := by decide +kernel
theorem str_1 : ((toString (1 : Int) : String) : Str) = S [49] := by decide +kernel
theorem str_b (b : Bool) : ((toString (if b = true then (1 : Int) else 0) : String) : Str) = S [if b = true then 49 else 48] := by
  cases b
  · exact str_0
  · exact str_1
def rSplit1 : V → List V → Hp → VK → Prop := fun x xs H Q => ∃ a b, x = .str a ∧ xs = [.str b] ∧ (b.length == 0) = false ∧ a.length + 2 ≤ sizeLine ∧ rNewStrs (Txt.split a b) H Q
theorem g_split {X : Cx} {o e : Expr} {to te : TE} {apos pos : Pos} (ho : PE X o to) (he : PE X e te) (hs : starEach [e] X.env = [(false, eval e X.env)] := by rfl) (hbase : attributeBase o "split" X.env (eval o X.env) = eval o X.env := by rfl) (hline : (apos.endLine == pos.line) = true := by rfl) :
    PE X (.Call (.Attribute o "split" apos) [e] [] pos) (tM1 rSplit1 to te) := pe_split ho he hs hbase hline
def rNotInC : R2 := fun x y H Q => ∃ (c : Nat) (z : Str), x = .str ⟨#[c]⟩ ∧ y = .str z ∧ Q (.bl (!decide (c ∈ z.cps.toList))) H
theorem g_notInC {X : Cx} : OpR X (compareOp .NotIn) rNotInC := op_notIn_sign
def rMaxL (K : PySem.W.Frag) : List V → Hp → VK → Prop := rMax K
def rMinL (K : PySem.W.Frag) : List V → Hp → VK → Prop := rMin K
theorem g_max1 {X : Cx} (hc : X.calm = true) : CallR X (.builtin "max") (rMaxL X.K) := cr_max hc
theorem g_min1 {X : Cx} (hc : X.calm = true) : CallR X (.builtin "min") (rMinL X.K) := cr_min hc
def MStr (x : V) (P : Prop) : Prop := (∃ a, x = .str a) ∧ P
section
variable {K : PySem.W.Frag} {σ : St} {H : Hp} {Q : VK} {ta tb te to : TE} {D : Ends} {g : TG} {tc : TS} {x y v : V}
theorem iM1 {r : V → List V → Hp → VK → Prop} (q : to σ H fun x H1 => MStr x (te σ H1 fun y H2 => r x [y] H2 Q)) : tM1 r to te σ H Q := q
theorem iMStr {z : Str} {P : Prop} (q : P) : MStr (.str z) P := ⟨⟨z, rfl⟩, q⟩
theorem iAddSS {i j : Str} {l m : List Nat} (e1 : i = S l) (e2 : j = S m) (h : l.length + m.length ≤ 100000) (q : Q (.str (S (l ++ m))) H) : rAddS (.str i) (.str j) H Q := by
  subst e1 e2
  refine ⟨S l, S m, rfl, rfl, ?_, ?_⟩
  · rw [S_len, S_len]; exact Nat.le_of_lt (lineK h)
  · rw [S_app]; exact q
theorem iLenSS {l : List Nat} (h : l.length ≤ 100000) (q : Q (.int l.length) H) : rLenS1 [.str (S l)] H Q := ⟨S l, rfl, by rw [S_len]; exact Nat.le_of_lt (lineK h), by rw [S_len]; exact q⟩
theorem iIxSS {l : List Nat} {i : Int} {c : Nat} (hz : l.length ≤ 100000) (e : atI l i = some c) (q : Q (.str (S [c])) H) : rIx K (.str (S l)) (.int i) H Q := iIxS (by rw [S_len]; exact Nat.le_of_lt (lineK hz)) e q
theorem iNotIn01 {c : Nat} (q : Q (.bl (!decide (c = 48 ∨ c = 49))) H) : rNotInC (.str (S [c])) (.str ("01" : Str)) H Q := by
  refine ⟨c, _, rfl, rfl, ?_⟩
  have e : (("01" : Str)).cps.toList = [48, 49] := by decide +kernel
  have e2 : decide (c ∈ [48, 49]) = decide (c = 48 ∨ c = 49) := decide_eq_decide.mpr (by simp)
  rw [e, e2]
  exact q
theorem inV_int (n : Int) : ∀ ns : List Int, inV (.int n) (ns.map V.int) = decide (n ∈ ns)
  | [] => rfl
  | m :: ns => by
    have ih := inV_int n ns
    have h0 : inV (.int n) ((m :: ns).map V.int) = (eqV (.int m) (.int n) || inV (.int n) (ns.map V.int)) := rfl
    rw [h0, ih]
    have h1 : eqV (.int m) (.int n) = decide (n = m) := by
      have : eqV (.int m) (.int n) = (m == n) := rfl
      rw [this]
      by_cases c : n = m
      · subst c; simp
      · rw [decide_eq_false c]; exact beq_eq_false_iff_ne.mpr (fun z => c z.symm)
    rw [h1]
    by_cases c : n = m
    · subst c
      rw [decide_eq_true rfl, decide_eq_true List.mem_cons_self]; rfl
    · rw [decide_eq_false c, Bool.false_or]
      exact decide_eq_decide.mpr ⟨List.mem_cons_of_mem _, fun h => (List.mem_cons.mp h).elim (fun z => absurd z c) id⟩
theorem allFlat : ∀ ns : List Int, (ns.map V.int).all flatV = true
  | [] => rfl
  | _ :: ns => by rw [List.map_cons, List.all_cons, allFlat ns]; rfl
theorem iInI {ns : List Int} {n : Int} (h : LI H v ns) (q : Q (.bl (decide (n ∈ ns))) H) : rIn K false (.int n) v H Q := by
  obtain ⟨a, rfl, h⟩ := h
  refine ⟨a, _, rfl, .inl (SqL.of h), rfl, allFlat ns, ?_⟩
  rw [if_neg (by decide), inV_int]
  exact q
theorem iStrB {b : Bool} (q : Q (.str (S [if b = true then 49 else 48])) H) : rStr1 [.int (if b = true then 1 else 0)] H Q := by
  refine ⟨_, rfl, ?_, ?_⟩
  · cases b <;> decide
  · rw [str_b]; exact q
theorem iMaxL {ns : List Int} (h : LI H v ns) (hn : 0 < ns.length) (q : ∀ m, m ∈ ns → (∀ y, y ∈ ns → y ≤ m) → Q (.int m) H) : rMaxL K [v] H Q := by
  obtain ⟨a, rfl, h⟩ := h
  exact ⟨a, ns, rfl, SqL.of h, hn, q⟩
theorem iMinL {ns : List Int} (h : LI H v ns) (hn : 0 < ns.length) (q : ∀ m, m ∈ ns → (∀ y, y ∈ ns → m ≤ y) → Q (.int m) H) : rMinL K [v] H Q := by
  obtain ⟨a, rfl, h⟩ := h
  exact ⟨a, ns, rfl, SqL.of h, hn, q⟩
def FSt (g : TG) (tc : TS) (D : Ends) (σ : St) (x : V) (H1 : Hp) : Prop := ∃ z, x = .str z ∧ ∃ W : Nat → Nat → St → Hp → Prop, (∃ m, W 0 m σ H1) ∧ ∀ i m σ H, W i m σ H →
  ((Its z).stop i H ∧ D.nx σ H) ∨ ((Its z).go i H ∧ ∃ N : St → Hp → Prop, (∀ σ' H', N σ' H' → ∃ m', m' < m ∧ W (i + 1) m' σ' H') ∧ ∀ x H', (Its z).yld i H x H' → g x σ H' fun σ2 H2 => tc { D with nx := N, ct := N, bk := D.nx } σ2 H2)
theorem iForS (q : te σ H fun x H1 => FSt g tc D σ x H1) : tFor (iStr te) g tc D σ H := q
theorem iFS {s : Nat} {l : List Nat} (Pv : Nat → St → Hp → Prop) (h0 : Pv 0 σ H)
    (hs : ∀ (i c : Nat) σ H, l[i]? = some c → Pv i σ H → tc { D with nx := Pv (i + 1), ct := Pv (i + 1), bk := D.nx } (σ.set s (some (.str (S [c])))) H) (hd : ∀ σ H, Pv l.length σ H → D.nx σ H) : FSt (gName s) tc D σ (.str (S l)) H := by
  refine ⟨S l, rfl, for_it (n := (S l).cps.size) walk_str Pv h0 (fun _ _ _ _ _ => trivial) (fun i x σ H H' hi p y => ?_) (fun σ H p => hd σ H (by
    have e : (S l).cps.size = l.length := S_len l
    rw [e] at p; exact p))⟩
  obtain ⟨rfl, c, hc, rfl⟩ := y
  exact hs i c σ H' (by rw [← hc]; exact (List.getElem?_toArray).symm) p
end
/-- x.split(".") of a text -/
theorem spl_no {l : List Nat} : ∀ {acc : List Nat}, 46 ∉ l → TL.spl [46] 0 acc l = [acc ++ l] := by
  induction l with
  | nil => intro acc _; rw [List.append_nil]; rfl
  | cons x l ih =>
    intro acc h
    have hx : x ≠ 46 := fun e => h (by rw [e]; exact List.mem_cons_self)
    rw [TL.spl_miss (TL.pre_of_head [] l hx), ih (fun k => h (List.mem_cons_of_mem _ k)), List.append_assoc]
    rfl
theorem spl_dot {b : List Nat} : ∀ {a acc : List Nat}, 46 ∉ a → TL.spl [46] 0 acc (a ++ 46 :: b) = (acc ++ a) :: TL.spl [46] 0 [] b
  | [], acc, _ => by
    show TL.spl [46] 0 acc (46 :: b) = _
    have hp : TL.pre [46] (46 :: b) = true := TL.pre_self [46] b
    rw [TL.spl_hit hp, List.append_nil]
    rfl
  | x :: a, acc, h => by
    have hx : x ≠ 46 := fun e => h (by rw [e]; exact List.mem_cons_self)
    show TL.spl [46] 0 acc (x :: (a ++ 46 :: b)) = _
    rw [TL.spl_miss (TL.pre_of_head [] _ hx), spl_dot (fun k => h (List.mem_cons_of_mem _ k)), List.append_assoc]
    rfl
theorem spl_ne (l : List Nat) : TL.spl [46] 0 [] l ≠ [] := by
  rcases GM.cut_at l with h | ⟨a, b, rfl, h⟩
  · rw [spl_no h]; exact fun e => nomatch e
  · rw [spl_dot h]; exact fun e => nomatch e
theorem split_S (l : List Nat) : Txt.split (S l) ("." : Str) = (TL.spl [46] 0 [] l).map S := by
  have e : TL.tl ("." : Str) = [46] := by decide +kernel
  have k : ¬ Builtin.Str.strKind (S l) < Builtin.Str.strKind ("." : Str) := by
    have z : Builtin.Str.strKind ("." : Str) = 1 := by decide +kernel
    rw [z]
    unfold Builtin.Str.strKind
    split <;> (try split) <;> (try split) <;> omega
  apply TL.map_tl_inj
  rw [TL.split_spl (S l) _ (by rw [e]; exact fun z => nomatch z) k, e, List.map_map]
  have : (TL.tl ∘ S) = id := rfl
  rw [this, List.map_id]
  rfl
theorem iSplitS {H : Hp} {Q : VK} {l : List Nat} (h : l.length ≤ 100000) (q : ∀ r H', Same H H' → LS H' r (((TL.spl [46] 0 [] l).map S).map V.str) → Q r H') : rSplit1 (.str (S l)) [.str ("." : Str)] H Q := by
  refine ⟨S l, _, rfl, rfl, by decide +kernel, ?_, ?_⟩
  · rw [S_len]; exact Nat.le_trans (show l.length + 2 ≤ 100002 by omega) (by decide)
  · rw [split_S]
    intro p hp
    exact q _ _ (same_new hp) ⟨p, rfl, upd_same⟩
end GP
local macro_rules | `(tactic| walk_at "callee") => `(tactic| first
  | with_reducible refine GP.iM1 ?_
  | with_reducible refine GP.iMStr ?_
  | with_reducible refine GP.iForS ?_
  | with_reducible refine GP.iNotIn01 ?_
  | with_reducible refine GP.iStrB ?_
  | ((with_reducible refine' GP.iInI ?h ?_); (case h => walk_at "hp"))
  | ((with_reducible refine' GP.iLenSS ?h ?_); (case h => omega))
  | ((with_reducible refine' GP.iSplitS ?h ?_); (case h => omega); intro _ _ _ _)
  | ((with_reducible refine' GP.iAddSS ?e1 ?e2 ?h ?_); (case e1 => first | with_reducible exact GP.lit_dot | with_reducible exact GP.lit_0 | with_reducible exact GP.lit_1 | with_reducible exact GP.lit_nil | with_reducible exact rfl); (case e2 => first | with_reducible exact GP.lit_dot | with_reducible exact GP.lit_0 | with_reducible exact GP.lit_1 | with_reducible exact GP.lit_nil | with_reducible exact rfl); (case h => (try simp only [List.length_cons, List.length_nil, List.length_append, GM.figs_len]) <;> omega)))

namespace GP
open PySem L2
def sp_figures : Sp := fun vs H Q _ => ∃ v ns c d, vs = [v, .int c, .int d] ∧ LI H v ns ∧ -1000 ≤ c ∧ c ≤ 1000 ∧ -1000 ≤ d ∧ d ≤ 1000 ∧ Q (.str (S (GM.figs ns c (c - (d - 1)).toNat))) H
theorem c_figures {H : Hp} {Q : VK} {E : XK} {v : V} {ns : List Int} {c d : Int} (h1 : LI H v ns) (h2 : -1000 ≤ c) (h3 : c ≤ 1000) (h4 : -1000 ≤ d) (h5 : d ≤ 1000) (q : Q (.str (S (GM.figs ns c (c - (d - 1)).toNat))) H) : sp_figures [v, .int c, .int d] H Q E := ⟨v, ns, c, d, rfl, h1, h2, h3, h4, h5, q⟩
theorem ok_figures {P : Program} {w : World} {K : PySem.W.Frag} {mg : Str → Option Value} {base : Heap} {f : Addr} {fd : FuncData} (F : Fun K "figures" "figures" s_figures f fd) (nb : NB mg) : FnOk P w K mg base CX0 1 f fd ["row", "first", "last"] sp_figures := by
  refine F.ok sc_figures (fun vs H Q E h => ?_) (fun cdv A outer s H vs Q E hr h => ?_)
  · obtain ⟨v, ns, c, d, rfl, _⟩ := h
    rfl
  obtain ⟨v, ns, c, d, rfl, h1, h2, h3, h4, h5, q⟩ := h
  refine ⟨_, (pss_cons (ps_set (i := 3) sc_figures.nd rfl (Or.inl rfl) pe_str)
      (pss_cons (ps_for PassesOwn.never rfl (pi_range3 (by rfl) nb.range (pa_cons (pv 1) (pa_cons (pe_op op_sub (pv 2) pe_int) (pa_cons (pe_un un_neg pe_int) pa_nil)))) (pg_name (i := 4) sc_figures.nd rfl (Or.inl rfl)) (pss_one (ps_set (i := 3) sc_figures.nd rfl (Or.inl rfl) (pe_op g_addS (pv 3) (pe_callTy g_str (by rfl) nb.str (by decide +kernel) (pa_cons (pe_callTy g_int (by rfl) nb.int (by decide +kernel) (pa_cons (pe_cmpR op_in_seq (pv 4) (pv 0) (by with_unfolding_all rfl)) pa_nil)) pa_nil))))))
      (pss_one (ps_ret (pv 3))))), ?_⟩
  walk_at "go"
  refine iRF3 ⟨by omega, by omega, by omega, by omega⟩ (fun i σ' H' => ∃ (z : Str) (z2 : Option V), z = S (GM.figs ns c i) ∧ σ' = [some v, some (.int c), some (.int d), some (.str z), z2] ∧ H' = H) ⟨_, none, lit_nil, rfl, rfl⟩ (fun i σ' H' hi hP => ?_) (fun σ' H' hP => ?_)
  · obtain ⟨z, z2, ez, rfl, rfl⟩ := hP
    have hl := GM.figs_len ns i c
    subst ez
    walk_at "go"
    refine ⟨_, _, ?_, rfl, rfl⟩
    rw [GM.figs_snoc]
    by_cases hm : c - (i : Int) ∈ ns
    · rw [decide_eq_true hm]; unfold GM.fig; rw [if_pos hm]; rfl
    · rw [decide_eq_false hm]; unfold GM.fig; rw [if_neg hm]; rfl
  · obtain ⟨z, z2, ez, rfl, rfl⟩ := hP
    subst ez
    walk_at "go"
    exact q
end GP
local macro_rules | `(tactic| walk_at "callee") => `(tactic| ((with_reducible refine' GP.c_figures ?h1 ?h2 ?h3 ?h4 ?h5 ?_); (case h1 => walk_at "hp"); (case h2 => omega); (case h3 => omega); (case h4 => omega); (case h5 => omega)))

namespace GP
open PySem L2
theorem cut1 (ns : List Int) : cutI ns none (some 1) = ns.take 1 := by
  unfold cutI
  have e1 : HT.sIx ns.length 0 none = 0 := rfl
  rw [e1, List.drop_zero, Nat.sub_zero]
  cases ns with
  | nil => simp
  | cons x r =>
    have e2 : HT.sIx (x :: r).length (x :: r).length (some 1) = 1 := by
      unfold HT.sIx
      simp
    rw [e2]
theorem cutL (ns : List Int) : cutI ns (some (-1)) none = ns.drop (ns.length - 1) := by
  unfold cutI
  have e2 : HT.sIx ns.length ns.length none = ns.length := rfl
  rw [e2]
  have e1 : HT.sIx ns.length 0 (some (-1)) = ns.length - 1 := by
    unfold HT.sIx
    simp
    try omega
  rw [e1, List.take_of_length_le (by rw [List.length_drop]; omega)]
theorem top_of {ns : List Int} {m : Int} (h1 : m ∈ [0] ++ ns.take 1) (h2 : ∀ y, y ∈ [0] ++ ns.take 1 → y ≤ m) : m = GM.top ns := by
  cases ns with
  | nil =>
    have e : m = 0 := by simpa using h1
    rw [e]; rfl
  | cons x r =>
    have e : GM.top (x :: r) = max 0 x := rfl
    have a0 := h2 0 (by simp)
    have a1 := h2 x (by simp)
    have a2 : m = 0 ∨ m = x := by simpa using h1
    rw [e]; omega
theorem last_drop (ns : List Int) : ns = [] ∧ GM.least ns = 0 ∨ ∃ d, ns.drop (ns.length - 1) = [d] ∧ GM.least ns = min 0 d := by
  rcases List.eq_nil_or_concat ns with h | ⟨r, d, h⟩
  · subst h; exact .inl ⟨rfl, rfl⟩
  · rw [List.concat_eq_append] at h
    subst h
    refine .inr ⟨d, ?_, ?_⟩
    · rw [List.length_append, List.length_singleton, Nat.add_sub_cancel, List.drop_left]
    · unfold GM.least
      rw [List.getLastD_eq_getLast?, List.getLast?_concat]; rfl
theorem least_of {ns : List Int} {m : Int} (h1 : m ∈ [0] ++ ns.drop (ns.length - 1)) (h2 : ∀ y, y ∈ [0] ++ ns.drop (ns.length - 1) → m ≤ y) : m = GM.least ns := by
  rcases last_drop ns with ⟨h, e⟩ | ⟨d, h, e⟩
  · subst h
    have e : m = 0 := by simpa using h1
    rw [e]; rfl
  · rw [h] at h1 h2
    have a0 := h2 0 (by simp)
    have a1 := h2 d (by simp)
    have a2 : m = 0 ∨ m = d := by simpa using h1
    rw [e]; omega
theorem top_le {ns : List Int} (h : GM.isRow ns = true) : 0 ≤ GM.top ns ∧ GM.top ns ≤ 80 := by
  have t0 : 0 ≤ GM.top ns := by unfold GM.top; omega
  refine ⟨t0, ?_⟩
  by_cases c : 0 < GM.top ns
  · exact ((GM.isRow_gap.mp h).2 _ (GM.top_mem c)).2
  · omega
theorem least_ge {ns : List Int} (h : GM.isRow ns = true) : GM.least ns ≤ 0 ∧ -80 ≤ GM.least ns := by
  have t0 : GM.least ns ≤ 0 := by unfold GM.least; omega
  refine ⟨t0, ?_⟩
  by_cases c : GM.least ns < 0
  · exact ((GM.isRow_gap.mp h).2 _ (GM.least_mem c)).1
  · omega
theorem len_1 {n : Nat} {xs : List Int} : 0 < ([(0 : Int)] ++ xs).length := by simp
def sp_shown (C : Addr) : Sp := fun vs H Q E => ∃ v ns, vs = [v] ∧ LI H v ns ∧ ns.length ≤ 1000 ∧ (GM.isRow ns = true → ∀ H', Same H H' → Q (.str (S (GM.note ns))) H') ∧ (GM.isRow ns = false → E (.ref C) none H)
theorem c_shown {C : Addr} {H : Hp} {Q : VK} {E : XK} {v : V} {ns : List Int} (h1 : LI H v ns) (h2 : ns.length ≤ 1000) (h3 : GM.isRow ns = true) (q : ∀ H', Same H H' → Q (.str (S (GM.note ns))) H') : sp_shown C [v] H Q E :=
  ⟨v, ns, rfl, h1, h2, fun _ => q, fun h => by rw [h3] at h; cases h⟩
theorem ok_shown {P : Program} {w : World} {K : PySem.W.Frag} {mg : Str → Option Value} {base : Heap} {f : Addr} {fd : FuncData} (F : Fun K "shown" "shown" s_shown f fd) (nb : NB mg) {C_NoRow : Addr} (c_asked_row : Cal P w K mg base (L2.CX P w) 2 "asked_row" ["places"] (sp_asked_row C_NoRow)) (c_figures : Cal P w K mg base CX0 1 "figures" ["row", "first", "last"] sp_figures) : FnOk P w K mg base (L2.CX P w) 3 f fd ["row"] (sp_shown C_NoRow) := by
  refine F.okX sc_shown (fun vs H Q E h => ?_) (fun cdv A outer s H vs Q E hr h => ?_)
  · obtain ⟨v, ns, rfl, _⟩ := h
    rfl
  obtain ⟨v, ns, rfl, h1, hl, q1, q2⟩ := h
  refine ⟨_, (pss_cons (ps_expr (pe_callC c_asked_row hr (passes_call (takes_of rfl rfl rfl rfl) (fun _ _ _ _ h => h)) (pa_cons (pv 0) pa_nil)))
      (pss_cons (ps_set (i := 1) sc_shown.nd rfl (Or.inl rfl) (pe_callC c_figures (hr.mono (by decide)) pass0 (pa_cons (pv 0) (pa_cons (pe_callB (g_max1 rfl) (by rfl) nb.max (by decide +kernel) (pa_cons (pe_op op_cat (pe_lst (pa_cons pe_int pa_nil)) (pe_slice sl_list (pv 0) po_none (po_some pe_int))) pa_nil)) (pa_cons pe_int pa_nil)))))
      (pss_cons (ps_set (i := 2) sc_shown.nd rfl (Or.inl rfl) (pe_callB (g_min1 rfl) (by rfl) nb.min (by decide +kernel) (pa_cons (pe_op op_cat (pe_lst (pa_cons pe_int pa_nil)) (pe_slice sl_list (pv 0) (po_some (pe_un un_neg pe_int)) po_none)) pa_nil)))
      (pss_cons (ps_if (pt_cmpR op_lt (pv 2) pe_int (nomark _)) (pss_one (ps_set (i := 1) sc_shown.nd rfl (Or.inl rfl) (pe_op g_addS (pe_op g_addS (pv 1) pe_str) (pe_callC c_figures (hr.mono (by decide)) pass0 (pa_cons (pv 0) (pa_cons (pe_un un_neg pe_int) (pa_cons (pv 2) pa_nil))))))) pss_nil)
      (pss_one (ps_ret (pv 1))))))), ?_⟩
  cases c : GM.isRow ns
  · walk_at "go"
    exact q2 c
  · obtain ⟨t0, t1⟩ := top_le c
    obtain ⟨l0, l1⟩ := least_ge c
    walk_at "go"
    rename_i u1 H1 s1 n1 u2 H2 s2 n2 u3 H3 s3 n3
    refine iMaxL n3 (by simp) (fun m hm hm2 => ?_)
    rw [cut1] at hm hm2
    have em := top_of hm hm2
    clear hm hm2
    subst em
    walk_at "go"
    rename_i u4 H4 s4 n4 u5 H5 s5 n5 u6 H6 s6 n6
    refine iMinL n6 (by simp) (fun m hm hm2 => ?_)
    rw [cutL] at hm hm2
    have em := least_of hm hm2
    clear hm hm2
    subst em
    walk_at "go"
    have q3 := fun (z : Str) (e : z = S (GM.note ns)) H' (s : Same H H') => (by rw [e]; exact q1 c H' s : Q (.str z) H')
    walk_at "if" <;> intro c1
    · walk_at "go"
      refine q3 _ ?_ _ (by walk_at "sm")
      rw [S_inj]
      unfold GM.note
      rw [if_pos c1, List.append_assoc, show GM.top ns - (0 - 1) = GM.top ns + 1 by omega, show (-1 : Int) - (GM.least ns - 1) = -GM.least ns by omega]
      rfl
    · walk_at "go"
      refine q3 _ ?_ _ (by walk_at "sm")
      rw [S_inj]
      unfold GM.note
      rw [if_neg c1, List.append_nil, show GM.top ns - (0 - 1) = GM.top ns + 1 by omega]
end GP
local macro_rules | `(tactic| walk_at "callee") => `(tactic| ((with_reducible refine' GP.c_shown ?h1 ?h2 ?h3 ?_); (case h1 => walk_at "hp"); (case h2 => omega); (case h3 => assumption); intro _ _))

namespace GP
open PySem L2
def sp_asked_figures (C : Addr) : Sp := fun vs H Q E => ∃ l : List Nat, vs = [.str (S l)] ∧ (l ≠ [] ∧ GM.all01 l → Q .non H) ∧ (¬ (l ≠ [] ∧ GM.all01 l) → E (.ref C) none H)
theorem ok_asked_figures {P : Program} {w : World} {K : PySem.W.Frag} {mg : Str → Option Value} {base : Heap} {f : Addr} {fd : FuncData} (F : Fun K "asked_figures" "asked_figures" s_asked_figures f fd) {C_NoNote : Addr} (e_NoNote : EX K mg "NoNote" C_NoNote) : FnOk P w K mg base (L2.CX P w) 1 f fd ["text"] (sp_asked_figures C_NoNote) := by
  refine F.okX sc_asked_figures (fun vs H Q E h => ?_) (fun cdv A outer s H vs Q E hr h => ?_)
  · obtain ⟨l, rfl, _⟩ := h
    rfl
  obtain ⟨l, rfl, q1, q2⟩ := h
  refine ⟨_, (pss_cons (ps_if (pt_cmpR op_eq (pv 0) pe_str (nomark _)) (pss_one (ps_raise rfl (takes_of rfl rfl rfl rfl) (pmk_own PySem.F.excBase_ValueError e_NoNote.exc e_NoNote.mgC e_NoNote.keep (raises_own e_NoNote.sub e_NoNote.typ) (by rfl)))) pss_nil)
      (pss_one (ps_for (passes_of rfl) rfl (pi_str (pv 0)) (pg_name (i := 1) sc_asked_figures.nd rfl (Or.inl rfl)) (pss_one (ps_if (pt_cmpR g_notInC (pv 1) pe_str (by with_unfolding_all rfl)) (pss_one (ps_raise rfl (takes_of rfl rfl rfl rfl) (pmk_own PySem.F.excBase_ValueError e_NoNote.exc e_NoNote.mgC e_NoNote.keep (raises_own e_NoNote.sub e_NoNote.typ) (by rfl)))) pss_nil))))), ?_⟩
  walk_at "go"
  walk_at "if" <;> intro c
  · exact q2 (fun h => h.1 (S_inj.mp (c.trans lit_nil)))
  · walk_at "go"
    have hn : l ≠ [] := fun e => c (by rw [e]; exact lit_nil.symm)
    refine iFS (fun i σ' H' => ∃ (z : Option V), σ' = [some (.str (S l)), z] ∧ H' = H ∧ GM.all01 (l.take i)) ⟨none, rfl, rfl, fun x hx => by rw [List.take_zero] at hx; cases hx⟩ (fun i d σ' H' hi hP => ?_) (fun σ' H' hP => ?_)
    · obtain ⟨z, rfl, rfl, ha⟩ := hP
      walk_at "go"
      walk_at "if" <;> intro c1
      · exact q2 (fun h => c1 (h.2 d (List.mem_of_getElem? hi)))
      · walk_at "go"
        refine ⟨_, rfl, rfl, fun x hx => ?_⟩
        rw [List.take_add_one, hi] at hx
        rcases List.mem_append.mp hx with h | h
        · exact ha x h
        · rw [List.mem_singleton.mp h]; exact c1
    · obtain ⟨z, rfl, rfl, ha⟩ := hP
      rw [List.take_length] at ha
      walk_at "go"
      exact q1 ⟨hn, ha⟩
end GP

namespace GP
open PySem L2
theorem okT_halves {l : List Nat} (h : GM.okT l) : (TL.spl [46] 0 [] l).length ≤ 2 ∧ ∀ x ∈ TL.spl [46] 0 [] l, x ≠ [] ∧ GM.all01 x := by
  rcases GM.cut_at l with k | ⟨a, b, rfl, k⟩
  · rw [spl_no k]
    have q := (GM.okT_A k).mp h
    exact ⟨by simp, fun x hx => by rw [List.mem_singleton.mp hx]; exact ⟨q.1, q.2.1⟩⟩
  · have q := (GM.okT_B b k).mp h
    rw [spl_dot k, spl_no (GM.no46 q.2.1.2.1)]
    refine ⟨by simp, fun x hx => ?_⟩
    rcases List.mem_cons.mp hx with rfl | hx
    · exact ⟨q.1.1, q.1.2.1⟩
    · rw [List.mem_singleton.mp hx]; exact ⟨q.2.1.1, q.2.1.2.1⟩
theorem not_ok {l : List Nat} (h : ¬ GM.okT l) : GM.readT l = none := if_neg h
theorem at_head {c : Nat} {w : List Nat} (h : w.head? = some c) : atI w 0 = some c := by
  cases w with
  | nil => cases h
  | cons x r => cases h; exact atI_nat (xs := c :: r) (j := 0) rfl
theorem iCatN {H : Hp} {Q : VK} {a b : V} {xs ys : List Int} (h1 : LI H a xs) (h2 : LI H b ys) (hl : xs.length + ys.length ≤ 100000) (q : ∀ p H', H p = none → Same H H' → LK H' p (xs ++ ys) → Q (.ref p) H') : rCat a b H Q := by
  obtain ⟨p, rfl, h1⟩ := h1
  obtain ⟨r, rfl, h2⟩ := h2
  exact ⟨p, r, _, _, rfl, rfl, h1, h2, by rw [List.length_map, List.length_map]; exact Nat.le_of_lt (lineK hl), fun d hd => q _ _ hd (same_new hd) (by show upd H d _ d = _; rw [upd_same, List.map_append])⟩
theorem free_of {H H' : Hp} {p : Addr} (s : Same H H') (h : H' p = none) : H p = none := by
  cases c : H p with
  | none => rfl
  | some o => rw [s p o c] at h; cases h
def sp_read (C : Addr) : Sp := fun vs H Q E => ∃ l : List Nat, vs = [.str (S l)] ∧ l.length ≤ 1000 ∧
  (∀ xs, GM.readT l = some xs → ∀ p H', H p = none → Same H H' → LK H' p xs → Q (.ref p) H') ∧ (GM.readT l = none → ∀ H', Same H H' → E (.ref C) none H')
theorem c_read {C : Addr} {H : Hp} {Q : VK} {E : XK} {l : List Nat} {xs : List Int} (h1 : l.length ≤ 1000) (h2 : GM.readT l = some xs) (q : ∀ p H', H p = none → Same H H' → LK H' p xs → Q (.ref p) H') : sp_read C [.str (S l)] H Q E :=
  ⟨l, rfl, h1, fun ys hy => by rw [h2] at hy; cases hy; exact q, fun h => by rw [h2] at h; cases h⟩
theorem ok_read {P : Program} {w : World} {K : PySem.W.Frag} {mg : Str → Option Value} {base : Heap} {f : Addr} {fd : FuncData} (F : Fun K "read" "read" s_read f fd) (nb : NB mg) {C_NoNote : Addr} (e_NoNote : EX K mg "NoNote" C_NoNote) (c_asked_figures : Cal P w K mg base (L2.CX P w) 1 "asked_figures" ["text"] (sp_asked_figures C_NoNote)) (c_is_row : Cal P w K mg base CX0 1 "is_row" ["places"] sp_is_row) : FnOk P w K mg base (L2.CX P w) 2 f fd ["text"] (sp_read C_NoNote) := by
  refine F.okX sc_read (fun vs H Q E h => ?_) (fun cdv A outer s H vs Q E hr h => ?_)
  · obtain ⟨l, rfl, _⟩ := h
    rfl
  obtain ⟨l, rfl, hl, q1, q2⟩ := h
  refine ⟨_, (pss_cons (ps_set (i := 1) sc_read.nd rfl (Or.inr rfl) (g_split (pv 0) pe_str))
      (pss_cons (ps_if (pt_cmpR op_gt (pe_callB g_len (by rfl) nb.len (by decide +kernel) (pa_cons (pv 1) pa_nil)) pe_int (nomark _)) (pss_one (ps_raise rfl (takes_of rfl rfl rfl rfl) (pmk_own PySem.F.excBase_ValueError e_NoNote.exc e_NoNote.mgC e_NoNote.keep (raises_own e_NoNote.sub e_NoNote.typ) (by rfl)))) pss_nil)
      (pss_cons (ps_for (passes_of rfl) rfl (pi_list (pv 1)) (pg_name (i := 2) sc_read.nd rfl (Or.inl rfl)) (pss_one (ps_expr (pe_callC c_asked_figures hr (passes_call (takes_of rfl rfl rfl rfl) (fun _ _ _ _ h => h)) (pa_cons (pv 2) pa_nil)))))
      (pss_cons (ps_set (i := 3) sc_read.nd rfl (Or.inr rfl) (pe_ix ix_seq (pv 1) pe_int (fun _ _ => rfl)))
      (pss_cons (ps_if (PW.pt (pw_and (pt_cmpR op_gt (pe_callB g_lenS (by rfl) nb.len (by decide +kernel) (pa_cons (pv 3) pa_nil)) pe_int (nomark _)) (pw_and1 (pt_cmpR op_eq (pe_ix ix_seq (pv 3) pe_int (fun _ _ => rfl)) pe_str (nomark _))))) (pss_one (ps_raise rfl (takes_of rfl rfl rfl rfl) (pmk_own PySem.F.excBase_ValueError e_NoNote.exc e_NoNote.mgC e_NoNote.keep (raises_own e_NoNote.sub e_NoNote.typ) (by rfl)))) pss_nil)
      (pss_cons (ps_setLc (i := 4) (own := [("k", 5)]) (g := gName 5) (tt := (tTest (tOp rEq (tOp (rIx K) (tVar 3) (tVar 5)) (tC (V.str "1"))))) (te := (tOp (rI0 fun i j => V.int (i - j)) (tOp (rI0 fun i j => V.int (i - j)) (tCB rLenS1 (tCons (tVar 3) tNil)) (tC (V.int 1))) (tVar 5))) rfl sc_read.nd rfl rfl (sw_true rfl rfl rfl (by decide +kernel)) (pi_range1 (by rfl) nb.range (pa_cons (pe_callB g_lenS (by rfl) nb.len (by decide +kernel) (pa_cons (pv 3) pa_nil)) pa_nil)) (blkOk_by (own := [("k", 5)]) (N := N_read) (sc := defScope s_read) (by decide +kernel)) (fun _ _ _ _ _ => pg_name (i := 5) sc_read.nd rfl (Or.inl rfl)) (fun _ _ _ _ _ => (pts_one (pt_cmpR op_eq (pe_ix ix_seq (pv 3) (pv 5) (fun _ _ => rfl)) pe_str (nomark _)))) (fun _ _ _ _ _ => (pe_op op_sub (pe_op op_sub (pe_callB g_lenS (by rfl) nb.len (by decide +kernel) (pa_cons (pv 3) pa_nil)) pe_int) (pv 5))))
      (pss_cons (ps_if (pt_cmpR op_eq (pe_callB g_len (by rfl) nb.len (by decide +kernel) (pa_cons (pv 1) pa_nil)) pe_int (nomark _)) (pss_cons (ps_if (pt_cmpR op_eq (pe_ix ix_seq (pe_ix ix_seq (pv 1) pe_int (fun _ _ => rfl)) (pe_un un_neg pe_int) (fun _ _ => rfl)) pe_str (nomark _)) (pss_one (ps_raise rfl (takes_of rfl rfl rfl rfl) (pmk_own PySem.F.excBase_ValueError e_NoNote.exc e_NoNote.mgC e_NoNote.keep (raises_own e_NoNote.sub e_NoNote.typ) (by rfl)))) pss_nil)
      (pss_one (ps_set (i := 4) sc_read.nd rfl (Or.inl rfl) (pe_op op_cat (pv 4) (pe_lc (own := [("k", 5)]) (g := gName 5) (tt := (tTest (tOp rEq (tOp (rIx K) (tOp (rIx K) (tVar 1) (tC (V.int 1))) (tVar 5)) (tC (V.str "1"))))) (te := (tOp (rI0 fun i j => V.int (i - j)) (tUn (rU fun i => V.int (-i)) (tC (V.int 1))) (tVar 5))) rfl sc_read.nd (pi_range1 (by rfl) nb.range (pa_cons (pe_callB g_lenS (by rfl) nb.len (by decide +kernel) (pa_cons (pe_ix ix_seq (pv 1) pe_int (fun _ _ => rfl)) pa_nil)) pa_nil)) (blkOk_by (own := [("k", 5)]) (N := N_read) (sc := defScope s_read) (by decide +kernel)) (fun _ _ _ _ _ => pg_name (i := 5) sc_read.nd rfl (Or.inl rfl)) (fun _ _ _ _ _ => (pts_one (pt_cmpR op_eq (pe_ix ix_seq (pe_ix ix_seq (pv 1) pe_int (fun _ _ => rfl)) (pv 5) (fun _ _ => rfl)) pe_str (nomark _)))) (fun _ _ _ _ _ => (pe_op op_sub (pe_un un_neg pe_int) (pv 5)))))))) pss_nil)
      (pss_cons (ps_if (pt_not (pt_val (pe_callC c_is_row hr pass0 (pa_cons (pv 4) pa_nil)))) (pss_one (ps_raise rfl (takes_of rfl rfl rfl rfl) (pmk_own PySem.F.excBase_ValueError e_NoNote.exc e_NoNote.mgC e_NoNote.keep (raises_own e_NoNote.sub e_NoNote.typ) (by rfl)))) pss_nil)
      (pss_one (ps_ret (pv 4))))))))))), ?_⟩
  walk_at "go"
  rename_i r1 H1 s1 t1
  rw [List.length_map, List.length_map]
  walk_at "if" <;> intro c0
  · exact q2 (not_ok (fun h => by have := (okT_halves h).1; omega)) _ s1
  walk_at "go"
  refine iFL t1 (fun i σ' H' => ∃ (z : Option V), σ' = [some (.str (S l)), some r1, z, none, none, none] ∧ H' = H1 ∧ ∀ x ∈ (TL.spl [46] 0 [] l).take i, x ≠ [] ∧ GM.all01 x) ⟨_, rfl, rfl, fun x hx => by rw [List.take_zero] at hx; cases hx⟩ (fun i σ' H' hP => ?_) (fun i y σ' H' hi hP => ?_) (fun σ' H' hP => ?_)
  · obtain ⟨z, rfl, rfl, _⟩ := hP
    exact t1
  · obtain ⟨z, rfl, rfl, ha⟩ := hP
    rw [List.getElem?_map, List.getElem?_map] at hi
    obtain ⟨z1, hz1, rfl⟩ := Option.map_eq_some_iff.mp hi
    obtain ⟨x, hx, rfl⟩ := Option.map_eq_some_iff.mp hz1
    walk_at "go"
    refine ⟨x, rfl, fun hok => ?_, fun hbad => ?_⟩
    · refine iNext ?_
      refine ⟨_, rfl, rfl, fun u hu => ?_⟩
      rw [List.take_add_one, hx] at hu
      rcases List.mem_append.mp hu with h | h
      · exact ha u h
      · rw [List.mem_singleton.mp h]; exact hok
    · exact q2 (not_ok (fun h => hbad ((okT_halves h).2 x (List.mem_of_getElem? hx)))) _ s1
  · obtain ⟨z, rfl, rfl, ha⟩ := hP
    rw [List.length_map, List.length_map, List.take_length] at ha
    rcases GM.cut_at l with k | ⟨a, b, rfl, k⟩
    · -- no point
      rw [spl_no k] at ha t1
      obtain ⟨wn, w01⟩ := ha l List.mem_cons_self
      have t1 : LS H' r1 [.str (S l)] := t1
      have ok := GM.okT_A k
      have rd : ∀ xs, GM.okT l → xs = GM.ones ((l.length : Int) - 1) l → GM.readT l = some xs := fun xs h e => by
        unfold GM.readT
        rw [if_pos h, GM.marks_A k, GM.pt_A k, e]
      obtain ⟨c, r, hcr⟩ : ∃ c r, l = c :: r := by
        cases l with
        | nil => exact absurd rfl wn
        | cons c r => exact ⟨c, r, rfl⟩
      have at0 : atI l 0 = some c := at_head (by rw [hcr]; rfl)
      have ol := GM.ones_len l ((l.length : Int) - 1)
      walk_at "go"
      walk_at "if" <;> intro c2
      · walk_at "go"
        refine iIxSS (by omega) at0 ?_
        walk_at "go"
        walk_at "if" <;> intro c3
        · exact q2 (not_ok (fun h => (ok.mp h).2.2.1 ⟨by omega, by rw [hcr, (List.cons.inj (S_inj.mp (c3.trans lit_0))).1]; rfl⟩)) _ s1
        · have hw : ¬ (1 < l.length ∧ l.head? = some 48) := fun h => c3 (by have e := h.2; rw [hcr] at e; rw [Option.some.inj e]; exact lit_0.symm)
          walk_at "go"
          refine iRLc ⟨by omega, by omega⟩ (fun D i H2 => Same H' H2 ∧ LK H2 D (GM.ones ((l.length : Int) - 1) (l.take i))) (fun D hD => ⟨same_new hD, upd_same⟩) (fun i => rfl) (fun D i H2 hD hi hP => ?_) (fun D H2 hD hP => ?_)
          · obtain ⟨s2, k2⟩ := hP
            have hi' : i < l.length := by omega
            have hc := List.getElem?_eq_getElem hi'
            have hlen : (GM.ones ((l.length : Int) - 1) (l.take i)).length ≤ 1000 := by
              have := GM.ones_len (l.take i) ((l.length : Int) - 1)
              rw [List.length_take] at this
              omega
            walk_at "go"
            refine iIxSS (by omega) (atI_nat hc) ?_
            walk_at "go"
            walk_at "if" <;> intro c4
            · have e4 : l[i] = 49 := (List.cons.inj (S_inj.mp (c4.trans lit_1))).1
              walk_at "go"
              exact ⟨same_app hD s2, by rw [GM.ones_take _ hc, if_pos e4]; exact LK.new⟩
            · have e4 : ¬ l[i] = 49 := fun e => c4 (by rw [e]; exact lit_1.symm)
              exact ⟨s2, by rw [GM.ones_take _ hc, if_neg e4, List.append_nil]; exact k2⟩
          · obtain ⟨s2, k2⟩ := hP
            have k2 : LK H2 D (GM.ones ((l.length : Int) - 1) l) := by
              rw [Int.toNat_natCast, List.take_length] at k2
              exact k2
            walk_at "go"
            refine iIfF (by simp) ?_
            walk_at "go"
            cases cr : GM.isRow (GM.ones ((l.length : Int) - 1) l)
            · refine iNF ?_
              exact q2 (not_ok (fun h => by have := (ok.mp h).2.2.2; rw [cr] at this; cases this)) _ (s1.trans s2)
            · refine iNT ?_
              walk_at "go"
              exact q1 _ (rd _ (ok.mpr ⟨wn, w01, hw, cr⟩) rfl) D _ (free_of s1 hD) (s1.trans s2) k2
      · have hw : ¬ (1 < l.length ∧ l.head? = some 48) := fun h => c2 (by have := h.1; omega)
        walk_at "go"
        refine iRLc ⟨by omega, by omega⟩ (fun D i H2 => Same H' H2 ∧ LK H2 D (GM.ones ((l.length : Int) - 1) (l.take i))) (fun D hD => ⟨same_new hD, upd_same⟩) (fun i => rfl) (fun D i H2 hD hi hP => ?_) (fun D H2 hD hP => ?_)
        · obtain ⟨s2, k2⟩ := hP
          have hi' : i < l.length := by omega
          have hc := List.getElem?_eq_getElem hi'
          have hlen : (GM.ones ((l.length : Int) - 1) (l.take i)).length ≤ 1000 := by
            have := GM.ones_len (l.take i) ((l.length : Int) - 1)
            rw [List.length_take] at this
            omega
          walk_at "go"
          refine iIxSS (by omega) (atI_nat hc) ?_
          walk_at "go"
          walk_at "if" <;> intro c4
          · have e4 : l[i] = 49 := (List.cons.inj (S_inj.mp (c4.trans lit_1))).1
            walk_at "go"
            exact ⟨same_app hD s2, by rw [GM.ones_take _ hc, if_pos e4]; exact LK.new⟩
          · have e4 : ¬ l[i] = 49 := fun e => c4 (by rw [e]; exact lit_1.symm)
            exact ⟨s2, by rw [GM.ones_take _ hc, if_neg e4, List.append_nil]; exact k2⟩
        · obtain ⟨s2, k2⟩ := hP
          have k2 : LK H2 D (GM.ones ((l.length : Int) - 1) l) := by
            rw [Int.toNat_natCast, List.take_length] at k2
            exact k2
          walk_at "go"
          refine iIfF (by simp) ?_
          walk_at "go"
          cases cr : GM.isRow (GM.ones ((l.length : Int) - 1) l)
          · refine iNF ?_
            exact q2 (not_ok (fun h => by have := (ok.mp h).2.2.2; rw [cr] at this; cases this)) _ (s1.trans s2)
          · refine iNT ?_
            walk_at "go"
            exact q1 _ (rd _ (ok.mpr ⟨wn, w01, hw, cr⟩) rfl) D _ (free_of s1 hD) (s1.trans s2) k2
    · -- a point
      have kb : 46 ∉ b := by
        intro hb
        rcases GM.cut_at b with z | ⟨a2, b2, rfl, z⟩
        · exact z hb
        · rw [spl_dot k, spl_dot z] at c0
          have := List.length_pos_iff.mpr (spl_ne b2)
          simp only [List.length_cons] at c0
          omega
      rw [spl_dot k, spl_no kb] at ha t1
      obtain ⟨wn, w01⟩ := ha a List.mem_cons_self
      obtain ⟨bn, b01⟩ := ha b (List.mem_cons_of_mem _ List.mem_cons_self)
      have t1 : LS H' r1 [.str (S a), .str (S b)] := t1
      have ok := GM.okT_B b k
      have rd : ∀ xs, GM.okT (a ++ 46 :: b) → xs = GM.ones ((a.length : Int) - 1) (a ++ b) → GM.readT (a ++ 46 :: b) = some xs := fun xs h e => by
        unfold GM.readT
        rw [if_pos h, GM.marks_B b k, GM.pt_B b k, e]
      have ap : GM.ones ((a.length : Int) - 1) (a ++ b) = GM.ones ((a.length : Int) - 1) a ++ GM.ones (-1) b := by
        rw [GM.ones_app, show (a.length : Int) - 1 - a.length = -1 by omega]
      obtain ⟨c, r, hcr⟩ : ∃ c r, a = c :: r := by
        cases a with
        | nil => exact absurd rfl wn
        | cons c r => exact ⟨c, r, rfl⟩
      have at0 : atI a 0 = some c := at_head (by rw [hcr]; rfl)
      obtain ⟨b', y, hby⟩ : ∃ b' y, b = b' ++ [y] := by
        rcases List.eq_nil_or_concat b with z | ⟨b', y, z⟩
        · exact absurd z bn
        · exact ⟨b', y, by rw [z, List.concat_eq_append]⟩
      have at1 : atI b (-1) = some y := by rw [hby]; exact atI_last _ _
      have ola := GM.ones_len a ((a.length : Int) - 1)
      have olb := GM.ones_len b (-1)
      rw [List.length_append, List.length_cons] at hl
      walk_at "go"
      walk_at "if" <;> intro c2
      · walk_at "go"
        refine iIxSS (by omega) at0 ?_
        walk_at "go"
        walk_at "if" <;> intro c3
        · exact q2 (not_ok (fun h => (ok.mp h).1.2.2 ⟨by omega, by rw [hcr, (List.cons.inj (S_inj.mp (c3.trans lit_0))).1]; rfl⟩)) _ s1
        · have hw : ¬ (1 < a.length ∧ a.head? = some 48) := fun h => c3 (by have e := h.2; rw [hcr] at e; rw [Option.some.inj e]; exact lit_0.symm)
          walk_at "go"
          refine iRLc ⟨by omega, by omega⟩ (fun D i H2 => Same H' H2 ∧ LK H2 D (GM.ones ((a.length : Int) - 1) (a.take i))) (fun D hD => ⟨same_new hD, upd_same⟩) (fun i => rfl) (fun D i H2 hD hi hP => ?_) (fun D H2 hD hP => ?_)
          · obtain ⟨s2, k2⟩ := hP
            have hi' : i < a.length := by omega
            have hc := List.getElem?_eq_getElem hi'
            have hlen : (GM.ones ((a.length : Int) - 1) (a.take i)).length ≤ 1000 := by
              have := GM.ones_len (a.take i) ((a.length : Int) - 1)
              rw [List.length_take] at this
              omega
            walk_at "go"
            refine iIxSS (by omega) (atI_nat hc) ?_
            walk_at "go"
            walk_at "if" <;> intro c4
            · have e4 : a[i] = 49 := (List.cons.inj (S_inj.mp (c4.trans lit_1))).1
              walk_at "go"
              exact ⟨same_app hD s2, by rw [GM.ones_take _ hc, if_pos e4]; exact LK.new⟩
            · have e4 : ¬ a[i] = 49 := fun e => c4 (by rw [e]; exact lit_1.symm)
              exact ⟨s2, by rw [GM.ones_take _ hc, if_neg e4, List.append_nil]; exact k2⟩
          obtain ⟨s2, k2⟩ := hP
          have k2 : LK H2 D (GM.ones ((a.length : Int) - 1) a) := by
            rw [Int.toNat_natCast, List.take_length] at k2
            exact k2
          walk_at "go"
          refine iIxSS (by omega) at1 ?_
          walk_at "go"
          walk_at "if" <;> intro c5
          · exact q2 (not_ok (fun h => (ok.mp h).2.1.2.2 (by rw [hby, List.getLast?_concat, (List.cons.inj (S_inj.mp (c5.trans lit_0))).1]))) _ (s1.trans s2)
          have hz : b.getLast? ≠ some 48 := fun e => c5 (by rw [hby, List.getLast?_concat] at e; rw [Option.some.inj e]; exact lit_0.symm)
          walk_at "go"
          refine iRLc ⟨by omega, by omega⟩ (fun D i H3 => Same H2 H3 ∧ LK H3 D (GM.ones (-1) (b.take i))) (fun D hD => ⟨same_new hD, upd_same⟩) (fun i => rfl) (fun D2 i H3 hD2 hi hP => ?_) (fun D2 H3 hD2 hP => ?_)
          · obtain ⟨s3, k3⟩ := hP
            have hi' : i < b.length := by omega
            have hc := List.getElem?_eq_getElem hi'
            have hlen : (GM.ones (-1) (b.take i)).length ≤ 1000 := by
              have := GM.ones_len (b.take i) (-1)
              rw [List.length_take] at this
              omega
            walk_at "go"
            refine iIxSS (by omega) (atI_nat hc) ?_
            walk_at "go"
            walk_at "if" <;> intro c4
            · have e4 : b[i] = 49 := (List.cons.inj (S_inj.mp (c4.trans lit_1))).1
              walk_at "go"
              exact ⟨same_app hD2 s3, by rw [GM.ones_take _ hc, if_pos e4]; exact LK.new⟩
            · have e4 : ¬ b[i] = 49 := fun e => c4 (by rw [e]; exact lit_1.symm)
              exact ⟨s3, by rw [GM.ones_take _ hc, if_neg e4, List.append_nil]; exact k3⟩
          obtain ⟨s3, k3⟩ := hP
          have k3 : LK H3 D2 (GM.ones (-1) b) := by
            rw [Int.toNat_natCast, List.take_length] at k3
            exact k3
          refine iCatN (LK.ls (k2.same s3)) (LK.ls k3) (by omega) (fun p H4 np s4 k4 => ?_)
          rw [← ap] at k4
          have ol4 := GM.ones_len (a ++ b) ((a.length : Int) - 1)
          rw [List.length_append] at ol4
          walk_at "go"
          have s24 := (s1.trans s2).trans (s3.trans s4)
          cases cr : GM.isRow (GM.ones ((a.length : Int) - 1) (a ++ b))
          · refine iNF ?_
            exact q2 (not_ok (fun h => by have := (ok.mp h).2.2; rw [cr] at this; cases this)) _ s24
          · refine iNT ?_
            walk_at "go"
            exact q1 _ (rd _ (ok.mpr ⟨⟨wn, w01, hw⟩, ⟨bn, b01, hz⟩, cr⟩) rfl) p _ (free_of ((s1.trans s2).trans s3) np) s24 k4
      · have hw : ¬ (1 < a.length ∧ a.head? = some 48) := fun h => c2 (by have := h.1; omega)
        walk_at "go"
        refine iRLc ⟨by omega, by omega⟩ (fun D i H2 => Same H' H2 ∧ LK H2 D (GM.ones ((a.length : Int) - 1) (a.take i))) (fun D hD => ⟨same_new hD, upd_same⟩) (fun i => rfl) (fun D i H2 hD hi hP => ?_) (fun D H2 hD hP => ?_)
        · obtain ⟨s2, k2⟩ := hP
          have hi' : i < a.length := by omega
          have hc := List.getElem?_eq_getElem hi'
          have hlen : (GM.ones ((a.length : Int) - 1) (a.take i)).length ≤ 1000 := by
            have := GM.ones_len (a.take i) ((a.length : Int) - 1)
            rw [List.length_take] at this
            omega
          walk_at "go"
          refine iIxSS (by omega) (atI_nat hc) ?_
          walk_at "go"
          walk_at "if" <;> intro c4
          · have e4 : a[i] = 49 := (List.cons.inj (S_inj.mp (c4.trans lit_1))).1
            walk_at "go"
            exact ⟨same_app hD s2, by rw [GM.ones_take _ hc, if_pos e4]; exact LK.new⟩
          · have e4 : ¬ a[i] = 49 := fun e => c4 (by rw [e]; exact lit_1.symm)
            exact ⟨s2, by rw [GM.ones_take _ hc, if_neg e4, List.append_nil]; exact k2⟩
        obtain ⟨s2, k2⟩ := hP
        have k2 : LK H2 D (GM.ones ((a.length : Int) - 1) a) := by
          rw [Int.toNat_natCast, List.take_length] at k2
          exact k2
        walk_at "go"
        refine iIxSS (by omega) at1 ?_
        walk_at "go"
        walk_at "if" <;> intro c5
        · exact q2 (not_ok (fun h => (ok.mp h).2.1.2.2 (by rw [hby, List.getLast?_concat, (List.cons.inj (S_inj.mp (c5.trans lit_0))).1]))) _ (s1.trans s2)
        have hz : b.getLast? ≠ some 48 := fun e => c5 (by rw [hby, List.getLast?_concat] at e; rw [Option.some.inj e]; exact lit_0.symm)
        walk_at "go"
        refine iRLc ⟨by omega, by omega⟩ (fun D i H3 => Same H2 H3 ∧ LK H3 D (GM.ones (-1) (b.take i))) (fun D hD => ⟨same_new hD, upd_same⟩) (fun i => rfl) (fun D2 i H3 hD2 hi hP => ?_) (fun D2 H3 hD2 hP => ?_)
        · obtain ⟨s3, k3⟩ := hP
          have hi' : i < b.length := by omega
          have hc := List.getElem?_eq_getElem hi'
          have hlen : (GM.ones (-1) (b.take i)).length ≤ 1000 := by
            have := GM.ones_len (b.take i) (-1)
            rw [List.length_take] at this
            omega
          walk_at "go"
          refine iIxSS (by omega) (atI_nat hc) ?_
          walk_at "go"
          walk_at "if" <;> intro c4
          · have e4 : b[i] = 49 := (List.cons.inj (S_inj.mp (c4.trans lit_1))).1
            walk_at "go"
            exact ⟨same_app hD2 s3, by rw [GM.ones_take _ hc, if_pos e4]; exact LK.new⟩
          · have e4 : ¬ b[i] = 49 := fun e => c4 (by rw [e]; exact lit_1.symm)
            exact ⟨s3, by rw [GM.ones_take _ hc, if_neg e4, List.append_nil]; exact k3⟩
        obtain ⟨s3, k3⟩ := hP
        have k3 : LK H3 D2 (GM.ones (-1) b) := by
          rw [Int.toNat_natCast, List.take_length] at k3
          exact k3
        refine iCatN (LK.ls (k2.same s3)) (LK.ls k3) (by omega) (fun p H4 np s4 k4 => ?_)
        rw [← ap] at k4
        have ol4 := GM.ones_len (a ++ b) ((a.length : Int) - 1)
        rw [List.length_append] at ol4
        walk_at "go"
        have s24 := (s1.trans s2).trans (s3.trans s4)
        cases cr : GM.isRow (GM.ones ((a.length : Int) - 1) (a ++ b))
        · refine iNF ?_
          exact q2 (not_ok (fun h => by have := (ok.mp h).2.2; rw [cr] at this; cases this)) _ s24
        · refine iNT ?_
          walk_at "go"
          exact q1 _ (rd _ (ok.mpr ⟨⟨wn, w01, hw⟩, ⟨bn, b01, hz⟩, cr⟩) rfl) p _ (free_of ((s1.trans s2).trans s3) np) s24 k4
end GP
local macro_rules | `(tactic| walk_at "callee") => `(tactic| ((with_reducible refine' GP.c_read ?h1 ?h2 ?_); (case h2 => exact GM.read_note (by assumption)); (case h1 => exact Nat.le_trans (GM.note_len (by assumption)) (by decide)); intro _ _ _ _ _))

-- cut
namespace GP
open PySem L2
theorem ord_sg {ns ms : List Int} (g1 : GM.gap ns = true) (g2 : GM.gap ms = true) : ordI ns ms = GM.sg ((GM.sumP ns).1 - (GM.sumP ms).1) ((GM.sumP ns).2 - (GM.sumP ms).2) := by
  have e : GM.sg ((GM.sumP ns).1 - (GM.sumP ms).1) ((GM.sumP ns).2 - (GM.sumP ms).2) = GM.sg (GM.sub (GM.sumP ns) (GM.sumP ms)).1 (GM.sub (GM.sumP ns) (GM.sumP ms)).2 := rfl
  rw [e]
  unfold ordI
  by_cases c1 : GM.lexLt ms ns = true
  · rw [if_pos c1]
    exact (GM.sg_P.mpr (GM.lex_lt ms ns g2 g1 c1)).symm
  · rw [if_neg c1]
    by_cases c2 : GM.lexLt ns ms = true
    · rw [if_pos c2]
      have q := GM.lex_lt ns ms g1 g2 c2
      unfold GM.lt at q
      rw [← GM.neg_sub] at q
      exact (GM.sg_M.mpr q).symm
    · rw [if_neg c2]
      rcases GM.lex_tri ns ms with h | h | h
      · subst h
        rw [GM.sub_self]; rfl
      · exact absurd h c2
      · exact absurd h c1
theorem sq_nn (a b : Int) : 0 ≤ GM.sg (a * a + b * b) (2 * a * b + b * b) := by
  have e := GM.sg_mul (a, b) (a, b)
  have e1 : GM.mul (a, b) (a, b) = (a * a + b * b, 2 * a * b + b * b) := by
    simp only [GM.mul]
    exact Prod.ext rfl (by show a * b + b * a + b * b = 2 * a * b + b * b; grind)
  rw [e1] at e
  have e2 : GM.sg (a * a + b * b) (2 * a * b + b * b) = GM.sg a b * GM.sg a b := e
  rw [e2]
  exact GM.sqnn _
theorem sq_bd {a b : Int} (a0 : -300 ≤ a) (a1 : a ≤ 300) (b0 : -300 ≤ b) (b1 : b ≤ 300) : Bd 19 (a * a + b * b) ∧ Bd 19 (2 * a * b + b * b) := by
  have h1 := Nat.mul_le_mul (show a.natAbs ≤ 300 by omega) (show a.natAbs ≤ 300 by omega)
  have h2 := Nat.mul_le_mul (show b.natAbs ≤ 300 by omega) (show b.natAbs ≤ 300 by omega)
  have h3 := Nat.mul_le_mul (show a.natAbs ≤ 300 by omega) (show b.natAbs ≤ 300 by omega)
  rw [← Int.natAbs_mul] at h1 h2 h3
  have e : 2 * a * b = 2 * (a * b) := by grind
  rw [e]
  unfold Bd
  generalize a * a = aa at *
  generalize b * b = bb at *
  generalize a * b = ab at *
  have p : (2 : Nat) ^ 19 = 524288 := by decide
  rw [p]
  omega
def sp__law_part : Sp := fun vs H Q _ => ∃ c : Int, vs = [.int c] ∧ ∀ r : Int, -300 ≤ r → r ≤ 300 → Q (.int r) H
theorem c_part {H : Hp} {Q : VK} {E : XK} {c : Int} (q : ∀ r : Int, -300 ≤ r → r ≤ 300 → Q (.int r) H) : sp__law_part [.int c] H Q E := ⟨c, rfl, q⟩
theorem ok__law_part {P : Program} {w : World} {K : PySem.W.Frag} {mg : Str → Option Value} {base : Heap} {f : Addr} {fd : FuncData} (F : Fun K "_law_part" "_law_part" s__law_part f fd) : FnOk P w K mg base CX0 1 f fd ["cell"] sp__law_part := by
  refine F.ok sc__law_part (fun vs H Q E h => ?_) (fun cdv A outer s H vs Q E hr h => ?_)
  · obtain ⟨c, rfl, _⟩ := h
    rfl
  obtain ⟨c, rfl, q⟩ := h
  refine ⟨_, (pss_cons (ps_if (pt_cmpR op_eq (pe_op op_mod (pv 0) pe_int) pe_int (nomark _)) (pss_one (ps_ret (pe_op op_sub (pe_op op_mod (pe_op op_fdivA (pv 0) pe_int) pe_int) pe_int))) pss_nil)
      (pss_one (ps_ret (pe_op op_sub (pe_op op_mod (pe_op op_fdivA (pv 0) pe_int) pe_int) pe_int)))), ?_⟩
  walk_at "ifs"
  all_goals exact q _ (by omega) (by omega)
def sp__law_square : Sp := fun vs H Q _ => ∃ a b : Int, vs = [.int a, .int b] ∧ -300 ≤ a ∧ a ≤ 300 ∧ -300 ≤ b ∧ b ≤ 300 ∧ ∀ r (x y : Int) H', Same H H' → N2 H' r x y → Bd 19 x → Bd 19 y → 0 ≤ GM.sg x y → Q r H'
theorem c_square {H : Hp} {Q : VK} {E : XK} {a b : Int} (a0 : -300 ≤ a) (a1 : a ≤ 300) (b0 : -300 ≤ b) (b1 : b ≤ 300) (q : ∀ r (x y : Int) H', Same H H' → N2 H' r x y → Bd 19 x → Bd 19 y → 0 ≤ GM.sg x y → Q r H') : sp__law_square [.int a, .int b] H Q E := ⟨a, b, rfl, a0, a1, b0, b1, q⟩
theorem ok__law_square {P : Program} {w : World} {K : PySem.W.Frag} {mg : Str → Option Value} {base : Heap} {f : Addr} {fd : FuncData} (F : Fun K "_law_square" "_law_square" s__law_square f fd) : FnOk P w K mg base CX0 1 f fd ["a", "b"] sp__law_square := by
  refine F.ok sc__law_square (fun vs H Q E h => ?_) (fun cdv A outer s H vs Q E hr h => ?_)
  · obtain ⟨a, b, rfl, _⟩ := h
    rfl
  obtain ⟨a, b, rfl, a0, a1, b0, b1, q⟩ := h
  refine ⟨_, (pss_one (ps_ret (pe_tup (pa_cons (pe_op op_add (pe_op op_mulA (pv 0) (pv 0)) (pe_op op_mulA (pv 1) (pv 1))) (pa_cons (pe_op op_add (pe_op op_mulA (pe_op op_mulA pe_int (pv 0)) (pv 1)) (pe_op op_mulA (pv 1) (pv 1))) pa_nil))))), ?_⟩
  walk_at "go"
  have bd := sq_bd a0 a1 b0 b1
  exact q _ (a * a + b * b) (2 * a * b + b * b) _ (by walk_at "sm") (by walk_at "hp") bd.1 bd.2 (sq_nn a b)
end GP
local macro_rules | `(tactic| walk_at "callee") => `(tactic| ((with_reducible refine GP.c_part ?_); intro _ _ _))
local macro_rules | `(tactic| walk_at "callee") => `(tactic| ((with_reducible refine' GP.c_square ?a0 ?a1 ?b0 ?b1 ?_); (case a0 => omega); (case a1 => omega); (case b0 => omega); (case b1 => omega); intro _ _ _ _ _ _ _ _ _))
namespace GP
open PySem L2
theorem ok_law {P : Program} {w : World} {K : PySem.W.Frag} {mg : Str → Option Value} {base : Heap} {f : Addr} {fd : FuncData} (F : Fun K "law" "law" s_law f fd) {C_NoNumber : Addr} {C_NoRow : Addr} {C_NoNote : Addr} (c__law_square : Cal P w K mg base CX0 1 "_law_square" ["a", "b"] sp__law_square) (c__law_part : Cal P w K mg base CX0 1 "_law_part" ["cell"] sp__law_part) (c_row_of : Cal P w K mg base (L2.CX P w) 2 "row_of" ["number"] (sp_row_of C_NoNumber)) (c_added : Cal P w K mg base (L2.CX P w) 5 "added" ["one", "other"] (sp_added C_NoRow)) (c_multiplied : Cal P w K mg base (L2.CX P w) 4 "multiplied" ["one", "other"] (sp_multiplied C_NoRow)) (c_read : Cal P w K mg base (L2.CX P w) 2 "read" ["text"] (sp_read C_NoNote)) (c__law_cell_at : Cal P w K mg base CX0 1 "_law_cell_at" ["script", "k"] (sp__law_cell_at K)) (c_value : Cal P w K mg base (L2.CX P w) 4 "value" ["row"] (sp_value C_NoRow)) (c_order : Cal P w K mg base (L2.CX P w) 3 "order" ["one", "other"] (sp_order C_NoRow)) (c_sign : Cal P w K mg base CX0 1 "sign" ["number"] sp_sign) (c_summed : Cal P w K mg base CX0 1 "summed" ["one", "other"] sp_summed) (c_times : Cal P w K mg base CX0 1 "times" ["one", "other"] sp_times) (c_shown : Cal P w K mg base (L2.CX P w) 3 "shown" ["row"] (sp_shown C_NoRow)) (c_less : Cal P w K mg base CX0 1 "less" ["one", "other"] sp_less) : FnOk P w K mg base CX0 6 f fd ["script"] (sp_law K) := by
  refine F.ok sc_law (fun vs H Q E h => ?_) (fun cdv A outer s H vs Q E hr h => ?_)
  · obtain ⟨a, ns, rfl, _⟩ := h
    rfl
  obtain ⟨a0, ns, rfl, hS, h63, q⟩ := h
  refine ⟨_, (pss_cons (ps_set (i := 1) sc_law.nd rfl (Or.inl rfl) (pe_callC c__law_square (hr.mono (by decide)) pass0 (pa_cons (pe_callC c__law_part (hr.mono (by decide)) pass0 (pa_cons (pe_callC c__law_cell_at (hr.mono (by decide)) pass0 (pa_cons (pv 0) (pa_cons pe_int pa_nil))) pa_nil)) (pa_cons (pe_callC c__law_part (hr.mono (by decide)) pass0 (pa_cons (pe_callC c__law_cell_at (hr.mono (by decide)) pass0 (pa_cons (pv 0) (pa_cons pe_int pa_nil))) pa_nil)) pa_nil))))
      (pss_cons (ps_set (i := 2) sc_law.nd rfl (Or.inl rfl) (pe_callC c__law_square (hr.mono (by decide)) pass0 (pa_cons (pe_callC c__law_part (hr.mono (by decide)) pass0 (pa_cons (pe_callC c__law_cell_at (hr.mono (by decide)) pass0 (pa_cons (pv 0) (pa_cons pe_int pa_nil))) pa_nil)) (pa_cons (pe_callC c__law_part (hr.mono (by decide)) pass0 (pa_cons (pe_callC c__law_cell_at (hr.mono (by decide)) pass0 (pa_cons (pv 0) (pa_cons pe_int pa_nil))) pa_nil)) pa_nil))))
      (pss_cons (ps_set (i := 3) sc_law.nd rfl (Or.inl rfl) (pe_lst (pa_cons (pe_callC c_row_of (hr.mono (by decide)) passL (pa_cons (pv 1) pa_nil)) (pa_cons (pe_callC c_row_of (hr.mono (by decide)) passL (pa_cons (pv 2) pa_nil)) pa_nil))))
      (pss_cons (ps_if (PW.pt (pw_or (pt_cmpR (op_neD hr.units) (pe_callC c_value (hr.mono (by decide)) passL (pa_cons (pe_ix ix_seq (pv 3) pe_int (fun _ _ => rfl)) pa_nil)) (pv 1) (nomark _)) (pw_or (pt_cmpR (op_neD hr.units) (pe_callC c_value (hr.mono (by decide)) passL (pa_cons (pe_ix ix_seq (pv 3) pe_int (fun _ _ => rfl)) pa_nil)) (pv 2) (nomark _)) (pw_or1 (pt_cmpR op_ne (pe_callC c_order (hr.mono (by decide)) passL (pa_cons (pe_ix ix_seq (pv 3) pe_int (fun _ _ => rfl)) (pa_cons (pe_ix ix_seq (pv 3) pe_int (fun _ _ => rfl)) pa_nil))) (pe_callC c_sign (hr.mono (by decide)) pass0 (pa_cons (pe_callC c_less (hr.mono (by decide)) pass0 (pa_cons (pv 1) (pa_cons (pv 2) pa_nil))) pa_nil)) (nomark _)))))) (pss_one (ps_ret pe_bl)) pss_nil)
      (pss_cons (ps_if (pt_cmpR (op_neD hr.units) (pe_callC c_added hr passL (pa_cons (pe_ix ix_seq (pv 3) pe_int (fun _ _ => rfl)) (pa_cons (pe_ix ix_seq (pv 3) pe_int (fun _ _ => rfl)) pa_nil))) (pe_callC c_row_of (hr.mono (by decide)) passL (pa_cons (pe_callC c_summed (hr.mono (by decide)) pass0 (pa_cons (pv 1) (pa_cons (pv 2) pa_nil))) pa_nil)) (nomark _)) (pss_one (ps_ret pe_bl)) pss_nil)
      (pss_cons (ps_if (pt_cmpR (op_neD hr.units) (pe_callC c_multiplied (hr.mono (by decide)) passL (pa_cons (pe_ix ix_seq (pv 3) pe_int (fun _ _ => rfl)) (pa_cons (pe_ix ix_seq (pv 3) pe_int (fun _ _ => rfl)) pa_nil))) (pe_callC c_row_of (hr.mono (by decide)) passL (pa_cons (pe_callC c_times (hr.mono (by decide)) pass0 (pa_cons (pv 1) (pa_cons (pv 2) pa_nil))) pa_nil)) (nomark _)) (pss_one (ps_ret pe_bl)) pss_nil)
      (pss_one (ps_ret (pe_cmpR (op_eqD hr.units) (pe_callC c_read (hr.mono (by decide)) passL (pa_cons (pe_callC c_shown (hr.mono (by decide)) passL (pa_cons (pe_ix ix_seq (pv 3) pe_int (fun _ _ => rfl)) pa_nil)) pa_nil)) (pe_ix ix_seq (pv 3) pe_int (fun _ _ => rfl)) (nomark _)))))))))), ?_⟩
  walk_at "go"
  rename_i v1 A B H1 s1 t1 bA bB nA w3 l3 u3 w4 l4 u4 v2 C D H2 s2 t2 bC bD nC
  have z1 := sz_of bA bB (by decide)
  have z2 := sz_of bC bD (by decide)
  walk_at "go"
  rename_i p1 xs H3 f3 s3 k3 g3 e3 b3 m3 p2 ys H4 f4 s4 k4 g4 e4 b4 m4 v5 H5 s5 t5
  have r1 : GM.isRow xs = true := GM.isRow_gap.mpr ⟨g3, fun k hk => by have := b3 k hk; omega⟩
  have r2 : GM.isRow ys = true := GM.isRow_gap.mpr ⟨g4, fun k hk => by have := b4 k hk; omega⟩
  have ex : [(GM.sumP xs).1, (GM.sumP xs).2] = [A, B] := by rw [e3]
  have ey : [(GM.sumP ys).1, (GM.sumP ys).2] = [C, D] := by rw [e4]
  have eo : ordI xs ys = GM.sg (A - C) (B - D) := by rw [ord_sg g3 g4, e3, e4]
  have ns : 0 ≤ GM.sg (A + C) (B + D) := by
    have h := sum_sg (xs ++ ys)
    rw [GM.sumP_app, e3, e4] at h
    exact h
  have np : 0 ≤ GM.sg (A * C + B * D) (A * D + B * C + B * D) := by
    have e := GM.sg_mul (A, B) (C, D)
    have e' : GM.sg (A * C + B * D) (A * D + B * C + B * D) = _ := e
    rw [e']
    exact Int.mul_nonneg nA nC
  have zs := sz_of (n := 20) (a := A + C) (b := B + D) (by walk_at "bd") (by walk_at "bd") (by decide)
  have zp := sz_of (n := 42) (a := A * C + B * D) (b := A * D + B * C + B * D) (by walk_at "bd") (by walk_at "bd") (by decide)
  have ea : ∀ us ws : List Int, GM.gap us = true → GM.gap ws = true → GM.sumP us = GM.add (GM.sumP xs) (GM.sumP ys) → GM.sumP ws = (A + C, B + D) → us = ws := fun us ws h1 h2 h3 h4 => GM.row_one h1 h2 (by rw [h3, h4, e3, e4]; rfl)
  have em : ∀ us ws : List Int, GM.gap us = true → GM.gap ws = true → GM.sumP us = GM.mul (GM.sumP xs) (GM.sumP ys) → GM.sumP ws = (A * C + B * D, A * D + B * C + B * D) → us = ws := fun us ws h1 h2 h3 h4 => GM.row_one h1 h2 (by rw [h3, h4, e3, e4]; rfl)
  walk_at "go"
  refine iIfNT (ea _ _ (by assumption) (by assumption) (by assumption) (by assumption)) ?_
  walk_at "go"
  refine iIfNT (em _ _ (by assumption) (by assumption) (by assumption) (by assumption)) ?_
  walk_at "go"
  exact iRtB (decide_eq_true rfl).symm (q _)
end GP

namespace GP
open PySem L2
theorem all_mk {P : Program} {w : World} {K : PySem.W.Frag} {h : Heap} {mg : Str → Option Value} {fa : Addr} (X : K.In h) (G : h.Ns mainGlobals mg) (hfa : mg "law" = some (.ref fa))
    {oc1 kV1 dc1 pm1 cd1 ct1 : Value} {od1 an1 : Option Addr} {sl1 : Array (Option Value)} {f1 : Addr}
    {oc2 kV2 dc2 pm2 cd2 ct2 : Value} {od2 an2 : Option Addr} {sl2 : Array (Option Value)} {f2 : Addr}
    {oc3 kV3 dc3 pm3 cd3 ct3 : Value} {od3 an3 : Option Addr} {sl3 : Array (Option Value)} {f3 : Addr}
    {oc4 kV4 dc4 pm4 cd4 ct4 : Value} {od4 an4 : Option Addr} {sl4 : Array (Option Value)} {f4 : Addr}
    {oc5 kV5 dc5 pm5 cd5 ct5 : Value} {od5 an5 : Option Addr} {sl5 : Array (Option Value)} {f5 : Addr}
    {oc6 kV6 dc6 pm6 cd6 ct6 : Value} {od6 an6 : Option Addr} {sl6 : Array (Option Value)} {f6 : Addr}
    {oc7 kV7 dc7 pm7 cd7 ct7 : Value} {od7 an7 : Option Addr} {sl7 : Array (Option Value)} {f7 : Addr}
    {oc8 kV8 dc8 pm8 cd8 ct8 : Value} {od8 an8 : Option Addr} {sl8 : Array (Option Value)} {f8 : Addr}
    {oc9 kV9 dc9 pm9 cd9 ct9 : Value} {od9 an9 : Option Addr} {sl9 : Array (Option Value)} {f9 : Addr}
    {oc10 kV10 dc10 pm10 cd10 ct10 : Value} {od10 an10 : Option Addr} {sl10 : Array (Option Value)} {f10 : Addr}
    {oc11 kV11 dc11 pm11 cd11 ct11 : Value} {od11 an11 : Option Addr} {sl11 : Array (Option Value)} {f11 : Addr}
    {oc12 kV12 dc12 pm12 cd12 ct12 : Value} {od12 an12 : Option Addr} {sl12 : Array (Option Value)} {f12 : Addr}
    {oc13 kV13 dc13 pm13 cd13 ct13 : Value} {od13 an13 : Option Addr} {sl13 : Array (Option Value)} {f13 : Addr}
    {oc14 kV14 dc14 pm14 cd14 ct14 : Value} {od14 an14 : Option Addr} {sl14 : Array (Option Value)} {f14 : Addr}
    {oc15 kV15 dc15 pm15 cd15 ct15 : Value} {od15 an15 : Option Addr} {sl15 : Array (Option Value)} {f15 : Addr}
    {oc16 kV16 dc16 pm16 cd16 ct16 : Value} {od16 an16 : Option Addr} {sl16 : Array (Option Value)} {f16 : Addr}
    {oc17 kV17 dc17 pm17 cd17 ct17 : Value} {od17 an17 : Option Addr} {sl17 : Array (Option Value)} {f17 : Addr}
    {oc18 kV18 dc18 pm18 cd18 ct18 : Value} {od18 an18 : Option Addr} {sl18 : Array (Option Value)} {f18 : Addr}
    {oc19 kV19 dc19 pm19 cd19 ct19 : Value} {od19 an19 : Option Addr} {sl19 : Array (Option Value)} {f19 : Addr}
    {oc20 kV20 dc20 pm20 cd20 ct20 : Value} {od20 an20 : Option Addr} {sl20 : Array (Option Value)} {f20 : Addr}
    {oc21 kV21 dc21 pm21 cd21 ct21 : Value} {od21 an21 : Option Addr} {sl21 : Array (Option Value)} {f21 : Addr}
    {oc22 kV22 dc22 pm22 cd22 ct22 : Value} {od22 an22 : Option Addr} {sl22 : Array (Option Value)} {f22 : Addr}
    {oc23 kV23 dc23 pm23 cd23 ct23 : Value} {od23 an23 : Option Addr} {sl23 : Array (Option Value)} {f23 : Addr}
    {oc24 kV24 dc24 pm24 cd24 ct24 : Value} {od24 an24 : Option Addr} {sl24 : Array (Option Value)} {f24 : Addr}
    {tk_FAR : Tok}
    {C_GoldError : Addr}
    {C_NoNumber : Addr}
    {C_NoRow : Addr}
    {C_NoNote : Addr}
    (a1 : PySem.W.nsIn K mainGlobals "summed" = some (some (.ref f1)))
    (l1 : K.lookup f1 = some ⟨oc1, od1, .func (PySem.W.fnOf "summed" "summed" (defArgs s_summed) (defBody s_summed) (defScope s_summed) .none kV1 dc1 pm1 an1 cd1 ct1), sl1⟩)
    (c1 : PySem.W.codeIn K cd1 "summed" = true)
    (k1 : PySem.W.keepIn K (.ref f1) = true)
    (a2 : PySem.W.nsIn K mainGlobals "less" = some (some (.ref f2)))
    (l2 : K.lookup f2 = some ⟨oc2, od2, .func (PySem.W.fnOf "less" "less" (defArgs s_less) (defBody s_less) (defScope s_less) .none kV2 dc2 pm2 an2 cd2 ct2), sl2⟩)
    (c2 : PySem.W.codeIn K cd2 "less" = true)
    (k2 : PySem.W.keepIn K (.ref f2) = true)
    (a3 : PySem.W.nsIn K mainGlobals "times" = some (some (.ref f3)))
    (l3 : K.lookup f3 = some ⟨oc3, od3, .func (PySem.W.fnOf "times" "times" (defArgs s_times) (defBody s_times) (defScope s_times) .none kV3 dc3 pm3 an3 cd3 ct3), sl3⟩)
    (c3 : PySem.W.codeIn K cd3 "times" = true)
    (k3 : PySem.W.keepIn K (.ref f3) = true)
    (a4 : PySem.W.nsIn K mainGlobals "sign" = some (some (.ref f4)))
    (l4 : K.lookup f4 = some ⟨oc4, od4, .func (PySem.W.fnOf "sign" "sign" (defArgs s_sign) (defBody s_sign) (defScope s_sign) .none kV4 dc4 pm4 an4 cd4 ct4), sl4⟩)
    (c4 : PySem.W.codeIn K cd4 "sign" = true)
    (k4 : PySem.W.keepIn K (.ref f4) = true)
    (a5 : PySem.W.nsIn K mainGlobals "raised" = some (some (.ref f5)))
    (l5 : K.lookup f5 = some ⟨oc5, od5, .func (PySem.W.fnOf "raised" "raised" (defArgs s_raised) (defBody s_raised) (defScope s_raised) .none kV5 dc5 pm5 an5 cd5 ct5), sl5⟩)
    (c5 : PySem.W.codeIn K cd5 "raised" = true)
    (k5 : PySem.W.keepIn K (.ref f5) = true)
    (a6 : PySem.W.nsIn K mainGlobals "lowered" = some (some (.ref f6)))
    (l6 : K.lookup f6 = some ⟨oc6, od6, .func (PySem.W.fnOf "lowered" "lowered" (defArgs s_lowered) (defBody s_lowered) (defScope s_lowered) .none kV6 dc6 pm6 an6 cd6 ct6), sl6⟩)
    (c6 : PySem.W.codeIn K cd6 "lowered" = true)
    (k6 : PySem.W.keepIn K (.ref f6) = true)
    (a7 : PySem.W.nsIn K mainGlobals "power" = some (some (.ref f7)))
    (l7 : K.lookup f7 = some ⟨oc7, od7, .func (PySem.W.fnOf "power" "power" (defArgs s_power) (defBody s_power) (defScope s_power) .none kV7 dc7 pm7 an7 cd7 ct7), sl7⟩)
    (c7 : PySem.W.codeIn K cd7 "power" = true)
    (k7 : PySem.W.keepIn K (.ref f7) = true)
    (a8 : PySem.W.nsIn K mainGlobals "is_row" = some (some (.ref f8)))
    (l8 : K.lookup f8 = some ⟨oc8, od8, .func (PySem.W.fnOf "is_row" "is_row" (defArgs s_is_row) (defBody s_is_row) (defScope s_is_row) .none kV8 dc8 pm8 an8 cd8 ct8), sl8⟩)
    (c8 : PySem.W.codeIn K cd8 "is_row" = true)
    (k8 : PySem.W.keepIn K (.ref f8) = true)
    (a9 : PySem.W.nsIn K mainGlobals "asked_row" = some (some (.ref f9)))
    (l9 : K.lookup f9 = some ⟨oc9, od9, .func (PySem.W.fnOf "asked_row" "asked_row" (defArgs s_asked_row) (defBody s_asked_row) (defScope s_asked_row) .none kV9 dc9 pm9 an9 cd9 ct9), sl9⟩)
    (c9 : PySem.W.codeIn K cd9 "asked_row" = true)
    (k9 : PySem.W.keepIn K (.ref f9) = true)
    (a10 : PySem.W.nsIn K mainGlobals "total" = some (some (.ref f10)))
    (l10 : K.lookup f10 = some ⟨oc10, od10, .func (PySem.W.fnOf "total" "total" (defArgs s_total) (defBody s_total) (defScope s_total) .none kV10 dc10 pm10 an10 cd10 ct10), sl10⟩)
    (c10 : PySem.W.codeIn K cd10 "total" = true)
    (k10 : PySem.W.keepIn K (.ref f10) = true)
    (a11 : PySem.W.nsIn K mainGlobals "value" = some (some (.ref f11)))
    (l11 : K.lookup f11 = some ⟨oc11, od11, .func (PySem.W.fnOf "value" "value" (defArgs s_value) (defBody s_value) (defScope s_value) .none kV11 dc11 pm11 an11 cd11 ct11), sl11⟩)
    (c11 : PySem.W.codeIn K cd11 "value" = true)
    (k11 : PySem.W.keepIn K (.ref f11) = true)
    (a12 : PySem.W.nsIn K mainGlobals "row_of" = some (some (.ref f12)))
    (l12 : K.lookup f12 = some ⟨oc12, od12, .func (PySem.W.fnOf "row_of" "row_of" (defArgs s_row_of) (defBody s_row_of) (defScope s_row_of) .none kV12 dc12 pm12 an12 cd12 ct12), sl12⟩)
    (c12 : PySem.W.codeIn K cd12 "row_of" = true)
    (k12 : PySem.W.keepIn K (.ref f12) = true)
    (a13 : PySem.W.nsIn K mainGlobals "cleaned" = some (some (.ref f13)))
    (l13 : K.lookup f13 = some ⟨oc13, od13, .func (PySem.W.fnOf "cleaned" "cleaned" (defArgs s_cleaned) (defBody s_cleaned) (defScope s_cleaned) .none kV13 dc13 pm13 an13 cd13 ct13), sl13⟩)
    (c13 : PySem.W.codeIn K cd13 "cleaned" = true)
    (k13 : PySem.W.keepIn K (.ref f13) = true)
    (a14 : PySem.W.nsIn K mainGlobals "added" = some (some (.ref f14)))
    (l14 : K.lookup f14 = some ⟨oc14, od14, .func (PySem.W.fnOf "added" "added" (defArgs s_added) (defBody s_added) (defScope s_added) .none kV14 dc14 pm14 an14 cd14 ct14), sl14⟩)
    (c14 : PySem.W.codeIn K cd14 "added" = true)
    (k14 : PySem.W.keepIn K (.ref f14) = true)
    (a15 : PySem.W.nsIn K mainGlobals "multiplied" = some (some (.ref f15)))
    (l15 : K.lookup f15 = some ⟨oc15, od15, .func (PySem.W.fnOf "multiplied" "multiplied" (defArgs s_multiplied) (defBody s_multiplied) (defScope s_multiplied) .none kV15 dc15 pm15 an15 cd15 ct15), sl15⟩)
    (c15 : PySem.W.codeIn K cd15 "multiplied" = true)
    (k15 : PySem.W.keepIn K (.ref f15) = true)
    (a16 : PySem.W.nsIn K mainGlobals "order" = some (some (.ref f16)))
    (l16 : K.lookup f16 = some ⟨oc16, od16, .func (PySem.W.fnOf "order" "order" (defArgs s_order) (defBody s_order) (defScope s_order) .none kV16 dc16 pm16 an16 cd16 ct16), sl16⟩)
    (c16 : PySem.W.codeIn K cd16 "order" = true)
    (k16 : PySem.W.keepIn K (.ref f16) = true)
    (a17 : PySem.W.nsIn K mainGlobals "figures" = some (some (.ref f17)))
    (l17 : K.lookup f17 = some ⟨oc17, od17, .func (PySem.W.fnOf "figures" "figures" (defArgs s_figures) (defBody s_figures) (defScope s_figures) .none kV17 dc17 pm17 an17 cd17 ct17), sl17⟩)
    (c17 : PySem.W.codeIn K cd17 "figures" = true)
    (k17 : PySem.W.keepIn K (.ref f17) = true)
    (a18 : PySem.W.nsIn K mainGlobals "shown" = some (some (.ref f18)))
    (l18 : K.lookup f18 = some ⟨oc18, od18, .func (PySem.W.fnOf "shown" "shown" (defArgs s_shown) (defBody s_shown) (defScope s_shown) .none kV18 dc18 pm18 an18 cd18 ct18), sl18⟩)
    (c18 : PySem.W.codeIn K cd18 "shown" = true)
    (k18 : PySem.W.keepIn K (.ref f18) = true)
    (a19 : PySem.W.nsIn K mainGlobals "asked_figures" = some (some (.ref f19)))
    (l19 : K.lookup f19 = some ⟨oc19, od19, .func (PySem.W.fnOf "asked_figures" "asked_figures" (defArgs s_asked_figures) (defBody s_asked_figures) (defScope s_asked_figures) .none kV19 dc19 pm19 an19 cd19 ct19), sl19⟩)
    (c19 : PySem.W.codeIn K cd19 "asked_figures" = true)
    (k19 : PySem.W.keepIn K (.ref f19) = true)
    (a20 : PySem.W.nsIn K mainGlobals "read" = some (some (.ref f20)))
    (l20 : K.lookup f20 = some ⟨oc20, od20, .func (PySem.W.fnOf "read" "read" (defArgs s_read) (defBody s_read) (defScope s_read) .none kV20 dc20 pm20 an20 cd20 ct20), sl20⟩)
    (c20 : PySem.W.codeIn K cd20 "read" = true)
    (k20 : PySem.W.keepIn K (.ref f20) = true)
    (a21 : PySem.W.nsIn K mainGlobals "_law_cell_at" = some (some (.ref f21)))
    (l21 : K.lookup f21 = some ⟨oc21, od21, .func (PySem.W.fnOf "_law_cell_at" "_law_cell_at" (defArgs s__law_cell_at) (defBody s__law_cell_at) (defScope s__law_cell_at) .none kV21 dc21 pm21 an21 cd21 ct21), sl21⟩)
    (c21 : PySem.W.codeIn K cd21 "_law_cell_at" = true)
    (k21 : PySem.W.keepIn K (.ref f21) = true)
    (a22 : PySem.W.nsIn K mainGlobals "_law_part" = some (some (.ref f22)))
    (l22 : K.lookup f22 = some ⟨oc22, od22, .func (PySem.W.fnOf "_law_part" "_law_part" (defArgs s__law_part) (defBody s__law_part) (defScope s__law_part) .none kV22 dc22 pm22 an22 cd22 ct22), sl22⟩)
    (c22 : PySem.W.codeIn K cd22 "_law_part" = true)
    (k22 : PySem.W.keepIn K (.ref f22) = true)
    (a23 : PySem.W.nsIn K mainGlobals "_law_square" = some (some (.ref f23)))
    (l23 : K.lookup f23 = some ⟨oc23, od23, .func (PySem.W.fnOf "_law_square" "_law_square" (defArgs s__law_square) (defBody s__law_square) (defScope s__law_square) .none kV23 dc23 pm23 an23 cd23 ct23), sl23⟩)
    (c23 : PySem.W.codeIn K cd23 "_law_square" = true)
    (k23 : PySem.W.keepIn K (.ref f23) = true)
    (a24 : PySem.W.nsIn K mainGlobals "law" = some (some (.ref f24)))
    (l24 : K.lookup f24 = some ⟨oc24, od24, .func (PySem.W.fnOf "law" "law" (defArgs s_law) (defBody s_law) (defScope s_law) .none kV24 dc24 pm24 an24 cd24 ct24), sl24⟩)
    (c24 : PySem.W.codeIn K cd24 "law" = true)
    (k24 : PySem.W.keepIn K (.ref f24) = true)
    (z_len : PySem.W.nsIn K mainGlobals "len" = some none)
    (z_range : PySem.W.nsIn K mainGlobals "range" = some none)
    (z_abs : PySem.W.nsIn K mainGlobals "abs" = some none)
    (z_int : PySem.W.nsIn K mainGlobals "int" = some none)
    (z_bool : PySem.W.nsIn K mainGlobals "bool" = some none)
    (z_isinstance : PySem.W.nsIn K mainGlobals "isinstance" = some none)
    (z_tuple : PySem.W.nsIn K mainGlobals "tuple" = some none)
    (z_list : PySem.W.nsIn K mainGlobals "list" = some none)
    (z_str : PySem.W.nsIn K mainGlobals "str" = some none)
    (z_max : PySem.W.nsIn K mainGlobals "max" = some none)
    (z_min : PySem.W.nsIn K mainGlobals "min" = some none)
    (z_ValueError : PySem.W.nsIn K mainGlobals "ValueError" = some none)
    (g_FAR : PySem.W.nsIn K mainGlobals "FAR" = some (some (.int 80 tk_FAR)))
    (y1_GoldError : PySem.W.nsIn K mainGlobals "GoldError" = some (some (.ref C_GoldError)))
    (y2_GoldError : PySem.W.excIn K C_GoldError [.type "ValueError", .type "Exception", .type "BaseException", .type "object"] "ValueError.__new__" = true)
    (y3_GoldError : PySem.W.keepIn K (.ref C_GoldError) = true)
    (y4_GoldError : PySem.W.subIn K (.ref C_GoldError) (.type "BaseException") = some true)
    (y5_GoldError : PySem.W.typeIn K (.ref C_GoldError) = some (.type "type"))
    (y1_NoNumber : PySem.W.nsIn K mainGlobals "NoNumber" = some (some (.ref C_NoNumber)))
    (y2_NoNumber : PySem.W.excIn K C_NoNumber [.type "ValueError", .type "Exception", .type "BaseException", .type "object"] "ValueError.__new__" = true)
    (y3_NoNumber : PySem.W.keepIn K (.ref C_NoNumber) = true)
    (y4_NoNumber : PySem.W.subIn K (.ref C_NoNumber) (.type "BaseException") = some true)
    (y5_NoNumber : PySem.W.typeIn K (.ref C_NoNumber) = some (.type "type"))
    (y1_NoRow : PySem.W.nsIn K mainGlobals "NoRow" = some (some (.ref C_NoRow)))
    (y2_NoRow : PySem.W.excIn K C_NoRow [.type "ValueError", .type "Exception", .type "BaseException", .type "object"] "ValueError.__new__" = true)
    (y3_NoRow : PySem.W.keepIn K (.ref C_NoRow) = true)
    (y4_NoRow : PySem.W.subIn K (.ref C_NoRow) (.type "BaseException") = some true)
    (y5_NoRow : PySem.W.typeIn K (.ref C_NoRow) = some (.type "type"))
    (y1_NoNote : PySem.W.nsIn K mainGlobals "NoNote" = some (some (.ref C_NoNote)))
    (y2_NoNote : PySem.W.excIn K C_NoNote [.type "ValueError", .type "Exception", .type "BaseException", .type "object"] "ValueError.__new__" = true)
    (y3_NoNote : PySem.W.keepIn K (.ref C_NoNote) = true)
    (y4_NoNote : PySem.W.subIn K (.ref C_NoNote) (.type "BaseException") = some true)
    (y5_NoNote : PySem.W.typeIn K (.ref C_NoNote) = some (.type "type"))
    : ∃ fd : FuncData, (∀ (s : Shared) (v : Value), BindsTo s fd ⟨[v], []⟩ [("script", v)]) ∧ ∀ base : Heap, K.In base → base.Ns mainGlobals mg → FnOk P w K mg base CX0 6 fa fd ["script"] (sp_law K) := by
  have e := hfa.symm.trans (PySem.W.mg_of X G a24)
  cases e
  have F_summed := fun_mk (st := s_summed) l1 c1 k1
  have F_less := fun_mk (st := s_less) l2 c2 k2
  have F_times := fun_mk (st := s_times) l3 c3 k3
  have F_sign := fun_mk (st := s_sign) l4 c4 k4
  have F_raised := fun_mk (st := s_raised) l5 c5 k5
  have F_lowered := fun_mk (st := s_lowered) l6 c6 k6
  have F_power := fun_mk (st := s_power) l7 c7 k7
  have F_is_row := fun_mk (st := s_is_row) l8 c8 k8
  have F_asked_row := fun_mk (st := s_asked_row) l9 c9 k9
  have F_total := fun_mk (st := s_total) l10 c10 k10
  have F_value := fun_mk (st := s_value) l11 c11 k11
  have F_row_of := fun_mk (st := s_row_of) l12 c12 k12
  have F_cleaned := fun_mk (st := s_cleaned) l13 c13 k13
  have F_added := fun_mk (st := s_added) l14 c14 k14
  have F_multiplied := fun_mk (st := s_multiplied) l15 c15 k15
  have F_order := fun_mk (st := s_order) l16 c16 k16
  have F_figures := fun_mk (st := s_figures) l17 c17 k17
  have F_shown := fun_mk (st := s_shown) l18 c18 k18
  have F_asked_figures := fun_mk (st := s_asked_figures) l19 c19 k19
  have F_read := fun_mk (st := s_read) l20 c20 k20
  have F__law_cell_at := fun_mk (st := s__law_cell_at) l21 c21 k21
  have F__law_part := fun_mk (st := s__law_part) l22 c22 k22
  have F__law_square := fun_mk (st := s__law_square) l23 c23 k23
  have F_law := fun_mk (st := s_law) l24 c24 k24
  have nb : NB mg := ⟨PySem.W.mg_none_of X G z_len, PySem.W.mg_none_of X G z_range, PySem.W.mg_none_of X G z_abs, PySem.W.mg_none_of X G z_int, PySem.W.mg_none_of X G z_bool, PySem.W.mg_none_of X G z_isinstance, PySem.W.mg_none_of X G z_tuple, PySem.W.mg_none_of X G z_list, PySem.W.mg_none_of X G z_str, PySem.W.mg_none_of X G z_max, PySem.W.mg_none_of X G z_min, PySem.W.mg_none_of X G z_ValueError⟩
  have m_FAR := PySem.W.mg_of X G g_FAR
  have e_GoldError : EX K mg "GoldError" C_GoldError := ⟨PySem.W.mg_of X G y1_GoldError, y2_GoldError, y3_GoldError, y4_GoldError, y5_GoldError⟩
  have e_NoNumber : EX K mg "NoNumber" C_NoNumber := ⟨PySem.W.mg_of X G y1_NoNumber, y2_NoNumber, y3_NoNumber, y4_NoNumber, y5_NoNumber⟩
  have e_NoRow : EX K mg "NoRow" C_NoRow := ⟨PySem.W.mg_of X G y1_NoRow, y2_NoRow, y3_NoRow, y4_NoRow, y5_NoRow⟩
  have e_NoNote : EX K mg "NoNote" C_NoNote := ⟨PySem.W.mg_of X G y1_NoNote, y2_NoNote, y3_NoNote, y4_NoNote, y5_NoNote⟩
  refine ⟨PySem.W.fnOf "law" "law" (defArgs s_law) (defBody s_law) (defScope s_law) .none kV24 dc24 pm24 an24 cd24 ct24, fun s v => .of_eq rfl, fun base _ _ => ?_⟩
  have c_summed : Cal P w K mg base CX0 1 "summed" ["one", "other"] sp_summed := ⟨_, _, PySem.W.mg_of X G a1, k1, F_summed.binds (ps := ["one", "other"]) (fun _ _ _ _ _ _ us hl => match us, hl with | [_, _], _ => rfl), ok_summed F_summed⟩
  have c_less : Cal P w K mg base CX0 1 "less" ["one", "other"] sp_less := ⟨_, _, PySem.W.mg_of X G a2, k2, F_less.binds (ps := ["one", "other"]) (fun _ _ _ _ _ _ us hl => match us, hl with | [_, _], _ => rfl), ok_less F_less⟩
  have c_times : Cal P w K mg base CX0 1 "times" ["one", "other"] sp_times := ⟨_, _, PySem.W.mg_of X G a3, k3, F_times.binds (ps := ["one", "other"]) (fun _ _ _ _ _ _ us hl => match us, hl with | [_, _], _ => rfl), ok_times F_times⟩
  have c_sign : Cal P w K mg base CX0 1 "sign" ["number"] sp_sign := ⟨_, _, PySem.W.mg_of X G a4, k4, F_sign.binds (ps := ["number"]) (fun _ _ _ _ _ _ us hl => match us, hl with | [_], _ => rfl), ok_sign F_sign⟩
  have c_raised : Cal P w K mg base CX0 1 "raised" ["number"] sp_raised := ⟨_, _, PySem.W.mg_of X G a5, k5, F_raised.binds (ps := ["number"]) (fun _ _ _ _ _ _ us hl => match us, hl with | [_], _ => rfl), ok_raised F_raised⟩
  have c_lowered : Cal P w K mg base CX0 1 "lowered" ["number"] sp_lowered := ⟨_, _, PySem.W.mg_of X G a6, k6, F_lowered.binds (ps := ["number"]) (fun _ _ _ _ _ _ us hl => match us, hl with | [_], _ => rfl), ok_lowered F_lowered⟩
  have c_power : Cal P w K mg base CX0 2 "power" ["k"] sp_power := ⟨_, _, PySem.W.mg_of X G a7, k7, F_power.binds (ps := ["k"]) (fun _ _ _ _ _ _ us hl => match us, hl with | [_], _ => rfl), ok_power F_power nb c_raised c_lowered⟩
  have c_is_row : Cal P w K mg base CX0 1 "is_row" ["places"] sp_is_row := ⟨_, _, PySem.W.mg_of X G a8, k8, F_is_row.binds (ps := ["places"]) (fun _ _ _ _ _ _ us hl => match us, hl with | [_], _ => rfl), ok_is_row F_is_row nb m_FAR⟩
  have c_asked_row : Cal P w K mg base (L2.CX P w) 2 "asked_row" ["places"] (sp_asked_row C_NoRow) := ⟨_, _, PySem.W.mg_of X G a9, k9, F_asked_row.binds (ps := ["places"]) (fun _ _ _ _ _ _ us hl => match us, hl with | [_], _ => rfl), ok_asked_row F_asked_row e_NoRow c_is_row⟩
  have c_total : Cal P w K mg base CX0 3 "total" ["places"] sp_total := ⟨_, _, PySem.W.mg_of X G a10, k10, F_total.binds (ps := ["places"]) (fun _ _ _ _ _ _ us hl => match us, hl with | [_], _ => rfl), ok_total F_total c_summed c_power⟩
  have c_value : Cal P w K mg base (L2.CX P w) 4 "value" ["row"] (sp_value C_NoRow) := ⟨_, _, PySem.W.mg_of X G a11, k11, F_value.binds (ps := ["row"]) (fun _ _ _ _ _ _ us hl => match us, hl with | [_], _ => rfl), ok_value F_value c_asked_row c_total⟩
  have c_row_of : Cal P w K mg base (L2.CX P w) 2 "row_of" ["number"] (sp_row_of C_NoNumber) := ⟨_, _, PySem.W.mg_of X G a12, k12, F_row_of.binds (ps := ["number"]) (fun _ _ _ _ _ _ us hl => match us, hl with | [_], _ => rfl), ok_row_of F_row_of e_NoNumber c_sign c_raised c_lowered c_less⟩
  have c_cleaned : Cal P w K mg base CX0 4 "cleaned" ["places"] sp_cleaned := ⟨_, _, PySem.W.mg_of X G a13, k13, F_cleaned.binds (ps := ["places"]) (fun _ _ _ _ _ _ us hl => match us, hl with | [_], _ => rfl), ok_cleaned F_cleaned c_row_of c_total⟩
  have c_added : Cal P w K mg base (L2.CX P w) 5 "added" ["one", "other"] (sp_added C_NoRow) := ⟨_, _, PySem.W.mg_of X G a14, k14, F_added.binds (ps := ["one", "other"]) (fun _ _ _ _ _ _ us hl => match us, hl with | [_, _], _ => rfl), ok_added F_added c_asked_row c_cleaned⟩
  have c_multiplied : Cal P w K mg base (L2.CX P w) 4 "multiplied" ["one", "other"] (sp_multiplied C_NoRow) := ⟨_, _, PySem.W.mg_of X G a15, k15, F_multiplied.binds (ps := ["one", "other"]) (fun _ _ _ _ _ _ us hl => match us, hl with | [_, _], _ => rfl), ok_multiplied F_multiplied c_asked_row c_row_of c_times c_total⟩
  have c_order : Cal P w K mg base (L2.CX P w) 3 "order" ["one", "other"] (sp_order C_NoRow) := ⟨_, _, PySem.W.mg_of X G a16, k16, F_order.binds (ps := ["one", "other"]) (fun _ _ _ _ _ _ us hl => match us, hl with | [_, _], _ => rfl), ok_order F_order c_asked_row⟩
  have c_figures : Cal P w K mg base CX0 1 "figures" ["row", "first", "last"] sp_figures := ⟨_, _, PySem.W.mg_of X G a17, k17, F_figures.binds (ps := ["row", "first", "last"]) (fun _ _ _ _ _ _ us hl => match us, hl with | [_, _, _], _ => rfl), ok_figures F_figures nb⟩
  have c_shown : Cal P w K mg base (L2.CX P w) 3 "shown" ["row"] (sp_shown C_NoRow) := ⟨_, _, PySem.W.mg_of X G a18, k18, F_shown.binds (ps := ["row"]) (fun _ _ _ _ _ _ us hl => match us, hl with | [_], _ => rfl), ok_shown F_shown nb c_asked_row c_figures⟩
  have c_asked_figures : Cal P w K mg base (L2.CX P w) 1 "asked_figures" ["text"] (sp_asked_figures C_NoNote) := ⟨_, _, PySem.W.mg_of X G a19, k19, F_asked_figures.binds (ps := ["text"]) (fun _ _ _ _ _ _ us hl => match us, hl with | [_], _ => rfl), ok_asked_figures F_asked_figures e_NoNote⟩
  have c_read : Cal P w K mg base (L2.CX P w) 2 "read" ["text"] (sp_read C_NoNote) := ⟨_, _, PySem.W.mg_of X G a20, k20, F_read.binds (ps := ["text"]) (fun _ _ _ _ _ _ us hl => match us, hl with | [_], _ => rfl), ok_read F_read nb e_NoNote c_asked_figures c_is_row⟩
  have c__law_cell_at : Cal P w K mg base CX0 1 "_law_cell_at" ["script", "k"] (sp__law_cell_at K) := ⟨_, _, PySem.W.mg_of X G a21, k21, F__law_cell_at.binds (ps := ["script", "k"]) (fun _ _ _ _ _ _ us hl => match us, hl with | [_, _], _ => rfl), ok__law_cell_at F__law_cell_at nb⟩
  have c__law_part : Cal P w K mg base CX0 1 "_law_part" ["cell"] sp__law_part := ⟨_, _, PySem.W.mg_of X G a22, k22, F__law_part.binds (ps := ["cell"]) (fun _ _ _ _ _ _ us hl => match us, hl with | [_], _ => rfl), ok__law_part F__law_part⟩
  have c__law_square : Cal P w K mg base CX0 1 "_law_square" ["a", "b"] sp__law_square := ⟨_, _, PySem.W.mg_of X G a23, k23, F__law_square.binds (ps := ["a", "b"]) (fun _ _ _ _ _ _ us hl => match us, hl with | [_, _], _ => rfl), ok__law_square F__law_square⟩
  exact ok_law F_law c__law_square c__law_part c_row_of c_added c_multiplied c_read c__law_cell_at c_value c_order c_sign c_summed c_times c_shown c_less
end GP
open PySem PySem.W PyProof.Rows
set_option maxRecDepth 100000 in
set_option maxHeartbeats 0 in
theorem PySem.Challenge.cw_goldplaces_k15_whole_rows_of_the_product_holds : PySem.Challenge.rw_goldplaces_k15_whole_rows_of_the_product.Holds := by
  w_on; o_law; k_head; (case hw => w_witness2)
  k_fill
  refine L2.walk_of (l := PySem.Challenge.rw_goldplaces_k15_whole_rows_of_the_product) (n := 63) (k := 6) (x := "script") (CX := fun _ => L2.CX0) (sp := fun w => GP.sp_law _) rfl (by decide) rfl ⟨rfl, by decide, by decide⟩ (fun w h Y => PySem.W.kIn_of Y) ?F (fun _ _ a ns hl _ hS => ⟨a, ns, rfl, hS, hl, fun _ => rfl⟩) (fun _ _ _ _ _ h => h)
  case F =>
    intro w mg fa h KX G hmg
    refine' GP.all_mk KX G hmg ?a1 ?l1 ?c1 ?k1 ?a2 ?l2 ?c2 ?k2 ?a3 ?l3 ?c3 ?k3 ?a4 ?l4 ?c4 ?k4 ?a5 ?l5 ?c5 ?k5 ?a6 ?l6 ?c6 ?k6 ?a7 ?l7 ?c7 ?k7 ?a8 ?l8 ?c8 ?k8 ?a9 ?l9 ?c9 ?k9 ?a10 ?l10 ?c10 ?k10 ?a11 ?l11 ?c11 ?k11 ?a12 ?l12 ?c12 ?k12 ?a13 ?l13 ?c13 ?k13 ?a14 ?l14 ?c14 ?k14 ?a15 ?l15 ?c15 ?k15 ?a16 ?l16 ?c16 ?k16 ?a17 ?l17 ?c17 ?k17 ?a18 ?l18 ?c18 ?k18 ?a19 ?l19 ?c19 ?k19 ?a20 ?l20 ?c20 ?k20 ?a21 ?l21 ?c21 ?k21 ?a22 ?l22 ?c22 ?k22 ?a23 ?l23 ?c23 ?k23 ?a24 ?l24 ?c24 ?k24 ?z_len ?z_range ?z_abs ?z_int ?z_bool ?z_isinstance ?z_tuple ?z_list ?z_str ?z_max ?z_min ?z_ValueError ?g_FAR ?y1_GoldError ?y2_GoldError ?y3_GoldError ?y4_GoldError ?y5_GoldError ?y1_NoNumber ?y2_NoNumber ?y3_NoNumber ?y4_NoNumber ?y5_NoNumber ?y1_NoRow ?y2_NoRow ?y3_NoRow ?y4_NoRow ?y5_NoRow ?y1_NoNote ?y2_NoNote ?y3_NoNote ?y4_NoNote ?y5_NoNote
    (case a1 => k_is)
    (case l1 => k_is)
    (case c1 => k_is)
    (case k1 => k_is)
    (case a2 => k_is)
    (case l2 => k_is)
    (case c2 => k_is)
    (case k2 => k_is)
    (case a3 => k_is)
    (case l3 => k_is)
    (case c3 => k_is)
    (case k3 => k_is)
    (case a4 => k_is)
    (case l4 => k_is)
    (case c4 => k_is)
    (case k4 => k_is)
    (case a5 => k_is)
    (case l5 => k_is)
    (case c5 => k_is)
    (case k5 => k_is)
    (case a6 => k_is)
    (case l6 => k_is)
    (case c6 => k_is)
    (case k6 => k_is)
    (case a7 => k_is)
    (case l7 => k_is)
    (case c7 => k_is)
    (case k7 => k_is)
    (case a8 => k_is)
    (case l8 => k_is)
    (case c8 => k_is)
    (case k8 => k_is)
    (case a9 => k_is)
    (case l9 => k_is)
    (case c9 => k_is)
    (case k9 => k_is)
    (case a10 => k_is)
    (case l10 => k_is)
    (case c10 => k_is)
    (case k10 => k_is)
    (case a11 => k_is)
    (case l11 => k_is)
    (case c11 => k_is)
    (case k11 => k_is)
    (case a12 => k_is)
    (case l12 => k_is)
    (case c12 => k_is)
    (case k12 => k_is)
    (case a13 => k_is)
    (case l13 => k_is)
    (case c13 => k_is)
    (case k13 => k_is)
    (case a14 => k_is)
    (case l14 => k_is)
    (case c14 => k_is)
    (case k14 => k_is)
    (case a15 => k_is)
    (case l15 => k_is)
    (case c15 => k_is)
    (case k15 => k_is)
    (case a16 => k_is)
    (case l16 => k_is)
    (case c16 => k_is)
    (case k16 => k_is)
    (case a17 => k_is)
    (case l17 => k_is)
    (case c17 => k_is)
    (case k17 => k_is)
    (case a18 => k_is)
    (case l18 => k_is)
    (case c18 => k_is)
    (case k18 => k_is)
    (case a19 => k_is)
    (case l19 => k_is)
    (case c19 => k_is)
    (case k19 => k_is)
    (case a20 => k_is)
    (case l20 => k_is)
    (case c20 => k_is)
    (case k20 => k_is)
    (case a21 => k_is)
    (case l21 => k_is)
    (case c21 => k_is)
    (case k21 => k_is)
    (case a22 => k_is)
    (case l22 => k_is)
    (case c22 => k_is)
    (case k22 => k_is)
    (case a23 => k_is)
    (case l23 => k_is)
    (case c23 => k_is)
    (case k23 => k_is)
    (case a24 => k_is)
    (case l24 => k_is)
    (case c24 => k_is)
    (case k24 => k_is)
    (case z_len => k_is)
    (case z_range => k_is)
    (case z_abs => k_is)
    (case z_int => k_is)
    (case z_bool => k_is)
    (case z_isinstance => k_is)
    (case z_tuple => k_is)
    (case z_list => k_is)
    (case z_str => k_is)
    (case z_max => k_is)
    (case z_min => k_is)
    (case z_ValueError => k_is)
    (case g_FAR => k_is)
    (case y1_GoldError => k_is)
    (case y2_GoldError => k_exc)
    (case y3_GoldError => k_is)
    (case y4_GoldError => k_is)
    (case y5_GoldError => k_is)
    (case y1_NoNumber => k_is)
    (case y2_NoNumber => k_exc)
    (case y3_NoNumber => k_is)
    (case y4_NoNumber => k_is)
    (case y5_NoNumber => k_is)
    (case y1_NoRow => k_is)
    (case y2_NoRow => k_exc)
    (case y3_NoRow => k_is)
    (case y4_NoRow => k_is)
    (case y5_NoRow => k_is)
    (case y1_NoNote => k_is)
    (case y2_NoNote => k_exc)
    (case y3_NoNote => k_is)
    (case y4_NoNote => k_is)
    (case y5_NoNote => k_is)
#print axioms PySem.Challenge.cw_goldplaces_k15_whole_rows_of_the_product_holds
