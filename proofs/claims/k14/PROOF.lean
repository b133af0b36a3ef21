import PyProof.Rows.All
import Wide.All
import OpenK.AllK
import Wide.FinOn
import HandS.ForExc
import HandS.Comp
import HandS.Iter
import HandS.Text
import HandS.Wide
import HandS.IsInst
import HandS.ExcIs
import KE.RegKIsAll
import PySem.Challenge.RW_goldplaces_k14_whole_units
set_option Elab.async false
set_option linter.all false
set_option maxRecDepth 100000
set_option maxHeartbeats 0
namespace GP
open PySem L2

/-! ### what stands in the heap: tuples and lists by their values -/
def TU (H : Hp) (v : V) (xs : List V) : Prop := ∃ a, v = .ref a ∧ H a = some (.tup xs)
def LS (H : Hp) (v : V) (xs : List V) : Prop := ∃ a, v = .ref a ∧ H a = some (.lst xs)
abbrev N2 (H : Hp) (v : V) (a b : Int) : Prop := TU H v [.int a, .int b]
abbrev LI (H : Hp) (v : V) (ns : List Int) : Prop := LS H v (ns.map V.int)
theorem TU.same {H H' : Hp} {v : V} {xs : List V} (s : Same H H') (h : TU H v xs) : TU H' v xs := by
  obtain ⟨a, e, q⟩ := h
  exact ⟨a, e, s _ _ q⟩
theorem LS.same {H H' : Hp} {v : V} {xs : List V} (s : Same H H') (h : LS H v xs) : LS H' v xs := by
  obtain ⟨a, e, q⟩ := h
  exact ⟨a, e, s _ _ q⟩
/-- the list that a def is filling -/
def LK (H : Hp) (l : Addr) (ns : List Int) : Prop := H l = some (.lst (ns.map V.int))
theorem LK.same {H H' : Hp} {l : Addr} {ns : List Int} (s : Same H H') (h : LK H l ns) : LK H' l ns := s _ _ h
theorem LK.new {H : Hp} {l : Addr} {ns : List Int} : LK (upd H l (.lst (ns.map V.int))) l ns := upd_same
theorem LK.app {H0 H : Hp} {p l : Addr} {ns ms : List Int} {o : HO} (hp : LK H0 p ms) (hl : H0 l = none) (k : LK H l ns) : LK (upd H p o) l ns := by
  have e : l ≠ p := fun e => by
    subst e
    have z : H0 l = some (.lst (ms.map V.int)) := hp
    rw [hl] at z; cases z
  show upd H p o l = _
  rw [upd_ne e]
  exact k
theorem LK.ls {H : Hp} {l : Addr} {ns : List Int} (h : LK H l ns) : LI H (.ref l) ns := ⟨l, rfl, h⟩
theorem TU.app {H : Hp} {l : Addr} {ns : List Int} {o : HO} {v : V} {xs : List V} (h : LK H l ns) (t : TU H v xs) : TU (upd H l o) v xs := by
  obtain ⟨a, e, q⟩ := t
  exact ⟨a, e, by rw [upd_ne (ne_of q h (by intro z; cases z))]; exact q⟩
theorem Same.back {H H1 H' : Hp} (b : Same H1 H') (a : Same H H1) : Same H H' := a.trans b
theorem SqL_same {K : PySem.W.Frag} {H H' : Hp} {a : Addr} {xs : List V} (s : Same H H') (h : SqL K H a xs) : SqL K H' a xs := s.seq h
theorem same_new {H : Hp} {p : Addr} {o : HO} (h : H p = none) : Same H (upd H p o) := fun b x e => by
  rw [upd_ne (ne_of_none e h)]
  exact e
theorem line8 {n : Nat} (h : n ≤ 8) : n ≤ sizeLine := Nat.le_trans h (by decide)
theorem lineK {n : Nat} (h : n ≤ 100000) : n < sizeLine := Nat.lt_of_le_of_lt h (by decide)

/-! ### a def that may be called -/
structure Cal (P : Program) (w : World) (K : PySem.W.Frag) (mg : Str → Option Value) (base : Heap) (CX : CXT) (k : Nat) (x : Str) (ps : List Str) (sp : Sp) : Prop where
  ex : ∃ f fd, mg x = some (.ref f) ∧ PySem.W.keepIn K (.ref f) = true ∧ Binds K fd ps [] ∧ FnOk P w K mg base CX k f fd ps sp
theorem pe_callC {X : Cx} {CX : CXT} {k : Nat} {x : Str} {ps : List Str} {sp : Sp} {E : XK} {p pos : Pos} {e : Expr} {es : List Expr} {t : TA} (C : Cal X.prog X.w X.K X.mg X.base CX k x ps sp) (hr : Room k X.A) (hx : Passes CX X E) (ha : PA X (e :: es) t) (hg : Gl X x := by rfl)
    (hdb : (x == ("__debug__" : Str)) = false := by decide) (he : starEach (e :: es) X.env = (false, eval e X.env) :: starEach es X.env := by rfl) (hpl : (backTo pos (starEach es X.env)).any (·.1) = false := by rfl) :
    PE X (.Call (.Name x p) (e :: es) [] pos) (tCall sp [] E t) := by
  obtain ⟨f, fd, h1, h2, h3, h4⟩ := C.ex
  exact pe_call h4 hr hg h1 h2 h3 .nil hx ha hdb he hpl
/-- as a call in a try's body -/
theorem pe_callT {X : Cx} {k : Nat} {x : Str} {ps : List Str} {sp : Sp} {W : WX} {p pos : Pos} {e : Expr} {es : List Expr} {t : TA} (tk : Takes X W) (C : Cal X.prog X.w X.K X.mg X.base (L2.CX X.prog X.w) k x ps sp) (hr : Room k X.A) (ha : PA X (e :: es) t) (hg : Gl X x := by rfl)
    (hdb : (x == ("__debug__" : Str)) = false := by decide) (he : starEach (e :: es) X.env = (false, eval e X.env) :: starEach es X.env := by rfl) (hpl : (backTo pos (starEach es X.env)).any (·.1) = false := by rfl) :
    PE X (.Call (.Name x p) (e :: es) [] pos) (tCallS sp (WE W) t) := by
  obtain ⟨f, fd, h1, h2, h3, h4⟩ := C.ex
  exact pe_callS h4 hr hg h1 h2 h3 (fun σ => passAt tk σ) ha hdb he hpl
/-- the built-in names that the texts use: none of them is the module's own -/
structure NB (mg : Str → Option Value) : Prop where
  len : mg "len" = none
  range : mg "range" = none
  abs : mg "abs" = none
  int : mg "int" = none
  bool : mg "bool" = none
  isinstance : mg "isinstance" = none
  tuple : mg "tuple" = none
  list : mg "list" = none
  str : mg "str" = none
  max : mg "max" = none
  min : mg "min" = none
  ValueError : mg "ValueError" = none

/-- an own class of exceptions -/
structure EX (K : PySem.W.Frag) (mg : Str → Option Value) (x : Str) (C : Addr) : Prop where
  mgC : mg x = some (.ref C)
  exc : PySem.W.excIn K C [.type "ValueError", .type "Exception", .type "BaseException", .type "object"] "ValueError.__new__" = true
  keep : PySem.W.keepIn K (.ref C) = true
  sub : PySem.W.subIn K (.ref C) (.type "BaseException") = some true
  typ : PySem.W.typeIn K (.ref C) = some (.type "type")
section
variable {X : Cx}
theorem op_mulA : OpR X (binaryOp .Mult) (rI (fun i j => CMul i j ∨ CMulW i j) fun i j => .int (i * j)) := opI fun _ _ _ _ _ _ _ hc q => PyProof.Rows.mul_int q (hc.elim CMul.ok CMulW.ok)
theorem op_fdivA : OpR X (binaryOp .FloorDiv) (rI (fun i j => CDiv i j ∨ CDivW i j) fun i j => .int (i / j)) := opI fun i j _ _ _ _ _ hc q => by
  have h1 : (0 : Int) < j := hc.elim (fun h => h.1) (fun h => h.1)
  exact PyProof.Rows.floordiv_int (by omega) (by rw [Int.fdiv_eq_ediv_of_nonneg i (by omega)]; exact q) (.inl (hc.elim (fun h => PyProof.noPylong_small (by have := h.2; omega)) (fun h => PyProof.noPylong_of_log2 h.2)))
end

/-! the built-ins' readings by names -/
def rLen1 (K : PySem.W.Frag) : List V → Hp → VK → Prop := fun xs H Q => ∃ p ys, xs = [.ref p] ∧ (SqL K H p ys ∨ SqT K H p ys) ∧ Q (.int ys.length) H
def rLenS1 : List V → Hp → VK → Prop := fun xs H Q => ∃ z, xs = [.str z] ∧ z.length ≤ sizeLine ∧ Q (.int z.length) H
def rAbs1 : List V → Hp → VK → Prop := fun xs H Q => ∃ i, xs = [.int i] ∧ Q (.int (if i < 0 then -i else i)) H
def rInt1 : List V → Hp → VK → Prop := fun xs H Q => (∃ i, xs = [.int i] ∧ Q (.int i) H) ∨ ∃ k, xs = [.bl k] ∧ Q (.int (if k then 1 else 0)) H
def rStr1 : List V → Hp → VK → Prop := fun xs H Q => ∃ i, xs = [.int i] ∧ i.natAbs.log2 < 1920 ∧ Q (.str (toString i)) H
def rMax1 : List V → Hp → VK → Prop := fun xs H Q => ∃ i j, xs = [.int i, .int j] ∧ Q (.int (if j > i then j else i)) H
def rAddS : R2 := fun x y H Q => ∃ i j, x = .str i ∧ y = .str j ∧ i.length + j.length ≤ sizeLine ∧ Q (.str (i ++ j)) H
def rNotInS : R2 := fun x y H Q => ∃ i j, x = .str i ∧ y = .str j ∧ Q (.bl (!(!(Builtin.Str.occurrences j i 0 j.length 1).isEmpty))) H
def rIsN1 : R2 := fun x y H Q => y = .non ∧ Q (.bl (decide (x = .non))) H
def rListOf (K : PySem.W.Frag) : List V → Hp → VK → Prop := fun xs H Q => ∃ p ys, xs = [.ref p] ∧ (SqL K H p ys ∨ SqT K H p ys) ∧ ∀ l, H l = none → Q (.ref l) (upd H l (.lst ys))
section
variable {X : Cx}
theorem g_listOf : CallR X (.type "list") (rListOf X.K) := call_list_of
theorem g_len : CallR X (.builtin "len") (rLen1 X.K) := call_len_seq
theorem g_lenS : CallR X (.builtin "len") rLenS1 := call_len_str
theorem g_abs : CallR X (.builtin "abs") rAbs1 := call_abs
theorem g_int : CallR X (.type "int") rInt1 := call_int1
theorem g_str : CallR X (.type "str") rStr1 := call_str_int
theorem g_max2 (hc : X.calm = true) : CallR X (.builtin "max") rMax1 := call_max2 hc
theorem g_addS : OpR X (binaryOp .Add) rAddS := op_add_str
theorem g_notInS : OpR X (compareOp .NotIn) rNotInS := op_notin_str
theorem g_isN : OpR X (compareOp .Is) rIsN1 := op_isN
end

/-! ### readings, step by step -/
def MkT (xs : List V) (H : Hp) (Q : VK) : Prop := xs.length ≤ sizeLine ∧ ∀ p, H p = none → Q (.ref p) (upd H p (.tup xs))
def MkL (xs : List V) (H : Hp) (Q : VK) : Prop := xs.length ≤ sizeLine ∧ ∀ p, H p = none → Q (.ref p) (upd H p (.lst xs))
section
variable {K : PySem.W.Frag} {σ : St} {H : Hp} {Q : VK} {ta tb tc : TE} {D : Ends} {t u : TS} {x y v : V}
theorem iVar {i : Nat} (h : σ[i]? = some (some v)) (q : Q v H) : tVar i σ H Q := ⟨v, h, q⟩
theorem iC (q : Q v H) : tC v σ H Q := q
theorem iOp {r : R2} (q : ta σ H fun x H1 => tb σ H1 fun y H2 => r x y H2 Q) : tOp r ta tb σ H Q := q
theorem iUn {r : V → Hp → VK → Prop} (q : ta σ H fun x H1 => r x H1 Q) : tUn r ta σ H Q := q
theorem iI0 {g : Int → Int → V} {i j : Int} (q : Q (g i j) H) : rI0 g (.int i) (.int j) H Q := ⟨i, j, rfl, rfl, q⟩
theorem iI {C : Int → Int → Prop} {g : Int → Int → V} {i j : Int} (c : C i j) (q : Q (g i j) H) : rI C g (.int i) (.int j) H Q := ⟨i, j, rfl, rfl, c, q⟩
theorem iU {g : Int → V} {i : Int} (q : Q (g i) H) : rU g (.int i) H Q := ⟨i, rfl, q⟩
theorem decI {i j : Int} : decide (V.int i = V.int j) = decide (i = j) := by
  by_cases h : i = j
  · subst h; rw [decide_eq_true rfl, decide_eq_true rfl]
  · rw [decide_eq_false h, decide_eq_false (fun z => h (V.int.inj z))]
theorem decS {i j : Str} : decide (V.str i = V.str j) = decide (i = j) := by
  by_cases h : i = j
  · subst h; rw [decide_eq_true rfl, decide_eq_true rfl]
  · rw [decide_eq_false h, decide_eq_false (fun z => h (V.str.inj z))]
theorem decB {i j : Bool} : decide (V.bl i = V.bl j) = decide (i = j) := by cases i <;> cases j <;> rfl
theorem iEqI {i j : Int} (q : Q (.bl (decide (i = j))) H) : rEq (.int i) (.int j) H Q := ⟨rfl, by rw [decI]; exact q⟩
theorem iNeI {i j : Int} (q : Q (.bl (!decide (i = j))) H) : rNe (.int i) (.int j) H Q := ⟨rfl, by rw [decI]; exact q⟩
theorem iEqB {i j : Bool} (q : Q (.bl (decide (i = j))) H) : rEq (.bl i) (.bl j) H Q := ⟨rfl, by rw [decB]; exact q⟩
theorem iNeB {i j : Bool} (q : Q (.bl (!decide (i = j))) H) : rNe (.bl i) (.bl j) H Q := ⟨rfl, by rw [decB]; exact q⟩
theorem iEqS {i j : Str} (q : Q (.bl (decide (i = j))) H) : rEq (.str i) (.str j) H Q := ⟨rfl, by rw [decS]; exact q⟩
theorem iNeS {i j : Str} (q : Q (.bl (!decide (i = j))) H) : rNe (.str i) (.str j) H Q := ⟨rfl, by rw [decS]; exact q⟩
theorem iTest {Q : Bool → Hp → Prop} (q : ta σ H fun x H' => ∃ k, x = .bl k ∧ Q k H') : tTest ta σ H Q := q
theorem iTB {Q : Bool → Hp → Prop} (q : ta σ H fun x H' => ∃ k, x = .bl k ∧ Q k H') : tB ta σ H Q := q
theorem iBl {b : Bool} {P : Bool → Prop} (q : P b) : ∃ k, V.bl b = .bl k ∧ P k := ⟨b, rfl, q⟩
theorem iNot {t : L2.TT} {Q : Bool → Hp → Prop} (q : t σ H fun c H1 => Q (!c) H1) : tNot t σ H Q := q
theorem iAnd {t u : L2.TT} {Q : Bool → Hp → Prop} (q : t σ H fun c H1 => if c = true then u σ H1 Q else Q false H1) : tAnd t u σ H Q := q
theorem iOr {t u : L2.TT} {Q : Bool → Hp → Prop} (q : t σ H fun c H1 => if c = true then Q true H1 else u σ H1 Q) : tOr t u σ H Q := q
theorem iAndV (q : ta σ H fun x H1 => ∃ c, x = .bl c ∧ if c = true then tb σ H1 Q else Q (.bl false) H1) : tAndV ta tb σ H Q := q
theorem iOrV (q : ta σ H fun x H1 => ∃ c, x = .bl c ∧ if c = true then Q (.bl true) H1 else tb σ H1 Q) : tOrV ta tb σ H Q := q
theorem iNotV (q : ta σ H fun x H1 => ∃ c, x = .bl c ∧ Q (.bl (!c)) H1) : tNotV ta σ H Q := q
theorem iIf {p A B : Prop} [Decidable p] (h1 : p → A) (h2 : ¬ p → B) : if decide p = true then A else B := by
  by_cases h : p
  · rw [if_pos (decide_eq_true h)]; exact h1 h
  · rw [if_neg (by rw [decide_eq_false h]; exact Bool.false_ne_true)]; exact h2 h
theorem iIfN {p A B : Prop} [Decidable p] (h1 : ¬ p → A) (h2 : p → B) : if (!decide p) = true then A else B := by
  by_cases h : p
  · rw [decide_eq_true h]; exact iteF (h2 h)
  · rw [decide_eq_false h]; exact iteT (h1 h)
theorem iIfB {b : Bool} {A B : Prop} (h1 : b = true → A) (h2 : b = false → B) : if b = true then A else B := by
  cases b
  · exact iteF (h2 rfl)
  · exact iteT (h1 rfl)
theorem iIfNB {b : Bool} {A B : Prop} (h1 : b = false → A) (h2 : b = true → B) : if (!b) = true then A else B := by
  cases b
  · exact iteT (h1 rfl)
  · exact iteF (h2 rfl)
theorem iIfT {p A B : Prop} [Decidable p] (h : p) (q : A) : if decide p = true then A else B := by rw [decide_eq_true h]; exact iteT q
theorem iIfF {p A B : Prop} [Decidable p] (h : ¬ p) (q : B) : if decide p = true then A else B := by rw [decide_eq_false h]; exact iteF q
theorem iIfNT {p A B : Prop} [Decidable p] (h : p) (q : B) : if (!decide p) = true then A else B := by rw [decide_eq_true h]; exact iteF q
theorem iIfNF {p A B : Prop} [Decidable p] (h : ¬ p) (q : A) : if (!decide p) = true then A else B := by rw [decide_eq_false h]; exact iteT q
theorem iIfBT {b : Bool} {A B : Prop} (h : b = true) (q : A) : if b = true then A else B := by rw [h]; exact iteT q
theorem iIfBF {b : Bool} {A B : Prop} (h : b = false) (q : B) : if b = true then A else B := by rw [h]; exact iteF q
theorem iIfNBT {b : Bool} {A B : Prop} (h : b = true) (q : B) : if (!b) = true then A else B := by rw [h]; exact iteF q
theorem iIfNBF {b : Bool} {A B : Prop} (h : b = false) (q : A) : if (!b) = true then A else B := by rw [h]; exact iteT q
theorem iNT {A B : Prop} (q : B) : if (!true) = true then A else B := iteF q
theorem iNF {A B : Prop} (q : A) : if (!false) = true then A else B := iteT q
theorem iNNT {A B : Prop} (q : A) : if (!(!true)) = true then A else B := iteT q
theorem iNNF {A B : Prop} (q : B) : if (!(!false)) = true then A else B := iteF q
theorem iRtI {i j : Int} (e : i = j) (q : Q (.int i) H) : Q (.int j) H := by rw [← e]; exact q
theorem iRtB {i j : Bool} (e : i = j) (q : Q (.bl i) H) : Q (.bl j) H := by rw [← e]; exact q
theorem iSeq (q : t { D with nx := u D } σ H) : tSeq t u D σ H := q
theorem iAsg {i : Nat} (q : ta σ H fun x H1 => D.nx (σ.set i (some x)) H1) : tAsg ta (gName i) D σ H := q
theorem iDrop (q : ta σ H fun _ H1 => D.nx σ H1) : tDrop ta D σ H := q
theorem iRet (q : ta σ H D.rt) : tRet ta D σ H := q
theorem iRetN (q : D.rt .non H) : tRetN D σ H := q
theorem iIfS {c : L2.TT} (q : c σ H fun b H1 => if b = true then t D σ H1 else u D σ H1) : tIfS c t u D σ H := q
theorem iNext (q : D.nx σ H) : tNext D σ H := q
theorem iNil {Q : List V → Hp → Prop} (q : Q [] H) : tNil σ H Q := q
theorem iCons {tr : TA} {Q : List V → Hp → Prop} (q : ta σ H fun x H1 => tr σ H1 fun xs H2 => Q (x :: xs) H2) : tCons ta tr σ H Q := q
theorem iCall {sp : Sp} {E : XK} {t : TA} (q : t σ H fun vs H1 => sp vs H1 Q E) : tCall sp [] E t σ H Q := by
  have e : (fun (vs : List V) H1 => sp (vs ++ []) H1 Q E) = fun vs H1 => sp vs H1 Q E := by
    funext vs H1; rw [List.append_nil]
  unfold tCall
  rw [e]
  exact q
theorem iCallS {sp : Sp} {E : St → XK} {t : TA} (q : t σ H fun vs H1 => sp vs H1 Q (E σ)) : tCallS sp E t σ H Q := q
theorem iCB {r : List V → Hp → VK → Prop} {t : TA} (q : t σ H fun vs H1 => r vs H1 Q) : tCB r t σ H Q := q
theorem iTup {t : TA} (q : t σ H fun xs H1 => MkT xs H1 Q) : tTup t σ H Q := q
theorem iLst {t : TA} (q : t σ H fun xs H1 => MkL xs H1 Q) : tLst t σ H Q := q
theorem iMkT {xs : List V} (q : ∀ v H', Same H H' → TU H' v xs → Q v H') (hl : Nat.ble xs.length 8 = true) : MkT xs H Q :=
  ⟨line8 (Nat.le_of_ble_eq_true hl), fun p hp => q _ _ (same_new hp) ⟨p, rfl, upd_same⟩⟩
theorem iMkL0 (q : ∀ p, H p = none → Same H (upd H p (.lst [])) → (upd H p (.lst [])) p = some (.lst []) → Q (.ref p) (upd H p (.lst []))) : MkL [] H Q :=
  ⟨line8 (by decide), fun p hp => q p hp (same_new hp) upd_same⟩
def BMk (K : PySem.W.Frag) (T : String) (r : V → List V → Hp → VK → Prop) (t : TA) (σ : St) (x : V) (H1 : Hp) (Q : VK) : Prop := tyV K T x H1 ∧ t σ H1 fun xs H2 => r x xs H2 Q
theorem iBM {T : String} {r : V → List V → Hp → VK → Prop} {to : TE} {t : TA} (q : to σ H fun x H1 => BMk K T r t σ x H1 Q) : tBM K T r to t σ H Q := q
theorem iBMl {l : Addr} {ns : List Int} {r : V → List V → Hp → VK → Prop} {t : TA} (h : LK H l ns) (q : t σ H fun ys H2 => r (.ref l) ys H2 Q) : BMk K "list" r t σ (.ref l) H Q := ⟨.inl ⟨rfl, _, .inl (.inl h)⟩, q⟩
theorem iApp {l : Addr} {xs : List V} {y : V} (h : H l = some (.lst xs)) (hl : xs.length ≤ 100000) (q : Q .non (upd H l (.lst (xs ++ [y])))) : rAppend (.ref l) [y] H Q := ⟨l, xs, y, rfl, rfl, h, lineK hl, q⟩
theorem iAppI {l : Addr} {ns : List Int} {y : Int} (h : LK H l ns) (hl : ns.length ≤ 100000) (q : Q .non (upd H l (.lst ((ns ++ [y]).map V.int)))) : rAppend (.ref l) [.int y] H Q := iApp h (by rw [List.length_map]; exact hl) (by rw [List.map_append] at q; exact q)
theorem same_app {H0 : Hp} {l : Addr} {o : HO} (n : H0 l = none) (s : Same H0 H) : Same H0 (upd H l o) := fun b x e => by
  rw [upd_ne (ne_of_none e n)]
  exact s b x e
theorem iMkI1 {a : Int} (q : ∀ v H', Same H H' → LI H' v [a] → Q v H') : MkL [.int a] H Q := ⟨line8 (Nat.le_of_ble_eq_true rfl), fun p hp => q _ _ (same_new hp) ⟨p, rfl, upd_same⟩⟩
theorem iMkI2 {a b : Int} (q : ∀ v H', Same H H' → LI H' v [a, b] → Q v H') : MkL [.int a, .int b] H Q := ⟨line8 (Nat.le_of_ble_eq_true rfl), fun p hp => q _ _ (same_new hp) ⟨p, rfl, upd_same⟩⟩
theorem iMkL {a : V} {r : List V} (q : ∀ v H', Same H H' → LS H' v (a :: r) → Q v H') (hl : Nat.ble (a :: r).length 8 = true) : MkL (a :: r) H Q :=
  ⟨line8 (Nat.le_of_ble_eq_true hl), fun p hp => q _ _ (same_new hp) ⟨p, rfl, upd_same⟩⟩
theorem iIxT {xs : List V} {i : Int} (h : TU H v xs) (e : atI xs i = some y) (q : Q y H) : rIx K v (.int i) H Q := by
  obtain ⟨a, rfl, h⟩ := h
  exact .inr (.inl ⟨a, xs, i, y, rfl, rfl, SqT.of h, e, q⟩)
theorem iIxL {xs : List V} {i : Int} (h : LS H v xs) (e : atI xs i = some y) (q : Q y H) : rIx K v (.int i) H Q := by
  obtain ⟨a, rfl, h⟩ := h
  exact .inl ⟨a, xs, i, y, rfl, rfl, SqL.of h, e, q⟩
theorem atI_getD {ns : List Int} {i : Int} (h0 : 0 ≤ i) (h1 : i < ns.length) : atI (ns.map V.int) i = some (.int (ns.getD i.toNat 0)) := by
  have hk : i.toNat < ns.length := by omega
  have ek : ((i.toNat : Nat) : Int) = i := by omega
  have e : atI (ns.map V.int) ((i.toNat : Nat) : Int) = some (.int (ns.getD i.toNat 0)) := atI_nat (by
    rw [List.getElem?_map, List.getElem?_eq_getElem hk, List.getD_eq_getElem?_getD, List.getElem?_eq_getElem hk]
    rfl)
  rw [ek] at e
  exact e
theorem iIxI {ns : List Int} {i : Int} (h : LI H v ns) (h0 : 0 ≤ i) (h1 : i < ns.length) (q : Q (.int (ns.getD i.toNat 0)) H) : rIx K v (.int i) H Q := iIxL h (atI_getD h0 h1) q
theorem iIxN {ns : List Int} {i : Nat} (h : LI H v ns) (h1 : i < ns.length) (q : Q (.int (ns.getD i 0)) H) : rIx K v (.int (i : Nat)) H Q := iIxI h (by omega) (by omega) (by rw [Int.toNat_natCast]; exact q)
theorem iIxP {ns : List Int} {i : Nat} (h : LI H v ns) (h1 : 0 < i ∧ i - 1 < ns.length) (q : Q (.int (ns.getD (i - 1) 0)) H) : rIx K v (.int ((i : Nat) - 1)) H Q := iIxI h (by omega) (by omega) (by rw [show (((i : Nat) : Int) - 1).toNat = i - 1 by omega]; exact q)
theorem iIxE {ys : List Int} {y : Int} (h : LI H v (ys ++ [y])) (q : Q (.int y) H) : rIx K v (.int (-1)) H Q := iIxL h (by rw [List.map_append]; exact atI_last _ _) q
theorem iIxS {z : Str} {i : Int} {c : Nat} (hz : z.length ≤ sizeLine) (e : atI z.cps.toList i = some c) (q : Q (.str ⟨#[c]⟩) H) : rIx K (.str z) (.int i) H Q :=
  .inr (.inr ⟨z, i, c, rfl, rfl, hz, e, q⟩)
theorem iCatI {a b : V} {xs ys : List Int} (h1 : LI H a xs) (h2 : LI H b ys) (hl : xs.length + ys.length ≤ 100000) (q : ∀ v H', Same H H' → LI H' v (xs ++ ys) → Q v H') : rCat a b H Q := by
  obtain ⟨p, rfl, h1⟩ := h1
  obtain ⟨r, rfl, h2⟩ := h2
  exact ⟨p, r, _, _, rfl, rfl, h1, h2, by rw [List.length_map, List.length_map]; exact Nat.le_of_lt (lineK hl), fun d hd => q _ _ (same_new hd) ⟨d, rfl, by rw [upd_same, List.map_append]⟩⟩
/-! slices -/
def cutI (ns : List Int) (lo hi : Option Int) : List Int := (ns.drop (HT.sIx ns.length 0 lo)).take (HT.sIx ns.length ns.length hi - HT.sIx ns.length 0 lo)
theorem cutI_map (ns : List Int) (lo hi : Option Int) : cutV (ns.map V.int) lo hi = (cutI ns lo hi).map V.int := by
  unfold cutV cutI
  rw [List.length_map, List.map_take, List.map_drop]
theorem cutI_length (ns : List Int) (lo hi : Option Int) : (cutI ns lo hi).length ≤ ns.length := by
  unfold cutI
  rw [List.length_take, List.length_drop]
  omega
theorem len_cut {ns : List Int} {lo hi : Option Int} {N : Nat} (h : ns.length ≤ N) : (cutI ns lo hi).length ≤ N := Nat.le_trans (cutI_length _ _ _) h
theorem len_app {xs ys : List Int} {N : Nat} (h1 : xs.length ≤ N / 2) (h2 : ys.length ≤ N / 2) : (xs ++ ys).length ≤ N := by rw [List.length_append]; omega
theorem len_two {xs ys : List Int} (h1 : xs.length ≤ 50000) (h2 : ys.length ≤ 50000) : xs.length + ys.length ≤ 100000 := by omega
theorem cut_last (ns : List Int) (y : Int) : cutI (ns ++ [y]) none (some (-1)) = ns := by
  unfold cutI
  have e1 : HT.sIx (ns ++ [y]).length 0 none = 0 := rfl
  have e2 : HT.sIx (ns ++ [y]).length (ns ++ [y]).length (some (-1)) = ns.length := by
    unfold HT.sIx
    simp
    try omega
  rw [e1, e2, List.drop_zero, Nat.sub_zero]
  simp
theorem iSl {r : V → Option Int → Option Int → Hp → VK → Prop} {te : TE} {tl th : TO} (q : te σ H fun x H1 => tl σ H1 fun l H2 => th σ H2 fun u H3 => r x l u H3 Q) : tSl r te tl th σ H Q := q
theorem iNoPart {Q : Option Int → Hp → Prop} (q : Q none H) : tNoPart σ H Q := q
theorem iPart {Q : Option Int → Hp → Prop} (q : ta σ H fun x H1 => ∃ i, x = .int i ∧ Q (some i) H1) : tPart ta σ H Q := q
theorem iIntP {n : Int} {P : Int → Prop} (q : P n) : ∃ i, V.int n = .int i ∧ P i := ⟨n, rfl, q⟩
theorem iSlI {ns : List Int} {lo hi : Option Int} (h : LI H v ns) (q : ∀ r H', Same H H' → LI H' r (cutI ns lo hi) → Q r H') : rSlL K v lo hi H Q := by
  obtain ⟨a, rfl, h⟩ := h
  exact ⟨a, _, rfl, SqL.of h, fun p hp => q _ _ (same_new hp) ⟨p, rfl, by rw [upd_same, cutI_map]⟩⟩
theorem iListOf {xs : List V} (h : LS H v xs) (q : ∀ r H', Same H H' → LS H' r xs → Q r H') : rListOf K [v] H Q := by
  obtain ⟨a, rfl, h⟩ := h
  exact ⟨a, xs, rfl, .inl (SqL.of h), fun p hp => q _ _ (same_new hp) ⟨p, rfl, upd_same⟩⟩
theorem iListOfI {ns : List Int} (h : LI H v ns) (q : ∀ r H', Same H H' → LI H' r ns → Q r H') : rListOf K [v] H Q := iListOf h q
theorem iListOfN {ns : List Int} (h : LI H v ns) (q : ∀ l H', H l = none → Same H H' → LK H' l ns → Q (.ref l) H') : rListOf K [v] H Q := by
  obtain ⟨a, rfl, h⟩ := h
  exact ⟨a, _, rfl, .inl (SqL.of h), fun p hp => q _ _ hp (same_new hp) upd_same⟩
theorem iCat {a b : V} {xs ys : List V} (h1 : LS H a xs) (h2 : LS H b ys) (hl : xs.length + ys.length ≤ 100000) (q : ∀ v H', Same H H' → LS H' v (xs ++ ys) → Q v H') : rCat a b H Q := by
  obtain ⟨p, rfl, h1⟩ := h1
  obtain ⟨r, rfl, h2⟩ := h2
  exact ⟨p, r, xs, ys, rfl, rfl, h1, h2, Nat.le_of_lt (lineK hl), fun d hd => q _ _ (same_new hd) ⟨d, rfl, upd_same⟩⟩
theorem iLenL {xs : List V} (h : LS H v xs) (q : Q (.int xs.length) H) : rLen1 K [v] H Q := by
  obtain ⟨p, rfl, h⟩ := h
  exact ⟨p, xs, rfl, .inl (SqL.of h), q⟩
theorem iLenI {ns : List Int} (h : LI H v ns) (q : Q (.int ns.length) H) : rLen1 K [v] H Q := iLenL h (by rw [List.length_map]; exact q)
theorem iLenT {xs : List V} (h : TU H v xs) (q : Q (.int xs.length) H) : rLen1 K [v] H Q := by
  obtain ⟨p, rfl, h⟩ := h
  exact ⟨p, xs, rfl, .inr (SqT.of h), q⟩
theorem iLenS {z : Str} (h : z.length ≤ 100000) (q : Q (.int z.length) H) : rLenS1 [.str z] H Q := ⟨z, rfl, Nat.le_of_lt (lineK h), q⟩
/-! isinstance -/
theorem iIsi {c : V} {tt u : Value} {b : Bool} (k : ClsV c u) (ty : TyX K H x tt) (e : PySem.W.kitOne K tt u = some b) (q : Q (.bl b) H) : rIsi K [x, c] H Q := ⟨x, c, tt, u, b, rfl, k, ty, e, q⟩
theorem is_int_int {i : Int} (q : Q (.bl true) H) : rIsi K [.int i, .ty "int"] H Q := iIsi (.ty "int") (.base (.int i)) (kit_ty (b := "int") (by decide +kernel)) q
theorem is_int_bool {i : Int} (q : Q (.bl false) H) : rIsi K [.int i, .ty "bool"] H Q := iIsi (.ty "bool") (.base (.int i)) (kit_ty (b := "bool") (by decide +kernel)) q
theorem is_int_str {i : Int} (q : Q (.bl false) H) : rIsi K [.int i, .ty "str"] H Q := iIsi (.ty "str") (.base (.int i)) (kit_ty (b := "str") (by decide +kernel)) q
theorem is_int_tuple {i : Int} (q : Q (.bl false) H) : rIsi K [.int i, .ty "tuple"] H Q := iIsi (.ty "tuple") (.base (.int i)) (kit_ty (b := "tuple") (by decide +kernel)) q
theorem is_int_list {i : Int} (q : Q (.bl false) H) : rIsi K [.int i, .ty "list"] H Q := iIsi (.ty "list") (.base (.int i)) (kit_ty (b := "list") (by decide +kernel)) q
theorem is_bool_int {i : Bool} (q : Q (.bl true) H) : rIsi K [.bl i, .ty "int"] H Q := iIsi (.ty "int") (.base (.bl i)) (kit_ty (b := "int") (by decide +kernel)) q
theorem is_bool_bool {i : Bool} (q : Q (.bl true) H) : rIsi K [.bl i, .ty "bool"] H Q := iIsi (.ty "bool") (.base (.bl i)) (kit_ty (b := "bool") (by decide +kernel)) q
theorem is_bool_str {i : Bool} (q : Q (.bl false) H) : rIsi K [.bl i, .ty "str"] H Q := iIsi (.ty "str") (.base (.bl i)) (kit_ty (b := "str") (by decide +kernel)) q
theorem is_bool_tuple {i : Bool} (q : Q (.bl false) H) : rIsi K [.bl i, .ty "tuple"] H Q := iIsi (.ty "tuple") (.base (.bl i)) (kit_ty (b := "tuple") (by decide +kernel)) q
theorem is_bool_list {i : Bool} (q : Q (.bl false) H) : rIsi K [.bl i, .ty "list"] H Q := iIsi (.ty "list") (.base (.bl i)) (kit_ty (b := "list") (by decide +kernel)) q
theorem is_str_int {i : Str} (q : Q (.bl false) H) : rIsi K [.str i, .ty "int"] H Q := iIsi (.ty "int") (.base (.str i)) (kit_ty (b := "int") (by decide +kernel)) q
theorem is_str_bool {i : Str} (q : Q (.bl false) H) : rIsi K [.str i, .ty "bool"] H Q := iIsi (.ty "bool") (.base (.str i)) (kit_ty (b := "bool") (by decide +kernel)) q
theorem is_str_str {i : Str} (q : Q (.bl true) H) : rIsi K [.str i, .ty "str"] H Q := iIsi (.ty "str") (.base (.str i)) (kit_ty (b := "str") (by decide +kernel)) q
theorem is_str_tuple {i : Str} (q : Q (.bl false) H) : rIsi K [.str i, .ty "tuple"] H Q := iIsi (.ty "tuple") (.base (.str i)) (kit_ty (b := "tuple") (by decide +kernel)) q
theorem is_str_list {i : Str} (q : Q (.bl false) H) : rIsi K [.str i, .ty "list"] H Q := iIsi (.ty "list") (.base (.str i)) (kit_ty (b := "list") (by decide +kernel)) q
theorem is_NoneType_int  (q : Q (.bl false) H) : rIsi K [.non, .ty "int"] H Q := iIsi (.ty "int") (.base .non) (kit_ty (b := "int") (by decide +kernel)) q
theorem is_NoneType_bool  (q : Q (.bl false) H) : rIsi K [.non, .ty "bool"] H Q := iIsi (.ty "bool") (.base .non) (kit_ty (b := "bool") (by decide +kernel)) q
theorem is_NoneType_str  (q : Q (.bl false) H) : rIsi K [.non, .ty "str"] H Q := iIsi (.ty "str") (.base .non) (kit_ty (b := "str") (by decide +kernel)) q
theorem is_NoneType_tuple  (q : Q (.bl false) H) : rIsi K [.non, .ty "tuple"] H Q := iIsi (.ty "tuple") (.base .non) (kit_ty (b := "tuple") (by decide +kernel)) q
theorem is_NoneType_list  (q : Q (.bl false) H) : rIsi K [.non, .ty "list"] H Q := iIsi (.ty "list") (.base .non) (kit_ty (b := "list") (by decide +kernel)) q
theorem is_tuple_int {xs : List V} (h : TU H v xs) (q : Q (.bl false) H) : rIsi K [v, .ty "int"] H Q := by
  obtain ⟨a, rfl, h⟩ := h
  exact iIsi (.ty "int") (.base (.tup h)) (kit_ty (b := "int") (by decide +kernel)) q
theorem is_tuple_bool {xs : List V} (h : TU H v xs) (q : Q (.bl false) H) : rIsi K [v, .ty "bool"] H Q := by
  obtain ⟨a, rfl, h⟩ := h
  exact iIsi (.ty "bool") (.base (.tup h)) (kit_ty (b := "bool") (by decide +kernel)) q
theorem is_tuple_str {xs : List V} (h : TU H v xs) (q : Q (.bl false) H) : rIsi K [v, .ty "str"] H Q := by
  obtain ⟨a, rfl, h⟩ := h
  exact iIsi (.ty "str") (.base (.tup h)) (kit_ty (b := "str") (by decide +kernel)) q
theorem is_tuple_tuple {xs : List V} (h : TU H v xs) (q : Q (.bl true) H) : rIsi K [v, .ty "tuple"] H Q := by
  obtain ⟨a, rfl, h⟩ := h
  exact iIsi (.ty "tuple") (.base (.tup h)) (kit_ty (b := "tuple") (by decide +kernel)) q
theorem is_tuple_list {xs : List V} (h : TU H v xs) (q : Q (.bl false) H) : rIsi K [v, .ty "list"] H Q := by
  obtain ⟨a, rfl, h⟩ := h
  exact iIsi (.ty "list") (.base (.tup h)) (kit_ty (b := "list") (by decide +kernel)) q
theorem is_list_int {xs : List V} (h : LS H v xs) (q : Q (.bl false) H) : rIsi K [v, .ty "int"] H Q := by
  obtain ⟨a, rfl, h⟩ := h
  exact iIsi (.ty "int") (.base (.lst h)) (kit_ty (b := "int") (by decide +kernel)) q
theorem is_list_bool {xs : List V} (h : LS H v xs) (q : Q (.bl false) H) : rIsi K [v, .ty "bool"] H Q := by
  obtain ⟨a, rfl, h⟩ := h
  exact iIsi (.ty "bool") (.base (.lst h)) (kit_ty (b := "bool") (by decide +kernel)) q
theorem is_list_str {xs : List V} (h : LS H v xs) (q : Q (.bl false) H) : rIsi K [v, .ty "str"] H Q := by
  obtain ⟨a, rfl, h⟩ := h
  exact iIsi (.ty "str") (.base (.lst h)) (kit_ty (b := "str") (by decide +kernel)) q
theorem is_list_tuple {xs : List V} (h : LS H v xs) (q : Q (.bl false) H) : rIsi K [v, .ty "tuple"] H Q := by
  obtain ⟨a, rfl, h⟩ := h
  exact iIsi (.ty "tuple") (.base (.lst h)) (kit_ty (b := "tuple") (by decide +kernel)) q
theorem is_list_list {xs : List V} (h : LS H v xs) (q : Q (.bl true) H) : rIsi K [v, .ty "list"] H Q := by
  obtain ⟨a, rfl, h⟩ := h
  exact iIsi (.ty "list") (.base (.lst h)) (kit_ty (b := "list") (by decide +kernel)) q
theorem iLenQ {a : Addr} {xs : List V} (h : SqL K H a xs) (q : Q (.int xs.length) H) : rLen1 K [.ref a] H Q := ⟨a, xs, rfl, .inl h, q⟩
theorem iIxQ {a : Addr} {xs : List V} {i : Int} (h : SqL K H a xs) (e : atI xs i = some y) (q : Q y H) : rIx K (.ref a) (.int i) H Q := .inl ⟨a, xs, i, y, rfl, rfl, h, e, q⟩
theorem iAbs {i : Int} (q : Q (.int (if i < 0 then -i else i)) H) : rAbs1 [.int i] H Q := ⟨i, rfl, q⟩
theorem iIntB {k : Bool} (q : Q (.int (if k = true then 1 else 0)) H) : rInt1 [.bl k] H Q := .inr ⟨k, rfl, q⟩
theorem iStrI {i : Int} (h : i.natAbs.log2 < 1920) (q : Q (.str (toString i)) H) : rStr1 [.int i] H Q := ⟨i, rfl, h, q⟩
theorem iMax2 {i j : Int} (q : Q (.int (if j > i then j else i)) H) : rMax1 [.int i, .int j] H Q := ⟨i, j, rfl, q⟩
theorem iAddS {i j : Str} (h : i.length + j.length ≤ 100000) (q : Q (.str (i ++ j)) H) : rAddS (.str i) (.str j) H Q := ⟨i, j, rfl, rfl, Nat.le_of_lt (lineK h), q⟩
theorem iIsN (q : Q (.bl (decide (x = .non))) H) : rIsN1 x .non H Q := ⟨rfl, q⟩
theorem pw (a b : Nat) (i : Int) (j : Int) (r : Int) (c : CPow i j) (e : i ^ j.toNat = r) (q : Q (.int r) H) : rI CPow (fun i j => .int (i ^ j.toNat)) (.int i) (.int j) H Q := ⟨i, j, rfl, rfl, c, by show Q (.int (i ^ j.toNat)) H; rw [e]; exact q⟩
theorem iP6 (q : Q (.int 1000000) H) : rI CPow (fun i j => .int (i ^ j.toNat)) (.int 10) (.int 6) H Q := pw 0 0 10 6 _ ⟨by decide, by decide, by decide⟩ (by decide +kernel) q
theorem iP10 (q : Q (.int 10000000000) H) : rI CPow (fun i j => .int (i ^ j.toNat)) (.int 10) (.int 10) H Q := pw 0 0 10 10 _ ⟨by decide, by decide, by decide⟩ (by decide +kernel) q
theorem iP12 (q : Q (.int 1000000000000) H) : rI CPow (fun i j => .int (i ^ j.toNat)) (.int 10) (.int 12) H Q := pw 0 0 10 12 _ ⟨by decide, by decide, by decide⟩ (by decide +kernel) q
theorem iP14 (q : Q (.int 100000000000000) H) : rI CPow (fun i j => .int (i ^ j.toNat)) (.int 10) (.int 14) H Q := pw 0 0 10 14 _ ⟨by decide, by decide, by decide⟩ (by decide +kernel) q
theorem iP15 (q : Q (.int 1000000000000000) H) : rI CPow (fun i j => .int (i ^ j.toNat)) (.int 10) (.int 15) H Q := pw 0 0 10 15 _ ⟨by decide, by decide, by decide⟩ (by decide +kernel) q
theorem iP30 (q : Q (.int 1000000000000000000000000000000) H) : rI CPow (fun i j => .int (i ^ j.toNat)) (.int 10) (.int 30) H Q := pw 0 0 10 30 _ ⟨by decide, by decide, by decide⟩ (by decide +kernel) q
theorem iP45 (q : Q (.int 1000000000000000000000000000000000000000000000) H) : rI CPow (fun i j => .int (i ^ j.toNat)) (.int 10) (.int 45) H Q := pw 0 0 10 45 _ ⟨by decide, by decide, by decide⟩ (by decide +kernel) q
/-! == of data -/
theorem dpInts : ∀ ns : List Int, DpAll K H (ns.map V.int) (ns.map PyData.int)
  | [] => .nil
  | n :: ns => .cons (.int n) (dpInts ns)
theorem dpN {a b : Int} (h : N2 H v a b) : Dp K H v (.tuple ([a, b].map PyData.int)) := by
  obtain ⟨p, rfl, h⟩ := h
  exact .tup (SqT.of h) (dpInts [a, b])
theorem dpL {ns : List Int} (h : LI H v ns) : Dp K H v (.list (ns.map PyData.int)) := by
  obtain ⟨p, rfl, h⟩ := h
  exact .lst (SqL.of h) (dpInts ns)
theorem eqvInts : ∀ ns ms : List Int, PyData.eqvAll (ns.map PyData.int) (ms.map PyData.int) = decide (ns = ms)
  | [], [] => by simp [PyData.eqvAll]
  | [], _ :: _ => by simp [PyData.eqvAll]
  | _ :: _, [] => by simp [PyData.eqvAll]
  | n :: ns, m :: ms => by
    have h0 : PyData.eqvAll ((n :: ns).map PyData.int) ((m :: ms).map PyData.int) = (PyData.eqv (.int n) (.int m) && PyData.eqvAll (ns.map PyData.int) (ms.map PyData.int)) := by simp only [List.map_cons, PyData.eqvAll]
    have h1 : PyData.eqv (.int n) (.int m) = (n == m) := by simp only [PyData.eqv]
    rw [h0, eqvInts ns ms, h1]
    by_cases h1 : n = m
    · by_cases h2 : ns = ms
      · subst h1 h2; simp
      · have : ¬ (n :: ns = m :: ms) := fun z => h2 (List.cons.inj z).2
        simp [h1, h2]
    · have : ¬ (n :: ns = m :: ms) := fun z => h1 (List.cons.inj z).1
      simp [h1]
theorem clInts : ∀ ns : List Int, PyData.canLayAll0 (ns.map PyData.int) = true
  | [] => by simp [PyData.canLayAll0]
  | n :: ns => by
    have q := clInts ns
    simp only [List.map_cons, PyData.canLayAll0, PyData.canLay0, Bool.true_and]
    exact q
theorem dpInts0 : ∀ ns : List Int, PyData.depthAll (ns.map PyData.int) = 0
  | [] => by simp [PyData.depthAll]
  | n :: ns => by
    have q := dpInts0 ns
    simp only [List.map_cons, PyData.depthAll, PyData.depth, q]
    rfl
theorem shT (ns : List Int) : SeqAt.shaped (.tuple (ns.map PyData.int)) = true := by
  unfold SeqAt.shaped
  simp only [PyData.canLay0, PyData.depth, clInts ns, dpInts0 ns]
  rfl
theorem shL (ns : List Int) : SeqAt.shaped (.list (ns.map PyData.int)) = true := by
  unfold SeqAt.shaped
  simp only [PyData.canLay0, PyData.depth, clInts ns, dpInts0 ns]
  rfl
theorem eqvT (ns ms : List Int) : PyData.eqv (.tuple (ns.map PyData.int)) (.tuple (ms.map PyData.int)) = decide (ns = ms) := by
  have h : PyData.eqv (.tuple (ns.map PyData.int)) (.tuple (ms.map PyData.int)) = PyData.eqvAll (ns.map PyData.int) (ms.map PyData.int) := by simp only [PyData.eqv]
  rw [h, eqvInts]
theorem eqvL (ns ms : List Int) : PyData.eqv (.list (ns.map PyData.int)) (.list (ms.map PyData.int)) = decide (ns = ms) := by
  have h : PyData.eqv (.list (ns.map PyData.int)) (.list (ms.map PyData.int)) = PyData.eqvAll (ns.map PyData.int) (ms.map PyData.int) := by simp only [PyData.eqv]
  rw [h, eqvInts]
theorem iEqN {a b c d : Int} (h1 : N2 H x a b) (h2 : N2 H y c d) (q : Q (.bl (decide ([a, b] = [c, d]))) H) : rEqD K x y H Q :=
  ⟨_, _, dpN h1, dpN h2, shT _, shT _, by rw [eqvT]; exact q⟩
theorem iNeN {a b c d : Int} (h1 : N2 H x a b) (h2 : N2 H y c d) (q : Q (.bl (!decide ([a, b] = [c, d]))) H) : rNeD K x y H Q :=
  ⟨_, _, dpN h1, dpN h2, shT _, shT _, by rw [eqvT]; exact q⟩
theorem dpR {H : Hp} {v x y : V} {xs ys : List Int} (h : LS H v [x, y]) (h1 : LI H x xs) (h2 : LI H y ys) : Dp K H v (.list [.list (xs.map PyData.int), .list (ys.map PyData.int)]) := by
  obtain ⟨p, rfl, h⟩ := h
  exact .lst (SqL.of h) (.cons (dpL h1) (.cons (dpL h2) .nil))
theorem shR (xs ys : List Int) : SeqAt.shaped (.list [.list (xs.map PyData.int), .list (ys.map PyData.int)]) = true := by
  unfold SeqAt.shaped
  simp only [PyData.canLay0, PyData.canLayAll0, PyData.depth, PyData.depthAll, clInts, dpInts0]
  rfl
theorem eqvR (xs ys : List Int) : PyData.eqv (.list [.list (xs.map PyData.int), .list (ys.map PyData.int)]) (.list [.list (xs.map PyData.int), .list (ys.map PyData.int)]) = true := by
  simp only [PyData.eqv, PyData.eqvAll, eqvInts]
  simp
theorem iEqDI {i j : Int} (q : Q (.bl (decide (i = j))) H) : rEqD K (.int i) (.int j) H Q := by
  refine ⟨_, _, .int i, .int j, rfl, rfl, ?_⟩
  have e : PyData.eqv (.int i) (.int j) = decide (i = j) := by
    have h1 : PyData.eqv (.int i) (.int j) = (i == j) := by simp only [PyData.eqv]
    rw [h1]
    by_cases h : i = j
    · subst h; simp
    · rw [decide_eq_false h]; exact beq_eq_false_iff_ne.mpr h
  rw [e]
  exact q
/-- [x, y] against [z, w] of the same lists -/
theorem iEqR {a b x' y' : V} {xs ys : List Int} (h1 : LS H a [x, y]) (h2 : LS H b [x', y']) (k1 : LI H x xs) (k2 : LI H y ys) (k3 : LI H x' xs) (k4 : LI H y' ys) (q : Q (.bl true) H) : rEqD K a b H Q :=
  ⟨_, _, dpR h1 k1 k2, dpR h2 k3 k4, shR _ _, shR _ _, by rw [eqvR]; exact q⟩
theorem iNeR {a b x' y' : V} {xs ys : List Int} (h1 : LS H a [x, y]) (h2 : LS H b [x', y']) (k1 : LI H x xs) (k2 : LI H y ys) (k3 : LI H x' xs) (k4 : LI H y' ys) (q : Q (.bl (!true)) H) : rNeD K a b H Q :=
  ⟨_, _, dpR h1 k1 k2, dpR h2 k3 k4, shR _ _, shR _ _, by rw [eqvR]; exact q⟩
theorem iEqL {ns ms : List Int} (h1 : LI H x ns) (h2 : LI H y ms) (q : Q (.bl (decide (ns = ms))) H) : rEqD K x y H Q :=
  ⟨_, _, dpL h1, dpL h2, shL _, shL _, by rw [eqvL]; exact q⟩
theorem iNeL {ns ms : List Int} (h1 : LI H x ns) (h2 : LI H y ms) (q : Q (.bl (!decide (ns = ms))) H) : rNeD K x y H Q :=
  ⟨_, _, dpL h1, dpL h2, shL _, shL _, by rw [eqvL]; exact q⟩
end
/-! ### what is caught -/
theorem pss_exc {X : Cx} {K : PySem.W.Frag} {st : List Stmt} {cls : Value} {d : Option Addr} {t : Addr → TS} (h : ∀ Dc, cls = .ref Dc → d = none → ExcC K Dc → PSs X st (t Dc)) :
    PSs X st (fun D σ H => ∃ Dc, (cls = .ref Dc ∧ d = none ∧ ExcC K Dc) ∧ t Dc D σ H) := ⟨fun pins s σ H D I ⟨Dc, ⟨h1, h2, h3⟩, q⟩ => (h Dc h1 h2 h3).run pins s σ H D I q⟩
theorem zc_of {cls : Value} {d : Option Addr} {Dc : Addr} {oe : Obj} (e1 : cls = .ref Dc) (e2 : d = none) (h : Zc cls d oe) : Zc (.ref Dc) none oe := by subst e1 e2; exact h
theorem iWAs {K : PySem.W.Frag} {R : Addr} {c : Value} {i : Nat} {ts : Addr → Value → Option Addr → TS} {Wout : WX} {D : Ends} {σ : St} {H : Hp} (h : PySem.W.exmOne K (.ref R) c = some true)
    (q : ∀ a, H a = none → ts a (.ref R) none { nx := fun σ' H' => D.nx (σ'.set i none) H', rt := D.rt, bk := fun σ' H' => D.bk (σ'.set i none) H', ct := fun σ' H' => D.ct (σ'.set i none) H' } (σ.set i (some (.ref a))) H) : WE (wAs K c i ts Wout D) σ (.ref R) none H :=
  ⟨true, h, fun _ => q, fun z => nomatch z⟩
theorem iIsE {K : PySem.W.Frag} {D a A : Addr} {b : Bool} {H : Hp} {Q : VK} (k : PySem.W.kitOne K (.ref D) (.ref A) = some b) (q : Q (.bl b) H) : rIsE K D a [.ref a, .ref A] H Q := ⟨.ref A, .ref A, b, rfl, fun _ h => h, k, q⟩
theorem iIsET {K : PySem.W.Frag} {D a : Addr} {n : String} {b : Bool} {H : Hp} {Q : VK} (k : PySem.W.kitOne K (.ref D) (.type n) = some b) (q : Q (.bl b) H) : rIsE K D a [.ref a, .ty n] H Q := ⟨.ty n, .type n, b, rfl, fun _ h => h, k, q⟩
theorem exm_of {K : PySem.W.Frag} {R G : Addr} (h1 : PySem.W.subIn K (.ref G) (.type "BaseException") = some true) (h2 : PySem.W.hasDictIn K G = true) (h3 : PySem.W.typeIn K (.ref G) = some (.type "type")) (h4 : PySem.W.subIn K (.ref R) (.ref G) = some true) : PySem.W.exmOne K (.ref R) (.ref G) = some true := PySem.W.exm_ref h1 h2 h3 h4

/-! ### loops -/
section
variable {K : PySem.W.Frag} {σ : St} {H : Hp} {g : TG} {tb : TS} {D : Ends} {x v : V}
def RF1 (g : TG) (tb : TS) (D : Ends) (σ : St) (vs : List V) (H1 : Hp) : Prop := ∃ j : Int, vs = [.int j] ∧ -(2 ^ 62) ≤ j ∧ j < 2 ^ 62 ∧ ∃ W : Nat → Nat → St → Hp → Prop, (∃ m, W 0 m σ H1) ∧ ∀ i m σ H, W i m σ H →
  ((Itr 0 j.toNat).stop i H ∧ D.nx σ H) ∨ ((Itr 0 j.toNat).go i H ∧ ∃ N : St → Hp → Prop, (∀ σ' H', N σ' H' → ∃ m', m' < m ∧ W (i + 1) m' σ' H') ∧ ∀ x H', (Itr 0 j.toNat).yld i H x H' → g x σ H' fun σ2 H2 => tb { D with nx := N, ct := N, bk := D.nx } σ2 H2)
theorem iForR {ta : TA} (q : ta σ H fun vs H1 => RF1 g tb D σ vs H1) : tFor (iRng1 ta) g tb D σ H := q
theorem iRF1 {s : Nat} {j : Int} (b : j < 2 ^ 62 ∧ -(2 ^ 62) ≤ j) (Pv : Nat → St → Hp → Prop) (h0 : Pv 0 σ H)
    (hs : ∀ (i : Nat) σ H, i < j.toNat → Pv i σ H → tb { D with nx := Pv (i + 1), ct := Pv (i + 1), bk := D.nx } (σ.set s (some (.int (i : Nat)))) H) (hd : ∀ σ H, Pv j.toNat σ H → D.nx σ H) : RF1 (gName s) tb D σ [.int j] H :=
  ⟨j, rfl, b.2, b.1, for_range (lo := 0) (n := j.toNat) Pv h0 (fun i σ H hi p => by
    show tb _ (σ.set s (some (.int (0 + (i : Int))))) H
    rw [Int.zero_add]
    exact hs i σ H hi p) hd⟩
def RF3 (g : TG) (tb : TS) (D : Ends) (σ : St) (vs : List V) (H1 : Hp) : Prop := ∃ (i0 j c : Int) (n : Nat), vs = [.int i0, .int j, .int c] ∧ RgC i0 j c n ∧ ∃ W : Nat → Nat → St → Hp → Prop, (∃ m, W 0 m σ H1) ∧ ∀ i m σ H, W i m σ H →
  ((Itc i0 c n).stop i H ∧ D.nx σ H) ∨ ((Itc i0 c n).go i H ∧ ∃ N : St → Hp → Prop, (∀ σ' H', N σ' H' → ∃ m', m' < m ∧ W (i + 1) m' σ' H') ∧ ∀ x H', (Itc i0 c n).yld i H x H' → g x σ H' fun σ2 H2 => tb { D with nx := N, ct := N, bk := D.nx } σ2 H2)
theorem iForR3 {ta : TA} (q : ta σ H fun vs H1 => RF3 g tb D σ vs H1) : tFor (iRng3 ta) g tb D σ H := q
/-- range(i0, j, -1) -/
theorem iRF3 {s : Nat} {i0 j : Int} (b : -(2 ^ 62) ≤ i0 ∧ i0 < 2 ^ 62 ∧ -(2 ^ 62) ≤ j ∧ j < 2 ^ 62) (Pv : Nat → St → Hp → Prop) (h0 : Pv 0 σ H)
    (hs : ∀ (i : Nat) σ H, i < (i0 - j).toNat → Pv i σ H → tb { D with nx := Pv (i + 1), ct := Pv (i + 1), bk := D.nx } (σ.set s (some (.int (i0 - (i : Nat))))) H) (hd : ∀ σ H, Pv (i0 - j).toNat σ H → D.nx σ H) : RF3 (gName s) tb D σ [.int i0, .int j, .int (-1)] H :=
  ⟨i0, j, -1, (i0 - j).toNat, rfl, RgC.neg b.1 b.2.1 b.2.2.1 b.2.2.2, for_rangeC (lo := i0) (c := -1) (n := (i0 - j).toNat) Pv h0 (fun i σ H hi p => by
    show tb _ (σ.set s (some (.int (i0 + (i : Nat) * -1)))) H
    rw [show i0 + ((i : Nat) : Int) * -1 = i0 - (i : Nat) by omega]
    exact hs i σ H hi p) hd⟩
def FL (K : PySem.W.Frag) (g : TG) (tb : TS) (D : Ends) (σ : St) (x : V) (H1 : Hp) : Prop := ∃ a, x = .ref a ∧ (∃ xs, SqL K H1 a xs) ∧ ∃ W : Nat → Nat → St → Hp → Prop, (∃ m, W 0 m σ H1) ∧ ∀ i m σ H, W i m σ H →
  ((Itl K a).stop i H ∧ D.nx σ H) ∨ ((Itl K a).go i H ∧ ∃ N : St → Hp → Prop, (∀ σ' H', N σ' H' → ∃ m', m' < m ∧ W (i + 1) m' σ' H') ∧ ∀ x H', (Itl K a).yld i H x H' → g x σ H' fun σ2 H2 => tb { D with nx := N, ct := N, bk := D.nx } σ2 H2)
theorem iForL {tl : TE} (q : tl σ H fun x H1 => FL K g tb D σ x H1) : tFor (iList K tl) g tb D σ H := q
theorem iFL {s : Nat} {xs : List V} (h : LS H v xs) (Pv : Nat → St → Hp → Prop) (h0 : Pv 0 σ H) (hk : ∀ i σ H', Pv i σ H' → LS H' v xs)
    (hs : ∀ (i : Nat) y σ H, xs[i]? = some y → Pv i σ H → tb { D with nx := Pv (i + 1), ct := Pv (i + 1), bk := D.nx } (σ.set s (some y)) H) (hd : ∀ σ H, Pv xs.length σ H → D.nx σ H) : FL K (gName s) tb D σ v H := by
  obtain ⟨a, rfl, h⟩ := h
  refine ⟨a, rfl, ⟨xs, SqL.of h⟩, for_list (K := K) (a := a) (xs := xs) Pv h0 (fun i σ H _ p => ?_) (fun i y σ H e p => hs i y σ H e p) hd⟩
  obtain ⟨a', e, q⟩ := hk i σ H p
  cases e
  exact SqL.of q
def FT (K : PySem.W.Frag) (g : TG) (tb : TS) (D : Ends) (σ : St) (x : V) (H1 : Hp) : Prop := ∃ a, x = .ref a ∧ (∃ xs, SqT K H1 a xs) ∧ ∃ W : Nat → Nat → St → Hp → Prop, (∃ m, W 0 m σ H1) ∧ ∀ i m σ H, W i m σ H →
  ((Itt K a).stop i H ∧ D.nx σ H) ∨ ((Itt K a).go i H ∧ ∃ N : St → Hp → Prop, (∀ σ' H', N σ' H' → ∃ m', m' < m ∧ W (i + 1) m' σ' H') ∧ ∀ x H', (Itt K a).yld i H x H' → g x σ H' fun σ2 H2 => tb { D with nx := N, ct := N, bk := D.nx } σ2 H2)
theorem iForT {tl : TE} (q : tl σ H fun x H1 => FT K g tb D σ x H1) : tFor (L2.iTup K tl) g tb D σ H := q
theorem iFT {s : Nat} {xs : List V} (h : TU H v xs) (Pv : Nat → St → Hp → Prop) (h0 : Pv 0 σ H) (hk : ∀ i σ H', Pv i σ H' → TU H' v xs)
    (hs : ∀ (i : Nat) y σ H, xs[i]? = some y → Pv i σ H → tb { D with nx := Pv (i + 1), ct := Pv (i + 1), bk := D.nx } (σ.set s (some y)) H) (hd : ∀ σ H, Pv xs.length σ H → D.nx σ H) : FT K (gName s) tb D σ v H := by
  obtain ⟨a, rfl, h⟩ := h
  refine ⟨a, rfl, ⟨xs, SqT.of h⟩, for_tup (K := K) (a := a) (xs := xs) Pv h0 (fun i σ H _ p => ?_) (fun i y σ H e p => hs i y σ H e p) hd⟩
  obtain ⟨a', e, q⟩ := hk i σ H p
  cases e
  exact SqT.of q
/-! comprehensions -/
def LcT (D : Addr) (P : Hp → Prop) (y : V) (H4 : Hp) : Prop := ∃ acc, H4 D = some (.lst acc) ∧ acc.length < sizeLine ∧ P (upd H4 D (.lst (acc ++ [y])))
def LcB (te : TE) (σ2 : St) (D : Addr) (P : Hp → Prop) (b : Bool) (H3 : Hp) : Prop := if b = true then te σ2 H3 fun y H4 => LcT D P y H4 else P H3
theorem iLcBT {te : TE} {P : Hp → Prop} {D : Addr} (q : te σ H fun y H4 => LcT D P y H4) : LcB te σ D P true H := iteT q
theorem iLcBd {te : TE} {P : Hp → Prop} {D : Addr} {p : Prop} [Decidable p] (h1 : p → te σ H fun y H4 => LcT D P y H4) (h2 : ¬ p → P H) : LcB te σ D P (decide p) H := by
  unfold LcB
  exact iIf h1 h2
theorem iLcBF {te : TE} {P : Hp → Prop} {D : Addr} (q : P H) : LcB te σ D P false H := iteF q
theorem iLcTI {P : Hp → Prop} {D : Addr} {ns : List Int} {y : Int} (h : LK H D ns) (hl : ns.length ≤ 100000) (q : P (upd H D (.lst ((ns ++ [y]).map V.int)))) : LcT D P (.int y) H :=
  ⟨_, h, by rw [List.length_map]; exact lineK hl, by rw [List.map_append] at q; exact q⟩
theorem iYes {Q : Bool → Hp → Prop} (q : Q true H) : tYes σ H Q := q
def RLc (g : TG) (tt : L2.TT) (te : TE) (vs : List Nat) (σ : St) (as : List V) (H1 : Hp) (Q : VK) : Prop := ∃ j : Int, as = [.int j] ∧ -(2 ^ 62) ≤ j ∧ j < 2 ^ 62 ∧ ∀ D, H1 D = none → ∃ W : Nat → Nat → Hp → Prop, (∃ m, W 0 m (upd H1 D (.lst []))) ∧ ∀ i m H, W i m H →
  ((Itr 0 j.toNat).stop i H ∧ Q (.ref D) H) ∨ ((Itr 0 j.toNat).go i H ∧ ∃ Nx : Hp → Prop, (∀ H', Nx H' → ∃ m', m' < m ∧ W (i + 1) m' H') ∧ ∀ x H', (Itr 0 j.toNat).yld i H x H' → g x (wipe σ vs) H' fun σ2 H2 => wipe σ2 vs = wipe σ vs ∧ tt σ2 H2 fun b H3 =>
    if b = true then te σ2 H3 fun y H4 => ∃ acc, H4 D = some (.lst acc) ∧ acc.length < sizeLine ∧ Nx (upd H4 D (.lst (acc ++ [y]))) else Nx H3)
theorem iLcR {ta : TA} {tt : L2.TT} {te : TE} {vs : List Nat} {Q : VK} (q : ta σ H fun as H1 => RLc g tt te vs σ as H1 Q) : tLc (iRng1 ta) g tt te vs σ H Q := q
theorem iRLc {s : Nat} {tt : L2.TT} {te : TE} {vs : List Nat} {Q : VK} {j : Int} (b : j < 2 ^ 62 ∧ -(2 ^ 62) ≤ j) (Pv : Addr → Nat → Hp → Prop) (h0 : ∀ D, H D = none → Pv D 0 (upd H D (.lst [])))
    (hw : ∀ i : Nat, wipe ((wipe σ vs).set s (some (.int (i : Nat)))) vs = wipe σ vs)
    (hs : ∀ D (i : Nat) H', H D = none → i < j.toNat → Pv D i H' → tt ((wipe σ vs).set s (some (.int (i : Nat)))) H' fun b H3 => LcB te ((wipe σ vs).set s (some (.int (i : Nat)))) D (Pv D (i + 1)) b H3)
    (hd : ∀ D H', H D = none → Pv D j.toNat H' → Q (.ref D) H') : RLc (gName s) tt te vs σ [.int j] H Q :=
  ⟨j, rfl, b.2, b.1, fun D hD => lc_range (lo := 0) (n := j.toNat) (Pv D) (h0 D hD) (fun i H' hi p => by
    have e : (0 : Int) + (i : Nat) = (i : Nat) := Int.zero_add _
    show wipe ((wipe σ vs).set s (some (.int (0 + (i : Nat))))) vs = wipe σ vs ∧ tt ((wipe σ vs).set s (some (.int (0 + (i : Nat))))) H' _
    rw [e]
    exact ⟨hw i, hs D i H' hD hi p⟩) (fun H' p => hd D H' hD p)⟩
def LLc (K : PySem.W.Frag) (g : TG) (tt : L2.TT) (te : TE) (vs : List Nat) (σ : St) (x : V) (H1 : Hp) (Q : VK) : Prop := ∃ a, x = .ref a ∧ (∃ xs, SqL K H1 a xs) ∧ ∀ D, H1 D = none → ∃ W : Nat → Nat → Hp → Prop, (∃ m, W 0 m (upd H1 D (.lst []))) ∧ ∀ i m H, W i m H →
  ((Itl K a).stop i H ∧ Q (.ref D) H) ∨ ((Itl K a).go i H ∧ ∃ Nx : Hp → Prop, (∀ H', Nx H' → ∃ m', m' < m ∧ W (i + 1) m' H') ∧ ∀ x H', (Itl K a).yld i H x H' → g x (wipe σ vs) H' fun σ2 H2 => wipe σ2 vs = wipe σ vs ∧ tt σ2 H2 fun b H3 =>
    if b = true then te σ2 H3 fun y H4 => ∃ acc, H4 D = some (.lst acc) ∧ acc.length < sizeLine ∧ Nx (upd H4 D (.lst (acc ++ [y]))) else Nx H3)
theorem iLcL {tl : TE} {tt : L2.TT} {te : TE} {vs : List Nat} {Q : VK} (q : tl σ H fun x H1 => LLc K g tt te vs σ x H1 Q) : tLc (iList K tl) g tt te vs σ H Q := q
theorem iLLc {s : Nat} {tt : L2.TT} {te : TE} {vs : List Nat} {Q : VK} {ns : List Int} (h : LI H v ns) (Pv : Addr → Nat → Hp → Prop) (h0 : ∀ D, H D = none → Pv D 0 (upd H D (.lst [])))
    (hk : ∀ D i H', H D = none → Pv D i H' → Same H H')
    (hw : ∀ y : Int, wipe ((wipe σ vs).set s (some (.int y))) vs = wipe σ vs)
    (hs : ∀ D (i : Nat) y H', H D = none → ns[i]? = some y → Pv D i H' → tt ((wipe σ vs).set s (some (.int y))) H' fun b H3 => LcB te ((wipe σ vs).set s (some (.int y))) D (Pv D (i + 1)) b H3)
    (hd : ∀ D H', H D = none → Pv D ns.length H' → Q (.ref D) H') : LLc K (gName s) tt te vs σ v H Q := by
  obtain ⟨a, rfl, h⟩ := h
  refine ⟨a, rfl, ⟨_, SqL.of h⟩, fun D hD => lc_list (K := K) (a := a) (xs := ns.map V.int) (Pv D) (h0 D hD) (fun i H' _ p => SqL.of (hk D i H' hD p _ _ h)) (fun i x H' e p => ?_) (fun H' p => hd D H' hD (by rw [List.length_map] at p; exact p))⟩
  rw [List.getElem?_map] at e
  obtain ⟨y, hy, rfl⟩ := Option.map_eq_some_iff.mp e
  exact ⟨hw y, hs D i y H' hD hy p⟩
def WhB (tb : TS) (D : Ends) (W : Nat → St → Hp → Prop) (m : Nat) (σ : St) (b : Bool) (H1 : Hp) : Prop :=
  if b = true then ∃ N : St → Hp → Prop, (∀ σ' H', N σ' H' → ∃ m', m' < m ∧ W m' σ' H') ∧ tb { D with nx := N, ct := N, bk := D.nx } σ H1 else D.nx σ H1
theorem iWhile {c : L2.TT} (W : Nat → St → Hp → Prop) (h0 : ∃ m, W m σ H) (hs : ∀ m σ H, W m σ H → c σ H fun b H1 => WhB tb D W m σ b H1) : tWhile c tb D σ H := ⟨W, h0, hs⟩
theorem iWh {W : Nat → St → Hp → Prop} {m : Nat} {p : Prop} [Decidable p] (h1 : p → tb { D with nx := fun σ' H' => ∃ m', m' < m ∧ W m' σ' H', ct := fun σ' H' => ∃ m', m' < m ∧ W m' σ' H', bk := D.nx } σ H) (h2 : ¬ p → D.nx σ H) : WhB tb D W m σ (decide p) H := by
  unfold WhB
  by_cases h : p
  · rw [decide_eq_true h]; exact iteT ⟨_, fun _ _ q => q, h1 h⟩
  · rw [decide_eq_false h]; exact iteF (h2 h)
theorem iWhN {W : Nat → St → Hp → Prop} {m : Nat} {p : Prop} [Decidable p] (h1 : ¬ p → tb { D with nx := fun σ' H' => ∃ m', m' < m ∧ W m' σ' H', ct := fun σ' H' => ∃ m', m' < m ∧ W m' σ' H', bk := D.nx } σ H) (h2 : p → D.nx σ H) : WhB tb D W m σ (!decide p) H := by
  unfold WhB
  by_cases h : p
  · rw [decide_eq_true h]; exact iteF (h2 h)
  · rw [decide_eq_false h]; exact iteT ⟨_, fun _ _ q => q, h1 h⟩
end
end GP

/-! ### the walk over a reading: walk_at "go" -/
local macro_rules | `(tactic| walk_at "hp") => `(tactic| first
  | assumption
  | (apply GP.TU.same; assumption; walk_at "hp")
  | (apply GP.LS.same; assumption; walk_at "hp")
  | (apply GP.SqL_same; assumption; walk_at "hp")
  | (apply GP.LK.same; assumption; walk_at "hp")
  | exact GP.LK.new
  | ((with_reducible apply GP.LK.ls); walk_at "hp")
  | ((with_reducible apply GP.TU.app); walk_at "hp"; walk_at "hp")
  | (apply GP.TU.same; (with_reducible apply GP.same_app); assumption; walk_at "sm"; walk_at "hp")
  | (apply GP.LS.same; (with_reducible apply GP.same_app); assumption; walk_at "sm"; walk_at "hp")
  | (apply GP.SqL_same; (with_reducible apply GP.same_app); assumption; walk_at "sm"; walk_at "hp"))
local macro_rules | `(tactic| walk_at "sm") => `(tactic| first
  | assumption
  | exact L2.Same.refl _
  | (apply GP.Same.back; assumption; walk_at "sm")
  | ((with_reducible apply GP.same_app); assumption; walk_at "sm"))
local macro_rules | `(tactic| walk_at "side") => `(tactic| first
  | assumption
  | exact Or.inl (Or.inl ⟨by decide, by decide⟩)
  | exact Or.inl (Or.inr ⟨by decide, by decide⟩)
  | exact Or.inl ⟨by decide, by decide⟩
  | exact ⟨by decide, by decide, by decide⟩
  | exact Or.inl (Or.inl ⟨by omega, by omega⟩)
  | exact Or.inl (Or.inr ⟨by omega, by omega⟩)
  | (show (0 : Int) < _; first | decide | omega)
  | exact Or.inl ⟨by omega, by omega⟩
  | exact Or.inr (by assumption))
local macro_rules | `(tactic| walk_at "lb") => `(tactic| first
  | ((with_reducible refine GP.len_cut ?_); walk_at "lb")
  | ((with_reducible refine GP.len_app ?_ ?_) <;> walk_at "lb")
  | omega
  | (simp only [List.length_cons, List.length_nil]; omega))
local macro_rules | `(tactic| walk_at "len") => `(tactic| ((with_reducible refine GP.len_two ?_ ?_) <;> walk_at "lb"))
local macro_rules | `(tactic| walk_at "eqs") => `(tactic| fail "no equation")
local macro_rules | `(tactic| walk_at "callee") => `(tactic| fail "no callee")
local macro_rules | `(tactic| walk_at "step") => `(tactic| first
  | ((with_reducible refine' GP.iVar ?h ?_); (case h => exact rfl))
  | with_reducible refine GP.iC ?_
  | with_reducible refine GP.iOp ?_
  | with_reducible refine GP.iUn ?_
  | with_reducible refine GP.iI0 ?_
  | with_reducible refine GP.iP6 ?_
  | with_reducible refine GP.iP10 ?_
  | with_reducible refine GP.iP12 ?_
  | with_reducible refine GP.iP14 ?_
  | with_reducible refine GP.iP15 ?_
  | with_reducible refine GP.iP30 ?_
  | with_reducible refine GP.iP45 ?_
  | ((with_reducible refine GP.iI ?h ?_); (case h => walk_at "side"))
  | with_reducible refine GP.iU ?_
  | with_reducible refine GP.iCons ?_
  | with_reducible refine GP.iNil ?_
  | with_reducible refine GP.iSeq ?_
  | with_reducible refine GP.iAsg ?_
  | with_reducible refine GP.iDrop ?_
  | with_reducible refine GP.iRet ?_
  | with_reducible refine GP.iRetN ?_
  | with_reducible refine GP.iIfS ?_
  | with_reducible refine GP.iNext ?_
  | with_reducible refine GP.iTest ?_
  | with_reducible refine GP.iTB ?_
  | with_reducible refine GP.iBl ?_
  | with_reducible refine GP.iNot ?_
  | with_reducible refine GP.iAnd ?_
  | with_reducible refine GP.iOr ?_
  | with_reducible refine GP.iAndV ?_
  | with_reducible refine GP.iOrV ?_
  | with_reducible refine GP.iNotV ?_
  | with_reducible refine GP.iEqI ?_
  | with_reducible refine GP.iNeI ?_
  | with_reducible refine GP.iEqB ?_
  | with_reducible refine GP.iNeB ?_
  | with_reducible refine GP.iEqS ?_
  | with_reducible refine GP.iNeS ?_
  | with_reducible refine GP.iCall ?_
  | with_reducible refine GP.iCallS ?_
  | with_reducible refine GP.iCB ?_
  | with_reducible refine GP.iForR ?_
  | with_reducible refine GP.iForR3 ?_
  | with_reducible refine GP.iForL ?_
  | with_reducible refine GP.iLcR ?_
  | with_reducible refine GP.iLcL ?_
  | with_reducible refine GP.iYes ?_
  | with_reducible refine GP.iLcBT ?_
  | with_reducible refine GP.iLcBF ?_
  | ((with_reducible refine' GP.iLcTI ?h ?hl ?_); (case h => walk_at "hp"); (case hl => omega))
  | with_reducible refine GP.iForT ?_
  | with_reducible refine GP.iTup ?_
  | with_reducible refine GP.iBM ?_
  | ((with_reducible refine' GP.iBMl ?h ?_); (case h => walk_at "hp"))
  | ((with_reducible refine' GP.iAppI ?h ?hl ?_); (case h => walk_at "hp"); (case hl => omega))
  | with_reducible refine GP.iLst ?_
  | ((with_reducible refine GP.iMkT ?_ ?hl); (case hl => exact rfl); intro _ _ _ _)
  | ((with_reducible refine GP.iMkI1 ?_); intro _ _ _ _)
  | ((with_reducible refine GP.iMkI2 ?_); intro _ _ _ _)
  | ((with_reducible refine GP.iMkL ?_ ?hl); (case hl => exact rfl); intro _ _ _ _)
  | ((with_reducible refine' GP.iIxT ?h ?e ?_); (case h => walk_at "hp"); (case e => exact rfl))
  | ((with_reducible refine' GP.iLenI ?h ?_); (case h => walk_at "hp"))
  | ((with_reducible refine' GP.iLenT ?h ?_); (case h => walk_at "hp"))
  | ((with_reducible refine' GP.iLenL ?h ?_); (case h => walk_at "hp"))
  | with_reducible refine GP.is_int_int ?_
  | with_reducible refine GP.is_int_bool ?_
  | with_reducible refine GP.is_int_str ?_
  | with_reducible refine GP.is_int_tuple ?_
  | with_reducible refine GP.is_int_list ?_
  | with_reducible refine GP.is_bool_int ?_
  | with_reducible refine GP.is_bool_bool ?_
  | with_reducible refine GP.is_bool_str ?_
  | with_reducible refine GP.is_bool_tuple ?_
  | with_reducible refine GP.is_bool_list ?_
  | with_reducible refine GP.is_str_int ?_
  | with_reducible refine GP.is_str_bool ?_
  | with_reducible refine GP.is_str_str ?_
  | with_reducible refine GP.is_str_tuple ?_
  | with_reducible refine GP.is_str_list ?_
  | with_reducible refine GP.is_NoneType_int ?_
  | with_reducible refine GP.is_NoneType_bool ?_
  | with_reducible refine GP.is_NoneType_str ?_
  | with_reducible refine GP.is_NoneType_tuple ?_
  | with_reducible refine GP.is_NoneType_list ?_
  | ((with_reducible refine' GP.is_tuple_int ?h ?_); (case h => walk_at "hp"))
  | ((with_reducible refine' GP.is_tuple_bool ?h ?_); (case h => walk_at "hp"))
  | ((with_reducible refine' GP.is_tuple_str ?h ?_); (case h => walk_at "hp"))
  | ((with_reducible refine' GP.is_tuple_tuple ?h ?_); (case h => walk_at "hp"))
  | ((with_reducible refine' GP.is_tuple_list ?h ?_); (case h => walk_at "hp"))
  | ((with_reducible refine' GP.is_list_int ?h ?_); (case h => walk_at "hp"))
  | ((with_reducible refine' GP.is_list_bool ?h ?_); (case h => walk_at "hp"))
  | ((with_reducible refine' GP.is_list_str ?h ?_); (case h => walk_at "hp"))
  | ((with_reducible refine' GP.is_list_tuple ?h ?_); (case h => walk_at "hp"))
  | ((with_reducible refine' GP.is_list_list ?h ?_); (case h => walk_at "hp"))
  | with_reducible refine L2.iteT ?_
  | with_reducible refine L2.iteF ?_
  | ((with_reducible refine' GP.iLenQ ?h ?_); (case h => walk_at "hp"))
  | with_reducible refine GP.iAbs ?_
  | with_reducible refine GP.iMax2 ?_
  | with_reducible refine GP.iIsN ?_
  | with_reducible refine GP.iIntB ?_
  | with_reducible refine GP.iEqDI ?_
  | ((with_reducible refine' GP.iEqN ?h1 ?h2 ?_); (case h1 => walk_at "hp"); (case h2 => walk_at "hp"))
  | ((with_reducible refine' GP.iNeN ?h1 ?h2 ?_); (case h1 => walk_at "hp"); (case h2 => walk_at "hp"))
  | with_reducible refine GP.iNT ?_
  | with_reducible refine GP.iNF ?_
  | with_reducible refine GP.iNNT ?_
  | with_reducible refine GP.iNNF ?_
  | ((with_reducible refine GP.iIfBT ?h ?_); (case h => assumption))
  | ((with_reducible refine GP.iIfBF ?h ?_); (case h => assumption))
  | ((with_reducible refine GP.iIfNBT ?h ?_); (case h => assumption))
  | ((with_reducible refine GP.iIfNBF ?h ?_); (case h => assumption))
  | ((with_reducible refine GP.iIfT ?h ?_); (case h => first | assumption | exact rfl | omega | walk_at "eqs"))
  | ((with_reducible refine GP.iIfF ?h ?_); (case h => first | assumption | omega))
  | ((with_reducible refine GP.iIfNT ?h ?_); (case h => first | assumption | exact rfl | omega | walk_at "eqs"))
  | ((with_reducible refine GP.iIfNF ?h ?_); (case h => first | assumption | omega))
  | ((with_reducible refine' GP.iIxL ?h ?e ?_); (case h => walk_at "hp"); (case e => exact rfl))
  | ((with_reducible refine' GP.iIxN ?h ?h1 ?_); (case h => walk_at "hp"); (case h1 => omega))
  | ((with_reducible refine' GP.iIxP ?h ?h1 ?_); (case h => walk_at "hp"); (case h1 => omega))
  | ((with_reducible refine' GP.iIxI ?h ?h0 ?h1 ?_); (case h => walk_at "hp"); (case h0 => omega); (case h1 => omega))
  | ((with_reducible refine' GP.iEqR ?h1 ?h2 ?k1 ?k2 ?k3 ?k4 ?_); (case h1 => walk_at "hp"); (case h2 => walk_at "hp"); (case k1 => walk_at "hp"); (case k2 => walk_at "hp"); (case k3 => walk_at "hp"); (case k4 => walk_at "hp"))
  | ((with_reducible refine' GP.iNeR ?h1 ?h2 ?k1 ?k2 ?k3 ?k4 ?_); (case h1 => walk_at "hp"); (case h2 => walk_at "hp"); (case k1 => walk_at "hp"); (case k2 => walk_at "hp"); (case k3 => walk_at "hp"); (case k4 => walk_at "hp"))
  | ((with_reducible refine' GP.iEqL ?h1 ?h2 ?_); (case h1 => walk_at "hp"); (case h2 => walk_at "hp"))
  | ((with_reducible refine' GP.iNeL ?h1 ?h2 ?_); (case h1 => walk_at "hp"); (case h2 => walk_at "hp"))
  | with_reducible refine GP.iSl ?_
  | with_reducible refine GP.iNoPart ?_
  | with_reducible refine GP.iPart ?_
  | with_reducible refine GP.iIntP ?_
  | ((with_reducible refine' GP.iSlI ?h ?_); (case h => walk_at "hp"); intro _ _ _ _)
  | ((with_reducible refine' GP.iListOfN ?h ?_); (case h => walk_at "hp"); intro _ _ _ _ _)
  | ((with_reducible refine' GP.iListOf ?h ?_); (case h => walk_at "hp"); intro _ _ _ _)
  | ((with_reducible refine' GP.iCatI ?h1 ?h2 ?h3 ?_); (case h1 => walk_at "hp"); (case h2 => walk_at "hp"); (case h3 => walk_at "len"); intro _ _ _ _)
  | ((with_reducible refine' GP.iIsE ?h ?_); (case h => assumption))
  | ((with_reducible refine' GP.iIsET ?h ?_); (case h => assumption))
  | walk_at "callee")
local macro_rules | `(tactic| walk_at "if") => `(tactic| first
  | with_reducible refine GP.iIf ?_ ?_
  | with_reducible refine GP.iIfN ?_ ?_
  | with_reducible refine GP.iIfNB ?_ ?_
  | with_reducible refine GP.iIfB ?_ ?_
  | with_reducible refine GP.iLcBd ?_ ?_)
local macro_rules | `(tactic| walk_at "go") => `(tactic| repeat (walk_at "step"))
local macro_rules | `(tactic| walk_at "ifs") => `(tactic| (walk_at "go"; try (walk_at "if" <;> (intro _; walk_at "ifs"))))

namespace GP
open PySem L2
def top (i : Nat) : Stmt := PySem.Challenge.pw_goldplaces_k14_whole_units.main.body.getD i (.Pass ⟨0, 0, 0, 0⟩)
abbrev s_less : Stmt := top 1
abbrev N_less : List Str := ["one", "other"]
theorem sc_less : FnScope ["one", "other"] ["one", "other"] (defScope s_less) := ⟨rfl, rfl, rfl, by decide +kernel, rfl, by decide +kernel, by decide +kernel⟩
abbrev s_times : Stmt := top 2
abbrev N_times : List Str := ["one", "other", "far"]
theorem sc_times : FnScope ["one", "other", "far"] ["one", "other"] (defScope s_times) := ⟨rfl, rfl, rfl, by decide +kernel, rfl, by decide +kernel, by decide +kernel⟩
abbrev s_norm : Stmt := top 3
abbrev N_norm : List Str := ["number"]
theorem sc_norm : FnScope ["number"] ["number"] (defScope s_norm) := ⟨rfl, rfl, rfl, by decide +kernel, rfl, by decide +kernel, by decide +kernel⟩
abbrev s_sign : Stmt := top 4
abbrev N_sign : List Str := ["number", "plain", "rooted"]
theorem sc_sign : FnScope ["number", "plain", "rooted"] ["number"] (defScope s_sign) := ⟨rfl, rfl, rfl, by decide +kernel, rfl, by decide +kernel, by decide +kernel⟩
abbrev s_raised : Stmt := top 5
abbrev N_raised : List Str := ["number"]
theorem sc_raised : FnScope ["number"] ["number"] (defScope s_raised) := ⟨rfl, rfl, rfl, by decide +kernel, rfl, by decide +kernel, by decide +kernel⟩
abbrev s_lowered : Stmt := top 6
abbrev N_lowered : List Str := ["number"]
theorem sc_lowered : FnScope ["number"] ["number"] (defScope s_lowered) := ⟨rfl, rfl, rfl, by decide +kernel, rfl, by decide +kernel, by decide +kernel⟩
abbrev s_power : Stmt := top 7
abbrev N_power : List Str := ["k", "found", "step"]
theorem sc_power : FnScope ["k", "found", "step"] ["k"] (defScope s_power) := ⟨rfl, rfl, rfl, by decide +kernel, rfl, by decide +kernel, by decide +kernel⟩
abbrev s_unit : Stmt := top 9
abbrev N_unit : List Str := ["number", "side", "left", "count"]
theorem sc_unit : FnScope ["number", "side", "left", "count"] ["number"] (defScope s_unit) := ⟨rfl, rfl, rfl, by decide +kernel, rfl, by decide +kernel, by decide +kernel⟩
abbrev s__law_cell_at : Stmt := top 11
abbrev N__law_cell_at : List Str := ["script", "k"]
theorem sc__law_cell_at : FnScope ["script", "k"] ["script", "k"] (defScope s__law_cell_at) := ⟨rfl, rfl, rfl, by decide +kernel, rfl, by decide +kernel, by decide +kernel⟩
abbrev s__law_part : Stmt := top 12
abbrev N__law_part : List Str := ["cell"]
theorem sc__law_part : FnScope ["cell"] ["cell"] (defScope s__law_part) := ⟨rfl, rfl, rfl, by decide +kernel, rfl, by decide +kernel, by decide +kernel⟩
abbrev s__law_power : Stmt := top 13
abbrev N__law_power : List Str := ["k", "number", "step"]
theorem sc__law_power : FnScope ["k", "number", "step"] ["k"] (defScope s__law_power) := ⟨rfl, rfl, rfl, by decide +kernel, rfl, by decide +kernel, by decide +kernel⟩
abbrev s__law_is_number : Stmt := top 14
abbrev N__law_is_number : List Str := ["found", "part"]
theorem sc__law_is_number : FnScope ["found", "part"] ["found"] (defScope s__law_is_number) := ⟨rfl, rfl, rfl, by decide +kernel, rfl, by decide +kernel, by decide +kernel⟩
abbrev s_law : Stmt := top 15
abbrev N_law : List Str := ["script", "count", "side", "much", "found", "number", "size", "again"]
theorem sc_law : FnScope ["script", "count", "side", "much", "found", "number", "size", "again"] ["script"] (defScope s_law) := ⟨rfl, rfl, rfl, by decide +kernel, rfl, by decide +kernel, by decide +kernel⟩
end GP

/-! ### numbers a + b G, plain: which are above nought -/
namespace GM
abbrev Z := Int × Int
def up (z : Z) : Z := (z.2, z.1 + z.2)
def dn (z : Z) : Z := (z.2 - z.1, z.1)
def mul (z w : Z) : Z := (z.1 * w.1 + z.2 * w.2, z.1 * w.2 + z.2 * w.1 + z.2 * w.2)
def add (z w : Z) : Z := (z.1 + w.1, z.2 + w.2)
def sub (z w : Z) : Z := (z.1 - w.1, z.2 - w.2)
def neg (z : Z) : Z := (0 - z.1, 0 - z.2)
theorem up_dn (z : Z) : up (dn z) = z := by obtain ⟨a, b⟩ := z; simp only [up, dn]; exact Prod.ext rfl (by show b - a + a = b; omega)
theorem dn_up (z : Z) : dn (up z) = z := by obtain ⟨a, b⟩ := z; simp only [up, dn]; exact Prod.ext (by show a + b - b = a; omega) rfl
def upn : Nat → Z → Z
  | 0, z => z
  | n + 1, z => upn n (up z)
def Nn (z : Z) : Prop := 0 ≤ z.1 ∧ 0 ≤ z.2 ∧ 0 < z.1 + z.2
theorem Nn.up {z : Z} (h : Nn z) : Nn (up z) := by
  obtain ⟨a, b⟩ := z
  simp only [Nn, GM.up] at *
  omega
theorem Nn.upn : ∀ (n : Nat) {z : Z}, Nn z → Nn (upn n z)
  | 0, _, h => h
  | n + 1, _, h => Nn.upn n h.up
theorem upn_add : ∀ (n : Nat) (z w : Z), upn n (add z w) = add (upn n z) (upn n w)
  | 0, _, _ => rfl
  | n + 1, z, w => by
    have e : up (add z w) = add (up z) (up w) := by simp only [up, add]; exact Prod.ext rfl (by show z.1 + w.1 + (z.2 + w.2) = z.1 + z.2 + (w.1 + w.2); omega)
    show upn n (up (add z w)) = _
    rw [e]
    exact upn_add n _ _
theorem upn_neg : ∀ (n : Nat) (z : Z), upn n (neg z) = neg (upn n z)
  | 0, _ => rfl
  | n + 1, z => by
    have e : up (neg z) = neg (up z) := by simp only [up, neg]; exact Prod.ext rfl (by show 0 - z.1 + (0 - z.2) = 0 - (z.1 + z.2); omega)
    show upn n (up (neg z)) = _
    rw [e]
    exact upn_neg n _
theorem upn_plus : ∀ (n m : Nat) (z : Z), upn (n + m) z = upn m (upn n z)
  | 0, m, z => by rw [Nat.zero_add]; rfl
  | n + 1, m, z => by
    rw [show n + 1 + m = (n + m) + 1 by omega]
    exact upn_plus n m (up z)
theorem up_mul (z w : Z) : up (mul z w) = mul (up z) w := by
  simp only [up, mul]
  exact Prod.ext (by show z.1 * w.2 + z.2 * w.1 + z.2 * w.2 = z.2 * w.1 + (z.1 + z.2) * w.2; grind) (by show _ = z.2 * w.2 + (z.1 + z.2) * w.1 + (z.1 + z.2) * w.2; grind)
theorem mul_comm (z w : Z) : mul z w = mul w z := by
  simp only [mul]
  exact Prod.ext (by show z.1 * w.1 + z.2 * w.2 = w.1 * z.1 + w.2 * z.2; grind) (by show z.1 * w.2 + z.2 * w.1 + z.2 * w.2 = w.1 * z.2 + w.2 * z.1 + w.2 * z.2; grind)
theorem upn_mul : ∀ (n : Nat) (z w : Z), upn n (mul z w) = mul (upn n z) w
  | 0, _, _ => rfl
  | n + 1, z, w => by
    show upn n (up (mul z w)) = _
    rw [up_mul]
    exact upn_mul n _ _
/-- above nought -/
def P (z : Z) : Prop := ∃ n, Nn (upn n z)
theorem P.of {z : Z} (h : Nn z) : P z := ⟨0, h⟩
theorem P.add {z w : Z} (h : P z) (k : P w) : P (add z w) := by
  obtain ⟨n, h⟩ := h
  obtain ⟨m, k⟩ := k
  refine ⟨n + m, ?_⟩
  rw [upn_add, upn_plus n m z, Nat.add_comm n m, upn_plus m n w]
  have a := Nn.upn m h
  have b := Nn.upn n k
  generalize upn m (upn n z) = x at a
  generalize upn n (upn m w) = y at b
  simp only [Nn, GM.add] at *
  omega
theorem Nn.mul {z w : Z} (h : Nn z) (k : Nn w) : Nn (mul z w) := by
  obtain ⟨a, b⟩ := z
  obtain ⟨c, d⟩ := w
  simp only [Nn, GM.mul] at *
  have h1 := Int.mul_nonneg h.1 k.1
  have h2 := Int.mul_nonneg h.1 k.2.1
  have h3 := Int.mul_nonneg h.2.1 k.1
  have h4 := Int.mul_nonneg h.2.1 k.2.1
  refine ⟨by omega, by omega, ?_⟩
  have h5 : 0 < (a + b) * (c + d) := Int.mul_pos h.2.2 k.2.2
  have h6 : (a + b) * (c + d) = a * c + a * d + (b * c + b * d) := by grind
  omega
theorem P.mul {z w : Z} (h : P z) (k : P w) : P (mul z w) := by
  obtain ⟨n, h⟩ := h
  obtain ⟨m, k⟩ := k
  refine ⟨n + m, ?_⟩
  rw [upn_plus, upn_mul, mul_comm, upn_mul, mul_comm]
  exact h.mul k
theorem P.up {z : Z} (h : P z) : P (up z) := by
  obtain ⟨n, h⟩ := h
  refine ⟨n, ?_⟩
  have e : upn n (GM.up z) = GM.up (upn n z) := by
    have a := upn_plus n 1 z
    have b := upn_plus 1 n z
    rw [Nat.add_comm] at a
    exact b.symm.trans a
  rw [e]
  exact h.up
theorem P.dn {z : Z} (h : P z) : P (dn z) := by
  obtain ⟨n, h⟩ := h
  refine ⟨n + 1, ?_⟩
  show Nn (upn n (GM.up (GM.dn z)))
  rw [up_dn]
  exact h
theorem P_up {z : Z} : P (up z) ↔ P z := ⟨fun h => by have k := h.dn; rw [dn_up] at k; exact k, P.up⟩
theorem P_dn {z : Z} : P (dn z) ↔ P z := ⟨fun h => by have k := h.up; rw [up_dn] at k; exact k, P.dn⟩
theorem not_P0 : ¬ P (0, 0) := fun ⟨n, h⟩ => by
  have e : ∀ n, upn n (0, 0) = (0, 0) := fun n => by
    induction n with
    | zero => rfl
    | succ n ih => exact ih
  rw [e] at h
  simp only [Nn] at h
  omega
theorem add_neg (z : Z) : add z (neg z) = (0, 0) := by
  simp only [add, neg]
  exact Prod.ext (by show z.1 + (0 - z.1) = 0; omega) (by show z.2 + (0 - z.2) = 0; omega)
theorem P.asym {z : Z} (h : P z) : ¬ P (neg z) := fun k => not_P0 (by have q := h.add k; rw [add_neg] at q; exact q)
/-- each number is nought, above or below -/
theorem tri : ∀ (n : Nat) (z : Z), z.1.natAbs + z.2.natAbs ≤ n → z = (0, 0) ∨ P z ∨ P (neg z)
  | n, (a, b), hn => by
    by_cases h0 : a = 0 ∧ b = 0
    · exact .inl (Prod.ext h0.1 h0.2)
    · by_cases h1 : 0 ≤ a ∧ 0 ≤ b
      · exact .inr (.inl (.of ⟨h1.1, h1.2, by show 0 < a + b; omega⟩))
      · by_cases h2 : a ≤ 0 ∧ b ≤ 0
        · exact .inr (.inr (.of ⟨by show 0 ≤ 0 - a; omega, by show 0 ≤ 0 - b; omega, by show 0 < 0 - a + (0 - b); omega⟩))
        · -- of unlike signs: a step up makes the parts less
          by_cases h3 : (a + b).natAbs + b.natAbs < a.natAbs + b.natAbs
          · have dn : b.natAbs + (a + b).natAbs < n := by have : a.natAbs + b.natAbs ≤ n := hn; omega
            match n, dn with
            | m + 1, dn =>
              rcases tri m (up (a, b)) (by show b.natAbs + (a + b).natAbs ≤ m; omega) with e | e | e
              · have e1 : b = 0 := congrArg Prod.fst e
                have e2 : a + b = 0 := congrArg Prod.snd e
                omega
              · exact .inr (.inl (P_up.mp e))
              · refine .inr (.inr (P_up.mp ?_))
                have q : up (neg (a, b)) = neg (up (a, b)) := by simp only [up, neg]; exact Prod.ext rfl (by show 0 - a + (0 - b) = 0 - (a + b); omega)
                rw [q]; exact e
          · -- then a + b has b's sign
            by_cases h4 : 0 < b
            · exact .inr (.inl (P_up.mp (.of ⟨by show 0 ≤ b; omega, by show 0 ≤ a + b; omega, by show 0 < b + (a + b); omega⟩)))
            · refine .inr (.inr (P_up.mp (.of ⟨by show 0 ≤ 0 - b; omega, by show 0 ≤ 0 - a + (0 - b); omega, by show 0 < 0 - b + (0 - a + (0 - b)); omega⟩)))
theorem tri' (z : Z) : z = (0, 0) ∨ P z ∨ P (neg z) := tri _ z (Nat.le_refl _)

/-! ### the sign as the program reckons it -/
def sg (a b : Int) : Int :=
  if 2 * a + b = 0 ∧ b = 0 then 0 else if 0 ≤ 2 * a + b ∧ 0 ≤ b then 1 else if 2 * a + b ≤ 0 ∧ b ≤ 0 then -1
  else if 0 < 2 * a + b then (if 5 * b * b < (2 * a + b) * (2 * a + b) then 1 else -1) else (if (2 * a + b) * (2 * a + b) < 5 * b * b then 1 else -1)
theorem sqnn (x : Int) : 0 ≤ x * x := by
  by_cases h : 0 ≤ x
  · exact Int.mul_nonneg h h
  · exact Int.mul_nonneg_of_nonpos_of_nonpos (by omega) (by omega)
theorem sq_lt {x y : Int} (h0 : 0 ≤ x) (h : x < y) : x * x < y * y :=
  Int.lt_of_le_of_lt (Int.mul_le_mul_of_nonneg_left (Int.le_of_lt h) h0) (Int.mul_lt_mul_of_pos_right h (by omega))
theorem sq_le {x y : Int} (h0 : 0 ≤ x) (h : x ≤ y) : x * x ≤ y * y := Int.mul_le_mul h h h0 (by omega)
theorem lt_of_sq {x y : Int} (h0 : 0 ≤ y) (h : x * x < y * y) : x < y := by
  by_cases c : x < y
  · exact c
  · exact absurd h (by have := sq_le h0 (Int.not_lt.mp c); omega)
/-- no square is five squares -/
theorem sq5 : ∀ (n : Nat) (p r : Int), p.natAbs ≤ n → p * p = 5 * (r * r) → p = 0 ∧ r = 0
  | n, p, r, hn, h => by
    have h5 : p % 5 = 0 := by
      have e : p * p % 5 = 0 := by omega
      have e2 : p * p % 5 = ((p % 5) * (p % 5)) % 5 := Int.mul_emod p p 5
      have c : p % 5 = 0 ∨ p % 5 = 1 ∨ p % 5 = 2 ∨ p % 5 = 3 ∨ p % 5 = 4 := by omega
      rcases c with c | c | c | c | c
      · exact c
      all_goals (rw [c] at e2; omega)
    obtain ⟨q, rfl⟩ : ∃ q, p = 5 * q := ⟨p / 5, by omega⟩
    have h1 : r * r = 5 * (q * q) := by
      have e : 5 * q * (5 * q) = 5 * (5 * (q * q)) := by grind
      omega
    have h6 : r % 5 = 0 := by
      have e : r * r % 5 = 0 := by omega
      have e2 : r * r % 5 = ((r % 5) * (r % 5)) % 5 := Int.mul_emod r r 5
      have c : r % 5 = 0 ∨ r % 5 = 1 ∨ r % 5 = 2 ∨ r % 5 = 3 ∨ r % 5 = 4 := by omega
      rcases c with c | c | c | c | c
      · exact c
      all_goals (rw [c] at e2; omega)
    obtain ⟨t, rfl⟩ : ∃ t, r = 5 * t := ⟨r / 5, by omega⟩
    have h2 : q * q = 5 * (t * t) := by
      have e : 5 * t * (5 * t) = 5 * (5 * (t * t)) := by grind
      omega
    by_cases hq : q = 0
    · subst hq
      have : t * t = 0 := by omega
      have : t = 0 := by
        rcases Int.mul_eq_zero.mp this with z | z <;> exact z
      omega
    · match n with
      | 0 => omega
      | m + 1 =>
        have := sq5 m q t (by omega) h2
        omega
/-- above nought, by the norm -/
theorem sg_one {a b : Int} : sg a b = 1 ↔ (5 * (b * b) < (2 * a + b) * (2 * a + b) ∧ 0 < 2 * a + b) ∨ ((2 * a + b) * (2 * a + b) < 5 * (b * b) ∧ 0 < b) := by
  have e5 : 5 * b * b = 5 * (b * b) := by grind
  unfold sg
  rw [e5]
  generalize hp : 2 * a + b = p
  have hs := sq5 _ p b (Nat.le_refl _)
  have pp : 0 ≤ p * p := sqnn _
  have bb : 0 ≤ b * b := sqnn _
  have z1 : p * p = 0 → p = 0 := fun h => by rcases Int.mul_eq_zero.mp h with z | z <;> exact z
  have z2 : b * b = 0 → b = 0 := fun h => by rcases Int.mul_eq_zero.mp h with z | z <;> exact z
  have y1 : p = 0 → p * p = 0 := fun h => by rw [h]; rfl
  have y2 : b = 0 → b * b = 0 := fun h => by rw [h]; rfl
  generalize p * p = x at *
  generalize b * b = y at *
  repeat' split
  all_goals omega
theorem sg_up {a b : Int} (h : sg a b = 1) : sg b (a + b) = 1 := by
  rw [sg_one] at *
  have e1 : (2 * b + (a + b)) * (2 * b + (a + b)) - 5 * ((a + b) * (a + b)) = 5 * (b * b) - (2 * a + b) * (2 * a + b) := by grind
  rcases h with ⟨h1, h2⟩ | ⟨h1, h2⟩
  · refine .inr ⟨by omega, ?_⟩
    -- p > 0, p p > 5 r r: p + r > 0
    have : -b < 2 * a + b := lt_of_sq (by omega) (by
      have e : -b * -b = b * b := by grind
      have : 0 ≤ b * b := sqnn _
      omega)
    omega
  · refine .inl ⟨by omega, ?_⟩
    have : -(2 * a + b) < 5 * b := lt_of_sq (by omega) (by
      have e : -(2 * a + b) * -(2 * a + b) = (2 * a + b) * (2 * a + b) := by grind
      have e2 : 5 * b * (5 * b) = 25 * (b * b) := by grind
      have : 0 ≤ b * b := sqnn _
      omega)
    omega
theorem sg_dn {a b : Int} (h : sg a b = 1) : sg (b - a) a = 1 := by
  rw [sg_one] at *
  have e1 : (2 * (b - a) + a) * (2 * (b - a) + a) - 5 * (a * a) = 5 * (b * b) - (2 * a + b) * (2 * a + b) := by grind
  rcases h with ⟨h1, h2⟩ | ⟨h1, h2⟩
  · refine .inr ⟨by omega, ?_⟩
    have : b < 2 * a + b := lt_of_sq (by omega) (by
      have : 0 ≤ b * b := sqnn _
      omega)
    omega
  · refine .inl ⟨by omega, ?_⟩
    have : 2 * a + b < 5 * b := lt_of_sq (by omega) (by
      have e2 : 5 * b * (5 * b) = 25 * (b * b) := by grind
      have : 0 ≤ b * b := sqnn _
      omega)
    omega
theorem sg_upn : ∀ (n : Nat) (z : Z), sg (upn n z).1 (upn n z).2 = 1 → sg z.1 z.2 = 1
  | 0, _, h => h
  | n + 1, z, h => by
    have q := sg_dn (sg_upn n (up z) h)
    have e : z.1 + z.2 - z.2 = z.1 := by omega
    have q' : sg (z.1 + z.2 - z.2) z.2 = 1 := q
    rw [e] at q'
    exact q'
theorem sg_nn {z : Z} (h : Nn z) : sg z.1 z.2 = 1 := by
  simp only [Nn] at h
  unfold sg
  rw [if_neg (by omega), if_pos (by omega)]
theorem sg_neg (a b : Int) : sg (0 - a) (0 - b) = 0 - sg a b := by
  have e1 : 5 * (0 - b) * (0 - b) = 5 * b * b := by grind
  have e2 : (2 * (0 - a) + (0 - b)) * (2 * (0 - a) + (0 - b)) = (2 * a + b) * (2 * a + b) := by grind
  have hs := sq5 _ (2 * a + b) b (Nat.le_refl _)
  have e5 : 5 * b * b = 5 * (b * b) := by grind
  unfold sg
  rw [e1, e2, e5]
  generalize hp : (2 * a + b) * (2 * a + b) = x at *
  generalize b * b = y at *
  repeat' split
  all_goals omega
theorem sg_P {z : Z} : sg z.1 z.2 = 1 ↔ P z := by
  constructor
  · intro h
    rcases tri' z with e | e | e
    · rw [e] at h; exact absurd h (by decide)
    · exact e
    · obtain ⟨n, e⟩ := e
      have q := sg_upn n _ (sg_nn e)
      have q' : sg (0 - z.1) (0 - z.2) = 1 := q
      rw [sg_neg, h] at q'
      omega
  · intro ⟨n, h⟩
    exact sg_upn n z (sg_nn h)
theorem sg_M {z : Z} : sg z.1 z.2 = -1 ↔ P (neg z) := by
  rw [← sg_P]
  show _ ↔ sg (0 - z.1) (0 - z.2) = 1
  rw [sg_neg]
  omega
theorem sg_Z {z : Z} : sg z.1 z.2 = 0 ↔ z = (0, 0) := by
  constructor
  · intro h
    rcases tri' z with e | e | e
    · exact e
    · rw [sg_P.mpr e] at h; omega
    · rw [sg_M.mpr e] at h; omega
  · intro h; rw [h]; decide
theorem sg_tri (a b : Int) : sg a b = 1 ∨ sg a b = 0 ∨ sg a b = -1 := by
  rcases tri' (a, b) with e | e | e
  · exact .inr (.inl (sg_Z.mpr e))
  · exact .inl (sg_P.mpr e)
  · exact .inr (.inr (sg_M.mpr e))
theorem neg_neg (z : Z) : neg (neg z) = z := by
  obtain ⟨a, b⟩ := z
  simp only [neg]
  exact Prod.ext (by show 0 - (0 - a) = a; omega) (by show 0 - (0 - b) = b; omega)
theorem neg_mul (z w : Z) : mul (neg z) w = neg (mul z w) := by
  simp only [mul, neg]
  exact Prod.ext (by show (0 - z.1) * w.1 + (0 - z.2) * w.2 = 0 - (z.1 * w.1 + z.2 * w.2); grind) (by show (0 - z.1) * w.2 + (0 - z.2) * w.1 + (0 - z.2) * w.2 = 0 - (z.1 * w.2 + z.2 * w.1 + z.2 * w.2); grind)
theorem mul_zero (z : Z) : mul z (0, 0) = (0, 0) := by
  simp only [mul]
  exact Prod.ext (by show z.1 * 0 + z.2 * 0 = 0; omega) (by show z.1 * 0 + z.2 * 0 + z.2 * 0 = 0; omega)
theorem sg_mul (z w : Z) : sg (mul z w).1 (mul z w).2 = sg z.1 z.2 * sg w.1 w.2 := by
  rcases tri' z with e | e | e
  · rw [e, mul_comm, mul_zero]
    show (0 : Int) = 0 * _
    omega
  · rcases tri' w with k | k | k
    · rw [k, mul_zero]
      show (0 : Int) = _ * 0
      omega
    · rw [sg_P.mpr e, sg_P.mpr k, sg_P.mpr (e.mul k)]; rfl
    · have q : P (neg (mul z w)) := by rw [mul_comm, ← neg_mul, mul_comm]; exact e.mul k
      rw [sg_P.mpr e, sg_M.mpr k, sg_M.mpr q]; rfl
  · rcases tri' w with k | k | k
    · rw [k, mul_zero]
      show (0 : Int) = _ * 0
      omega
    · have q : P (neg (mul z w)) := by rw [← neg_mul]; exact e.mul k
      rw [sg_M.mpr e, sg_P.mpr k, sg_M.mpr q]; rfl
    · have q : P (mul z w) := by
        have q := e.mul k
        rw [neg_mul, mul_comm, neg_mul, neg_neg, mul_comm] at q
        exact q
      rw [sg_M.mpr e, sg_M.mpr k, sg_P.mpr q]; rfl
theorem neg_add (z w : Z) : neg (add z w) = add (neg z) (neg w) := by
  simp only [add, neg]
  exact Prod.ext (by show 0 - (z.1 + w.1) = 0 - z.1 + (0 - w.1); omega) (by show 0 - (z.2 + w.2) = 0 - z.2 + (0 - w.2); omega)
theorem sg_add {z w : Z} (h : sg z.1 z.2 = sg w.1 w.2) : sg (add z w).1 (add z w).2 = sg z.1 z.2 := by
  rcases tri' z with e | e | e
  · have k : w = (0, 0) := sg_Z.mp (by rw [← h]; exact sg_Z.mpr e)
    rw [e, k]; rfl
  · have k : P w := sg_P.mp (by rw [← h]; exact sg_P.mpr e)
    rw [sg_P.mpr e, sg_P.mpr (e.add k)]
  · have k : P (neg w) := sg_M.mp (by rw [← h]; exact sg_M.mpr e)
    rw [sg_M.mpr e, sg_M.mpr (by rw [neg_add]; exact e.add k)]
/-- the sign by squares -/
def sq (a b : Int) : Int := (2 * a + b) * (if 2 * a + b < 0 then -(2 * a + b) else 2 * a + b) + 5 * b * (if b < 0 then -b else b)
theorem sg_sq (a b : Int) : sg a b = (if 0 < sq a b then 1 else 0) - (if sq a b < 0 then 1 else 0) := by
  have hs := sq5 _ (2 * a + b) b (Nat.le_refl _)
  have e5 : 5 * b * b = 5 * (b * b) := by grind
  have e6 : 5 * b * -b = -(5 * (b * b)) := by grind
  have e7 : (2 * a + b) * -(2 * a + b) = -((2 * a + b) * (2 * a + b)) := by grind
  have pp : 0 ≤ (2 * a + b) * (2 * a + b) := sqnn _
  have bb : 0 ≤ b * b := sqnn _
  have z1 : (2 * a + b) * (2 * a + b) = 0 → 2 * a + b = 0 := fun h => by rcases Int.mul_eq_zero.mp h with z | z <;> exact z
  have z2 : b * b = 0 → b = 0 := fun h => by rcases Int.mul_eq_zero.mp h with z | z <;> exact z
  have y1 : 2 * a + b = 0 → (2 * a + b) * (2 * a + b) = 0 := fun h => by rw [h]; rfl
  have y2 : b = 0 → b * b = 0 := fun h => by rw [h]; rfl
  unfold sg sq
  by_cases c1 : 2 * a + b < 0
  · by_cases c2 : b < 0
    · rw [if_pos c1, if_pos c2, e6, e7, e5]
      generalize (2 * a + b) * (2 * a + b) = x at *
      generalize b * b = y at *
      repeat' split
      all_goals omega
    · rw [if_pos c1, if_neg c2, e7, e5]
      generalize (2 * a + b) * (2 * a + b) = x at *
      generalize b * b = y at *
      repeat' split
      all_goals omega
  · by_cases c2 : b < 0
    · rw [if_neg c1, if_pos c2, e6, e5]
      generalize (2 * a + b) * (2 * a + b) = x at *
      generalize b * b = y at *
      repeat' split
      all_goals omega
    · rw [if_neg c1, if_neg c2, e5]
      generalize (2 * a + b) * (2 * a + b) = x at *
      generalize b * b = y at *
      repeat' split
      all_goals omega
end GM

/-! ### powers of G -/
namespace GM
def pwN : Nat → Z
  | 0 => (1, 0)
  | n + 1 => up (pwN n)
def pwD : Nat → Z
  | 0 => (1, 0)
  | n + 1 => dn (pwD n)
/-- G to the power k -/
def pw (k : Int) : Z := if 0 < k then pwN k.toNat else pwD (-k).toNat
def pwI (k : Int) (i : Nat) : Z := if 0 < k then pwN i else pwD i
theorem pwI_end (k : Int) : pwI k (if k < 0 then -k else k).toNat = pw k := by
  unfold pwI pw
  by_cases h : 0 < k
  · rw [if_pos h, if_pos h, if_neg (by omega)]
  · rw [if_neg h, if_neg h]
    by_cases h1 : k < 0
    · rw [if_pos h1]
    · have : k = 0 := by omega
      subst this; rfl
theorem pw_nat (n : Nat) : pw (n : Int) = pwN n := by
  unfold pw
  by_cases h : 0 < (n : Int)
  · rw [if_pos h]; rfl
  · have : n = 0 := by omega
    subst this; rfl
theorem pw_neg (n : Nat) : pw (-(n : Int)) = pwD n := by
  unfold pw
  rw [if_neg (by omega)]
  congr 1; omega
theorem pw_succ (k : Int) : pw (k + 1) = up (pw k) := by
  by_cases h : 0 ≤ k
  · obtain ⟨n, rfl⟩ : ∃ n : Nat, k = n := ⟨k.toNat, by omega⟩
    rw [show (n : Int) + 1 = ((n + 1 : Nat) : Int) by omega, pw_nat, pw_nat]; rfl
  · obtain ⟨n, rfl⟩ : ∃ n : Nat, k = -((n + 1 : Nat) : Int) := ⟨(-k - 1).toNat, by omega⟩
    rw [show -((n + 1 : Nat) : Int) + 1 = -(n : Int) by omega, pw_neg, pw_neg]
    show pwD n = up (dn (pwD n))
    rw [up_dn]
theorem pw_pred (k : Int) : pw (k - 1) = dn (pw k) := by
  have e := pw_succ (k - 1)
  rw [show k - 1 + 1 = k by omega] at e
  rw [e, dn_up]
theorem pw0 : pw 0 = (1, 0) := rfl
theorem P_pw (k : Int) : P (pw k) := by
  by_cases h : 0 ≤ k
  · obtain ⟨n, rfl⟩ : ∃ n : Nat, k = n := ⟨k.toNat, by omega⟩
    rw [pw_nat]
    induction n with
    | zero => exact .of (by unfold Nn; decide)
    | succ n ih => exact (ih (by omega)).up
  · obtain ⟨n, rfl⟩ : ∃ n : Nat, k = -(n : Int) := ⟨(-k).toNat, by omega⟩
    rw [pw_neg]
    clear h
    induction n with
    | zero => exact .of (by unfold Nn; decide)
    | succ n ih => exact ih.dn
theorem dn_mul (z w : Z) : dn (mul z w) = mul (dn z) w := by
  have e := up_mul (dn z) w
  rw [up_dn] at e
  rw [← e, dn_up]
theorem one_mul (z : Z) : mul (1, 0) z = z := by
  simp only [mul]
  exact Prod.ext (by show 1 * z.1 + 0 * z.2 = z.1; omega) (by show 1 * z.2 + 0 * z.1 + 0 * z.2 = z.2; omega)
theorem pw_add (i j : Int) : mul (pw i) (pw j) = pw (i + j) := by
  by_cases h : 0 ≤ i
  · obtain ⟨n, rfl⟩ : ∃ n : Nat, i = n := ⟨i.toNat, by omega⟩
    clear h
    induction n with
    | zero => rw [show ((0 : Nat) : Int) + j = j by omega]; exact one_mul _
    | succ n ih => rw [show ((n + 1 : Nat) : Int) = (n : Int) + 1 by omega, pw_succ, ← up_mul, ih, ← pw_succ]; congr 1; omega
  · obtain ⟨n, rfl⟩ : ∃ n : Nat, i = -(n : Int) := ⟨(-i).toNat, by omega⟩
    clear h
    induction n with
    | zero => rw [show -((0 : Nat) : Int) + j = j by omega]; exact one_mul _
    | succ n ih => rw [show -((n + 1 : Nat) : Int) = -(n : Int) - 1 by omega, pw_pred, ← dn_mul, ih, ← pw_pred]; congr 1; omega
/-- each one is the sum of the two ahead of it -/
theorem pw_sum (k : Int) : pw k = add (pw (k - 1)) (pw (k - 2)) := by
  have e1 : pw k = up (pw (k - 1)) := by rw [← pw_succ]; congr 1; omega
  have e2 : pw (k - 2) = dn (pw (k - 1)) := by rw [← pw_pred]; congr 1; omega
  rw [e1, e2]
  simp only [up, add, dn]
  exact Prod.ext (by show (pw (k - 1)).2 = (pw (k - 1)).1 + ((pw (k - 1)).2 - (pw (k - 1)).1); omega) (by show (pw (k - 1)).1 + (pw (k - 1)).2 = (pw (k - 1)).2 + (pw (k - 1)).1; omega)
theorem pw_more (k : Int) : P (sub (pw k) (pw (k - 1))) := by
  have e : sub (pw k) (pw (k - 1)) = pw (k - 2) := by
    rw [pw_sum k]
    simp only [sub, add]
    exact Prod.ext (by show (pw (k - 1)).1 + (pw (k - 2)).1 - (pw (k - 1)).1 = (pw (k - 2)).1; omega) (by show (pw (k - 1)).2 + (pw (k - 2)).2 - (pw (k - 1)).2 = (pw (k - 2)).2; omega)
  rw [e]
  exact P_pw _
/-- sizes -/
theorem pwN_size : ∀ n : Nat, (pwN n).1.natAbs < 2 ^ (n + 1) ∧ (pwN n).2.natAbs < 2 ^ (n + 1)
  | 0 => by decide
  | n + 1 => by
    have q := pwN_size n
    have e : 2 ^ (n + 1 + 1) = 2 * 2 ^ (n + 1) := by rw [Nat.pow_succ]; omega
    rw [e]
    show (pwN n).2.natAbs < _ ∧ ((pwN n).1 + (pwN n).2).natAbs < _
    omega
theorem pwD_size : ∀ n : Nat, (pwD n).1.natAbs < 2 ^ (n + 1) ∧ (pwD n).2.natAbs < 2 ^ (n + 1)
  | 0 => by decide
  | n + 1 => by
    have q := pwD_size n
    have e : 2 ^ (n + 1 + 1) = 2 * 2 ^ (n + 1) := by rw [Nat.pow_succ]; omega
    rw [e]
    show ((pwD n).2 - (pwD n).1).natAbs < _ ∧ (pwD n).1.natAbs < _
    omega
theorem pwI_size (k : Int) (n : Nat) : (pwI k n).1.natAbs < 2 ^ (n + 1) ∧ (pwI k n).2.natAbs < 2 ^ (n + 1) := by
  unfold pwI
  split
  · exact pwN_size n
  · exact pwD_size n
theorem pw_size {k : Int} {n : Nat} (h : k.natAbs < n) : (pw k).1.natAbs < 2 ^ n ∧ (pw k).2.natAbs < 2 ^ n := by
  rw [← pwI_end]
  have q := pwI_size k (if k < 0 then -k else k).toNat
  have e : (if k < 0 then -k else k).toNat + 1 ≤ n := by split <;> omega
  have e2 : 2 ^ ((if k < 0 then -k else k).toNat + 1) ≤ 2 ^ n := Nat.pow_le_pow_right (by decide) e
  omega
end GM

/-! ### lists of places, their sums -/
namespace GM
def sumP : List Int → Z
  | [] => (0, 0)
  | k :: r => add (pw k) (sumP r)
theorem add_zero (z : Z) : add z (0, 0) = z := by
  simp only [add]
  exact Prod.ext (by show z.1 + 0 = z.1; omega) (by show z.2 + 0 = z.2; omega)
theorem zero_add (z : Z) : add (0, 0) z = z := by
  simp only [add]
  exact Prod.ext (by show 0 + z.1 = z.1; omega) (by show 0 + z.2 = z.2; omega)
theorem add_assoc (x y z : Z) : add (add x y) z = add x (add y z) := by
  simp only [add]
  exact Prod.ext (by show x.1 + y.1 + z.1 = x.1 + (y.1 + z.1); omega) (by show x.2 + y.2 + z.2 = x.2 + (y.2 + z.2); omega)
theorem add_comm (x y : Z) : add x y = add y x := by
  simp only [add]
  exact Prod.ext (by show x.1 + y.1 = y.1 + x.1; omega) (by show x.2 + y.2 = y.2 + x.2; omega)
theorem sumP_app : ∀ xs ys : List Int, sumP (xs ++ ys) = add (sumP xs) (sumP ys)
  | [], ys => (zero_add _).symm
  | k :: r, ys => by
    show add (pw k) (sumP (r ++ ys)) = add (add (pw k) (sumP r)) (sumP ys)
    rw [sumP_app r ys, add_assoc]
theorem sumP_rev : ∀ xs : List Int, sumP xs.reverse = sumP xs
  | [] => rfl
  | k :: r => by
    rw [List.reverse_cons, sumP_app, sumP_rev r]
    show add (sumP r) (add (pw k) (0, 0)) = add (pw k) (sumP r)
    rw [add_zero, add_comm]
theorem sumP_take {xs : List Int} {i : Nat} {k : Int} (h : xs[i]? = some k) : sumP (xs.take (i + 1)) = add (sumP (xs.take i)) (pw k) := by
  rw [List.take_add_one, h, sumP_app]
  show add _ (add (pw k) (0, 0)) = _
  rw [add_zero]
theorem sumP_size {n m : Nat} : ∀ xs : List Int, (∀ k ∈ xs, k.natAbs < n) → xs.length ≤ m → (sumP xs).1.natAbs < 2 ^ (n + m) ∧ (sumP xs).2.natAbs < 2 ^ (n + m) := by
  have main : ∀ xs : List Int, (∀ k ∈ xs, k.natAbs < n) → (sumP xs).1.natAbs < 2 ^ (n + xs.length) ∧ (sumP xs).2.natAbs < 2 ^ (n + xs.length) := by
    intro xs
    induction xs with
    | nil => intro _; exact ⟨Nat.pow_pos (by decide), Nat.pow_pos (by decide)⟩
    | cons k r ih =>
      intro h
      have q := ih (fun j hj => h j (List.mem_cons_of_mem _ hj))
      have p := pw_size (h k List.mem_cons_self)
      have e : 2 ^ (n + (k :: r).length) = 2 * 2 ^ (n + r.length) := by
        rw [List.length_cons, show n + (r.length + 1) = (n + r.length) + 1 by omega, Nat.pow_succ]; omega
      have e2 : 2 ^ n ≤ 2 ^ (n + r.length) := Nat.pow_le_pow_right (by decide) (by omega)
      rw [e]
      show ((pw k).1 + (sumP r).1).natAbs < _ ∧ ((pw k).2 + (sumP r).2).natAbs < _
      omega
  intro xs h hm
  have q := main xs h
  have e2 : 2 ^ (n + xs.length) ≤ 2 ^ (n + m) := Nat.pow_le_pow_right (by decide) (by omega)
  omega
/-- each less by two or more than the one ahead -/
def gap : List Int → Bool
  | x :: y :: r => decide (y + 2 ≤ x) && gap (y :: r)
  | _ => true
/-- a row: the loop's own words -/
def rowAt (xs : List Int) (k : Nat) : Bool :=
  !(decide (80 < xs.getD k 0) || decide (xs.getD k 0 < -80) || (decide (0 < k) && decide (xs.getD (k - 1) 0 - xs.getD k 0 < 2)))
def isRow (xs : List Int) : Bool := (List.range xs.length).all (rowAt xs)
theorem isRow_iff {xs : List Int} : isRow xs = true ↔ ∀ k, k < xs.length → rowAt xs k = true := by
  unfold isRow
  rw [List.all_eq_true]
  exact ⟨fun h k hk => h k (List.mem_range.mpr hk), fun h k hk => h k (List.mem_range.mp hk)⟩
theorem gap_iff : ∀ {xs : List Int}, gap xs = true ↔ ∀ k, k + 1 < xs.length → 2 ≤ xs.getD k 0 - xs.getD (k + 1) 0
  | [] => ⟨fun _ k hk => by simp at hk, fun _ => rfl⟩
  | [_] => ⟨fun _ k hk => by simp at hk, fun _ => rfl⟩
  | x :: y :: r => by
    show (decide (y + 2 ≤ x) && gap (y :: r)) = true ↔ _
    rw [Bool.and_eq_true, decide_eq_true_eq, gap_iff]
    constructor
    · intro ⟨h1, h2⟩ k hk
      match k with
      | 0 => show 2 ≤ x - y; omega
      | k + 1 => exact h2 k (by simp at hk ⊢; omega)
    · intro h
      refine ⟨?_, fun k hk => h (k + 1) (by simp at hk ⊢; omega)⟩
      have : 2 ≤ x - y := h 0 (by simp)
      omega
theorem rowAt_iff {xs : List Int} {k : Nat} : rowAt xs k = true ↔ xs.getD k 0 ≤ 80 ∧ -80 ≤ xs.getD k 0 ∧ (0 < k → 2 ≤ xs.getD (k - 1) 0 - xs.getD k 0) := by
  unfold rowAt
  simp only [Bool.not_eq_true', Bool.or_eq_false_iff, Bool.and_eq_false_iff, decide_eq_false_iff_not]
  omega
theorem isRow_gap {xs : List Int} : isRow xs = true ↔ gap xs = true ∧ ∀ k ∈ xs, -80 ≤ k ∧ k ≤ 80 := by
  rw [isRow_iff, gap_iff]
  have D : ∀ k, k < xs.length → xs.getD k 0 ∈ xs := fun k hk => by
    rw [List.getD_eq_getElem?_getD, List.getElem?_eq_getElem hk]; exact List.getElem_mem hk
  constructor
  · intro h
    refine ⟨fun k hk => ?_, fun v hv => ?_⟩
    · exact (rowAt_iff.mp (h (k + 1) hk)).2.2 (by omega)
    · obtain ⟨k, hk, rfl⟩ := List.getElem_of_mem hv
      have q := rowAt_iff.mp (h k hk)
      have e : xs.getD k 0 = xs[k] := by rw [List.getD_eq_getElem?_getD, List.getElem?_eq_getElem hk]; rfl
      rw [e] at q
      omega
  · intro ⟨h1, h2⟩ k hk
    have q := h2 _ (D k hk)
    refine rowAt_iff.mpr ⟨q.2, q.1, fun h0 => ?_⟩
    match k, h0 with
    | k + 1, _ => exact h1 k hk
end GM

/-! ### the order of rows, the greedy row -/
namespace GM
/-- z is less than w -/
def lt (z w : Z) : Prop := P (sub w z)
def le (z w : Z) : Prop := ¬ P (sub z w)
theorem sub_add_cancel (x y : Z) : add (sub x y) y = x := by
  obtain ⟨a, b⟩ := x; obtain ⟨c, d⟩ := y
  simp only [add, sub]
  exact Prod.ext (by show a - c + c = a; omega) (by show b - d + d = b; omega)
theorem neg_sub (x y : Z) : neg (sub x y) = sub y x := by
  simp only [neg, sub]
  exact Prod.ext (by show 0 - (x.1 - y.1) = y.1 - x.1; omega) (by show 0 - (x.2 - y.2) = y.2 - x.2; omega)
theorem sub_self (x : Z) : sub x x = (0, 0) := by
  simp only [sub]
  exact Prod.ext (by show x.1 - x.1 = 0; omega) (by show x.2 - x.2 = 0; omega)
theorem sub_eq0 {x y : Z} (h : sub x y = (0, 0)) : x = y := by
  have h1 : x.1 - y.1 = 0 := congrArg Prod.fst h
  have h2 : x.2 - y.2 = 0 := congrArg Prod.snd h
  exact Prod.ext (by omega) (by omega)
theorem lt_irrefl (x : Z) : ¬ lt x x := by unfold lt; rw [sub_self]; exact not_P0
theorem lt_trans {x y z : Z} (h : lt x y) (k : lt y z) : lt x z := by
  unfold lt at *
  have q := h.add k
  have e : add (sub y x) (sub z y) = sub z x := by
    simp only [add, sub]
    exact Prod.ext (by show y.1 - x.1 + (z.1 - y.1) = z.1 - x.1; omega) (by show y.2 - x.2 + (z.2 - y.2) = z.2 - x.2; omega)
  rw [e] at q; exact q
theorem lt_asymm {x y : Z} (h : lt x y) : ¬ lt y x := fun k => lt_irrefl x (lt_trans h k)
theorem lt_tri (x y : Z) : x = y ∨ lt x y ∨ lt y x := by
  rcases tri' (sub x y) with e | e | e
  · exact .inl (sub_eq0 e)
  · exact .inr (.inr e)
  · rw [neg_sub] at e; exact .inr (.inl e)
theorem not_lt {x y : Z} : ¬ lt x y ↔ x = y ∨ lt y x := by
  constructor
  · intro h
    rcases lt_tri x y with e | e | e
    · exact .inl e
    · exact absurd e h
    · exact .inr e
  · rintro (rfl | h)
    · exact lt_irrefl _
    · exact lt_asymm h
theorem lt_add {x y z w : Z} (h : lt x y) (k : lt z w) : lt (add x z) (add y w) := by
  unfold lt at *
  have q := h.add k
  have e : add (sub y x) (sub w z) = sub (add y w) (add x z) := by
    simp only [add, sub]
    exact Prod.ext (by show y.1 - x.1 + (w.1 - z.1) = y.1 + w.1 - (x.1 + z.1); omega) (by show y.2 - x.2 + (w.2 - z.2) = y.2 + w.2 - (x.2 + z.2); omega)
  rw [e] at q; exact q
theorem lt_addl {x y : Z} (z : Z) (h : lt x y) : lt (add z x) (add z y) := by
  unfold lt at *
  have e : sub (add z y) (add z x) = sub y x := by
    simp only [add, sub]
    exact Prod.ext (by show z.1 + y.1 - (z.1 + x.1) = y.1 - x.1; omega) (by show z.2 + y.2 - (z.2 + x.2) = y.2 - x.2; omega)
  rw [e]; exact h
theorem pw_lt_succ (k : Int) : lt (pw k) (pw (k + 1)) := by
  have h := pw_more (k + 1)
  rw [show k + 1 - 1 = k by omega] at h
  exact h
theorem pw_lt {i j : Int} (h : i < j) : lt (pw i) (pw j) := by
  obtain ⟨n, rfl⟩ : ∃ n : Nat, j = i + 1 + n := ⟨(j - i - 1).toNat, by omega⟩
  clear h
  induction n with
  | zero => rw [show i + 1 + ((0 : Nat) : Int) = i + 1 by omega]; exact pw_lt_succ i
  | succ n ih => exact lt_trans ih (by rw [show i + 1 + ((n + 1 : Nat) : Int) = (i + 1 + n) + 1 by omega]; exact pw_lt_succ _)
theorem zero_lt {z : Z} : lt (0, 0) z ↔ P z := by
  unfold lt
  have e : sub z (0, 0) = z := by simp only [sub]; exact Prod.ext (by show z.1 - 0 = z.1; omega) (by show z.2 - 0 = z.2; omega)
  rw [e]
/-- a row's sum is less than the power above its greatest place -/
theorem sum_lt : ∀ (r : List Int) (k : Int), gap (k :: r) = true → lt (sumP (k :: r)) (pw (k + 1))
  | [], k, _ => by
    show lt (add (pw k) (0, 0)) _
    rw [add_zero]; exact pw_lt_succ k
  | j :: r, k, g => by
    have g' : (decide (j + 2 ≤ k) && gap (j :: r)) = true := g
    rw [Bool.and_eq_true, decide_eq_true_eq] at g'
    have ih := sum_lt r j g'.2
    show lt (add (pw k) (sumP (j :: r))) _
    have e : pw (k + 1) = add (pw k) (pw (k - 1)) := by
      have q := pw_sum (k + 1)
      rw [show k + 1 - 1 = k by omega, show k + 1 - 2 = k - 1 by omega] at q
      exact q
    rw [e]
    refine lt_addl _ ?_
    by_cases c : j + 1 = k - 1
    · rw [← c]; exact ih
    · exact lt_trans ih (pw_lt (by omega))
theorem sum_nn : ∀ (r : List Int), sumP r = (0, 0) ∨ P (sumP r)
  | [] => .inl rfl
  | k :: r => .inr (by
    show P (add (pw k) (sumP r))
    rcases sum_nn r with e | e
    · rw [e, add_zero]; exact P_pw k
    · exact (P_pw k).add e)
theorem sum_pos (k : Int) (r : List Int) : P (sumP (k :: r)) := by
  show P (add (pw k) (sumP r))
  rcases sum_nn r with e | e
  · rw [e, add_zero]; exact P_pw k
  · exact (P_pw k).add e
theorem gap_tail {k : Int} {r : List Int} (g : gap (k :: r) = true) : gap r = true := by
  cases r with
  | nil => rfl
  | cons j r =>
    have g' : (decide (j + 2 ≤ k) && gap (j :: r)) = true := g
    rw [Bool.and_eq_true] at g'
    exact g'.2
/-- the program's order of lists is that of their sums -/
def lexLt : List Int → List Int → Bool
  | [], [] => false
  | [], _ :: _ => true
  | _ :: _, [] => false
  | x :: xs, y :: ys => if x = y then lexLt xs ys else decide (x < y)
theorem lex_lt : ∀ xs ys : List Int, gap xs = true → gap ys = true → lexLt xs ys = true → lt (sumP xs) (sumP ys)
  | [], [], _, _, h => by cases h
  | [], y :: ys, _, _, _ => zero_lt.mpr (sum_pos y ys)
  | _ :: _, [], _, _, h => by cases h
  | x :: xs, y :: ys, gx, gy, h => by
    have h' : (if x = y then lexLt xs ys else decide (x < y)) = true := h
    by_cases c : x = y
    · rw [if_pos c] at h'
      subst c
      exact lt_addl _ (lex_lt xs ys (gap_tail gx) (gap_tail gy) h')
    · rw [if_neg c, decide_eq_true_eq] at h'
      have a := sum_lt xs x gx
      -- the power above x is at most y's
      have b : pw (x + 1) = pw y ∨ lt (pw (x + 1)) (pw y) := by
        by_cases d : x + 1 = y
        · rw [d]; exact .inl rfl
        · exact .inr (pw_lt (by omega))
      have e : pw y = sumP (y :: ys) ∨ lt (pw y) (sumP (y :: ys)) := by
        rcases sum_nn ys with z | z
        · left; show _ = add (pw y) (sumP ys); rw [z, add_zero]
        · right
          have q := lt_addl (pw y) (zero_lt.mpr z)
          rw [add_zero] at q; exact q
      rcases b with b | b
      · rw [b] at a
        rcases e with e | e
        · rw [← e]; exact a
        · exact lt_trans a e
      · have a2 := lt_trans a b
        rcases e with e | e
        · rw [← e]; exact a2
        · exact lt_trans a2 e
theorem lex_tri : ∀ xs ys : List Int, xs = ys ∨ lexLt xs ys = true ∨ lexLt ys xs = true
  | [], [] => .inl rfl
  | [], _ :: _ => .inr (.inl rfl)
  | _ :: _, [] => .inr (.inr rfl)
  | x :: xs, y :: ys => by
    by_cases c : x = y
    · subst c
      rcases lex_tri xs ys with h | h | h
      · left; rw [h]
      · right; left; show (if x = x then lexLt xs ys else _) = true; rw [if_pos rfl]; exact h
      · right; right; show (if x = x then lexLt ys xs else _) = true; rw [if_pos rfl]; exact h
    · right
      by_cases d : x < y
      · left; show (if x = y then lexLt xs ys else decide (x < y)) = true; rw [if_neg c, decide_eq_true d]
      · right; show (if y = x then lexLt ys xs else decide (y < x)) = true; rw [if_neg (fun z => c z.symm), decide_eq_true (by omega)]
/-- just one row each -/
theorem row_one {xs ys : List Int} (gx : gap xs = true) (gy : gap ys = true) (h : sumP xs = sumP ys) : xs = ys := by
  rcases lex_tri xs ys with e | e | e
  · exact e
  · have q := lex_lt xs ys gx gy e
    rw [h] at q; exact absurd q (lt_irrefl _)
  · have q := lex_lt ys xs gy gx e
    rw [h] at q; exact absurd q (lt_irrefl _)
end GM

/-! ### each number not below nought has a row; how far it goes -/
namespace GM
theorem mul_add (x y z : Z) : mul x (add y z) = add (mul x y) (mul x z) := by
  simp only [mul, add]
  exact Prod.ext (by show x.1 * (y.1 + z.1) + x.2 * (y.2 + z.2) = x.1 * y.1 + x.2 * y.2 + (x.1 * z.1 + x.2 * z.2); grind) (by show x.1 * (y.2 + z.2) + x.2 * (y.1 + z.1) + x.2 * (y.2 + z.2) = x.1 * y.2 + x.2 * y.1 + x.2 * y.2 + (x.1 * z.2 + x.2 * z.1 + x.2 * z.2); grind)
theorem mul_sub (x y z : Z) : mul x (sub y z) = sub (mul x y) (mul x z) := by
  simp only [mul, sub]
  exact Prod.ext (by show x.1 * (y.1 - z.1) + x.2 * (y.2 - z.2) = x.1 * y.1 + x.2 * y.2 - (x.1 * z.1 + x.2 * z.2); grind) (by show x.1 * (y.2 - z.2) + x.2 * (y.1 - z.1) + x.2 * (y.2 - z.2) = x.1 * y.2 + x.2 * y.1 + x.2 * y.2 - (x.1 * z.2 + x.2 * z.1 + x.2 * z.2); grind)
theorem sumP_shift (c : Int) : ∀ r : List Int, sumP (r.map (fun k => c + k)) = mul (pw c) (sumP r)
  | [] => (mul_zero _).symm
  | k :: r => by
    show add (pw (c + k)) (sumP (r.map _)) = mul (pw c) (add (pw k) (sumP r))
    rw [sumP_shift c r, mul_add, pw_add]
theorem gap_shift (c : Int) : ∀ r : List Int, gap (r.map (fun k => c + k)) = gap r
  | [] => rfl
  | [_] => rfl
  | x :: y :: r => by
    show (decide (c + y + 2 ≤ c + x) && gap ((y :: r).map _)) = (decide (y + 2 ≤ x) && gap (y :: r))
    rw [gap_shift c (y :: r)]
    congr 1
    by_cases h : y + 2 ≤ x
    · rw [decide_eq_true h, decide_eq_true (by omega)]
    · rw [decide_eq_false h, decide_eq_false (by omega)]
/-- head of a row whose sum is small -/
theorem head_le {r : List Int} {c : Int} (g : gap r = true) (h : lt (sumP r) (pw c)) : ∀ k ∈ r, k < c := by
  match r with
  | [] => intro k hk; cases hk
  | x :: r =>
    have hx : x < c := by
      by_cases d : x < c
      · exact d
      · -- pw c ≤ pw x ≤ the sum
        have a : pw c = pw x ∨ lt (pw c) (pw x) := by
          by_cases e : c = x
          · rw [e]; exact .inl rfl
          · exact .inr (pw_lt (by omega))
        have b : pw x = sumP (x :: r) ∨ lt (pw x) (sumP (x :: r)) := by
          rcases sum_nn r with z | z
          · left; show _ = add (pw x) (sumP r); rw [z, add_zero]
          · right
            have q := lt_addl (pw x) (zero_lt.mpr z)
            rw [add_zero] at q; exact q
        have k : lt (pw c) (sumP (x :: r)) ∨ pw c = sumP (x :: r) := by
          rcases a with a | a <;> rcases b with b | b
          · right; rw [a, b]
          · left; rw [a]; exact b
          · left; rw [← b]; exact a
          · left; exact lt_trans a b
        rcases k with k | k
        · exact absurd (lt_trans h k) (lt_irrefl _)
        · rw [k] at h; exact absurd h (lt_irrefl _)
    have all : ∀ (r : List Int) (x : Int), gap (x :: r) = true → ∀ k ∈ r, k < x := by
      intro r
      induction r with
      | nil => intro x _ k hk; cases hk
      | cons y r ih =>
        intro x g k hk
        have g' : (decide (y + 2 ≤ x) && gap (y :: r)) = true := g
        rw [Bool.and_eq_true, decide_eq_true_eq] at g'
        rcases List.mem_cons.mp hk with rfl | hk
        · omega
        · have := ih y g'.2 k hk; omega
    intro k hk
    rcases List.mem_cons.mp hk with rfl | hk
    · exact hx
    · have := all r x g k hk; omega
theorem gap_cons {x : Int} {r : List Int} (g : gap r = true) (h : ∀ k ∈ r, k + 2 ≤ x) : gap (x :: r) = true := by
  cases r with
  | nil => rfl
  | cons y r =>
    show (decide (y + 2 ≤ x) && gap (y :: r)) = true
    rw [Bool.and_eq_true, decide_eq_true_eq]
    exact ⟨h y List.mem_cons_self, g⟩
theorem P_nn_not {z : Z} (h : 0 ≤ z.1) (k : 0 ≤ z.2) : ¬ P (neg z) := by
  intro p
  by_cases c : z.1 = 0 ∧ z.2 = 0
  · have e : neg z = (0, 0) := by simp only [neg]; exact Prod.ext (by show 0 - z.1 = 0; omega) (by show 0 - z.2 = 0; omega)
    rw [e] at p; exact not_P0 p
  · exact (P.of (z := z) ⟨h, k, by omega⟩).asym p
theorem not_P_np {z : Z} (h : z.1 ≤ 0) (k : z.2 ≤ 0) : ¬ P z := by
  intro p
  have := P_nn_not (z := neg z) (by show 0 ≤ 0 - z.1; omega) (by show 0 ≤ 0 - z.2; omega)
  rw [neg_neg] at this
  exact this p
theorem exists_row : ∀ (n : Nat) (u : Z), u.1.natAbs + u.2.natAbs ≤ n → P u → lt u (0, 1) → ∃ r, gap r = true ∧ sumP r = u ∧ ∀ k ∈ r, k ≤ 0
  | n, (a, b), hn, hp, hl => by
    -- not both parts below or at nought; below G
    have h1 : ¬ (a ≤ 0 ∧ b ≤ 0) := fun h => not_P_np h.1 h.2 hp
    have h2 : ¬ (0 ≤ a ∧ 1 ≤ b) := fun h => by
      have q : lt (a, b) (0, 1) := hl
      unfold lt at q
      exact not_P_np (z := sub (0, 1) (a, b)) (by show 0 - a ≤ 0; omega) (by show 1 - b ≤ 0; omega) q
    have hn' : a.natAbs + b.natAbs ≤ n := hn
    by_cases c : lt (a, b) (1, 0)
    · -- the place 0 is not taken: a step up
      have h3 : ¬ (1 ≤ a ∧ 0 ≤ b) := fun h => by
        unfold lt at c
        exact not_P_np (z := sub (1, 0) (a, b)) (by show 1 - a ≤ 0; omega) (by show 0 - b ≤ 0; omega) c
      have hu : lt (up (a, b)) (0, 1) := by
        unfold lt at c ⊢
        have q := c.up
        have e : up (sub (1, 0) (a, b)) = sub (0, 1) (up (a, b)) := by
          simp only [up, sub]
          exact Prod.ext rfl (by show 1 - a + (0 - b) = 1 - (a + b); omega)
        rw [e] at q; exact q
      have hpu : P (up (a, b)) := hp.up
      have h4 : ¬ (b ≤ 0 ∧ a + b ≤ 0) := fun h => not_P_np (z := up (a, b)) h.1 h.2 hpu
      have h5 : ¬ (0 ≤ b ∧ 1 ≤ a + b) := fun h => by
        unfold lt at hu
        exact not_P_np (z := sub (0, 1) (up (a, b))) (by show 0 - b ≤ 0; omega) (by show 1 - (a + b) ≤ 0; omega) hu
      have dec : b.natAbs + (a + b).natAbs < n := by omega
      match n, dec with
      | m + 1, dec =>
        obtain ⟨r, g, s, k⟩ := exists_row m (up (a, b)) (by show b.natAbs + (a + b).natAbs ≤ m; omega) hpu hu
        refine ⟨r.map (fun k => -1 + k), by rw [gap_shift]; exact g, ?_, ?_⟩
        · rw [sumP_shift, s]
          have e : mul (pw (-1)) (up (a, b)) = dn (up (a, b)) := by
            have q := dn_mul (1, 0) (up (a, b))
            rw [one_mul] at q
            exact q.symm
          rw [e, dn_up]
        · intro k' hk'
          obtain ⟨j, hj, rfl⟩ := List.mem_map.mp hk'
          have := k j hj
          omega
    · -- the place 0 is taken
      have c' : (a, b) = (1, 0) ∨ lt (1, 0) (a, b) := not_lt.mp c
      rcases c' with e | c'
      · exact ⟨[0], rfl, by rw [e]; rfl, fun k hk => by rw [List.mem_singleton] at hk; omega⟩
      · have hp' : P (a - 1, b) := by
          unfold lt at c'
          have e : sub (a, b) (1, 0) = (a - 1, b) := by simp only [sub]; exact Prod.ext rfl (by show b - 0 = b; omega)
          rw [e] at c'; exact c'
        have hl' : lt (a - 1, b) (pw (-1)) := by
          unfold lt at hl ⊢
          have e : sub (pw (-1)) (a - 1, b) = sub (0, 1) (a, b) := by
            rw [show pw (-1) = (-1, 1) from by decide]
            simp only [sub]
            exact Prod.ext (by show -1 - (a - 1) = 0 - a; omega) rfl
          rw [e]; exact hl
        have hu : lt (up (a - 1, b)) (1, 0) := by
          unfold lt at hl' ⊢
          have q := hl'.up
          have e : up (sub (pw (-1)) (a - 1, b)) = sub (1, 0) (up (a - 1, b)) := by
            rw [show pw (-1) = (-1, 1) from by decide]
            simp only [up, sub]
            exact Prod.ext rfl (by show -1 - (a - 1) + (1 - b) = 0 - (a - 1 + b); omega)
          rw [e] at q; exact q
        have hu2 : lt (up (a - 1, b)) (0, 1) := lt_trans hu (pw_lt (i := 0) (j := 1) (by decide))
        have hpu : P (up (a - 1, b)) := hp'.up
        have h4 : ¬ (b ≤ 0 ∧ a - 1 + b ≤ 0) := fun h => not_P_np (z := up (a - 1, b)) h.1 h.2 hpu
        have h5 : ¬ (1 ≤ b ∧ 0 ≤ a - 1 + b) := fun h => by
          unfold lt at hu
          exact not_P_np (z := sub (1, 0) (up (a - 1, b))) (by show 1 - b ≤ 0; omega) (by show 0 - (a - 1 + b) ≤ 0; omega) hu
        have h6 : ¬ (a - 1 ≤ 0 ∧ b ≤ 0) := fun h => not_P_np (z := (a - 1, b)) h.1 h.2 hp'
        have h7 : ¬ (a ≤ -1 ∧ b ≤ 1) := fun h => by
          -- above 1, but below nought
          unfold lt at c'
          have e : P (sub (-1, 1) (1, 0)) := by
            have q : P (add (sub (a, b) (1, 0)) (sub (-1, 1) (a, b))) ∨ (a, b) = (-1, 1) := by
              by_cases e : (a, b) = (-1, 1)
              · exact .inr e
              · have n : Nn (sub (-1, 1) (a, b)) := by
                  have h1 : ¬ (a = -1 ∧ b = 1) := fun h => e (Prod.ext h.1 h.2)
                  exact ⟨by show 0 ≤ -1 - a; omega, by show 0 ≤ 1 - b; omega, by show 0 < -1 - a + (1 - b); omega⟩
                exact .inl (c'.add (.of n))
            rcases q with q | q
            · have e : add (sub (a, b) (1, 0)) (sub (-1, 1) (a, b)) = sub (-1, 1) (1, 0) := by
                simp only [add, sub]
                exact Prod.ext (by show a - 1 + (-1 - a) = -1 - 1; omega) (by show b - 0 + (1 - b) = 1 - 0; omega)
              rw [e] at q; exact q
            · rw [q] at c'; exact c'
          have f : P (neg (sub (-1, 1) (1, 0))) := ⟨2, by unfold Nn; decide⟩
          exact e.asym f
        have dec : b.natAbs + (a - 1 + b).natAbs < n := by omega
        match n, dec with
        | m + 1, dec =>
          obtain ⟨r, g, s, k⟩ := exists_row m (up (a - 1, b)) (by show b.natAbs + (a - 1 + b).natAbs ≤ m; omega) hpu hu2
          have k1 : ∀ k ∈ r, k < 0 := head_le g (by rw [s]; exact hu)
          refine ⟨0 :: r.map (fun k => -1 + k), gap_cons (by rw [gap_shift]; exact g) ?_, ?_, ?_⟩
          · intro k' hk'
            obtain ⟨j, hj, rfl⟩ := List.mem_map.mp hk'
            have := k1 j hj
            omega
          · show add (pw 0) (sumP (r.map _)) = (a, b)
            rw [sumP_shift, s]
            have e : mul (pw (-1)) (up (a - 1, b)) = dn (up (a - 1, b)) := by
              have q := dn_mul (1, 0) (up (a - 1, b))
              rw [one_mul] at q
              exact q.symm
            rw [e, dn_up]
            simp only [pw0, add]
            exact Prod.ext (by show 1 + (a - 1) = a; omega) (by show 0 + b = b; omega)
          · intro k' hk'
            rcases List.mem_cons.mp hk' with rfl | hk'
            · omega
            · obtain ⟨j, hj, rfl⟩ := List.mem_map.mp hk'
              have := k1 j hj
              omega
/-- the row of a number below a power -/
theorem has_row {z : Z} {K : Int} (h : z = (0, 0) ∨ P z) (hl : lt z (pw K)) : ∃ r, gap r = true ∧ sumP r = z ∧ ∀ k ∈ r, k < K := by
  rcases h with e | h
  · exact ⟨[], rfl, e.symm, fun k hk => nomatch hk⟩
  · have hp := (P_pw (1 - K)).mul h
    have hl' : lt (mul (pw (1 - K)) z) (0, 1) := by
      unfold lt at hl ⊢
      have q := (P_pw (1 - K)).mul hl
      rw [mul_sub, pw_add, show 1 - K + K = 1 by omega] at q
      exact q
    obtain ⟨r, g, s, _⟩ := exists_row _ _ (Nat.le_refl _) hp hl'
    have g2 : gap (r.map (fun k => (K - 1) + k)) = true := by rw [gap_shift]; exact g
    have s2 : sumP (r.map (fun k => (K - 1) + k)) = z := by
      rw [sumP_shift, s]
      have e : mul (pw (K - 1)) (mul (pw (1 - K)) z) = mul (mul (pw (K - 1)) (pw (1 - K))) z := by
        simp only [mul]
        exact Prod.ext (by grind) (by grind)
      rw [e, pw_add, show K - 1 + (1 - K) = 0 by omega, pw0, one_mul]
    exact ⟨_, g2, s2, head_le g2 (by rw [s2]; exact hl)⟩

/-! the other one -/
def cj (z : Z) : Z := (z.1 + z.2, 0 - z.2)
theorem cj_add (z w : Z) : cj (add z w) = add (cj z) (cj w) := by
  simp only [cj, add]
  exact Prod.ext (by show z.1 + w.1 + (z.2 + w.2) = z.1 + z.2 + (w.1 + w.2); omega) (by show 0 - (z.2 + w.2) = 0 - z.2 + (0 - w.2); omega)
theorem cj_up (z : Z) : cj (up z) = neg (dn (cj z)) := by
  simp only [cj, up, dn, neg]
  exact Prod.ext (by show z.2 + (z.1 + z.2) = 0 - (0 - z.2 - (z.1 + z.2)); omega) (by show 0 - (z.1 + z.2) = 0 - (z.1 + z.2); rfl)
theorem cj_dn (z : Z) : cj (dn z) = neg (up (cj z)) := by
  simp only [cj, up, dn, neg]
  exact Prod.ext (by show z.2 - z.1 + z.1 = 0 - (0 - z.2); omega) (by show 0 - z.1 = 0 - (z.1 + z.2 + (0 - z.2)); omega)
theorem dn_neg (z : Z) : dn (neg z) = neg (dn z) := by
  simp only [dn, neg]
  exact Prod.ext (by show 0 - z.2 - (0 - z.1) = 0 - (z.2 - z.1); omega) rfl
theorem up_neg (z : Z) : up (neg z) = neg (up z) := by
  simp only [up, neg]
  exact Prod.ext rfl (by show 0 - z.1 + (0 - z.2) = 0 - (z.1 + z.2); omega)
theorem cj_pw (k : Int) : cj (pw k) = pw (-k) ∨ cj (pw k) = neg (pw (-k)) := by
  by_cases h : 0 ≤ k
  · obtain ⟨n, rfl⟩ : ∃ n : Nat, k = n := ⟨k.toNat, by omega⟩
    clear h
    induction n with
    | zero => left; decide
    | succ n ih =>
      have e : pw (-((n + 1 : Nat) : Int)) = dn (pw (-(n : Int))) := by rw [← pw_pred]; congr 1; omega
      rw [show (((n + 1 : Nat)) : Int) = (n : Int) + 1 by omega] at *
      rw [pw_succ, cj_up]
      rcases ih with ih | ih
      · right; rw [ih, e]
      · left; rw [ih, dn_neg, neg_neg, e]
  · obtain ⟨n, rfl⟩ : ∃ n : Nat, k = -(n : Int) := ⟨(-k).toNat, by omega⟩
    clear h
    induction n with
    | zero => left; decide
    | succ n ih =>
      have e : pw (-((n + 1 : Nat) : Int)) = dn (pw (-(n : Int))) := by rw [← pw_pred]; congr 1; omega
      have e2 : pw (- -((n + 1 : Nat) : Int)) = up (pw (- -(n : Int))) := by rw [← pw_succ]; congr 1; omega
      rw [e, e2, cj_dn]
      rcases ih with ih | ih
      · right; rw [ih]
      · left; rw [ih, up_neg, neg_neg]
theorem neg_lt_neg {x y : Z} (h : lt x y) : lt (neg y) (neg x) := by
  unfold lt at *
  have e : sub (neg x) (neg y) = sub y x := by
    simp only [sub, neg]
    exact Prod.ext (by show 0 - x.1 - (0 - y.1) = y.1 - x.1; omega) (by show 0 - x.2 - (0 - y.2) = y.2 - x.2; omega)
  rw [e]; exact h
theorem neg_pw_lt (i j : Int) : lt (neg (pw i)) (pw j) := by
  unfold lt
  have e : sub (pw j) (neg (pw i)) = add (pw j) (pw i) := by
    simp only [sub, neg, add]
    exact Prod.ext (by show (pw j).1 - (0 - (pw i).1) = (pw j).1 + (pw i).1; omega) (by show (pw j).2 - (0 - (pw i).2) = (pw j).2 + (pw i).2; omega)
  rw [e]; exact (P_pw j).add (P_pw i)
theorem gap_init : ∀ {r : List Int} {l : Int}, gap (r ++ [l]) = true → gap r = true ∧ ∀ k ∈ r, l + 2 ≤ k
  | [], _, _ => ⟨rfl, fun k hk => nomatch hk⟩
  | [x], l, g => by
    have g' : (decide (l + 2 ≤ x) && true) = true := g
    rw [Bool.and_eq_true, decide_eq_true_eq] at g'
    exact ⟨rfl, fun k hk => by rw [List.mem_singleton] at hk; omega⟩
  | x :: y :: r, l, g => by
    have g' : (decide (y + 2 ≤ x) && gap (y :: r ++ [l])) = true := g
    rw [Bool.and_eq_true, decide_eq_true_eq] at g'
    have ih := gap_init (r := y :: r) g'.2
    refine ⟨by show (decide (y + 2 ≤ x) && gap (y :: r)) = true; rw [Bool.and_eq_true, decide_eq_true_eq]; exact ⟨g'.1, ih.1⟩, fun k hk => ?_⟩
    rcases List.mem_cons.mp hk with rfl | hk
    · have := ih.2 y List.mem_cons_self; omega
    · exact ih.2 k hk
theorem cj_bound : ∀ (n : Nat) (r : List Int) (c : Int), r.length ≤ n → gap r = true → (∀ k ∈ r, c ≤ k) → lt (cj (sumP r)) (pw (1 - c)) ∧ lt (neg (cj (sumP r))) (pw (1 - c))
  | n, r, c, hn, g, hc => by
    rcases List.eq_nil_or_concat r with rfl | ⟨r0, l, rfl⟩
    · have e : cj (sumP []) = (0, 0) := rfl
      have e2 : neg (cj (sumP [])) = (0, 0) := rfl
      rw [e2, e]
      exact ⟨zero_lt.mpr (P_pw _), zero_lt.mpr (P_pw _)⟩
    · rw [List.concat_eq_append] at *
      have gi := gap_init g
      have hl : c ≤ l := hc l (by simp)
      match n, hn with
      | 0, hn => simp at hn
      | m + 1, hn =>
        have ih := cj_bound m r0 (l + 2) (by simp at hn; omega) gi.1 gi.2
        have es : sumP (r0 ++ [l]) = add (sumP r0) (pw l) := by rw [sumP_app]; show add _ (add (pw l) (0, 0)) = _; rw [add_zero]
        have e1 : add (pw (1 - (l + 2))) (pw (-l)) = pw (1 - l) := by
          have q := pw_sum (1 - l)
          rw [show 1 - l - 1 = -l by omega, show 1 - l - 2 = 1 - (l + 2) by omega] at q
          rw [q, add_comm]
        have mono : ∀ x, lt x (pw (1 - l)) → lt x (pw (1 - c)) := fun x hx => by
          by_cases d : c = l
          · rw [d]; exact hx
          · exact lt_trans hx (pw_lt (by omega))
        rw [es, cj_add, neg_add]
        have b1 : ∀ x, (x = pw (-l) ∨ x = neg (pw (-l))) → lt (add (cj (sumP r0)) x) (pw (1 - l)) ∧ lt (add (neg (cj (sumP r0))) x) (pw (1 - l)) := fun x hx => by
          rw [← e1]
          rcases hx with rfl | rfl
          · rw [add_comm (cj (sumP r0)), add_comm (neg (cj (sumP r0))), add_comm (pw (1 - (l + 2)))]
            exact ⟨lt_addl _ ih.1, lt_addl _ ih.2⟩
          · exact ⟨lt_add ih.1 (neg_pw_lt _ _), lt_add ih.2 (neg_pw_lt _ _)⟩
        refine ⟨mono _ (b1 _ (cj_pw l)).1, mono _ (b1 _ ?_).2⟩
        rcases cj_pw l with h | h
        · right; rw [h]
        · left; rw [h, neg_neg]
/-- the least place, by the size of the other one -/
theorem last_ge {r : List Int} {K : Int} (g : gap r = true) (h1 : lt (cj (sumP r)) (pw K)) (h2 : lt (neg (cj (sumP r))) (pw K)) : ∀ k ∈ r, -K - 2 < k := by
  rcases List.eq_nil_or_concat r with rfl | ⟨r0, l, rfl⟩
  · intro k hk; cases hk
  · rw [List.concat_eq_append] at *
    have gi := gap_init g
    have ih := cj_bound _ r0 (l + 2) (Nat.le_refl _) gi.1 gi.2
    have es : sumP (r0 ++ [l]) = add (sumP r0) (pw l) := by rw [sumP_app]; show add _ (add (pw l) (0, 0)) = _; rw [add_zero]
    have e1 : pw (-l) = add (pw (-l - 2)) (pw (1 - (l + 2))) := by
      have q := pw_sum (-l)
      rw [show -l - 1 = 1 - (l + 2) by omega] at q
      rw [q, add_comm]
    have low : ∀ x y, lt (neg x) (pw (1 - (l + 2))) → y = pw (-l) → lt (pw (-l - 2)) (add x y) := fun x y hx hy => by
      rw [hy, e1]
      unfold lt at hx ⊢
      have e : sub (add x (add (pw (-l - 2)) (pw (1 - (l + 2))))) (pw (-l - 2)) = sub (pw (1 - (l + 2))) (neg x) := by
        simp only [sub, add, neg]
        exact Prod.ext (by show x.1 + ((pw (-l - 2)).1 + (pw (1 - (l + 2))).1) - (pw (-l - 2)).1 = (pw (1 - (l + 2))).1 - (0 - x.1); omega) (by show x.2 + ((pw (-l - 2)).2 + (pw (1 - (l + 2))).2) - (pw (-l - 2)).2 = (pw (1 - (l + 2))).2 - (0 - x.2); omega)
      rw [e]; exact hx
    have main : lt (pw (-l - 2)) (pw K) := by
      rw [es, cj_add] at h1 h2
      rw [neg_add] at h2
      rcases cj_pw l with h | h
      · exact lt_trans (low _ _ ih.2 h) h1
      · exact lt_trans (low _ _ (by rw [neg_neg]; exact ih.1) (by rw [h, neg_neg])) h2
    have hl : -l - 2 < K := by
      by_cases d : -l - 2 < K
      · exact d
      · by_cases e : K = -l - 2
        · rw [e] at main; exact absurd main (lt_irrefl _)
        · exact absurd (lt_trans main (pw_lt (show K < -l - 2 by omega))) (lt_irrefl _)
    intro k hk
    rcases List.mem_append.mp hk with h | h
    · have := gi.2 k h; omega
    · rw [List.mem_singleton] at h; omega
theorem sg_ge {z w : Z} : 0 ≤ sg (sub z w).1 (sub z w).2 ↔ ¬ lt z w := by
  unfold lt
  rw [← neg_sub z w, ← sg_M]
  have := sg_tri (sub z w).1 (sub z w).2
  omega
/-- a number is below a power whose parts are greater -/
theorem lt_of_parts {z w : Z} (h1 : z.1 ≤ w.1) (h2 : z.2 < w.2) : lt z w := P.of (z := sub w z) ⟨by show 0 ≤ w.1 - z.1; omega, by show 0 ≤ w.2 - z.2; omega, by show 0 < w.1 - z.1 + (w.2 - z.2); omega⟩
theorem pw_big : ∀ n : Nat, (2 : Int) ^ n ≤ (pwN (2 * n + 2)).1 ∧ (2 : Int) ^ n ≤ (pwN (2 * n + 2)).2
  | 0 => by decide
  | n + 1 => by
    have ih := pw_big n
    have e : pwN (2 * (n + 1) + 2) = up (up (pwN (2 * n + 2))) := rfl
    rw [e, Int.pow_succ]
    show _ ≤ (pwN (2 * n + 2)).1 + (pwN (2 * n + 2)).2 ∧ _ ≤ (pwN (2 * n + 2)).2 + ((pwN (2 * n + 2)).1 + (pwN (2 * n + 2)).2)
    have p : (0 : Int) < 2 ^ n := Int.pow_pos (by decide)
    omega
theorem lt_big {z : Z} {n : Nat} (h1 : z.1.natAbs < 2 ^ n) (h2 : z.2.natAbs < 2 ^ n) : lt z (pw ((2 * n + 2 : Nat) : Int)) := by
  have b := pw_big n
  rw [pw_nat]
  have e : ((2 ^ n : Nat) : Int) = (2 : Int) ^ n := by simp
  exact lt_of_parts (by omega) (by omega)
theorem gap_len : ∀ (r : List Int) (c : Int), gap r = true → (∀ k ∈ r, c ≤ k) → ∀ d, (∀ k ∈ r, k < d) → c ≤ d → (2 * r.length : Int) ≤ d - c + 1
  | [], c, _, _, d, _, h => by show (2 * 0 : Int) ≤ _; omega
  | x :: r, c, g, hc, d, hd, _ => by
    have hx := hc x List.mem_cons_self
    have hx2 := hd x List.mem_cons_self
    match r, g, hc with
    | [], _, _ => show (2 * 1 : Int) ≤ _; omega
    | y :: r, g, hc =>
      have g' : (decide (y + 2 ≤ x) && gap (y :: r)) = true := g
      rw [Bool.and_eq_true, decide_eq_true_eq] at g'
      have hy := hc y (List.mem_cons_of_mem _ List.mem_cons_self)
      have dd : ∀ k ∈ y :: r, k < y + 1 := by
        have all : ∀ (r : List Int) (x : Int), gap (x :: r) = true → ∀ k ∈ r, k < x := by
          intro r
          induction r with
          | nil => intro x _ k hk; cases hk
          | cons y r ih =>
            intro x g k hk
            have g' : (decide (y + 2 ≤ x) && gap (y :: r)) = true := g
            rw [Bool.and_eq_true, decide_eq_true_eq] at g'
            rcases List.mem_cons.mp hk with rfl | hk
            · omega
            · have := ih y g'.2 k hk; omega
        intro k hk
        rcases List.mem_cons.mp hk with rfl | hk
        · omega
        · have := all r y g'.2 k hk; omega
      have ih := gap_len (y :: r) c g'.2 (fun k hk => hc k (List.mem_cons_of_mem _ hk)) (y + 1) dd (by omega)
      have e : ((x :: y :: r).length : Int) = ((y :: r).length : Int) + 1 := by simp
      rw [e]
      omega
end GM

/-! ### norms, division with a rest -/
namespace GM
def nm (z : Z) : Int := z.1 * z.1 + z.1 * z.2 - z.2 * z.2
theorem nm_mul (z w : Z) : nm (mul z w) = nm z * nm w := by
  simp only [nm, mul]
  grind
theorem nm_cj (z : Z) : nm (cj z) = nm z := by
  simp only [nm, cj]
  grind
theorem mul_cj (z : Z) : mul z (cj z) = (nm z, 0) := by
  simp only [nm, mul, cj]
  exact Prod.ext (by show z.1 * (z.1 + z.2) + z.2 * (0 - z.2) = _; grind) (by show z.1 * (0 - z.2) + z.2 * (z.1 + z.2) + z.2 * (0 - z.2) = 0; grind)
theorem nm_zero {z : Z} (h : nm z = 0) : z = (0, 0) := by
  have e : (2 * z.1 + z.2) * (2 * z.1 + z.2) = 5 * (z.2 * z.2) + 4 * nm z := by simp only [nm]; grind
  have q := sq5 _ (2 * z.1 + z.2) z.2 (Nat.le_refl _) (by rw [e, h]; omega)
  exact Prod.ext (by show z.1 = 0; omega) q.2
/-- the whole number nearest to x / s: what is left is at most half of s -/
theorem near_half {x s : Int} (hs : 0 < s) : -s ≤ 2 * (x - s * ((2 * x + s) / (2 * s))) ∧ 2 * (x - s * ((2 * x + s) / (2 * s))) ≤ s := by
  have h1 := Int.emod_add_mul_ediv (2 * x + s) (2 * s)
  have h2 := Int.emod_nonneg (2 * x + s) (show 2 * s ≠ 0 by omega)
  have h3 := Int.emod_lt_of_pos (2 * x + s) (show 0 < 2 * s by omega)
  generalize (2 * x + s) / (2 * s) = q at *
  have e : 2 * s * q = 2 * (s * q) := by grind
  rw [e] at h1
  generalize (2 * x + s) % (2 * s) = r at *
  generalize s * q = y at *
  omega
/-- a norm of small parts -/
theorem nm_half {x y s : Int} (hs : 0 < s) (h1 : -s ≤ 2 * x) (h2 : 2 * x ≤ s) (h3 : -s ≤ 2 * y) (h4 : 2 * y ≤ s) : (nm (x, y)).natAbs < (s * s).natAbs := by
  have a1 : 2 * x * (2 * x) ≤ s * s := by
    by_cases c : 0 ≤ x
    · exact sq_le (by omega) h2
    · have := sq_le (x := -(2 * x)) (y := s) (by omega) (by omega)
      have e : -(2 * x) * -(2 * x) = 2 * x * (2 * x) := by grind
      omega
  have a2 : 2 * y * (2 * y) ≤ s * s := by
    by_cases c : 0 ≤ y
    · exact sq_le (by omega) h4
    · have := sq_le (x := -(2 * y)) (y := s) (by omega) (by omega)
      have e : -(2 * y) * -(2 * y) = 2 * y * (2 * y) := by grind
      omega
  have b1 := sqnn (x + y)
  have b2 := sqnn (x - y)
  have c1 : (x + y) * (x + y) = x * x + 2 * (x * y) + y * y := by grind
  have c2 : (x - y) * (x - y) = x * x - 2 * (x * y) + y * y := by grind
  have d1 : 2 * x * (2 * x) = 4 * (x * x) := by grind
  have d2 : 2 * y * (2 * y) = 4 * (y * y) := by grind
  have p : 0 < s * s := Int.mul_pos hs hs
  show (x * x + x * y - y * y).natAbs < _
  have x0 := sqnn x
  have y0 := sqnn y
  generalize x * x = xx at *
  generalize x * y = xy at *
  generalize y * y = yy at *
  generalize s * s = ss at *
  omega
/-- the rest's norm is less in size -/
theorem rest_less {one other : Z} (h : other ≠ (0, 0)) : ∀ (whole : Z) (s : Int), ((nm other < 0 ∧ s = 0 - nm other ∧ whole = (0 - (mul one (cj other)).1, 0 - (mul one (cj other)).2)) ∨ (0 ≤ nm other ∧ s = nm other ∧ whole = mul one (cj other))) →
    0 < s ∧ (nm (sub one (mul ((2 * whole.1 + s) / (2 * s), (2 * whole.2 + s) / (2 * s)) other))).natAbs < (nm other).natAbs := by
  intro whole s hc
  have n0 : nm other ≠ 0 := fun z => h (nm_zero z)
  have hs : 0 < s := by rcases hc with ⟨h1, h2, _⟩ | ⟨h1, h2, _⟩ <;> omega
  refine ⟨hs, ?_⟩
  generalize hq1 : (2 * whole.1 + s) / (2 * s) = q1
  generalize hq2 : (2 * whole.2 + s) / (2 * s) = q2
  have e1 := near_half (x := whole.1) hs
  have e2 := near_half (x := whole.2) hs
  rw [hq1] at e1
  rw [hq2] at e2
  have nb := nm_half hs e1.1 e1.2 e2.1 e2.2
  -- the rest times the other one is what is left of whole (or that turned about)
  have key : nm (sub one (mul (q1, q2) other)) * nm other = nm (whole.1 - s * q1, whole.2 - s * q2) := by
    have c := nm_mul (sub one (mul (q1, q2) other)) (cj other)
    rw [nm_cj] at c
    rw [← c]
    have m : mul (sub one (mul (q1, q2) other)) (cj other) = sub (mul one (cj other)) (nm other * q1, nm other * q2) := by
      simp only [mul, sub, cj, nm]
      exact Prod.ext (by grind) (by grind)
    rw [m]
    rcases hc with ⟨_, hs', hw⟩ | ⟨_, hs', hw⟩
    · rw [hw, hs']
      generalize mul one (cj other) = g
      generalize nm other = t
      simp only [nm, sub]
      grind
    · rw [hw, hs']
      rfl
  have ks : (s * s).natAbs = (nm other).natAbs * (nm other).natAbs := by
    rw [Int.natAbs_mul]
    rcases hc with ⟨_, hs', _⟩ | ⟨_, hs', _⟩
    · rw [hs']; congr 1 <;> omega
    · rw [hs']
  rw [← key, Int.natAbs_mul, ks] at nb
  exact Nat.lt_of_mul_lt_mul_right nb
end GM

/-! ### measures -/
namespace GM
/-- whether z measures w -/
def meas (z w : Z) : Bool := if z = (0, 0) then decide (w = (0, 0)) else decide (nm z ∣ (mul w (cj z)).1 ∧ nm z ∣ (mul w (cj z)).2)
theorem near_exact {x s k : Int} (hs : 0 < s) (h : x = s * k) : (2 * x + s) / (2 * s) = k := by
  have e : 2 * x + s = s + 2 * s * k := by rw [h]; grind
  rw [e, Int.add_mul_ediv_left _ _ (by omega), Int.ediv_eq_zero_of_lt (by omega) (by omega)]
  omega
theorem key_rest (one other : Z) (q1 q2 : Int) : mul (sub one (mul (q1, q2) other)) (cj other) = sub (mul one (cj other)) (nm other * q1, nm other * q2) := by
  simp only [mul, sub, cj, nm]
  exact Prod.ext (by grind) (by grind)
theorem mul_back {r other : Z} (h : other ≠ (0, 0)) (e : mul r (cj other) = (0, 0)) : r = (0, 0) := by
  have n0 : nm other ≠ 0 := fun z => h (nm_zero z)
  have q : mul (mul r (cj other)) other = (r.1 * nm other, r.2 * nm other) := by
    simp only [mul, cj, nm]
    exact Prod.ext (by grind) (by grind)
  rw [e, mul_comm, mul_zero] at q
  have h1 : r.1 * nm other = 0 := (congrArg Prod.fst q).symm
  have h2 : r.2 * nm other = 0 := (congrArg Prod.snd q).symm
  refine Prod.ext ?_ ?_
  · rcases Int.mul_eq_zero.mp h1 with z | z
    · exact z
    · exact absurd z n0
  · rcases Int.mul_eq_zero.mp h2 with z | z
    · exact z
    · exact absurd z n0
/-- the rest is nought just where the one is measured -/
theorem rest_meas {one other : Z} (h : other ≠ (0, 0)) (whole : Z) (s : Int) (hc : (nm other < 0 ∧ s = 0 - nm other ∧ whole = (0 - (mul one (cj other)).1, 0 - (mul one (cj other)).2)) ∨ (0 ≤ nm other ∧ s = nm other ∧ whole = mul one (cj other))) :
    sub one (mul ((2 * whole.1 + s) / (2 * s), (2 * whole.2 + s) / (2 * s)) other) = (0, 0) ↔ meas other one = true := by
  have n0 : nm other ≠ 0 := fun z => h (nm_zero z)
  have hs : 0 < s := by rcases hc with ⟨h1, h2, _⟩ | ⟨h1, h2, _⟩ <;> omega
  unfold meas
  rw [if_neg h, decide_eq_true_eq]
  constructor
  · intro z
    have k := key_rest one other ((2 * whole.1 + s) / (2 * s)) ((2 * whole.2 + s) / (2 * s))
    rw [z, mul_comm, mul_zero] at k
    have k1 := congrArg Prod.fst k
    have k2 := congrArg Prod.snd k
    refine ⟨⟨(2 * whole.1 + s) / (2 * s), ?_⟩, ⟨(2 * whole.2 + s) / (2 * s), ?_⟩⟩
    · have k1' : (0 : Int) = (mul one (cj other)).1 - nm other * ((2 * whole.1 + s) / (2 * s)) := k1
      omega
    · have k2' : (0 : Int) = (mul one (cj other)).2 - nm other * ((2 * whole.2 + s) / (2 * s)) := k2
      omega
  · intro ⟨⟨k1, e1⟩, ⟨k2, e2⟩⟩
    have q1 : (2 * whole.1 + s) / (2 * s) = k1 := near_exact hs (by
      rcases hc with ⟨_, a, b⟩ | ⟨_, a, b⟩
      · rw [a, b]; show 0 - (mul one (cj other)).1 = _; rw [e1]; grind
      · rw [a, b, e1])
    have q2 : (2 * whole.2 + s) / (2 * s) = k2 := near_exact hs (by
      rcases hc with ⟨_, a, b⟩ | ⟨_, a, b⟩
      · rw [a, b]; show 0 - (mul one (cj other)).2 = _; rw [e2]; grind
      · rw [a, b, e2])
    rw [q1, q2]
    refine mul_back h ?_
    rw [key_rest]
    simp only [sub]
    exact Prod.ext (by show (mul one (cj other)).1 - nm other * k1 = 0; omega) (by show (mul one (cj other)).2 - nm other * k2 = 0; omega)
theorem meas_self (z : Z) : meas z z = true := by
  unfold meas
  by_cases h : z = (0, 0)
  · rw [if_pos h, decide_eq_true h]
  · rw [if_neg h, decide_eq_true_eq, mul_cj]
    exact ⟨⟨1, by show nm z = _; omega⟩, ⟨0, by show (0 : Int) = _; omega⟩⟩
/-- a number measures its products -/
theorem meas_mul (z w : Z) : meas z (mul w z) = true := by
  unfold meas
  by_cases h : z = (0, 0)
  · rw [if_pos h, decide_eq_true_eq, h, mul_zero]
  · rw [if_neg h, decide_eq_true_eq]
    have e : mul (mul w z) (cj z) = (w.1 * nm z, w.2 * nm z) := by
      simp only [mul, cj, nm]
      exact Prod.ext (by grind) (by grind)
    rw [e]
    exact ⟨⟨w.1, by show w.1 * nm z = _; grind⟩, ⟨w.2, by show w.2 * nm z = _; grind⟩⟩
theorem meas_cj (z w : Z) : meas z (mul w (mul z (cj z))) = true := by
  have e : mul w (mul z (cj z)) = mul (mul w (cj z)) z := by
    simp only [mul, cj]
    exact Prod.ext (by grind) (by grind)
  rw [e]
  exact meas_mul _ _
end GM

/-! ### units are powers -/
namespace GM
theorem nm_up (z : Z) : nm (up z) = 0 - nm z := by simp only [nm, up]; grind
theorem nm_dn (z : Z) : nm (dn z) = 0 - nm z := by simp only [nm, dn]; grind
theorem unit_nn : ∀ (n : Nat) (a b : Int), 0 ≤ a → 0 ≤ b → a + b ≤ n → (nm (a, b) = 1 ∨ nm (a, b) = -1) → ∃ k : Int, (a, b) = pw k
  | n, a, b, ha, hb, hn, h => by
    by_cases b0 : b = 0
    · subst b0
      have e : nm (a, 0) = a * a := by simp only [nm]; grind
      rw [e] at h
      have aa := sqnn a
      have a1 : a = 1 := by
        by_cases c : a ≤ 1
        · by_cases d : a = 0
          · subst d; omega
          · omega
        · have := sq_lt (x := 1) (y := a) (by omega) (by omega)
          omega
      exact ⟨0, by rw [a1]; rfl⟩
    · by_cases a0 : a = 0
      · subst a0
        have e : nm (0, b) = 0 - b * b := by simp only [nm]; grind
        rw [e] at h
        have b1 : b = 1 := by
          by_cases c : b ≤ 1
          · omega
          · have := sq_lt (x := 1) (y := b) (by omega) (by omega)
            omega
        exact ⟨1, by rw [b1]; rfl⟩
      · have hab : a ≤ b := by
          by_cases c : a ≤ b
          · exact c
          · have e : nm (a, b) = a * (a - b) + (2 * (a * b) - b * b) := by simp only [nm]; grind
            have h1 : 1 ≤ a - b := by omega
            have h2 : a * 1 ≤ a * (a - b) := Int.mul_le_mul_of_nonneg_left h1 ha
            have h3 : b * b ≤ a * b := Int.mul_le_mul_of_nonneg_right (by omega) hb
            have h4 : 1 * b ≤ a * b := Int.mul_le_mul_of_nonneg_right (by omega) hb
            omega
        match n, hn with
        | 0, hn => omega
        | m + 1, hn =>
          have q : nm (b - a, a) = 0 - nm (a, b) := nm_dn (a, b)
          obtain ⟨k, e⟩ := unit_nn m (b - a) a (by omega) ha (by omega) (by rw [q]; omega)
          refine ⟨k + 1, ?_⟩
          rw [pw_succ, ← e]
          simp only [up]
          exact Prod.ext rfl (by show b = b - a + a; omega)
theorem unit_pw {z : Z} (hp : P z) (h : nm z = 1 ∨ nm z = -1) : ∃ k : Int, z = pw k := by
  obtain ⟨n, hn⟩ := hp
  induction n generalizing z with
  | zero =>
    obtain ⟨a, b⟩ := z
    exact unit_nn (a + b).toNat a b hn.1 hn.2.1 (by have := hn.1; have := hn.2.1; show a + b ≤ ((a + b).toNat : Int); omega) h
  | succ n ih =>
    obtain ⟨k, e⟩ := ih (z := up z) (by rw [nm_up]; omega) hn
    refine ⟨k - 1, ?_⟩
    rw [pw_pred, ← e, dn_up]
end GM

/-! ### numbers.py: the plain ones -/
namespace GP
open PySem L2
def sp_summed : Sp := fun vs H Q _ => ∃ v w a b c d, vs = [v, w] ∧ N2 H v a b ∧ N2 H w c d ∧ ∀ r H', Same H H' → N2 H' r (a + c) (b + d) → Q r H'
def sp_less : Sp := fun vs H Q _ => ∃ v w a b c d, vs = [v, w] ∧ N2 H v a b ∧ N2 H w c d ∧ ∀ r H', Same H H' → N2 H' r (a - c) (b - d) → Q r H'
theorem c_summed {H : Hp} {Q : VK} {E : XK} {v w : V} {a b c d : Int} (h1 : N2 H v a b) (h2 : N2 H w c d) (q : ∀ r H', Same H H' → N2 H' r (a + c) (b + d) → Q r H') : sp_summed [v, w] H Q E := ⟨v, w, a, b, c, d, rfl, h1, h2, q⟩
theorem c_less {H : Hp} {Q : VK} {E : XK} {v w : V} {a b c d : Int} (h1 : N2 H v a b) (h2 : N2 H w c d) (q : ∀ r H', Same H H' → N2 H' r (a - c) (b - d) → Q r H') : sp_less [v, w] H Q E := ⟨v, w, a, b, c, d, rfl, h1, h2, q⟩
end GP
local macro_rules | `(tactic| walk_at "callee") => `(tactic| ((with_reducible refine' GP.c_summed ?h1 ?h2 ?_); (case h1 => walk_at "hp"); (case h2 => walk_at "hp"); intro _ _ _ _))
local macro_rules | `(tactic| walk_at "callee") => `(tactic| ((with_reducible refine' GP.c_less ?h1 ?h2 ?_); (case h1 => walk_at "hp"); (case h2 => walk_at "hp"); intro _ _ _ _))

/-! ### numbers.py: products -/
namespace GP
open PySem L2
abbrev Mu (i j : Int) : Prop := CMul i j ∨ CMulW i j
theorem mu_of {a b : Int} {n m : Nat} (ha : a.natAbs < 2 ^ n) (hb : b.natAbs < 2 ^ m) (h0 : 0 < n) (h1 : 0 < m) (h : n + m ≤ 1000000) : Mu a b := .inr (wide_mul ha hb h0 h1 h)
/-- sizes in bits -/
def Bd (n : Nat) (a : Int) : Prop := a.natAbs < 2 ^ n
theorem Bd.mono {n m : Nat} {a : Int} (h : Bd m a) (hm : Nat.ble m n = true) : Bd n a := Nat.lt_of_lt_of_le h (Nat.pow_le_pow_right (by decide) (Nat.le_of_ble_eq_true hm))
theorem Bd.add {n : Nat} {a b : Int} (ha : Bd (n - 1) a) (hb : Bd (n - 1) b) (hn : Nat.ble 1 n = true) : Bd n (a + b) := by
  unfold Bd at *
  have e : 2 ^ n = 2 * 2 ^ (n - 1) := by
    have h := Nat.le_of_ble_eq_true hn
    conv => lhs; rw [show n = (n - 1) + 1 by omega, Nat.pow_succ]
    omega
  rw [e]; omega
theorem Bd.sub {n : Nat} {a b : Int} (ha : Bd (n - 1) a) (hb : Bd (n - 1) b) (hn : Nat.ble 1 n = true) : Bd n (a - b) := by
  unfold Bd at *
  have e : 2 ^ n = 2 * 2 ^ (n - 1) := by
    have h := Nat.le_of_ble_eq_true hn
    conv => lhs; rw [show n = (n - 1) + 1 by omega, Nat.pow_succ]
    omega
  rw [e]; omega
theorem Bd.mul {n : Nat} {a b : Int} (ha : Bd (n / 2) a) (hb : Bd (n / 2) b) : Bd n (a * b) := by
  unfold Bd at *
  have h := wide_lt ha hb
  exact Nat.lt_of_lt_of_le h (Nat.pow_le_pow_right (by decide) (by omega))
theorem Bd.neg {n : Nat} {a : Int} (ha : Bd n a) : Bd n (-a) := by unfold Bd at *; omega
theorem Bd.zero {n : Nat} : Bd n 0 := Nat.pow_pos (by decide)
theorem Bd.one {n : Nat} (hn : Nat.ble 1 n = true) : Bd n 1 := Nat.lt_of_lt_of_le (by decide : 1 < 2 ^ 1) (Nat.pow_le_pow_right (by decide) (Nat.le_of_ble_eq_true hn))
theorem mu_bd {a b : Int} (ha : Bd 400000 a) (hb : Bd 400000 b) : Mu a b := mu_of ha hb (by decide) (by decide) (by decide)
/-- what a product of two numbers asks -/
def Mu4 (a b c d : Int) : Prop := Mu b d ∧ Mu a c ∧ Mu a d ∧ Mu b c
theorem mu4_of {a b c d : Int} {n m : Nat} (ha : a.natAbs < 2 ^ n) (hb : b.natAbs < 2 ^ n) (hc : c.natAbs < 2 ^ m) (hd : d.natAbs < 2 ^ m) (h0 : 0 < n) (h1 : 0 < m) (h : n + m ≤ 1000000) : Mu4 a b c d :=
  ⟨mu_of hb hd h0 h1 h, mu_of ha hc h0 h1 h, mu_of ha hd h0 h1 h, mu_of hb hc h0 h1 h⟩
def sp_times : Sp := fun vs H Q _ => ∃ v w a b c d, vs = [v, w] ∧ N2 H v a b ∧ N2 H w c d ∧ Mu4 a b c d ∧ ∀ r H', Same H H' → N2 H' r (a * c + b * d) (a * d + b * c + b * d) → Q r H'
def sp_turned : Sp := fun vs H Q _ => ∃ v a b, vs = [v] ∧ N2 H v a b ∧ ∀ r H', Same H H' → N2 H' r (a + b) (0 - b) → Q r H'
def sp_norm : Sp := fun vs H Q _ => ∃ v a b, vs = [v] ∧ N2 H v a b ∧ Mu a a ∧ Mu a b ∧ Mu b b ∧ Q (.int (a * a + a * b - b * b)) H
theorem c_times {H : Hp} {Q : VK} {E : XK} {v w : V} {a b c d : Int} (h1 : N2 H v a b) (h2 : N2 H w c d) (h3 : Mu4 a b c d) (q : ∀ r H', Same H H' → N2 H' r (a * c + b * d) (a * d + b * c + b * d) → Q r H') : sp_times [v, w] H Q E := ⟨v, w, a, b, c, d, rfl, h1, h2, h3, q⟩
theorem c_turned {H : Hp} {Q : VK} {E : XK} {v : V} {a b : Int} (h1 : N2 H v a b) (q : ∀ r H', Same H H' → N2 H' r (a + b) (0 - b) → Q r H') : sp_turned [v] H Q E := ⟨v, a, b, rfl, h1, q⟩
theorem c_norm {H : Hp} {Q : VK} {E : XK} {v : V} {a b : Int} (h1 : N2 H v a b) (h2 : Mu a a ∧ Mu a b ∧ Mu b b) (q : Q (.int (a * a + a * b - b * b)) H) : sp_norm [v] H Q E := ⟨v, a, b, rfl, h1, h2.1, h2.2.1, h2.2.2, q⟩
end GP
local macro_rules | `(tactic| walk_at "bd") => `(tactic| first
  | exact GP.Bd.zero
  | exact GP.Bd.one rfl
  | ((with_reducible refine GP.Bd.add ?_ ?_ rfl) <;> walk_at "bd")
  | ((with_reducible refine GP.Bd.sub ?_ ?_ rfl) <;> walk_at "bd")
  | ((with_reducible refine GP.Bd.mul ?_ ?_) <;> walk_at "bd")
  | ((with_reducible refine GP.Bd.neg ?_) <;> walk_at "bd")
  | exact GP.Bd.mono (by assumption) rfl)
local macro_rules | `(tactic| walk_at "mu") => `(tactic| first
  | assumption
  | exact ⟨GP.mu_bd (by walk_at "bd") (by walk_at "bd"), GP.mu_bd (by walk_at "bd") (by walk_at "bd"), GP.mu_bd (by walk_at "bd") (by walk_at "bd"), GP.mu_bd (by walk_at "bd") (by walk_at "bd")⟩
  | exact ⟨GP.mu_bd (by walk_at "bd") (by walk_at "bd"), GP.mu_bd (by walk_at "bd") (by walk_at "bd"), GP.mu_bd (by walk_at "bd") (by walk_at "bd")⟩)
local macro_rules | `(tactic| walk_at "side") => `(tactic| exact GP.mu_bd (by walk_at "bd") (by walk_at "bd"))
local macro_rules | `(tactic| walk_at "callee") => `(tactic| ((with_reducible refine' GP.c_times ?h1 ?h2 ?h3 ?_); (case h1 => walk_at "hp"); (case h2 => walk_at "hp"); (case h3 => walk_at "mu"); intro _ _ _ _))
local macro_rules | `(tactic| walk_at "callee") => `(tactic| ((with_reducible refine' GP.c_turned ?h1 ?_); (case h1 => walk_at "hp"); intro _ _ _ _))
local macro_rules | `(tactic| walk_at "callee") => `(tactic| ((with_reducible refine' GP.c_norm ?h1 ?h3 ?_); (case h1 => walk_at "hp"); (case h3 => walk_at "mu")))

namespace GP
open PySem L2
theorem ok_less {P : Program} {w : World} {K : PySem.W.Frag} {mg : Str → Option Value} {base : Heap} {f : Addr} {fd : FuncData} (F : Fun K "less" "less" s_less f fd) : FnOk P w K mg base CX0 1 f fd ["one", "other"] sp_less := by
  refine F.ok sc_less (fun vs H Q E h => ?_) (fun cdv A outer s H vs Q E hr h => ?_)
  · obtain ⟨v, w, a, b, c, d, rfl, _⟩ := h
    rfl
  obtain ⟨v, w, a, b, c, d, rfl, h1, h2, q⟩ := h
  refine ⟨_, (pss_one (ps_ret (pe_tup (pa_cons (pe_op op_sub (pe_ix ix_seq (pv 0) pe_int (fun _ _ => rfl)) (pe_ix ix_seq (pv 1) pe_int (fun _ _ => rfl))) (pa_cons (pe_op op_sub (pe_ix ix_seq (pv 0) pe_int (fun _ _ => rfl)) (pe_ix ix_seq (pv 1) pe_int (fun _ _ => rfl))) pa_nil))))), ?_⟩
  walk_at "go"
  exact q _ _ (by walk_at "sm") (by walk_at "hp")
end GP

namespace GP
open PySem L2
theorem ok_times {P : Program} {w : World} {K : PySem.W.Frag} {mg : Str → Option Value} {base : Heap} {f : Addr} {fd : FuncData} (F : Fun K "times" "times" s_times f fd) : FnOk P w K mg base CX0 1 f fd ["one", "other"] sp_times := by
  refine F.ok sc_times (fun vs H Q E h => ?_) (fun cdv A outer s H vs Q E hr h => ?_)
  · obtain ⟨v, w, a, b, c, d, rfl, _⟩ := h
    rfl
  obtain ⟨v, w, a, b, c, d, rfl, h1, h2, ⟨m1, m2, m3, m4⟩, q⟩ := h
  refine ⟨_, (pss_cons (ps_set (i := 2) sc_times.nd rfl (Or.inl rfl) (pe_op op_mulA (pe_ix ix_seq (pv 0) pe_int (fun _ _ => rfl)) (pe_ix ix_seq (pv 1) pe_int (fun _ _ => rfl))))
      (pss_one (ps_ret (pe_tup (pa_cons (pe_op op_add (pe_op op_mulA (pe_ix ix_seq (pv 0) pe_int (fun _ _ => rfl)) (pe_ix ix_seq (pv 1) pe_int (fun _ _ => rfl))) (pv 2)) (pa_cons (pe_op op_add (pe_op op_add (pe_op op_mulA (pe_ix ix_seq (pv 0) pe_int (fun _ _ => rfl)) (pe_ix ix_seq (pv 1) pe_int (fun _ _ => rfl))) (pe_op op_mulA (pe_ix ix_seq (pv 0) pe_int (fun _ _ => rfl)) (pe_ix ix_seq (pv 1) pe_int (fun _ _ => rfl)))) (pv 2)) pa_nil)))))), ?_⟩
  walk_at "go"
  exact q _ _ (by walk_at "sm") (by walk_at "hp")
end GP

namespace GP
open PySem L2
theorem ok_norm {P : Program} {w : World} {K : PySem.W.Frag} {mg : Str → Option Value} {base : Heap} {f : Addr} {fd : FuncData} (F : Fun K "norm" "norm" s_norm f fd) : FnOk P w K mg base CX0 1 f fd ["number"] sp_norm := by
  refine F.ok sc_norm (fun vs H Q E h => ?_) (fun cdv A outer s H vs Q E hr h => ?_)
  · obtain ⟨v, a, b, rfl, _⟩ := h
    rfl
  obtain ⟨v, a, b, rfl, h1, m1, m2, m3, q⟩ := h
  refine ⟨_, (pss_one (ps_ret (pe_op op_sub (pe_op op_add (pe_op op_mulA (pe_ix ix_seq (pv 0) pe_int (fun _ _ => rfl)) (pe_ix ix_seq (pv 0) pe_int (fun _ _ => rfl))) (pe_op op_mulA (pe_ix ix_seq (pv 0) pe_int (fun _ _ => rfl)) (pe_ix ix_seq (pv 0) pe_int (fun _ _ => rfl)))) (pe_op op_mulA (pe_ix ix_seq (pv 0) pe_int (fun _ _ => rfl)) (pe_ix ix_seq (pv 0) pe_int (fun _ _ => rfl)))))), ?_⟩
  walk_at "go"
  exact q
end GP

namespace GP
open PySem L2
def cellAt (ns : List Int) (k : Int) : Int := ns.getD k.toNat 0
def sp__law_cell_at (K : PySem.W.Frag) : Sp := fun vs H Q _ => ∃ (a : Addr) (ns : List Int) (k : Int), vs = [.ref a, .int k] ∧ SqL K H a (ns.map V.int) ∧ 0 ≤ k ∧ Q (.int (cellAt ns k)) H
theorem c_cell {K : PySem.W.Frag} {H : Hp} {Q : VK} {E : XK} {a : Addr} {ns : List Int} {k : Int} (h1 : SqL K H a (ns.map V.int)) (h0 : 0 ≤ k) (q : Q (.int (cellAt ns k)) H) : sp__law_cell_at K [.ref a, .int k] H Q E := ⟨a, ns, k, rfl, h1, h0, q⟩
theorem ok__law_cell_at {P : Program} {w : World} {K : PySem.W.Frag} {mg : Str → Option Value} {base : Heap} {f : Addr} {fd : FuncData} (F : Fun K "_law_cell_at" "_law_cell_at" s__law_cell_at f fd) (nb : NB mg) : FnOk P w K mg base CX0 1 f fd ["script", "k"] (sp__law_cell_at K) := by
  refine F.ok sc__law_cell_at (fun vs H Q E h => ?_) (fun cdv A outer s H vs Q E hr h => ?_)
  · obtain ⟨a, ns, k, rfl, _⟩ := h
    rfl
  obtain ⟨a, ns, k, rfl, hS, h0, q⟩ := h
  refine ⟨_, (pss_cons (ps_if (pt_cmpR op_lt (pv 1) (pe_callB g_len (by rfl) nb.len (by decide +kernel) (pa_cons (pv 0) pa_nil)) (nomark _)) (pss_one (ps_ret (pe_ix ix_seq (pv 0) (pv 1) (fun _ _ => rfl)))) pss_nil)
      (pss_one (ps_ret pe_int))), ?_⟩
  walk_at "go"
  rw [List.length_map]
  refine GP.iIf (fun h => ?_) (fun h => ?_)
  · walk_at "go"
    have hk : k.toNat < ns.length := by omega
    have ek : ((k.toNat : Nat) : Int) = k := by omega
    have e : atI (ns.map V.int) ((k.toNat : Nat) : Int) = some (.int (cellAt ns k)) := atI_nat (by
      rw [List.getElem?_map, List.getElem?_eq_getElem hk]
      unfold cellAt
      rw [List.getD_eq_getElem?_getD, List.getElem?_eq_getElem hk]
      rfl)
    rw [ek] at e
    exact iIxQ hS e q
  · walk_at "go"
    have e : cellAt ns k = 0 := by
      unfold cellAt
      rw [List.getD_eq_getElem?_getD, List.getElem?_eq_none (by omega)]
      rfl
    rw [e] at q
    exact q
end GP
local macro_rules | `(tactic| walk_at "callee") => `(tactic| ((with_reducible refine' GP.c_cell ?h1 ?h2 ?_); (case h1 => walk_at "hp"); (case h2 => first | decide | omega)))

namespace GP
open PySem L2
def sp_sign : Sp := fun vs H Q _ => ∃ v a b, vs = [v] ∧ N2 H v a b ∧ Bd 3000 a ∧ Bd 3000 b ∧ Q (.int (GM.sg a b)) H
theorem c_sign {H : Hp} {Q : VK} {E : XK} {v : V} {a b : Int} (h1 : N2 H v a b) (h2 : Bd 3000 a) (h3 : Bd 3000 b) (q : Q (.int (GM.sg a b)) H) : sp_sign [v] H Q E := ⟨v, a, b, rfl, h1, h2, h3, q⟩
theorem ok_sign {P : Program} {w : World} {K : PySem.W.Frag} {mg : Str → Option Value} {base : Heap} {f : Addr} {fd : FuncData} (F : Fun K "sign" "sign" s_sign f fd) : FnOk P w K mg base CX0 1 f fd ["number"] sp_sign := by
  refine F.ok sc_sign (fun vs H Q E h => ?_) (fun cdv A outer s H vs Q E hr h => ?_)
  · obtain ⟨v, a, b, rfl, _⟩ := h
    rfl
  obtain ⟨v, a, b, rfl, h1, ba, bb, q⟩ := h
  have b1 : Bd 3002 (2 * a + b) := by
    unfold Bd at *
    have e : (2 : Nat) ^ 3002 = 4 * 2 ^ 3000 := by decide +kernel
    rw [e]
    generalize (2 : Nat) ^ 3000 = x at *
    omega
  have m1 : Mu (2 * a + b) (2 * a + b) := mu_of b1 b1 (by decide) (by decide) (by decide)
  have m2 : Mu (5 * b) b := mu_of (show (5 * b).natAbs < 2 ^ 3003 by
    unfold Bd at bb
    have e : (2 : Nat) ^ 3003 = 8 * 2 ^ 3000 := by decide +kernel
    rw [e]
    generalize (2 : Nat) ^ 3000 = x at *
    omega) bb (by decide) (by decide) (by decide)
  refine ⟨_, (pss_cons (ps_set (i := 1) sc_sign.nd rfl (Or.inl rfl) (pe_op op_add (pe_op op_mulA pe_int (pe_ix ix_seq (pv 0) pe_int (fun _ _ => rfl))) (pe_ix ix_seq (pv 0) pe_int (fun _ _ => rfl))))
      (pss_cons (ps_set (i := 2) sc_sign.nd rfl (Or.inl rfl) (pe_ix ix_seq (pv 0) pe_int (fun _ _ => rfl)))
      (pss_cons (ps_if (PW.pt (pw_and (pt_cmpR op_eq (pv 1) pe_int (nomark _)) (pw_and1 (pt_cmpR op_eq (pv 2) pe_int (nomark _))))) (pss_one (ps_ret pe_int)) pss_nil)
      (pss_cons (ps_if (PW.pt (pw_and (pt_cmpR op_ge (pv 1) pe_int (nomark _)) (pw_and1 (pt_cmpR op_ge (pv 2) pe_int (nomark _))))) (pss_one (ps_ret pe_int)) pss_nil)
      (pss_cons (ps_if (PW.pt (pw_and (pt_cmpR op_le (pv 1) pe_int (nomark _)) (pw_and1 (pt_cmpR op_le (pv 2) pe_int (nomark _))))) (pss_one (ps_ret (pe_un un_neg pe_int))) pss_nil)
      (pss_cons (ps_if (pt_cmpR op_gt (pv 1) pe_int (nomark _)) (pss_cons (ps_if (pt_cmpR op_gt (pe_op op_mulA (pv 1) (pv 1)) (pe_op op_mulA (pe_op op_mulA pe_int (pv 2)) (pv 2)) (nomark _)) (pss_one (ps_ret pe_int)) pss_nil)
      (pss_one (ps_ret (pe_un un_neg pe_int)))) pss_nil)
      (pss_cons (ps_if (pt_cmpR op_gt (pe_op op_mulA (pe_op op_mulA pe_int (pv 2)) (pv 2)) (pe_op op_mulA (pv 1) (pv 1)) (nomark _)) (pss_one (ps_ret pe_int)) pss_nil)
      (pss_one (ps_ret (pe_un un_neg pe_int)))))))))), ?_⟩
  clear ba bb b1
  walk_at "ifs"
  all_goals exact iRtI (by unfold GM.sg; (repeat' split) <;> omega) q
end GP
local macro_rules | `(tactic| walk_at "callee") => `(tactic| ((with_reducible refine' GP.c_sign ?h1 ?h2 ?h3 ?_); (case h1 => walk_at "hp"); (case h2 => walk_at "bd"); (case h3 => walk_at "bd")))

namespace GP
open PySem L2
def sp_raised : Sp := fun vs H Q _ => ∃ v a b, vs = [v] ∧ N2 H v a b ∧ ∀ r H', Same H H' → N2 H' r b (a + b) → Q r H'
def sp_lowered : Sp := fun vs H Q _ => ∃ v a b, vs = [v] ∧ N2 H v a b ∧ ∀ r H', Same H H' → N2 H' r (b - a) a → Q r H'
theorem c_raised {H : Hp} {Q : VK} {E : XK} {v : V} {a b : Int} (h1 : N2 H v a b) (q : ∀ r H', Same H H' → N2 H' r b (a + b) → Q r H') : sp_raised [v] H Q E := ⟨v, a, b, rfl, h1, q⟩
theorem c_lowered {H : Hp} {Q : VK} {E : XK} {v : V} {a b : Int} (h1 : N2 H v a b) (q : ∀ r H', Same H H' → N2 H' r (b - a) a → Q r H') : sp_lowered [v] H Q E := ⟨v, a, b, rfl, h1, q⟩
theorem ok_raised {P : Program} {w : World} {K : PySem.W.Frag} {mg : Str → Option Value} {base : Heap} {f : Addr} {fd : FuncData} (F : Fun K "raised" "raised" s_raised f fd) : FnOk P w K mg base CX0 1 f fd ["number"] sp_raised := by
  refine F.ok sc_raised (fun vs H Q E h => ?_) (fun cdv A outer s H vs Q E hr h => ?_)
  · obtain ⟨v, a, b, rfl, _⟩ := h
    rfl
  obtain ⟨v, a, b, rfl, h1, q⟩ := h
  refine ⟨_, (pss_one (ps_ret (pe_tup (pa_cons (pe_ix ix_seq (pv 0) pe_int (fun _ _ => rfl)) (pa_cons (pe_op op_add (pe_ix ix_seq (pv 0) pe_int (fun _ _ => rfl)) (pe_ix ix_seq (pv 0) pe_int (fun _ _ => rfl))) pa_nil))))), ?_⟩
  walk_at "go"
  exact q _ _ (by walk_at "sm") (by walk_at "hp")
theorem ok_lowered {P : Program} {w : World} {K : PySem.W.Frag} {mg : Str → Option Value} {base : Heap} {f : Addr} {fd : FuncData} (F : Fun K "lowered" "lowered" s_lowered f fd) : FnOk P w K mg base CX0 1 f fd ["number"] sp_lowered := by
  refine F.ok sc_lowered (fun vs H Q E h => ?_) (fun cdv A outer s H vs Q E hr h => ?_)
  · obtain ⟨v, a, b, rfl, _⟩ := h
    rfl
  obtain ⟨v, a, b, rfl, h1, q⟩ := h
  refine ⟨_, (pss_one (ps_ret (pe_tup (pa_cons (pe_op op_sub (pe_ix ix_seq (pv 0) pe_int (fun _ _ => rfl)) (pe_ix ix_seq (pv 0) pe_int (fun _ _ => rfl))) (pa_cons (pe_ix ix_seq (pv 0) pe_int (fun _ _ => rfl)) pa_nil))))), ?_⟩
  walk_at "go"
  exact q _ _ (by walk_at "sm") (by walk_at "hp")
end GP
local macro_rules | `(tactic| walk_at "callee") => `(tactic| ((with_reducible refine' GP.c_raised ?h1 ?_); (case h1 => walk_at "hp"); intro _ _ _ _))
local macro_rules | `(tactic| walk_at "callee") => `(tactic| ((with_reducible refine' GP.c_lowered ?h1 ?_); (case h1 => walk_at "hp"); intro _ _ _ _))

namespace GP
open PySem L2
def sp_power : Sp := fun vs H Q _ => ∃ k : Int, vs = [.int k] ∧ k.natAbs < 1000 ∧ ∀ r H', Same H H' → N2 H' r (GM.pw k).1 (GM.pw k).2 → Q r H'
theorem c_power {H : Hp} {Q : VK} {E : XK} {k : Int} (h1 : k.natAbs < 1000) (q : ∀ r H', Same H H' → N2 H' r (GM.pw k).1 (GM.pw k).2 → Q r H') : sp_power [.int k] H Q E := ⟨k, rfl, h1, q⟩
theorem bd_pw1 (k : Int) (h : k.natAbs < 1000) : Bd 1000 (GM.pw k).1 := (GM.pw_size h).1
theorem bd_pw2 (k : Int) (h : k.natAbs < 1000) : Bd 1000 (GM.pw k).2 := (GM.pw_size h).2
theorem ok_power {P : Program} {w : World} {K : PySem.W.Frag} {mg : Str → Option Value} {base : Heap} {f : Addr} {fd : FuncData} (F : Fun K "power" "power" s_power f fd) (nb : NB mg) (c_raised : Cal P w K mg base CX0 1 "raised" ["number"] sp_raised) (c_lowered : Cal P w K mg base CX0 1 "lowered" ["number"] sp_lowered) : FnOk P w K mg base CX0 2 f fd ["k"] sp_power := by
  refine F.ok sc_power (fun vs H Q E h => ?_) (fun cdv A outer s H vs Q E hr h => ?_)
  · obtain ⟨k, rfl, _⟩ := h
    rfl
  obtain ⟨k, rfl, hk, q⟩ := h
  refine ⟨_, (pss_cons (ps_set (i := 1) sc_power.nd rfl (Or.inl rfl) (pe_tup (pa_cons pe_int (pa_cons pe_int pa_nil))))
      (pss_cons (ps_for PassesOwn.never rfl (pi_range1 (by rfl) nb.range (pa_cons (pe_callB g_abs (by rfl) nb.abs (by decide +kernel) (pa_cons (pv 0) pa_nil)) pa_nil)) (pg_name (i := 2) sc_power.nd rfl (Or.inl rfl)) (pss_one (ps_if (pt_cmpR op_gt (pv 0) pe_int (nomark _)) (pss_one (ps_set (i := 1) sc_power.nd rfl (Or.inl rfl) (pe_callC c_raised hr pass0 (pa_cons (pv 1) pa_nil)))) (pss_one (ps_set (i := 1) sc_power.nd rfl (Or.inl rfl) (pe_callC c_lowered hr pass0 (pa_cons (pv 1) pa_nil)))))))
      (pss_one (ps_ret (pv 1))))), ?_⟩
  walk_at "go"
  refine iRF1 ⟨by split <;> omega, by split <;> omega⟩ (fun i σ' H' => ∃ (v : V) (z : Option V), σ' = [some (.int k), some v, z] ∧ Same H H' ∧ N2 H' v (GM.pwI k i).1 (GM.pwI k i).2) ⟨_, none, rfl, by walk_at "sm", ?_⟩ (fun i σ' H' hi hP => ?_) (fun σ' H' hP => ?_)
  · have e : GM.pwI k 0 = (1, 0) := by unfold GM.pwI; split <;> rfl
    rw [e]
    walk_at "hp"
  · obtain ⟨v, z, rfl, hs, hv⟩ := hP
    walk_at "go"
    refine GP.iIf (fun h => ?_) (fun h => ?_)
    · walk_at "go"
      have e : GM.pwI k (i + 1) = GM.up (GM.pwI k i) := by unfold GM.pwI; rw [if_pos h, if_pos h]; rfl
      refine ⟨_, _, rfl, by walk_at "sm", ?_⟩
      rw [e]
      walk_at "hp"
    · walk_at "go"
      have e : GM.pwI k (i + 1) = GM.dn (GM.pwI k i) := by unfold GM.pwI; rw [if_neg h, if_neg h]; rfl
      refine ⟨_, _, rfl, by walk_at "sm", ?_⟩
      rw [e]
      walk_at "hp"
  · obtain ⟨v, z, rfl, hs, hv⟩ := hP
    walk_at "go"
    rw [GM.pwI_end] at hv
    exact q _ _ (by walk_at "sm") (by walk_at "hp")
end GP
local macro_rules | `(tactic| walk_at "callee") => `(tactic| ((with_reducible refine GP.c_power ?h1 ?_); (case h1 => omega); intro _ _ _ _))
local macro_rules | `(tactic| walk_at "bd") => `(tactic| first
  | exact GP.Bd.mono (GP.bd_pw1 _ (by omega)) rfl
  | exact GP.Bd.mono (GP.bd_pw2 _ (by omega)) rfl)

namespace GP
open PySem L2
def sp__law_power : Sp := sp_power
theorem c_lpower {H : Hp} {Q : VK} {E : XK} {k : Int} (h1 : k.natAbs < 1000) (q : ∀ r H', Same H H' → N2 H' r (GM.pw k).1 (GM.pw k).2 → Q r H') : sp__law_power [.int k] H Q E := ⟨k, rfl, h1, q⟩
theorem ok__law_power {P : Program} {w : World} {K : PySem.W.Frag} {mg : Str → Option Value} {base : Heap} {f : Addr} {fd : FuncData} (F : Fun K "_law_power" "_law_power" s__law_power f fd) (nb : NB mg) : FnOk P w K mg base CX0 1 f fd ["k"] sp__law_power := by
  refine F.ok sc__law_power (fun vs H Q E h => ?_) (fun cdv A outer s H vs Q E hr h => ?_)
  · obtain ⟨k, rfl, _⟩ := h
    rfl
  obtain ⟨k, rfl, hk, q⟩ := h
  refine ⟨_, (pss_cons (ps_set (i := 1) sc__law_power.nd rfl (Or.inl rfl) (pe_tup (pa_cons pe_int (pa_cons pe_int pa_nil))))
      (pss_cons (ps_for PassesOwn.never rfl (pi_range1 (by rfl) nb.range (pa_cons (pe_callB g_abs (by rfl) nb.abs (by decide +kernel) (pa_cons (pv 0) pa_nil)) pa_nil)) (pg_name (i := 2) sc__law_power.nd rfl (Or.inl rfl)) (pss_one (ps_if (pt_cmpR op_gt (pv 0) pe_int (nomark _)) (pss_one (ps_set (i := 1) sc__law_power.nd rfl (Or.inl rfl) (pe_tup (pa_cons (pe_ix ix_seq (pv 1) pe_int (fun _ _ => rfl)) (pa_cons (pe_op op_add (pe_ix ix_seq (pv 1) pe_int (fun _ _ => rfl)) (pe_ix ix_seq (pv 1) pe_int (fun _ _ => rfl))) pa_nil))))) (pss_one (ps_set (i := 1) sc__law_power.nd rfl (Or.inl rfl) (pe_tup (pa_cons (pe_op op_sub (pe_ix ix_seq (pv 1) pe_int (fun _ _ => rfl)) (pe_ix ix_seq (pv 1) pe_int (fun _ _ => rfl))) (pa_cons (pe_ix ix_seq (pv 1) pe_int (fun _ _ => rfl)) pa_nil))))))))
      (pss_one (ps_ret (pv 1))))), ?_⟩
  walk_at "go"
  refine iRF1 ⟨by split <;> omega, by split <;> omega⟩ (fun i σ' H' => ∃ (v : V) (z : Option V), σ' = [some (.int k), some v, z] ∧ Same H H' ∧ N2 H' v (GM.pwI k i).1 (GM.pwI k i).2) ⟨_, none, rfl, by walk_at "sm", ?_⟩ (fun i σ' H' hi hP => ?_) (fun σ' H' hP => ?_)
  · have e : GM.pwI k 0 = (1, 0) := by unfold GM.pwI; split <;> rfl
    rw [e]
    walk_at "hp"
  · obtain ⟨v, z, rfl, hs, hv⟩ := hP
    walk_at "go"
    refine GP.iIf (fun h => ?_) (fun h => ?_)
    · walk_at "go"
      have e : GM.pwI k (i + 1) = GM.up (GM.pwI k i) := by unfold GM.pwI; rw [if_pos h, if_pos h]; rfl
      refine ⟨_, _, rfl, by walk_at "sm", ?_⟩
      rw [e]
      walk_at "hp"
    · walk_at "go"
      have e : GM.pwI k (i + 1) = GM.dn (GM.pwI k i) := by unfold GM.pwI; rw [if_neg h, if_neg h]; rfl
      refine ⟨_, _, rfl, by walk_at "sm", ?_⟩
      rw [e]
      walk_at "hp"
  · obtain ⟨v, z, rfl, hs, hv⟩ := hP
    walk_at "go"
    rw [GM.pwI_end] at hv
    exact q _ _ (by walk_at "sm") (by walk_at "hp")
end GP
local macro_rules | `(tactic| walk_at "callee") => `(tactic| ((with_reducible refine GP.c_lpower ?h1 ?_); (case h1 => omega); intro _ _ _ _))

namespace GP
open PySem L2
def sp__law_is_number : Sp := fun vs H Q _ => ∃ v a b, vs = [v] ∧ N2 H v a b ∧ Q (.bl true) H
theorem c_isnum {H : Hp} {Q : VK} {E : XK} {v : V} {a b : Int} (h1 : N2 H v a b) (q : Q (.bl true) H) : sp__law_is_number [v] H Q E := ⟨v, a, b, rfl, h1, q⟩
theorem ok__law_is_number {P : Program} {w : World} {K : PySem.W.Frag} {mg : Str → Option Value} {base : Heap} {f : Addr} {fd : FuncData} (F : Fun K "_law_is_number" "_law_is_number" s__law_is_number f fd) (nb : NB mg) : FnOk P w K mg base CX0 1 f fd ["found"] sp__law_is_number := by
  refine F.ok sc__law_is_number (fun vs H Q E h => ?_) (fun cdv A outer s H vs Q E hr h => ?_)
  · obtain ⟨v, a, b, rfl, _⟩ := h
    rfl
  obtain ⟨v, a, b, rfl, h1, q⟩ := h
  refine ⟨_, (pss_cons (ps_if (PW.pt (pw_or (pt_not (pt_val (pe_callB call_isi (by rfl) nb.isinstance (by decide +kernel) (pa_cons (pv 0) (pa_cons (pe_bltn (v := .ty "tuple") (by rfl) nb.tuple (by decide +kernel) rfl) pa_nil))))) (pw_or1 (pt_cmpR op_ne (pe_callB g_len (by rfl) nb.len (by decide +kernel) (pa_cons (pv 0) pa_nil)) pe_int (nomark _))))) (pss_one (ps_ret pe_bl)) pss_nil)
      (pss_cons (ps_for PassesOwn.never rfl (pi_tup (pv 0)) (pg_name (i := 1) sc__law_is_number.nd rfl (Or.inl rfl)) (pss_one (ps_if (PW.pt (pw_or (pt_not (pt_val (pe_callB call_isi (by rfl) nb.isinstance (by decide +kernel) (pa_cons (pv 1) (pa_cons (pe_bltn (v := .ty "int") (by rfl) nb.int (by decide +kernel) rfl) pa_nil))))) (pw_or1 (pt_val (pe_callB call_isi (by rfl) nb.isinstance (by decide +kernel) (pa_cons (pv 1) (pa_cons (pe_bltn (v := .ty "bool") (by rfl) nb.bool (by decide +kernel) rfl) pa_nil))))))) (pss_one (ps_ret pe_bl)) pss_nil)))
      (pss_one (ps_ret pe_bl)))), ?_⟩
  walk_at "go"
  refine iFT h1 (fun i σ' H' => ∃ (z : Option V), σ' = [some v, z] ∧ H' = H) ⟨_, rfl, rfl⟩ (fun i σ' H' hP => ?_) (fun i y σ' H' hi hP => ?_) (fun σ' H' hP => ?_)
  · obtain ⟨z, rfl, rfl⟩ := hP
    exact h1
  · obtain ⟨z, rfl, rfl⟩ := hP
    obtain ⟨n, rfl⟩ : ∃ n : Int, y = .int n := by
      match i, hi with
      | 0, hi => exact ⟨a, (Option.some.inj hi).symm⟩
      | 1, hi => exact ⟨b, (Option.some.inj hi).symm⟩
    walk_at "go"
    exact ⟨_, rfl, rfl⟩
  · obtain ⟨z, rfl, rfl⟩ := hP
    walk_at "go"
    exact q
end GP
local macro_rules | `(tactic| walk_at "callee") => `(tactic| ((with_reducible refine' GP.c_isnum ?h1 ?_); (case h1 => walk_at "hp")))

namespace GP
open PySem L2
def sp_law (K : PySem.W.Frag) : Sp := fun vs H Q _ => ∃ (a : Addr) (ns : List Int), vs = [.ref a] ∧ SqL K H a (ns.map V.int) ∧ ns.length ≤ 63 ∧ ∀ H', Q (.bl true) H'
/-- a row's sum: not below nought, of a bounded size -/
theorem sum_sg (xs : List Int) : 0 ≤ GM.sg (GM.sumP xs).1 (GM.sumP xs).2 := by
  rcases GM.sum_nn xs with h | h
  · have := GM.sg_Z.mpr h; omega
  · have := GM.sg_P.mpr h; omega
theorem sum_bd {xs : List Int} {n m : Nat} (h : ∀ k ∈ xs, k.natAbs < n) (hm : xs.length ≤ m) : Bd (n + m) (GM.sumP xs).1 ∧ Bd (n + m) (GM.sumP xs).2 := GM.sumP_size xs h hm
end GP

-- cut
namespace GP
open PySem L2
theorem sg_lt {z w : GM.Z} : 0 < GM.sg (GM.sub z w).1 (GM.sub z w).2 ↔ GM.lt w z := by
  unfold GM.lt
  rw [← GM.sg_P]
  have := GM.sg_tri (GM.sub z w).1 (GM.sub z w).2
  omega
theorem pw_lt_iff {i j : Int} : GM.lt (GM.pw i) (GM.pw j) ↔ i < j := by
  constructor
  · intro h
    by_cases c : i < j
    · exact c
    · by_cases d : i = j
      · rw [d] at h; exact absurd h (GM.lt_irrefl _)
      · exact absurd (GM.lt_trans h (GM.pw_lt (show j < i by omega))) (GM.lt_irrefl _)
  · exact GM.pw_lt
theorem unit_small {a b side m : Int} (ba : Bd 440 a) (bb : Bd 440 b) (hs : side = 1 ∨ side = -1) (h : (side * a, side * b) = GM.pw m) : m.natAbs < 1000 := by
  unfold Bd at ba bb
  have p2 : (2 : Nat) ^ 441 = 2 * 2 ^ 440 := by decide +kernel
  have x1 : side * a = (GM.pw m).1 := congrArg Prod.fst h
  have x2 : side * b = (GM.pw m).2 := congrArg Prod.snd h
  have y1 : (GM.pw m).1.natAbs < 2 ^ 440 := by rw [← x1]; rcases hs with rfl | rfl <;> omega
  have y2 : (GM.pw m).2.natAbs < 2 ^ 440 := by rw [← x2]; rcases hs with rfl | rfl <;> omega
  have u : m < ((2 * 440 + 2 : Nat) : Int) := pw_lt_iff.mp (GM.lt_big y1 y2)
  have l : -m < ((2 * 441 + 2 : Nat) : Int) := by
    refine pw_lt_iff.mp ?_
    rcases GM.cj_pw m with e | e
    · rw [← e]
      exact GM.lt_big (by show ((GM.pw m).1 + (GM.pw m).2).natAbs < _; omega) (by show (0 - (GM.pw m).2).natAbs < _; omega)
    · have e' : GM.pw (-m) = GM.neg (GM.cj (GM.pw m)) := by rw [e, GM.neg_neg]
      rw [e']
      exact GM.lt_big (by show (0 - ((GM.pw m).1 + (GM.pw m).2)).natAbs < _; omega) (by show (0 - (0 - (GM.pw m).2)).natAbs < _; omega)
  omega
def sp_unit : Sp := fun vs H Q _ => ∃ v a b, vs = [v] ∧ N2 H v a b ∧ Bd 440 a ∧ Bd 440 b ∧
  (¬ (GM.nm (a, b) = 1 ∨ GM.nm (a, b) = -1) → Q .non H) ∧
  ((GM.nm (a, b) = 1 ∨ GM.nm (a, b) = -1) → ∀ (m side : Int) r H', (side = 1 ∨ side = -1) → (side * a, side * b) = GM.pw m → m.natAbs < 1000 → Same H H' → N2 H' r side m → Q r H')
theorem ok_unit {P : Program} {w : World} {K : PySem.W.Frag} {mg : Str → Option Value} {base : Heap} {f : Addr} {fd : FuncData} (F : Fun K "unit" "unit" s_unit f fd) (nb : NB mg) (c_sign : Cal P w K mg base CX0 1 "sign" ["number"] sp_sign) (c_times : Cal P w K mg base CX0 1 "times" ["one", "other"] sp_times) (c_lowered : Cal P w K mg base CX0 1 "lowered" ["number"] sp_lowered) (c_raised : Cal P w K mg base CX0 1 "raised" ["number"] sp_raised) (c_norm : Cal P w K mg base CX0 1 "norm" ["number"] sp_norm) (c_less : Cal P w K mg base CX0 1 "less" ["one", "other"] sp_less) : FnOk P w K mg base CX0 2 f fd ["number"] sp_unit := by
  refine F.ok sc_unit (fun vs H Q E h => ?_) (fun cdv A outer s H vs Q E hr h => ?_)
  · obtain ⟨v, a, b, rfl, _⟩ := h
    rfl
  obtain ⟨v, a, b, rfl, hv, ba, bb, q1, q2⟩ := h
  refine ⟨_, (pss_cons (ps_if (pt_cmpR op_ne (pe_callB g_abs (by rfl) nb.abs (by decide +kernel) (pa_cons (pe_callC c_norm hr pass0 (pa_cons (pv 0) pa_nil)) pa_nil)) pe_int (nomark _)) (pss_one (ps_ret pe_non)) pss_nil)
      (pss_cons (ps_set (i := 1) sc_unit.nd rfl (Or.inl rfl) (pe_callC c_sign hr pass0 (pa_cons (pv 0) pa_nil)))
      (pss_cons (ps_set (i := 2) sc_unit.nd rfl (Or.inl rfl) (pe_callC c_times hr pass0 (pa_cons (pe_tup (pa_cons (pv 1) (pa_cons pe_int pa_nil))) (pa_cons (pv 0) pa_nil))))
      (pss_cons (ps_set (i := 3) sc_unit.nd rfl (Or.inl rfl) pe_int)
      (pss_cons (ps_while PassesOwn.never (pt_cmpR op_gt (pe_callC c_sign hr pass0 (pa_cons (pe_callC c_less hr pass0 (pa_cons (pv 2) (pa_cons (pe_tup (pa_cons pe_int (pa_cons pe_int pa_nil))) pa_nil))) pa_nil)) pe_int (nomark _)) (pss_cons (ps_set (i := 2) sc_unit.nd rfl (Or.inl rfl) (pe_callC c_lowered hr pass0 (pa_cons (pv 2) pa_nil)))
      (pss_one (ps_set (i := 3) sc_unit.nd rfl (Or.inl rfl) (pe_op op_add (pv 3) pe_int)))))
      (pss_cons (ps_while PassesOwn.never (pt_cmpR op_gt (pe_callC c_sign hr pass0 (pa_cons (pe_callC c_less hr pass0 (pa_cons (pe_tup (pa_cons pe_int (pa_cons pe_int pa_nil))) (pa_cons (pv 2) pa_nil))) pa_nil)) pe_int (nomark _)) (pss_cons (ps_set (i := 2) sc_unit.nd rfl (Or.inl rfl) (pe_callC c_raised hr pass0 (pa_cons (pv 2) pa_nil)))
      (pss_one (ps_set (i := 3) sc_unit.nd rfl (Or.inl rfl) (pe_op op_sub (pv 3) pe_int)))))
      (pss_one (ps_ret (pe_tup (pa_cons (pv 1) (pa_cons (pv 3) pa_nil))))))))))), ?_⟩
  walk_at "go"
  walk_at "if" <;> intro c
  · walk_at "go"
    exact q1 (fun h => c (by rcases h with h | h <;> (have h' : a * a + a * b - b * b = _ := h) <;> rw [h'] <;> rfl))
  · have hn : GM.nm (a, b) = 1 ∨ GM.nm (a, b) = -1 := by
      show a * a + a * b - b * b = 1 ∨ a * a + a * b - b * b = -1
      split at c <;> omega
    have hz : (a, b) ≠ ((0 : Int), (0 : Int)) := fun h => by rw [h] at hn; rcases hn with h | h <;> cases h
    have hside : ∃ side : Int, GM.sg a b = side ∧ (side = 1 ∨ side = -1) ∧ GM.P (side * a, side * b) := by
      rcases GM.tri' (a, b) with e | e | e
      · exact absurd e hz
      · exact ⟨1, GM.sg_P.mpr e, .inl rfl, by rw [Int.one_mul, Int.one_mul]; exact e⟩
      · refine ⟨-1, GM.sg_M.mpr e, .inr rfl, ?_⟩
        have e' : GM.neg (a, b) = (-1 * a, -1 * b) := by simp only [GM.neg]; exact Prod.ext (by show 0 - a = -1 * a; omega) (by show 0 - b = -1 * b; omega)
        rw [← e']; exact e
    obtain ⟨side, hsg, hs1, hp⟩ := hside
    have hn2 : GM.nm (side * a, side * b) = 1 ∨ GM.nm (side * a, side * b) = -1 := by
      rcases hs1 with rfl | rfl
      · rw [Int.one_mul, Int.one_mul]; exact hn
      · have e : GM.nm (-1 * a, -1 * b) = GM.nm (a, b) := by simp only [GM.nm]; grind
        rw [e]; exact hn
    obtain ⟨m, hm⟩ := GM.unit_pw hp hn2
    have hm1 : m.natAbs < 1000 := unit_small ba bb hs1 hm
    have mu : Mu4 (GM.sg a b) 0 a b := by
      rw [hsg]
      have bs : Bd 2 side := by unfold Bd; omega
      exact ⟨mu_bd Bd.zero (bb.mono rfl), mu_bd (bs.mono rfl) (ba.mono rfl), mu_bd (bs.mono rfl) (bb.mono rfl), mu_bd Bd.zero (ba.mono rfl)⟩
    have e1 : GM.sg a b * a + 0 * b = (GM.pw (m - 0)).1 := by rw [Int.sub_zero, ← hm, hsg]; show _ = side * a; omega
    have e2 : GM.sg a b * b + 0 * a + 0 * b = (GM.pw (m - 0)).2 := by rw [Int.sub_zero, ← hm, hsg]; show _ = side * b; omega
    clear hn2 hp hz
    walk_at "go"
    rename_i t0 G0 ss0 tt0 t1 G1 ss1 tt1
    rw [e1, e2] at tt1
    have g1 : Same H G1 := by walk_at "sm"
    clear ss0 tt0 ss1 e1 e2
    refine iWhile (fun n σ' H' => ∃ (c : Int) (left : V), σ' = [some v, some (.int (GM.sg a b)), some left, some (.int c)] ∧ Same H H' ∧ N2 H' left (GM.pw (m - c)).1 (GM.pw (m - c)).2 ∧ 0 ≤ c ∧ (c ≤ m ∨ c = 0) ∧ n = (m - c).toNat)
      ⟨_, 0, _, rfl, g1, tt1, Int.le_refl 0, .inr rfl, rfl⟩ (fun n σ' H' hW => ?_)
    clear g1 tt1
    obtain ⟨c, left, rfl, hs2, hl, c0, c1, rfl⟩ := hW
    walk_at "go"
    have ec : (0 < GM.sg ((GM.pw (m - c)).1 - 1) ((GM.pw (m - c)).2 - 0)) ↔ 0 < m - c := by
      exact (sg_lt (z := GM.pw (m - c)) (w := (1, 0))).trans (by rw [← GM.pw0]; exact pw_lt_iff)
    refine iWh (fun hc => ?_) (fun hc => ?_)
    · have hc' := ec.mp hc
      walk_at "go"
      refine ⟨_, ?_, c + 1, _, rfl, by walk_at "sm", ?_, by omega, .inl (by omega), rfl⟩
      · omega
      · rw [show m - (c + 1) = m - c - 1 by omega, GM.pw_pred]
        walk_at "hp"
    · have hc' : ¬ 0 < m - c := fun h => hc (ec.mpr h)
      rename_i u0 K0 v0 w0 u1 K1 v1 w1
      have l2 : N2 K1 left (GM.pw (m - c)).1 (GM.pw (m - c)).2 := by walk_at "hp"
      have g2 : Same H K1 := by walk_at "sm"
      clear w0 w1 v0 v1 hl hs2
      refine iNext ?_
      walk_at "go"
      refine iWhile (fun n σ' H' => ∃ (c : Int) (left : V), σ' = [some v, some (.int (GM.sg a b)), some left, some (.int c)] ∧ Same H H' ∧ N2 H' left (GM.pw (m - c)).1 (GM.pw (m - c)).2 ∧ m - c ≤ 0 ∧ -1000 < m - c ∧ n = (c - m).toNat)
        ⟨_, c, _, rfl, g2, l2, by omega, by omega, rfl⟩ (fun n σ' H' hW => ?_)
      clear g2 l2 hc hc' ec c1 c0
      obtain ⟨d, left2, rfl, hs3, hl3, d0, d1, rfl⟩ := hW
      walk_at "go"
      have ec : (0 < GM.sg (1 - (GM.pw (m - d)).1) (0 - (GM.pw (m - d)).2)) ↔ m - d < 0 := by
        exact (sg_lt (z := (1, 0)) (w := GM.pw (m - d))).trans (by rw [← GM.pw0]; exact pw_lt_iff)
      refine iWh (fun hc => ?_) (fun hc => ?_)
      · have hc' := ec.mp hc
        walk_at "go"
        refine ⟨_, ?_, d - 1, _, rfl, by walk_at "sm", ?_, by omega, by omega, rfl⟩
        · omega
        · rw [show m - (d - 1) = m - d + 1 by omega, GM.pw_succ]
          walk_at "hp"
      · have hc' : ¬ m - d < 0 := fun h => hc (ec.mpr h)
        have ed : d = m := by omega
        subst ed
        walk_at "go"
        exact q2 (by assumption) d side _ _ hs1 hm hm1 (by walk_at "sm") (by rw [← hsg]; walk_at "hp")
end GP

namespace GP
open PySem L2
theorem bd_side {side x : Int} (hs : side = 1 ∨ side = -1) (b : Bd 300 x) : Bd 440 (side * x) := by
  have b' : Bd 440 x := b.mono rfl
  rcases hs with rfl | rfl
  · rw [Int.one_mul]; exact b'
  · rw [show -1 * x = -x by omega]; exact b'.neg
theorem nm_side {side a b : Int} (hs : side = 1 ∨ side = -1) : GM.nm (side * a, side * b) = GM.nm (a, b) := by
  rcases hs with rfl | rfl
  · rw [Int.one_mul, Int.one_mul]
  · simp only [GM.nm]; grind
theorem nm_pw (k : Int) : GM.nm (GM.pw k) = 1 ∨ GM.nm (GM.pw k) = -1 := by
  have h : GM.nm (GM.pw k) * GM.nm (GM.pw (-k)) = 1 := by
    rw [← GM.nm_mul, GM.pw_add, show k + -k = 0 by omega]; rfl
  have h1 : (GM.nm (GM.pw k)).natAbs * (GM.nm (GM.pw (-k))).natAbs = 1 := by rw [← Int.natAbs_mul, h]; rfl
  have h2 : (GM.nm (GM.pw k)).natAbs ∣ 1 := ⟨_, h1.symm⟩
  have h3 := Nat.dvd_one.mp h2
  omega
theorem pw_inj {i j : Int} (h : GM.pw i = GM.pw j) : i = j := by
  by_cases c : i < j
  · have := GM.pw_lt c
    rw [h] at this; exact absurd this (GM.lt_irrefl _)
  · by_cases d : j < i
    · have := GM.pw_lt d
      rw [h] at this; exact absurd this (GM.lt_irrefl _)
    · omega
theorem side_pw {s1 s0 i m : Int} (h1 : s1 = 1 ∨ s1 = -1) (h0 : s0 = 1 ∨ s0 = -1) (h : (s1 * (s0 * (GM.pw i).1), s1 * (s0 * (GM.pw i).2)) = GM.pw m) : s1 = s0 ∧ m = i := by
  have same : GM.pw i = GM.pw m → m = i := fun e => (pw_inj e).symm
  have other : GM.neg (GM.pw i) = GM.pw m → False := fun e => (GM.P_pw i).asym (by rw [e]; exact GM.P_pw m)
  rcases h1 with rfl | rfl <;> rcases h0 with rfl | rfl
  · exact ⟨rfl, same (by rw [← h]; exact Prod.ext (by show _ = 1 * (1 * _); omega) (by show _ = 1 * (1 * _); omega))⟩
  · exact (other (by rw [← h]; exact Prod.ext (by show 0 - _ = 1 * (-1 * _); omega) (by show 0 - _ = 1 * (-1 * _); omega))).elim
  · exact (other (by rw [← h]; exact Prod.ext (by show 0 - _ = -1 * (1 * _); omega) (by show 0 - _ = -1 * (1 * _); omega))).elim
  · exact ⟨rfl, same (by rw [← h]; exact Prod.ext (by show _ = -1 * (-1 * _); omega) (by show _ = -1 * (-1 * _); omega))⟩
theorem side_back {s x y : Int} {m : Int} (hs : s = 1 ∨ s = -1) (h : (s * x, s * y) = GM.pw m) : [s * (GM.pw m).1, s * (GM.pw m).2] = [x, y] := by
  have x1 : s * x = (GM.pw m).1 := congrArg Prod.fst h
  have x2 : s * y = (GM.pw m).2 := congrArg Prod.snd h
  rw [← x1, ← x2]
  rcases hs with rfl | rfl
  · rw [show (1 : Int) * (1 * x) = x by omega, show (1 : Int) * (1 * y) = y by omega]
  · rw [show (-1 : Int) * (-1 * x) = x by omega, show (-1 : Int) * (-1 * y) = y by omega]
def sp__law_part : Sp := fun vs H Q _ => ∃ c : Int, vs = [.int c] ∧ ∀ r : Int, Bd 41 r → Q (.int r) H
theorem c_part {H : Hp} {Q : VK} {E : XK} {c : Int} (q : ∀ r : Int, Bd 41 r → Q (.int r) H) : sp__law_part [.int c] H Q E := ⟨c, rfl, q⟩
theorem ok__law_part {P : Program} {w : World} {K : PySem.W.Frag} {mg : Str → Option Value} {base : Heap} {f : Addr} {fd : FuncData} (F : Fun K "_law_part" "_law_part" s__law_part f fd) : FnOk P w K mg base CX0 1 f fd ["cell"] sp__law_part := by
  refine F.ok sc__law_part (fun vs H Q E h => ?_) (fun cdv A outer s H vs Q E hr h => ?_)
  · obtain ⟨c, rfl, _⟩ := h
    rfl
  obtain ⟨c, rfl, q⟩ := h
  refine ⟨_, (pss_cons (ps_if (pt_cmpR op_eq (pe_op op_mod (pv 0) pe_int) pe_int (nomark _)) (pss_one (ps_ret (pe_op op_sub (pe_op op_mod (pe_op op_fdivA (pv 0) pe_int) (pe_op op_add (pe_op op_mulA pe_int (pe_op op_pow pe_int pe_int)) pe_int)) (pe_op op_pow pe_int pe_int)))) pss_nil)
      (pss_one (ps_ret (pe_op op_sub (pe_op op_mod (pe_op op_fdivA (pv 0) pe_int) pe_int) pe_int)))), ?_⟩
  walk_at "ifs"
  all_goals exact q _ (by unfold Bd; omega)
end GP
local macro_rules | `(tactic| walk_at "callee") => `(tactic| ((with_reducible refine GP.c_part ?_); intro _ _))
namespace GP
open PySem L2
theorem ok_law {P : Program} {w : World} {K : PySem.W.Frag} {mg : Str → Option Value} {base : Heap} {f : Addr} {fd : FuncData} (F : Fun K "law" "law" s_law f fd) (nb : NB mg) (c__law_power : Cal P w K mg base CX0 1 "_law_power" ["k"] sp__law_power) (c_unit : Cal P w K mg base CX0 2 "unit" ["number"] sp_unit) (c_power : Cal P w K mg base CX0 2 "power" ["k"] sp_power) (c__law_part : Cal P w K mg base CX0 1 "_law_part" ["cell"] sp__law_part) (c__law_cell_at : Cal P w K mg base CX0 1 "_law_cell_at" ["script", "k"] (sp__law_cell_at K)) (c__law_is_number : Cal P w K mg base CX0 1 "_law_is_number" ["found"] sp__law_is_number) : FnOk P w K mg base CX0 3 f fd ["script"] (sp_law K) := by
  refine F.ok sc_law (fun vs H Q E h => ?_) (fun cdv A outer s H vs Q E hr h => ?_)
  · obtain ⟨a, ns, rfl, _⟩ := h
    rfl
  obtain ⟨a0, ns, rfl, hS, h63, q⟩ := h
  refine ⟨_, (pss_cons (ps_set (i := 1) sc_law.nd rfl (Or.inl rfl) (pe_op op_sub (pe_op op_mod (pe_callC c__law_cell_at (hr.mono (by decide)) pass0 (pa_cons (pv 0) (pa_cons pe_int pa_nil))) pe_int) pe_int))
      (pss_cons (ps_set (i := 2) sc_law.nd rfl (Or.inl rfl) (pe_op op_sub pe_int (pe_op op_mulA pe_int (pe_op op_mod (pe_callC c__law_cell_at (hr.mono (by decide)) pass0 (pa_cons (pv 0) (pa_cons pe_int pa_nil))) pe_int))))
      (pss_cons (ps_set (i := 3) sc_law.nd rfl (Or.inl rfl) (pe_callC c__law_power (hr.mono (by decide)) pass0 (pa_cons (pv 1) pa_nil)))
      (pss_cons (ps_set (i := 4) sc_law.nd rfl (Or.inl rfl) (pe_callC c_unit hr pass0 (pa_cons (pe_tup (pa_cons (pe_op op_mulA (pv 2) (pe_ix ix_seq (pv 3) pe_int (fun _ _ => rfl))) (pa_cons (pe_op op_mulA (pv 2) (pe_ix ix_seq (pv 3) pe_int (fun _ _ => rfl))) pa_nil))) pa_nil)))
      (pss_cons (ps_if (PW.pt (pw_or (pt_not (pt_val (pe_callC c__law_is_number (hr.mono (by decide)) pass0 (pa_cons (pv 4) pa_nil)))) (pw_or1 (pt_cmpR (op_neD hr.units) (pv 4) (pe_tup (pa_cons (pv 2) (pa_cons (pv 1) pa_nil))) (nomark _))))) (pss_one (ps_ret pe_bl)) pss_nil)
      (pss_cons (ps_set (i := 5) sc_law.nd rfl (Or.inl rfl) (pe_tup (pa_cons (pe_callC c__law_part (hr.mono (by decide)) pass0 (pa_cons (pe_callC c__law_cell_at (hr.mono (by decide)) pass0 (pa_cons (pv 0) (pa_cons pe_int pa_nil))) pa_nil)) (pa_cons (pe_callC c__law_part (hr.mono (by decide)) pass0 (pa_cons (pe_callC c__law_cell_at (hr.mono (by decide)) pass0 (pa_cons (pv 0) (pa_cons pe_int pa_nil))) pa_nil)) pa_nil))))
      (pss_cons (ps_set (i := 6) sc_law.nd rfl (Or.inl rfl) (pe_callB g_abs (by rfl) nb.abs (by decide +kernel) (pa_cons (pe_op op_sub (pe_op op_add (pe_op op_mulA (pe_ix ix_seq (pv 5) pe_int (fun _ _ => rfl)) (pe_ix ix_seq (pv 5) pe_int (fun _ _ => rfl))) (pe_op op_mulA (pe_ix ix_seq (pv 5) pe_int (fun _ _ => rfl)) (pe_ix ix_seq (pv 5) pe_int (fun _ _ => rfl)))) (pe_op op_mulA (pe_ix ix_seq (pv 5) pe_int (fun _ _ => rfl)) (pe_ix ix_seq (pv 5) pe_int (fun _ _ => rfl)))) pa_nil)))
      (pss_cons (ps_set (i := 4) sc_law.nd rfl (Or.inl rfl) (pe_callC c_unit hr pass0 (pa_cons (pv 5) pa_nil)))
      (pss_cons (ps_if (pt_cmpR op_ne (pv 6) pe_int (nomark _)) (pss_one (ps_ret (pe_cmpR g_isN (pv 4) pe_non (nomark _)))) pss_nil)
      (pss_cons (ps_if (PW.pt (pw_or (pt_not (pt_val (pe_callC c__law_is_number (hr.mono (by decide)) pass0 (pa_cons (pv 4) pa_nil)))) (pw_or1 (pt_cmpR op_ne (pe_callB g_abs (by rfl) nb.abs (by decide +kernel) (pa_cons (pe_ix ix_seq (pv 4) pe_int (fun _ _ => rfl)) pa_nil)) pe_int (nomark _))))) (pss_one (ps_ret pe_bl)) pss_nil)
      (pss_cons (ps_set (i := 7) sc_law.nd rfl (Or.inl rfl) (pe_callC c_power hr pass0 (pa_cons (pe_ix ix_seq (pv 4) pe_int (fun _ _ => rfl)) pa_nil)))
      (pss_one (ps_ret (pe_cmpR (op_eqD hr.units) (pe_tup (pa_cons (pe_op op_mulA (pe_ix ix_seq (pv 4) pe_int (fun _ _ => rfl)) (pe_ix ix_seq (pv 7) pe_int (fun _ _ => rfl))) (pa_cons (pe_op op_mulA (pe_ix ix_seq (pv 4) pe_int (fun _ _ => rfl)) (pe_ix ix_seq (pv 7) pe_int (fun _ _ => rfl))) pa_nil))) (pv 5) (nomark _))))))))))))))), ?_⟩
  have hc : (cellAt ns 0 % 576 - 287).natAbs < 299 := by omega
  have hs0 : 1 - 2 * (cellAt ns 1 % 2) = 1 ∨ 1 - 2 * (cellAt ns 1 % 2) = -1 := by omega
  have hs2 : Bd 2 (1 - 2 * (cellAt ns 1 % 2)) := by unfold Bd; omega
  have hb1 : Bd 300 (GM.pw (cellAt ns 0 % 576 - 287)).1 := (GM.pw_size (n := 300) (by omega)).1
  have hb2 : Bd 300 (GM.pw (cellAt ns 0 % 576 - 287)).2 := (GM.pw_size (n := 300) (by omega)).2
  walk_at "go"
  refine ⟨_, _, _, rfl, by walk_at "hp", bd_side hs0 hb1, bd_side hs0 hb2, fun h => ?_, fun _ m side r H' hs hm hm1 s1 t1 => ?_⟩
  · exact absurd (by rw [nm_side hs0]; exact nm_pw _) h
  · obtain ⟨rfl, rfl⟩ := side_pw hs hs0 hm
    walk_at "go"
    rename_i x bx y by' v3 H3 s3 t3
    refine ⟨_, x, y, rfl, by walk_at "hp", bx.mono rfl, by'.mono rfl, fun h => ?_, fun hu m side r H' hs hm hm1 s1 t1 => ?_⟩
    · walk_at "go"
      refine iIfNF (fun c => h ?_) ?_
      · show x * x + x * y - y * y = 1 ∨ x * x + x * y - y * y = -1
        split at c <;> omega
      · walk_at "go"
        exact iRtB (decide_eq_true rfl).symm (q _)
    · walk_at "go"
      refine iIfNT ?_ ?_
      · have hu' : x * x + x * y - y * y = 1 ∨ x * x + x * y - y * y = -1 := hu
        split <;> omega
      · have bs : Bd 2 side := by unfold Bd; omega
        walk_at "go"
        exact iRtB (decide_eq_true (side_back hs hm)).symm (q _)
end GP

namespace GP
open PySem L2
theorem all_mk {P : Program} {w : World} {K : PySem.W.Frag} {h : Heap} {mg : Str → Option Value} {fa : Addr} (X : K.In h) (G : h.Ns mainGlobals mg) (hfa : mg "law" = some (.ref fa))
    {oc1 kV1 dc1 pm1 cd1 ct1 : Value} {od1 an1 : Option Addr} {sl1 : Array (Option Value)} {f1 : Addr}
    {oc2 kV2 dc2 pm2 cd2 ct2 : Value} {od2 an2 : Option Addr} {sl2 : Array (Option Value)} {f2 : Addr}
    {oc3 kV3 dc3 pm3 cd3 ct3 : Value} {od3 an3 : Option Addr} {sl3 : Array (Option Value)} {f3 : Addr}
    {oc4 kV4 dc4 pm4 cd4 ct4 : Value} {od4 an4 : Option Addr} {sl4 : Array (Option Value)} {f4 : Addr}
    {oc5 kV5 dc5 pm5 cd5 ct5 : Value} {od5 an5 : Option Addr} {sl5 : Array (Option Value)} {f5 : Addr}
    {oc6 kV6 dc6 pm6 cd6 ct6 : Value} {od6 an6 : Option Addr} {sl6 : Array (Option Value)} {f6 : Addr}
    {oc7 kV7 dc7 pm7 cd7 ct7 : Value} {od7 an7 : Option Addr} {sl7 : Array (Option Value)} {f7 : Addr}
    {oc8 kV8 dc8 pm8 cd8 ct8 : Value} {od8 an8 : Option Addr} {sl8 : Array (Option Value)} {f8 : Addr}
    {oc9 kV9 dc9 pm9 cd9 ct9 : Value} {od9 an9 : Option Addr} {sl9 : Array (Option Value)} {f9 : Addr}
    {oc10 kV10 dc10 pm10 cd10 ct10 : Value} {od10 an10 : Option Addr} {sl10 : Array (Option Value)} {f10 : Addr}
    {oc11 kV11 dc11 pm11 cd11 ct11 : Value} {od11 an11 : Option Addr} {sl11 : Array (Option Value)} {f11 : Addr}
    {oc12 kV12 dc12 pm12 cd12 ct12 : Value} {od12 an12 : Option Addr} {sl12 : Array (Option Value)} {f12 : Addr}
    {oc13 kV13 dc13 pm13 cd13 ct13 : Value} {od13 an13 : Option Addr} {sl13 : Array (Option Value)} {f13 : Addr}
    (a1 : PySem.W.nsIn K mainGlobals "less" = some (some (.ref f1)))
    (l1 : K.lookup f1 = some ⟨oc1, od1, .func (PySem.W.fnOf "less" "less" (defArgs s_less) (defBody s_less) (defScope s_less) .none kV1 dc1 pm1 an1 cd1 ct1), sl1⟩)
    (c1 : PySem.W.codeIn K cd1 "less" = true)
    (k1 : PySem.W.keepIn K (.ref f1) = true)
    (a2 : PySem.W.nsIn K mainGlobals "times" = some (some (.ref f2)))
    (l2 : K.lookup f2 = some ⟨oc2, od2, .func (PySem.W.fnOf "times" "times" (defArgs s_times) (defBody s_times) (defScope s_times) .none kV2 dc2 pm2 an2 cd2 ct2), sl2⟩)
    (c2 : PySem.W.codeIn K cd2 "times" = true)
    (k2 : PySem.W.keepIn K (.ref f2) = true)
    (a3 : PySem.W.nsIn K mainGlobals "norm" = some (some (.ref f3)))
    (l3 : K.lookup f3 = some ⟨oc3, od3, .func (PySem.W.fnOf "norm" "norm" (defArgs s_norm) (defBody s_norm) (defScope s_norm) .none kV3 dc3 pm3 an3 cd3 ct3), sl3⟩)
    (c3 : PySem.W.codeIn K cd3 "norm" = true)
    (k3 : PySem.W.keepIn K (.ref f3) = true)
    (a4 : PySem.W.nsIn K mainGlobals "sign" = some (some (.ref f4)))
    (l4 : K.lookup f4 = some ⟨oc4, od4, .func (PySem.W.fnOf "sign" "sign" (defArgs s_sign) (defBody s_sign) (defScope s_sign) .none kV4 dc4 pm4 an4 cd4 ct4), sl4⟩)
    (c4 : PySem.W.codeIn K cd4 "sign" = true)
    (k4 : PySem.W.keepIn K (.ref f4) = true)
    (a5 : PySem.W.nsIn K mainGlobals "raised" = some (some (.ref f5)))
    (l5 : K.lookup f5 = some ⟨oc5, od5, .func (PySem.W.fnOf "raised" "raised" (defArgs s_raised) (defBody s_raised) (defScope s_raised) .none kV5 dc5 pm5 an5 cd5 ct5), sl5⟩)
    (c5 : PySem.W.codeIn K cd5 "raised" = true)
    (k5 : PySem.W.keepIn K (.ref f5) = true)
    (a6 : PySem.W.nsIn K mainGlobals "lowered" = some (some (.ref f6)))
    (l6 : K.lookup f6 = some ⟨oc6, od6, .func (PySem.W.fnOf "lowered" "lowered" (defArgs s_lowered) (defBody s_lowered) (defScope s_lowered) .none kV6 dc6 pm6 an6 cd6 ct6), sl6⟩)
    (c6 : PySem.W.codeIn K cd6 "lowered" = true)
    (k6 : PySem.W.keepIn K (.ref f6) = true)
    (a7 : PySem.W.nsIn K mainGlobals "power" = some (some (.ref f7)))
    (l7 : K.lookup f7 = some ⟨oc7, od7, .func (PySem.W.fnOf "power" "power" (defArgs s_power) (defBody s_power) (defScope s_power) .none kV7 dc7 pm7 an7 cd7 ct7), sl7⟩)
    (c7 : PySem.W.codeIn K cd7 "power" = true)
    (k7 : PySem.W.keepIn K (.ref f7) = true)
    (a8 : PySem.W.nsIn K mainGlobals "unit" = some (some (.ref f8)))
    (l8 : K.lookup f8 = some ⟨oc8, od8, .func (PySem.W.fnOf "unit" "unit" (defArgs s_unit) (defBody s_unit) (defScope s_unit) .none kV8 dc8 pm8 an8 cd8 ct8), sl8⟩)
    (c8 : PySem.W.codeIn K cd8 "unit" = true)
    (k8 : PySem.W.keepIn K (.ref f8) = true)
    (a9 : PySem.W.nsIn K mainGlobals "_law_cell_at" = some (some (.ref f9)))
    (l9 : K.lookup f9 = some ⟨oc9, od9, .func (PySem.W.fnOf "_law_cell_at" "_law_cell_at" (defArgs s__law_cell_at) (defBody s__law_cell_at) (defScope s__law_cell_at) .none kV9 dc9 pm9 an9 cd9 ct9), sl9⟩)
    (c9 : PySem.W.codeIn K cd9 "_law_cell_at" = true)
    (k9 : PySem.W.keepIn K (.ref f9) = true)
    (a10 : PySem.W.nsIn K mainGlobals "_law_part" = some (some (.ref f10)))
    (l10 : K.lookup f10 = some ⟨oc10, od10, .func (PySem.W.fnOf "_law_part" "_law_part" (defArgs s__law_part) (defBody s__law_part) (defScope s__law_part) .none kV10 dc10 pm10 an10 cd10 ct10), sl10⟩)
    (c10 : PySem.W.codeIn K cd10 "_law_part" = true)
    (k10 : PySem.W.keepIn K (.ref f10) = true)
    (a11 : PySem.W.nsIn K mainGlobals "_law_power" = some (some (.ref f11)))
    (l11 : K.lookup f11 = some ⟨oc11, od11, .func (PySem.W.fnOf "_law_power" "_law_power" (defArgs s__law_power) (defBody s__law_power) (defScope s__law_power) .none kV11 dc11 pm11 an11 cd11 ct11), sl11⟩)
    (c11 : PySem.W.codeIn K cd11 "_law_power" = true)
    (k11 : PySem.W.keepIn K (.ref f11) = true)
    (a12 : PySem.W.nsIn K mainGlobals "_law_is_number" = some (some (.ref f12)))
    (l12 : K.lookup f12 = some ⟨oc12, od12, .func (PySem.W.fnOf "_law_is_number" "_law_is_number" (defArgs s__law_is_number) (defBody s__law_is_number) (defScope s__law_is_number) .none kV12 dc12 pm12 an12 cd12 ct12), sl12⟩)
    (c12 : PySem.W.codeIn K cd12 "_law_is_number" = true)
    (k12 : PySem.W.keepIn K (.ref f12) = true)
    (a13 : PySem.W.nsIn K mainGlobals "law" = some (some (.ref f13)))
    (l13 : K.lookup f13 = some ⟨oc13, od13, .func (PySem.W.fnOf "law" "law" (defArgs s_law) (defBody s_law) (defScope s_law) .none kV13 dc13 pm13 an13 cd13 ct13), sl13⟩)
    (c13 : PySem.W.codeIn K cd13 "law" = true)
    (k13 : PySem.W.keepIn K (.ref f13) = true)
    (z_len : PySem.W.nsIn K mainGlobals "len" = some none)
    (z_range : PySem.W.nsIn K mainGlobals "range" = some none)
    (z_abs : PySem.W.nsIn K mainGlobals "abs" = some none)
    (z_int : PySem.W.nsIn K mainGlobals "int" = some none)
    (z_bool : PySem.W.nsIn K mainGlobals "bool" = some none)
    (z_isinstance : PySem.W.nsIn K mainGlobals "isinstance" = some none)
    (z_tuple : PySem.W.nsIn K mainGlobals "tuple" = some none)
    (z_list : PySem.W.nsIn K mainGlobals "list" = some none)
    (z_str : PySem.W.nsIn K mainGlobals "str" = some none)
    (z_max : PySem.W.nsIn K mainGlobals "max" = some none)
    (z_min : PySem.W.nsIn K mainGlobals "min" = some none)
    (z_ValueError : PySem.W.nsIn K mainGlobals "ValueError" = some none)
    : ∃ fd : FuncData, (∀ (s : Shared) (v : Value), BindsTo s fd ⟨[v], []⟩ [("script", v)]) ∧ ∀ base : Heap, K.In base → base.Ns mainGlobals mg → FnOk P w K mg base CX0 3 fa fd ["script"] (sp_law K) := by
  have e := hfa.symm.trans (PySem.W.mg_of X G a13)
  cases e
  have F_less := fun_mk (st := s_less) l1 c1 k1
  have F_times := fun_mk (st := s_times) l2 c2 k2
  have F_norm := fun_mk (st := s_norm) l3 c3 k3
  have F_sign := fun_mk (st := s_sign) l4 c4 k4
  have F_raised := fun_mk (st := s_raised) l5 c5 k5
  have F_lowered := fun_mk (st := s_lowered) l6 c6 k6
  have F_power := fun_mk (st := s_power) l7 c7 k7
  have F_unit := fun_mk (st := s_unit) l8 c8 k8
  have F__law_cell_at := fun_mk (st := s__law_cell_at) l9 c9 k9
  have F__law_part := fun_mk (st := s__law_part) l10 c10 k10
  have F__law_power := fun_mk (st := s__law_power) l11 c11 k11
  have F__law_is_number := fun_mk (st := s__law_is_number) l12 c12 k12
  have F_law := fun_mk (st := s_law) l13 c13 k13
  have nb : NB mg := ⟨PySem.W.mg_none_of X G z_len, PySem.W.mg_none_of X G z_range, PySem.W.mg_none_of X G z_abs, PySem.W.mg_none_of X G z_int, PySem.W.mg_none_of X G z_bool, PySem.W.mg_none_of X G z_isinstance, PySem.W.mg_none_of X G z_tuple, PySem.W.mg_none_of X G z_list, PySem.W.mg_none_of X G z_str, PySem.W.mg_none_of X G z_max, PySem.W.mg_none_of X G z_min, PySem.W.mg_none_of X G z_ValueError⟩
  refine ⟨PySem.W.fnOf "law" "law" (defArgs s_law) (defBody s_law) (defScope s_law) .none kV13 dc13 pm13 an13 cd13 ct13, fun s v => .of_eq rfl, fun base _ _ => ?_⟩
  have c_less : Cal P w K mg base CX0 1 "less" ["one", "other"] sp_less := ⟨_, _, PySem.W.mg_of X G a1, k1, F_less.binds (ps := ["one", "other"]) (fun _ _ _ _ _ _ us hl => match us, hl with | [_, _], _ => rfl), ok_less F_less⟩
  have c_times : Cal P w K mg base CX0 1 "times" ["one", "other"] sp_times := ⟨_, _, PySem.W.mg_of X G a2, k2, F_times.binds (ps := ["one", "other"]) (fun _ _ _ _ _ _ us hl => match us, hl with | [_, _], _ => rfl), ok_times F_times⟩
  have c_norm : Cal P w K mg base CX0 1 "norm" ["number"] sp_norm := ⟨_, _, PySem.W.mg_of X G a3, k3, F_norm.binds (ps := ["number"]) (fun _ _ _ _ _ _ us hl => match us, hl with | [_], _ => rfl), ok_norm F_norm⟩
  have c_sign : Cal P w K mg base CX0 1 "sign" ["number"] sp_sign := ⟨_, _, PySem.W.mg_of X G a4, k4, F_sign.binds (ps := ["number"]) (fun _ _ _ _ _ _ us hl => match us, hl with | [_], _ => rfl), ok_sign F_sign⟩
  have c_raised : Cal P w K mg base CX0 1 "raised" ["number"] sp_raised := ⟨_, _, PySem.W.mg_of X G a5, k5, F_raised.binds (ps := ["number"]) (fun _ _ _ _ _ _ us hl => match us, hl with | [_], _ => rfl), ok_raised F_raised⟩
  have c_lowered : Cal P w K mg base CX0 1 "lowered" ["number"] sp_lowered := ⟨_, _, PySem.W.mg_of X G a6, k6, F_lowered.binds (ps := ["number"]) (fun _ _ _ _ _ _ us hl => match us, hl with | [_], _ => rfl), ok_lowered F_lowered⟩
  have c_power : Cal P w K mg base CX0 2 "power" ["k"] sp_power := ⟨_, _, PySem.W.mg_of X G a7, k7, F_power.binds (ps := ["k"]) (fun _ _ _ _ _ _ us hl => match us, hl with | [_], _ => rfl), ok_power F_power nb c_raised c_lowered⟩
  have c_unit : Cal P w K mg base CX0 2 "unit" ["number"] sp_unit := ⟨_, _, PySem.W.mg_of X G a8, k8, F_unit.binds (ps := ["number"]) (fun _ _ _ _ _ _ us hl => match us, hl with | [_], _ => rfl), ok_unit F_unit nb c_sign c_times c_lowered c_raised c_norm c_less⟩
  have c__law_cell_at : Cal P w K mg base CX0 1 "_law_cell_at" ["script", "k"] (sp__law_cell_at K) := ⟨_, _, PySem.W.mg_of X G a9, k9, F__law_cell_at.binds (ps := ["script", "k"]) (fun _ _ _ _ _ _ us hl => match us, hl with | [_, _], _ => rfl), ok__law_cell_at F__law_cell_at nb⟩
  have c__law_part : Cal P w K mg base CX0 1 "_law_part" ["cell"] sp__law_part := ⟨_, _, PySem.W.mg_of X G a10, k10, F__law_part.binds (ps := ["cell"]) (fun _ _ _ _ _ _ us hl => match us, hl with | [_], _ => rfl), ok__law_part F__law_part⟩
  have c__law_power : Cal P w K mg base CX0 1 "_law_power" ["k"] sp__law_power := ⟨_, _, PySem.W.mg_of X G a11, k11, F__law_power.binds (ps := ["k"]) (fun _ _ _ _ _ _ us hl => match us, hl with | [_], _ => rfl), ok__law_power F__law_power nb⟩
  have c__law_is_number : Cal P w K mg base CX0 1 "_law_is_number" ["found"] sp__law_is_number := ⟨_, _, PySem.W.mg_of X G a12, k12, F__law_is_number.binds (ps := ["found"]) (fun _ _ _ _ _ _ us hl => match us, hl with | [_], _ => rfl), ok__law_is_number F__law_is_number nb⟩
  exact ok_law F_law nb c__law_power c_unit c_power c__law_part c__law_cell_at c__law_is_number
end GP
open PySem PySem.W PyProof.Rows
set_option maxRecDepth 100000 in
set_option maxHeartbeats 0 in
theorem PySem.Challenge.cw_goldplaces_k14_whole_units_holds : PySem.Challenge.rw_goldplaces_k14_whole_units.Holds := by
  w_on; o_law; k_head; (case hw => w_witness2)
  k_fill
  refine L2.walk_of (l := PySem.Challenge.rw_goldplaces_k14_whole_units) (n := 63) (k := 3) (x := "script") (CX := fun _ => L2.CX0) (sp := fun w => GP.sp_law _) rfl (by decide) rfl ⟨rfl, by decide, by decide⟩ (fun w h Y => PySem.W.kIn_of Y) ?F (fun _ _ a ns hl _ hS => ⟨a, ns, rfl, hS, hl, fun _ => rfl⟩) (fun _ _ _ _ _ h => h)
  case F =>
    intro w mg fa h KX G hmg
    refine' GP.all_mk KX G hmg ?a1 ?l1 ?c1 ?k1 ?a2 ?l2 ?c2 ?k2 ?a3 ?l3 ?c3 ?k3 ?a4 ?l4 ?c4 ?k4 ?a5 ?l5 ?c5 ?k5 ?a6 ?l6 ?c6 ?k6 ?a7 ?l7 ?c7 ?k7 ?a8 ?l8 ?c8 ?k8 ?a9 ?l9 ?c9 ?k9 ?a10 ?l10 ?c10 ?k10 ?a11 ?l11 ?c11 ?k11 ?a12 ?l12 ?c12 ?k12 ?a13 ?l13 ?c13 ?k13 ?z_len ?z_range ?z_abs ?z_int ?z_bool ?z_isinstance ?z_tuple ?z_list ?z_str ?z_max ?z_min ?z_ValueError
    (case a1 => k_is)
    (case l1 => k_is)
    (case c1 => k_is)
    (case k1 => k_is)
    (case a2 => k_is)
    (case l2 => k_is)
    (case c2 => k_is)
    (case k2 => k_is)
    (case a3 => k_is)
    (case l3 => k_is)
    (case c3 => k_is)
    (case k3 => k_is)
    (case a4 => k_is)
    (case l4 => k_is)
    (case c4 => k_is)
    (case k4 => k_is)
    (case a5 => k_is)
    (case l5 => k_is)
    (case c5 => k_is)
    (case k5 => k_is)
    (case a6 => k_is)
    (case l6 => k_is)
    (case c6 => k_is)
    (case k6 => k_is)
    (case a7 => k_is)
    (case l7 => k_is)
    (case c7 => k_is)
    (case k7 => k_is)
    (case a8 => k_is)
    (case l8 => k_is)
    (case c8 => k_is)
    (case k8 => k_is)
    (case a9 => k_is)
    (case l9 => k_is)
    (case c9 => k_is)
    (case k9 => k_is)
    (case a10 => k_is)
    (case l10 => k_is)
    (case c10 => k_is)
    (case k10 => k_is)
    (case a11 => k_is)
    (case l11 => k_is)
    (case c11 => k_is)
    (case k11 => k_is)
    (case a12 => k_is)
    (case l12 => k_is)
    (case c12 => k_is)
    (case k12 => k_is)
    (case a13 => k_is)
    (case l13 => k_is)
    (case c13 => k_is)
    (case k13 => k_is)
    (case z_len => k_is)
    (case z_range => k_is)
    (case z_abs => k_is)
    (case z_int => k_is)
    (case z_bool => k_is)
    (case z_isinstance => k_is)
    (case z_tuple => k_is)
    (case z_list => k_is)
    (case z_str => k_is)
    (case z_max => k_is)
    (case z_min => k_is)
    (case z_ValueError => k_is)
#print axioms PySem.Challenge.cw_goldplaces_k14_whole_units_holds
