import PyProof.Rows.All
import Wide.All
import OpenK.AllK
import Wide.FinOn
import HandS.ForExc
import HandS.Comp
import HandS.Iter
import HandS.Text
import HandS.Wide
import HandS.IsInst
import HandS.ExcIs
import KE.RegKIsAll
import HandS.Walk
import PySem.Challenge.RW_goldplaces_k17_read_or_refused
set_option Elab.async false
set_option linter.all false
set_option maxRecDepth 100000
set_option maxHeartbeats 0
namespace GP
open PySem L2

/-! ### what stands in the heap: tuples and lists by their values -/
def TU (H : Hp) (v : V) (xs : List V) : Prop := ∃ a, v = .ref a ∧ H a = some (.tup xs)
def LS (H : Hp) (v : V) (xs : List V) : Prop := ∃ a, v = .ref a ∧ H a = some (.lst xs)
abbrev N2 (H : Hp) (v : V) (a b : Int) : Prop := TU H v [.int a, .int b]
abbrev LI (H : Hp) (v : V) (ns : List Int) : Prop := LS H v (ns.map V.int)
theorem TU.same {H H' : Hp} {v : V} {xs : List V} (s : Same H H') (h : TU H v xs) : TU H' v xs := by
  obtain ⟨a, e, q⟩ := h
  exact ⟨a, e, s _ _ q⟩
theorem LS.same {H H' : Hp} {v : V} {xs : List V} (s : Same H H') (h : LS H v xs) : LS H' v xs := by
  obtain ⟨a, e, q⟩ := h
  exact ⟨a, e, s _ _ q⟩
/-- the list that a def is filling -/
def LK (H : Hp) (l : Addr) (ns : List Int) : Prop := H l = some (.lst (ns.map V.int))
theorem LK.same {H H' : Hp} {l : Addr} {ns : List Int} (s : Same H H') (h : LK H l ns) : LK H' l ns := s _ _ h
theorem LK.new {H : Hp} {l : Addr} {ns : List Int} : LK (upd H l (.lst (ns.map V.int))) l ns := upd_same
theorem LK.app {H0 H : Hp} {p l : Addr} {ns ms : List Int} {o : HO} (hp : LK H0 p ms) (hl : H0 l = none) (k : LK H l ns) : LK (upd H p o) l ns := by
  have e : l ≠ p := fun e => by
    subst e
    have z : H0 l = some (.lst (ms.map V.int)) := hp
    rw [hl] at z; cases z
  show upd H p o l = _
  rw [upd_ne e]
  exact k
theorem LK.ls {H : Hp} {l : Addr} {ns : List Int} (h : LK H l ns) : LI H (.ref l) ns := ⟨l, rfl, h⟩
theorem TU.app {H : Hp} {l : Addr} {ns : List Int} {o : HO} {v : V} {xs : List V} (h : LK H l ns) (t : TU H v xs) : TU (upd H l o) v xs := by
  obtain ⟨a, e, q⟩ := t
  exact ⟨a, e, by rw [upd_ne (ne_of q h (by intro z; cases z))]; exact q⟩
theorem Same.back {H H1 H' : Hp} (b : Same H1 H') (a : Same H H1) : Same H H' := a.trans b
theorem SqL_same {K : PySem.W.Frag} {H H' : Hp} {a : Addr} {xs : List V} (s : Same H H') (h : SqL K H a xs) : SqL K H' a xs := s.seq h
theorem same_new {H : Hp} {p : Addr} {o : HO} (h : H p = none) : Same H (upd H p o) := fun b x e => by
  rw [upd_ne (ne_of_none e h)]
  exact e
theorem line8 {n : Nat} (h : n ≤ 8) : n ≤ sizeLine := Nat.le_trans h (by decide)
theorem lineK {n : Nat} (h : n ≤ 100000) : n < sizeLine := Nat.lt_of_le_of_lt h (by decide)

/-! ### a def that may be called -/
structure Cal (P : Program) (w : World) (K : PySem.W.Frag) (mg : Str → Option Value) (base : Heap) (CX : CXT) (k : Nat) (x : Str) (ps : List Str) (sp : Sp) : Prop where
  ex : ∃ f fd, mg x = some (.ref f) ∧ PySem.W.keepIn K (.ref f) = true ∧ Binds K fd ps [] ∧ FnOk P w K mg base CX k f fd ps sp
theorem pe_callC {X : Cx} {CX : CXT} {k : Nat} {x : Str} {ps : List Str} {sp : Sp} {E : XK} {p pos : Pos} {e : Expr} {es : List Expr} {t : TA} (C : Cal X.prog X.w X.K X.mg X.base CX k x ps sp) (hr : Room k X.A) (hx : Passes CX X E) (ha : PA X (e :: es) t) (hg : Gl X x := by rfl)
    (hdb : (x == ("__debug__" : Str)) = false := by decide) (he : starEach (e :: es) X.env = (false, eval e X.env) :: starEach es X.env := by rfl) (hpl : (backTo pos (starEach es X.env)).any (·.1) = false := by rfl) :
    PE X (.Call (.Name x p) (e :: es) [] pos) (tCall sp [] E t) := by
  obtain ⟨f, fd, h1, h2, h3, h4⟩ := C.ex
  exact pe_call h4 hr hg h1 h2 h3 .nil hx ha hdb he hpl
/-- as a call in a try's body -/
theorem pe_callT {X : Cx} {k : Nat} {x : Str} {ps : List Str} {sp : Sp} {W : WX} {p pos : Pos} {e : Expr} {es : List Expr} {t : TA} (tk : Takes X W) (C : Cal X.prog X.w X.K X.mg X.base (L2.CX X.prog X.w) k x ps sp) (hr : Room k X.A) (ha : PA X (e :: es) t) (hg : Gl X x := by rfl)
    (hdb : (x == ("__debug__" : Str)) = false := by decide) (he : starEach (e :: es) X.env = (false, eval e X.env) :: starEach es X.env := by rfl) (hpl : (backTo pos (starEach es X.env)).any (·.1) = false := by rfl) :
    PE X (.Call (.Name x p) (e :: es) [] pos) (tCallS sp (WE W) t) := by
  obtain ⟨f, fd, h1, h2, h3, h4⟩ := C.ex
  exact pe_callS h4 hr hg h1 h2 h3 (fun σ => passAt tk σ) ha hdb he hpl
/-- the built-in names that the texts use: none of them is the module's own -/
structure NB (mg : Str → Option Value) : Prop where
  len : mg "len" = none
  range : mg "range" = none
  abs : mg "abs" = none
  int : mg "int" = none
  bool : mg "bool" = none
  isinstance : mg "isinstance" = none
  tuple : mg "tuple" = none
  list : mg "list" = none
  str : mg "str" = none
  max : mg "max" = none
  min : mg "min" = none
  ValueError : mg "ValueError" = none

/-- an own class of exceptions -/
structure EX (K : PySem.W.Frag) (mg : Str → Option Value) (x : Str) (C : Addr) : Prop where
  mgC : mg x = some (.ref C)
  exc : PySem.W.excIn K C [.type "ValueError", .type "Exception", .type "BaseException", .type "object"] "ValueError.__new__" = true
  keep : PySem.W.keepIn K (.ref C) = true
  sub : PySem.W.subIn K (.ref C) (.type "BaseException") = some true
  typ : PySem.W.typeIn K (.ref C) = some (.type "type")
section
variable {X : Cx}
theorem op_mulA : OpR X (binaryOp .Mult) (rI (fun i j => CMul i j ∨ CMulW i j) fun i j => .int (i * j)) := opI fun _ _ _ _ _ _ _ hc q => PyProof.Rows.mul_int q (hc.elim CMul.ok CMulW.ok)
theorem op_fdivA : OpR X (binaryOp .FloorDiv) (rI (fun i j => CDiv i j ∨ CDivW i j) fun i j => .int (i / j)) := opI fun i j _ _ _ _ _ hc q => by
  have h1 : (0 : Int) < j := hc.elim (fun h => h.1) (fun h => h.1)
  exact PyProof.Rows.floordiv_int (by omega) (by rw [Int.fdiv_eq_ediv_of_nonneg i (by omega)]; exact q) (.inl (hc.elim (fun h => PyProof.noPylong_small (by have := h.2; omega)) (fun h => PyProof.noPylong_of_log2 h.2)))
end

/-! the built-ins' readings by names -/
def rLen1 (K : PySem.W.Frag) : List V → Hp → VK → Prop := fun xs H Q => ∃ p ys, xs = [.ref p] ∧ (SqL K H p ys ∨ SqT K H p ys) ∧ Q (.int ys.length) H
def rLenS1 : List V → Hp → VK → Prop := fun xs H Q => ∃ z, xs = [.str z] ∧ z.length ≤ sizeLine ∧ Q (.int z.length) H
def rAbs1 : List V → Hp → VK → Prop := fun xs H Q => ∃ i, xs = [.int i] ∧ Q (.int (if i < 0 then -i else i)) H
def rInt1 : List V → Hp → VK → Prop := fun xs H Q => (∃ i, xs = [.int i] ∧ Q (.int i) H) ∨ ∃ k, xs = [.bl k] ∧ Q (.int (if k then 1 else 0)) H
def rStr1 : List V → Hp → VK → Prop := fun xs H Q => ∃ i, xs = [.int i] ∧ i.natAbs.log2 < 1920 ∧ Q (.str (toString i)) H
def rMax1 : List V → Hp → VK → Prop := fun xs H Q => ∃ i j, xs = [.int i, .int j] ∧ Q (.int (if j > i then j else i)) H
def rAddS : R2 := fun x y H Q => ∃ i j, x = .str i ∧ y = .str j ∧ i.length + j.length ≤ sizeLine ∧ Q (.str (i ++ j)) H
def rNotInS : R2 := fun x y H Q => ∃ i j, x = .str i ∧ y = .str j ∧ Q (.bl (!(!(Builtin.Str.occurrences j i 0 j.length 1).isEmpty))) H
def rIsN1 : R2 := fun x y H Q => y = .non ∧ Q (.bl (decide (x = .non))) H
def rListOf (K : PySem.W.Frag) : List V → Hp → VK → Prop := fun xs H Q => ∃ p ys, xs = [.ref p] ∧ (SqL K H p ys ∨ SqT K H p ys) ∧ ∀ l, H l = none → Q (.ref l) (upd H l (.lst ys))
section
variable {X : Cx}
theorem g_listOf : CallR X (.type "list") (rListOf X.K) := call_list_of
theorem g_len : CallR X (.builtin "len") (rLen1 X.K) := call_len_seq
theorem g_lenS : CallR X (.builtin "len") rLenS1 := call_len_str
theorem g_abs : CallR X (.builtin "abs") rAbs1 := call_abs
theorem g_int : CallR X (.type "int") rInt1 := call_int1
theorem g_str : CallR X (.type "str") rStr1 := call_str_int
theorem g_max2 (hc : X.calm = true) : CallR X (.builtin "max") rMax1 := call_max2 hc
theorem g_addS : OpR X (binaryOp .Add) rAddS := op_add_str
theorem g_notInS : OpR X (compareOp .NotIn) rNotInS := op_notin_str
theorem g_isN : OpR X (compareOp .Is) rIsN1 := op_isN
end

/-! ### readings, step by step -/
def MkT (xs : List V) (H : Hp) (Q : VK) : Prop := xs.length ≤ sizeLine ∧ ∀ p, H p = none → Q (.ref p) (upd H p (.tup xs))
def MkL (xs : List V) (H : Hp) (Q : VK) : Prop := xs.length ≤ sizeLine ∧ ∀ p, H p = none → Q (.ref p) (upd H p (.lst xs))
section
variable {K : PySem.W.Frag} {σ : St} {H : Hp} {Q : VK} {ta tb tc : TE} {D : Ends} {t u : TS} {x y v : V}
theorem iVar {i : Nat} (h : σ[i]? = some (some v)) (q : Q v H) : tVar i σ H Q := ⟨v, h, q⟩
theorem iC (q : Q v H) : tC v σ H Q := q
theorem iOp {r : R2} (q : ta σ H fun x H1 => tb σ H1 fun y H2 => r x y H2 Q) : tOp r ta tb σ H Q := q
theorem iUn {r : V → Hp → VK → Prop} (q : ta σ H fun x H1 => r x H1 Q) : tUn r ta σ H Q := q
theorem iI0 {g : Int → Int → V} {i j : Int} (q : Q (g i j) H) : rI0 g (.int i) (.int j) H Q := ⟨i, j, rfl, rfl, q⟩
theorem iI {C : Int → Int → Prop} {g : Int → Int → V} {i j : Int} (c : C i j) (q : Q (g i j) H) : rI C g (.int i) (.int j) H Q := ⟨i, j, rfl, rfl, c, q⟩
theorem iU {g : Int → V} {i : Int} (q : Q (g i) H) : rU g (.int i) H Q := ⟨i, rfl, q⟩
theorem decI {i j : Int} : decide (V.int i = V.int j) = decide (i = j) := by
  by_cases h : i = j
  · subst h; rw [decide_eq_true rfl, decide_eq_true rfl]
  · rw [decide_eq_false h, decide_eq_false (fun z => h (V.int.inj z))]
theorem decS {i j : Str} : decide (V.str i = V.str j) = decide (i = j) := by
  by_cases h : i = j
  · subst h; rw [decide_eq_true rfl, decide_eq_true rfl]
  · rw [decide_eq_false h, decide_eq_false (fun z => h (V.str.inj z))]
theorem decB {i j : Bool} : decide (V.bl i = V.bl j) = decide (i = j) := by cases i <;> cases j <;> rfl
theorem iEqI {i j : Int} (q : Q (.bl (decide (i = j))) H) : rEq (.int i) (.int j) H Q := ⟨rfl, by rw [decI]; exact q⟩
theorem iNeI {i j : Int} (q : Q (.bl (!decide (i = j))) H) : rNe (.int i) (.int j) H Q := ⟨rfl, by rw [decI]; exact q⟩
theorem iEqB {i j : Bool} (q : Q (.bl (decide (i = j))) H) : rEq (.bl i) (.bl j) H Q := ⟨rfl, by rw [decB]; exact q⟩
theorem iNeB {i j : Bool} (q : Q (.bl (!decide (i = j))) H) : rNe (.bl i) (.bl j) H Q := ⟨rfl, by rw [decB]; exact q⟩
theorem iEqS {i j : Str} (q : Q (.bl (decide (i = j))) H) : rEq (.str i) (.str j) H Q := ⟨rfl, by rw [decS]; exact q⟩
theorem iNeS {i j : Str} (q : Q (.bl (!decide (i = j))) H) : rNe (.str i) (.str j) H Q := ⟨rfl, by rw [decS]; exact q⟩
theorem iTest {Q : Bool → Hp → Prop} (q : ta σ H fun x H' => ∃ k, x = .bl k ∧ Q k H') : tTest ta σ H Q := q
theorem iTB {Q : Bool → Hp → Prop} (q : ta σ H fun x H' => ∃ k, x = .bl k ∧ Q k H') : tB ta σ H Q := q
theorem iBl {b : Bool} {P : Bool → Prop} (q : P b) : ∃ k, V.bl b = .bl k ∧ P k := ⟨b, rfl, q⟩
theorem iNot {t : L2.TT} {Q : Bool → Hp → Prop} (q : t σ H fun c H1 => Q (!c) H1) : tNot t σ H Q := q
theorem iAnd {t u : L2.TT} {Q : Bool → Hp → Prop} (q : t σ H fun c H1 => if c = true then u σ H1 Q else Q false H1) : tAnd t u σ H Q := q
theorem iOr {t u : L2.TT} {Q : Bool → Hp → Prop} (q : t σ H fun c H1 => if c = true then Q true H1 else u σ H1 Q) : tOr t u σ H Q := q
theorem iAndV (q : ta σ H fun x H1 => ∃ c, x = .bl c ∧ if c = true then tb σ H1 Q else Q (.bl false) H1) : tAndV ta tb σ H Q := q
theorem iOrV (q : ta σ H fun x H1 => ∃ c, x = .bl c ∧ if c = true then Q (.bl true) H1 else tb σ H1 Q) : tOrV ta tb σ H Q := q
theorem iNotV (q : ta σ H fun x H1 => ∃ c, x = .bl c ∧ Q (.bl (!c)) H1) : tNotV ta σ H Q := q
theorem iIf {p A B : Prop} [Decidable p] (h1 : p → A) (h2 : ¬ p → B) : if decide p = true then A else B := by
  by_cases h : p
  · rw [if_pos (decide_eq_true h)]; exact h1 h
  · rw [if_neg (by rw [decide_eq_false h]; exact Bool.false_ne_true)]; exact h2 h
theorem iIfN {p A B : Prop} [Decidable p] (h1 : ¬ p → A) (h2 : p → B) : if (!decide p) = true then A else B := by
  by_cases h : p
  · rw [decide_eq_true h]; exact iteF (h2 h)
  · rw [decide_eq_false h]; exact iteT (h1 h)
theorem iIfB {b : Bool} {A B : Prop} (h1 : b = true → A) (h2 : b = false → B) : if b = true then A else B := by
  cases b
  · exact iteF (h2 rfl)
  · exact iteT (h1 rfl)
theorem iIfNB {b : Bool} {A B : Prop} (h1 : b = false → A) (h2 : b = true → B) : if (!b) = true then A else B := by
  cases b
  · exact iteT (h1 rfl)
  · exact iteF (h2 rfl)
theorem iIfT {p A B : Prop} [Decidable p] (h : p) (q : A) : if decide p = true then A else B := by rw [decide_eq_true h]; exact iteT q
theorem iIfF {p A B : Prop} [Decidable p] (h : ¬ p) (q : B) : if decide p = true then A else B := by rw [decide_eq_false h]; exact iteF q
theorem iIfNT {p A B : Prop} [Decidable p] (h : p) (q : B) : if (!decide p) = true then A else B := by rw [decide_eq_true h]; exact iteF q
theorem iIfNF {p A B : Prop} [Decidable p] (h : ¬ p) (q : A) : if (!decide p) = true then A else B := by rw [decide_eq_false h]; exact iteT q
theorem iIfBT {b : Bool} {A B : Prop} (h : b = true) (q : A) : if b = true then A else B := by rw [h]; exact iteT q
theorem iIfBF {b : Bool} {A B : Prop} (h : b = false) (q : B) : if b = true then A else B := by rw [h]; exact iteF q
theorem iIfNBT {b : Bool} {A B : Prop} (h : b = true) (q : B) : if (!b) = true then A else B := by rw [h]; exact iteF q
theorem iIfNBF {b : Bool} {A B : Prop} (h : b = false) (q : A) : if (!b) = true then A else B := by rw [h]; exact iteT q
theorem iNT {A B : Prop} (q : B) : if (!true) = true then A else B := iteF q
theorem iNF {A B : Prop} (q : A) : if (!false) = true then A else B := iteT q
theorem iNNT {A B : Prop} (q : A) : if (!(!true)) = true then A else B := iteT q
theorem iNNF {A B : Prop} (q : B) : if (!(!false)) = true then A else B := iteF q
theorem iRtI {i j : Int} (e : i = j) (q : Q (.int i) H) : Q (.int j) H := by rw [← e]; exact q
theorem iRtB {i j : Bool} (e : i = j) (q : Q (.bl i) H) : Q (.bl j) H := by rw [← e]; exact q
theorem iSeq (q : t { D with nx := u D } σ H) : tSeq t u D σ H := q
theorem iAsg {i : Nat} (q : ta σ H fun x H1 => D.nx (σ.set i (some x)) H1) : tAsg ta (gName i) D σ H := q
theorem iDrop (q : ta σ H fun _ H1 => D.nx σ H1) : tDrop ta D σ H := q
theorem iRet (q : ta σ H D.rt) : tRet ta D σ H := q
theorem iRetN (q : D.rt .non H) : tRetN D σ H := q
theorem iIfS {c : L2.TT} (q : c σ H fun b H1 => if b = true then t D σ H1 else u D σ H1) : tIfS c t u D σ H := q
theorem iNext (q : D.nx σ H) : tNext D σ H := q
theorem iNil {Q : List V → Hp → Prop} (q : Q [] H) : tNil σ H Q := q
theorem iCons {tr : TA} {Q : List V → Hp → Prop} (q : ta σ H fun x H1 => tr σ H1 fun xs H2 => Q (x :: xs) H2) : tCons ta tr σ H Q := q
theorem iCall {sp : Sp} {E : XK} {t : TA} (q : t σ H fun vs H1 => sp vs H1 Q E) : tCall sp [] E t σ H Q := by
  have e : (fun (vs : List V) H1 => sp (vs ++ []) H1 Q E) = fun vs H1 => sp vs H1 Q E := by
    funext vs H1; rw [List.append_nil]
  unfold tCall
  rw [e]
  exact q
theorem iCallS {sp : Sp} {E : St → XK} {t : TA} (q : t σ H fun vs H1 => sp vs H1 Q (E σ)) : tCallS sp E t σ H Q := q
theorem iCB {r : List V → Hp → VK → Prop} {t : TA} (q : t σ H fun vs H1 => r vs H1 Q) : tCB r t σ H Q := q
theorem iTup {t : TA} (q : t σ H fun xs H1 => MkT xs H1 Q) : tTup t σ H Q := q
theorem iLst {t : TA} (q : t σ H fun xs H1 => MkL xs H1 Q) : tLst t σ H Q := q
theorem iMkT {xs : List V} (q : ∀ v H', Same H H' → TU H' v xs → Q v H') (hl : Nat.ble xs.length 8 = true) : MkT xs H Q :=
  ⟨line8 (Nat.le_of_ble_eq_true hl), fun p hp => q _ _ (same_new hp) ⟨p, rfl, upd_same⟩⟩
theorem iMkL0 (q : ∀ p, H p = none → Same H (upd H p (.lst [])) → (upd H p (.lst [])) p = some (.lst []) → Q (.ref p) (upd H p (.lst []))) : MkL [] H Q :=
  ⟨line8 (by decide), fun p hp => q p hp (same_new hp) upd_same⟩
def BMk (K : PySem.W.Frag) (T : String) (r : V → List V → Hp → VK → Prop) (t : TA) (σ : St) (x : V) (H1 : Hp) (Q : VK) : Prop := tyV K T x H1 ∧ t σ H1 fun xs H2 => r x xs H2 Q
theorem iBM {T : String} {r : V → List V → Hp → VK → Prop} {to : TE} {t : TA} (q : to σ H fun x H1 => BMk K T r t σ x H1 Q) : tBM K T r to t σ H Q := q
theorem iBMl {l : Addr} {ns : List Int} {r : V → List V → Hp → VK → Prop} {t : TA} (h : LK H l ns) (q : t σ H fun ys H2 => r (.ref l) ys H2 Q) : BMk K "list" r t σ (.ref l) H Q := ⟨.inl ⟨rfl, _, .inl (.inl h)⟩, q⟩
theorem iApp {l : Addr} {xs : List V} {y : V} (h : H l = some (.lst xs)) (hl : xs.length ≤ 100000) (q : Q .non (upd H l (.lst (xs ++ [y])))) : rAppend (.ref l) [y] H Q := ⟨l, xs, y, rfl, rfl, h, lineK hl, q⟩
theorem iAppI {l : Addr} {ns : List Int} {y : Int} (h : LK H l ns) (hl : ns.length ≤ 100000) (q : Q .non (upd H l (.lst ((ns ++ [y]).map V.int)))) : rAppend (.ref l) [.int y] H Q := iApp h (by rw [List.length_map]; exact hl) (by rw [List.map_append] at q; exact q)
theorem same_app {H0 : Hp} {l : Addr} {o : HO} (n : H0 l = none) (s : Same H0 H) : Same H0 (upd H l o) := fun b x e => by
  rw [upd_ne (ne_of_none e n)]
  exact s b x e
theorem iMkI1 {a : Int} (q : ∀ v H', Same H H' → LI H' v [a] → Q v H') : MkL [.int a] H Q := ⟨line8 (Nat.le_of_ble_eq_true rfl), fun p hp => q _ _ (same_new hp) ⟨p, rfl, upd_same⟩⟩
theorem iMkI2 {a b : Int} (q : ∀ v H', Same H H' → LI H' v [a, b] → Q v H') : MkL [.int a, .int b] H Q := ⟨line8 (Nat.le_of_ble_eq_true rfl), fun p hp => q _ _ (same_new hp) ⟨p, rfl, upd_same⟩⟩
theorem iMkL {a : V} {r : List V} (q : ∀ v H', Same H H' → LS H' v (a :: r) → Q v H') (hl : Nat.ble (a :: r).length 8 = true) : MkL (a :: r) H Q :=
  ⟨line8 (Nat.le_of_ble_eq_true hl), fun p hp => q _ _ (same_new hp) ⟨p, rfl, upd_same⟩⟩
theorem iIxT {xs : List V} {i : Int} (h : TU H v xs) (e : atI xs i = some y) (q : Q y H) : rIx K v (.int i) H Q := by
  obtain ⟨a, rfl, h⟩ := h
  exact .inr (.inl ⟨a, xs, i, y, rfl, rfl, SqT.of h, e, q⟩)
theorem iIxL {xs : List V} {i : Int} (h : LS H v xs) (e : atI xs i = some y) (q : Q y H) : rIx K v (.int i) H Q := by
  obtain ⟨a, rfl, h⟩ := h
  exact .inl ⟨a, xs, i, y, rfl, rfl, SqL.of h, e, q⟩
theorem atI_getD {ns : List Int} {i : Int} (h0 : 0 ≤ i) (h1 : i < ns.length) : atI (ns.map V.int) i = some (.int (ns.getD i.toNat 0)) := by
  have hk : i.toNat < ns.length := by omega
  have ek : ((i.toNat : Nat) : Int) = i := by omega
  have e : atI (ns.map V.int) ((i.toNat : Nat) : Int) = some (.int (ns.getD i.toNat 0)) := atI_nat (by
    rw [List.getElem?_map, List.getElem?_eq_getElem hk, List.getD_eq_getElem?_getD, List.getElem?_eq_getElem hk]
    rfl)
  rw [ek] at e
  exact e
theorem iIxI {ns : List Int} {i : Int} (h : LI H v ns) (h0 : 0 ≤ i) (h1 : i < ns.length) (q : Q (.int (ns.getD i.toNat 0)) H) : rIx K v (.int i) H Q := iIxL h (atI_getD h0 h1) q
theorem iIxN {ns : List Int} {i : Nat} (h : LI H v ns) (h1 : i < ns.length) (q : Q (.int (ns.getD i 0)) H) : rIx K v (.int (i : Nat)) H Q := iIxI h (by omega) (by omega) (by rw [Int.toNat_natCast]; exact q)
theorem iIxP {ns : List Int} {i : Nat} (h : LI H v ns) (h1 : 0 < i ∧ i - 1 < ns.length) (q : Q (.int (ns.getD (i - 1) 0)) H) : rIx K v (.int ((i : Nat) - 1)) H Q := iIxI h (by omega) (by omega) (by rw [show (((i : Nat) : Int) - 1).toNat = i - 1 by omega]; exact q)
theorem iIxE {ys : List Int} {y : Int} (h : LI H v (ys ++ [y])) (q : Q (.int y) H) : rIx K v (.int (-1)) H Q := iIxL h (by rw [List.map_append]; exact atI_last _ _) q
theorem iIxS {z : Str} {i : Int} {c : Nat} (hz : z.length ≤ sizeLine) (e : atI z.cps.toList i = some c) (q : Q (.str ⟨#[c]⟩) H) : rIx K (.str z) (.int i) H Q :=
  .inr (.inr ⟨z, i, c, rfl, rfl, hz, e, q⟩)
theorem iCatI {a b : V} {xs ys : List Int} (h1 : LI H a xs) (h2 : LI H b ys) (hl : xs.length + ys.length ≤ 100000) (q : ∀ v H', Same H H' → LI H' v (xs ++ ys) → Q v H') : rCat a b H Q := by
  obtain ⟨p, rfl, h1⟩ := h1
  obtain ⟨r, rfl, h2⟩ := h2
  exact ⟨p, r, _, _, rfl, rfl, h1, h2, by rw [List.length_map, List.length_map]; exact Nat.le_of_lt (lineK hl), fun d hd => q _ _ (same_new hd) ⟨d, rfl, by rw [upd_same, List.map_append]⟩⟩
/-! slices -/
def cutI (ns : List Int) (lo hi : Option Int) : List Int := (ns.drop (HT.sIx ns.length 0 lo)).take (HT.sIx ns.length ns.length hi - HT.sIx ns.length 0 lo)
theorem cutI_map (ns : List Int) (lo hi : Option Int) : cutV (ns.map V.int) lo hi = (cutI ns lo hi).map V.int := by
  unfold cutV cutI
  rw [List.length_map, List.map_take, List.map_drop]
theorem cutI_length (ns : List Int) (lo hi : Option Int) : (cutI ns lo hi).length ≤ ns.length := by
  unfold cutI
  rw [List.length_take, List.length_drop]
  omega
theorem len_cut {ns : List Int} {lo hi : Option Int} {N : Nat} (h : ns.length ≤ N) : (cutI ns lo hi).length ≤ N := Nat.le_trans (cutI_length _ _ _) h
theorem len_app {xs ys : List Int} {N : Nat} (h1 : xs.length ≤ N / 2) (h2 : ys.length ≤ N / 2) : (xs ++ ys).length ≤ N := by rw [List.length_append]; omega
theorem len_two {xs ys : List Int} (h1 : xs.length ≤ 50000) (h2 : ys.length ≤ 50000) : xs.length + ys.length ≤ 100000 := by omega
theorem cut_last (ns : List Int) (y : Int) : cutI (ns ++ [y]) none (some (-1)) = ns := by
  unfold cutI
  have e1 : HT.sIx (ns ++ [y]).length 0 none = 0 := rfl
  have e2 : HT.sIx (ns ++ [y]).length (ns ++ [y]).length (some (-1)) = ns.length := by
    unfold HT.sIx
    simp
    try omega
  rw [e1, e2, List.drop_zero, Nat.sub_zero]
  simp
theorem iSl {r : V → Option Int → Option Int → Hp → VK → Prop} {te : TE} {tl th : TO} (q : te σ H fun x H1 => tl σ H1 fun l H2 => th σ H2 fun u H3 => r x l u H3 Q) : tSl r te tl th σ H Q := q
theorem iNoPart {Q : Option Int → Hp → Prop} (q : Q none H) : tNoPart σ H Q := q
theorem iPart {Q : Option Int → Hp → Prop} (q : ta σ H fun x H1 => ∃ i, x = .int i ∧ Q (some i) H1) : tPart ta σ H Q := q
theorem iIntP {n : Int} {P : Int → Prop} (q : P n) : ∃ i, V.int n = .int i ∧ P i := ⟨n, rfl, q⟩
theorem iSlI {ns : List Int} {lo hi : Option Int} (h : LI H v ns) (q : ∀ r H', Same H H' → LI H' r (cutI ns lo hi) → Q r H') : rSlL K v lo hi H Q := by
  obtain ⟨a, rfl, h⟩ := h
  exact ⟨a, _, rfl, SqL.of h, fun p hp => q _ _ (same_new hp) ⟨p, rfl, by rw [upd_same, cutI_map]⟩⟩
theorem iListOf {xs : List V} (h : LS H v xs) (q : ∀ r H', Same H H' → LS H' r xs → Q r H') : rListOf K [v] H Q := by
  obtain ⟨a, rfl, h⟩ := h
  exact ⟨a, xs, rfl, .inl (SqL.of h), fun p hp => q _ _ (same_new hp) ⟨p, rfl, upd_same⟩⟩
theorem iListOfI {ns : List Int} (h : LI H v ns) (q : ∀ r H', Same H H' → LI H' r ns → Q r H') : rListOf K [v] H Q := iListOf h q
theorem iListOfN {ns : List Int} (h : LI H v ns) (q : ∀ l H', H l = none → Same H H' → LK H' l ns → Q (.ref l) H') : rListOf K [v] H Q := by
  obtain ⟨a, rfl, h⟩ := h
  exact ⟨a, _, rfl, .inl (SqL.of h), fun p hp => q _ _ hp (same_new hp) upd_same⟩
theorem iCat {a b : V} {xs ys : List V} (h1 : LS H a xs) (h2 : LS H b ys) (hl : xs.length + ys.length ≤ 100000) (q : ∀ v H', Same H H' → LS H' v (xs ++ ys) → Q v H') : rCat a b H Q := by
  obtain ⟨p, rfl, h1⟩ := h1
  obtain ⟨r, rfl, h2⟩ := h2
  exact ⟨p, r, xs, ys, rfl, rfl, h1, h2, Nat.le_of_lt (lineK hl), fun d hd => q _ _ (same_new hd) ⟨d, rfl, upd_same⟩⟩
theorem iLenL {xs : List V} (h : LS H v xs) (q : Q (.int xs.length) H) : rLen1 K [v] H Q := by
  obtain ⟨p, rfl, h⟩ := h
  exact ⟨p, xs, rfl, .inl (SqL.of h), q⟩
theorem iLenI {ns : List Int} (h : LI H v ns) (q : Q (.int ns.length) H) : rLen1 K [v] H Q := iLenL h (by rw [List.length_map]; exact q)
theorem iLenT {xs : List V} (h : TU H v xs) (q : Q (.int xs.length) H) : rLen1 K [v] H Q := by
  obtain ⟨p, rfl, h⟩ := h
  exact ⟨p, xs, rfl, .inr (SqT.of h), q⟩
theorem iLenS {z : Str} (h : z.length ≤ 100000) (q : Q (.int z.length) H) : rLenS1 [.str z] H Q := ⟨z, rfl, Nat.le_of_lt (lineK h), q⟩
/-! isinstance -/
theorem iIsi {c : V} {tt u : Value} {b : Bool} (k : ClsV c u) (ty : TyX K H x tt) (e : PySem.W.kitOne K tt u = some b) (q : Q (.bl b) H) : rIsi K [x, c] H Q := ⟨x, c, tt, u, b, rfl, k, ty, e, q⟩
theorem is_int_int {i : Int} (q : Q (.bl true) H) : rIsi K [.int i, .ty "int"] H Q := iIsi (.ty "int") (.base (.int i)) (kit_ty (b := "int") (by decide +kernel)) q
theorem is_int_bool {i : Int} (q : Q (.bl false) H) : rIsi K [.int i, .ty "bool"] H Q := iIsi (.ty "bool") (.base (.int i)) (kit_ty (b := "bool") (by decide +kernel)) q
theorem is_int_str {i : Int} (q : Q (.bl false) H) : rIsi K [.int i, .ty "str"] H Q := iIsi (.ty "str") (.base (.int i)) (kit_ty (b := "str") (by decide +kernel)) q
theorem is_int_tuple {i : Int} (q : Q (.bl false) H) : rIsi K [.int i, .ty "tuple"] H Q := iIsi (.ty "tuple") (.base (.int i)) (kit_ty (b := "tuple") (by decide +kernel)) q
theorem is_int_list {i : Int} (q : Q (.bl false) H) : rIsi K [.int i, .ty "list"] H Q := iIsi (.ty "list") (.base (.int i)) (kit_ty (b := "list") (by decide +kernel)) q
theorem is_bool_int {i : Bool} (q : Q (.bl true) H) : rIsi K [.bl i, .ty "int"] H Q := iIsi (.ty "int") (.base (.bl i)) (kit_ty (b := "int") (by decide +kernel)) q
theorem is_bool_bool {i : Bool} (q : Q (.bl true) H) : rIsi K [.bl i, .ty "bool"] H Q := iIsi (.ty "bool") (.base (.bl i)) (kit_ty (b := "bool") (by decide +kernel)) q
theorem is_bool_str {i : Bool} (q : Q (.bl false) H) : rIsi K [.bl i, .ty "str"] H Q := iIsi (.ty "str") (.base (.bl i)) (kit_ty (b := "str") (by decide +kernel)) q
theorem is_bool_tuple {i : Bool} (q : Q (.bl false) H) : rIsi K [.bl i, .ty "tuple"] H Q := iIsi (.ty "tuple") (.base (.bl i)) (kit_ty (b := "tuple") (by decide +kernel)) q
theorem is_bool_list {i : Bool} (q : Q (.bl false) H) : rIsi K [.bl i, .ty "list"] H Q := iIsi (.ty "list") (.base (.bl i)) (kit_ty (b := "list") (by decide +kernel)) q
theorem is_str_int {i : Str} (q : Q (.bl false) H) : rIsi K [.str i, .ty "int"] H Q := iIsi (.ty "int") (.base (.str i)) (kit_ty (b := "int") (by decide +kernel)) q
theorem is_str_bool {i : Str} (q : Q (.bl false) H) : rIsi K [.str i, .ty "bool"] H Q := iIsi (.ty "bool") (.base (.str i)) (kit_ty (b := "bool") (by decide +kernel)) q
theorem is_str_str {i : Str} (q : Q (.bl true) H) : rIsi K [.str i, .ty "str"] H Q := iIsi (.ty "str") (.base (.str i)) (kit_ty (b := "str") (by decide +kernel)) q
theorem is_str_tuple {i : Str} (q : Q (.bl false) H) : rIsi K [.str i, .ty "tuple"] H Q := iIsi (.ty "tuple") (.base (.str i)) (kit_ty (b := "tuple") (by decide +kernel)) q
theorem is_str_list {i : Str} (q : Q (.bl false) H) : rIsi K [.str i, .ty "list"] H Q := iIsi (.ty "list") (.base (.str i)) (kit_ty (b := "list") (by decide +kernel)) q
theorem is_NoneType_int  (q : Q (.bl false) H) : rIsi K [.non, .ty "int"] H Q := iIsi (.ty "int") (.base .non) (kit_ty (b := "int") (by decide +kernel)) q
theorem is_NoneType_bool  (q : Q (.bl false) H) : rIsi K [.non, .ty "bool"] H Q := iIsi (.ty "bool") (.base .non) (kit_ty (b := "bool") (by decide +kernel)) q
theorem is_NoneType_str  (q : Q (.bl false) H) : rIsi K [.non, .ty "str"] H Q := iIsi (.ty "str") (.base .non) (kit_ty (b := "str") (by decide +kernel)) q
theorem is_NoneType_tuple  (q : Q (.bl false) H) : rIsi K [.non, .ty "tuple"] H Q := iIsi (.ty "tuple") (.base .non) (kit_ty (b := "tuple") (by decide +kernel)) q
theorem is_NoneType_list  (q : Q (.bl false) H) : rIsi K [.non, .ty "list"] H Q := iIsi (.ty "list") (.base .non) (kit_ty (b := "list") (by decide +kernel)) q
theorem is_tuple_int {xs : List V} (h : TU H v xs) (q : Q (.bl false) H) : rIsi K [v, .ty "int"] H Q := by
  obtain ⟨a, rfl, h⟩ := h
  exact iIsi (.ty "int") (.base (.tup h)) (kit_ty (b := "int") (by decide +kernel)) q
theorem is_tuple_bool {xs : List V} (h : TU H v xs) (q : Q (.bl false) H) : rIsi K [v, .ty "bool"] H Q := by
  obtain ⟨a, rfl, h⟩ := h
  exact iIsi (.ty "bool") (.base (.tup h)) (kit_ty (b := "bool") (by decide +kernel)) q
theorem is_tuple_str {xs : List V} (h : TU H v xs) (q : Q (.bl false) H) : rIsi K [v, .ty "str"] H Q := by
  obtain ⟨a, rfl, h⟩ := h
  exact iIsi (.ty "str") (.base (.tup h)) (kit_ty (b := "str") (by decide +kernel)) q
theorem is_tuple_tuple {xs : List V} (h : TU H v xs) (q : Q (.bl true) H) : rIsi K [v, .ty "tuple"] H Q := by
  obtain ⟨a, rfl, h⟩ := h
  exact iIsi (.ty "tuple") (.base (.tup h)) (kit_ty (b := "tuple") (by decide +kernel)) q
theorem is_tuple_list {xs : List V} (h : TU H v xs) (q : Q (.bl false) H) : rIsi K [v, .ty "list"] H Q := by
  obtain ⟨a, rfl, h⟩ := h
  exact iIsi (.ty "list") (.base (.tup h)) (kit_ty (b := "list") (by decide +kernel)) q
theorem is_list_int {xs : List V} (h : LS H v xs) (q : Q (.bl false) H) : rIsi K [v, .ty "int"] H Q := by
  obtain ⟨a, rfl, h⟩ := h
  exact iIsi (.ty "int") (.base (.lst h)) (kit_ty (b := "int") (by decide +kernel)) q
theorem is_list_bool {xs : List V} (h : LS H v xs) (q : Q (.bl false) H) : rIsi K [v, .ty "bool"] H Q := by
  obtain ⟨a, rfl, h⟩ := h
  exact iIsi (.ty "bool") (.base (.lst h)) (kit_ty (b := "bool") (by decide +kernel)) q
theorem is_list_str {xs : List V} (h : LS H v xs) (q : Q (.bl false) H) : rIsi K [v, .ty "str"] H Q := by
  obtain ⟨a, rfl, h⟩ := h
  exact iIsi (.ty "str") (.base (.lst h)) (kit_ty (b := "str") (by decide +kernel)) q
theorem is_list_tuple {xs : List V} (h : LS H v xs) (q : Q (.bl false) H) : rIsi K [v, .ty "tuple"] H Q := by
  obtain ⟨a, rfl, h⟩ := h
  exact iIsi (.ty "tuple") (.base (.lst h)) (kit_ty (b := "tuple") (by decide +kernel)) q
theorem is_list_list {xs : List V} (h : LS H v xs) (q : Q (.bl true) H) : rIsi K [v, .ty "list"] H Q := by
  obtain ⟨a, rfl, h⟩ := h
  exact iIsi (.ty "list") (.base (.lst h)) (kit_ty (b := "list") (by decide +kernel)) q
theorem iLenQ {a : Addr} {xs : List V} (h : SqL K H a xs) (q : Q (.int xs.length) H) : rLen1 K [.ref a] H Q := ⟨a, xs, rfl, .inl h, q⟩
theorem iIxQ {a : Addr} {xs : List V} {i : Int} (h : SqL K H a xs) (e : atI xs i = some y) (q : Q y H) : rIx K (.ref a) (.int i) H Q := .inl ⟨a, xs, i, y, rfl, rfl, h, e, q⟩
theorem iAbs {i : Int} (q : Q (.int (if i < 0 then -i else i)) H) : rAbs1 [.int i] H Q := ⟨i, rfl, q⟩
theorem iIntB {k : Bool} (q : Q (.int (if k = true then 1 else 0)) H) : rInt1 [.bl k] H Q := .inr ⟨k, rfl, q⟩
theorem iStrI {i : Int} (h : i.natAbs.log2 < 1920) (q : Q (.str (toString i)) H) : rStr1 [.int i] H Q := ⟨i, rfl, h, q⟩
theorem iMax2 {i j : Int} (q : Q (.int (if j > i then j else i)) H) : rMax1 [.int i, .int j] H Q := ⟨i, j, rfl, q⟩
theorem iAddS {i j : Str} (h : i.length + j.length ≤ 100000) (q : Q (.str (i ++ j)) H) : rAddS (.str i) (.str j) H Q := ⟨i, j, rfl, rfl, Nat.le_of_lt (lineK h), q⟩
theorem iIsN (q : Q (.bl (decide (x = .non))) H) : rIsN1 x .non H Q := ⟨rfl, q⟩
theorem pw (a b : Nat) (i : Int) (j : Int) (r : Int) (c : CPow i j) (e : i ^ j.toNat = r) (q : Q (.int r) H) : rI CPow (fun i j => .int (i ^ j.toNat)) (.int i) (.int j) H Q := ⟨i, j, rfl, rfl, c, by show Q (.int (i ^ j.toNat)) H; rw [e]; exact q⟩
theorem iP6 (q : Q (.int 1000000) H) : rI CPow (fun i j => .int (i ^ j.toNat)) (.int 10) (.int 6) H Q := pw 0 0 10 6 _ ⟨by decide, by decide, by decide⟩ (by decide +kernel) q
theorem iP10 (q : Q (.int 10000000000) H) : rI CPow (fun i j => .int (i ^ j.toNat)) (.int 10) (.int 10) H Q := pw 0 0 10 10 _ ⟨by decide, by decide, by decide⟩ (by decide +kernel) q
theorem iP12 (q : Q (.int 1000000000000) H) : rI CPow (fun i j => .int (i ^ j.toNat)) (.int 10) (.int 12) H Q := pw 0 0 10 12 _ ⟨by decide, by decide, by decide⟩ (by decide +kernel) q
theorem iP14 (q : Q (.int 100000000000000) H) : rI CPow (fun i j => .int (i ^ j.toNat)) (.int 10) (.int 14) H Q := pw 0 0 10 14 _ ⟨by decide, by decide, by decide⟩ (by decide +kernel) q
theorem iP15 (q : Q (.int 1000000000000000) H) : rI CPow (fun i j => .int (i ^ j.toNat)) (.int 10) (.int 15) H Q := pw 0 0 10 15 _ ⟨by decide, by decide, by decide⟩ (by decide +kernel) q
theorem iP30 (q : Q (.int 1000000000000000000000000000000) H) : rI CPow (fun i j => .int (i ^ j.toNat)) (.int 10) (.int 30) H Q := pw 0 0 10 30 _ ⟨by decide, by decide, by decide⟩ (by decide +kernel) q
theorem iP45 (q : Q (.int 1000000000000000000000000000000000000000000000) H) : rI CPow (fun i j => .int (i ^ j.toNat)) (.int 10) (.int 45) H Q := pw 0 0 10 45 _ ⟨by decide, by decide, by decide⟩ (by decide +kernel) q
/-! == of data -/
theorem dpInts : ∀ ns : List Int, DpAll K H (ns.map V.int) (ns.map PyData.int)
  | [] => .nil
  | n :: ns => .cons (.int n) (dpInts ns)
theorem dpN {a b : Int} (h : N2 H v a b) : Dp K H v (.tuple ([a, b].map PyData.int)) := by
  obtain ⟨p, rfl, h⟩ := h
  exact .tup (SqT.of h) (dpInts [a, b])
theorem dpL {ns : List Int} (h : LI H v ns) : Dp K H v (.list (ns.map PyData.int)) := by
  obtain ⟨p, rfl, h⟩ := h
  exact .lst (SqL.of h) (dpInts ns)
theorem eqvInts : ∀ ns ms : List Int, PyData.eqvAll (ns.map PyData.int) (ms.map PyData.int) = decide (ns = ms)
  | [], [] => by simp [PyData.eqvAll]
  | [], _ :: _ => by simp [PyData.eqvAll]
  | _ :: _, [] => by simp [PyData.eqvAll]
  | n :: ns, m :: ms => by
    have h0 : PyData.eqvAll ((n :: ns).map PyData.int) ((m :: ms).map PyData.int) = (PyData.eqv (.int n) (.int m) && PyData.eqvAll (ns.map PyData.int) (ms.map PyData.int)) := by simp only [List.map_cons, PyData.eqvAll]
    have h1 : PyData.eqv (.int n) (.int m) = (n == m) := by simp only [PyData.eqv]
    rw [h0, eqvInts ns ms, h1]
    by_cases h1 : n = m
    · by_cases h2 : ns = ms
      · subst h1 h2; simp
      · have : ¬ (n :: ns = m :: ms) := fun z => h2 (List.cons.inj z).2
        simp [h1, h2]
    · have : ¬ (n :: ns = m :: ms) := fun z => h1 (List.cons.inj z).1
      simp [h1]
theorem clInts : ∀ ns : List Int, PyData.canLayAll0 (ns.map PyData.int) = true
  | [] => by simp [PyData.canLayAll0]
  | n :: ns => by
    have q := clInts ns
    simp only [List.map_cons, PyData.canLayAll0, PyData.canLay0, Bool.true_and]
    exact q
theorem dpInts0 : ∀ ns : List Int, PyData.depthAll (ns.map PyData.int) = 0
  | [] => by simp [PyData.depthAll]
  | n :: ns => by
    have q := dpInts0 ns
    simp only [List.map_cons, PyData.depthAll, PyData.depth, q]
    rfl
theorem shT (ns : List Int) : SeqAt.shaped (.tuple (ns.map PyData.int)) = true := by
  unfold SeqAt.shaped
  simp only [PyData.canLay0, PyData.depth, clInts ns, dpInts0 ns]
  rfl
theorem shL (ns : List Int) : SeqAt.shaped (.list (ns.map PyData.int)) = true := by
  unfold SeqAt.shaped
  simp only [PyData.canLay0, PyData.depth, clInts ns, dpInts0 ns]
  rfl
theorem eqvT (ns ms : List Int) : PyData.eqv (.tuple (ns.map PyData.int)) (.tuple (ms.map PyData.int)) = decide (ns = ms) := by
  have h : PyData.eqv (.tuple (ns.map PyData.int)) (.tuple (ms.map PyData.int)) = PyData.eqvAll (ns.map PyData.int) (ms.map PyData.int) := by simp only [PyData.eqv]
  rw [h, eqvInts]
theorem eqvL (ns ms : List Int) : PyData.eqv (.list (ns.map PyData.int)) (.list (ms.map PyData.int)) = decide (ns = ms) := by
  have h : PyData.eqv (.list (ns.map PyData.int)) (.list (ms.map PyData.int)) = PyData.eqvAll (ns.map PyData.int) (ms.map PyData.int) := by simp only [PyData.eqv]
  rw [h, eqvInts]
theorem iEqN {a b c d : Int} (h1 : N2 H x a b) (h2 : N2 H y c d) (q : Q (.bl (decide ([a, b] = [c, d]))) H) : rEqD K x y H Q :=
  ⟨_, _, dpN h1, dpN h2, shT _, shT _, by rw [eqvT]; exact q⟩
theorem iNeN {a b c d : Int} (h1 : N2 H x a b) (h2 : N2 H y c d) (q : Q (.bl (!decide ([a, b] = [c, d]))) H) : rNeD K x y H Q :=
  ⟨_, _, dpN h1, dpN h2, shT _, shT _, by rw [eqvT]; exact q⟩
theorem dpR {H : Hp} {v x y : V} {xs ys : List Int} (h : LS H v [x, y]) (h1 : LI H x xs) (h2 : LI H y ys) : Dp K H v (.list [.list (xs.map PyData.int), .list (ys.map PyData.int)]) := by
  obtain ⟨p, rfl, h⟩ := h
  exact .lst (SqL.of h) (.cons (dpL h1) (.cons (dpL h2) .nil))
theorem shR (xs ys : List Int) : SeqAt.shaped (.list [.list (xs.map PyData.int), .list (ys.map PyData.int)]) = true := by
  unfold SeqAt.shaped
  simp only [PyData.canLay0, PyData.canLayAll0, PyData.depth, PyData.depthAll, clInts, dpInts0]
  rfl
theorem eqvR (xs ys : List Int) : PyData.eqv (.list [.list (xs.map PyData.int), .list (ys.map PyData.int)]) (.list [.list (xs.map PyData.int), .list (ys.map PyData.int)]) = true := by
  simp only [PyData.eqv, PyData.eqvAll, eqvInts]
  simp
theorem iEqDI {i j : Int} (q : Q (.bl (decide (i = j))) H) : rEqD K (.int i) (.int j) H Q := by
  refine ⟨_, _, .int i, .int j, rfl, rfl, ?_⟩
  have e : PyData.eqv (.int i) (.int j) = decide (i = j) := by
    have h1 : PyData.eqv (.int i) (.int j) = (i == j) := by simp only [PyData.eqv]
    rw [h1]
    by_cases h : i = j
    · subst h; simp
    · rw [decide_eq_false h]; exact beq_eq_false_iff_ne.mpr h
  rw [e]
  exact q
/-- [x, y] against [z, w] of the same lists -/
theorem iEqR {a b x' y' : V} {xs ys : List Int} (h1 : LS H a [x, y]) (h2 : LS H b [x', y']) (k1 : LI H x xs) (k2 : LI H y ys) (k3 : LI H x' xs) (k4 : LI H y' ys) (q : Q (.bl true) H) : rEqD K a b H Q :=
  ⟨_, _, dpR h1 k1 k2, dpR h2 k3 k4, shR _ _, shR _ _, by rw [eqvR]; exact q⟩
theorem iNeR {a b x' y' : V} {xs ys : List Int} (h1 : LS H a [x, y]) (h2 : LS H b [x', y']) (k1 : LI H x xs) (k2 : LI H y ys) (k3 : LI H x' xs) (k4 : LI H y' ys) (q : Q (.bl (!true)) H) : rNeD K a b H Q :=
  ⟨_, _, dpR h1 k1 k2, dpR h2 k3 k4, shR _ _, shR _ _, by rw [eqvR]; exact q⟩
theorem iEqL {ns ms : List Int} (h1 : LI H x ns) (h2 : LI H y ms) (q : Q (.bl (decide (ns = ms))) H) : rEqD K x y H Q :=
  ⟨_, _, dpL h1, dpL h2, shL _, shL _, by rw [eqvL]; exact q⟩
theorem iNeL {ns ms : List Int} (h1 : LI H x ns) (h2 : LI H y ms) (q : Q (.bl (!decide (ns = ms))) H) : rNeD K x y H Q :=
  ⟨_, _, dpL h1, dpL h2, shL _, shL _, by rw [eqvL]; exact q⟩
end
/-! ### what is caught -/
theorem pss_exc {X : Cx} {K : PySem.W.Frag} {st : List Stmt} {cls : Value} {d : Option Addr} {t : Addr → TS} (h : ∀ Dc, cls = .ref Dc → d = none → ExcC K Dc → PSs X st (t Dc)) :
    PSs X st (fun D σ H => ∃ Dc, (cls = .ref Dc ∧ d = none ∧ ExcC K Dc) ∧ t Dc D σ H) := ⟨fun pins s σ H D I ⟨Dc, ⟨h1, h2, h3⟩, q⟩ => (h Dc h1 h2 h3).run pins s σ H D I q⟩
theorem zc_of {cls : Value} {d : Option Addr} {Dc : Addr} {oe : Obj} (e1 : cls = .ref Dc) (e2 : d = none) (h : Zc cls d oe) : Zc (.ref Dc) none oe := by subst e1 e2; exact h
theorem iWAs {K : PySem.W.Frag} {R : Addr} {c : Value} {i : Nat} {ts : Addr → Value → Option Addr → TS} {Wout : WX} {D : Ends} {σ : St} {H : Hp} (h : PySem.W.exmOne K (.ref R) c = some true)
    (q : ∀ a, H a = none → ts a (.ref R) none { nx := fun σ' H' => D.nx (σ'.set i none) H', rt := D.rt, bk := fun σ' H' => D.bk (σ'.set i none) H', ct := fun σ' H' => D.ct (σ'.set i none) H' } (σ.set i (some (.ref a))) H) : WE (wAs K c i ts Wout D) σ (.ref R) none H :=
  ⟨true, h, fun _ => q, fun z => nomatch z⟩
theorem iIsE {K : PySem.W.Frag} {D a A : Addr} {b : Bool} {H : Hp} {Q : VK} (k : PySem.W.kitOne K (.ref D) (.ref A) = some b) (q : Q (.bl b) H) : rIsE K D a [.ref a, .ref A] H Q := ⟨.ref A, .ref A, b, rfl, fun _ h => h, k, q⟩
theorem iIsET {K : PySem.W.Frag} {D a : Addr} {n : String} {b : Bool} {H : Hp} {Q : VK} (k : PySem.W.kitOne K (.ref D) (.type n) = some b) (q : Q (.bl b) H) : rIsE K D a [.ref a, .ty n] H Q := ⟨.ty n, .type n, b, rfl, fun _ h => h, k, q⟩
theorem exm_of {K : PySem.W.Frag} {R G : Addr} (h1 : PySem.W.subIn K (.ref G) (.type "BaseException") = some true) (h2 : PySem.W.hasDictIn K G = true) (h3 : PySem.W.typeIn K (.ref G) = some (.type "type")) (h4 : PySem.W.subIn K (.ref R) (.ref G) = some true) : PySem.W.exmOne K (.ref R) (.ref G) = some true := PySem.W.exm_ref h1 h2 h3 h4

/-! ### loops -/
section
variable {K : PySem.W.Frag} {σ : St} {H : Hp} {g : TG} {tb : TS} {D : Ends} {x v : V}
def RF1 (g : TG) (tb : TS) (D : Ends) (σ : St) (vs : List V) (H1 : Hp) : Prop := ∃ j : Int, vs = [.int j] ∧ -(2 ^ 62) ≤ j ∧ j < 2 ^ 62 ∧ ∃ W : Nat → Nat → St → Hp → Prop, (∃ m, W 0 m σ H1) ∧ ∀ i m σ H, W i m σ H →
  ((Itr 0 j.toNat).stop i H ∧ D.nx σ H) ∨ ((Itr 0 j.toNat).go i H ∧ ∃ N : St → Hp → Prop, (∀ σ' H', N σ' H' → ∃ m', m' < m ∧ W (i + 1) m' σ' H') ∧ ∀ x H', (Itr 0 j.toNat).yld i H x H' → g x σ H' fun σ2 H2 => tb { D with nx := N, ct := N, bk := D.nx } σ2 H2)
theorem iForR {ta : TA} (q : ta σ H fun vs H1 => RF1 g tb D σ vs H1) : tFor (iRng1 ta) g tb D σ H := q
theorem iRF1 {s : Nat} {j : Int} (b : j < 2 ^ 62 ∧ -(2 ^ 62) ≤ j) (Pv : Nat → St → Hp → Prop) (h0 : Pv 0 σ H)
    (hs : ∀ (i : Nat) σ H, i < j.toNat → Pv i σ H → tb { D with nx := Pv (i + 1), ct := Pv (i + 1), bk := D.nx } (σ.set s (some (.int (i : Nat)))) H) (hd : ∀ σ H, Pv j.toNat σ H → D.nx σ H) : RF1 (gName s) tb D σ [.int j] H :=
  ⟨j, rfl, b.2, b.1, for_range (lo := 0) (n := j.toNat) Pv h0 (fun i σ H hi p => by
    show tb _ (σ.set s (some (.int (0 + (i : Int))))) H
    rw [Int.zero_add]
    exact hs i σ H hi p) hd⟩
def RF3 (g : TG) (tb : TS) (D : Ends) (σ : St) (vs : List V) (H1 : Hp) : Prop := ∃ (i0 j c : Int) (n : Nat), vs = [.int i0, .int j, .int c] ∧ RgC i0 j c n ∧ ∃ W : Nat → Nat → St → Hp → Prop, (∃ m, W 0 m σ H1) ∧ ∀ i m σ H, W i m σ H →
  ((Itc i0 c n).stop i H ∧ D.nx σ H) ∨ ((Itc i0 c n).go i H ∧ ∃ N : St → Hp → Prop, (∀ σ' H', N σ' H' → ∃ m', m' < m ∧ W (i + 1) m' σ' H') ∧ ∀ x H', (Itc i0 c n).yld i H x H' → g x σ H' fun σ2 H2 => tb { D with nx := N, ct := N, bk := D.nx } σ2 H2)
theorem iForR3 {ta : TA} (q : ta σ H fun vs H1 => RF3 g tb D σ vs H1) : tFor (iRng3 ta) g tb D σ H := q
/-- range(i0, j, -1) -/
theorem iRF3 {s : Nat} {i0 j : Int} (b : -(2 ^ 62) ≤ i0 ∧ i0 < 2 ^ 62 ∧ -(2 ^ 62) ≤ j ∧ j < 2 ^ 62) (Pv : Nat → St → Hp → Prop) (h0 : Pv 0 σ H)
    (hs : ∀ (i : Nat) σ H, i < (i0 - j).toNat → Pv i σ H → tb { D with nx := Pv (i + 1), ct := Pv (i + 1), bk := D.nx } (σ.set s (some (.int (i0 - (i : Nat))))) H) (hd : ∀ σ H, Pv (i0 - j).toNat σ H → D.nx σ H) : RF3 (gName s) tb D σ [.int i0, .int j, .int (-1)] H :=
  ⟨i0, j, -1, (i0 - j).toNat, rfl, RgC.neg b.1 b.2.1 b.2.2.1 b.2.2.2, for_rangeC (lo := i0) (c := -1) (n := (i0 - j).toNat) Pv h0 (fun i σ H hi p => by
    show tb _ (σ.set s (some (.int (i0 + (i : Nat) * -1)))) H
    rw [show i0 + ((i : Nat) : Int) * -1 = i0 - (i : Nat) by omega]
    exact hs i σ H hi p) hd⟩
def FL (K : PySem.W.Frag) (g : TG) (tb : TS) (D : Ends) (σ : St) (x : V) (H1 : Hp) : Prop := ∃ a, x = .ref a ∧ (∃ xs, SqL K H1 a xs) ∧ ∃ W : Nat → Nat → St → Hp → Prop, (∃ m, W 0 m σ H1) ∧ ∀ i m σ H, W i m σ H →
  ((Itl K a).stop i H ∧ D.nx σ H) ∨ ((Itl K a).go i H ∧ ∃ N : St → Hp → Prop, (∀ σ' H', N σ' H' → ∃ m', m' < m ∧ W (i + 1) m' σ' H') ∧ ∀ x H', (Itl K a).yld i H x H' → g x σ H' fun σ2 H2 => tb { D with nx := N, ct := N, bk := D.nx } σ2 H2)
theorem iForL {tl : TE} (q : tl σ H fun x H1 => FL K g tb D σ x H1) : tFor (iList K tl) g tb D σ H := q
theorem iFL {s : Nat} {xs : List V} (h : LS H v xs) (Pv : Nat → St → Hp → Prop) (h0 : Pv 0 σ H) (hk : ∀ i σ H', Pv i σ H' → LS H' v xs)
    (hs : ∀ (i : Nat) y σ H, xs[i]? = some y → Pv i σ H → tb { D with nx := Pv (i + 1), ct := Pv (i + 1), bk := D.nx } (σ.set s (some y)) H) (hd : ∀ σ H, Pv xs.length σ H → D.nx σ H) : FL K (gName s) tb D σ v H := by
  obtain ⟨a, rfl, h⟩ := h
  refine ⟨a, rfl, ⟨xs, SqL.of h⟩, for_list (K := K) (a := a) (xs := xs) Pv h0 (fun i σ H _ p => ?_) (fun i y σ H e p => hs i y σ H e p) hd⟩
  obtain ⟨a', e, q⟩ := hk i σ H p
  cases e
  exact SqL.of q
def FT (K : PySem.W.Frag) (g : TG) (tb : TS) (D : Ends) (σ : St) (x : V) (H1 : Hp) : Prop := ∃ a, x = .ref a ∧ (∃ xs, SqT K H1 a xs) ∧ ∃ W : Nat → Nat → St → Hp → Prop, (∃ m, W 0 m σ H1) ∧ ∀ i m σ H, W i m σ H →
  ((Itt K a).stop i H ∧ D.nx σ H) ∨ ((Itt K a).go i H ∧ ∃ N : St → Hp → Prop, (∀ σ' H', N σ' H' → ∃ m', m' < m ∧ W (i + 1) m' σ' H') ∧ ∀ x H', (Itt K a).yld i H x H' → g x σ H' fun σ2 H2 => tb { D with nx := N, ct := N, bk := D.nx } σ2 H2)
theorem iForT {tl : TE} (q : tl σ H fun x H1 => FT K g tb D σ x H1) : tFor (L2.iTup K tl) g tb D σ H := q
theorem iFT {s : Nat} {xs : List V} (h : TU H v xs) (Pv : Nat → St → Hp → Prop) (h0 : Pv 0 σ H) (hk : ∀ i σ H', Pv i σ H' → TU H' v xs)
    (hs : ∀ (i : Nat) y σ H, xs[i]? = some y → Pv i σ H → tb { D with nx := Pv (i + 1), ct := Pv (i + 1), bk := D.nx } (σ.set s (some y)) H) (hd : ∀ σ H, Pv xs.length σ H → D.nx σ H) : FT K (gName s) tb D σ v H := by
  obtain ⟨a, rfl, h⟩ := h
  refine ⟨a, rfl, ⟨xs, SqT.of h⟩, for_tup (K := K) (a := a) (xs := xs) Pv h0 (fun i σ H _ p => ?_) (fun i y σ H e p => hs i y σ H e p) hd⟩
  obtain ⟨a', e, q⟩ := hk i σ H p
  cases e
  exact SqT.of q
/-! comprehensions -/
def LcT (D : Addr) (P : Hp → Prop) (y : V) (H4 : Hp) : Prop := ∃ acc, H4 D = some (.lst acc) ∧ acc.length < sizeLine ∧ P (upd H4 D (.lst (acc ++ [y])))
def LcB (te : TE) (σ2 : St) (D : Addr) (P : Hp → Prop) (b : Bool) (H3 : Hp) : Prop := if b = true then te σ2 H3 fun y H4 => LcT D P y H4 else P H3
theorem iLcBT {te : TE} {P : Hp → Prop} {D : Addr} (q : te σ H fun y H4 => LcT D P y H4) : LcB te σ D P true H := iteT q
theorem iLcBd {te : TE} {P : Hp → Prop} {D : Addr} {p : Prop} [Decidable p] (h1 : p → te σ H fun y H4 => LcT D P y H4) (h2 : ¬ p → P H) : LcB te σ D P (decide p) H := by
  unfold LcB
  exact iIf h1 h2
theorem iLcBF {te : TE} {P : Hp → Prop} {D : Addr} (q : P H) : LcB te σ D P false H := iteF q
theorem iLcTI {P : Hp → Prop} {D : Addr} {ns : List Int} {y : Int} (h : LK H D ns) (hl : ns.length ≤ 100000) (q : P (upd H D (.lst ((ns ++ [y]).map V.int)))) : LcT D P (.int y) H :=
  ⟨_, h, by rw [List.length_map]; exact lineK hl, by rw [List.map_append] at q; exact q⟩
theorem iYes {Q : Bool → Hp → Prop} (q : Q true H) : tYes σ H Q := q
def RLc (g : TG) (tt : L2.TT) (te : TE) (vs : List Nat) (σ : St) (as : List V) (H1 : Hp) (Q : VK) : Prop := ∃ j : Int, as = [.int j] ∧ -(2 ^ 62) ≤ j ∧ j < 2 ^ 62 ∧ ∀ D, H1 D = none → ∃ W : Nat → Nat → Hp → Prop, (∃ m, W 0 m (upd H1 D (.lst []))) ∧ ∀ i m H, W i m H →
  ((Itr 0 j.toNat).stop i H ∧ Q (.ref D) H) ∨ ((Itr 0 j.toNat).go i H ∧ ∃ Nx : Hp → Prop, (∀ H', Nx H' → ∃ m', m' < m ∧ W (i + 1) m' H') ∧ ∀ x H', (Itr 0 j.toNat).yld i H x H' → g x (wipe σ vs) H' fun σ2 H2 => wipe σ2 vs = wipe σ vs ∧ tt σ2 H2 fun b H3 =>
    if b = true then te σ2 H3 fun y H4 => ∃ acc, H4 D = some (.lst acc) ∧ acc.length < sizeLine ∧ Nx (upd H4 D (.lst (acc ++ [y]))) else Nx H3)
theorem iLcR {ta : TA} {tt : L2.TT} {te : TE} {vs : List Nat} {Q : VK} (q : ta σ H fun as H1 => RLc g tt te vs σ as H1 Q) : tLc (iRng1 ta) g tt te vs σ H Q := q
theorem iRLc {s : Nat} {tt : L2.TT} {te : TE} {vs : List Nat} {Q : VK} {j : Int} (b : j < 2 ^ 62 ∧ -(2 ^ 62) ≤ j) (Pv : Addr → Nat → Hp → Prop) (h0 : ∀ D, H D = none → Pv D 0 (upd H D (.lst [])))
    (hw : ∀ i : Nat, wipe ((wipe σ vs).set s (some (.int (i : Nat)))) vs = wipe σ vs)
    (hs : ∀ D (i : Nat) H', H D = none → i < j.toNat → Pv D i H' → tt ((wipe σ vs).set s (some (.int (i : Nat)))) H' fun b H3 => LcB te ((wipe σ vs).set s (some (.int (i : Nat)))) D (Pv D (i + 1)) b H3)
    (hd : ∀ D H', H D = none → Pv D j.toNat H' → Q (.ref D) H') : RLc (gName s) tt te vs σ [.int j] H Q :=
  ⟨j, rfl, b.2, b.1, fun D hD => lc_range (lo := 0) (n := j.toNat) (Pv D) (h0 D hD) (fun i H' hi p => by
    have e : (0 : Int) + (i : Nat) = (i : Nat) := Int.zero_add _
    show wipe ((wipe σ vs).set s (some (.int (0 + (i : Nat))))) vs = wipe σ vs ∧ tt ((wipe σ vs).set s (some (.int (0 + (i : Nat))))) H' _
    rw [e]
    exact ⟨hw i, hs D i H' hD hi p⟩) (fun H' p => hd D H' hD p)⟩
def LLc (K : PySem.W.Frag) (g : TG) (tt : L2.TT) (te : TE) (vs : List Nat) (σ : St) (x : V) (H1 : Hp) (Q : VK) : Prop := ∃ a, x = .ref a ∧ (∃ xs, SqL K H1 a xs) ∧ ∀ D, H1 D = none → ∃ W : Nat → Nat → Hp → Prop, (∃ m, W 0 m (upd H1 D (.lst []))) ∧ ∀ i m H, W i m H →
  ((Itl K a).stop i H ∧ Q (.ref D) H) ∨ ((Itl K a).go i H ∧ ∃ Nx : Hp → Prop, (∀ H', Nx H' → ∃ m', m' < m ∧ W (i + 1) m' H') ∧ ∀ x H', (Itl K a).yld i H x H' → g x (wipe σ vs) H' fun σ2 H2 => wipe σ2 vs = wipe σ vs ∧ tt σ2 H2 fun b H3 =>
    if b = true then te σ2 H3 fun y H4 => ∃ acc, H4 D = some (.lst acc) ∧ acc.length < sizeLine ∧ Nx (upd H4 D (.lst (acc ++ [y]))) else Nx H3)
theorem iLcL {tl : TE} {tt : L2.TT} {te : TE} {vs : List Nat} {Q : VK} (q : tl σ H fun x H1 => LLc K g tt te vs σ x H1 Q) : tLc (iList K tl) g tt te vs σ H Q := q
theorem iLLc {s : Nat} {tt : L2.TT} {te : TE} {vs : List Nat} {Q : VK} {ns : List Int} (h : LI H v ns) (Pv : Addr → Nat → Hp → Prop) (h0 : ∀ D, H D = none → Pv D 0 (upd H D (.lst [])))
    (hk : ∀ D i H', H D = none → Pv D i H' → Same H H')
    (hw : ∀ y : Int, wipe ((wipe σ vs).set s (some (.int y))) vs = wipe σ vs)
    (hs : ∀ D (i : Nat) y H', H D = none → ns[i]? = some y → Pv D i H' → tt ((wipe σ vs).set s (some (.int y))) H' fun b H3 => LcB te ((wipe σ vs).set s (some (.int y))) D (Pv D (i + 1)) b H3)
    (hd : ∀ D H', H D = none → Pv D ns.length H' → Q (.ref D) H') : LLc K (gName s) tt te vs σ v H Q := by
  obtain ⟨a, rfl, h⟩ := h
  refine ⟨a, rfl, ⟨_, SqL.of h⟩, fun D hD => lc_list (K := K) (a := a) (xs := ns.map V.int) (Pv D) (h0 D hD) (fun i H' _ p => SqL.of (hk D i H' hD p _ _ h)) (fun i x H' e p => ?_) (fun H' p => hd D H' hD (by rw [List.length_map] at p; exact p))⟩
  rw [List.getElem?_map] at e
  obtain ⟨y, hy, rfl⟩ := Option.map_eq_some_iff.mp e
  exact ⟨hw y, hs D i y H' hD hy p⟩
def WhB (tb : TS) (D : Ends) (W : Nat → St → Hp → Prop) (m : Nat) (σ : St) (b : Bool) (H1 : Hp) : Prop :=
  if b = true then ∃ N : St → Hp → Prop, (∀ σ' H', N σ' H' → ∃ m', m' < m ∧ W m' σ' H') ∧ tb { D with nx := N, ct := N, bk := D.nx } σ H1 else D.nx σ H1
theorem iWhile {c : L2.TT} (W : Nat → St → Hp → Prop) (h0 : ∃ m, W m σ H) (hs : ∀ m σ H, W m σ H → c σ H fun b H1 => WhB tb D W m σ b H1) : tWhile c tb D σ H := ⟨W, h0, hs⟩
theorem iWh {W : Nat → St → Hp → Prop} {m : Nat} {p : Prop} [Decidable p] (h1 : p → tb { D with nx := fun σ' H' => ∃ m', m' < m ∧ W m' σ' H', ct := fun σ' H' => ∃ m', m' < m ∧ W m' σ' H', bk := D.nx } σ H) (h2 : ¬ p → D.nx σ H) : WhB tb D W m σ (decide p) H := by
  unfold WhB
  by_cases h : p
  · rw [decide_eq_true h]; exact iteT ⟨_, fun _ _ q => q, h1 h⟩
  · rw [decide_eq_false h]; exact iteF (h2 h)
theorem iWhN {W : Nat → St → Hp → Prop} {m : Nat} {p : Prop} [Decidable p] (h1 : ¬ p → tb { D with nx := fun σ' H' => ∃ m', m' < m ∧ W m' σ' H', ct := fun σ' H' => ∃ m', m' < m ∧ W m' σ' H', bk := D.nx } σ H) (h2 : p → D.nx σ H) : WhB tb D W m σ (!decide p) H := by
  unfold WhB
  by_cases h : p
  · rw [decide_eq_true h]; exact iteF (h2 h)
  · rw [decide_eq_false h]; exact iteT ⟨_, fun _ _ q => q, h1 h⟩
end
end GP

/-! ### the walk over a reading: walk_at "go" -/
local macro_rules | `(tactic| walk_at "hp") => `(tactic| first
  | assumption
  | (apply GP.TU.same; assumption; walk_at "hp")
  | (apply GP.LS.same; assumption; walk_at "hp")
  | (apply GP.SqL_same; assumption; walk_at "hp")
  | (apply GP.LK.same; assumption; walk_at "hp")
  | exact GP.LK.new
  | ((with_reducible apply GP.LK.ls); walk_at "hp")
  | ((with_reducible apply GP.TU.app); walk_at "hp"; walk_at "hp")
  | (apply GP.TU.same; (with_reducible apply GP.same_app); assumption; walk_at "sm"; walk_at "hp")
  | (apply GP.LS.same; (with_reducible apply GP.same_app); assumption; walk_at "sm"; walk_at "hp")
  | (apply GP.SqL_same; (with_reducible apply GP.same_app); assumption; walk_at "sm"; walk_at "hp"))
local macro_rules | `(tactic| walk_at "sm") => `(tactic| first
  | assumption
  | exact L2.Same.refl _
  | (apply GP.Same.back; assumption; walk_at "sm")
  | ((with_reducible apply GP.same_app); assumption; walk_at "sm"))
local macro_rules | `(tactic| walk_at "side") => `(tactic| first
  | assumption
  | exact Or.inl (Or.inl ⟨by decide, by decide⟩)
  | exact Or.inl (Or.inr ⟨by decide, by decide⟩)
  | exact Or.inl ⟨by decide, by decide⟩
  | exact ⟨by decide, by decide, by decide⟩
  | exact Or.inl (Or.inl ⟨by omega, by omega⟩)
  | exact Or.inl (Or.inr ⟨by omega, by omega⟩)
  | (show (0 : Int) < _; first | decide | omega)
  | exact Or.inl ⟨by omega, by omega⟩
  | exact Or.inr (by assumption))
local macro_rules | `(tactic| walk_at "lb") => `(tactic| first
  | ((with_reducible refine GP.len_cut ?_); walk_at "lb")
  | ((with_reducible refine GP.len_app ?_ ?_) <;> walk_at "lb")
  | omega
  | (simp only [List.length_cons, List.length_nil]; omega))
local macro_rules | `(tactic| walk_at "len") => `(tactic| ((with_reducible refine GP.len_two ?_ ?_) <;> walk_at "lb"))
local macro_rules | `(tactic| walk_at "eqs") => `(tactic| fail "no equation")
local macro_rules | `(tactic| walk_at "callee") => `(tactic| fail "no callee")
local macro_rules | `(tactic| walk_at "step") => `(tactic| first
  | ((with_reducible refine' GP.iVar ?h ?_); (case h => exact rfl))
  | with_reducible refine GP.iC ?_
  | with_reducible refine GP.iOp ?_
  | with_reducible refine GP.iUn ?_
  | with_reducible refine GP.iI0 ?_
  | with_reducible refine GP.iP6 ?_
  | with_reducible refine GP.iP10 ?_
  | with_reducible refine GP.iP12 ?_
  | with_reducible refine GP.iP14 ?_
  | with_reducible refine GP.iP15 ?_
  | with_reducible refine GP.iP30 ?_
  | with_reducible refine GP.iP45 ?_
  | ((with_reducible refine GP.iI ?h ?_); (case h => walk_at "side"))
  | with_reducible refine GP.iU ?_
  | with_reducible refine GP.iCons ?_
  | with_reducible refine GP.iNil ?_
  | with_reducible refine GP.iSeq ?_
  | with_reducible refine GP.iAsg ?_
  | with_reducible refine GP.iDrop ?_
  | with_reducible refine GP.iRet ?_
  | with_reducible refine GP.iRetN ?_
  | with_reducible refine GP.iIfS ?_
  | with_reducible refine GP.iNext ?_
  | with_reducible refine GP.iTest ?_
  | with_reducible refine GP.iTB ?_
  | with_reducible refine GP.iBl ?_
  | with_reducible refine GP.iNot ?_
  | with_reducible refine GP.iAnd ?_
  | with_reducible refine GP.iOr ?_
  | with_reducible refine GP.iAndV ?_
  | with_reducible refine GP.iOrV ?_
  | with_reducible refine GP.iNotV ?_
  | with_reducible refine GP.iEqI ?_
  | with_reducible refine GP.iNeI ?_
  | with_reducible refine GP.iEqB ?_
  | with_reducible refine GP.iNeB ?_
  | with_reducible refine GP.iEqS ?_
  | with_reducible refine GP.iNeS ?_
  | with_reducible refine GP.iCall ?_
  | with_reducible refine GP.iCallS ?_
  | with_reducible refine GP.iCB ?_
  | with_reducible refine GP.iForR ?_
  | with_reducible refine GP.iForR3 ?_
  | with_reducible refine GP.iForL ?_
  | with_reducible refine GP.iLcR ?_
  | with_reducible refine GP.iLcL ?_
  | with_reducible refine GP.iYes ?_
  | with_reducible refine GP.iLcBT ?_
  | with_reducible refine GP.iLcBF ?_
  | ((with_reducible refine' GP.iLcTI ?h ?hl ?_); (case h => walk_at "hp"); (case hl => omega))
  | with_reducible refine GP.iForT ?_
  | with_reducible refine GP.iTup ?_
  | with_reducible refine GP.iBM ?_
  | ((with_reducible refine' GP.iBMl ?h ?_); (case h => walk_at "hp"))
  | ((with_reducible refine' GP.iAppI ?h ?hl ?_); (case h => walk_at "hp"); (case hl => omega))
  | with_reducible refine GP.iLst ?_
  | ((with_reducible refine GP.iMkT ?_ ?hl); (case hl => exact rfl); intro _ _ _ _)
  | ((with_reducible refine GP.iMkI1 ?_); intro _ _ _ _)
  | ((with_reducible refine GP.iMkI2 ?_); intro _ _ _ _)
  | ((with_reducible refine GP.iMkL ?_ ?hl); (case hl => exact rfl); intro _ _ _ _)
  | ((with_reducible refine' GP.iIxT ?h ?e ?_); (case h => walk_at "hp"); (case e => exact rfl))
  | ((with_reducible refine' GP.iLenI ?h ?_); (case h => walk_at "hp"))
  | ((with_reducible refine' GP.iLenT ?h ?_); (case h => walk_at "hp"))
  | ((with_reducible refine' GP.iLenL ?h ?_); (case h => walk_at "hp"))
  | with_reducible refine GP.is_int_int ?_
  | with_reducible refine GP.is_int_bool ?_
  | with_reducible refine GP.is_int_str ?_
  | with_reducible refine GP.is_int_tuple ?_
  | with_reducible refine GP.is_int_list ?_
  | with_reducible refine GP.is_bool_int ?_
  | with_reducible refine GP.is_bool_bool ?_
  | with_reducible refine GP.is_bool_str ?_
  | with_reducible refine GP.is_bool_tuple ?_
  | with_reducible refine GP.is_bool_list ?_
  | with_reducible refine GP.is_str_int ?_
  | with_reducible refine GP.is_str_bool ?_
  | with_reducible refine GP.is_str_str ?_
  | with_reducible refine GP.is_str_tuple ?_
  | with_reducible refine GP.is_str_list ?_
  | with_reducible refine GP.is_NoneType_int ?_
  | with_reducible refine GP.is_NoneType_bool ?_
  | with_reducible refine GP.is_NoneType_str ?_
  | with_reducible refine GP.is_NoneType_tuple ?_
  | with_reducible refine GP.is_NoneType_list ?_
  | ((with_reducible refine' GP.is_tuple_int ?h ?_); (case h => walk_at "hp"))
  | ((with_reducible refine' GP.is_tuple_bool ?h ?_); (case h => walk_at "hp"))
  | ((with_reducible refine' GP.is_tuple_str ?h ?_); (case h => walk_at "hp"))
  | ((with_reducible refine' GP.is_tuple_tuple ?h ?_); (case h => walk_at "hp"))
  | ((with_reducible refine' GP.is_tuple_list ?h ?_); (case h => walk_at "hp"))
  | ((with_reducible refine' GP.is_list_int ?h ?_); (case h => walk_at "hp"))
  | ((with_reducible refine' GP.is_list_bool ?h ?_); (case h => walk_at "hp"))
  | ((with_reducible refine' GP.is_list_str ?h ?_); (case h => walk_at "hp"))
  | ((with_reducible refine' GP.is_list_tuple ?h ?_); (case h => walk_at "hp"))
  | ((with_reducible refine' GP.is_list_list ?h ?_); (case h => walk_at "hp"))
  | with_reducible refine L2.iteT ?_
  | with_reducible refine L2.iteF ?_
  | ((with_reducible refine' GP.iLenQ ?h ?_); (case h => walk_at "hp"))
  | with_reducible refine GP.iAbs ?_
  | with_reducible refine GP.iMax2 ?_
  | with_reducible refine GP.iIsN ?_
  | with_reducible refine GP.iIntB ?_
  | with_reducible refine GP.iEqDI ?_
  | ((with_reducible refine' GP.iEqN ?h1 ?h2 ?_); (case h1 => walk_at "hp"); (case h2 => walk_at "hp"))
  | ((with_reducible refine' GP.iNeN ?h1 ?h2 ?_); (case h1 => walk_at "hp"); (case h2 => walk_at "hp"))
  | with_reducible refine GP.iNT ?_
  | with_reducible refine GP.iNF ?_
  | with_reducible refine GP.iNNT ?_
  | with_reducible refine GP.iNNF ?_
  | ((with_reducible refine GP.iIfBT ?h ?_); (case h => assumption))
  | ((with_reducible refine GP.iIfBF ?h ?_); (case h => assumption))
  | ((with_reducible refine GP.iIfNBT ?h ?_); (case h => assumption))
  | ((with_reducible refine GP.iIfNBF ?h ?_); (case h => assumption))
  | ((with_reducible refine GP.iIfT ?h ?_); (case h => first | assumption | exact rfl | omega | walk_at "eqs"))
  | ((with_reducible refine GP.iIfF ?h ?_); (case h => first | assumption | omega))
  | ((with_reducible refine GP.iIfNT ?h ?_); (case h => first | assumption | exact rfl | omega | walk_at "eqs"))
  | ((with_reducible refine GP.iIfNF ?h ?_); (case h => first | assumption | omega))
  | ((with_reducible refine' GP.iIxL ?h ?e ?_); (case h => walk_at "hp"); (case e => exact rfl))
  | ((with_reducible refine' GP.iIxN ?h ?h1 ?_); (case h => walk_at "hp"); (case h1 => omega))
  | ((with_reducible refine' GP.iIxP ?h ?h1 ?_); (case h => walk_at "hp"); (case h1 => omega))
  | ((with_reducible refine' GP.iIxI ?h ?h0 ?h1 ?_); (case h => walk_at "hp"); (case h0 => omega); (case h1 => omega))
  | ((with_reducible refine' GP.iEqR ?h1 ?h2 ?k1 ?k2 ?k3 ?k4 ?_); (case h1 => walk_at "hp"); (case h2 => walk_at "hp"); (case k1 => walk_at "hp"); (case k2 => walk_at "hp"); (case k3 => walk_at "hp"); (case k4 => walk_at "hp"))
  | ((with_reducible refine' GP.iNeR ?h1 ?h2 ?k1 ?k2 ?k3 ?k4 ?_); (case h1 => walk_at "hp"); (case h2 => walk_at "hp"); (case k1 => walk_at "hp"); (case k2 => walk_at "hp"); (case k3 => walk_at "hp"); (case k4 => walk_at "hp"))
  | ((with_reducible refine' GP.iEqL ?h1 ?h2 ?_); (case h1 => walk_at "hp"); (case h2 => walk_at "hp"))
  | ((with_reducible refine' GP.iNeL ?h1 ?h2 ?_); (case h1 => walk_at "hp"); (case h2 => walk_at "hp"))
  | with_reducible refine GP.iSl ?_
  | with_reducible refine GP.iNoPart ?_
  | with_reducible refine GP.iPart ?_
  | with_reducible refine GP.iIntP ?_
  | ((with_reducible refine' GP.iSlI ?h ?_); (case h => walk_at "hp"); intro _ _ _ _)
  | ((with_reducible refine' GP.iListOfN ?h ?_); (case h => walk_at "hp"); intro _ _ _ _ _)
  | ((with_reducible refine' GP.iListOf ?h ?_); (case h => walk_at "hp"); intro _ _ _ _)
  | ((with_reducible refine' GP.iCatI ?h1 ?h2 ?h3 ?_); (case h1 => walk_at "hp"); (case h2 => walk_at "hp"); (case h3 => walk_at "len"); intro _ _ _ _)
  | ((with_reducible refine' GP.iIsE ?h ?_); (case h => assumption))
  | ((with_reducible refine' GP.iIsET ?h ?_); (case h => assumption))
  | walk_at "callee")
local macro_rules | `(tactic| walk_at "if") => `(tactic| first
  | with_reducible refine GP.iIf ?_ ?_
  | with_reducible refine GP.iIfN ?_ ?_
  | with_reducible refine GP.iIfNB ?_ ?_
  | with_reducible refine GP.iIfB ?_ ?_
  | with_reducible refine GP.iLcBd ?_ ?_)
local macro_rules | `(tactic| walk_at "go") => `(tactic| repeat (walk_at "step"))
local macro_rules | `(tactic| walk_at "ifs") => `(tactic| (walk_at "go"; try (walk_at "if" <;> (intro _; walk_at "ifs"))))

namespace GP
open PySem L2
def top (i : Nat) : Stmt := PySem.Challenge.pw_goldplaces_k17_read_or_refused.main.body.getD i (.Pass ⟨0, 0, 0, 0⟩)
abbrev s_is_row : Stmt := top 7
abbrev N_is_row : List Str := ["places", "k"]
theorem sc_is_row : FnScope ["places", "k"] ["places"] (defScope s_is_row) := ⟨rfl, rfl, rfl, by decide +kernel, rfl, by decide +kernel, by decide +kernel⟩
abbrev s_asked_figures : Stmt := top 9
abbrev N_asked_figures : List Str := ["text", "figure"]
theorem sc_asked_figures : FnScope ["text", "figure"] ["text"] (defScope s_asked_figures) := ⟨rfl, rfl, rfl, by decide +kernel, rfl, by decide +kernel, by decide +kernel⟩
abbrev s_read : Stmt := top 10
abbrev N_read : List Str := ["text", "halves", "half", "whole", "row", "k"]
theorem sc_read : FnScope ["text", "halves", "half", "whole", "row", "k"] ["text"] (defScope s_read) := ⟨rfl, rfl, rfl, by decide +kernel, rfl, by decide +kernel, by decide +kernel⟩
abbrev s__law_cell_at : Stmt := top 12
abbrev N__law_cell_at : List Str := ["script", "k"]
theorem sc__law_cell_at : FnScope ["script", "k"] ["script", "k"] (defScope s__law_cell_at) := ⟨rfl, rfl, rfl, by decide +kernel, rfl, by decide +kernel, by decide +kernel⟩
abbrev s__law_figures : Stmt := top 13
abbrev N__law_figures : List Str := ["cell", "many", "plain", "text", "k"]
theorem sc__law_figures : FnScope ["cell", "many", "plain", "text", "k"] ["cell", "many", "plain"] (defScope s__law_figures) := ⟨rfl, rfl, rfl, by decide +kernel, rfl, by decide +kernel, by decide +kernel⟩
abbrev s__law_text : Stmt := top 14
abbrev N__law_text : List Str := ["script", "many", "plain", "text", "place", "mark"]
theorem sc__law_text : FnScope ["script", "many", "plain", "text", "place", "mark"] ["script"] (defScope s__law_text) := ⟨rfl, rfl, rfl, by decide +kernel, rfl, by decide +kernel, by decide +kernel⟩
abbrev s__law_places : Stmt := top 15
abbrev N__law_places : List Str := ["text", "point", "k", "marks", "row"]
theorem sc__law_places : FnScope ["text", "point", "k", "marks", "row"] ["text"] (defScope s__law_places) := ⟨rfl, rfl, rfl, by decide +kernel, rfl, by decide +kernel, by decide +kernel⟩
abbrev s__law_told : Stmt := top 16
abbrev N__law_told : List Str := ["text", "e"]
theorem sc__law_told : FnScope ["text", "e"] ["text"] (defScope s__law_told) := ⟨rfl, rfl, rfl, by decide +kernel, rfl, by decide +kernel, by decide +kernel⟩
abbrev s_law : Stmt := top 17
abbrev N_law : List Str := ["script", "text", "due", "found", "place"]
theorem sc_law : FnScope ["script", "text", "due", "found", "place"] ["script"] (defScope s_law) := ⟨rfl, rfl, rfl, by decide +kernel, rfl, by decide +kernel, by decide +kernel⟩
end GP

/-! ### numbers a + b G, plain: which are above nought -/
namespace GM
abbrev Z := Int × Int
def up (z : Z) : Z := (z.2, z.1 + z.2)
def dn (z : Z) : Z := (z.2 - z.1, z.1)
def mul (z w : Z) : Z := (z.1 * w.1 + z.2 * w.2, z.1 * w.2 + z.2 * w.1 + z.2 * w.2)
def add (z w : Z) : Z := (z.1 + w.1, z.2 + w.2)
def sub (z w : Z) : Z := (z.1 - w.1, z.2 - w.2)
def neg (z : Z) : Z := (0 - z.1, 0 - z.2)
theorem up_dn (z : Z) : up (dn z) = z := by obtain ⟨a, b⟩ := z; simp only [up, dn]; exact Prod.ext rfl (by show b - a + a = b; omega)
theorem dn_up (z : Z) : dn (up z) = z := by obtain ⟨a, b⟩ := z; simp only [up, dn]; exact Prod.ext (by show a + b - b = a; omega) rfl
def upn : Nat → Z → Z
  | 0, z => z
  | n + 1, z => upn n (up z)
def Nn (z : Z) : Prop := 0 ≤ z.1 ∧ 0 ≤ z.2 ∧ 0 < z.1 + z.2
theorem Nn.up {z : Z} (h : Nn z) : Nn (up z) := by
  obtain ⟨a, b⟩ := z
  simp only [Nn, GM.up] at *
  omega
theorem Nn.upn : ∀ (n : Nat) {z : Z}, Nn z → Nn (upn n z)
  | 0, _, h => h
  | n + 1, _, h => Nn.upn n h.up
theorem upn_add : ∀ (n : Nat) (z w : Z), upn n (add z w) = add (upn n z) (upn n w)
  | 0, _, _ => rfl
  | n + 1, z, w => by
    have e : up (add z w) = add (up z) (up w) := by simp only [up, add]; exact Prod.ext rfl (by show z.1 + w.1 + (z.2 + w.2) = z.1 + z.2 + (w.1 + w.2); omega)
    show upn n (up (add z w)) = _
    rw [e]
    exact upn_add n _ _
theorem upn_neg : ∀ (n : Nat) (z : Z), upn n (neg z) = neg (upn n z)
  | 0, _ => rfl
  | n + 1, z => by
    have e : up (neg z) = neg (up z) := by simp only [up, neg]; exact Prod.ext rfl (by show 0 - z.1 + (0 - z.2) = 0 - (z.1 + z.2); omega)
    show upn n (up (neg z)) = _
    rw [e]
    exact upn_neg n _
theorem upn_plus : ∀ (n m : Nat) (z : Z), upn (n + m) z = upn m (upn n z)
  | 0, m, z => by rw [Nat.zero_add]; rfl
  | n + 1, m, z => by
    rw [show n + 1 + m = (n + m) + 1 by omega]
    exact upn_plus n m (up z)
theorem up_mul (z w : Z) : up (mul z w) = mul (up z) w := by
  simp only [up, mul]
  exact Prod.ext (by show z.1 * w.2 + z.2 * w.1 + z.2 * w.2 = z.2 * w.1 + (z.1 + z.2) * w.2; grind) (by show _ = z.2 * w.2 + (z.1 + z.2) * w.1 + (z.1 + z.2) * w.2; grind)
theorem mul_comm (z w : Z) : mul z w = mul w z := by
  simp only [mul]
  exact Prod.ext (by show z.1 * w.1 + z.2 * w.2 = w.1 * z.1 + w.2 * z.2; grind) (by show z.1 * w.2 + z.2 * w.1 + z.2 * w.2 = w.1 * z.2 + w.2 * z.1 + w.2 * z.2; grind)
theorem upn_mul : ∀ (n : Nat) (z w : Z), upn n (mul z w) = mul (upn n z) w
  | 0, _, _ => rfl
  | n + 1, z, w => by
    show upn n (up (mul z w)) = _
    rw [up_mul]
    exact upn_mul n _ _
/-- above nought -/
def P (z : Z) : Prop := ∃ n, Nn (upn n z)
theorem P.of {z : Z} (h : Nn z) : P z := ⟨0, h⟩
theorem P.add {z w : Z} (h : P z) (k : P w) : P (add z w) := by
  obtain ⟨n, h⟩ := h
  obtain ⟨m, k⟩ := k
  refine ⟨n + m, ?_⟩
  rw [upn_add, upn_plus n m z, Nat.add_comm n m, upn_plus m n w]
  have a := Nn.upn m h
  have b := Nn.upn n k
  generalize upn m (upn n z) = x at a
  generalize upn n (upn m w) = y at b
  simp only [Nn, GM.add] at *
  omega
theorem Nn.mul {z w : Z} (h : Nn z) (k : Nn w) : Nn (mul z w) := by
  obtain ⟨a, b⟩ := z
  obtain ⟨c, d⟩ := w
  simp only [Nn, GM.mul] at *
  have h1 := Int.mul_nonneg h.1 k.1
  have h2 := Int.mul_nonneg h.1 k.2.1
  have h3 := Int.mul_nonneg h.2.1 k.1
  have h4 := Int.mul_nonneg h.2.1 k.2.1
  refine ⟨by omega, by omega, ?_⟩
  have h5 : 0 < (a + b) * (c + d) := Int.mul_pos h.2.2 k.2.2
  have h6 : (a + b) * (c + d) = a * c + a * d + (b * c + b * d) := by grind
  omega
theorem P.mul {z w : Z} (h : P z) (k : P w) : P (mul z w) := by
  obtain ⟨n, h⟩ := h
  obtain ⟨m, k⟩ := k
  refine ⟨n + m, ?_⟩
  rw [upn_plus, upn_mul, mul_comm, upn_mul, mul_comm]
  exact h.mul k
theorem P.up {z : Z} (h : P z) : P (up z) := by
  obtain ⟨n, h⟩ := h
  refine ⟨n, ?_⟩
  have e : upn n (GM.up z) = GM.up (upn n z) := by
    have a := upn_plus n 1 z
    have b := upn_plus 1 n z
    rw [Nat.add_comm] at a
    exact b.symm.trans a
  rw [e]
  exact h.up
theorem P.dn {z : Z} (h : P z) : P (dn z) := by
  obtain ⟨n, h⟩ := h
  refine ⟨n + 1, ?_⟩
  show Nn (upn n (GM.up (GM.dn z)))
  rw [up_dn]
  exact h
theorem P_up {z : Z} : P (up z) ↔ P z := ⟨fun h => by have k := h.dn; rw [dn_up] at k; exact k, P.up⟩
theorem P_dn {z : Z} : P (dn z) ↔ P z := ⟨fun h => by have k := h.up; rw [up_dn] at k; exact k, P.dn⟩
theorem not_P0 : ¬ P (0, 0) := fun ⟨n, h⟩ => by
  have e : ∀ n, upn n (0, 0) = (0, 0) := fun n => by
    induction n with
    | zero => rfl
    | succ n ih => exact ih
  rw [e] at h
  simp only [Nn] at h
  omega
theorem add_neg (z : Z) : add z (neg z) = (0, 0) := by
  simp only [add, neg]
  exact Prod.ext (by show z.1 + (0 - z.1) = 0; omega) (by show z.2 + (0 - z.2) = 0; omega)
theorem P.asym {z : Z} (h : P z) : ¬ P (neg z) := fun k => not_P0 (by have q := h.add k; rw [add_neg] at q; exact q)
/-- each number is nought, above or below -/
theorem tri : ∀ (n : Nat) (z : Z), z.1.natAbs + z.2.natAbs ≤ n → z = (0, 0) ∨ P z ∨ P (neg z)
  | n, (a, b), hn => by
    by_cases h0 : a = 0 ∧ b = 0
    · exact .inl (Prod.ext h0.1 h0.2)
    · by_cases h1 : 0 ≤ a ∧ 0 ≤ b
      · exact .inr (.inl (.of ⟨h1.1, h1.2, by show 0 < a + b; omega⟩))
      · by_cases h2 : a ≤ 0 ∧ b ≤ 0
        · exact .inr (.inr (.of ⟨by show 0 ≤ 0 - a; omega, by show 0 ≤ 0 - b; omega, by show 0 < 0 - a + (0 - b); omega⟩))
        · -- of unlike signs: a step up makes the parts less
          by_cases h3 : (a + b).natAbs + b.natAbs < a.natAbs + b.natAbs
          · have dn : b.natAbs + (a + b).natAbs < n := by have : a.natAbs + b.natAbs ≤ n := hn; omega
            match n, dn with
            | m + 1, dn =>
              rcases tri m (up (a, b)) (by show b.natAbs + (a + b).natAbs ≤ m; omega) with e | e | e
              · have e1 : b = 0 := congrArg Prod.fst e
                have e2 : a + b = 0 := congrArg Prod.snd e
                omega
              · exact .inr (.inl (P_up.mp e))
              · refine .inr (.inr (P_up.mp ?_))
                have q : up (neg (a, b)) = neg (up (a, b)) := by simp only [up, neg]; exact Prod.ext rfl (by show 0 - a + (0 - b) = 0 - (a + b); omega)
                rw [q]; exact e
          · -- then a + b has b's sign
            by_cases h4 : 0 < b
            · exact .inr (.inl (P_up.mp (.of ⟨by show 0 ≤ b; omega, by show 0 ≤ a + b; omega, by show 0 < b + (a + b); omega⟩)))
            · refine .inr (.inr (P_up.mp (.of ⟨by show 0 ≤ 0 - b; omega, by show 0 ≤ 0 - a + (0 - b); omega, by show 0 < 0 - b + (0 - a + (0 - b)); omega⟩)))
theorem tri' (z : Z) : z = (0, 0) ∨ P z ∨ P (neg z) := tri _ z (Nat.le_refl _)

/-! ### the sign as the program reckons it -/
def sg (a b : Int) : Int :=
  if 2 * a + b = 0 ∧ b = 0 then 0 else if 0 ≤ 2 * a + b ∧ 0 ≤ b then 1 else if 2 * a + b ≤ 0 ∧ b ≤ 0 then -1
  else if 0 < 2 * a + b then (if 5 * b * b < (2 * a + b) * (2 * a + b) then 1 else -1) else (if (2 * a + b) * (2 * a + b) < 5 * b * b then 1 else -1)
theorem sqnn (x : Int) : 0 ≤ x * x := by
  by_cases h : 0 ≤ x
  · exact Int.mul_nonneg h h
  · exact Int.mul_nonneg_of_nonpos_of_nonpos (by omega) (by omega)
theorem sq_lt {x y : Int} (h0 : 0 ≤ x) (h : x < y) : x * x < y * y :=
  Int.lt_of_le_of_lt (Int.mul_le_mul_of_nonneg_left (Int.le_of_lt h) h0) (Int.mul_lt_mul_of_pos_right h (by omega))
theorem sq_le {x y : Int} (h0 : 0 ≤ x) (h : x ≤ y) : x * x ≤ y * y := Int.mul_le_mul h h h0 (by omega)
theorem lt_of_sq {x y : Int} (h0 : 0 ≤ y) (h : x * x < y * y) : x < y := by
  by_cases c : x < y
  · exact c
  · exact absurd h (by have := sq_le h0 (Int.not_lt.mp c); omega)
/-- no square is five squares -/
theorem sq5 : ∀ (n : Nat) (p r : Int), p.natAbs ≤ n → p * p = 5 * (r * r) → p = 0 ∧ r = 0
  | n, p, r, hn, h => by
    have h5 : p % 5 = 0 := by
      have e : p * p % 5 = 0 := by omega
      have e2 : p * p % 5 = ((p % 5) * (p % 5)) % 5 := Int.mul_emod p p 5
      have c : p % 5 = 0 ∨ p % 5 = 1 ∨ p % 5 = 2 ∨ p % 5 = 3 ∨ p % 5 = 4 := by omega
      rcases c with c | c | c | c | c
      · exact c
      all_goals (rw [c] at e2; omega)
    obtain ⟨q, rfl⟩ : ∃ q, p = 5 * q := ⟨p / 5, by omega⟩
    have h1 : r * r = 5 * (q * q) := by
      have e : 5 * q * (5 * q) = 5 * (5 * (q * q)) := by grind
      omega
    have h6 : r % 5 = 0 := by
      have e : r * r % 5 = 0 := by omega
      have e2 : r * r % 5 = ((r % 5) * (r % 5)) % 5 := Int.mul_emod r r 5
      have c : r % 5 = 0 ∨ r % 5 = 1 ∨ r % 5 = 2 ∨ r % 5 = 3 ∨ r % 5 = 4 := by omega
      rcases c with c | c | c | c | c
      · exact c
      all_goals (rw [c] at e2; omega)
    obtain ⟨t, rfl⟩ : ∃ t, r = 5 * t := ⟨r / 5, by omega⟩
    have h2 : q * q = 5 * (t * t) := by
      have e : 5 * t * (5 * t) = 5 * (5 * (t * t)) := by grind
      omega
    by_cases hq : q = 0
    · subst hq
      have : t * t = 0 := by omega
      have : t = 0 := by
        rcases Int.mul_eq_zero.mp this with z | z <;> exact z
      omega
    · match n with
      | 0 => omega
      | m + 1 =>
        have := sq5 m q t (by omega) h2
        omega
/-- above nought, by the norm -/
theorem sg_one {a b : Int} : sg a b = 1 ↔ (5 * (b * b) < (2 * a + b) * (2 * a + b) ∧ 0 < 2 * a + b) ∨ ((2 * a + b) * (2 * a + b) < 5 * (b * b) ∧ 0 < b) := by
  have e5 : 5 * b * b = 5 * (b * b) := by grind
  unfold sg
  rw [e5]
  generalize hp : 2 * a + b = p
  have hs := sq5 _ p b (Nat.le_refl _)
  have pp : 0 ≤ p * p := sqnn _
  have bb : 0 ≤ b * b := sqnn _
  have z1 : p * p = 0 → p = 0 := fun h => by rcases Int.mul_eq_zero.mp h with z | z <;> exact z
  have z2 : b * b = 0 → b = 0 := fun h => by rcases Int.mul_eq_zero.mp h with z | z <;> exact z
  have y1 : p = 0 → p * p = 0 := fun h => by rw [h]; rfl
  have y2 : b = 0 → b * b = 0 := fun h => by rw [h]; rfl
  generalize p * p = x at *
  generalize b * b = y at *
  repeat' split
  all_goals omega
theorem sg_up {a b : Int} (h : sg a b = 1) : sg b (a + b) = 1 := by
  rw [sg_one] at *
  have e1 : (2 * b + (a + b)) * (2 * b + (a + b)) - 5 * ((a + b) * (a + b)) = 5 * (b * b) - (2 * a + b) * (2 * a + b) := by grind
  rcases h with ⟨h1, h2⟩ | ⟨h1, h2⟩
  · refine .inr ⟨by omega, ?_⟩
    -- p > 0, p p > 5 r r: p + r > 0
    have : -b < 2 * a + b := lt_of_sq (by omega) (by
      have e : -b * -b = b * b := by grind
      have : 0 ≤ b * b := sqnn _
      omega)
    omega
  · refine .inl ⟨by omega, ?_⟩
    have : -(2 * a + b) < 5 * b := lt_of_sq (by omega) (by
      have e : -(2 * a + b) * -(2 * a + b) = (2 * a + b) * (2 * a + b) := by grind
      have e2 : 5 * b * (5 * b) = 25 * (b * b) := by grind
      have : 0 ≤ b * b := sqnn _
      omega)
    omega
theorem sg_dn {a b : Int} (h : sg a b = 1) : sg (b - a) a = 1 := by
  rw [sg_one] at *
  have e1 : (2 * (b - a) + a) * (2 * (b - a) + a) - 5 * (a * a) = 5 * (b * b) - (2 * a + b) * (2 * a + b) := by grind
  rcases h with ⟨h1, h2⟩ | ⟨h1, h2⟩
  · refine .inr ⟨by omega, ?_⟩
    have : b < 2 * a + b := lt_of_sq (by omega) (by
      have : 0 ≤ b * b := sqnn _
      omega)
    omega
  · refine .inl ⟨by omega, ?_⟩
    have : 2 * a + b < 5 * b := lt_of_sq (by omega) (by
      have e2 : 5 * b * (5 * b) = 25 * (b * b) := by grind
      have : 0 ≤ b * b := sqnn _
      omega)
    omega
theorem sg_upn : ∀ (n : Nat) (z : Z), sg (upn n z).1 (upn n z).2 = 1 → sg z.1 z.2 = 1
  | 0, _, h => h
  | n + 1, z, h => by
    have q := sg_dn (sg_upn n (up z) h)
    have e : z.1 + z.2 - z.2 = z.1 := by omega
    have q' : sg (z.1 + z.2 - z.2) z.2 = 1 := q
    rw [e] at q'
    exact q'
theorem sg_nn {z : Z} (h : Nn z) : sg z.1 z.2 = 1 := by
  simp only [Nn] at h
  unfold sg
  rw [if_neg (by omega), if_pos (by omega)]
theorem sg_neg (a b : Int) : sg (0 - a) (0 - b) = 0 - sg a b := by
  have e1 : 5 * (0 - b) * (0 - b) = 5 * b * b := by grind
  have e2 : (2 * (0 - a) + (0 - b)) * (2 * (0 - a) + (0 - b)) = (2 * a + b) * (2 * a + b) := by grind
  have hs := sq5 _ (2 * a + b) b (Nat.le_refl _)
  have e5 : 5 * b * b = 5 * (b * b) := by grind
  unfold sg
  rw [e1, e2, e5]
  generalize hp : (2 * a + b) * (2 * a + b) = x at *
  generalize b * b = y at *
  repeat' split
  all_goals omega
theorem sg_P {z : Z} : sg z.1 z.2 = 1 ↔ P z := by
  constructor
  · intro h
    rcases tri' z with e | e | e
    · rw [e] at h; exact absurd h (by decide)
    · exact e
    · obtain ⟨n, e⟩ := e
      have q := sg_upn n _ (sg_nn e)
      have q' : sg (0 - z.1) (0 - z.2) = 1 := q
      rw [sg_neg, h] at q'
      omega
  · intro ⟨n, h⟩
    exact sg_upn n z (sg_nn h)
theorem sg_M {z : Z} : sg z.1 z.2 = -1 ↔ P (neg z) := by
  rw [← sg_P]
  show _ ↔ sg (0 - z.1) (0 - z.2) = 1
  rw [sg_neg]
  omega
theorem sg_Z {z : Z} : sg z.1 z.2 = 0 ↔ z = (0, 0) := by
  constructor
  · intro h
    rcases tri' z with e | e | e
    · exact e
    · rw [sg_P.mpr e] at h; omega
    · rw [sg_M.mpr e] at h; omega
  · intro h; rw [h]; decide
theorem sg_tri (a b : Int) : sg a b = 1 ∨ sg a b = 0 ∨ sg a b = -1 := by
  rcases tri' (a, b) with e | e | e
  · exact .inr (.inl (sg_Z.mpr e))
  · exact .inl (sg_P.mpr e)
  · exact .inr (.inr (sg_M.mpr e))
theorem neg_neg (z : Z) : neg (neg z) = z := by
  obtain ⟨a, b⟩ := z
  simp only [neg]
  exact Prod.ext (by show 0 - (0 - a) = a; omega) (by show 0 - (0 - b) = b; omega)
theorem neg_mul (z w : Z) : mul (neg z) w = neg (mul z w) := by
  simp only [mul, neg]
  exact Prod.ext (by show (0 - z.1) * w.1 + (0 - z.2) * w.2 = 0 - (z.1 * w.1 + z.2 * w.2); grind) (by show (0 - z.1) * w.2 + (0 - z.2) * w.1 + (0 - z.2) * w.2 = 0 - (z.1 * w.2 + z.2 * w.1 + z.2 * w.2); grind)
theorem mul_zero (z : Z) : mul z (0, 0) = (0, 0) := by
  simp only [mul]
  exact Prod.ext (by show z.1 * 0 + z.2 * 0 = 0; omega) (by show z.1 * 0 + z.2 * 0 + z.2 * 0 = 0; omega)
theorem sg_mul (z w : Z) : sg (mul z w).1 (mul z w).2 = sg z.1 z.2 * sg w.1 w.2 := by
  rcases tri' z with e | e | e
  · rw [e, mul_comm, mul_zero]
    show (0 : Int) = 0 * _
    omega
  · rcases tri' w with k | k | k
    · rw [k, mul_zero]
      show (0 : Int) = _ * 0
      omega
    · rw [sg_P.mpr e, sg_P.mpr k, sg_P.mpr (e.mul k)]; rfl
    · have q : P (neg (mul z w)) := by rw [mul_comm, ← neg_mul, mul_comm]; exact e.mul k
      rw [sg_P.mpr e, sg_M.mpr k, sg_M.mpr q]; rfl
  · rcases tri' w with k | k | k
    · rw [k, mul_zero]
      show (0 : Int) = _ * 0
      omega
    · have q : P (neg (mul z w)) := by rw [← neg_mul]; exact e.mul k
      rw [sg_M.mpr e, sg_P.mpr k, sg_M.mpr q]; rfl
    · have q : P (mul z w) := by
        have q := e.mul k
        rw [neg_mul, mul_comm, neg_mul, neg_neg, mul_comm] at q
        exact q
      rw [sg_M.mpr e, sg_M.mpr k, sg_P.mpr q]; rfl
theorem neg_add (z w : Z) : neg (add z w) = add (neg z) (neg w) := by
  simp only [add, neg]
  exact Prod.ext (by show 0 - (z.1 + w.1) = 0 - z.1 + (0 - w.1); omega) (by show 0 - (z.2 + w.2) = 0 - z.2 + (0 - w.2); omega)
theorem sg_add {z w : Z} (h : sg z.1 z.2 = sg w.1 w.2) : sg (add z w).1 (add z w).2 = sg z.1 z.2 := by
  rcases tri' z with e | e | e
  · have k : w = (0, 0) := sg_Z.mp (by rw [← h]; exact sg_Z.mpr e)
    rw [e, k]; rfl
  · have k : P w := sg_P.mp (by rw [← h]; exact sg_P.mpr e)
    rw [sg_P.mpr e, sg_P.mpr (e.add k)]
  · have k : P (neg w) := sg_M.mp (by rw [← h]; exact sg_M.mpr e)
    rw [sg_M.mpr e, sg_M.mpr (by rw [neg_add]; exact e.add k)]
/-- the sign by squares -/
def sq (a b : Int) : Int := (2 * a + b) * (if 2 * a + b < 0 then -(2 * a + b) else 2 * a + b) + 5 * b * (if b < 0 then -b else b)
theorem sg_sq (a b : Int) : sg a b = (if 0 < sq a b then 1 else 0) - (if sq a b < 0 then 1 else 0) := by
  have hs := sq5 _ (2 * a + b) b (Nat.le_refl _)
  have e5 : 5 * b * b = 5 * (b * b) := by grind
  have e6 : 5 * b * -b = -(5 * (b * b)) := by grind
  have e7 : (2 * a + b) * -(2 * a + b) = -((2 * a + b) * (2 * a + b)) := by grind
  have pp : 0 ≤ (2 * a + b) * (2 * a + b) := sqnn _
  have bb : 0 ≤ b * b := sqnn _
  have z1 : (2 * a + b) * (2 * a + b) = 0 → 2 * a + b = 0 := fun h => by rcases Int.mul_eq_zero.mp h with z | z <;> exact z
  have z2 : b * b = 0 → b = 0 := fun h => by rcases Int.mul_eq_zero.mp h with z | z <;> exact z
  have y1 : 2 * a + b = 0 → (2 * a + b) * (2 * a + b) = 0 := fun h => by rw [h]; rfl
  have y2 : b = 0 → b * b = 0 := fun h => by rw [h]; rfl
  unfold sg sq
  by_cases c1 : 2 * a + b < 0
  · by_cases c2 : b < 0
    · rw [if_pos c1, if_pos c2, e6, e7, e5]
      generalize (2 * a + b) * (2 * a + b) = x at *
      generalize b * b = y at *
      repeat' split
      all_goals omega
    · rw [if_pos c1, if_neg c2, e7, e5]
      generalize (2 * a + b) * (2 * a + b) = x at *
      generalize b * b = y at *
      repeat' split
      all_goals omega
  · by_cases c2 : b < 0
    · rw [if_neg c1, if_pos c2, e6, e5]
      generalize (2 * a + b) * (2 * a + b) = x at *
      generalize b * b = y at *
      repeat' split
      all_goals omega
    · rw [if_neg c1, if_neg c2, e5]
      generalize (2 * a + b) * (2 * a + b) = x at *
      generalize b * b = y at *
      repeat' split
      all_goals omega
end GM

/-! ### powers of G -/
namespace GM
def pwN : Nat → Z
  | 0 => (1, 0)
  | n + 1 => up (pwN n)
def pwD : Nat → Z
  | 0 => (1, 0)
  | n + 1 => dn (pwD n)
/-- G to the power k -/
def pw (k : Int) : Z := if 0 < k then pwN k.toNat else pwD (-k).toNat
def pwI (k : Int) (i : Nat) : Z := if 0 < k then pwN i else pwD i
theorem pwI_end (k : Int) : pwI k (if k < 0 then -k else k).toNat = pw k := by
  unfold pwI pw
  by_cases h : 0 < k
  · rw [if_pos h, if_pos h, if_neg (by omega)]
  · rw [if_neg h, if_neg h]
    by_cases h1 : k < 0
    · rw [if_pos h1]
    · have : k = 0 := by omega
      subst this; rfl
theorem pw_nat (n : Nat) : pw (n : Int) = pwN n := by
  unfold pw
  by_cases h : 0 < (n : Int)
  · rw [if_pos h]; rfl
  · have : n = 0 := by omega
    subst this; rfl
theorem pw_neg (n : Nat) : pw (-(n : Int)) = pwD n := by
  unfold pw
  rw [if_neg (by omega)]
  congr 1; omega
theorem pw_succ (k : Int) : pw (k + 1) = up (pw k) := by
  by_cases h : 0 ≤ k
  · obtain ⟨n, rfl⟩ : ∃ n : Nat, k = n := ⟨k.toNat, by omega⟩
    rw [show (n : Int) + 1 = ((n + 1 : Nat) : Int) by omega, pw_nat, pw_nat]; rfl
  · obtain ⟨n, rfl⟩ : ∃ n : Nat, k = -((n + 1 : Nat) : Int) := ⟨(-k - 1).toNat, by omega⟩
    rw [show -((n + 1 : Nat) : Int) + 1 = -(n : Int) by omega, pw_neg, pw_neg]
    show pwD n = up (dn (pwD n))
    rw [up_dn]
theorem pw_pred (k : Int) : pw (k - 1) = dn (pw k) := by
  have e := pw_succ (k - 1)
  rw [show k - 1 + 1 = k by omega] at e
  rw [e, dn_up]
theorem pw0 : pw 0 = (1, 0) := rfl
theorem P_pw (k : Int) : P (pw k) := by
  by_cases h : 0 ≤ k
  · obtain ⟨n, rfl⟩ : ∃ n : Nat, k = n := ⟨k.toNat, by omega⟩
    rw [pw_nat]
    induction n with
    | zero => exact .of (by unfold Nn; decide)
    | succ n ih => exact (ih (by omega)).up
  · obtain ⟨n, rfl⟩ : ∃ n : Nat, k = -(n : Int) := ⟨(-k).toNat, by omega⟩
    rw [pw_neg]
    clear h
    induction n with
    | zero => exact .of (by unfold Nn; decide)
    | succ n ih => exact ih.dn
theorem dn_mul (z w : Z) : dn (mul z w) = mul (dn z) w := by
  have e := up_mul (dn z) w
  rw [up_dn] at e
  rw [← e, dn_up]
theorem one_mul (z : Z) : mul (1, 0) z = z := by
  simp only [mul]
  exact Prod.ext (by show 1 * z.1 + 0 * z.2 = z.1; omega) (by show 1 * z.2 + 0 * z.1 + 0 * z.2 = z.2; omega)
theorem pw_add (i j : Int) : mul (pw i) (pw j) = pw (i + j) := by
  by_cases h : 0 ≤ i
  · obtain ⟨n, rfl⟩ : ∃ n : Nat, i = n := ⟨i.toNat, by omega⟩
    clear h
    induction n with
    | zero => rw [show ((0 : Nat) : Int) + j = j by omega]; exact one_mul _
    | succ n ih => rw [show ((n + 1 : Nat) : Int) = (n : Int) + 1 by omega, pw_succ, ← up_mul, ih, ← pw_succ]; congr 1; omega
  · obtain ⟨n, rfl⟩ : ∃ n : Nat, i = -(n : Int) := ⟨(-i).toNat, by omega⟩
    clear h
    induction n with
    | zero => rw [show -((0 : Nat) : Int) + j = j by omega]; exact one_mul _
    | succ n ih => rw [show -((n + 1 : Nat) : Int) = -(n : Int) - 1 by omega, pw_pred, ← dn_mul, ih, ← pw_pred]; congr 1; omega
/-- each one is the sum of the two ahead of it -/
theorem pw_sum (k : Int) : pw k = add (pw (k - 1)) (pw (k - 2)) := by
  have e1 : pw k = up (pw (k - 1)) := by rw [← pw_succ]; congr 1; omega
  have e2 : pw (k - 2) = dn (pw (k - 1)) := by rw [← pw_pred]; congr 1; omega
  rw [e1, e2]
  simp only [up, add, dn]
  exact Prod.ext (by show (pw (k - 1)).2 = (pw (k - 1)).1 + ((pw (k - 1)).2 - (pw (k - 1)).1); omega) (by show (pw (k - 1)).1 + (pw (k - 1)).2 = (pw (k - 1)).2 + (pw (k - 1)).1; omega)
theorem pw_more (k : Int) : P (sub (pw k) (pw (k - 1))) := by
  have e : sub (pw k) (pw (k - 1)) = pw (k - 2) := by
    rw [pw_sum k]
    simp only [sub, add]
    exact Prod.ext (by show (pw (k - 1)).1 + (pw (k - 2)).1 - (pw (k - 1)).1 = (pw (k - 2)).1; omega) (by show (pw (k - 1)).2 + (pw (k - 2)).2 - (pw (k - 1)).2 = (pw (k - 2)).2; omega)
  rw [e]
  exact P_pw _
/-- sizes -/
theorem pwN_size : ∀ n : Nat, (pwN n).1.natAbs < 2 ^ (n + 1) ∧ (pwN n).2.natAbs < 2 ^ (n + 1)
  | 0 => by decide
  | n + 1 => by
    have q := pwN_size n
    have e : 2 ^ (n + 1 + 1) = 2 * 2 ^ (n + 1) := by rw [Nat.pow_succ]; omega
    rw [e]
    show (pwN n).2.natAbs < _ ∧ ((pwN n).1 + (pwN n).2).natAbs < _
    omega
theorem pwD_size : ∀ n : Nat, (pwD n).1.natAbs < 2 ^ (n + 1) ∧ (pwD n).2.natAbs < 2 ^ (n + 1)
  | 0 => by decide
  | n + 1 => by
    have q := pwD_size n
    have e : 2 ^ (n + 1 + 1) = 2 * 2 ^ (n + 1) := by rw [Nat.pow_succ]; omega
    rw [e]
    show ((pwD n).2 - (pwD n).1).natAbs < _ ∧ (pwD n).1.natAbs < _
    omega
theorem pwI_size (k : Int) (n : Nat) : (pwI k n).1.natAbs < 2 ^ (n + 1) ∧ (pwI k n).2.natAbs < 2 ^ (n + 1) := by
  unfold pwI
  split
  · exact pwN_size n
  · exact pwD_size n
theorem pw_size {k : Int} {n : Nat} (h : k.natAbs < n) : (pw k).1.natAbs < 2 ^ n ∧ (pw k).2.natAbs < 2 ^ n := by
  rw [← pwI_end]
  have q := pwI_size k (if k < 0 then -k else k).toNat
  have e : (if k < 0 then -k else k).toNat + 1 ≤ n := by split <;> omega
  have e2 : 2 ^ ((if k < 0 then -k else k).toNat + 1) ≤ 2 ^ n := Nat.pow_le_pow_right (by decide) e
  omega
end GM

/-! ### lists of places, their sums -/
namespace GM
def sumP : List Int → Z
  | [] => (0, 0)
  | k :: r => add (pw k) (sumP r)
theorem add_zero (z : Z) : add z (0, 0) = z := by
  simp only [add]
  exact Prod.ext (by show z.1 + 0 = z.1; omega) (by show z.2 + 0 = z.2; omega)
theorem zero_add (z : Z) : add (0, 0) z = z := by
  simp only [add]
  exact Prod.ext (by show 0 + z.1 = z.1; omega) (by show 0 + z.2 = z.2; omega)
theorem add_assoc (x y z : Z) : add (add x y) z = add x (add y z) := by
  simp only [add]
  exact Prod.ext (by show x.1 + y.1 + z.1 = x.1 + (y.1 + z.1); omega) (by show x.2 + y.2 + z.2 = x.2 + (y.2 + z.2); omega)
theorem add_comm (x y : Z) : add x y = add y x := by
  simp only [add]
  exact Prod.ext (by show x.1 + y.1 = y.1 + x.1; omega) (by show x.2 + y.2 = y.2 + x.2; omega)
theorem sumP_app : ∀ xs ys : List Int, sumP (xs ++ ys) = add (sumP xs) (sumP ys)
  | [], ys => (zero_add _).symm
  | k :: r, ys => by
    show add (pw k) (sumP (r ++ ys)) = add (add (pw k) (sumP r)) (sumP ys)
    rw [sumP_app r ys, add_assoc]
theorem sumP_rev : ∀ xs : List Int, sumP xs.reverse = sumP xs
  | [] => rfl
  | k :: r => by
    rw [List.reverse_cons, sumP_app, sumP_rev r]
    show add (sumP r) (add (pw k) (0, 0)) = add (pw k) (sumP r)
    rw [add_zero, add_comm]
theorem sumP_take {xs : List Int} {i : Nat} {k : Int} (h : xs[i]? = some k) : sumP (xs.take (i + 1)) = add (sumP (xs.take i)) (pw k) := by
  rw [List.take_add_one, h, sumP_app]
  show add _ (add (pw k) (0, 0)) = _
  rw [add_zero]
theorem sumP_size {n m : Nat} : ∀ xs : List Int, (∀ k ∈ xs, k.natAbs < n) → xs.length ≤ m → (sumP xs).1.natAbs < 2 ^ (n + m) ∧ (sumP xs).2.natAbs < 2 ^ (n + m) := by
  have main : ∀ xs : List Int, (∀ k ∈ xs, k.natAbs < n) → (sumP xs).1.natAbs < 2 ^ (n + xs.length) ∧ (sumP xs).2.natAbs < 2 ^ (n + xs.length) := by
    intro xs
    induction xs with
    | nil => intro _; exact ⟨Nat.pow_pos (by decide), Nat.pow_pos (by decide)⟩
    | cons k r ih =>
      intro h
      have q := ih (fun j hj => h j (List.mem_cons_of_mem _ hj))
      have p := pw_size (h k List.mem_cons_self)
      have e : 2 ^ (n + (k :: r).length) = 2 * 2 ^ (n + r.length) := by
        rw [List.length_cons, show n + (r.length + 1) = (n + r.length) + 1 by omega, Nat.pow_succ]; omega
      have e2 : 2 ^ n ≤ 2 ^ (n + r.length) := Nat.pow_le_pow_right (by decide) (by omega)
      rw [e]
      show ((pw k).1 + (sumP r).1).natAbs < _ ∧ ((pw k).2 + (sumP r).2).natAbs < _
      omega
  intro xs h hm
  have q := main xs h
  have e2 : 2 ^ (n + xs.length) ≤ 2 ^ (n + m) := Nat.pow_le_pow_right (by decide) (by omega)
  omega
/-- each less by two or more than the one ahead -/
def gap : List Int → Bool
  | x :: y :: r => decide (y + 2 ≤ x) && gap (y :: r)
  | _ => true
/-- a row: the loop's own words -/
def rowAt (xs : List Int) (k : Nat) : Bool :=
  !(decide (80 < xs.getD k 0) || decide (xs.getD k 0 < -80) || (decide (0 < k) && decide (xs.getD (k - 1) 0 - xs.getD k 0 < 2)))
def isRow (xs : List Int) : Bool := (List.range xs.length).all (rowAt xs)
theorem isRow_iff {xs : List Int} : isRow xs = true ↔ ∀ k, k < xs.length → rowAt xs k = true := by
  unfold isRow
  rw [List.all_eq_true]
  exact ⟨fun h k hk => h k (List.mem_range.mpr hk), fun h k hk => h k (List.mem_range.mp hk)⟩
theorem gap_iff : ∀ {xs : List Int}, gap xs = true ↔ ∀ k, k + 1 < xs.length → 2 ≤ xs.getD k 0 - xs.getD (k + 1) 0
  | [] => ⟨fun _ k hk => by simp at hk, fun _ => rfl⟩
  | [_] => ⟨fun _ k hk => by simp at hk, fun _ => rfl⟩
  | x :: y :: r => by
    show (decide (y + 2 ≤ x) && gap (y :: r)) = true ↔ _
    rw [Bool.and_eq_true, decide_eq_true_eq, gap_iff]
    constructor
    · intro ⟨h1, h2⟩ k hk
      match k with
      | 0 => show 2 ≤ x - y; omega
      | k + 1 => exact h2 k (by simp at hk ⊢; omega)
    · intro h
      refine ⟨?_, fun k hk => h (k + 1) (by simp at hk ⊢; omega)⟩
      have : 2 ≤ x - y := h 0 (by simp)
      omega
theorem rowAt_iff {xs : List Int} {k : Nat} : rowAt xs k = true ↔ xs.getD k 0 ≤ 80 ∧ -80 ≤ xs.getD k 0 ∧ (0 < k → 2 ≤ xs.getD (k - 1) 0 - xs.getD k 0) := by
  unfold rowAt
  simp only [Bool.not_eq_true', Bool.or_eq_false_iff, Bool.and_eq_false_iff, decide_eq_false_iff_not]
  omega
theorem isRow_gap {xs : List Int} : isRow xs = true ↔ gap xs = true ∧ ∀ k ∈ xs, -80 ≤ k ∧ k ≤ 80 := by
  rw [isRow_iff, gap_iff]
  have D : ∀ k, k < xs.length → xs.getD k 0 ∈ xs := fun k hk => by
    rw [List.getD_eq_getElem?_getD, List.getElem?_eq_getElem hk]; exact List.getElem_mem hk
  constructor
  · intro h
    refine ⟨fun k hk => ?_, fun v hv => ?_⟩
    · exact (rowAt_iff.mp (h (k + 1) hk)).2.2 (by omega)
    · obtain ⟨k, hk, rfl⟩ := List.getElem_of_mem hv
      have q := rowAt_iff.mp (h k hk)
      have e : xs.getD k 0 = xs[k] := by rw [List.getD_eq_getElem?_getD, List.getElem?_eq_getElem hk]; rfl
      rw [e] at q
      omega
  · intro ⟨h1, h2⟩ k hk
    have q := h2 _ (D k hk)
    refine rowAt_iff.mpr ⟨q.2, q.1, fun h0 => ?_⟩
    match k, h0 with
    | k + 1, _ => exact h1 k hk
end GM

/-! ### the order of rows, the greedy row -/
namespace GM
/-- z is less than w -/
def lt (z w : Z) : Prop := P (sub w z)
def le (z w : Z) : Prop := ¬ P (sub z w)
theorem sub_add_cancel (x y : Z) : add (sub x y) y = x := by
  obtain ⟨a, b⟩ := x; obtain ⟨c, d⟩ := y
  simp only [add, sub]
  exact Prod.ext (by show a - c + c = a; omega) (by show b - d + d = b; omega)
theorem neg_sub (x y : Z) : neg (sub x y) = sub y x := by
  simp only [neg, sub]
  exact Prod.ext (by show 0 - (x.1 - y.1) = y.1 - x.1; omega) (by show 0 - (x.2 - y.2) = y.2 - x.2; omega)
theorem sub_self (x : Z) : sub x x = (0, 0) := by
  simp only [sub]
  exact Prod.ext (by show x.1 - x.1 = 0; omega) (by show x.2 - x.2 = 0; omega)
theorem sub_eq0 {x y : Z} (h : sub x y = (0, 0)) : x = y := by
  have h1 : x.1 - y.1 = 0 := congrArg Prod.fst h
  have h2 : x.2 - y.2 = 0 := congrArg Prod.snd h
  exact Prod.ext (by omega) (by omega)
theorem lt_irrefl (x : Z) : ¬ lt x x := by unfold lt; rw [sub_self]; exact not_P0
theorem lt_trans {x y z : Z} (h : lt x y) (k : lt y z) : lt x z := by
  unfold lt at *
  have q := h.add k
  have e : add (sub y x) (sub z y) = sub z x := by
    simp only [add, sub]
    exact Prod.ext (by show y.1 - x.1 + (z.1 - y.1) = z.1 - x.1; omega) (by show y.2 - x.2 + (z.2 - y.2) = z.2 - x.2; omega)
  rw [e] at q; exact q
theorem lt_asymm {x y : Z} (h : lt x y) : ¬ lt y x := fun k => lt_irrefl x (lt_trans h k)
theorem lt_tri (x y : Z) : x = y ∨ lt x y ∨ lt y x := by
  rcases tri' (sub x y) with e | e | e
  · exact .inl (sub_eq0 e)
  · exact .inr (.inr e)
  · rw [neg_sub] at e; exact .inr (.inl e)
theorem not_lt {x y : Z} : ¬ lt x y ↔ x = y ∨ lt y x := by
  constructor
  · intro h
    rcases lt_tri x y with e | e | e
    · exact .inl e
    · exact absurd e h
    · exact .inr e
  · rintro (rfl | h)
    · exact lt_irrefl _
    · exact lt_asymm h
theorem lt_add {x y z w : Z} (h : lt x y) (k : lt z w) : lt (add x z) (add y w) := by
  unfold lt at *
  have q := h.add k
  have e : add (sub y x) (sub w z) = sub (add y w) (add x z) := by
    simp only [add, sub]
    exact Prod.ext (by show y.1 - x.1 + (w.1 - z.1) = y.1 + w.1 - (x.1 + z.1); omega) (by show y.2 - x.2 + (w.2 - z.2) = y.2 + w.2 - (x.2 + z.2); omega)
  rw [e] at q; exact q
theorem lt_addl {x y : Z} (z : Z) (h : lt x y) : lt (add z x) (add z y) := by
  unfold lt at *
  have e : sub (add z y) (add z x) = sub y x := by
    simp only [add, sub]
    exact Prod.ext (by show z.1 + y.1 - (z.1 + x.1) = y.1 - x.1; omega) (by show z.2 + y.2 - (z.2 + x.2) = y.2 - x.2; omega)
  rw [e]; exact h
theorem pw_lt_succ (k : Int) : lt (pw k) (pw (k + 1)) := by
  have h := pw_more (k + 1)
  rw [show k + 1 - 1 = k by omega] at h
  exact h
theorem pw_lt {i j : Int} (h : i < j) : lt (pw i) (pw j) := by
  obtain ⟨n, rfl⟩ : ∃ n : Nat, j = i + 1 + n := ⟨(j - i - 1).toNat, by omega⟩
  clear h
  induction n with
  | zero => rw [show i + 1 + ((0 : Nat) : Int) = i + 1 by omega]; exact pw_lt_succ i
  | succ n ih => exact lt_trans ih (by rw [show i + 1 + ((n + 1 : Nat) : Int) = (i + 1 + n) + 1 by omega]; exact pw_lt_succ _)
theorem zero_lt {z : Z} : lt (0, 0) z ↔ P z := by
  unfold lt
  have e : sub z (0, 0) = z := by simp only [sub]; exact Prod.ext (by show z.1 - 0 = z.1; omega) (by show z.2 - 0 = z.2; omega)
  rw [e]
/-- a row's sum is less than the power above its greatest place -/
theorem sum_lt : ∀ (r : List Int) (k : Int), gap (k :: r) = true → lt (sumP (k :: r)) (pw (k + 1))
  | [], k, _ => by
    show lt (add (pw k) (0, 0)) _
    rw [add_zero]; exact pw_lt_succ k
  | j :: r, k, g => by
    have g' : (decide (j + 2 ≤ k) && gap (j :: r)) = true := g
    rw [Bool.and_eq_true, decide_eq_true_eq] at g'
    have ih := sum_lt r j g'.2
    show lt (add (pw k) (sumP (j :: r))) _
    have e : pw (k + 1) = add (pw k) (pw (k - 1)) := by
      have q := pw_sum (k + 1)
      rw [show k + 1 - 1 = k by omega, show k + 1 - 2 = k - 1 by omega] at q
      exact q
    rw [e]
    refine lt_addl _ ?_
    by_cases c : j + 1 = k - 1
    · rw [← c]; exact ih
    · exact lt_trans ih (pw_lt (by omega))
theorem sum_nn : ∀ (r : List Int), sumP r = (0, 0) ∨ P (sumP r)
  | [] => .inl rfl
  | k :: r => .inr (by
    show P (add (pw k) (sumP r))
    rcases sum_nn r with e | e
    · rw [e, add_zero]; exact P_pw k
    · exact (P_pw k).add e)
theorem sum_pos (k : Int) (r : List Int) : P (sumP (k :: r)) := by
  show P (add (pw k) (sumP r))
  rcases sum_nn r with e | e
  · rw [e, add_zero]; exact P_pw k
  · exact (P_pw k).add e
theorem gap_tail {k : Int} {r : List Int} (g : gap (k :: r) = true) : gap r = true := by
  cases r with
  | nil => rfl
  | cons j r =>
    have g' : (decide (j + 2 ≤ k) && gap (j :: r)) = true := g
    rw [Bool.and_eq_true] at g'
    exact g'.2
/-- the program's order of lists is that of their sums -/
def lexLt : List Int → List Int → Bool
  | [], [] => false
  | [], _ :: _ => true
  | _ :: _, [] => false
  | x :: xs, y :: ys => if x = y then lexLt xs ys else decide (x < y)
theorem lex_lt : ∀ xs ys : List Int, gap xs = true → gap ys = true → lexLt xs ys = true → lt (sumP xs) (sumP ys)
  | [], [], _, _, h => by cases h
  | [], y :: ys, _, _, _ => zero_lt.mpr (sum_pos y ys)
  | _ :: _, [], _, _, h => by cases h
  | x :: xs, y :: ys, gx, gy, h => by
    have h' : (if x = y then lexLt xs ys else decide (x < y)) = true := h
    by_cases c : x = y
    · rw [if_pos c] at h'
      subst c
      exact lt_addl _ (lex_lt xs ys (gap_tail gx) (gap_tail gy) h')
    · rw [if_neg c, decide_eq_true_eq] at h'
      have a := sum_lt xs x gx
      -- the power above x is at most y's
      have b : pw (x + 1) = pw y ∨ lt (pw (x + 1)) (pw y) := by
        by_cases d : x + 1 = y
        · rw [d]; exact .inl rfl
        · exact .inr (pw_lt (by omega))
      have e : pw y = sumP (y :: ys) ∨ lt (pw y) (sumP (y :: ys)) := by
        rcases sum_nn ys with z | z
        · left; show _ = add (pw y) (sumP ys); rw [z, add_zero]
        · right
          have q := lt_addl (pw y) (zero_lt.mpr z)
          rw [add_zero] at q; exact q
      rcases b with b | b
      · rw [b] at a
        rcases e with e | e
        · rw [← e]; exact a
        · exact lt_trans a e
      · have a2 := lt_trans a b
        rcases e with e | e
        · rw [← e]; exact a2
        · exact lt_trans a2 e
theorem lex_tri : ∀ xs ys : List Int, xs = ys ∨ lexLt xs ys = true ∨ lexLt ys xs = true
  | [], [] => .inl rfl
  | [], _ :: _ => .inr (.inl rfl)
  | _ :: _, [] => .inr (.inr rfl)
  | x :: xs, y :: ys => by
    by_cases c : x = y
    · subst c
      rcases lex_tri xs ys with h | h | h
      · left; rw [h]
      · right; left; show (if x = x then lexLt xs ys else _) = true; rw [if_pos rfl]; exact h
      · right; right; show (if x = x then lexLt ys xs else _) = true; rw [if_pos rfl]; exact h
    · right
      by_cases d : x < y
      · left; show (if x = y then lexLt xs ys else decide (x < y)) = true; rw [if_neg c, decide_eq_true d]
      · right; show (if y = x then lexLt ys xs else decide (y < x)) = true; rw [if_neg (fun z => c z.symm), decide_eq_true (by omega)]
/-- just one row each -/
theorem row_one {xs ys : List Int} (gx : gap xs = true) (gy : gap ys = true) (h : sumP xs = sumP ys) : xs = ys := by
  rcases lex_tri xs ys with e | e | e
  · exact e
  · have q := lex_lt xs ys gx gy e
    rw [h] at q; exact absurd q (lt_irrefl _)
  · have q := lex_lt ys xs gy gx e
    rw [h] at q; exact absurd q (lt_irrefl _)
end GM

/-! ### rows as texts -/
namespace GM
def fig (r : List Int) (p : Int) : Nat := if p ∈ r then 49 else 48
/-- the figures of n places from c down -/
def figs (r : List Int) : Int → Nat → List Nat
  | _, 0 => []
  | c, n + 1 => fig r c :: figs r (c - 1) n
theorem figs_len (r : List Int) : ∀ (n : Nat) (c : Int), (figs r c n).length = n
  | 0, _ => rfl
  | n + 1, c => by
    show (figs r (c - 1) n).length + 1 = n + 1
    rw [figs_len r n]
theorem figs_add (r : List Int) (m : Nat) : ∀ (n : Nat) (c : Int), figs r c (n + m) = figs r c n ++ figs r (c - n) m
  | 0, c => by
    rw [Nat.zero_add, show c - ((0 : Nat) : Int) = c by omega]; rfl
  | n + 1, c => by
    have e : n + 1 + m = (n + m) + 1 := by omega
    rw [e]
    show fig r c :: figs r (c - 1) (n + m) = fig r c :: (figs r (c - 1) n ++ figs r (c - ((n + 1 : Nat) : Int)) m)
    rw [figs_add r m n (c - 1), show c - 1 - (n : Int) = c - ((n + 1 : Nat) : Int) by omega]
theorem figs_snoc (r : List Int) (n : Nat) (c : Int) : figs r c (n + 1) = figs r c n ++ [fig r (c - n)] := figs_add r 1 n c
/-- the places of the ones, the first one's place being c -/
def ones : Int → List Nat → List Int
  | _, [] => []
  | c, x :: l => if x = 49 then c :: ones (c - 1) l else ones (c - 1) l
theorem ones_app : ∀ (a b : List Nat) (c : Int), ones c (a ++ b) = ones c a ++ ones (c - a.length) b
  | [], b, c => by
    show ones c b = ones (c - ((0 : Nat) : Int)) b
    rw [show c - ((0 : Nat) : Int) = c by omega]
  | x :: a, b, c => by
    have ih := ones_app a b (c - 1)
    rw [show c - 1 - (a.length : Int) = c - ((x :: a).length : Nat) by rw [List.length_cons]; omega] at ih
    show (if x = 49 then c :: ones (c - 1) (a ++ b) else ones (c - 1) (a ++ b)) = (if x = 49 then c :: ones (c - 1) a else ones (c - 1) a) ++ _
    rw [ih]
    split <;> rfl
theorem ones_take {l : List Nat} {i x : Nat} (c : Int) (h : l[i]? = some x) : ones c (l.take (i + 1)) = ones c (l.take i) ++ (if x = 49 then [c - i] else []) := by
  have hl : i < l.length := by
    by_cases d : i < l.length
    · exact d
    · rw [List.getElem?_eq_none (by omega)] at h; cases h
  rw [List.take_add_one, h, ones_app, List.length_take, show min i l.length = i by omega]
  rfl
theorem ones_len : ∀ (l : List Nat) (c : Int), (ones c l).length ≤ l.length
  | [], _ => Nat.le_refl 0
  | x :: l, c => by
    have ih := ones_len l (c - 1)
    show (if x = 49 then c :: ones (c - 1) l else ones (c - 1) l).length ≤ l.length + 1
    split
    · rw [List.length_cons]; omega
    · omega
theorem gap_le : ∀ {r : List Int} {c : Int}, gap (c :: r) = true → ∀ k ∈ r, k + 2 ≤ c
  | [], _, _, _, hk => nomatch hk
  | x :: r, c, g, k, hk => by
    have g' : (decide (x + 2 ≤ c) && gap (x :: r)) = true := g
    rw [Bool.and_eq_true, decide_eq_true_eq] at g'
    rcases List.mem_cons.mp hk with rfl | hk
    · exact g'.1
    · have := gap_le g'.2 k hk
      omega
theorem figs_cons {r : List Int} {d : Int} : ∀ (n : Nat) (c : Int), c < d → figs (d :: r) c n = figs r c n
  | 0, _, _ => rfl
  | n + 1, c, h => by
    show fig (d :: r) c :: figs (d :: r) (c - 1) n = fig r c :: figs r (c - 1) n
    rw [figs_cons n (c - 1) (by omega)]
    congr 1
    unfold fig
    have e : c ∈ d :: r ↔ c ∈ r := ⟨fun h' => (List.mem_cons.mp h').elim (fun e => by omega) id, List.mem_cons_of_mem _⟩
    simp only [e]
theorem ones_figs : ∀ (n : Nat) (c : Int) (r : List Int), gap r = true → (∀ k ∈ r, c - n < k ∧ k ≤ c) → ones c (figs r c n) = r
  | 0, c, [], _, _ => rfl
  | 0, c, k :: r, _, h => by have := h k List.mem_cons_self; omega
  | n + 1, c, [], g, h => by
    show (if fig [] c = 49 then c :: ones (c - 1) (figs [] (c - 1) n) else ones (c - 1) (figs [] (c - 1) n)) = []
    rw [ones_figs n (c - 1) [] rfl (fun _ hk => nomatch hk), if_neg (by unfold fig; rw [if_neg (fun hk => nomatch hk)]; decide)]
  | n + 1, c, d :: r, g, h => by
    have hd := h d List.mem_cons_self
    have hr := gap_le g
    by_cases e : c = d
    · subst e
      show (if fig (c :: r) c = 49 then c :: ones (c - 1) (figs (c :: r) (c - 1) n) else ones (c - 1) (figs (c :: r) (c - 1) n)) = c :: r
      rw [figs_cons n (c - 1) (by omega), ones_figs n (c - 1) r (gap_tail g) (fun k hk => by have := hr k hk; have := h k (List.mem_cons_of_mem _ hk); omega), if_pos (by unfold fig; rw [if_pos List.mem_cons_self])]
    · have nm : c ∉ d :: r := fun hc => by
        rcases List.mem_cons.mp hc with z | z
        · exact e z
        · have := hr c z; omega
      show (if fig (d :: r) c = 49 then c :: ones (c - 1) (figs (d :: r) (c - 1) n) else ones (c - 1) (figs (d :: r) (c - 1) n)) = d :: r
      rw [if_neg (by unfold fig; rw [if_neg nm]; decide)]
      refine ones_figs n (c - 1) (d :: r) g (fun k hk => ?_)
      have := h k hk
      rcases List.mem_cons.mp hk with rfl | hk
      · omega
      · have := hr k hk; omega
/-- only figures -/
def all01 (l : List Nat) : Prop := ∀ x ∈ l, x = 48 ∨ x = 49
instance (l : List Nat) : Decidable (all01 l) := inferInstanceAs (Decidable (∀ x ∈ l, x = 48 ∨ x = 49))
theorem figs_01 (r : List Int) : ∀ (n : Nat) (c : Int), all01 (figs r c n)
  | 0, _ => fun _ h => nomatch h
  | n + 1, c => fun x h => by
    rcases List.mem_cons.mp h with rfl | h
    · unfold fig; split
      · exact .inr rfl
      · exact .inl rfl
    · exact figs_01 r n (c - 1) x h
def top (r : List Int) : Int := max 0 (r.headD 0)
def least (r : List Int) : Int := min 0 (r.getLastD 0)
def note (r : List Int) : List Nat := figs r (top r) (top r + 1).toNat ++ (if least r < 0 then 46 :: figs r (-1) (-least r).toNat else [])
theorem top_ge {r : List Int} (g : gap r = true) : ∀ k ∈ r, k ≤ top r := by
  intro k hk
  match r, g, hk with
  | d :: r, g, hk =>
    have e : top (d :: r) = max 0 d := rfl
    rw [e]
    rcases List.mem_cons.mp hk with rfl | hk
    · omega
    · have := gap_le g k hk; omega
theorem last_le : ∀ {r : List Int}, gap r = true → ∀ k ∈ r, ∀ d, r.getLast? = some d → d ≤ k
  | [x], _, k, hk, d, hd => by
    have e1 : x = d := Option.some.inj hd
    have e2 := List.mem_singleton.mp hk
    omega
  | x :: y :: r, g, k, hk, d, hd => by
    have hd' : (y :: r).getLast? = some d := by rw [← hd]; exact (List.getLast?_cons_cons).symm
    rcases List.mem_cons.mp hk with rfl | hk
    · have a := last_le (gap_tail g) y List.mem_cons_self d hd'
      have b := gap_le g y List.mem_cons_self
      omega
    · exact last_le (gap_tail g) k hk d hd'
theorem least_le {r : List Int} (g : gap r = true) : ∀ k ∈ r, least r ≤ k := by
  intro k hk
  unfold least
  rw [List.getLastD_eq_getLast?]
  cases h : r.getLast? with
  | none => rw [List.getLast?_eq_none_iff] at h; subst h; cases hk
  | some d =>
    have := last_le g k hk d h
    show min 0 d ≤ k
    omega
theorem top_mem {r : List Int} (h : 0 < top r) : top r ∈ r := by
  cases r with
  | nil => exact absurd h (by decide)
  | cons d r =>
    have e : top (d :: r) = max 0 d := rfl
    rw [e] at h ⊢
    rw [show max 0 d = d by omega]
    exact List.mem_cons_self
theorem least_mem {r : List Int} (h : least r < 0) : least r ∈ r := by
  unfold least at h ⊢
  rw [List.getLastD_eq_getLast?] at h ⊢
  cases e : r.getLast? with
  | none => rw [e] at h; exact absurd h (by decide)
  | some d =>
    rw [e] at h
    have h' : min 0 d < 0 := h
    show min 0 d ∈ r
    rw [show min 0 d = d by omega]
    exact List.mem_of_getLast? e
/-- what a text tells: the place of its point, its figures -/
def pt (l : List Nat) : Nat := (l.takeWhile (fun x => x != 46)).length
def marks (l : List Nat) : List Nat := l.take (pt l) ++ l.drop (pt l + 1)
def okT (l : List Nat) : Prop := all01 (marks l) ∧ pt l ≠ 0 ∧ pt l + 1 ≠ l.length ∧ ¬ (1 < pt l ∧ l.head? = some 48) ∧ ¬ (pt l < l.length ∧ l.getLast? = some 48) ∧ isRow (ones ((pt l : Int) - 1) (marks l)) = true
instance (l : List Nat) : Decidable (okT l) := inferInstanceAs (Decidable (_ ∧ _))
def readT (l : List Nat) : Option (List Int) := if okT l then some (ones ((pt l : Int) - 1) (marks l)) else none
theorem pt_A : ∀ {l : List Nat}, 46 ∉ l → pt l = l.length
  | [], _ => rfl
  | x :: l, h => by
    have hx : x ≠ 46 := fun e => h (by rw [e]; exact List.mem_cons_self)
    have e : pt (x :: l) = pt l + 1 := by
      unfold pt
      rw [List.takeWhile_cons_of_pos (by simp [hx]), List.length_cons]
    rw [e, pt_A (fun k => h (List.mem_cons_of_mem _ k)), List.length_cons]
theorem pt_B : ∀ {a : List Nat} (b : List Nat), 46 ∉ a → pt (a ++ 46 :: b) = a.length
  | [], b, _ => by
    show ((46 :: b).takeWhile (fun x => x != 46)).length = 0
    rw [List.takeWhile_cons_of_neg (by simp)]; rfl
  | x :: a, b, h => by
    have hx : x ≠ 46 := fun e => h (by rw [e]; exact List.mem_cons_self)
    have e : pt (x :: (a ++ 46 :: b)) = pt (a ++ 46 :: b) + 1 := by
      unfold pt
      rw [List.takeWhile_cons_of_pos (by simp [hx]), List.length_cons]
    show pt (x :: (a ++ 46 :: b)) = _
    rw [e, pt_B b (fun k => h (List.mem_cons_of_mem _ k)), List.length_cons]
theorem marks_A {l : List Nat} (h : 46 ∉ l) : marks l = l := by
  unfold marks
  rw [pt_A h, List.take_length, List.drop_eq_nil_of_le (by omega), List.append_nil]
theorem marks_B {a : List Nat} (b : List Nat) (h : 46 ∉ a) : marks (a ++ 46 :: b) = a ++ b := by
  unfold marks
  rw [pt_B b h]
  have e1 : (a ++ 46 :: b).take a.length = a := List.take_left
  have e2 : (a ++ 46 :: b).drop (a.length + 1) = b := by
    rw [← List.drop_drop, List.drop_left]; rfl
  rw [e1, e2]
theorem cut_at (l : List Nat) : 46 ∉ l ∨ ∃ a b, l = a ++ 46 :: b ∧ 46 ∉ a := by
  induction l with
  | nil => exact .inl (fun h => nomatch h)
  | cons x l ih =>
    by_cases e : x = 46
    · exact .inr ⟨[], l, by rw [e]; rfl, fun h => nomatch h⟩
    · rcases ih with h | ⟨a, b, rfl, h⟩
      · exact .inl (fun k => (List.mem_cons.mp k).elim (fun z => e z.symm) h)
      · exact .inr ⟨x :: a, b, rfl, fun k => (List.mem_cons.mp k).elim (fun z => e z.symm) h⟩
theorem all01_app {a b : List Nat} : all01 (a ++ b) ↔ all01 a ∧ all01 b :=
  ⟨fun h => ⟨fun x hx => h x (List.mem_append_left _ hx), fun x hx => h x (List.mem_append_right _ hx)⟩, fun h x hx => (List.mem_append.mp hx).elim (h.1 x) (h.2 x)⟩
theorem okT_A {l : List Nat} (h : 46 ∉ l) : okT l ↔ l ≠ [] ∧ all01 l ∧ ¬ (1 < l.length ∧ l.head? = some 48) ∧ isRow (ones ((l.length : Int) - 1) l) = true := by
  unfold okT
  rw [marks_A h, pt_A h]
  have e : l.length ≠ 0 ↔ l ≠ [] := by rw [ne_eq, List.length_eq_zero_iff]
  constructor
  · rintro ⟨h1, h2, h3, h4, h5, h6⟩
    exact ⟨e.mp h2, h1, h4, h6⟩
  · rintro ⟨h1, h2, h3, h4⟩
    exact ⟨h2, e.mpr h1, by omega, h3, fun k => by omega, h4⟩
theorem okT_B {a : List Nat} (b : List Nat) (h : 46 ∉ a) : okT (a ++ 46 :: b) ↔ (a ≠ [] ∧ all01 a ∧ ¬ (1 < a.length ∧ a.head? = some 48)) ∧ (b ≠ [] ∧ all01 b ∧ b.getLast? ≠ some 48) ∧ isRow (ones ((a.length : Int) - 1) (a ++ b)) = true := by
  unfold okT
  rw [marks_B b h, pt_B b h, all01_app]
  have e : a.length ≠ 0 ↔ a ≠ [] := by rw [ne_eq, List.length_eq_zero_iff]
  have e2 : a.length + 1 ≠ (a ++ 46 :: b).length ↔ b ≠ [] := by
    rw [List.length_append, List.length_cons, ne_eq, ne_eq, ← List.length_eq_zero_iff]; omega
  have e3 : a.length < (a ++ 46 :: b).length := by rw [List.length_append, List.length_cons]; omega
  have e4 : b ≠ [] → (a ++ 46 :: b).getLast? = b.getLast? := fun hb => by
    cases b with
    | nil => exact absurd rfl hb
    | cons y b => rw [List.getLast?_append, List.getLast?_cons_cons, List.getLast?_cons]; rfl
  have e5 : a ≠ [] → (a ++ 46 :: b).head? = a.head? := fun ha => by
    cases a with
    | nil => exact absurd rfl ha
    | cons y a => rfl
  rw [e, e2]
  constructor
  · rintro ⟨h1, h2, h3, h4, h5, h6⟩
    refine ⟨⟨h2, h1.1, ?_⟩, ⟨h3, h1.2, ?_⟩, h6⟩
    · rw [e5 h2] at h4; exact h4
    · rw [e4 h3] at h5; exact fun k => h5 ⟨e3, k⟩
  · rintro ⟨⟨h1, h2, h3⟩, ⟨h4, h5, h6⟩, h7⟩
    refine ⟨⟨h2, h5⟩, h1, h4, ?_, ?_, h7⟩
    · rw [e5 h1]; exact h3
    · rw [e4 h4]; exact fun k => h6 k.2
theorem no46 {l : List Nat} (h : all01 l) : 46 ∉ l := fun k => by have := h _ k; omega
theorem figs_pos (r : List Int) (c : Int) (n : Nat) (h : 0 < n) : (figs r c n).head? = some (fig r c) := by
  match n, h with
  | n + 1, _ => rfl
theorem figs_last (r : List Int) (c : Int) (n : Nat) : (figs r c (n + 1)).getLast? = some (fig r (c - n)) := by
  rw [figs_snoc, List.getLast?_concat]
/-- what is written is read -/
theorem read_note {r : List Int} (h : isRow r = true) : readT (note r) = some r := by
  obtain ⟨g, hb⟩ := isRow_gap.mp h
  have tg := top_ge g
  have lg := least_le g
  have t0 : 0 ≤ top r := by unfold top; omega
  have l0 : least r ≤ 0 := by unfold least; omega
  have a01 := figs_01 r (top r + 1).toNat (top r)
  have na := no46 a01
  have len := figs_len r (top r + 1).toNat (top r)
  have ha : figs r (top r) (top r + 1).toNat ≠ [] := fun e => by rw [e] at len; rw [List.length_nil] at len; omega
  have hh : ¬ (1 < (figs r (top r) (top r + 1).toNat).length ∧ (figs r (top r) (top r + 1).toNat).head? = some 48) := fun ⟨k1, k2⟩ => by
    rw [len] at k1
    rw [figs_pos r _ _ (by omega)] at k2
    have := Option.some.inj k2
    unfold fig at this
    rw [if_pos (top_mem (by omega))] at this
    cases this
  have c1 : (((figs r (top r) (top r + 1).toNat).length : Nat) : Int) - 1 = top r := by rw [len]; omega
  unfold note
  by_cases hl : least r < 0
  · rw [if_pos hl]
    have b01 := figs_01 r (-least r).toNat (-1)
    have blen := figs_len r (-least r).toNat (-1)
    have hbn : figs r (-1) (-least r).toNat ≠ [] := fun e => by rw [e] at blen; rw [List.length_nil] at blen; omega
    have hbl : (figs r (-1) (-least r).toNat).getLast? ≠ some 48 := by
      have e : (-least r).toNat = ((-least r).toNat - 1) + 1 := by omega
      rw [e, figs_last]
      intro k
      have := Option.some.inj k
      unfold fig at this
      rw [show (-1 : Int) - (((-least r).toNat - 1 : Nat) : Int) = least r by omega, if_pos (least_mem hl)] at this
      cases this
    have rd : ones (top r) (figs r (top r) (top r + 1).toNat ++ figs r (-1) (-least r).toNat) = r := by
      have e := figs_add r (-least r).toNat (top r + 1).toNat (top r)
      rw [show top r - (((top r + 1).toNat : Nat) : Int) = -1 by omega] at e
      rw [← e]
      exact ones_figs _ _ r g (fun k hk => ⟨by have := lg k hk; omega, tg k hk⟩)
    unfold readT
    rw [if_pos ((okT_B _ na).mpr ⟨⟨ha, a01, hh⟩, ⟨hbn, b01, hbl⟩, by rw [c1, rd]; exact h⟩), marks_B _ na, pt_B _ na, c1, rd]
  · rw [if_neg hl, List.append_nil]
    have rd : ones (top r) (figs r (top r) (top r + 1).toNat) = r := ones_figs _ _ r g (fun k hk => ⟨by have := lg k hk; omega, tg k hk⟩)
    unfold readT
    rw [if_pos ((okT_A na).mpr ⟨ha, a01, hh, by rw [c1, rd]; exact h⟩), marks_A na, pt_A na, c1, rd]
theorem note_len {r : List Int} (h : isRow r = true) : (note r).length ≤ 200 := by
  obtain ⟨g, hb⟩ := isRow_gap.mp h
  have t1 : top r ≤ 80 := by
    by_cases c : 0 < top r
    · exact (hb _ (top_mem c)).2
    · omega
  have l1 : -80 ≤ least r := by
    by_cases c : least r < 0
    · exact (hb _ (least_mem c)).1
    · omega
  unfold note
  rw [List.length_append, figs_len]
  split
  · rw [List.length_cons, figs_len]; omega
  · rw [List.length_nil]; omega
end GM

/-! ### a text's point, sign by sign -/
namespace GM
theorem pt_le (l : List Nat) : pt l ≤ l.length := by
  rcases cut_at l with k | ⟨a, b, rfl, k⟩
  · rw [pt_A k]; omega
  · rw [pt_B b k, List.length_append]; omega
theorem pt_lt {l : List Nat} {j x : Nat} (h : j < pt l) (e : l[j]? = some x) : x ≠ 46 := by
  rcases cut_at l with k | ⟨a, b, rfl, k⟩
  · intro z
    exact k (by rw [← z]; exact List.mem_of_getElem? e)
  · rw [pt_B b k] at h
    rw [List.getElem?_append_left h] at e
    intro z
    exact k (by rw [← z]; exact List.mem_of_getElem? e)
theorem pt_at {l : List Nat} {x : Nat} (e : l[pt l]? = some x) : x = 46 := by
  rcases cut_at l with k | ⟨a, b, rfl, k⟩
  · rw [pt_A k, List.getElem?_eq_none (by omega)] at e; cases e
  · rw [pt_B b k, List.getElem?_append_right (by omega), Nat.sub_self] at e
    exact (Option.some.inj e).symm
theorem all_marks {l : List Nat} : all01 (marks l) ↔ ∀ j x, j ≠ pt l → l[j]? = some x → x = 48 ∨ x = 49 := by
  unfold marks
  rw [all01_app]
  constructor
  · rintro ⟨h1, h2⟩ j x hj e
    by_cases c : j < pt l
    · exact h1 x (List.mem_of_getElem? (i := j) (by rw [List.getElem?_take_of_lt c]; exact e))
    · exact h2 x (List.mem_of_getElem? (i := j - (pt l + 1)) (by rw [List.getElem?_drop, show pt l + 1 + (j - (pt l + 1)) = j by omega]; exact e))
  · intro h
    constructor
    · intro x hx
      obtain ⟨j, hj⟩ := List.getElem?_of_mem hx
      have c : j < pt l := by
        by_cases c : j < pt l
        · exact c
        · rw [List.getElem?_take_eq_none (by omega)] at hj; cases hj
      rw [List.getElem?_take_of_lt c] at hj
      exact h j x (by omega) hj
    · intro x hx
      obtain ⟨j, hj⟩ := List.getElem?_of_mem hx
      rw [List.getElem?_drop] at hj
      exact h _ x (by omega) hj
end GM

namespace GP
open PySem L2
def sp_is_row : Sp := fun vs H Q _ => ∃ v ns, vs = [v] ∧ LI H v ns ∧ ns.length ≤ 1000 ∧ Q (.bl (GM.isRow ns)) H
theorem c_isrow {H : Hp} {Q : VK} {E : XK} {v : V} {ns : List Int} (h1 : LI H v ns) (h2 : ns.length ≤ 1000) (q : Q (.bl (GM.isRow ns)) H) : sp_is_row [v] H Q E := ⟨v, ns, rfl, h1, h2, q⟩
theorem ok_is_row {P : Program} {w : World} {K : PySem.W.Frag} {mg : Str → Option Value} {base : Heap} {f : Addr} {fd : FuncData} (F : Fun K "is_row" "is_row" s_is_row f fd) (nb : NB mg) {t_FAR : Tok} (g_FAR : mg "FAR" = some (.int 80 t_FAR)) : FnOk P w K mg base CX0 1 f fd ["places"] sp_is_row := by
  refine F.ok sc_is_row (fun vs H Q E h => ?_) (fun cdv A outer s H vs Q E hr h => ?_)
  · obtain ⟨v, ns, rfl, _⟩ := h
    rfl
  obtain ⟨v, ns, rfl, h1, hl, q⟩ := h
  refine ⟨_, (pss_cons (ps_for PassesOwn.never rfl (pi_range1 (by rfl) nb.range (pa_cons (pe_callB g_len (by rfl) nb.len (by decide +kernel) (pa_cons (pv 0) pa_nil)) pa_nil)) (pg_name (i := 1) sc_is_row.nd rfl (Or.inl rfl)) (pss_one (ps_if (PW.pt (pw_or (pt_cmpR op_gt (pe_ix ix_seq (pv 0) (pv 1) (fun _ _ => rfl)) (pe_glob (v := .int 80) (by rfl) g_FAR ⟨_, rfl⟩) (nomark _)) (pw_or (pt_cmpR op_lt (pe_ix ix_seq (pv 0) (pv 1) (fun _ _ => rfl)) (pe_op op_sub pe_int (pe_glob (v := .int 80) (by rfl) g_FAR ⟨_, rfl⟩)) (nomark _)) (pw_or1 (PW.pt (pw_and (pt_cmpR op_gt (pv 1) pe_int (nomark _)) (pw_and1 (pt_cmpR op_lt (pe_op op_sub (pe_ix ix_seq (pv 0) (pe_op op_sub (pv 1) pe_int) (fun _ _ => rfl)) (pe_ix ix_seq (pv 0) (pv 1) (fun _ _ => rfl))) pe_int (nomark _))))))))) (pss_one (ps_ret pe_bl)) pss_nil)))
      (pss_one (ps_ret pe_bl))), ?_⟩
  walk_at "go"
  try rw [List.length_map]
  refine iRF1 ⟨by omega, by omega⟩ (fun i σ' H' => ∃ (z : Option V), σ' = [some v, z] ∧ H' = H ∧ ∀ k, k < i → GM.rowAt ns k = true) ⟨_, rfl, rfl, fun k hk => by omega⟩ (fun i σ' H' hi hP => ?_) (fun σ' H' hP => ?_)
  · obtain ⟨z, rfl, rfl, hk⟩ := hP
    have bad : GM.rowAt ns i = false → Q (.bl false) H' := fun hb => by
      have e : GM.isRow ns = false := by
        cases c : GM.isRow ns
        · rfl
        · rw [GM.isRow_iff.mp c i (by omega)] at hb; cases hb
      rw [e] at q; exact q
    have good : GM.rowAt ns i = true → ∀ k, k < i + 1 → GM.rowAt ns k = true := fun hg k hk' => by
      by_cases c : k = i
      · rw [c]; exact hg
      · exact hk k (by omega)
    rw [GM.rowAt_iff] at good
    have bad' : (¬ (ns.getD i 0 ≤ 80 ∧ -80 ≤ ns.getD i 0 ∧ (0 < i → 2 ≤ ns.getD (i - 1) 0 - ns.getD i 0))) → Q (.bl false) H' := fun hb => bad (by
      cases c : GM.rowAt ns i
      · rfl
      · exact absurd (GM.rowAt_iff.mp c) hb)
    walk_at "ifs"
    all_goals first
      | exact bad' (by omega)
      | exact ⟨_, rfl, rfl, good (by omega)⟩
  · obtain ⟨z, rfl, rfl, hk⟩ := hP
    walk_at "go"
    have e : GM.isRow ns = true := GM.isRow_iff.mpr (fun k h => hk k (by omega))
    rw [e] at q; exact q
end GP
local macro_rules | `(tactic| walk_at "callee") => `(tactic| ((with_reducible refine' GP.c_isrow ?h1 ?h2 ?_); (case h1 => walk_at "hp"); (case h2 => omega)))

namespace GP
open PySem L2
def cellAt (ns : List Int) (k : Int) : Int := ns.getD k.toNat 0
def sp__law_cell_at (K : PySem.W.Frag) : Sp := fun vs H Q _ => ∃ (a : Addr) (ns : List Int) (k : Int), vs = [.ref a, .int k] ∧ SqL K H a (ns.map V.int) ∧ 0 ≤ k ∧ Q (.int (cellAt ns k)) H
theorem c_cell {K : PySem.W.Frag} {H : Hp} {Q : VK} {E : XK} {a : Addr} {ns : List Int} {k : Int} (h1 : SqL K H a (ns.map V.int)) (h0 : 0 ≤ k) (q : Q (.int (cellAt ns k)) H) : sp__law_cell_at K [.ref a, .int k] H Q E := ⟨a, ns, k, rfl, h1, h0, q⟩
theorem ok__law_cell_at {P : Program} {w : World} {K : PySem.W.Frag} {mg : Str → Option Value} {base : Heap} {f : Addr} {fd : FuncData} (F : Fun K "_law_cell_at" "_law_cell_at" s__law_cell_at f fd) (nb : NB mg) : FnOk P w K mg base CX0 1 f fd ["script", "k"] (sp__law_cell_at K) := by
  refine F.ok sc__law_cell_at (fun vs H Q E h => ?_) (fun cdv A outer s H vs Q E hr h => ?_)
  · obtain ⟨a, ns, k, rfl, _⟩ := h
    rfl
  obtain ⟨a, ns, k, rfl, hS, h0, q⟩ := h
  refine ⟨_, (pss_cons (ps_if (pt_cmpR op_lt (pv 1) (pe_callB g_len (by rfl) nb.len (by decide +kernel) (pa_cons (pv 0) pa_nil)) (nomark _)) (pss_one (ps_ret (pe_ix ix_seq (pv 0) (pv 1) (fun _ _ => rfl)))) pss_nil)
      (pss_one (ps_ret pe_int))), ?_⟩
  walk_at "go"
  rw [List.length_map]
  refine GP.iIf (fun h => ?_) (fun h => ?_)
  · walk_at "go"
    have hk : k.toNat < ns.length := by omega
    have ek : ((k.toNat : Nat) : Int) = k := by omega
    have e : atI (ns.map V.int) ((k.toNat : Nat) : Int) = some (.int (cellAt ns k)) := atI_nat (by
      rw [List.getElem?_map, List.getElem?_eq_getElem hk]
      unfold cellAt
      rw [List.getD_eq_getElem?_getD, List.getElem?_eq_getElem hk]
      rfl)
    rw [ek] at e
    exact iIxQ hS e q
  · walk_at "go"
    have e : cellAt ns k = 0 := by
      unfold cellAt
      rw [List.getD_eq_getElem?_getD, List.getElem?_eq_none (by omega)]
      rfl
    rw [e] at q
    exact q
end GP
local macro_rules | `(tactic| walk_at "callee") => `(tactic| ((with_reducible refine' GP.c_cell ?h1 ?h2 ?_); (case h1 => walk_at "hp"); (case h2 => first | decide | omega)))

/-! ### texts by their signs -/
namespace GP
open PySem L2
def S (l : List Nat) : Str := ⟨l.toArray⟩
theorem S_len (l : List Nat) : (S l).length = l.length := by simp [S, Str.length]
theorem S_app (l m : List Nat) : S l ++ S m = S (l ++ m) := by
  apply TL.ext_tl
  rw [TL.tl_append]
  rfl
theorem S_inj {l m : List Nat} : S l = S m ↔ l = m := ⟨fun h => congrArg TL.tl h, fun h => by rw [h]⟩
theorem S_of (z : Str) : z = S z.cps.toList := (TL.mk_tl z).symm
theorem lit_0 : (("0" : Str)) = S [48] := by decide +kernel
theorem lit_1 : (("1" : Str)) = S [49] := by decide +kernel
theorem lit_dot : (("." : Str)) = S [46] := by decide +kernel
theorem lit_nil : (("" : Str)) = S [] := by decide +kernel
theorem str_0 : ((toString (0 : Int) : String) : Str) = S [48] := by decide +kernel
theorem str_1 : ((toString (1 : Int) : String) : Str) = S [49] := by decide +kernel
theorem str_b (b : Bool) : ((toString (if b = true then (1 : Int) else 0) : String) : Str) = S [if b = true then 49 else 48] := by
  cases b
  · exact str_0
  · exact str_1
def rSplit1 : V → List V → Hp → VK → Prop := fun x xs H Q => ∃ a b, x = .str a ∧ xs = [.str b] ∧ (b.length == 0) = false ∧ a.length + 2 ≤ sizeLine ∧ rNewStrs (Txt.split a b) H Q
theorem g_split {X : Cx} {o e : Expr} {to te : TE} {apos pos : Pos} (ho : PE X o to) (he : PE X e te) (hs : starEach [e] X.env = [(false, eval e X.env)] := by rfl) (hbase : attributeBase o "split" X.env (eval o X.env) = eval o X.env := by rfl) (hline : (apos.endLine == pos.line) = true := by rfl) :
    PE X (.Call (.Attribute o "split" apos) [e] [] pos) (tM1 rSplit1 to te) := pe_split ho he hs hbase hline
def rNotInC : R2 := fun x y H Q => ∃ (c : Nat) (z : Str), x = .str ⟨#[c]⟩ ∧ y = .str z ∧ Q (.bl (!decide (c ∈ z.cps.toList))) H
theorem g_notInC {X : Cx} : OpR X (compareOp .NotIn) rNotInC := op_notIn_sign
def rMaxL (K : PySem.W.Frag) : List V → Hp → VK → Prop := rMax K
def rMinL (K : PySem.W.Frag) : List V → Hp → VK → Prop := rMin K
theorem g_max1 {X : Cx} (hc : X.calm = true) : CallR X (.builtin "max") (rMaxL X.K) := cr_max hc
theorem g_min1 {X : Cx} (hc : X.calm = true) : CallR X (.builtin "min") (rMinL X.K) := cr_min hc
def MStr (x : V) (P : Prop) : Prop := (∃ a, x = .str a) ∧ P
section
variable {K : PySem.W.Frag} {σ : St} {H : Hp} {Q : VK} {ta tb te to : TE} {D : Ends} {g : TG} {tc : TS} {x y v : V}
theorem iM1 {r : V → List V → Hp → VK → Prop} (q : to σ H fun x H1 => MStr x (te σ H1 fun y H2 => r x [y] H2 Q)) : tM1 r to te σ H Q := q
theorem iMStr {z : Str} {P : Prop} (q : P) : MStr (.str z) P := ⟨⟨z, rfl⟩, q⟩
theorem iAddSS {i j : Str} {l m : List Nat} (e1 : i = S l) (e2 : j = S m) (h : l.length + m.length ≤ 100000) (q : Q (.str (S (l ++ m))) H) : rAddS (.str i) (.str j) H Q := by
  subst e1 e2
  refine ⟨S l, S m, rfl, rfl, ?_, ?_⟩
  · rw [S_len, S_len]; exact Nat.le_of_lt (lineK h)
  · rw [S_app]; exact q
theorem iLenSS {l : List Nat} (h : l.length ≤ 100000) (q : Q (.int l.length) H) : rLenS1 [.str (S l)] H Q := ⟨S l, rfl, by rw [S_len]; exact Nat.le_of_lt (lineK h), by rw [S_len]; exact q⟩
theorem iIxSS {l : List Nat} {i : Int} {c : Nat} (hz : l.length ≤ 100000) (e : atI l i = some c) (q : Q (.str (S [c])) H) : rIx K (.str (S l)) (.int i) H Q := iIxS (by rw [S_len]; exact Nat.le_of_lt (lineK hz)) e q
theorem iNotIn01 {c : Nat} (q : Q (.bl (!decide (c = 48 ∨ c = 49))) H) : rNotInC (.str (S [c])) (.str ("01" : Str)) H Q := by
  refine ⟨c, _, rfl, rfl, ?_⟩
  have e : (("01" : Str)).cps.toList = [48, 49] := by decide +kernel
  have e2 : decide (c ∈ [48, 49]) = decide (c = 48 ∨ c = 49) := decide_eq_decide.mpr (by simp)
  rw [e, e2]
  exact q
theorem inV_int (n : Int) : ∀ ns : List Int, inV (.int n) (ns.map V.int) = decide (n ∈ ns)
  | [] => rfl
  | m :: ns => by
    have ih := inV_int n ns
    have h0 : inV (.int n) ((m :: ns).map V.int) = (eqV (.int m) (.int n) || inV (.int n) (ns.map V.int)) := rfl
    rw [h0, ih]
    have h1 : eqV (.int m) (.int n) = decide (n = m) := by
      have : eqV (.int m) (.int n) = (m == n) := rfl
      rw [this]
      by_cases c : n = m
      · subst c; simp
      · rw [decide_eq_false c]; exact beq_eq_false_iff_ne.mpr (fun z => c z.symm)
    rw [h1]
    by_cases c : n = m
    · subst c
      rw [decide_eq_true rfl, decide_eq_true List.mem_cons_self]; rfl
    · rw [decide_eq_false c, Bool.false_or]
      exact decide_eq_decide.mpr ⟨List.mem_cons_of_mem _, fun h => (List.mem_cons.mp h).elim (fun z => absurd z c) id⟩
theorem allFlat : ∀ ns : List Int, (ns.map V.int).all flatV = true
  | [] => rfl
  | _ :: ns => by rw [List.map_cons, List.all_cons, allFlat ns]; rfl
theorem iInI {ns : List Int} {n : Int} (h : LI H v ns) (q : Q (.bl (decide (n ∈ ns))) H) : rIn K false (.int n) v H Q := by
  obtain ⟨a, rfl, h⟩ := h
  refine ⟨a, _, rfl, .inl (SqL.of h), rfl, allFlat ns, ?_⟩
  rw [if_neg (by decide), inV_int]
  exact q
theorem iStrB {b : Bool} (q : Q (.str (S [if b = true then 49 else 48])) H) : rStr1 [.int (if b = true then 1 else 0)] H Q := by
  refine ⟨_, rfl, ?_, ?_⟩
  · cases b <;> decide
  · rw [str_b]; exact q
theorem iMaxL {ns : List Int} (h : LI H v ns) (hn : 0 < ns.length) (q : ∀ m, m ∈ ns → (∀ y, y ∈ ns → y ≤ m) → Q (.int m) H) : rMaxL K [v] H Q := by
  obtain ⟨a, rfl, h⟩ := h
  exact ⟨a, ns, rfl, SqL.of h, hn, q⟩
theorem iMinL {ns : List Int} (h : LI H v ns) (hn : 0 < ns.length) (q : ∀ m, m ∈ ns → (∀ y, y ∈ ns → m ≤ y) → Q (.int m) H) : rMinL K [v] H Q := by
  obtain ⟨a, rfl, h⟩ := h
  exact ⟨a, ns, rfl, SqL.of h, hn, q⟩
def FSt (g : TG) (tc : TS) (D : Ends) (σ : St) (x : V) (H1 : Hp) : Prop := ∃ z, x = .str z ∧ ∃ W : Nat → Nat → St → Hp → Prop, (∃ m, W 0 m σ H1) ∧ ∀ i m σ H, W i m σ H →
  ((Its z).stop i H ∧ D.nx σ H) ∨ ((Its z).go i H ∧ ∃ N : St → Hp → Prop, (∀ σ' H', N σ' H' → ∃ m', m' < m ∧ W (i + 1) m' σ' H') ∧ ∀ x H', (Its z).yld i H x H' → g x σ H' fun σ2 H2 => tc { D with nx := N, ct := N, bk := D.nx } σ2 H2)
theorem iForS (q : te σ H fun x H1 => FSt g tc D σ x H1) : tFor (iStr te) g tc D σ H := q
theorem iFS {s : Nat} {l : List Nat} (Pv : Nat → St → Hp → Prop) (h0 : Pv 0 σ H)
    (hs : ∀ (i c : Nat) σ H, l[i]? = some c → Pv i σ H → tc { D with nx := Pv (i + 1), ct := Pv (i + 1), bk := D.nx } (σ.set s (some (.str (S [c])))) H) (hd : ∀ σ H, Pv l.length σ H → D.nx σ H) : FSt (gName s) tc D σ (.str (S l)) H := by
  refine ⟨S l, rfl, for_it (n := (S l).cps.size) walk_str Pv h0 (fun _ _ _ _ _ => trivial) (fun i x σ H H' hi p y => ?_) (fun σ H p => hd σ H (by
    have e : (S l).cps.size = l.length := S_len l
    rw [e] at p; exact p))⟩
  obtain ⟨rfl, c, hc, rfl⟩ := y
  exact hs i c σ H' (by rw [← hc]; exact (List.getElem?_toArray).symm) p
end
/-- x.split(".") of a text -/
theorem spl_no {l : List Nat} : ∀ {acc : List Nat}, 46 ∉ l → TL.spl [46] 0 acc l = [acc ++ l] := by
  induction l with
  | nil => intro acc _; rw [List.append_nil]; rfl
  | cons x l ih =>
    intro acc h
    have hx : x ≠ 46 := fun e => h (by rw [e]; exact List.mem_cons_self)
    rw [TL.spl_miss (TL.pre_of_head [] l hx), ih (fun k => h (List.mem_cons_of_mem _ k)), List.append_assoc]
    rfl
theorem spl_dot {b : List Nat} : ∀ {a acc : List Nat}, 46 ∉ a → TL.spl [46] 0 acc (a ++ 46 :: b) = (acc ++ a) :: TL.spl [46] 0 [] b
  | [], acc, _ => by
    show TL.spl [46] 0 acc (46 :: b) = _
    have hp : TL.pre [46] (46 :: b) = true := TL.pre_self [46] b
    rw [TL.spl_hit hp, List.append_nil]
    rfl
  | x :: a, acc, h => by
    have hx : x ≠ 46 := fun e => h (by rw [e]; exact List.mem_cons_self)
    show TL.spl [46] 0 acc (x :: (a ++ 46 :: b)) = _
    rw [TL.spl_miss (TL.pre_of_head [] _ hx), spl_dot (fun k => h (List.mem_cons_of_mem _ k)), List.append_assoc]
    rfl
theorem spl_ne (l : List Nat) : TL.spl [46] 0 [] l ≠ [] := by
  rcases GM.cut_at l with h | ⟨a, b, rfl, h⟩
  · rw [spl_no h]; exact fun e => nomatch e
  · rw [spl_dot h]; exact fun e => nomatch e
theorem split_S (l : List Nat) : Txt.split (S l) ("." : Str) = (TL.spl [46] 0 [] l).map S := by
  have e : TL.tl ("." : Str) = [46] := by decide +kernel
  have k : ¬ Builtin.Str.strKind (S l) < Builtin.Str.strKind ("." : Str) := by
    have z : Builtin.Str.strKind ("." : Str) = 1 := by decide +kernel
    rw [z]
    unfold Builtin.Str.strKind
    split <;> (try split) <;> (try split) <;> omega
  apply TL.map_tl_inj
  rw [TL.split_spl (S l) _ (by rw [e]; exact fun z => nomatch z) k, e, List.map_map]
  have : (TL.tl ∘ S) = id := rfl
  rw [this, List.map_id]
  rfl
theorem iSplitS {H : Hp} {Q : VK} {l : List Nat} (h : l.length ≤ 100000) (q : ∀ r H', Same H H' → LS H' r (((TL.spl [46] 0 [] l).map S).map V.str) → Q r H') : rSplit1 (.str (S l)) [.str ("." : Str)] H Q := by
  refine ⟨S l, _, rfl, rfl, by decide +kernel, ?_, ?_⟩
  · rw [S_len]; exact Nat.le_trans (show l.length + 2 ≤ 100002 by omega) (by decide)
  · rw [split_S]
    intro p hp
    exact q _ _ (same_new hp) ⟨p, rfl, upd_same⟩
end GP
local macro_rules | `(tactic| walk_at "callee") => `(tactic| first
  | with_reducible refine GP.iM1 ?_
  | with_reducible refine GP.iMStr ?_
  | with_reducible refine GP.iForS ?_
  | with_reducible refine GP.iNotIn01 ?_
  | with_reducible refine GP.iStrB ?_
  | ((with_reducible refine' GP.iInI ?h ?_); (case h => walk_at "hp"))
  | ((with_reducible refine' GP.iLenSS ?h ?_); (case h => omega))
  | ((with_reducible refine' GP.iSplitS ?h ?_); (case h => omega); intro _ _ _ _)
  | ((with_reducible refine' GP.iAddSS ?e1 ?e2 ?h ?_); (case e1 => first | with_reducible exact GP.lit_dot | with_reducible exact GP.lit_0 | with_reducible exact GP.lit_1 | with_reducible exact GP.lit_nil | with_reducible exact rfl); (case e2 => first | with_reducible exact GP.lit_dot | with_reducible exact GP.lit_0 | with_reducible exact GP.lit_1 | with_reducible exact GP.lit_nil | with_reducible exact rfl); (case h => (try simp only [List.length_cons, List.length_nil, List.length_append, GM.figs_len]) <;> omega)))

namespace GP
open PySem L2
def sp_asked_figures (C : Addr) : Sp := fun vs H Q E => ∃ l : List Nat, vs = [.str (S l)] ∧ (l ≠ [] ∧ GM.all01 l → Q .non H) ∧ (¬ (l ≠ [] ∧ GM.all01 l) → E (.ref C) none H)
theorem ok_asked_figures {P : Program} {w : World} {K : PySem.W.Frag} {mg : Str → Option Value} {base : Heap} {f : Addr} {fd : FuncData} (F : Fun K "asked_figures" "asked_figures" s_asked_figures f fd) {C_NoNote : Addr} (e_NoNote : EX K mg "NoNote" C_NoNote) : FnOk P w K mg base (L2.CX P w) 1 f fd ["text"] (sp_asked_figures C_NoNote) := by
  refine F.okX sc_asked_figures (fun vs H Q E h => ?_) (fun cdv A outer s H vs Q E hr h => ?_)
  · obtain ⟨l, rfl, _⟩ := h
    rfl
  obtain ⟨l, rfl, q1, q2⟩ := h
  refine ⟨_, (pss_cons (ps_if (pt_cmpR op_eq (pv 0) pe_str (nomark _)) (pss_one (ps_raise rfl (takes_of rfl rfl rfl rfl) (pmk_own PySem.F.excBase_ValueError e_NoNote.exc e_NoNote.mgC e_NoNote.keep (raises_own e_NoNote.sub e_NoNote.typ) (by rfl)))) pss_nil)
      (pss_one (ps_for (passes_of rfl) rfl (pi_str (pv 0)) (pg_name (i := 1) sc_asked_figures.nd rfl (Or.inl rfl)) (pss_one (ps_if (pt_cmpR g_notInC (pv 1) pe_str (by with_unfolding_all rfl)) (pss_one (ps_raise rfl (takes_of rfl rfl rfl rfl) (pmk_own PySem.F.excBase_ValueError e_NoNote.exc e_NoNote.mgC e_NoNote.keep (raises_own e_NoNote.sub e_NoNote.typ) (by rfl)))) pss_nil))))), ?_⟩
  walk_at "go"
  walk_at "if" <;> intro c
  · exact q2 (fun h => h.1 (S_inj.mp (c.trans lit_nil)))
  · walk_at "go"
    have hn : l ≠ [] := fun e => c (by rw [e]; exact lit_nil.symm)
    refine iFS (fun i σ' H' => ∃ (z : Option V), σ' = [some (.str (S l)), z] ∧ H' = H ∧ GM.all01 (l.take i)) ⟨none, rfl, rfl, fun x hx => by rw [List.take_zero] at hx; cases hx⟩ (fun i d σ' H' hi hP => ?_) (fun σ' H' hP => ?_)
    · obtain ⟨z, rfl, rfl, ha⟩ := hP
      walk_at "go"
      walk_at "if" <;> intro c1
      · exact q2 (fun h => c1 (h.2 d (List.mem_of_getElem? hi)))
      · walk_at "go"
        refine ⟨_, rfl, rfl, fun x hx => ?_⟩
        rw [List.take_add_one, hi] at hx
        rcases List.mem_append.mp hx with h | h
        · exact ha x h
        · rw [List.mem_singleton.mp h]; exact c1
    · obtain ⟨z, rfl, rfl, ha⟩ := hP
      rw [List.take_length] at ha
      walk_at "go"
      exact q1 ⟨hn, ha⟩
end GP

namespace GP
open PySem L2
theorem okT_halves {l : List Nat} (h : GM.okT l) : (TL.spl [46] 0 [] l).length ≤ 2 ∧ ∀ x ∈ TL.spl [46] 0 [] l, x ≠ [] ∧ GM.all01 x := by
  rcases GM.cut_at l with k | ⟨a, b, rfl, k⟩
  · rw [spl_no k]
    have q := (GM.okT_A k).mp h
    exact ⟨by simp, fun x hx => by rw [List.mem_singleton.mp hx]; exact ⟨q.1, q.2.1⟩⟩
  · have q := (GM.okT_B b k).mp h
    rw [spl_dot k, spl_no (GM.no46 q.2.1.2.1)]
    refine ⟨by simp, fun x hx => ?_⟩
    rcases List.mem_cons.mp hx with rfl | hx
    · exact ⟨q.1.1, q.1.2.1⟩
    · rw [List.mem_singleton.mp hx]; exact ⟨q.2.1.1, q.2.1.2.1⟩
theorem not_ok {l : List Nat} (h : ¬ GM.okT l) : GM.readT l = none := if_neg h
theorem at_head {c : Nat} {w : List Nat} (h : w.head? = some c) : atI w 0 = some c := by
  cases w with
  | nil => cases h
  | cons x r => cases h; exact atI_nat (xs := c :: r) (j := 0) rfl
theorem iCatN {H : Hp} {Q : VK} {a b : V} {xs ys : List Int} (h1 : LI H a xs) (h2 : LI H b ys) (hl : xs.length + ys.length ≤ 100000) (q : ∀ p H', H p = none → Same H H' → LK H' p (xs ++ ys) → Q (.ref p) H') : rCat a b H Q := by
  obtain ⟨p, rfl, h1⟩ := h1
  obtain ⟨r, rfl, h2⟩ := h2
  exact ⟨p, r, _, _, rfl, rfl, h1, h2, by rw [List.length_map, List.length_map]; exact Nat.le_of_lt (lineK hl), fun d hd => q _ _ hd (same_new hd) (by show upd H d _ d = _; rw [upd_same, List.map_append])⟩
theorem free_of {H H' : Hp} {p : Addr} (s : Same H H') (h : H' p = none) : H p = none := by
  cases c : H p with
  | none => rfl
  | some o => rw [s p o c] at h; cases h
def sp_read (C : Addr) : Sp := fun vs H Q E => ∃ l : List Nat, vs = [.str (S l)] ∧ l.length ≤ 1000 ∧
  (∀ xs, GM.readT l = some xs → ∀ p H', H p = none → Same H H' → LK H' p xs → Q (.ref p) H') ∧ (GM.readT l = none → ∀ H', Same H H' → E (.ref C) none H')
theorem c_read {C : Addr} {H : Hp} {Q : VK} {E : XK} {l : List Nat} {xs : List Int} (h1 : l.length ≤ 1000) (h2 : GM.readT l = some xs) (q : ∀ p H', H p = none → Same H H' → LK H' p xs → Q (.ref p) H') : sp_read C [.str (S l)] H Q E :=
  ⟨l, rfl, h1, fun ys hy => by rw [h2] at hy; cases hy; exact q, fun h => by rw [h2] at h; cases h⟩
theorem ok_read {P : Program} {w : World} {K : PySem.W.Frag} {mg : Str → Option Value} {base : Heap} {f : Addr} {fd : FuncData} (F : Fun K "read" "read" s_read f fd) (nb : NB mg) {C_NoNote : Addr} (e_NoNote : EX K mg "NoNote" C_NoNote) (c_asked_figures : Cal P w K mg base (L2.CX P w) 1 "asked_figures" ["text"] (sp_asked_figures C_NoNote)) (c_is_row : Cal P w K mg base CX0 1 "is_row" ["places"] sp_is_row) : FnOk P w K mg base (L2.CX P w) 2 f fd ["text"] (sp_read C_NoNote) := by
  refine F.okX sc_read (fun vs H Q E h => ?_) (fun cdv A outer s H vs Q E hr h => ?_)
  · obtain ⟨l, rfl, _⟩ := h
    rfl
  obtain ⟨l, rfl, hl, q1, q2⟩ := h
  refine ⟨_, (pss_cons (ps_set (i := 1) sc_read.nd rfl (Or.inr rfl) (g_split (pv 0) pe_str))
      (pss_cons (ps_if (pt_cmpR op_gt (pe_callB g_len (by rfl) nb.len (by decide +kernel) (pa_cons (pv 1) pa_nil)) pe_int (nomark _)) (pss_one (ps_raise rfl (takes_of rfl rfl rfl rfl) (pmk_own PySem.F.excBase_ValueError e_NoNote.exc e_NoNote.mgC e_NoNote.keep (raises_own e_NoNote.sub e_NoNote.typ) (by rfl)))) pss_nil)
      (pss_cons (ps_for (passes_of rfl) rfl (pi_list (pv 1)) (pg_name (i := 2) sc_read.nd rfl (Or.inl rfl)) (pss_one (ps_expr (pe_callC c_asked_figures hr (passes_call (takes_of rfl rfl rfl rfl) (fun _ _ _ _ h => h)) (pa_cons (pv 2) pa_nil)))))
      (pss_cons (ps_set (i := 3) sc_read.nd rfl (Or.inr rfl) (pe_ix ix_seq (pv 1) pe_int (fun _ _ => rfl)))
      (pss_cons (ps_if (PW.pt (pw_and (pt_cmpR op_gt (pe_callB g_lenS (by rfl) nb.len (by decide +kernel) (pa_cons (pv 3) pa_nil)) pe_int (nomark _)) (pw_and1 (pt_cmpR op_eq (pe_ix ix_seq (pv 3) pe_int (fun _ _ => rfl)) pe_str (nomark _))))) (pss_one (ps_raise rfl (takes_of rfl rfl rfl rfl) (pmk_own PySem.F.excBase_ValueError e_NoNote.exc e_NoNote.mgC e_NoNote.keep (raises_own e_NoNote.sub e_NoNote.typ) (by rfl)))) pss_nil)
      (pss_cons (ps_setLc (i := 4) (own := [("k", 5)]) (g := gName 5) (tt := (tTest (tOp rEq (tOp (rIx K) (tVar 3) (tVar 5)) (tC (V.str "1"))))) (te := (tOp (rI0 fun i j => V.int (i - j)) (tOp (rI0 fun i j => V.int (i - j)) (tCB rLenS1 (tCons (tVar 3) tNil)) (tC (V.int 1))) (tVar 5))) rfl sc_read.nd rfl rfl (sw_true rfl rfl rfl (by decide +kernel)) (pi_range1 (by rfl) nb.range (pa_cons (pe_callB g_lenS (by rfl) nb.len (by decide +kernel) (pa_cons (pv 3) pa_nil)) pa_nil)) (blkOk_by (own := [("k", 5)]) (N := N_read) (sc := defScope s_read) (by decide +kernel)) (fun _ _ _ _ _ => pg_name (i := 5) sc_read.nd rfl (Or.inl rfl)) (fun _ _ _ _ _ => (pts_one (pt_cmpR op_eq (pe_ix ix_seq (pv 3) (pv 5) (fun _ _ => rfl)) pe_str (nomark _)))) (fun _ _ _ _ _ => (pe_op op_sub (pe_op op_sub (pe_callB g_lenS (by rfl) nb.len (by decide +kernel) (pa_cons (pv 3) pa_nil)) pe_int) (pv 5))))
      (pss_cons (ps_if (pt_cmpR op_eq (pe_callB g_len (by rfl) nb.len (by decide +kernel) (pa_cons (pv 1) pa_nil)) pe_int (nomark _)) (pss_cons (ps_if (pt_cmpR op_eq (pe_ix ix_seq (pe_ix ix_seq (pv 1) pe_int (fun _ _ => rfl)) (pe_un un_neg pe_int) (fun _ _ => rfl)) pe_str (nomark _)) (pss_one (ps_raise rfl (takes_of rfl rfl rfl rfl) (pmk_own PySem.F.excBase_ValueError e_NoNote.exc e_NoNote.mgC e_NoNote.keep (raises_own e_NoNote.sub e_NoNote.typ) (by rfl)))) pss_nil)
      (pss_one (ps_set (i := 4) sc_read.nd rfl (Or.inl rfl) (pe_op op_cat (pv 4) (pe_lc (own := [("k", 5)]) (g := gName 5) (tt := (tTest (tOp rEq (tOp (rIx K) (tOp (rIx K) (tVar 1) (tC (V.int 1))) (tVar 5)) (tC (V.str "1"))))) (te := (tOp (rI0 fun i j => V.int (i - j)) (tUn (rU fun i => V.int (-i)) (tC (V.int 1))) (tVar 5))) rfl sc_read.nd (pi_range1 (by rfl) nb.range (pa_cons (pe_callB g_lenS (by rfl) nb.len (by decide +kernel) (pa_cons (pe_ix ix_seq (pv 1) pe_int (fun _ _ => rfl)) pa_nil)) pa_nil)) (blkOk_by (own := [("k", 5)]) (N := N_read) (sc := defScope s_read) (by decide +kernel)) (fun _ _ _ _ _ => pg_name (i := 5) sc_read.nd rfl (Or.inl rfl)) (fun _ _ _ _ _ => (pts_one (pt_cmpR op_eq (pe_ix ix_seq (pe_ix ix_seq (pv 1) pe_int (fun _ _ => rfl)) (pv 5) (fun _ _ => rfl)) pe_str (nomark _)))) (fun _ _ _ _ _ => (pe_op op_sub (pe_un un_neg pe_int) (pv 5)))))))) pss_nil)
      (pss_cons (ps_if (pt_not (pt_val (pe_callC c_is_row hr pass0 (pa_cons (pv 4) pa_nil)))) (pss_one (ps_raise rfl (takes_of rfl rfl rfl rfl) (pmk_own PySem.F.excBase_ValueError e_NoNote.exc e_NoNote.mgC e_NoNote.keep (raises_own e_NoNote.sub e_NoNote.typ) (by rfl)))) pss_nil)
      (pss_one (ps_ret (pv 4))))))))))), ?_⟩
  walk_at "go"
  rename_i r1 H1 s1 t1
  rw [List.length_map, List.length_map]
  walk_at "if" <;> intro c0
  · exact q2 (not_ok (fun h => by have := (okT_halves h).1; omega)) _ s1
  walk_at "go"
  refine iFL t1 (fun i σ' H' => ∃ (z : Option V), σ' = [some (.str (S l)), some r1, z, none, none, none] ∧ H' = H1 ∧ ∀ x ∈ (TL.spl [46] 0 [] l).take i, x ≠ [] ∧ GM.all01 x) ⟨_, rfl, rfl, fun x hx => by rw [List.take_zero] at hx; cases hx⟩ (fun i σ' H' hP => ?_) (fun i y σ' H' hi hP => ?_) (fun σ' H' hP => ?_)
  · obtain ⟨z, rfl, rfl, _⟩ := hP
    exact t1
  · obtain ⟨z, rfl, rfl, ha⟩ := hP
    rw [List.getElem?_map, List.getElem?_map] at hi
    obtain ⟨z1, hz1, rfl⟩ := Option.map_eq_some_iff.mp hi
    obtain ⟨x, hx, rfl⟩ := Option.map_eq_some_iff.mp hz1
    walk_at "go"
    refine ⟨x, rfl, fun hok => ?_, fun hbad => ?_⟩
    · refine iNext ?_
      refine ⟨_, rfl, rfl, fun u hu => ?_⟩
      rw [List.take_add_one, hx] at hu
      rcases List.mem_append.mp hu with h | h
      · exact ha u h
      · rw [List.mem_singleton.mp h]; exact hok
    · exact q2 (not_ok (fun h => hbad ((okT_halves h).2 x (List.mem_of_getElem? hx)))) _ s1
  · obtain ⟨z, rfl, rfl, ha⟩ := hP
    rw [List.length_map, List.length_map, List.take_length] at ha
    rcases GM.cut_at l with k | ⟨a, b, rfl, k⟩
    · -- no point
      rw [spl_no k] at ha t1
      obtain ⟨wn, w01⟩ := ha l List.mem_cons_self
      have t1 : LS H' r1 [.str (S l)] := t1
      have ok := GM.okT_A k
      have rd : ∀ xs, GM.okT l → xs = GM.ones ((l.length : Int) - 1) l → GM.readT l = some xs := fun xs h e => by
        unfold GM.readT
        rw [if_pos h, GM.marks_A k, GM.pt_A k, e]
      obtain ⟨c, r, hcr⟩ : ∃ c r, l = c :: r := by
        cases l with
        | nil => exact absurd rfl wn
        | cons c r => exact ⟨c, r, rfl⟩
      have at0 : atI l 0 = some c := at_head (by rw [hcr]; rfl)
      have ol := GM.ones_len l ((l.length : Int) - 1)
      walk_at "go"
      walk_at "if" <;> intro c2
      · walk_at "go"
        refine iIxSS (by omega) at0 ?_
        walk_at "go"
        walk_at "if" <;> intro c3
        · exact q2 (not_ok (fun h => (ok.mp h).2.2.1 ⟨by omega, by rw [hcr, (List.cons.inj (S_inj.mp (c3.trans lit_0))).1]; rfl⟩)) _ s1
        · have hw : ¬ (1 < l.length ∧ l.head? = some 48) := fun h => c3 (by have e := h.2; rw [hcr] at e; rw [Option.some.inj e]; exact lit_0.symm)
          walk_at "go"
          refine iRLc ⟨by omega, by omega⟩ (fun D i H2 => Same H' H2 ∧ LK H2 D (GM.ones ((l.length : Int) - 1) (l.take i))) (fun D hD => ⟨same_new hD, upd_same⟩) (fun i => rfl) (fun D i H2 hD hi hP => ?_) (fun D H2 hD hP => ?_)
          · obtain ⟨s2, k2⟩ := hP
            have hi' : i < l.length := by omega
            have hc := List.getElem?_eq_getElem hi'
            have hlen : (GM.ones ((l.length : Int) - 1) (l.take i)).length ≤ 1000 := by
              have := GM.ones_len (l.take i) ((l.length : Int) - 1)
              rw [List.length_take] at this
              omega
            walk_at "go"
            refine iIxSS (by omega) (atI_nat hc) ?_
            walk_at "go"
            walk_at "if" <;> intro c4
            · have e4 : l[i] = 49 := (List.cons.inj (S_inj.mp (c4.trans lit_1))).1
              walk_at "go"
              exact ⟨same_app hD s2, by rw [GM.ones_take _ hc, if_pos e4]; exact LK.new⟩
            · have e4 : ¬ l[i] = 49 := fun e => c4 (by rw [e]; exact lit_1.symm)
              exact ⟨s2, by rw [GM.ones_take _ hc, if_neg e4, List.append_nil]; exact k2⟩
          · obtain ⟨s2, k2⟩ := hP
            have k2 : LK H2 D (GM.ones ((l.length : Int) - 1) l) := by
              rw [Int.toNat_natCast, List.take_length] at k2
              exact k2
            walk_at "go"
            refine iIfF (by simp) ?_
            walk_at "go"
            cases cr : GM.isRow (GM.ones ((l.length : Int) - 1) l)
            · refine iNF ?_
              exact q2 (not_ok (fun h => by have := (ok.mp h).2.2.2; rw [cr] at this; cases this)) _ (s1.trans s2)
            · refine iNT ?_
              walk_at "go"
              exact q1 _ (rd _ (ok.mpr ⟨wn, w01, hw, cr⟩) rfl) D _ (free_of s1 hD) (s1.trans s2) k2
      · have hw : ¬ (1 < l.length ∧ l.head? = some 48) := fun h => c2 (by have := h.1; omega)
        walk_at "go"
        refine iRLc ⟨by omega, by omega⟩ (fun D i H2 => Same H' H2 ∧ LK H2 D (GM.ones ((l.length : Int) - 1) (l.take i))) (fun D hD => ⟨same_new hD, upd_same⟩) (fun i => rfl) (fun D i H2 hD hi hP => ?_) (fun D H2 hD hP => ?_)
        · obtain ⟨s2, k2⟩ := hP
          have hi' : i < l.length := by omega
          have hc := List.getElem?_eq_getElem hi'
          have hlen : (GM.ones ((l.length : Int) - 1) (l.take i)).length ≤ 1000 := by
            have := GM.ones_len (l.take i) ((l.length : Int) - 1)
            rw [List.length_take] at this
            omega
          walk_at "go"
          refine iIxSS (by omega) (atI_nat hc) ?_
          walk_at "go"
          walk_at "if" <;> intro c4
          · have e4 : l[i] = 49 := (List.cons.inj (S_inj.mp (c4.trans lit_1))).1
            walk_at "go"
            exact ⟨same_app hD s2, by rw [GM.ones_take _ hc, if_pos e4]; exact LK.new⟩
          · have e4 : ¬ l[i] = 49 := fun e => c4 (by rw [e]; exact lit_1.symm)
            exact ⟨s2, by rw [GM.ones_take _ hc, if_neg e4, List.append_nil]; exact k2⟩
        · obtain ⟨s2, k2⟩ := hP
          have k2 : LK H2 D (GM.ones ((l.length : Int) - 1) l) := by
            rw [Int.toNat_natCast, List.take_length] at k2
            exact k2
          walk_at "go"
          refine iIfF (by simp) ?_
          walk_at "go"
          cases cr : GM.isRow (GM.ones ((l.length : Int) - 1) l)
          · refine iNF ?_
            exact q2 (not_ok (fun h => by have := (ok.mp h).2.2.2; rw [cr] at this; cases this)) _ (s1.trans s2)
          · refine iNT ?_
            walk_at "go"
            exact q1 _ (rd _ (ok.mpr ⟨wn, w01, hw, cr⟩) rfl) D _ (free_of s1 hD) (s1.trans s2) k2
    · -- a point
      have kb : 46 ∉ b := by
        intro hb
        rcases GM.cut_at b with z | ⟨a2, b2, rfl, z⟩
        · exact z hb
        · rw [spl_dot k, spl_dot z] at c0
          have := List.length_pos_iff.mpr (spl_ne b2)
          simp only [List.length_cons] at c0
          omega
      rw [spl_dot k, spl_no kb] at ha t1
      obtain ⟨wn, w01⟩ := ha a List.mem_cons_self
      obtain ⟨bn, b01⟩ := ha b (List.mem_cons_of_mem _ List.mem_cons_self)
      have t1 : LS H' r1 [.str (S a), .str (S b)] := t1
      have ok := GM.okT_B b k
      have rd : ∀ xs, GM.okT (a ++ 46 :: b) → xs = GM.ones ((a.length : Int) - 1) (a ++ b) → GM.readT (a ++ 46 :: b) = some xs := fun xs h e => by
        unfold GM.readT
        rw [if_pos h, GM.marks_B b k, GM.pt_B b k, e]
      have ap : GM.ones ((a.length : Int) - 1) (a ++ b) = GM.ones ((a.length : Int) - 1) a ++ GM.ones (-1) b := by
        rw [GM.ones_app, show (a.length : Int) - 1 - a.length = -1 by omega]
      obtain ⟨c, r, hcr⟩ : ∃ c r, a = c :: r := by
        cases a with
        | nil => exact absurd rfl wn
        | cons c r => exact ⟨c, r, rfl⟩
      have at0 : atI a 0 = some c := at_head (by rw [hcr]; rfl)
      obtain ⟨b', y, hby⟩ : ∃ b' y, b = b' ++ [y] := by
        rcases List.eq_nil_or_concat b with z | ⟨b', y, z⟩
        · exact absurd z bn
        · exact ⟨b', y, by rw [z, List.concat_eq_append]⟩
      have at1 : atI b (-1) = some y := by rw [hby]; exact atI_last _ _
      have ola := GM.ones_len a ((a.length : Int) - 1)
      have olb := GM.ones_len b (-1)
      rw [List.length_append, List.length_cons] at hl
      walk_at "go"
      walk_at "if" <;> intro c2
      · walk_at "go"
        refine iIxSS (by omega) at0 ?_
        walk_at "go"
        walk_at "if" <;> intro c3
        · exact q2 (not_ok (fun h => (ok.mp h).1.2.2 ⟨by omega, by rw [hcr, (List.cons.inj (S_inj.mp (c3.trans lit_0))).1]; rfl⟩)) _ s1
        · have hw : ¬ (1 < a.length ∧ a.head? = some 48) := fun h => c3 (by have e := h.2; rw [hcr] at e; rw [Option.some.inj e]; exact lit_0.symm)
          walk_at "go"
          refine iRLc ⟨by omega, by omega⟩ (fun D i H2 => Same H' H2 ∧ LK H2 D (GM.ones ((a.length : Int) - 1) (a.take i))) (fun D hD => ⟨same_new hD, upd_same⟩) (fun i => rfl) (fun D i H2 hD hi hP => ?_) (fun D H2 hD hP => ?_)
          · obtain ⟨s2, k2⟩ := hP
            have hi' : i < a.length := by omega
            have hc := List.getElem?_eq_getElem hi'
            have hlen : (GM.ones ((a.length : Int) - 1) (a.take i)).length ≤ 1000 := by
              have := GM.ones_len (a.take i) ((a.length : Int) - 1)
              rw [List.length_take] at this
              omega
            walk_at "go"
            refine iIxSS (by omega) (atI_nat hc) ?_
            walk_at "go"
            walk_at "if" <;> intro c4
            · have e4 : a[i] = 49 := (List.cons.inj (S_inj.mp (c4.trans lit_1))).1
              walk_at "go"
              exact ⟨same_app hD s2, by rw [GM.ones_take _ hc, if_pos e4]; exact LK.new⟩
            · have e4 : ¬ a[i] = 49 := fun e => c4 (by rw [e]; exact lit_1.symm)
              exact ⟨s2, by rw [GM.ones_take _ hc, if_neg e4, List.append_nil]; exact k2⟩
          obtain ⟨s2, k2⟩ := hP
          have k2 : LK H2 D (GM.ones ((a.length : Int) - 1) a) := by
            rw [Int.toNat_natCast, List.take_length] at k2
            exact k2
          walk_at "go"
          refine iIxSS (by omega) at1 ?_
          walk_at "go"
          walk_at "if" <;> intro c5
          · exact q2 (not_ok (fun h => (ok.mp h).2.1.2.2 (by rw [hby, List.getLast?_concat, (List.cons.inj (S_inj.mp (c5.trans lit_0))).1]))) _ (s1.trans s2)
          have hz : b.getLast? ≠ some 48 := fun e => c5 (by rw [hby, List.getLast?_concat] at e; rw [Option.some.inj e]; exact lit_0.symm)
          walk_at "go"
          refine iRLc ⟨by omega, by omega⟩ (fun D i H3 => Same H2 H3 ∧ LK H3 D (GM.ones (-1) (b.take i))) (fun D hD => ⟨same_new hD, upd_same⟩) (fun i => rfl) (fun D2 i H3 hD2 hi hP => ?_) (fun D2 H3 hD2 hP => ?_)
          · obtain ⟨s3, k3⟩ := hP
            have hi' : i < b.length := by omega
            have hc := List.getElem?_eq_getElem hi'
            have hlen : (GM.ones (-1) (b.take i)).length ≤ 1000 := by
              have := GM.ones_len (b.take i) (-1)
              rw [List.length_take] at this
              omega
            walk_at "go"
            refine iIxSS (by omega) (atI_nat hc) ?_
            walk_at "go"
            walk_at "if" <;> intro c4
            · have e4 : b[i] = 49 := (List.cons.inj (S_inj.mp (c4.trans lit_1))).1
              walk_at "go"
              exact ⟨same_app hD2 s3, by rw [GM.ones_take _ hc, if_pos e4]; exact LK.new⟩
            · have e4 : ¬ b[i] = 49 := fun e => c4 (by rw [e]; exact lit_1.symm)
              exact ⟨s3, by rw [GM.ones_take _ hc, if_neg e4, List.append_nil]; exact k3⟩
          obtain ⟨s3, k3⟩ := hP
          have k3 : LK H3 D2 (GM.ones (-1) b) := by
            rw [Int.toNat_natCast, List.take_length] at k3
            exact k3
          refine iCatN (LK.ls (k2.same s3)) (LK.ls k3) (by omega) (fun p H4 np s4 k4 => ?_)
          rw [← ap] at k4
          have ol4 := GM.ones_len (a ++ b) ((a.length : Int) - 1)
          rw [List.length_append] at ol4
          walk_at "go"
          have s24 := (s1.trans s2).trans (s3.trans s4)
          cases cr : GM.isRow (GM.ones ((a.length : Int) - 1) (a ++ b))
          · refine iNF ?_
            exact q2 (not_ok (fun h => by have := (ok.mp h).2.2; rw [cr] at this; cases this)) _ s24
          · refine iNT ?_
            walk_at "go"
            exact q1 _ (rd _ (ok.mpr ⟨⟨wn, w01, hw⟩, ⟨bn, b01, hz⟩, cr⟩) rfl) p _ (free_of ((s1.trans s2).trans s3) np) s24 k4
      · have hw : ¬ (1 < a.length ∧ a.head? = some 48) := fun h => c2 (by have := h.1; omega)
        walk_at "go"
        refine iRLc ⟨by omega, by omega⟩ (fun D i H2 => Same H' H2 ∧ LK H2 D (GM.ones ((a.length : Int) - 1) (a.take i))) (fun D hD => ⟨same_new hD, upd_same⟩) (fun i => rfl) (fun D i H2 hD hi hP => ?_) (fun D H2 hD hP => ?_)
        · obtain ⟨s2, k2⟩ := hP
          have hi' : i < a.length := by omega
          have hc := List.getElem?_eq_getElem hi'
          have hlen : (GM.ones ((a.length : Int) - 1) (a.take i)).length ≤ 1000 := by
            have := GM.ones_len (a.take i) ((a.length : Int) - 1)
            rw [List.length_take] at this
            omega
          walk_at "go"
          refine iIxSS (by omega) (atI_nat hc) ?_
          walk_at "go"
          walk_at "if" <;> intro c4
          · have e4 : a[i] = 49 := (List.cons.inj (S_inj.mp (c4.trans lit_1))).1
            walk_at "go"
            exact ⟨same_app hD s2, by rw [GM.ones_take _ hc, if_pos e4]; exact LK.new⟩
          · have e4 : ¬ a[i] = 49 := fun e => c4 (by rw [e]; exact lit_1.symm)
            exact ⟨s2, by rw [GM.ones_take _ hc, if_neg e4, List.append_nil]; exact k2⟩
        obtain ⟨s2, k2⟩ := hP
        have k2 : LK H2 D (GM.ones ((a.length : Int) - 1) a) := by
          rw [Int.toNat_natCast, List.take_length] at k2
          exact k2
        walk_at "go"
        refine iIxSS (by omega) at1 ?_
        walk_at "go"
        walk_at "if" <;> intro c5
        · exact q2 (not_ok (fun h => (ok.mp h).2.1.2.2 (by rw [hby, List.getLast?_concat, (List.cons.inj (S_inj.mp (c5.trans lit_0))).1]))) _ (s1.trans s2)
        have hz : b.getLast? ≠ some 48 := fun e => c5 (by rw [hby, List.getLast?_concat] at e; rw [Option.some.inj e]; exact lit_0.symm)
        walk_at "go"
        refine iRLc ⟨by omega, by omega⟩ (fun D i H3 => Same H2 H3 ∧ LK H3 D (GM.ones (-1) (b.take i))) (fun D hD => ⟨same_new hD, upd_same⟩) (fun i => rfl) (fun D2 i H3 hD2 hi hP => ?_) (fun D2 H3 hD2 hP => ?_)
        · obtain ⟨s3, k3⟩ := hP
          have hi' : i < b.length := by omega
          have hc := List.getElem?_eq_getElem hi'
          have hlen : (GM.ones (-1) (b.take i)).length ≤ 1000 := by
            have := GM.ones_len (b.take i) (-1)
            rw [List.length_take] at this
            omega
          walk_at "go"
          refine iIxSS (by omega) (atI_nat hc) ?_
          walk_at "go"
          walk_at "if" <;> intro c4
          · have e4 : b[i] = 49 := (List.cons.inj (S_inj.mp (c4.trans lit_1))).1
            walk_at "go"
            exact ⟨same_app hD2 s3, by rw [GM.ones_take _ hc, if_pos e4]; exact LK.new⟩
          · have e4 : ¬ b[i] = 49 := fun e => c4 (by rw [e]; exact lit_1.symm)
            exact ⟨s3, by rw [GM.ones_take _ hc, if_neg e4, List.append_nil]; exact k3⟩
        obtain ⟨s3, k3⟩ := hP
        have k3 : LK H3 D2 (GM.ones (-1) b) := by
          rw [Int.toNat_natCast, List.take_length] at k3
          exact k3
        refine iCatN (LK.ls (k2.same s3)) (LK.ls k3) (by omega) (fun p H4 np s4 k4 => ?_)
        rw [← ap] at k4
        have ol4 := GM.ones_len (a ++ b) ((a.length : Int) - 1)
        rw [List.length_append] at ol4
        walk_at "go"
        have s24 := (s1.trans s2).trans (s3.trans s4)
        cases cr : GM.isRow (GM.ones ((a.length : Int) - 1) (a ++ b))
        · refine iNF ?_
          exact q2 (not_ok (fun h => by have := (ok.mp h).2.2; rw [cr] at this; cases this)) _ s24
        · refine iNT ?_
          walk_at "go"
          exact q1 _ (rd _ (ok.mpr ⟨⟨wn, w01, hw⟩, ⟨bn, b01, hz⟩, cr⟩) rfl) p _ (free_of ((s1.trans s2).trans s3) np) s24 k4
end GP
local macro_rules | `(tactic| walk_at "callee") => `(tactic| ((with_reducible refine' GP.c_read ?h1 ?h2 ?_); (case h2 => exact GM.read_note (by assumption)); (case h1 => exact Nat.le_trans (GM.note_len (by assumption)) (by decide)); intro _ _ _ _ _))

-- cut
namespace GP
open PySem L2
/-! slices of texts -/
def cutN (l : List Nat) (lo hi : Option Int) : List Nat := (l.drop (HT.sIx l.length 0 lo)).take (HT.sIx l.length l.length hi - HT.sIx l.length 0 lo)
theorem cutS_S (l : List Nat) (lo hi : Option Int) : cutS (S l) lo hi = S (cutN l lo hi) := by
  unfold cutS cutN
  rw [S_len]
  rfl
theorem cutN_len (l : List Nat) (lo hi : Option Int) : (cutN l lo hi).length ≤ l.length := by
  unfold cutN
  rw [List.length_take, List.length_drop]
  omega
theorem iSlSS {l : List Nat} {lo hi : Option Int} {H : Hp} {Q : VK} (h : l.length ≤ 100000) (q : Q (.str (S (cutN l lo hi))) H) : rSlS (.str (S l)) lo hi H Q :=
  ⟨S l, rfl, by rw [S_len]; exact Nat.le_of_lt (lineK h), by rw [cutS_S]; exact q⟩
theorem sIx_natN (n d : Nat) {i : Int} (h : 0 ≤ i) : HT.sIx n d (some i) = min i.toNat n := by
  unfold HT.sIx
  simp only [if_neg (show ¬ i < 0 by omega)]
theorem cutN_to (ns : List Nat) {i : Int} (h : 0 ≤ i) : cutN ns none (some i) = ns.take i.toNat := by
  unfold cutN
  have e1 : HT.sIx ns.length 0 none = 0 := rfl
  rw [e1, sIx_natN _ _ h, List.drop_zero, Nat.sub_zero]
  by_cases c : i.toNat ≤ ns.length
  · rw [Nat.min_eq_left c]
  · rw [Nat.min_eq_right (by omega), List.take_length, List.take_of_length_le (by omega)]
theorem cutN_from (ns : List Nat) {i : Int} (h : 0 ≤ i) : cutN ns (some i) none = ns.drop i.toNat := by
  unfold cutN
  have e1 : HT.sIx ns.length ns.length none = ns.length := rfl
  rw [e1, sIx_natN _ _ h]
  by_cases c : i.toNat ≤ ns.length
  · rw [Nat.min_eq_left c, List.take_of_length_le (by rw [List.length_drop]; omega)]
  · rw [Nat.min_eq_right (by omega), List.drop_eq_nil_of_le (Nat.le_refl _), List.drop_eq_nil_of_le (by omega), List.take_nil]
theorem lit_01 : (("01" : Str)) = S [48, 49] := by decide +kernel
theorem lit_marks : (("01. \n-+_2xo" : Str)) = S [48, 49, 46, 32, 10, 45, 43, 95, 50, 120, 111] := by decide +kernel
theorem iIxLit {K : PySem.W.Frag} {H : Hp} {Q : VK} {z : Str} {l : List Nat} {i : Int} (e : z = S l) (h0 : 0 ≤ i) (h1 : i < l.length) (h2 : l.length ≤ 100000) (q : ∀ c, Q (.str (S [c])) H) : rIx K (.str z) (.int i) H Q := by
  subst e
  have hk : i.toNat < l.length := by omega
  have ek : ((i.toNat : Nat) : Int) = i := by omega
  have a : atI l ((i.toNat : Nat) : Int) = some l[i.toNat] := atI_nat (List.getElem?_eq_getElem hk)
  rw [ek] at a
  exact iIxSS h2 a (q _)
theorem lenN_two {l m : List Nat} (h1 : l.length ≤ 50000) (h2 : m.length ≤ 50000) : l.length + m.length ≤ 100000 := by omega
theorem lenN_cut {l : List Nat} {lo hi : Option Int} {N : Nat} (h : l.length ≤ N) : (cutN l lo hi).length ≤ N := Nat.le_trans (cutN_len _ _ _) h
theorem lenN_c3 (l : List Nat) (a b d e : Option Int) (c : Nat) : (cutN l a b ++ [c] ++ cutN l d e).length ≤ 2 * l.length + 1 := by
  have h1 := cutN_len l a b
  have h2 := cutN_len l d e
  simp only [List.length_append, List.length_cons, List.length_nil]
  omega
theorem lenN_app {l m : List Nat} {N : Nat} (h1 : l.length ≤ N / 2) (h2 : m.length ≤ N / 2) : (l ++ m).length ≤ N := by rw [List.length_append]; omega
end GP
local macro_rules | `(tactic| walk_at "lbN") => `(tactic| first
  | ((with_reducible refine GP.lenN_cut ?_); walk_at "lbN")
  | ((with_reducible refine GP.lenN_app ?_ ?_) <;> walk_at "lbN")
  | omega
  | (simp only [List.length_cons, List.length_nil]; omega))
local macro_rules | `(tactic| walk_at "callee") => `(tactic| first
  | ((with_reducible refine' GP.iSlSS ?h ?_); (case h => walk_at "lbN"))
  | ((with_reducible refine' GP.iLenSS ?h ?_); (case h => walk_at "lbN"))
  | ((with_reducible refine' GP.iAddSS ?e1 ?e2 ?h ?_); (case e1 => first | with_reducible exact GP.lit_dot | with_reducible exact GP.lit_0 | with_reducible exact GP.lit_1 | with_reducible exact GP.lit_nil | with_reducible exact rfl); (case e2 => first | with_reducible exact GP.lit_dot | with_reducible exact GP.lit_0 | with_reducible exact GP.lit_1 | with_reducible exact GP.lit_nil | with_reducible exact rfl); (case h => (with_reducible refine GP.lenN_two ?_ ?_) <;> walk_at "lbN"))
  | ((with_reducible refine' GP.iIxLit ?e ?h0 ?h1 ?h2 ?_); (case e => first | with_reducible exact GP.lit_01 | with_reducible exact GP.lit_marks); (case h0 => omega); (case h1 => simp only [List.length_cons, List.length_nil]; omega); (case h2 => decide); intro _))
namespace GP
open PySem L2
def sp__law_figures : Sp := fun vs H Q _ => ∃ (cell many : Int) (plain : Bool), vs = [.int cell, .int many, .bl plain] ∧ 0 ≤ many ∧ many ≤ 100 ∧ ∀ l : List Nat, l.length ≤ 100 → Q (.str (S l)) H
theorem c_lfig {H : Hp} {Q : VK} {E : XK} {cell many : Int} {plain : Bool} (h0 : 0 ≤ many) (h1 : many ≤ 100) (q : ∀ l : List Nat, l.length ≤ 100 → Q (.str (S l)) H) : sp__law_figures [.int cell, .int many, .bl plain] H Q E := ⟨cell, many, plain, rfl, h0, h1, q⟩
theorem ok__law_figures {P : Program} {w : World} {K : PySem.W.Frag} {mg : Str → Option Value} {base : Heap} {f : Addr} {fd : FuncData} (F : Fun K "_law_figures" "_law_figures" s__law_figures f fd) (nb : NB mg) : FnOk P w K mg base CX0 1 f fd ["cell", "many", "plain"] sp__law_figures := by
  refine F.ok sc__law_figures (fun vs H Q E h => ?_) (fun cdv A outer s H vs Q E hr h => ?_)
  · obtain ⟨cell, many, plain, rfl, _⟩ := h
    rfl
  obtain ⟨cell, many, plain, rfl, h0, h1, q⟩ := h
  refine ⟨_, (pss_cons (ps_set (i := 3) sc__law_figures.nd rfl (Or.inl rfl) pe_str)
      (pss_cons (ps_for PassesOwn.never rfl (pi_range1 (by rfl) nb.range (pa_cons (pv 1) pa_nil)) (pg_name (i := 4) sc__law_figures.nd rfl (Or.inl rfl)) (pss_cons (ps_if (PW.pt (pw_and (pt_val (pv 2)) (pw_and1 (pt_cmpR op_eq (pe_slice sl_str (pv 3) (po_some (pe_un un_neg pe_int)) po_none) pe_str (nomark _))))) (pss_one (ps_set (i := 3) sc__law_figures.nd rfl (Or.inl rfl) (pe_op g_addS (pv 3) pe_str))) (pss_one (ps_set (i := 3) sc__law_figures.nd rfl (Or.inl rfl) (pe_op g_addS (pv 3) (pe_ix ix_seq pe_str (pe_op op_mod (pv 0) pe_int) (fun _ _ => rfl))))))
      (pss_one (ps_set (i := 0) sc__law_figures.nd rfl (Or.inl rfl) (pe_op op_fdivA (pv 0) pe_int)))))
      (pss_one (ps_ret (pv 3))))), ?_⟩
  walk_at "go"
  refine iRF1 ⟨by omega, by omega⟩ (fun i σ' H' => ∃ (c : Int) (z : Str) (l : List Nat) (z2 : Option V), z = S l ∧ l.length ≤ i ∧ σ' = [some (.int c), some (.int many), some (.bl plain), some (.str z), z2] ∧ H' = H) ⟨cell, _, [], none, lit_nil, Nat.le_refl 0, rfl, rfl⟩ (fun i σ' H' hi hP => ?_) (fun σ' H' hP => ?_)
  · obtain ⟨c, z, l, z2, ez, hl, rfl, rfl⟩ := hP
    subst ez
    walk_at "ifs"
    all_goals exact ⟨_, _, _, _, rfl, (by rw [List.length_append]; simp only [List.length_cons, List.length_nil]; omega), rfl, rfl⟩
  · obtain ⟨c, z, l, z2, ez, hl, rfl, rfl⟩ := hP
    subst ez
    walk_at "go"
    exact q l (by omega)
end GP
local macro_rules | `(tactic| walk_at "callee") => `(tactic| ((with_reducible refine GP.c_lfig ?h0 ?h1 ?_); (case h0 => omega); (case h1 => omega); intro _ _))
namespace GP
open PySem L2
def sp__law_text (K : PySem.W.Frag) : Sp := fun vs H Q _ => ∃ (a : Addr) (ns : List Int), vs = [.ref a] ∧ SqL K H a (ns.map V.int) ∧ ∀ l : List Nat, l.length ≤ 1000 → Q (.str (S l)) H
theorem c_ltext {K : PySem.W.Frag} {H : Hp} {Q : VK} {E : XK} {a : Addr} {ns : List Int} (h1 : SqL K H a (ns.map V.int)) (q : ∀ l : List Nat, l.length ≤ 1000 → Q (.str (S l)) H) : sp__law_text K [.ref a] H Q E := ⟨a, ns, rfl, h1, q⟩
theorem ok__law_text {P : Program} {w : World} {K : PySem.W.Frag} {mg : Str → Option Value} {base : Heap} {f : Addr} {fd : FuncData} (F : Fun K "_law_text" "_law_text" s__law_text f fd) (nb : NB mg) (c__law_figures : Cal P w K mg base CX0 1 "_law_figures" ["cell", "many", "plain"] sp__law_figures) (c__law_cell_at : Cal P w K mg base CX0 1 "_law_cell_at" ["script", "k"] (sp__law_cell_at K)) : FnOk P w K mg base CX0 2 f fd ["script"] (sp__law_text K) := by
  refine F.ok sc__law_text (fun vs H Q E h => ?_) (fun cdv A outer s H vs Q E hr h => ?_)
  · obtain ⟨a, ns, rfl, _⟩ := h
    rfl
  obtain ⟨a, ns, rfl, hS, q⟩ := h
  refine ⟨_, (pss_cons (ps_set (i := 1) sc__law_text.nd rfl (Or.inl rfl) (pe_op op_mod (pe_callC c__law_cell_at hr pass0 (pa_cons (pv 0) (pa_cons pe_int pa_nil))) pe_int))
      (pss_cons (ps_if (pt_cmpR op_eq (pe_op op_mod (pe_op op_fdivA (pe_callC c__law_cell_at hr pass0 (pa_cons (pv 0) (pa_cons pe_int pa_nil))) pe_int) pe_int) pe_int (nomark _)) (pss_one (ps_set (i := 1) sc__law_text.nd rfl (Or.inl rfl) (pe_op op_add pe_int (pe_op op_mod (pe_op op_fdivA (pe_callC c__law_cell_at hr pass0 (pa_cons (pv 0) (pa_cons pe_int pa_nil))) pe_int) pe_int)))) pss_nil)
      (pss_cons (ps_set (i := 2) sc__law_text.nd rfl (Or.inl rfl) (pe_cmpR op_gt (pe_op op_mod (pe_callC c__law_cell_at hr pass0 (pa_cons (pv 0) (pa_cons pe_int pa_nil))) pe_int) pe_int (nomark _)))
      (pss_cons (ps_set (i := 3) sc__law_text.nd rfl (Or.inl rfl) (pe_callC c__law_figures hr pass0 (pa_cons (pe_callC c__law_cell_at hr pass0 (pa_cons (pv 0) (pa_cons pe_int pa_nil))) (pa_cons (pv 1) (pa_cons (pv 2) pa_nil)))))
      (pss_cons (ps_if (pt_cmpR op_eq (pe_op op_mod (pe_callC c__law_cell_at hr pass0 (pa_cons (pv 0) (pa_cons pe_int pa_nil))) pe_int) pe_int (nomark _)) (pss_cons (ps_set (i := 1) sc__law_text.nd rfl (Or.inl rfl) (pe_op op_mod (pe_callC c__law_cell_at hr pass0 (pa_cons (pv 0) (pa_cons pe_int pa_nil))) pe_int))
      (pss_cons (ps_if (pt_cmpR op_eq (pe_op op_mod (pe_op op_fdivA (pe_callC c__law_cell_at hr pass0 (pa_cons (pv 0) (pa_cons pe_int pa_nil))) pe_int) pe_int) pe_int (nomark _)) (pss_one (ps_set (i := 1) sc__law_text.nd rfl (Or.inl rfl) (pe_op op_add pe_int (pe_op op_mod (pe_op op_fdivA (pe_callC c__law_cell_at hr pass0 (pa_cons (pv 0) (pa_cons pe_int pa_nil))) pe_int) pe_int)))) pss_nil)
      (pss_one (ps_set (i := 3) sc__law_text.nd rfl (Or.inl rfl) (pe_op g_addS (pe_op g_addS (pv 3) pe_str) (pe_callC c__law_figures hr pass0 (pa_cons (pe_callC c__law_cell_at hr pass0 (pa_cons (pv 0) (pa_cons pe_int pa_nil))) (pa_cons (pv 1) (pa_cons (pv 2) pa_nil))))))))) pss_nil)
      (pss_cons (ps_set (i := 4) sc__law_text.nd rfl (Or.inl rfl) (pe_op op_mod (pe_callC c__law_cell_at hr pass0 (pa_cons (pv 0) (pa_cons pe_int pa_nil))) (pe_op op_add (pe_callB g_lenS (by rfl) nb.len (by decide +kernel) (pa_cons (pv 3) pa_nil)) pe_int)))
      (pss_cons (ps_set (i := 5) sc__law_text.nd rfl (Or.inl rfl) (pe_ix ix_seq pe_str (pe_op op_mod (pe_callC c__law_cell_at hr pass0 (pa_cons (pv 0) (pa_cons pe_int pa_nil))) pe_int) (fun _ _ => rfl)))
      (pss_cons (ps_if (pt_cmpR op_eq (pe_op op_mod (pe_callC c__law_cell_at hr pass0 (pa_cons (pv 0) (pa_cons pe_int pa_nil))) pe_int) pe_int (nomark _)) (pss_one (ps_ret (pe_op g_addS (pe_op g_addS (pe_slice sl_str (pv 3) po_none (po_some (pv 4))) (pv 5)) (pe_slice sl_str (pv 3) (po_some (pv 4)) po_none)))) pss_nil)
      (pss_cons (ps_if (pt_cmpR op_eq (pe_op op_mod (pe_callC c__law_cell_at hr pass0 (pa_cons (pv 0) (pa_cons pe_int pa_nil))) pe_int) pe_int (nomark _)) (pss_one (ps_ret (pe_op g_addS (pe_op g_addS (pe_slice sl_str (pv 3) po_none (po_some (pv 4))) (pv 5)) (pe_slice sl_str (pv 3) (po_some (pe_op op_add (pv 4) pe_int)) po_none)))) pss_nil)
      (pss_one (ps_ret (pv 3)))))))))))), ?_⟩
  walk_at "ifs"
  all_goals
    refine q _ ?_
    first
      | omega
      | (refine Nat.le_trans (lenN_c3 _ _ _ _ _ _) ?_; (try simp only [List.length_append, List.length_cons, List.length_nil]); omega)
      | ((try simp only [List.length_append, List.length_cons, List.length_nil]); omega)
def sp__law_places : Sp := fun vs H Q _ => ∃ l : List Nat, vs = [.str (S l)] ∧ l.length ≤ 1000 ∧
  (GM.readT l = none → ∀ H', Same H H' → Q .non H') ∧ (∀ xs, GM.readT l = some xs → ∀ r H', Same H H' → LI H' r xs → xs.length ≤ 1000 → Q r H')
theorem ok__law_places {P : Program} {w : World} {K : PySem.W.Frag} {mg : Str → Option Value} {base : Heap} {f : Addr} {fd : FuncData} (F : Fun K "_law_places" "_law_places" s__law_places f fd) (nb : NB mg) : FnOk P w K mg base CX0 1 f fd ["text"] sp__law_places := by
  refine F.ok sc__law_places (fun vs H Q E h => ?_) (fun cdv A outer s H vs Q E hr h => ?_)
  · obtain ⟨l, rfl, _⟩ := h
    rfl
  obtain ⟨l, rfl, hl, q1, q2⟩ := h
  have pl := GM.pt_le l
  have bad : ¬ GM.okT l → ∀ H', Same H H' → Q .non H' := fun h => q1 (if_neg h)
  refine ⟨_, (pss_cons (ps_set (i := 1) sc__law_places.nd rfl (Or.inr rfl) (pe_callB g_lenS (by rfl) nb.len (by decide +kernel) (pa_cons (pv 0) pa_nil)))
      (pss_cons (ps_for PassesOwn.never rfl (pi_range1 (by rfl) nb.range (pa_cons (pe_callB g_lenS (by rfl) nb.len (by decide +kernel) (pa_cons (pv 0) pa_nil)) pa_nil)) (pg_name (i := 2) sc__law_places.nd rfl (Or.inl rfl)) (pss_one (ps_if (PW.pt (pw_and (pt_cmpR op_eq (pe_ix ix_seq (pv 0) (pv 2) (fun _ _ => rfl)) pe_str (nomark _)) (pw_and1 (pt_cmpR op_eq (pv 1) (pe_callB g_lenS (by rfl) nb.len (by decide +kernel) (pa_cons (pv 0) pa_nil)) (nomark _))))) (pss_one (ps_set (i := 1) sc__law_places.nd rfl (Or.inr rfl) (pv 2))) (pss_one (ps_if (PW.pt (pw_and (pt_cmpR op_ne (pe_ix ix_seq (pv 0) (pv 2) (fun _ _ => rfl)) pe_str (nomark _)) (pw_and1 (pt_cmpR op_ne (pe_ix ix_seq (pv 0) (pv 2) (fun _ _ => rfl)) pe_str (nomark _))))) (pss_one (ps_ret pe_non)) pss_nil)))))
      (pss_cons (ps_if (PW.pt (pw_or (pt_cmpR op_eq (pv 1) pe_int (nomark _)) (pw_or (pt_cmpR op_eq (pv 1) (pe_op op_sub (pe_callB g_lenS (by rfl) nb.len (by decide +kernel) (pa_cons (pv 0) pa_nil)) pe_int) (nomark _)) (pw_or1 (PW.pt (pw_and (pt_cmpR op_gt (pv 1) pe_int (nomark _)) (pw_and1 (pt_cmpR op_eq (pe_ix ix_seq (pv 0) pe_int (fun _ _ => rfl)) pe_str (nomark _))))))))) (pss_one (ps_ret pe_non)) pss_nil)
      (pss_cons (ps_if (PW.pt (pw_and (pt_cmpR op_lt (pv 1) (pe_callB g_lenS (by rfl) nb.len (by decide +kernel) (pa_cons (pv 0) pa_nil)) (nomark _)) (pw_and1 (pt_cmpR op_eq (pe_ix ix_seq (pv 0) (pe_un un_neg pe_int) (fun _ _ => rfl)) pe_str (nomark _))))) (pss_one (ps_ret pe_non)) pss_nil)
      (pss_cons (ps_set (i := 3) sc__law_places.nd rfl (Or.inr rfl) (pe_op g_addS (pe_slice sl_str (pv 0) po_none (po_some (pv 1))) (pe_slice sl_str (pv 0) (po_some (pe_op op_add (pv 1) pe_int)) po_none)))
      (pss_cons (ps_setLc (i := 4) (own := [("k", 2)]) (g := gName 2) (tt := (tTest (tOp rEq (tOp (rIx K) (tVar 3) (tVar 2)) (tC (V.str "1"))))) (te := (tOp (rI0 fun i j => V.int (i - j)) (tOp (rI0 fun i j => V.int (i - j)) (tVar 1) (tC (V.int 1))) (tVar 2))) rfl sc__law_places.nd rfl rfl (sw_true rfl rfl rfl (by decide +kernel)) (pi_range1 (by rfl) nb.range (pa_cons (pe_callB g_lenS (by rfl) nb.len (by decide +kernel) (pa_cons (pv 3) pa_nil)) pa_nil)) (blkOk_by (own := [("k", 2)]) (N := N__law_places) (sc := defScope s__law_places) (by decide +kernel)) (fun _ _ _ _ _ => pg_name (i := 2) sc__law_places.nd rfl (Or.inl rfl)) (fun _ _ _ _ _ => (pts_one (pt_cmpR op_eq (pe_ix ix_seq (pv 3) (pv 2) (fun _ _ => rfl)) pe_str (nomark _)))) (fun _ _ _ _ _ => (pe_op op_sub (pe_op op_sub (pv 1) pe_int) (pv 2))))
      (pss_cons (ps_for PassesOwn.never rfl (pi_range1 (by rfl) nb.range (pa_cons (pe_callB g_len (by rfl) nb.len (by decide +kernel) (pa_cons (pv 4) pa_nil)) pa_nil)) (pg_name (i := 2) sc__law_places.nd rfl (Or.inl rfl)) (pss_one (ps_if (PW.pt (pw_or (pt_cmpR op_gt (pe_ix ix_seq (pv 4) (pv 2) (fun _ _ => rfl)) pe_int (nomark _)) (pw_or (pt_cmpR op_lt (pe_ix ix_seq (pv 4) (pv 2) (fun _ _ => rfl)) (pe_un un_neg pe_int) (nomark _)) (pw_or1 (PW.pt (pw_and (pt_cmpR op_gt (pv 2) pe_int (nomark _)) (pw_and1 (pt_cmpR op_lt (pe_op op_sub (pe_ix ix_seq (pv 4) (pe_op op_sub (pv 2) pe_int) (fun _ _ => rfl)) (pe_ix ix_seq (pv 4) (pv 2) (fun _ _ => rfl))) pe_int (nomark _))))))))) (pss_one (ps_ret pe_non)) pss_nil)))
      (pss_one (ps_ret (pv 4)))))))))), ?_⟩
  walk_at "go"
  refine iRF1 ⟨by omega, by omega⟩ (fun i σ' H' => ∃ (p : Int) (z2 : Option V), p = (if i ≤ GM.pt l then (l.length : Int) else (GM.pt l : Int)) ∧ σ' = [some (.str (S l)), some (.int p), z2, none, none] ∧ H' = H ∧ ∀ j x, j < i → j ≠ GM.pt l → l[j]? = some x → x = 48 ∨ x = 49) ⟨_, none, by rw [if_pos (Nat.zero_le _)], rfl, rfl, fun j x hj => by omega⟩ (fun i σ' H' hi hP => ?_) (fun σ' H' hP => ?_)
  · obtain ⟨p, z2, ep, rfl, rfl, ha⟩ := hP
    have hi' : i < l.length := by omega
    have hc := List.getElem?_eq_getElem hi'
    have is46 : S [l[i]] = ("." : Str) → l[i] = 46 := fun e => (List.cons.inj (S_inj.mp (e.trans lit_dot))).1
    have not46 : ¬ S [l[i]] = ("." : Str) → l[i] ≠ 46 := fun e z => e (by rw [z]; exact lit_dot.symm)
    have is48 : S [l[i]] = ("0" : Str) → l[i] = 48 := fun e => (List.cons.inj (S_inj.mp (e.trans lit_0))).1
    have is49 : S [l[i]] = ("1" : Str) → l[i] = 49 := fun e => (List.cons.inj (S_inj.mp (e.trans lit_1))).1
    have not48 : ¬ S [l[i]] = ("0" : Str) → l[i] ≠ 48 := fun e z => e (by rw [z]; exact lit_0.symm)
    have not49 : ¬ S [l[i]] = ("1" : Str) → l[i] ≠ 49 := fun e z => e (by rw [z]; exact lit_1.symm)
    -- the next turn
    have nxt : (l[i] = 48 ∨ l[i] = 49) → ∃ (p' : Int) (z2 : Option V), p' = (if i + 1 ≤ GM.pt l then (l.length : Int) else (GM.pt l : Int)) ∧ [some (.str (S l)), some (.int p), some (.int (i : Nat)), none, none] = [some (V.str (S l)), some (.int p'), z2, none, none] ∧ H' = H' ∧ ∀ j x, j < i + 1 → j ≠ GM.pt l → l[j]? = some x → x = 48 ∨ x = 49 := fun h => by
      have ni : i ≠ GM.pt l := fun e => by
        have := GM.pt_at (l := l) (x := l[i]) (by rw [← e]; exact hc)
        omega
      refine ⟨p, _, ?_, rfl, rfl, fun j x hj hn hx => ?_⟩
      · rw [ep]; split <;> split <;> omega
      · by_cases c : j = i
        · subst c
          rw [hc] at hx
          rw [← Option.some.inj hx]; exact h
        · exact ha j x (by omega) hn hx
    have fail : l[i] ≠ 48 → l[i] ≠ 49 → ¬ (l[i] = 46 ∧ p = l.length) → ¬ GM.okT l := fun h0 h1 h2 hok => by
      have am := GM.all_marks.mp hok.1
      by_cases e : i = GM.pt l
      · have e46 := GM.pt_at (l := l) (x := l[i]) (by rw [← e]; exact hc)
        exact h2 ⟨e46, by rw [ep, if_pos (by omega)]⟩
      · have := am i _ e hc
        omega
    walk_at "go"
    refine iIxSS (by omega) (atI_nat hc) ?_
    walk_at "go"
    walk_at "if" <;> intro c1
    · have c1' := is46 c1
      walk_at "go"
      walk_at "if" <;> intro c2
      · walk_at "go"
        have ei : i = GM.pt l := by
          by_cases d : i < GM.pt l
          · exact absurd c1' (GM.pt_lt d hc)
          · rw [ep] at c2
            split at c2 <;> omega
        refine ⟨_, _, ?_, rfl, rfl, fun j x hj hn hx => ha j x (by omega) hn hx⟩
        rw [if_neg (by omega), ei]
      · walk_at "go"
        refine iIxSS (by omega) (atI_nat hc) ?_
        walk_at "go"
        refine iIfNF (fun z => by have := is48 z; omega) ?_
        walk_at "go"
        refine iIxSS (by omega) (atI_nat hc) ?_
        walk_at "go"
        refine iIfNF (fun z => by have := is49 z; omega) ?_
        walk_at "go"
        exact bad (fail (by omega) (by omega) (fun h => c2 h.2)) _ (Same.refl _)
    · have c1' := not46 c1
      walk_at "go"
      refine iIxSS (by omega) (atI_nat hc) ?_
      walk_at "go"
      walk_at "if" <;> intro c3
      · walk_at "go"
        refine iIxSS (by omega) (atI_nat hc) ?_
        walk_at "go"
        walk_at "if" <;> intro c4
        · walk_at "go"
          exact bad (fail (not48 c3) (not49 c4) (fun h => c1' h.1)) _ (Same.refl _)
        · walk_at "go"
          exact nxt (.inr (is49 c4))
      · walk_at "go"
        exact nxt (.inl (is48 c3))
  · obtain ⟨p, z2, ep, rfl, rfl, ha⟩ := hP
    have ep : p = (GM.pt l : Int) := by rw [ep]; split <;> omega
    subst ep
    have am : GM.all01 (GM.marks l) := GM.all_marks.mpr (fun j x hn hx => by
      have hj : j < l.length := by
        by_cases c : j < l.length
        · exact c
        · rw [List.getElem?_eq_none (by omega)] at hx; cases hx
      exact ha j x hj hn hx)
    have ok : GM.okT l ↔ GM.pt l ≠ 0 ∧ GM.pt l + 1 ≠ l.length ∧ ¬ (1 < GM.pt l ∧ l.head? = some 48) ∧ ¬ (GM.pt l < l.length ∧ l.getLast? = some 48) ∧ GM.isRow (GM.ones ((GM.pt l : Int) - 1) (GM.marks l)) = true := ⟨fun h => h.2, fun h => ⟨am, h⟩⟩
    have rd : GM.okT l → GM.readT l = some (GM.ones ((GM.pt l : Int) - 1) (GM.marks l)) := fun h => if_pos h
    clear ha
    have hlen : (GM.marks l).length ≤ l.length := by
      unfold GM.marks
      rw [List.length_append, List.length_take, List.length_drop]; omega
    have olen := GM.ones_len (GM.marks l) ((GM.pt l : Int) - 1)
    walk_at "go"
    walk_at "if" <;> intro c1
    · walk_at "go"
      exact bad (fun h => (ok.mp h).1 (by omega)) _ (Same.refl _)
    walk_at "go"
    walk_at "if" <;> intro c2
    · walk_at "go"
      exact bad (fun h => (ok.mp h).2.1 (by omega)) _ (Same.refl _)
    obtain ⟨c, r, hcr⟩ : ∃ c r, l = c :: r := by
      cases l with
      | nil => rw [List.length_nil] at pl; omega
      | cons c r => exact ⟨c, r, rfl⟩
    have at0 : atI l 0 = some c := at_head (by rw [hcr]; rfl)
    obtain ⟨b', y, hby⟩ : ∃ b' y, l = b' ++ [y] := by
      rcases List.eq_nil_or_concat l with z | ⟨b', y, z⟩
      · rw [z] at hcr; cases hcr
      · exact ⟨b', y, by rw [z, List.concat_eq_append]⟩
    have at1 : atI l (-1) = some y := by rw [hby]; exact atI_last _ _
    have hh : S [c] = ("0" : Str) ↔ l.head? = some 48 := by
      rw [lit_0, S_inj, hcr]
      exact ⟨fun h => by rw [(List.cons.inj h).1]; rfl, fun h => by rw [Option.some.inj h]⟩
    have hy : S [y] = ("0" : Str) ↔ l.getLast? = some 48 := by
      rw [lit_0, S_inj, hby, List.getLast?_concat]
      exact ⟨fun h => by rw [(List.cons.inj h).1], fun h => by rw [Option.some.inj h]⟩
    have cm : cutN l none (some (GM.pt l : Int)) ++ cutN l (some ((GM.pt l : Int) + 1)) none = GM.marks l := by
      rw [cutN_to l (by omega), cutN_from l (by omega), show ((GM.pt l : Int) + 1).toNat = GM.pt l + 1 by omega, Int.toNat_natCast]
      rfl
    by_cases c3 : 1 < GM.pt l ∧ l.head? = some 48
    · have c3a := c3.1
      walk_at "go"
      refine iIxSS (by omega) at0 ?_
      walk_at "go"
      refine iIfT (hh.mpr c3.2) ?_
      walk_at "go"
      exact bad (fun h => (ok.mp h).2.2.1 c3) _ (Same.refl _)
    by_cases c4 : GM.pt l < l.length ∧ l.getLast? = some 48
    · have rest : ∀ (P : Prop), P → P := fun _ h => h
      have c4a := c4.1
      walk_at "go"
      walk_at "if" <;> intro c5
      · walk_at "go"
        refine iIxSS (by omega) at0 ?_
        walk_at "go"
        refine iIfF (fun z => c3 ⟨by omega, hh.mp z⟩) ?_
        walk_at "go"
        refine iIxSS (by omega) at1 ?_
        walk_at "go"
        refine iIfT (hy.mpr c4.2) ?_
        walk_at "go"
        exact bad (fun h => (ok.mp h).2.2.2.1 c4) _ (Same.refl _)
      · walk_at "go"
        refine iIxSS (by omega) at1 ?_
        walk_at "go"
        refine iIfT (hy.mpr c4.2) ?_
        walk_at "go"
        exact bad (fun h => (ok.mp h).2.2.2.1 c4) _ (Same.refl _)
    walk_at "go"
    walk_at "if" <;> intro c5 <;> walk_at "go"
    · refine iIxSS (by omega) at0 ?_
      walk_at "go"
      refine iIfF (fun z => c3 ⟨by omega, hh.mp z⟩) ?_
      walk_at "go"
      walk_at "if" <;> intro c6 <;> walk_at "go"
      · refine iIxSS (by omega) at1 ?_
        walk_at "go"
        refine iIfF (fun z => c4 ⟨by omega, hy.mp z⟩) ?_
        walk_at "go"
        rw [cm]
        walk_at "go"
        refine iRLc ⟨by omega, by omega⟩ (fun D i H2 => Same H' H2 ∧ LK H2 D (GM.ones ((GM.pt l : Int) - 1) ((GM.marks l).take i))) (fun D hD => ⟨same_new hD, upd_same⟩) (fun i => rfl) (fun D i H2 hD hi hP => ?_) (fun D H2 hD hP => ?_)
        · obtain ⟨s2, k2⟩ := hP
          have hi' : i < (GM.marks l).length := by omega
          have hc := List.getElem?_eq_getElem hi'
          have hlen2 : (GM.ones ((GM.pt l : Int) - 1) ((GM.marks l).take i)).length ≤ 1000 := by
            have := GM.ones_len ((GM.marks l).take i) ((GM.pt l : Int) - 1)
            rw [List.length_take] at this
            omega
          walk_at "go"
          refine iIxSS (by omega) (atI_nat hc) ?_
          walk_at "go"
          walk_at "if" <;> intro c4
          · have e4 : (GM.marks l)[i] = 49 := (List.cons.inj (S_inj.mp (c4.trans lit_1))).1
            walk_at "go"
            exact ⟨same_app hD s2, by rw [GM.ones_take _ hc, if_pos e4]; exact LK.new⟩
          · have e4 : ¬ (GM.marks l)[i] = 49 := fun e => c4 (by rw [e]; exact lit_1.symm)
            exact ⟨s2, by rw [GM.ones_take _ hc, if_neg e4, List.append_nil]; exact k2⟩
        · obtain ⟨s2, k2⟩ := hP
          have k2 : LK H2 D (GM.ones ((GM.pt l : Int) - 1) (GM.marks l)) := by
            rw [Int.toNat_natCast, List.take_length] at k2
            exact k2
          generalize hrow : GM.ones ((GM.pt l : Int) - 1) (GM.marks l) = row at *
          walk_at "go"
          refine iRF1 ⟨by omega, by omega⟩ (fun i σ' H3 => ∃ (z : Option V), σ' = [some (.str (S l)), some (.int (GM.pt l : Nat)), z, some (.str (S (GM.marks l))), some (.ref D)] ∧ H3 = H2 ∧ ∀ k, k < i → GM.rowAt row k = true) ⟨_, rfl, rfl, fun k hk => by omega⟩ (fun i σ' H3 hi hP => ?_) (fun σ' H3 hP => ?_)
          · obtain ⟨z, rfl, rfl, hk⟩ := hP
            have badr : ¬ (row.getD i 0 ≤ 80 ∧ -80 ≤ row.getD i 0 ∧ (0 < i → 2 ≤ row.getD (i - 1) 0 - row.getD i 0)) → Q .non H3 := fun hb => bad (fun h => by
              have := GM.isRow_iff.mp (ok.mp h).2.2.2.2 i (by omega)
              exact hb (GM.rowAt_iff.mp this)) _ s2
            have good : (row.getD i 0 ≤ 80 ∧ -80 ≤ row.getD i 0 ∧ (0 < i → 2 ≤ row.getD (i - 1) 0 - row.getD i 0)) → ∀ k, k < i + 1 → GM.rowAt row k = true := fun hg k hk' => by
              by_cases c : k = i
              · rw [c]; exact GM.rowAt_iff.mpr hg
              · exact hk k (by omega)
            walk_at "ifs"
            all_goals first
              | exact badr (by omega)
              | exact ⟨_, rfl, rfl, good (by omega)⟩
          · obtain ⟨z, rfl, rfl, hk⟩ := hP
            have hr1 : GM.isRow row = true := GM.isRow_iff.mpr (fun k h => hk k (by omega))
            walk_at "go"
            exact q2 _ (rd (ok.mpr ⟨by omega, by omega, c3, by assumption, hr1⟩)) _ _ s2 (LK.ls k2) (by omega)
      · rw [cm]
        walk_at "go"
        refine iRLc ⟨by omega, by omega⟩ (fun D i H2 => Same H' H2 ∧ LK H2 D (GM.ones ((GM.pt l : Int) - 1) ((GM.marks l).take i))) (fun D hD => ⟨same_new hD, upd_same⟩) (fun i => rfl) (fun D i H2 hD hi hP => ?_) (fun D H2 hD hP => ?_)
        · obtain ⟨s2, k2⟩ := hP
          have hi' : i < (GM.marks l).length := by omega
          have hc := List.getElem?_eq_getElem hi'
          have hlen2 : (GM.ones ((GM.pt l : Int) - 1) ((GM.marks l).take i)).length ≤ 1000 := by
            have := GM.ones_len ((GM.marks l).take i) ((GM.pt l : Int) - 1)
            rw [List.length_take] at this
            omega
          walk_at "go"
          refine iIxSS (by omega) (atI_nat hc) ?_
          walk_at "go"
          walk_at "if" <;> intro c4
          · have e4 : (GM.marks l)[i] = 49 := (List.cons.inj (S_inj.mp (c4.trans lit_1))).1
            walk_at "go"
            exact ⟨same_app hD s2, by rw [GM.ones_take _ hc, if_pos e4]; exact LK.new⟩
          · have e4 : ¬ (GM.marks l)[i] = 49 := fun e => c4 (by rw [e]; exact lit_1.symm)
            exact ⟨s2, by rw [GM.ones_take _ hc, if_neg e4, List.append_nil]; exact k2⟩
        · obtain ⟨s2, k2⟩ := hP
          have k2 : LK H2 D (GM.ones ((GM.pt l : Int) - 1) (GM.marks l)) := by
            rw [Int.toNat_natCast, List.take_length] at k2
            exact k2
          generalize hrow : GM.ones ((GM.pt l : Int) - 1) (GM.marks l) = row at *
          walk_at "go"
          refine iRF1 ⟨by omega, by omega⟩ (fun i σ' H3 => ∃ (z : Option V), σ' = [some (.str (S l)), some (.int (GM.pt l : Nat)), z, some (.str (S (GM.marks l))), some (.ref D)] ∧ H3 = H2 ∧ ∀ k, k < i → GM.rowAt row k = true) ⟨_, rfl, rfl, fun k hk => by omega⟩ (fun i σ' H3 hi hP => ?_) (fun σ' H3 hP => ?_)
          · obtain ⟨z, rfl, rfl, hk⟩ := hP
            have badr : ¬ (row.getD i 0 ≤ 80 ∧ -80 ≤ row.getD i 0 ∧ (0 < i → 2 ≤ row.getD (i - 1) 0 - row.getD i 0)) → Q .non H3 := fun hb => bad (fun h => by
              have := GM.isRow_iff.mp (ok.mp h).2.2.2.2 i (by omega)
              exact hb (GM.rowAt_iff.mp this)) _ s2
            have good : (row.getD i 0 ≤ 80 ∧ -80 ≤ row.getD i 0 ∧ (0 < i → 2 ≤ row.getD (i - 1) 0 - row.getD i 0)) → ∀ k, k < i + 1 → GM.rowAt row k = true := fun hg k hk' => by
              by_cases c : k = i
              · rw [c]; exact GM.rowAt_iff.mpr hg
              · exact hk k (by omega)
            walk_at "ifs"
            all_goals first
              | exact badr (by omega)
              | exact ⟨_, rfl, rfl, good (by omega)⟩
          · obtain ⟨z, rfl, rfl, hk⟩ := hP
            have hr1 : GM.isRow row = true := GM.isRow_iff.mpr (fun k h => hk k (by omega))
            walk_at "go"
            exact q2 _ (rd (ok.mpr ⟨by omega, by omega, c3, by assumption, hr1⟩)) _ _ s2 (LK.ls k2) (by omega)
    · walk_at "if" <;> intro c6 <;> walk_at "go"
      · refine iIxSS (by omega) at1 ?_
        walk_at "go"
        refine iIfF (fun z => c4 ⟨by omega, hy.mp z⟩) ?_
        walk_at "go"
        rw [cm]
        walk_at "go"
        refine iRLc ⟨by omega, by omega⟩ (fun D i H2 => Same H' H2 ∧ LK H2 D (GM.ones ((GM.pt l : Int) - 1) ((GM.marks l).take i))) (fun D hD => ⟨same_new hD, upd_same⟩) (fun i => rfl) (fun D i H2 hD hi hP => ?_) (fun D H2 hD hP => ?_)
        · obtain ⟨s2, k2⟩ := hP
          have hi' : i < (GM.marks l).length := by omega
          have hc := List.getElem?_eq_getElem hi'
          have hlen2 : (GM.ones ((GM.pt l : Int) - 1) ((GM.marks l).take i)).length ≤ 1000 := by
            have := GM.ones_len ((GM.marks l).take i) ((GM.pt l : Int) - 1)
            rw [List.length_take] at this
            omega
          walk_at "go"
          refine iIxSS (by omega) (atI_nat hc) ?_
          walk_at "go"
          walk_at "if" <;> intro c4
          · have e4 : (GM.marks l)[i] = 49 := (List.cons.inj (S_inj.mp (c4.trans lit_1))).1
            walk_at "go"
            exact ⟨same_app hD s2, by rw [GM.ones_take _ hc, if_pos e4]; exact LK.new⟩
          · have e4 : ¬ (GM.marks l)[i] = 49 := fun e => c4 (by rw [e]; exact lit_1.symm)
            exact ⟨s2, by rw [GM.ones_take _ hc, if_neg e4, List.append_nil]; exact k2⟩
        · obtain ⟨s2, k2⟩ := hP
          have k2 : LK H2 D (GM.ones ((GM.pt l : Int) - 1) (GM.marks l)) := by
            rw [Int.toNat_natCast, List.take_length] at k2
            exact k2
          generalize hrow : GM.ones ((GM.pt l : Int) - 1) (GM.marks l) = row at *
          walk_at "go"
          refine iRF1 ⟨by omega, by omega⟩ (fun i σ' H3 => ∃ (z : Option V), σ' = [some (.str (S l)), some (.int (GM.pt l : Nat)), z, some (.str (S (GM.marks l))), some (.ref D)] ∧ H3 = H2 ∧ ∀ k, k < i → GM.rowAt row k = true) ⟨_, rfl, rfl, fun k hk => by omega⟩ (fun i σ' H3 hi hP => ?_) (fun σ' H3 hP => ?_)
          · obtain ⟨z, rfl, rfl, hk⟩ := hP
            have badr : ¬ (row.getD i 0 ≤ 80 ∧ -80 ≤ row.getD i 0 ∧ (0 < i → 2 ≤ row.getD (i - 1) 0 - row.getD i 0)) → Q .non H3 := fun hb => bad (fun h => by
              have := GM.isRow_iff.mp (ok.mp h).2.2.2.2 i (by omega)
              exact hb (GM.rowAt_iff.mp this)) _ s2
            have good : (row.getD i 0 ≤ 80 ∧ -80 ≤ row.getD i 0 ∧ (0 < i → 2 ≤ row.getD (i - 1) 0 - row.getD i 0)) → ∀ k, k < i + 1 → GM.rowAt row k = true := fun hg k hk' => by
              by_cases c : k = i
              · rw [c]; exact GM.rowAt_iff.mpr hg
              · exact hk k (by omega)
            walk_at "ifs"
            all_goals first
              | exact badr (by omega)
              | exact ⟨_, rfl, rfl, good (by omega)⟩
          · obtain ⟨z, rfl, rfl, hk⟩ := hP
            have hr1 : GM.isRow row = true := GM.isRow_iff.mpr (fun k h => hk k (by omega))
            walk_at "go"
            exact q2 _ (rd (ok.mpr ⟨by omega, by omega, c3, by assumption, hr1⟩)) _ _ s2 (LK.ls k2) (by omega)
      · rw [cm]
        walk_at "go"
        refine iRLc ⟨by omega, by omega⟩ (fun D i H2 => Same H' H2 ∧ LK H2 D (GM.ones ((GM.pt l : Int) - 1) ((GM.marks l).take i))) (fun D hD => ⟨same_new hD, upd_same⟩) (fun i => rfl) (fun D i H2 hD hi hP => ?_) (fun D H2 hD hP => ?_)
        · obtain ⟨s2, k2⟩ := hP
          have hi' : i < (GM.marks l).length := by omega
          have hc := List.getElem?_eq_getElem hi'
          have hlen2 : (GM.ones ((GM.pt l : Int) - 1) ((GM.marks l).take i)).length ≤ 1000 := by
            have := GM.ones_len ((GM.marks l).take i) ((GM.pt l : Int) - 1)
            rw [List.length_take] at this
            omega
          walk_at "go"
          refine iIxSS (by omega) (atI_nat hc) ?_
          walk_at "go"
          walk_at "if" <;> intro c4
          · have e4 : (GM.marks l)[i] = 49 := (List.cons.inj (S_inj.mp (c4.trans lit_1))).1
            walk_at "go"
            exact ⟨same_app hD s2, by rw [GM.ones_take _ hc, if_pos e4]; exact LK.new⟩
          · have e4 : ¬ (GM.marks l)[i] = 49 := fun e => c4 (by rw [e]; exact lit_1.symm)
            exact ⟨s2, by rw [GM.ones_take _ hc, if_neg e4, List.append_nil]; exact k2⟩
        · obtain ⟨s2, k2⟩ := hP
          have k2 : LK H2 D (GM.ones ((GM.pt l : Int) - 1) (GM.marks l)) := by
            rw [Int.toNat_natCast, List.take_length] at k2
            exact k2
          generalize hrow : GM.ones ((GM.pt l : Int) - 1) (GM.marks l) = row at *
          walk_at "go"
          refine iRF1 ⟨by omega, by omega⟩ (fun i σ' H3 => ∃ (z : Option V), σ' = [some (.str (S l)), some (.int (GM.pt l : Nat)), z, some (.str (S (GM.marks l))), some (.ref D)] ∧ H3 = H2 ∧ ∀ k, k < i → GM.rowAt row k = true) ⟨_, rfl, rfl, fun k hk => by omega⟩ (fun i σ' H3 hi hP => ?_) (fun σ' H3 hP => ?_)
          · obtain ⟨z, rfl, rfl, hk⟩ := hP
            have badr : ¬ (row.getD i 0 ≤ 80 ∧ -80 ≤ row.getD i 0 ∧ (0 < i → 2 ≤ row.getD (i - 1) 0 - row.getD i 0)) → Q .non H3 := fun hb => bad (fun h => by
              have := GM.isRow_iff.mp (ok.mp h).2.2.2.2 i (by omega)
              exact hb (GM.rowAt_iff.mp this)) _ s2
            have good : (row.getD i 0 ≤ 80 ∧ -80 ≤ row.getD i 0 ∧ (0 < i → 2 ≤ row.getD (i - 1) 0 - row.getD i 0)) → ∀ k, k < i + 1 → GM.rowAt row k = true := fun hg k hk' => by
              by_cases c : k = i
              · rw [c]; exact GM.rowAt_iff.mpr hg
              · exact hk k (by omega)
            walk_at "ifs"
            all_goals first
              | exact badr (by omega)
              | exact ⟨_, rfl, rfl, good (by omega)⟩
          · obtain ⟨z, rfl, rfl, hk⟩ := hP
            have hr1 : GM.isRow row = true := GM.isRow_iff.mpr (fun k h => hk k (by omega))
            walk_at "go"
            exact q2 _ (rd (ok.mpr ⟨by omega, by omega, c3, by assumption, hr1⟩)) _ _ s2 (LK.ls k2) (by omega)
end GP
namespace GP
open PySem L2
def sp__law_told (C : Addr) : Sp := fun vs H Q _ => ∃ l : List Nat, vs = [.str (S l)] ∧ l.length ≤ 1000 ∧
  (GM.readT l = none → ∀ H', Same H H' → Q (.int 0) H') ∧ (∀ xs, GM.readT l = some xs → ∀ r H', Same H H' → LI H' r xs → Q r H')
theorem ok__law_told {P : Program} {w : World} {K : PySem.W.Frag} {mg : Str → Option Value} {base : Heap} {f : Addr} {fd : FuncData} (F : Fun K "_law_told" "_law_told" s__law_told f fd) (nb : NB mg) {C_GoldError : Addr} (e_GoldError : EX K mg "GoldError" C_GoldError) {C_NoNumber : Addr} (e_NoNumber : EX K mg "NoNumber" C_NoNumber) {C_NoRow : Addr} (e_NoRow : EX K mg "NoRow" C_NoRow) {C_NoNote : Addr} (e_NoNote : EX K mg "NoNote" C_NoNote) (xc : ExcC K C_NoNote) (xm : PySem.W.exmOne K (.ref C_NoNote) (.ref C_GoldError) = some true) (kt_V : PySem.W.kitOne K (.ref C_NoNote) (.type "ValueError") = some true) (kt_NoNumber : PySem.W.kitOne K (.ref C_NoNote) (.ref C_NoNumber) = some false) (kt_NoRow : PySem.W.kitOne K (.ref C_NoNote) (.ref C_NoRow) = some false) (kt_NoNote : PySem.W.kitOne K (.ref C_NoNote) (.ref C_NoNote) = some true) (c_read : Cal P w K mg base (L2.CX P w) 2 "read" ["text"] (sp_read C_NoNote)) : FnOk P w K mg base CX0 3 f fd ["text"] (sp__law_told C_NoNote) := by
  refine F.ok sc__law_told (fun vs H Q E h => ?_) (fun cdv A outer s H vs Q E hr h => ?_)
  · obtain ⟨l, rfl, _⟩ := h
    rfl
  obtain ⟨l, rfl, hl, q1, q2⟩ := h
  refine ⟨_, (pss_one (ps_try_as (i := 1) (ts := fun a cls d D σ H => ∃ Dc, (cls = .ref Dc ∧ d = none ∧ ExcC K Dc) ∧ (tSeq (tIfS (tOr (tB (tCB (rIsE K Dc a) (tCons (tVar 1) (tCons (tC (.ref C_NoRow)) tNil)))) (tOr (tB (tCB (rIsE K Dc a) (tCons (tVar 1) (tCons (tC (.ref C_NoNumber)) tNil)))) (tNot (tB (tCB (rIsE K Dc a) (tCons (tVar 1) (tCons (tC (.ty "ValueError")) tNil))))))) (tRet (tC (.int 2))) tNext) (tRet (tCB rInt1 (tCons (tNotV (tCB (rIsE K Dc a) (tCons (tVar 1) (tCons (tC (.ref C_NoNote)) tNil)))) tNil)))) D σ H) (Wout := fun _ _ _ _ => False) rfl rfl sc__law_told.nd rfl rfl ⟨rfl, by decide, Or.inl e_GoldError.mgC⟩ takes0 (fun W pn xe tk _ => (pss_one (ps_ret (pe_callT tk c_read hr (pa_cons (pv 0) pa_nil))))) (fun a oe cls d pn hz hf => pss_exc (fun Dc e1 e2 hC => (pss_cons (ps_if (PW.pt (pw_or (pt_val (pe_callB (call_isE hC (zc_of e1 e2 hz) hf) (by rfl) nb.isinstance (by decide +kernel) (pa_cons (pv 1) (pa_cons (pe_glob (v := .ref C_NoRow) (by rfl) e_NoRow.mgC rfl) pa_nil)))) (pw_or (pt_val (pe_callB (call_isE hC (zc_of e1 e2 hz) hf) (by rfl) nb.isinstance (by decide +kernel) (pa_cons (pv 1) (pa_cons (pe_glob (v := .ref C_NoNumber) (by rfl) e_NoNumber.mgC rfl) pa_nil)))) (pw_or1 (pt_not (pt_val (pe_callB (call_isE hC (zc_of e1 e2 hz) hf) (by rfl) nb.isinstance (by decide +kernel) (pa_cons (pv 1) (pa_cons (pe_bltn (v := .ty "ValueError") (by rfl) nb.ValueError (by decide +kernel) rfl) pa_nil))))))))) (pss_one (ps_ret pe_int)) pss_nil)
      (pss_one (ps_ret (pe_callTy g_int (by rfl) nb.int (by decide +kernel) (pa_cons (pe_not (pe_callB (call_isE hC (zc_of e1 e2 hz) hf) (by rfl) nb.isinstance (by decide +kernel) (pa_cons (pv 1) (pa_cons (pe_glob (v := .ref C_NoNote) (by rfl) e_NoNote.mgC rfl) pa_nil)))) pa_nil))))))))), ?_⟩
  walk_at "go"
  refine ⟨l, rfl, hl, fun xs e p H' np s' k' => ?_, fun e H' s' => ?_⟩
  · walk_at "go"
    exact q2 xs e _ _ s' (LK.ls k')
  · refine iWAs xm (fun a na => ⟨_, ⟨rfl, rfl, xc⟩, ?_⟩)
    walk_at "go"
    exact q1 e _ s'
end GP
local macro_rules | `(tactic| walk_at "callee") => `(tactic| ((with_reducible refine' GP.c_ltext ?h1 ?_); (case h1 => walk_at "hp"); intro _ _))
namespace GP
open PySem L2
def sp_law (K : PySem.W.Frag) : Sp := fun vs H Q _ => ∃ (a : Addr) (ns : List Int), vs = [.ref a] ∧ SqL K H a (ns.map V.int) ∧ ns.length ≤ 63 ∧ ∀ H', Q (.bl true) H'
theorem ok_law {P : Program} {w : World} {K : PySem.W.Frag} {mg : Str → Option Value} {base : Heap} {f : Addr} {fd : FuncData} (F : Fun K "law" "law" s_law f fd) (nb : NB mg) {C_NoNote : Addr} (c__law_text : Cal P w K mg base CX0 2 "_law_text" ["script"] (sp__law_text K)) (c__law_places : Cal P w K mg base CX0 1 "_law_places" ["text"] sp__law_places) (c__law_told : Cal P w K mg base CX0 3 "_law_told" ["text"] (sp__law_told C_NoNote)) : FnOk P w K mg base CX0 4 f fd ["script"] (sp_law K) := by
  refine F.ok sc_law (fun vs H Q E h => ?_) (fun cdv A outer s H vs Q E hr h => ?_)
  · obtain ⟨a, ns, rfl, _⟩ := h
    rfl
  obtain ⟨a0, ns, rfl, hS, h63, q⟩ := h
  refine ⟨_, (pss_cons (ps_set (i := 1) sc_law.nd rfl (Or.inl rfl) (pe_callC c__law_text (hr.mono (by decide)) pass0 (pa_cons (pv 0) pa_nil)))
      (pss_cons (ps_set (i := 2) sc_law.nd rfl (Or.inl rfl) (pe_callC c__law_places (hr.mono (by decide)) pass0 (pa_cons (pv 1) pa_nil)))
      (pss_cons (ps_set (i := 3) sc_law.nd rfl (Or.inl rfl) (pe_callC c__law_told hr pass0 (pa_cons (pv 1) pa_nil)))
      (pss_cons (ps_if (pt_cmpR g_isN (pv 2) pe_non (nomark _)) (pss_one (ps_ret (pe_and (pe_callB call_isi (by rfl) nb.isinstance (by decide +kernel) (pa_cons (pv 3) (pa_cons (pe_bltn (v := .ty "int") (by rfl) nb.int (by decide +kernel) rfl) pa_nil))) (pe_one (pe_cmpR op_eq (pv 3) pe_int (nomark _)))))) pss_nil)
      (pss_cons (ps_if (PW.pt (pw_or (pt_not (pt_val (pe_callB call_isi (by rfl) nb.isinstance (by decide +kernel) (pa_cons (pv 3) (pa_cons (pe_bltn (v := .ty "list") (by rfl) nb.list (by decide +kernel) rfl) pa_nil))))) (pw_or1 (pt_cmpR (op_neD hr.units) (pv 3) (pv 2) (nomark _))))) (pss_one (ps_ret pe_bl)) pss_nil)
      (pss_one (ps_ret (pe_cmpR op_eq (pe_callB g_len (by rfl) nb.len (by decide +kernel) (pa_cons (pe_lc (own := [("place", 4)]) (g := gName 4) (tt := (tB (tCB (rIsi K) (tCons (tVar 4) (tCons (tC (V.ty "bool")) tNil))))) (te := (tVar 4)) rfl sc_law.nd (pi_list (pv 3)) (blkOk_by (own := [("place", 4)]) (N := N_law) (sc := defScope s_law) (by decide +kernel)) (fun _ _ _ _ _ => pg_name (i := 4) sc_law.nd rfl (Or.inl rfl)) (fun _ _ _ _ _ => (pts_one (pt_val (pe_callB call_isi (by rfl) nb.isinstance (by decide +kernel) (pa_cons (pv 4) (pa_cons (pe_bltn (v := .ty "bool") (by rfl) nb.bool (by decide +kernel) rfl) pa_nil)))))) (fun _ _ _ _ _ => (pv 4))) pa_nil)) pe_int (nomark _))))))))), ?_⟩
  walk_at "go"
  rename_i l hl
  refine ⟨l, rfl, hl, fun e H1 s1 => ?_, fun xs e r H1 s1 t1 hxl => ?_⟩
  · walk_at "go"
    refine ⟨l, rfl, hl, fun _ H2 s2 => ?_, fun xs e' => by rw [e] at e'; cases e'⟩
    walk_at "go"
    exact iRtB (decide_eq_true rfl).symm (q _)
  · walk_at "go"
    refine ⟨l, rfl, hl, fun e' => (by rw [e] at e'; cases e'), fun ys e' r2 H2 s2 t2 => ?_⟩
    have exy : ys = xs := by rw [e] at e'; exact (Option.some.inj e').symm
    subst exy
    obtain ⟨ra, rfl, t1⟩ := t1
    walk_at "go"
    refine iIfF (fun z => nomatch z) ?_
    have t1 : LI H1 (.ref ra) ys := ⟨ra, rfl, t1⟩
    have t1' : LI H2 (.ref ra) ys := t1.same s2
    walk_at "go"
    refine iLLc (ns := ys) t2 (fun D i H' => Same H2 H' ∧ LK H' D []) (fun D hD => ⟨same_new hD, upd_same⟩) (fun D i H' hD hP => hP.1) (fun y => rfl) (fun D i y H' hD hi hP => ?_) (fun D H' hD hP => ?_)
    · obtain ⟨s3, k3⟩ := hP
      walk_at "go"
      exact ⟨s3, k3⟩
    · obtain ⟨s3, k3⟩ := hP
      walk_at "go"
      exact iRtB (decide_eq_true rfl).symm (q _)
end GP

namespace GP
open PySem L2
theorem all_mk {P : Program} {w : World} {K : PySem.W.Frag} {h : Heap} {mg : Str → Option Value} {fa : Addr} (X : K.In h) (G : h.Ns mainGlobals mg) (hfa : mg "law" = some (.ref fa))
    {oc1 kV1 dc1 pm1 cd1 ct1 : Value} {od1 an1 : Option Addr} {sl1 : Array (Option Value)} {f1 : Addr}
    {oc2 kV2 dc2 pm2 cd2 ct2 : Value} {od2 an2 : Option Addr} {sl2 : Array (Option Value)} {f2 : Addr}
    {oc3 kV3 dc3 pm3 cd3 ct3 : Value} {od3 an3 : Option Addr} {sl3 : Array (Option Value)} {f3 : Addr}
    {oc4 kV4 dc4 pm4 cd4 ct4 : Value} {od4 an4 : Option Addr} {sl4 : Array (Option Value)} {f4 : Addr}
    {oc5 kV5 dc5 pm5 cd5 ct5 : Value} {od5 an5 : Option Addr} {sl5 : Array (Option Value)} {f5 : Addr}
    {oc6 kV6 dc6 pm6 cd6 ct6 : Value} {od6 an6 : Option Addr} {sl6 : Array (Option Value)} {f6 : Addr}
    {oc7 kV7 dc7 pm7 cd7 ct7 : Value} {od7 an7 : Option Addr} {sl7 : Array (Option Value)} {f7 : Addr}
    {oc8 kV8 dc8 pm8 cd8 ct8 : Value} {od8 an8 : Option Addr} {sl8 : Array (Option Value)} {f8 : Addr}
    {oc9 kV9 dc9 pm9 cd9 ct9 : Value} {od9 an9 : Option Addr} {sl9 : Array (Option Value)} {f9 : Addr}
    {tk_FAR : Tok}
    {C_GoldError : Addr}
    {C_NoNumber : Addr}
    {C_NoRow : Addr}
    {C_NoNote : Addr}
    (a1 : PySem.W.nsIn K mainGlobals "is_row" = some (some (.ref f1)))
    (l1 : K.lookup f1 = some ⟨oc1, od1, .func (PySem.W.fnOf "is_row" "is_row" (defArgs s_is_row) (defBody s_is_row) (defScope s_is_row) .none kV1 dc1 pm1 an1 cd1 ct1), sl1⟩)
    (c1 : PySem.W.codeIn K cd1 "is_row" = true)
    (k1 : PySem.W.keepIn K (.ref f1) = true)
    (a2 : PySem.W.nsIn K mainGlobals "asked_figures" = some (some (.ref f2)))
    (l2 : K.lookup f2 = some ⟨oc2, od2, .func (PySem.W.fnOf "asked_figures" "asked_figures" (defArgs s_asked_figures) (defBody s_asked_figures) (defScope s_asked_figures) .none kV2 dc2 pm2 an2 cd2 ct2), sl2⟩)
    (c2 : PySem.W.codeIn K cd2 "asked_figures" = true)
    (k2 : PySem.W.keepIn K (.ref f2) = true)
    (a3 : PySem.W.nsIn K mainGlobals "read" = some (some (.ref f3)))
    (l3 : K.lookup f3 = some ⟨oc3, od3, .func (PySem.W.fnOf "read" "read" (defArgs s_read) (defBody s_read) (defScope s_read) .none kV3 dc3 pm3 an3 cd3 ct3), sl3⟩)
    (c3 : PySem.W.codeIn K cd3 "read" = true)
    (k3 : PySem.W.keepIn K (.ref f3) = true)
    (a4 : PySem.W.nsIn K mainGlobals "_law_cell_at" = some (some (.ref f4)))
    (l4 : K.lookup f4 = some ⟨oc4, od4, .func (PySem.W.fnOf "_law_cell_at" "_law_cell_at" (defArgs s__law_cell_at) (defBody s__law_cell_at) (defScope s__law_cell_at) .none kV4 dc4 pm4 an4 cd4 ct4), sl4⟩)
    (c4 : PySem.W.codeIn K cd4 "_law_cell_at" = true)
    (k4 : PySem.W.keepIn K (.ref f4) = true)
    (a5 : PySem.W.nsIn K mainGlobals "_law_figures" = some (some (.ref f5)))
    (l5 : K.lookup f5 = some ⟨oc5, od5, .func (PySem.W.fnOf "_law_figures" "_law_figures" (defArgs s__law_figures) (defBody s__law_figures) (defScope s__law_figures) .none kV5 dc5 pm5 an5 cd5 ct5), sl5⟩)
    (c5 : PySem.W.codeIn K cd5 "_law_figures" = true)
    (k5 : PySem.W.keepIn K (.ref f5) = true)
    (a6 : PySem.W.nsIn K mainGlobals "_law_text" = some (some (.ref f6)))
    (l6 : K.lookup f6 = some ⟨oc6, od6, .func (PySem.W.fnOf "_law_text" "_law_text" (defArgs s__law_text) (defBody s__law_text) (defScope s__law_text) .none kV6 dc6 pm6 an6 cd6 ct6), sl6⟩)
    (c6 : PySem.W.codeIn K cd6 "_law_text" = true)
    (k6 : PySem.W.keepIn K (.ref f6) = true)
    (a7 : PySem.W.nsIn K mainGlobals "_law_places" = some (some (.ref f7)))
    (l7 : K.lookup f7 = some ⟨oc7, od7, .func (PySem.W.fnOf "_law_places" "_law_places" (defArgs s__law_places) (defBody s__law_places) (defScope s__law_places) .none kV7 dc7 pm7 an7 cd7 ct7), sl7⟩)
    (c7 : PySem.W.codeIn K cd7 "_law_places" = true)
    (k7 : PySem.W.keepIn K (.ref f7) = true)
    (a8 : PySem.W.nsIn K mainGlobals "_law_told" = some (some (.ref f8)))
    (l8 : K.lookup f8 = some ⟨oc8, od8, .func (PySem.W.fnOf "_law_told" "_law_told" (defArgs s__law_told) (defBody s__law_told) (defScope s__law_told) .none kV8 dc8 pm8 an8 cd8 ct8), sl8⟩)
    (c8 : PySem.W.codeIn K cd8 "_law_told" = true)
    (k8 : PySem.W.keepIn K (.ref f8) = true)
    (a9 : PySem.W.nsIn K mainGlobals "law" = some (some (.ref f9)))
    (l9 : K.lookup f9 = some ⟨oc9, od9, .func (PySem.W.fnOf "law" "law" (defArgs s_law) (defBody s_law) (defScope s_law) .none kV9 dc9 pm9 an9 cd9 ct9), sl9⟩)
    (c9 : PySem.W.codeIn K cd9 "law" = true)
    (k9 : PySem.W.keepIn K (.ref f9) = true)
    (z_len : PySem.W.nsIn K mainGlobals "len" = some none)
    (z_range : PySem.W.nsIn K mainGlobals "range" = some none)
    (z_abs : PySem.W.nsIn K mainGlobals "abs" = some none)
    (z_int : PySem.W.nsIn K mainGlobals "int" = some none)
    (z_bool : PySem.W.nsIn K mainGlobals "bool" = some none)
    (z_isinstance : PySem.W.nsIn K mainGlobals "isinstance" = some none)
    (z_tuple : PySem.W.nsIn K mainGlobals "tuple" = some none)
    (z_list : PySem.W.nsIn K mainGlobals "list" = some none)
    (z_str : PySem.W.nsIn K mainGlobals "str" = some none)
    (z_max : PySem.W.nsIn K mainGlobals "max" = some none)
    (z_min : PySem.W.nsIn K mainGlobals "min" = some none)
    (z_ValueError : PySem.W.nsIn K mainGlobals "ValueError" = some none)
    (g_FAR : PySem.W.nsIn K mainGlobals "FAR" = some (some (.int 80 tk_FAR)))
    (y1_GoldError : PySem.W.nsIn K mainGlobals "GoldError" = some (some (.ref C_GoldError)))
    (y2_GoldError : PySem.W.excIn K C_GoldError [.type "ValueError", .type "Exception", .type "BaseException", .type "object"] "ValueError.__new__" = true)
    (y3_GoldError : PySem.W.keepIn K (.ref C_GoldError) = true)
    (y4_GoldError : PySem.W.subIn K (.ref C_GoldError) (.type "BaseException") = some true)
    (y5_GoldError : PySem.W.typeIn K (.ref C_GoldError) = some (.type "type"))
    (y1_NoNumber : PySem.W.nsIn K mainGlobals "NoNumber" = some (some (.ref C_NoNumber)))
    (y2_NoNumber : PySem.W.excIn K C_NoNumber [.type "ValueError", .type "Exception", .type "BaseException", .type "object"] "ValueError.__new__" = true)
    (y3_NoNumber : PySem.W.keepIn K (.ref C_NoNumber) = true)
    (y4_NoNumber : PySem.W.subIn K (.ref C_NoNumber) (.type "BaseException") = some true)
    (y5_NoNumber : PySem.W.typeIn K (.ref C_NoNumber) = some (.type "type"))
    (y1_NoRow : PySem.W.nsIn K mainGlobals "NoRow" = some (some (.ref C_NoRow)))
    (y2_NoRow : PySem.W.excIn K C_NoRow [.type "ValueError", .type "Exception", .type "BaseException", .type "object"] "ValueError.__new__" = true)
    (y3_NoRow : PySem.W.keepIn K (.ref C_NoRow) = true)
    (y4_NoRow : PySem.W.subIn K (.ref C_NoRow) (.type "BaseException") = some true)
    (y5_NoRow : PySem.W.typeIn K (.ref C_NoRow) = some (.type "type"))
    (y1_NoNote : PySem.W.nsIn K mainGlobals "NoNote" = some (some (.ref C_NoNote)))
    (y2_NoNote : PySem.W.excIn K C_NoNote [.type "ValueError", .type "Exception", .type "BaseException", .type "object"] "ValueError.__new__" = true)
    (y3_NoNote : PySem.W.keepIn K (.ref C_NoNote) = true)
    (y4_NoNote : PySem.W.subIn K (.ref C_NoNote) (.type "BaseException") = some true)
    (y5_NoNote : PySem.W.typeIn K (.ref C_NoNote) = some (.type "type"))
    (x1 : PySem.W.findIn K (.ref C_NoNote) "__getattribute__" = some (some (.builtin "BaseException.__getattribute__")))
    (x2 : PySem.W.findIn K (.ref C_NoNote) "__getattr__" = some none)
    (x4 : PySem.W.hasDictIn K C_NoNote = true)
    (x5 : PySem.W.findIn K (.ref C_NoNote) "__class__" = some (some (.builtin "object.__class__")))
    (x6 : PySem.W.specialIn K (.builtin "object.__class__") "__get__" = some (some (.builtin "getset_descriptor.__get__")))
    (x7 : PySem.W.takesIn K (.builtin "object.__class__") = some true)
    (x8 : PySem.W.mroIn K C_NoNote (.type "object") = some true)
    (x9 : PySem.W.hasDictIn K C_GoldError = true)
    (x10 : PySem.W.subIn K (.ref C_NoNote) (.ref C_GoldError) = some true)
    (x11 : PySem.W.kitOne K (.ref C_NoNote) (.type "ValueError") = some true)
    (x12NoNumber : PySem.W.kitOne K (.ref C_NoNote) (.ref C_NoNumber) = some false)
    (x12NoRow : PySem.W.kitOne K (.ref C_NoNote) (.ref C_NoRow) = some false)
    (x12NoNote : PySem.W.kitOne K (.ref C_NoNote) (.ref C_NoNote) = some true)
    : ∃ fd : FuncData, (∀ (s : Shared) (v : Value), BindsTo s fd ⟨[v], []⟩ [("script", v)]) ∧ ∀ base : Heap, K.In base → base.Ns mainGlobals mg → FnOk P w K mg base CX0 4 fa fd ["script"] (sp_law K) := by
  have e := hfa.symm.trans (PySem.W.mg_of X G a9)
  cases e
  have F_is_row := fun_mk (st := s_is_row) l1 c1 k1
  have F_asked_figures := fun_mk (st := s_asked_figures) l2 c2 k2
  have F_read := fun_mk (st := s_read) l3 c3 k3
  have F__law_cell_at := fun_mk (st := s__law_cell_at) l4 c4 k4
  have F__law_figures := fun_mk (st := s__law_figures) l5 c5 k5
  have F__law_text := fun_mk (st := s__law_text) l6 c6 k6
  have F__law_places := fun_mk (st := s__law_places) l7 c7 k7
  have F__law_told := fun_mk (st := s__law_told) l8 c8 k8
  have F_law := fun_mk (st := s_law) l9 c9 k9
  have nb : NB mg := ⟨PySem.W.mg_none_of X G z_len, PySem.W.mg_none_of X G z_range, PySem.W.mg_none_of X G z_abs, PySem.W.mg_none_of X G z_int, PySem.W.mg_none_of X G z_bool, PySem.W.mg_none_of X G z_isinstance, PySem.W.mg_none_of X G z_tuple, PySem.W.mg_none_of X G z_list, PySem.W.mg_none_of X G z_str, PySem.W.mg_none_of X G z_max, PySem.W.mg_none_of X G z_min, PySem.W.mg_none_of X G z_ValueError⟩
  have m_FAR := PySem.W.mg_of X G g_FAR
  have e_GoldError : EX K mg "GoldError" C_GoldError := ⟨PySem.W.mg_of X G y1_GoldError, y2_GoldError, y3_GoldError, y4_GoldError, y5_GoldError⟩
  have e_NoNumber : EX K mg "NoNumber" C_NoNumber := ⟨PySem.W.mg_of X G y1_NoNumber, y2_NoNumber, y3_NoNumber, y4_NoNumber, y5_NoNumber⟩
  have e_NoRow : EX K mg "NoRow" C_NoRow := ⟨PySem.W.mg_of X G y1_NoRow, y2_NoRow, y3_NoRow, y4_NoRow, y5_NoRow⟩
  have e_NoNote : EX K mg "NoNote" C_NoNote := ⟨PySem.W.mg_of X G y1_NoNote, y2_NoNote, y3_NoNote, y4_NoNote, y5_NoNote⟩
  refine ⟨PySem.W.fnOf "law" "law" (defArgs s_law) (defBody s_law) (defScope s_law) .none kV9 dc9 pm9 an9 cd9 ct9, fun s v => .of_eq rfl, fun base _ _ => ?_⟩
  have c_is_row : Cal P w K mg base CX0 1 "is_row" ["places"] sp_is_row := ⟨_, _, PySem.W.mg_of X G a1, k1, F_is_row.binds (ps := ["places"]) (fun _ _ _ _ _ _ us hl => match us, hl with | [_], _ => rfl), ok_is_row F_is_row nb m_FAR⟩
  have c_asked_figures : Cal P w K mg base (L2.CX P w) 1 "asked_figures" ["text"] (sp_asked_figures C_NoNote) := ⟨_, _, PySem.W.mg_of X G a2, k2, F_asked_figures.binds (ps := ["text"]) (fun _ _ _ _ _ _ us hl => match us, hl with | [_], _ => rfl), ok_asked_figures F_asked_figures e_NoNote⟩
  have c_read : Cal P w K mg base (L2.CX P w) 2 "read" ["text"] (sp_read C_NoNote) := ⟨_, _, PySem.W.mg_of X G a3, k3, F_read.binds (ps := ["text"]) (fun _ _ _ _ _ _ us hl => match us, hl with | [_], _ => rfl), ok_read F_read nb e_NoNote c_asked_figures c_is_row⟩
  have c__law_cell_at : Cal P w K mg base CX0 1 "_law_cell_at" ["script", "k"] (sp__law_cell_at K) := ⟨_, _, PySem.W.mg_of X G a4, k4, F__law_cell_at.binds (ps := ["script", "k"]) (fun _ _ _ _ _ _ us hl => match us, hl with | [_, _], _ => rfl), ok__law_cell_at F__law_cell_at nb⟩
  have c__law_figures : Cal P w K mg base CX0 1 "_law_figures" ["cell", "many", "plain"] sp__law_figures := ⟨_, _, PySem.W.mg_of X G a5, k5, F__law_figures.binds (ps := ["cell", "many", "plain"]) (fun _ _ _ _ _ _ us hl => match us, hl with | [_, _, _], _ => rfl), ok__law_figures F__law_figures nb⟩
  have c__law_text : Cal P w K mg base CX0 2 "_law_text" ["script"] (sp__law_text K) := ⟨_, _, PySem.W.mg_of X G a6, k6, F__law_text.binds (ps := ["script"]) (fun _ _ _ _ _ _ us hl => match us, hl with | [_], _ => rfl), ok__law_text F__law_text nb c__law_figures c__law_cell_at⟩
  have c__law_places : Cal P w K mg base CX0 1 "_law_places" ["text"] sp__law_places := ⟨_, _, PySem.W.mg_of X G a7, k7, F__law_places.binds (ps := ["text"]) (fun _ _ _ _ _ _ us hl => match us, hl with | [_], _ => rfl), ok__law_places F__law_places nb⟩
  have c__law_told : Cal P w K mg base CX0 3 "_law_told" ["text"] (sp__law_told C_NoNote) := ⟨_, _, PySem.W.mg_of X G a8, k8, F__law_told.binds (ps := ["text"]) (fun _ _ _ _ _ _ us hl => match us, hl with | [_], _ => rfl), ok__law_told F__law_told nb e_GoldError e_NoNumber e_NoRow e_NoNote ⟨x1, x2, y4_NoNote, x4, x5, x6, x7, x8⟩ (exm_of y4_GoldError x9 y5_GoldError x10) x11 x12NoNumber x12NoRow x12NoNote c_read⟩
  exact ok_law F_law nb c__law_text c__law_places c__law_told
end GP
open PySem PySem.W PyProof.Rows
set_option maxRecDepth 100000 in
set_option maxHeartbeats 0 in
theorem PySem.Challenge.cw_goldplaces_k17_read_or_refused_holds : PySem.Challenge.rw_goldplaces_k17_read_or_refused.Holds := by
  w_on; o_law; k_head; (case hw => w_witness2)
  k_fill
  refine L2.walk_of (l := PySem.Challenge.rw_goldplaces_k17_read_or_refused) (n := 63) (k := 4) (x := "script") (CX := fun _ => L2.CX0) (sp := fun w => GP.sp_law _) rfl (by decide) rfl ⟨rfl, by decide, by decide⟩ (fun w h Y => PySem.W.kIn_of Y) ?F (fun _ _ a ns hl _ hS => ⟨a, ns, rfl, hS, hl, fun _ => rfl⟩) (fun _ _ _ _ _ h => h)
  case F =>
    intro w mg fa h KX G hmg
    refine' GP.all_mk KX G hmg ?a1 ?l1 ?c1 ?k1 ?a2 ?l2 ?c2 ?k2 ?a3 ?l3 ?c3 ?k3 ?a4 ?l4 ?c4 ?k4 ?a5 ?l5 ?c5 ?k5 ?a6 ?l6 ?c6 ?k6 ?a7 ?l7 ?c7 ?k7 ?a8 ?l8 ?c8 ?k8 ?a9 ?l9 ?c9 ?k9 ?z_len ?z_range ?z_abs ?z_int ?z_bool ?z_isinstance ?z_tuple ?z_list ?z_str ?z_max ?z_min ?z_ValueError ?g_FAR ?y1_GoldError ?y2_GoldError ?y3_GoldError ?y4_GoldError ?y5_GoldError ?y1_NoNumber ?y2_NoNumber ?y3_NoNumber ?y4_NoNumber ?y5_NoNumber ?y1_NoRow ?y2_NoRow ?y3_NoRow ?y4_NoRow ?y5_NoRow ?y1_NoNote ?y2_NoNote ?y3_NoNote ?y4_NoNote ?y5_NoNote ?x1 ?x2 ?x4 ?x5 ?x6 ?x7 ?x8 ?x9 ?x10 ?x11 ?x12NoNumber ?x12NoRow ?x12NoNote
    (case a1 => k_is)
    (case l1 => k_is)
    (case c1 => k_is)
    (case k1 => k_is)
    (case a2 => k_is)
    (case l2 => k_is)
    (case c2 => k_is)
    (case k2 => k_is)
    (case a3 => k_is)
    (case l3 => k_is)
    (case c3 => k_is)
    (case k3 => k_is)
    (case a4 => k_is)
    (case l4 => k_is)
    (case c4 => k_is)
    (case k4 => k_is)
    (case a5 => k_is)
    (case l5 => k_is)
    (case c5 => k_is)
    (case k5 => k_is)
    (case a6 => k_is)
    (case l6 => k_is)
    (case c6 => k_is)
    (case k6 => k_is)
    (case a7 => k_is)
    (case l7 => k_is)
    (case c7 => k_is)
    (case k7 => k_is)
    (case a8 => k_is)
    (case l8 => k_is)
    (case c8 => k_is)
    (case k8 => k_is)
    (case a9 => k_is)
    (case l9 => k_is)
    (case c9 => k_is)
    (case k9 => k_is)
    (case z_len => k_is)
    (case z_range => k_is)
    (case z_abs => k_is)
    (case z_int => k_is)
    (case z_bool => k_is)
    (case z_isinstance => k_is)
    (case z_tuple => k_is)
    (case z_list => k_is)
    (case z_str => k_is)
    (case z_max => k_is)
    (case z_min => k_is)
    (case z_ValueError => k_is)
    (case g_FAR => k_is)
    (case y1_GoldError => k_is)
    (case y2_GoldError => k_exc)
    (case y3_GoldError => k_is)
    (case y4_GoldError => k_is)
    (case y5_GoldError => k_is)
    (case y1_NoNumber => k_is)
    (case y2_NoNumber => k_exc)
    (case y3_NoNumber => k_is)
    (case y4_NoNumber => k_is)
    (case y5_NoNumber => k_is)
    (case y1_NoRow => k_is)
    (case y2_NoRow => k_exc)
    (case y3_NoRow => k_is)
    (case y4_NoRow => k_is)
    (case y5_NoRow => k_is)
    (case y1_NoNote => k_is)
    (case y2_NoNote => k_exc)
    (case y3_NoNote => k_is)
    (case y4_NoNote => k_is)
    (case y5_NoNote => k_is)
    (case x1 => k_is)
    (case x2 => k_is)
    (case x4 => k_is)
    (case x5 => k_is)
    (case x6 => k_is)
    (case x7 => k_is)
    (case x8 => k_is)
    (case x9 => k_is)
    (case x10 => k_is)
    (case x11 => kit_is)
    (case x12NoNumber => kit_is)
    (case x12NoRow => kit_is)
    (case x12NoNote => kit_is)
#print axioms PySem.Challenge.cw_goldplaces_k17_read_or_refused_holds
