import PyProof.Rows.All
import Wide.All
import OpenK.AllK
import Wide.FinOn
import HandS.ForMost
import HandS.ForExc
import HandS.IsInst
import HandS.Wide
import HandS.Style
import HandS.Flow
import HandS.TryMany
import HandS.Codes
import HandS.Evl
import HandS.Conv
import HandS.EndBits
import HandS.ExcIs
import HandS.TryOnly
import PySem.Challenge.RW_leanfigures_k12_rows_refused
set_option Elab.async false
set_option linter.all false
set_option maxRecDepth 100000
set_option maxHeartbeats 2000000
/-! Base: operators by short names, what a def is known by, readings as rewrite rules, loops by their turns. -/
namespace Lf
open PySem PySem.Spec L2
open PyProof.Rows hiding St
/-! ### short names of the operators' readings -/
abbrev qNeg : V → Hp → VK → Prop := rU fun i => .int (-i)
abbrev qAdd : R2 := rI0 fun i j => .int (i + j)
abbrev qSub : R2 := rI0 fun i j => .int (i - j)
abbrev qMul : R2 := rI CMul fun i j => .int (i * j)
abbrev qMulW : R2 := rI CMulW fun i j => .int (i * j)
abbrev qMod : R2 := rI (fun _ j => 0 < j) fun i j => .int (i % j)
abbrev qModN : R2 := rI (fun _ j => j ≠ 0) fun i j => .int (i.fmod j)
abbrev qDiv : R2 := rI CDiv fun i j => .int (i / j)
abbrev qDivN : R2 := rI CDivN fun i j => .int (i.fdiv j)
abbrev qPow : R2 := rI CPow fun i j => .int (i ^ j.toNat)
abbrev qLt : R2 := rI0 fun i j => .bl (decide (i < j))
abbrev qLe : R2 := rI0 fun i j => .bl (decide (i ≤ j))
abbrev qGt : R2 := rI0 fun i j => .bl (decide (j < i))
abbrev qGe : R2 := rI0 fun i j => .bl (decide (j ≤ i))
abbrev qAddS : R2 := fun x y H Q => ∃ i j, x = .str i ∧ y = .str j ∧ i.length + j.length ≤ sizeLine ∧ Q (.str (i ++ j)) H
abbrev qIsN : R2 := fun x y H Q => y = .non ∧ Q (.bl (decide (x = .non))) H
abbrev qNotN : R2 := fun x y H Q => y = .non ∧ Q (.bl (!decide (x = .non))) H
abbrev qInS : R2 := fun x y H Q => ∃ (c : Nat) (z : Str), x = .str ⟨#[c]⟩ ∧ y = .str z ∧ Q (.bl (decide (c ∈ z.cps.toList))) H
abbrev qNotInS : R2 := fun x y H Q => ∃ (c : Nat) (z : Str), x = .str ⟨#[c]⟩ ∧ y = .str z ∧ Q (.bl (!decide (c ∈ z.cps.toList))) H
abbrev qAbs : List V → Hp → VK → Prop := fun xs H Q => ∃ i, xs = [.int i] ∧ Q (.int (if i < 0 then -i else i)) H
abbrev qMax2 : List V → Hp → VK → Prop := fun xs H Q => ∃ i j, xs = [.int i, .int j] ∧ Q (.int (if j > i then j else i)) H
abbrev qMin2 : List V → Hp → VK → Prop := fun xs H Q => ∃ i j, xs = [.int i, .int j] ∧ Q (.int (if j < i then j else i)) H
abbrev qInt1 : List V → Hp → VK → Prop := fun xs H Q => (∃ i, xs = [.int i] ∧ Q (.int i) H) ∨ ∃ k, xs = [.bl k] ∧ Q (.int (if k then 1 else 0)) H
abbrev qLen (K : PySem.W.Frag) : List V → Hp → VK → Prop := fun xs H Q => ∃ p ys, xs = [.ref p] ∧ (SqL K H p ys ∨ SqT K H p ys) ∧ Q (.int ys.length) H
abbrev qLenS : List V → Hp → VK → Prop := fun xs H Q => ∃ z, xs = [.str z] ∧ z.length ≤ sizeLine ∧ Q (.int z.length) H
abbrev qList (K : PySem.W.Frag) : List V → Hp → VK → Prop := fun xs H Q => ∃ p ys, xs = [.ref p] ∧ (SqL K H p ys ∨ SqT K H p ys) ∧ ∀ l, H l = none → Q (.ref l) (upd H l (.lst ys))
abbrev qTuple (K : PySem.W.Frag) : List V → Hp → VK → Prop := fun xs H Q => ∃ p ys, xs = [.ref p] ∧ ((SqL K H p ys ∧ ∀ l, H l = none → Q (.ref l) (upd H l (.tup ys))) ∨ (SqT K H p ys ∧ Q (.ref p) H))
abbrev qGetL (K : PySem.W.Frag) : V → V → Hp → VK → Prop := rIxL K
abbrev qJoin (K : PySem.W.Frag) (to te : TE) : TE := tM1 (fun x xs H Q => ∃ a p, ∃ ys : List Str, x = .str a ∧ xs = [.ref p] ∧ (SqL K H p (ys.map V.str) ∨ SqT K H p (ys.map V.str)) ∧ (ys.map (·.length)).sum + ys.length * a.length ≤ 16777216 ∧ Q (.str (Txt.join a ys)) H) to te
abbrev qFind (to te : TE) : TE := tM1 (fun x xs H Q => ∃ a b, x = .str a ∧ xs = [.str b] ∧ Q (.int (Txt.find a b)) H) to te
/-- list + list, whatever lists may be read -/
def qCat (K : PySem.W.Frag) : R2 := fun x y H Q => ∃ l b xs zs, x = .ref l ∧ y = .ref b ∧ SqL K H l xs ∧ SqL K H b zs ∧ xs.length + zs.length ≤ sizeLine ∧ ∀ p, H p = none → Q (.ref p) (upd H p (.lst (xs ++ zs)))
section
variable {X : Cx}
theorem op_catS : OpR X (binaryOp .Add) (qCat X.K) := by
  intro pins s σ H x y v u Q I rx ry h
  obtain ⟨l, b, xs, zs, rfl, rfl, hH, hB, hz, q⟩ := h
  cases rx
  cases ry
  obtain ⟨its, r, ⟨o, n, ho, hc, hdn, hd⟩, hl⟩ := I.list hH
  obtain ⟨its2, r2, ⟨o2, n2, ho2, hc2, hdn2, hd2⟩, hl2⟩ := I.list hB
  have e1 : s.heap.get? l = some { cls := .type "list", dict := none, data := .seq its.toArray n, slots := o.slots } := by
    rw [ho]; obtain ⟨c, d, dt, sl⟩ := o; simp only at hc hdn hd; subst hc hdn hd; rfl
  have e2 : s.heap.get? b = some { cls := .type "list", dict := none, data := .seq its2.toArray n2, slots := o2.slots } := by
    rw [ho2]; obtain ⟨c, d, dt, sl⟩ := o2; simp only at hc2 hdn2 hd2; subst hc2 hdn2 hd2; rfl
  have hn := r.length
  have hn2 := r2.length
  refine concat_meets ⟨_, e1, rfl⟩ ⟨_, e2, rfl⟩ noFill_list_add seq_list_add PySem.F.slot_list_add PySem.F.entry_list_add (PySem.F.args_list_add_2 _ _) (PyProof.Rows.list_addW l b its.toArray its2.toArray n n2 none none o.slots o2.slots (by rw [List.size_toArray, List.size_toArray]; omega)) ⟨e1, e2, ?_⟩
  have ea : its.toArray ++ its2.toArray = (its ++ its2).toArray := by simp
  rw [ea]
  exact ⟨.ref _, _, I.lnew (t' := s.toks) (r.append r2) (by rw [List.length_append]; omega), rfl, q _ I.fresh⟩
theorem get_list : PGet X (qGetL X.K) := by
  intro pins s σ H x y v u Q I rx ry h
  obtain ⟨p, xs, i, z, rfl, rfl, hq, he, q⟩ := h
  cases rx
  obtain ⟨t, rfl⟩ := ry
  obtain ⟨its, r, pl, hz⟩ := I.list hq
  obtain ⟨j, h1, h2, h3, h4, h5⟩ := atI_get he
  obtain ⟨w, ew, rw'⟩ := r.get h2
  have hl := r.length
  have hn := line63
  have fin : EP X pins σ Q w s := ⟨z, H, I, rw', q⟩
  by_cases h0 : 0 ≤ i
  · have hj : i.toNat = j := by
      rw [seqIndex_of h0 h5] at h1
      exact Option.some.inj h1
    exact wpAny_getItem_list pl.isList h0 (by omega) (by rw [hj]; simpa using ew) fin
  · have hj : (i + (its.toArray.size : Int)).toNat = j := by
      rw [seqIndex_neg (by omega) h4] at h1
      rw [List.size_toArray, ← hl]
      exact Option.some.inj h1
    exact wpAny_getItem_list_neg pl.isList (by omega) (by rw [List.size_toArray] <;> omega) (by omega) (by rw [hj]; simpa using ew) fin
end
/-! ### what a def is known by -/
structure Dfn (K : PySem.W.Frag) (mg : Str → Option Value) (x : Str) (ps : List Str) (st : Stmt) : Prop where
  ex : ∃ (f : Addr) (fd : FuncData), Fun K x x st f fd ∧ mg x = some (.ref f) ∧ Binds K fd ps []
/-- a def that may be called by its name at a level; it may raise -/
structure Cal (P : Program) (w : World) (K : PySem.W.Frag) (mg : Str → Option Value) (base : Heap) (k : Nat) (x : Str) (sp : Sp) : Prop where
  ex : ∃ (f : Addr) (fd : FuncData) (ps : List Str), FnOk P w K mg base (L2.CX P w) k f fd ps sp ∧ mg x = some (.ref f) ∧ PySem.W.keepIn K (.ref f) = true ∧ Binds K fd ps []
section
variable {P : Program} {w : World} {K : PySem.W.Frag} {mg : Str → Option Value} {base : Heap}
theorem cal_of {x : Str} {st : Stmt} {N ps : List Str} {k : Nat} {sp : Sp} (D : Dfn K mg x ps st) (S : FnScope N ps (defScope st)) (len : ∀ vs H Q E, sp vs H Q E → vs.length = ps.length)
    (hbody : ∀ (f : Addr) (cdv : Value) (A : Around) (outer : List Env) (s : Shared) (H : Hp) (vs : List V) (Q : VK) (E : XK), Room k (A.deeper (envOfC x (defScope st) s.heap.objs.size f cdv)) → sp vs H Q E →
      ∃ t, PSs (cxOf (L2.CX P w) P w K mg base N x (defScope st) f cdv A outer s H E) (defBody st) t ∧ t { nx := fun _ H' => Q .non H', rt := Q } (start N vs) H) : Cal P w K mg base (k + 1) x sp := by
  obtain ⟨f, fd, F, hm, hb⟩ := D.ex
  exact ⟨f, fd, ps, F.okX S len (hbody f), hm, F.kp, hb⟩
end
def tF (sp : Sp) (E : XK) (t : TA) : TE := fun σ H Q => t σ H fun vs H1 => sp vs H1 Q E
section
variable {X : Cx} {k j : Nat} {x : Str} {sp : Sp} {E : XK} {e : Expr} {es : List Expr} {t : TA} {p pos : Pos}
theorem pe_f (c : Cal X.prog X.w X.K X.mg X.base k x sp) (hr : Room j X.A) (hk : k ≤ j) (hx : Passes (L2.CX X.prog X.w) X E) (ha : PA X (e :: es) t) (hg : Gl X x := by rfl)
    (hdb : (x == ("__debug__" : Str)) = false := by decide) (he : starEach (e :: es) X.env = (false, eval e X.env) :: starEach es X.env := by rfl) (hpl : (backTo pos (starEach es X.env)).any (·.1) = false := by rfl) :
    PE X (.Call (.Name x p) (e :: es) [] pos) (tF sp E t) := by
  obtain ⟨f, fd, ps, F, hm, kp, b⟩ := c.ex
  refine ⟨fun pins s σ H Q I h => ?_⟩
  refine (pe_call F (hr.mono hk) hg hm kp b .nil hx ha hdb he hpl).run pins s σ H Q I ?_
  show t σ H fun vs H1 => sp (vs ++ []) H1 Q E
  have e0 : (fun (vs : List V) (H1 : Hp) => sp (vs ++ []) H1 Q E) = fun vs H1 => sp vs H1 Q E := by funext vs H1; rw [List.append_nil]
  rw [e0]
  exact h
theorem pe_fS {W : WX} (c : Cal X.prog X.w X.K X.mg X.base k x sp) (hr : Room j X.A) (hk : k ≤ j) (hx : ∀ σ, PassesAt (L2.CX X.prog X.w) X σ (WE W σ)) (ha : PA X (e :: es) t) (hg : Gl X x := by rfl)
    (hdb : (x == ("__debug__" : Str)) = false := by decide) (he : starEach (e :: es) X.env = (false, eval e X.env) :: starEach es X.env := by rfl) (hpl : (backTo pos (starEach es X.env)).any (·.1) = false := by rfl) :
    PE X (.Call (.Name x p) (e :: es) [] pos) (tCallS sp (WE W) t) := by
  obtain ⟨f, fd, ps, F, hm, kp, b⟩ := c.ex
  exact pe_callS F (hr.mono hk) hg hm kp b hx ha hdb he hpl
end
/-- a class of errors without __init__ -/
structure ExcC (K : PySem.W.Frag) (mg : Str → Option Value) (x : Str) (C : Addr) : Prop where
  g : mg x = some (.ref C)
  x : PySem.W.excIn K C [.type "ValueError", .type "Exception", .type "BaseException", .type "object"] "ValueError.__new__" = true
  k : PySem.W.keepIn K (.ref C) = true
  b : PySem.W.subIn K (.ref C) (.type "BaseException") = some true
  t : PySem.W.typeIn K (.ref C) = some (.type "type")
def tRaiseX (C : Addr) (E : XK) : TS := fun _ _ H => E (.ref C) none H
/-- the built-in names that the texts use stand as they are -/
structure Blt (mg : Str → Option Value) : Prop where
  b_isinstance : mg "isinstance" = none
  b_int : mg "int" = none
  b_bool : mg "bool" = none
  b_str : mg "str" = none
  b_list : mg "list" = none
  b_tuple : mg "tuple" = none
  b_len : mg "len" = none
  b_all : mg "all" = none
  b_sum : mg "sum" = none
  b_abs : mg "abs" = none
  b_min : mg "min" = none
  b_max : mg "max" = none
  b_reversed : mg "reversed" = none
  b_zip : mg "zip" = none
  b_enumerate : mg "enumerate" = none
  b_range : mg "range" = none
  b_ValueError : mg "ValueError" = none
/-- where the classes and defs that are values stand -/
structure Ad where
  LeanError : Addr := (0 : Nat)
  NoNumber : Addr := (0 : Nat)
  NoRow : Addr := (0 : Nat)
  NoText : Addr := (0 : Nat)
  NoDeeds : Addr := (0 : Nat)
  NoCost : Addr := (0 : Nat)
  Prices : Addr := (0 : Nat)
  f_worth : Addr := (0 : Nat)
  f_weight : Addr := (0 : Nat)
  f_is_lean : Addr := (0 : Nat)
  f_shown : Addr := (0 : Nat)
  f_added : Addr := (0 : Nat)
  f_multiplied : Addr := (0 : Nat)
  f_compared : Addr := (0 : Nat)
  f_negated : Addr := (0 : Nat)
  f_together : Addr := (0 : Nat)
  f_lean : Addr := (0 : Nat)
  f_read : Addr := (0 : Nat)
/-! ### readings as rewrite rules, from the head -/
def st (n : Nat) (vs : List V) : St := vs.map some ++ List.replicate (n - vs.length) none
section
variable {σ : St} {H : Hp} {Q : VK} {D : Ends} {ta tb tc te : TE} {t u : TT} {K : PySem.W.Frag}
theorem r_c {v : V} : tC v σ H Q = Q v H := rfl
theorem r_op {r : R2} : tOp r ta tb σ H Q = ta σ H fun x H1 => tb σ H1 fun y H2 => r x y H2 Q := rfl
theorem r_un {r : V → Hp → VK → Prop} : tUn r ta σ H Q = ta σ H fun x H1 => r x H1 Q := rfl
theorem r_I0 {g : Int → Int → V} {i j : Int} : rI0 g (.int i) (.int j) H Q = Q (g i j) H := by
  apply propext
  exact ⟨fun ⟨_, _, e1, e2, q⟩ => by cases e1; cases e2; exact q, fun q => ⟨i, j, rfl, rfl, q⟩⟩
theorem r_I {C : Int → Int → Prop} {g : Int → Int → V} {i j : Int} : rI C g (.int i) (.int j) H Q = (C i j ∧ Q (g i j) H) := by
  apply propext
  exact ⟨fun ⟨_, _, e1, e2, c, q⟩ => by cases e1; cases e2; exact ⟨c, q⟩, fun ⟨c, q⟩ => ⟨i, j, rfl, rfl, c, q⟩⟩
theorem r_U {g : Int → V} {i : Int} : rU g (.int i) H Q = Q (g i) H := by
  apply propext
  exact ⟨fun ⟨_, e1, q⟩ => by cases e1; exact q, fun q => ⟨i, rfl, q⟩⟩
theorem r_eq {x y : V} : rEq x y H Q = (scal x y = true ∧ Q (.bl (decide (x = y))) H) := rfl
theorem r_ne {x y : V} : rNe x y H Q = (scal x y = true ∧ Q (.bl (!decide (x = y))) H) := rfl
theorem r_eqI {i j : Int} : rEq (.int i) (.int j) H Q = Q (.bl (decide (i = j))) H := by
  apply propext
  have e : decide (V.int i = V.int j) = decide (i = j) := by by_cases h : i = j <;> simp [h]
  exact ⟨fun ⟨_, q⟩ => by rw [e] at q; exact q, fun q => ⟨rfl, by rw [e]; exact q⟩⟩
theorem r_neI {i j : Int} : rNe (.int i) (.int j) H Q = Q (.bl (!decide (i = j))) H := by
  apply propext
  have e : decide (V.int i = V.int j) = decide (i = j) := by by_cases h : i = j <;> simp [h]
  exact ⟨fun ⟨_, q⟩ => by rw [e] at q; exact q, fun q => ⟨rfl, by rw [e]; exact q⟩⟩
theorem r_eqS {i j : Str} : rEq (.str i) (.str j) H Q = Q (.bl (decide (i = j))) H := by
  apply propext
  have e : decide (V.str i = V.str j) = decide (i = j) := by by_cases h : i = j <;> simp [h]
  exact ⟨fun ⟨_, q⟩ => by rw [e] at q; exact q, fun q => ⟨rfl, by rw [e]; exact q⟩⟩
theorem r_neS {i j : Str} : rNe (.str i) (.str j) H Q = Q (.bl (!decide (i = j))) H := by
  apply propext
  have e : decide (V.str i = V.str j) = decide (i = j) := by by_cases h : i = j <;> simp [h]
  exact ⟨fun ⟨_, q⟩ => by rw [e] at q; exact q, fun q => ⟨rfl, by rw [e]; exact q⟩⟩
theorem r_eqB {i j : Bool} : rEq (.bl i) (.bl j) H Q = Q (.bl (decide (i = j))) H := by
  apply propext
  have e : decide (V.bl i = V.bl j) = decide (i = j) := by by_cases h : i = j <;> simp [h]
  exact ⟨fun ⟨_, q⟩ => by rw [e] at q; exact q, fun q => ⟨rfl, by rw [e]; exact q⟩⟩
theorem r_neB {i j : Bool} : rNe (.bl i) (.bl j) H Q = Q (.bl (!decide (i = j))) H := by
  apply propext
  have e : decide (V.bl i = V.bl j) = decide (i = j) := by by_cases h : i = j <;> simp [h]
  exact ⟨fun ⟨_, q⟩ => by rw [e] at q; exact q, fun q => ⟨rfl, by rw [e]; exact q⟩⟩
theorem r_isB {a b : Bool} : rIsB (.bl a) (.bl b) H Q = Q (.bl (decide (a = b))) H := by
  apply propext
  exact ⟨fun ⟨_, _, e1, e2, q⟩ => by cases e1; cases e2; exact q, fun q => ⟨a, b, rfl, rfl, q⟩⟩
theorem r_notB {a b : Bool} : rNotB (.bl a) (.bl b) H Q = Q (.bl (!decide (a = b))) H := by
  apply propext
  exact ⟨fun ⟨_, _, e1, e2, q⟩ => by cases e1; cases e2; exact q, fun q => ⟨a, b, rfl, rfl, q⟩⟩
theorem r_isN {x : V} : qIsN x .non H Q = Q (.bl (decide (x = .non))) H := by simp [qIsN]
theorem r_notN {x : V} : qNotN x .non H Q = Q (.bl (!decide (x = .non))) H := by simp [qNotN]
theorem r_addS {i j : Str} : qAddS (.str i) (.str j) H Q = (i.length + j.length ≤ sizeLine ∧ Q (.str (i ++ j)) H) := by simp [qAddS]
theorem r_abs {i : Int} : qAbs [.int i] H Q = Q (.int (if i < 0 then -i else i)) H := by simp [qAbs]
theorem r_max2 {i j : Int} : qMax2 [.int i, .int j] H Q = Q (.int (if j > i then j else i)) H := by
  apply propext
  exact ⟨fun ⟨_, _, e, q⟩ => by cases e; exact q, fun q => ⟨i, j, rfl, q⟩⟩
theorem r_min2 {i j : Int} : qMin2 [.int i, .int j] H Q = Q (.int (if j < i then j else i)) H := by
  apply propext
  exact ⟨fun ⟨_, _, e, q⟩ => by cases e; exact q, fun q => ⟨i, j, rfl, q⟩⟩
theorem r_int1i {i : Int} : qInt1 [.int i] H Q = Q (.int i) H := by simp [qInt1]
theorem r_int1b {k : Bool} : qInt1 [.bl k] H Q = Q (.int (if k then 1 else 0)) H := by simp [qInt1]
theorem r_test {T : Bool → Hp → Prop} : tTest te σ H T = te σ H fun x H' => ∃ k, x = .bl k ∧ T k H' := rfl
theorem r_B {T : Bool → Hp → Prop} : tB te σ H T = te σ H fun x H' => ∃ k, x = .bl k ∧ T k H' := rfl
theorem r_exbl {b : Bool} {T : Bool → Prop} : (∃ k, V.bl b = V.bl k ∧ T k) = T b := by simp
theorem r_exint {i : Int} {T : Int → Prop} : (∃ k, V.int i = V.int k ∧ T k) = T i := by simp
theorem r_not {T : Bool → Hp → Prop} : tNot t σ H T = t σ H fun c H1 => T (!c) H1 := rfl
theorem r_and {T : Bool → Hp → Prop} : tAnd t u σ H T = t σ H fun c H1 => if c = true then u σ H1 T else T false H1 := rfl
theorem r_or {T : Bool → Hp → Prop} : tOr t u σ H T = t σ H fun c H1 => if c = true then T true H1 else u σ H1 T := rfl
theorem r_andV : tAndV ta tb σ H Q = ta σ H fun x H1 => ∃ c, x = .bl c ∧ if c = true then tb σ H1 Q else Q (.bl false) H1 := rfl
theorem r_orV : tOrV ta tb σ H Q = ta σ H fun x H1 => ∃ c, x = .bl c ∧ if c = true then Q (.bl true) H1 else tb σ H1 Q := rfl
theorem r_notV : tNotV ta σ H Q = ta σ H fun x H1 => ∃ c, x = .bl c ∧ Q (.bl (!c)) H1 := rfl
theorem r_if {t : TT} : tIf t ta tb σ H Q = t σ H fun c H1 => if c = true then ta σ H1 Q else tb σ H1 Q := rfl
theorem r_chain {r r' : R2} : tChain r r' ta tb tc σ H Q = ta σ H fun x H1 => tb σ H1 fun y H2 => r x y H2 fun z H3 => ∃ k, z = .bl k ∧ (if k = true then tc σ H3 fun w' H4 => r' y w' H4 Q else Q (.bl false) H3) := rfl
theorem r_nil {T : List V → Hp → Prop} : tNil σ H T = T [] H := rfl
theorem r_cons {tr : TA} {T : List V → Hp → Prop} : tCons ta tr σ H T = ta σ H fun x H1 => tr σ H1 fun xs H2 => T (x :: xs) H2 := rfl
theorem r_CB {r : List V → Hp → VK → Prop} {tr : TA} : tCB r tr σ H Q = tr σ H fun vs H1 => r vs H1 Q := rfl
theorem r_F {sp : Sp} {E : XK} {tr : TA} : tF sp E tr σ H Q = tr σ H fun vs H1 => sp vs H1 Q E := rfl
theorem r_CS {sp : Sp} {E : St → XK} {tr : TA} : tCallS sp E tr σ H Q = tr σ H fun vs H1 => sp vs H1 Q (E σ) := rfl
theorem r_tup {tr : TA} : tTup tr σ H Q = tr σ H fun xs H1 => xs.length ≤ sizeLine ∧ ∀ p, H1 p = none → Q (.ref p) (upd H1 p (.tup xs)) := rfl
theorem r_lst {tr : TA} : tLst tr σ H Q = tr σ H fun xs H1 => xs.length ≤ sizeLine ∧ ∀ p, H1 p = none → Q (.ref p) (upd H1 p (.lst xs)) := rfl
theorem r_sl {r : V → Option Int → Option Int → Hp → VK → Prop} {tl th : TO} : tSl r te tl th σ H Q = te σ H fun x H1 => tl σ H1 fun l H2 => th σ H2 fun u H3 => r x l u H3 Q := rfl
theorem r_part {T : Option Int → Hp → Prop} : tPart te σ H T = te σ H fun x H1 => ∃ i, x = .int i ∧ T (some i) H1 := rfl
theorem r_nopart {T : Option Int → Hp → Prop} : tNoPart σ H T = T none H := rfl
theorem r_BM0 {T : String} {r : V → List V → Hp → VK → Prop} : tBM0 K T r te σ H Q = te σ H fun x H1 => tyV K T x H1 ∧ r x [] H1 Q := rfl
theorem r_BM {T : String} {r : V → List V → Hp → VK → Prop} {tr : TA} : tBM K T r te tr σ H Q = te σ H fun x H1 => tyV K T x H1 ∧ tr σ H1 fun xs H2 => r x xs H2 Q := rfl
theorem r_next : tNext D σ H = D.nx σ H := rfl
theorem r_seq {t u : TS} : tSeq t u D σ H = t { D with nx := u D } σ H := rfl
theorem r_drop : tDrop te D σ H = te σ H fun _ H1 => D.nx σ H1 := rfl
theorem r_ret : tRet te D σ H = te σ H D.rt := rfl
theorem r_retN : tRetN D σ H = D.rt .non H := rfl
theorem r_ifS {c : TT} {t u : TS} : tIfS c t u D σ H = c σ H fun b H1 => if b = true then t D σ H1 else u D σ H1 := rfl
theorem r_asg {g : TG} : tAsg te g D σ H = te σ H fun x H1 => g x σ H1 D.nx := rfl
theorem r_raise {C : Addr} {E : XK} : tRaiseX C E D σ H = E (.ref C) none H := rfl
theorem r_yes {T : Bool → Hp → Prop} : tYes σ H T = T true H := rfl
theorem r_par {i j : Nat} : tPar i j (tCons ta (tCons tb tNil)) D σ H = ta σ H fun v H1 => tb σ H1 fun w H2 => D.nx ((σ.set i (some v)).set j (some w)) H2 := by
  show (ta σ H fun x H1 => tb σ H1 fun y H2 => ∃ v w, [x, y] = [v, w] ∧ D.nx ((σ.set i (some v)).set j (some w)) H2) = _
  congr 1
  funext x H1
  congr 1
  funext y H2
  apply propext
  exact ⟨fun ⟨_, _, e, q⟩ => by cases e; exact q, fun q => ⟨x, y, rfl, q⟩⟩
theorem r_ite_t {A B : Prop} : (if true = true then A else B) = A := by simp
theorem r_ite_f {A B : Prop} : (if false = true then A else B) = B := by simp
theorem r_ite_d {p : Prop} [Decidable p] {A B : Prop} : (if decide p = true then A else B) = if p then A else B := by simp
theorem r_ite_nd {p : Prop} [Decidable p] {A B : Prop} : (if (!decide p) = true then A else B) = if p then B else A := by by_cases h : p <;> simp [h]
theorem r_v0 {v : V} {σ : St} : tVar 0 (some v :: σ) H Q = Q v H := by
  apply propext
  exact ⟨fun ⟨_, e, q⟩ => by cases e; exact q, fun q => ⟨v, rfl, q⟩⟩
theorem r_n0 {a0 : Option V} {v : V} {σ : St} {T : St → Hp → Prop} : gName 0 v (a0 :: σ) H T = T (some v :: σ) H := rfl
theorem r_a0 {v : V} {σ : St} {ti : TIp} : tAug 0 te ti D (some v :: σ) H = te (some v :: σ) H fun y H1 => ti v y H1 fun z H2 => D.nx (some z :: σ) H2 := by
  apply propext
  exact ⟨fun ⟨_, e, q⟩ => by cases e; exact q, fun q => ⟨v, rfl, q⟩⟩
theorem r_v1 {a0 : Option V} {v : V} {σ : St} : tVar 1 (a0 :: some v :: σ) H Q = Q v H := by
  apply propext
  exact ⟨fun ⟨_, e, q⟩ => by cases e; exact q, fun q => ⟨v, rfl, q⟩⟩
theorem r_n1 {a0 a1 : Option V} {v : V} {σ : St} {T : St → Hp → Prop} : gName 1 v (a0 :: a1 :: σ) H T = T (a0 :: some v :: σ) H := rfl
theorem r_a1 {a0 : Option V} {v : V} {σ : St} {ti : TIp} : tAug 1 te ti D (a0 :: some v :: σ) H = te (a0 :: some v :: σ) H fun y H1 => ti v y H1 fun z H2 => D.nx (a0 :: some z :: σ) H2 := by
  apply propext
  exact ⟨fun ⟨_, e, q⟩ => by cases e; exact q, fun q => ⟨v, rfl, q⟩⟩
theorem r_v2 {a0 a1 : Option V} {v : V} {σ : St} : tVar 2 (a0 :: a1 :: some v :: σ) H Q = Q v H := by
  apply propext
  exact ⟨fun ⟨_, e, q⟩ => by cases e; exact q, fun q => ⟨v, rfl, q⟩⟩
theorem r_n2 {a0 a1 a2 : Option V} {v : V} {σ : St} {T : St → Hp → Prop} : gName 2 v (a0 :: a1 :: a2 :: σ) H T = T (a0 :: a1 :: some v :: σ) H := rfl
theorem r_a2 {a0 a1 : Option V} {v : V} {σ : St} {ti : TIp} : tAug 2 te ti D (a0 :: a1 :: some v :: σ) H = te (a0 :: a1 :: some v :: σ) H fun y H1 => ti v y H1 fun z H2 => D.nx (a0 :: a1 :: some z :: σ) H2 := by
  apply propext
  exact ⟨fun ⟨_, e, q⟩ => by cases e; exact q, fun q => ⟨v, rfl, q⟩⟩
theorem r_v3 {a0 a1 a2 : Option V} {v : V} {σ : St} : tVar 3 (a0 :: a1 :: a2 :: some v :: σ) H Q = Q v H := by
  apply propext
  exact ⟨fun ⟨_, e, q⟩ => by cases e; exact q, fun q => ⟨v, rfl, q⟩⟩
theorem r_n3 {a0 a1 a2 a3 : Option V} {v : V} {σ : St} {T : St → Hp → Prop} : gName 3 v (a0 :: a1 :: a2 :: a3 :: σ) H T = T (a0 :: a1 :: a2 :: some v :: σ) H := rfl
theorem r_a3 {a0 a1 a2 : Option V} {v : V} {σ : St} {ti : TIp} : tAug 3 te ti D (a0 :: a1 :: a2 :: some v :: σ) H = te (a0 :: a1 :: a2 :: some v :: σ) H fun y H1 => ti v y H1 fun z H2 => D.nx (a0 :: a1 :: a2 :: some z :: σ) H2 := by
  apply propext
  exact ⟨fun ⟨_, e, q⟩ => by cases e; exact q, fun q => ⟨v, rfl, q⟩⟩
theorem r_v4 {a0 a1 a2 a3 : Option V} {v : V} {σ : St} : tVar 4 (a0 :: a1 :: a2 :: a3 :: some v :: σ) H Q = Q v H := by
  apply propext
  exact ⟨fun ⟨_, e, q⟩ => by cases e; exact q, fun q => ⟨v, rfl, q⟩⟩
theorem r_n4 {a0 a1 a2 a3 a4 : Option V} {v : V} {σ : St} {T : St → Hp → Prop} : gName 4 v (a0 :: a1 :: a2 :: a3 :: a4 :: σ) H T = T (a0 :: a1 :: a2 :: a3 :: some v :: σ) H := rfl
theorem r_a4 {a0 a1 a2 a3 : Option V} {v : V} {σ : St} {ti : TIp} : tAug 4 te ti D (a0 :: a1 :: a2 :: a3 :: some v :: σ) H = te (a0 :: a1 :: a2 :: a3 :: some v :: σ) H fun y H1 => ti v y H1 fun z H2 => D.nx (a0 :: a1 :: a2 :: a3 :: some z :: σ) H2 := by
  apply propext
  exact ⟨fun ⟨_, e, q⟩ => by cases e; exact q, fun q => ⟨v, rfl, q⟩⟩
theorem r_v5 {a0 a1 a2 a3 a4 : Option V} {v : V} {σ : St} : tVar 5 (a0 :: a1 :: a2 :: a3 :: a4 :: some v :: σ) H Q = Q v H := by
  apply propext
  exact ⟨fun ⟨_, e, q⟩ => by cases e; exact q, fun q => ⟨v, rfl, q⟩⟩
theorem r_n5 {a0 a1 a2 a3 a4 a5 : Option V} {v : V} {σ : St} {T : St → Hp → Prop} : gName 5 v (a0 :: a1 :: a2 :: a3 :: a4 :: a5 :: σ) H T = T (a0 :: a1 :: a2 :: a3 :: a4 :: some v :: σ) H := rfl
theorem r_a5 {a0 a1 a2 a3 a4 : Option V} {v : V} {σ : St} {ti : TIp} : tAug 5 te ti D (a0 :: a1 :: a2 :: a3 :: a4 :: some v :: σ) H = te (a0 :: a1 :: a2 :: a3 :: a4 :: some v :: σ) H fun y H1 => ti v y H1 fun z H2 => D.nx (a0 :: a1 :: a2 :: a3 :: a4 :: some z :: σ) H2 := by
  apply propext
  exact ⟨fun ⟨_, e, q⟩ => by cases e; exact q, fun q => ⟨v, rfl, q⟩⟩
theorem r_v6 {a0 a1 a2 a3 a4 a5 : Option V} {v : V} {σ : St} : tVar 6 (a0 :: a1 :: a2 :: a3 :: a4 :: a5 :: some v :: σ) H Q = Q v H := by
  apply propext
  exact ⟨fun ⟨_, e, q⟩ => by cases e; exact q, fun q => ⟨v, rfl, q⟩⟩
theorem r_n6 {a0 a1 a2 a3 a4 a5 a6 : Option V} {v : V} {σ : St} {T : St → Hp → Prop} : gName 6 v (a0 :: a1 :: a2 :: a3 :: a4 :: a5 :: a6 :: σ) H T = T (a0 :: a1 :: a2 :: a3 :: a4 :: a5 :: some v :: σ) H := rfl
theorem r_a6 {a0 a1 a2 a3 a4 a5 : Option V} {v : V} {σ : St} {ti : TIp} : tAug 6 te ti D (a0 :: a1 :: a2 :: a3 :: a4 :: a5 :: some v :: σ) H = te (a0 :: a1 :: a2 :: a3 :: a4 :: a5 :: some v :: σ) H fun y H1 => ti v y H1 fun z H2 => D.nx (a0 :: a1 :: a2 :: a3 :: a4 :: a5 :: some z :: σ) H2 := by
  apply propext
  exact ⟨fun ⟨_, e, q⟩ => by cases e; exact q, fun q => ⟨v, rfl, q⟩⟩
theorem r_v7 {a0 a1 a2 a3 a4 a5 a6 : Option V} {v : V} {σ : St} : tVar 7 (a0 :: a1 :: a2 :: a3 :: a4 :: a5 :: a6 :: some v :: σ) H Q = Q v H := by
  apply propext
  exact ⟨fun ⟨_, e, q⟩ => by cases e; exact q, fun q => ⟨v, rfl, q⟩⟩
theorem r_n7 {a0 a1 a2 a3 a4 a5 a6 a7 : Option V} {v : V} {σ : St} {T : St → Hp → Prop} : gName 7 v (a0 :: a1 :: a2 :: a3 :: a4 :: a5 :: a6 :: a7 :: σ) H T = T (a0 :: a1 :: a2 :: a3 :: a4 :: a5 :: a6 :: some v :: σ) H := rfl
theorem r_a7 {a0 a1 a2 a3 a4 a5 a6 : Option V} {v : V} {σ : St} {ti : TIp} : tAug 7 te ti D (a0 :: a1 :: a2 :: a3 :: a4 :: a5 :: a6 :: some v :: σ) H = te (a0 :: a1 :: a2 :: a3 :: a4 :: a5 :: a6 :: some v :: σ) H fun y H1 => ti v y H1 fun z H2 => D.nx (a0 :: a1 :: a2 :: a3 :: a4 :: a5 :: a6 :: some z :: σ) H2 := by
  apply propext
  exact ⟨fun ⟨_, e, q⟩ => by cases e; exact q, fun q => ⟨v, rfl, q⟩⟩
theorem r_v8 {a0 a1 a2 a3 a4 a5 a6 a7 : Option V} {v : V} {σ : St} : tVar 8 (a0 :: a1 :: a2 :: a3 :: a4 :: a5 :: a6 :: a7 :: some v :: σ) H Q = Q v H := by
  apply propext
  exact ⟨fun ⟨_, e, q⟩ => by cases e; exact q, fun q => ⟨v, rfl, q⟩⟩
theorem r_n8 {a0 a1 a2 a3 a4 a5 a6 a7 a8 : Option V} {v : V} {σ : St} {T : St → Hp → Prop} : gName 8 v (a0 :: a1 :: a2 :: a3 :: a4 :: a5 :: a6 :: a7 :: a8 :: σ) H T = T (a0 :: a1 :: a2 :: a3 :: a4 :: a5 :: a6 :: a7 :: some v :: σ) H := rfl
theorem r_a8 {a0 a1 a2 a3 a4 a5 a6 a7 : Option V} {v : V} {σ : St} {ti : TIp} : tAug 8 te ti D (a0 :: a1 :: a2 :: a3 :: a4 :: a5 :: a6 :: a7 :: some v :: σ) H = te (a0 :: a1 :: a2 :: a3 :: a4 :: a5 :: a6 :: a7 :: some v :: σ) H fun y H1 => ti v y H1 fun z H2 => D.nx (a0 :: a1 :: a2 :: a3 :: a4 :: a5 :: a6 :: a7 :: some z :: σ) H2 := by
  apply propext
  exact ⟨fun ⟨_, e, q⟩ => by cases e; exact q, fun q => ⟨v, rfl, q⟩⟩
theorem r_v9 {a0 a1 a2 a3 a4 a5 a6 a7 a8 : Option V} {v : V} {σ : St} : tVar 9 (a0 :: a1 :: a2 :: a3 :: a4 :: a5 :: a6 :: a7 :: a8 :: some v :: σ) H Q = Q v H := by
  apply propext
  exact ⟨fun ⟨_, e, q⟩ => by cases e; exact q, fun q => ⟨v, rfl, q⟩⟩
theorem r_n9 {a0 a1 a2 a3 a4 a5 a6 a7 a8 a9 : Option V} {v : V} {σ : St} {T : St → Hp → Prop} : gName 9 v (a0 :: a1 :: a2 :: a3 :: a4 :: a5 :: a6 :: a7 :: a8 :: a9 :: σ) H T = T (a0 :: a1 :: a2 :: a3 :: a4 :: a5 :: a6 :: a7 :: a8 :: some v :: σ) H := rfl
theorem r_a9 {a0 a1 a2 a3 a4 a5 a6 a7 a8 : Option V} {v : V} {σ : St} {ti : TIp} : tAug 9 te ti D (a0 :: a1 :: a2 :: a3 :: a4 :: a5 :: a6 :: a7 :: a8 :: some v :: σ) H = te (a0 :: a1 :: a2 :: a3 :: a4 :: a5 :: a6 :: a7 :: a8 :: some v :: σ) H fun y H1 => ti v y H1 fun z H2 => D.nx (a0 :: a1 :: a2 :: a3 :: a4 :: a5 :: a6 :: a7 :: a8 :: some z :: σ) H2 := by
  apply propext
  exact ⟨fun ⟨_, e, q⟩ => by cases e; exact q, fun q => ⟨v, rfl, q⟩⟩
theorem r_v10 {a0 a1 a2 a3 a4 a5 a6 a7 a8 a9 : Option V} {v : V} {σ : St} : tVar 10 (a0 :: a1 :: a2 :: a3 :: a4 :: a5 :: a6 :: a7 :: a8 :: a9 :: some v :: σ) H Q = Q v H := by
  apply propext
  exact ⟨fun ⟨_, e, q⟩ => by cases e; exact q, fun q => ⟨v, rfl, q⟩⟩
theorem r_n10 {a0 a1 a2 a3 a4 a5 a6 a7 a8 a9 a10 : Option V} {v : V} {σ : St} {T : St → Hp → Prop} : gName 10 v (a0 :: a1 :: a2 :: a3 :: a4 :: a5 :: a6 :: a7 :: a8 :: a9 :: a10 :: σ) H T = T (a0 :: a1 :: a2 :: a3 :: a4 :: a5 :: a6 :: a7 :: a8 :: a9 :: some v :: σ) H := rfl
theorem r_a10 {a0 a1 a2 a3 a4 a5 a6 a7 a8 a9 : Option V} {v : V} {σ : St} {ti : TIp} : tAug 10 te ti D (a0 :: a1 :: a2 :: a3 :: a4 :: a5 :: a6 :: a7 :: a8 :: a9 :: some v :: σ) H = te (a0 :: a1 :: a2 :: a3 :: a4 :: a5 :: a6 :: a7 :: a8 :: a9 :: some v :: σ) H fun y H1 => ti v y H1 fun z H2 => D.nx (a0 :: a1 :: a2 :: a3 :: a4 :: a5 :: a6 :: a7 :: a8 :: a9 :: some z :: σ) H2 := by
  apply propext
  exact ⟨fun ⟨_, e, q⟩ => by cases e; exact q, fun q => ⟨v, rfl, q⟩⟩
theorem r_v11 {a0 a1 a2 a3 a4 a5 a6 a7 a8 a9 a10 : Option V} {v : V} {σ : St} : tVar 11 (a0 :: a1 :: a2 :: a3 :: a4 :: a5 :: a6 :: a7 :: a8 :: a9 :: a10 :: some v :: σ) H Q = Q v H := by
  apply propext
  exact ⟨fun ⟨_, e, q⟩ => by cases e; exact q, fun q => ⟨v, rfl, q⟩⟩
theorem r_n11 {a0 a1 a2 a3 a4 a5 a6 a7 a8 a9 a10 a11 : Option V} {v : V} {σ : St} {T : St → Hp → Prop} : gName 11 v (a0 :: a1 :: a2 :: a3 :: a4 :: a5 :: a6 :: a7 :: a8 :: a9 :: a10 :: a11 :: σ) H T = T (a0 :: a1 :: a2 :: a3 :: a4 :: a5 :: a6 :: a7 :: a8 :: a9 :: a10 :: some v :: σ) H := rfl
theorem r_a11 {a0 a1 a2 a3 a4 a5 a6 a7 a8 a9 a10 : Option V} {v : V} {σ : St} {ti : TIp} : tAug 11 te ti D (a0 :: a1 :: a2 :: a3 :: a4 :: a5 :: a6 :: a7 :: a8 :: a9 :: a10 :: some v :: σ) H = te (a0 :: a1 :: a2 :: a3 :: a4 :: a5 :: a6 :: a7 :: a8 :: a9 :: a10 :: some v :: σ) H fun y H1 => ti v y H1 fun z H2 => D.nx (a0 :: a1 :: a2 :: a3 :: a4 :: a5 :: a6 :: a7 :: a8 :: a9 :: a10 :: some z :: σ) H2 := by
  apply propext
  exact ⟨fun ⟨_, e, q⟩ => by cases e; exact q, fun q => ⟨v, rfl, q⟩⟩
theorem r_v12 {a0 a1 a2 a3 a4 a5 a6 a7 a8 a9 a10 a11 : Option V} {v : V} {σ : St} : tVar 12 (a0 :: a1 :: a2 :: a3 :: a4 :: a5 :: a6 :: a7 :: a8 :: a9 :: a10 :: a11 :: some v :: σ) H Q = Q v H := by
  apply propext
  exact ⟨fun ⟨_, e, q⟩ => by cases e; exact q, fun q => ⟨v, rfl, q⟩⟩
theorem r_n12 {a0 a1 a2 a3 a4 a5 a6 a7 a8 a9 a10 a11 a12 : Option V} {v : V} {σ : St} {T : St → Hp → Prop} : gName 12 v (a0 :: a1 :: a2 :: a3 :: a4 :: a5 :: a6 :: a7 :: a8 :: a9 :: a10 :: a11 :: a12 :: σ) H T = T (a0 :: a1 :: a2 :: a3 :: a4 :: a5 :: a6 :: a7 :: a8 :: a9 :: a10 :: a11 :: some v :: σ) H := rfl
theorem r_a12 {a0 a1 a2 a3 a4 a5 a6 a7 a8 a9 a10 a11 : Option V} {v : V} {σ : St} {ti : TIp} : tAug 12 te ti D (a0 :: a1 :: a2 :: a3 :: a4 :: a5 :: a6 :: a7 :: a8 :: a9 :: a10 :: a11 :: some v :: σ) H = te (a0 :: a1 :: a2 :: a3 :: a4 :: a5 :: a6 :: a7 :: a8 :: a9 :: a10 :: a11 :: some v :: σ) H fun y H1 => ti v y H1 fun z H2 => D.nx (a0 :: a1 :: a2 :: a3 :: a4 :: a5 :: a6 :: a7 :: a8 :: a9 :: a10 :: a11 :: some z :: σ) H2 := by
  apply propext
  exact ⟨fun ⟨_, e, q⟩ => by cases e; exact q, fun q => ⟨v, rfl, q⟩⟩
theorem r_v13 {a0 a1 a2 a3 a4 a5 a6 a7 a8 a9 a10 a11 a12 : Option V} {v : V} {σ : St} : tVar 13 (a0 :: a1 :: a2 :: a3 :: a4 :: a5 :: a6 :: a7 :: a8 :: a9 :: a10 :: a11 :: a12 :: some v :: σ) H Q = Q v H := by
  apply propext
  exact ⟨fun ⟨_, e, q⟩ => by cases e; exact q, fun q => ⟨v, rfl, q⟩⟩
theorem r_n13 {a0 a1 a2 a3 a4 a5 a6 a7 a8 a9 a10 a11 a12 a13 : Option V} {v : V} {σ : St} {T : St → Hp → Prop} : gName 13 v (a0 :: a1 :: a2 :: a3 :: a4 :: a5 :: a6 :: a7 :: a8 :: a9 :: a10 :: a11 :: a12 :: a13 :: σ) H T = T (a0 :: a1 :: a2 :: a3 :: a4 :: a5 :: a6 :: a7 :: a8 :: a9 :: a10 :: a11 :: a12 :: some v :: σ) H := rfl
theorem r_a13 {a0 a1 a2 a3 a4 a5 a6 a7 a8 a9 a10 a11 a12 : Option V} {v : V} {σ : St} {ti : TIp} : tAug 13 te ti D (a0 :: a1 :: a2 :: a3 :: a4 :: a5 :: a6 :: a7 :: a8 :: a9 :: a10 :: a11 :: a12 :: some v :: σ) H = te (a0 :: a1 :: a2 :: a3 :: a4 :: a5 :: a6 :: a7 :: a8 :: a9 :: a10 :: a11 :: a12 :: some v :: σ) H fun y H1 => ti v y H1 fun z H2 => D.nx (a0 :: a1 :: a2 :: a3 :: a4 :: a5 :: a6 :: a7 :: a8 :: a9 :: a10 :: a11 :: a12 :: some z :: σ) H2 := by
  apply propext
  exact ⟨fun ⟨_, e, q⟩ => by cases e; exact q, fun q => ⟨v, rfl, q⟩⟩
theorem r_v14 {a0 a1 a2 a3 a4 a5 a6 a7 a8 a9 a10 a11 a12 a13 : Option V} {v : V} {σ : St} : tVar 14 (a0 :: a1 :: a2 :: a3 :: a4 :: a5 :: a6 :: a7 :: a8 :: a9 :: a10 :: a11 :: a12 :: a13 :: some v :: σ) H Q = Q v H := by
  apply propext
  exact ⟨fun ⟨_, e, q⟩ => by cases e; exact q, fun q => ⟨v, rfl, q⟩⟩
theorem r_n14 {a0 a1 a2 a3 a4 a5 a6 a7 a8 a9 a10 a11 a12 a13 a14 : Option V} {v : V} {σ : St} {T : St → Hp → Prop} : gName 14 v (a0 :: a1 :: a2 :: a3 :: a4 :: a5 :: a6 :: a7 :: a8 :: a9 :: a10 :: a11 :: a12 :: a13 :: a14 :: σ) H T = T (a0 :: a1 :: a2 :: a3 :: a4 :: a5 :: a6 :: a7 :: a8 :: a9 :: a10 :: a11 :: a12 :: a13 :: some v :: σ) H := rfl
theorem r_a14 {a0 a1 a2 a3 a4 a5 a6 a7 a8 a9 a10 a11 a12 a13 : Option V} {v : V} {σ : St} {ti : TIp} : tAug 14 te ti D (a0 :: a1 :: a2 :: a3 :: a4 :: a5 :: a6 :: a7 :: a8 :: a9 :: a10 :: a11 :: a12 :: a13 :: some v :: σ) H = te (a0 :: a1 :: a2 :: a3 :: a4 :: a5 :: a6 :: a7 :: a8 :: a9 :: a10 :: a11 :: a12 :: a13 :: some v :: σ) H fun y H1 => ti v y H1 fun z H2 => D.nx (a0 :: a1 :: a2 :: a3 :: a4 :: a5 :: a6 :: a7 :: a8 :: a9 :: a10 :: a11 :: a12 :: a13 :: some z :: σ) H2 := by
  apply propext
  exact ⟨fun ⟨_, e, q⟩ => by cases e; exact q, fun q => ⟨v, rfl, q⟩⟩
theorem r_v15 {a0 a1 a2 a3 a4 a5 a6 a7 a8 a9 a10 a11 a12 a13 a14 : Option V} {v : V} {σ : St} : tVar 15 (a0 :: a1 :: a2 :: a3 :: a4 :: a5 :: a6 :: a7 :: a8 :: a9 :: a10 :: a11 :: a12 :: a13 :: a14 :: some v :: σ) H Q = Q v H := by
  apply propext
  exact ⟨fun ⟨_, e, q⟩ => by cases e; exact q, fun q => ⟨v, rfl, q⟩⟩
theorem r_n15 {a0 a1 a2 a3 a4 a5 a6 a7 a8 a9 a10 a11 a12 a13 a14 a15 : Option V} {v : V} {σ : St} {T : St → Hp → Prop} : gName 15 v (a0 :: a1 :: a2 :: a3 :: a4 :: a5 :: a6 :: a7 :: a8 :: a9 :: a10 :: a11 :: a12 :: a13 :: a14 :: a15 :: σ) H T = T (a0 :: a1 :: a2 :: a3 :: a4 :: a5 :: a6 :: a7 :: a8 :: a9 :: a10 :: a11 :: a12 :: a13 :: a14 :: some v :: σ) H := rfl
theorem r_a15 {a0 a1 a2 a3 a4 a5 a6 a7 a8 a9 a10 a11 a12 a13 a14 : Option V} {v : V} {σ : St} {ti : TIp} : tAug 15 te ti D (a0 :: a1 :: a2 :: a3 :: a4 :: a5 :: a6 :: a7 :: a8 :: a9 :: a10 :: a11 :: a12 :: a13 :: a14 :: some v :: σ) H = te (a0 :: a1 :: a2 :: a3 :: a4 :: a5 :: a6 :: a7 :: a8 :: a9 :: a10 :: a11 :: a12 :: a13 :: a14 :: some v :: σ) H fun y H1 => ti v y H1 fun z H2 => D.nx (a0 :: a1 :: a2 :: a3 :: a4 :: a5 :: a6 :: a7 :: a8 :: a9 :: a10 :: a11 :: a12 :: a13 :: a14 :: some z :: σ) H2 := by
  apply propext
  exact ⟨fun ⟨_, e, q⟩ => by cases e; exact q, fun q => ⟨v, rfl, q⟩⟩
theorem r_augS {to ti : TE} {tget : V → V → Hp → VK → Prop} {tip : TIp} {tset : TSet} : tAugS to ti te tget tip tset D σ H = to σ H fun o H1 => ti σ H1 fun i H2 => tget o i H2 fun x H3 => te σ H3 fun y H4 => tip x y H4 fun z H5 => tset o i z H5 fun H6 => D.nx σ H6 := rfl
theorem r_ipI {f : Int → Int → Int} {i j : Int} : ipI f (.int i) (.int j) H Q = Q (.int (f i j)) H := by
  apply propext
  exact ⟨fun ⟨_, _, e1, e2, q⟩ => by cases e1; cases e2; exact q, fun q => ⟨i, j, rfl, rfl, q⟩⟩
theorem r_gtup {n : Nat} {g : TGs} {T : St → Hp → Prop} {a : Addr} : gTup K n g (.ref a) σ H T = ∃ xs, SqT K H a xs ∧ xs.length = n ∧ g xs σ H T := by
  apply propext
  exact ⟨fun ⟨_, xs, e, q⟩ => by cases e; exact ⟨xs, q⟩, fun ⟨xs, q⟩ => ⟨a, xs, rfl, q⟩⟩
theorem r_gcons {g : TG} {gs : TGs} {v : V} {vs : List V} {T : St → Hp → Prop} : gCons g gs (v :: vs) σ H T = g v σ H fun σ' H' => gs vs σ' H' T := by
  apply propext
  exact ⟨fun ⟨_, _, e, q⟩ => by cases e; exact q, fun q => ⟨v, vs, rfl, q⟩⟩
theorem r_gnil {T : St → Hp → Prop} : gNil [] σ H T = T σ H := by
  apply propext
  exact ⟨fun ⟨_, q⟩ => q, fun q => ⟨rfl, q⟩⟩
theorem sizeLine_is : sizeLine = 16777216 := sizeLine_eq
theorem r_cdiv {i j : Int} : CDiv i j = (0 < j ∧ j < 1073741824) := rfl
theorem r_cmul {i j : Int} : CMul i j = ((-18446744073709551616 < i ∧ i < 18446744073709551616) ∨ (-18446744073709551616 < j ∧ j < 18446744073709551616)) := by
  unfold CMul
  rw [show (2 : Int) ^ 64 = 18446744073709551616 from by decide]
theorem r_cpow60 : CPow 10 60 = True := eq_true ⟨by decide, by decide, by decide⟩
theorem r_cpow40 : CPow 10 40 = True := eq_true ⟨by decide, by decide, by decide⟩
theorem r_cpow30 : CPow 10 30 = True := eq_true ⟨by decide, by decide, by decide⟩
theorem r_cpow9 : CPow 10 9 = True := eq_true ⟨by decide, by decide, by decide⟩
theorem r_p60 : ((0 : Int) < 2 * 10 ^ Int.toNat 60 + 1) = True := eq_true (by decide)
theorem r_p30 : ((0 : Int) < 10 ^ Int.toNat 30 + 1) = True := eq_true (by decide)
theorem r_p9 : ((0 : Int) < 10 ^ Int.toNat 9 + 7) = True := eq_true (by decide)
theorem r_s0 : (([] : List V).length ≤ sizeLine) = True := by rw [sizeLine_eq]; simp
theorem r_s1 {a0 : V} : (([a0] : List V).length ≤ sizeLine) = True := by rw [sizeLine_eq]; simp
theorem r_s2 {a0 a1 : V} : (([a0, a1] : List V).length ≤ sizeLine) = True := by rw [sizeLine_eq]; simp
theorem r_s3 {a0 a1 a2 : V} : (([a0, a1, a2] : List V).length ≤ sizeLine) = True := by rw [sizeLine_eq]; simp
theorem r_s4 {a0 a1 a2 a3 : V} : (([a0, a1, a2, a3] : List V).length ≤ sizeLine) = True := by rw [sizeLine_eq]; simp
theorem r_s5 {a0 a1 a2 a3 a4 : V} : (([a0, a1, a2, a3, a4] : List V).length ≤ sizeLine) = True := by rw [sizeLine_eq]; simp
theorem r_s6 {a0 a1 a2 a3 a4 a5 : V} : (([a0, a1, a2, a3, a4, a5] : List V).length ≤ sizeLine) = True := by rw [sizeLine_eq]; simp
theorem r_s7 {a0 a1 a2 a3 a4 a5 a6 : V} : (([a0, a1, a2, a3, a4, a5, a6] : List V).length ≤ sizeLine) = True := by rw [sizeLine_eq]; simp
theorem r_s8 {a0 a1 a2 a3 a4 a5 a6 a7 : V} : (([a0, a1, a2, a3, a4, a5, a6, a7] : List V).length ≤ sizeLine) = True := by rw [sizeLine_eq]; simp
theorem r_s9 {a0 a1 a2 a3 a4 a5 a6 a7 a8 : V} : (([a0, a1, a2, a3, a4, a5, a6, a7, a8] : List V).length ≤ sizeLine) = True := by rw [sizeLine_eq]; simp
theorem r_s10 {a0 a1 a2 a3 a4 a5 a6 a7 a8 a9 : V} : (([a0, a1, a2, a3, a4, a5, a6, a7, a8, a9] : List V).length ≤ sizeLine) = True := by rw [sizeLine_eq]; simp
theorem r_s11 {a0 a1 a2 a3 a4 a5 a6 a7 a8 a9 a10 : V} : (([a0, a1, a2, a3, a4, a5, a6, a7, a8, a9, a10] : List V).length ≤ sizeLine) = True := by rw [sizeLine_eq]; simp
theorem r_s12 {a0 a1 a2 a3 a4 a5 a6 a7 a8 a9 a10 a11 : V} : (([a0, a1, a2, a3, a4, a5, a6, a7, a8, a9, a10, a11] : List V).length ≤ sizeLine) = True := by rw [sizeLine_eq]; simp
theorem r_s13 {a0 a1 a2 a3 a4 a5 a6 a7 a8 a9 a10 a11 a12 : V} : (([a0, a1, a2, a3, a4, a5, a6, a7, a8, a9, a10, a11, a12] : List V).length ≤ sizeLine) = True := by rw [sizeLine_eq]; simp
theorem r_s14 {a0 a1 a2 a3 a4 a5 a6 a7 a8 a9 a10 a11 a12 a13 : V} : (([a0, a1, a2, a3, a4, a5, a6, a7, a8, a9, a10, a11, a12, a13] : List V).length ≤ sizeLine) = True := by rw [sizeLine_eq]; simp
theorem r_s15 {a0 a1 a2 a3 a4 a5 a6 a7 a8 a9 a10 a11 a12 a13 a14 : V} : (([a0, a1, a2, a3, a4, a5, a6, a7, a8, a9, a10, a11, a12, a13, a14] : List V).length ≤ sizeLine) = True := by rw [sizeLine_eq]; simp
theorem r_s16 {a0 a1 a2 a3 a4 a5 a6 a7 a8 a9 a10 a11 a12 a13 a14 a15 : V} : (([a0, a1, a2, a3, a4, a5, a6, a7, a8, a9, a10, a11, a12, a13, a14, a15] : List V).length ≤ sizeLine) = True := by rw [sizeLine_eq]; simp
theorem r_s17 {a0 a1 a2 a3 a4 a5 a6 a7 a8 a9 a10 a11 a12 a13 a14 a15 a16 : V} : (([a0, a1, a2, a3, a4, a5, a6, a7, a8, a9, a10, a11, a12, a13, a14, a15, a16] : List V).length ≤ sizeLine) = True := by rw [sizeLine_eq]; simp
theorem r_s18 {a0 a1 a2 a3 a4 a5 a6 a7 a8 a9 a10 a11 a12 a13 a14 a15 a16 a17 : V} : (([a0, a1, a2, a3, a4, a5, a6, a7, a8, a9, a10, a11, a12, a13, a14, a15, a16, a17] : List V).length ≤ sizeLine) = True := by rw [sizeLine_eq]; simp
theorem r_s19 {a0 a1 a2 a3 a4 a5 a6 a7 a8 a9 a10 a11 a12 a13 a14 a15 a16 a17 a18 : V} : (([a0, a1, a2, a3, a4, a5, a6, a7, a8, a9, a10, a11, a12, a13, a14, a15, a16, a17, a18] : List V).length ≤ sizeLine) = True := by rw [sizeLine_eq]; simp
theorem r_s20 {a0 a1 a2 a3 a4 a5 a6 a7 a8 a9 a10 a11 a12 a13 a14 a15 a16 a17 a18 a19 : V} : (([a0, a1, a2, a3, a4, a5, a6, a7, a8, a9, a10, a11, a12, a13, a14, a15, a16, a17, a18, a19] : List V).length ≤ sizeLine) = True := by rw [sizeLine_eq]; simp
end
/-! ### readings let one weaken what is wanted -/
def ME (t : TE) : Prop := ∀ σ H (Q Q' : VK), (∀ v H', Q v H' → Q' v H') → t σ H Q → t σ H Q'
def MT (t : TT) : Prop := ∀ σ H (Q Q' : Bool → Hp → Prop), (∀ v H', Q v H' → Q' v H') → t σ H Q → t σ H Q'
def MA (t : TA) : Prop := ∀ σ H (Q Q' : List V → Hp → Prop), (∀ v H', Q v H' → Q' v H') → t σ H Q → t σ H Q'
def MR (r : R2) : Prop := ∀ x y H (Q Q' : VK), (∀ v H', Q v H' → Q' v H') → r x y H Q → r x y H Q'
def MU (r : V → Hp → VK → Prop) : Prop := ∀ x H (Q Q' : VK), (∀ v H', Q v H' → Q' v H') → r x H Q → r x H Q'
def MC (r : List V → Hp → VK → Prop) : Prop := ∀ x H (Q Q' : VK), (∀ v H', Q v H' → Q' v H') → r x H Q → r x H Q'
section
variable {ta tb te : TE} {t u : TT} {r : R2} {tr : TA} {K : PySem.W.Frag}
theorem m_var {i : Nat} : ME (tVar i) := fun _ _ _ _ k ⟨v, e, q⟩ => ⟨v, e, k _ _ q⟩
theorem m_c {v : V} : ME (tC v) := fun _ _ _ _ k q => k _ _ q
theorem m_op (hr : MR r) (ha : ME ta) (hb : ME tb) : ME (tOp r ta tb) := fun σ H Q Q' k h => ha σ H _ _ (fun x H1 h1 => hb σ H1 _ _ (fun y H2 h2 => hr x y H2 _ _ k h2) h1) h
theorem m_un {r : V → Hp → VK → Prop} (hr : MU r) (ha : ME ta) : ME (tUn r ta) := fun σ H Q Q' k h => ha σ H _ _ (fun x H1 h1 => hr x H1 _ _ k h1) h
theorem m_U {g : Int → V} : MU (rU g) := fun _ _ _ _ k ⟨i, e, q⟩ => ⟨i, e, k _ _ q⟩
theorem m_I0 {g : Int → Int → V} : MR (rI0 g) := fun _ _ _ _ _ k ⟨i, j, e1, e2, q⟩ => ⟨i, j, e1, e2, k _ _ q⟩
theorem m_I {C : Int → Int → Prop} {g : Int → Int → V} : MR (rI C g) := fun _ _ _ _ _ k ⟨i, j, e1, e2, c, q⟩ => ⟨i, j, e1, e2, c, k _ _ q⟩
theorem m_eq : MR rEq := fun _ _ _ _ _ k ⟨e, q⟩ => ⟨e, k _ _ q⟩
theorem m_ne : MR rNe := fun _ _ _ _ _ k ⟨e, q⟩ => ⟨e, k _ _ q⟩
theorem m_eqD : MR (rEqD K) := fun _ _ _ _ _ k ⟨d, e, h1, h2, h3, h4, q⟩ => ⟨d, e, h1, h2, h3, h4, k _ _ q⟩
theorem m_neD : MR (rNeD K) := fun _ _ _ _ _ k ⟨d, e, h1, h2, h3, h4, q⟩ => ⟨d, e, h1, h2, h3, h4, k _ _ q⟩
theorem m_ixL : MR (rIxL K) := fun _ _ _ _ _ k ⟨p, xs, i, v, h1, h2, h3, h4, q⟩ => ⟨p, xs, i, v, h1, h2, h3, h4, k _ _ q⟩
theorem m_cat : MR (qCat K) := fun _ _ _ _ _ k ⟨l, b, xs, zs, e1, e2, h1, h2, h3, q⟩ => ⟨l, b, xs, zs, e1, e2, h1, h2, h3, fun p hp => k _ _ (q p hp)⟩
theorem m_in {b : Bool} : MR (rIn K b) := fun _ _ _ _ _ k ⟨p, xs, h1, h2, h3, h4, q⟩ => ⟨p, xs, h1, h2, h3, h4, k _ _ q⟩
theorem m_test (h : ME te) : MT (tTest te) := fun σ H _ _ k q => h σ H _ _ (fun _ _ ⟨b, e, q⟩ => ⟨b, e, k _ _ q⟩) q
theorem m_B (h : ME te) : MT (tB te) := fun σ H _ _ k q => h σ H _ _ (fun _ _ ⟨b, e, q⟩ => ⟨b, e, k _ _ q⟩) q
theorem m_not (h : MT t) : MT (tNot t) := fun σ H _ _ k q => h σ H _ _ (fun _ _ q => k _ _ q) q
theorem m_and (h : MT t) (h2 : MT u) : MT (tAnd t u) := fun σ H Q Q' k q => h σ H _ _ (fun c H1 q => by
  cases c with
  | true => exact h2 σ H1 Q Q' k q
  | false => exact k _ _ q) q
theorem m_or (h : MT t) (h2 : MT u) : MT (tOr t u) := fun σ H Q Q' k q => h σ H _ _ (fun c H1 q => by
  cases c with
  | true => exact k _ _ q
  | false => exact h2 σ H1 Q Q' k q) q
theorem m_nil : MA tNil := fun _ _ _ _ k q => k _ _ q
theorem m_cons (h : ME te) (h2 : MA tr) : MA (tCons te tr) := fun σ H _ _ k q => h σ H _ _ (fun _ H1 q => h2 σ H1 _ _ (fun _ _ q => k _ _ q) q) q
theorem m_CB {r : List V → Hp → VK → Prop} (hr : MC r) (h : MA tr) : ME (tCB r tr) := fun σ H _ _ k q => h σ H _ _ (fun x H1 q => hr x H1 _ _ k q) q
theorem m_len : MC (qLen K) := fun _ _ _ _ k ⟨p, ys, e, h, q⟩ => ⟨p, ys, e, h, k _ _ q⟩
theorem m_lenS : MC qLenS := fun _ _ _ _ k ⟨z, e, h, q⟩ => ⟨z, e, h, k _ _ q⟩
theorem m_sl {r : V → Option Int → Option Int → Hp → VK → Prop} {tl th : TO} (hr : ∀ x l u H (Q Q' : VK), (∀ v H', Q v H' → Q' v H') → r x l u H Q → r x l u H Q') (h : ME te) (hl : ∀ σ H (Q Q' : Option Int → Hp → Prop), (∀ v H', Q v H' → Q' v H') → tl σ H Q → tl σ H Q')
    (hh : ∀ σ H (Q Q' : Option Int → Hp → Prop), (∀ v H', Q v H' → Q' v H') → th σ H Q → th σ H Q') : ME (tSl r te tl th) := fun σ H Q Q' k q => h σ H _ _ (fun x H1 q => hl σ H1 _ _ (fun l H2 q => hh σ H2 _ _ (fun u H3 q => hr x l u H3 _ _ k q) q) q) q
theorem m_slL : ∀ x l u H (Q Q' : VK), (∀ v H', Q v H' → Q' v H') → rSlL K x l u H Q → rSlL K x l u H Q' := fun _ _ _ _ _ _ k ⟨a, xs, e, h, q⟩ => ⟨a, xs, e, h, fun p hp => k _ _ (q p hp)⟩
theorem m_part (h : ME te) : ∀ σ H (Q Q' : Option Int → Hp → Prop), (∀ v H', Q v H' → Q' v H') → tPart te σ H Q → tPart te σ H Q' := fun σ H _ _ k q => h σ H _ _ (fun _ _ ⟨i, e, q⟩ => ⟨i, e, k _ _ q⟩) q
theorem m_nopart : ∀ σ H (Q Q' : Option Int → Hp → Prop), (∀ v H', Q v H' → Q' v H') → tNoPart σ H Q → tNoPart σ H Q' := fun _ _ _ _ k q => k _ _ q
theorem m_lst (h : MA tr) : ME (tLst tr) := fun σ H _ _ k q => h σ H _ _ (fun _ _ ⟨e, q⟩ => ⟨e, fun p hp => k _ _ (q p hp)⟩) q
theorem m_tup (h : MA tr) : ME (tTup tr) := fun σ H _ _ k q => h σ H _ _ (fun _ _ ⟨e, q⟩ => ⟨e, fun p hp => k _ _ (q p hp)⟩) q
end
section
variable {σ : St} {H : Hp} {D : Ends} {K : PySem.W.Frag}
/-- a loop by its turns: n of them -/
theorem for_any {J : It} {g : TG} {tb : TS} (n : Nat) (Pv : Nat → St → Hp → Prop) (h0 : Pv 0 σ H) (hgo : ∀ i σ H, i < n → Pv i σ H → J.go i H) (hst : ∀ σ H, Pv n σ H → J.stop n H)
    (hs : ∀ i σ H, i < n → Pv i σ H → ∀ x H', J.yld i H x H' → g x σ H' fun σ2 H2 => tb { D with nx := Pv (i + 1), ct := Pv (i + 1), bk := D.nx } σ2 H2) (hd : ∀ σ H, Pv n σ H → D.nx σ H) :
    ∃ W : Nat → Nat → St → Hp → Prop, (∃ m, W 0 m σ H) ∧ ∀ i m σ H, W i m σ H →
      (J.stop i H ∧ D.nx σ H) ∨ (J.go i H ∧ ∃ N : St → Hp → Prop, (∀ σ' H', N σ' H' → ∃ m', m' < m ∧ W (i + 1) m' σ' H') ∧ ∀ x H', J.yld i H x H' → g x σ H' fun σ2 H2 => tb { D with nx := N, ct := N, bk := D.nx } σ2 H2) := by
  refine ⟨fun i m σ H => m = n - i ∧ i ≤ n ∧ Pv i σ H, ⟨n, by simp, Nat.zero_le _, h0⟩, ?_⟩
  rintro i m σ H ⟨rfl, hi, p⟩
  by_cases hlt : i < n
  · exact .inr ⟨hgo i σ H hlt p, Pv (i + 1), fun σ' H' p' => ⟨n - (i + 1), by omega, rfl, hlt, p'⟩, hs i σ H hlt p⟩
  · have e : i = n := by omega
    subst e
    exact .inl ⟨hst σ H p, hd σ H p⟩
/-- for x in xs: a list that stands still, its name in a slot -/
theorem f_list {a : Addr} {xs : List V} {g : TG} {tb : TS} (Pv : Nat → St → Hp → Prop) {j : Nat} (hj : σ[j]? = some (some (.ref a))) (h0 : Pv 0 σ H) (hx : SqL K H a xs) (hl : ∀ i σ H, Pv i σ H → SqL K H a xs)
    (hs : ∀ i x σ H, xs[i]? = some x → i < xs.length → Pv i σ H → g x σ H fun σ2 H2 => tb { D with nx := Pv (i + 1), ct := Pv (i + 1), bk := D.nx } σ2 H2) (hd : ∀ σ H, Pv xs.length σ H → D.nx σ H) : tFor (iList K (tVar j)) g tb D σ H :=
  ⟨.ref a, hj, a, rfl, ⟨_, hx⟩, for_list (xs := xs) Pv h0 (fun i σ H _ => hl i σ H) (fun i x σ H hi p => hs i x σ H hi (List.getElem?_eq_some_iff.mp hi).1 p) hd⟩
/-- for x in e: a list that e makes or finds -/
theorem f_listE {tl : TE} {xs : List V} {g : TG} {tb : TS} (Pv : Addr → Nat → St → Hp → Prop) (mono : ME tl) (hx : tl σ H fun x H1 => ∃ a, x = .ref a ∧ Pv a 0 σ H1) (hl : ∀ a i σ H, Pv a i σ H → SqL K H a xs)
    (hs : ∀ a i x σ H, xs[i]? = some x → i < xs.length → Pv a i σ H → g x σ H fun σ2 H2 => tb { D with nx := Pv a (i + 1), ct := Pv a (i + 1), bk := D.nx } σ2 H2) (hd : ∀ a σ H, Pv a xs.length σ H → D.nx σ H) : tFor (iList K tl) g tb D σ H := by
  refine mono _ _ _ _ (fun v H' q => ?_) hx
  obtain ⟨a, rfl, h⟩ := q
  exact ⟨a, rfl, ⟨_, hl a _ _ _ h⟩, for_list (xs := xs) (Pv a) h (fun i σ H _ => hl a i σ H) (fun i x σ H hi p => hs a i x σ H hi (List.getElem?_eq_some_iff.mp hi).1 p) (hd a)⟩
/-- the loop over a list that an expression has given -/
def loopL (K : PySem.W.Frag) (g : TG) (tb : TS) (D : Ends) (a : Addr) (σ : St) (H : Hp) : Prop := (∃ xs, SqL K H a xs) ∧ ∃ W : Nat → Nat → St → Hp → Prop, (∃ m, W 0 m σ H) ∧ ∀ i m σ H, W i m σ H →
  ((Itl K a).stop i H ∧ D.nx σ H) ∨ ((Itl K a).go i H ∧ ∃ N : St → Hp → Prop, (∀ σ' H', N σ' H' → ∃ m', m' < m ∧ W (i + 1) m' σ' H') ∧ ∀ x H', (Itl K a).yld i H x H' → g x σ H' fun σ2 H2 => tb { D with nx := N, ct := N, bk := D.nx } σ2 H2)
theorem r_forL {tl : TE} {g : TG} {tb : TS} : tFor (iList K tl) g tb D σ H = tl σ H fun x H1 => ∃ a, x = .ref a ∧ loopL K g tb D a σ H1 := rfl
theorem l_list {a : Addr} {xs : List V} {g : TG} {tb : TS} (Pv : Nat → St → Hp → Prop) (h0 : Pv 0 σ H) (hx : SqL K H a xs) (hl : ∀ i σ H, Pv i σ H → SqL K H a xs)
    (hs : ∀ i x σ H, xs[i]? = some x → i < xs.length → Pv i σ H → g x σ H fun σ2 H2 => tb { D with nx := Pv (i + 1), ct := Pv (i + 1), bk := D.nx } σ2 H2) (hd : ∀ σ H, Pv xs.length σ H → D.nx σ H) : loopL K g tb D a σ H :=
  ⟨⟨_, hx⟩, for_list (xs := xs) Pv h0 (fun i σ H _ => hl i σ H) (fun i x σ H hi p => hs i x σ H hi (List.getElem?_eq_some_iff.mp hi).1 p) hd⟩
/-- the loop over a tuple that an expression has given -/
def loopT (K : PySem.W.Frag) (g : TG) (tb : TS) (D : Ends) (a : Addr) (σ : St) (H : Hp) : Prop := (∃ xs, SqT K H a xs) ∧ ∃ W : Nat → Nat → St → Hp → Prop, (∃ m, W 0 m σ H) ∧ ∀ i m σ H, W i m σ H →
  ((Itt K a).stop i H ∧ D.nx σ H) ∨ ((Itt K a).go i H ∧ ∃ N : St → Hp → Prop, (∀ σ' H', N σ' H' → ∃ m', m' < m ∧ W (i + 1) m' σ' H') ∧ ∀ x H', (Itt K a).yld i H x H' → g x σ H' fun σ2 H2 => tb { D with nx := N, ct := N, bk := D.nx } σ2 H2)
theorem r_forT {tl : TE} {g : TG} {tb : TS} : tFor (iTup K tl) g tb D σ H = tl σ H fun x H1 => ∃ a, x = .ref a ∧ loopT K g tb D a σ H1 := rfl
theorem l_tup {a : Addr} {xs : List V} {g : TG} {tb : TS} (Pv : Nat → St → Hp → Prop) (h0 : Pv 0 σ H) (hx : SqT K H a xs) (hl : ∀ i σ H, Pv i σ H → SqT K H a xs)
    (hs : ∀ i x σ H, xs[i]? = some x → i < xs.length → Pv i σ H → g x σ H fun σ2 H2 => tb { D with nx := Pv (i + 1), ct := Pv (i + 1), bk := D.nx } σ2 H2) (hd : ∀ σ H, Pv xs.length σ H → D.nx σ H) : loopT K g tb D a σ H :=
  ⟨⟨_, hx⟩, for_tup (xs := xs) Pv h0 (fun i σ H _ => hl i σ H) (fun i x σ H hi p => hs i x σ H hi (List.getElem?_eq_some_iff.mp hi).1 p) hd⟩
/-- for i, x in enumerate(xs) -/
theorem f_enum {a : Addr} {xs : List V} {i1 i2 : Nat} {tb : TS} (Pv : Nat → St → Hp → Prop) {j : Nat} (hj : σ[j]? = some (some (.ref a))) (h0 : Pv 0 σ H) (hx : SqL K H a xs) (hl : ∀ i σ H, Pv i σ H → SqL K H a xs)
    (hs : ∀ i x σ H T, xs[i]? = some x → i < xs.length → Pv i σ H → H T = none → tb { D with nx := Pv (i + 1), ct := Pv (i + 1), bk := D.nx } ((σ.set i1 (some (.int (i : Nat)))).set i2 (some x)) (upd H T (.tup [.int (i : Nat), x])))
    (hd : ∀ σ H, Pv xs.length σ H → D.nx σ H) : tFor (iEnum K (tCons (tVar j) tNil)) (gTup K 2 (gCons (gName i1) (gCons (gName i2) gNil))) tb D σ H := by
  refine ⟨.ref a, hj, a, xs, rfl, hx, for_any xs.length Pv h0 (fun i σ H hi p => ⟨xs, xs[i], hl i σ H p, by simp [hi]⟩) (fun σ H p => ⟨xs, hl _ σ H p, Nat.le_refl _⟩) (fun i σ H hi p x H' y => ?_) hd⟩
  obtain ⟨T, z, rfl, nT, rfl, k⟩ := y
  have hz := k xs (hl i σ H p)
  exact ⟨T, [.int (i : Nat), z], rfl, SqT.of upd_same, rfl, _, _, rfl, _, _, rfl, rfl, hs i z σ H T hz hi p nT⟩
/-- for x in reversed(xs) -/
theorem f_rev {a : Addr} {xs : List V} {g : TG} {tb : TS} (Pv : Nat → St → Hp → Prop) {j : Nat} (hj : σ[j]? = some (some (.ref a))) (h0 : Pv 0 σ H) (hx : SqL K H a xs) (hl : ∀ i σ H, Pv i σ H → SqL K H a xs)
    (hs : ∀ i x σ H, xs[xs.length - 1 - i]? = some x → i < xs.length → Pv i σ H → g x σ H fun σ2 H2 => tb { D with nx := Pv (i + 1), ct := Pv (i + 1), bk := D.nx } σ2 H2)
    (hd : ∀ σ H, Pv xs.length σ H → D.nx σ H) : tFor (iRev K (tCons (tVar j) tNil)) g tb D σ H := by
  refine ⟨.ref a, hj, a, xs, rfl, hx, for_any xs.length Pv h0 (fun i σ H hi p => ⟨hi, xs, xs[xs.length - 1 - i]'(by omega), hl i σ H p, List.getElem?_eq_getElem (by omega)⟩) (fun σ H p => Nat.le_refl _) (fun i σ H hi p x H' y => ?_) hd⟩
  obtain ⟨rfl, k⟩ := y
  exact hs i x σ _ (k xs (hl i σ _ p)) hi p
/-- for c in s -/
theorem f_str {x : Str} {g : TG} {tb : TS} (Pv : Nat → St → Hp → Prop) {j : Nat} (hj : σ[j]? = some (some (.str x))) (h0 : Pv 0 σ H)
    (hs : ∀ i c σ H, x.cps[i]? = some c → i < x.cps.size → Pv i σ H → g (.str ⟨#[c]⟩) σ H fun σ2 H2 => tb { D with nx := Pv (i + 1), ct := Pv (i + 1), bk := D.nx } σ2 H2)
    (hd : ∀ σ H, Pv x.cps.size σ H → D.nx σ H) : tFor (iStr (tVar j)) g tb D σ H := by
  refine ⟨.str x, hj, x, rfl, for_any x.cps.size Pv h0 (fun i σ H hi p => hi) (fun σ H p => Nat.le_refl _) (fun i σ H hi p v H' y => ?_) hd⟩
  obtain ⟨rfl, c, hc, rfl⟩ := y
  exact hs i c σ _ hc hi p
/-- for i in range(n): what range is asked with is told -/
theorem f_range {n : Int} {ta : TA} {i1 : Nat} {tb : TS} (Pv : Nat → St → Hp → Prop) (mono : MA ta) (h0 : ta σ H fun vs H1 => vs = [.int n] ∧ H1 = H)
    (hn : -(2 ^ 62) ≤ n ∧ n < 2 ^ 62) (hp : Pv 0 σ H) (hs : ∀ (i : Nat) σ H, (i : Int) < n → Pv i σ H → tb { D with nx := Pv (i + 1), ct := Pv (i + 1), bk := D.nx } (σ.set i1 (some (.int (i : Int)))) H)
    (hd : ∀ σ H, Pv n.toNat σ H → D.nx σ H) : tFor (iRng1 ta) (gName i1) tb D σ H := by
  refine mono _ _ _ _ (fun v H' q => ?_) h0
  obtain ⟨rfl, rfl⟩ := q
  refine ⟨n, rfl, hn.1, hn.2, for_range (lo := 0) (n := n.toNat) Pv hp (fun i σ H hi p => ?_) hd⟩
  have e0 : (0 : Int) + (i : Int) = (i : Int) := Int.zero_add _
  show tb _ (σ.set i1 (some (.int ((0 : Int) + (i : Int))))) H
  rw [e0]
  exact hs i σ H (by omega) p
/-- while, by a word and a measure; the test's reading is run with what is wanted of it -/
theorem f_while {tc : TT} {tb : TS} (Pv : Nat → St → Hp → Prop) (m0 : Nat) (mono : MT tc) (h0 : Pv m0 σ H)
    (hs : ∀ m σ H, Pv m σ H → tc σ H fun b H1 => if b = true then tb { D with nx := fun σ' H' => ∃ m', m' < m ∧ Pv m' σ' H', ct := fun σ' H' => ∃ m', m' < m ∧ Pv m' σ' H', bk := D.nx } σ H1 else D.nx σ H1) : tWhile tc tb D σ H := by
  refine ⟨Pv, ⟨m0, h0⟩, fun m σ H p => mono σ H _ _ (fun b H1 q => ?_) (hs m σ H p)⟩
  cases b with
  | true => exact ⟨_, fun σ' H' ⟨m', l, p'⟩ => ⟨m', l, p'⟩, q⟩
  | false => exact q
/-- a comprehension by its turns -/
theorem lc_any {J : It} {g : TG} {tt : TT} {te : TE} {vs : List Nat} {H1 : Hp} {D : Addr} {Qd : Hp → Prop} (n : Nat) (Pv : Nat → Hp → Prop) (h0 : Pv 0 (upd H1 D (.lst []))) (hgo : ∀ i H, i < n → Pv i H → J.go i H) (hst : ∀ H, Pv n H → J.stop n H)
    (hs : ∀ i H, i < n → Pv i H → ∀ x H', J.yld i H x H' → g x (wipe σ vs) H' fun σ2 H2 => wipe σ2 vs = wipe σ vs ∧ tt σ2 H2 fun b H3 =>
      if b = true then te σ2 H3 fun y H4 => ∃ acc, H4 D = some (.lst acc) ∧ acc.length < sizeLine ∧ Pv (i + 1) (upd H4 D (.lst (acc ++ [y]))) else Pv (i + 1) H3) (hd : ∀ H, Pv n H → Qd H) :
    ∃ W : Nat → Nat → Hp → Prop, (∃ m, W 0 m (upd H1 D (.lst []))) ∧ ∀ i m H, W i m H →
      (J.stop i H ∧ Qd H) ∨ (J.go i H ∧ ∃ Nx : Hp → Prop, (∀ H', Nx H' → ∃ m', m' < m ∧ W (i + 1) m' H') ∧ ∀ x H', J.yld i H x H' → g x (wipe σ vs) H' fun σ2 H2 => wipe σ2 vs = wipe σ vs ∧ tt σ2 H2 fun b H3 =>
        if b = true then te σ2 H3 fun y H4 => ∃ acc, H4 D = some (.lst acc) ∧ acc.length < sizeLine ∧ Nx (upd H4 D (.lst (acc ++ [y]))) else Nx H3) := by
  refine ⟨fun i m H => m = n - i ∧ i ≤ n ∧ Pv i H, ⟨n, by simp, Nat.zero_le _, h0⟩, ?_⟩
  rintro i m H ⟨rfl, hi, p⟩
  by_cases hlt : i < n
  · exact .inr ⟨hgo i H hlt p, Pv (i + 1), fun H' p' => ⟨n - (i + 1), by omega, rfl, hlt, p'⟩, hs i H hlt p⟩
  · have e : i = n := by omega
    subst e
    exact .inl ⟨hst H p, hd H p⟩
end
/-! ### heaps -/
theorem _root_.L2.Same.new {H : Hp} {p : Addr} {o : HO} (h : H p = none) : Same H (upd H p o) := fun b x e => by
  rw [upd_ne (ne_of_none e h)]
  exact e
theorem _root_.L2.Same.add {H H' : Hp} {p : Addr} {o : HO} (s : Same H H') (h : H' p = none) : Same H (upd H' p o) := s.trans (Same.new h)
/-- an object that H does not know may change -/
theorem _root_.L2.Same.mut {H H' : Hp} {p : Addr} {o : HO} (s : Same H H') (h : H p = none) : Same H (upd H' p o) := fun b x e => by
  rw [upd_ne (ne_of_none e h)]
  exact s b x e
/-- all but one object stand -/
def But (l : Addr) (H H' : Hp) : Prop := ∀ b o, b ≠ l → H b = some o → H' b = some o
theorem But.refl (l : Addr) (H : Hp) : But l H H := fun _ _ _ h => h
theorem But.new {l p : Addr} {H H' : Hp} {o : HO} (h : But l H H') (hp : H' p = none) : But l H (upd H' p o) := fun b x hb e => Same.new hp _ _ (h b x hb e)
theorem But.set {l : Addr} {H H' : Hp} {o : HO} (h : But l H H') : But l H (upd H' l o) := fun b x hb e => by rw [upd_ne hb]; exact h b x hb e
theorem But.trans {l : Addr} {H H1 H2 : Hp} (a : But l H H1) (b : But l H1 H2) : But l H H2 := fun c o hc e => b c o hc (a c o hc e)
theorem But.of {l : Addr} {H H' : Hp} (h : Same H H') : But l H H' := fun b o _ e => h b o e
/-- what did not know the object has all it knew -/
theorem But.same {l : Addr} {H0 H H' : Hp} (h : But l H H') (s : Same H0 H) (n : H0 l = none) : Same H0 H' := fun b o e => h b o (ne_of_none e n) (s b o e)
theorem _root_.L2.Same.tup {K : PySem.W.Frag} {H H' : Hp} {a : Addr} {xs : List V} (e : Same H H') (h : SqT K H a xs) : SqT K H' a xs := by
  rcases h with (h | ⟨o, h⟩) | h
  · exact .inl (.inl (e _ _ h))
  · exact .inl (.inr ⟨o, e _ _ h⟩)
  · exact .inr h
/-- a new object -/
theorem new_of {H H' : Hp} {p : Addr} {o : HO} (e : upd H p o = H') (h : H p = none) : Same H H' ∧ H' p = some o := by
  subst e
  exact ⟨Same.new h, upd_same⟩
theorem fresh {H : Hp} {o : HO} {Q : V → Hp → Prop} (k : ∀ p H', H p = none → Same H H' → H' p = some o → Q (.ref p) H') : ∀ p, H p = none → Q (.ref p) (upd H p o) := fun p hp => k p _ hp (Same.new hp) upd_same
theorem sq {K : PySem.W.Frag} {H : Hp} {a : Addr} {xs : List V} (h : H a = some (.lst xs)) : SqL K H a xs := .inl (.inl h)
theorem sq0 {K : PySem.W.Frag} {H : Hp} {a : Addr} {xs : List V} : SqL K (upd H a (.lst xs)) a xs := .inl (.inl upd_same)
theorem sqt {K : PySem.W.Frag} {H : Hp} {a : Addr} {xs : List V} (h : H a = some (.tup xs)) : SqT K H a xs := .inl (.inl h)
theorem getE {α : Type} {l : List α} {i : Nat} (h : i < l.length) : ∃ x, l[i]? = some x := ⟨l[i], by simp [h]⟩
theorem mapE {α β : Type} {f : α → β} {l : List α} {i : Nat} {y : β} (h : (l.map f)[i]? = some y) : ∃ x, l[i]? = some x ∧ y = f x := by
  rw [List.getElem?_map] at h
  cases e : l[i]? with
  | none => rw [e] at h; cases h
  | some x => rw [e] at h; exact ⟨x, rfl, (Option.some.inj h).symm⟩
theorem take_snoc {α : Type} {l : List α} {i : Nat} {x : α} (h : l[i]? = some x) : l.take (i + 1) = l.take i ++ [x] := by
  rw [List.take_add_one, h]; rfl
end Lf
namespace Lf.TR
open PySem PySem.Spec PyProof.Rows HT
section
variable {prog : Program} {w : World} {A : Around} {E : Value → Shared → Prop} {s : Shared}
theorem adjust_rev (n : Nat) : Builtin.Slice.sliceAdjust none none (-1) (n : Int) = ((n : Int) - 1, -1) := rfl
theorem places_rev (n : Nat) : Builtin.Slice.slicePlaces ((n : Int) - 1) (-1) (-1) = n := by
  unfold Builtin.Slice.slicePlaces
  have h1 : ¬ ((-1 : Int) > 0) := by decide
  simp only [h1, if_false]
  by_cases h : (n : Int) - 1 > -1
  · rw [if_pos h, show (- -1 : Int) = 1 by decide, Int.ediv_one]
    omega
  · rw [if_neg h]
    omega
theorem sliceApplied_rev {sl : Addr} {vl vu vs : Value} {n : Nat} {Q : Int × Int × Nat → Shared → Prop} (hs : s.heap.IsSliceOf sl vl vu vs) (pl : IsPart vl none) (pu : IsPart vu none) (ps : IsPart vs (some (-1)))
    (h : Q ((n : Int) - 1, -1, n) s) : wpAny (model prog w) A (Builtin.Slice.sliceApplied (.ref sl) (pure (n : Int))) Q E s := by
  obtain ⟨os, hos, hcs, hds⟩ := id hs
  unfold Builtin.Slice.sliceApplied Builtin.Slice.sliceFields
  refine wpAny_bind (wpAny_bind (wpAny_field hos hds (x := vl) rfl (wpAny_bind (wpAny_field hos hds (x := vu) rfl (wpAny_bind (wpAny_field hos hds (x := vs) rfl (wpAny_pure ?_)))))))
  refine wpAny_bind (slicePart_ ps ?_)
  show wpAny _ _ (if ((-1 : Int) == 0) = true then _ else _) _ _ s
  rw [if_neg (by decide)]
  refine wpAny_bind (slicePart_ pl (wpAny_bind (slicePart_ pu (wpAny_bind (wpAny_pure ?_)))))
  show wpAny _ _ (match Builtin.Slice.sliceAdjust none none (-1) (n : Int) with | (lo, hi) => pure (lo, (-1 : Int), Builtin.Slice.slicePlaces lo hi (-1))) _ _ s
  rw [adjust_rev n]
  show wpAny _ _ (pure ((n : Int) - 1, (-1 : Int), Builtin.Slice.slicePlaces ((n : Int) - 1) (-1) (-1))) _ _ s
  rw [places_rev]
  exact wpAny_pure h
theorem pick_rev (xs : Array Value) : ((List.range xs.size).filterMap fun (k : Nat) => xs[((xs.size : Int) - 1 + (k : Int) * (-1)).toNat]?).toArray = xs.toList.reverse.toArray := by
  have e : (fun (k : Nat) => xs[((xs.size : Int) - 1 + (k : Int) * (-1)).toNat]?) = (fun k => xs[k]?) ∘ fun k => xs.size - 1 - k := by
    funext k
    have : ((xs.size : Int) - 1 + (k : Int) * (-1)).toNat = xs.size - 1 - k := by omega
    show xs[((xs.size : Int) - 1 + (k : Int) * (-1)).toNat]? = xs[xs.size - 1 - k]?
    rw [this]
  rw [e, ← List.filterMap_map, PySem.W.krv_range, List.filterMap_reverse, PySem.W.krv_all]
theorem getItem_tuple_rev {t sl : Addr} {items : Array Value} {vl vu vs : Value} {Q : Value → Shared → Prop} (ht : IsTup s.heap t items) (hs : s.heap.IsSliceOf sl vl vu vs) (pl : IsPart vl none) (pu : IsPart vu none) (ps : IsPart vs (some (-1)))
    (h : Q (.ref s.heap.objs.size) { s with heap := s.heap.push { cls := .type "tuple", data := .seq items.toList.reverse.toArray } })
    (hsz : items.size ≤ sizeLine) : wpAny (model prog w) A (getItem (.ref t) (.ref sl)) Q E s := by
  have htake : sizeOk (.seq items.toList.reverse.toArray) := by
    show items.toList.reverse.toArray.size ≤ sizeLine
    rw [List.size_toArray, List.length_reverse, Array.length_toList]
    exact hsz
  obtain ⟨os, hos, hcs, hds⟩ := id hs
  have hTs : s.TypeIs (.ref sl) "slice" := ⟨os, hos, hcs⟩
  unfold getItem
  try with_reducible refine wpAny_holding ?_
  first | refine wpAny_bind (wpAny_pure ?_) | skip
  refine wpAny_bind (wpAny_sequenceKey ht.typeIs (by decide) ?_)
  refine wpAny_bind (wpAny_callSpecial?_slot (name := Str.ofString "__getitem__") ht.typeIs PyProof.Rows.slot_tuple_getitem
    (wpAny_call_entry PyProof.Rows.slot_tuple_getitem ht.typeIs entry_tuple_getitem ?_ (args_tuple_getitem _ _)))
  show wpAny _ _ (Builtin.Tuple.tupleItemsOf (.ref t) >>= _) _ _ s
  refine wpAny_bind (tupleItemsOf_ ht ?_)
  refine wpAny_bind (wpAny_typeOf hTs ?_)
  rw [if_pos (by decide)]
  refine wpAny_bind (sliceApplied_rev hs pl pu ps ?_)
  show wpAny _ _ (if (((items.size : Int) - 1) == 0 && (-1 : Int) == 1 && items.size == items.size) = true then _ else _) _ _ s
  rw [if_neg (by simp), pick_rev]
  first
    | exact wpAny_bind (m := Builtin.Tuple.tupleExact _) (wpAny_newObj_type (wpAny_pure ⟨_, rfl, wpAny_pure h⟩) htake)
    | exact wpAny_bind (m := Builtin.Tuple.tupleExact _) (wpAny_newObj_type (wpAny_bind (wpAny_pure (wpAny_pure ⟨_, rfl, wpAny_pure h⟩))) htake)
    | exact wpAny_bind (wpAny_bind (m := Builtin.Tuple.tupleExact _) (wpAny_newObj_type (wpAny_pure (wpAny_pure ⟨_, rfl, wpAny_pure h⟩)) htake))
    | exact wpAny_bind (wpAny_bind (m := Builtin.Tuple.tupleExact _) (wpAny_newObj_type (wpAny_pure ⟨_, rfl, wpAny_pure h⟩) htake))
end
end Lf.TR
namespace Lf
open PySem PySem.Spec L2
open PyProof.Rows hiding St
theorem vals_rev {X : Cx} {xs : List V} {us : List Value} (r : Vals xs us) : Vals xs.reverse us.reverse := r.reverse
/-- t[::-1] of a tuple: a new tuple -/
def tRevT (K : PySem.W.Frag) (te : TE) : TE := fun σ H Q => te σ H fun x H1 => ∃ a xs, x = .ref a ∧ SqT K H1 a xs ∧ ∀ p, H1 p = none → Q (.ref p) (upd H1 p (.tup xs.reverse))
theorem pe_revT {X : Cx} {e : Expr} {te : TE} {k : Nat} {p1 p2 p3 pos : Pos} (he : PE X e te) : PE X (.Subscript e (.Slice none none (some (.UnaryOp .USub (.Constant (.int 1) k p1) p2)) p3) pos) (tRevT X.K te) := by
  refine ⟨fun pins s σ H Q I h => ?_⟩
  refine Subscript_ (thn (he.run pins s σ H _ I h) fun v s1 ⟨x, H1, I1, r1, q1⟩ => ?_)
  obtain ⟨a, xs, ex, hx, q⟩ := q1
  subst ex
  cases r1
  have hst : PO X (some (.UnaryOp .USub (.Constant (.int 1) k p1) p2)) (tPart (tUn (rU fun i => .int (-i)) (tC (.int 1)))) := po_some (pe_un un_neg pe_int)
  refine wpAny_Slice (thn (po_none.run pins s1 σ H1 (fun o H2 => o = none ∧ H2 = H1) I1 ⟨rfl, rfl⟩) fun vl s2 ⟨l, H2, I2, pl, el, e2⟩ => ?_)
  subst el e2
  refine thn (po_none.run pins s2 σ H2 (fun o H3 => o = none ∧ H3 = H2) I2 ⟨rfl, rfl⟩) fun vu s3 ⟨u, H3, I3, pu, eu, e3⟩ => ?_
  subst eu e3
  refine thn (hst.run pins s3 σ H3 (fun o H4 => o = some (-1) ∧ H4 = H3) I3 ⟨1, rfl, -1, rfl, rfl, rfl⟩) fun vs s4 ⟨o, H4, I4, ps, eo, e4⟩ => ?_
  subst eo e4
  have I5 : Inv X pins σ H4 { s4 with heap := s4.heap.push { cls := .type "slice", data := .fields #[vl, vu, vs] } } := I4.kept (t' := s4.toks) fun b ob q => Heap.get?_push_of_some _ q
  obtain ⟨its, r, ht, hz⟩ := I5.tuple hx
  have hlen := r.length
  show wpAny (model X.prog X.w) X.A (subscriptTail e (.Slice none none (some (.UnaryOp .USub (.Constant (.int 1) k p1) p2)) p3) (.ref a) (.ref s4.heap.objs.size)) (EP X pins σ Q) X.xe { s4 with heap := s4.heap.push { cls := .type "slice", data := .fields #[vl, vu, vs] } }
  refine tail_any (ops := [.ref a, .ref s4.heap.objs.size]) ht.typeIs (PyProof.Rows.slot_tuple_getitem.lookup) ?_ (by with_unfolding_all rfl)
  refine TR.getItem_tuple_rev ht (Heap.IsSliceOf.new _ vl vu vs) pl pu ps ?_ (by rw [List.size_toArray]; omega)
  refine ⟨.ref _, _, I5.laid (t' := s4.toks) (o := .tup xs.reverse) (fun b ob q => Heap.get?_push_of_some _ q) (Nat.le_refl _) ?_, rfl, q _ (I5.hok.fresh (Nat.le_refl _))⟩
  exact ⟨by rw [List.length_reverse]; exact hz, _, r.reverse, IsTup.new _ _⟩
theorem r_revT {K : PySem.W.Frag} {te : TE} {σ : St} {H : Hp} {Q : VK} : tRevT K te σ H Q = te σ H fun x H1 => ∃ a xs, x = .ref a ∧ SqT K H1 a xs ∧ ∀ p, H1 p = none → Q (.ref p) (upd H1 p (.tup xs.reverse)) := rfl
theorem r_revL {K : PySem.W.Frag} {te : TE} {σ : L2.St} {H : Hp} {Q : VK} : tRevL K te σ H Q = te σ H fun x H1 => ∃ a xs, x = .ref a ∧ SqL K H1 a xs ∧ ∀ p, H1 p = none → Q (.ref p) (upd H1 p (.lst xs.reverse)) := rfl
end Lf
/-! ### methods of an own class, and its making -/
namespace Lf
open PySem PySem.Spec L2
open PyProof.Rows hiding St
structure MetP (P : Program) (w : World) (K : PySem.W.Frag) (mg : Str → Option Value) (base : Heap) (k : Nat) (C : Addr) (m : Str) (sp : Sp) : Prop where
  ex : ∃ (f : Addr) (fd : FuncData) (ps : List Str), Cls K C ∧ Meth K C m f ∧ FnOk P w K mg base (L2.CX P w) k f fd ps sp ∧ Binds K fd ps []
structure MakP (P : Program) (w : World) (K : PySem.W.Frag) (mg : Str → Option Value) (base : Heap) (k : Nat) (x : Str) (C : Addr) (sp : Sp) : Prop where
  ex : ∃ (f : Addr) (fd : FuncData) (ps : List Str), Mk K C f ∧ FnOk P w K mg base (L2.CX P w) k f fd ps sp ∧ mg x = some (.ref C) ∧ Binds K fd ps []
section
variable {P : Program} {w : World} {K : PySem.W.Frag} {mg : Str → Option Value} {base : Heap}
theorem met_of {m qual : Str} {C f : Addr} {fd : FuncData} {st : Stmt} {N ps : List Str} {k : Nat} {sp : Sp} (c : Cls K C) (me : Meth K C m f) (F : Fun K m qual st f fd) (b : Binds K fd ps []) (S : FnScope N ps (defScope st)) (len : ∀ vs H Q E, sp vs H Q E → vs.length = ps.length)
    (hbody : ∀ (cdv : Value) (A : Around) (outer : List Env) (s : Shared) (H : Hp) (vs : List V) (Q : VK) (E : XK), Room k (A.deeper (envOfC qual (defScope st) s.heap.objs.size f cdv)) → sp vs H Q E →
      ∃ t, PSs (cxOf (L2.CX P w) P w K mg base N qual (defScope st) f cdv A outer s H E) (defBody st) t ∧ t { nx := fun _ H' => Q .non H', rt := Q } (start N vs) H) : MetP P w K mg base (k + 1) C m sp :=
  ⟨f, fd, ps, c, me, F.okX S len hbody, b⟩
theorem mak_of {x qual : Str} {C f : Addr} {fd : FuncData} {st : Stmt} {N ps : List Str} {k : Nat} {sp : Sp} (M : Mk K C f) (hm : mg x = some (.ref C)) (F : Fun K "__init__" qual st f fd) (b : Binds K fd ps []) (S : FnScope N ps (defScope st)) (len : ∀ vs H Q E, sp vs H Q E → vs.length = ps.length)
    (hbody : ∀ (cdv : Value) (A : Around) (outer : List Env) (s : Shared) (H : Hp) (vs : List V) (Q : VK) (E : XK), Room k (A.deeper (envOfC qual (defScope st) s.heap.objs.size f cdv)) → sp vs H Q E →
      ∃ t, PSs (cxOf (L2.CX P w) P w K mg base N qual (defScope st) f cdv A outer s H E) (defBody st) t ∧ t { nx := fun _ H' => Q .non H', rt := Q } (start N vs) H) : MakP P w K mg base (k + 1) x C sp :=
  ⟨f, fd, ps, M, F.okX S len hbody, hm, b⟩
end
section
variable {X : Cx} {k j : Nat} {x m : Str} {C : Addr} {sp : Sp} {E : XK} {o e : Expr} {es : List Expr} {ta : TE} {t : TA} {p pos apos : Pos}
theorem pe_mtP {pl : Sem Bool} (c : MetP X.prog X.w X.K X.mg X.base k C m sp) (hr : Room j X.A) (hk : k ≤ j) (hx : Passes (L2.CX X.prog X.w) X E) (he : PE X o ta) (ha : PA X (e :: es) t)
    (hst : starEach (e :: es) X.env = (false, eval e X.env) :: starEach es X.env := by rfl) (hpl : (backTo pos (starEach es X.env)).any (·.1) = false := by rfl)
    (ht : eval (.Call (.Attribute o m apos) (e :: es) [] pos) X.env = (do
      let ov ← eval o X.env
      standAt apos.atName
      let (f, first) ← holding [ov] (getMethod ov m pl)
      callWith pos f first (backTo pos (starEach (e :: es) X.env)) (backToKw pos (keywordEach [] X.env))) := by rfl) :
    PE X (.Call (.Attribute o m apos) (e :: es) [] pos) (tMeth C m sp [] E ta t) := by
  obtain ⟨f, fd, ps, hc, hm, F, b⟩ := c.ex
  exact pe_meth (pl := pl) he hc hm F (hr.mono hk) b .nil hx ha hst hpl ht
theorem pe_mkP (c : MakP X.prog X.w X.K X.mg X.base k x C sp) (hr : Room j X.A) (hk : k + 1 ≤ j) (hx : Passes (L2.CX X.prog X.w) X E) (ha : PA X (e :: es) t) (hg : Gl X x := by rfl)
    (hdb : (x == ("__debug__" : Str)) = false := by decide) (he : starEach (e :: es) X.env = (false, eval e X.env) :: starEach es X.env := by rfl) (hpl : (backTo pos (starEach es X.env)).any (·.1) = false := by rfl) :
    PE X (.Call (.Name x p) (e :: es) [] pos) (tMake C sp [] E t) := by
  obtain ⟨f, fd, ps, M, F, hm, b⟩ := c.ex
  exact pe_make M F (hr.mono hk) hg hm b .nil hx ha hdb he hpl
end
theorem r_meth {C : Addr} {m : Str} {sp : Sp} {E : XK} {ta : TE} {t : TA} {σ : L2.St} {H : Hp} {Q : VK} : tMeth C m sp [] E ta t σ H Q = ta σ H fun x H1 => ∃ a dx fs, x = .ref a ∧ H1 a = some (.ins C dx fs) ∧ fs.lookup m = none ∧ t σ H1 fun vs H2 => sp (x :: vs) H2 Q E := by
  unfold tMeth
  simp only [List.append_nil]
theorem r_make {C : Addr} {sp : Sp} {E : XK} {t : TA} {σ : L2.St} {H : Hp} {Q : VK} : tMake C sp [] E t σ H Q = t σ H fun vs H1 => ∀ x dx, H1 x = none → H1 dx = none → dx ≠ x → sp (.ref x :: vs) (upd (upd H1 dx (.own x)) x (.ins C dx [])) (fun v H2 => v = .non ∧ Q (.ref x) H2) E := by
  unfold tMake
  simp only [List.append_nil]
theorem r_fld {K : PySem.W.Frag} {ta : TE} {f : Str} {σ : L2.St} {H : Hp} {Q : VK} : tFld K ta f σ H Q = ta σ H fun x H1 => ∃ a C dx fs v, x = .ref a ∧ H1 a = some (.ins C dx fs) ∧ Cls K C ∧ NoAttr K C f ∧ fs.lookup f = some v ∧ Q v H1 := rfl
theorem r_sfld {K : PySem.W.Frag} {ta tv : TE} {f : Str} {D : Ends} {σ : L2.St} {H : Hp} : sFld K ta tv f D σ H = tv σ H fun y H1 => ta σ H1 fun x H2 => ∃ a C dx fs, x = .ref a ∧ H2 a = some (.ins C dx fs) ∧ Cls K C ∧ NoAttr K C f ∧ fs.length < 1000 ∧ D.nx σ (upd H2 a (.ins C dx (putF f y fs))) := rfl
end Lf
local macro_rules | `(tactic| walk_at "rd") => `(tactic| try simp only [↓Lf.r_c, ↓Lf.r_op, ↓Lf.r_un, ↓Lf.r_I0, ↓Lf.r_I, ↓Lf.r_U, ↓Lf.r_eqI, ↓Lf.r_neI, ↓Lf.r_eqS, ↓Lf.r_neS, ↓Lf.r_eqB, ↓Lf.r_neB, ↓Lf.r_isB, ↓Lf.r_notB, ↓Lf.r_isN, ↓Lf.r_notN, ↓Lf.r_addS, ↓Lf.r_abs, ↓Lf.r_max2, ↓Lf.r_min2, ↓Lf.r_int1i, ↓Lf.r_int1b, ↓Lf.r_test, ↓Lf.r_B, ↓Lf.r_exbl, ↓Lf.r_exint, ↓Lf.r_not, ↓Lf.r_and, ↓Lf.r_or, ↓Lf.r_andV, ↓Lf.r_orV, ↓Lf.r_notV, ↓Lf.r_if, ↓Lf.r_chain, ↓Lf.r_nil, ↓Lf.r_cons, ↓Lf.r_CB, ↓Lf.r_F, ↓Lf.r_CS, ↓Lf.r_tup, ↓Lf.r_lst, ↓Lf.r_sl, ↓Lf.r_part, ↓Lf.r_nopart, ↓Lf.r_BM0, ↓Lf.r_BM, ↓Lf.r_next, ↓Lf.r_seq, ↓Lf.r_drop, ↓Lf.r_ret, ↓Lf.r_retN, ↓Lf.r_ifS, ↓Lf.r_asg, ↓Lf.r_raise, ↓Lf.r_yes, ↓Lf.r_par, ↓Lf.r_augS, ↓Lf.r_ipI, ↓Lf.r_gcons, ↓Lf.r_gnil, ↓Lf.r_gtup, ↓Lf.r_revL, ↓Lf.r_revT, ↓Lf.r_meth, ↓Lf.r_make, ↓Lf.r_fld, ↓Lf.r_sfld, ↓Lf.r_v0, ↓Lf.r_v1, ↓Lf.r_v2, ↓Lf.r_v3, ↓Lf.r_v4, ↓Lf.r_v5, ↓Lf.r_v6, ↓Lf.r_v7, ↓Lf.r_v8, ↓Lf.r_v9, ↓Lf.r_v10, ↓Lf.r_v11, ↓Lf.r_v12, ↓Lf.r_v13, ↓Lf.r_v14, ↓Lf.r_v15, ↓Lf.r_n0, ↓Lf.r_n1, ↓Lf.r_n2, ↓Lf.r_n3, ↓Lf.r_n4, ↓Lf.r_n5, ↓Lf.r_n6, ↓Lf.r_n7, ↓Lf.r_n8, ↓Lf.r_n9, ↓Lf.r_n10, ↓Lf.r_n11, ↓Lf.r_n12, ↓Lf.r_n13, ↓Lf.r_n14, ↓Lf.r_n15, ↓Lf.r_a0, ↓Lf.r_a1, ↓Lf.r_a2, ↓Lf.r_a3, ↓Lf.r_a4, ↓Lf.r_a5, ↓Lf.r_a6, ↓Lf.r_a7, ↓Lf.r_a8, ↓Lf.r_a9, ↓Lf.r_a10, ↓Lf.r_a11, ↓Lf.r_a12, ↓Lf.r_a13, ↓Lf.r_a14, ↓Lf.r_a15, Lf.r_v0, Lf.r_v1, Lf.r_v2, Lf.r_v3, Lf.r_v4, Lf.r_v5, Lf.r_v6, Lf.r_v7, Lf.r_v8, Lf.r_v9, Lf.r_v10, Lf.r_v11, Lf.r_v12, Lf.r_v13, Lf.r_v14, Lf.r_v15, Lf.r_n0, Lf.r_n1, Lf.r_n2, Lf.r_n3, Lf.r_n4, Lf.r_n5, Lf.r_n6, Lf.r_n7, Lf.r_n8, Lf.r_n9, Lf.r_n10, Lf.r_n11, Lf.r_n12, Lf.r_n13, Lf.r_n14, Lf.r_n15, Lf.r_a0, Lf.r_a1, Lf.r_a2, Lf.r_a3, Lf.r_a4, Lf.r_a5, Lf.r_a6, Lf.r_a7, Lf.r_a8, Lf.r_a9, Lf.r_a10, Lf.r_a11, Lf.r_a12, Lf.r_a13, Lf.r_a14, Lf.r_a15, L2.wipe, eq_self, Lf.r_cdiv, Lf.r_cmul, Lf.r_cpow60, Lf.r_cpow40, Lf.r_cpow30, Lf.r_cpow9, Lf.r_p60, Lf.r_p30, Lf.r_p9, Int.reduceLT, Int.reduceNeg, and_self, or_true, true_or, Lf.r_s0, Lf.r_s1, Lf.r_s2, Lf.r_s3, Lf.r_s4, Lf.r_s5, Lf.r_s6, Lf.r_s7, Lf.r_s8, Lf.r_s9, Lf.r_s10, Lf.r_s11, Lf.r_s12, Lf.r_s13, Lf.r_s14, Lf.r_s15, Lf.r_s16, Lf.r_s17, Lf.r_s18, Lf.r_s19, Lf.r_s20, Lf.r_seq, Lf.r_ite_t, Lf.r_ite_f, ↓Lf.r_ite_t, ↓Lf.r_ite_f, ↓Lf.r_ite_d, ↓Lf.r_ite_nd, ↓reduceIte, List.set_cons_zero, List.set_cons_succ, true_and, and_true])
local macro_rules | `(tactic| walk_at "st") => `(tactic| try simp only [Lf.st, List.map_cons, List.map_nil, List.length_cons, List.length_nil, Nat.reduceAdd, Nat.reduceSub, List.replicate, List.cons_append, List.nil_append])
local macro_rules | `(tactic| walk_at "mono") => `(tactic| repeat first | with_reducible exact Lf.m_var | with_reducible exact Lf.m_c | with_reducible exact Lf.m_U | with_reducible exact Lf.m_I0 | with_reducible exact Lf.m_I | with_reducible exact Lf.m_eq | with_reducible exact Lf.m_ne | with_reducible exact Lf.m_eqD | with_reducible exact Lf.m_neD | with_reducible exact Lf.m_ixL | with_reducible exact Lf.m_in | with_reducible exact Lf.m_cat | with_reducible exact Lf.m_nil | with_reducible exact Lf.m_len | with_reducible exact Lf.m_lenS | with_reducible exact Lf.m_slL | with_reducible exact Lf.m_nopart | with_reducible apply Lf.m_op | with_reducible apply Lf.m_un | with_reducible apply Lf.m_test | with_reducible apply Lf.m_B | with_reducible apply Lf.m_not | with_reducible apply Lf.m_and | with_reducible apply Lf.m_or | with_reducible apply Lf.m_cons | with_reducible apply Lf.m_CB | with_reducible apply Lf.m_lst | with_reducible apply Lf.m_tup | with_reducible apply Lf.m_sl | with_reducible apply Lf.m_part)
namespace Lf
/-- what figures are worth, the least place first -/
def wl : List Int → Int
  | [] => 0
  | x :: r => x + 2 * wl r
theorem wl_append : ∀ (a b : List Int), wl (a ++ b) = wl a + 2 ^ a.length * wl b
  | [], b => by simp [wl]
  | x :: a, b => by
    simp only [List.cons_append, wl, List.length_cons, wl_append a b, Int.pow_succ, Int.mul_add]
    rw [Int.mul_comm (2 ^ a.length) 2, Int.mul_assoc]
    omega
/-- the figure of a number at the first place -/
def fig (n : Int) : Int := if n % 2 ≠ 0 then 2 - n % 4 else 0
def nxt (n : Int) : Int := (n - fig n) / 2
theorem fig_cases (n : Int) : (n % 2 = 0 ∧ fig n = 0 ∧ nxt n = n / 2) ∨ (n % 4 = 1 ∧ fig n = 1 ∧ nxt n = (n - 1) / 2) ∨ (n % 4 = 3 ∧ fig n = -1 ∧ nxt n = (n + 1) / 2) := by
  unfold nxt
  by_cases h : n % 2 = 0
  · have e : fig n = 0 := by unfold fig; rw [if_neg (by omega)]
    left; rw [e]; exact ⟨h, rfl, by simp⟩
  · have e : fig n = 2 - n % 4 := by unfold fig; rw [if_pos h]
    right
    rw [e]
    omega
theorem nxt_lt {n : Int} (h : n ≠ 0) : (nxt n).natAbs < n.natAbs := by
  rcases fig_cases n with ⟨h1, h2, h3⟩ | ⟨h1, h2, h3⟩ | ⟨h1, h2, h3⟩ <;> rw [h3] <;> omega
theorem nxt_fig (n : Int) : n = fig n + 2 * nxt n := by
  rcases fig_cases n with ⟨h1, h2, h3⟩ | ⟨h1, h2, h3⟩ | ⟨h1, h2, h3⟩ <;> rw [h2, h3] <;> omega
def naf (n : Int) : List Int := if h : n = 0 then [] else fig n :: naf (nxt n)
termination_by n.natAbs
decreasing_by exact nxt_lt h
theorem naf_zero : naf 0 = [] := by unfold naf; simp
theorem naf_step {n : Int} (h : n ≠ 0) : naf n = fig n :: naf (nxt n) := by rw [naf]; simp [h]
theorem naf_ind {P : Int → Prop} (h0 : P 0) (hs : ∀ n, n ≠ 0 → P (nxt n) → P n) : ∀ n, P n := by
  have key : ∀ (k : Nat) (n : Int), n.natAbs ≤ k → P n := by
    intro k
    induction k with
    | zero => intro n h; have : n = 0 := by omega
              rw [this]; exact h0
    | succ k ih =>
      intro n h
      by_cases e : n = 0
      · rw [e]; exact h0
      · exact hs n e (ih _ (by have := nxt_lt e; omega))
  exact fun n => key _ n (Nat.le_refl _)
theorem wl_naf : ∀ n, wl (naf n) = n := naf_ind (by rw [naf_zero]; rfl) fun n h ih => by
  rw [naf_step h]; simp only [wl, ih]; exact (nxt_fig n).symm
/-- a figure -/
def Fg (x : Int) : Prop := x = -1 ∨ x = 0 ∨ x = 1
theorem fig_fg (n : Int) : Fg (fig n) := by
  unfold Fg
  rcases fig_cases n with ⟨h1, h2, h3⟩ | ⟨h1, h2, h3⟩ | ⟨h1, h2, h3⟩ <;> rw [h2] <;> omega
theorem naf_fg : ∀ n, ∀ x ∈ naf n, Fg x := naf_ind (by rw [naf_zero]; simp) fun n h ih => by
  rw [naf_step h]
  intro x hx
  rcases List.mem_cons.mp hx with e | e
  · rw [e]; exact fig_fg n
  · exact ih x e
/-- no two neighbours other than 0 -/
def Apart : List Int → Prop
  | [] => True
  | [_] => True
  | x :: y :: r => (x = 0 ∨ y = 0) ∧ Apart (y :: r)
theorem naf_head (n : Int) : ∀ y r, naf n = y :: r → y = fig n := fun y r e => by
  by_cases h : n = 0
  · rw [h, naf_zero] at e; cases e
  · rw [naf_step h] at e; cases e; rfl
theorem naf_apart : ∀ n, Apart (naf n) := naf_ind (by rw [naf_zero]; exact True.intro) fun n h ih => by
  rw [naf_step h]
  cases e : naf (nxt n) with
  | nil => exact True.intro
  | cons y r =>
    refine ⟨?_, by rw [← e]; exact ih⟩
    have hy := naf_head _ y r e
    rcases fig_cases n with ⟨h1, h2, h3⟩ | ⟨h1, h2, h3⟩ | ⟨h1, h2, h3⟩
    · exact .inl h2
    · right; rw [hy]
      rcases fig_cases (nxt n) with ⟨k1, k2, k3⟩ | ⟨k1, k2, k3⟩ | ⟨k1, k2, k3⟩
      · exact k2
      · exfalso; rw [h3] at k1; omega
      · exfalso; rw [h3] at k1; omega
    · right; rw [hy]
      rcases fig_cases (nxt n) with ⟨k1, k2, k3⟩ | ⟨k1, k2, k3⟩ | ⟨k1, k2, k3⟩
      · exact k2
      · exfalso; rw [h3] at k1; omega
      · exfalso; rw [h3] at k1; omega
/-- the last figure is not 0 -/
def LastNz (l : List Int) : Prop := l.getLast? ≠ some 0
theorem naf_last : ∀ n, LastNz (naf n) := naf_ind (by rw [naf_zero]; simp [LastNz]) fun n h ih => by
  rw [naf_step h]
  unfold LastNz
  cases e : naf (nxt n) with
  | nil =>
    have hz : nxt n = 0 := by rw [← wl_naf (nxt n), e]; rfl
    have hf := nxt_fig n
    rw [hz] at hf
    simp
    omega
  | cons y r =>
    rw [List.getLast?_cons_cons]
    rw [e] at ih
    exact ih
/-- a row; a lean row -/
structure Row (l : List Int) : Prop where
  fg : ∀ x ∈ l, Fg x
  last : LastNz l
structure LeanR (l : List Int) : Prop extends Row l where
  ap : Apart l
theorem naf_lean (n : Int) : LeanR (naf n) := ⟨⟨naf_fg n, naf_last n⟩, naf_apart n⟩
theorem Apart.tail {x : Int} {l : List Int} (h : Apart (x :: l)) : Apart l := by
  cases l with
  | nil => exact True.intro
  | cons y r => exact h.2
theorem LastNz.tail {x : Int} {l : List Int} (h : LastNz (x :: l)) : LastNz l := by
  cases l with
  | nil => simp [LastNz]
  | cons y r => unfold LastNz at *; rw [List.getLast?_cons_cons] at h; exact h
theorem LeanR.tail {x : Int} {l : List Int} (h : LeanR (x :: l)) : LeanR l := ⟨⟨fun y hy => h.fg y (List.mem_cons_of_mem _ hy), h.last.tail⟩, h.ap.tail⟩
theorem wl_even_head {y : Int} {r : List Int} (h : y = 0) : wl (y :: r) % 2 = 0 := by simp only [wl, h]; omega
theorem lean_nz : ∀ {l : List Int}, LeanR l → l ≠ [] → wl l ≠ 0
  | [], _, h => absurd rfl h
  | [x], h, _ => by
    have : x ≠ 0 := fun e => h.last (by simp [e])
    simp only [wl]; omega
  | x :: y :: r, h, _ => by
    have ih := lean_nz h.tail (List.cons_ne_nil _ _)
    have hx := h.fg x List.mem_cons_self
    simp only [wl] at *
    unfold Fg at hx
    rcases hx with e | e | e <;> omega
theorem lean_fig : ∀ {x : Int} {l : List Int}, LeanR (x :: l) → fig (wl (x :: l)) = x ∧ nxt (wl (x :: l)) = wl l := fun {x l} h => by
  have hx := h.fg x List.mem_cons_self
  have h2 : x ≠ 0 → wl l % 2 = 0 := fun e => by
    cases l with
    | nil => rfl
    | cons y r =>
      rcases h.ap.1 with q | q
      · exact absurd q e
      · exact wl_even_head q
  simp only [wl]
  unfold Fg at hx
  rcases fig_cases (x + 2 * wl l) with ⟨k1, k2, k3⟩ | ⟨k1, k2, k3⟩ | ⟨k1, k2, k3⟩ <;> rw [k2, k3] <;> rcases hx with e | e | e <;> subst e <;> (try have h3 := h2 (by decide)) <;> omega
/-- each number is the worth of just one lean row -/
theorem naf_wl : ∀ {l : List Int}, LeanR l → naf (wl l) = l
  | [], _ => naf_zero
  | x :: l, h => by
    obtain ⟨e1, e2⟩ := lean_fig h
    rw [naf_step (lean_nz h (List.cons_ne_nil _ _)), e1, e2, naf_wl h.tail]
theorem lean_uniq {l m : List Int} (h : LeanR l) (k : LeanR m) (e : wl l = wl m) : l = m := by
  rw [← naf_wl h, ← naf_wl k, e]
theorem naf_len : ∀ (k : Nat) (n : Int), n.natAbs < 2 ^ k → (naf n).length ≤ k + 1
  | 0, n, h => by
    have : n = 0 := by simp at h; exact h
    rw [this, naf_zero]; simp
  | k + 1, n, h => by
    by_cases e : n = 0
    · rw [e, naf_zero]; simp
    · rw [naf_step e, List.length_cons]
      by_cases e1 : (nxt n).natAbs < 2 ^ k
      · have := naf_len k _ e1; omega
      · -- only where n is near the power
        have hp : (2:Nat) ^ (k + 1) = 2 * 2 ^ k := by rw [Nat.pow_succ, Nat.mul_comm]
        have hn : (nxt n).natAbs = 2 ^ k := by
          rcases fig_cases n with ⟨h1, h2, h3⟩ | ⟨h1, h2, h3⟩ | ⟨h1, h2, h3⟩ <;> rw [h3] at e1 ⊢ <;> omega
        have pw : ∀ (k : Nat) (m : Int), m.natAbs = 2 ^ k → (naf m).length ≤ k + 1 := by
          intro k
          induction k with
          | zero =>
            intro m hm
            have hm' : m = 1 ∨ m = -1 := by simp at hm; omega
            rcases hm' with rfl | rfl <;> (rw [naf_step (by decide)]; rw [show nxt _ = 0 from by decide, naf_zero]; simp)
          | succ k ih =>
            intro m hm
            have hp : (2:Nat) ^ (k + 1) = 2 * 2 ^ k := by rw [Nat.pow_succ, Nat.mul_comm]
            have hz : m ≠ 0 := fun q => by rw [q] at hm; have : 0 < (2:Nat)^k := Nat.pos_of_ne_zero (by simp); simp at hm; omega
            rw [naf_step hz, List.length_cons]
            have := ih (nxt m) (by
              rcases fig_cases m with ⟨h1, h2, h3⟩ | ⟨h1, h2, h3⟩ | ⟨h1, h2, h3⟩ <;> rw [h3] <;> omega)
            omega
        have := pw k _ hn
        omega
end Lf
namespace Lf
/-! ### settled -/
def figs (n : Int) : Nat → List Int
  | 0 => []
  | k + 1 => fig n :: figs (nxt n) k
def rst (n : Int) : Nat → Int
  | 0 => n
  | k + 1 => rst (nxt n) k
theorem figs_snoc : ∀ (k : Nat) (n : Int), figs n (k + 1) = figs n k ++ [fig (rst n k)]
  | 0, _ => rfl
  | k + 1, n => by
    show fig n :: figs (nxt n) (k + 1) = fig n :: figs (nxt n) k ++ [fig (rst (nxt n) k)]
    rw [figs_snoc k (nxt n)]; rfl
theorem rst_snoc : ∀ (k : Nat) (n : Int), rst n (k + 1) = nxt (rst n k)
  | 0, _ => rfl
  | k + 1, n => rst_snoc k (nxt n)
theorem figs_len : ∀ (k : Nat) (n : Int), (figs n k).length = k
  | 0, _ => rfl
  | k + 1, n => by show (figs (nxt n) k).length + 1 = k + 1; rw [figs_len k]
theorem figs_fg : ∀ (k : Nat) (n : Int), ∀ x ∈ figs n k, Fg x
  | 0, _, x, h => by cases h
  | k + 1, n, x, h => by
    rcases List.mem_cons.mp h with e | e
    · rw [e]; exact fig_fg n
    · exact figs_fg k _ x e
theorem nxt_zero : nxt 0 = 0 := by decide
theorem fig_zero : fig 0 = 0 := by decide
theorem nxt_le (n : Int) : (nxt n).natAbs ≤ n.natAbs := by
  by_cases h : n = 0
  · rw [h]; decide
  · exact Nat.le_of_lt (nxt_lt h)
theorem figs_naf : ∀ (k : Nat) (n : Int), rst n k = 0 → ∃ m, figs n k = naf n ++ List.replicate m 0
  | 0, n, h => ⟨0, by have e : n = 0 := h; rw [e, naf_zero]; rfl⟩
  | k + 1, n, h => by
    obtain ⟨m, e⟩ := figs_naf k (nxt n) h
    by_cases hz : n = 0
    · subst hz
      refine ⟨m + 1, ?_⟩
      show fig 0 :: figs (nxt 0) k = _
      rw [e, fig_zero, nxt_zero, naf_zero]; rfl
    · refine ⟨m, ?_⟩
      show fig n :: figs (nxt n) k = _
      rw [e, naf_step hz]; rfl
theorem rst_long : ∀ (k : Nat) (n : Int), rst n k ≠ 0 → k < (naf n).length
  | 0, n, h => by
    have h' : n ≠ 0 := h
    rw [naf_step h']; simp
  | k + 1, n, h => by
    have ih := rst_long k (nxt n) h
    by_cases hz : n = 0
    · subst hz
      rw [nxt_zero, naf_zero] at ih; exact absurd ih (Nat.not_lt_zero _)
    · rw [naf_step hz, List.length_cons]; omega
theorem figs_done {k : Nat} {n : Int} (h : rst n k = 0) (hk : k ≤ (naf n).length) : figs n k = naf n := by
  obtain ⟨m, e⟩ := figs_naf k n h
  have hl := figs_len k n
  rw [e, List.length_append, List.length_replicate] at hl
  have : m = 0 := by omega
  rw [e, this]; simp
/-- the figure that settled chooses: here what stands at the place with what is carried, later what stands at the next one -/
def choose (here later : Int) : Int := if here % 2 ≠ 0 then (if (later + (here - 1) / 2) % 2 = 0 then 1 else -1) else 0
theorem choose_is {here later more : Int} : choose here later = fig (here + 2 * (later + 2 * more)) ∧ nxt (here + 2 * (later + 2 * more)) = (here - choose here later) / 2 + (later + 2 * more) := by
  unfold choose
  rcases fig_cases (here + 2 * (later + 2 * more)) with ⟨h1, h2, h3⟩ | ⟨h1, h2, h3⟩ | ⟨h1, h2, h3⟩ <;> rw [h2, h3]
  · rw [if_neg (by omega)]; omega
  · rw [if_pos (by omega), if_pos (by omega)]; omega
  · rw [if_pos (by omega), if_neg (by omega)]; omega
theorem wl_split2 (ts : List Int) (i : Nat) : ∃ more, wl (ts.drop i) = ts.getD i 0 + 2 * (ts.getD (i + 1) 0 + 2 * more) := by
  cases h : ts.drop i with
  | nil =>
    have : ts.length ≤ i := List.drop_eq_nil_iff.mp h
    refine ⟨0, ?_⟩
    rw [List.getD_eq_getElem?_getD, List.getD_eq_getElem?_getD, List.getElem?_eq_none this, List.getElem?_eq_none (by omega)]
    simp [wl]
  | cons x r =>
    have e0 : ts[i]? = some x := by have := congrArg (·[0]?) h; simpa using this
    cases r with
    | nil =>
      refine ⟨0, ?_⟩
      have e1 : ts[i + 1]? = none := by have := congrArg (·[1]?) h; simpa using this
      rw [List.getD_eq_getElem?_getD, List.getD_eq_getElem?_getD, e0, e1]; simp [wl]
    | cons y r =>
      have e1 : ts[i + 1]? = some y := by have := congrArg (·[1]?) h; simpa using this
      refine ⟨wl r, ?_⟩
      rw [List.getD_eq_getElem?_getD, List.getD_eq_getElem?_getD, e0, e1]; simp [wl]
theorem wl_drop_succ (ts : List Int) (i : Nat) : wl (ts.drop i) = ts.getD i 0 + 2 * wl (ts.drop (i + 1)) := by
  cases h : ts.drop i with
  | nil =>
    have : ts.length ≤ i := List.drop_eq_nil_iff.mp h
    rw [List.getD_eq_getElem?_getD, List.getElem?_eq_none this, List.drop_eq_nil_iff.mpr (by omega : ts.length ≤ i + 1)]
    simp [wl]
  | cons x r =>
    have e0 : ts[i]? = some x := by have := congrArg (·[0]?) h; simpa using this
    have e1 : ts.drop (i + 1) = r := by rw [← List.drop_drop, h]; rfl
    rw [List.getD_eq_getElem?_getD, e0, e1]; simp [wl]
/-- one turn of settled -/
theorem settle_turn {ts : List Int} {W over : Int} {i : Nat} (h : over + wl (ts.drop i) = rst W i) :
    choose (over + ts.getD i 0) (ts.getD (i + 1) 0) = fig (rst W i) ∧ (over + ts.getD i 0 - choose (over + ts.getD i 0) (ts.getD (i + 1) 0)) / 2 + wl (ts.drop (i + 1)) = rst W (i + 1) := by
  obtain ⟨more, e⟩ := wl_split2 ts i
  have e2 := wl_drop_succ ts i
  have e3 : wl (ts.drop (i + 1)) = ts.getD (i + 1) 0 + 2 * more := by omega
  have c := @choose_is (over + ts.getD i 0) (ts.getD (i + 1) 0) more
  have e4 : rst W i = over + ts.getD i 0 + 2 * (ts.getD (i + 1) 0 + 2 * more) := by omega
  rw [rst_snoc, e4, e3]
  exact ⟨c.1, c.2.symm⟩
/-! ### laid over -/
def lay1 (l : List Int) (v : Int) (q : Nat) : List Int := if q = l.length then l ++ [v] else l.set q (l.getD q 0 + v)
def lay (l : List Int) (t : Int) : List Int → Nat → List Int
  | [], _ => l
  | x :: r, p => lay (lay1 l (t * x) p) t r (p + 1)
theorem lay_snoc : ∀ (a : List Int) (l : List Int) (t x : Int) (p : Nat), lay l t (a ++ [x]) p = lay1 (lay l t a p) (t * x) (p + a.length)
  | [], l, t, x, p => rfl
  | y :: a, l, t, x, p => by
    show lay (lay1 l (t * y) p) t (a ++ [x]) (p + 1) = lay1 (lay (lay1 l (t * y) p) t a (p + 1)) (t * x) (p + (a.length + 1))
    rw [lay_snoc a, show p + 1 + a.length = p + (a.length + 1) by omega]
theorem wl_set : ∀ (l : List Int) (q : Nat) (v : Int), q < l.length → wl (l.set q v) = wl l + 2 ^ q * (v - l.getD q 0)
  | [], _, _, h => absurd h (Nat.not_lt_zero _)
  | x :: l, 0, v, _ => by simp only [List.set_cons_zero, wl, List.getD_cons_zero]; omega
  | x :: l, q + 1, v, h => by
    simp only [List.set_cons_succ, wl, List.getD_cons_succ]
    rw [wl_set l q v (by simpa using h), Int.pow_succ, Int.mul_add, Int.mul_comm (2 ^ q) 2, Int.mul_assoc]; omega
theorem wl_lay1 {l : List Int} {v : Int} {q : Nat} (h : q ≤ l.length) : wl (lay1 l v q) = wl l + 2 ^ q * v := by
  unfold lay1
  by_cases e : q = l.length
  · rw [if_pos e, wl_append, ← e]; simp [wl]
  · rw [if_neg e, wl_set l q _ (by omega)]
    congr 1; congr 1; omega
theorem len_lay1 {l : List Int} {v : Int} {q : Nat} (h : q ≤ l.length) : (lay1 l v q).length = max l.length (q + 1) := by
  unfold lay1
  by_cases e : q = l.length
  · rw [if_pos e, List.length_append, e]; simp
  · rw [if_neg e, List.length_set]; omega
theorem len_lay : ∀ (r : List Int) (l : List Int) (t : Int) (p : Nat), p ≤ l.length → (lay l t r p).length = max l.length (p + r.length)
  | [], l, t, p, h => by show l.length = max l.length (p + 0); omega
  | x :: r, l, t, p, h => by
    show (lay (lay1 l (t * x) p) t r (p + 1)).length = _
    rw [len_lay r _ t (p + 1) (by rw [len_lay1 h]; omega), len_lay1 h, List.length_cons]; omega
theorem wl_lay : ∀ (r : List Int) (l : List Int) (t : Int) (p : Nat), p ≤ l.length → wl (lay l t r p) = wl l + t * 2 ^ p * wl r
  | [], l, t, p, _ => by show wl l = wl l + t * 2 ^ p * 0; simp
  | x :: r, l, t, p, h => by
    show wl (lay (lay1 l (t * x) p) t r (p + 1)) = wl l + t * 2 ^ p * (x + 2 * wl r)
    rw [wl_lay r _ t (p + 1) (by rw [len_lay1 h]; omega), wl_lay1 h, Int.pow_succ, Int.mul_add]
    have e1 : 2 ^ p * (t * x) = t * 2 ^ p * x := by rw [← Int.mul_assoc, Int.mul_comm (2 ^ p) t]
    have e2 : t * (2 ^ p * 2) * wl r = t * 2 ^ p * (2 * wl r) := by rw [← Int.mul_assoc t, Int.mul_assoc (t * 2 ^ p)]
    omega
theorem wl_zeros (n : Nat) : wl (List.replicate n 0) = 0 := by
  induction n with
  | zero => rfl
  | succ n ih => rw [List.replicate_succ]; simp only [wl, ih]; rfl
theorem wl_neg : ∀ l : List Int, wl (l.map fun x => 0 - x) = 0 - wl l
  | [] => rfl
  | x :: l => by simp only [List.map_cons, wl, wl_neg l]; omega
/-! ### the last figure tells the sign -/
theorem naf_sign : ∀ n, n ≠ 0 → (naf n).getLast? = some (if 0 < n then 1 else -1) := naf_ind (fun h => absurd rfl h) fun n h ih _ => by
  rw [naf_step h]
  by_cases hz : nxt n = 0
  · rw [hz, naf_zero]
    have hf := nxt_fig n
    rw [hz] at hf
    have := fig_fg n
    unfold Fg at this
    have hfn : fig n = n := by omega
    rw [hfn]
    simp
    split <;> omega
  · have i2 := ih hz
    cases e : naf (nxt n) with
    | nil => rw [e] at i2; cases i2
    | cons y r =>
      rw [List.getLast?_cons_cons, ← e, i2]
      have hf := nxt_fig n
      have := fig_fg n
      unfold Fg at this
      congr 1
      by_cases c : 0 < n
      · rw [if_pos c, if_pos (by omega)]
      · rw [if_neg c, if_neg (by omega)]
/-! ### how great the worth of a row may be -/
theorem wl_bound : ∀ (l : List Int) (m : Nat), (∀ x ∈ l, x.natAbs ≤ m) → (wl l).natAbs + m ≤ m * 2 ^ l.length
  | [], m, _ => by simp [wl]
  | x :: l, m, h => by
    have ih := wl_bound l m fun y hy => h y (List.mem_cons_of_mem _ hy)
    have hx := h x List.mem_cons_self
    simp only [wl, List.length_cons, Nat.pow_succ]
    have e : m * (2 ^ l.length * 2) = 2 * (m * 2 ^ l.length) := by rw [← Nat.mul_assoc, Nat.mul_comm _ 2]
    rw [e]; omega
theorem Fg.abs {x : Int} (h : Fg x) : x.natAbs ≤ 1 := by unfold Fg at h; omega
theorem row_bound {l : List Int} (h : ∀ x ∈ l, Fg x) : (wl l).natAbs < 2 ^ l.length := by
  have := wl_bound l 1 fun x hx => (h x hx).abs
  omega
end Lf
namespace Lf
open PySem PySem.Spec L2
open PyProof.Rows hiding St
/-! ### things of the built-in types -/
def tyN : List String := ["int", "bool", "str", "NoneType", "list", "tuple", "dict"]
structure Th (K : PySem.W.Frag) (H : Hp) (x : V) (n : String) : Prop where
  ty : TyX K H x (.type n)
  nm : n ∈ tyN
theorem nm_cases {n : String} (h : n ∈ tyN) : n = "int" ∨ n = "bool" ∨ n = "str" ∨ n = "NoneType" ∨ n = "list" ∨ n = "tuple" ∨ n = "dict" := by
  simpa [tyN] using h
section
variable {K : PySem.W.Frag} {H H' : Hp} {x : V} {n : String} {a : Addr}
theorem kit_nm {m : String} (hm : m = "int" ∨ m = "bool" ∨ m = "str" ∨ m = "list") (h : n ∈ tyN) : PySem.W.kitOne K (.type n) (.type m) = some (decide (n = m) || (decide (n = "bool") && decide (m = "int"))) := by
  rcases nm_cases h with rfl | rfl | rfl | rfl | rfl | rfl | rfl <;> rcases hm with rfl | rfl | rfl | rfl <;> exact kit_ty (by decide +kernel)
theorem isi_nm {m : String} {Q : VK} (hm : m = "int" ∨ m = "bool" ∨ m = "str" ∨ m = "list") (h : Th K H x n) (q : Q (.bl (decide (n = m) || (decide (n = "bool") && decide (m = "int")))) H) : rIsi K [x, .ty m] H Q :=
  ⟨x, .ty m, .type n, .type m, _, rfl, .ty m, h.ty, kit_nm hm h.nm, q⟩
theorem isi_int {Q : VK} (h : Th K H x n) (q : Q (.bl (decide (n = "int") || decide (n = "bool"))) H) : rIsi K [x, .ty "int"] H Q := isi_nm (.inl rfl) h (by simpa using q)
theorem isi_bool {Q : VK} (h : Th K H x n) (q : Q (.bl (decide (n = "bool"))) H) : rIsi K [x, .ty "bool"] H Q := isi_nm (.inr (.inl rfl)) h (by simpa using q)
theorem isi_str {Q : VK} (h : Th K H x n) (q : Q (.bl (decide (n = "str"))) H) : rIsi K [x, .ty "str"] H Q := isi_nm (.inr (.inr (.inl rfl))) h (by simpa using q)
theorem isi_list {Q : VK} (h : Th K H x n) (q : Q (.bl (decide (n = "list"))) H) : rIsi K [x, .ty "list"] H Q := isi_nm (.inr (.inr (.inr rfl))) h (by simpa using q)
theorem th_int {i : Int} : Th K H (.int i) "int" := ⟨.base (.int i), by simp [tyN]⟩
theorem th_bl {b : Bool} : Th K H (.bl b) "bool" := ⟨.base (.bl b), by simp [tyN]⟩
theorem th_str {s : Str} : Th K H (.str s) "str" := ⟨.base (.str s), by simp [tyN]⟩
theorem th_non : Th K H .non "NoneType" := ⟨.base .non, by simp [tyN]⟩
theorem th_sq {xs : List V} (h : SqL K H a xs) : Th K H (.ref a) "list" := by
  refine ⟨?_, by simp [tyN]⟩
  rcases h with (h | ⟨o, h⟩) | ⟨o, its, n, hk, hc, _⟩
  · exact .base (.lst h)
  · exact .base (.frz h)
  · exact .kList hk hc
theorem th_tup {xs : List V} (h : H a = some (.tup xs)) : Th K H (.ref a) "tuple" := ⟨.base (.tup h), by simp [tyN]⟩
theorem th_dict {kvs : List (Key × V)} (h : H a = some (.dK kvs)) : Th K H (.ref a) "dict" := ⟨.base (.dK h), by simp [tyN]⟩
theorem _root_.L2.TyX.same {t : Value} (s : Same H H') (h : TyX K H x t) : TyX K H' x t := by
  cases h with
  | base b =>
    refine .base ?_
    cases b with
    | non => exact .non
    | bl y => exact .bl y
    | int i => exact .int i
    | str y => exact .str y
    | flt y => exact .flt y
    | lst e => exact .lst (s _ _ e)
    | frz e => exact .frz (s _ _ e)
    | tup e => exact .tup (s _ _ e)
    | dK e => exact .dK (s _ _ e)
    | dT e => exact .dT (s _ _ e)
    | ins e cl ha hn htk hm => exact .ins (s _ _ e) cl ha hn htk hm
  | byt b => exact .byt b
  | set e => exact .set (s _ _ e)
  | kList e c => exact .kList e c
  | kTuple e c => exact .kTuple e c
  | kDict e c => exact .kDict e c
  | fTuple e => exact .fTuple (s _ _ e)
  | fDict e => exact .fDict (s _ _ e)
theorem Th.same (s : Same H H') (h : Th K H x n) : Th K H' x n := ⟨TyX.same s h.ty, h.nm⟩
/-- whether a thing is a whole number -/
def wh : V → Bool
  | .int _ => true
  | _ => false
theorem Th.wh (h : Th K H x n) : wh x = decide (n = "int") := by
  obtain ⟨t, m⟩ := h
  cases x with
  | int i =>
    cases t with
    | base b => cases b; rfl
  | non => cases t with
    | base b => cases b; rfl
  | bl y => cases t with
    | base b => cases b; rfl
  | str y => cases t with
    | base b => cases b; rfl
  | flt y => cases t with
    | base b => cases b; rfl
  | byt y => cases t with
    | base b => cases b
    | byt => rfl
  | ty y => cases t with
    | base b => cases b
  | ref a =>
    cases t with
    | base b => cases b <;> rfl
    | set e => rfl
    | kList e c => rfl
    | kTuple e c => rfl
    | kDict e c => rfl
    | fTuple e => rfl
    | fDict e => rfl
theorem Th.not_int (h : Th K H x n) (hn : n ≠ "int") : Lf.wh x = false := by rw [h.wh]; simpa using hn
/-- whether a thing is a figure -/
def fgB : V → Bool
  | .int i => decide (-1 ≤ i) && decide (i ≤ 1)
  | _ => false
theorem fgB_of {x : V} (h : fgB x = true) : ∃ i : Int, x = .int i ∧ Fg i := by
  cases x with
  | int i =>
    refine ⟨i, rfl, ?_⟩
    simp only [fgB, Bool.and_eq_true, decide_eq_true_eq] at h
    unfold Fg; omega
  | _ => cases h
theorem fgB_int {i : Int} (h : Fg i) : fgB (.int i) = true := by
  simp only [fgB, Bool.and_eq_true, decide_eq_true_eq]
  unfold Fg at h; omega
/-- whether the items make a row -/
def rowV (xs : List V) : Bool := xs.all fgB && (xs.isEmpty || !decide (xs.getLast? = some (.int 0)))
theorem row_ints : ∀ {xs : List V}, xs.all fgB = true → ∃ ns : List Int, xs = ns.map V.int ∧ ∀ x ∈ ns, Fg x
  | [], _ => ⟨[], rfl, by simp⟩
  | x :: xs, h => by
    rw [List.all_cons, Bool.and_eq_true] at h
    obtain ⟨i, rfl, hi⟩ := fgB_of h.1
    obtain ⟨ns, rfl, hn⟩ := row_ints h.2
    exact ⟨i :: ns, rfl, fun y hy => by
      rcases List.mem_cons.mp hy with e | e
      · rw [e]; exact hi
      · exact hn y e⟩
theorem getLast_map (ns : List Int) : (ns.map V.int).getLast? = ns.getLast?.map V.int := by
  rw [List.getLast?_map]
theorem rowV_row {ns : List Int} (h : Row ns) : rowV (ns.map V.int) = true := by
  unfold rowV
  rw [Bool.and_eq_true]
  refine ⟨?_, ?_⟩
  · rw [List.all_map, List.all_eq_true]
    exact fun x hx => fgB_int (h.fg x hx)
  · have hl := h.last
    unfold LastNz at hl
    rw [getLast_map]
    simp only [Bool.or_eq_true, Bool.not_eq_true', decide_eq_false_iff_not]
    right
    cases e : ns.getLast? with
    | none => simp
    | some z =>
      rw [e] at hl
      simp only [Option.map_some, Option.some.injEq, V.int.injEq]
      exact fun q => hl (by rw [q])
theorem row_of {xs : List V} (h : rowV xs = true) : ∃ ns : List Int, xs = ns.map V.int ∧ Row ns := by
  unfold rowV at h
  rw [Bool.and_eq_true] at h
  obtain ⟨ns, rfl, hn⟩ := row_ints h.1
  refine ⟨ns, rfl, hn, ?_⟩
  have h2 := h.2
  unfold LastNz
  intro e
  rw [getLast_map, e] at h2
  cases ns with
  | nil => cases e
  | cons => simp at h2
end
theorem atI_end {α : Type} {xs : List α} {v : α} (h : xs.getLast? = some v) : atI xs (-1) = some v := by
  obtain ⟨ys, rfl⟩ := List.getLast?_eq_some_iff.mp h
  exact atI_last ys v
theorem atI_at {α : Type} {xs : List α} {i : Int} {j : Nat} {v : α} (e : i = (j : Int)) (h : xs[j]? = some v) : atI xs i = some v := by
  rw [e]
  exact atI_nat h
theorem drop_at {α : Type} {l : List α} {i : Nat} {x : α} (h : l[i]? = some x) : l.drop i = x :: l.drop (i + 1) := by
  obtain ⟨hi, e⟩ := List.getElem?_eq_some_iff.mp h
  rw [← e]
  exact List.drop_eq_getElem_cons hi
/-! ### lists of whole numbers compared -/
theorem dpAll_ints {K : PySem.W.Frag} {H : Hp} : ∀ ns : List Int, DpAll K H (ns.map V.int) (ns.map PyData.int)
  | [] => .nil
  | n :: ns => .cons (.int n) (dpAll_ints ns)
theorem canLay_ints : ∀ ns : List Int, PyData.canLayAll0 (ns.map PyData.int) = true
  | [] => by simp [PyData.canLayAll0]
  | n :: ns => by
    have := canLay_ints ns
    simp [PyData.canLayAll0, PyData.canLay0, this]
theorem depth_ints : ∀ ns : List Int, PyData.depthAll (ns.map PyData.int) ≤ 1
  | [] => by simp [PyData.depthAll]
  | n :: ns => by
    have := depth_ints ns
    simp only [List.map_cons, PyData.depthAll, PyData.depth]
    omega
theorem shaped_ints (ns : List Int) : SeqAt.shaped (.list (ns.map PyData.int)) = true := by
  unfold SeqAt.shaped
  have h1 : (PyData.list (ns.map PyData.int)).canLay0 = true := by simp [PyData.canLay0, canLay_ints]
  have h2 : (PyData.list (ns.map PyData.int)).depth ≤ 64 := by
    have := depth_ints ns
    simp only [PyData.depth]
    omega
  rw [h1, decide_eq_true h2]; rfl
theorem eqvAll_ints : ∀ ns ms : List Int, PyData.eqvAll (ns.map PyData.int) (ms.map PyData.int) = decide (ns = ms)
  | [], [] => by simp [PyData.eqvAll]
  | [], m :: ms => by simp [PyData.eqvAll]
  | n :: ns, [] => by simp [PyData.eqvAll]
  | n :: ns, m :: ms => by
    simp only [List.map_cons, PyData.eqvAll, eqvAll_ints ns ms, PyData.eqv]
    by_cases h1 : n = m <;> by_cases h2 : ns = ms <;> simp [h1, h2]
theorem eqv_ints (ns ms : List Int) : PyData.eqv (.list (ns.map PyData.int)) (.list (ms.map PyData.int)) = decide (ns = ms) := by
  simp only [PyData.eqv, eqvAll_ints]
section
variable {K : PySem.W.Frag} {H : Hp} {a b : Addr} {ns ms : List Int} {Q : VK}
theorem eqD_ints (h1 : SqL K H a (ns.map V.int)) (h2 : SqL K H b (ms.map V.int)) (q : Q (.bl (decide (ns = ms))) H) : rEqD K (.ref a) (.ref b) H Q :=
  ⟨_, _, .lst h1 (dpAll_ints ns), .lst h2 (dpAll_ints ms), shaped_ints ns, shaped_ints ms, by rw [eqv_ints]; exact q⟩
theorem neD_ints (h1 : SqL K H a (ns.map V.int)) (h2 : SqL K H b (ms.map V.int)) (q : Q (.bl (!decide (ns = ms))) H) : rNeD K (.ref a) (.ref b) H Q :=
  ⟨_, _, .lst h1 (dpAll_ints ns), .lst h2 (dpAll_ints ms), shaped_ints ns, shaped_ints ms, by rw [eqv_ints]; exact q⟩
end
/-- the law's own script: ints of at most a million bits -/
def spLaw (K : PySem.W.Frag) : Sp := fun vs H Q _ => ∃ (a : Addr) (ns : List Int), vs = [.ref a] ∧ SqL K H a (ns.map V.int) ∧ ns.length ≤ 63 ∧ (∀ z ∈ ns, z.natAbs < 2 ^ 1048576) ∧ ∀ H', Q (.bl true) H'
theorem bits_lt {z : Int} (h : Builtin.Int.intBits z ≤ 1048576) : z.natAbs < 2 ^ 1048576 := by
  unfold Builtin.Int.intBits at h
  by_cases e : z = 0
  · rw [e]; exact Nat.pow_pos (by decide)
  · have e' : (z == 0) = false := by simpa using e
    rw [e'] at h
    have h2 : z.natAbs.log2 < 1048576 := by
      have : z.natAbs.log2 + 1 ≤ 1048576 := h
      omega
    exact (Nat.log2_lt (by omega)).mp h2
/-- what is handed in where a row is wanted: whether it is one -/
inductive RowB (K : PySem.W.Frag) (H : Hp) : V → Bool → Prop where
  | lst {a : Addr} {xs : List V} (h : SqL K H a xs) (ht : ∀ y ∈ xs, ∃ n, Th K H y n) (hz : xs.length ≤ 8000000) : RowB K H (.ref a) (rowV xs)
  | no {x : V} {n : String} (h : Th K H x n) (hn : n ≠ "list") : RowB K H x false
theorem RowB.same {K : PySem.W.Frag} {H H' : Hp} {x : V} {b : Bool} (s : Same H H') (h : RowB K H x b) : RowB K H' x b := by
  cases h with
  | lst h ht hz => exact .lst (s.seq h) (fun y hy => let ⟨n, q⟩ := ht y hy; ⟨n, q.same s⟩) hz
  | no h hn => exact .no (h.same s) hn
theorem RowB.row {K : PySem.W.Frag} {H : Hp} {a : Addr} {ns : List Int} (h : SqL K H a (ns.map V.int)) (r : Row ns) (hz : ns.length ≤ 8000000) : RowB K H (.ref a) true := by
  have q : RowB K H (.ref a) (rowV (ns.map V.int)) := .lst h (fun y hy => by
    obtain ⟨i, _, rfl⟩ := List.mem_map.mp hy
    exact ⟨"int", th_int⟩) (by rw [List.length_map]; exact hz)
  rw [rowV_row r] at q
  exact q
theorem RowB.of {K : PySem.W.Frag} {H : Hp} {x : V} (h : RowB K H x true) : ∃ a ns, x = .ref a ∧ SqL K H a (ns.map V.int) ∧ Row ns ∧ ns.length ≤ 8000000 := by
  generalize hb : true = b at h
  cases h with
  | no h hn => cases hb
  | lst h ht hz =>
    obtain ⟨ns, rfl, r⟩ := row_of hb.symm
    exact ⟨_, ns, rfl, h, r, by rw [List.length_map] at hz; exact hz⟩
end Lf

namespace Lf
open PySem PySem.Spec L2
open PyProof.Rows hiding St
section
variable {K : PySem.W.Frag} {C : Ad} {vs : List V} {H : Hp} {Q : VK} {E : XK}
/-! ### is_whole, is_figure, is_row, need_row -/
def sp_is_whole (K : PySem.W.Frag) (C : Ad) : Sp := fun vs H Q _ => ∃ x n, vs = [x] ∧ Th K H x n ∧ Q (.bl (wh x)) H
/-- the reading of is_whole; slots: 0 thing -/
def t_is_whole (K : PySem.W.Frag) (C : Ad) (E : XK) : TS :=
      (tRet (tAndV (tCB (rIsi K) (tCons (tVar 0) (tCons (tC (.ty "int")) tNil))) (tNotV (tCB (rIsi K) (tCons (tVar 0) (tCons (tC (.ty "bool")) tNil))))))
theorem r_is_whole (h : sp_is_whole K C vs H Q E) : t_is_whole K C E { nx := fun _ H' => Q .non H', rt := Q } (st 1 vs) H := by
  obtain ⟨x, n, rfl, hx, q⟩ := h
  unfold t_is_whole
  walk_at "st"
  walk_at "rd"
  rw [hx.wh] at q
  refine isi_int hx ?_
  walk_at "rd"
  rcases nm_cases hx.nm with e | e | e | e | e | e | e <;> subst e <;> simp at q ⊢ <;> first | exact q | (refine isi_bool hx ?_; simpa using q)
def sp_is_figure (K : PySem.W.Frag) (C : Ad) : Sp := fun vs H Q _ => ∃ x n, vs = [x] ∧ Th K H x n ∧ Q (.bl (fgB x)) H
/-- the reading of is_figure; slots: 0 thing -/
def t_is_figure (K : PySem.W.Frag) (C : Ad) (E : XK) : TS :=
      (tRet (tAndV (tF (sp_is_whole K C) E (tCons (tVar 0) tNil)) (tChain qLe qLe (tUn qNeg (tC (.int 1))) (tVar 0) (tC (.int 1)))))
theorem r_is_figure (h : sp_is_figure K C vs H Q E) : t_is_figure K C E { nx := fun _ H' => Q .non H', rt := Q } (st 1 vs) H := by
  obtain ⟨x, n, rfl, hx, q⟩ := h
  unfold t_is_figure
  walk_at "st"
  walk_at "rd"
  refine ⟨x, n, rfl, hx, ?_⟩
  cases x with
  | int i =>
    refine ⟨true, rfl, ?_⟩
    walk_at "rd"
    by_cases c : -1 ≤ i
    · simpa [fgB, c] using q
    · simpa [fgB, c] using q
  | _ => exact ⟨false, rfl, q⟩
def sp_is_row (K : PySem.W.Frag) (C : Ad) : Sp := fun vs H Q _ => ∃ x b, vs = [x] ∧ RowB K H x b ∧ ∀ H', Same H H' → Q (.bl b) H'
/-- the reading of is_row; slots: 0 thing 1 one -/
def t_is_row (K : PySem.W.Frag) (C : Ad) (E : XK) : TS :=
      (tSeq (tIfS (tOr (tNot (tB (tCB (rIsi K) (tCons (tVar 0) (tCons (tC (.ty "list")) tNil))))) (tNot (tB (tCB (rAll K) (tCons (tLc (iList K (tVar 0)) (gName 1) tYes (tF (sp_is_figure K C) E0 (tCons (tVar 1) tNil)) [1]) tNil))))) (tRet (tC (.bl false))) tNext)
      (tRet (tOrV (tOp (rEqD K) (tVar 0) (tLst tNil)) (tOp rNe (tOp (rIxL K) (tVar 0) (tUn qNeg (tC (.int 1)))) (tC (.int 0))))))
theorem r_is_row (h : sp_is_row K C vs H Q E) : t_is_row K C E { nx := fun _ H' => Q .non H', rt := Q } (st 2 vs) H := by
  obtain ⟨x, b, rfl, hb, q⟩ := h
  unfold t_is_row
  walk_at "st"
  walk_at "rd"
  cases hb with
  | no hx hn =>
    refine isi_list hx ?_
    rw [decide_eq_false hn]
    walk_at "rd"
    exact q H (Same.refl H)
  | @lst a xs hx ht hz =>
    refine isi_list (th_sq hx) ?_
    rw [decide_eq_true rfl]
    walk_at "rd"
    refine ⟨.ref a, rfl, a, rfl, ⟨_, hx⟩, fun D hD => ?_⟩
    refine lc_list (K := K) (a := a) (xs := xs) (fun i H' => Same H H' ∧ H' D = some (.lst ((xs.take i).map fun y => V.bl (fgB y)))) ⟨Same.new hD, upd_same⟩ (fun i H' _ p => p.1.seq hx) (fun i y H' hi p => ?_) (fun H' p => ?_)
    · walk_at "rd"
      obtain ⟨n, hn⟩ := ht y (List.mem_of_getElem? hi)
      refine ⟨y, n, rfl, hn.same p.1, _, p.2, ?_, p.1.mut hD, ?_⟩
      · rw [List.length_map, List.length_take, sizeLine_is]; omega
      · rw [upd_same, take_snoc hi, List.map_append]; rfl
    · obtain ⟨p1, p2⟩ := p
      rw [List.take_length] at p2
      walk_at "rd"
      refine ⟨D, xs.map fgB, rfl, sq (by rw [p2, List.map_map]; rfl), ?_⟩
      walk_at "rd"
      have e1 : (xs.map fgB).all id = xs.all fgB := by rw [List.all_map]; rfl
      rw [e1]
      cases hall : xs.all fgB with
      | false =>
        walk_at "rd"
        have : rowV xs = false := by unfold rowV; rw [hall]; rfl
        rw [this] at q
        exact q H' p1
      | true =>
        walk_at "rd"
        obtain ⟨ns, rfl, hns⟩ := row_ints hall
        refine fun p hp => ?_
        have sp : Same H (upd H' p (.lst [])) := p1.add hp
        refine eqD_ints (ns := ns) (ms := []) (sp.seq hx) sq0 ?_
        walk_at "rd"
        have er : rowV (ns.map V.int) = (decide (ns = []) || !decide (ns.getLast? = some 0)) := by
          unfold rowV
          rw [hall, getLast_map]
          cases ns with
          | nil => rfl
          | cons z zs => cases e : (z :: zs).getLast? <;> simp
        rw [er] at q
        cases ns with
        | nil => 
          walk_at "rd"
          exact q _ sp
        | cons z zs =>
          rw [if_neg (List.cons_ne_nil _ _)]
          obtain ⟨w, hw⟩ : ∃ w, (z :: zs).getLast? = some w := ⟨_, List.getLast?_eq_some_getLast (List.cons_ne_nil z zs)⟩
          refine ⟨a, _, -1, .int w, rfl, rfl, sp.seq hx, ?_, ?_⟩
          · exact atI_end (by rw [getLast_map, hw]; rfl)
          · walk_at "rd"
            rw [hw] at q
            have := q _ sp
            simpa using this
def sp_need_row (K : PySem.W.Frag) (C : Ad) : Sp := fun vs H Q E => ∃ x b, vs = [x] ∧ RowB K H x b ∧ (b = true → ∀ H', Same H H' → Q .non H') ∧ (b = false → ∀ H', Same H H' → E (.ref C.NoRow) none H')
/-- the reading of need_row; slots: 0 thing -/
def t_need_row (K : PySem.W.Frag) (C : Ad) (E : XK) : TS :=
      (tIfS (tNot (tB (tF (sp_is_row K C) E (tCons (tVar 0) tNil)))) (tRaiseX C.NoRow E) tNext)
theorem r_need_row (h : sp_need_row K C vs H Q E) : t_need_row K C E { nx := fun _ H' => Q .non H', rt := Q } (st 1 vs) H := by
  obtain ⟨x, b, rfl, hb, q1, q2⟩ := h
  unfold t_need_row
  walk_at "st"
  walk_at "rd"
  refine ⟨x, b, rfl, hb, fun H' s => ?_⟩
  walk_at "rd"
  cases b with
  | true => exact q1 rfl H' s
  | false => exact q2 rfl H' s
/-! ### worth, weight, is_lean -/
/-- what a def promises that asks for a row: refused, or what is told of the row's figures -/
def rowSp (K : PySem.W.Frag) (C : Ad) (R : List Int → VK → Hp → Prop) : Sp := fun vs H Q E => ∃ x, vs = [x] ∧ ((RowB K H x false ∧ ∀ H', Same H H' → E (.ref C.NoRow) none H') ∨
  (∃ a ns, x = .ref a ∧ SqL K H a (ns.map V.int) ∧ Row ns ∧ ns.length ≤ 8000000 ∧ ∀ H', Same H H' → R ns Q H'))
def sp_worth (K : PySem.W.Frag) (C : Ad) : Sp := rowSp K C fun ns Q H => Q (.int (wl ns)) H
/-- the reading of worth; slots: 0 row 1 found 2 figure -/
def t_worth (K : PySem.W.Frag) (C : Ad) (E : XK) : TS :=
      (tSeq (tDrop (tF (sp_need_row K C) E (tCons (tVar 0) tNil)))
      (tSeq (tAsg (tC (.int 0)) (gName 1))
      (tSeq (tFor (iRev K (tCons (tVar 0) tNil)) (gName 2) (tAsg (tOp qAdd (tOp qMul (tC (.int 2)) (tVar 1)) (tVar 2)) (gName 1)))
      (tRet (tVar 1)))))
theorem r_worth (h : sp_worth K C vs H Q E) : t_worth K C E { nx := fun _ H' => Q .non H', rt := Q } (st 3 vs) H := by
  obtain ⟨x, rfl, h⟩ := h
  unfold t_worth
  walk_at "st"
  walk_at "rd"
  rcases h with ⟨hb, q1⟩ | ⟨a, ns, rfl, hx, hr, hz, q2⟩
  · exact ⟨x, false, rfl, hb, (fun e => by cases e), fun _ => q1⟩
  refine ⟨.ref a, true, rfl, RowB.row hx hr hz, fun _ H1 s1 => ?_, fun e => by cases e⟩
  walk_at "rd"
  refine f_rev (fun i σ H' => ∃ y, σ = [some (.ref a), some (.int (wl (ns.drop (ns.length - i)))), y] ∧ Same H H') rfl ⟨none, by simp [wl], s1⟩ (s1.seq hx) (fun i σ H' ⟨_, _, p⟩ => p.seq hx) (fun i x σ H' hi hlt ⟨y, e, p⟩ => ?_) (fun σ H' ⟨y, e, p⟩ => ?_)
  · subst e
    rw [List.length_map] at hi hlt
    obtain ⟨z, hz1, rfl⟩ := mapE hi
    walk_at "rd"
    refine ⟨some (.int z), ?_, p⟩
    have e1 : ns.length - (i + 1) = ns.length - 1 - i := by omega
    have e2 : ns.length - 1 - i + 1 = ns.length - i := by omega
    rw [e1, drop_at hz1, e2]
    simp only [wl]
    rw [Int.add_comm z]
  · subst e
    walk_at "rd"
    rw [List.length_map, Nat.sub_self, List.drop_zero]
    exact q2 H' p
/-- how many figures other than 0 -/
def wt (ns : List Int) : Nat := (ns.filter fun x => !decide (x = 0)).length
def sp_weight (K : PySem.W.Frag) (C : Ad) : Sp := rowSp K C fun ns Q H => Q (.int (wt ns : Nat)) H
/-- the reading of weight; slots: 0 row 1 figure -/
def t_weight (K : PySem.W.Frag) (C : Ad) (E : XK) : TS :=
      (tSeq (tDrop (tF (sp_need_row K C) E (tCons (tVar 0) tNil)))
      (tRet (tCB (qLen K) (tCons (tLc (iList K (tVar 0)) (gName 1) (tTest (tOp rNe (tVar 1) (tC (.int 0)))) (tVar 1) [1]) tNil))))
theorem r_weight (h : sp_weight K C vs H Q E) : t_weight K C E { nx := fun _ H' => Q .non H', rt := Q } (st 2 vs) H := by
  obtain ⟨x, rfl, h⟩ := h
  unfold t_weight
  walk_at "st"
  walk_at "rd"
  rcases h with ⟨hb, q1⟩ | ⟨a, ns, rfl, hx, hr, hz, q2⟩
  · exact ⟨x, false, rfl, hb, (fun e => by cases e), fun _ => q1⟩
  refine ⟨.ref a, true, rfl, RowB.row hx hr hz, fun _ H1 s1 => ?_, fun e => by cases e⟩
  walk_at "rd"
  refine ⟨.ref a, rfl, a, rfl, ⟨_, s1.seq hx⟩, fun D hD => ?_⟩
  refine lc_list (K := K) (a := a) (xs := ns.map V.int) (fun i H' => Same H1 H' ∧ H' D = some (.lst (((ns.take i).filter fun x => !decide (x = 0)).map V.int))) ⟨Same.new hD, upd_same⟩ (fun i H' _ p => p.1.seq (s1.seq hx)) (fun i y H' hi p => ?_) (fun H' p => ?_)
  · obtain ⟨z, hz1, rfl⟩ := mapE hi
    walk_at "rd"
    by_cases hz0 : z = 0
    · rw [if_pos hz0]
      refine ⟨p.1, ?_⟩
      rw [p.2, take_snoc hz1, List.filter_append]
      simp [hz0]
    · rw [if_neg hz0]
      refine ⟨_, p.2, ?_, p.1.mut hD, ?_⟩
      · rw [List.length_map, sizeLine_is]
        have := List.length_filter_le (fun x => !decide (x = 0)) (ns.take i)
        rw [List.length_take] at this
        omega
      · rw [upd_same, take_snoc hz1, List.filter_append, List.map_append]
        simp [hz0]
  · obtain ⟨p1, p2⟩ := p
    rw [List.length_map, List.take_length] at p2
    walk_at "rd"
    refine ⟨D, _, rfl, .inl (sq p2), ?_⟩
    rw [List.length_map]
    exact q2 H' (s1.trans p1)
/-- whether of each two neighbours one is 0 -/
def apB (ns : List Int) : Bool := (ns.zip (ns.drop 1)).all fun p => decide (p.1 = 0) || decide (p.2 = 0)
theorem apB_iff : ∀ ns : List Int, apB ns = true ↔ Apart ns
  | [] => by simp [apB, Apart]
  | [x] => by simp [apB, Apart]
  | x :: y :: r => by
    have ih := apB_iff (y :: r)
    have e : apB (x :: y :: r) = ((decide (x = 0) || decide (y = 0)) && apB (y :: r)) := by simp [apB]
    rw [e, Bool.and_eq_true, ih]
    simp [Apart]
def sp_is_lean (K : PySem.W.Frag) (C : Ad) : Sp := rowSp K C fun ns Q H => Q (.bl (apB ns)) H
/-- the reading of is_lean; slots: 0 row 1 one 2 other -/
def t_is_lean (K : PySem.W.Frag) (C : Ad) (E : XK) : TS :=
      (tSeq (tDrop (tF (sp_need_row K C) E (tCons (tVar 0) tNil)))
      (tRet (tCB (rAll K) (tCons (tLc (iZip K (tCons (tVar 0) (tCons (tSl (rSlL K) (tVar 0) (tPart (tC (.int 1))) tNoPart) tNil))) (gTup K 2 (gCons (gName 1) (gCons (gName 2) gNil))) tYes (tOrV (tOp rEq (tVar 1) (tC (.int 0))) (tOp rEq (tVar 2) (tC (.int 0)))) [1, 2]) tNil))))
theorem cut1 (xs : List V) : cutV xs (some 1) none = xs.drop 1 := by
  unfold cutV
  rw [show HT.sIx xs.length 0 (some 1) = min 1 xs.length from HT.sIx_nat xs.length 0 1, HT.sIx_none]
  cases xs with
  | nil => rfl
  | cons x r =>
    rw [show min 1 (x :: r).length = 1 by rw [List.length_cons]; omega]
    show (List.take ((x :: r).length - 1) r) = r
    rw [List.length_cons, Nat.add_sub_cancel]
    exact List.take_length
theorem r_is_lean (h : sp_is_lean K C vs H Q E) : t_is_lean K C E { nx := fun _ H' => Q .non H', rt := Q } (st 3 vs) H := by
  obtain ⟨x, rfl, h⟩ := h
  unfold t_is_lean
  walk_at "st"
  walk_at "rd"
  rcases h with ⟨hb, q1⟩ | ⟨a, ns, rfl, hx, hr, hz, q2⟩
  · exact ⟨x, false, rfl, hb, (fun e => by cases e), fun _ => q1⟩
  refine ⟨.ref a, true, rfl, RowB.row hx hr hz, fun _ H1 s1 => ?_, fun e => by cases e⟩
  walk_at "rd"
  refine ⟨.ref a, rfl, .ref a, rfl, 1, rfl, a, _, rfl, s1.seq hx, fun b hb' => ?_⟩
  rw [cut1]
  have sb : Same H1 (upd H1 b (.lst ((ns.map V.int).drop 1))) := Same.new hb'
  refine ⟨a, b, _, _, rfl, sb.seq (s1.seq hx), sq0, fun D hD => ?_⟩
  have hl : (ns.zip (ns.drop 1)).length = ns.length - 1 := by rw [List.length_zip, List.length_drop]; omega
  refine lc_any (ns.length - 1) (fun i H' => Same H1 H' ∧ H' b = some (.lst ((ns.map V.int).drop 1)) ∧ H' D = some (.lst (((ns.zip (ns.drop 1)).take i).map fun p => V.bl (decide (p.1 = 0) || decide (p.2 = 0))))) ⟨sb.add hD, ?_, upd_same⟩ ?_ ?_ ?_ ?_
  · rw [upd_ne (fun e => by rw [e, upd_same] at hD; cases hD), upd_same]
  · intro i H' hi p
    have hi' : i < (ns.map V.int).length := by rw [List.length_map]; omega
    have hi2 : i < ((ns.map V.int).drop 1).length := by rw [List.length_drop, List.length_map]; omega
    obtain ⟨u, hu⟩ := getE hi'
    obtain ⟨v, hv⟩ := getE hi2
    exact ⟨_, _, u, v, p.1.seq (s1.seq hx), sq p.2.1, hu, hv⟩
  · intro H' p
    refine ⟨_, _, p.1.seq (s1.seq hx), sq p.2.1, .inr ?_⟩
    rw [List.length_drop, List.length_map]; omega
  · rintro i H' hi ⟨p1, p2, p3⟩ w H2 ⟨T, u, v, rfl, nT, rfl, ku, kv⟩
    have hu := ku _ (p1.seq (s1.seq hx))
    have hv := kv _ (sq p2)
    rw [← List.map_drop] at hv
    obtain ⟨z1, hz1, rfl⟩ := mapE hu
    obtain ⟨z2, hz2, rfl⟩ := mapE hv
    walk_at "rd"
    refine ⟨_, sqt upd_same, rfl, ?_⟩
    walk_at "rd"
    have hg : (ns.zip (ns.drop 1))[i]? = some (z1, z2) := by rw [List.getElem?_zip_eq_some]; exact ⟨hz1, hz2⟩
    have nTD : D ≠ T := ne_of_none p3 nT
    have nTb : b ≠ T := ne_of_none p2 nT
    have go : ∀ c : Bool, c = (decide (z1 = 0) || decide (z2 = 0)) → ∃ acc, (upd H' T (.tup [.int z1, .int z2])) D = some (.lst acc) ∧ acc.length < sizeLine ∧
        Same H1 (upd (upd H' T (.tup [.int z1, .int z2])) D (.lst (acc ++ [.bl c]))) ∧ (upd (upd H' T (.tup [.int z1, .int z2])) D (.lst (acc ++ [.bl c]))) b = some (.lst ((ns.map V.int).drop 1)) ∧
        (upd (upd H' T (.tup [.int z1, .int z2])) D (.lst (acc ++ [.bl c]))) D = some (.lst (((ns.zip (ns.drop 1)).take (i + 1)).map fun p => V.bl (decide (p.1 = 0) || decide (p.2 = 0)))) := fun c hc => by
      refine ⟨_, by rw [upd_ne nTD]; exact p3, ?_, (p1.add nT).mut ?_, ?_, ?_⟩
      · rw [List.length_map, List.length_take, hl, sizeLine_is]; omega
      · exact sb.free hD
      · rw [upd_ne (fun e => by rw [e, upd_same] at hD; cases hD), upd_ne nTb]; exact p2
      · rw [upd_same, take_snoc hg, List.map_append, hc]; rfl
    by_cases c : z1 = 0
    · rw [if_pos c]
      exact go true (by simp [c])
    · rw [if_neg c]
      exact go _ (by simp [c])
  · rintro H' ⟨p1, p2, p3⟩
    rw [← hl, List.take_length] at p3
    walk_at "rd"
    refine ⟨D, (ns.zip (ns.drop 1)).map fun p => decide (p.1 = 0) || decide (p.2 = 0), rfl, sq (by rw [p3, List.map_map]; rfl), ?_⟩
    have e1 : ((ns.zip (ns.drop 1)).map fun p => decide (p.1 = 0) || decide (p.2 = 0)).all id = apB ns := by rw [List.all_map]; rfl
    rw [e1]
    exact q2 H' (s1.trans p1)
/-! ### need_number, lean -/
def sp_need_number (K : PySem.W.Frag) (C : Ad) : Sp := fun vs H Q E => ∃ x n, vs = [x] ∧ Th K H x n ∧ (wh x = true → Q .non H) ∧ (wh x = false → E (.ref C.NoNumber) none H)
/-- the reading of need_number; slots: 0 thing -/
def t_need_number (K : PySem.W.Frag) (C : Ad) (E : XK) : TS :=
      (tIfS (tNot (tB (tF (sp_is_whole K C) E (tCons (tVar 0) tNil)))) (tRaiseX C.NoNumber E) tNext)
theorem r_need_number (h : sp_need_number K C vs H Q E) : t_need_number K C E { nx := fun _ H' => Q .non H', rt := Q } (st 1 vs) H := by
  obtain ⟨x, n, rfl, hx, q1, q2⟩ := h
  unfold t_need_number
  walk_at "st"
  walk_at "rd"
  refine ⟨x, n, rfl, hx, ?_⟩
  walk_at "rd"
  cases e : wh x with
  | true => exact q1 e
  | false => exact q2 e
theorem wh_int {x : V} (h : wh x = true) : ∃ i, x = .int i := by
  cases x with
  | int i => exact ⟨i, rfl⟩
  | _ => cases h
def sp_lean (K : PySem.W.Frag) (C : Ad) : Sp := fun vs H Q E => ∃ x n, vs = [x] ∧ Th K H x n ∧ (wh x = false → E (.ref C.NoNumber) none H) ∧
  (∀ i, x = .int i → (naf i).length < 16777216 ∧ ∀ H' p, Same H H' → H p = none → H' p = some (.lst ((naf i).map V.int)) → Q (.ref p) H')
/-- the reading of lean; slots: 0 number 1 left 2 found 3 figure -/
def t_lean (K : PySem.W.Frag) (C : Ad) (E : XK) : TS :=
      (tSeq (tDrop (tF (sp_need_number K C) E (tCons (tVar 0) tNil)))
      (tSeq (tAsg (tVar 0) (gName 1))
      (tSeq (tAsg (tLst tNil) (gName 2))
      (tSeq (tWhile (tTest (tOp rNe (tVar 1) (tC (.int 0)))) (tSeq (tAsg (tC (.int 0)) (gName 3))
      (tSeq (tIfS (tTest (tOp rNe (tOp qMod (tVar 1) (tC (.int 2))) (tC (.int 0)))) (tAsg (tOp qSub (tC (.int 2)) (tOp qMod (tVar 1) (tC (.int 4)))) (gName 3)) tNext)
      (tSeq (tDrop (tBM K "list" rAppend (tVar 2) (tCons (tVar 3) tNil)))
      (tAsg (tOp qDiv (tOp qSub (tVar 1) (tVar 3)) (tC (.int 2))) (gName 1))))))
      (tRet (tVar 2))))))
theorem r_lean (h : sp_lean K C vs H Q E) : t_lean K C E { nx := fun _ H' => Q .non H', rt := Q } (st 4 vs) H := by
  obtain ⟨x, n, rfl, hx, q1, q2⟩ := h
  unfold t_lean
  walk_at "st"
  walk_at "rd"
  refine ⟨x, n, rfl, hx, fun e => ?_, q1⟩
  obtain ⟨i, rfl⟩ := wh_int e
  obtain ⟨hz, q⟩ := q2 i rfl
  walk_at "rd"
  refine fun p hp => ?_
  refine f_while (fun m σ H' => ∃ k y, σ = [some (.int i), some (.int (rst i k)), some (.ref p), y] ∧ m = (rst i k).natAbs ∧ Same H H' ∧ H' p = some (.lst ((figs i k).map V.int)) ∧ k ≤ (naf i).length) i.natAbs (by walk_at "mono") ⟨0, none, rfl, rfl, Same.new hp, upd_same, Nat.zero_le _⟩ ?_
  rintro m σ H' ⟨k, y, rfl, rfl, p1, p2, p4⟩
  walk_at "rd"
  by_cases h0 : rst i k = 0
  · rw [if_pos h0]
    rw [figs_done h0 p4] at p2
    exact q H' p p1 hp p2
  · rw [if_neg h0]
    have hk := rst_long k i h0
    have go : ∀ f : Int, f = fig (rst i k) → tyV K "list" (.ref p) H' ∧ rAppend (.ref p) [.int f] H' fun x H1 => CDiv (rst i k - f) 2 ∧ ∃ m', m' < (rst i k).natAbs ∧ ∃ k_1 y, [some (V.int i), some (.int ((rst i k - f) / 2)), some (.ref p), some (.int f)] = [some (V.int i), some (.int (rst i k_1)), some (.ref p), y] ∧
        m' = (rst i k_1).natAbs ∧ Same H H1 ∧ H1 p = some (.lst ((figs i k_1).map V.int)) ∧ k_1 ≤ (naf i).length := fun f hf => by
      refine ⟨.inl ⟨rfl, _, sq p2⟩, p, _, _, rfl, rfl, p2, ?_, ⟨by decide, by decide⟩, (rst i (k + 1)).natAbs, ?_, k + 1, some (.int f), ?_, rfl, p1.mut hp, ?_, hk⟩
      · rw [List.length_map, figs_len, sizeLine_is]; omega
      · rw [rst_snoc]; exact nxt_lt h0
      · rw [rst_snoc, hf]; rfl
      · rw [upd_same, figs_snoc, List.map_append, hf]; rfl
    walk_at "rd"
    by_cases h2 : rst i k % 2 = 0
    · rw [if_pos h2]
      obtain ⟨g1, g2⟩ := go 0 (by unfold fig; rw [if_neg (by simpa using h2)])
      refine ⟨g1, ?_⟩
      simpa only [Lf.r_cdiv, Int.reduceLT, and_self, true_and] using g2
    · rw [if_neg h2]
      obtain ⟨g1, g2⟩ := go _ (by unfold fig; rw [if_pos h2])
      refine ⟨g1, ?_⟩
      simpa only [Lf.r_cdiv, Int.reduceLT, and_self, true_and] using g2
end
end Lf

namespace Lf
open PySem PySem.Spec L2
open PyProof.Rows hiding St
section
variable {K : PySem.W.Frag} {C : Ad} {vs : List V} {H : Hp} {Q : VK} {E : XK}
/-! ### the law's own helpers: a cell, a number mixed of it -/
def cellAt (ns : List Int) (k : Int) : Int := ns.getD k.toNat 0
def sp__law_cell_at (K : PySem.W.Frag) (C : Ad) : Sp := fun vs H Q _ => ∃ (a : Addr) (ns : List Int) (k : Int), vs = [.ref a, .int k] ∧ SqL K H a (ns.map V.int) ∧ 0 ≤ k ∧ Q (.int (cellAt ns k)) H
/-- the reading of _law_cell_at; slots: 0 _law_script 1 _law_k -/
def t__law_cell_at (K : PySem.W.Frag) (C : Ad) (E : XK) : TS :=
      (tSeq (tIfS (tTest (tOp qLt (tVar 1) (tCB (qLen K) (tCons (tVar 0) tNil)))) (tRet (tOp (rIxL K) (tVar 0) (tVar 1))) tNext)
      (tRet (tC (.int 0))))
theorem r__law_cell_at (h : sp__law_cell_at K C vs H Q E) : t__law_cell_at K C E { nx := fun _ H' => Q .non H', rt := Q } (st 2 vs) H := by
  obtain ⟨a, ns, k, rfl, hx, h0, q⟩ := h
  unfold t__law_cell_at
  walk_at "st"
  walk_at "rd"
  refine ⟨a, _, rfl, .inl hx, ?_⟩
  walk_at "rd"
  rw [List.length_map]
  by_cases c : k < (ns.length : Int)
  · rw [if_pos c]
    obtain ⟨z, hz⟩ := getE (show k.toNat < ns.length by omega)
    refine ⟨a, _, k, .int z, rfl, rfl, hx, atI_at (j := k.toNat) (by omega) (by rw [List.getElem?_map, hz]; rfl), ?_⟩
    unfold cellAt at q
    rw [List.getD_eq_getElem?_getD, hz] at q
    exact q
  · rw [if_neg c]
    unfold cellAt at q
    rw [List.getD_eq_getElem?_getD, List.getElem?_eq_none (by omega)] at q
    exact q
def mixed (c k : Int) : Int := (c % 1000000007 + 1) * 48271 % 2147483647 * (16807 + 7919 * k * k + 31 * k) % 2147483629 / 7
theorem mixed_nn (c k : Int) : 0 ≤ mixed c k := by unfold mixed; omega
theorem mixed_lt (c k : Int) : mixed c k < 2147483629 := by unfold mixed; omega
def sp__law_mixed (K : PySem.W.Frag) (C : Ad) : Sp := fun vs H Q _ => ∃ c k : Int, vs = [.int c, .int k] ∧ 0 ≤ k ∧ k ≤ 100 ∧ Q (.int (mixed c k)) H
/-- the reading of _law_mixed; slots: 0 _law_cell 1 _law_k 2 _law_number_here -/
def t__law_mixed (K : PySem.W.Frag) (C : Ad) (E : XK) : TS :=
      (tSeq (tAsg (tOp qMod (tOp qMul (tOp qAdd (tOp qMod (tVar 0) (tC (.int 1000000007))) (tC (.int 1))) (tC (.int 48271))) (tC (.int 2147483647))) (gName 2))
      (tRet (tOp qDiv (tOp qMod (tOp qMul (tVar 2) (tOp qAdd (tOp qAdd (tC (.int 16807)) (tOp qMul (tOp qMul (tC (.int 7919)) (tVar 1)) (tVar 1))) (tOp qMul (tC (.int 31)) (tVar 1)))) (tC (.int 2147483629))) (tC (.int 7)))))
theorem r__law_mixed (h : sp__law_mixed K C vs H Q E) : t__law_mixed K C E { nx := fun _ H' => Q .non H', rt := Q } (st 3 vs) H := by
  obtain ⟨c, k, rfl, h0, h1, q⟩ := h
  unfold t__law_mixed
  walk_at "st"
  walk_at "rd"
  exact ⟨by omega, by omega, q⟩
def sp__law_whole (K : PySem.W.Frag) (C : Ad) : Sp := fun vs H Q _ => ∃ x n, vs = [x] ∧ Th K H x n ∧ Q (.bl (wh x)) H
/-- the reading of _law_whole; slots: 0 _law_found -/
def t__law_whole (K : PySem.W.Frag) (C : Ad) (E : XK) : TS :=
      (tRet (tAndV (tCB (rIsi K) (tCons (tVar 0) (tCons (tC (.ty "int")) tNil))) (tNotV (tCB (rIsi K) (tCons (tVar 0) (tCons (tC (.ty "bool")) tNil))))))
theorem r__law_whole (h : sp__law_whole K C vs H Q E) : t__law_whole K C E { nx := fun _ H' => Q .non H', rt := Q } (st 1 vs) H := by
  obtain ⟨x, n, rfl, hx, q⟩ := h
  unfold t__law_whole
  walk_at "st"
  walk_at "rd"
  rw [hx.wh] at q
  refine isi_int hx ?_
  walk_at "rd"
  rcases nm_cases hx.nm with e | e | e | e | e | e | e <;> subst e <;> simp at q ⊢ <;> first | exact q | (refine isi_bool hx ?_; simpa using q)
/-! ### a number of a cell -/
def num (c : Int) : Int :=
  [c / 8 % 23 - 11, 2 ^ (c / 8 / 9 % 200).toNat + c / 8 % 9 - 4, 2 ^ (c / 8 / 9 % 200).toNat / 3 + c / 8 % 5 - 2, 0 - 2 ^ (c / 8 / 9 % 200).toNat + c / 8 % 9 - 4,
    c / 8 * 48271 % (2 * 10 ^ 60 + 1) - 10 ^ 60, c / 8 * 48271 % (2 * 10 ^ 60 + 1) - 10 ^ 60, c % (2 * 10 ^ 60 + 1) - 10 ^ 60, c / 8 % 2000001 - 1000000].getD (c % 8).toNat 0
def sp__law_number (K : PySem.W.Frag) (C : Ad) : Sp := fun vs H Q _ => ∃ c : Int, vs = [.int c] ∧ ∀ H', Same H H' → Q (.int (num c)) H'
/-- the reading of _law_number; slots: 0 _law_cell 1 _law_more 2 _law_power 3 _law_turn 4 _law_some 5 _law_wide -/
def t__law_number (K : PySem.W.Frag) (C : Ad) (E : XK) : TS :=
      (tSeq (tAsg (tOp qDiv (tVar 0) (tC (.int 8))) (gName 1))
      (tSeq (tAsg (tC (.int 1)) (gName 2))
      (tSeq (tFor (iRng1 (tCons (tOp qMod (tOp qDiv (tVar 1) (tC (.int 9))) (tC (.int 200))) tNil)) (gName 3) (tAsg (tOp qMul (tVar 2) (tC (.int 2))) (gName 2)))
      (tSeq (tAsg (tLst (tCons (tOp qSub (tOp qMod (tVar 1) (tC (.int 23))) (tC (.int 11))) (tCons (tOp qSub (tOp qAdd (tVar 2) (tOp qMod (tVar 1) (tC (.int 9)))) (tC (.int 4))) (tCons (tOp qSub (tOp qAdd (tOp qDiv (tVar 2) (tC (.int 3))) (tOp qMod (tVar 1) (tC (.int 5)))) (tC (.int 2))) (tCons (tOp qSub (tOp qAdd (tOp qSub (tC (.int 0)) (tVar 2)) (tOp qMod (tVar 1) (tC (.int 9)))) (tC (.int 4))) tNil))))) (gName 4))
      (tSeq (tAsg (tOp qSub (tOp qMod (tOp qMul (tVar 1) (tC (.int 48271))) (tOp qAdd (tOp qMul (tC (.int 2)) (tOp qPow (tC (.int 10)) (tC (.int 60)))) (tC (.int 1)))) (tOp qPow (tC (.int 10)) (tC (.int 60)))) (gName 5))
      (tRet (tOp (rIxL K) (tOp (qCat K) (tVar 4) (tLst (tCons (tVar 5) (tCons (tVar 5) (tCons (tOp qSub (tOp qMod (tVar 0) (tOp qAdd (tOp qMul (tC (.int 2)) (tOp qPow (tC (.int 10)) (tC (.int 60)))) (tC (.int 1)))) (tOp qPow (tC (.int 10)) (tC (.int 60)))) (tCons (tOp qSub (tOp qMod (tVar 1) (tC (.int 2000001))) (tC (.int 1000000))) tNil)))))) (tOp qMod (tVar 0) (tC (.int 8))))))))))
theorem r__law_number (h : sp__law_number K C vs H Q E) : t__law_number K C E { nx := fun _ H' => Q .non H', rt := Q } (st 6 vs) H := by
  obtain ⟨c, rfl, q⟩ := h
  unfold t__law_number
  walk_at "st"
  walk_at "rd"
  refine f_range (n := c / 8 / 9 % 200) (fun i σ H' => ∃ y, σ = [some (.int c), some (.int (c / 8)), some (.int (2 ^ i)), y, none, none] ∧ H' = H) (by walk_at "mono") ?_ (by omega) ⟨none, rfl, rfl⟩ (fun i σ H' hi ⟨y, e, e2⟩ => ?_) (fun σ H' ⟨y, e, e2⟩ => ?_)
  · walk_at "rd"
  · subst e e2
    walk_at "rd"
    exact ⟨_, by rw [Int.pow_succ]⟩
  · subst e e2
    walk_at "rd"
    intro p hp p1 hp1
    refine ⟨p, p1, _, _, rfl, rfl, sq (by rw [upd_ne (ne_of_none upd_same hp1)]; exact upd_same), sq0, by rw [sizeLine_is]; simp, fun p2 hp2 => ?_⟩
    walk_at "rd"
    have h8 : 0 ≤ c % 8 ∧ c % 8 < 8 := by omega
    refine ⟨p2, _, _, .int (num c), rfl, rfl, sq0, ?_, q _ (((Same.new hp).add hp1).add hp2)⟩
    generalize hk : c % 8 = k at h8
    have hk' : k = 0 ∨ k = 1 ∨ k = 2 ∨ k = 3 ∨ k = 4 ∨ k = 5 ∨ k = 6 ∨ k = 7 := by omega
    unfold num
    rw [hk]
    rcases hk' with e | e | e | e | e | e | e | e <;> subst e <;> rfl
theorem num_lt (c : Int) : (num c).natAbs < 2 ^ 210 := by
  have hp : ∀ e : Nat, e < 200 → (0 : Int) < 2 ^ e ∧ (2 : Int) ^ e < 2 ^ 200 := fun e he => ⟨Int.pow_pos (by decide), by
    have : (2:Nat) ^ e < 2 ^ 200 := Nat.pow_lt_pow_right (by decide) he
    exact_mod_cast this⟩
  obtain ⟨h1, h2⟩ := hp (c / 8 / 9 % 200).toNat (by omega)
  have e200 : (2:Int) ^ 200 = 1606938044258990275541962092341162602522202993782792835301376 := by decide
  have e210 : (2:Nat) ^ 210 = 1645504557321206042154969182557350504982735865633579863348609024 := by decide
  have e60 : (10:Int) ^ 60 = 1000000000000000000000000000000000000000000000000000000000000 := by decide
  unfold num
  rw [e60, e210]
  rw [e200] at h2
  have h8 : 0 ≤ c % 8 ∧ c % 8 < 8 := by omega
  generalize c % 8 = k at h8
  have hk' : k = 0 ∨ k = 1 ∨ k = 2 ∨ k = 3 ∨ k = 4 ∨ k = 5 ∨ k = 6 ∨ k = 7 := by omega
  rcases hk' with e | e | e | e | e | e | e | e <;> subst e <;> simp only [List.getD_cons_succ, List.getD_cons_zero, Int.reduceToNat] <;> omega
/-! ### what a row is worth, whether it is lean, by the law's own going -/
def sp__law_worth (K : PySem.W.Frag) (C : Ad) : Sp := fun vs H Q _ => ∃ (a : Addr) (ns : List Int), vs = [.ref a] ∧ SqL K H a (ns.map V.int) ∧ (∀ x ∈ ns, Fg x) ∧ Q (.int (wl ns)) H
/-- the reading of _law_worth; slots: 0 _law_row_here 1 _law_found 2 _law_power 3 _law_figure -/
def t__law_worth (K : PySem.W.Frag) (C : Ad) (E : XK) : TS :=
      (tSeq (tAsg (tC (.int 0)) (gName 1))
      (tSeq (tAsg (tC (.int 1)) (gName 2))
      (tSeq (tFor (iList K (tVar 0)) (gName 3) (tSeq (tAsg (tOp qAdd (tVar 1) (tOp qMul (tVar 3) (tVar 2))) (gName 1))
      (tAsg (tOp qMul (tVar 2) (tC (.int 2))) (gName 2))))
      (tRet (tVar 1)))))
theorem r__law_worth (h : sp__law_worth K C vs H Q E) : t__law_worth K C E { nx := fun _ H' => Q .non H', rt := Q } (st 4 vs) H := by
  obtain ⟨a, ns, rfl, hx, hf, q⟩ := h
  unfold t__law_worth
  walk_at "st"
  walk_at "rd"
  refine f_list (fun i σ H' => ∃ y, σ = [some (.ref a), some (.int (wl (ns.take i))), some (.int (2 ^ i)), y] ∧ H' = H) rfl ⟨none, rfl, rfl⟩ hx (fun i σ H' ⟨_, _, e⟩ => e ▸ hx) (fun i x σ H' hi hlt ⟨y, e, e2⟩ => ?_) (fun σ H' ⟨y, e, e2⟩ => ?_)
  · subst e e2
    obtain ⟨z, hz, rfl⟩ := mapE hi
    have hz1 := hf z (List.mem_of_getElem? hz)
    walk_at "rd"
    have hlen : (ns.take i).length = i := by
      rw [List.length_map] at hlt
      rw [List.length_take]; omega
    refine ⟨.inl (by unfold Fg at hz1; omega), some (.int z), ?_⟩
    rw [take_snoc hz, wl_append, hlen, Int.pow_succ]
    simp only [wl]
    rw [Int.mul_comm z]; simp
  · subst e e2
    walk_at "rd"
    rw [List.length_map, List.take_length]
    exact q
theorem cut_last (xs : List V) : cutV xs (some (-1)) none = xs.drop (xs.length - 1) := by
  unfold cutV
  rw [HT.sIx_none, show HT.sIx xs.length 0 (some (-1)) = xs.length - 1 by
    show (if (-1 : Int) < 0 then ((-1 : Int) + (xs.length : Int)).toNat else min (-1 : Int).toNat xs.length) = xs.length - 1
    rw [if_pos (by decide)]; omega]
  exact List.take_of_length_le (by rw [List.length_drop]; omega)
theorem apB_at (ns : List Int) : apB ns = true ↔ ∀ (j : Nat) (x y : Int), ns[j]? = some x → ns[j + 1]? = some y → x = 0 ∨ y = 0 := by
  unfold apB
  rw [List.all_eq_true]
  constructor
  · intro h j x y hx hy
    have e : (ns.zip (ns.drop 1))[j]? = some (x, y) := by
      rw [List.getElem?_zip_eq_some, List.getElem?_drop, Nat.add_comm 1 j]; exact ⟨hx, hy⟩
    have := h _ (List.mem_of_getElem? e)
    simpa using this
  · intro h p hp
    obtain ⟨j, hj⟩ := List.mem_iff_getElem?.mp hp
    rw [List.getElem?_zip_eq_some, List.getElem?_drop, Nat.add_comm 1 j] at hj
    have := h j p.1 p.2 hj.1 hj.2
    simpa using this
def sp__law_is_lean (K : PySem.W.Frag) (C : Ad) : Sp := fun vs H Q _ => ∃ (a : Addr) (ns : List Int), vs = [.ref a] ∧ SqL K H a (ns.map V.int) ∧ Row ns ∧ ns.length ≤ 8000000 ∧ ∀ H', Same H H' → Q (.bl (apB ns)) H'
/-- the reading of _law_is_lean; slots: 0 _law_row_here 1 _law_k -/
def t__law_is_lean (K : PySem.W.Frag) (C : Ad) (E : XK) : TS :=
      (tSeq (tIfS (tOr (tNot (tB (tCB (rIsi K) (tCons (tVar 0) (tCons (tC (.ty "list")) tNil))))) (tTest (tOp (rEqD K) (tSl (rSlL K) (tVar 0) (tPart (tUn qNeg (tC (.int 1)))) tNoPart) (tLst (tCons (tC (.int 0)) tNil))))) (tRet (tC (.bl false))) tNext)
      (tSeq (tFor (iRng1 (tCons (tCB (qLen K) (tCons (tVar 0) tNil)) tNil)) (gName 1) (tIfS (tOr (tNot (tB (tF (sp__law_whole K C) E (tCons (tOp (rIxL K) (tVar 0) (tVar 1)) tNil)))) (tOr (tTest (tOp (rIn K true) (tOp (rIxL K) (tVar 0) (tVar 1)) (tTup (tCons (tUn qNeg (tC (.int 1))) (tCons (tC (.int 0)) (tCons (tC (.int 1)) tNil)))))) (tAnd (tTest (tOp qGt (tVar 1) (tC (.int 0)))) (tAnd (tTest (tOp rNe (tOp (rIxL K) (tVar 0) (tVar 1)) (tC (.int 0)))) (tTest (tOp rNe (tOp (rIxL K) (tVar 0) (tOp qSub (tVar 1) (tC (.int 1)))) (tC (.int 0)))))))) (tRet (tC (.bl false))) tNext))
      (tRet (tC (.bl true)))))
theorem last_one {ns : List Int} (h : Row ns) : ns.drop (ns.length - 1) ≠ [0] := fun e => h.last (by
  have hne : ns ≠ [] := fun z => by rw [z] at e; cases e
  have e2 := List.getLast?_eq_getElem? (l := ns)
  have e3 : (ns.drop (ns.length - 1))[0]? = ns[ns.length - 1]? := by rw [List.getElem?_drop]; rfl
  rw [e2, ← e3, e]; rfl)
theorem fg_in {z : Int} {K : PySem.W.Frag} {H : Hp} {p : Addr} {Q : VK} (hz : Fg z) (hp : H p = some (.tup [.int (-1), .int 0, .int 1])) (q : Q (.bl false) H) : rIn K true (.int z) (.ref p) H Q := by
  refine ⟨p, _, rfl, .inr (sqt hp), rfl, rfl, ?_⟩
  rcases hz with rfl | rfl | rfl <;> exact q
theorem r__law_is_lean (h : sp__law_is_lean K C vs H Q E) : t__law_is_lean K C E { nx := fun _ H' => Q .non H', rt := Q } (st 2 vs) H := by
  obtain ⟨a, ns, rfl, hx, hr, hz, q⟩ := h
  unfold t__law_is_lean
  walk_at "st"
  walk_at "rd"
  refine isi_list (th_sq hx) ?_
  rw [decide_eq_true rfl]
  walk_at "rd"
  refine ⟨a, _, rfl, hx, ?_⟩
  rw [cut_last, ← List.map_drop, List.length_map]
  intro p hp p2 hp2
  have s2 := ((Same.new hp).add hp2 : Same H (upd (upd H p (.lst ((ns.drop (ns.length - 1)).map V.int))) p2 (.lst [.int 0])))
  refine eqD_ints (ns := ns.drop (ns.length - 1)) (ms := [0]) (sq (by rw [upd_ne (ne_of_none upd_same hp2)]; exact upd_same)) sq0 ?_
  walk_at "rd"
  rw [if_neg (last_one hr)]
  generalize (upd (upd H p (.lst ((ns.drop (ns.length - 1)).map V.int))) p2 (.lst [.int 0])) = H2 at s2
  refine f_range (n := (ns.length : Int)) (fun i σ H' => ∃ y, σ = [some (.ref a), y] ∧ Same H H' ∧ ∀ (j : Nat) (x y : Int), j + 1 < i → ns[j]? = some x → ns[j + 1]? = some y → x = 0 ∨ y = 0) (by walk_at "mono") ?_ (by omega) ⟨none, rfl, s2, fun j x y h => absurd h (by omega)⟩ (fun i σ H' hi ⟨y, e, p1, p2⟩ => ?_) (fun σ H' ⟨y, e, p1, p2⟩ => ?_)
  · walk_at "rd"
    exact ⟨a, _, rfl, .inl (s2.seq hx), by rw [List.length_map], rfl⟩
  · subst e
    obtain ⟨z, hz1⟩ := getE (show i < ns.length by omega)
    have hz2 : (ns.map V.int)[i]? = some (.int z) := by rw [List.getElem?_map, hz1]; rfl
    have hzf := hr.fg z (List.mem_of_getElem? hz1)
    walk_at "rd"
    refine ⟨a, _, _, .int z, rfl, rfl, p1.seq hx, atI_nat hz2, .int z, "int", rfl, th_int, ?_⟩
    rw [show wh (.int z) = true from rfl]
    walk_at "rd"
    refine ⟨a, _, _, .int z, rfl, rfl, p1.seq hx, atI_nat hz2, ?_⟩
    walk_at "rd"
    intro t ht
    have p3 : Same H (upd H' t (.tup [.int (-1), .int 0, .int 1])) := p1.add ht
    refine fg_in hzf upd_same ?_
    walk_at "rd"
    generalize (upd H' t (.tup [.int (-1), .int 0, .int 1])) = H3 at p3
    have bad : ∀ y : Option V, (∀ (x y : Int) (j : Nat), i = j + 1 → ns[j]? = some x → ns[j + 1]? = some y → x = 0 ∨ y = 0) → ∃ y_1, [some (V.ref a), y] = [some (V.ref a), y_1] ∧ Same H H3 ∧ ∀ (j : Nat) (x y : Int), j + 1 < i + 1 → ns[j]? = some x → ns[j + 1]? = some y → x = 0 ∨ y = 0 := fun y hg =>
      ⟨y, rfl, p3, fun j x y hj hx hy => by
        by_cases c : j + 1 < i
        · exact p2 j x y c hx hy
        · exact hg x y j (by omega) hx hy⟩
    by_cases c0 : (0 : Int) < (i : Int)
    · rw [if_pos c0]
      refine ⟨a, _, _, .int z, rfl, rfl, p3.seq hx, atI_nat hz2, ?_⟩
      walk_at "rd"
      by_cases cz : z = 0
      · rw [if_pos cz]
        exact bad _ fun x y j hj hx hy => by
          rw [← hj] at hy; rw [hy] at hz1; cases hz1; exact .inr cz
      · rw [if_neg cz]
        obtain ⟨w, hw1⟩ := getE (show i - 1 < ns.length by omega)
        have hw2 : (ns.map V.int)[i - 1]? = some (.int w) := by rw [List.getElem?_map, hw1]; rfl
        refine ⟨a, _, _, .int w, rfl, rfl, p3.seq hx, atI_at (j := i - 1) (by omega) hw2, ?_⟩
        walk_at "rd"
        by_cases cw : w = 0
        · rw [if_pos cw]
          exact bad _ fun x y j hj hx hy => by
            have : i - 1 = j := by omega
            rw [this] at hw1; rw [hx] at hw1; cases hw1; exact .inl cw
        · rw [if_neg cw]
          have hb : apB ns = false := by
            cases hc : apB ns with
            | false => rfl
            | true =>
              have := (apB_at ns).mp hc (i - 1) w z hw1 (by rw [show i - 1 + 1 = i by omega]; exact hz1)
              rcases this with e | e
              · exact absurd e cw
              · exact absurd e cz
          rw [hb] at q
          exact q H3 p3
    · rw [if_neg c0]
      exact bad _ fun x y j hj => by omega
  · subst e
    walk_at "rd"
    have hb : apB ns = true := (apB_at ns).mpr fun j x y hx hy => p2 j x y (by
      obtain ⟨h1, _⟩ := List.getElem?_eq_some_iff.mp hy
      omega) hx hy
    rw [hb] at q
    exact q H' p1
/-- a list that is the lean row of a number -/
def sp__law_is_row_for (K : PySem.W.Frag) (C : Ad) : Sp := fun vs H Q _ => ∃ (a : Addr) (ns : List Int) (n : Int), vs = [.ref a, .int n] ∧ SqL K H a (ns.map V.int) ∧ LeanR ns ∧ n = wl ns ∧ ns.length ≤ 8000000 ∧ ∀ H', Same H H' → Q (.bl true) H'
/-- the reading of _law_is_row_for; slots: 0 _law_row_here 1 _law_number_here -/
def t__law_is_row_for (K : PySem.W.Frag) (C : Ad) (E : XK) : TS :=
      (tRet (tAndV (tF (sp__law_is_lean K C) E (tCons (tVar 0) tNil)) (tOp rEq (tF (sp__law_worth K C) E (tCons (tVar 0) tNil)) (tVar 1))))
theorem r__law_is_row_for (h : sp__law_is_row_for K C vs H Q E) : t__law_is_row_for K C E { nx := fun _ H' => Q .non H', rt := Q } (st 2 vs) H := by
  obtain ⟨a, ns, n, rfl, hx, hr, hn, hz, q⟩ := h
  unfold t__law_is_row_for
  walk_at "st"
  walk_at "rd"
  refine ⟨a, ns, rfl, hx, hr.toRow, hz, fun H' s => ?_⟩
  rw [(apB_iff ns).mpr hr.ap]
  walk_at "rd"
  refine ⟨a, ns, rfl, s.seq hx, hr.fg, ?_⟩
  walk_at "rd"
  rw [← hn, decide_eq_true rfl]
  exact q H' s
/-- a number of eleven hundred places -/
def great (c : Int) : Int := 2 ^ 1100 / 3 + c
def sp__law_great (K : PySem.W.Frag) (C : Ad) : Sp := fun vs H Q _ => ∃ c : Int, vs = [.int c] ∧ Q (.int (great c)) H
/-- the reading of _law_great; slots: 0 _law_cell 1 _law_power 2 _law_turn -/
def t__law_great (K : PySem.W.Frag) (C : Ad) (E : XK) : TS :=
      (tSeq (tAsg (tC (.int 1)) (gName 1))
      (tSeq (tFor (iRng1 (tCons (tC (.int 1100)) tNil)) (gName 2) (tAsg (tOp qMul (tVar 1) (tC (.int 2))) (gName 1)))
      (tRet (tOp qAdd (tOp qDiv (tVar 1) (tC (.int 3))) (tVar 0)))))
theorem r__law_great (h : sp__law_great K C vs H Q E) : t__law_great K C E { nx := fun _ H' => Q .non H', rt := Q } (st 3 vs) H := by
  obtain ⟨c, rfl, q⟩ := h
  unfold t__law_great
  walk_at "st"
  walk_at "rd"
  refine f_range (n := 1100) (fun i σ H' => ∃ y, σ = [some (.int c), some (.int (2 ^ i)), y] ∧ H' = H) (by walk_at "mono") ?_ (by omega) ⟨none, rfl, rfl⟩ (fun i σ H' hi ⟨y, e, e2⟩ => ?_) (fun σ H' ⟨y, e, e2⟩ => ?_)
  · walk_at "rd"
  · subst e e2
    walk_at "rd"
    exact ⟨some (.int i), by rw [Int.pow_succ]⟩
  · subst e e2
    walk_at "rd"
    exact q
theorem great_lt {c : Int} {k : Nat} (h : c.natAbs < 2 ^ k) (hk : k ≤ 1100) : (great c).natAbs < 2 ^ 1101 := by
  have h1 : (2 : Nat) ^ k ≤ 2 ^ 1100 := Nat.pow_le_pow_right (by decide) hk
  have h2 : (2 : Nat) ^ 1101 = 2 * 2 ^ 1100 := by rw [Nat.pow_succ, Nat.mul_comm]
  have h3 : ((2 : Int) ^ 1100) = ((2 ^ 1100 : Nat) : Int) := by norm_cast
  unfold great
  rw [h3, h2]
  generalize (2 : Nat) ^ 1100 = p at *
  omega
end
end Lf

namespace Lf
open PySem PySem.Spec L2
open PyProof.Rows hiding St
section
variable {K : PySem.W.Frag} {C : Ad} {vs : List V} {H : Hp} {Q : VK} {E : XK}
/-! ### settled, laid over -/
/-- a new list of whole numbers -/
def newL (H : Hp) (ns : List Int) (Q : VK) : Prop := ∀ H' p, Same H H' → H p = none → H' p = some (.lst (ns.map V.int)) → Q (.ref p) H'
def sp_settled (K : PySem.W.Frag) (C : Ad) : Sp := fun vs H Q _ => ∃ (a : Addr) (ts : List Int), vs = [.ref a] ∧ SqL K H a (ts.map V.int) ∧ ts.length ≤ 8000000 ∧ (naf (wl ts)).length ≤ 8000000 ∧ newL H (naf (wl ts)) Q
/-- the reading of settled; slots: 0 totals 1 found 2 over 3 place 4 here 5 later 6 figure -/
def t_settled (K : PySem.W.Frag) (C : Ad) (E : XK) : TS :=
      (tSeq (tAsg (tLst tNil) (gName 1))
      (tSeq (tAsg (tC (.int 0)) (gName 2))
      (tSeq (tAsg (tC (.int 0)) (gName 3))
      (tSeq (tWhile (tOr (tTest (tOp qLt (tVar 3) (tCB (qLen K) (tCons (tVar 0) tNil)))) (tTest (tOp rNe (tVar 2) (tC (.int 0))))) (tSeq (tAsg (tVar 2) (gName 4))
      (Evl.tCut (tIfS (tTest (tOp qLt (tVar 3) (tCB (qLen K) (tCons (tVar 0) tNil)))) (tAug 4 (tOp (rIxL K) (tVar 0) (tVar 3)) (ipI fun i j => i + j)) tNext)
      (tSeq (tAsg (tC (.int 0)) (gName 5))
      (Evl.tCut (tIfS (tTest (tOp qLt (tOp qAdd (tVar 3) (tC (.int 1))) (tCB (qLen K) (tCons (tVar 0) tNil)))) (tAsg (tOp (rIxL K) (tVar 0) (tOp qAdd (tVar 3) (tC (.int 1)))) (gName 5)) tNext)
      (tSeq (tAsg (tC (.int 0)) (gName 6))
      (Evl.tCut (tIfS (tTest (tOp rNe (tOp qMod (tVar 4) (tC (.int 2))) (tC (.int 0)))) (tAsg (tIf (tTest (tOp rEq (tOp qMod (tOp qAdd (tVar 5) (tOp qDiv (tOp qSub (tVar 4) (tC (.int 1))) (tC (.int 2)))) (tC (.int 2))) (tC (.int 0)))) (tC (.int 1)) (tUn qNeg (tC (.int 1)))) (gName 6)) tNext)
      (tSeq (tDrop (tBM K "list" rAppend (tVar 1) (tCons (tVar 6) tNil)))
      (tSeq (tAsg (tOp qDiv (tOp qSub (tVar 4) (tVar 6)) (tC (.int 2))) (gName 2))
      (tAug 3 (tC (.int 1)) (ipI fun i j => i + j)))))))))))
      (tSeq (tWhile (tAnd (tTest (tOp (rNeD K) (tVar 1) (tLst tNil))) (tTest (tOp rEq (tOp (rIxL K) (tVar 1) (tUn qNeg (tC (.int 1)))) (tC (.int 0))))) (tDrop (tBM0 K "list" rPop (tVar 1))))
      (tRet (tVar 1)))))))
theorem choose_rw (here later : Int) : choose here later = if here % 2 = 0 then 0 else if (later + (here - 1) / 2) % 2 = 0 then 1 else -1 := by
  unfold choose
  by_cases h : here % 2 = 0
  · rw [if_neg (by simpa using h), if_pos h]
  · rw [if_pos h, if_neg h]
theorem get_d {ts : List Int} {i : Nat} (h : i < ts.length) : (ts.map V.int)[i]? = some (.int (ts.getD i 0)) := by
  rw [List.getElem?_map, List.getD_eq_getElem?_getD, List.getElem?_eq_getElem h]; rfl
theorem get_o {ts : List Int} {i : Nat} (h : ¬ i < ts.length) : ts.getD i 0 = 0 := by
  rw [List.getD_eq_getElem?_getD, List.getElem?_eq_none (by omega)]; rfl
theorem wl_none {ts : List Int} {i : Nat} (h : ts.length ≤ i) : wl (ts.drop i) = 0 := by
  rw [List.drop_of_length_le h]; rfl
theorem r_settled (h : sp_settled K C vs H Q E) : t_settled K C E { nx := fun _ H' => Q .non H', rt := Q } (st 7 vs) H := by
  obtain ⟨a, ts, rfl, hx, hz, hz2, q⟩ := h
  unfold t_settled
  walk_at "st"
  walk_at "rd"
  intro p np
  generalize hW : wl ts = W at hz2 q
  refine f_while (fun m σ H' => ∃ (i : Nat) (over : Int) (y4 y5 y6 : Option V), σ = [some (.ref a), some (.ref p), some (.int over), some (.int i), y4, y5, y6] ∧ m = (ts.length - i) + (rst W i).natAbs ∧ Same H H' ∧ H' p = some (.lst ((figs W i).map V.int)) ∧ over + wl (ts.drop i) = rst W i ∧ i ≤ 8000000) (ts.length + W.natAbs) (by walk_at "mono")
    ⟨0, 0, none, none, none, rfl, rfl, Same.new np, upd_same, by rw [List.drop_zero, hW]; show 0 + W = W; omega, by omega⟩ ?_
  rintro m σ H' ⟨i, over, y4, y5, y6, rfl, rfl, s1, hp, hov, hi⟩
  walk_at "rd"
  refine ⟨a, _, rfl, .inl (s1.seq hx), ?_⟩
  rw [List.length_map]
  walk_at "rd"
  -- one turn
  have turn : (i < ts.length ∨ over ≠ 0) → ∀ D : Ends, (∀ σ' H', (∃ m', m' < (ts.length - i) + (rst W i).natAbs ∧ ∃ (i : Nat) (over : Int) (y4 y5 y6 : Option V), σ' = [some (.ref a), some (.ref p), some (.int over), some (.int i), y4, y5, y6] ∧ m' = (ts.length - i) + (rst W i).natAbs ∧ Same H H' ∧ H' p = some (.lst ((figs W i).map V.int)) ∧ over + wl (ts.drop i) = rst W i ∧ i ≤ 8000000) → D.nx σ' H') →
      Evl.tCut (tIfS (tTest (tOp qLt (tVar 3) (tCB (qLen K) (tCons (tVar 0) tNil)))) (tAug 4 (tOp (rIxL K) (tVar 0) (tVar 3)) (ipI fun i j => i + j)) tNext)
      (tSeq (tAsg (tC (.int 0)) (gName 5))
      (Evl.tCut (tIfS (tTest (tOp qLt (tOp qAdd (tVar 3) (tC (.int 1))) (tCB (qLen K) (tCons (tVar 0) tNil)))) (tAsg (tOp (rIxL K) (tVar 0) (tOp qAdd (tVar 3) (tC (.int 1)))) (gName 5)) tNext)
      (tSeq (tAsg (tC (.int 0)) (gName 6))
      (Evl.tCut (tIfS (tTest (tOp rNe (tOp qMod (tVar 4) (tC (.int 2))) (tC (.int 0)))) (tAsg (tIf (tTest (tOp rEq (tOp qMod (tOp qAdd (tVar 5) (tOp qDiv (tOp qSub (tVar 4) (tC (.int 1))) (tC (.int 2)))) (tC (.int 2))) (tC (.int 0)))) (tC (.int 1)) (tUn qNeg (tC (.int 1)))) (gName 6)) tNext)
      (tSeq (tDrop (tBM K "list" rAppend (tVar 1) (tCons (tVar 6) tNil)))
      (tSeq (tAsg (tOp qDiv (tOp qSub (tVar 4) (tVar 6)) (tC (.int 2))) (gName 2))
      (tAug 3 (tC (.int 1)) (ipI fun i j => i + j)))))))) D [some (.ref a), some (.ref p), some (.int over), some (.int i), some (.int over), y5, y6] H' := fun hgo D hD => by
    obtain ⟨t1, t2⟩ := settle_turn hov
    generalize hh : over + ts.getD i 0 = here at t1 t2
    generalize hl : ts.getD (i + 1) 0 = later at t1 t2
    refine ⟨fun σ' H1 => H1 = H' ∧ σ' = [some (.ref a), some (.ref p), some (.int over), some (.int i), some (.int here), y5, y6], ?_, ?_⟩
    · walk_at "rd"
      refine ⟨a, _, rfl, .inl (s1.seq hx), ?_⟩
      rw [List.length_map]
      walk_at "rd"
      by_cases c : (i : Int) < (ts.length : Int)
      · rw [if_pos c]
        refine ⟨a, _, _, _, rfl, rfl, s1.seq hx, atI_nat (get_d (by omega)), ?_⟩
        walk_at "rd"
        rw [hh]
      · rw [if_neg c]
        rw [get_o (by omega)] at hh
        rw [← hh]; simp
    rintro σ' H1 ⟨rfl, rfl⟩
    walk_at "rd"
    refine ⟨fun σ' H2 => H2 = H1 ∧ σ' = [some (.ref a), some (.ref p), some (.int over), some (.int i), some (.int here), some (.int later), y6], ?_, ?_⟩
    · walk_at "rd"
      refine ⟨a, _, rfl, .inl (s1.seq hx), ?_⟩
      rw [List.length_map]
      walk_at "rd"
      by_cases c : (i : Int) + 1 < (ts.length : Int)
      · rw [if_pos c]
        refine ⟨a, _, _, _, rfl, rfl, s1.seq hx, atI_at (j := i + 1) (by omega) (get_d (by omega)), ?_⟩
        rw [hl]
        walk_at "rd"
      · rw [if_neg c]
        rw [get_o (by omega)] at hl
        rw [← hl]
    rintro σ' H1 ⟨rfl, rfl⟩
    walk_at "rd"
    refine ⟨fun σ' H2 => H2 = H1 ∧ σ' = [some (.ref a), some (.ref p), some (.int over), some (.int i), some (.int here), some (.int later), some (.int (choose here later))], ?_, ?_⟩
    · walk_at "rd"
      rw [choose_rw]
      by_cases c : here % 2 = 0
      · rw [if_pos c, if_pos c]
      · rw [if_neg c, if_neg c]
        by_cases c2 : (later + (here - 1) / 2) % 2 = 0
        · rw [if_pos c2, if_pos c2]
        · rw [if_neg c2, if_neg c2]
    rintro σ' H1 ⟨rfl, rfl⟩
    walk_at "rd"
    refine ⟨.inl ⟨rfl, _, sq hp⟩, p, _, _, rfl, rfl, hp, by rw [List.length_map, figs_len, sizeLine_is]; omega, ?_⟩
    have hi8 : i + 1 ≤ 8000000 := by
      by_cases c : i < ts.length
      · omega
      · have h0 := wl_none (ts := ts) (i := i) (by omega)
        have : rst W i ≠ 0 := by
          rcases hgo with g | g
          · exact absurd g c
          · omega
        have := rst_long i W this
        omega
    refine hD _ _ ⟨(ts.length - (i + 1)) + (rst W (i + 1)).natAbs, ?_, i + 1, (here - choose here later) / 2, some (.int here), some (.int later), some (.int (choose here later)), ?_, rfl, s1.mut np, ?_, t2, hi8⟩
    · have hle := nxt_le (rst W i)
      rw [← rst_snoc] at hle
      by_cases c : i < ts.length
      · omega
      · have h0 := wl_none (ts := ts) (i := i) (by omega)
        have hr0 : rst W i ≠ 0 := by
          rcases hgo with g | g
          · exact absurd g c
          · omega
        have := nxt_lt hr0
        rw [← rst_snoc] at this
        omega
    · simp
    · rw [upd_same, figs_snoc, ← t1, List.map_append]; rfl
  by_cases c : (i : Int) < (ts.length : Int)
  · rw [if_pos c]
    refine turn (.inl (by omega)) _ ?_
    exact fun _ _ h => h
  · rw [if_neg c]
    by_cases c2 : over = 0
    · rw [if_pos c2]
      have hr0 : rst W i = 0 := by rw [← hov, wl_none (by omega), c2]; rfl
      obtain ⟨k, hk⟩ := figs_naf i W hr0
      rw [hk] at hp
      refine f_while (fun m σ H' => σ = [some (.ref a), some (.ref p), some (.int over), some (.int i), y4, y5, y6] ∧ Same H H' ∧ H' p = some (.lst ((naf W ++ List.replicate m 0).map V.int))) k (by walk_at "mono") ⟨rfl, s1, hp⟩ ?_
      rintro m σ H1 ⟨rfl, s2, hp1⟩
      walk_at "rd"
      intro e ne
      generalize ee : upd H1 e _ = H2
      obtain ⟨s3, he⟩ := new_of ee ne
      have hp2 := s3 _ _ hp1
      refine neD_ints (ms := []) (sq hp2) (sq he) ?_
      walk_at "rd"
      cases m with
      | zero =>
        rw [List.replicate_zero, List.append_nil] at hp2 ⊢
        by_cases cn : naf W = []
        · rw [if_pos cn]
          exact q H2 p (s2.trans s3) np (by rw [hp2])
        · rw [if_neg cn]
          obtain ⟨w, hw⟩ : ∃ w, (naf W).getLast? = some w := ⟨_, List.getLast?_eq_some_getLast cn⟩
          refine ⟨p, _, _, .int w, rfl, rfl, sq hp2, atI_end (by rw [getLast_map, hw]; rfl), ?_⟩
          walk_at "rd"
          have hw0 : w ≠ 0 := fun e => naf_last W (by rw [hw, e])
          rw [if_neg hw0]
          exact q H2 p (s2.trans s3) np (by rw [hp2])
      | succ m =>
        have e1 : naf W ++ List.replicate (m + 1) 0 = (naf W ++ List.replicate m 0) ++ [0] := by rw [List.replicate_succ', List.append_assoc]
        rw [e1] at hp2 ⊢
        rw [if_neg (by simp)]
        refine ⟨p, _, _, .int 0, rfl, rfl, sq hp2, atI_end (by rw [getLast_map, List.getLast?_concat]; rfl), ?_⟩
        walk_at "rd"
        refine ⟨.inl ⟨rfl, _, sq hp2⟩, p, _, .int 0, rfl, rfl, hp2, ?_, ⟨m, by omega, (s2.trans s3).mut np, ?_⟩⟩
        · rw [List.map_append, List.length_append]; simp
        · rw [upd_same, List.map_append]; simp
    · rw [if_neg c2]
      refine turn (.inr c2) _ ?_
      exact fun _ _ h => h
/-- totals at l (the object that H0 did not know), a row put upon them -/
def sp_laid_over (K : PySem.W.Frag) (C : Ad) : Sp := fun vs H Q _ => ∃ (l a : Addr) (ts ns : List Int) (t : Int) (p : Nat) (H0 : Hp), vs = [.ref l, .ref a, .int t, .int (p : Nat)] ∧ H l = some (.lst (ts.map V.int)) ∧ Same H0 H ∧ H0 l = none ∧ SqL K H0 a (ns.map V.int) ∧
  p ≤ ts.length ∧ ts.length ≤ 8000000 ∧ p + ns.length ≤ 8000000 ∧ (-(2 ^ 64) < t ∧ t < 2 ^ 64) ∧ ∀ H', But l H H' → H' l = some (.lst ((lay ts t ns p).map V.int)) → Q .non H'
/-- the reading of laid_over; slots: 0 totals 1 row 2 times 3 place 4 number 5 figure -/
def t_laid_over (K : PySem.W.Frag) (C : Ad) (E : XK) : TS :=
      (tFor (iEnum K (tCons (tVar 1) tNil)) (gTup K 2 (gCons (gName 4) (gCons (gName 5) gNil))) (tSeq (tIfS (tTest (tOp rEq (tOp qAdd (tVar 3) (tVar 4)) (tCB (qLen K) (tCons (tVar 0) tNil)))) (tDrop (tBM K "list" rAppend (tVar 0) (tCons (tC (.int 0)) tNil))) tNext)
      (tAugS (tVar 0) (tOp qAdd (tVar 3) (tVar 4)) (tOp qMul (tVar 2) (tVar 5)) (qGetL K) (ipI fun i j => i + j) rSetL)))
theorem ixN_nat {n q : Nat} (h : q < n) : ixN n (q : Int) = some q := by
  unfold ixN
  rw [if_pos (by omega), if_pos (by omega)]; rfl
theorem map_set (ts : List Int) (q : Nat) (v : Int) : (ts.map V.int).set q (.int v) = (ts.set q v).map V.int := by
  rw [List.map_set]
theorem r_laid_over (h : sp_laid_over K C vs H Q E) : t_laid_over K C E { nx := fun _ H' => Q .non H', rt := Q } (st 6 vs) H := by
  obtain ⟨l, a, ts, ns, t, p, H0, rfl, hl, s0, n0, hx, hp, hz, hz2, ht, q⟩ := h
  unfold t_laid_over
  walk_at "st"
  walk_at "rd"
  refine f_enum (fun i σ H' => ∃ y1 y2, σ = [some (.ref l), some (.ref a), some (.int t), some (.int (p : Nat)), y1, y2] ∧ But l H H' ∧ H' l = some (.lst ((lay ts t (ns.take i) p).map V.int))) rfl ⟨none, none, rfl, But.refl _ _, hl⟩ (s0.seq hx) (fun i σ H' ⟨_, _, _, b, _⟩ => (b.same s0 n0).seq hx) (fun i x σ H' T hi hlt ⟨y1, y2, e, b1, hl1⟩ hT => ?_) (fun σ H' ⟨y1, y2, e, b1, hl1⟩ => ?_)
  · subst e
    obtain ⟨z, hz1, rfl⟩ := mapE hi
    have bT : But l H (upd H' T (.tup [.int (i : Nat), .int z])) := b1.new hT
    have hlT : (upd H' T (.tup [.int (i : Nat), .int z])) l = some (.lst ((lay ts t (ns.take i) p).map V.int)) := Same.new hT _ _ hl1
    generalize (upd H' T (.tup [.int (i : Nat), .int z])) = H2 at bT hlT
    rw [List.length_map] at hlt
    have hlen := len_lay (ns.take i) ts t p hp
    rw [List.length_take, Nat.min_eq_left (Nat.le_of_lt hlt)] at hlen
    have hsn := lay_snoc (ns.take i) ts t z p
    rw [← take_snoc hz1, List.length_take, Nat.min_eq_left (Nat.le_of_lt hlt)] at hsn
    generalize lay ts t (ns.take i) p = us at hlT hlen hsn
    walk_at "rd"
    refine ⟨l, _, rfl, .inl (sq hlT), ?_⟩
    rw [List.length_map]
    walk_at "rd"
    have hm : (-18446744073709551616 < t ∧ t < 18446744073709551616) ∨ -18446744073709551616 < z ∧ z < 18446744073709551616 := .inl (by simpa using ht)
    by_cases c : (p : Int) + (i : Int) = (us.length : Int)
    · rw [if_pos c]
      have hq : p + i = us.length := by omega
      refine ⟨.inl ⟨rfl, _, sq hlT⟩, l, _, _, rfl, rfl, hlT, by rw [List.length_map, sizeLine_is]; omega, ?_⟩
      have h3 : (upd H2 l (.lst (us.map V.int ++ [.int 0]))) l = some (.lst ((us ++ [0]).map V.int)) := by rw [upd_same, List.map_append]; rfl
      have b3 : But l H (upd H2 l (.lst (us.map V.int ++ [.int 0]))) := bT.set
      generalize (upd H2 l (.lst (us.map V.int ++ [.int 0]))) = H3 at h3 b3
      refine ⟨l, _, _, .int 0, rfl, rfl, sq h3, atI_at (j := us.length) (by omega) (by rw [List.getElem?_map, List.getElem?_append_right (Nat.le_refl _)]; simp), hm, ?_⟩
      walk_at "rd"
      refine ⟨l, _, _, us.length, rfl, rfl, h3, ?_, some (.int (i : Nat)), some (.int z), rfl, b3.set, ?_⟩
      · rw [List.length_map, List.length_append, show (p : Int) + (i : Int) = ((us.length : Nat) : Int) by omega]
        exact ixN_nat (by simp)
      · rw [upd_same, map_set, hsn]
        unfold lay1
        rw [if_pos hq]
        simp
    · rw [if_neg c]
      have hq : p + i < us.length := by omega
      have hz3 : us[p + i]? = some (us.getD (p + i) 0) := by rw [List.getD_eq_getElem?_getD, List.getElem?_eq_getElem hq]; rfl
      refine ⟨l, _, _, .int (us.getD (p + i) 0), rfl, rfl, sq hlT, atI_at (j := p + i) (by omega) (by rw [List.getElem?_map, hz3]; rfl), hm, ?_⟩
      walk_at "rd"
      refine ⟨l, _, _, p + i, rfl, rfl, hlT, ?_, some (.int (i : Nat)), some (.int z), rfl, bT.set, ?_⟩
      · rw [List.length_map, show (p : Int) + (i : Int) = ((p + i : Nat) : Int) by omega]
        exact ixN_nat hq
      · rw [upd_same, map_set, hsn]
        unfold lay1
        rw [if_neg (by omega)]
  · subst e
    rw [List.length_map, List.take_length] at hl1
    exact q H' b1 hl1
/-! ### negated, added, multiplied, compared, together -/
theorem naf_len' {n : Int} {k : Nat} (h : n.natAbs < 2 ^ k) (hk : k < 8000000) : (naf n).length ≤ 8000000 := Nat.le_trans (naf_len k n h) (by omega)
theorem Row.bound {l : List Int} (h : Row l) : (wl l).natAbs < 2 ^ l.length := row_bound h.1
theorem pow_mono {a b : Nat} (h : a ≤ b) : 2 ^ a ≤ 2 ^ b := Nat.pow_le_pow_right (by decide) h
theorem Row.bound' {l : List Int} (h : Row l) {k : Nat} (hk : l.length ≤ k) : (wl l).natAbs < 2 ^ k := Nat.lt_of_lt_of_le h.bound (pow_mono hk)
theorem Same.none {H H' : Hp} {p : Addr} (s : Same H H') (h : H' p = none) : H p = none := by
  cases e : H p with
  | none => rfl
  | some o => rw [s _ _ e] at h; cases h
theorem newL.from {H H' : Hp} {ns : List Int} {Q : VK} (h : newL H ns Q) (s : Same H H') : newL H' ns Q := fun H2 p s2 np hp => h H2 p (s.trans s2) (Same.none s np) hp
theorem natAbs_mul_lt {a b : Int} {i j : Nat} (h : a.natAbs < 2 ^ i) (k : b.natAbs < 2 ^ j) : (a * b).natAbs < 2 ^ (i + j) := by
  rw [Int.natAbs_mul, Nat.pow_add]
  exact Nat.mul_lt_mul'' h k
/-- a def that asks for a row that isn't over-long -/
def rowSpN (K : PySem.W.Frag) (C : Ad) (R : List Int → Hp → VK → Prop) : Sp := fun vs H Q E => ∃ x, vs = [x] ∧ ((RowB K H x false ∧ ∀ H', Same H H' → E (.ref C.NoRow) none H') ∨
  (∃ a ns, x = .ref a ∧ SqL K H a (ns.map V.int) ∧ Row ns ∧ ns.length ≤ 2000000 ∧ R ns H Q))
/-- ... for two rows -/
def rowSp2 (K : PySem.W.Frag) (C : Ad) (R : List Int → List Int → Hp → VK → Prop) : Sp := fun vs H Q E => ∃ x y, vs = [x, y] ∧ ((RowB K H x false ∧ ∀ H', Same H H' → E (.ref C.NoRow) none H') ∨
  (∃ a ns, x = .ref a ∧ SqL K H a (ns.map V.int) ∧ Row ns ∧ ns.length ≤ 2000000 ∧ ((RowB K H y false ∧ ∀ H', Same H H' → E (.ref C.NoRow) none H') ∨
  (∃ b ms, y = .ref b ∧ SqL K H b (ms.map V.int) ∧ Row ms ∧ ms.length ≤ 2000000 ∧ R ns ms H Q))))
def sp_negated (K : PySem.W.Frag) (C : Ad) : Sp := rowSpN K C fun ns H Q => newL H (naf (0 - wl ns)) Q
/-- the reading of negated; slots: 0 row 1 figure -/
def t_negated (K : PySem.W.Frag) (C : Ad) (E : XK) : TS :=
      (tSeq (tDrop (tF (sp_need_row K C) E (tCons (tVar 0) tNil)))
      (tRet (tF (sp_settled K C) E (tCons (tLc (iList K (tVar 0)) (gName 1) tYes (tOp qSub (tC (.int 0)) (tVar 1)) [1]) tNil))))
theorem r_negated (h : sp_negated K C vs H Q E) : t_negated K C E { nx := fun _ H' => Q .non H', rt := Q } (st 2 vs) H := by
  obtain ⟨x, rfl, h⟩ := h
  unfold t_negated
  walk_at "st"
  walk_at "rd"
  rcases h with ⟨hb, q1⟩ | ⟨a, ns, rfl, hx, hr, hz, q2⟩
  · exact ⟨x, false, rfl, hb, (fun e => by cases e), fun _ => q1⟩
  refine ⟨.ref a, true, rfl, RowB.row hx hr (by omega), fun _ H1 s1 => ?_, fun e => by cases e⟩
  walk_at "rd"
  have hx1 := s1.seq hx
  refine ⟨.ref a, rfl, a, rfl, ⟨_, hx1⟩, fun D hD => ?_⟩
  refine lc_list (K := K) (a := a) (xs := ns.map V.int) (fun i H' => Same H1 H' ∧ H' D = some (.lst (((ns.take i).map fun x => 0 - x).map V.int))) ⟨Same.new hD, upd_same⟩ (fun i H' _ p => p.1.seq hx1) (fun i y H' hi p => ?_) (fun H' p => ?_)
  · obtain ⟨z, hz1, rfl⟩ := mapE hi
    walk_at "rd"
    refine ⟨_, p.2, ?_, p.1.mut hD, ?_⟩
    · rw [List.length_map, List.length_map, List.length_take, sizeLine_is]; omega
    · rw [upd_same, take_snoc hz1, List.map_append, List.map_append]; rfl
  · obtain ⟨p1, p2⟩ := p
    rw [List.length_map, List.take_length] at p2
    walk_at "rd"
    refine ⟨D, _, rfl, sq p2, by rw [List.length_map]; omega, ?_, ?_⟩
    · rw [wl_neg]
      exact naf_len' (k := ns.length) (by have := hr.bound; omega) (by omega)
    · rw [wl_neg]
      exact (q2.from s1).from p1
def sp_added (K : PySem.W.Frag) (C : Ad) : Sp := rowSp2 K C fun ns ms H Q => newL H (naf (wl ns + wl ms)) Q
/-- the reading of added; slots: 0 one 1 other 2 totals -/
def t_added (K : PySem.W.Frag) (C : Ad) (E : XK) : TS :=
      (tSeq (tDrop (tF (sp_need_row K C) E (tCons (tVar 0) tNil)))
      (tSeq (tDrop (tF (sp_need_row K C) E (tCons (tVar 1) tNil)))
      (tSeq (tAsg (tCB (qList K) (tCons (tVar 0) tNil)) (gName 2))
      (tSeq (tDrop (tF (sp_laid_over K C) E (tCons (tVar 2) (tCons (tVar 1) (tCons (tC (.int 1)) (tCons (tC (.int 0)) tNil))))))
      (tRet (tF (sp_settled K C) E (tCons (tVar 2) tNil)))))))
theorem r_added (h : sp_added K C vs H Q E) : t_added K C E { nx := fun _ H' => Q .non H', rt := Q } (st 3 vs) H := by
  obtain ⟨x, y, rfl, h⟩ := h
  unfold t_added
  walk_at "st"
  walk_at "rd"
  rcases h with ⟨hb, q1⟩ | ⟨a, ns, rfl, hx, hr, hz, h⟩
  · exact ⟨x, false, rfl, hb, (fun e => by cases e), fun _ => q1⟩
  refine ⟨.ref a, true, rfl, RowB.row hx hr (by omega), fun _ H1 s1 => ?_, fun e => by cases e⟩
  walk_at "rd"
  rcases h with ⟨hb, q1⟩ | ⟨b, ms, rfl, hy, hs, hz2, q⟩
  · exact ⟨y, false, rfl, hb.same s1, (fun e => by cases e), fun _ H' s => q1 H' (s1.trans s)⟩
  refine ⟨.ref b, true, rfl, RowB.row (s1.seq hy) hs (by omega), fun _ H2 s2 => ?_, fun e => by cases e⟩
  walk_at "rd"
  have s3 := s1.trans s2
  refine ⟨a, _, rfl, .inl (s3.seq hx), fun l nl => ?_⟩
  generalize el : upd H2 l _ = H3
  obtain ⟨s4, hl⟩ := new_of el nl
  walk_at "rd"
  refine ⟨l, b, ns, ms, 1, 0, H2, rfl, hl, s4, nl, s3.seq hy, Nat.zero_le _, by omega, by omega, by omega, fun H4 bt hl4 => ?_⟩
  walk_at "rd"
  have hw : wl (lay ns 1 ms 0) = wl ns + wl ms := by rw [wl_lay _ _ _ _ (Nat.zero_le _)]; simp
  refine ⟨l, _, rfl, sq hl4, by rw [len_lay _ _ _ _ (Nat.zero_le _)]; omega, ?_, ?_⟩ <;> rw [hw]
  · refine naf_len' (k := 2000001) ?_ (by omega)
    have h1 := hr.bound' hz
    have h2 := hs.bound' hz2
    rw [Nat.pow_succ]
    generalize 2 ^ 2000000 = N at h1 h2 ⊢
    omega
  · exact (q.from s3).from (bt.same s4 nl)
def sp_multiplied (K : PySem.W.Frag) (C : Ad) : Sp := rowSp2 K C fun ns ms H Q => newL H (naf (wl ns * wl ms)) Q
theorem wl_take_snoc {ns : List Int} {i : Nat} {z : Int} (h : ns[i]? = some z) : wl (ns.take (i + 1)) = wl (ns.take i) + 2 ^ i * z := by
  have hi : i < ns.length := (List.getElem?_eq_some_iff.mp h).1
  rw [take_snoc h, wl_append, List.length_take, Nat.min_eq_left (Nat.le_of_lt hi)]
  simp [wl]
/-- the reading of multiplied; slots: 0 one 1 other 2 totals 3 place 4 figure -/
def t_multiplied (K : PySem.W.Frag) (C : Ad) (E : XK) : TS :=
      (tSeq (tDrop (tF (sp_need_row K C) E (tCons (tVar 0) tNil)))
      (tSeq (tDrop (tF (sp_need_row K C) E (tCons (tVar 1) tNil)))
      (tSeq (tAsg (tLst tNil) (gName 2))
      (tSeq (tFor (iEnum K (tCons (tVar 0) tNil)) (gTup K 2 (gCons (gName 3) (gCons (gName 4) gNil))) (tIfS (tTest (tOp rNe (tVar 4) (tC (.int 0)))) (tSeq (tWhile (tTest (tOp qLt (tCB (qLen K) (tCons (tVar 2) tNil)) (tVar 3))) (tDrop (tBM K "list" rAppend (tVar 2) (tCons (tC (.int 0)) tNil))))
      (tDrop (tF (sp_laid_over K C) E (tCons (tVar 2) (tCons (tVar 1) (tCons (tVar 4) (tCons (tVar 3) tNil))))))) tNext))
      (tRet (tF (sp_settled K C) E (tCons (tVar 2) tNil)))))))
theorem r_multiplied (h : sp_multiplied K C vs H Q E) : t_multiplied K C E { nx := fun _ H' => Q .non H', rt := Q } (st 5 vs) H := by
  obtain ⟨x, y, rfl, h⟩ := h
  unfold t_multiplied
  walk_at "st"
  walk_at "rd"
  rcases h with ⟨hb, q1⟩ | ⟨a, ns, rfl, hx, hr, hz, h⟩
  · exact ⟨x, false, rfl, hb, (fun e => by cases e), fun _ => q1⟩
  refine ⟨.ref a, true, rfl, RowB.row hx hr (by omega), fun _ H1 s1 => ?_, fun e => by cases e⟩
  walk_at "rd"
  rcases h with ⟨hb, q1⟩ | ⟨b, ms, rfl, hy, hs, hz2, q⟩
  · exact ⟨y, false, rfl, hb.same s1, (fun e => by cases e), fun _ H' s => q1 H' (s1.trans s)⟩
  refine ⟨.ref b, true, rfl, RowB.row (s1.seq hy) hs (by omega), fun _ H2 s2 => ?_, fun e => by cases e⟩
  walk_at "rd"
  have s3 := s1.trans s2
  intro l nl
  generalize el : upd H2 l _ = H3
  obtain ⟨s4, hl⟩ := new_of el nl
  have sx := s3.seq hx
  have sy := s3.seq hy
  refine f_enum (fun i σ H' => ∃ y1 y2 ts, σ = [some (.ref a), some (.ref b), some (.ref l), y1, y2] ∧ Same H2 H' ∧ H' l = some (.lst (ts.map V.int)) ∧ wl ts = wl (ns.take i) * wl ms ∧ ts.length ≤ i + ms.length) rfl ⟨none, none, [], rfl, s4, hl, by simp [wl], Nat.zero_le _⟩ (s4.seq sx) (fun i σ H' ⟨_, _, _, _, p, _⟩ => p.seq sx) (fun i x σ H' T hi hlt ⟨y1, y2, ts, e, p1, p2, p3, p4⟩ hT => ?_) (fun σ H' ⟨y1, y2, ts, e, p1, p2, p3, p4⟩ => ?_)
  · subst e
    obtain ⟨z, hz1, rfl⟩ := mapE hi
    have hw := wl_take_snoc hz1
    rw [List.length_map] at hlt
    have s5 : Same H2 (upd H' T (.tup [.int (i : Nat), .int z])) := p1.add hT
    have hl5 : (upd H' T (.tup [.int (i : Nat), .int z])) l = some (.lst (ts.map V.int)) := Same.new hT _ _ p2
    generalize (upd H' T (.tup [.int (i : Nat), .int z])) = H5 at s5 hl5
    walk_at "rd"
    by_cases c : z = 0
    · rw [if_pos c]
      refine ⟨_, _, ts, rfl, s5, hl5, ?_, by omega⟩
      rw [hw, c, p3]; simp
    · rw [if_neg c]
      refine f_while (fun m σ H' => σ = [some (.ref a), some (.ref b), some (.ref l), some (.int (i : Nat)), some (.int z)] ∧ Same H2 H' ∧ ∃ us, H' l = some (.lst (us.map V.int)) ∧ wl us = wl (ns.take i) * wl ms ∧ us.length ≤ i + ms.length ∧ m = i - us.length) (i - ts.length) (by walk_at "mono") ⟨rfl, s5, ts, hl5, p3, p4, rfl⟩ ?_
      rintro m σ H6 ⟨rfl, s6, us, h6, u1, u2, rfl⟩
      walk_at "rd"
      refine ⟨l, _, rfl, .inl (sq h6), ?_⟩
      rw [List.length_map]
      walk_at "rd"
      by_cases c2 : (us.length : Int) < (i : Int)
      · rw [if_pos c2]
        refine ⟨.inl ⟨rfl, _, sq h6⟩, l, _, _, rfl, rfl, h6, by rw [List.length_map, sizeLine_is]; omega, _, ?_, s6.mut nl, us ++ [0], by rw [upd_same, List.map_append]; rfl, by rw [wl_append]; simp [wl, u1], by rw [List.length_append]; simp; omega, rfl⟩
        rw [List.length_append]; simp; omega
      · rw [if_neg c2]
        have hle : i ≤ us.length := by omega
        refine ⟨l, b, us, ms, z, i, H2, rfl, h6, s6, nl, sy, hle, by omega, by omega, ?_, fun H7 bt h7 => ?_⟩
        · have := (hr.fg z (List.mem_of_getElem? hz1)).abs
          omega
        · refine ⟨_, _, _, rfl, bt.same s6 nl, h7, ?_, ?_⟩
          · rw [wl_lay _ _ _ _ hle, hw, u1, Int.add_mul, Int.mul_comm z]
          · rw [len_lay _ _ _ _ hle]; omega
  · subst e
    rw [List.length_map] at p4
    rw [List.length_map, List.take_length] at p3
    walk_at "rd"
    refine ⟨l, _, rfl, sq p2, by omega, ?_, ?_⟩ <;> rw [p3]
    · refine naf_len' (k := 2000000 + 2000000) ?_ (by omega)
      exact natAbs_mul_lt (hr.bound' hz) (hs.bound' hz2)
    · exact (q.from s3).from p1
/-- 1, 0 or -1 -/
def sgn (n : Int) : Int := if n = 0 then 0 else if 0 < n then 1 else -1
def sp_compared (K : PySem.W.Frag) (C : Ad) : Sp := rowSp2 K C fun ns ms H Q => ∀ H', Same H H' → Q (.int (sgn (wl ns - wl ms))) H'
/-- the reading of compared; slots: 0 one 1 other 2 totals 3 found -/
def t_compared (K : PySem.W.Frag) (C : Ad) (E : XK) : TS :=
      (tSeq (tDrop (tF (sp_need_row K C) E (tCons (tVar 0) tNil)))
      (tSeq (tDrop (tF (sp_need_row K C) E (tCons (tVar 1) tNil)))
      (tSeq (tAsg (tCB (qList K) (tCons (tVar 0) tNil)) (gName 2))
      (tSeq (tDrop (tF (sp_laid_over K C) E (tCons (tVar 2) (tCons (tVar 1) (tCons (tUn qNeg (tC (.int 1))) (tCons (tC (.int 0)) tNil))))))
      (tSeq (tAsg (tF (sp_settled K C) E (tCons (tVar 2) tNil)) (gName 3))
      (tSeq (tIfS (tTest (tOp (rEqD K) (tVar 3) (tLst tNil))) (tRet (tC (.int 0))) tNext)
      (tRet (tOp (rIxL K) (tVar 3) (tUn qNeg (tC (.int 1)))))))))))
theorem r_compared (h : sp_compared K C vs H Q E) : t_compared K C E { nx := fun _ H' => Q .non H', rt := Q } (st 4 vs) H := by
  obtain ⟨x, y, rfl, h⟩ := h
  unfold t_compared
  walk_at "st"
  walk_at "rd"
  rcases h with ⟨hb, q1⟩ | ⟨a, ns, rfl, hx, hr, hz, h⟩
  · exact ⟨x, false, rfl, hb, (fun e => by cases e), fun _ => q1⟩
  refine ⟨.ref a, true, rfl, RowB.row hx hr (by omega), fun _ H1 s1 => ?_, fun e => by cases e⟩
  walk_at "rd"
  rcases h with ⟨hb, q1⟩ | ⟨b, ms, rfl, hy, hs, hz2, q⟩
  · exact ⟨y, false, rfl, hb.same s1, (fun e => by cases e), fun _ H' s => q1 H' (s1.trans s)⟩
  refine ⟨.ref b, true, rfl, RowB.row (s1.seq hy) hs (by omega), fun _ H2 s2 => ?_, fun e => by cases e⟩
  walk_at "rd"
  have s3 := s1.trans s2
  refine ⟨a, _, rfl, .inl (s3.seq hx), fun l nl => ?_⟩
  generalize el : upd H2 l _ = H3
  obtain ⟨s4, hl⟩ := new_of el nl
  walk_at "rd"
  refine ⟨l, b, ns, ms, -1, 0, H2, rfl, hl, s4, nl, s3.seq hy, Nat.zero_le _, by omega, by omega, by omega, fun H4 bt hl4 => ?_⟩
  walk_at "rd"
  have hw : wl (lay ns (-1) ms 0) = wl ns - wl ms := by rw [wl_lay _ _ _ _ (Nat.zero_le _)]; simp; omega
  refine ⟨l, _, rfl, sq hl4, by rw [len_lay _ _ _ _ (Nat.zero_le _)]; omega, ?_, ?_⟩ <;> rw [hw]
  · refine naf_len' (k := 2000001) ?_ (by omega)
    have h1 := hr.bound' hz
    have h2 := hs.bound' hz2
    rw [Nat.pow_succ]
    generalize 2 ^ 2000000 = N at h1 h2 ⊢
    omega
  · intro H5 p s5 np hp
    have s6 := (s3.trans (bt.same s4 nl)).trans s5
    generalize wl ns - wl ms = n at hp q
    walk_at "rd"
    intro e ne
    generalize ee : upd H5 e _ = H6
    obtain ⟨s7, he⟩ := new_of ee ne
    have hp2 := s7 _ _ hp
    refine eqD_ints (ms := []) (sq hp2) (sq he) ?_
    walk_at "rd"
    by_cases c : n = 0
    · subst c
      rw [naf_zero, if_pos rfl]
      exact q _ (s6.trans s7)
    · have hs := naf_sign n c
      rw [if_neg (fun e => by rw [e] at hs; cases hs)]
      refine ⟨p, _, _, .int (if 0 < n then 1 else -1), rfl, rfl, sq hp2, atI_end (by rw [getLast_map, hs]; rfl), ?_⟩
      have := q _ (s6.trans s7)
      unfold sgn at this
      rw [if_neg c] at this
      exact this
def tot (rows : List (List Int)) : Int := (rows.map wl).sum
theorem tot_snoc {rows : List (List Int)} {i : Nat} {r : List Int} (h : rows[i]? = some r) : tot (rows.take (i + 1)) = tot (rows.take i) + wl r := by
  unfold tot
  rw [take_snoc h, List.map_append, List.sum_append]; simp
/-- the first things of xs are rows -/
def RowsL (K : PySem.W.Frag) (H : Hp) (xs : List V) (rows : List (List Int)) : Prop := ∀ (i : Nat) (r : List Int), rows[i]? = some r → ∃ a : Addr, xs[i]? = some (V.ref a) ∧ SqL K H a (r.map V.int) ∧ Row r ∧ r.length ≤ 8000000
def sp_together (K : PySem.W.Frag) (C : Ad) : Sp := fun vs H Q E => ∃ x, vs = [x] ∧ ((∃ n, Th K H x n ∧ n ≠ "list" ∧ ∀ H', Same H H' → E (.ref C.NoRow) none H') ∨
  (∃ a xs rows, x = .ref a ∧ SqL K H a xs ∧ RowsL K H xs rows ∧
    ((rows.length = xs.length ∧ (naf (tot rows)).length ≤ 8000000 ∧ newL H (naf (tot rows)) Q) ∨
     (∃ y, xs[rows.length]? = some y ∧ RowB K H y false ∧ ∀ H', Same H H' → E (.ref C.NoRow) none H'))))
/-- the reading of together; slots: 0 rows 1 totals 2 row -/
def t_together (K : PySem.W.Frag) (C : Ad) (E : XK) : TS :=
      (tSeq (tIfS (tNot (tB (tCB (rIsi K) (tCons (tVar 0) (tCons (tC (.ty "list")) tNil))))) (tRaiseX C.NoRow E) tNext)
      (tSeq (tAsg (tLst tNil) (gName 1))
      (tSeq (tFor (iList K (tVar 0)) (gName 2) (tSeq (tDrop (tF (sp_need_row K C) E (tCons (tVar 2) tNil)))
      (tDrop (tF (sp_laid_over K C) E (tCons (tVar 1) (tCons (tVar 2) (tCons (tC (.int 1)) (tCons (tC (.int 0)) tNil))))))))
      (tRet (tF (sp_settled K C) E (tCons (tVar 1) tNil))))))
theorem r_together (h : sp_together K C vs H Q E) : t_together K C E { nx := fun _ H' => Q .non H', rt := Q } (st 3 vs) H := by
  obtain ⟨x, rfl, h⟩ := h
  unfold t_together
  walk_at "st"
  walk_at "rd"
  rcases h with ⟨n, hn, hne, q⟩ | ⟨a, xs, rows, rfl, hx, hrows, h⟩
  · refine isi_list hn ?_
    rw [decide_eq_false hne]
    walk_at "rd"
    exact q H (Same.refl H)
  refine isi_list (th_sq hx) ?_
  rw [decide_eq_true rfl]
  walk_at "rd"
  intro l nl
  generalize el : upd H l _ = H1
  obtain ⟨s1, hl⟩ := new_of el nl
  have hlen : rows.length ≤ xs.length := by
    cases hc : rows.length with
    | zero => omega
    | succ k =>
      obtain ⟨r, hr⟩ := getE (l := rows) (i := k) (by omega)
      obtain ⟨b, hb, _⟩ := hrows k r hr
      have := (List.getElem?_eq_some_iff.mp hb).1
      omega
  refine f_list (fun i σ H' => ∃ y ts, σ = [some (.ref a), some (.ref l), y] ∧ Same H H' ∧ H' l = some (.lst (ts.map V.int)) ∧ wl ts = tot (rows.take i) ∧ ts.length ≤ 8000000 ∧ i ≤ rows.length) rfl ⟨none, [], rfl, s1, hl, by rw [List.take_zero]; rfl, Nat.zero_le _, Nat.zero_le _⟩ (s1.seq hx) (fun i σ H' ⟨_, _, _, p, _⟩ => p.seq hx) (fun i y σ H' hi hlt ⟨y1, ts, e, p1, p2, p3, p4, p5⟩ => ?_) (fun σ H' ⟨y1, ts, e, p1, p2, p3, p4, p5⟩ => ?_)
  · subst e
    walk_at "rd"
    by_cases c : i < rows.length
    · obtain ⟨r, hr⟩ := getE c
      obtain ⟨b, hb, hb2, hrr, hbz⟩ := hrows i r hr
      rw [hi] at hb
      obtain rfl : y = .ref b := by injection hb
      refine ⟨.ref b, true, rfl, RowB.row (p1.seq hb2) hrr hbz, fun _ H2 s2 => ?_, fun e => by cases e⟩
      walk_at "rd"
      have p2' := s2 _ _ p2
      have s3 := p1.trans s2
      refine ⟨l, b, ts, r, 1, 0, H, rfl, p2', s3, nl, hb2, Nat.zero_le _, p4, by omega, by omega, fun H3 bt h3 => ?_⟩
      refine ⟨_, _, rfl, bt.same s3 nl, h3, ?_, ?_, by omega⟩
      · rw [wl_lay _ _ _ _ (Nat.zero_le _), p3, tot_snoc hr]; simp
      · rw [len_lay _ _ _ _ (Nat.zero_le _)]; omega
    · have hir : i = rows.length := by omega
      rcases h with ⟨e, _⟩ | ⟨z, hz1, hz2, q⟩
      · omega
      · rw [← hir, hi] at hz1
        obtain rfl : y = z := by injection hz1
        exact ⟨y, false, rfl, hz2.same p1, (fun e => by cases e), fun _ H' s => q H' (p1.trans s)⟩
  · subst e
    walk_at "rd"
    rcases h with ⟨e, hz, q⟩ | ⟨z, hz1, hz2, q⟩
    · rw [← e, List.take_length] at p3
      refine ⟨l, _, rfl, sq p2, p4, by rw [p3]; exact hz, by rw [p3]; exact q.from p1⟩
    · have := (List.getElem?_eq_some_iff.mp hz1).1
      omega
end
end Lf

namespace Lf
open PySem PySem.Spec L2
open PyProof.Rows hiding St
/-! ### a row of a number's worth -/
structure RowInv (n s left : Int) (us : List Int) : Prop where
  sg : s = 1 ∨ s = -1
  nn : 0 ≤ left
  wo : 2 ^ us.length * (s * left) + wl us = n
  fg : ∀ x ∈ us, Fg x
  la : left = 0 → LastNz us
  sz : (us.length ≤ 212 ∧ left ≤ 2 ^ (212 - us.length)) ∨ (left = 0 ∧ us.length ≤ 213)
theorem last_snoc {us : List Int} {x : Int} (h : x ≠ 0) : LastNz (us ++ [x]) := by
  unfold LastNz
  rw [List.getLast?_concat]
  exact fun e => h (by injection e)
theorem sz_half {us : List Int} {left : Int} (h : (us.length ≤ 212 ∧ left ≤ 2 ^ (212 - us.length)) ∨ (left = 0 ∧ us.length ≤ 213)) (c : 0 < left) {l2 x : Int} (e : l2 = left / 2 ∨ (l2 = (left + 1) / 2 ∧ 1 < left)) : ((us ++ [x]).length ≤ 212 ∧ l2 ≤ 2 ^ (212 - (us ++ [x]).length)) ∨ (l2 = 0 ∧ (us ++ [x]).length ≤ 213) := by
  rw [List.length_append, show [x].length = 1 from rfl]
  rcases h with ⟨h1, h2⟩ | ⟨h1, _⟩
  · generalize hk : 212 - us.length = k at h2
    cases k with
    | zero =>
      have h3 : left ≤ 1 := h2
      refine .inr ⟨?_, by omega⟩
      rcases e with e | ⟨e, e2⟩ <;> omega
    | succ k =>
      rw [Int.pow_succ] at h2
      refine .inl ⟨by omega, ?_⟩
      rw [show 212 - (us.length + 1) = k by omega]
      generalize (2 : Int) ^ k = P at h2
      rcases e with e | ⟨e, e2⟩ <;> omega
  · omega
theorem RowInv.one {n s left : Int} {us : List Int} (h : RowInv n s left us) (c : left % 2 = 1) (c2 : 1 < left) : RowInv n s ((left + 1) / 2) (us ++ [0 - s]) := by
  obtain ⟨sg, nn, wo, fg, la, sz⟩ := h
  refine ⟨sg, by omega, ?_, ?_, fun e => by omega, sz_half sz (by omega) (.inr ⟨rfl, c2⟩)⟩
  · obtain ⟨k, rfl⟩ : ∃ k, left = 2 * k + 1 := ⟨left / 2, by omega⟩
    rw [show (2 * k + 1 + 1) / 2 = k + 1 by omega, List.length_append, show [0 - s].length = 1 from rfl, Int.pow_succ, wl_append, ← wo]
    simp only [wl]
    generalize (2 : Int) ^ us.length = P
    rcases sg with rfl | rfl <;> simp only [Int.mul_add, Int.add_mul, Int.mul_sub, Int.one_mul, Int.mul_one, Int.neg_mul, Int.mul_neg, Int.mul_zero, Int.mul_assoc] <;> omega
  · intro x hx
    rcases List.mem_append.mp hx with hx | hx
    · exact fg x hx
    · rw [List.mem_singleton] at hx
      subst hx
      unfold Fg
      omega
theorem RowInv.two {n s left : Int} {us : List Int} (h : RowInv n s left us) (c : 0 < left) : RowInv n s (left / 2) (us ++ [left % 2 * s]) := by
  obtain ⟨sg, nn, wo, fg, la, sz⟩ := h
  refine ⟨sg, by omega, ?_, ?_, fun e => last_snoc ?_, sz_half sz c (.inl rfl)⟩
  · rw [List.length_append, show [left % 2 * s].length = 1 from rfl, Int.pow_succ, wl_append, ← wo]
    simp only [wl]
    have e : left = 2 * (left / 2) + left % 2 := by omega
    generalize left / 2 = k at e ⊢
    generalize left % 2 = r at e ⊢
    subst e
    generalize (2 : Int) ^ us.length = P
    rcases sg with rfl | rfl <;> simp only [Int.mul_add, Int.add_mul, Int.mul_sub, Int.one_mul, Int.mul_one, Int.neg_mul, Int.mul_neg, Int.mul_zero, Int.mul_assoc] <;> omega
  · intro x hx
    rcases List.mem_append.mp hx with hx | hx
    · exact fg x hx
    · rw [List.mem_singleton] at hx
      subst hx
      unfold Fg
      rcases sg with rfl | rfl <;> omega
  · have : left = 1 := by omega
    subst this
    rcases sg with rfl | rfl <;> decide
theorem RowInv.done {n s left : Int} {us : List Int} (h : RowInv n s left us) (c : ¬ 0 < left) : Row us ∧ wl us = n ∧ us.length ≤ 213 := by
  obtain ⟨sg, nn, wo, fg, la, sz⟩ := h
  have : left = 0 := by omega
  subst this
  refine ⟨⟨fg, la rfl⟩, ?_, by omega⟩
  rw [← wo]; simp
/-- the promise: a row of the number's worth -/
def spRow (K : PySem.W.Frag) (C : Ad) : Sp := fun vs H Q _ => ∃ n c : Int, vs = [.int n, .int c] ∧ n.natAbs < 2 ^ 212 ∧
  ∀ H' p rs, Same H H' → H p = none → H' p = some (.lst (rs.map V.int)) → Row rs → wl rs = n → rs.length ≤ 213 → Q (.ref p) H'
section
variable {K : PySem.W.Frag} {C : Ad} {vs : List V} {H : Hp} {Q : VK} {E : XK}
theorem sg_is (n : Int) : (1 - 2 * (if decide (n < 0) = true then (1 : Int) else 0)) = if n < 0 then -1 else 1 := by
  by_cases h : n < 0 <;> simp [h]
theorem rowInv_start (n : Int) (hn : n.natAbs < 2 ^ 212) : RowInv n (1 - 2 * (if decide (n < 0) = true then (1 : Int) else 0)) (if n < 0 then -n else n) [] := by
  rw [sg_is]
  have e : (2 : Int) ^ (212 - ([] : List Int).length) = ((2 ^ 212 : Nat) : Int) := by decide
  refine { sg := ?_, nn := ?_, wo := ?_, fg := (fun x hx => by cases hx), la := (fun _ => by simp [LastNz]), sz := .inl ⟨Nat.zero_le _, ?_⟩ }
  · split <;> simp
  · split <;> omega
  · simp only [List.length_nil, wl]; split <;> omega
  · rw [e]
    generalize 2 ^ 212 = P at hn ⊢
    split <;> omega
/-- the state of the loop -/
def RowSt (H : Hp) (n c : Int) (p : Addr) (m : Nat) (σ : St) (H' : Hp) : Prop := ∃ s left us, σ = [some (.int n), some (.int c), some (.int s), some (.int left), some (.ref p)] ∧ Same H H' ∧ H' p = some (.lst (us.map V.int)) ∧ RowInv n s left us ∧ m = left.toNat
theorem RowSt.app {H H' : Hp} {n c s left l2 x : Int} {p : Addr} {us : List Int} (np : H p = none) (s1 : Same H H') (hi : RowInv n s left us) (hi2 : RowInv n s l2 (us ++ [x])) (hl : 0 < left) (hl2 : l2 < left) :
    ∃ m', m' < left.toNat ∧ RowSt H n c p m' [some (.int n), some (.int c), some (.int s), some (.int l2), some (.ref p)] (upd H' p (.lst (us.map V.int ++ [.int x]))) :=
  ⟨l2.toNat, by omega, s, l2, us ++ [x], rfl, s1.mut np, by rw [upd_same, List.map_append]; rfl, hi2, rfl⟩
theorem RowInv.len {n s left : Int} {us : List Int} (h : RowInv n s left us) : us.length ≤ 213 := by
  have := h.sz
  omega
abbrev sp__law_row_k05 := spRow
/-- the reading of _law_row; slots: 0 _law_number_here 1 _law_cell 2 _law_sign 3 _law_left 4 _law_found -/
def t__law_row_k05 (K : PySem.W.Frag) (C : Ad) (E : XK) : TS :=
      (tSeq (tAsg (tOp qSub (tC (.int 1)) (tOp qMul (tC (.int 2)) (tCB qInt1 (tCons (tOp qLt (tVar 0) (tC (.int 0))) tNil)))) (gName 2))
      (tSeq (tAsg (tCB qAbs (tCons (tVar 0) tNil)) (gName 3))
      (tSeq (tAsg (tLst tNil) (gName 4))
      (tSeq (tWhile (tTest (tOp qGt (tVar 3) (tC (.int 0)))) (tSeq (tIfS (tAnd (tTest (tOp rEq (tOp qMod (tVar 3) (tC (.int 2))) (tC (.int 1)))) (tAnd (tTest (tOp qGt (tVar 3) (tC (.int 1)))) (tTest (tOp rEq (tOp qMod (tF (sp__law_mixed K C) E (tCons (tVar 1) (tCons (tOp qMod (tCB (qLen K) (tCons (tVar 4) tNil)) (tC (.int 97))) tNil))) (tC (.int 4))) (tC (.int 1)))))) (tSeq (tDrop (tBM K "list" rAppend (tVar 4) (tCons (tOp qSub (tC (.int 0)) (tVar 2)) tNil)))
      (tAsg (tOp qAdd (tVar 3) (tC (.int 1))) (gName 3))) (tDrop (tBM K "list" rAppend (tVar 4) (tCons (tOp qMul (tOp qMod (tVar 3) (tC (.int 2))) (tVar 2)) tNil))))
      (tAsg (tOp qDiv (tVar 3) (tC (.int 2))) (gName 3))))
      (tRet (tVar 4))))))
theorem r__law_row_k05 (h : sp__law_row_k05 K C vs H Q E) : t__law_row_k05 K C E { nx := fun _ H' => Q .non H', rt := Q } (st 5 vs) H := by
  obtain ⟨n, c, rfl, hn, q⟩ := h
  unfold t__law_row_k05
  walk_at "st"
  walk_at "rd"
  intro p np
  have h0 := rowInv_start n hn
  generalize 1 - 2 * (if decide (n < 0) = true then (1 : Int) else 0) = s at h0 ⊢
  generalize (if n < 0 then -n else n) = left at h0 ⊢
  generalize el : upd H p _ = H1
  obtain ⟨s1, hp⟩ := new_of el np
  refine f_while (RowSt H n c p) left.toNat (by walk_at "mono") ⟨s, left, [], rfl, s1, hp, h0, rfl⟩ ?_
  rintro m σ H' ⟨s, left, us, rfl, s2, hp2, hi, rfl⟩
  walk_at "rd"
  by_cases cl : 0 < left
  · rw [if_pos cl]
    have  two : ∀ (H2 : Hp), Same H H2 → H2 p = some (.lst (us.map V.int)) → tyV K "list" (V.ref p) H2 ∧ (-18446744073709551616 < left % 2 ∧ left % 2 < 18446744073709551616 ∨ -18446744073709551616 < s ∧ s < 18446744073709551616) ∧ rAppend (V.ref p) [V.int (left % 2 * s)] H2 fun x H1 => ∃ m', m' < left.toNat ∧ RowSt H n c p m' [some (.int n), some (.int c), some (.int s), some (.int (left / 2)), some (.ref p)] H1 := fun H2 s3 hp3 =>
      ⟨.inl ⟨rfl, _, sq hp3⟩, .inl ⟨by omega, by omega⟩, p, _, _, rfl, rfl, hp3, by rw [List.length_map, sizeLine_is]; have := hi.len; omega, RowSt.app np s3 hi (hi.two cl) cl (by omega)⟩
    by_cases c1 : left % 2 = 1
    · rw [if_pos c1]
      by_cases c2 : 1 < left
      · rw [if_pos c2]
        have one : ∀ (H2 : Hp), Same H H2 → H2 p = some (.lst (us.map V.int)) → tyV K "list" (V.ref p) H2 ∧ rAppend (V.ref p) [V.int (0 - s)] H2 fun x H1 => ∃ m', m' < left.toNat ∧ RowSt H n c p m' [some (.int n), some (.int c), some (.int s), some (.int ((left + 1) / 2)), some (.ref p)] H1 := fun H2 s3 hp3 =>
          ⟨.inl ⟨rfl, _, sq hp3⟩, p, _, _, rfl, rfl, hp3, by rw [List.length_map, sizeLine_is]; have := hi.len; omega, RowSt.app np s3 hi (hi.one c1 c2) cl (by omega)⟩
        refine ⟨p, _, rfl, .inl (sq hp2), ?_⟩
        rw [List.length_map]
        walk_at "rd"
        refine ⟨c, _, rfl, by omega, by omega, ?_⟩
        walk_at "rd"
        split
        · exact one _ s2 hp2
        · exact two _ s2 hp2
      · rw [if_neg c2]
        exact two _ s2 hp2
    · rw [if_neg c1]
      exact two _ s2 hp2
  · rw [if_neg cl]
    obtain ⟨r1, r2, r3⟩ := hi.done cl
    exact q H' p us s2 np hp2 r1 r2 r3
abbrev sp__law_row_k06 := spRow
/-- the reading of _law_row; slots: 0 _law_number_here 1 _law_cell 2 _law_sign 3 _law_left 4 _law_found -/
def t__law_row_k06 (K : PySem.W.Frag) (C : Ad) (E : XK) : TS :=
      (tSeq (tAsg (tOp qSub (tC (.int 1)) (tOp qMul (tC (.int 2)) (tCB qInt1 (tCons (tOp qLt (tVar 0) (tC (.int 0))) tNil)))) (gName 2))
      (tSeq (tAsg (tCB qAbs (tCons (tVar 0) tNil)) (gName 3))
      (tSeq (tAsg (tLst tNil) (gName 4))
      (tSeq (tWhile (tTest (tOp qGt (tVar 3) (tC (.int 0)))) (tSeq (tIfS (tAnd (tTest (tOp rEq (tOp qMod (tVar 3) (tC (.int 2))) (tC (.int 1)))) (tAnd (tTest (tOp qGt (tVar 3) (tC (.int 1)))) (tTest (tOp rEq (tOp qMod (tF (sp__law_mixed K C) E (tCons (tVar 1) (tCons (tOp qMod (tCB (qLen K) (tCons (tVar 4) tNil)) (tC (.int 97))) tNil))) (tOp (rIxL K) (tLst (tCons (tC (.int 2)) (tCons (tC (.int 9)) tNil))) (tOp qMod (tVar 1) (tC (.int 2))))) (tC (.int 1)))))) (tSeq (tDrop (tBM K "list" rAppend (tVar 4) (tCons (tOp qSub (tC (.int 0)) (tVar 2)) tNil)))
      (tAsg (tOp qAdd (tVar 3) (tC (.int 1))) (gName 3))) (tDrop (tBM K "list" rAppend (tVar 4) (tCons (tOp qMul (tOp qMod (tVar 3) (tC (.int 2))) (tVar 2)) tNil))))
      (tAsg (tOp qDiv (tVar 3) (tC (.int 2))) (gName 3))))
      (tRet (tVar 4))))))
theorem r__law_row_k06 (h : sp__law_row_k06 K C vs H Q E) : t__law_row_k06 K C E { nx := fun _ H' => Q .non H', rt := Q } (st 5 vs) H := by
  obtain ⟨n, c, rfl, hn, q⟩ := h
  unfold t__law_row_k06
  walk_at "st"
  walk_at "rd"
  intro p np
  have h0 := rowInv_start n hn
  generalize 1 - 2 * (if decide (n < 0) = true then (1 : Int) else 0) = s at h0 ⊢
  generalize (if n < 0 then -n else n) = left at h0 ⊢
  generalize el : upd H p _ = H1
  obtain ⟨s1, hp⟩ := new_of el np
  refine f_while (RowSt H n c p) left.toNat (by walk_at "mono") ⟨s, left, [], rfl, s1, hp, h0, rfl⟩ ?_
  rintro m σ H' ⟨s, left, us, rfl, s2, hp2, hi, rfl⟩
  walk_at "rd"
  by_cases cl : 0 < left
  · rw [if_pos cl]
    have  two : ∀ (H2 : Hp), Same H H2 → H2 p = some (.lst (us.map V.int)) → tyV K "list" (V.ref p) H2 ∧ (-18446744073709551616 < left % 2 ∧ left % 2 < 18446744073709551616 ∨ -18446744073709551616 < s ∧ s < 18446744073709551616) ∧ rAppend (V.ref p) [V.int (left % 2 * s)] H2 fun x H1 => ∃ m', m' < left.toNat ∧ RowSt H n c p m' [some (.int n), some (.int c), some (.int s), some (.int (left / 2)), some (.ref p)] H1 := fun H2 s3 hp3 =>
      ⟨.inl ⟨rfl, _, sq hp3⟩, .inl ⟨by omega, by omega⟩, p, _, _, rfl, rfl, hp3, by rw [List.length_map, sizeLine_is]; have := hi.len; omega, RowSt.app np s3 hi (hi.two cl) cl (by omega)⟩
    by_cases c1 : left % 2 = 1
    · rw [if_pos c1]
      by_cases c2 : 1 < left
      · rw [if_pos c2]
        have one : ∀ (H2 : Hp), Same H H2 → H2 p = some (.lst (us.map V.int)) → tyV K "list" (V.ref p) H2 ∧ rAppend (V.ref p) [V.int (0 - s)] H2 fun x H1 => ∃ m', m' < left.toNat ∧ RowSt H n c p m' [some (.int n), some (.int c), some (.int s), some (.int ((left + 1) / 2)), some (.ref p)] H1 := fun H2 s3 hp3 =>
          ⟨.inl ⟨rfl, _, sq hp3⟩, p, _, _, rfl, rfl, hp3, by rw [List.length_map, sizeLine_is]; have := hi.len; omega, RowSt.app np s3 hi (hi.one c1 c2) cl (by omega)⟩
        refine ⟨p, _, rfl, .inl (sq hp2), ?_⟩
        rw [List.length_map]
        walk_at "rd"
        refine ⟨c, _, rfl, by omega, by omega, ?_⟩
        walk_at "rd"
        intro e ne
        generalize ee : upd H' e _ = H2
        obtain ⟨s3, he⟩ := new_of ee ne
        obtain ⟨w, hw, hw2⟩ : ∃ w : Int, atI [V.int 2, V.int 9] (c % 2) = some (.int w) ∧ (w = 2 ∨ w = 9) := by
          rcases (by omega : c % 2 = 0 ∨ c % 2 = 1) with e | e <;> rw [e]
          · exact ⟨2, rfl, .inl rfl⟩
          · exact ⟨9, rfl, .inr rfl⟩
        refine ⟨e, _, _, _, rfl, rfl, sq he, hw, ?_⟩
        walk_at "rd"
        refine ⟨by omega, ?_⟩
        split
        · exact one _ (s2.trans s3) (s3 _ _ hp2)
        · exact two _ (s2.trans s3) (s3 _ _ hp2)
      · rw [if_neg c2]
        exact two _ s2 hp2
    · rw [if_neg c1]
      exact two _ s2 hp2
  · rw [if_neg cl]
    obtain ⟨r1, r2, r3⟩ := hi.done cl
    exact q H' p us s2 np hp2 r1 r2 r3
abbrev sp__law_row_k07 := spRow
/-- the reading of _law_row; slots: 0 _law_number_here 1 _law_cell 2 _law_sign 3 _law_left 4 _law_found -/
def t__law_row_k07 (K : PySem.W.Frag) (C : Ad) (E : XK) : TS :=
      (tSeq (tAsg (tOp qSub (tC (.int 1)) (tOp qMul (tC (.int 2)) (tCB qInt1 (tCons (tOp qLt (tVar 0) (tC (.int 0))) tNil)))) (gName 2))
      (tSeq (tAsg (tCB qAbs (tCons (tVar 0) tNil)) (gName 3))
      (tSeq (tAsg (tLst tNil) (gName 4))
      (tSeq (tWhile (tTest (tOp qGt (tVar 3) (tC (.int 0)))) (tSeq (tIfS (tAnd (tTest (tOp rEq (tOp qMod (tVar 3) (tC (.int 2))) (tC (.int 1)))) (tAnd (tTest (tOp qGt (tVar 3) (tC (.int 1)))) (tTest (tOp rEq (tOp qMod (tF (sp__law_mixed K C) E (tCons (tVar 1) (tCons (tOp qMod (tCB (qLen K) (tCons (tVar 4) tNil)) (tC (.int 97))) tNil))) (tC (.int 3))) (tC (.int 1)))))) (tSeq (tDrop (tBM K "list" rAppend (tVar 4) (tCons (tOp qSub (tC (.int 0)) (tVar 2)) tNil)))
      (tAsg (tOp qAdd (tVar 3) (tC (.int 1))) (gName 3))) (tDrop (tBM K "list" rAppend (tVar 4) (tCons (tOp qMul (tOp qMod (tVar 3) (tC (.int 2))) (tVar 2)) tNil))))
      (tAsg (tOp qDiv (tVar 3) (tC (.int 2))) (gName 3))))
      (tRet (tVar 4))))))
theorem r__law_row_k07 (h : sp__law_row_k07 K C vs H Q E) : t__law_row_k07 K C E { nx := fun _ H' => Q .non H', rt := Q } (st 5 vs) H := by
  obtain ⟨n, c, rfl, hn, q⟩ := h
  unfold t__law_row_k07
  walk_at "st"
  walk_at "rd"
  intro p np
  have h0 := rowInv_start n hn
  generalize 1 - 2 * (if decide (n < 0) = true then (1 : Int) else 0) = s at h0 ⊢
  generalize (if n < 0 then -n else n) = left at h0 ⊢
  generalize el : upd H p _ = H1
  obtain ⟨s1, hp⟩ := new_of el np
  refine f_while (RowSt H n c p) left.toNat (by walk_at "mono") ⟨s, left, [], rfl, s1, hp, h0, rfl⟩ ?_
  rintro m σ H' ⟨s, left, us, rfl, s2, hp2, hi, rfl⟩
  walk_at "rd"
  by_cases cl : 0 < left
  · rw [if_pos cl]
    have  two : ∀ (H2 : Hp), Same H H2 → H2 p = some (.lst (us.map V.int)) → tyV K "list" (V.ref p) H2 ∧ (-18446744073709551616 < left % 2 ∧ left % 2 < 18446744073709551616 ∨ -18446744073709551616 < s ∧ s < 18446744073709551616) ∧ rAppend (V.ref p) [V.int (left % 2 * s)] H2 fun x H1 => ∃ m', m' < left.toNat ∧ RowSt H n c p m' [some (.int n), some (.int c), some (.int s), some (.int (left / 2)), some (.ref p)] H1 := fun H2 s3 hp3 =>
      ⟨.inl ⟨rfl, _, sq hp3⟩, .inl ⟨by omega, by omega⟩, p, _, _, rfl, rfl, hp3, by rw [List.length_map, sizeLine_is]; have := hi.len; omega, RowSt.app np s3 hi (hi.two cl) cl (by omega)⟩
    by_cases c1 : left % 2 = 1
    · rw [if_pos c1]
      by_cases c2 : 1 < left
      · rw [if_pos c2]
        have one : ∀ (H2 : Hp), Same H H2 → H2 p = some (.lst (us.map V.int)) → tyV K "list" (V.ref p) H2 ∧ rAppend (V.ref p) [V.int (0 - s)] H2 fun x H1 => ∃ m', m' < left.toNat ∧ RowSt H n c p m' [some (.int n), some (.int c), some (.int s), some (.int ((left + 1) / 2)), some (.ref p)] H1 := fun H2 s3 hp3 =>
          ⟨.inl ⟨rfl, _, sq hp3⟩, p, _, _, rfl, rfl, hp3, by rw [List.length_map, sizeLine_is]; have := hi.len; omega, RowSt.app np s3 hi (hi.one c1 c2) cl (by omega)⟩
        refine ⟨p, _, rfl, .inl (sq hp2), ?_⟩
        rw [List.length_map]
        walk_at "rd"
        refine ⟨c, _, rfl, by omega, by omega, ?_⟩
        walk_at "rd"
        split
        · exact one _ s2 hp2
        · exact two _ s2 hp2
      · rw [if_neg c2]
        exact two _ s2 hp2
    · rw [if_neg c1]
      exact two _ s2 hp2
  · rw [if_neg cl]
    obtain ⟨r1, r2, r3⟩ := hi.done cl
    exact q H' p us s2 np hp2 r1 r2 r3
end
end Lf
namespace Lf
open PySem PySem.Spec L2
open PyProof.Rows hiding St
/-! ### deep ==: the same on both sides -/
theorem shaped_eqv {d : PyData} (h : SeqAt.shaped d = true) : PyData.eqv d d = true := SeqAt.eqv_refl d (SeqAt.canLay_of_shaped h)
section
variable {K : PySem.W.Frag} {H : Hp} {x y : V} {d : PyData} {Q : VK}
theorem eqD_same (h1 : Dp K H x d) (h2 : Dp K H y d) (hs : SeqAt.shaped d = true) (q : Q (.bl true) H) : rEqD K x y H Q := ⟨d, d, h1, h2, hs, hs, by rw [shaped_eqv hs]; exact q⟩
theorem neD_same (h1 : Dp K H x d) (h2 : Dp K H y d) (hs : SeqAt.shaped d = true) (q : Q (.bl false) H) : rNeD K x y H Q := ⟨d, d, h1, h2, hs, hs, by rw [shaped_eqv hs]; exact q⟩
theorem dp_ints {a : Addr} {ns : List Int} (h : SqL K H a (ns.map V.int)) : Dp K H (.ref a) (.list (ns.map PyData.int)) := .lst h (dpAll_ints ns)
end
def intsD (ns : List Int) : PyData := .list (ns.map PyData.int)
theorem can_intsD (ns : List Int) : (intsD ns).canLay0 = true := by simp [intsD, PyData.canLay0, canLay_ints]
theorem depth_intsD (ns : List Int) : (intsD ns).depth ≤ 2 := by
  have := depth_ints ns
  simp only [intsD, PyData.depth]
  omega
theorem canAll_rows : ∀ rows : List (List Int), PyData.canLayAll0 (rows.map intsD) = true
  | [] => by simp [PyData.canLayAll0]
  | r :: rows => by
    have := canAll_rows rows
    simp [PyData.canLayAll0, can_intsD, this]
theorem depthAll_rows : ∀ rows : List (List Int), PyData.depthAll (rows.map intsD) ≤ 2
  | [] => by simp [PyData.depthAll]
  | r :: rows => by
    have := depthAll_rows rows
    have := depth_intsD r
    simp only [List.map_cons, PyData.depthAll]
    omega
theorem shaped_rows (rows : List (List Int)) : SeqAt.shaped (.list (rows.map intsD)) = true := by
  unfold SeqAt.shaped
  have h1 : (PyData.list (rows.map intsD)).canLay0 = true := by simp [PyData.canLay0, canAll_rows]
  have h2 : (PyData.list (rows.map intsD)).depth ≤ 64 := by
    have := depthAll_rows rows
    simp only [PyData.depth]
    omega
  rw [h1, decide_eq_true h2]; rfl
theorem shaped_rowsT (rows : List (List Int)) : SeqAt.shaped (.tuple (rows.map intsD)) = true := by
  unfold SeqAt.shaped
  have h1 : (PyData.tuple (rows.map intsD)).canLay0 = true := by simp [PyData.canLay0, canAll_rows]
  have h2 : (PyData.tuple (rows.map intsD)).depth ≤ 64 := by
    have := depthAll_rows rows
    simp only [PyData.depth]
    omega
  rw [h1, decide_eq_true h2]; rfl
/-! ### enumerate of what an expression has given -/
def loopE (K : PySem.W.Frag) (g : TG) (tb : TS) (D : Ends) (a : Addr) (σ : St) (H : Hp) : Prop := ∃ W : Nat → Nat → St → Hp → Prop, (∃ m, W 0 m σ H) ∧ ∀ i m σ H, W i m σ H →
  ((Ite K a).stop i H ∧ D.nx σ H) ∨ ((Ite K a).go i H ∧ ∃ N : St → Hp → Prop, (∀ σ' H', N σ' H' → ∃ m', m' < m ∧ W (i + 1) m' σ' H') ∧ ∀ x H', (Ite K a).yld i H x H' → g x σ H' fun σ2 H2 => tb { D with nx := N, ct := N, bk := D.nx } σ2 H2)
section
variable {K : PySem.W.Frag} {σ : St} {H : Hp} {D : Ends}
theorem r_forE {te : TE} {g : TG} {tb : TS} : tFor (iEnum K (tCons te tNil)) g tb D σ H = te σ H fun x H1 => ∃ a xs, [x] = [.ref a] ∧ SqL K H1 a xs ∧ loopE K g tb D a σ H1 := rfl
theorem l_enum {a : Addr} {xs : List V} {i1 i2 : Nat} {tb : TS} (Pv : Nat → St → Hp → Prop) (h0 : Pv 0 σ H) (hl : ∀ i σ H, Pv i σ H → SqL K H a xs)
    (hs : ∀ i x σ H T, xs[i]? = some x → i < xs.length → Pv i σ H → H T = none → tb { D with nx := Pv (i + 1), ct := Pv (i + 1), bk := D.nx } ((σ.set i1 (some (.int (i : Nat)))).set i2 (some x)) (upd H T (.tup [.int (i : Nat), x])))
    (hd : ∀ σ H, Pv xs.length σ H → D.nx σ H) : loopE K (gTup K 2 (gCons (gName i1) (gCons (gName i2) gNil))) tb D a σ H := by
  refine for_any xs.length Pv h0 (fun i σ H hi p => ⟨xs, xs[i], hl i σ H p, by simp [hi]⟩) (fun σ H p => ⟨xs, hl _ σ H p, Nat.le_refl _⟩) (fun i σ H hi p x H' y => ?_) hd
  obtain ⟨T, z, rfl, nT, rfl, k⟩ := y
  have hz := k xs (hl i σ H p)
  exact ⟨T, [.int (i : Nat), z], rfl, SqT.of upd_same, rfl, _, _, rfl, _, _, rfl, rfl, hs i z σ H T hz hi p nT⟩
end
/-! ### a comprehension over a list that an expression has given -/
def lcL (K : PySem.W.Frag) (g : TG) (tt : TT) (te : TE) (vs : List Nat) (Q : VK) (a : Addr) (σ : St) (H1 : Hp) : Prop := (∃ xs, SqL K H1 a xs) ∧ ∀ D, H1 D = none → ∃ W : Nat → Nat → Hp → Prop, (∃ m, W 0 m (upd H1 D (.lst []))) ∧ ∀ i m H, W i m H →
  (((Itl K a).stop i H ∧ Q (.ref D) H) ∨ ((Itl K a).go i H ∧ ∃ Nx : Hp → Prop, (∀ H', Nx H' → ∃ m', m' < m ∧ W (i + 1) m' H') ∧ ∀ x H', (Itl K a).yld i H x H' → g x (wipe σ vs) H' fun σ2 H2 => wipe σ2 vs = wipe σ vs ∧ tt σ2 H2 fun b H3 =>
    if b = true then te σ2 H3 fun y H4 => ∃ acc, H4 D = some (.lst acc) ∧ acc.length < sizeLine ∧ Nx (upd H4 D (.lst (acc ++ [y]))) else Nx H3))
section
variable {K : PySem.W.Frag} {σ : St} {H H1 : Hp} {Q : VK}
theorem r_lcL {tl : TE} {g : TG} {tt : TT} {te : TE} {vs : List Nat} : tLc (iList K tl) g tt te vs σ H Q = tl σ H fun x H1 => ∃ a, x = .ref a ∧ lcL K g tt te vs Q a σ H1 := rfl
theorem l_lc {a : Addr} {xs : List V} {g : TG} {tt : TT} {te : TE} {vs : List Nat} (Pv : Addr → Nat → Hp → Prop) (hx : SqL K H1 a xs) (h0 : ∀ D H2, H1 D = none → Same H1 H2 → H2 D = some (.lst []) → Pv D 0 H2) (hl : ∀ D i H, Pv D i H → SqL K H a xs)
    (hs : ∀ D i x H, H1 D = none → xs[i]? = some x → i < xs.length → Pv D i H → g x (wipe σ vs) H fun σ2 H2 => wipe σ2 vs = wipe σ vs ∧ tt σ2 H2 fun b H3 =>
      if b = true then te σ2 H3 fun y H4 => ∃ acc, H4 D = some (.lst acc) ∧ acc.length < sizeLine ∧ Pv D (i + 1) (upd H4 D (.lst (acc ++ [y]))) else Pv D (i + 1) H3) (hd : ∀ D H, H1 D = none → Pv D xs.length H → Q (.ref D) H) : lcL K g tt te vs Q a σ H1 :=
  ⟨⟨_, hx⟩, fun D nD => lc_list (xs := xs) (Pv D) (h0 D _ nD (Same.new nD) upd_same) (fun i H _ p => hl D i H p) (fun i x H hi p => hs D i x H nD hi (List.getElem?_eq_some_iff.mp hi).1 p) (fun H p => hd D H nD p)⟩
end
/-! ### lists of rows -/
/-- the things of xs are lists of whole numbers: rows -/
def RA (K : PySem.W.Frag) (H : Hp) (xs : List V) (rows : List (List Int)) : Prop := xs.length = rows.length ∧ ∀ (i : Nat) (r : List Int), rows[i]? = some r → ∃ a : Addr, xs[i]? = some (V.ref a) ∧ SqL K H a (r.map V.int)
section
variable {K : PySem.W.Frag} {H H' : Hp} {xs : List V} {rows : List (List Int)}
theorem RA.same (h : RA K H xs rows) (s : Same H H') : RA K H' xs rows := ⟨h.1, fun i r hr => let ⟨a, h1, h2⟩ := h.2 i r hr; ⟨a, h1, s.seq h2⟩⟩
theorem RA.nil : RA K H [] [] := ⟨rfl, fun i r h => by cases h⟩
theorem RA.snoc {a : Addr} {r : List Int} (h : RA K H xs rows) (hr : SqL K H a (r.map V.int)) : RA K H (xs ++ [.ref a]) (rows ++ [r]) := by
  refine ⟨by rw [List.length_append, List.length_append, h.1]; rfl, fun i q hq => ?_⟩
  by_cases c : i < rows.length
  · rw [List.getElem?_append_left c] at hq
    obtain ⟨b, h1, h2⟩ := h.2 i q hq
    exact ⟨b, by rw [List.getElem?_append_left (by rw [h.1]; exact c)]; exact h1, h2⟩
  · have hi : i = rows.length := by
      have := (List.getElem?_eq_some_iff.mp hq).1
      rw [List.length_append] at this
      simp at this; omega
    subst hi
    rw [List.getElem?_append_right (Nat.le_refl _), Nat.sub_self] at hq
    cases hq
    exact ⟨a, by rw [← h.1, List.getElem?_append_right (Nat.le_refl _), Nat.sub_self]; rfl, hr⟩
theorem RA.at (h : RA K H xs rows) {i : Nat} {x : V} (hx : xs[i]? = some x) : ∃ (a : Addr) (r : List Int), x = .ref a ∧ rows[i]? = some r ∧ SqL K H a (r.map V.int) := by
  have hi := (List.getElem?_eq_some_iff.mp hx).1
  obtain ⟨r, hr⟩ := getE (l := rows) (i := i) (by rw [← h.1]; exact hi)
  obtain ⟨a, h1, h2⟩ := h.2 i r hr
  rw [hx] at h1
  exact ⟨a, r, by injection h1, hr, h2⟩
theorem RA.cons {x : V} {r : List Int} (h : RA K H (x :: xs) (r :: rows)) : (∃ a, x = .ref a ∧ SqL K H a (r.map V.int)) ∧ RA K H xs rows := by
  refine ⟨?_, by simpa using h.1, fun i q hq => h.2 (i + 1) q hq⟩
  obtain ⟨a, h1, h2⟩ := h.2 0 r rfl
  exact ⟨a, by injection h1, h2⟩
theorem RA.dp : ∀ {xs : List V} {rows : List (List Int)}, RA K H xs rows → DpAll K H xs (rows.map intsD)
  | [], [], _ => .nil
  | [], _ :: _, h => by cases h.1
  | _ :: _, [], h => by cases h.1
  | x :: xs, r :: rows, h => by
    obtain ⟨⟨a, rfl, h1⟩, h2⟩ := h.cons
    exact .cons (dp_ints h1) h2.dp
theorem RA.take (h : RA K H xs rows) (n : Nat) : RA K H (xs.take n) (rows.take n) := by
  refine ⟨by rw [List.length_take, List.length_take, h.1], fun i r hr => ?_⟩
  have hi : i < n := by
    have := (List.getElem?_eq_some_iff.mp hr).1
    rw [List.length_take] at this; omega
  rw [List.getElem?_take_of_lt hi] at hr ⊢
  exact h.2 i r hr
theorem RA.drop (h : RA K H xs rows) (n : Nat) : RA K H (xs.drop n) (rows.drop n) := by
  refine ⟨by rw [List.length_drop, List.length_drop, h.1], fun i r hr => ?_⟩
  rw [List.getElem?_drop] at hr ⊢
  exact h.2 _ r hr
theorem RA.rev (h : RA K H xs rows) : RA K H xs.reverse rows.reverse := by
  refine ⟨by rw [List.length_reverse, List.length_reverse, h.1], fun i r hr => ?_⟩
  have hi : i < rows.length := by
    have := (List.getElem?_eq_some_iff.mp hr).1
    rwa [List.length_reverse] at this
  rw [List.getElem?_reverse hi] at hr
  rw [List.getElem?_reverse (by rw [h.1]; exact hi), h.1]
  exact h.2 _ r hr
theorem RA.rowsL (h : RA K H xs rows) (hr : ∀ r ∈ rows, Row r ∧ r.length ≤ 8000000) : RowsL K H xs rows := fun i r hi =>
  let ⟨a, h1, h2⟩ := h.2 i r hi
  ⟨a, h1, h2, hr r (List.mem_of_getElem? hi)⟩
end
/-- ... the lists' objects are known, and none of them is D -/
def RAn (H : Hp) (D : Addr) (xs : List V) (rows : List (List Int)) : Prop := xs.length = rows.length ∧ ∀ (i : Nat) (r : List Int), rows[i]? = some r → ∃ a : Addr, xs[i]? = some (V.ref a) ∧ a ≠ D ∧ H a = some (.lst (r.map V.int))
section
variable {K : PySem.W.Frag} {H H' : Hp} {D : Addr} {xs : List V} {rows : List (List Int)}
theorem RAn.nil : RAn H D [] [] := ⟨rfl, fun i r h => by cases h⟩
theorem RAn.same (h : RAn H D xs rows) (s : Same H H') : RAn H' D xs rows := ⟨h.1, fun i r hr => let ⟨a, h1, h2, h3⟩ := h.2 i r hr; ⟨a, h1, h2, s _ _ h3⟩⟩
theorem RAn.set {o : HO} (h : RAn H D xs rows) : RAn (upd H D o) D xs rows := ⟨h.1, fun i r hr => let ⟨a, h1, h2, h3⟩ := h.2 i r hr; ⟨a, h1, h2, by rw [upd_ne h2]; exact h3⟩⟩
theorem RAn.ra (h : RAn H D xs rows) : RA K H xs rows := ⟨h.1, fun i r hr => let ⟨a, h1, _, h3⟩ := h.2 i r hr; ⟨a, h1, sq h3⟩⟩
theorem RAn.snoc {a : Addr} {r : List Int} (h : RAn H D xs rows) (ha : a ≠ D) (hr : H a = some (.lst (r.map V.int))) : RAn H D (xs ++ [.ref a]) (rows ++ [r]) := by
  refine ⟨by rw [List.length_append, List.length_append, h.1]; rfl, fun i q hq => ?_⟩
  by_cases c : i < rows.length
  · rw [List.getElem?_append_left c] at hq
    obtain ⟨b, h1, h2⟩ := h.2 i q hq
    exact ⟨b, by rw [List.getElem?_append_left (by rw [h.1]; exact c)]; exact h1, h2⟩
  · have hi : i = rows.length := by
      have := (List.getElem?_eq_some_iff.mp hq).1
      rw [List.length_append] at this
      simp at this; omega
    subst hi
    rw [List.getElem?_append_right (Nat.le_refl _), Nat.sub_self] at hq
    cases hq
    exact ⟨a, by rw [← h.1, List.getElem?_append_right (Nat.le_refl _), Nat.sub_self]; rfl, ha, hr⟩
end
theorem ne_none {H : Hp} {a b : Addr} {o : HO} (h : H a = some o) (k : H b = none) : a ≠ b := fun e => by rw [e, k] at h; cases h
theorem ne_none' {H : Hp} {a b : Addr} {o : HO} (h : H b = some o) (k : H a = none) : a ≠ b := fun e => by rw [← e, k] at h; cases h
end Lf

namespace Lf
open PySem PySem.Spec L2
open PyProof.Rows hiding St
/-! ### texts -/
def qRepS : R2 := fun x y H Q => ∃ (z : Str) (k : Int), x = .str z ∧ y = .int k ∧ 1 ≤ k ∧ k ≤ 1000000 ∧ z.length ≠ 0 ∧ z.length ≤ 1000000 ∧ z.length * k.toNat ≤ 1000000 ∧ Q (.str ⟨(List.replicate k.toNat z.cps.toList).flatten.toArray⟩) H
theorem fold_rep (a : Array Nat) : ∀ (n : Nat) (b : Array Nat), (List.replicate n a).foldl (· ++ ·) b = b ++ (List.replicate n a.toList).flatten.toArray
  | 0, b => by simp
  | n + 1, b => by
    rw [List.replicate_succ, List.foldl_cons, fold_rep a n, List.replicate_succ, List.flatten_cons]
    apply Array.ext'
    simp
theorem flat_len (a : List Nat) : ∀ n : Nat, (List.replicate n a).flatten.length = n * a.length
  | 0 => by simp
  | n + 1 => by rw [List.replicate_succ, List.flatten_cons, List.length_append, flat_len a n, Nat.add_mul]; omega
theorem op_rep_str {X : Cx} : OpR X (binaryOp .Mult) qRepS := by
  intro pins s σ H x y v u Q I rx ry h
  obtain ⟨z, k, rfl, rfl, h1, h2, h3, h5, h4, q⟩ := h
  obtain ⟨t, rfl⟩ := rx
  obtain ⟨t', rfl⟩ := ry
  have hl : (z.length : Int) ≤ 1000000 := by omega
  have hsz : z.length * k.toNat ≤ sizeLine := by rw [sizeLine_is]; omega
  refine PySem.P.mul_str ?_ (fun _ _ hgt => ?_) (fun _ _ => ?_) ?_
  · rw [decide_eq_false (by omega), decide_eq_false (by omega)]; rfl
  · have : (1000000 : Int) ≤ (2 ^ 63 - 1) / k := Int.le_ediv_of_mul_le (by omega) (by omega)
    omega
  · unfold Builtin.Str.tooLong
    simpa using hsz
  · rw [if_neg (by omega)]
    by_cases k1 : k = 1
    · subst k1
      rw [if_pos (by rfl)]
      refine ⟨.str _, H, I.tok _, ⟨_, rfl⟩, ?_⟩
      have e : (⟨(List.replicate (1 : Int).toNat z.cps.toList).flatten.toArray⟩ : Str) = z := by
        show (⟨([z.cps.toList].flatten).toArray⟩ : Str) = z
        simp
      rw [e] at q
      exact q
    rw [if_neg (by simp; omega)]
    have e : (⟨(List.replicate k.toNat z.cps).foldl (· ++ ·) #[]⟩ : Str) = ⟨(List.replicate k.toNat z.cps.toList).flatten.toArray⟩ := by
      rw [fold_rep]; simp
    rw [e]
    refine ⟨?_, ⟨.str _, H, I.tok _, ⟨_, rfl⟩, q⟩⟩
    show (List.replicate k.toNat z.cps.toList).flatten.toArray.size ≤ sizeLine
    rw [List.size_toArray, flat_len, Nat.mul_comm]
    exact hsz
theorem find_sign (c : Nat) : Txt.find (Str.ofString "-0+") ⟨#[c]⟩ = if c = 45 then 0 else if c = 48 then 1 else if c = 43 then 2 else -1 := by
  have e : Str.ofString "-0+" = ⟨#[45, 48, 43]⟩ := by decide
  rw [e]
  by_cases h1 : c = 45
  · subst h1; unfold Txt.find Builtin.Str.occurrences; simp [Builtin.Str.subAt, Str.length, Id.run, List.range', List.take]; rfl
  by_cases h2 : c = 48
  · subst h2; unfold Txt.find Builtin.Str.occurrences; simp [Builtin.Str.subAt, Str.length, Id.run, List.range', List.take]; rfl
  by_cases h3 : c = 43
  · subst h3; unfold Txt.find Builtin.Str.occurrences; simp [Builtin.Str.subAt, Str.length, Id.run, List.range', List.take]; rfl
  rw [if_neg h1, if_neg h2, if_neg h3]
  unfold Txt.find Builtin.Str.occurrences
  have e1 : ¬ 45 = c := fun h => h1 h.symm
  have e2 : ¬ 48 = c := fun h => h2 h.symm
  have e3 : ¬ 43 = c := fun h => h3 h.symm
  simp [Builtin.Str.subAt, Str.length, Id.run, List.range', e1, e2, e3, List.take]
  rfl

theorem pe_find {X : Cx} {o e : Expr} {to te : TE} {apos pos : Pos} (ho : PE X o to) (he : PE X e te) (hs : starEach [e] X.env = [(false, eval e X.env)] := by rfl) (hbase : attributeBase o "find" X.env (eval o X.env) = eval o X.env := by rfl) (hline : (apos.endLine == pos.line) = true := by rfl) :
    PE X (.Call (.Attribute o "find" apos) [e] [] pos) (qFind to te) :=
  pe_m1 F.slot_str_find F.type_str_find mt_find ho he hs hbase hline
/-! ### comprehensions over what isn't a list -/
def lcJ (J : It) (g : TG) (tt : TT) (te : TE) (vs : List Nat) (Q : VK) (σ : St) (H1 : Hp) : Prop := ∀ D, H1 D = none → ∃ W : Nat → Nat → Hp → Prop, (∃ m, W 0 m (upd H1 D (.lst []))) ∧ ∀ i m H, W i m H →
  ((J.stop i H ∧ Q (.ref D) H) ∨ (J.go i H ∧ ∃ Nx : Hp → Prop, (∀ H', Nx H' → ∃ m', m' < m ∧ W (i + 1) m' H') ∧ ∀ x H', J.yld i H x H' → g x (wipe σ vs) H' fun σ2 H2 => wipe σ2 vs = wipe σ vs ∧ tt σ2 H2 fun b H3 =>
    if b = true then te σ2 H3 fun y H4 => ∃ acc, H4 D = some (.lst acc) ∧ acc.length < sizeLine ∧ Nx (upd H4 D (.lst (acc ++ [y]))) else Nx H3))
section
variable {K : PySem.W.Frag} {σ : St} {H H1 : Hp} {Q : VK}
theorem r_lcR {tl : TE} {g : TG} {tt : TT} {te : TE} {vs : List Nat} : tLc (iRev K (tCons tl tNil)) g tt te vs σ H Q = tl σ H fun x H1 => ∃ a xs, [x] = [.ref a] ∧ SqL K H1 a xs ∧ lcJ (Itv K a xs.length) g tt te vs Q σ H1 := rfl
theorem r_lcS {tl : TE} {g : TG} {tt : TT} {te : TE} {vs : List Nat} : tLc (iStr tl) g tt te vs σ H Q = tl σ H fun x H1 => ∃ s, x = .str s ∧ lcJ (Its s) g tt te vs Q σ H1 := rfl
theorem r_lcE {tl : TE} {g : TG} {tt : TT} {te : TE} {vs : List Nat} : tLc (iEnum K (tCons tl tNil)) g tt te vs σ H Q = tl σ H fun x H1 => ∃ a xs, [x] = [.ref a] ∧ SqL K H1 a xs ∧ lcJ (Ite K a) g tt te vs Q σ H1 := rfl
theorem l_lcR {a : Addr} {xs : List V} {g : TG} {tt : TT} {te : TE} {vs : List Nat} (Pv : Addr → Nat → Hp → Prop) (h0 : ∀ D H2, H1 D = none → Same H1 H2 → H2 D = some (.lst []) → Pv D 0 H2) (hl : ∀ D i H, Pv D i H → SqL K H a xs)
    (hs : ∀ D i x H, H1 D = none → xs[xs.length - 1 - i]? = some x → i < xs.length → Pv D i H → g x (wipe σ vs) H fun σ2 H2 => wipe σ2 vs = wipe σ vs ∧ tt σ2 H2 fun b H3 =>
      if b = true then te σ2 H3 fun y H4 => ∃ acc, H4 D = some (.lst acc) ∧ acc.length < sizeLine ∧ Pv D (i + 1) (upd H4 D (.lst (acc ++ [y]))) else Pv D (i + 1) H3) (hd : ∀ D H, H1 D = none → Pv D xs.length H → Q (.ref D) H) : lcJ (Itv K a xs.length) g tt te vs Q σ H1 := fun D nD =>
  lc_any xs.length (Pv D) (h0 D _ nD (Same.new nD) upd_same) (fun i H hi p => ⟨hi, xs, xs[xs.length - 1 - i]'(by omega), hl D i H p, List.getElem?_eq_getElem (by omega)⟩) (fun H p => Nat.le_refl _)
    (fun i H hi p x H' y => by
      obtain ⟨rfl, k⟩ := y
      exact hs D i x _ nD (k xs (hl D i _ p)) hi p) (fun H p => hd D H nD p)
theorem l_lcS {s : Str} {g : TG} {tt : TT} {te : TE} {vs : List Nat} (Pv : Addr → Nat → Hp → Prop) (h0 : ∀ D H2, H1 D = none → Same H1 H2 → H2 D = some (.lst []) → Pv D 0 H2)
    (hs : ∀ D i c H, H1 D = none → s.cps[i]? = some c → i < s.cps.size → Pv D i H → g (.str ⟨#[c]⟩) (wipe σ vs) H fun σ2 H2 => wipe σ2 vs = wipe σ vs ∧ tt σ2 H2 fun b H3 =>
      if b = true then te σ2 H3 fun y H4 => ∃ acc, H4 D = some (.lst acc) ∧ acc.length < sizeLine ∧ Pv D (i + 1) (upd H4 D (.lst (acc ++ [y]))) else Pv D (i + 1) H3) (hd : ∀ D H, H1 D = none → Pv D s.cps.size H → Q (.ref D) H) : lcJ (Its s) g tt te vs Q σ H1 := fun D nD =>
  lc_any s.cps.size (Pv D) (h0 D _ nD (Same.new nD) upd_same) (fun i H hi p => hi) (fun H p => Nat.le_refl _)
    (fun i H hi p x H' y => by
      obtain ⟨rfl, c, hc, rfl⟩ := y
      exact hs D i c _ nD hc hi p) (fun H p => hd D H nD p)
theorem l_lcE {a : Addr} {xs : List V} {i1 i2 : Nat} {tt : TT} {te : TE} {vs : List Nat} (Pv : Addr → Nat → Hp → Prop) (h0 : ∀ D H2, H1 D = none → Same H1 H2 → H2 D = some (.lst []) → Pv D 0 H2) (hl : ∀ D i H, Pv D i H → SqL K H a xs)
    (hs : ∀ D i x H T, H1 D = none → xs[i]? = some x → i < xs.length → Pv D i H → H T = none → wipe (((wipe σ vs).set i1 (some (.int (i : Nat)))).set i2 (some x)) vs = wipe σ vs ∧ tt (((wipe σ vs).set i1 (some (.int (i : Nat)))).set i2 (some x)) (upd H T (.tup [.int (i : Nat), x])) fun b H3 =>
      if b = true then te (((wipe σ vs).set i1 (some (.int (i : Nat)))).set i2 (some x)) H3 fun y H4 => ∃ acc, H4 D = some (.lst acc) ∧ acc.length < sizeLine ∧ Pv D (i + 1) (upd H4 D (.lst (acc ++ [y]))) else Pv D (i + 1) H3) (hd : ∀ D H, H1 D = none → Pv D xs.length H → Q (.ref D) H) : lcJ (Ite K a) (gTup K 2 (gCons (gName i1) (gCons (gName i2) gNil))) tt te vs Q σ H1 := fun D nD =>
  lc_any xs.length (Pv D) (h0 D _ nD (Same.new nD) upd_same) (fun i H hi p => ⟨xs, xs[i], hl D i H p, by simp [hi]⟩) (fun H p => ⟨xs, hl D _ H p, Nat.le_refl _⟩)
    (fun i H hi p x H' y => by
      obtain ⟨T, z, rfl, nT, rfl, k⟩ := y
      have hz := k xs (hl D i H p)
      exact ⟨T, [.int (i : Nat), z], rfl, SqT.of upd_same, rfl, _, _, rfl, _, _, rfl, rfl, hs D i z H T nD hz hi p nT⟩) (fun H p => hd D H nD p)
theorem r_join {to te : TE} : qJoin K to te σ H Q = to σ H fun x H1 => (∃ a, x = .str a) ∧ te σ H1 fun y H2 => ∃ a p, ∃ ys : List Str, x = .str a ∧ [y] = [.ref p] ∧ (SqL K H2 p (ys.map V.str) ∨ SqT K H2 p (ys.map V.str)) ∧ (ys.map (·.length)).sum + ys.length * a.length ≤ 16777216 ∧ Q (.str (Txt.join a ys)) H2 := rfl
theorem r_find {to te : TE} : qFind to te σ H Q = to σ H fun x H1 => (∃ a, x = .str a) ∧ te σ H1 fun y H2 => ∃ a b, x = .str a ∧ [y] = [.str b] ∧ Q (.int (Txt.find a b)) H2 := rfl
end
/-- the text of code points -/
def mkS (t : List Nat) : Str := ⟨t.toArray⟩
theorem mkS_inj {a b : List Nat} : (mkS a = mkS b) ↔ a = b := by
  unfold mkS
  constructor
  · intro h
    injection h with h
    simpa using h
  · intro h; rw [h]
theorem mkS_len (t : List Nat) : (mkS t).length = t.length := by simp [mkS, Str.length]
theorem mkS_add (a b : List Nat) : mkS a ++ mkS b = mkS (a ++ b) := Str.ext' (by rw [Str.cps_append]; simp [mkS])
theorem mkS_one (c : Nat) : (⟨#[c]⟩ : Str) = mkS [c] := rfl
theorem mkS_cps (t : List Nat) : (mkS t).cps.toList = t := rfl
theorem of_mkS (s : Str) : s = mkS s.cps.toList := by cases s; simp [mkS]
theorem s_0 : Str.ofString "0" = mkS [48] := by decide
theorem s_e : Str.ofString "" = mkS [] := by decide
theorem s_sg : Str.ofString "-0+" = mkS [45, 48, 43] := by decide
/-- the sign of a figure -/
def sgn1 (x : Int) : Nat := if x = -1 then 45 else if x = 0 then 48 else 43
def vl (c : Nat) : Int := if c = 43 then 1 else if c = 48 then 0 else -1
def isSg (c : Nat) : Bool := decide (c = 43) || decide (c = 48) || decide (c = 45)
def txt (ns : List Int) : List Nat := if ns = [] then [48] else (ns.reverse.map sgn1)
def due (t : List Nat) : Option (List Int) := if t = [48] then some [] else if t.all isSg = true ∧ t ≠ [] ∧ t.head? ≠ some 48 then some (t.reverse.map vl) else none
theorem sgn1_at {x : Int} (h : Fg x) : atI (mkS [45, 48, 43]).cps.toList (x + 1) = some (sgn1 x) := by
  rcases h with rfl | rfl | rfl <;> rfl
theorem sgn1_vl {c : Nat} (h : isSg c = true) : sgn1 (vl c) = c := by
  simp [isSg] at h
  rcases h with (rfl | rfl) | rfl <;> rfl
theorem vl_sgn1 {x : Int} (h : Fg x) : vl (sgn1 x) = x ∧ isSg (sgn1 x) = true := by
  rcases h with rfl | rfl | rfl <;> decide
theorem joinL_nil : ∀ ps : List (List Nat), TL.joinL [] ps = ps.flatten
  | [] => rfl
  | [p] => by simp [TL.joinL]
  | p :: q :: r => by
    show p ++ ([] ++ TL.joinL [] (q :: r)) = _
    rw [joinL_nil (q :: r), List.nil_append]
    simp
theorem flat_one : ∀ l : List Nat, (l.map fun c => [c]).flatten = l
  | [] => rfl
  | c :: l => by rw [List.map_cons, List.flatten_cons, flat_one l]; rfl
theorem join_one (l : List Nat) : Txt.join (Str.ofString "") (l.map fun c => mkS [c]) = mkS l := by
  show Builtin.Str.glued _ _ = _
  rw [StrLaws.glued_eq_join, s_e, of_mkS (Str.join _ _)]
  show mkS (TL.tl _) = _
  rw [TL.tl_join]
  show mkS (TL.joinL [] _) = _
  rw [joinL_nil, List.map_map]
  show mkS ((l.map fun c => [c]).flatten) = _
  rw [flat_one]
theorem sum_ones (l : List Nat) : ((l.map fun c => mkS [c]).map (·.length)).sum = l.length := by
  induction l with
  | nil => rfl
  | cons c l ih => rw [List.map_cons, List.map_cons, List.sum_cons, ih, mkS_len]; simp; omega
/-- the place of a sign, as find tells it -/
def plc (c : Nat) : Int := if c = 45 then 0 else if c = 48 then 1 else if c = 43 then 2 else -1
theorem plc_vl {c : Nat} (h : isSg c = true) : plc c - 1 = vl c ∧ plc c ≠ -1 := by
  simp [isSg] at h
  rcases h with (rfl | rfl) | rfl <;> decide
theorem plc_no {c : Nat} (h : isSg c = false) : plc c = -1 := by
  simp [isSg] at h
  unfold plc
  rw [if_neg h.2, if_neg h.1.2, if_neg h.1.1]
theorem inV_no {t : List Nat} : inV (.int (-1)) (t.map fun c => V.int (plc c)) = !t.all isSg := by
  induction t with
  | nil => rfl
  | cons c t ih =>
    have e : inV (.int (-1)) ((c :: t).map fun c => V.int (plc c)) = (eqV (.int (plc c)) (.int (-1)) || inV (.int (-1)) (t.map fun c => V.int (plc c))) := by
      first | rfl | (simp [inV])
    rw [e, ih, List.all_cons]
    cases h : isSg c with
    | true =>
      have := (plc_vl h).2
      simp [eqV, this]
    | false => rw [plc_no h]; simp [eqV]
theorem vl_fg (c : Nat) : Fg (vl c) := by
  unfold vl Fg
  split
  · exact .inr (.inr rfl)
  · split
    · exact .inr (.inl rfl)
    · exact .inl rfl
theorem row_vl {t : List Nat} (h : t.all isSg = true) : Row (t.reverse.map vl) ↔ t.head? ≠ some 48 := by
  have e : (t.reverse.map vl).getLast? = t.head?.map vl := by rw [List.getLast?_map, List.getLast?_reverse]
  constructor
  · intro r hh
    have := r.last
    unfold LastNz at this
    rw [e, hh] at this
    exact this rfl
  · intro hh
    refine ⟨fun x hx => ?_, ?_⟩
    · obtain ⟨c, _, rfl⟩ := List.mem_map.mp hx
      exact vl_fg c
    · unfold LastNz
      rw [e]
      cases t with
      | nil => simp
      | cons c t =>
        simp only [List.head?_cons, Option.map_some, ne_eq, Option.some.injEq] at hh ⊢
        have hc : isSg c = true := by
          rw [List.all_cons, Bool.and_eq_true] at h; exact h.1
        simp [isSg] at hc
        rcases hc with (rfl | rfl) | rfl
        · decide
        · exact absurd rfl hh
        · decide
section
variable {K : PySem.W.Frag} {C : Ad} {vs : List V} {H : Hp} {Q : VK} {E : XK}
def sp_shown (K : PySem.W.Frag) (C : Ad) : Sp := rowSp K C fun ns Q H => Q (.str (mkS (txt ns))) H
/-- the reading of shown; slots: 0 row 1 figure -/
def t_shown (K : PySem.W.Frag) (C : Ad) (E : XK) : TS :=
      (tSeq (tDrop (tF (sp_need_row K C) E (tCons (tVar 0) tNil)))
      (tSeq (tIfS (tTest (tOp (rEqD K) (tVar 0) (tLst tNil))) (tRet (tC (.str "0"))) tNext)
      (tRet (qJoin K (tC (.str "")) (tLc (iRev K (tCons (tVar 0) tNil)) (gName 1) tYes (tOp rIxS (tC (.str "-0+")) (tOp qAdd (tVar 1) (tC (.int 1)))) [1])))))
theorem r_shown (h : sp_shown K C vs H Q E) : t_shown K C E { nx := fun _ H' => Q .non H', rt := Q } (st 2 vs) H := by
  obtain ⟨x, rfl, h⟩ := h
  unfold t_shown
  walk_at "st"
  walk_at "rd"
  rcases h with ⟨hb, q1⟩ | ⟨a, ns, rfl, hx, hr, hz, q2⟩
  · exact ⟨x, false, rfl, hb, (fun e => by cases e), fun _ => q1⟩
  refine ⟨.ref a, true, rfl, RowB.row hx hr hz, fun _ H1 s1 => ?_, fun e => by cases e⟩
  walk_at "rd"
  intro p np
  generalize ep : upd H1 p _ = H2
  obtain ⟨s2, hp⟩ := new_of ep np
  have hx2 := (s1.trans s2).seq hx
  refine eqD_ints (ms := []) hx2 (sq hp) ?_
  walk_at "rd"
  by_cases c : ns = []
  · rw [if_pos c]
    have this : Q (V.str (mkS (txt ns))) H2 := q2 H2 (s1.trans s2)
    unfold txt at this
    rw [if_pos c] at this
    rw [s_0]
    exact this
  rw [if_neg c, r_join]
  walk_at "rd"
  refine ⟨⟨_, rfl⟩, ?_⟩
  rw [r_lcR]
  walk_at "rd"
  refine ⟨a, _, rfl, hx2, l_lcR (fun D i H' => Same H2 H' ∧ H' D = some (.lst ((ns.reverse.take i).map fun x => V.str (mkS [sgn1 x])))) (fun D H3 nD sD hD => ⟨sD, by rw [List.take_zero]; exact hD⟩) (fun D i H' ⟨p, _⟩ => p.seq hx2) (fun D i x H' nD hi hlt ⟨p, hD⟩ => ?_) (fun D H3 nD ⟨s3, hD⟩ => ?_)⟩
  · obtain ⟨z, hz1, rfl⟩ := mapE hi
    rw [List.length_map] at hlt hz1
    have hz2 : ns.reverse[i]? = some z := by rw [List.getElem?_reverse hlt]; exact hz1
    walk_at "rd"
    refine ⟨_, _, sgn1 z, rfl, rfl, by rw [s_sg, mkS_len]; decide, ?_, _, hD, ?_, p.mut nD, ?_⟩
    · rw [s_sg]
      exact sgn1_at (hr.fg z (List.mem_of_getElem? hz1))
    · rw [List.length_map, List.length_take, List.length_reverse, sizeLine_is]; omega
    · rw [upd_same, take_snoc hz2, List.map_append]; rfl
  · rw [List.length_map, show ns.length = ns.reverse.length from List.length_reverse.symm, List.take_length] at hD
    have e1 : (ns.reverse.map fun x => V.str (mkS [sgn1 x])) = ((ns.reverse.map sgn1).map fun c => mkS [c]).map V.str := by
      rw [List.map_map, List.map_map]; rfl
    rw [e1] at hD
    refine ⟨_, D, _, rfl, rfl, .inl (sq hD), ?_, ?_⟩
    · rw [sum_ones, s_e, mkS_len]; simp; omega
    · rw [join_one]
      have this : Q (V.str (mkS (txt ns))) H3 := q2 H3 ((s1.trans s2).trans s3)
      unfold txt at this
      rw [if_neg c] at this
      exact this
def sp_read (K : PySem.W.Frag) (C : Ad) : Sp := fun vs H Q E => ∃ x, vs = [x] ∧ ((∃ n, Th K H x n ∧ n ≠ "str" ∧ ∀ H', Same H H' → E (.ref C.NoText) none H') ∨
  (∃ t, x = .str (mkS t) ∧ t.length ≤ 1000000 ∧ ((due t = none ∧ ∀ H', Same H H' → E (.ref C.NoText) none H') ∨ (∃ ns, due t = some ns ∧ newL H ns Q))))
/-- the reading of read; slots: 0 text 1 places 2 found 3 sign 4 place -/
def t_read (K : PySem.W.Frag) (C : Ad) (E : XK) : TS :=
      (tSeq (tIfS (tNot (tB (tCB (rIsi K) (tCons (tVar 0) (tCons (tC (.ty "str")) tNil))))) (tRaiseX C.NoText E) tNext)
      (tSeq (tIfS (tTest (tOp rEq (tVar 0) (tC (.str "0")))) (tRet (tLst tNil)) tNext)
      (tSeq (tAsg (tLc (iStr (tVar 0)) (gName 3) tYes (qFind (tC (.str "-0+")) (tVar 3)) [3]) (gName 1))
      (tSeq (tAsg (tLc (iRev K (tCons (tVar 1) tNil)) (gName 4) tYes (tOp qSub (tVar 4) (tC (.int 1))) [4]) (gName 2))
      (tSeq (tIfS (tOr (tTest (tOp rEq (tVar 0) (tC (.str "")))) (tOr (tTest (tOp (rIn K false) (tUn qNeg (tC (.int 1))) (tVar 1))) (tNot (tB (tF (sp_is_row K C) E (tCons (tVar 2) tNil)))))) (tRaiseX C.NoText E) tNext)
      (tRet (tVar 2)))))))
theorem r_read (h : sp_read K C vs H Q E) : t_read K C E { nx := fun _ H' => Q .non H', rt := Q } (st 5 vs) H := by
  obtain ⟨x, rfl, h⟩ := h
  unfold t_read
  walk_at "st"
  walk_at "rd"
  rcases h with ⟨n, hn, hne, q⟩ | ⟨t, rfl, hz, h⟩
  · refine isi_str hn ?_
    rw [decide_eq_false hne]
    walk_at "rd"
    exact q H (Same.refl H)
  refine isi_str th_str ?_
  rw [decide_eq_true rfl]
  walk_at "rd"
  rw [if_neg (by decide), s_0]
  have e48 : (mkS t = mkS [48]) = (t = [48]) := propext mkS_inj
  by_cases c0 : t = [48]
  · rw [if_pos (by rw [c0])]
    intro p np
    generalize ep : upd H p _ = H1
    obtain ⟨s1, hp⟩ := new_of ep np
    have hd : due t = some [] := by unfold due; rw [if_pos c0]
    rcases h with ⟨e, _⟩ | ⟨ns, e, q⟩
    · rw [hd] at e; cases e
    · rw [hd] at e; cases e
      exact q H1 p s1 np hp
  rw [if_neg (by rw [e48]; exact c0), r_lcS]
  walk_at "rd"
  have hd : due t = if t.all isSg = true ∧ t ≠ [] ∧ t.head? ≠ some 48 then some (t.reverse.map vl) else none := by unfold due; rw [if_neg c0]
  have htz : t.toArray.size = t.length := by simp
  refine ⟨_, rfl, l_lcS (fun D i H' => Same H H' ∧ H' D = some (.lst ((t.take i).map fun c => V.int (plc c)))) (fun D H2 nD sD hD => ⟨sD, hD⟩) (fun D i c H' nD hi hlt ⟨p, hD⟩ => ?_) (fun P H1 nP ⟨s1, hP⟩ => ?_)⟩
  · have hi2 : t[i]? = some c := by simpa [mkS] using hi
    walk_at "rd"
    rw [r_find]
    walk_at "rd"
    refine ⟨⟨_, rfl⟩, _, _, rfl, rfl, _, hD, ?_, p.mut nD, ?_⟩
    · rw [List.length_map, List.length_take, sizeLine_is]; omega
    · rw [upd_same, take_snoc hi2, List.map_append, find_sign]; rfl
  have hP' : H1 P = some (.lst (t.map fun c => V.int (plc c))) := by
    have e : (mkS t).cps.size = t.length := htz
    rw [e, List.take_length] at hP
    exact hP
  walk_at "rd"
  rw [r_lcR]
  walk_at "rd"
  have hPm : t.map (fun c => V.int (plc c)) = (t.map plc).map V.int := by rw [List.map_map]; rfl
  refine ⟨P, _, rfl, sq hP', l_lcR (fun D i H' => Same H1 H' ∧ H' D = some (.lst ((t.reverse.take i).map fun c => V.int (plc c - 1)))) (fun D H3 nD sD hD => ⟨sD, by rw [List.take_zero]; exact hD⟩) (fun D i H' ⟨p, _⟩ => sq (p _ _ hP')) (fun D i x H' nD hi hlt ⟨p, hD⟩ => ?_) (fun F H2 nF ⟨s2, hF⟩ => ?_)⟩
  · obtain ⟨z, hz1, rfl⟩ := mapE hi
    rw [List.length_map] at hlt hz1
    have hz2 : t.reverse[i]? = some z := by rw [List.getElem?_reverse hlt]; exact hz1
    walk_at "rd"
    refine ⟨_, hD, ?_, p.mut nD, ?_⟩
    · rw [List.length_map, List.length_take, List.length_reverse, sizeLine_is]; omega
    · rw [upd_same, take_snoc hz2, List.map_append]; rfl
  rw [List.length_map, show t.length = t.reverse.length from List.length_reverse.symm, List.take_length] at hF
  walk_at "rd"
  rw [s_e]
  have ee : (mkS t = mkS []) = (t = []) := propext mkS_inj
  by_cases c1 : t = []
  · rw [if_pos (by rw [c1])]
    have hn : due t = none := by rw [hd, if_neg (fun h => h.2.1 c1)]
    rcases h with ⟨_, q⟩ | ⟨ns, e, q⟩
    · exact q H2 (s1.trans s2)
    · rw [hn] at e; cases e
  rw [if_neg (by rw [ee]; exact c1)]
  refine ⟨P, _, rfl, .inl (sq (s2 _ _ hP')), rfl, by rw [List.all_map, List.all_eq_true]; exact fun _ _ => rfl, ?_⟩
  rw [if_neg (by decide), inV_no]
  refine ⟨_, rfl, ?_⟩
  cases hall : t.all isSg with
  | false =>
    rw [if_pos (by rfl)]
    have hn : due t = none := by rw [hd, if_neg (fun h => by rw [hall] at h; cases h.1)]
    rcases h with ⟨_, q⟩ | ⟨ns, e, q⟩
    · exact q H2 (s1.trans s2)
    · rw [hn] at e; cases e
  | true =>
    rw [if_neg (by decide)]
    have ef : (t.reverse.map fun c => V.int (plc c - 1)) = (t.reverse.map vl).map V.int := by
      rw [List.map_map]
      apply List.map_congr_left
      intro c hc
      have := List.all_eq_true.mp hall c (List.mem_reverse.mp hc)
      show V.int (plc c - 1) = V.int (vl c)
      rw [(plc_vl this).1]
    rw [ef] at hF
    have rb : RowB K H2 (.ref F) (rowV ((t.reverse.map vl).map V.int)) := .lst (sq hF) (fun y hy => by
      obtain ⟨i, _, rfl⟩ := List.mem_map.mp hy
      exact ⟨"int", th_int⟩) (by rw [List.length_map, List.length_map, List.length_reverse]; omega)
    refine ⟨_, _, rfl, rb, fun H3 s3 => ⟨_, rfl, ?_⟩⟩
    by_cases ch : t.head? = some 48
    · have hn : due t = none := by rw [hd, if_neg (fun h => h.2.2 ch)]
      cases hb : rowV ((t.reverse.map vl).map V.int) with
      | true =>
        obtain ⟨ns, e, r⟩ := row_of hb
        have e2 : t.reverse.map vl = ns := (List.map_inj_right (f := V.int) (fun a b h => by injection h)).mp e
        rw [← e2] at r
        exact absurd ch ((row_vl hall).mp r)
      | false =>
        rw [if_pos (by rfl)]
        rcases h with ⟨_, q⟩ | ⟨ns, e, q⟩
        · exact q H3 ((s1.trans s2).trans s3)
        · rw [hn] at e; cases e
    · have hs : due t = some (t.reverse.map vl) := by rw [hd, if_pos ⟨hall, c1, ch⟩]
      rw [rowV_row ((row_vl hall).mpr ch), if_neg (by decide)]
      rcases h with ⟨e, _⟩ | ⟨ns, e, q⟩
      · rw [hs] at e; cases e
      · rw [hs] at e; cases e
        exact q H3 F ((s1.trans s2).trans s3) (Same.none s1 nF) (s3 _ _ hF)
end
end Lf

namespace Lf
open PySem PySem.Spec L2
open PyProof.Rows hiding St
/-! ### deeds -/
def isDd (c : Nat) : Bool := decide (c = 100) || (decide (c = 117) || decide (c = 119))
def okD (t : List Nat) : Bool := t.all isDd
def ledS (n : Int) (c : Nat) : Int := if c = 100 then 2 * n else if c = 117 then n + 1 else n - 1
def ledN (t : List Nat) : Int := t.foldl ledS 0
def costS (D S : Int) (c : Nat) : Int := if c = 100 then D else S
def costN (D S : Int) (t : List Nat) : Int := (t.map (costS D S)).sum
theorem ledN_snoc (t : List Nat) (c : Nat) : ledN (t ++ [c]) = ledS (ledN t) c := by unfold ledN; rw [List.foldl_append]; rfl
theorem costN_snoc (D S : Int) (t : List Nat) (c : Nat) : costN D S (t ++ [c]) = costN D S t + costS D S c := by unfold costN; rw [List.map_append, List.sum_append]; simp
theorem s_d : Str.ofString "d" = mkS [100] := by decide
theorem s_u : Str.ofString "u" = mkS [117] := by decide
theorem s_w : Str.ofString "w" = mkS [119] := by decide
theorem s_duw : Str.ofString "duw" = mkS [100, 117, 119] := by decide
/-- whether a thing is deeds -/
inductive DeedB (K : PySem.W.Frag) (H : Hp) : V → Bool → Prop
  | no {x : V} {n : String} : Th K H x n → n ≠ "str" → DeedB K H x false
  | txt {t : List Nat} : t.length ≤ 1000000 → DeedB K H (.str (mkS t)) (okD t)
theorem DeedB.same {K : PySem.W.Frag} {H H' : Hp} {x : V} {b : Bool} (s : Same H H') (h : DeedB K H x b) : DeedB K H' x b := by
  cases h with
  | no h hn => exact .no (h.same s) hn
  | txt h => exact .txt h
def cstB : V → Bool
  | .int i => decide (1 ≤ i) && decide (i ≤ 50)
  | _ => false
theorem one_is {k c : Nat} : (mkS [c] = mkS [k]) = (c = k) := propext (mkS_inj.trans ⟨fun h => by injection h, fun h => by rw [h]⟩)
section
variable {K : PySem.W.Frag} {C : Ad} {vs : List V} {H : Hp} {Q : VK} {E : XK}
def sp_need_deeds (K : PySem.W.Frag) (C : Ad) : Sp := fun vs H Q E => ∃ x b, vs = [x] ∧ DeedB K H x b ∧ (b = true → ∀ H', Same H H' → Q .non H') ∧ (b = false → ∀ H', Same H H' → E (.ref C.NoDeeds) none H')
/-- the reading of need_deeds; slots: 0 thing 1 sign -/
def t_need_deeds (K : PySem.W.Frag) (C : Ad) (E : XK) : TS :=
      (tIfS (tOr (tNot (tB (tCB (rIsi K) (tCons (tVar 0) (tCons (tC (.ty "str")) tNil))))) (tNot (tB (tCB (rAll K) (tCons (tLc (iStr (tVar 0)) (gName 1) tYes (tOp qInS (tVar 1) (tC (.str "duw"))) [1]) tNil))))) (tRaiseX C.NoDeeds E) tNext)
theorem r_need_deeds (h : sp_need_deeds K C vs H Q E) : t_need_deeds K C E { nx := fun _ H' => Q .non H', rt := Q } (st 2 vs) H := by
  obtain ⟨x, b, rfl, hb, q1, q2⟩ := h
  unfold t_need_deeds
  walk_at "st"
  walk_at "rd"
  cases hb with
  | no hn hne =>
    refine isi_str hn ?_
    rw [decide_eq_false hne]
    walk_at "rd"
    exact q2 rfl H (Same.refl H)
  | @txt t hz =>
    refine isi_str th_str ?_
    rw [decide_eq_true rfl]
    walk_at "rd"
    rw [if_neg (by decide)]
    rw [r_lcS]
    walk_at "rd"
    refine ⟨_, rfl, l_lcS (fun D i H' => Same H H' ∧ H' D = some (.lst (((t.take i).map isDd).map V.bl))) (fun D H2 nD sD hD => ⟨sD, hD⟩) (fun D i c H' nD hi hlt ⟨p, hD⟩ => ?_) (fun P H1 nP ⟨s1, hP⟩ => ?_)⟩
    · have hi2 : t[i]? = some c := by simpa [mkS] using hi
      walk_at "rd"
      refine ⟨c, _, rfl, rfl, _, hD, ?_, p.mut nD, ?_⟩
      · rw [List.length_map, List.length_map, List.length_take, sizeLine_is]; omega
      · rw [upd_same, take_snoc hi2, List.map_append, List.map_append, s_duw, mkS_cps]
        have e : decide (c ∈ [100, 117, 119]) = isDd c := by simp [isDd]
        rw [e]; rfl
    have htz : (mkS t).cps.size = t.length := by simp [mkS]
    rw [htz, List.take_length] at hP
    walk_at "rd"
    refine ⟨P, _, rfl, sq hP, ⟨_, rfl, ?_⟩⟩
    have e1 : (t.map isDd).all id = okD t := by unfold okD; rw [List.all_map]; rfl
    rw [e1]
    cases hd : okD t with
    | false => exact q2 hd H1 s1
    | true => exact q1 hd H1 s1
def sp_need_cost (K : PySem.W.Frag) (C : Ad) : Sp := fun vs H Q E => ∃ x n, vs = [x] ∧ Th K H x n ∧ (cstB x = true → Q .non H) ∧ (cstB x = false → E (.ref C.NoCost) none H)
/-- the reading of need_cost; slots: 0 thing -/
def t_need_cost (K : PySem.W.Frag) (C : Ad) (E : XK) : TS :=
      (tIfS (tOr (tNot (tB (tF (sp_is_whole K C) E (tCons (tVar 0) tNil)))) (tNot (tTest (tChain qLe qLe (tC (.int 1)) (tVar 0) (tC (.int 50)))))) (tRaiseX C.NoCost E) tNext)
theorem r_need_cost (h : sp_need_cost K C vs H Q E) : t_need_cost K C E { nx := fun _ H' => Q .non H', rt := Q } (st 1 vs) H := by
  obtain ⟨x, n, rfl, hx, q1, q2⟩ := h
  unfold t_need_cost
  walk_at "st"
  walk_at "rd"
  refine ⟨x, n, rfl, hx, ?_⟩
  cases x with
  | int i =>
    refine ⟨true, rfl, ?_⟩
    walk_at "rd"
    rw [if_neg (by decide)]
    by_cases c1 : 1 ≤ i
    · rw [if_pos c1]
      by_cases c2 : i ≤ 50
      · rw [if_pos c2]; exact q1 (by simp [cstB, c1, c2])
      · rw [if_neg c2]; exact q2 (by simp [cstB, c2])
    · rw [if_neg c1]; exact q2 (by simp [cstB, c1])
  | _ => exact ⟨false, rfl, q2 rfl⟩
def sp_led (K : PySem.W.Frag) (C : Ad) : Sp := fun vs H Q E => ∃ x, vs = [x] ∧ ((DeedB K H x false ∧ ∀ H', Same H H' → E (.ref C.NoDeeds) none H') ∨ (∃ t, x = .str (mkS t) ∧ t.length ≤ 1000000 ∧ okD t = true ∧ ∀ H', Same H H' → Q (.int (ledN t)) H'))
/-- the reading of led; slots: 0 deeds 1 found 2 sign -/
def t_led (K : PySem.W.Frag) (C : Ad) (E : XK) : TS :=
      (tSeq (tDrop (tF (sp_need_deeds K C) E (tCons (tVar 0) tNil)))
      (tSeq (tAsg (tC (.int 0)) (gName 1))
      (tSeq (tFor (iStr (tVar 0)) (gName 2) (tIfS (tTest (tOp rEq (tVar 2) (tC (.str "d")))) (tAsg (tOp qMul (tC (.int 2)) (tVar 1)) (gName 1)) (tAug 1 (tIf (tTest (tOp rEq (tVar 2) (tC (.str "u")))) (tC (.int 1)) (tUn qNeg (tC (.int 1)))) (ipI fun i j => i + j))))
      (tRet (tVar 1)))))
theorem r_led (h : sp_led K C vs H Q E) : t_led K C E { nx := fun _ H' => Q .non H', rt := Q } (st 3 vs) H := by
  obtain ⟨x, rfl, h⟩ := h
  unfold t_led
  walk_at "st"
  walk_at "rd"
  rcases h with ⟨hb, q⟩ | ⟨t, rfl, hz, hd, q⟩
  · exact ⟨_, _, rfl, hb, (fun e => by cases e), fun _ => q⟩
  have hb : DeedB K H (.str (mkS t)) true := hd ▸ DeedB.txt hz
  refine ⟨_, _, rfl, hb, fun _ H1 s1 => ?_, fun e => by cases e⟩
  walk_at "rd"
  refine f_str (fun i σ H' => ∃ y2, σ = [some (.str (mkS t)), some (.int (ledN (t.take i))), y2] ∧ H' = H1) rfl ⟨none, rfl, rfl⟩ (fun i c σ H' hi hlt ⟨y2, e, p⟩ => ?_) (fun σ H' ⟨y2, e, p⟩ => ?_)
  · subst e p
    have hi2 : t[i]? = some c := by simpa [mkS] using hi
    walk_at "rd"
    rw [mkS_one, s_d, s_u, take_snoc hi2, ledN_snoc]
    simp only [one_is]
    unfold ledS
    by_cases c1 : c = 100
    · rw [if_pos c1, if_pos c1]
      walk_at "rd"
      exact ⟨_, rfl⟩
    · rw [if_neg c1, if_neg c1]
      by_cases c2 : c = 117
      · rw [if_pos c2, if_pos c2]
        walk_at "rd"
        exact ⟨_, rfl⟩
      · rw [if_neg c2, if_neg c2]
        walk_at "rd"
        exact ⟨_, rfl⟩
  · subst e p
    have htz : (mkS t).cps.size = t.length := by simp [mkS]
    rw [htz, List.take_length]
    walk_at "rd"
    exact q _ s1
def sp_cost_of (K : PySem.W.Frag) (C : Ad) : Sp := fun vs H Q E => ∃ x y z, vs = [x, y, z] ∧ ((DeedB K H x false ∧ ∀ H', Same H H' → E (.ref C.NoDeeds) none H') ∨ (∃ t m n, x = .str (mkS t) ∧ t.length ≤ 1000000 ∧ okD t = true ∧ Th K H y m ∧ Th K H z n ∧
  (((cstB y = false ∨ cstB z = false) ∧ ∀ H', Same H H' → E (.ref C.NoCost) none H') ∨ (∃ D S, y = .int D ∧ z = .int S ∧ cstB y = true ∧ cstB z = true ∧ ∀ H', Same H H' → Q (.int (costN D S t)) H'))))
/-- the reading of cost_of; slots: 0 deeds 1 double 2 step 3 sign -/
def t_cost_of (K : PySem.W.Frag) (C : Ad) (E : XK) : TS :=
      (tSeq (tDrop (tF (sp_need_deeds K C) E (tCons (tVar 0) tNil)))
      (tSeq (tDrop (tF (sp_need_cost K C) E (tCons (tVar 1) tNil)))
      (tSeq (tDrop (tF (sp_need_cost K C) E (tCons (tVar 2) tNil)))
      (tRet (tCB (rSum K) (tCons (tLc (iStr (tVar 0)) (gName 3) tYes (tIf (tTest (tOp rEq (tVar 3) (tC (.str "d")))) (tVar 1) (tVar 2)) [3]) tNil))))))
theorem r_cost_of (h : sp_cost_of K C vs H Q E) : t_cost_of K C E { nx := fun _ H' => Q .non H', rt := Q } (st 4 vs) H := by
  obtain ⟨x, y, z, rfl, h⟩ := h
  unfold t_cost_of
  walk_at "st"
  walk_at "rd"
  rcases h with ⟨hb, q⟩ | ⟨t, m, n, rfl, hz, hd, hy, hw, h⟩
  · exact ⟨_, _, rfl, hb, (fun e => by cases e), fun _ => q⟩
  have hb : DeedB K H (.str (mkS t)) true := hd ▸ DeedB.txt hz
  refine ⟨_, _, rfl, hb, fun _ H1 s1 => ?_, fun e => by cases e⟩
  walk_at "rd"
  refine ⟨y, m, rfl, hy.same s1, fun cy => ?_, fun cy => ?_⟩
  · walk_at "rd"
    refine ⟨z, n, rfl, hw.same s1, fun cz => ?_, fun cz => ?_⟩
    · rcases h with ⟨hc, _⟩ | ⟨D, S, rfl, rfl, _, _, q⟩
      · rw [cy, cz] at hc; rcases hc with e | e <;> cases e
      walk_at "rd"
      rw [r_lcS]
      walk_at "rd"
      refine ⟨_, rfl, l_lcS (fun P i H' => Same H1 H' ∧ H' P = some (.lst (((t.take i).map (costS D S)).map V.int))) (fun P H2 nD sD hD => ⟨sD, hD⟩) (fun P i c H' nD hi hlt ⟨p, hD⟩ => ?_) (fun P H2 nP ⟨s2, hP⟩ => ?_)⟩
      · have hi2 : t[i]? = some c := by simpa [mkS] using hi
        have fin : ∀ v : Int, v = costS D S c → ∃ acc, H' P = some (.lst acc) ∧ acc.length < sizeLine ∧ Same H1 (upd H' P (.lst (acc ++ [V.int v]))) ∧ (upd H' P (.lst (acc ++ [V.int v]))) P = some (.lst (((t.take (i + 1)).map (costS D S)).map V.int)) := by
          rintro v rfl
          refine ⟨_, hD, ?_, p.mut nD, ?_⟩
          · rw [List.length_map, List.length_map, List.length_take, sizeLine_is]; omega
          · rw [upd_same, take_snoc hi2, List.map_append, List.map_append]; rfl
        walk_at "rd"
        rw [mkS_one, s_d]
        simp only [one_is]
        by_cases c1 : c = 100
        · rw [if_pos c1]
          exact fin _ (by unfold costS; rw [if_pos c1])
        · rw [if_neg c1]
          exact fin _ (by unfold costS; rw [if_neg c1])
      have htz : (mkS t).cps.size = t.length := by simp [mkS]
      rw [htz, List.take_length] at hP
      walk_at "rd"
      exact ⟨P, _, rfl, sq hP, q _ (s1.trans s2)⟩
    · rcases h with ⟨_, q⟩ | ⟨D, S, rfl, rfl, _, e, q⟩
      · exact q _ s1
      · rw [cz] at e; cases e
  · rcases h with ⟨_, q⟩ | ⟨D, S, rfl, rfl, e, _, q⟩
    · exact q _ s1
    · rw [cy] at e; cases e
end
end Lf
namespace Lf
open PySem PySem.Spec L2
open PyProof.Rows hiding St
theorem sl_ab {t : PySem.Str} {a b : Nat} (hab : a ≤ b) (hb : b ≤ t.length) : (Txt.slice t (some (a : Int)) (some (b : Int))).cps.toList = (t.cps.toList.drop a).take (b - a) := by
  unfold Txt.slice
  have hp := PySem.StrLaws.strSliceIndices_plain hab hb
  split
  · next h =>
    rw [hp, List.length_map, List.length_range, Bool.and_eq_true, beq_iff_eq, beq_iff_eq] at h
    have l : t.cps.toList.length = t.length := Array.length_toList
    have h2 := h.2
    have e1 : a = 0 := by omega
    have e2 : b = t.cps.toList.length := by omega
    rw [e1, e2, List.drop_zero, Nat.sub_zero, List.take_length]
  · exact PySem.StrLaws.sliced_plain t hab hb
theorem sl_take {t : List Nat} {k : Nat} (h : k ≤ t.length) : Txt.slice (mkS t) none (some (k : Int)) = mkS (t.take k) := by
  have e : Txt.slice (mkS t) none (some (k : Int)) = Txt.slice (mkS t) (some ((0 : Nat) : Int)) (some (k : Int)) := by
    unfold Txt.slice
    rw [PySem.StrLaws.sliceIdx_none_lo]; rfl
  rw [e, of_mkS (Txt.slice _ _ _), sl_ab (Nat.zero_le _) (by rw [mkS_len]; exact h), mkS_cps, List.drop_zero, Nat.sub_zero]
theorem sl_one {t : List Nat} {k : Nat} (h : k ≤ t.length) : Txt.slice (mkS t) (some (k : Int)) (some ((k : Int) + 1)) = mkS ((t.drop k).take 1) := by
  by_cases c : k < t.length
  · have := @sl_ab (mkS t) k (k + 1) (by omega) (by rw [mkS_len]; omega)
    rw [show (k : Int) + 1 = ((k + 1 : Nat) : Int) by omega, of_mkS (Txt.slice _ _ _), this, mkS_cps]
    congr 2; omega
  · have hk : k = t.length := by omega
    subst hk
    have e : Txt.slice (mkS t) (some (t.length : Int)) (some ((t.length : Int) + 1)) = Txt.slice (mkS t) (some (t.length : Int)) (some (t.length : Int)) := by
      unfold Txt.slice
      have e2 : Builtin.Str.strSliceIndices (some (t.length : Int)) (some ((t.length : Int) + 1)) 1 (mkS t).length = Builtin.Str.strSliceIndices (some (t.length : Int)) (some (t.length : Int)) 1 (mkS t).length := by
        unfold Builtin.Str.strSliceIndices
        rw [mkS_len]
        have h1 : ¬ ((t.length : Int) + 1 < 0) := by omega
        have h2 : ¬ ((t.length : Int) < 0) := by omega
        have h3 : min ((t.length : Int) + 1) (t.length : Int) = (t.length : Int) := by omega
        simp only [h1, h2, if_false, h3, Int.min_self, show ((1 : Int) > 0) = True from by simp, if_true]
      rw [e2]
    rw [e, of_mkS (Txt.slice _ _ _), sl_ab (Nat.le_refl _) (by rw [mkS_len]; omega), mkS_cps, Nat.sub_self, List.drop_length]
    rfl
theorem sl_from {t : List Nat} {k : Nat} (h : k ≤ t.length) : Txt.slice (mkS t) (some (k : Int)) none = mkS (t.drop k) := by
  have e : Txt.slice (mkS t) (some (k : Int)) none = Txt.slice (mkS t) (some (k : Int)) (some ((t.length : Nat) : Int)) := by
    unfold Txt.slice
    rw [PySem.StrLaws.sliceIdx_none_hi, mkS_len]
  rw [e, of_mkS (Txt.slice _ _ _), sl_ab h (by rw [mkS_len]; omega), mkS_cps, List.take_of_length_le (by rw [List.length_drop]; omega)]
theorem pick8 {P : V → Prop} {a b c d e f g h : V} {i : Int} (hi : 0 ≤ i ∧ i < 8) (ha : P a) (hb : P b) (hc : P c) (hd : P d) (he : P e) (hf : P f) (hg : P g) (hh : P h) : ∃ y, atI [a, b, c, d, e, f, g, h] i = some y ∧ P y := by
  have : i = 0 ∨ i = 1 ∨ i = 2 ∨ i = 3 ∨ i = 4 ∨ i = 5 ∨ i = 6 ∨ i = 7 := by omega
  rcases this with e | e | e | e | e | e | e | e <;> subst e
  · exact ⟨a, rfl, ha⟩
  · exact ⟨b, rfl, hb⟩
  · exact ⟨c, rfl, hc⟩
  · exact ⟨d, rfl, hd⟩
  · exact ⟨e, rfl, he⟩
  · exact ⟨f, rfl, hf⟩
  · exact ⟨g, rfl, hg⟩
  · exact ⟨h, rfl, hh⟩
theorem atI_ex {α : Type} {l : List α} {i : Int} (h0 : 0 ≤ i) (h : i < (l.length : Int)) : ∃ x, atI l i = some x := by
  obtain ⟨x, hx⟩ := getE (l := l) (i := i.toNat) (by omega)
  exact ⟨x, atI_at (j := i.toNat) (by omega) hx⟩
theorem shaped_strT (x : Str) (h0 : PyData.strOk x = true) : SeqAt.shaped (.tuple [.str x]) = true := by
  unfold SeqAt.shaped
  have h1 : (PyData.tuple [.str x]).canLay0 = true := by simp [PyData.canLay0, PyData.canLayAll0, h0]
  have h2 : (PyData.tuple [.str x]).depth ≤ 64 := by
    simp only [PyData.depth, PyData.depthAll]
    omega
  rw [h1, decide_eq_true h2]; rfl
theorem pick6 {P : V → Prop} {a b c d e f : V} {i : Int} (hi : 0 ≤ i ∧ i < 6) (ha : P a) (hb : P b) (hc : P c) (hd : P d) (he : P e) (hf : P f) : ∃ y, atI [a, b, c, d, e, f] i = some y ∧ P y := by
  have : i = 0 ∨ i = 1 ∨ i = 2 ∨ i = 3 ∨ i = 4 ∨ i = 5 := by omega
  rcases this with q | q | q | q | q | q <;> subst q
  · exact ⟨a, rfl, ha⟩
  · exact ⟨b, rfl, hb⟩
  · exact ⟨c, rfl, hc⟩
  · exact ⟨d, rfl, hd⟩
  · exact ⟨e, rfl, he⟩
  · exact ⟨f, rfl, hf⟩
theorem pick3 {P : V → Prop} {a b c : V} {i : Int} (hi : 0 ≤ i ∧ i < 3) (ha : P a) (hb : P b) (hc : P c) : ∃ y, atI [a, b, c] i = some y ∧ P y := by
  have : i = 0 ∨ i = 1 ∨ i = 2 := by omega
  rcases this with e | e | e <;> subst e
  · exact ⟨a, rfl, ha⟩
  · exact ⟨b, rfl, hb⟩
  · exact ⟨c, rfl, hc⟩
theorem shaped_costT (x : Str) (h0 : PyData.strOk x = true) (n : Int) : SeqAt.shaped (.tuple [.str x, .int n]) = true := by
  unfold SeqAt.shaped
  have h1 : (PyData.tuple [.str x, .int n]).canLay0 = true := by simp [PyData.canLay0, PyData.canLayAll0, h0]
  have h2 : (PyData.tuple [.str x, .int n]).depth ≤ 64 := by
    simp only [PyData.depth, PyData.depthAll]
    omega
  rw [h1, decide_eq_true h2]; rfl
theorem bad_in (t u : List Nat) (c : Nat) (h : isDd c = false) : okD (t ++ c :: u) = false := by
  unfold okD
  rw [List.all_append, List.all_cons, h]; simp
/-- a new tuple -/
def newT (H : Hp) (xs : List V) (Q : VK) : Prop := ∀ H' p, Same H H' → H p = none → H' p = some (.tup xs) → Q (.ref p) H'
theorem newT.from {H H' : Hp} {xs : List V} {Q : VK} (h : newT H xs Q) (s : Same H H') : newT H' xs Q := fun H2 p s2 np hp => h H2 p (s.trans s2) (Same.none s np) hp
end Lf

namespace Lf
open PySem PySem.Spec L2
open PyProof.Rows hiding St
/-! ### a caught error that the def keeps -/
/-- the error's object, told behind its suite -/
def ErrO (cls : Value) (d : Option Addr) (a : Addr) : HO := .ext fun h => ∃ o fl, h.get? a = some o ∧ Zc cls d o ∧ o.data = .fields fl
def wKeep (K : PySem.W.Frag) (c : Value) (i : Nat) (ts : Addr → Value → Option Addr → TS) (D : Ends) : WX := fun cls d σ H => PySem.W.exmOne K cls c = some true ∧
  ∀ a, H a = none → ts a cls d { nx := fun σ' H' => H' a = none → D.nx (σ'.set i none) (upd H' a (ErrO cls d a)), rt := fun _ _ => False, bk := fun _ _ => False, ct := fun _ _ => False } (σ.set i (some (.ref a))) H
section
variable {X : Cx} {pins : List (Addr × Obj)} {σ : L2.St} {H : Hp} {s : Shared} {a : Addr} {oe : Obj}
/-- a pinned object of ours, told from now on -/
theorem inv_told {cls : Value} {d : Option Addr} {fl : Array Value} (J : Inv X ((a, oe) :: pins) σ H s) (new : X.s_0.heap.get? a = none) (zc : Zc cls d oe) (fld : oe.data = .fields fl) (oth : ∀ p ∈ X.pn ++ pins, p.1 ≠ a) : Inv X pins σ (upd H a (ErrO cls d a)) s := by
  obtain ⟨at_, free, nl, nf, nc⟩ := J.pin (a, oe) (by simp)
  have at_ : s.heap.get? a = some oe := at_
  have free : H a = none := free
  have old : ∀ {b o}, X.s_0.heap.get? b = some o → b ≠ a := fun e z => by rw [z, new] at e; cases e
  have bs := J.base
  exact {
    ok := J.ok, os := J.os, bare := J.bare, loc := J.loc, cell := J.cell, len := J.len
    base := {
      keep := bs.keep, slot := bs.slot, there := bs.there
      free := fun b o e n x => by rw [upd_ne (old e)]; exact bs.free b o e n x
      tups := fun b xs e => Same.new free _ _ (bs.tups b xs e)
      frzs := fun b o u e => Same.new free _ _ (bs.frzs b o u e)
      tbls := fun b ps e => let ⟨m, q⟩ := bs.tbls b ps e; ⟨m, Same.new free _ _ q⟩ }
    free := by rw [upd_ne (Ne.symm nl)]; exact J.free
    freeC := fun y c e => by
      rw [upd_ne fun z => ?_]
      · exact J.freeC y c e
      · obtain ⟨v, o, ho, hd⟩ := J.cell y c e
        rw [z, at_] at ho
        cases ho
        exact nc v hd
    pin := fun p hp => by
      obtain ⟨p1, p2, p3⟩ := J.pin p (by
        rcases List.mem_append.mp hp with q | q
        · exact List.mem_append_left _ q
        · exact List.mem_append_right _ (List.mem_cons_of_mem _ q))
      exact ⟨p1, by rw [upd_ne (oth p hp)]; exact p2, p3⟩
    hok := fun b u e => by
      by_cases q : b = a
      · subst q
        rw [upd_same] at e
        cases e
        exact ⟨⟨oe, fl, at_, zc, fld⟩, ⟨oe, at_⟩, fun _ _ ⟨o, v, q1, q2⟩ k => ⟨o, v, k o q1, q2⟩⟩
      · rw [upd_ne q] at e
        exact (J.hok b u e).stay (fun c v _ q => q) (fun c q => by rw [upd_ne (ne_of_none q free)]; exact q) fun c xs q => by rw [upd_ne (ne_of_none q free)]; exact q }
end
/-- what an error of a try's body meets -/
def Met (X : Cx) (pins : List (Addr × Obj)) (D : Ends) (hds : List ExceptHandler) (e : Value) (s1 : Shared) : Prop :=
  wpAny (model X.prog X.w) X.A (noteFrame e X.env) (fun _ s2 => wpAny (model X.prog X.w) X.A (setFlight e none) (fun _ s3 => wpAny (model X.prog X.w) X.A (handleBy e X.env hds) (SP X pins D) X.xe s3) X.xe s2) X.xe s1
section
variable {X : Cx} {x n : Str} {c : Value} {i : Nat} {body rest : List Stmt} {b0 : Stmt} {np pos ps : Pos} {tb : WX → TS} {ts : Addr → Value → Option Addr → TS}
theorem met_keep (ok : X.Ok) (hex : X.ex = []) (hs : X.stack = X.env :: X.outer) (hf : X.env.frame = some X.env.locals) (hN : X.N.Nodup) (hi : X.N[i]? = some n) (hln : X.env.kindOf n = some .local) (hc : Names X x c)
    (su : ∀ (a : Addr) (oe : Obj) (cls : Value) (d : Option Addr) (pn : List (Addr × Obj)), Zc cls d oe → (∃ vs, oe.data = .fields vs) → PSs (X.suite a ((a, oe) :: pn)) (b0 :: rest) (ts a cls d))
    {pins : List (Addr × Obj)} {D : Ends} {xe : Value → Shared → Prop} {u : Value} {s' : Shared} (z : XE (X.tr (X.pn ++ pins) xe) (wKeep X.K c i ts D) u s') : Met X pins D [.ExceptHandler (some (.Name x np)) (some n) (b0 :: rest) ps] u s' := by
  obtain ⟨a, B, sI, pn, σ1, H1, cls, d, rfl, J0, ground, ups, sky, na, os, ag, yes, go⟩ := z
  have J := J0.ofTry ok
  have frames : X.A.frames = some (X.env :: X.outer) := hs ▸ ok.frames
  have sky1 : Sky B (X.env :: X.outer) a (Zc cls d) X.env.locals s'.heap := hs ▸ sky
  refine Sky.land Zc.steady frames hf sky1 fun g fly up => ?_
  have Jg : Inv X pins σ1 H1 { s' with heap := g } := Inv.landed J ground fly.1 (Heap.UpToSlots.trans ups up) os ag
  have noB : B.get? a = none := fly.2.1
  have noFr : ∀ (h : Heap) (o : Obj) (vs : Array Value), h.FunFrames B (X.env :: X.outer) → h.get? a = some o → o.data = .fields vs → a ∉ frs (X.env :: X.outer) := by
    intro h o vs ff e dd hm
    obtain ⟨_, o2, e2, nof⟩ := ff.mem hm
    rw [e] at e2
    cases e2
    exact nof _ dd
  obtain ⟨o1, v1, at1, zc1, fl1⟩ := HandSPX.FlyingZ.there fly
  have nfr := noFr _ _ _ fly.2.2.1 at1 fl1
  have mem0 : X.env.locals ∈ frs (X.env :: X.outer) := by unfold frs; rw [List.filterMap_cons, hf]; exact List.mem_cons_self
  have memS : ∀ b ∈ X.fs, b ∈ frs (X.env :: X.outer) := fun b hb => by
    unfold frs
    rw [List.filterMap_cons, hf]
    exact List.mem_cons_of_mem _ hb
  have nL : a ≠ X.env.locals := fun q => nfr (q ▸ mem0)
  have nF : a ∉ X.fs := fun q => nfr (memS a q)
  have noI : sI.heap.get? a = none := by
    cases e : sI.heap.get? a with
    | none => rfl
    | some o =>
      have q := ground a o e (by show a ∉ frs X.stack; rw [hs]; exact nfr)
      rw [noB] at q
      cases q
  have new : X.s_0.heap.get? a = none := by
    cases e : X.s_0.heap.get? a with
    | none => rfl
    | some o =>
      obtain ⟨o2, q⟩ := J.base.there a o e (by rw [hex]; simp)
      rw [noI] at q
      cases q
  have oth : ∀ p ∈ X.pn ++ pins, p.1 ≠ a := fun p hp q => by
    have := (J.pin p hp).1
    rw [q, noI] at this
    cases this
  have Sg := Inv.suite Jg at1 fl1 na nL nF
  refine wpAny_handleBy_cons (codeAny_handlers_test ?_) (fun q => by cases q)
  have look : PySem.W.Looks (model X.prog X.w) g (typeOf (.ref a)) cls := fun _ _ _ _ k q => wpAny_typeOf_ref (k _ _ at1) (by rw [zc1.1]; exact q)
  have hits := PySem.W.exm_one (M := model X.prog X.w) Jg.kIn look yes
  have named : ∀ (Q E : Value → Shared → Prop), Q c { s' with heap := g } → wpAny (model X.prog X.w) (X.A.mark (some (.ref a))) (eval (.Name x np) X.env) Q E { s' with heap := g } := fun Q E q => by
    obtain ⟨hg, hdb, hm | ⟨hm, hv, hnn⟩⟩ := hc
    · exact ld_glob (X := X.suite a ((a, o1) :: (X.pn ++ pins))) Sg hg hm q hdb
    · exact ld_blt (X := X.suite a ((a, o1) :: (X.pn ++ pins))) Sg hg hm hv q hnn hdb
  refine named _ _ (hits.here ?_)
  refine codeAny_handlers_suite_as ?_
  refine HandSPX.lands_againZ fly fun g2 fly2 up2 => ?_
  have J2 : Inv X pins σ1 H1 { s' with heap := g2 } := Inv.landed J ground fly2.1 (Heap.UpToSlots.trans (Heap.UpToSlots.trans ups up) up2) os ag
  obtain ⟨o2, v2, at2, zc2, fl2⟩ := HandSPX.FlyingZ.there fly2
  have S2 := Inv.suite J2 at2 fl2 na nL nF
  refine store_ok (X := X.suite a ((a, o2) :: (X.pn ++ pins))) (v := .ref a) S2 hN hi (.inl hln) rfl (fun s3 S3 => ?_) (.inr hln)
  refine wpAny_mono ((su a o2 cls d (X.pn ++ pins) zc2 ⟨_, fl2⟩).run [] s3 _ H1 _ S3 (go a na)) (fun f s4 q => ?_) (fun _ _ q => q.elim)
  cases f with
  | next =>
    obtain ⟨σ4, H4, S4, q4⟩ := q
    have mem : ∀ p, p ∈ X.pn ++ ((a, o2) :: pins) → p ∈ ((a, o2) :: (X.pn ++ pins)) ++ ([] : List (Addr × Obj)) := fun p hp => by
      rw [List.append_nil]
      rcases List.mem_append.mp hp with q | q
      · exact List.mem_cons_of_mem _ (List.mem_append_left _ q)
      · rcases List.mem_cons.mp q with q | q
        · rw [q]; exact List.mem_cons_self
        · exact List.mem_cons_of_mem _ (List.mem_append_right _ q)
    have J4 : Inv X ((a, o2) :: pins) σ4 H4 s4 := ⟨ok, S4.os, S4.bare, S4.base, S4.loc, S4.cell, S4.free, S4.freeC, fun p hp => S4.pin p (mem p hp), S4.hok, S4.len⟩
    have n4 : H4 a = none := (J4.pin (a, o2) (by simp)).2.1
    exact gone_ok J4 hN hi hln fun s5 J5 => ⟨_, _, inv_told J5 new zc2 fl2 oth, q4 n4⟩
  | brk => exact (let ⟨_, _, _, q⟩ := q; q.elim)
  | cont => exact (let ⟨_, _, _, q⟩ := q; q.elim)
  | ret v => exact (let ⟨_, _, _, _, _, q⟩ := q; q.elim)
theorem ps_try_keep (hex : X.ex = []) (hs : X.stack = X.env :: X.outer) (hf : X.env.frame = some X.env.locals) (hN : X.N.Nodup) (hi : X.N[i]? = some n) (hln : X.env.kindOf n = some .local) (hc : Names X x c)
    (hb : ∀ (W : WX) (pn : List (Addr × Obj)) (xe : Value → Shared → Prop), Takes (X.tr pn xe) W → PassesOwn (model X.prog X.w) X.A X.env xe → PSs (X.tr pn xe) body (tb W))
    (su : ∀ (a : Addr) (oe : Obj) (cls : Value) (d : Option Addr) (pn : List (Addr × Obj)), Zc cls d oe → (∃ vs, oe.data = .fields vs) → PSs (X.suite a ((a, oe) :: pn)) (b0 :: rest) (ts a cls d)) :
    PS X (.Try body [.ExceptHandler (some (.Name x np)) (some n) (b0 :: rest) ps] [] [] pos) (fun D σ H => tb (wKeep X.K c i ts D) D σ H) := by
  refine ⟨fun pins s σ H D I h => wpAny_Try_except ?_⟩
  have run := (hb (wKeep X.K c i ts D) (X.pn ++ pins) (Met X pins D [.ExceptHandler (some (.Name x np)) (some n) (b0 :: rest) ps]) (fun u s1 z => met_keep I.ok hex hs hf hN hi hln hc su z) PassesOwn.looking).run [] s σ H D (I.toTry _) h
  refine wpAny_mono run (fun f s1 q => ?_) fun _ _ q => q
  cases f with
  | next => exact (let ⟨_, _, J, q⟩ := q; wpAny_execs_nil ⟨_, _, J.ofTry I.ok, q⟩)
  | brk => exact (let ⟨_, _, J, q⟩ := q; ⟨_, _, J.ofTry I.ok, q⟩)
  | cont => exact (let ⟨_, _, J, q⟩ := q; ⟨_, _, J.ofTry I.ok, q⟩)
  | ret v => exact (let ⟨_, _, _, J, r, q⟩ := q; ⟨_, _, _, J.ofTry I.ok, r, q⟩)
end
/-! ### a def that is picked out of a list, and called -/
structure CalA (P : Program) (w : World) (K : PySem.W.Frag) (mg : Str → Option Value) (base : Heap) (k : Nat) (f : Addr) (sp : Sp) : Prop where
  ex : ∃ (fd : FuncData) (ps : List Str), FnOk P w K mg base (L2.CX P w) k f fd ps sp ∧ PySem.W.keepIn K (.ref f) = true ∧ Binds K fd ps []
theorem Cal.at_ {P : Program} {w : World} {K : PySem.W.Frag} {mg : Str → Option Value} {base : Heap} {k : Nat} {x : Str} {sp : Sp} {f : Addr} (c : Cal P w K mg base k x sp) (v : ∃ u, mg x = some u ∧ RelV (.ref f) u) : CalA P w K mg base k f sp := by
  obtain ⟨g, fd, ps, F, hm, kp, b⟩ := c.ex
  obtain ⟨u, hu, r⟩ := v
  cases r
  rw [hm] at hu
  cases hu
  exact ⟨fd, ps, F, kp, b⟩
def tCallV (S : List (Addr × Sp)) (E : XK) (tf : TE) (t : TA) : TE := fun σ H Q => tf σ H fun x H1 => ∃ f sp, x = .ref f ∧ (f, sp) ∈ S ∧ t σ H1 fun vs H2 => sp vs H2 Q E
section
variable {P : Program} {w : World} {K : PySem.W.Frag} {mg : Str → Option Value} {base : Heap}
theorem ca_nil {j : Nat} : ∀ q ∈ ([] : List (Addr × Sp)), ∃ k, k ≤ j ∧ CalA P w K mg base k q.1 q.2 := fun _ h => by cases h
theorem ca_cons {S : List (Addr × Sp)} {j k : Nat} {x : Str} {sp : Sp} {f : Addr} (c : Cal P w K mg base k x sp) (v : ∃ u, mg x = some u ∧ RelV (.ref f) u) (hk : k ≤ j) (h : ∀ q ∈ S, ∃ k, k ≤ j ∧ CalA P w K mg base k q.1 q.2) :
    ∀ q ∈ (f, sp) :: S, ∃ k, k ≤ j ∧ CalA P w K mg base k q.1 q.2 := fun q hq => by
  rcases List.mem_cons.mp hq with e | e
  · rw [e]; exact ⟨k, hk, c.at_ v⟩
  · exact h q e
end
section
variable {X : Cx} {j : Nat} {E : XK} {fe e : Expr} {es : List Expr} {tf : TE} {t : TA} {pos : Pos}
theorem pe_callV {S : List (Addr × Sp)} (A : ∀ q ∈ S, ∃ k, k ≤ j ∧ CalA X.prog X.w X.K X.mg X.base k q.1 q.2) (hr : Room j X.A) (hx : Passes (L2.CX X.prog X.w) X E) (hf : PE X fe tf) (ha : PA X (e :: es) t)
    (ht : eval (.Call fe (e :: es) [] pos) X.env = (eval fe X.env >>= fun v => callWith pos v [] (backTo pos (starEach (e :: es) X.env)) (backToKw pos (keywordEach [] X.env))) := by rfl)
    (hst : starEach (e :: es) X.env = (false, eval e X.env) :: starEach es X.env := by rfl) (hpl : (backTo pos (starEach es X.env)).any (·.1) = false := by rfl) : PE X (.Call fe (e :: es) [] pos) (tCallV S E tf t) := by
  refine ⟨fun pins s σ H Q I h => ?_⟩
  rw [ht]
  refine wpAny_bind (thn (hf.run pins s σ H _ I h) fun u s1 ⟨x, H1, I1, rx, f, sp, ex, hm, q⟩ => ?_)
  subst ex
  obtain rfl : u = Value.ref f := rx
  obtain ⟨k, hk, c⟩ := A _ hm
  obtain ⟨fd, ps, F, kp, b⟩ := c.ex
  refine PySem.W.callWith_K (h₀ := X.base) I1.ok.mod.kin kp (thn (ha.run pos pins s1 σ H1 _ I1 q) fun us s2 ⟨vs, H2, I2, r, q2⟩ => ⟨I2.kIn, ?_⟩) hst hpl
  exact run_fn F (hr.mono hk) b .nil hx I2 r (by rw [List.append_nil]; exact q2)
end
theorem r_callV {S : List (Addr × Sp)} {E : XK} {tf : TE} {t : TA} {σ : L2.St} {H : Hp} {Q : VK} : tCallV S E tf t σ H Q = tf σ H fun x H1 => ∃ f sp, x = .ref f ∧ (f, sp) ∈ S ∧ t σ H1 fun vs H2 => sp vs H2 Q E := rfl
/-! ### isinstance of a kept error; how often a flat item stands in a list -/
def rIsX (K : PySem.W.Frag) : List V → Hp → VK → Prop := fun xs H Q => ∃ (a D : Addr) (c : V) (cv : Value) (b : Bool), xs = [.ref a, c] ∧ H a = some (ErrO (.ref D) none a) ∧ L2.ExcC K D ∧ (∀ u, RelV c u → u = cv) ∧ PySem.W.kitOne K (.ref D) cv = some b ∧ Q (.bl b) H
theorem call_isX {X : Cx} : CallR X (.builtin "isinstance") (rIsX X.K) := by
  intro pins s σ H xs us Q I r h
  obtain ⟨a, D, c, cv, b, rfl, ha, C, hcv, e, q⟩ := h
  obtain ⟨⟨oe, vs, at_, zc, fl⟩, _, _⟩ := (show ObjOk X.prog X.w H s.heap a (ErrO (.ref D) none a) from I.hok a _ ha)
  cases r with
  | cons rx rr =>
    cases rr with
    | cons rt rn =>
      cases rn
      cases rx
      obtain rfl := hcv _ rt
      have J : PySem.W.InstAt s.heap a oe D none := by
        obtain ⟨oc, od, oda, osl⟩ := oe
        obtain ⟨h1, h2⟩ := zc
        dsimp only at h1 h2 fl
        subst h1 h2 fl
        exact ⟨at_, rfl, rfl, trivial⟩
      exact PySem.W.kia_one (PySem.W.handS_kitx_exc C.hg C.hk C.hs C.hd C.ha C.hn C.ht C.hm) I.kIn J e (fun z => nomatch z) fun tk => ⟨.bl b, H, I.kept (t' := tk) fun _ _ z => z, rfl, q⟩
def rCntF (K : PySem.W.Frag) : V → List V → Hp → VK → Prop := fun x xs H Q => ∃ (a : Addr) (ys : List V) (y : V), x = .ref a ∧ xs = [y] ∧ SqL K H a ys ∧ flatV y = true ∧ ys.all flatV = true ∧ Q (.int ((ys.countP fun z => eqV z y : Nat) : Int)) H
theorem cnt_flat {y : V} : ∀ {ys : List V} {its : List Value}, Vals ys its → ys.all flatV = true → its.countP (eqU y) = ys.countP fun z => eqV z y
  | _, _, .nil, _ => rfl
  | z :: ys, u :: its, .cons r t, f => by
    rw [List.all_cons, Bool.and_eq_true] at f
    rw [List.countP_cons, List.countP_cons, eqU_of r f.1, cnt_flat t f.2]
theorem mt_cntF {X : Cx} : MtR X "list.count" (rCntF X.K) := by
  intro pins s σ H x xs v us Q I rx rxs h
  obtain ⟨a, ys, y, rfl, rfl, hs, fy, fys, q⟩ := h
  cases rx
  cases rxs with
  | cons ry rt =>
    rename_i uy ut
    cases rt
    obtain ⟨its, rv, ⟨⟨cls, dd, data, sl⟩, n, ho, hc, hdn, hd⟩, hlen⟩ := I.list hs
    simp only at hc hd
    subst hc hd
    refine call_meets PySem.F.slot_list_count ⟨_, ho, rfl⟩ PySem.F.entry_list_count (PySem.F.args_list_count_2 _ _) (SeqAt.list_countAt a its.toArray n dd sl uy (eqU y)) ⟨ho, fun u hu => mem_eqAt ry fy rv fys u (by simpa using hu), ?_⟩
    exact ⟨.int ((ys.countP fun z => eqV z y : Nat) : Int), H, I.tok _, ⟨s.toks, by rw [← cnt_flat rv fys]⟩, q⟩
/-! ### what is none there, and how it is refused -/
/-- x is none of what the asking wants -/
def BadW (K : PySem.W.Frag) (H : Hp) (way : Int) (x : V) : Prop :=
  (way = 14 ∧ ((∃ n, Th K H x n ∧ n ≠ "str") ∨ ∃ t : List Nat, x = .str (mkS t) ∧ t.length ≤ 1000000 ∧ due t = none)) ∨ (way = 13 ∧ wh x = false ∧ ∃ n, Th K H x n) ∨
  (way = 11 ∧ ((∃ n, Th K H x n ∧ n ≠ "list") ∨ ∃ a xs rows y, x = .ref a ∧ SqL K H a xs ∧ RowsL K H xs rows ∧ xs[rows.length]? = some y ∧ RowB K H y false)) ∨ ((0 ≤ way ∧ way ≤ 12 ∧ way ≠ 11) ∧ RowB K H x false)
theorem RowsL.same {K : PySem.W.Frag} {H H' : Hp} {xs : List V} {rows : List (List Int)} (s : Same H H') (h : RowsL K H xs rows) : RowsL K H' xs rows := fun i r hr => let ⟨a, h1, h2, h3⟩ := h i r hr; ⟨a, h1, s.seq h2, h3⟩
theorem BadW.same {K : PySem.W.Frag} {H H' : Hp} {way : Int} {x : V} (s : Same H H') (h : BadW K H way x) : BadW K H' way x := by
  rcases h with ⟨e, ⟨n, hn, hne⟩ | h⟩ | ⟨e, hw, n, hn⟩ | ⟨e, ⟨n, hn, hne⟩ | ⟨a, xs, rows, y, e1, h1, h2, h3, h4⟩⟩ | ⟨e, h⟩
  · exact .inl ⟨e, .inl ⟨n, hn.same s, hne⟩⟩
  · exact .inl ⟨e, .inr h⟩
  · exact .inr (.inl ⟨e, hw, n, hn.same s⟩)
  · exact .inr (.inr (.inl ⟨e, .inl ⟨n, hn.same s, hne⟩⟩))
  · exact .inr (.inr (.inl ⟨e, .inr ⟨a, xs, rows, y, e1, s.seq h1, h2.same s, h3, h4.same s⟩⟩))
  · exact .inr (.inr (.inr ⟨e, h.same s⟩))
theorem BadW.bounds {K : PySem.W.Frag} {H : Hp} {way : Int} {x : V} (h : BadW K H way x) : 0 ≤ way ∧ way ≤ 14 := by
  rcases h with ⟨e, _⟩ | ⟨e, _⟩ | ⟨e, _⟩ | ⟨e, _⟩ <;> omega
theorem BadW.row {K : PySem.W.Frag} {H : Hp} {way : Int} {x : V} (h : BadW K H way x) (h1 : way ≠ 14) (h2 : way ≠ 13) (h3 : way ≠ 11) : RowB K H x false := by
  rcases h with ⟨e, _⟩ | ⟨e, _⟩ | ⟨e, _⟩ | ⟨_, h⟩
  · exact absurd e h1
  · exact absurd e h2
  · exact absurd e h3
  · exact h
def clsW (C : Ad) (way : Int) : Addr := if way = 14 then C.NoText else if way = 13 then C.NoNumber else C.NoRow
theorem clsW_row {C : Ad} {way : Int} (h : way ≤ 12) : clsW C way = C.NoRow := by unfold clsW; rw [if_neg (by omega), if_neg (by omega)]
theorem row_one : Row [1] := ⟨fun x hx => by
  obtain rfl : x = 1 := by simpa using hx
  exact .inr (.inr rfl), by unfold LastNz; decide⟩
section
variable {K : PySem.W.Frag} {C : Ad} {vs : List V} {H : Hp} {Q : VK} {E : XK}
def sp__law_asked (K : PySem.W.Frag) (C : Ad) : Sp := fun vs H _ E => ∃ way x, vs = [.int way, x] ∧ BadW K H way x ∧ ∀ H', Same H H' → E (.ref (clsW C way)) none H'
/-- the reading of _law_asked; slots: 0 _law_way 1 _law_thing_here -/
def t__law_asked (K : PySem.W.Frag) (C : Ad) (E : XK) : TS :=
      (tSeq (tIfS (tTest (tOp qLt (tVar 0) (tC (.int 4)))) (tRet (tCallV [(C.f_worth, sp_worth K C), (C.f_weight, sp_weight K C), (C.f_is_lean, sp_is_lean K C), (C.f_shown, sp_shown K C)] E (tOp (rIxL K) (tLst (tCons (tC (.ref C.f_worth)) (tCons (tC (.ref C.f_weight)) (tCons (tC (.ref C.f_is_lean)) (tCons (tC (.ref C.f_shown)) tNil))))) (tVar 0)) (tCons (tVar 1) tNil))) tNext)
      (tSeq (tIfS (tTest (tOp qLt (tVar 0) (tC (.int 7)))) (tRet (tCallV [(C.f_added, sp_added K C), (C.f_multiplied, sp_multiplied K C), (C.f_compared, sp_compared K C)] E (tOp (rIxL K) (tLst (tCons (tC (.ref C.f_added)) (tCons (tC (.ref C.f_multiplied)) (tCons (tC (.ref C.f_compared)) tNil)))) (tOp qSub (tVar 0) (tC (.int 4)))) (tCons (tVar 1) (tCons (tLst (tCons (tC (.int 1)) tNil)) tNil)))) tNext)
      (tSeq (tIfS (tTest (tOp qLt (tVar 0) (tC (.int 10)))) (tRet (tCallV [(C.f_added, sp_added K C), (C.f_multiplied, sp_multiplied K C), (C.f_compared, sp_compared K C)] E (tOp (rIxL K) (tLst (tCons (tC (.ref C.f_added)) (tCons (tC (.ref C.f_multiplied)) (tCons (tC (.ref C.f_compared)) tNil)))) (tOp qSub (tVar 0) (tC (.int 7)))) (tCons (tLst (tCons (tC (.int 1)) tNil)) (tCons (tVar 1) tNil)))) tNext)
      (tSeq (tIfS (tTest (tOp qLt (tVar 0) (tC (.int 12)))) (tRet (tCallV [(C.f_negated, sp_negated K C), (C.f_together, sp_together K C)] E (tOp (rIxL K) (tLst (tCons (tC (.ref C.f_negated)) (tCons (tC (.ref C.f_together)) tNil))) (tOp qSub (tVar 0) (tC (.int 10)))) (tCons (tVar 1) tNil))) tNext)
      (tSeq (tIfS (tTest (tOp rEq (tVar 0) (tC (.int 12)))) (tRet (tF (sp_together K C) E (tCons (tLst (tCons (tLst (tCons (tC (.int 1)) tNil)) (tCons (tVar 1) (tCons (tLst tNil) tNil)))) tNil))) tNext)
      (tRet (tCallV [(C.f_lean, sp_lean K C), (C.f_read, sp_read K C)] E (tOp (rIxL K) (tLst (tCons (tC (.ref C.f_lean)) (tCons (tC (.ref C.f_read)) tNil))) (tOp qSub (tVar 0) (tC (.int 13)))) (tCons (tVar 1) tNil))))))))
theorem r__law_asked (h : sp__law_asked K C vs H Q E) : t__law_asked K C E { nx := fun _ H' => Q .non H', rt := Q } (st 2 vs) H := by
  obtain ⟨way, x, rfl, hb, q⟩ := h
  unfold t__law_asked
  walk_at "st"
  walk_at "rd"
  obtain ⟨w0, w14⟩ := hb.bounds
  by_cases c4 : way < 4
  · rw [if_pos c4, r_callV]
    walk_at "rd"
    intro l nl
    generalize el : upd H l _ = H1
    obtain ⟨s1, hl⟩ := new_of el nl
    have rb := hb.row (by omega) (by omega) (by omega)
    rw [clsW_row (by omega)] at q
    obtain ⟨f, sp, hf, hm, hsp⟩ : ∃ f sp, atI [V.ref C.f_worth, V.ref C.f_weight, V.ref C.f_is_lean, V.ref C.f_shown] way = some (.ref f) ∧ (f, sp) ∈ [(C.f_worth, sp_worth K C), (C.f_weight, sp_weight K C), (C.f_is_lean, sp_is_lean K C), (C.f_shown, sp_shown K C)] ∧ sp [x] H1 Q E := by
      have go : ∀ R, rowSp K C R [x] H1 Q E := fun R => ⟨x, rfl, .inl ⟨rb.same s1, fun H2 s2 => q H2 (s1.trans s2)⟩⟩
      rcases (by omega : way = 0 ∨ way = 1 ∨ way = 2 ∨ way = 3) with e | e | e | e <;> subst e
      · exact ⟨_, _, rfl, .head _, go _⟩
      · exact ⟨_, _, rfl, .tail _ (.head _), go _⟩
      · exact ⟨_, _, rfl, .tail _ (.tail _ (.head _)), go _⟩
      · exact ⟨_, _, rfl, .tail _ (.tail _ (.tail _ (.head _))), go _⟩
    exact ⟨l, _, _, _, rfl, rfl, sq hl, hf, f, sp, rfl, hm, hsp⟩
  rw [if_neg c4]
  by_cases c7 : way < 7
  · rw [if_pos c7, r_callV]
    walk_at "rd"
    intro l nl
    generalize el : upd H l _ = H1
    obtain ⟨s1, hl⟩ := new_of el nl
    have rb := hb.row (by omega) (by omega) (by omega)
    rw [clsW_row (by omega)] at q
    obtain ⟨f, sp, hf, hm, hsp⟩ : ∃ f sp, atI [V.ref C.f_added, V.ref C.f_multiplied, V.ref C.f_compared] (way - 4) = some (.ref f) ∧ (f, sp) ∈ [(C.f_added, sp_added K C), (C.f_multiplied, sp_multiplied K C), (C.f_compared, sp_compared K C)] ∧ ∀ H2 y, Same H1 H2 → sp [x, y] H2 Q E := by
      have go : ∀ R H2 y, Same H1 H2 → rowSp2 K C R [x, y] H2 Q E := fun R H2 y s2 => ⟨x, y, rfl, .inl ⟨rb.same (s1.trans s2), fun H3 s3 => q H3 ((s1.trans s2).trans s3)⟩⟩
      rcases (by omega : way = 4 ∨ way = 5 ∨ way = 6) with e | e | e <;> subst e
      · exact ⟨_, _, rfl, .head _, go _⟩
      · exact ⟨_, _, rfl, .tail _ (.head _), go _⟩
      · exact ⟨_, _, rfl, .tail _ (.tail _ (.head _)), go _⟩
    refine ⟨l, _, _, _, rfl, rfl, sq hl, hf, f, sp, rfl, hm, ?_⟩
    intro l2 nl2
    exact hsp _ _ (Same.new nl2)
  rw [if_neg c7]
  by_cases c10 : way < 10
  · rw [if_pos c10, r_callV]
    walk_at "rd"
    intro l nl
    generalize el : upd H l _ = H1
    obtain ⟨s1, hl⟩ := new_of el nl
    have rb := hb.row (by omega) (by omega) (by omega)
    rw [clsW_row (by omega)] at q
    obtain ⟨f, sp, hf, hm, hsp⟩ : ∃ f sp, atI [V.ref C.f_added, V.ref C.f_multiplied, V.ref C.f_compared] (way - 7) = some (.ref f) ∧ (f, sp) ∈ [(C.f_added, sp_added K C), (C.f_multiplied, sp_multiplied K C), (C.f_compared, sp_compared K C)] ∧ ∀ H2 b, Same H1 H2 → H2 b = some (.lst [.int 1]) → sp [.ref b, x] H2 Q E := by
      have go : ∀ R H2 b, Same H1 H2 → H2 b = some (.lst [.int 1]) → rowSp2 K C R [.ref b, x] H2 Q E := fun R H2 b s2 hb2 => ⟨.ref b, x, rfl, .inr ⟨b, [1], rfl, sq hb2, row_one, by decide, .inl ⟨rb.same (s1.trans s2), fun H3 s3 => q H3 ((s1.trans s2).trans s3)⟩⟩⟩
      rcases (by omega : way = 7 ∨ way = 8 ∨ way = 9) with e | e | e <;> subst e
      · exact ⟨_, _, rfl, .head _, go _⟩
      · exact ⟨_, _, rfl, .tail _ (.head _), go _⟩
      · exact ⟨_, _, rfl, .tail _ (.tail _ (.head _)), go _⟩
    refine ⟨l, _, _, _, rfl, rfl, sq hl, hf, f, sp, rfl, hm, ?_⟩
    intro l2 nl2
    exact hsp _ _ (Same.new nl2) upd_same
  rw [if_neg c10]
  by_cases c12 : way < 12
  · rw [if_pos c12, r_callV]
    walk_at "rd"
    intro l nl
    generalize el : upd H l _ = H1
    obtain ⟨s1, hl⟩ := new_of el nl
    rw [clsW_row (by omega)] at q
    rcases (by omega : way = 10 ∨ way = 11) with e | e <;> subst e
    · have rb := hb.row (by omega) (by omega) (by omega)
      exact ⟨l, _, _, _, rfl, rfl, sq hl, rfl, C.f_negated, _, rfl, .head _, x, rfl, .inl ⟨rb.same s1, fun H2 s2 => q H2 (s1.trans s2)⟩⟩
    · refine ⟨l, _, _, _, rfl, rfl, sq hl, rfl, C.f_together, _, rfl, .tail _ (.head _), x, rfl, ?_⟩
      have hb1 := hb.same s1
      rcases hb1 with ⟨e, _⟩ | ⟨e, _⟩ | ⟨_, ⟨n, hn, hne⟩ | ⟨a, xs, rows, y, e1, h1, h2, h3, h4⟩⟩ | ⟨e, _⟩
      · omega
      · omega
      · exact .inl ⟨n, hn, hne, fun H2 s2 => q H2 (s1.trans s2)⟩
      · exact .inr ⟨a, xs, rows, e1, h1, h2, .inr ⟨y, h3, h4, fun H2 s2 => q H2 (s1.trans s2)⟩⟩
      · omega
  rw [if_neg c12]
  by_cases c12e : way = 12
  · rw [if_pos c12e]
    have rb := hb.row (by omega) (by omega) (by omega)
    rw [clsW_row (by omega)] at q
    intro l1 n1
    generalize e1 : upd H l1 _ = H1
    obtain ⟨s1, h1⟩ := new_of e1 n1
    intro l2 n2
    generalize e2 : upd H1 l2 _ = H2
    obtain ⟨s2, h2⟩ := new_of e2 n2
    intro l3 n3
    generalize e3 : upd H2 l3 _ = H3
    obtain ⟨s3, h3⟩ := new_of e3 n3
    have k3 := (s1.trans s2).trans s3
    refine ⟨.ref l3, rfl, .inr ⟨l3, _, [[1]], rfl, sq h3, fun i r hr => ?_, .inr ⟨x, rfl, rb.same k3, fun H4 s4 => q H4 (k3.trans s4)⟩⟩⟩
    cases i with
    | zero => cases hr; exact ⟨l1, rfl, sq (s3 _ _ (s2 _ _ h1)), row_one, by decide⟩
    | succ i => simp at hr
  rw [if_neg c12e, r_callV]
  walk_at "rd"
  intro l nl
  generalize el : upd H l _ = H1
  obtain ⟨s1, hl⟩ := new_of el nl
  have hb1 := hb.same s1
  rcases (by omega : way = 13 ∨ way = 14) with e | e <;> subst e
  · refine ⟨l, _, _, _, rfl, rfl, sq hl, rfl, C.f_lean, _, rfl, .head _, ?_⟩
    rcases hb1 with ⟨e, _⟩ | ⟨_, hw, n, hn⟩ | ⟨e, _⟩ | ⟨e, _⟩
    · omega
    · exact ⟨x, n, rfl, hn, fun _ => q H1 s1, fun i e => by rw [e] at hw; cases hw⟩
    · omega
    · omega
  · refine ⟨l, _, _, _, rfl, rfl, sq hl, rfl, C.f_read, _, rfl, .tail _ (.head _), x, rfl, ?_⟩
    rcases hb1 with ⟨_, ⟨n, hn, hne⟩ | ⟨t, e, hz, hd⟩⟩ | ⟨e, _⟩ | ⟨e, _⟩ | ⟨e, _⟩
    · exact .inl ⟨n, hn, hne, fun H2 s2 => q H2 (s1.trans s2)⟩
    · exact .inr ⟨t, e, hz, .inl ⟨hd, fun H2 s2 => q H2 (s1.trans s2)⟩⟩
    · omega
    · omega
    · omega
end
theorem kit_cls {K : PySem.W.Frag} {D X : Addr} {b : Bool} (hd : PySem.W.hasDictIn K X = true) (ht : PySem.W.typeIn K (.ref X) = some (.type "type")) (sub : PySem.W.subIn K (.ref D) (.ref X) = some b) (self : PySem.W.subIn K (.ref D) (.ref D) = some true) :
    PySem.W.kitOne K (.ref D) (.ref X) = some b := by
  unfold PySem.W.kitOne
  by_cases e : (Value.ref D == Value.ref X) = true
  · rw [if_pos e]
    have e2 : D = X := Value.ref.inj (beq_iff_eq.mp e)
    subst e2
    rw [self] at sub
    exact sub
  · rw [if_neg e]
    obtain ⟨cd, hc, _⟩ := PySem.W.any_some hd
    show (if ((PySem.W.clsIn K X).isSome && PySem.W.typeIn K (.ref X) == some (.type "type")) = true then PySem.W.subIn K (.ref D) (.ref X) else none) = some b
    rw [if_pos (by rw [hc, ht]; rfl)]
    exact sub
theorem kit_val {K : PySem.W.Frag} {D : Addr} (sub : PySem.W.subIn K (.ref D) (.type "ValueError") = some true) : PySem.W.kitOne K (.ref D) (.type "ValueError") = some true := by
  unfold PySem.W.kitOne
  rw [if_neg (by simp)]
  show (if PySem.W.kitMeta "ValueError" = true then PySem.W.subIn K (.ref D) (.type "ValueError") else none) = some true
  rw [if_pos (by decide +kernel)]
  exact sub
/-- what the class of an error says, asked of a kept one -/
structure KitW (K : PySem.W.Frag) (C : Ad) (D : Addr) (b1 b2 b3 : Bool) : Prop where
  ex : L2.ExcC K D
  le : PySem.W.exmOne K (.ref D) (.ref C.LeanError) = some true
  k1 : PySem.W.kitOne K (.ref D) (.ref C.NoRow) = some b1
  k2 : PySem.W.kitOne K (.ref D) (.ref C.NoNumber) = some b2
  k3 : PySem.W.kitOne K (.ref D) (.ref C.NoText) = some b3
  k4 : PySem.W.kitOne K (.ref D) (.ref C.NoCost) = some false
  k5 : PySem.W.kitOne K (.ref D) (.ref C.NoDeeds) = some false
  kv : PySem.W.kitOne K (.ref D) (.type "ValueError") = some true
def wordW (way : Int) : Str := if way = 14 then Str.ofString "text" else if way = 13 then Str.ofString "number" else Str.ofString "row"
section
variable {K : PySem.W.Frag} {C : Ad} {vs : List V} {H : Hp} {Q : VK} {E : XK}
theorem isx {a D X : Addr} {b : Bool} (h : H a = some (ErrO (.ref D) none a)) (ex : L2.ExcC K D) (k : PySem.W.kitOne K (.ref D) (.ref X) = some b) (q : Q (.bl b) H) : rIsX K [.ref a, .ref X] H Q := ⟨a, D, _, .ref X, b, rfl, h, ex, fun _ r => r, k, q⟩
def sp__law_word (K : PySem.W.Frag) (C : Ad) : Sp := fun vs H Q _ => ∃ way x, vs = [.int way, x] ∧ BadW K H way x ∧ ∀ H', Same H H' → Q (.str (wordW way)) H'
/-- the reading of _law_word; slots: 0 _law_way 1 _law_thing_here 2 _law_caught 3 error 4 _law_found -/
def t__law_word (K : PySem.W.Frag) (C : Ad) (E : XK) : TS :=
      (tSeq (tAsg (tC .non) (gName 2))
      (tSeq (fun D σ H => (fun W => (tDrop (tCallS (sp__law_asked K C) (WE W) (tCons (tVar 0) (tCons (tVar 1) tNil))))) (wKeep K (.ref C.LeanError) 3 (fun a cls d => (tAsg (tVar 3) (gName 2))) D) D σ H)
      (tSeq (tAsg (tLst (tCons (tCB (rIsX K) (tCons (tVar 2) (tCons (tC (.ref C.NoRow)) tNil))) (tCons (tCB (rIsX K) (tCons (tVar 2) (tCons (tC (.ref C.NoNumber)) tNil))) (tCons (tCB (rIsX K) (tCons (tVar 2) (tCons (tC (.ref C.NoText)) tNil))) tNil)))) (gName 4))
      (tSeq (tAsg (tOp (qCat K) (tVar 4) (tLst (tCons (tCB (rIsX K) (tCons (tVar 2) (tCons (tC (.ref C.NoCost)) tNil))) (tCons (tCB (rIsX K) (tCons (tVar 2) (tCons (tC (.ref C.NoDeeds)) tNil))) tNil)))) (gName 4))
      (tSeq (tIfS (tOr (tTest (tOp rNe (tBM K "list" (rCntF K) (tVar 4) (tCons (tC (.bl true)) tNil)) (tC (.int 1)))) (tNot (tB (tCB (rIsX K) (tCons (tVar 2) (tCons (tC (.ty "ValueError")) tNil)))))) (tRet (tC (.str "other"))) tNext)
      (tRet (tOp (rIxL K) (tLst (tCons (tC (.str "row")) (tCons (tC (.str "number")) (tCons (tC (.str "text")) (tCons (tC (.str "cost")) (tCons (tC (.str "deeds")) tNil)))))) (tBM K "list" (rIndex K) (tVar 4) (tCons (tC (.bl true)) tNil)))))))))
theorem r__law_word (kr : KitW K C C.NoRow true false false) (kn : KitW K C C.NoNumber false true false) (kt : KitW K C C.NoText false false true) (h : sp__law_word K C vs H Q E) : t__law_word K C E { nx := fun _ H' => Q .non H', rt := Q } (st 5 vs) H := by
  obtain ⟨way, x, rfl, hb, q⟩ := h
  unfold t__law_word
  walk_at "st"
  walk_at "rd"
  obtain ⟨w0, w14⟩ := hb.bounds
  obtain ⟨D, b1, b2, b3, j, eD, kd, hc, ⟨z, hz, hze⟩, hm, hw⟩ : ∃ (D : Addr) (b1 b2 b3 : Bool) (j : Nat), clsW C way = D ∧ KitW K C D b1 b2 b3 ∧ ([V.bl b1, .bl b2, .bl b3, .bl false, .bl false].countP fun z => eqV z (.bl true)) = 1 ∧ (∃ z, [V.bl b1, .bl b2, .bl b3, .bl false, .bl false][j]? = some z ∧ eqV z (.bl true) = true) ∧
      (∀ (m : Nat) (z' : V), m < j → [V.bl b1, .bl b2, .bl b3, .bl false, .bl false][m]? = some z' → eqV z' (.bl true) = false) ∧
      atI [V.str (Str.ofString "row"), .str (Str.ofString "number"), .str (Str.ofString "text"), .str (Str.ofString "cost"), .str (Str.ofString "deeds")] (j : Int) = some (.str (wordW way)) := by
    by_cases e : way = 14
    · refine ⟨C.NoText, false, false, true, 2, by unfold clsW; rw [if_pos e], kt, rfl, ⟨_, rfl, rfl⟩, fun m z' hm hz => ?_, by unfold wordW; rw [if_pos e]; rfl⟩
      match m, hm, hz with
      | 0, _, hz => cases hz; rfl
      | 1, _, hz => cases hz; rfl
    by_cases e2 : way = 13
    · refine ⟨C.NoNumber, false, true, false, 1, by unfold clsW; rw [if_neg e, if_pos e2], kn, rfl, ⟨_, rfl, rfl⟩, fun m z' hm hz => ?_, by unfold wordW; rw [if_neg e, if_pos e2]; rfl⟩
      match m, hm, hz with
      | 0, _, hz => cases hz; rfl
    · exact ⟨C.NoRow, true, false, false, 0, by unfold clsW; rw [if_neg e, if_neg e2], kr, rfl, ⟨_, rfl, rfl⟩, fun m z' hm hz => absurd hm (by omega), by unfold wordW; rw [if_neg e, if_neg e2]; rfl⟩
  refine ⟨way, x, rfl, hb, fun H1 s1 => ?_⟩
  rw [eD]
  simp only [WE, wKeep]
  refine ⟨kd.le, fun a na => ?_⟩
  walk_at "rd"
  intro na2
  have s2 : Same H1 (upd H1 a (ErrO (.ref D) none a)) := Same.new na2
  have ha : (upd H1 a (ErrO (.ref D) none a)) a = some (ErrO (.ref D) none a) := upd_same
  generalize upd H1 a (ErrO (.ref D) none a) = H2 at s2 ha
  walk_at "rd"
  refine isx ha kd.ex kd.k1 ?_
  refine isx ha kd.ex kd.k2 ?_
  refine isx ha kd.ex kd.k3 ?_
  intro l1 n1
  generalize e1 : upd H2 l1 _ = H3
  obtain ⟨s3, h3⟩ := new_of e1 n1
  have ha3 := s3 _ _ ha
  refine isx ha3 kd.ex kd.k4 ?_
  refine isx ha3 kd.ex kd.k5 ?_
  intro l2 n2
  generalize e2 : upd H3 l2 _ = H4
  obtain ⟨s4, h4⟩ := new_of e2 n2
  refine ⟨l1, l2, _, _, rfl, rfl, sq (s4 _ _ h3), sq h4, by rw [sizeLine_is]; simp, fun l3 n3 => ?_⟩
  generalize e3 : upd H4 l3 _ = H5
  obtain ⟨s5, h5⟩ := new_of e3 n3
  have h5' : H5 l3 = some (.lst [V.bl b1, .bl b2, .bl b3, .bl false, .bl false]) := h5
  have ha5 := s5 _ _ (s4 _ _ ha3)
  walk_at "rd"
  refine ⟨.inl ⟨rfl, _, sq h5'⟩, l3, _, _, rfl, rfl, sq h5', rfl, rfl, ?_⟩
  rw [hc]
  walk_at "rd"
  rw [if_pos (by rfl)]
  refine ⟨a, D, _, .type "ValueError", true, rfl, ha5, kd.ex, fun _ r => r, kd.kv, true, rfl, ?_⟩
  rw [if_neg (by decide)]
  intro l4 n4
  generalize e4 : upd H5 l4 _ = H6
  obtain ⟨s6, h6⟩ := new_of e4 n4
  have h56 := s6 _ _ h5'
  refine ⟨.inl ⟨rfl, _, sq h56⟩, l3, _, _, j, z, rfl, rfl, sq h56, rfl, rfl, hz, hze, hm, ?_⟩
  refine ⟨l4, _, _, _, rfl, rfl, sq h6, hw, ?_⟩
  exact q H6 (((((s1.trans s2).trans s3).trans s4).trans s5).trans s6)
/-- a list that is no row -/
theorem RowB.bad {a : Addr} {xs : List V} (h : H a = some (.lst xs)) (ht : ∀ y ∈ xs, ∃ n, Th K H y n) (hz : xs.length ≤ 8000000) (e : rowV xs = false) : RowB K H (.ref a) false := e ▸ .lst (sq h) ht hz
theorem pickL {P : V → Prop} {l : List V} {i : Int} (h : ∀ y ∈ l, P y) (hi : 0 ≤ i ∧ i < (l.length : Int)) : ∃ y, atI l i = some y ∧ P y := by
  obtain ⟨y, hy⟩ := getE (l := l) (i := i.toNat) (by omega)
  exact ⟨y, atI_at (j := i.toNat) (by omega) hy, h y (List.mem_of_getElem? hy)⟩
def sp__law_thing (K : PySem.W.Frag) (C : Ad) : Sp := fun vs H Q _ => ∃ way c : Int, vs = [.int way, .int c] ∧ 0 ≤ way ∧ way ≤ 14 ∧ 0 ≤ c ∧ ∀ H' x, Same H H' → BadW K H' way x → Q x H'
/-- the reading of _law_thing; slots: 0 _law_way 1 _law_cell 2 _law_some -/
def t__law_thing (K : PySem.W.Frag) (C : Ad) (E : XK) : TS :=
      (tSeq (tAsg (tLst (tCons (tC .non) (tCons (tC (.bl true)) (tCons (tC (.bl false)) (tCons (tTup (tCons (tC (.int 1)) tNil)) (tCons tDNewK (tCons (tC (.str "x")) (tCons (tC (.str "")) (tCons (tLst (tCons (tC (.int 0)) tNil)) (tCons (tLst (tCons (tC (.int 1)) (tCons (tC (.int 0)) tNil))) (tCons (tLst (tCons (tC (.int 2)) tNil)) (tCons (tLst (tCons (tC (.int 1)) (tCons (tC (.bl true)) tNil))) (tCons (tLst (tCons (tC (.int 1)) (tCons (tC .non) tNil))) (tCons (tLst (tCons (tC (.str "1")) tNil)) (tCons (tLst (tCons (tLst (tCons (tC (.int 1)) tNil)) tNil)) (tCons (tTup (tCons (tC (.int 0)) (tCons (tC (.int 1)) tNil))) (tCons (tLst (tCons (tC (.int 0)) (tCons (tC (.int 0)) tNil))) tNil))))))))))))))))) (gName 2))
      (tSeq (tIfS (tTest (tOp rEq (tVar 0) (tC (.int 14)))) (tRet (tOp (rIxL K) (tLst (tCons (tC .non) (tCons (tC (.int 5)) (tCons (tC (.bl true)) (tCons (tLst (tCons (tC (.int 1)) tNil)) (tCons (tTup tNil) (tCons tDNewK (tCons (tC (.str "")) (tCons (tC (.str "00")) (tCons (tC (.str "0+")) (tCons (tC (.str "+ 0")) (tCons (tC (.str "1")) (tCons (tC (.str "+\n")) tNil))))))))))))) (tOp qMod (tVar 1) (tC (.int 12))))) tNext)
      (tSeq (tIfS (tTest (tOp rEq (tVar 0) (tC (.int 13)))) (tRet (tOp (rIxL K) (tLst (tCons (tC .non) (tCons (tC (.bl true)) (tCons (tC (.bl false)) (tCons (tC (.str "5")) (tCons (tLst (tCons (tC (.int 5)) tNil)) (tCons (tTup (tCons (tC (.int 5)) tNil)) (tCons tDNewK (tCons (tLst tNil) (tCons (tC (.str "")) (tCons (tLst (tCons (tC (.int 0)) tNil)) tNil))))))))))) (tOp qMod (tVar 1) (tC (.int 10))))) tNext)
      (tSeq (tIfS (tTest (tOp rEq (tVar 0) (tC (.int 11)))) (tRet (tOp (rIxL K) (tLst (tCons (tC .non) (tCons (tC (.int 5)) (tCons (tC (.bl true)) (tCons (tC (.str "+")) (tCons (tTup (tCons (tLst (tCons (tC (.int 1)) tNil)) tNil)) (tCons tDNewK (tCons (tLst (tCons (tC (.int 5)) tNil)) (tCons (tLst (tCons (tLst (tCons (tC (.int 1)) tNil)) (tCons (tC .non) tNil))) (tCons (tLst (tCons (tLst (tCons (tC (.int 0)) tNil)) tNil)) (tCons (tLst (tCons (tLst (tCons (tC (.int 1)) tNil)) (tCons (tLst (tCons (tC (.int 2)) tNil)) tNil))) tNil))))))))))) (tOp qMod (tVar 1) (tC (.int 10))))) tNext)
      (tRet (tOp (rIxL K) (tOp (qCat K) (tVar 2) (tLst (tCons (tC (.int 5)) (tCons (tUn qNeg (tC (.int 1))) (tCons (tC (.str "+")) (tCons (tC (.str "0")) tNil)))))) (tOp qMod (tVar 1) (tC (.int 20)))))))))
theorem r__law_thing (h : sp__law_thing K C vs H Q E) : t__law_thing K C E { nx := fun _ H' => Q .non H', rt := Q } (st 3 vs) H := by
  obtain ⟨way, c, rfl, w0, w14, c0, q⟩ := h
  have rd : ∀ {σ : L2.St} {H : Hp} {Q : VK}, tDNewK σ H Q = ∀ p, H p = none → Q (.ref p) (upd H p (.dK [])) := rfl
  unfold t__law_thing
  walk_at "st"
  walk_at "rd"
  intro a1 m1
  generalize e1 : upd H a1 _ = H1
  obtain ⟨s1, h1⟩ := new_of e1 m1
  rw [rd]
  intro a2 m2
  generalize e2 : upd H1 a2 _ = H2
  obtain ⟨s2, h2⟩ := new_of e2 m2
  intro a3 m3
  generalize e3 : upd H2 a3 _ = H3
  obtain ⟨s3, h3⟩ := new_of e3 m3
  intro a4 m4
  generalize e4 : upd H3 a4 _ = H4
  obtain ⟨s4, h4⟩ := new_of e4 m4
  intro a5 m5
  generalize e5 : upd H4 a5 _ = H5
  obtain ⟨s5, h5⟩ := new_of e5 m5
  intro a6 m6
  generalize e6 : upd H5 a6 _ = H6
  obtain ⟨s6, h6⟩ := new_of e6 m6
  intro a7 m7
  generalize e7 : upd H6 a7 _ = H7
  obtain ⟨s7, h7⟩ := new_of e7 m7
  intro a8 m8
  generalize e8 : upd H7 a8 _ = H8
  obtain ⟨s8, h8⟩ := new_of e8 m8
  intro a9 m9
  generalize e9 : upd H8 a9 _ = H9
  obtain ⟨s9, h9⟩ := new_of e9 m9
  intro a10 m10
  generalize e10 : upd H9 a10 _ = H10
  obtain ⟨s10, h10⟩ := new_of e10 m10
  intro a11 m11
  generalize e11 : upd H10 a11 _ = H11
  obtain ⟨s11, h11⟩ := new_of e11 m11
  intro a12 m12
  generalize e12 : upd H11 a12 _ = H12
  obtain ⟨s12, h12⟩ := new_of e12 m12
  intro a13 m13
  generalize e13 : upd H12 a13 _ = H13
  obtain ⟨s13, h13⟩ := new_of e13 m13
  have k12 := s12.trans s13
  have k11 := s11.trans k12
  have k10 := s10.trans k11
  have k9 := s9.trans k10
  have k8 := s8.trans k9
  have k7 := s7.trans k8
  have k6 := s6.trans k7
  have k5 := s5.trans k6
  have k4 := s4.trans k5
  have k3 := s3.trans k4
  have k2 := s2.trans k3
  have k1 := s1.trans k2
  have txt_ : ∀ (G : Hp) (z : String) (t : List Nat), Str.ofString z = mkS t → t.length ≤ 1000000 → due t = none → BadW K G 14 (.str (Str.ofString z)) := fun G z t e hz hd => .inl ⟨rfl, .inr ⟨t, by rw [e], hz, hd⟩⟩
  have no14 : ∀ (G : Hp) (x : V) (n : String), Th K G x n → n ≠ "str" → BadW K G 14 x := fun G x n h hn => .inl ⟨rfl, .inl ⟨n, h, hn⟩⟩
  have no13 : ∀ (G : Hp) (x : V) (n : String), Th K G x n → n ≠ "int" → BadW K G 13 x := fun G x n h hn => .inr (.inl ⟨rfl, h.not_int hn, n, h⟩)
  have no11 : ∀ (G : Hp) (x : V) (n : String), Th K G x n → n ≠ "list" → BadW K G 11 x := fun G x n h hn => .inr (.inr (.inl ⟨rfl, .inl ⟨n, h, hn⟩⟩))
  have thI : ∀ (G : Hp) (ys : List Int), ∀ y ∈ ys.map V.int, ∃ n, Th K G y n := fun G ys y hy => by
    obtain ⟨i, _, rfl⟩ := List.mem_map.mp hy
    exact ⟨_, th_int⟩
  by_cases w14e : way = 14
  · rw [if_pos w14e]
    subst w14e
    intro b1 n1
    generalize f1 : upd H13 b1 _ = G1
    obtain ⟨g1, i1⟩ := new_of f1 n1
    intro b2 n2
    generalize f2 : upd G1 b2 _ = G2
    obtain ⟨g2, i2⟩ := new_of f2 n2
    rw [rd]
    intro b3 n3
    generalize f3 : upd G2 b3 _ = G3
    obtain ⟨g3, i3⟩ := new_of f3 n3
    intro b4 n4
    generalize f4 : upd G3 b4 _ = G4
    obtain ⟨g4, i4⟩ := new_of f4 n4
    have l3 := g3.trans g4
    have l2 := g2.trans l3
    obtain ⟨y, hy, hP⟩ := pickL (P := BadW K G4 14) (l := [V.non, .int 5, .bl true, .ref b1, .ref b2, .ref b3, .str (Str.ofString ""), .str (Str.ofString "00"), .str (Str.ofString "0+"), .str (Str.ofString "+ 0"), .str (Str.ofString "1"), .str (Str.ofString "+\n")]) (i := c % 12) (by
      intro y hy
      simp only [List.mem_cons, List.not_mem_nil, or_false] at hy
      rcases hy with rfl | rfl | rfl | rfl | rfl | rfl | rfl | rfl | rfl | rfl | rfl | rfl
      · exact no14 _ _ _ th_non (by decide)
      · exact no14 _ _ _ th_int (by decide)
      · exact no14 _ _ _ th_bl (by decide)
      · exact no14 _ _ _ (th_sq (sq (l2 _ _ i1))) (by decide)
      · exact no14 _ _ _ (th_tup (l3 _ _ i2)) (by decide)
      · exact no14 _ _ _ (th_dict (g4 _ _ i3)) (by decide)
      · exact txt_ _ _ [] (by decide) (by decide) (by decide)
      · exact txt_ _ _ [48, 48] (by decide) (by decide) (by decide)
      · exact txt_ _ _ [48, 43] (by decide) (by decide) (by decide)
      · exact txt_ _ _ [43, 32, 48] (by decide) (by decide) (by decide)
      · exact txt_ _ _ [49] (by decide) (by decide) (by decide)
      · exact txt_ _ _ [43, 10] (by decide) (by decide) (by decide)) (by simp; omega)
    exact ⟨b4, _, _, y, rfl, rfl, sq i4, hy, q _ _ (k1.trans (g1.trans l2)) hP⟩
  rw [if_neg w14e]
  by_cases w13e : way = 13
  · rw [if_pos w13e]
    subst w13e
    intro b1 n1
    generalize f1 : upd H13 b1 _ = G1
    obtain ⟨g1, i1⟩ := new_of f1 n1
    intro b2 n2
    generalize f2 : upd G1 b2 _ = G2
    obtain ⟨g2, i2⟩ := new_of f2 n2
    rw [rd]
    intro b3 n3
    generalize f3 : upd G2 b3 _ = G3
    obtain ⟨g3, i3⟩ := new_of f3 n3
    intro b4 n4
    generalize f4 : upd G3 b4 _ = G4
    obtain ⟨g4, i4⟩ := new_of f4 n4
    intro b5 n5
    generalize f5 : upd G4 b5 _ = G5
    obtain ⟨g5, i5⟩ := new_of f5 n5
    intro b6 n6
    generalize f6 : upd G5 b6 _ = G6
    obtain ⟨g6, i6⟩ := new_of f6 n6
    have l5 := g5.trans g6
    have l4 := g4.trans l5
    have l3 := g3.trans l4
    have l2 := g2.trans l3
    obtain ⟨y, hy, hP⟩ := pickL (P := BadW K G6 13) (l := [V.non, .bl true, .bl false, .str (Str.ofString "5"), .ref b1, .ref b2, .ref b3, .ref b4, .str (Str.ofString ""), .ref b5]) (i := c % 10) (by
      intro y hy
      simp only [List.mem_cons, List.not_mem_nil, or_false] at hy
      rcases hy with rfl | rfl | rfl | rfl | rfl | rfl | rfl | rfl | rfl | rfl
      · exact no13 _ _ _ th_non (by decide)
      · exact no13 _ _ _ th_bl (by decide)
      · exact no13 _ _ _ th_bl (by decide)
      · exact no13 _ _ _ th_str (by decide)
      · exact no13 _ _ _ (th_sq (sq (l2 _ _ i1))) (by decide)
      · exact no13 _ _ _ (th_tup (l3 _ _ i2)) (by decide)
      · exact no13 _ _ _ (th_dict (l4 _ _ i3)) (by decide)
      · exact no13 _ _ _ (th_sq (sq (l5 _ _ i4))) (by decide)
      · exact no13 _ _ _ th_str (by decide)
      · exact no13 _ _ _ (th_sq (sq (g6 _ _ i5))) (by decide)) (by simp; omega)
    exact ⟨b6, _, _, y, rfl, rfl, sq i6, hy, q _ _ (k1.trans (g1.trans l2)) hP⟩
  rw [if_neg w13e]
  by_cases w11e : way = 11
  · rw [if_pos w11e]
    subst w11e
    intro b1 n1
    generalize f1 : upd H13 b1 _ = G1
    obtain ⟨g1, i1⟩ := new_of f1 n1
    intro b2 n2
    generalize f2 : upd G1 b2 _ = G2
    obtain ⟨g2, i2⟩ := new_of f2 n2
    rw [rd]
    intro b3 n3
    generalize f3 : upd G2 b3 _ = G3
    obtain ⟨g3, i3⟩ := new_of f3 n3
    intro b4 n4
    generalize f4 : upd G3 b4 _ = G4
    obtain ⟨g4, i4⟩ := new_of f4 n4
    intro b5 n5
    generalize f5 : upd G4 b5 _ = G5
    obtain ⟨g5, i5⟩ := new_of f5 n5
    intro b6 n6
    generalize f6 : upd G5 b6 _ = G6
    obtain ⟨g6, i6⟩ := new_of f6 n6
    intro b7 n7
    generalize f7 : upd G6 b7 _ = G7
    obtain ⟨g7, i7⟩ := new_of f7 n7
    intro b8 n8
    generalize f8 : upd G7 b8 _ = G8
    obtain ⟨g8, i8⟩ := new_of f8 n8
    intro b9 n9
    generalize f9 : upd G8 b9 _ = G9
    obtain ⟨g9, i9⟩ := new_of f9 n9
    intro b10 n10
    generalize f10 : upd G9 b10 _ = G10
    obtain ⟨g10, i10⟩ := new_of f10 n10
    intro b11 n11
    generalize f11 : upd G10 b11 _ = G11
    obtain ⟨g11, i11⟩ := new_of f11 n11
    intro b12 n12
    generalize f12 : upd G11 b12 _ = G12
    obtain ⟨g12, i12⟩ := new_of f12 n12
    have l11 := g11.trans g12
    have l10 := g10.trans l11
    have l9 := g9.trans l10
    have l8 := g8.trans l9
    have l7 := g7.trans l8
    have l6 := g6.trans l7
    have l5 := g5.trans l6
    have l4 := g4.trans l5
    have l3 := g3.trans l4
    have l2 := g2.trans l3
    have bad0 : ∀ (b : Addr) (xs : List V) (y : V), G12 b = some (.lst (y :: xs)) → RowB K G12 y false → BadW K G12 11 (.ref b) := fun b xs y hb hy => .inr (.inr (.inl ⟨rfl, .inr ⟨b, _, [], y, rfl, sq hb, fun i r hr => by simp at hr, rfl, hy⟩⟩))
    have bad1 : ∀ (b r1 : Addr) (y : V), G12 b = some (.lst [.ref r1, y]) → G12 r1 = some (.lst [.int 1]) → RowB K G12 y false → BadW K G12 11 (.ref b) := fun b r1 y hb hr1 hy => .inr (.inr (.inl ⟨rfl, .inr ⟨b, _, [[1]], y, rfl, sq hb, fun i r hr => by
      cases i with
      | zero => cases hr; exact ⟨r1, rfl, sq hr1, row_one, by decide⟩
      | succ i => simp at hr, rfl, hy⟩⟩))
    obtain ⟨y, hy, hP⟩ := pickL (P := BadW K G12 11) (l := [V.non, .int 5, .bl true, .str (Str.ofString "+"), .ref b2, .ref b3, .ref b4, .ref b6, .ref b8, .ref b11]) (i := c % 10) (by
      intro y hy
      simp only [List.mem_cons, List.not_mem_nil, or_false] at hy
      rcases hy with rfl | rfl | rfl | rfl | rfl | rfl | rfl | rfl | rfl | rfl
      · exact no11 _ _ _ th_non (by decide)
      · exact no11 _ _ _ th_int (by decide)
      · exact no11 _ _ _ th_bl (by decide)
      · exact no11 _ _ _ th_str (by decide)
      · exact no11 _ _ _ (th_tup (l3 _ _ i2)) (by decide)
      · exact no11 _ _ _ (th_dict (l4 _ _ i3)) (by decide)
      · exact bad0 _ _ _ (l5 _ _ i4) (.no th_int (by decide))
      · exact bad1 _ _ _ (l7 _ _ i6) (l6 _ _ i5) (.no th_non (by decide))
      · exact bad0 _ _ _ (l9 _ _ i8) (RowB.bad (l8 _ _ i7) (thI _ [0]) (by decide) rfl)
      · exact bad1 _ _ _ (g12 _ _ i11) (l10 _ _ i9) (RowB.bad (l11 _ _ i10) (thI _ [2]) (by decide) rfl)) (by simp; omega)
    exact ⟨b12, _, _, y, rfl, rfl, sq i12, hy, q _ _ (k1.trans (g1.trans l2)) hP⟩
  rw [if_neg w11e]
  intro b1 n1
  generalize f1 : upd H13 b1 _ = G1
  obtain ⟨g1, i1⟩ := new_of f1 n1
  refine ⟨a13, b1, _, _, rfl, rfl, sq (g1 _ _ h13), sq i1, by rw [sizeLine_is]; simp, fun b2 n2 => ?_⟩
  generalize f2 : upd G1 b2 _ = G2
  obtain ⟨g2, i2⟩ := new_of f2 n2
  have l1 := g1.trans g2
  have rest : ∀ x, RowB K G2 x false → BadW K G2 way x := fun x h => .inr (.inr (.inr ⟨⟨w0, by omega, w11e⟩, h⟩))
  have no : ∀ (x : V) (n : String), Th K G2 x n → n ≠ "list" → BadW K G2 way x := fun x n h hn => rest x (.no h hn)
  have bad : ∀ (b : Addr) (xs : List V), G2 b = some (.lst xs) → (∀ y ∈ xs, ∃ n, Th K G2 y n) → xs.length ≤ 8000000 → rowV xs = false → BadW K G2 way (.ref b) := fun b xs h ht hz e => rest _ (RowB.bad h ht hz e)
  obtain ⟨y, hy, hP⟩ := pickL (P := BadW K G2 way) (l := [V.non, .bl true, .bl false, .ref a1, .ref a2, .str (Str.ofString "x"), .str (Str.ofString ""), .ref a3, .ref a4, .ref a5, .ref a6, .ref a7, .ref a8, .ref a10, .ref a11, .ref a12] ++ [.int 5, .int (-1), .str (Str.ofString "+"), .str (Str.ofString "0")]) (i := c % 20) (by
    intro y hy
    simp only [List.cons_append, List.nil_append, List.mem_cons, List.not_mem_nil, or_false] at hy
    rcases hy with rfl | rfl | rfl | rfl | rfl | rfl | rfl | rfl | rfl | rfl | rfl | rfl | rfl | rfl | rfl | rfl | rfl | rfl | rfl | rfl
    · exact no _ _ th_non (by decide)
    · exact no _ _ th_bl (by decide)
    · exact no _ _ th_bl (by decide)
    · exact no _ _ (th_tup (l1 _ _ (k2 _ _ h1))) (by decide)
    · exact no _ _ (th_dict (l1 _ _ (k3 _ _ h2))) (by decide)
    · exact no _ _ th_str (by decide)
    · exact no _ _ th_str (by decide)
    · exact bad _ _ (l1 _ _ (k4 _ _ h3)) (thI _ [0]) (by decide) rfl
    · exact bad _ _ (l1 _ _ (k5 _ _ h4)) (thI _ [1, 0]) (by decide) rfl
    · exact bad _ _ (l1 _ _ (k6 _ _ h5)) (thI _ [2]) (by decide) rfl
    · exact bad _ _ (l1 _ _ (k7 _ _ h6)) (fun y hy => by
        simp only [List.mem_cons, List.not_mem_nil, or_false] at hy
        rcases hy with rfl | rfl
        · exact ⟨_, th_int⟩
        · exact ⟨_, th_bl⟩) (by decide) rfl
    · exact bad _ _ (l1 _ _ (k8 _ _ h7)) (fun y hy => by
        simp only [List.mem_cons, List.not_mem_nil, or_false] at hy
        rcases hy with rfl | rfl
        · exact ⟨_, th_int⟩
        · exact ⟨_, th_non⟩) (by decide) rfl
    · exact bad _ _ (l1 _ _ (k9 _ _ h8)) (fun y hy => by
        obtain rfl : y = .str (Str.ofString "1") := by simpa using hy
        exact ⟨_, th_str⟩) (by decide) rfl
    · exact bad _ _ (l1 _ _ (k11 _ _ h10)) (fun y hy => by
        obtain rfl : y = .ref a9 := by simpa using hy
        exact ⟨_, th_sq (sq (l1 _ _ (k10 _ _ h9)))⟩) (by simp) rfl
    · exact no _ _ (th_tup (l1 _ _ (k12 _ _ h11))) (by decide)
    · exact bad _ _ (l1 _ _ (s13 _ _ h12)) (thI _ [0, 0]) (by decide) rfl
    · exact no _ _ th_int (by decide)
    · exact no _ _ th_int (by decide)
    · exact no _ _ th_str (by decide)
    · exact no _ _ th_str (by decide)) (by simp; omega)
  exact ⟨b2, _, _, y, rfl, rfl, sq i2, hy, q _ _ (k1.trans l1) hP⟩
theorem words_at {way : Int} (h : 0 ≤ way ∧ way ≤ 14) : atI ((List.replicate 13 [V.str (Str.ofString "row")]).flatten ++ [V.str (Str.ofString "number"), V.str (Str.ofString "text")]) way = some (.str (wordW way)) := by
  unfold wordW
  rcases (by omega : way = 0 ∨ way = 1 ∨ way = 2 ∨ way = 3 ∨ way = 4 ∨ way = 5 ∨ way = 6 ∨ way = 7 ∨ way = 8 ∨ way = 9 ∨ way = 10 ∨ way = 11 ∨ way = 12 ∨ way = 13 ∨ way = 14) with e | e | e | e | e | e | e | e | e | e | e | e | e | e | e <;> subst e <;> rfl
theorem naf5 : naf 5 = [1, 0, 1] := by
  rw [naf_step (show (5 : Int) ≠ 0 by decide), show nxt 5 = 2 by decide, naf_step (show (2 : Int) ≠ 0 by decide), show nxt 2 = 1 by decide, naf_step (show (1 : Int) ≠ 0 by decide), show nxt 1 = 0 by decide, naf_zero]
  decide
theorem naf3 : naf 3 = [-1, 0, 1] := by
  rw [naf_step (show (3 : Int) ≠ 0 by decide), show nxt 3 = 2 by decide, naf_step (show (2 : Int) ≠ 0 by decide), show nxt 2 = 1 by decide, naf_step (show (1 : Int) ≠ 0 by decide), show nxt 1 = 0 by decide, naf_zero]
  decide
theorem row_11 : Row [1, 1] := ⟨fun x hx => by
  simp only [List.mem_cons, List.not_mem_nil, or_false] at hx
  unfold Fg
  omega, by unfold LastNz; decide⟩
theorem row_01 : Row [0, 1] := ⟨fun x hx => by
  simp only [List.mem_cons, List.not_mem_nil, or_false] at hx
  unfold Fg
  omega, by unfold LastNz; decide⟩
/-- the reading of law; slots: 0 _law_script 1 _law_words 2 _law_k 3 _law_cell 4 _law_number 5 _law_way 6 _law_thing_here -/
def t_law_k12 (K : PySem.W.Frag) (C : Ad) (E : XK) : TS :=
      (tSeq (tAsg (tOp (qCat K) (tOp rRep (tLst (tCons (tC (.str "row")) tNil)) (tC (.int 13))) (tLst (tCons (tC (.str "number")) (tCons (tC (.str "text")) tNil)))) (gName 1))
      (tSeq (tFor (iEnum K (tCons (tOp (qCat K) (tVar 0) (tLst (tCons (tC (.int 9)) tNil))) tNil)) (gTup K 2 (gCons (gName 2) (gCons (gName 3) gNil))) (tSeq (tAsg (tF (sp__law_mixed K C) E (tCons (tVar 3) (tCons (tOp qMod (tVar 2) (tC (.int 64))) tNil))) (gName 4))
      (tSeq (tAsg (tOp qMod (tVar 4) (tC (.int 15))) (gName 5))
      (tSeq (tAsg (tF (sp__law_thing K C) E (tCons (tVar 5) (tCons (tOp qDiv (tVar 4) (tC (.int 15))) tNil))) (gName 6))
      (tSeq (tIfS (tTest (tOp rNe (tF (sp__law_word K C) E (tCons (tVar 5) (tCons (tVar 6) tNil))) (tOp (rIxL K) (tVar 1) (tVar 5)))) (tRet (tC (.bl false))) tNext)
      (tIfS (tOr (tTest (tOp (rNeD K) (tF (sp_added K C) E (tCons (tLst (tCons (tC (.int 1)) (tCons (tC (.int 1)) tNil))) (tCons (tLst (tCons (tC (.int 0)) (tCons (tC (.int 1)) tNil))) tNil))) (tLst (tCons (tC (.int 1)) (tCons (tC (.int 0)) (tCons (tC (.int 1)) tNil)))))) (tOr (tTest (tOp (rNeD K) (tF (sp_lean K C) E (tCons (tC (.int 3)) tNil)) (tLst (tCons (tUn qNeg (tC (.int 1))) (tCons (tC (.int 0)) (tCons (tC (.int 1)) tNil)))))) (tTest (tOp (rNeD K) (tF (sp_read K C) E (tCons (tC (.str "+0-")) tNil)) (tLst (tCons (tUn qNeg (tC (.int 1))) (tCons (tC (.int 0)) (tCons (tC (.int 1)) tNil)))))))) (tRet (tC (.bl false))) tNext))))))
      (tRet (tC (.bl true)))))
theorem r_law_k12 (h : spLaw K vs H Q E) : t_law_k12 K C E { nx := fun _ H' => Q .non H', rt := Q } (st 7 vs) H := by
  obtain ⟨a, ns, rfl, hx, hl, hb, q⟩ := h
  unfold t_law_k12
  walk_at "st"
  walk_at "rd"
  intro l1 n1
  generalize e1 : upd H l1 _ = H1
  obtain ⟨s1, h1⟩ := new_of e1 n1
  refine ⟨l1, 13, _, rfl, rfl, h1, by decide, by decide, by rw [sizeLine_is]; simp, fun l2 n2 => ?_⟩
  generalize e2 : upd H1 l2 _ = H2
  obtain ⟨s2, h2⟩ := new_of e2 n2
  intro l3 n3
  generalize e3 : upd H2 l3 _ = H3
  obtain ⟨s3, h3⟩ := new_of e3 n3
  refine ⟨l2, l3, _, _, rfl, rfl, sq (s3 _ _ h2), sq h3, by rw [sizeLine_is]; simp, fun l4 n4 => ?_⟩
  generalize e4 : upd H3 l4 _ = H4
  obtain ⟨s4, h4⟩ := new_of e4 n4
  have k4 := ((s1.trans s2).trans s3).trans s4
  walk_at "rd"
  rw [r_forE]
  walk_at "rd"
  intro l5 n5
  generalize e5 : upd H4 l5 _ = H5
  obtain ⟨s5, h5⟩ := new_of e5 n5
  refine ⟨a, l5, _, _, rfl, rfl, (k4.trans s5).seq hx, sq h5, by rw [List.length_map, sizeLine_is]; simp; omega, fun l6 n6 => ?_⟩
  generalize e6 : upd H5 l6 _ = H6
  obtain ⟨s6, h6⟩ := new_of e6 n6
  have h6' : H6 l6 = some (.lst ((ns ++ [9]).map V.int)) := by rw [h6, List.map_append]; rfl
  have h46 := s6 _ _ (s5 _ _ h4)
  generalize ns ++ [9] = zs at h6'
  refine ⟨l6, _, rfl, sq h6', l_enum (fun i σ H' => ∃ y2 y3 y4 y5 y6, σ = [some (.ref a), some (.ref l4), y2, y3, y4, y5, y6] ∧ Same H6 H') ⟨none, none, none, none, none, rfl, Same.refl _⟩ (fun i σ H' ⟨_, _, _, _, _, _, p⟩ => p.seq (sq h6')) (fun i x σ H' T hi hlt ⟨y2, y3, y4, y5, y6, e, p⟩ nT => ?_) (fun σ H' ⟨y2, y3, y4, y5, y6, e, p⟩ => ?_)⟩
  · subst e
    obtain ⟨z, hz, rfl⟩ := mapE hi
    have sT : Same H6 (upd H' T (.tup [.int (i : Nat), .int z])) := p.add nT
    generalize (upd H' T (.tup [.int (i : Nat), .int z])) = H9 at sT
    walk_at "rd"
    refine ⟨z, _, rfl, by omega, by omega, ?_⟩
    have wnn := mixed_nn z ((i : Int) % 64)
    generalize mixed z ((i : Int) % 64) = w at wnn
    walk_at "rd"
    have hw : 0 ≤ w % 15 ∧ w % 15 ≤ 14 := by omega
    refine ⟨_, _, rfl, hw.1, hw.2, by omega, fun H10 x s10 bad => ?_⟩
    walk_at "rd"
    refine ⟨_, x, rfl, bad, fun H11 s11 => ?_⟩
    have k11 := (sT.trans s10).trans s11
    refine ⟨l4, _, _, _, rfl, rfl, sq (k11 _ _ h46), words_at hw, ?_⟩
    walk_at "rd"
    intro p1 m1
    generalize f1 : upd H11 p1 _ = G1
    obtain ⟨g1, i1⟩ := new_of f1 m1
    intro p2 m2
    generalize f2 : upd G1 p2 _ = G2
    obtain ⟨g2, i2⟩ := new_of f2 m2
    refine ⟨.ref p1, .ref p2, rfl, .inr ⟨p1, [1, 1], rfl, sq (g2 _ _ i1), row_11, by decide, .inr ⟨p2, [0, 1], rfl, sq i2, row_01, by decide, fun G3 r1 g3 nr1 j1 => ?_⟩⟩⟩
    rw [show wl [1, 1] + wl [0, 1] = 5 from rfl, naf5] at j1
    intro p3 m3
    generalize f3 : upd G3 p3 _ = G4
    obtain ⟨g4, i3⟩ := new_of f3 m3
    refine neD_ints (ns := [1, 0, 1]) (ms := [1, 0, 1]) (sq (g4 _ _ j1)) (sq i3) ⟨false, rfl, ?_⟩
    rw [if_neg (by decide)]
    refine ⟨.int 3, "int", rfl, th_int, (fun e => by cases e), fun v e => ?_⟩
    cases e
    rw [naf3]
    refine ⟨by decide, fun G5 r2 g5 nr2 j2 => ?_⟩
    intro p4 m4
    generalize f4 : upd G5 p4 _ = G6
    obtain ⟨g6, i4⟩ := new_of f4 m4
    refine neD_ints (ns := [-1, 0, 1]) (ms := [-1, 0, 1]) (sq (g6 _ _ j2)) (sq i4) ⟨false, rfl, ?_⟩
    rw [if_neg (by decide)]
    have e3 : Str.ofString "+0-" = mkS [43, 48, 45] := by decide
    refine ⟨_, rfl, .inr ⟨[43, 48, 45], by rw [e3], by decide, .inr ⟨[-1, 0, 1], by decide, fun G7 r3 g7 nr3 j3 => ?_⟩⟩⟩
    intro p5 m5
    generalize f5 : upd G7 p5 _ = G8
    obtain ⟨g8, i5⟩ := new_of f5 m5
    refine neD_ints (ns := [-1, 0, 1]) (ms := [-1, 0, 1]) (sq (g8 _ _ j3)) (sq i5) ⟨false, rfl, ?_⟩
    rw [if_neg (by decide)]
    exact ⟨_, _, _, _, _, rfl, (((((((k11.trans g1).trans g2).trans g3).trans g4).trans g5).trans g6).trans g7).trans g8⟩
  · subst e
    walk_at "rd"
    exact q _
end
end Lf
namespace Lf
open PySem PySem.Spec L2
open PyProof.Rows hiding St
/-! ### the text by places -/
def topS (i : Nat) : Stmt := PySem.Challenge.pw_leanfigures_k12_rows_refused.main.body.getD i (.Pass ⟨0, 0, 0, 0⟩)
abbrev s_is_whole : Stmt := topS 8
abbrev s_is_figure : Stmt := topS 9
abbrev s_is_row : Stmt := topS 10
abbrev s_need_row : Stmt := topS 11
abbrev s_need_number : Stmt := topS 12
abbrev s_worth : Stmt := topS 13
abbrev s_weight : Stmt := topS 14
abbrev s_is_lean : Stmt := topS 15
abbrev s_lean : Stmt := topS 16
abbrev s_shown : Stmt := topS 19
abbrev s_read : Stmt := topS 20
abbrev s_settled : Stmt := topS 22
abbrev s_laid_over : Stmt := topS 23
abbrev s_negated : Stmt := topS 24
abbrev s_added : Stmt := topS 25
abbrev s_multiplied : Stmt := topS 26
abbrev s_compared : Stmt := topS 27
abbrev s_together : Stmt := topS 28
abbrev s__law_mixed : Stmt := topS 31
abbrev s__law_asked : Stmt := topS 33
abbrev s__law_word : Stmt := topS 34
abbrev s__law_thing : Stmt := topS 35
abbrev s_law : Stmt := topS 36
theorem sc_is_whole : FnScope ["thing"] ["thing"] (defScope s_is_whole) := ⟨rfl, rfl, rfl, by decide +kernel, rfl, by decide +kernel, by decide +kernel⟩
theorem sc_is_figure : FnScope ["thing"] ["thing"] (defScope s_is_figure) := ⟨rfl, rfl, rfl, by decide +kernel, rfl, by decide +kernel, by decide +kernel⟩
theorem sc_is_row : FnScope ["thing", "one"] ["thing"] (defScope s_is_row) := ⟨rfl, rfl, rfl, by decide +kernel, rfl, by decide +kernel, by decide +kernel⟩
theorem sc_need_row : FnScope ["thing"] ["thing"] (defScope s_need_row) := ⟨rfl, rfl, rfl, by decide +kernel, rfl, by decide +kernel, by decide +kernel⟩
theorem sc_need_number : FnScope ["thing"] ["thing"] (defScope s_need_number) := ⟨rfl, rfl, rfl, by decide +kernel, rfl, by decide +kernel, by decide +kernel⟩
theorem sc_worth : FnScope ["row", "found", "figure"] ["row"] (defScope s_worth) := ⟨rfl, rfl, rfl, by decide +kernel, rfl, by decide +kernel, by decide +kernel⟩
theorem sc_weight : FnScope ["row", "figure"] ["row"] (defScope s_weight) := ⟨rfl, rfl, rfl, by decide +kernel, rfl, by decide +kernel, by decide +kernel⟩
theorem sc_is_lean : FnScope ["row", "one", "other"] ["row"] (defScope s_is_lean) := ⟨rfl, rfl, rfl, by decide +kernel, rfl, by decide +kernel, by decide +kernel⟩
theorem sc_lean : FnScope ["number", "left", "found", "figure"] ["number"] (defScope s_lean) := ⟨rfl, rfl, rfl, by decide +kernel, rfl, by decide +kernel, by decide +kernel⟩
theorem sc_shown : FnScope ["row", "figure"] ["row"] (defScope s_shown) := ⟨rfl, rfl, rfl, by decide +kernel, rfl, by decide +kernel, by decide +kernel⟩
theorem sc_read : FnScope ["text", "places", "found", "sign", "place"] ["text"] (defScope s_read) := ⟨rfl, rfl, rfl, by decide +kernel, rfl, by decide +kernel, by decide +kernel⟩
theorem sc_settled : FnScope ["totals", "found", "over", "place", "here", "later", "figure"] ["totals"] (defScope s_settled) := ⟨rfl, rfl, rfl, by decide +kernel, rfl, by decide +kernel, by decide +kernel⟩
theorem sc_laid_over : FnScope ["totals", "row", "times", "place", "number", "figure"] ["totals", "row", "times", "place"] (defScope s_laid_over) := ⟨rfl, rfl, rfl, by decide +kernel, rfl, by decide +kernel, by decide +kernel⟩
theorem sc_negated : FnScope ["row", "figure"] ["row"] (defScope s_negated) := ⟨rfl, rfl, rfl, by decide +kernel, rfl, by decide +kernel, by decide +kernel⟩
theorem sc_added : FnScope ["one", "other", "totals"] ["one", "other"] (defScope s_added) := ⟨rfl, rfl, rfl, by decide +kernel, rfl, by decide +kernel, by decide +kernel⟩
theorem sc_multiplied : FnScope ["one", "other", "totals", "place", "figure"] ["one", "other"] (defScope s_multiplied) := ⟨rfl, rfl, rfl, by decide +kernel, rfl, by decide +kernel, by decide +kernel⟩
theorem sc_compared : FnScope ["one", "other", "totals", "found"] ["one", "other"] (defScope s_compared) := ⟨rfl, rfl, rfl, by decide +kernel, rfl, by decide +kernel, by decide +kernel⟩
theorem sc_together : FnScope ["rows", "totals", "row"] ["rows"] (defScope s_together) := ⟨rfl, rfl, rfl, by decide +kernel, rfl, by decide +kernel, by decide +kernel⟩
theorem sc__law_mixed : FnScope ["_law_cell", "_law_k", "_law_number"] ["_law_cell", "_law_k"] (defScope s__law_mixed) := ⟨rfl, rfl, rfl, by decide +kernel, rfl, by decide +kernel, by decide +kernel⟩
theorem sc__law_asked : FnScope ["_law_way", "_law_thing_here"] ["_law_way", "_law_thing_here"] (defScope s__law_asked) := ⟨rfl, rfl, rfl, by decide +kernel, rfl, by decide +kernel, by decide +kernel⟩
theorem sc__law_word : FnScope ["_law_way", "_law_thing_here", "_law_caught", "error", "_law_found"] ["_law_way", "_law_thing_here"] (defScope s__law_word) := ⟨rfl, rfl, rfl, by decide +kernel, rfl, by decide +kernel, by decide +kernel⟩
theorem sc__law_thing : FnScope ["_law_way", "_law_cell", "_law_some"] ["_law_way", "_law_cell"] (defScope s__law_thing) := ⟨rfl, rfl, rfl, by decide +kernel, rfl, by decide +kernel, by decide +kernel⟩
theorem sc_law : FnScope ["_law_script", "_law_words", "_law_k", "_law_cell", "_law_number", "_law_way", "_law_thing_here"] ["_law_script"] (defScope s_law) := ⟨rfl, rfl, rfl, by decide +kernel, rfl, by decide +kernel, by decide +kernel⟩
/-- what the top has written besides defs -/
structure Gx (K : PySem.W.Frag) (mg : Str → Option Value) (C : Ad) : Prop where
  e_LeanError : ExcC K mg "LeanError" C.LeanError
  e_NoNumber : ExcC K mg "NoNumber" C.NoNumber
  e_NoRow : ExcC K mg "NoRow" C.NoRow
  e_NoText : ExcC K mg "NoText" C.NoText
  e_NoDeeds : ExcC K mg "NoDeeds" C.NoDeeds
  e_NoCost : ExcC K mg "NoCost" C.NoCost
  c_SIGNS : ∃ u, mg "SIGNS" = some u ∧ RelV (.str "-0+") u
  v_lean : ∃ u, mg "lean" = some u ∧ RelV (.ref C.f_lean) u
  v_read : ∃ u, mg "read" = some u ∧ RelV (.ref C.f_read) u
  v_worth : ∃ u, mg "worth" = some u ∧ RelV (.ref C.f_worth) u
  v_weight : ∃ u, mg "weight" = some u ∧ RelV (.ref C.f_weight) u
  v_is_lean : ∃ u, mg "is_lean" = some u ∧ RelV (.ref C.f_is_lean) u
  v_shown : ∃ u, mg "shown" = some u ∧ RelV (.ref C.f_shown) u
  v_added : ∃ u, mg "added" = some u ∧ RelV (.ref C.f_added) u
  v_multiplied : ∃ u, mg "multiplied" = some u ∧ RelV (.ref C.f_multiplied) u
  v_compared : ∃ u, mg "compared" = some u ∧ RelV (.ref C.f_compared) u
  v_negated : ∃ u, mg "negated" = some u ∧ RelV (.ref C.f_negated) u
  v_together : ∃ u, mg "together" = some u ∧ RelV (.ref C.f_together) u
  p_NoRow_NoRow : PySem.W.exmOne K (.ref C.NoRow) (.ref C.NoRow) = some true
  p_NoRow_NoNumber : PySem.W.exmOne K (.ref C.NoRow) (.ref C.NoNumber) = some false
  p_NoRow_NoText : PySem.W.exmOne K (.ref C.NoRow) (.ref C.NoText) = some false
  p_NoRow_NoCost : PySem.W.exmOne K (.ref C.NoRow) (.ref C.NoCost) = some false
  p_NoRow_NoDeeds : PySem.W.exmOne K (.ref C.NoRow) (.ref C.NoDeeds) = some false
  p_NoRow_LeanError : PySem.W.exmOne K (.ref C.NoRow) (.ref C.LeanError) = some true
  p_NoNumber_NoRow : PySem.W.exmOne K (.ref C.NoNumber) (.ref C.NoRow) = some false
  p_NoNumber_NoNumber : PySem.W.exmOne K (.ref C.NoNumber) (.ref C.NoNumber) = some true
  p_NoNumber_NoText : PySem.W.exmOne K (.ref C.NoNumber) (.ref C.NoText) = some false
  p_NoNumber_NoCost : PySem.W.exmOne K (.ref C.NoNumber) (.ref C.NoCost) = some false
  p_NoNumber_NoDeeds : PySem.W.exmOne K (.ref C.NoNumber) (.ref C.NoDeeds) = some false
  p_NoNumber_LeanError : PySem.W.exmOne K (.ref C.NoNumber) (.ref C.LeanError) = some true
  p_NoText_NoRow : PySem.W.exmOne K (.ref C.NoText) (.ref C.NoRow) = some false
  p_NoText_NoNumber : PySem.W.exmOne K (.ref C.NoText) (.ref C.NoNumber) = some false
  p_NoText_NoText : PySem.W.exmOne K (.ref C.NoText) (.ref C.NoText) = some true
  p_NoText_NoCost : PySem.W.exmOne K (.ref C.NoText) (.ref C.NoCost) = some false
  p_NoText_NoDeeds : PySem.W.exmOne K (.ref C.NoText) (.ref C.NoDeeds) = some false
  p_NoText_LeanError : PySem.W.exmOne K (.ref C.NoText) (.ref C.LeanError) = some true
  kit_NoRow : KitW K C C.NoRow true false false
  kit_NoNumber : KitW K C C.NoNumber false true false
  kit_NoText : KitW K C C.NoText false false true
section
variable {P : Program} {w : World} {K : PySem.W.Frag} {mg : Str → Option Value} {base : Heap} {C : Ad}
theorem ok_is_whole (D : Dfn K mg "is_whole" ["thing"] s_is_whole) (B : Blt mg) (G : Gx K mg C)  : Cal P w K mg base 1 "is_whole" (sp_is_whole K C) :=
  cal_of D sc_is_whole (fun vs H Q E h => by
    unfold sp_is_whole at h
    try unfold rowSp at h
    try unfold spLaw at h
    repeat first | exact congrArg List.length h.1 | (obtain ⟨_, h⟩ := h)) (fun f cdv A outer s H vs Q E hr h => ⟨t_is_whole K C E,
    (pss_one (ps_ret (pe_and (pe_callB call_isi (by rfl) B.b_isinstance (by decide +kernel) (pa_cons (pv 0) (pa_cons (pe_bltn (v := .ty "int") (by rfl) B.b_int (by decide +kernel) rfl) pa_nil))) (pe_one (pe_not (pe_callB call_isi (by rfl) B.b_isinstance (by decide +kernel) (pa_cons (pv 0) (pa_cons (pe_bltn (v := .ty "bool") (by rfl) B.b_bool (by decide +kernel) rfl) pa_nil)))))))), r_is_whole h⟩)
theorem ok_is_figure (D : Dfn K mg "is_figure" ["thing"] s_is_figure) (B : Blt mg) (G : Gx K mg C) (c_is_whole : Cal P w K mg base 1 "is_whole" (sp_is_whole K C)) : Cal P w K mg base 2 "is_figure" (sp_is_figure K C) :=
  cal_of D sc_is_figure (fun vs H Q E h => by
    unfold sp_is_figure at h
    try unfold rowSp at h
    try unfold spLaw at h
    repeat first | exact congrArg List.length h.1 | (obtain ⟨_, h⟩ := h)) (fun f cdv A outer s H vs Q E hr h => ⟨t_is_figure K C E,
    (pss_one (ps_ret (pe_and (pe_f c_is_whole hr (by decide) (passes_call (takes_of rfl rfl rfl rfl) (fun _ _ _ _ h => h)) (pa_cons (pv 0) pa_nil)) (pe_one (pe_chain op_le op_le (pe_un un_neg pe_int) (pv 0) pe_int))))), r_is_figure h⟩)
theorem ok_is_row (D : Dfn K mg "is_row" ["thing"] s_is_row) (B : Blt mg) (G : Gx K mg C) (c_is_figure : Cal P w K mg base 2 "is_figure" (sp_is_figure K C)) : Cal P w K mg base 3 "is_row" (sp_is_row K C) :=
  cal_of D sc_is_row (fun vs H Q E h => by
    unfold sp_is_row at h
    try unfold rowSp at h
    try unfold spLaw at h
    repeat first | exact congrArg List.length h.1 | (obtain ⟨_, h⟩ := h)) (fun f cdv A outer s H vs Q E hr h => ⟨t_is_row K C E,
    (pss_cons (ps_if (PW.pt (pw_or (pt_not (pt_val (pe_callB call_isi (by rfl) B.b_isinstance (by decide +kernel) (pa_cons (pv 0) (pa_cons (pe_bltn (v := .ty "list") (by rfl) B.b_list (by decide +kernel) rfl) pa_nil))))) (pw_or1 (pt_not (pt_val (pe_callB (cr_all rfl) (by rfl) B.b_all (by decide +kernel) (pa_cons (pe_lc (own := [("one", 1)]) (g := (gName 1)) (tt := tYes) rfl sc_is_row.nd (pi_list (pv 0)) (blkOk_by (N := ["thing", "one"]) (sc := defScope s_is_row) (own := [("one", 1)]) (by decide +kernel)) (fun _ _ _ _ _ => (pg_name (i := 1) sc_is_row.nd rfl (Or.inl rfl))) (fun _ _ _ _ _ => pts_nil) (fun _ _ _ _ _ => (pe_f c_is_figure hr (by decide) passL (pa_cons (pv 1) pa_nil)))) pa_nil))))))) (pss_one (ps_ret pe_bl)) pss_nil)
      (pss_one (ps_ret (pe_or (pe_cmpR (op_eqD hr.units) (pv 0) (pe_lst pa_nil) (nomark _)) (pe_one (pe_cmpR op_ne (pe_ix ix_list (pv 0) (pe_un un_neg pe_int) (fun _ _ => rfl)) pe_int (nomark _))))))), r_is_row h⟩)
theorem ok_need_row (D : Dfn K mg "need_row" ["thing"] s_need_row) (B : Blt mg) (G : Gx K mg C) (c_is_row : Cal P w K mg base 3 "is_row" (sp_is_row K C)) : Cal P w K mg base 4 "need_row" (sp_need_row K C) :=
  cal_of D sc_need_row (fun vs H Q E h => by
    unfold sp_need_row at h
    try unfold rowSp at h
    try unfold spLaw at h
    repeat first | exact congrArg List.length h.1 | (obtain ⟨_, h⟩ := h)) (fun f cdv A outer s H vs Q E hr h => ⟨t_need_row K C E,
    (pss_one (ps_if (pt_not (pt_val (pe_f c_is_row hr (by decide) (passes_call (takes_of rfl rfl rfl rfl) (fun _ _ _ _ h => h)) (pa_cons (pv 0) pa_nil)))) (pss_one (ps_raise rfl (takes_of rfl rfl rfl rfl) (pmk_own PySem.F.excBase_ValueError G.e_NoRow.x G.e_NoRow.g G.e_NoRow.k (raises_own G.e_NoRow.b G.e_NoRow.t) (by exact rfl)))) pss_nil)), r_need_row h⟩)
theorem ok_need_number (D : Dfn K mg "need_number" ["thing"] s_need_number) (B : Blt mg) (G : Gx K mg C) (c_is_whole : Cal P w K mg base 1 "is_whole" (sp_is_whole K C)) : Cal P w K mg base 2 "need_number" (sp_need_number K C) :=
  cal_of D sc_need_number (fun vs H Q E h => by
    unfold sp_need_number at h
    try unfold rowSp at h
    try unfold spLaw at h
    repeat first | exact congrArg List.length h.1 | (obtain ⟨_, h⟩ := h)) (fun f cdv A outer s H vs Q E hr h => ⟨t_need_number K C E,
    (pss_one (ps_if (pt_not (pt_val (pe_f c_is_whole hr (by decide) (passes_call (takes_of rfl rfl rfl rfl) (fun _ _ _ _ h => h)) (pa_cons (pv 0) pa_nil)))) (pss_one (ps_raise rfl (takes_of rfl rfl rfl rfl) (pmk_own PySem.F.excBase_ValueError G.e_NoNumber.x G.e_NoNumber.g G.e_NoNumber.k (raises_own G.e_NoNumber.b G.e_NoNumber.t) (by exact rfl)))) pss_nil)), r_need_number h⟩)
theorem ok_worth (D : Dfn K mg "worth" ["row"] s_worth) (B : Blt mg) (G : Gx K mg C) (c_need_row : Cal P w K mg base 4 "need_row" (sp_need_row K C)) : Cal P w K mg base 5 "worth" (sp_worth K C) :=
  cal_of D sc_worth (fun vs H Q E h => by
    unfold sp_worth at h
    try unfold rowSp at h
    try unfold spLaw at h
    repeat first | exact congrArg List.length h.1 | (obtain ⟨_, h⟩ := h)) (fun f cdv A outer s H vs Q E hr h => ⟨t_worth K C E,
    (pss_cons (ps_expr (pe_f c_need_row hr (by decide) (passes_call (takes_of rfl rfl rfl rfl) (fun _ _ _ _ h => h)) (pa_cons (pv 0) pa_nil)))
      (pss_cons (ps_set (i := 1) sc_worth.nd rfl (Or.inl rfl) pe_int)
      (pss_cons (ps_for (passes_of rfl) rfl (pi_reversed (by rfl) B.b_reversed (pa_cons (pv 0) pa_nil)) (pg_name (i := 2) sc_worth.nd rfl (Or.inl rfl)) (pss_one (ps_set (i := 1) sc_worth.nd rfl (Or.inl rfl) (pe_op op_add (pe_op op_mul pe_int (pv 1)) (pv 2)))))
      (pss_one (ps_ret (pv 1)))))), r_worth h⟩)
theorem ok_weight (D : Dfn K mg "weight" ["row"] s_weight) (B : Blt mg) (G : Gx K mg C) (c_need_row : Cal P w K mg base 4 "need_row" (sp_need_row K C)) : Cal P w K mg base 5 "weight" (sp_weight K C) :=
  cal_of D sc_weight (fun vs H Q E h => by
    unfold sp_weight at h
    try unfold rowSp at h
    try unfold spLaw at h
    repeat first | exact congrArg List.length h.1 | (obtain ⟨_, h⟩ := h)) (fun f cdv A outer s H vs Q E hr h => ⟨t_weight K C E,
    (pss_cons (ps_expr (pe_f c_need_row hr (by decide) (passes_call (takes_of rfl rfl rfl rfl) (fun _ _ _ _ h => h)) (pa_cons (pv 0) pa_nil)))
      (pss_one (ps_ret (pe_callB call_len_seq (by rfl) B.b_len (by decide +kernel) (pa_cons (pe_lc (own := [("figure", 1)]) (g := (gName 1)) (tt := (tTest (tOp rNe (tVar 1) (tC (.int 0))))) rfl sc_weight.nd (pi_list (pv 0)) (blkOk_by (N := ["row", "figure"]) (sc := defScope s_weight) (own := [("figure", 1)]) (by decide +kernel)) (fun _ _ _ _ _ => (pg_name (i := 1) sc_weight.nd rfl (Or.inl rfl))) (fun _ _ _ _ _ => (pts_one (pt_cmpR op_ne (pv 1) pe_int (nomark _)))) (fun _ _ _ _ _ => (pv 1))) pa_nil))))), r_weight h⟩)
theorem ok_is_lean (D : Dfn K mg "is_lean" ["row"] s_is_lean) (B : Blt mg) (G : Gx K mg C) (c_need_row : Cal P w K mg base 4 "need_row" (sp_need_row K C)) : Cal P w K mg base 5 "is_lean" (sp_is_lean K C) :=
  cal_of D sc_is_lean (fun vs H Q E h => by
    unfold sp_is_lean at h
    try unfold rowSp at h
    try unfold spLaw at h
    repeat first | exact congrArg List.length h.1 | (obtain ⟨_, h⟩ := h)) (fun f cdv A outer s H vs Q E hr h => ⟨t_is_lean K C E,
    (pss_cons (ps_expr (pe_f c_need_row hr (by decide) (passes_call (takes_of rfl rfl rfl rfl) (fun _ _ _ _ h => h)) (pa_cons (pv 0) pa_nil)))
      (pss_one (ps_ret (pe_callB (cr_all rfl) (by rfl) B.b_all (by decide +kernel) (pa_cons (pe_lc (own := [("one", 1), ("other", 2)]) (g := (gTup K 2 (gCons (gName 1) (gCons (gName 2) gNil)))) (tt := tYes) rfl sc_is_lean.nd (pi_zip (by rfl) B.b_zip (pa_cons (pv 0) (pa_cons (pe_slice sl_list (pv 0) (po_some pe_int) po_none) pa_nil))) (blkOk_by (N := ["row", "one", "other"]) (sc := defScope s_is_lean) (own := [("one", 1), ("other", 2)]) (by decide +kernel)) (fun _ _ _ _ _ => (pg_tup rfl (pgs_cons (pg_name (i := 1) sc_is_lean.nd rfl (Or.inl rfl)) (pgs_cons (pg_name (i := 2) sc_is_lean.nd rfl (Or.inl rfl)) pgs_nil)))) (fun _ _ _ _ _ => pts_nil) (fun _ _ _ _ _ => (pe_or (pe_cmpR op_eq (pv 1) pe_int (nomark _)) (pe_one (pe_cmpR op_eq (pv 2) pe_int (nomark _)))))) pa_nil))))), r_is_lean h⟩)
theorem ok_lean (D : Dfn K mg "lean" ["number"] s_lean) (B : Blt mg) (G : Gx K mg C) (c_need_number : Cal P w K mg base 2 "need_number" (sp_need_number K C)) : Cal P w K mg base 3 "lean" (sp_lean K C) :=
  cal_of D sc_lean (fun vs H Q E h => by
    unfold sp_lean at h
    try unfold rowSp at h
    try unfold spLaw at h
    repeat first | exact congrArg List.length h.1 | (obtain ⟨_, h⟩ := h)) (fun f cdv A outer s H vs Q E hr h => ⟨t_lean K C E,
    (pss_cons (ps_expr (pe_f c_need_number hr (by decide) (passes_call (takes_of rfl rfl rfl rfl) (fun _ _ _ _ h => h)) (pa_cons (pv 0) pa_nil)))
      (pss_cons (ps_set (i := 1) sc_lean.nd rfl (Or.inl rfl) (pv 0))
      (pss_cons (ps_set (i := 2) sc_lean.nd rfl (Or.inl rfl) (pe_lst pa_nil))
      (pss_cons (ps_while (passes_of rfl) (pt_cmpR op_ne (pv 1) pe_int (nomark _)) (pss_cons (ps_set (i := 3) sc_lean.nd rfl (Or.inl rfl) pe_int)
      (pss_cons (ps_if (pt_cmpR op_ne (pe_op op_mod (pv 1) pe_int) pe_int (nomark _)) (pss_one (ps_set (i := 3) sc_lean.nd rfl (Or.inl rfl) (pe_op op_sub pe_int (pe_op op_mod (pv 1) pe_int)))) pss_nil)
      (pss_cons (ps_expr (pe_bm PySem.F.plainAttrs_list PySem.F.slot_list_append PySem.F.type_list_append mt_append (pv 2) (pa_cons (pv 3) pa_nil)))
      (pss_one (ps_set (i := 1) sc_lean.nd rfl (Or.inl rfl) (pe_op op_fdiv (pe_op op_sub (pv 1) (pv 3)) pe_int)))))))
      (pss_one (ps_ret (pv 2))))))), r_lean h⟩)
theorem ok_shown (D : Dfn K mg "shown" ["row"] s_shown) (B : Blt mg) (G : Gx K mg C) (c_need_row : Cal P w K mg base 4 "need_row" (sp_need_row K C)) : Cal P w K mg base 5 "shown" (sp_shown K C) :=
  cal_of D sc_shown (fun vs H Q E h => by
    unfold sp_shown at h
    try unfold rowSp at h
    try unfold spLaw at h
    repeat first | exact congrArg List.length h.1 | (obtain ⟨_, h⟩ := h)) (fun f cdv A outer s H vs Q E hr h => ⟨t_shown K C E,
    (pss_cons (ps_expr (pe_f c_need_row hr (by decide) (passes_call (takes_of rfl rfl rfl rfl) (fun _ _ _ _ h => h)) (pa_cons (pv 0) pa_nil)))
      (pss_cons (ps_if (pt_cmpR (op_eqD hr.units) (pv 0) (pe_lst pa_nil) (nomark _)) (pss_one (ps_ret pe_str)) pss_nil)
      (pss_one (ps_ret (pe_join pe_str (pe_lc (own := [("figure", 1)]) (g := (gName 1)) (tt := tYes) rfl sc_shown.nd (pi_reversed (by rfl) B.b_reversed (pa_cons (pv 0) pa_nil)) (blkOk_by (N := ["row", "figure"]) (sc := defScope s_shown) (own := [("figure", 1)]) (by decide +kernel)) (fun _ _ _ _ _ => (pg_name (i := 1) sc_shown.nd rfl (Or.inl rfl))) (fun _ _ _ _ _ => pts_nil) (fun _ _ _ _ _ => (pe_ix ix_str (C8.pe_gc rfl G.c_SIGNS) (pe_op op_add (pv 1) pe_int) (fun _ _ => rfl))))))))), r_shown h⟩)
theorem ok_read (D : Dfn K mg "read" ["text"] s_read) (B : Blt mg) (G : Gx K mg C) (c_is_row : Cal P w K mg base 3 "is_row" (sp_is_row K C)) : Cal P w K mg base 4 "read" (sp_read K C) :=
  cal_of D sc_read (fun vs H Q E h => by
    unfold sp_read at h
    try unfold rowSp at h
    try unfold spLaw at h
    repeat first | exact congrArg List.length h.1 | (obtain ⟨_, h⟩ := h)) (fun f cdv A outer s H vs Q E hr h => ⟨t_read K C E,
    (pss_cons (ps_if (pt_not (pt_val (pe_callB call_isi (by rfl) B.b_isinstance (by decide +kernel) (pa_cons (pv 0) (pa_cons (pe_bltn (v := .ty "str") (by rfl) B.b_str (by decide +kernel) rfl) pa_nil))))) (pss_one (ps_raise rfl (takes_of rfl rfl rfl rfl) (pmk_own PySem.F.excBase_ValueError G.e_NoText.x G.e_NoText.g G.e_NoText.k (raises_own G.e_NoText.b G.e_NoText.t) (by exact rfl)))) pss_nil)
      (pss_cons (ps_if (pt_cmpR op_eq (pv 0) pe_str (nomark _)) (pss_one (ps_ret (pe_lst pa_nil))) pss_nil)
      (pss_cons (ps_setLc (i := 1) (own := [("sign", 3)]) (g := (gName 3)) (tt := tYes) rfl sc_read.nd rfl rfl (sw_true rfl rfl rfl (by decide +kernel)) (pi_str (pv 0)) (blkOk_by (N := ["text", "places", "found", "sign", "place"]) (sc := defScope s_read) (own := [("sign", 3)]) (by decide +kernel)) (fun _ _ _ _ _ => (pg_name (i := 3) sc_read.nd rfl (Or.inl rfl))) (fun _ _ _ _ _ => pts_nil) (fun _ _ _ _ _ => (pe_find (C8.pe_gc rfl G.c_SIGNS) (pv 3))))
      (pss_cons (ps_setLc (i := 2) (own := [("place", 4)]) (g := (gName 4)) (tt := tYes) rfl sc_read.nd rfl rfl (sw_true rfl rfl rfl (by decide +kernel)) (pi_reversed (by rfl) B.b_reversed (pa_cons (pv 1) pa_nil)) (blkOk_by (N := ["text", "places", "found", "sign", "place"]) (sc := defScope s_read) (own := [("place", 4)]) (by decide +kernel)) (fun _ _ _ _ _ => (pg_name (i := 4) sc_read.nd rfl (Or.inl rfl))) (fun _ _ _ _ _ => pts_nil) (fun _ _ _ _ _ => (pe_op op_sub (pv 4) pe_int)))
      (pss_cons (ps_if (PW.pt (pw_or (pt_cmpR op_eq (pv 0) pe_str (nomark _)) (pw_or (pt_cmpR op_in_seq (pe_un un_neg pe_int) (pv 1) (by rfl)) (pw_or1 (pt_not (pt_val (pe_f c_is_row hr (by decide) (passes_call (takes_of rfl rfl rfl rfl) (fun _ _ _ _ h => h)) (pa_cons (pv 2) pa_nil)))))))) (pss_one (ps_raise rfl (takes_of rfl rfl rfl rfl) (pmk_own PySem.F.excBase_ValueError G.e_NoText.x G.e_NoText.g G.e_NoText.k (raises_own G.e_NoText.b G.e_NoText.t) (by exact rfl)))) pss_nil)
      (pss_one (ps_ret (pv 2)))))))), r_read h⟩)
theorem ok_settled (D : Dfn K mg "settled" ["totals"] s_settled) (B : Blt mg) (G : Gx K mg C)  : Cal P w K mg base 1 "settled" (sp_settled K C) :=
  cal_of D sc_settled (fun vs H Q E h => by
    unfold sp_settled at h
    try unfold rowSp at h
    try unfold spLaw at h
    repeat first | exact congrArg List.length h.1 | (obtain ⟨_, h⟩ := h)) (fun f cdv A outer s H vs Q E hr h => ⟨t_settled K C E,
    (pss_cons (ps_set (i := 1) sc_settled.nd rfl (Or.inl rfl) (pe_lst pa_nil))
      (pss_cons (ps_set (i := 2) sc_settled.nd rfl (Or.inl rfl) pe_int)
      (pss_cons (ps_set (i := 3) sc_settled.nd rfl (Or.inl rfl) pe_int)
      (pss_cons (ps_while (passes_of rfl) (PW.pt (pw_or (pt_cmpR op_lt (pv 3) (pe_callB call_len_seq (by rfl) B.b_len (by decide +kernel) (pa_cons (pv 0) pa_nil)) (nomark _)) (pw_or1 (pt_cmpR op_ne (pv 2) pe_int (nomark _))))) (pss_cons (ps_set (i := 4) sc_settled.nd rfl (Or.inl rfl) (pv 2))
      (Evl.pss_cut (ps_if (pt_cmpR op_lt (pv 3) (pe_callB call_len_seq (by rfl) B.b_len (by decide +kernel) (pa_cons (pv 0) pa_nil)) (nomark _)) (pss_one (ps_aug (i := 4) sc_settled.nd rfl (Or.inl rfl) (pe_ix ix_list (pv 0) (pv 3) (fun _ _ => rfl)) ip_add)) pss_nil)
      (pss_cons (ps_set (i := 5) sc_settled.nd rfl (Or.inl rfl) pe_int)
      (Evl.pss_cut (ps_if (pt_cmpR op_lt (pe_op op_add (pv 3) pe_int) (pe_callB call_len_seq (by rfl) B.b_len (by decide +kernel) (pa_cons (pv 0) pa_nil)) (nomark _)) (pss_one (ps_set (i := 5) sc_settled.nd rfl (Or.inl rfl) (pe_ix ix_list (pv 0) (pe_op op_add (pv 3) pe_int) (fun _ _ => rfl)))) pss_nil)
      (pss_cons (ps_set (i := 6) sc_settled.nd rfl (Or.inl rfl) pe_int)
      (Evl.pss_cut (ps_if (pt_cmpR op_ne (pe_op op_mod (pv 4) pe_int) pe_int (nomark _)) (pss_one (ps_set (i := 6) sc_settled.nd rfl (Or.inl rfl) (pe_ifExp (pt_cmpR op_eq (pe_op op_mod (pe_op op_add (pv 5) (pe_op op_fdiv (pe_op op_sub (pv 4) pe_int) pe_int)) pe_int) pe_int (nomark _)) pe_int (pe_un un_neg pe_int)))) pss_nil)
      (pss_cons (ps_expr (pe_bm PySem.F.plainAttrs_list PySem.F.slot_list_append PySem.F.type_list_append mt_append (pv 1) (pa_cons (pv 6) pa_nil)))
      (pss_cons (ps_set (i := 2) sc_settled.nd rfl (Or.inl rfl) (pe_op op_fdiv (pe_op op_sub (pv 4) (pv 6)) pe_int))
      (pss_one (ps_aug (i := 3) sc_settled.nd rfl (Or.inl rfl) pe_int ip_add)))))))))))
      (pss_cons (ps_while (passes_of rfl) (PW.pt (pw_and (pt_cmpR (op_neD hr.units) (pv 1) (pe_lst pa_nil) (nomark _)) (pw_and1 (pt_cmpR op_eq (pe_ix ix_list (pv 1) (pe_un un_neg pe_int) (fun _ _ => rfl)) pe_int (nomark _))))) (pss_one (ps_expr (pe_bm0 PySem.F.plainAttrs_list PySem.F.slot_list_pop PySem.F.type_list_pop mt_pop (pv 1)))))
      (pss_one (ps_ret (pv 1)))))))), r_settled h⟩)
theorem ok_laid_over (D : Dfn K mg "laid_over" ["totals", "row", "times", "place"] s_laid_over) (B : Blt mg) (G : Gx K mg C)  : Cal P w K mg base 1 "laid_over" (sp_laid_over K C) :=
  cal_of D sc_laid_over (fun vs H Q E h => by
    unfold sp_laid_over at h
    try unfold rowSp at h
    try unfold spLaw at h
    repeat first | exact congrArg List.length h.1 | (obtain ⟨_, h⟩ := h)) (fun f cdv A outer s H vs Q E hr h => ⟨t_laid_over K C E,
    (pss_one (ps_for (passes_of rfl) rfl (pi_enum (by rfl) B.b_enumerate (pa_cons (pv 1) pa_nil)) (pg_tup rfl (pgs_cons (pg_name (i := 4) sc_laid_over.nd rfl (Or.inl rfl)) (pgs_cons (pg_name (i := 5) sc_laid_over.nd rfl (Or.inl rfl)) pgs_nil))) (pss_cons (ps_if (pt_cmpR op_eq (pe_op op_add (pv 3) (pv 4)) (pe_callB call_len_seq (by rfl) B.b_len (by decide +kernel) (pa_cons (pv 0) pa_nil)) (nomark _)) (pss_one (ps_expr (pe_bm PySem.F.plainAttrs_list PySem.F.slot_list_append PySem.F.type_list_append mt_append (pv 0) (pa_cons pe_int pa_nil)))) pss_nil)
      (pss_one (ps_augS (pv 0) (pe_op op_add (pv 3) (pv 4)) get_list (pe_op op_mul (pv 2) (pv 5)) ip_add set_list))))), r_laid_over h⟩)
theorem ok_negated (D : Dfn K mg "negated" ["row"] s_negated) (B : Blt mg) (G : Gx K mg C) (c_need_row : Cal P w K mg base 4 "need_row" (sp_need_row K C)) (c_settled : Cal P w K mg base 1 "settled" (sp_settled K C)) : Cal P w K mg base 5 "negated" (sp_negated K C) :=
  cal_of D sc_negated (fun vs H Q E h => by
    unfold sp_negated at h
    try unfold rowSp at h
    try unfold spLaw at h
    repeat first | exact congrArg List.length h.1 | (obtain ⟨_, h⟩ := h)) (fun f cdv A outer s H vs Q E hr h => ⟨t_negated K C E,
    (pss_cons (ps_expr (pe_f c_need_row hr (by decide) (passes_call (takes_of rfl rfl rfl rfl) (fun _ _ _ _ h => h)) (pa_cons (pv 0) pa_nil)))
      (pss_one (ps_ret (pe_f c_settled hr (by decide) (passes_call (takes_of rfl rfl rfl rfl) (fun _ _ _ _ h => h)) (pa_cons (pe_lc (own := [("figure", 1)]) (g := (gName 1)) (tt := tYes) rfl sc_negated.nd (pi_list (pv 0)) (blkOk_by (N := ["row", "figure"]) (sc := defScope s_negated) (own := [("figure", 1)]) (by decide +kernel)) (fun _ _ _ _ _ => (pg_name (i := 1) sc_negated.nd rfl (Or.inl rfl))) (fun _ _ _ _ _ => pts_nil) (fun _ _ _ _ _ => (pe_op op_sub pe_int (pv 1)))) pa_nil))))), r_negated h⟩)
theorem ok_added (D : Dfn K mg "added" ["one", "other"] s_added) (B : Blt mg) (G : Gx K mg C) (c_need_row : Cal P w K mg base 4 "need_row" (sp_need_row K C)) (c_laid_over : Cal P w K mg base 1 "laid_over" (sp_laid_over K C)) (c_settled : Cal P w K mg base 1 "settled" (sp_settled K C)) : Cal P w K mg base 5 "added" (sp_added K C) :=
  cal_of D sc_added (fun vs H Q E h => by
    unfold sp_added at h
    try unfold rowSp at h
    try unfold spLaw at h
    repeat first | exact congrArg List.length h.1 | (obtain ⟨_, h⟩ := h)) (fun f cdv A outer s H vs Q E hr h => ⟨t_added K C E,
    (pss_cons (ps_expr (pe_f c_need_row hr (by decide) (passes_call (takes_of rfl rfl rfl rfl) (fun _ _ _ _ h => h)) (pa_cons (pv 0) pa_nil)))
      (pss_cons (ps_expr (pe_f c_need_row hr (by decide) (passes_call (takes_of rfl rfl rfl rfl) (fun _ _ _ _ h => h)) (pa_cons (pv 1) pa_nil)))
      (pss_cons (ps_set (i := 2) sc_added.nd rfl (Or.inl rfl) (pe_callTy call_list_of (by rfl) B.b_list (by decide +kernel) (pa_cons (pv 0) pa_nil)))
      (pss_cons (ps_expr (pe_f c_laid_over hr (by decide) (passes_call (takes_of rfl rfl rfl rfl) (fun _ _ _ _ h => h)) (pa_cons (pv 2) (pa_cons (pv 1) (pa_cons pe_int (pa_cons pe_int pa_nil))))))
      (pss_one (ps_ret (pe_f c_settled hr (by decide) (passes_call (takes_of rfl rfl rfl rfl) (fun _ _ _ _ h => h)) (pa_cons (pv 2) pa_nil)))))))), r_added h⟩)
theorem ok_multiplied (D : Dfn K mg "multiplied" ["one", "other"] s_multiplied) (B : Blt mg) (G : Gx K mg C) (c_need_row : Cal P w K mg base 4 "need_row" (sp_need_row K C)) (c_laid_over : Cal P w K mg base 1 "laid_over" (sp_laid_over K C)) (c_settled : Cal P w K mg base 1 "settled" (sp_settled K C)) : Cal P w K mg base 5 "multiplied" (sp_multiplied K C) :=
  cal_of D sc_multiplied (fun vs H Q E h => by
    unfold sp_multiplied at h
    try unfold rowSp at h
    try unfold spLaw at h
    repeat first | exact congrArg List.length h.1 | (obtain ⟨_, h⟩ := h)) (fun f cdv A outer s H vs Q E hr h => ⟨t_multiplied K C E,
    (pss_cons (ps_expr (pe_f c_need_row hr (by decide) (passes_call (takes_of rfl rfl rfl rfl) (fun _ _ _ _ h => h)) (pa_cons (pv 0) pa_nil)))
      (pss_cons (ps_expr (pe_f c_need_row hr (by decide) (passes_call (takes_of rfl rfl rfl rfl) (fun _ _ _ _ h => h)) (pa_cons (pv 1) pa_nil)))
      (pss_cons (ps_set (i := 2) sc_multiplied.nd rfl (Or.inl rfl) (pe_lst pa_nil))
      (pss_cons (ps_for (passes_of rfl) rfl (pi_enum (by rfl) B.b_enumerate (pa_cons (pv 0) pa_nil)) (pg_tup rfl (pgs_cons (pg_name (i := 3) sc_multiplied.nd rfl (Or.inl rfl)) (pgs_cons (pg_name (i := 4) sc_multiplied.nd rfl (Or.inl rfl)) pgs_nil))) (pss_one (ps_if (pt_cmpR op_ne (pv 4) pe_int (nomark _)) (pss_cons (ps_while (passes_of rfl) (pt_cmpR op_lt (pe_callB call_len_seq (by rfl) B.b_len (by decide +kernel) (pa_cons (pv 2) pa_nil)) (pv 3) (nomark _)) (pss_one (ps_expr (pe_bm PySem.F.plainAttrs_list PySem.F.slot_list_append PySem.F.type_list_append mt_append (pv 2) (pa_cons pe_int pa_nil)))))
      (pss_one (ps_expr (pe_f c_laid_over hr (by decide) (passes_call (takes_of rfl rfl rfl rfl) (fun _ _ _ _ h => h)) (pa_cons (pv 2) (pa_cons (pv 1) (pa_cons (pv 4) (pa_cons (pv 3) pa_nil)))))))) pss_nil)))
      (pss_one (ps_ret (pe_f c_settled hr (by decide) (passes_call (takes_of rfl rfl rfl rfl) (fun _ _ _ _ h => h)) (pa_cons (pv 2) pa_nil)))))))), r_multiplied h⟩)
theorem ok_compared (D : Dfn K mg "compared" ["one", "other"] s_compared) (B : Blt mg) (G : Gx K mg C) (c_need_row : Cal P w K mg base 4 "need_row" (sp_need_row K C)) (c_laid_over : Cal P w K mg base 1 "laid_over" (sp_laid_over K C)) (c_settled : Cal P w K mg base 1 "settled" (sp_settled K C)) : Cal P w K mg base 5 "compared" (sp_compared K C) :=
  cal_of D sc_compared (fun vs H Q E h => by
    unfold sp_compared at h
    try unfold rowSp at h
    try unfold spLaw at h
    repeat first | exact congrArg List.length h.1 | (obtain ⟨_, h⟩ := h)) (fun f cdv A outer s H vs Q E hr h => ⟨t_compared K C E,
    (pss_cons (ps_expr (pe_f c_need_row hr (by decide) (passes_call (takes_of rfl rfl rfl rfl) (fun _ _ _ _ h => h)) (pa_cons (pv 0) pa_nil)))
      (pss_cons (ps_expr (pe_f c_need_row hr (by decide) (passes_call (takes_of rfl rfl rfl rfl) (fun _ _ _ _ h => h)) (pa_cons (pv 1) pa_nil)))
      (pss_cons (ps_set (i := 2) sc_compared.nd rfl (Or.inl rfl) (pe_callTy call_list_of (by rfl) B.b_list (by decide +kernel) (pa_cons (pv 0) pa_nil)))
      (pss_cons (ps_expr (pe_f c_laid_over hr (by decide) (passes_call (takes_of rfl rfl rfl rfl) (fun _ _ _ _ h => h)) (pa_cons (pv 2) (pa_cons (pv 1) (pa_cons (pe_un un_neg pe_int) (pa_cons pe_int pa_nil))))))
      (pss_cons (ps_set (i := 3) sc_compared.nd rfl (Or.inl rfl) (pe_f c_settled hr (by decide) (passes_call (takes_of rfl rfl rfl rfl) (fun _ _ _ _ h => h)) (pa_cons (pv 2) pa_nil)))
      (pss_cons (ps_if (pt_cmpR (op_eqD hr.units) (pv 3) (pe_lst pa_nil) (nomark _)) (pss_one (ps_ret pe_int)) pss_nil)
      (pss_one (ps_ret (pe_ix ix_list (pv 3) (pe_un un_neg pe_int) (fun _ _ => rfl)))))))))), r_compared h⟩)
theorem ok_together (D : Dfn K mg "together" ["rows"] s_together) (B : Blt mg) (G : Gx K mg C) (c_need_row : Cal P w K mg base 4 "need_row" (sp_need_row K C)) (c_laid_over : Cal P w K mg base 1 "laid_over" (sp_laid_over K C)) (c_settled : Cal P w K mg base 1 "settled" (sp_settled K C)) : Cal P w K mg base 5 "together" (sp_together K C) :=
  cal_of D sc_together (fun vs H Q E h => by
    unfold sp_together at h
    try unfold rowSp at h
    try unfold spLaw at h
    repeat first | exact congrArg List.length h.1 | (obtain ⟨_, h⟩ := h)) (fun f cdv A outer s H vs Q E hr h => ⟨t_together K C E,
    (pss_cons (ps_if (pt_not (pt_val (pe_callB call_isi (by rfl) B.b_isinstance (by decide +kernel) (pa_cons (pv 0) (pa_cons (pe_bltn (v := .ty "list") (by rfl) B.b_list (by decide +kernel) rfl) pa_nil))))) (pss_one (ps_raise rfl (takes_of rfl rfl rfl rfl) (pmk_own PySem.F.excBase_ValueError G.e_NoRow.x G.e_NoRow.g G.e_NoRow.k (raises_own G.e_NoRow.b G.e_NoRow.t) (by exact rfl)))) pss_nil)
      (pss_cons (ps_set (i := 1) sc_together.nd rfl (Or.inl rfl) (pe_lst pa_nil))
      (pss_cons (ps_for (passes_of rfl) rfl (pi_list (pv 0)) (pg_name (i := 2) sc_together.nd rfl (Or.inl rfl)) (pss_cons (ps_expr (pe_f c_need_row hr (by decide) (passes_call (takes_of rfl rfl rfl rfl) (fun _ _ _ _ h => h)) (pa_cons (pv 2) pa_nil)))
      (pss_one (ps_expr (pe_f c_laid_over hr (by decide) (passes_call (takes_of rfl rfl rfl rfl) (fun _ _ _ _ h => h)) (pa_cons (pv 1) (pa_cons (pv 2) (pa_cons pe_int (pa_cons pe_int pa_nil)))))))))
      (pss_one (ps_ret (pe_f c_settled hr (by decide) (passes_call (takes_of rfl rfl rfl rfl) (fun _ _ _ _ h => h)) (pa_cons (pv 1) pa_nil))))))), r_together h⟩)
theorem ok__law_mixed (D : Dfn K mg "_law_mixed" ["_law_cell", "_law_k"] s__law_mixed) (B : Blt mg) (G : Gx K mg C)  : Cal P w K mg base 1 "_law_mixed" (sp__law_mixed K C) :=
  cal_of D sc__law_mixed (fun vs H Q E h => by
    unfold sp__law_mixed at h
    try unfold rowSp at h
    try unfold spLaw at h
    repeat first | exact congrArg List.length h.1 | (obtain ⟨_, h⟩ := h)) (fun f cdv A outer s H vs Q E hr h => ⟨t__law_mixed K C E,
    (pss_cons (ps_set (i := 2) sc__law_mixed.nd rfl (Or.inl rfl) (pe_op op_mod (pe_op op_mul (pe_op op_add (pe_op op_mod (pv 0) pe_int) pe_int) pe_int) pe_int))
      (pss_one (ps_ret (pe_op op_fdiv (pe_op op_mod (pe_op op_mul (pv 2) (pe_op op_add (pe_op op_add pe_int (pe_op op_mul (pe_op op_mul pe_int (pv 1)) (pv 1))) (pe_op op_mul pe_int (pv 1)))) pe_int) pe_int)))), r__law_mixed h⟩)
theorem ok__law_asked (D : Dfn K mg "_law_asked" ["_law_way", "_law_thing_here"] s__law_asked) (B : Blt mg) (G : Gx K mg C) (c_worth : Cal P w K mg base 5 "worth" (sp_worth K C)) (c_weight : Cal P w K mg base 5 "weight" (sp_weight K C)) (c_is_lean : Cal P w K mg base 5 "is_lean" (sp_is_lean K C)) (c_shown : Cal P w K mg base 5 "shown" (sp_shown K C)) (c_added : Cal P w K mg base 5 "added" (sp_added K C)) (c_multiplied : Cal P w K mg base 5 "multiplied" (sp_multiplied K C)) (c_compared : Cal P w K mg base 5 "compared" (sp_compared K C)) (c_negated : Cal P w K mg base 5 "negated" (sp_negated K C)) (c_together : Cal P w K mg base 5 "together" (sp_together K C)) (c_lean : Cal P w K mg base 3 "lean" (sp_lean K C)) (c_read : Cal P w K mg base 4 "read" (sp_read K C)) : Cal P w K mg base 6 "_law_asked" (sp__law_asked K C) :=
  cal_of D sc__law_asked (fun vs H Q E h => by
    unfold sp__law_asked at h
    try unfold rowSp at h
    try unfold spLaw at h
    repeat first | exact congrArg List.length h.1 | (obtain ⟨_, h⟩ := h)) (fun f cdv A outer s H vs Q E hr h => ⟨t__law_asked K C E,
    (pss_cons (ps_if (pt_cmpR op_lt (pv 0) pe_int (nomark _)) (pss_one (ps_ret (pe_callV (S := [(C.f_worth, sp_worth K C), (C.f_weight, sp_weight K C), (C.f_is_lean, sp_is_lean K C), (C.f_shown, sp_shown K C)]) (ca_cons c_worth G.v_worth (by decide) (ca_cons c_weight G.v_weight (by decide) (ca_cons c_is_lean G.v_is_lean (by decide) (ca_cons c_shown G.v_shown (by decide) ca_nil)))) hr (passes_call (takes_of rfl rfl rfl rfl) (fun _ _ _ _ h => h)) (pe_ix ix_list (pe_lst (pa_cons (C8.pe_gc rfl G.v_worth) (pa_cons (C8.pe_gc rfl G.v_weight) (pa_cons (C8.pe_gc rfl G.v_is_lean) (pa_cons (C8.pe_gc rfl G.v_shown) pa_nil))))) (pv 0) (fun _ _ => rfl)) (pa_cons (pv 1) pa_nil)))) pss_nil)
      (pss_cons (ps_if (pt_cmpR op_lt (pv 0) pe_int (nomark _)) (pss_one (ps_ret (pe_callV (S := [(C.f_added, sp_added K C), (C.f_multiplied, sp_multiplied K C), (C.f_compared, sp_compared K C)]) (ca_cons c_added G.v_added (by decide) (ca_cons c_multiplied G.v_multiplied (by decide) (ca_cons c_compared G.v_compared (by decide) ca_nil))) hr (passes_call (takes_of rfl rfl rfl rfl) (fun _ _ _ _ h => h)) (pe_ix ix_list (pe_lst (pa_cons (C8.pe_gc rfl G.v_added) (pa_cons (C8.pe_gc rfl G.v_multiplied) (pa_cons (C8.pe_gc rfl G.v_compared) pa_nil)))) (pe_op op_sub (pv 0) pe_int) (fun _ _ => rfl)) (pa_cons (pv 1) (pa_cons (pe_lst (pa_cons pe_int pa_nil)) pa_nil))))) pss_nil)
      (pss_cons (ps_if (pt_cmpR op_lt (pv 0) pe_int (nomark _)) (pss_one (ps_ret (pe_callV (S := [(C.f_added, sp_added K C), (C.f_multiplied, sp_multiplied K C), (C.f_compared, sp_compared K C)]) (ca_cons c_added G.v_added (by decide) (ca_cons c_multiplied G.v_multiplied (by decide) (ca_cons c_compared G.v_compared (by decide) ca_nil))) hr (passes_call (takes_of rfl rfl rfl rfl) (fun _ _ _ _ h => h)) (pe_ix ix_list (pe_lst (pa_cons (C8.pe_gc rfl G.v_added) (pa_cons (C8.pe_gc rfl G.v_multiplied) (pa_cons (C8.pe_gc rfl G.v_compared) pa_nil)))) (pe_op op_sub (pv 0) pe_int) (fun _ _ => rfl)) (pa_cons (pe_lst (pa_cons pe_int pa_nil)) (pa_cons (pv 1) pa_nil))))) pss_nil)
      (pss_cons (ps_if (pt_cmpR op_lt (pv 0) pe_int (nomark _)) (pss_one (ps_ret (pe_callV (S := [(C.f_negated, sp_negated K C), (C.f_together, sp_together K C)]) (ca_cons c_negated G.v_negated (by decide) (ca_cons c_together G.v_together (by decide) ca_nil)) hr (passes_call (takes_of rfl rfl rfl rfl) (fun _ _ _ _ h => h)) (pe_ix ix_list (pe_lst (pa_cons (C8.pe_gc rfl G.v_negated) (pa_cons (C8.pe_gc rfl G.v_together) pa_nil))) (pe_op op_sub (pv 0) pe_int) (fun _ _ => rfl)) (pa_cons (pv 1) pa_nil)))) pss_nil)
      (pss_cons (ps_if (pt_cmpR op_eq (pv 0) pe_int (nomark _)) (pss_one (ps_ret (pe_f c_together hr (by decide) (passes_call (takes_of rfl rfl rfl rfl) (fun _ _ _ _ h => h)) (pa_cons (pe_lst (pa_cons (pe_lst (pa_cons pe_int pa_nil)) (pa_cons (pv 1) (pa_cons (pe_lst pa_nil) pa_nil)))) pa_nil)))) pss_nil)
      (pss_one (ps_ret (pe_callV (S := [(C.f_lean, sp_lean K C), (C.f_read, sp_read K C)]) (ca_cons c_lean G.v_lean (by decide) (ca_cons c_read G.v_read (by decide) ca_nil)) hr (passes_call (takes_of rfl rfl rfl rfl) (fun _ _ _ _ h => h)) (pe_ix ix_list (pe_lst (pa_cons (C8.pe_gc rfl G.v_lean) (pa_cons (C8.pe_gc rfl G.v_read) pa_nil))) (pe_op op_sub (pv 0) pe_int) (fun _ _ => rfl)) (pa_cons (pv 1) pa_nil))))))))), r__law_asked h⟩)
theorem ok__law_word (D : Dfn K mg "_law_word" ["_law_way", "_law_thing_here"] s__law_word) (B : Blt mg) (G : Gx K mg C) (c__law_asked : Cal P w K mg base 6 "_law_asked" (sp__law_asked K C)) : Cal P w K mg base 7 "_law_word" (sp__law_word K C) :=
  cal_of D sc__law_word (fun vs H Q E h => by
    unfold sp__law_word at h
    try unfold rowSp at h
    try unfold spLaw at h
    repeat first | exact congrArg List.length h.1 | (obtain ⟨_, h⟩ := h)) (fun f cdv A outer s H vs Q E hr h => ⟨t__law_word K C E,
    (pss_cons (ps_set (i := 2) sc__law_word.nd rfl (Or.inl rfl) pe_non)
      (pss_cons (ps_try_keep (i := 3) (tb := fun W => (tDrop (tCallS (sp__law_asked K C) (WE W) (tCons (tVar 0) (tCons (tVar 1) tNil))))) (ts := fun a cls d => (tAsg (tVar 3) (gName 2))) rfl rfl rfl sc__law_word.nd rfl rfl ⟨rfl, by decide, Or.inl G.e_LeanError.g⟩ (fun W pn xe tk _ => (pss_one (ps_expr (pe_fS c__law_asked hr (by decide) (fun σ => passAt tk σ) (pa_cons (pv 0) (pa_cons (pv 1) pa_nil)))))) (fun a oe cls d pn hz hf => (pss_one (ps_set (i := 2) sc__law_word.nd rfl (Or.inl rfl) (pv 3)))))
      (pss_cons (ps_set (i := 4) sc__law_word.nd rfl (Or.inl rfl) (pe_lst (pa_cons (pe_callB call_isX (by rfl) B.b_isinstance (by decide +kernel) (pa_cons (pv 2) (pa_cons (pe_glob rfl G.e_NoRow.g rfl) pa_nil))) (pa_cons (pe_callB call_isX (by rfl) B.b_isinstance (by decide +kernel) (pa_cons (pv 2) (pa_cons (pe_glob rfl G.e_NoNumber.g rfl) pa_nil))) (pa_cons (pe_callB call_isX (by rfl) B.b_isinstance (by decide +kernel) (pa_cons (pv 2) (pa_cons (pe_glob rfl G.e_NoText.g rfl) pa_nil))) pa_nil)))))
      (pss_cons (ps_set (i := 4) sc__law_word.nd rfl (Or.inl rfl) (pe_op op_catS (pv 4) (pe_lst (pa_cons (pe_callB call_isX (by rfl) B.b_isinstance (by decide +kernel) (pa_cons (pv 2) (pa_cons (pe_glob rfl G.e_NoCost.g rfl) pa_nil))) (pa_cons (pe_callB call_isX (by rfl) B.b_isinstance (by decide +kernel) (pa_cons (pv 2) (pa_cons (pe_glob rfl G.e_NoDeeds.g rfl) pa_nil))) pa_nil)))))
      (pss_cons (ps_if (PW.pt (pw_or (pt_cmpR op_ne (pe_bm PySem.F.plainAttrs_list PySem.F.slot_list_count PySem.F.type_list_count mt_cntF (pv 4) (pa_cons pe_bl pa_nil)) pe_int (nomark _)) (pw_or1 (pt_not (pt_val (pe_callB call_isX (by rfl) B.b_isinstance (by decide +kernel) (pa_cons (pv 2) (pa_cons (pe_bltn (v := .ty "ValueError") (by rfl) B.b_ValueError (by decide +kernel) rfl) pa_nil)))))))) (pss_one (ps_ret pe_str)) pss_nil)
      (pss_one (ps_ret (pe_ix ix_list (pe_lst (pa_cons pe_str (pa_cons pe_str (pa_cons pe_str (pa_cons pe_str (pa_cons pe_str pa_nil)))))) (pe_bm PySem.F.plainAttrs_list PySem.F.slot_list_index PySem.F.type_list_index mt_index (pv 4) (pa_cons pe_bl pa_nil)) (fun _ _ => rfl))))))))), r__law_word G.kit_NoRow G.kit_NoNumber G.kit_NoText h⟩)
theorem ok__law_thing (D : Dfn K mg "_law_thing" ["_law_way", "_law_cell"] s__law_thing) (B : Blt mg) (G : Gx K mg C)  : Cal P w K mg base 1 "_law_thing" (sp__law_thing K C) :=
  cal_of D sc__law_thing (fun vs H Q E h => by
    unfold sp__law_thing at h
    try unfold rowSp at h
    try unfold spLaw at h
    repeat first | exact congrArg List.length h.1 | (obtain ⟨_, h⟩ := h)) (fun f cdv A outer s H vs Q E hr h => ⟨t__law_thing K C E,
    (pss_cons (ps_set (i := 2) sc__law_thing.nd rfl (Or.inl rfl) (pe_lst (pa_cons pe_non (pa_cons pe_bl (pa_cons pe_bl (pa_cons (pe_tup (pa_cons pe_int pa_nil)) (pa_cons pe_dnewK (pa_cons pe_str (pa_cons pe_str (pa_cons (pe_lst (pa_cons pe_int pa_nil)) (pa_cons (pe_lst (pa_cons pe_int (pa_cons pe_int pa_nil))) (pa_cons (pe_lst (pa_cons pe_int pa_nil)) (pa_cons (pe_lst (pa_cons pe_int (pa_cons pe_bl pa_nil))) (pa_cons (pe_lst (pa_cons pe_int (pa_cons pe_non pa_nil))) (pa_cons (pe_lst (pa_cons pe_str pa_nil)) (pa_cons (pe_lst (pa_cons (pe_lst (pa_cons pe_int pa_nil)) pa_nil)) (pa_cons (pe_tup (pa_cons pe_int (pa_cons pe_int pa_nil))) (pa_cons (pe_lst (pa_cons pe_int (pa_cons pe_int pa_nil))) pa_nil))))))))))))))))))
      (pss_cons (ps_if (pt_cmpR op_eq (pv 0) pe_int (nomark _)) (pss_one (ps_ret (pe_ix ix_list (pe_lst (pa_cons pe_non (pa_cons pe_int (pa_cons pe_bl (pa_cons (pe_lst (pa_cons pe_int pa_nil)) (pa_cons (pe_tup pa_nil) (pa_cons pe_dnewK (pa_cons pe_str (pa_cons pe_str (pa_cons pe_str (pa_cons pe_str (pa_cons pe_str (pa_cons pe_str pa_nil))))))))))))) (pe_op op_mod (pv 1) pe_int) (fun _ _ => rfl)))) pss_nil)
      (pss_cons (ps_if (pt_cmpR op_eq (pv 0) pe_int (nomark _)) (pss_one (ps_ret (pe_ix ix_list (pe_lst (pa_cons pe_non (pa_cons pe_bl (pa_cons pe_bl (pa_cons pe_str (pa_cons (pe_lst (pa_cons pe_int pa_nil)) (pa_cons (pe_tup (pa_cons pe_int pa_nil)) (pa_cons pe_dnewK (pa_cons (pe_lst pa_nil) (pa_cons pe_str (pa_cons (pe_lst (pa_cons pe_int pa_nil)) pa_nil))))))))))) (pe_op op_mod (pv 1) pe_int) (fun _ _ => rfl)))) pss_nil)
      (pss_cons (ps_if (pt_cmpR op_eq (pv 0) pe_int (nomark _)) (pss_one (ps_ret (pe_ix ix_list (pe_lst (pa_cons pe_non (pa_cons pe_int (pa_cons pe_bl (pa_cons pe_str (pa_cons (pe_tup (pa_cons (pe_lst (pa_cons pe_int pa_nil)) pa_nil)) (pa_cons pe_dnewK (pa_cons (pe_lst (pa_cons pe_int pa_nil)) (pa_cons (pe_lst (pa_cons (pe_lst (pa_cons pe_int pa_nil)) (pa_cons pe_non pa_nil))) (pa_cons (pe_lst (pa_cons (pe_lst (pa_cons pe_int pa_nil)) pa_nil)) (pa_cons (pe_lst (pa_cons (pe_lst (pa_cons pe_int pa_nil)) (pa_cons (pe_lst (pa_cons pe_int pa_nil)) pa_nil))) pa_nil))))))))))) (pe_op op_mod (pv 1) pe_int) (fun _ _ => rfl)))) pss_nil)
      (pss_one (ps_ret (pe_ix ix_list (pe_op op_catS (pv 2) (pe_lst (pa_cons pe_int (pa_cons (pe_un un_neg pe_int) (pa_cons pe_str (pa_cons pe_str pa_nil)))))) (pe_op op_mod (pv 1) pe_int) (fun _ _ => rfl)))))))), r__law_thing h⟩)
theorem ok_law {f : Addr} {fd : FuncData} (F : Fun K "law" "law" s_law f fd) (B : Blt mg) (G : Gx K mg C) (c__law_mixed : Cal P w K mg base 1 "_law_mixed" (sp__law_mixed K C)) (c__law_thing : Cal P w K mg base 1 "_law_thing" (sp__law_thing K C)) (c__law_word : Cal P w K mg base 7 "_law_word" (sp__law_word K C)) (c_added : Cal P w K mg base 5 "added" (sp_added K C)) (c_lean : Cal P w K mg base 3 "lean" (sp_lean K C)) (c_read : Cal P w K mg base 4 "read" (sp_read K C)) : FnOk P w K mg base (L2.CX P w) 8 f fd ["_law_script"] (spLaw K) :=
  F.okX sc_law (fun vs H Q E h => by
    unfold spLaw at h
    try unfold rowSp at h
    try unfold spLaw at h
    repeat first | exact congrArg List.length h.1 | (obtain ⟨_, h⟩ := h)) (fun cdv A outer s H vs Q E hr h => ⟨t_law_k12 K C E,
    (pss_cons (ps_set (i := 1) sc_law.nd rfl (Or.inl rfl) (pe_op op_catS (pe_op op_rep (pe_lst (pa_cons pe_str pa_nil)) pe_int) (pe_lst (pa_cons pe_str (pa_cons pe_str pa_nil)))))
      (pss_cons (ps_for (passes_of rfl) rfl (pi_enum (by rfl) B.b_enumerate (pa_cons (pe_op op_catS (pv 0) (pe_lst (pa_cons pe_int pa_nil))) pa_nil)) (pg_tup rfl (pgs_cons (pg_name (i := 2) sc_law.nd rfl (Or.inl rfl)) (pgs_cons (pg_name (i := 3) sc_law.nd rfl (Or.inl rfl)) pgs_nil))) (pss_cons (ps_set (i := 4) sc_law.nd rfl (Or.inl rfl) (pe_f c__law_mixed hr (by decide) (passes_call (takes_of rfl rfl rfl rfl) (fun _ _ _ _ h => h)) (pa_cons (pv 3) (pa_cons (pe_op op_mod (pv 2) pe_int) pa_nil))))
      (pss_cons (ps_set (i := 5) sc_law.nd rfl (Or.inl rfl) (pe_op op_mod (pv 4) pe_int))
      (pss_cons (ps_set (i := 6) sc_law.nd rfl (Or.inl rfl) (pe_f c__law_thing hr (by decide) (passes_call (takes_of rfl rfl rfl rfl) (fun _ _ _ _ h => h)) (pa_cons (pv 5) (pa_cons (pe_op op_fdiv (pv 4) pe_int) pa_nil))))
      (pss_cons (ps_if (pt_cmpR op_ne (pe_f c__law_word hr (by decide) (passes_call (takes_of rfl rfl rfl rfl) (fun _ _ _ _ h => h)) (pa_cons (pv 5) (pa_cons (pv 6) pa_nil))) (pe_ix ix_list (pv 1) (pv 5) (fun _ _ => rfl)) (nomark _)) (pss_one (ps_ret pe_bl)) pss_nil)
      (pss_one (ps_if (PW.pt (pw_or (pt_cmpR (op_neD hr.units) (pe_f c_added hr (by decide) (passes_call (takes_of rfl rfl rfl rfl) (fun _ _ _ _ h => h)) (pa_cons (pe_lst (pa_cons pe_int (pa_cons pe_int pa_nil))) (pa_cons (pe_lst (pa_cons pe_int (pa_cons pe_int pa_nil))) pa_nil))) (pe_lst (pa_cons pe_int (pa_cons pe_int (pa_cons pe_int pa_nil)))) (nomark _)) (pw_or (pt_cmpR (op_neD hr.units) (pe_f c_lean hr (by decide) (passes_call (takes_of rfl rfl rfl rfl) (fun _ _ _ _ h => h)) (pa_cons pe_int pa_nil)) (pe_lst (pa_cons (pe_un un_neg pe_int) (pa_cons pe_int (pa_cons pe_int pa_nil)))) (nomark _)) (pw_or1 (pt_cmpR (op_neD hr.units) (pe_f c_read hr (by decide) (passes_call (takes_of rfl rfl rfl rfl) (fun _ _ _ _ h => h)) (pa_cons pe_str pa_nil)) (pe_lst (pa_cons (pe_un un_neg pe_int) (pa_cons pe_int (pa_cons pe_int pa_nil)))) (nomark _)))))) (pss_one (ps_ret pe_bl)) pss_nil)))))))
      (pss_one (ps_ret pe_bl)))), r_law_k12 h⟩)
end
/-! ### what the top has written, and the law's own head -/
theorem all_mk {P : Program} {w : World} {K : PySem.W.Frag} {h : Heap} {mg : Str → Option Value} {fa : Addr} (X : K.In h) (Gg : h.Ns mainGlobals mg) (hfa : mg "law" = some (.ref fa))
    {f1 : Addr} {od1 an1 : Option Addr} {sl1 : Array (Option Value)} {oc1 kV1 dc1 pm1 cd1 ct1 : Value}
    {f2 : Addr} {od2 an2 : Option Addr} {sl2 : Array (Option Value)} {oc2 kV2 dc2 pm2 cd2 ct2 : Value}
    {f3 : Addr} {od3 an3 : Option Addr} {sl3 : Array (Option Value)} {oc3 kV3 dc3 pm3 cd3 ct3 : Value}
    {f4 : Addr} {od4 an4 : Option Addr} {sl4 : Array (Option Value)} {oc4 kV4 dc4 pm4 cd4 ct4 : Value}
    {f5 : Addr} {od5 an5 : Option Addr} {sl5 : Array (Option Value)} {oc5 kV5 dc5 pm5 cd5 ct5 : Value}
    {f6 : Addr} {od6 an6 : Option Addr} {sl6 : Array (Option Value)} {oc6 kV6 dc6 pm6 cd6 ct6 : Value}
    {f7 : Addr} {od7 an7 : Option Addr} {sl7 : Array (Option Value)} {oc7 kV7 dc7 pm7 cd7 ct7 : Value}
    {f8 : Addr} {od8 an8 : Option Addr} {sl8 : Array (Option Value)} {oc8 kV8 dc8 pm8 cd8 ct8 : Value}
    {f9 : Addr} {od9 an9 : Option Addr} {sl9 : Array (Option Value)} {oc9 kV9 dc9 pm9 cd9 ct9 : Value}
    {f10 : Addr} {od10 an10 : Option Addr} {sl10 : Array (Option Value)} {oc10 kV10 dc10 pm10 cd10 ct10 : Value}
    {f11 : Addr} {od11 an11 : Option Addr} {sl11 : Array (Option Value)} {oc11 kV11 dc11 pm11 cd11 ct11 : Value}
    {f12 : Addr} {od12 an12 : Option Addr} {sl12 : Array (Option Value)} {oc12 kV12 dc12 pm12 cd12 ct12 : Value}
    {f13 : Addr} {od13 an13 : Option Addr} {sl13 : Array (Option Value)} {oc13 kV13 dc13 pm13 cd13 ct13 : Value}
    {f14 : Addr} {od14 an14 : Option Addr} {sl14 : Array (Option Value)} {oc14 kV14 dc14 pm14 cd14 ct14 : Value}
    {f15 : Addr} {od15 an15 : Option Addr} {sl15 : Array (Option Value)} {oc15 kV15 dc15 pm15 cd15 ct15 : Value}
    {f16 : Addr} {od16 an16 : Option Addr} {sl16 : Array (Option Value)} {oc16 kV16 dc16 pm16 cd16 ct16 : Value}
    {f17 : Addr} {od17 an17 : Option Addr} {sl17 : Array (Option Value)} {oc17 kV17 dc17 pm17 cd17 ct17 : Value}
    {f18 : Addr} {od18 an18 : Option Addr} {sl18 : Array (Option Value)} {oc18 kV18 dc18 pm18 cd18 ct18 : Value}
    {f19 : Addr} {od19 an19 : Option Addr} {sl19 : Array (Option Value)} {oc19 kV19 dc19 pm19 cd19 ct19 : Value}
    {f20 : Addr} {od20 an20 : Option Addr} {sl20 : Array (Option Value)} {oc20 kV20 dc20 pm20 cd20 ct20 : Value}
    {f21 : Addr} {od21 an21 : Option Addr} {sl21 : Array (Option Value)} {oc21 kV21 dc21 pm21 cd21 ct21 : Value}
    {f22 : Addr} {od22 an22 : Option Addr} {sl22 : Array (Option Value)} {oc22 kV22 dc22 pm22 cd22 ct22 : Value}
    {f23 : Addr} {od23 an23 : Option Addr} {sl23 : Array (Option Value)} {oc23 kV23 dc23 pm23 cd23 ct23 : Value}
    {CLeanError : Addr}
    {CNoNumber : Addr}
    {CNoRow : Addr}
    {CNoText : Addr}
    {CNoDeeds : Addr}
    {CNoCost : Addr}
    {uSIGNS : Value}
    (a1 : PySem.W.nsIn K mainGlobals "is_whole" = some (some (.ref f1)))
    (l1 : K.lookup f1 = some ⟨oc1, od1, .func (PySem.W.fnOf "is_whole" "is_whole" (defArgs s_is_whole) (defBody s_is_whole) (defScope s_is_whole) .none kV1 dc1 pm1 an1 cd1 ct1), sl1⟩)
    (c1 : PySem.W.codeIn K cd1 "is_whole" = true)
    (k1 : PySem.W.keepIn K (.ref f1) = true)
    (a2 : PySem.W.nsIn K mainGlobals "is_figure" = some (some (.ref f2)))
    (l2 : K.lookup f2 = some ⟨oc2, od2, .func (PySem.W.fnOf "is_figure" "is_figure" (defArgs s_is_figure) (defBody s_is_figure) (defScope s_is_figure) .none kV2 dc2 pm2 an2 cd2 ct2), sl2⟩)
    (c2 : PySem.W.codeIn K cd2 "is_figure" = true)
    (k2 : PySem.W.keepIn K (.ref f2) = true)
    (a3 : PySem.W.nsIn K mainGlobals "is_row" = some (some (.ref f3)))
    (l3 : K.lookup f3 = some ⟨oc3, od3, .func (PySem.W.fnOf "is_row" "is_row" (defArgs s_is_row) (defBody s_is_row) (defScope s_is_row) .none kV3 dc3 pm3 an3 cd3 ct3), sl3⟩)
    (c3 : PySem.W.codeIn K cd3 "is_row" = true)
    (k3 : PySem.W.keepIn K (.ref f3) = true)
    (a4 : PySem.W.nsIn K mainGlobals "need_row" = some (some (.ref f4)))
    (l4 : K.lookup f4 = some ⟨oc4, od4, .func (PySem.W.fnOf "need_row" "need_row" (defArgs s_need_row) (defBody s_need_row) (defScope s_need_row) .none kV4 dc4 pm4 an4 cd4 ct4), sl4⟩)
    (c4 : PySem.W.codeIn K cd4 "need_row" = true)
    (k4 : PySem.W.keepIn K (.ref f4) = true)
    (a5 : PySem.W.nsIn K mainGlobals "need_number" = some (some (.ref f5)))
    (l5 : K.lookup f5 = some ⟨oc5, od5, .func (PySem.W.fnOf "need_number" "need_number" (defArgs s_need_number) (defBody s_need_number) (defScope s_need_number) .none kV5 dc5 pm5 an5 cd5 ct5), sl5⟩)
    (c5 : PySem.W.codeIn K cd5 "need_number" = true)
    (k5 : PySem.W.keepIn K (.ref f5) = true)
    (a6 : PySem.W.nsIn K mainGlobals "worth" = some (some (.ref f6)))
    (l6 : K.lookup f6 = some ⟨oc6, od6, .func (PySem.W.fnOf "worth" "worth" (defArgs s_worth) (defBody s_worth) (defScope s_worth) .none kV6 dc6 pm6 an6 cd6 ct6), sl6⟩)
    (c6 : PySem.W.codeIn K cd6 "worth" = true)
    (k6 : PySem.W.keepIn K (.ref f6) = true)
    (a7 : PySem.W.nsIn K mainGlobals "weight" = some (some (.ref f7)))
    (l7 : K.lookup f7 = some ⟨oc7, od7, .func (PySem.W.fnOf "weight" "weight" (defArgs s_weight) (defBody s_weight) (defScope s_weight) .none kV7 dc7 pm7 an7 cd7 ct7), sl7⟩)
    (c7 : PySem.W.codeIn K cd7 "weight" = true)
    (k7 : PySem.W.keepIn K (.ref f7) = true)
    (a8 : PySem.W.nsIn K mainGlobals "is_lean" = some (some (.ref f8)))
    (l8 : K.lookup f8 = some ⟨oc8, od8, .func (PySem.W.fnOf "is_lean" "is_lean" (defArgs s_is_lean) (defBody s_is_lean) (defScope s_is_lean) .none kV8 dc8 pm8 an8 cd8 ct8), sl8⟩)
    (c8 : PySem.W.codeIn K cd8 "is_lean" = true)
    (k8 : PySem.W.keepIn K (.ref f8) = true)
    (a9 : PySem.W.nsIn K mainGlobals "lean" = some (some (.ref f9)))
    (l9 : K.lookup f9 = some ⟨oc9, od9, .func (PySem.W.fnOf "lean" "lean" (defArgs s_lean) (defBody s_lean) (defScope s_lean) .none kV9 dc9 pm9 an9 cd9 ct9), sl9⟩)
    (c9 : PySem.W.codeIn K cd9 "lean" = true)
    (k9 : PySem.W.keepIn K (.ref f9) = true)
    (a10 : PySem.W.nsIn K mainGlobals "shown" = some (some (.ref f10)))
    (l10 : K.lookup f10 = some ⟨oc10, od10, .func (PySem.W.fnOf "shown" "shown" (defArgs s_shown) (defBody s_shown) (defScope s_shown) .none kV10 dc10 pm10 an10 cd10 ct10), sl10⟩)
    (c10 : PySem.W.codeIn K cd10 "shown" = true)
    (k10 : PySem.W.keepIn K (.ref f10) = true)
    (a11 : PySem.W.nsIn K mainGlobals "read" = some (some (.ref f11)))
    (l11 : K.lookup f11 = some ⟨oc11, od11, .func (PySem.W.fnOf "read" "read" (defArgs s_read) (defBody s_read) (defScope s_read) .none kV11 dc11 pm11 an11 cd11 ct11), sl11⟩)
    (c11 : PySem.W.codeIn K cd11 "read" = true)
    (k11 : PySem.W.keepIn K (.ref f11) = true)
    (a12 : PySem.W.nsIn K mainGlobals "settled" = some (some (.ref f12)))
    (l12 : K.lookup f12 = some ⟨oc12, od12, .func (PySem.W.fnOf "settled" "settled" (defArgs s_settled) (defBody s_settled) (defScope s_settled) .none kV12 dc12 pm12 an12 cd12 ct12), sl12⟩)
    (c12 : PySem.W.codeIn K cd12 "settled" = true)
    (k12 : PySem.W.keepIn K (.ref f12) = true)
    (a13 : PySem.W.nsIn K mainGlobals "laid_over" = some (some (.ref f13)))
    (l13 : K.lookup f13 = some ⟨oc13, od13, .func (PySem.W.fnOf "laid_over" "laid_over" (defArgs s_laid_over) (defBody s_laid_over) (defScope s_laid_over) .none kV13 dc13 pm13 an13 cd13 ct13), sl13⟩)
    (c13 : PySem.W.codeIn K cd13 "laid_over" = true)
    (k13 : PySem.W.keepIn K (.ref f13) = true)
    (a14 : PySem.W.nsIn K mainGlobals "negated" = some (some (.ref f14)))
    (l14 : K.lookup f14 = some ⟨oc14, od14, .func (PySem.W.fnOf "negated" "negated" (defArgs s_negated) (defBody s_negated) (defScope s_negated) .none kV14 dc14 pm14 an14 cd14 ct14), sl14⟩)
    (c14 : PySem.W.codeIn K cd14 "negated" = true)
    (k14 : PySem.W.keepIn K (.ref f14) = true)
    (a15 : PySem.W.nsIn K mainGlobals "added" = some (some (.ref f15)))
    (l15 : K.lookup f15 = some ⟨oc15, od15, .func (PySem.W.fnOf "added" "added" (defArgs s_added) (defBody s_added) (defScope s_added) .none kV15 dc15 pm15 an15 cd15 ct15), sl15⟩)
    (c15 : PySem.W.codeIn K cd15 "added" = true)
    (k15 : PySem.W.keepIn K (.ref f15) = true)
    (a16 : PySem.W.nsIn K mainGlobals "multiplied" = some (some (.ref f16)))
    (l16 : K.lookup f16 = some ⟨oc16, od16, .func (PySem.W.fnOf "multiplied" "multiplied" (defArgs s_multiplied) (defBody s_multiplied) (defScope s_multiplied) .none kV16 dc16 pm16 an16 cd16 ct16), sl16⟩)
    (c16 : PySem.W.codeIn K cd16 "multiplied" = true)
    (k16 : PySem.W.keepIn K (.ref f16) = true)
    (a17 : PySem.W.nsIn K mainGlobals "compared" = some (some (.ref f17)))
    (l17 : K.lookup f17 = some ⟨oc17, od17, .func (PySem.W.fnOf "compared" "compared" (defArgs s_compared) (defBody s_compared) (defScope s_compared) .none kV17 dc17 pm17 an17 cd17 ct17), sl17⟩)
    (c17 : PySem.W.codeIn K cd17 "compared" = true)
    (k17 : PySem.W.keepIn K (.ref f17) = true)
    (a18 : PySem.W.nsIn K mainGlobals "together" = some (some (.ref f18)))
    (l18 : K.lookup f18 = some ⟨oc18, od18, .func (PySem.W.fnOf "together" "together" (defArgs s_together) (defBody s_together) (defScope s_together) .none kV18 dc18 pm18 an18 cd18 ct18), sl18⟩)
    (c18 : PySem.W.codeIn K cd18 "together" = true)
    (k18 : PySem.W.keepIn K (.ref f18) = true)
    (a19 : PySem.W.nsIn K mainGlobals "_law_mixed" = some (some (.ref f19)))
    (l19 : K.lookup f19 = some ⟨oc19, od19, .func (PySem.W.fnOf "_law_mixed" "_law_mixed" (defArgs s__law_mixed) (defBody s__law_mixed) (defScope s__law_mixed) .none kV19 dc19 pm19 an19 cd19 ct19), sl19⟩)
    (c19 : PySem.W.codeIn K cd19 "_law_mixed" = true)
    (k19 : PySem.W.keepIn K (.ref f19) = true)
    (a20 : PySem.W.nsIn K mainGlobals "_law_asked" = some (some (.ref f20)))
    (l20 : K.lookup f20 = some ⟨oc20, od20, .func (PySem.W.fnOf "_law_asked" "_law_asked" (defArgs s__law_asked) (defBody s__law_asked) (defScope s__law_asked) .none kV20 dc20 pm20 an20 cd20 ct20), sl20⟩)
    (c20 : PySem.W.codeIn K cd20 "_law_asked" = true)
    (k20 : PySem.W.keepIn K (.ref f20) = true)
    (a21 : PySem.W.nsIn K mainGlobals "_law_word" = some (some (.ref f21)))
    (l21 : K.lookup f21 = some ⟨oc21, od21, .func (PySem.W.fnOf "_law_word" "_law_word" (defArgs s__law_word) (defBody s__law_word) (defScope s__law_word) .none kV21 dc21 pm21 an21 cd21 ct21), sl21⟩)
    (c21 : PySem.W.codeIn K cd21 "_law_word" = true)
    (k21 : PySem.W.keepIn K (.ref f21) = true)
    (a22 : PySem.W.nsIn K mainGlobals "_law_thing" = some (some (.ref f22)))
    (l22 : K.lookup f22 = some ⟨oc22, od22, .func (PySem.W.fnOf "_law_thing" "_law_thing" (defArgs s__law_thing) (defBody s__law_thing) (defScope s__law_thing) .none kV22 dc22 pm22 an22 cd22 ct22), sl22⟩)
    (c22 : PySem.W.codeIn K cd22 "_law_thing" = true)
    (k22 : PySem.W.keepIn K (.ref f22) = true)
    (a23 : PySem.W.nsIn K mainGlobals "law" = some (some (.ref f23)))
    (l23 : K.lookup f23 = some ⟨oc23, od23, .func (PySem.W.fnOf "law" "law" (defArgs s_law) (defBody s_law) (defScope s_law) .none kV23 dc23 pm23 an23 cd23 ct23), sl23⟩)
    (c23 : PySem.W.codeIn K cd23 "law" = true)
    (k23 : PySem.W.keepIn K (.ref f23) = true)
    (gLeanError : PySem.W.nsIn K mainGlobals "LeanError" = some (some (.ref CLeanError)))
    (xLeanError : PySem.W.excIn K CLeanError [.type "ValueError", .type "Exception", .type "BaseException", .type "object"] "ValueError.__new__" = true)
    (kLeanError : PySem.W.keepIn K (.ref CLeanError) = true)
    (bLeanError : PySem.W.subIn K (.ref CLeanError) (.type "BaseException") = some true)
    (tLeanError : PySem.W.typeIn K (.ref CLeanError) = some (.type "type"))
    (iLeanError : PySem.W.hasDictIn K CLeanError = true)
    (gNoNumber : PySem.W.nsIn K mainGlobals "NoNumber" = some (some (.ref CNoNumber)))
    (xNoNumber : PySem.W.excIn K CNoNumber [.type "ValueError", .type "Exception", .type "BaseException", .type "object"] "ValueError.__new__" = true)
    (kNoNumber : PySem.W.keepIn K (.ref CNoNumber) = true)
    (bNoNumber : PySem.W.subIn K (.ref CNoNumber) (.type "BaseException") = some true)
    (tNoNumber : PySem.W.typeIn K (.ref CNoNumber) = some (.type "type"))
    (iNoNumber : PySem.W.hasDictIn K CNoNumber = true)
    (gNoRow : PySem.W.nsIn K mainGlobals "NoRow" = some (some (.ref CNoRow)))
    (xNoRow : PySem.W.excIn K CNoRow [.type "ValueError", .type "Exception", .type "BaseException", .type "object"] "ValueError.__new__" = true)
    (kNoRow : PySem.W.keepIn K (.ref CNoRow) = true)
    (bNoRow : PySem.W.subIn K (.ref CNoRow) (.type "BaseException") = some true)
    (tNoRow : PySem.W.typeIn K (.ref CNoRow) = some (.type "type"))
    (iNoRow : PySem.W.hasDictIn K CNoRow = true)
    (gNoText : PySem.W.nsIn K mainGlobals "NoText" = some (some (.ref CNoText)))
    (xNoText : PySem.W.excIn K CNoText [.type "ValueError", .type "Exception", .type "BaseException", .type "object"] "ValueError.__new__" = true)
    (kNoText : PySem.W.keepIn K (.ref CNoText) = true)
    (bNoText : PySem.W.subIn K (.ref CNoText) (.type "BaseException") = some true)
    (tNoText : PySem.W.typeIn K (.ref CNoText) = some (.type "type"))
    (iNoText : PySem.W.hasDictIn K CNoText = true)
    (gNoDeeds : PySem.W.nsIn K mainGlobals "NoDeeds" = some (some (.ref CNoDeeds)))
    (xNoDeeds : PySem.W.excIn K CNoDeeds [.type "ValueError", .type "Exception", .type "BaseException", .type "object"] "ValueError.__new__" = true)
    (kNoDeeds : PySem.W.keepIn K (.ref CNoDeeds) = true)
    (bNoDeeds : PySem.W.subIn K (.ref CNoDeeds) (.type "BaseException") = some true)
    (tNoDeeds : PySem.W.typeIn K (.ref CNoDeeds) = some (.type "type"))
    (iNoDeeds : PySem.W.hasDictIn K CNoDeeds = true)
    (gNoCost : PySem.W.nsIn K mainGlobals "NoCost" = some (some (.ref CNoCost)))
    (xNoCost : PySem.W.excIn K CNoCost [.type "ValueError", .type "Exception", .type "BaseException", .type "object"] "ValueError.__new__" = true)
    (kNoCost : PySem.W.keepIn K (.ref CNoCost) = true)
    (bNoCost : PySem.W.subIn K (.ref CNoCost) (.type "BaseException") = some true)
    (tNoCost : PySem.W.typeIn K (.ref CNoCost) = some (.type "type"))
    (iNoCost : PySem.W.hasDictIn K CNoCost = true)
    (sNoRow_NoRow : PySem.W.subIn K (.ref CNoRow) (.ref CNoRow) = some true)
    (sNoRow_NoNumber : PySem.W.subIn K (.ref CNoRow) (.ref CNoNumber) = some false)
    (sNoRow_NoText : PySem.W.subIn K (.ref CNoRow) (.ref CNoText) = some false)
    (sNoRow_NoCost : PySem.W.subIn K (.ref CNoRow) (.ref CNoCost) = some false)
    (sNoRow_NoDeeds : PySem.W.subIn K (.ref CNoRow) (.ref CNoDeeds) = some false)
    (sNoRow_LeanError : PySem.W.subIn K (.ref CNoRow) (.ref CLeanError) = some true)
    (sNoNumber_NoRow : PySem.W.subIn K (.ref CNoNumber) (.ref CNoRow) = some false)
    (sNoNumber_NoNumber : PySem.W.subIn K (.ref CNoNumber) (.ref CNoNumber) = some true)
    (sNoNumber_NoText : PySem.W.subIn K (.ref CNoNumber) (.ref CNoText) = some false)
    (sNoNumber_NoCost : PySem.W.subIn K (.ref CNoNumber) (.ref CNoCost) = some false)
    (sNoNumber_NoDeeds : PySem.W.subIn K (.ref CNoNumber) (.ref CNoDeeds) = some false)
    (sNoNumber_LeanError : PySem.W.subIn K (.ref CNoNumber) (.ref CLeanError) = some true)
    (sNoText_NoRow : PySem.W.subIn K (.ref CNoText) (.ref CNoRow) = some false)
    (sNoText_NoNumber : PySem.W.subIn K (.ref CNoText) (.ref CNoNumber) = some false)
    (sNoText_NoText : PySem.W.subIn K (.ref CNoText) (.ref CNoText) = some true)
    (sNoText_NoCost : PySem.W.subIn K (.ref CNoText) (.ref CNoCost) = some false)
    (sNoText_NoDeeds : PySem.W.subIn K (.ref CNoText) (.ref CNoDeeds) = some false)
    (sNoText_LeanError : PySem.W.subIn K (.ref CNoText) (.ref CLeanError) = some true)
    (hn_ : PySem.W.specialIn K (.builtin "object.__class__") "__get__" = some (some (.builtin "getset_descriptor.__get__")))
    (ht_ : PySem.W.takesIn K (.builtin "object.__class__") = some true)
    (haNoRow : PySem.W.findIn K (.ref CNoRow) "__getattribute__" = some (some (.builtin "BaseException.__getattribute__")))
    (hbNoRow : PySem.W.findIn K (.ref CNoRow) "__getattr__" = some none)
    (hcNoRow : PySem.W.findIn K (.ref CNoRow) "__class__" = some (some (.builtin "object.__class__")))
    (hmNoRow : PySem.W.mroIn K CNoRow (.type "object") = some true)
    (hvNoRow : PySem.W.subIn K (.ref CNoRow) (.type "ValueError") = some true)
    (haNoNumber : PySem.W.findIn K (.ref CNoNumber) "__getattribute__" = some (some (.builtin "BaseException.__getattribute__")))
    (hbNoNumber : PySem.W.findIn K (.ref CNoNumber) "__getattr__" = some none)
    (hcNoNumber : PySem.W.findIn K (.ref CNoNumber) "__class__" = some (some (.builtin "object.__class__")))
    (hmNoNumber : PySem.W.mroIn K CNoNumber (.type "object") = some true)
    (hvNoNumber : PySem.W.subIn K (.ref CNoNumber) (.type "ValueError") = some true)
    (haNoText : PySem.W.findIn K (.ref CNoText) "__getattribute__" = some (some (.builtin "BaseException.__getattribute__")))
    (hbNoText : PySem.W.findIn K (.ref CNoText) "__getattr__" = some none)
    (hcNoText : PySem.W.findIn K (.ref CNoText) "__class__" = some (some (.builtin "object.__class__")))
    (hmNoText : PySem.W.mroIn K CNoText (.type "object") = some true)
    (hvNoText : PySem.W.subIn K (.ref CNoText) (.type "ValueError") = some true)
    (uSIGNS_ : PySem.W.nsIn K mainGlobals "SIGNS" = some (some uSIGNS))
    (rSIGNS_ : RelV (.str "-0+") uSIGNS)
    (z_isinstance : PySem.W.nsIn K mainGlobals "isinstance" = some none)
    (z_int : PySem.W.nsIn K mainGlobals "int" = some none)
    (z_bool : PySem.W.nsIn K mainGlobals "bool" = some none)
    (z_str : PySem.W.nsIn K mainGlobals "str" = some none)
    (z_list : PySem.W.nsIn K mainGlobals "list" = some none)
    (z_tuple : PySem.W.nsIn K mainGlobals "tuple" = some none)
    (z_len : PySem.W.nsIn K mainGlobals "len" = some none)
    (z_all : PySem.W.nsIn K mainGlobals "all" = some none)
    (z_sum : PySem.W.nsIn K mainGlobals "sum" = some none)
    (z_abs : PySem.W.nsIn K mainGlobals "abs" = some none)
    (z_min : PySem.W.nsIn K mainGlobals "min" = some none)
    (z_max : PySem.W.nsIn K mainGlobals "max" = some none)
    (z_reversed : PySem.W.nsIn K mainGlobals "reversed" = some none)
    (z_zip : PySem.W.nsIn K mainGlobals "zip" = some none)
    (z_enumerate : PySem.W.nsIn K mainGlobals "enumerate" = some none)
    (z_range : PySem.W.nsIn K mainGlobals "range" = some none)
    (z_ValueError : PySem.W.nsIn K mainGlobals "ValueError" = some none)
    : ∃ fd : FuncData, (∀ (s : Shared) (v : Value), BindsTo s fd ⟨[v], []⟩ [("_law_script", v)]) ∧ ∀ base : Heap, K.In base → base.Ns mainGlobals mg → FnOk P w K mg base (L2.CX P w) 8 fa fd ["_law_script"] (spLaw K) := by
  have e := hfa.symm.trans (PySem.W.mg_of X Gg a23)
  cases e
  have B : Blt mg := ⟨PySem.W.mg_none_of X Gg z_isinstance, PySem.W.mg_none_of X Gg z_int, PySem.W.mg_none_of X Gg z_bool, PySem.W.mg_none_of X Gg z_str, PySem.W.mg_none_of X Gg z_list, PySem.W.mg_none_of X Gg z_tuple, PySem.W.mg_none_of X Gg z_len, PySem.W.mg_none_of X Gg z_all, PySem.W.mg_none_of X Gg z_sum, PySem.W.mg_none_of X Gg z_abs, PySem.W.mg_none_of X Gg z_min, PySem.W.mg_none_of X Gg z_max, PySem.W.mg_none_of X Gg z_reversed, PySem.W.mg_none_of X Gg z_zip, PySem.W.mg_none_of X Gg z_enumerate, PySem.W.mg_none_of X Gg z_range, PySem.W.mg_none_of X Gg z_ValueError⟩
  let C : Ad := { LeanError := CLeanError, NoNumber := CNoNumber, NoRow := CNoRow, NoText := CNoText, NoDeeds := CNoDeeds, NoCost := CNoCost, f_lean := f9, f_read := f11, f_worth := f6, f_weight := f7, f_is_lean := f8, f_shown := f10, f_added := f15, f_multiplied := f16, f_compared := f17, f_negated := f14, f_together := f18 }
  have G : Gx K mg C := ⟨⟨PySem.W.mg_of X Gg gLeanError, xLeanError, kLeanError, bLeanError, tLeanError⟩, ⟨PySem.W.mg_of X Gg gNoNumber, xNoNumber, kNoNumber, bNoNumber, tNoNumber⟩, ⟨PySem.W.mg_of X Gg gNoRow, xNoRow, kNoRow, bNoRow, tNoRow⟩, ⟨PySem.W.mg_of X Gg gNoText, xNoText, kNoText, bNoText, tNoText⟩, ⟨PySem.W.mg_of X Gg gNoDeeds, xNoDeeds, kNoDeeds, bNoDeeds, tNoDeeds⟩, ⟨PySem.W.mg_of X Gg gNoCost, xNoCost, kNoCost, bNoCost, tNoCost⟩, ⟨_, PySem.W.mg_of X Gg uSIGNS_, rSIGNS_⟩, ⟨_, PySem.W.mg_of X Gg a9, rfl⟩, ⟨_, PySem.W.mg_of X Gg a11, rfl⟩, ⟨_, PySem.W.mg_of X Gg a6, rfl⟩, ⟨_, PySem.W.mg_of X Gg a7, rfl⟩, ⟨_, PySem.W.mg_of X Gg a8, rfl⟩, ⟨_, PySem.W.mg_of X Gg a10, rfl⟩, ⟨_, PySem.W.mg_of X Gg a15, rfl⟩, ⟨_, PySem.W.mg_of X Gg a16, rfl⟩, ⟨_, PySem.W.mg_of X Gg a17, rfl⟩, ⟨_, PySem.W.mg_of X Gg a14, rfl⟩, ⟨_, PySem.W.mg_of X Gg a18, rfl⟩, PySem.W.exm_ref bNoRow iNoRow tNoRow sNoRow_NoRow, PySem.W.exm_ref bNoNumber iNoNumber tNoNumber sNoRow_NoNumber, PySem.W.exm_ref bNoText iNoText tNoText sNoRow_NoText, PySem.W.exm_ref bNoCost iNoCost tNoCost sNoRow_NoCost, PySem.W.exm_ref bNoDeeds iNoDeeds tNoDeeds sNoRow_NoDeeds, PySem.W.exm_ref bLeanError iLeanError tLeanError sNoRow_LeanError, PySem.W.exm_ref bNoRow iNoRow tNoRow sNoNumber_NoRow, PySem.W.exm_ref bNoNumber iNoNumber tNoNumber sNoNumber_NoNumber, PySem.W.exm_ref bNoText iNoText tNoText sNoNumber_NoText, PySem.W.exm_ref bNoCost iNoCost tNoCost sNoNumber_NoCost, PySem.W.exm_ref bNoDeeds iNoDeeds tNoDeeds sNoNumber_NoDeeds, PySem.W.exm_ref bLeanError iLeanError tLeanError sNoNumber_LeanError, PySem.W.exm_ref bNoRow iNoRow tNoRow sNoText_NoRow, PySem.W.exm_ref bNoNumber iNoNumber tNoNumber sNoText_NoNumber, PySem.W.exm_ref bNoText iNoText tNoText sNoText_NoText, PySem.W.exm_ref bNoCost iNoCost tNoCost sNoText_NoCost, PySem.W.exm_ref bNoDeeds iNoDeeds tNoDeeds sNoText_NoDeeds, PySem.W.exm_ref bLeanError iLeanError tLeanError sNoText_LeanError, ⟨⟨haNoRow, hbNoRow, bNoRow, iNoRow, hcNoRow, hn_, ht_, hmNoRow⟩, PySem.W.exm_ref bLeanError iLeanError tLeanError sNoRow_LeanError, kit_cls iNoRow tNoRow sNoRow_NoRow sNoRow_NoRow, kit_cls iNoNumber tNoNumber sNoRow_NoNumber sNoRow_NoRow, kit_cls iNoText tNoText sNoRow_NoText sNoRow_NoRow, kit_cls iNoCost tNoCost sNoRow_NoCost sNoRow_NoRow, kit_cls iNoDeeds tNoDeeds sNoRow_NoDeeds sNoRow_NoRow, kit_val hvNoRow⟩, ⟨⟨haNoNumber, hbNoNumber, bNoNumber, iNoNumber, hcNoNumber, hn_, ht_, hmNoNumber⟩, PySem.W.exm_ref bLeanError iLeanError tLeanError sNoNumber_LeanError, kit_cls iNoRow tNoRow sNoNumber_NoRow sNoNumber_NoNumber, kit_cls iNoNumber tNoNumber sNoNumber_NoNumber sNoNumber_NoNumber, kit_cls iNoText tNoText sNoNumber_NoText sNoNumber_NoNumber, kit_cls iNoCost tNoCost sNoNumber_NoCost sNoNumber_NoNumber, kit_cls iNoDeeds tNoDeeds sNoNumber_NoDeeds sNoNumber_NoNumber, kit_val hvNoNumber⟩, ⟨⟨haNoText, hbNoText, bNoText, iNoText, hcNoText, hn_, ht_, hmNoText⟩, PySem.W.exm_ref bLeanError iLeanError tLeanError sNoText_LeanError, kit_cls iNoRow tNoRow sNoText_NoRow sNoText_NoText, kit_cls iNoNumber tNoNumber sNoText_NoNumber sNoText_NoText, kit_cls iNoText tNoText sNoText_NoText sNoText_NoText, kit_cls iNoCost tNoCost sNoText_NoCost sNoText_NoText, kit_cls iNoDeeds tNoDeeds sNoText_NoDeeds sNoText_NoText, kit_val hvNoText⟩⟩
  have F1 := fun_mk (st := s_is_whole) l1 c1 k1
  have b1 := F1.binds (ps := ["thing"]) fun _ _ _ _ _ _ us hl => match us, hl with | [_], _ => rfl
  have F2 := fun_mk (st := s_is_figure) l2 c2 k2
  have b2 := F2.binds (ps := ["thing"]) fun _ _ _ _ _ _ us hl => match us, hl with | [_], _ => rfl
  have F3 := fun_mk (st := s_is_row) l3 c3 k3
  have b3 := F3.binds (ps := ["thing"]) fun _ _ _ _ _ _ us hl => match us, hl with | [_], _ => rfl
  have F4 := fun_mk (st := s_need_row) l4 c4 k4
  have b4 := F4.binds (ps := ["thing"]) fun _ _ _ _ _ _ us hl => match us, hl with | [_], _ => rfl
  have F5 := fun_mk (st := s_need_number) l5 c5 k5
  have b5 := F5.binds (ps := ["thing"]) fun _ _ _ _ _ _ us hl => match us, hl with | [_], _ => rfl
  have F6 := fun_mk (st := s_worth) l6 c6 k6
  have b6 := F6.binds (ps := ["row"]) fun _ _ _ _ _ _ us hl => match us, hl with | [_], _ => rfl
  have F7 := fun_mk (st := s_weight) l7 c7 k7
  have b7 := F7.binds (ps := ["row"]) fun _ _ _ _ _ _ us hl => match us, hl with | [_], _ => rfl
  have F8 := fun_mk (st := s_is_lean) l8 c8 k8
  have b8 := F8.binds (ps := ["row"]) fun _ _ _ _ _ _ us hl => match us, hl with | [_], _ => rfl
  have F9 := fun_mk (st := s_lean) l9 c9 k9
  have b9 := F9.binds (ps := ["number"]) fun _ _ _ _ _ _ us hl => match us, hl with | [_], _ => rfl
  have F10 := fun_mk (st := s_shown) l10 c10 k10
  have b10 := F10.binds (ps := ["row"]) fun _ _ _ _ _ _ us hl => match us, hl with | [_], _ => rfl
  have F11 := fun_mk (st := s_read) l11 c11 k11
  have b11 := F11.binds (ps := ["text"]) fun _ _ _ _ _ _ us hl => match us, hl with | [_], _ => rfl
  have F12 := fun_mk (st := s_settled) l12 c12 k12
  have b12 := F12.binds (ps := ["totals"]) fun _ _ _ _ _ _ us hl => match us, hl with | [_], _ => rfl
  have F13 := fun_mk (st := s_laid_over) l13 c13 k13
  have b13 := F13.binds (ps := ["totals", "row", "times", "place"]) fun _ _ _ _ _ _ us hl => match us, hl with | [_, _, _, _], _ => rfl
  have F14 := fun_mk (st := s_negated) l14 c14 k14
  have b14 := F14.binds (ps := ["row"]) fun _ _ _ _ _ _ us hl => match us, hl with | [_], _ => rfl
  have F15 := fun_mk (st := s_added) l15 c15 k15
  have b15 := F15.binds (ps := ["one", "other"]) fun _ _ _ _ _ _ us hl => match us, hl with | [_, _], _ => rfl
  have F16 := fun_mk (st := s_multiplied) l16 c16 k16
  have b16 := F16.binds (ps := ["one", "other"]) fun _ _ _ _ _ _ us hl => match us, hl with | [_, _], _ => rfl
  have F17 := fun_mk (st := s_compared) l17 c17 k17
  have b17 := F17.binds (ps := ["one", "other"]) fun _ _ _ _ _ _ us hl => match us, hl with | [_, _], _ => rfl
  have F18 := fun_mk (st := s_together) l18 c18 k18
  have b18 := F18.binds (ps := ["rows"]) fun _ _ _ _ _ _ us hl => match us, hl with | [_], _ => rfl
  have F19 := fun_mk (st := s__law_mixed) l19 c19 k19
  have b19 := F19.binds (ps := ["_law_cell", "_law_k"]) fun _ _ _ _ _ _ us hl => match us, hl with | [_, _], _ => rfl
  have F20 := fun_mk (st := s__law_asked) l20 c20 k20
  have b20 := F20.binds (ps := ["_law_way", "_law_thing_here"]) fun _ _ _ _ _ _ us hl => match us, hl with | [_, _], _ => rfl
  have F21 := fun_mk (st := s__law_word) l21 c21 k21
  have b21 := F21.binds (ps := ["_law_way", "_law_thing_here"]) fun _ _ _ _ _ _ us hl => match us, hl with | [_, _], _ => rfl
  have F22 := fun_mk (st := s__law_thing) l22 c22 k22
  have b22 := F22.binds (ps := ["_law_way", "_law_cell"]) fun _ _ _ _ _ _ us hl => match us, hl with | [_, _], _ => rfl
  have F23 := fun_mk (st := s_law) l23 c23 k23
  refine ⟨PySem.W.fnOf "law" "law" (defArgs s_law) (defBody s_law) (defScope s_law) .none kV23 dc23 pm23 an23 cd23 ct23, fun s v => .of_eq rfl, fun base _ _ => ?_⟩
  have c_is_whole : Cal P w K mg base 1 "is_whole" (sp_is_whole K C) := ok_is_whole ⟨f1, _, F1, PySem.W.mg_of X Gg a1, b1⟩ B G 
  have c_is_figure : Cal P w K mg base 2 "is_figure" (sp_is_figure K C) := ok_is_figure ⟨f2, _, F2, PySem.W.mg_of X Gg a2, b2⟩ B G c_is_whole
  have c_is_row : Cal P w K mg base 3 "is_row" (sp_is_row K C) := ok_is_row ⟨f3, _, F3, PySem.W.mg_of X Gg a3, b3⟩ B G c_is_figure
  have c_need_row : Cal P w K mg base 4 "need_row" (sp_need_row K C) := ok_need_row ⟨f4, _, F4, PySem.W.mg_of X Gg a4, b4⟩ B G c_is_row
  have c_need_number : Cal P w K mg base 2 "need_number" (sp_need_number K C) := ok_need_number ⟨f5, _, F5, PySem.W.mg_of X Gg a5, b5⟩ B G c_is_whole
  have c_worth : Cal P w K mg base 5 "worth" (sp_worth K C) := ok_worth ⟨f6, _, F6, PySem.W.mg_of X Gg a6, b6⟩ B G c_need_row
  have c_weight : Cal P w K mg base 5 "weight" (sp_weight K C) := ok_weight ⟨f7, _, F7, PySem.W.mg_of X Gg a7, b7⟩ B G c_need_row
  have c_is_lean : Cal P w K mg base 5 "is_lean" (sp_is_lean K C) := ok_is_lean ⟨f8, _, F8, PySem.W.mg_of X Gg a8, b8⟩ B G c_need_row
  have c_lean : Cal P w K mg base 3 "lean" (sp_lean K C) := ok_lean ⟨f9, _, F9, PySem.W.mg_of X Gg a9, b9⟩ B G c_need_number
  have c_shown : Cal P w K mg base 5 "shown" (sp_shown K C) := ok_shown ⟨f10, _, F10, PySem.W.mg_of X Gg a10, b10⟩ B G c_need_row
  have c_read : Cal P w K mg base 4 "read" (sp_read K C) := ok_read ⟨f11, _, F11, PySem.W.mg_of X Gg a11, b11⟩ B G c_is_row
  have c_settled : Cal P w K mg base 1 "settled" (sp_settled K C) := ok_settled ⟨f12, _, F12, PySem.W.mg_of X Gg a12, b12⟩ B G 
  have c_laid_over : Cal P w K mg base 1 "laid_over" (sp_laid_over K C) := ok_laid_over ⟨f13, _, F13, PySem.W.mg_of X Gg a13, b13⟩ B G 
  have c_negated : Cal P w K mg base 5 "negated" (sp_negated K C) := ok_negated ⟨f14, _, F14, PySem.W.mg_of X Gg a14, b14⟩ B G c_need_row c_settled
  have c_added : Cal P w K mg base 5 "added" (sp_added K C) := ok_added ⟨f15, _, F15, PySem.W.mg_of X Gg a15, b15⟩ B G c_need_row c_laid_over c_settled
  have c_multiplied : Cal P w K mg base 5 "multiplied" (sp_multiplied K C) := ok_multiplied ⟨f16, _, F16, PySem.W.mg_of X Gg a16, b16⟩ B G c_need_row c_laid_over c_settled
  have c_compared : Cal P w K mg base 5 "compared" (sp_compared K C) := ok_compared ⟨f17, _, F17, PySem.W.mg_of X Gg a17, b17⟩ B G c_need_row c_laid_over c_settled
  have c_together : Cal P w K mg base 5 "together" (sp_together K C) := ok_together ⟨f18, _, F18, PySem.W.mg_of X Gg a18, b18⟩ B G c_need_row c_laid_over c_settled
  have c__law_mixed : Cal P w K mg base 1 "_law_mixed" (sp__law_mixed K C) := ok__law_mixed ⟨f19, _, F19, PySem.W.mg_of X Gg a19, b19⟩ B G 
  have c__law_asked : Cal P w K mg base 6 "_law_asked" (sp__law_asked K C) := ok__law_asked ⟨f20, _, F20, PySem.W.mg_of X Gg a20, b20⟩ B G c_worth c_weight c_is_lean c_shown c_added c_multiplied c_compared c_negated c_together c_lean c_read
  have c__law_word : Cal P w K mg base 7 "_law_word" (sp__law_word K C) := ok__law_word ⟨f21, _, F21, PySem.W.mg_of X Gg a21, b21⟩ B G c__law_asked
  have c__law_thing : Cal P w K mg base 1 "_law_thing" (sp__law_thing K C) := ok__law_thing ⟨f22, _, F22, PySem.W.mg_of X Gg a22, b22⟩ B G 
  exact ok_law F23 B G c__law_mixed c__law_thing c__law_word c_added c_lean c_read
theorem walk {l : PySem.W.OpenLaw} {q : Program} {loose : List Str} {XP : (Str → Option Value) → Heap → Prop} {YP : World → Heap → Prop} {d : DefRec} {K : Params → PySem.W.Frag} (hn : l.most = some 63) (hdf : d.params.defaults = [])
    (hY : ∀ (w : World) (h : Heap), YP w h → (K w.params).In h)
    (F : ∀ (w : World) (mg : Str → Option Value) (fa : Addr) (h : Heap), (K w.params).In h → h.Ns mainGlobals mg → mg d.name = some (.ref fa) →
      ∃ fd : FuncData, (∀ (s : Shared) (u : Value), BindsTo s fd ⟨[u], []⟩ [("_law_script", u)]) ∧ ∀ base : Heap, (K w.params).In base → base.Ns mainGlobals mg → FnOk l.prog w (K w.params) mg base (L2.CX l.prog w) 8 fa fd ["_law_script"] (spLaw (K w.params))) :
    PySem.W.WalkO q loose XP YP l.row.toRowW d [] (fun f vs => PySem.call f vs) :=
  L2.walk_ofB (n := 63) (k := 8) (x := "_law_script") (CX := fun w => L2.CX l.prog w) (sp := fun w => spLaw (K w.params)) hn (by decide) hdf ⟨rfl, by decide, by decide⟩ hY F
    (fun _ _ a ns hl hb _ hS => ⟨a, ns, rfl, hS, hl, fun z hz => bits_lt (hb z hz), fun _ => rfl⟩) fun _ _ _ _ _ h => by
      obtain ⟨_, _, _, _, _, _, _, _, _, _, _, _, z⟩ := h
      exact z.elim
end Lf
open PySem PySem.W PyProof.Rows
set_option maxRecDepth 100000 in
set_option maxHeartbeats 0 in
theorem PySem.Challenge.cw_leanfigures_k12_rows_refused_holds : PySem.Challenge.rw_leanfigures_k12_rows_refused.Holds := by
  w_on; o_law; k_head; (case hw => w_witness2)
  k_fill
  refine Lf.walk (l := PySem.Challenge.rw_leanfigures_k12_rows_refused) rfl rfl (fun w h Y => PySem.W.kIn_of Y) ?F
  case F =>
    intro w mg fa h KX G hmg
    refine' Lf.all_mk KX G hmg ?a1 ?l1 ?c1 ?k1 ?a2 ?l2 ?c2 ?k2 ?a3 ?l3 ?c3 ?k3 ?a4 ?l4 ?c4 ?k4 ?a5 ?l5 ?c5 ?k5 ?a6 ?l6 ?c6 ?k6 ?a7 ?l7 ?c7 ?k7 ?a8 ?l8 ?c8 ?k8 ?a9 ?l9 ?c9 ?k9 ?a10 ?l10 ?c10 ?k10 ?a11 ?l11 ?c11 ?k11 ?a12 ?l12 ?c12 ?k12 ?a13 ?l13 ?c13 ?k13 ?a14 ?l14 ?c14 ?k14 ?a15 ?l15 ?c15 ?k15 ?a16 ?l16 ?c16 ?k16 ?a17 ?l17 ?c17 ?k17 ?a18 ?l18 ?c18 ?k18 ?a19 ?l19 ?c19 ?k19 ?a20 ?l20 ?c20 ?k20 ?a21 ?l21 ?c21 ?k21 ?a22 ?l22 ?c22 ?k22 ?a23 ?l23 ?c23 ?k23 ?gLeanError ?xLeanError ?kLeanError ?bLeanError ?tLeanError ?iLeanError ?gNoNumber ?xNoNumber ?kNoNumber ?bNoNumber ?tNoNumber ?iNoNumber ?gNoRow ?xNoRow ?kNoRow ?bNoRow ?tNoRow ?iNoRow ?gNoText ?xNoText ?kNoText ?bNoText ?tNoText ?iNoText ?gNoDeeds ?xNoDeeds ?kNoDeeds ?bNoDeeds ?tNoDeeds ?iNoDeeds ?gNoCost ?xNoCost ?kNoCost ?bNoCost ?tNoCost ?iNoCost ?sNoRow_NoRow ?sNoRow_NoNumber ?sNoRow_NoText ?sNoRow_NoCost ?sNoRow_NoDeeds ?sNoRow_LeanError ?sNoNumber_NoRow ?sNoNumber_NoNumber ?sNoNumber_NoText ?sNoNumber_NoCost ?sNoNumber_NoDeeds ?sNoNumber_LeanError ?sNoText_NoRow ?sNoText_NoNumber ?sNoText_NoText ?sNoText_NoCost ?sNoText_NoDeeds ?sNoText_LeanError ?hn_ ?ht_ ?haNoRow ?hbNoRow ?hcNoRow ?hmNoRow ?hvNoRow ?haNoNumber ?hbNoNumber ?hcNoNumber ?hmNoNumber ?hvNoNumber ?haNoText ?hbNoText ?hcNoText ?hmNoText ?hvNoText ?uSIGNS_ ?rSIGNS_ ?z_isinstance ?z_int ?z_bool ?z_str ?z_list ?z_tuple ?z_len ?z_all ?z_sum ?z_abs ?z_min ?z_max ?z_reversed ?z_zip ?z_enumerate ?z_range ?z_ValueError
    (case a1 => k_is)
    (case l1 => k_is)
    (case c1 => k_is)
    (case k1 => k_is)
    (case a2 => k_is)
    (case l2 => k_is)
    (case c2 => k_is)
    (case k2 => k_is)
    (case a3 => k_is)
    (case l3 => k_is)
    (case c3 => k_is)
    (case k3 => k_is)
    (case a4 => k_is)
    (case l4 => k_is)
    (case c4 => k_is)
    (case k4 => k_is)
    (case a5 => k_is)
    (case l5 => k_is)
    (case c5 => k_is)
    (case k5 => k_is)
    (case a6 => k_is)
    (case l6 => k_is)
    (case c6 => k_is)
    (case k6 => k_is)
    (case a7 => k_is)
    (case l7 => k_is)
    (case c7 => k_is)
    (case k7 => k_is)
    (case a8 => k_is)
    (case l8 => k_is)
    (case c8 => k_is)
    (case k8 => k_is)
    (case a9 => k_is)
    (case l9 => k_is)
    (case c9 => k_is)
    (case k9 => k_is)
    (case a10 => k_is)
    (case l10 => k_is)
    (case c10 => k_is)
    (case k10 => k_is)
    (case a11 => k_is)
    (case l11 => k_is)
    (case c11 => k_is)
    (case k11 => k_is)
    (case a12 => k_is)
    (case l12 => k_is)
    (case c12 => k_is)
    (case k12 => k_is)
    (case a13 => k_is)
    (case l13 => k_is)
    (case c13 => k_is)
    (case k13 => k_is)
    (case a14 => k_is)
    (case l14 => k_is)
    (case c14 => k_is)
    (case k14 => k_is)
    (case a15 => k_is)
    (case l15 => k_is)
    (case c15 => k_is)
    (case k15 => k_is)
    (case a16 => k_is)
    (case l16 => k_is)
    (case c16 => k_is)
    (case k16 => k_is)
    (case a17 => k_is)
    (case l17 => k_is)
    (case c17 => k_is)
    (case k17 => k_is)
    (case a18 => k_is)
    (case l18 => k_is)
    (case c18 => k_is)
    (case k18 => k_is)
    (case a19 => k_is)
    (case l19 => k_is)
    (case c19 => k_is)
    (case k19 => k_is)
    (case a20 => k_is)
    (case l20 => k_is)
    (case c20 => k_is)
    (case k20 => k_is)
    (case a21 => k_is)
    (case l21 => k_is)
    (case c21 => k_is)
    (case k21 => k_is)
    (case a22 => k_is)
    (case l22 => k_is)
    (case c22 => k_is)
    (case k22 => k_is)
    (case a23 => k_is)
    (case l23 => k_is)
    (case c23 => k_is)
    (case k23 => k_is)
    (case gLeanError => k_is)
    (case xLeanError => k_exc)
    (case kLeanError => k_is)
    (case bLeanError => k_is)
    (case tLeanError => k_is)
    (case iLeanError => k_is)
    (case gNoNumber => k_is)
    (case xNoNumber => k_exc)
    (case kNoNumber => k_is)
    (case bNoNumber => k_is)
    (case tNoNumber => k_is)
    (case iNoNumber => k_is)
    (case gNoRow => k_is)
    (case xNoRow => k_exc)
    (case kNoRow => k_is)
    (case bNoRow => k_is)
    (case tNoRow => k_is)
    (case iNoRow => k_is)
    (case gNoText => k_is)
    (case xNoText => k_exc)
    (case kNoText => k_is)
    (case bNoText => k_is)
    (case tNoText => k_is)
    (case iNoText => k_is)
    (case gNoDeeds => k_is)
    (case xNoDeeds => k_exc)
    (case kNoDeeds => k_is)
    (case bNoDeeds => k_is)
    (case tNoDeeds => k_is)
    (case iNoDeeds => k_is)
    (case gNoCost => k_is)
    (case xNoCost => k_exc)
    (case kNoCost => k_is)
    (case bNoCost => k_is)
    (case tNoCost => k_is)
    (case iNoCost => k_is)
    (case sNoRow_NoRow => first | rfl | k_is)
    (case sNoRow_NoNumber => first | rfl | k_is)
    (case sNoRow_NoText => first | rfl | k_is)
    (case sNoRow_NoCost => first | rfl | k_is)
    (case sNoRow_NoDeeds => first | rfl | k_is)
    (case sNoRow_LeanError => first | rfl | k_is)
    (case sNoNumber_NoRow => first | rfl | k_is)
    (case sNoNumber_NoNumber => first | rfl | k_is)
    (case sNoNumber_NoText => first | rfl | k_is)
    (case sNoNumber_NoCost => first | rfl | k_is)
    (case sNoNumber_NoDeeds => first | rfl | k_is)
    (case sNoNumber_LeanError => first | rfl | k_is)
    (case sNoText_NoRow => first | rfl | k_is)
    (case sNoText_NoNumber => first | rfl | k_is)
    (case sNoText_NoText => first | rfl | k_is)
    (case sNoText_NoCost => first | rfl | k_is)
    (case sNoText_NoDeeds => first | rfl | k_is)
    (case sNoText_LeanError => first | rfl | k_is)
    (case hn_ => k_is)
    (case ht_ => k_is)
    (case haNoRow => k_is)
    (case hbNoRow => k_is)
    (case hcNoRow => k_is)
    (case hmNoRow => k_is)
    (case hvNoRow => k_is)
    (case haNoNumber => k_is)
    (case hbNoNumber => k_is)
    (case hcNoNumber => k_is)
    (case hmNoNumber => k_is)
    (case hvNoNumber => k_is)
    (case haNoText => k_is)
    (case hbNoText => k_is)
    (case hcNoText => k_is)
    (case hmNoText => k_is)
    (case hvNoText => k_is)
    (case uSIGNS_ => k_is)
    (case rSIGNS_ => exact ⟨_, rfl⟩)
    (case z_isinstance => k_is)
    (case z_int => k_is)
    (case z_bool => k_is)
    (case z_str => k_is)
    (case z_list => k_is)
    (case z_tuple => k_is)
    (case z_len => k_is)
    (case z_all => k_is)
    (case z_sum => k_is)
    (case z_abs => k_is)
    (case z_min => k_is)
    (case z_max => k_is)
    (case z_reversed => k_is)
    (case z_zip => k_is)
    (case z_enumerate => k_is)
    (case z_range => k_is)
    (case z_ValueError => k_is)
#print axioms PySem.Challenge.cw_leanfigures_k12_rows_refused_holds
