import PyProof.Rows.All
import Wide.All
import OpenK.AllK
import Wide.FinOn
import HandS.ForMost
import HandS.ForExc
import HandS.IsInst
import HandS.Wide
import HandS.Style
import HandS.Flow
import HandS.TryMany
import HandS.Codes
import HandS.Evl
import HandS.Conv
import HandS.EndBits
import HandS.ExcIs
import HandS.TryOnly
import HandS.Small
import PySem.Challenge.RW_leanfigures_k11_whole_least_small_ones
set_option Elab.async false
set_option linter.all false
set_option maxRecDepth 100000
set_option maxHeartbeats 2000000
/-! Base: operators by short names, what a def is known by, readings as rewrite rules, loops by their turns. -/
namespace Lf
open PySem PySem.Spec L2
open PyProof.Rows hiding St
/-! ### short names of the operators' readings -/
abbrev qNeg : V → Hp → VK → Prop := rU fun i => .int (-i)
abbrev qAdd : R2 := rI0 fun i j => .int (i + j)
abbrev qSub : R2 := rI0 fun i j => .int (i - j)
abbrev qMul : R2 := rI CMul fun i j => .int (i * j)
abbrev qMulW : R2 := rI CMulW fun i j => .int (i * j)
abbrev qMod : R2 := rI (fun _ j => 0 < j) fun i j => .int (i % j)
abbrev qModN : R2 := rI (fun _ j => j ≠ 0) fun i j => .int (i.fmod j)
abbrev qDiv : R2 := rI CDiv fun i j => .int (i / j)
abbrev qDivN : R2 := rI CDivN fun i j => .int (i.fdiv j)
abbrev qPow : R2 := rI CPow fun i j => .int (i ^ j.toNat)
abbrev qLt : R2 := rI0 fun i j => .bl (decide (i < j))
abbrev qLe : R2 := rI0 fun i j => .bl (decide (i ≤ j))
abbrev qGt : R2 := rI0 fun i j => .bl (decide (j < i))
abbrev qGe : R2 := rI0 fun i j => .bl (decide (j ≤ i))
abbrev qAddS : R2 := fun x y H Q => ∃ i j, x = .str i ∧ y = .str j ∧ i.length + j.length ≤ sizeLine ∧ Q (.str (i ++ j)) H
abbrev qIsN : R2 := fun x y H Q => y = .non ∧ Q (.bl (decide (x = .non))) H
abbrev qNotN : R2 := fun x y H Q => y = .non ∧ Q (.bl (!decide (x = .non))) H
abbrev qInS : R2 := fun x y H Q => ∃ (c : Nat) (z : Str), x = .str ⟨#[c]⟩ ∧ y = .str z ∧ Q (.bl (decide (c ∈ z.cps.toList))) H
abbrev qNotInS : R2 := fun x y H Q => ∃ (c : Nat) (z : Str), x = .str ⟨#[c]⟩ ∧ y = .str z ∧ Q (.bl (!decide (c ∈ z.cps.toList))) H
abbrev qAbs : List V → Hp → VK → Prop := fun xs H Q => ∃ i, xs = [.int i] ∧ Q (.int (if i < 0 then -i else i)) H
abbrev qMax2 : List V → Hp → VK → Prop := fun xs H Q => ∃ i j, xs = [.int i, .int j] ∧ Q (.int (if j > i then j else i)) H
abbrev qMin2 : List V → Hp → VK → Prop := fun xs H Q => ∃ i j, xs = [.int i, .int j] ∧ Q (.int (if j < i then j else i)) H
abbrev qInt1 : List V → Hp → VK → Prop := fun xs H Q => (∃ i, xs = [.int i] ∧ Q (.int i) H) ∨ ∃ k, xs = [.bl k] ∧ Q (.int (if k then 1 else 0)) H
abbrev qLen (K : PySem.W.Frag) : List V → Hp → VK → Prop := fun xs H Q => ∃ p ys, xs = [.ref p] ∧ (SqL K H p ys ∨ SqT K H p ys) ∧ Q (.int ys.length) H
abbrev qLenS : List V → Hp → VK → Prop := fun xs H Q => ∃ z, xs = [.str z] ∧ z.length ≤ sizeLine ∧ Q (.int z.length) H
abbrev qList (K : PySem.W.Frag) : List V → Hp → VK → Prop := fun xs H Q => ∃ p ys, xs = [.ref p] ∧ (SqL K H p ys ∨ SqT K H p ys) ∧ ∀ l, H l = none → Q (.ref l) (upd H l (.lst ys))
abbrev qTuple (K : PySem.W.Frag) : List V → Hp → VK → Prop := fun xs H Q => ∃ p ys, xs = [.ref p] ∧ ((SqL K H p ys ∧ ∀ l, H l = none → Q (.ref l) (upd H l (.tup ys))) ∨ (SqT K H p ys ∧ Q (.ref p) H))
abbrev qGetL (K : PySem.W.Frag) : V → V → Hp → VK → Prop := rIxL K
abbrev qJoin (K : PySem.W.Frag) (to te : TE) : TE := tM1 (fun x xs H Q => ∃ a p, ∃ ys : List Str, x = .str a ∧ xs = [.ref p] ∧ (SqL K H p (ys.map V.str) ∨ SqT K H p (ys.map V.str)) ∧ (ys.map (·.length)).sum + ys.length * a.length ≤ 16777216 ∧ Q (.str (Txt.join a ys)) H) to te
abbrev qFind (to te : TE) : TE := tM1 (fun x xs H Q => ∃ a b, x = .str a ∧ xs = [.str b] ∧ Q (.int (Txt.find a b)) H) to te
/-- list + list, whatever lists may be read -/
def qCat (K : PySem.W.Frag) : R2 := fun x y H Q => ∃ l b xs zs, x = .ref l ∧ y = .ref b ∧ SqL K H l xs ∧ SqL K H b zs ∧ xs.length + zs.length ≤ sizeLine ∧ ∀ p, H p = none → Q (.ref p) (upd H p (.lst (xs ++ zs)))
section
variable {X : Cx}
theorem op_catS : OpR X (binaryOp .Add) (qCat X.K) := by
  intro pins s σ H x y v u Q I rx ry h
  obtain ⟨l, b, xs, zs, rfl, rfl, hH, hB, hz, q⟩ := h
  cases rx
  cases ry
  obtain ⟨its, r, ⟨o, n, ho, hc, hdn, hd⟩, hl⟩ := I.list hH
  obtain ⟨its2, r2, ⟨o2, n2, ho2, hc2, hdn2, hd2⟩, hl2⟩ := I.list hB
  have e1 : s.heap.get? l = some { cls := .type "list", dict := none, data := .seq its.toArray n, slots := o.slots } := by
    rw [ho]; obtain ⟨c, d, dt, sl⟩ := o; simp only at hc hdn hd; subst hc hdn hd; rfl
  have e2 : s.heap.get? b = some { cls := .type "list", dict := none, data := .seq its2.toArray n2, slots := o2.slots } := by
    rw [ho2]; obtain ⟨c, d, dt, sl⟩ := o2; simp only at hc2 hdn2 hd2; subst hc2 hdn2 hd2; rfl
  have hn := r.length
  have hn2 := r2.length
  refine concat_meets ⟨_, e1, rfl⟩ ⟨_, e2, rfl⟩ noFill_list_add seq_list_add PySem.F.slot_list_add PySem.F.entry_list_add (PySem.F.args_list_add_2 _ _) (PyProof.Rows.list_addW l b its.toArray its2.toArray n n2 none none o.slots o2.slots (by rw [List.size_toArray, List.size_toArray]; omega)) ⟨e1, e2, ?_⟩
  have ea : its.toArray ++ its2.toArray = (its ++ its2).toArray := by simp
  rw [ea]
  exact ⟨.ref _, _, I.lnew (t' := s.toks) (r.append r2) (by rw [List.length_append]; omega), rfl, q _ I.fresh⟩
theorem get_list : PGet X (qGetL X.K) := by
  intro pins s σ H x y v u Q I rx ry h
  obtain ⟨p, xs, i, z, rfl, rfl, hq, he, q⟩ := h
  cases rx
  obtain ⟨t, rfl⟩ := ry
  obtain ⟨its, r, pl, hz⟩ := I.list hq
  obtain ⟨j, h1, h2, h3, h4, h5⟩ := atI_get he
  obtain ⟨w, ew, rw'⟩ := r.get h2
  have hl := r.length
  have hn := line63
  have fin : EP X pins σ Q w s := ⟨z, H, I, rw', q⟩
  by_cases h0 : 0 ≤ i
  · have hj : i.toNat = j := by
      rw [seqIndex_of h0 h5] at h1
      exact Option.some.inj h1
    exact wpAny_getItem_list pl.isList h0 (by omega) (by rw [hj]; simpa using ew) fin
  · have hj : (i + (its.toArray.size : Int)).toNat = j := by
      rw [seqIndex_neg (by omega) h4] at h1
      rw [List.size_toArray, ← hl]
      exact Option.some.inj h1
    exact wpAny_getItem_list_neg pl.isList (by omega) (by rw [List.size_toArray] <;> omega) (by omega) (by rw [hj]; simpa using ew) fin
end
/-! ### what a def is known by -/
structure Dfn (K : PySem.W.Frag) (mg : Str → Option Value) (x : Str) (ps : List Str) (st : Stmt) : Prop where
  ex : ∃ (f : Addr) (fd : FuncData), Fun K x x st f fd ∧ mg x = some (.ref f) ∧ Binds K fd ps []
/-- a def that may be called by its name at a level; it may raise -/
structure Cal (P : Program) (w : World) (K : PySem.W.Frag) (mg : Str → Option Value) (base : Heap) (k : Nat) (x : Str) (sp : Sp) : Prop where
  ex : ∃ (f : Addr) (fd : FuncData) (ps : List Str), FnOk P w K mg base (L2.CX P w) k f fd ps sp ∧ mg x = some (.ref f) ∧ PySem.W.keepIn K (.ref f) = true ∧ Binds K fd ps []
section
variable {P : Program} {w : World} {K : PySem.W.Frag} {mg : Str → Option Value} {base : Heap}
theorem cal_of {x : Str} {st : Stmt} {N ps : List Str} {k : Nat} {sp : Sp} (D : Dfn K mg x ps st) (S : FnScope N ps (defScope st)) (len : ∀ vs H Q E, sp vs H Q E → vs.length = ps.length)
    (hbody : ∀ (f : Addr) (cdv : Value) (A : Around) (outer : List Env) (s : Shared) (H : Hp) (vs : List V) (Q : VK) (E : XK), Room k (A.deeper (envOfC x (defScope st) s.heap.objs.size f cdv)) → sp vs H Q E →
      ∃ t, PSs (cxOf (L2.CX P w) P w K mg base N x (defScope st) f cdv A outer s H E) (defBody st) t ∧ t { nx := fun _ H' => Q .non H', rt := Q } (start N vs) H) : Cal P w K mg base (k + 1) x sp := by
  obtain ⟨f, fd, F, hm, hb⟩ := D.ex
  exact ⟨f, fd, ps, F.okX S len (hbody f), hm, F.kp, hb⟩
end
def tF (sp : Sp) (E : XK) (t : TA) : TE := fun σ H Q => t σ H fun vs H1 => sp vs H1 Q E
section
variable {X : Cx} {k j : Nat} {x : Str} {sp : Sp} {E : XK} {e : Expr} {es : List Expr} {t : TA} {p pos : Pos}
theorem pe_f (c : Cal X.prog X.w X.K X.mg X.base k x sp) (hr : Room j X.A) (hk : k ≤ j) (hx : Passes (L2.CX X.prog X.w) X E) (ha : PA X (e :: es) t) (hg : Gl X x := by rfl)
    (hdb : (x == ("__debug__" : Str)) = false := by decide) (he : starEach (e :: es) X.env = (false, eval e X.env) :: starEach es X.env := by rfl) (hpl : (backTo pos (starEach es X.env)).any (·.1) = false := by rfl) :
    PE X (.Call (.Name x p) (e :: es) [] pos) (tF sp E t) := by
  obtain ⟨f, fd, ps, F, hm, kp, b⟩ := c.ex
  refine ⟨fun pins s σ H Q I h => ?_⟩
  refine (pe_call F (hr.mono hk) hg hm kp b .nil hx ha hdb he hpl).run pins s σ H Q I ?_
  show t σ H fun vs H1 => sp (vs ++ []) H1 Q E
  have e0 : (fun (vs : List V) (H1 : Hp) => sp (vs ++ []) H1 Q E) = fun vs H1 => sp vs H1 Q E := by funext vs H1; rw [List.append_nil]
  rw [e0]
  exact h
theorem pe_fS {W : WX} (c : Cal X.prog X.w X.K X.mg X.base k x sp) (hr : Room j X.A) (hk : k ≤ j) (hx : ∀ σ, PassesAt (L2.CX X.prog X.w) X σ (WE W σ)) (ha : PA X (e :: es) t) (hg : Gl X x := by rfl)
    (hdb : (x == ("__debug__" : Str)) = false := by decide) (he : starEach (e :: es) X.env = (false, eval e X.env) :: starEach es X.env := by rfl) (hpl : (backTo pos (starEach es X.env)).any (·.1) = false := by rfl) :
    PE X (.Call (.Name x p) (e :: es) [] pos) (tCallS sp (WE W) t) := by
  obtain ⟨f, fd, ps, F, hm, kp, b⟩ := c.ex
  exact pe_callS F (hr.mono hk) hg hm kp b hx ha hdb he hpl
end
/-- a class of errors without __init__ -/
structure ExcC (K : PySem.W.Frag) (mg : Str → Option Value) (x : Str) (C : Addr) : Prop where
  g : mg x = some (.ref C)
  x : PySem.W.excIn K C [.type "ValueError", .type "Exception", .type "BaseException", .type "object"] "ValueError.__new__" = true
  k : PySem.W.keepIn K (.ref C) = true
  b : PySem.W.subIn K (.ref C) (.type "BaseException") = some true
  t : PySem.W.typeIn K (.ref C) = some (.type "type")
def tRaiseX (C : Addr) (E : XK) : TS := fun _ _ H => E (.ref C) none H
/-- the built-in names that the texts use stand as they are -/
structure Blt (mg : Str → Option Value) : Prop where
  b_isinstance : mg "isinstance" = none
  b_int : mg "int" = none
  b_bool : mg "bool" = none
  b_str : mg "str" = none
  b_list : mg "list" = none
  b_tuple : mg "tuple" = none
  b_len : mg "len" = none
  b_all : mg "all" = none
  b_sum : mg "sum" = none
  b_abs : mg "abs" = none
  b_min : mg "min" = none
  b_max : mg "max" = none
  b_reversed : mg "reversed" = none
  b_zip : mg "zip" = none
  b_enumerate : mg "enumerate" = none
  b_range : mg "range" = none
  b_ValueError : mg "ValueError" = none
/-- where the classes and defs that are values stand -/
structure Ad where
  LeanError : Addr := (0 : Nat)
  NoNumber : Addr := (0 : Nat)
  NoRow : Addr := (0 : Nat)
  NoText : Addr := (0 : Nat)
  NoDeeds : Addr := (0 : Nat)
  NoCost : Addr := (0 : Nat)
  Prices : Addr := (0 : Nat)
  f_worth : Addr := (0 : Nat)
  f_weight : Addr := (0 : Nat)
  f_is_lean : Addr := (0 : Nat)
  f_shown : Addr := (0 : Nat)
  f_added : Addr := (0 : Nat)
  f_multiplied : Addr := (0 : Nat)
  f_compared : Addr := (0 : Nat)
  f_negated : Addr := (0 : Nat)
  f_together : Addr := (0 : Nat)
  f_lean : Addr := (0 : Nat)
  f_read : Addr := (0 : Nat)
/-! ### readings as rewrite rules, from the head -/
def st (n : Nat) (vs : List V) : St := vs.map some ++ List.replicate (n - vs.length) none
section
variable {σ : St} {H : Hp} {Q : VK} {D : Ends} {ta tb tc te : TE} {t u : TT} {K : PySem.W.Frag}
theorem r_c {v : V} : tC v σ H Q = Q v H := rfl
theorem r_op {r : R2} : tOp r ta tb σ H Q = ta σ H fun x H1 => tb σ H1 fun y H2 => r x y H2 Q := rfl
theorem r_un {r : V → Hp → VK → Prop} : tUn r ta σ H Q = ta σ H fun x H1 => r x H1 Q := rfl
theorem r_I0 {g : Int → Int → V} {i j : Int} : rI0 g (.int i) (.int j) H Q = Q (g i j) H := by
  apply propext
  exact ⟨fun ⟨_, _, e1, e2, q⟩ => by cases e1; cases e2; exact q, fun q => ⟨i, j, rfl, rfl, q⟩⟩
theorem r_I {C : Int → Int → Prop} {g : Int → Int → V} {i j : Int} : rI C g (.int i) (.int j) H Q = (C i j ∧ Q (g i j) H) := by
  apply propext
  exact ⟨fun ⟨_, _, e1, e2, c, q⟩ => by cases e1; cases e2; exact ⟨c, q⟩, fun ⟨c, q⟩ => ⟨i, j, rfl, rfl, c, q⟩⟩
theorem r_U {g : Int → V} {i : Int} : rU g (.int i) H Q = Q (g i) H := by
  apply propext
  exact ⟨fun ⟨_, e1, q⟩ => by cases e1; exact q, fun q => ⟨i, rfl, q⟩⟩
theorem r_eq {x y : V} : rEq x y H Q = (scal x y = true ∧ Q (.bl (decide (x = y))) H) := rfl
theorem r_ne {x y : V} : rNe x y H Q = (scal x y = true ∧ Q (.bl (!decide (x = y))) H) := rfl
theorem r_eqI {i j : Int} : rEq (.int i) (.int j) H Q = Q (.bl (decide (i = j))) H := by
  apply propext
  have e : decide (V.int i = V.int j) = decide (i = j) := by by_cases h : i = j <;> simp [h]
  exact ⟨fun ⟨_, q⟩ => by rw [e] at q; exact q, fun q => ⟨rfl, by rw [e]; exact q⟩⟩
theorem r_neI {i j : Int} : rNe (.int i) (.int j) H Q = Q (.bl (!decide (i = j))) H := by
  apply propext
  have e : decide (V.int i = V.int j) = decide (i = j) := by by_cases h : i = j <;> simp [h]
  exact ⟨fun ⟨_, q⟩ => by rw [e] at q; exact q, fun q => ⟨rfl, by rw [e]; exact q⟩⟩
theorem r_eqS {i j : Str} : rEq (.str i) (.str j) H Q = Q (.bl (decide (i = j))) H := by
  apply propext
  have e : decide (V.str i = V.str j) = decide (i = j) := by by_cases h : i = j <;> simp [h]
  exact ⟨fun ⟨_, q⟩ => by rw [e] at q; exact q, fun q => ⟨rfl, by rw [e]; exact q⟩⟩
theorem r_neS {i j : Str} : rNe (.str i) (.str j) H Q = Q (.bl (!decide (i = j))) H := by
  apply propext
  have e : decide (V.str i = V.str j) = decide (i = j) := by by_cases h : i = j <;> simp [h]
  exact ⟨fun ⟨_, q⟩ => by rw [e] at q; exact q, fun q => ⟨rfl, by rw [e]; exact q⟩⟩
theorem r_eqB {i j : Bool} : rEq (.bl i) (.bl j) H Q = Q (.bl (decide (i = j))) H := by
  apply propext
  have e : decide (V.bl i = V.bl j) = decide (i = j) := by by_cases h : i = j <;> simp [h]
  exact ⟨fun ⟨_, q⟩ => by rw [e] at q; exact q, fun q => ⟨rfl, by rw [e]; exact q⟩⟩
theorem r_neB {i j : Bool} : rNe (.bl i) (.bl j) H Q = Q (.bl (!decide (i = j))) H := by
  apply propext
  have e : decide (V.bl i = V.bl j) = decide (i = j) := by by_cases h : i = j <;> simp [h]
  exact ⟨fun ⟨_, q⟩ => by rw [e] at q; exact q, fun q => ⟨rfl, by rw [e]; exact q⟩⟩
theorem r_isB {a b : Bool} : rIsB (.bl a) (.bl b) H Q = Q (.bl (decide (a = b))) H := by
  apply propext
  exact ⟨fun ⟨_, _, e1, e2, q⟩ => by cases e1; cases e2; exact q, fun q => ⟨a, b, rfl, rfl, q⟩⟩
theorem r_notB {a b : Bool} : rNotB (.bl a) (.bl b) H Q = Q (.bl (!decide (a = b))) H := by
  apply propext
  exact ⟨fun ⟨_, _, e1, e2, q⟩ => by cases e1; cases e2; exact q, fun q => ⟨a, b, rfl, rfl, q⟩⟩
theorem r_isN {x : V} : qIsN x .non H Q = Q (.bl (decide (x = .non))) H := by simp [qIsN]
theorem r_notN {x : V} : qNotN x .non H Q = Q (.bl (!decide (x = .non))) H := by simp [qNotN]
theorem r_addS {i j : Str} : qAddS (.str i) (.str j) H Q = (i.length + j.length ≤ sizeLine ∧ Q (.str (i ++ j)) H) := by simp [qAddS]
theorem r_abs {i : Int} : qAbs [.int i] H Q = Q (.int (if i < 0 then -i else i)) H := by simp [qAbs]
theorem r_max2 {i j : Int} : qMax2 [.int i, .int j] H Q = Q (.int (if j > i then j else i)) H := by
  apply propext
  exact ⟨fun ⟨_, _, e, q⟩ => by cases e; exact q, fun q => ⟨i, j, rfl, q⟩⟩
theorem r_min2 {i j : Int} : qMin2 [.int i, .int j] H Q = Q (.int (if j < i then j else i)) H := by
  apply propext
  exact ⟨fun ⟨_, _, e, q⟩ => by cases e; exact q, fun q => ⟨i, j, rfl, q⟩⟩
theorem r_int1i {i : Int} : qInt1 [.int i] H Q = Q (.int i) H := by simp [qInt1]
theorem r_int1b {k : Bool} : qInt1 [.bl k] H Q = Q (.int (if k then 1 else 0)) H := by simp [qInt1]
theorem r_test {T : Bool → Hp → Prop} : tTest te σ H T = te σ H fun x H' => ∃ k, x = .bl k ∧ T k H' := rfl
theorem r_B {T : Bool → Hp → Prop} : tB te σ H T = te σ H fun x H' => ∃ k, x = .bl k ∧ T k H' := rfl
theorem r_exbl {b : Bool} {T : Bool → Prop} : (∃ k, V.bl b = V.bl k ∧ T k) = T b := by simp
theorem r_exint {i : Int} {T : Int → Prop} : (∃ k, V.int i = V.int k ∧ T k) = T i := by simp
theorem r_not {T : Bool → Hp → Prop} : tNot t σ H T = t σ H fun c H1 => T (!c) H1 := rfl
theorem r_and {T : Bool → Hp → Prop} : tAnd t u σ H T = t σ H fun c H1 => if c = true then u σ H1 T else T false H1 := rfl
theorem r_or {T : Bool → Hp → Prop} : tOr t u σ H T = t σ H fun c H1 => if c = true then T true H1 else u σ H1 T := rfl
theorem r_andV : tAndV ta tb σ H Q = ta σ H fun x H1 => ∃ c, x = .bl c ∧ if c = true then tb σ H1 Q else Q (.bl false) H1 := rfl
theorem r_orV : tOrV ta tb σ H Q = ta σ H fun x H1 => ∃ c, x = .bl c ∧ if c = true then Q (.bl true) H1 else tb σ H1 Q := rfl
theorem r_notV : tNotV ta σ H Q = ta σ H fun x H1 => ∃ c, x = .bl c ∧ Q (.bl (!c)) H1 := rfl
theorem r_if {t : TT} : tIf t ta tb σ H Q = t σ H fun c H1 => if c = true then ta σ H1 Q else tb σ H1 Q := rfl
theorem r_chain {r r' : R2} : tChain r r' ta tb tc σ H Q = ta σ H fun x H1 => tb σ H1 fun y H2 => r x y H2 fun z H3 => ∃ k, z = .bl k ∧ (if k = true then tc σ H3 fun w' H4 => r' y w' H4 Q else Q (.bl false) H3) := rfl
theorem r_nil {T : List V → Hp → Prop} : tNil σ H T = T [] H := rfl
theorem r_cons {tr : TA} {T : List V → Hp → Prop} : tCons ta tr σ H T = ta σ H fun x H1 => tr σ H1 fun xs H2 => T (x :: xs) H2 := rfl
theorem r_CB {r : List V → Hp → VK → Prop} {tr : TA} : tCB r tr σ H Q = tr σ H fun vs H1 => r vs H1 Q := rfl
theorem r_F {sp : Sp} {E : XK} {tr : TA} : tF sp E tr σ H Q = tr σ H fun vs H1 => sp vs H1 Q E := rfl
theorem r_CS {sp : Sp} {E : St → XK} {tr : TA} : tCallS sp E tr σ H Q = tr σ H fun vs H1 => sp vs H1 Q (E σ) := rfl
theorem r_tup {tr : TA} : tTup tr σ H Q = tr σ H fun xs H1 => xs.length ≤ sizeLine ∧ ∀ p, H1 p = none → Q (.ref p) (upd H1 p (.tup xs)) := rfl
theorem r_lst {tr : TA} : tLst tr σ H Q = tr σ H fun xs H1 => xs.length ≤ sizeLine ∧ ∀ p, H1 p = none → Q (.ref p) (upd H1 p (.lst xs)) := rfl
theorem r_sl {r : V → Option Int → Option Int → Hp → VK → Prop} {tl th : TO} : tSl r te tl th σ H Q = te σ H fun x H1 => tl σ H1 fun l H2 => th σ H2 fun u H3 => r x l u H3 Q := rfl
theorem r_part {T : Option Int → Hp → Prop} : tPart te σ H T = te σ H fun x H1 => ∃ i, x = .int i ∧ T (some i) H1 := rfl
theorem r_nopart {T : Option Int → Hp → Prop} : tNoPart σ H T = T none H := rfl
theorem r_BM0 {T : String} {r : V → List V → Hp → VK → Prop} : tBM0 K T r te σ H Q = te σ H fun x H1 => tyV K T x H1 ∧ r x [] H1 Q := rfl
theorem r_BM {T : String} {r : V → List V → Hp → VK → Prop} {tr : TA} : tBM K T r te tr σ H Q = te σ H fun x H1 => tyV K T x H1 ∧ tr σ H1 fun xs H2 => r x xs H2 Q := rfl
theorem r_next : tNext D σ H = D.nx σ H := rfl
theorem r_seq {t u : TS} : tSeq t u D σ H = t { D with nx := u D } σ H := rfl
theorem r_drop : tDrop te D σ H = te σ H fun _ H1 => D.nx σ H1 := rfl
theorem r_ret : tRet te D σ H = te σ H D.rt := rfl
theorem r_retN : tRetN D σ H = D.rt .non H := rfl
theorem r_ifS {c : TT} {t u : TS} : tIfS c t u D σ H = c σ H fun b H1 => if b = true then t D σ H1 else u D σ H1 := rfl
theorem r_asg {g : TG} : tAsg te g D σ H = te σ H fun x H1 => g x σ H1 D.nx := rfl
theorem r_raise {C : Addr} {E : XK} : tRaiseX C E D σ H = E (.ref C) none H := rfl
theorem r_yes {T : Bool → Hp → Prop} : tYes σ H T = T true H := rfl
theorem r_par {i j : Nat} : tPar i j (tCons ta (tCons tb tNil)) D σ H = ta σ H fun v H1 => tb σ H1 fun w H2 => D.nx ((σ.set i (some v)).set j (some w)) H2 := by
  show (ta σ H fun x H1 => tb σ H1 fun y H2 => ∃ v w, [x, y] = [v, w] ∧ D.nx ((σ.set i (some v)).set j (some w)) H2) = _
  congr 1
  funext x H1
  congr 1
  funext y H2
  apply propext
  exact ⟨fun ⟨_, _, e, q⟩ => by cases e; exact q, fun q => ⟨x, y, rfl, q⟩⟩
theorem r_ite_t {A B : Prop} : (if true = true then A else B) = A := by simp
theorem r_ite_f {A B : Prop} : (if false = true then A else B) = B := by simp
theorem r_ite_d {p : Prop} [Decidable p] {A B : Prop} : (if decide p = true then A else B) = if p then A else B := by simp
theorem r_ite_nd {p : Prop} [Decidable p] {A B : Prop} : (if (!decide p) = true then A else B) = if p then B else A := by by_cases h : p <;> simp [h]
theorem r_v0 {v : V} {σ : St} : tVar 0 (some v :: σ) H Q = Q v H := by
  apply propext
  exact ⟨fun ⟨_, e, q⟩ => by cases e; exact q, fun q => ⟨v, rfl, q⟩⟩
theorem r_n0 {a0 : Option V} {v : V} {σ : St} {T : St → Hp → Prop} : gName 0 v (a0 :: σ) H T = T (some v :: σ) H := rfl
theorem r_a0 {v : V} {σ : St} {ti : TIp} : tAug 0 te ti D (some v :: σ) H = te (some v :: σ) H fun y H1 => ti v y H1 fun z H2 => D.nx (some z :: σ) H2 := by
  apply propext
  exact ⟨fun ⟨_, e, q⟩ => by cases e; exact q, fun q => ⟨v, rfl, q⟩⟩
theorem r_v1 {a0 : Option V} {v : V} {σ : St} : tVar 1 (a0 :: some v :: σ) H Q = Q v H := by
  apply propext
  exact ⟨fun ⟨_, e, q⟩ => by cases e; exact q, fun q => ⟨v, rfl, q⟩⟩
theorem r_n1 {a0 a1 : Option V} {v : V} {σ : St} {T : St → Hp → Prop} : gName 1 v (a0 :: a1 :: σ) H T = T (a0 :: some v :: σ) H := rfl
theorem r_a1 {a0 : Option V} {v : V} {σ : St} {ti : TIp} : tAug 1 te ti D (a0 :: some v :: σ) H = te (a0 :: some v :: σ) H fun y H1 => ti v y H1 fun z H2 => D.nx (a0 :: some z :: σ) H2 := by
  apply propext
  exact ⟨fun ⟨_, e, q⟩ => by cases e; exact q, fun q => ⟨v, rfl, q⟩⟩
theorem r_v2 {a0 a1 : Option V} {v : V} {σ : St} : tVar 2 (a0 :: a1 :: some v :: σ) H Q = Q v H := by
  apply propext
  exact ⟨fun ⟨_, e, q⟩ => by cases e; exact q, fun q => ⟨v, rfl, q⟩⟩
theorem r_n2 {a0 a1 a2 : Option V} {v : V} {σ : St} {T : St → Hp → Prop} : gName 2 v (a0 :: a1 :: a2 :: σ) H T = T (a0 :: a1 :: some v :: σ) H := rfl
theorem r_a2 {a0 a1 : Option V} {v : V} {σ : St} {ti : TIp} : tAug 2 te ti D (a0 :: a1 :: some v :: σ) H = te (a0 :: a1 :: some v :: σ) H fun y H1 => ti v y H1 fun z H2 => D.nx (a0 :: a1 :: some z :: σ) H2 := by
  apply propext
  exact ⟨fun ⟨_, e, q⟩ => by cases e; exact q, fun q => ⟨v, rfl, q⟩⟩
theorem r_v3 {a0 a1 a2 : Option V} {v : V} {σ : St} : tVar 3 (a0 :: a1 :: a2 :: some v :: σ) H Q = Q v H := by
  apply propext
  exact ⟨fun ⟨_, e, q⟩ => by cases e; exact q, fun q => ⟨v, rfl, q⟩⟩
theorem r_n3 {a0 a1 a2 a3 : Option V} {v : V} {σ : St} {T : St → Hp → Prop} : gName 3 v (a0 :: a1 :: a2 :: a3 :: σ) H T = T (a0 :: a1 :: a2 :: some v :: σ) H := rfl
theorem r_a3 {a0 a1 a2 : Option V} {v : V} {σ : St} {ti : TIp} : tAug 3 te ti D (a0 :: a1 :: a2 :: some v :: σ) H = te (a0 :: a1 :: a2 :: some v :: σ) H fun y H1 => ti v y H1 fun z H2 => D.nx (a0 :: a1 :: a2 :: some z :: σ) H2 := by
  apply propext
  exact ⟨fun ⟨_, e, q⟩ => by cases e; exact q, fun q => ⟨v, rfl, q⟩⟩
theorem r_v4 {a0 a1 a2 a3 : Option V} {v : V} {σ : St} : tVar 4 (a0 :: a1 :: a2 :: a3 :: some v :: σ) H Q = Q v H := by
  apply propext
  exact ⟨fun ⟨_, e, q⟩ => by cases e; exact q, fun q => ⟨v, rfl, q⟩⟩
theorem r_n4 {a0 a1 a2 a3 a4 : Option V} {v : V} {σ : St} {T : St → Hp → Prop} : gName 4 v (a0 :: a1 :: a2 :: a3 :: a4 :: σ) H T = T (a0 :: a1 :: a2 :: a3 :: some v :: σ) H := rfl
theorem r_a4 {a0 a1 a2 a3 : Option V} {v : V} {σ : St} {ti : TIp} : tAug 4 te ti D (a0 :: a1 :: a2 :: a3 :: some v :: σ) H = te (a0 :: a1 :: a2 :: a3 :: some v :: σ) H fun y H1 => ti v y H1 fun z H2 => D.nx (a0 :: a1 :: a2 :: a3 :: some z :: σ) H2 := by
  apply propext
  exact ⟨fun ⟨_, e, q⟩ => by cases e; exact q, fun q => ⟨v, rfl, q⟩⟩
theorem r_v5 {a0 a1 a2 a3 a4 : Option V} {v : V} {σ : St} : tVar 5 (a0 :: a1 :: a2 :: a3 :: a4 :: some v :: σ) H Q = Q v H := by
  apply propext
  exact ⟨fun ⟨_, e, q⟩ => by cases e; exact q, fun q => ⟨v, rfl, q⟩⟩
theorem r_n5 {a0 a1 a2 a3 a4 a5 : Option V} {v : V} {σ : St} {T : St → Hp → Prop} : gName 5 v (a0 :: a1 :: a2 :: a3 :: a4 :: a5 :: σ) H T = T (a0 :: a1 :: a2 :: a3 :: a4 :: some v :: σ) H := rfl
theorem r_a5 {a0 a1 a2 a3 a4 : Option V} {v : V} {σ : St} {ti : TIp} : tAug 5 te ti D (a0 :: a1 :: a2 :: a3 :: a4 :: some v :: σ) H = te (a0 :: a1 :: a2 :: a3 :: a4 :: some v :: σ) H fun y H1 => ti v y H1 fun z H2 => D.nx (a0 :: a1 :: a2 :: a3 :: a4 :: some z :: σ) H2 := by
  apply propext
  exact ⟨fun ⟨_, e, q⟩ => by cases e; exact q, fun q => ⟨v, rfl, q⟩⟩
theorem r_v6 {a0 a1 a2 a3 a4 a5 : Option V} {v : V} {σ : St} : tVar 6 (a0 :: a1 :: a2 :: a3 :: a4 :: a5 :: some v :: σ) H Q = Q v H := by
  apply propext
  exact ⟨fun ⟨_, e, q⟩ => by cases e; exact q, fun q => ⟨v, rfl, q⟩⟩
theorem r_n6 {a0 a1 a2 a3 a4 a5 a6 : Option V} {v : V} {σ : St} {T : St → Hp → Prop} : gName 6 v (a0 :: a1 :: a2 :: a3 :: a4 :: a5 :: a6 :: σ) H T = T (a0 :: a1 :: a2 :: a3 :: a4 :: a5 :: some v :: σ) H := rfl
theorem r_a6 {a0 a1 a2 a3 a4 a5 : Option V} {v : V} {σ : St} {ti : TIp} : tAug 6 te ti D (a0 :: a1 :: a2 :: a3 :: a4 :: a5 :: some v :: σ) H = te (a0 :: a1 :: a2 :: a3 :: a4 :: a5 :: some v :: σ) H fun y H1 => ti v y H1 fun z H2 => D.nx (a0 :: a1 :: a2 :: a3 :: a4 :: a5 :: some z :: σ) H2 := by
  apply propext
  exact ⟨fun ⟨_, e, q⟩ => by cases e; exact q, fun q => ⟨v, rfl, q⟩⟩
theorem r_v7 {a0 a1 a2 a3 a4 a5 a6 : Option V} {v : V} {σ : St} : tVar 7 (a0 :: a1 :: a2 :: a3 :: a4 :: a5 :: a6 :: some v :: σ) H Q = Q v H := by
  apply propext
  exact ⟨fun ⟨_, e, q⟩ => by cases e; exact q, fun q => ⟨v, rfl, q⟩⟩
theorem r_n7 {a0 a1 a2 a3 a4 a5 a6 a7 : Option V} {v : V} {σ : St} {T : St → Hp → Prop} : gName 7 v (a0 :: a1 :: a2 :: a3 :: a4 :: a5 :: a6 :: a7 :: σ) H T = T (a0 :: a1 :: a2 :: a3 :: a4 :: a5 :: a6 :: some v :: σ) H := rfl
theorem r_a7 {a0 a1 a2 a3 a4 a5 a6 : Option V} {v : V} {σ : St} {ti : TIp} : tAug 7 te ti D (a0 :: a1 :: a2 :: a3 :: a4 :: a5 :: a6 :: some v :: σ) H = te (a0 :: a1 :: a2 :: a3 :: a4 :: a5 :: a6 :: some v :: σ) H fun y H1 => ti v y H1 fun z H2 => D.nx (a0 :: a1 :: a2 :: a3 :: a4 :: a5 :: a6 :: some z :: σ) H2 := by
  apply propext
  exact ⟨fun ⟨_, e, q⟩ => by cases e; exact q, fun q => ⟨v, rfl, q⟩⟩
theorem r_v8 {a0 a1 a2 a3 a4 a5 a6 a7 : Option V} {v : V} {σ : St} : tVar 8 (a0 :: a1 :: a2 :: a3 :: a4 :: a5 :: a6 :: a7 :: some v :: σ) H Q = Q v H := by
  apply propext
  exact ⟨fun ⟨_, e, q⟩ => by cases e; exact q, fun q => ⟨v, rfl, q⟩⟩
theorem r_n8 {a0 a1 a2 a3 a4 a5 a6 a7 a8 : Option V} {v : V} {σ : St} {T : St → Hp → Prop} : gName 8 v (a0 :: a1 :: a2 :: a3 :: a4 :: a5 :: a6 :: a7 :: a8 :: σ) H T = T (a0 :: a1 :: a2 :: a3 :: a4 :: a5 :: a6 :: a7 :: some v :: σ) H := rfl
theorem r_a8 {a0 a1 a2 a3 a4 a5 a6 a7 : Option V} {v : V} {σ : St} {ti : TIp} : tAug 8 te ti D (a0 :: a1 :: a2 :: a3 :: a4 :: a5 :: a6 :: a7 :: some v :: σ) H = te (a0 :: a1 :: a2 :: a3 :: a4 :: a5 :: a6 :: a7 :: some v :: σ) H fun y H1 => ti v y H1 fun z H2 => D.nx (a0 :: a1 :: a2 :: a3 :: a4 :: a5 :: a6 :: a7 :: some z :: σ) H2 := by
  apply propext
  exact ⟨fun ⟨_, e, q⟩ => by cases e; exact q, fun q => ⟨v, rfl, q⟩⟩
theorem r_v9 {a0 a1 a2 a3 a4 a5 a6 a7 a8 : Option V} {v : V} {σ : St} : tVar 9 (a0 :: a1 :: a2 :: a3 :: a4 :: a5 :: a6 :: a7 :: a8 :: some v :: σ) H Q = Q v H := by
  apply propext
  exact ⟨fun ⟨_, e, q⟩ => by cases e; exact q, fun q => ⟨v, rfl, q⟩⟩
theorem r_n9 {a0 a1 a2 a3 a4 a5 a6 a7 a8 a9 : Option V} {v : V} {σ : St} {T : St → Hp → Prop} : gName 9 v (a0 :: a1 :: a2 :: a3 :: a4 :: a5 :: a6 :: a7 :: a8 :: a9 :: σ) H T = T (a0 :: a1 :: a2 :: a3 :: a4 :: a5 :: a6 :: a7 :: a8 :: some v :: σ) H := rfl
theorem r_a9 {a0 a1 a2 a3 a4 a5 a6 a7 a8 : Option V} {v : V} {σ : St} {ti : TIp} : tAug 9 te ti D (a0 :: a1 :: a2 :: a3 :: a4 :: a5 :: a6 :: a7 :: a8 :: some v :: σ) H = te (a0 :: a1 :: a2 :: a3 :: a4 :: a5 :: a6 :: a7 :: a8 :: some v :: σ) H fun y H1 => ti v y H1 fun z H2 => D.nx (a0 :: a1 :: a2 :: a3 :: a4 :: a5 :: a6 :: a7 :: a8 :: some z :: σ) H2 := by
  apply propext
  exact ⟨fun ⟨_, e, q⟩ => by cases e; exact q, fun q => ⟨v, rfl, q⟩⟩
theorem r_v10 {a0 a1 a2 a3 a4 a5 a6 a7 a8 a9 : Option V} {v : V} {σ : St} : tVar 10 (a0 :: a1 :: a2 :: a3 :: a4 :: a5 :: a6 :: a7 :: a8 :: a9 :: some v :: σ) H Q = Q v H := by
  apply propext
  exact ⟨fun ⟨_, e, q⟩ => by cases e; exact q, fun q => ⟨v, rfl, q⟩⟩
theorem r_n10 {a0 a1 a2 a3 a4 a5 a6 a7 a8 a9 a10 : Option V} {v : V} {σ : St} {T : St → Hp → Prop} : gName 10 v (a0 :: a1 :: a2 :: a3 :: a4 :: a5 :: a6 :: a7 :: a8 :: a9 :: a10 :: σ) H T = T (a0 :: a1 :: a2 :: a3 :: a4 :: a5 :: a6 :: a7 :: a8 :: a9 :: some v :: σ) H := rfl
theorem r_a10 {a0 a1 a2 a3 a4 a5 a6 a7 a8 a9 : Option V} {v : V} {σ : St} {ti : TIp} : tAug 10 te ti D (a0 :: a1 :: a2 :: a3 :: a4 :: a5 :: a6 :: a7 :: a8 :: a9 :: some v :: σ) H = te (a0 :: a1 :: a2 :: a3 :: a4 :: a5 :: a6 :: a7 :: a8 :: a9 :: some v :: σ) H fun y H1 => ti v y H1 fun z H2 => D.nx (a0 :: a1 :: a2 :: a3 :: a4 :: a5 :: a6 :: a7 :: a8 :: a9 :: some z :: σ) H2 := by
  apply propext
  exact ⟨fun ⟨_, e, q⟩ => by cases e; exact q, fun q => ⟨v, rfl, q⟩⟩
theorem r_v11 {a0 a1 a2 a3 a4 a5 a6 a7 a8 a9 a10 : Option V} {v : V} {σ : St} : tVar 11 (a0 :: a1 :: a2 :: a3 :: a4 :: a5 :: a6 :: a7 :: a8 :: a9 :: a10 :: some v :: σ) H Q = Q v H := by
  apply propext
  exact ⟨fun ⟨_, e, q⟩ => by cases e; exact q, fun q => ⟨v, rfl, q⟩⟩
theorem r_n11 {a0 a1 a2 a3 a4 a5 a6 a7 a8 a9 a10 a11 : Option V} {v : V} {σ : St} {T : St → Hp → Prop} : gName 11 v (a0 :: a1 :: a2 :: a3 :: a4 :: a5 :: a6 :: a7 :: a8 :: a9 :: a10 :: a11 :: σ) H T = T (a0 :: a1 :: a2 :: a3 :: a4 :: a5 :: a6 :: a7 :: a8 :: a9 :: a10 :: some v :: σ) H := rfl
theorem r_a11 {a0 a1 a2 a3 a4 a5 a6 a7 a8 a9 a10 : Option V} {v : V} {σ : St} {ti : TIp} : tAug 11 te ti D (a0 :: a1 :: a2 :: a3 :: a4 :: a5 :: a6 :: a7 :: a8 :: a9 :: a10 :: some v :: σ) H = te (a0 :: a1 :: a2 :: a3 :: a4 :: a5 :: a6 :: a7 :: a8 :: a9 :: a10 :: some v :: σ) H fun y H1 => ti v y H1 fun z H2 => D.nx (a0 :: a1 :: a2 :: a3 :: a4 :: a5 :: a6 :: a7 :: a8 :: a9 :: a10 :: some z :: σ) H2 := by
  apply propext
  exact ⟨fun ⟨_, e, q⟩ => by cases e; exact q, fun q => ⟨v, rfl, q⟩⟩
theorem r_v12 {a0 a1 a2 a3 a4 a5 a6 a7 a8 a9 a10 a11 : Option V} {v : V} {σ : St} : tVar 12 (a0 :: a1 :: a2 :: a3 :: a4 :: a5 :: a6 :: a7 :: a8 :: a9 :: a10 :: a11 :: some v :: σ) H Q = Q v H := by
  apply propext
  exact ⟨fun ⟨_, e, q⟩ => by cases e; exact q, fun q => ⟨v, rfl, q⟩⟩
theorem r_n12 {a0 a1 a2 a3 a4 a5 a6 a7 a8 a9 a10 a11 a12 : Option V} {v : V} {σ : St} {T : St → Hp → Prop} : gName 12 v (a0 :: a1 :: a2 :: a3 :: a4 :: a5 :: a6 :: a7 :: a8 :: a9 :: a10 :: a11 :: a12 :: σ) H T = T (a0 :: a1 :: a2 :: a3 :: a4 :: a5 :: a6 :: a7 :: a8 :: a9 :: a10 :: a11 :: some v :: σ) H := rfl
theorem r_a12 {a0 a1 a2 a3 a4 a5 a6 a7 a8 a9 a10 a11 : Option V} {v : V} {σ : St} {ti : TIp} : tAug 12 te ti D (a0 :: a1 :: a2 :: a3 :: a4 :: a5 :: a6 :: a7 :: a8 :: a9 :: a10 :: a11 :: some v :: σ) H = te (a0 :: a1 :: a2 :: a3 :: a4 :: a5 :: a6 :: a7 :: a8 :: a9 :: a10 :: a11 :: some v :: σ) H fun y H1 => ti v y H1 fun z H2 => D.nx (a0 :: a1 :: a2 :: a3 :: a4 :: a5 :: a6 :: a7 :: a8 :: a9 :: a10 :: a11 :: some z :: σ) H2 := by
  apply propext
  exact ⟨fun ⟨_, e, q⟩ => by cases e; exact q, fun q => ⟨v, rfl, q⟩⟩
theorem r_v13 {a0 a1 a2 a3 a4 a5 a6 a7 a8 a9 a10 a11 a12 : Option V} {v : V} {σ : St} : tVar 13 (a0 :: a1 :: a2 :: a3 :: a4 :: a5 :: a6 :: a7 :: a8 :: a9 :: a10 :: a11 :: a12 :: some v :: σ) H Q = Q v H := by
  apply propext
  exact ⟨fun ⟨_, e, q⟩ => by cases e; exact q, fun q => ⟨v, rfl, q⟩⟩
theorem r_n13 {a0 a1 a2 a3 a4 a5 a6 a7 a8 a9 a10 a11 a12 a13 : Option V} {v : V} {σ : St} {T : St → Hp → Prop} : gName 13 v (a0 :: a1 :: a2 :: a3 :: a4 :: a5 :: a6 :: a7 :: a8 :: a9 :: a10 :: a11 :: a12 :: a13 :: σ) H T = T (a0 :: a1 :: a2 :: a3 :: a4 :: a5 :: a6 :: a7 :: a8 :: a9 :: a10 :: a11 :: a12 :: some v :: σ) H := rfl
theorem r_a13 {a0 a1 a2 a3 a4 a5 a6 a7 a8 a9 a10 a11 a12 : Option V} {v : V} {σ : St} {ti : TIp} : tAug 13 te ti D (a0 :: a1 :: a2 :: a3 :: a4 :: a5 :: a6 :: a7 :: a8 :: a9 :: a10 :: a11 :: a12 :: some v :: σ) H = te (a0 :: a1 :: a2 :: a3 :: a4 :: a5 :: a6 :: a7 :: a8 :: a9 :: a10 :: a11 :: a12 :: some v :: σ) H fun y H1 => ti v y H1 fun z H2 => D.nx (a0 :: a1 :: a2 :: a3 :: a4 :: a5 :: a6 :: a7 :: a8 :: a9 :: a10 :: a11 :: a12 :: some z :: σ) H2 := by
  apply propext
  exact ⟨fun ⟨_, e, q⟩ => by cases e; exact q, fun q => ⟨v, rfl, q⟩⟩
theorem r_v14 {a0 a1 a2 a3 a4 a5 a6 a7 a8 a9 a10 a11 a12 a13 : Option V} {v : V} {σ : St} : tVar 14 (a0 :: a1 :: a2 :: a3 :: a4 :: a5 :: a6 :: a7 :: a8 :: a9 :: a10 :: a11 :: a12 :: a13 :: some v :: σ) H Q = Q v H := by
  apply propext
  exact ⟨fun ⟨_, e, q⟩ => by cases e; exact q, fun q => ⟨v, rfl, q⟩⟩
theorem r_n14 {a0 a1 a2 a3 a4 a5 a6 a7 a8 a9 a10 a11 a12 a13 a14 : Option V} {v : V} {σ : St} {T : St → Hp → Prop} : gName 14 v (a0 :: a1 :: a2 :: a3 :: a4 :: a5 :: a6 :: a7 :: a8 :: a9 :: a10 :: a11 :: a12 :: a13 :: a14 :: σ) H T = T (a0 :: a1 :: a2 :: a3 :: a4 :: a5 :: a6 :: a7 :: a8 :: a9 :: a10 :: a11 :: a12 :: a13 :: some v :: σ) H := rfl
theorem r_a14 {a0 a1 a2 a3 a4 a5 a6 a7 a8 a9 a10 a11 a12 a13 : Option V} {v : V} {σ : St} {ti : TIp} : tAug 14 te ti D (a0 :: a1 :: a2 :: a3 :: a4 :: a5 :: a6 :: a7 :: a8 :: a9 :: a10 :: a11 :: a12 :: a13 :: some v :: σ) H = te (a0 :: a1 :: a2 :: a3 :: a4 :: a5 :: a6 :: a7 :: a8 :: a9 :: a10 :: a11 :: a12 :: a13 :: some v :: σ) H fun y H1 => ti v y H1 fun z H2 => D.nx (a0 :: a1 :: a2 :: a3 :: a4 :: a5 :: a6 :: a7 :: a8 :: a9 :: a10 :: a11 :: a12 :: a13 :: some z :: σ) H2 := by
  apply propext
  exact ⟨fun ⟨_, e, q⟩ => by cases e; exact q, fun q => ⟨v, rfl, q⟩⟩
theorem r_v15 {a0 a1 a2 a3 a4 a5 a6 a7 a8 a9 a10 a11 a12 a13 a14 : Option V} {v : V} {σ : St} : tVar 15 (a0 :: a1 :: a2 :: a3 :: a4 :: a5 :: a6 :: a7 :: a8 :: a9 :: a10 :: a11 :: a12 :: a13 :: a14 :: some v :: σ) H Q = Q v H := by
  apply propext
  exact ⟨fun ⟨_, e, q⟩ => by cases e; exact q, fun q => ⟨v, rfl, q⟩⟩
theorem r_n15 {a0 a1 a2 a3 a4 a5 a6 a7 a8 a9 a10 a11 a12 a13 a14 a15 : Option V} {v : V} {σ : St} {T : St → Hp → Prop} : gName 15 v (a0 :: a1 :: a2 :: a3 :: a4 :: a5 :: a6 :: a7 :: a8 :: a9 :: a10 :: a11 :: a12 :: a13 :: a14 :: a15 :: σ) H T = T (a0 :: a1 :: a2 :: a3 :: a4 :: a5 :: a6 :: a7 :: a8 :: a9 :: a10 :: a11 :: a12 :: a13 :: a14 :: some v :: σ) H := rfl
theorem r_a15 {a0 a1 a2 a3 a4 a5 a6 a7 a8 a9 a10 a11 a12 a13 a14 : Option V} {v : V} {σ : St} {ti : TIp} : tAug 15 te ti D (a0 :: a1 :: a2 :: a3 :: a4 :: a5 :: a6 :: a7 :: a8 :: a9 :: a10 :: a11 :: a12 :: a13 :: a14 :: some v :: σ) H = te (a0 :: a1 :: a2 :: a3 :: a4 :: a5 :: a6 :: a7 :: a8 :: a9 :: a10 :: a11 :: a12 :: a13 :: a14 :: some v :: σ) H fun y H1 => ti v y H1 fun z H2 => D.nx (a0 :: a1 :: a2 :: a3 :: a4 :: a5 :: a6 :: a7 :: a8 :: a9 :: a10 :: a11 :: a12 :: a13 :: a14 :: some z :: σ) H2 := by
  apply propext
  exact ⟨fun ⟨_, e, q⟩ => by cases e; exact q, fun q => ⟨v, rfl, q⟩⟩
theorem r_augS {to ti : TE} {tget : V → V → Hp → VK → Prop} {tip : TIp} {tset : TSet} : tAugS to ti te tget tip tset D σ H = to σ H fun o H1 => ti σ H1 fun i H2 => tget o i H2 fun x H3 => te σ H3 fun y H4 => tip x y H4 fun z H5 => tset o i z H5 fun H6 => D.nx σ H6 := rfl
theorem r_ipI {f : Int → Int → Int} {i j : Int} : ipI f (.int i) (.int j) H Q = Q (.int (f i j)) H := by
  apply propext
  exact ⟨fun ⟨_, _, e1, e2, q⟩ => by cases e1; cases e2; exact q, fun q => ⟨i, j, rfl, rfl, q⟩⟩
theorem r_gtup {n : Nat} {g : TGs} {T : St → Hp → Prop} {a : Addr} : gTup K n g (.ref a) σ H T = ∃ xs, SqT K H a xs ∧ xs.length = n ∧ g xs σ H T := by
  apply propext
  exact ⟨fun ⟨_, xs, e, q⟩ => by cases e; exact ⟨xs, q⟩, fun ⟨xs, q⟩ => ⟨a, xs, rfl, q⟩⟩
theorem r_gcons {g : TG} {gs : TGs} {v : V} {vs : List V} {T : St → Hp → Prop} : gCons g gs (v :: vs) σ H T = g v σ H fun σ' H' => gs vs σ' H' T := by
  apply propext
  exact ⟨fun ⟨_, _, e, q⟩ => by cases e; exact q, fun q => ⟨v, vs, rfl, q⟩⟩
theorem r_gnil {T : St → Hp → Prop} : gNil [] σ H T = T σ H := by
  apply propext
  exact ⟨fun ⟨_, q⟩ => q, fun q => ⟨rfl, q⟩⟩
theorem sizeLine_is : sizeLine = 16777216 := sizeLine_eq
theorem r_cdiv {i j : Int} : CDiv i j = (0 < j ∧ j < 1073741824) := rfl
theorem r_cmul {i j : Int} : CMul i j = ((-18446744073709551616 < i ∧ i < 18446744073709551616) ∨ (-18446744073709551616 < j ∧ j < 18446744073709551616)) := by
  unfold CMul
  rw [show (2 : Int) ^ 64 = 18446744073709551616 from by decide]
theorem r_cpow60 : CPow 10 60 = True := eq_true ⟨by decide, by decide, by decide⟩
theorem r_cpow40 : CPow 10 40 = True := eq_true ⟨by decide, by decide, by decide⟩
theorem r_cpow30 : CPow 10 30 = True := eq_true ⟨by decide, by decide, by decide⟩
theorem r_cpow9 : CPow 10 9 = True := eq_true ⟨by decide, by decide, by decide⟩
theorem r_p60 : ((0 : Int) < 2 * 10 ^ Int.toNat 60 + 1) = True := eq_true (by decide)
theorem r_p30 : ((0 : Int) < 10 ^ Int.toNat 30 + 1) = True := eq_true (by decide)
theorem r_p9 : ((0 : Int) < 10 ^ Int.toNat 9 + 7) = True := eq_true (by decide)
theorem r_s0 : (([] : List V).length ≤ sizeLine) = True := by rw [sizeLine_eq]; simp
theorem r_s1 {a0 : V} : (([a0] : List V).length ≤ sizeLine) = True := by rw [sizeLine_eq]; simp
theorem r_s2 {a0 a1 : V} : (([a0, a1] : List V).length ≤ sizeLine) = True := by rw [sizeLine_eq]; simp
theorem r_s3 {a0 a1 a2 : V} : (([a0, a1, a2] : List V).length ≤ sizeLine) = True := by rw [sizeLine_eq]; simp
theorem r_s4 {a0 a1 a2 a3 : V} : (([a0, a1, a2, a3] : List V).length ≤ sizeLine) = True := by rw [sizeLine_eq]; simp
theorem r_s5 {a0 a1 a2 a3 a4 : V} : (([a0, a1, a2, a3, a4] : List V).length ≤ sizeLine) = True := by rw [sizeLine_eq]; simp
theorem r_s6 {a0 a1 a2 a3 a4 a5 : V} : (([a0, a1, a2, a3, a4, a5] : List V).length ≤ sizeLine) = True := by rw [sizeLine_eq]; simp
theorem r_s7 {a0 a1 a2 a3 a4 a5 a6 : V} : (([a0, a1, a2, a3, a4, a5, a6] : List V).length ≤ sizeLine) = True := by rw [sizeLine_eq]; simp
theorem r_s8 {a0 a1 a2 a3 a4 a5 a6 a7 : V} : (([a0, a1, a2, a3, a4, a5, a6, a7] : List V).length ≤ sizeLine) = True := by rw [sizeLine_eq]; simp
theorem r_s9 {a0 a1 a2 a3 a4 a5 a6 a7 a8 : V} : (([a0, a1, a2, a3, a4, a5, a6, a7, a8] : List V).length ≤ sizeLine) = True := by rw [sizeLine_eq]; simp
theorem r_s10 {a0 a1 a2 a3 a4 a5 a6 a7 a8 a9 : V} : (([a0, a1, a2, a3, a4, a5, a6, a7, a8, a9] : List V).length ≤ sizeLine) = True := by rw [sizeLine_eq]; simp
theorem r_s11 {a0 a1 a2 a3 a4 a5 a6 a7 a8 a9 a10 : V} : (([a0, a1, a2, a3, a4, a5, a6, a7, a8, a9, a10] : List V).length ≤ sizeLine) = True := by rw [sizeLine_eq]; simp
theorem r_s12 {a0 a1 a2 a3 a4 a5 a6 a7 a8 a9 a10 a11 : V} : (([a0, a1, a2, a3, a4, a5, a6, a7, a8, a9, a10, a11] : List V).length ≤ sizeLine) = True := by rw [sizeLine_eq]; simp
theorem r_s13 {a0 a1 a2 a3 a4 a5 a6 a7 a8 a9 a10 a11 a12 : V} : (([a0, a1, a2, a3, a4, a5, a6, a7, a8, a9, a10, a11, a12] : List V).length ≤ sizeLine) = True := by rw [sizeLine_eq]; simp
theorem r_s14 {a0 a1 a2 a3 a4 a5 a6 a7 a8 a9 a10 a11 a12 a13 : V} : (([a0, a1, a2, a3, a4, a5, a6, a7, a8, a9, a10, a11, a12, a13] : List V).length ≤ sizeLine) = True := by rw [sizeLine_eq]; simp
theorem r_s15 {a0 a1 a2 a3 a4 a5 a6 a7 a8 a9 a10 a11 a12 a13 a14 : V} : (([a0, a1, a2, a3, a4, a5, a6, a7, a8, a9, a10, a11, a12, a13, a14] : List V).length ≤ sizeLine) = True := by rw [sizeLine_eq]; simp
theorem r_s16 {a0 a1 a2 a3 a4 a5 a6 a7 a8 a9 a10 a11 a12 a13 a14 a15 : V} : (([a0, a1, a2, a3, a4, a5, a6, a7, a8, a9, a10, a11, a12, a13, a14, a15] : List V).length ≤ sizeLine) = True := by rw [sizeLine_eq]; simp
theorem r_s17 {a0 a1 a2 a3 a4 a5 a6 a7 a8 a9 a10 a11 a12 a13 a14 a15 a16 : V} : (([a0, a1, a2, a3, a4, a5, a6, a7, a8, a9, a10, a11, a12, a13, a14, a15, a16] : List V).length ≤ sizeLine) = True := by rw [sizeLine_eq]; simp
theorem r_s18 {a0 a1 a2 a3 a4 a5 a6 a7 a8 a9 a10 a11 a12 a13 a14 a15 a16 a17 : V} : (([a0, a1, a2, a3, a4, a5, a6, a7, a8, a9, a10, a11, a12, a13, a14, a15, a16, a17] : List V).length ≤ sizeLine) = True := by rw [sizeLine_eq]; simp
theorem r_s19 {a0 a1 a2 a3 a4 a5 a6 a7 a8 a9 a10 a11 a12 a13 a14 a15 a16 a17 a18 : V} : (([a0, a1, a2, a3, a4, a5, a6, a7, a8, a9, a10, a11, a12, a13, a14, a15, a16, a17, a18] : List V).length ≤ sizeLine) = True := by rw [sizeLine_eq]; simp
theorem r_s20 {a0 a1 a2 a3 a4 a5 a6 a7 a8 a9 a10 a11 a12 a13 a14 a15 a16 a17 a18 a19 : V} : (([a0, a1, a2, a3, a4, a5, a6, a7, a8, a9, a10, a11, a12, a13, a14, a15, a16, a17, a18, a19] : List V).length ≤ sizeLine) = True := by rw [sizeLine_eq]; simp
end
/-! ### readings let one weaken what is wanted -/
def ME (t : TE) : Prop := ∀ σ H (Q Q' : VK), (∀ v H', Q v H' → Q' v H') → t σ H Q → t σ H Q'
def MT (t : TT) : Prop := ∀ σ H (Q Q' : Bool → Hp → Prop), (∀ v H', Q v H' → Q' v H') → t σ H Q → t σ H Q'
def MA (t : TA) : Prop := ∀ σ H (Q Q' : List V → Hp → Prop), (∀ v H', Q v H' → Q' v H') → t σ H Q → t σ H Q'
def MR (r : R2) : Prop := ∀ x y H (Q Q' : VK), (∀ v H', Q v H' → Q' v H') → r x y H Q → r x y H Q'
def MU (r : V → Hp → VK → Prop) : Prop := ∀ x H (Q Q' : VK), (∀ v H', Q v H' → Q' v H') → r x H Q → r x H Q'
def MC (r : List V → Hp → VK → Prop) : Prop := ∀ x H (Q Q' : VK), (∀ v H', Q v H' → Q' v H') → r x H Q → r x H Q'
section
variable {ta tb te : TE} {t u : TT} {r : R2} {tr : TA} {K : PySem.W.Frag}
theorem m_var {i : Nat} : ME (tVar i) := fun _ _ _ _ k ⟨v, e, q⟩ => ⟨v, e, k _ _ q⟩
theorem m_c {v : V} : ME (tC v) := fun _ _ _ _ k q => k _ _ q
theorem m_op (hr : MR r) (ha : ME ta) (hb : ME tb) : ME (tOp r ta tb) := fun σ H Q Q' k h => ha σ H _ _ (fun x H1 h1 => hb σ H1 _ _ (fun y H2 h2 => hr x y H2 _ _ k h2) h1) h
theorem m_un {r : V → Hp → VK → Prop} (hr : MU r) (ha : ME ta) : ME (tUn r ta) := fun σ H Q Q' k h => ha σ H _ _ (fun x H1 h1 => hr x H1 _ _ k h1) h
theorem m_U {g : Int → V} : MU (rU g) := fun _ _ _ _ k ⟨i, e, q⟩ => ⟨i, e, k _ _ q⟩
theorem m_I0 {g : Int → Int → V} : MR (rI0 g) := fun _ _ _ _ _ k ⟨i, j, e1, e2, q⟩ => ⟨i, j, e1, e2, k _ _ q⟩
theorem m_I {C : Int → Int → Prop} {g : Int → Int → V} : MR (rI C g) := fun _ _ _ _ _ k ⟨i, j, e1, e2, c, q⟩ => ⟨i, j, e1, e2, c, k _ _ q⟩
theorem m_eq : MR rEq := fun _ _ _ _ _ k ⟨e, q⟩ => ⟨e, k _ _ q⟩
theorem m_ne : MR rNe := fun _ _ _ _ _ k ⟨e, q⟩ => ⟨e, k _ _ q⟩
theorem m_eqD : MR (rEqD K) := fun _ _ _ _ _ k ⟨d, e, h1, h2, h3, h4, q⟩ => ⟨d, e, h1, h2, h3, h4, k _ _ q⟩
theorem m_neD : MR (rNeD K) := fun _ _ _ _ _ k ⟨d, e, h1, h2, h3, h4, q⟩ => ⟨d, e, h1, h2, h3, h4, k _ _ q⟩
theorem m_ixL : MR (rIxL K) := fun _ _ _ _ _ k ⟨p, xs, i, v, h1, h2, h3, h4, q⟩ => ⟨p, xs, i, v, h1, h2, h3, h4, k _ _ q⟩
theorem m_cat : MR (qCat K) := fun _ _ _ _ _ k ⟨l, b, xs, zs, e1, e2, h1, h2, h3, q⟩ => ⟨l, b, xs, zs, e1, e2, h1, h2, h3, fun p hp => k _ _ (q p hp)⟩
theorem m_in {b : Bool} : MR (rIn K b) := fun _ _ _ _ _ k ⟨p, xs, h1, h2, h3, h4, q⟩ => ⟨p, xs, h1, h2, h3, h4, k _ _ q⟩
theorem m_test (h : ME te) : MT (tTest te) := fun σ H _ _ k q => h σ H _ _ (fun _ _ ⟨b, e, q⟩ => ⟨b, e, k _ _ q⟩) q
theorem m_B (h : ME te) : MT (tB te) := fun σ H _ _ k q => h σ H _ _ (fun _ _ ⟨b, e, q⟩ => ⟨b, e, k _ _ q⟩) q
theorem m_not (h : MT t) : MT (tNot t) := fun σ H _ _ k q => h σ H _ _ (fun _ _ q => k _ _ q) q
theorem m_and (h : MT t) (h2 : MT u) : MT (tAnd t u) := fun σ H Q Q' k q => h σ H _ _ (fun c H1 q => by
  cases c with
  | true => exact h2 σ H1 Q Q' k q
  | false => exact k _ _ q) q
theorem m_or (h : MT t) (h2 : MT u) : MT (tOr t u) := fun σ H Q Q' k q => h σ H _ _ (fun c H1 q => by
  cases c with
  | true => exact k _ _ q
  | false => exact h2 σ H1 Q Q' k q) q
theorem m_nil : MA tNil := fun _ _ _ _ k q => k _ _ q
theorem m_cons (h : ME te) (h2 : MA tr) : MA (tCons te tr) := fun σ H _ _ k q => h σ H _ _ (fun _ H1 q => h2 σ H1 _ _ (fun _ _ q => k _ _ q) q) q
theorem m_CB {r : List V → Hp → VK → Prop} (hr : MC r) (h : MA tr) : ME (tCB r tr) := fun σ H _ _ k q => h σ H _ _ (fun x H1 q => hr x H1 _ _ k q) q
theorem m_len : MC (qLen K) := fun _ _ _ _ k ⟨p, ys, e, h, q⟩ => ⟨p, ys, e, h, k _ _ q⟩
theorem m_lenS : MC qLenS := fun _ _ _ _ k ⟨z, e, h, q⟩ => ⟨z, e, h, k _ _ q⟩
theorem m_sl {r : V → Option Int → Option Int → Hp → VK → Prop} {tl th : TO} (hr : ∀ x l u H (Q Q' : VK), (∀ v H', Q v H' → Q' v H') → r x l u H Q → r x l u H Q') (h : ME te) (hl : ∀ σ H (Q Q' : Option Int → Hp → Prop), (∀ v H', Q v H' → Q' v H') → tl σ H Q → tl σ H Q')
    (hh : ∀ σ H (Q Q' : Option Int → Hp → Prop), (∀ v H', Q v H' → Q' v H') → th σ H Q → th σ H Q') : ME (tSl r te tl th) := fun σ H Q Q' k q => h σ H _ _ (fun x H1 q => hl σ H1 _ _ (fun l H2 q => hh σ H2 _ _ (fun u H3 q => hr x l u H3 _ _ k q) q) q) q
theorem m_slL : ∀ x l u H (Q Q' : VK), (∀ v H', Q v H' → Q' v H') → rSlL K x l u H Q → rSlL K x l u H Q' := fun _ _ _ _ _ _ k ⟨a, xs, e, h, q⟩ => ⟨a, xs, e, h, fun p hp => k _ _ (q p hp)⟩
theorem m_part (h : ME te) : ∀ σ H (Q Q' : Option Int → Hp → Prop), (∀ v H', Q v H' → Q' v H') → tPart te σ H Q → tPart te σ H Q' := fun σ H _ _ k q => h σ H _ _ (fun _ _ ⟨i, e, q⟩ => ⟨i, e, k _ _ q⟩) q
theorem m_nopart : ∀ σ H (Q Q' : Option Int → Hp → Prop), (∀ v H', Q v H' → Q' v H') → tNoPart σ H Q → tNoPart σ H Q' := fun _ _ _ _ k q => k _ _ q
theorem m_lst (h : MA tr) : ME (tLst tr) := fun σ H _ _ k q => h σ H _ _ (fun _ _ ⟨e, q⟩ => ⟨e, fun p hp => k _ _ (q p hp)⟩) q
theorem m_tup (h : MA tr) : ME (tTup tr) := fun σ H _ _ k q => h σ H _ _ (fun _ _ ⟨e, q⟩ => ⟨e, fun p hp => k _ _ (q p hp)⟩) q
end
section
variable {σ : St} {H : Hp} {D : Ends} {K : PySem.W.Frag}
/-- a loop by its turns: n of them -/
theorem for_any {J : It} {g : TG} {tb : TS} (n : Nat) (Pv : Nat → St → Hp → Prop) (h0 : Pv 0 σ H) (hgo : ∀ i σ H, i < n → Pv i σ H → J.go i H) (hst : ∀ σ H, Pv n σ H → J.stop n H)
    (hs : ∀ i σ H, i < n → Pv i σ H → ∀ x H', J.yld i H x H' → g x σ H' fun σ2 H2 => tb { D with nx := Pv (i + 1), ct := Pv (i + 1), bk := D.nx } σ2 H2) (hd : ∀ σ H, Pv n σ H → D.nx σ H) :
    ∃ W : Nat → Nat → St → Hp → Prop, (∃ m, W 0 m σ H) ∧ ∀ i m σ H, W i m σ H →
      (J.stop i H ∧ D.nx σ H) ∨ (J.go i H ∧ ∃ N : St → Hp → Prop, (∀ σ' H', N σ' H' → ∃ m', m' < m ∧ W (i + 1) m' σ' H') ∧ ∀ x H', J.yld i H x H' → g x σ H' fun σ2 H2 => tb { D with nx := N, ct := N, bk := D.nx } σ2 H2) := by
  refine ⟨fun i m σ H => m = n - i ∧ i ≤ n ∧ Pv i σ H, ⟨n, by simp, Nat.zero_le _, h0⟩, ?_⟩
  rintro i m σ H ⟨rfl, hi, p⟩
  by_cases hlt : i < n
  · exact .inr ⟨hgo i σ H hlt p, Pv (i + 1), fun σ' H' p' => ⟨n - (i + 1), by omega, rfl, hlt, p'⟩, hs i σ H hlt p⟩
  · have e : i = n := by omega
    subst e
    exact .inl ⟨hst σ H p, hd σ H p⟩
/-- for x in xs: a list that stands still, its name in a slot -/
theorem f_list {a : Addr} {xs : List V} {g : TG} {tb : TS} (Pv : Nat → St → Hp → Prop) {j : Nat} (hj : σ[j]? = some (some (.ref a))) (h0 : Pv 0 σ H) (hx : SqL K H a xs) (hl : ∀ i σ H, Pv i σ H → SqL K H a xs)
    (hs : ∀ i x σ H, xs[i]? = some x → i < xs.length → Pv i σ H → g x σ H fun σ2 H2 => tb { D with nx := Pv (i + 1), ct := Pv (i + 1), bk := D.nx } σ2 H2) (hd : ∀ σ H, Pv xs.length σ H → D.nx σ H) : tFor (iList K (tVar j)) g tb D σ H :=
  ⟨.ref a, hj, a, rfl, ⟨_, hx⟩, for_list (xs := xs) Pv h0 (fun i σ H _ => hl i σ H) (fun i x σ H hi p => hs i x σ H hi (List.getElem?_eq_some_iff.mp hi).1 p) hd⟩
/-- for x in e: a list that e makes or finds -/
theorem f_listE {tl : TE} {xs : List V} {g : TG} {tb : TS} (Pv : Addr → Nat → St → Hp → Prop) (mono : ME tl) (hx : tl σ H fun x H1 => ∃ a, x = .ref a ∧ Pv a 0 σ H1) (hl : ∀ a i σ H, Pv a i σ H → SqL K H a xs)
    (hs : ∀ a i x σ H, xs[i]? = some x → i < xs.length → Pv a i σ H → g x σ H fun σ2 H2 => tb { D with nx := Pv a (i + 1), ct := Pv a (i + 1), bk := D.nx } σ2 H2) (hd : ∀ a σ H, Pv a xs.length σ H → D.nx σ H) : tFor (iList K tl) g tb D σ H := by
  refine mono _ _ _ _ (fun v H' q => ?_) hx
  obtain ⟨a, rfl, h⟩ := q
  exact ⟨a, rfl, ⟨_, hl a _ _ _ h⟩, for_list (xs := xs) (Pv a) h (fun i σ H _ => hl a i σ H) (fun i x σ H hi p => hs a i x σ H hi (List.getElem?_eq_some_iff.mp hi).1 p) (hd a)⟩
/-- the loop over a list that an expression has given -/
def loopL (K : PySem.W.Frag) (g : TG) (tb : TS) (D : Ends) (a : Addr) (σ : St) (H : Hp) : Prop := (∃ xs, SqL K H a xs) ∧ ∃ W : Nat → Nat → St → Hp → Prop, (∃ m, W 0 m σ H) ∧ ∀ i m σ H, W i m σ H →
  ((Itl K a).stop i H ∧ D.nx σ H) ∨ ((Itl K a).go i H ∧ ∃ N : St → Hp → Prop, (∀ σ' H', N σ' H' → ∃ m', m' < m ∧ W (i + 1) m' σ' H') ∧ ∀ x H', (Itl K a).yld i H x H' → g x σ H' fun σ2 H2 => tb { D with nx := N, ct := N, bk := D.nx } σ2 H2)
theorem r_forL {tl : TE} {g : TG} {tb : TS} : tFor (iList K tl) g tb D σ H = tl σ H fun x H1 => ∃ a, x = .ref a ∧ loopL K g tb D a σ H1 := rfl
theorem l_list {a : Addr} {xs : List V} {g : TG} {tb : TS} (Pv : Nat → St → Hp → Prop) (h0 : Pv 0 σ H) (hx : SqL K H a xs) (hl : ∀ i σ H, Pv i σ H → SqL K H a xs)
    (hs : ∀ i x σ H, xs[i]? = some x → i < xs.length → Pv i σ H → g x σ H fun σ2 H2 => tb { D with nx := Pv (i + 1), ct := Pv (i + 1), bk := D.nx } σ2 H2) (hd : ∀ σ H, Pv xs.length σ H → D.nx σ H) : loopL K g tb D a σ H :=
  ⟨⟨_, hx⟩, for_list (xs := xs) Pv h0 (fun i σ H _ => hl i σ H) (fun i x σ H hi p => hs i x σ H hi (List.getElem?_eq_some_iff.mp hi).1 p) hd⟩
/-- the loop over a tuple that an expression has given -/
def loopT (K : PySem.W.Frag) (g : TG) (tb : TS) (D : Ends) (a : Addr) (σ : St) (H : Hp) : Prop := (∃ xs, SqT K H a xs) ∧ ∃ W : Nat → Nat → St → Hp → Prop, (∃ m, W 0 m σ H) ∧ ∀ i m σ H, W i m σ H →
  ((Itt K a).stop i H ∧ D.nx σ H) ∨ ((Itt K a).go i H ∧ ∃ N : St → Hp → Prop, (∀ σ' H', N σ' H' → ∃ m', m' < m ∧ W (i + 1) m' σ' H') ∧ ∀ x H', (Itt K a).yld i H x H' → g x σ H' fun σ2 H2 => tb { D with nx := N, ct := N, bk := D.nx } σ2 H2)
theorem r_forT {tl : TE} {g : TG} {tb : TS} : tFor (iTup K tl) g tb D σ H = tl σ H fun x H1 => ∃ a, x = .ref a ∧ loopT K g tb D a σ H1 := rfl
theorem l_tup {a : Addr} {xs : List V} {g : TG} {tb : TS} (Pv : Nat → St → Hp → Prop) (h0 : Pv 0 σ H) (hx : SqT K H a xs) (hl : ∀ i σ H, Pv i σ H → SqT K H a xs)
    (hs : ∀ i x σ H, xs[i]? = some x → i < xs.length → Pv i σ H → g x σ H fun σ2 H2 => tb { D with nx := Pv (i + 1), ct := Pv (i + 1), bk := D.nx } σ2 H2) (hd : ∀ σ H, Pv xs.length σ H → D.nx σ H) : loopT K g tb D a σ H :=
  ⟨⟨_, hx⟩, for_tup (xs := xs) Pv h0 (fun i σ H _ => hl i σ H) (fun i x σ H hi p => hs i x σ H hi (List.getElem?_eq_some_iff.mp hi).1 p) hd⟩
/-- for i, x in enumerate(xs) -/
theorem f_enum {a : Addr} {xs : List V} {i1 i2 : Nat} {tb : TS} (Pv : Nat → St → Hp → Prop) {j : Nat} (hj : σ[j]? = some (some (.ref a))) (h0 : Pv 0 σ H) (hx : SqL K H a xs) (hl : ∀ i σ H, Pv i σ H → SqL K H a xs)
    (hs : ∀ i x σ H T, xs[i]? = some x → i < xs.length → Pv i σ H → H T = none → tb { D with nx := Pv (i + 1), ct := Pv (i + 1), bk := D.nx } ((σ.set i1 (some (.int (i : Nat)))).set i2 (some x)) (upd H T (.tup [.int (i : Nat), x])))
    (hd : ∀ σ H, Pv xs.length σ H → D.nx σ H) : tFor (iEnum K (tCons (tVar j) tNil)) (gTup K 2 (gCons (gName i1) (gCons (gName i2) gNil))) tb D σ H := by
  refine ⟨.ref a, hj, a, xs, rfl, hx, for_any xs.length Pv h0 (fun i σ H hi p => ⟨xs, xs[i], hl i σ H p, by simp [hi]⟩) (fun σ H p => ⟨xs, hl _ σ H p, Nat.le_refl _⟩) (fun i σ H hi p x H' y => ?_) hd⟩
  obtain ⟨T, z, rfl, nT, rfl, k⟩ := y
  have hz := k xs (hl i σ H p)
  exact ⟨T, [.int (i : Nat), z], rfl, SqT.of upd_same, rfl, _, _, rfl, _, _, rfl, rfl, hs i z σ H T hz hi p nT⟩
/-- for x in reversed(xs) -/
theorem f_rev {a : Addr} {xs : List V} {g : TG} {tb : TS} (Pv : Nat → St → Hp → Prop) {j : Nat} (hj : σ[j]? = some (some (.ref a))) (h0 : Pv 0 σ H) (hx : SqL K H a xs) (hl : ∀ i σ H, Pv i σ H → SqL K H a xs)
    (hs : ∀ i x σ H, xs[xs.length - 1 - i]? = some x → i < xs.length → Pv i σ H → g x σ H fun σ2 H2 => tb { D with nx := Pv (i + 1), ct := Pv (i + 1), bk := D.nx } σ2 H2)
    (hd : ∀ σ H, Pv xs.length σ H → D.nx σ H) : tFor (iRev K (tCons (tVar j) tNil)) g tb D σ H := by
  refine ⟨.ref a, hj, a, xs, rfl, hx, for_any xs.length Pv h0 (fun i σ H hi p => ⟨hi, xs, xs[xs.length - 1 - i]'(by omega), hl i σ H p, List.getElem?_eq_getElem (by omega)⟩) (fun σ H p => Nat.le_refl _) (fun i σ H hi p x H' y => ?_) hd⟩
  obtain ⟨rfl, k⟩ := y
  exact hs i x σ _ (k xs (hl i σ _ p)) hi p
/-- for c in s -/
theorem f_str {x : Str} {g : TG} {tb : TS} (Pv : Nat → St → Hp → Prop) {j : Nat} (hj : σ[j]? = some (some (.str x))) (h0 : Pv 0 σ H)
    (hs : ∀ i c σ H, x.cps[i]? = some c → i < x.cps.size → Pv i σ H → g (.str ⟨#[c]⟩) σ H fun σ2 H2 => tb { D with nx := Pv (i + 1), ct := Pv (i + 1), bk := D.nx } σ2 H2)
    (hd : ∀ σ H, Pv x.cps.size σ H → D.nx σ H) : tFor (iStr (tVar j)) g tb D σ H := by
  refine ⟨.str x, hj, x, rfl, for_any x.cps.size Pv h0 (fun i σ H hi p => hi) (fun σ H p => Nat.le_refl _) (fun i σ H hi p v H' y => ?_) hd⟩
  obtain ⟨rfl, c, hc, rfl⟩ := y
  exact hs i c σ _ hc hi p
/-- for i in range(n): what range is asked with is told -/
theorem f_range {n : Int} {ta : TA} {i1 : Nat} {tb : TS} (Pv : Nat → St → Hp → Prop) (mono : MA ta) (h0 : ta σ H fun vs H1 => vs = [.int n] ∧ H1 = H)
    (hn : -(2 ^ 62) ≤ n ∧ n < 2 ^ 62) (hp : Pv 0 σ H) (hs : ∀ (i : Nat) σ H, (i : Int) < n → Pv i σ H → tb { D with nx := Pv (i + 1), ct := Pv (i + 1), bk := D.nx } (σ.set i1 (some (.int (i : Int)))) H)
    (hd : ∀ σ H, Pv n.toNat σ H → D.nx σ H) : tFor (iRng1 ta) (gName i1) tb D σ H := by
  refine mono _ _ _ _ (fun v H' q => ?_) h0
  obtain ⟨rfl, rfl⟩ := q
  refine ⟨n, rfl, hn.1, hn.2, for_range (lo := 0) (n := n.toNat) Pv hp (fun i σ H hi p => ?_) hd⟩
  have e0 : (0 : Int) + (i : Int) = (i : Int) := Int.zero_add _
  show tb _ (σ.set i1 (some (.int ((0 : Int) + (i : Int))))) H
  rw [e0]
  exact hs i σ H (by omega) p
/-- while, by a word and a measure; the test's reading is run with what is wanted of it -/
theorem f_while {tc : TT} {tb : TS} (Pv : Nat → St → Hp → Prop) (m0 : Nat) (mono : MT tc) (h0 : Pv m0 σ H)
    (hs : ∀ m σ H, Pv m σ H → tc σ H fun b H1 => if b = true then tb { D with nx := fun σ' H' => ∃ m', m' < m ∧ Pv m' σ' H', ct := fun σ' H' => ∃ m', m' < m ∧ Pv m' σ' H', bk := D.nx } σ H1 else D.nx σ H1) : tWhile tc tb D σ H := by
  refine ⟨Pv, ⟨m0, h0⟩, fun m σ H p => mono σ H _ _ (fun b H1 q => ?_) (hs m σ H p)⟩
  cases b with
  | true => exact ⟨_, fun σ' H' ⟨m', l, p'⟩ => ⟨m', l, p'⟩, q⟩
  | false => exact q
/-- a comprehension by its turns -/
theorem lc_any {J : It} {g : TG} {tt : TT} {te : TE} {vs : List Nat} {H1 : Hp} {D : Addr} {Qd : Hp → Prop} (n : Nat) (Pv : Nat → Hp → Prop) (h0 : Pv 0 (upd H1 D (.lst []))) (hgo : ∀ i H, i < n → Pv i H → J.go i H) (hst : ∀ H, Pv n H → J.stop n H)
    (hs : ∀ i H, i < n → Pv i H → ∀ x H', J.yld i H x H' → g x (wipe σ vs) H' fun σ2 H2 => wipe σ2 vs = wipe σ vs ∧ tt σ2 H2 fun b H3 =>
      if b = true then te σ2 H3 fun y H4 => ∃ acc, H4 D = some (.lst acc) ∧ acc.length < sizeLine ∧ Pv (i + 1) (upd H4 D (.lst (acc ++ [y]))) else Pv (i + 1) H3) (hd : ∀ H, Pv n H → Qd H) :
    ∃ W : Nat → Nat → Hp → Prop, (∃ m, W 0 m (upd H1 D (.lst []))) ∧ ∀ i m H, W i m H →
      (J.stop i H ∧ Qd H) ∨ (J.go i H ∧ ∃ Nx : Hp → Prop, (∀ H', Nx H' → ∃ m', m' < m ∧ W (i + 1) m' H') ∧ ∀ x H', J.yld i H x H' → g x (wipe σ vs) H' fun σ2 H2 => wipe σ2 vs = wipe σ vs ∧ tt σ2 H2 fun b H3 =>
        if b = true then te σ2 H3 fun y H4 => ∃ acc, H4 D = some (.lst acc) ∧ acc.length < sizeLine ∧ Nx (upd H4 D (.lst (acc ++ [y]))) else Nx H3) := by
  refine ⟨fun i m H => m = n - i ∧ i ≤ n ∧ Pv i H, ⟨n, by simp, Nat.zero_le _, h0⟩, ?_⟩
  rintro i m H ⟨rfl, hi, p⟩
  by_cases hlt : i < n
  · exact .inr ⟨hgo i H hlt p, Pv (i + 1), fun H' p' => ⟨n - (i + 1), by omega, rfl, hlt, p'⟩, hs i H hlt p⟩
  · have e : i = n := by omega
    subst e
    exact .inl ⟨hst H p, hd H p⟩
end
/-! ### heaps -/
theorem _root_.L2.Same.new {H : Hp} {p : Addr} {o : HO} (h : H p = none) : Same H (upd H p o) := fun b x e => by
  rw [upd_ne (ne_of_none e h)]
  exact e
theorem _root_.L2.Same.add {H H' : Hp} {p : Addr} {o : HO} (s : Same H H') (h : H' p = none) : Same H (upd H' p o) := s.trans (Same.new h)
/-- an object that H does not know may change -/
theorem _root_.L2.Same.mut {H H' : Hp} {p : Addr} {o : HO} (s : Same H H') (h : H p = none) : Same H (upd H' p o) := fun b x e => by
  rw [upd_ne (ne_of_none e h)]
  exact s b x e
/-- all but one object stand -/
def But (l : Addr) (H H' : Hp) : Prop := ∀ b o, b ≠ l → H b = some o → H' b = some o
theorem But.refl (l : Addr) (H : Hp) : But l H H := fun _ _ _ h => h
theorem But.new {l p : Addr} {H H' : Hp} {o : HO} (h : But l H H') (hp : H' p = none) : But l H (upd H' p o) := fun b x hb e => Same.new hp _ _ (h b x hb e)
theorem But.set {l : Addr} {H H' : Hp} {o : HO} (h : But l H H') : But l H (upd H' l o) := fun b x hb e => by rw [upd_ne hb]; exact h b x hb e
theorem But.trans {l : Addr} {H H1 H2 : Hp} (a : But l H H1) (b : But l H1 H2) : But l H H2 := fun c o hc e => b c o hc (a c o hc e)
theorem But.of {l : Addr} {H H' : Hp} (h : Same H H') : But l H H' := fun b o _ e => h b o e
/-- what did not know the object has all it knew -/
theorem But.same {l : Addr} {H0 H H' : Hp} (h : But l H H') (s : Same H0 H) (n : H0 l = none) : Same H0 H' := fun b o e => h b o (ne_of_none e n) (s b o e)
theorem _root_.L2.Same.tup {K : PySem.W.Frag} {H H' : Hp} {a : Addr} {xs : List V} (e : Same H H') (h : SqT K H a xs) : SqT K H' a xs := by
  rcases h with (h | ⟨o, h⟩) | h
  · exact .inl (.inl (e _ _ h))
  · exact .inl (.inr ⟨o, e _ _ h⟩)
  · exact .inr h
/-- a new object -/
theorem new_of {H H' : Hp} {p : Addr} {o : HO} (e : upd H p o = H') (h : H p = none) : Same H H' ∧ H' p = some o := by
  subst e
  exact ⟨Same.new h, upd_same⟩
theorem fresh {H : Hp} {o : HO} {Q : V → Hp → Prop} (k : ∀ p H', H p = none → Same H H' → H' p = some o → Q (.ref p) H') : ∀ p, H p = none → Q (.ref p) (upd H p o) := fun p hp => k p _ hp (Same.new hp) upd_same
theorem sq {K : PySem.W.Frag} {H : Hp} {a : Addr} {xs : List V} (h : H a = some (.lst xs)) : SqL K H a xs := .inl (.inl h)
theorem sq0 {K : PySem.W.Frag} {H : Hp} {a : Addr} {xs : List V} : SqL K (upd H a (.lst xs)) a xs := .inl (.inl upd_same)
theorem sqt {K : PySem.W.Frag} {H : Hp} {a : Addr} {xs : List V} (h : H a = some (.tup xs)) : SqT K H a xs := .inl (.inl h)
theorem getE {α : Type} {l : List α} {i : Nat} (h : i < l.length) : ∃ x, l[i]? = some x := ⟨l[i], by simp [h]⟩
theorem mapE {α β : Type} {f : α → β} {l : List α} {i : Nat} {y : β} (h : (l.map f)[i]? = some y) : ∃ x, l[i]? = some x ∧ y = f x := by
  rw [List.getElem?_map] at h
  cases e : l[i]? with
  | none => rw [e] at h; cases h
  | some x => rw [e] at h; exact ⟨x, rfl, (Option.some.inj h).symm⟩
theorem take_snoc {α : Type} {l : List α} {i : Nat} {x : α} (h : l[i]? = some x) : l.take (i + 1) = l.take i ++ [x] := by
  rw [List.take_add_one, h]; rfl
end Lf
namespace Lf.TR
open PySem PySem.Spec PyProof.Rows HT
section
variable {prog : Program} {w : World} {A : Around} {E : Value → Shared → Prop} {s : Shared}
theorem adjust_rev (n : Nat) : Builtin.Slice.sliceAdjust none none (-1) (n : Int) = ((n : Int) - 1, -1) := rfl
theorem places_rev (n : Nat) : Builtin.Slice.slicePlaces ((n : Int) - 1) (-1) (-1) = n := by
  unfold Builtin.Slice.slicePlaces
  have h1 : ¬ ((-1 : Int) > 0) := by decide
  simp only [h1, if_false]
  by_cases h : (n : Int) - 1 > -1
  · rw [if_pos h, show (- -1 : Int) = 1 by decide, Int.ediv_one]
    omega
  · rw [if_neg h]
    omega
theorem sliceApplied_rev {sl : Addr} {vl vu vs : Value} {n : Nat} {Q : Int × Int × Nat → Shared → Prop} (hs : s.heap.IsSliceOf sl vl vu vs) (pl : IsPart vl none) (pu : IsPart vu none) (ps : IsPart vs (some (-1)))
    (h : Q ((n : Int) - 1, -1, n) s) : wpAny (model prog w) A (Builtin.Slice.sliceApplied (.ref sl) (pure (n : Int))) Q E s := by
  obtain ⟨os, hos, hcs, hds⟩ := id hs
  unfold Builtin.Slice.sliceApplied Builtin.Slice.sliceFields
  refine wpAny_bind (wpAny_bind (wpAny_field hos hds (x := vl) rfl (wpAny_bind (wpAny_field hos hds (x := vu) rfl (wpAny_bind (wpAny_field hos hds (x := vs) rfl (wpAny_pure ?_)))))))
  refine wpAny_bind (slicePart_ ps ?_)
  show wpAny _ _ (if ((-1 : Int) == 0) = true then _ else _) _ _ s
  rw [if_neg (by decide)]
  refine wpAny_bind (slicePart_ pl (wpAny_bind (slicePart_ pu (wpAny_bind (wpAny_pure ?_)))))
  show wpAny _ _ (match Builtin.Slice.sliceAdjust none none (-1) (n : Int) with | (lo, hi) => pure (lo, (-1 : Int), Builtin.Slice.slicePlaces lo hi (-1))) _ _ s
  rw [adjust_rev n]
  show wpAny _ _ (pure ((n : Int) - 1, (-1 : Int), Builtin.Slice.slicePlaces ((n : Int) - 1) (-1) (-1))) _ _ s
  rw [places_rev]
  exact wpAny_pure h
theorem pick_rev (xs : Array Value) : ((List.range xs.size).filterMap fun (k : Nat) => xs[((xs.size : Int) - 1 + (k : Int) * (-1)).toNat]?).toArray = xs.toList.reverse.toArray := by
  have e : (fun (k : Nat) => xs[((xs.size : Int) - 1 + (k : Int) * (-1)).toNat]?) = (fun k => xs[k]?) ∘ fun k => xs.size - 1 - k := by
    funext k
    have : ((xs.size : Int) - 1 + (k : Int) * (-1)).toNat = xs.size - 1 - k := by omega
    show xs[((xs.size : Int) - 1 + (k : Int) * (-1)).toNat]? = xs[xs.size - 1 - k]?
    rw [this]
  rw [e, ← List.filterMap_map, PySem.W.krv_range, List.filterMap_reverse, PySem.W.krv_all]
theorem getItem_tuple_rev {t sl : Addr} {items : Array Value} {vl vu vs : Value} {Q : Value → Shared → Prop} (ht : IsTup s.heap t items) (hs : s.heap.IsSliceOf sl vl vu vs) (pl : IsPart vl none) (pu : IsPart vu none) (ps : IsPart vs (some (-1)))
    (h : Q (.ref s.heap.objs.size) { s with heap := s.heap.push { cls := .type "tuple", data := .seq items.toList.reverse.toArray } })
    (hsz : items.size ≤ sizeLine) : wpAny (model prog w) A (getItem (.ref t) (.ref sl)) Q E s := by
  have htake : sizeOk (.seq items.toList.reverse.toArray) := by
    show items.toList.reverse.toArray.size ≤ sizeLine
    rw [List.size_toArray, List.length_reverse, Array.length_toList]
    exact hsz
  obtain ⟨os, hos, hcs, hds⟩ := id hs
  have hTs : s.TypeIs (.ref sl) "slice" := ⟨os, hos, hcs⟩
  unfold getItem
  try with_reducible refine wpAny_holding ?_
  first | refine wpAny_bind (wpAny_pure ?_) | skip
  refine wpAny_bind (wpAny_sequenceKey ht.typeIs (by decide) ?_)
  refine wpAny_bind (wpAny_callSpecial?_slot (name := Str.ofString "__getitem__") ht.typeIs PyProof.Rows.slot_tuple_getitem
    (wpAny_call_entry PyProof.Rows.slot_tuple_getitem ht.typeIs entry_tuple_getitem ?_ (args_tuple_getitem _ _)))
  show wpAny _ _ (Builtin.Tuple.tupleItemsOf (.ref t) >>= _) _ _ s
  refine wpAny_bind (tupleItemsOf_ ht ?_)
  refine wpAny_bind (wpAny_typeOf hTs ?_)
  rw [if_pos (by decide)]
  refine wpAny_bind (sliceApplied_rev hs pl pu ps ?_)
  show wpAny _ _ (if (((items.size : Int) - 1) == 0 && (-1 : Int) == 1 && items.size == items.size) = true then _ else _) _ _ s
  rw [if_neg (by simp), pick_rev]
  first
    | exact wpAny_bind (m := Builtin.Tuple.tupleExact _) (wpAny_newObj_type (wpAny_pure ⟨_, rfl, wpAny_pure h⟩) htake)
    | exact wpAny_bind (m := Builtin.Tuple.tupleExact _) (wpAny_newObj_type (wpAny_bind (wpAny_pure (wpAny_pure ⟨_, rfl, wpAny_pure h⟩))) htake)
    | exact wpAny_bind (wpAny_bind (m := Builtin.Tuple.tupleExact _) (wpAny_newObj_type (wpAny_pure (wpAny_pure ⟨_, rfl, wpAny_pure h⟩)) htake))
    | exact wpAny_bind (wpAny_bind (m := Builtin.Tuple.tupleExact _) (wpAny_newObj_type (wpAny_pure ⟨_, rfl, wpAny_pure h⟩) htake))
end
end Lf.TR
namespace Lf
open PySem PySem.Spec L2
open PyProof.Rows hiding St
theorem vals_rev {X : Cx} {xs : List V} {us : List Value} (r : Vals xs us) : Vals xs.reverse us.reverse := r.reverse
/-- t[::-1] of a tuple: a new tuple -/
def tRevT (K : PySem.W.Frag) (te : TE) : TE := fun σ H Q => te σ H fun x H1 => ∃ a xs, x = .ref a ∧ SqT K H1 a xs ∧ ∀ p, H1 p = none → Q (.ref p) (upd H1 p (.tup xs.reverse))
theorem pe_revT {X : Cx} {e : Expr} {te : TE} {k : Nat} {p1 p2 p3 pos : Pos} (he : PE X e te) : PE X (.Subscript e (.Slice none none (some (.UnaryOp .USub (.Constant (.int 1) k p1) p2)) p3) pos) (tRevT X.K te) := by
  refine ⟨fun pins s σ H Q I h => ?_⟩
  refine Subscript_ (thn (he.run pins s σ H _ I h) fun v s1 ⟨x, H1, I1, r1, q1⟩ => ?_)
  obtain ⟨a, xs, ex, hx, q⟩ := q1
  subst ex
  cases r1
  have hst : PO X (some (.UnaryOp .USub (.Constant (.int 1) k p1) p2)) (tPart (tUn (rU fun i => .int (-i)) (tC (.int 1)))) := po_some (pe_un un_neg pe_int)
  refine wpAny_Slice (thn (po_none.run pins s1 σ H1 (fun o H2 => o = none ∧ H2 = H1) I1 ⟨rfl, rfl⟩) fun vl s2 ⟨l, H2, I2, pl, el, e2⟩ => ?_)
  subst el e2
  refine thn (po_none.run pins s2 σ H2 (fun o H3 => o = none ∧ H3 = H2) I2 ⟨rfl, rfl⟩) fun vu s3 ⟨u, H3, I3, pu, eu, e3⟩ => ?_
  subst eu e3
  refine thn (hst.run pins s3 σ H3 (fun o H4 => o = some (-1) ∧ H4 = H3) I3 ⟨1, rfl, -1, rfl, rfl, rfl⟩) fun vs s4 ⟨o, H4, I4, ps, eo, e4⟩ => ?_
  subst eo e4
  have I5 : Inv X pins σ H4 { s4 with heap := s4.heap.push { cls := .type "slice", data := .fields #[vl, vu, vs] } } := I4.kept (t' := s4.toks) fun b ob q => Heap.get?_push_of_some _ q
  obtain ⟨its, r, ht, hz⟩ := I5.tuple hx
  have hlen := r.length
  show wpAny (model X.prog X.w) X.A (subscriptTail e (.Slice none none (some (.UnaryOp .USub (.Constant (.int 1) k p1) p2)) p3) (.ref a) (.ref s4.heap.objs.size)) (EP X pins σ Q) X.xe { s4 with heap := s4.heap.push { cls := .type "slice", data := .fields #[vl, vu, vs] } }
  refine tail_any (ops := [.ref a, .ref s4.heap.objs.size]) ht.typeIs (PyProof.Rows.slot_tuple_getitem.lookup) ?_ (by with_unfolding_all rfl)
  refine TR.getItem_tuple_rev ht (Heap.IsSliceOf.new _ vl vu vs) pl pu ps ?_ (by rw [List.size_toArray]; omega)
  refine ⟨.ref _, _, I5.laid (t' := s4.toks) (o := .tup xs.reverse) (fun b ob q => Heap.get?_push_of_some _ q) (Nat.le_refl _) ?_, rfl, q _ (I5.hok.fresh (Nat.le_refl _))⟩
  exact ⟨by rw [List.length_reverse]; exact hz, _, r.reverse, IsTup.new _ _⟩
theorem r_revT {K : PySem.W.Frag} {te : TE} {σ : St} {H : Hp} {Q : VK} : tRevT K te σ H Q = te σ H fun x H1 => ∃ a xs, x = .ref a ∧ SqT K H1 a xs ∧ ∀ p, H1 p = none → Q (.ref p) (upd H1 p (.tup xs.reverse)) := rfl
theorem r_revL {K : PySem.W.Frag} {te : TE} {σ : L2.St} {H : Hp} {Q : VK} : tRevL K te σ H Q = te σ H fun x H1 => ∃ a xs, x = .ref a ∧ SqL K H1 a xs ∧ ∀ p, H1 p = none → Q (.ref p) (upd H1 p (.lst xs.reverse)) := rfl
end Lf
/-! ### methods of an own class, and its making -/
namespace Lf
open PySem PySem.Spec L2
open PyProof.Rows hiding St
structure MetP (P : Program) (w : World) (K : PySem.W.Frag) (mg : Str → Option Value) (base : Heap) (k : Nat) (C : Addr) (m : Str) (sp : Sp) : Prop where
  ex : ∃ (f : Addr) (fd : FuncData) (ps : List Str), Cls K C ∧ Meth K C m f ∧ FnOk P w K mg base (L2.CX P w) k f fd ps sp ∧ Binds K fd ps []
structure MakP (P : Program) (w : World) (K : PySem.W.Frag) (mg : Str → Option Value) (base : Heap) (k : Nat) (x : Str) (C : Addr) (sp : Sp) : Prop where
  ex : ∃ (f : Addr) (fd : FuncData) (ps : List Str), Mk K C f ∧ FnOk P w K mg base (L2.CX P w) k f fd ps sp ∧ mg x = some (.ref C) ∧ Binds K fd ps []
section
variable {P : Program} {w : World} {K : PySem.W.Frag} {mg : Str → Option Value} {base : Heap}
theorem met_of {m qual : Str} {C f : Addr} {fd : FuncData} {st : Stmt} {N ps : List Str} {k : Nat} {sp : Sp} (c : Cls K C) (me : Meth K C m f) (F : Fun K m qual st f fd) (b : Binds K fd ps []) (S : FnScope N ps (defScope st)) (len : ∀ vs H Q E, sp vs H Q E → vs.length = ps.length)
    (hbody : ∀ (cdv : Value) (A : Around) (outer : List Env) (s : Shared) (H : Hp) (vs : List V) (Q : VK) (E : XK), Room k (A.deeper (envOfC qual (defScope st) s.heap.objs.size f cdv)) → sp vs H Q E →
      ∃ t, PSs (cxOf (L2.CX P w) P w K mg base N qual (defScope st) f cdv A outer s H E) (defBody st) t ∧ t { nx := fun _ H' => Q .non H', rt := Q } (start N vs) H) : MetP P w K mg base (k + 1) C m sp :=
  ⟨f, fd, ps, c, me, F.okX S len hbody, b⟩
theorem mak_of {x qual : Str} {C f : Addr} {fd : FuncData} {st : Stmt} {N ps : List Str} {k : Nat} {sp : Sp} (M : Mk K C f) (hm : mg x = some (.ref C)) (F : Fun K "__init__" qual st f fd) (b : Binds K fd ps []) (S : FnScope N ps (defScope st)) (len : ∀ vs H Q E, sp vs H Q E → vs.length = ps.length)
    (hbody : ∀ (cdv : Value) (A : Around) (outer : List Env) (s : Shared) (H : Hp) (vs : List V) (Q : VK) (E : XK), Room k (A.deeper (envOfC qual (defScope st) s.heap.objs.size f cdv)) → sp vs H Q E →
      ∃ t, PSs (cxOf (L2.CX P w) P w K mg base N qual (defScope st) f cdv A outer s H E) (defBody st) t ∧ t { nx := fun _ H' => Q .non H', rt := Q } (start N vs) H) : MakP P w K mg base (k + 1) x C sp :=
  ⟨f, fd, ps, M, F.okX S len hbody, hm, b⟩
end
section
variable {X : Cx} {k j : Nat} {x m : Str} {C : Addr} {sp : Sp} {E : XK} {o e : Expr} {es : List Expr} {ta : TE} {t : TA} {p pos apos : Pos}
theorem pe_mtP {pl : Sem Bool} (c : MetP X.prog X.w X.K X.mg X.base k C m sp) (hr : Room j X.A) (hk : k ≤ j) (hx : Passes (L2.CX X.prog X.w) X E) (he : PE X o ta) (ha : PA X (e :: es) t)
    (hst : starEach (e :: es) X.env = (false, eval e X.env) :: starEach es X.env := by rfl) (hpl : (backTo pos (starEach es X.env)).any (·.1) = false := by rfl)
    (ht : eval (.Call (.Attribute o m apos) (e :: es) [] pos) X.env = (do
      let ov ← eval o X.env
      standAt apos.atName
      let (f, first) ← holding [ov] (getMethod ov m pl)
      callWith pos f first (backTo pos (starEach (e :: es) X.env)) (backToKw pos (keywordEach [] X.env))) := by rfl) :
    PE X (.Call (.Attribute o m apos) (e :: es) [] pos) (tMeth C m sp [] E ta t) := by
  obtain ⟨f, fd, ps, hc, hm, F, b⟩ := c.ex
  exact pe_meth (pl := pl) he hc hm F (hr.mono hk) b .nil hx ha hst hpl ht
theorem pe_mkP (c : MakP X.prog X.w X.K X.mg X.base k x C sp) (hr : Room j X.A) (hk : k + 1 ≤ j) (hx : Passes (L2.CX X.prog X.w) X E) (ha : PA X (e :: es) t) (hg : Gl X x := by rfl)
    (hdb : (x == ("__debug__" : Str)) = false := by decide) (he : starEach (e :: es) X.env = (false, eval e X.env) :: starEach es X.env := by rfl) (hpl : (backTo pos (starEach es X.env)).any (·.1) = false := by rfl) :
    PE X (.Call (.Name x p) (e :: es) [] pos) (tMake C sp [] E t) := by
  obtain ⟨f, fd, ps, M, F, hm, b⟩ := c.ex
  exact pe_make M F (hr.mono hk) hg hm b .nil hx ha hdb he hpl
end
theorem r_meth {C : Addr} {m : Str} {sp : Sp} {E : XK} {ta : TE} {t : TA} {σ : L2.St} {H : Hp} {Q : VK} : tMeth C m sp [] E ta t σ H Q = ta σ H fun x H1 => ∃ a dx fs, x = .ref a ∧ H1 a = some (.ins C dx fs) ∧ fs.lookup m = none ∧ t σ H1 fun vs H2 => sp (x :: vs) H2 Q E := by
  unfold tMeth
  simp only [List.append_nil]
theorem r_make {C : Addr} {sp : Sp} {E : XK} {t : TA} {σ : L2.St} {H : Hp} {Q : VK} : tMake C sp [] E t σ H Q = t σ H fun vs H1 => ∀ x dx, H1 x = none → H1 dx = none → dx ≠ x → sp (.ref x :: vs) (upd (upd H1 dx (.own x)) x (.ins C dx [])) (fun v H2 => v = .non ∧ Q (.ref x) H2) E := by
  unfold tMake
  simp only [List.append_nil]
theorem r_fld {K : PySem.W.Frag} {ta : TE} {f : Str} {σ : L2.St} {H : Hp} {Q : VK} : tFld K ta f σ H Q = ta σ H fun x H1 => ∃ a C dx fs v, x = .ref a ∧ H1 a = some (.ins C dx fs) ∧ Cls K C ∧ NoAttr K C f ∧ fs.lookup f = some v ∧ Q v H1 := rfl
theorem r_sfld {K : PySem.W.Frag} {ta tv : TE} {f : Str} {D : Ends} {σ : L2.St} {H : Hp} : sFld K ta tv f D σ H = tv σ H fun y H1 => ta σ H1 fun x H2 => ∃ a C dx fs, x = .ref a ∧ H2 a = some (.ins C dx fs) ∧ Cls K C ∧ NoAttr K C f ∧ fs.length < 1000 ∧ D.nx σ (upd H2 a (.ins C dx (putF f y fs))) := rfl
end Lf
local macro_rules | `(tactic| walk_at "rd") => `(tactic| try simp only [↓Lf.r_c, ↓Lf.r_op, ↓Lf.r_un, ↓Lf.r_I0, ↓Lf.r_I, ↓Lf.r_U, ↓Lf.r_eqI, ↓Lf.r_neI, ↓Lf.r_eqS, ↓Lf.r_neS, ↓Lf.r_eqB, ↓Lf.r_neB, ↓Lf.r_isB, ↓Lf.r_notB, ↓Lf.r_isN, ↓Lf.r_notN, ↓Lf.r_addS, ↓Lf.r_abs, ↓Lf.r_max2, ↓Lf.r_min2, ↓Lf.r_int1i, ↓Lf.r_int1b, ↓Lf.r_test, ↓Lf.r_B, ↓Lf.r_exbl, ↓Lf.r_exint, ↓Lf.r_not, ↓Lf.r_and, ↓Lf.r_or, ↓Lf.r_andV, ↓Lf.r_orV, ↓Lf.r_notV, ↓Lf.r_if, ↓Lf.r_chain, ↓Lf.r_nil, ↓Lf.r_cons, ↓Lf.r_CB, ↓Lf.r_F, ↓Lf.r_CS, ↓Lf.r_tup, ↓Lf.r_lst, ↓Lf.r_sl, ↓Lf.r_part, ↓Lf.r_nopart, ↓Lf.r_BM0, ↓Lf.r_BM, ↓Lf.r_next, ↓Lf.r_seq, ↓Lf.r_drop, ↓Lf.r_ret, ↓Lf.r_retN, ↓Lf.r_ifS, ↓Lf.r_asg, ↓Lf.r_raise, ↓Lf.r_yes, ↓Lf.r_par, ↓Lf.r_augS, ↓Lf.r_ipI, ↓Lf.r_gcons, ↓Lf.r_gnil, ↓Lf.r_gtup, ↓Lf.r_revL, ↓Lf.r_revT, ↓Lf.r_meth, ↓Lf.r_make, ↓Lf.r_fld, ↓Lf.r_sfld, ↓Lf.r_v0, ↓Lf.r_v1, ↓Lf.r_v2, ↓Lf.r_v3, ↓Lf.r_v4, ↓Lf.r_v5, ↓Lf.r_v6, ↓Lf.r_v7, ↓Lf.r_v8, ↓Lf.r_v9, ↓Lf.r_v10, ↓Lf.r_v11, ↓Lf.r_v12, ↓Lf.r_v13, ↓Lf.r_v14, ↓Lf.r_v15, ↓Lf.r_n0, ↓Lf.r_n1, ↓Lf.r_n2, ↓Lf.r_n3, ↓Lf.r_n4, ↓Lf.r_n5, ↓Lf.r_n6, ↓Lf.r_n7, ↓Lf.r_n8, ↓Lf.r_n9, ↓Lf.r_n10, ↓Lf.r_n11, ↓Lf.r_n12, ↓Lf.r_n13, ↓Lf.r_n14, ↓Lf.r_n15, ↓Lf.r_a0, ↓Lf.r_a1, ↓Lf.r_a2, ↓Lf.r_a3, ↓Lf.r_a4, ↓Lf.r_a5, ↓Lf.r_a6, ↓Lf.r_a7, ↓Lf.r_a8, ↓Lf.r_a9, ↓Lf.r_a10, ↓Lf.r_a11, ↓Lf.r_a12, ↓Lf.r_a13, ↓Lf.r_a14, ↓Lf.r_a15, Lf.r_v0, Lf.r_v1, Lf.r_v2, Lf.r_v3, Lf.r_v4, Lf.r_v5, Lf.r_v6, Lf.r_v7, Lf.r_v8, Lf.r_v9, Lf.r_v10, Lf.r_v11, Lf.r_v12, Lf.r_v13, Lf.r_v14, Lf.r_v15, Lf.r_n0, Lf.r_n1, Lf.r_n2, Lf.r_n3, Lf.r_n4, Lf.r_n5, Lf.r_n6, Lf.r_n7, Lf.r_n8, Lf.r_n9, Lf.r_n10, Lf.r_n11, Lf.r_n12, Lf.r_n13, Lf.r_n14, Lf.r_n15, Lf.r_a0, Lf.r_a1, Lf.r_a2, Lf.r_a3, Lf.r_a4, Lf.r_a5, Lf.r_a6, Lf.r_a7, Lf.r_a8, Lf.r_a9, Lf.r_a10, Lf.r_a11, Lf.r_a12, Lf.r_a13, Lf.r_a14, Lf.r_a15, L2.wipe, eq_self, Lf.r_cdiv, Lf.r_cmul, Lf.r_cpow60, Lf.r_cpow40, Lf.r_cpow30, Lf.r_cpow9, Lf.r_p60, Lf.r_p30, Lf.r_p9, Int.reduceLT, Int.reduceNeg, and_self, or_true, true_or, Lf.r_s0, Lf.r_s1, Lf.r_s2, Lf.r_s3, Lf.r_s4, Lf.r_s5, Lf.r_s6, Lf.r_s7, Lf.r_s8, Lf.r_s9, Lf.r_s10, Lf.r_s11, Lf.r_s12, Lf.r_s13, Lf.r_s14, Lf.r_s15, Lf.r_s16, Lf.r_s17, Lf.r_s18, Lf.r_s19, Lf.r_s20, Lf.r_seq, Lf.r_ite_t, Lf.r_ite_f, ↓Lf.r_ite_t, ↓Lf.r_ite_f, ↓Lf.r_ite_d, ↓Lf.r_ite_nd, ↓reduceIte, List.set_cons_zero, List.set_cons_succ, true_and, and_true])
local macro_rules | `(tactic| walk_at "st") => `(tactic| try simp only [Lf.st, List.map_cons, List.map_nil, List.length_cons, List.length_nil, Nat.reduceAdd, Nat.reduceSub, List.replicate, List.cons_append, List.nil_append])
local macro_rules | `(tactic| walk_at "mono") => `(tactic| repeat first | with_reducible exact Lf.m_var | with_reducible exact Lf.m_c | with_reducible exact Lf.m_U | with_reducible exact Lf.m_I0 | with_reducible exact Lf.m_I | with_reducible exact Lf.m_eq | with_reducible exact Lf.m_ne | with_reducible exact Lf.m_eqD | with_reducible exact Lf.m_neD | with_reducible exact Lf.m_ixL | with_reducible exact Lf.m_in | with_reducible exact Lf.m_cat | with_reducible exact Lf.m_nil | with_reducible exact Lf.m_len | with_reducible exact Lf.m_lenS | with_reducible exact Lf.m_slL | with_reducible exact Lf.m_nopart | with_reducible apply Lf.m_op | with_reducible apply Lf.m_un | with_reducible apply Lf.m_test | with_reducible apply Lf.m_B | with_reducible apply Lf.m_not | with_reducible apply Lf.m_and | with_reducible apply Lf.m_or | with_reducible apply Lf.m_cons | with_reducible apply Lf.m_CB | with_reducible apply Lf.m_lst | with_reducible apply Lf.m_tup | with_reducible apply Lf.m_sl | with_reducible apply Lf.m_part)
namespace Lf
/-- what figures are worth, the least place first -/
def wl : List Int → Int
  | [] => 0
  | x :: r => x + 2 * wl r
theorem wl_append : ∀ (a b : List Int), wl (a ++ b) = wl a + 2 ^ a.length * wl b
  | [], b => by simp [wl]
  | x :: a, b => by
    simp only [List.cons_append, wl, List.length_cons, wl_append a b, Int.pow_succ, Int.mul_add]
    rw [Int.mul_comm (2 ^ a.length) 2, Int.mul_assoc]
    omega
/-- the figure of a number at the first place -/
def fig (n : Int) : Int := if n % 2 ≠ 0 then 2 - n % 4 else 0
def nxt (n : Int) : Int := (n - fig n) / 2
theorem fig_cases (n : Int) : (n % 2 = 0 ∧ fig n = 0 ∧ nxt n = n / 2) ∨ (n % 4 = 1 ∧ fig n = 1 ∧ nxt n = (n - 1) / 2) ∨ (n % 4 = 3 ∧ fig n = -1 ∧ nxt n = (n + 1) / 2) := by
  unfold nxt
  by_cases h : n % 2 = 0
  · have e : fig n = 0 := by unfold fig; rw [if_neg (by omega)]
    left; rw [e]; exact ⟨h, rfl, by simp⟩
  · have e : fig n = 2 - n % 4 := by unfold fig; rw [if_pos h]
    right
    rw [e]
    omega
theorem nxt_lt {n : Int} (h : n ≠ 0) : (nxt n).natAbs < n.natAbs := by
  rcases fig_cases n with ⟨h1, h2, h3⟩ | ⟨h1, h2, h3⟩ | ⟨h1, h2, h3⟩ <;> rw [h3] <;> omega
theorem nxt_fig (n : Int) : n = fig n + 2 * nxt n := by
  rcases fig_cases n with ⟨h1, h2, h3⟩ | ⟨h1, h2, h3⟩ | ⟨h1, h2, h3⟩ <;> rw [h2, h3] <;> omega
def naf (n : Int) : List Int := if h : n = 0 then [] else fig n :: naf (nxt n)
termination_by n.natAbs
decreasing_by exact nxt_lt h
theorem naf_zero : naf 0 = [] := by unfold naf; simp
theorem naf_step {n : Int} (h : n ≠ 0) : naf n = fig n :: naf (nxt n) := by rw [naf]; simp [h]
theorem naf_ind {P : Int → Prop} (h0 : P 0) (hs : ∀ n, n ≠ 0 → P (nxt n) → P n) : ∀ n, P n := by
  have key : ∀ (k : Nat) (n : Int), n.natAbs ≤ k → P n := by
    intro k
    induction k with
    | zero => intro n h; have : n = 0 := by omega
              rw [this]; exact h0
    | succ k ih =>
      intro n h
      by_cases e : n = 0
      · rw [e]; exact h0
      · exact hs n e (ih _ (by have := nxt_lt e; omega))
  exact fun n => key _ n (Nat.le_refl _)
theorem wl_naf : ∀ n, wl (naf n) = n := naf_ind (by rw [naf_zero]; rfl) fun n h ih => by
  rw [naf_step h]; simp only [wl, ih]; exact (nxt_fig n).symm
/-- a figure -/
def Fg (x : Int) : Prop := x = -1 ∨ x = 0 ∨ x = 1
theorem fig_fg (n : Int) : Fg (fig n) := by
  unfold Fg
  rcases fig_cases n with ⟨h1, h2, h3⟩ | ⟨h1, h2, h3⟩ | ⟨h1, h2, h3⟩ <;> rw [h2] <;> omega
theorem naf_fg : ∀ n, ∀ x ∈ naf n, Fg x := naf_ind (by rw [naf_zero]; simp) fun n h ih => by
  rw [naf_step h]
  intro x hx
  rcases List.mem_cons.mp hx with e | e
  · rw [e]; exact fig_fg n
  · exact ih x e
/-- no two neighbours other than 0 -/
def Apart : List Int → Prop
  | [] => True
  | [_] => True
  | x :: y :: r => (x = 0 ∨ y = 0) ∧ Apart (y :: r)
theorem naf_head (n : Int) : ∀ y r, naf n = y :: r → y = fig n := fun y r e => by
  by_cases h : n = 0
  · rw [h, naf_zero] at e; cases e
  · rw [naf_step h] at e; cases e; rfl
theorem naf_apart : ∀ n, Apart (naf n) := naf_ind (by rw [naf_zero]; exact True.intro) fun n h ih => by
  rw [naf_step h]
  cases e : naf (nxt n) with
  | nil => exact True.intro
  | cons y r =>
    refine ⟨?_, by rw [← e]; exact ih⟩
    have hy := naf_head _ y r e
    rcases fig_cases n with ⟨h1, h2, h3⟩ | ⟨h1, h2, h3⟩ | ⟨h1, h2, h3⟩
    · exact .inl h2
    · right; rw [hy]
      rcases fig_cases (nxt n) with ⟨k1, k2, k3⟩ | ⟨k1, k2, k3⟩ | ⟨k1, k2, k3⟩
      · exact k2
      · exfalso; rw [h3] at k1; omega
      · exfalso; rw [h3] at k1; omega
    · right; rw [hy]
      rcases fig_cases (nxt n) with ⟨k1, k2, k3⟩ | ⟨k1, k2, k3⟩ | ⟨k1, k2, k3⟩
      · exact k2
      · exfalso; rw [h3] at k1; omega
      · exfalso; rw [h3] at k1; omega
/-- the last figure is not 0 -/
def LastNz (l : List Int) : Prop := l.getLast? ≠ some 0
theorem naf_last : ∀ n, LastNz (naf n) := naf_ind (by rw [naf_zero]; simp [LastNz]) fun n h ih => by
  rw [naf_step h]
  unfold LastNz
  cases e : naf (nxt n) with
  | nil =>
    have hz : nxt n = 0 := by rw [← wl_naf (nxt n), e]; rfl
    have hf := nxt_fig n
    rw [hz] at hf
    simp
    omega
  | cons y r =>
    rw [List.getLast?_cons_cons]
    rw [e] at ih
    exact ih
/-- a row; a lean row -/
structure Row (l : List Int) : Prop where
  fg : ∀ x ∈ l, Fg x
  last : LastNz l
structure LeanR (l : List Int) : Prop extends Row l where
  ap : Apart l
theorem naf_lean (n : Int) : LeanR (naf n) := ⟨⟨naf_fg n, naf_last n⟩, naf_apart n⟩
theorem Apart.tail {x : Int} {l : List Int} (h : Apart (x :: l)) : Apart l := by
  cases l with
  | nil => exact True.intro
  | cons y r => exact h.2
theorem LastNz.tail {x : Int} {l : List Int} (h : LastNz (x :: l)) : LastNz l := by
  cases l with
  | nil => simp [LastNz]
  | cons y r => unfold LastNz at *; rw [List.getLast?_cons_cons] at h; exact h
theorem LeanR.tail {x : Int} {l : List Int} (h : LeanR (x :: l)) : LeanR l := ⟨⟨fun y hy => h.fg y (List.mem_cons_of_mem _ hy), h.last.tail⟩, h.ap.tail⟩
theorem wl_even_head {y : Int} {r : List Int} (h : y = 0) : wl (y :: r) % 2 = 0 := by simp only [wl, h]; omega
theorem lean_nz : ∀ {l : List Int}, LeanR l → l ≠ [] → wl l ≠ 0
  | [], _, h => absurd rfl h
  | [x], h, _ => by
    have : x ≠ 0 := fun e => h.last (by simp [e])
    simp only [wl]; omega
  | x :: y :: r, h, _ => by
    have ih := lean_nz h.tail (List.cons_ne_nil _ _)
    have hx := h.fg x List.mem_cons_self
    simp only [wl] at *
    unfold Fg at hx
    rcases hx with e | e | e <;> omega
theorem lean_fig : ∀ {x : Int} {l : List Int}, LeanR (x :: l) → fig (wl (x :: l)) = x ∧ nxt (wl (x :: l)) = wl l := fun {x l} h => by
  have hx := h.fg x List.mem_cons_self
  have h2 : x ≠ 0 → wl l % 2 = 0 := fun e => by
    cases l with
    | nil => rfl
    | cons y r =>
      rcases h.ap.1 with q | q
      · exact absurd q e
      · exact wl_even_head q
  simp only [wl]
  unfold Fg at hx
  rcases fig_cases (x + 2 * wl l) with ⟨k1, k2, k3⟩ | ⟨k1, k2, k3⟩ | ⟨k1, k2, k3⟩ <;> rw [k2, k3] <;> rcases hx with e | e | e <;> subst e <;> (try have h3 := h2 (by decide)) <;> omega
/-- each number is the worth of just one lean row -/
theorem naf_wl : ∀ {l : List Int}, LeanR l → naf (wl l) = l
  | [], _ => naf_zero
  | x :: l, h => by
    obtain ⟨e1, e2⟩ := lean_fig h
    rw [naf_step (lean_nz h (List.cons_ne_nil _ _)), e1, e2, naf_wl h.tail]
theorem lean_uniq {l m : List Int} (h : LeanR l) (k : LeanR m) (e : wl l = wl m) : l = m := by
  rw [← naf_wl h, ← naf_wl k, e]
theorem naf_len : ∀ (k : Nat) (n : Int), n.natAbs < 2 ^ k → (naf n).length ≤ k + 1
  | 0, n, h => by
    have : n = 0 := by simp at h; exact h
    rw [this, naf_zero]; simp
  | k + 1, n, h => by
    by_cases e : n = 0
    · rw [e, naf_zero]; simp
    · rw [naf_step e, List.length_cons]
      by_cases e1 : (nxt n).natAbs < 2 ^ k
      · have := naf_len k _ e1; omega
      · -- only where n is near the power
        have hp : (2:Nat) ^ (k + 1) = 2 * 2 ^ k := by rw [Nat.pow_succ, Nat.mul_comm]
        have hn : (nxt n).natAbs = 2 ^ k := by
          rcases fig_cases n with ⟨h1, h2, h3⟩ | ⟨h1, h2, h3⟩ | ⟨h1, h2, h3⟩ <;> rw [h3] at e1 ⊢ <;> omega
        have pw : ∀ (k : Nat) (m : Int), m.natAbs = 2 ^ k → (naf m).length ≤ k + 1 := by
          intro k
          induction k with
          | zero =>
            intro m hm
            have hm' : m = 1 ∨ m = -1 := by simp at hm; omega
            rcases hm' with rfl | rfl <;> (rw [naf_step (by decide)]; rw [show nxt _ = 0 from by decide, naf_zero]; simp)
          | succ k ih =>
            intro m hm
            have hp : (2:Nat) ^ (k + 1) = 2 * 2 ^ k := by rw [Nat.pow_succ, Nat.mul_comm]
            have hz : m ≠ 0 := fun q => by rw [q] at hm; have : 0 < (2:Nat)^k := Nat.pos_of_ne_zero (by simp); simp at hm; omega
            rw [naf_step hz, List.length_cons]
            have := ih (nxt m) (by
              rcases fig_cases m with ⟨h1, h2, h3⟩ | ⟨h1, h2, h3⟩ | ⟨h1, h2, h3⟩ <;> rw [h3] <;> omega)
            omega
        have := pw k _ hn
        omega
end Lf
namespace Lf
/-! ### settled -/
def figs (n : Int) : Nat → List Int
  | 0 => []
  | k + 1 => fig n :: figs (nxt n) k
def rst (n : Int) : Nat → Int
  | 0 => n
  | k + 1 => rst (nxt n) k
theorem figs_snoc : ∀ (k : Nat) (n : Int), figs n (k + 1) = figs n k ++ [fig (rst n k)]
  | 0, _ => rfl
  | k + 1, n => by
    show fig n :: figs (nxt n) (k + 1) = fig n :: figs (nxt n) k ++ [fig (rst (nxt n) k)]
    rw [figs_snoc k (nxt n)]; rfl
theorem rst_snoc : ∀ (k : Nat) (n : Int), rst n (k + 1) = nxt (rst n k)
  | 0, _ => rfl
  | k + 1, n => rst_snoc k (nxt n)
theorem figs_len : ∀ (k : Nat) (n : Int), (figs n k).length = k
  | 0, _ => rfl
  | k + 1, n => by show (figs (nxt n) k).length + 1 = k + 1; rw [figs_len k]
theorem figs_fg : ∀ (k : Nat) (n : Int), ∀ x ∈ figs n k, Fg x
  | 0, _, x, h => by cases h
  | k + 1, n, x, h => by
    rcases List.mem_cons.mp h with e | e
    · rw [e]; exact fig_fg n
    · exact figs_fg k _ x e
theorem nxt_zero : nxt 0 = 0 := by decide
theorem fig_zero : fig 0 = 0 := by decide
theorem nxt_le (n : Int) : (nxt n).natAbs ≤ n.natAbs := by
  by_cases h : n = 0
  · rw [h]; decide
  · exact Nat.le_of_lt (nxt_lt h)
theorem figs_naf : ∀ (k : Nat) (n : Int), rst n k = 0 → ∃ m, figs n k = naf n ++ List.replicate m 0
  | 0, n, h => ⟨0, by have e : n = 0 := h; rw [e, naf_zero]; rfl⟩
  | k + 1, n, h => by
    obtain ⟨m, e⟩ := figs_naf k (nxt n) h
    by_cases hz : n = 0
    · subst hz
      refine ⟨m + 1, ?_⟩
      show fig 0 :: figs (nxt 0) k = _
      rw [e, fig_zero, nxt_zero, naf_zero]; rfl
    · refine ⟨m, ?_⟩
      show fig n :: figs (nxt n) k = _
      rw [e, naf_step hz]; rfl
theorem rst_long : ∀ (k : Nat) (n : Int), rst n k ≠ 0 → k < (naf n).length
  | 0, n, h => by
    have h' : n ≠ 0 := h
    rw [naf_step h']; simp
  | k + 1, n, h => by
    have ih := rst_long k (nxt n) h
    by_cases hz : n = 0
    · subst hz
      rw [nxt_zero, naf_zero] at ih; exact absurd ih (Nat.not_lt_zero _)
    · rw [naf_step hz, List.length_cons]; omega
theorem figs_done {k : Nat} {n : Int} (h : rst n k = 0) (hk : k ≤ (naf n).length) : figs n k = naf n := by
  obtain ⟨m, e⟩ := figs_naf k n h
  have hl := figs_len k n
  rw [e, List.length_append, List.length_replicate] at hl
  have : m = 0 := by omega
  rw [e, this]; simp
/-- the figure that settled chooses: here what stands at the place with what is carried, later what stands at the next one -/
def choose (here later : Int) : Int := if here % 2 ≠ 0 then (if (later + (here - 1) / 2) % 2 = 0 then 1 else -1) else 0
theorem choose_is {here later more : Int} : choose here later = fig (here + 2 * (later + 2 * more)) ∧ nxt (here + 2 * (later + 2 * more)) = (here - choose here later) / 2 + (later + 2 * more) := by
  unfold choose
  rcases fig_cases (here + 2 * (later + 2 * more)) with ⟨h1, h2, h3⟩ | ⟨h1, h2, h3⟩ | ⟨h1, h2, h3⟩ <;> rw [h2, h3]
  · rw [if_neg (by omega)]; omega
  · rw [if_pos (by omega), if_pos (by omega)]; omega
  · rw [if_pos (by omega), if_neg (by omega)]; omega
theorem wl_split2 (ts : List Int) (i : Nat) : ∃ more, wl (ts.drop i) = ts.getD i 0 + 2 * (ts.getD (i + 1) 0 + 2 * more) := by
  cases h : ts.drop i with
  | nil =>
    have : ts.length ≤ i := List.drop_eq_nil_iff.mp h
    refine ⟨0, ?_⟩
    rw [List.getD_eq_getElem?_getD, List.getD_eq_getElem?_getD, List.getElem?_eq_none this, List.getElem?_eq_none (by omega)]
    simp [wl]
  | cons x r =>
    have e0 : ts[i]? = some x := by have := congrArg (·[0]?) h; simpa using this
    cases r with
    | nil =>
      refine ⟨0, ?_⟩
      have e1 : ts[i + 1]? = none := by have := congrArg (·[1]?) h; simpa using this
      rw [List.getD_eq_getElem?_getD, List.getD_eq_getElem?_getD, e0, e1]; simp [wl]
    | cons y r =>
      have e1 : ts[i + 1]? = some y := by have := congrArg (·[1]?) h; simpa using this
      refine ⟨wl r, ?_⟩
      rw [List.getD_eq_getElem?_getD, List.getD_eq_getElem?_getD, e0, e1]; simp [wl]
theorem wl_drop_succ (ts : List Int) (i : Nat) : wl (ts.drop i) = ts.getD i 0 + 2 * wl (ts.drop (i + 1)) := by
  cases h : ts.drop i with
  | nil =>
    have : ts.length ≤ i := List.drop_eq_nil_iff.mp h
    rw [List.getD_eq_getElem?_getD, List.getElem?_eq_none this, List.drop_eq_nil_iff.mpr (by omega : ts.length ≤ i + 1)]
    simp [wl]
  | cons x r =>
    have e0 : ts[i]? = some x := by have := congrArg (·[0]?) h; simpa using this
    have e1 : ts.drop (i + 1) = r := by rw [← List.drop_drop, h]; rfl
    rw [List.getD_eq_getElem?_getD, e0, e1]; simp [wl]
/-- one turn of settled -/
theorem settle_turn {ts : List Int} {W over : Int} {i : Nat} (h : over + wl (ts.drop i) = rst W i) :
    choose (over + ts.getD i 0) (ts.getD (i + 1) 0) = fig (rst W i) ∧ (over + ts.getD i 0 - choose (over + ts.getD i 0) (ts.getD (i + 1) 0)) / 2 + wl (ts.drop (i + 1)) = rst W (i + 1) := by
  obtain ⟨more, e⟩ := wl_split2 ts i
  have e2 := wl_drop_succ ts i
  have e3 : wl (ts.drop (i + 1)) = ts.getD (i + 1) 0 + 2 * more := by omega
  have c := @choose_is (over + ts.getD i 0) (ts.getD (i + 1) 0) more
  have e4 : rst W i = over + ts.getD i 0 + 2 * (ts.getD (i + 1) 0 + 2 * more) := by omega
  rw [rst_snoc, e4, e3]
  exact ⟨c.1, c.2.symm⟩
/-! ### laid over -/
def lay1 (l : List Int) (v : Int) (q : Nat) : List Int := if q = l.length then l ++ [v] else l.set q (l.getD q 0 + v)
def lay (l : List Int) (t : Int) : List Int → Nat → List Int
  | [], _ => l
  | x :: r, p => lay (lay1 l (t * x) p) t r (p + 1)
theorem lay_snoc : ∀ (a : List Int) (l : List Int) (t x : Int) (p : Nat), lay l t (a ++ [x]) p = lay1 (lay l t a p) (t * x) (p + a.length)
  | [], l, t, x, p => rfl
  | y :: a, l, t, x, p => by
    show lay (lay1 l (t * y) p) t (a ++ [x]) (p + 1) = lay1 (lay (lay1 l (t * y) p) t a (p + 1)) (t * x) (p + (a.length + 1))
    rw [lay_snoc a, show p + 1 + a.length = p + (a.length + 1) by omega]
theorem wl_set : ∀ (l : List Int) (q : Nat) (v : Int), q < l.length → wl (l.set q v) = wl l + 2 ^ q * (v - l.getD q 0)
  | [], _, _, h => absurd h (Nat.not_lt_zero _)
  | x :: l, 0, v, _ => by simp only [List.set_cons_zero, wl, List.getD_cons_zero]; omega
  | x :: l, q + 1, v, h => by
    simp only [List.set_cons_succ, wl, List.getD_cons_succ]
    rw [wl_set l q v (by simpa using h), Int.pow_succ, Int.mul_add, Int.mul_comm (2 ^ q) 2, Int.mul_assoc]; omega
theorem wl_lay1 {l : List Int} {v : Int} {q : Nat} (h : q ≤ l.length) : wl (lay1 l v q) = wl l + 2 ^ q * v := by
  unfold lay1
  by_cases e : q = l.length
  · rw [if_pos e, wl_append, ← e]; simp [wl]
  · rw [if_neg e, wl_set l q _ (by omega)]
    congr 1; congr 1; omega
theorem len_lay1 {l : List Int} {v : Int} {q : Nat} (h : q ≤ l.length) : (lay1 l v q).length = max l.length (q + 1) := by
  unfold lay1
  by_cases e : q = l.length
  · rw [if_pos e, List.length_append, e]; simp
  · rw [if_neg e, List.length_set]; omega
theorem len_lay : ∀ (r : List Int) (l : List Int) (t : Int) (p : Nat), p ≤ l.length → (lay l t r p).length = max l.length (p + r.length)
  | [], l, t, p, h => by show l.length = max l.length (p + 0); omega
  | x :: r, l, t, p, h => by
    show (lay (lay1 l (t * x) p) t r (p + 1)).length = _
    rw [len_lay r _ t (p + 1) (by rw [len_lay1 h]; omega), len_lay1 h, List.length_cons]; omega
theorem wl_lay : ∀ (r : List Int) (l : List Int) (t : Int) (p : Nat), p ≤ l.length → wl (lay l t r p) = wl l + t * 2 ^ p * wl r
  | [], l, t, p, _ => by show wl l = wl l + t * 2 ^ p * 0; simp
  | x :: r, l, t, p, h => by
    show wl (lay (lay1 l (t * x) p) t r (p + 1)) = wl l + t * 2 ^ p * (x + 2 * wl r)
    rw [wl_lay r _ t (p + 1) (by rw [len_lay1 h]; omega), wl_lay1 h, Int.pow_succ, Int.mul_add]
    have e1 : 2 ^ p * (t * x) = t * 2 ^ p * x := by rw [← Int.mul_assoc, Int.mul_comm (2 ^ p) t]
    have e2 : t * (2 ^ p * 2) * wl r = t * 2 ^ p * (2 * wl r) := by rw [← Int.mul_assoc t, Int.mul_assoc (t * 2 ^ p)]
    omega
theorem wl_zeros (n : Nat) : wl (List.replicate n 0) = 0 := by
  induction n with
  | zero => rfl
  | succ n ih => rw [List.replicate_succ]; simp only [wl, ih]; rfl
theorem wl_neg : ∀ l : List Int, wl (l.map fun x => 0 - x) = 0 - wl l
  | [] => rfl
  | x :: l => by simp only [List.map_cons, wl, wl_neg l]; omega
/-! ### the last figure tells the sign -/
theorem naf_sign : ∀ n, n ≠ 0 → (naf n).getLast? = some (if 0 < n then 1 else -1) := naf_ind (fun h => absurd rfl h) fun n h ih _ => by
  rw [naf_step h]
  by_cases hz : nxt n = 0
  · rw [hz, naf_zero]
    have hf := nxt_fig n
    rw [hz] at hf
    have := fig_fg n
    unfold Fg at this
    have hfn : fig n = n := by omega
    rw [hfn]
    simp
    split <;> omega
  · have i2 := ih hz
    cases e : naf (nxt n) with
    | nil => rw [e] at i2; cases i2
    | cons y r =>
      rw [List.getLast?_cons_cons, ← e, i2]
      have hf := nxt_fig n
      have := fig_fg n
      unfold Fg at this
      congr 1
      by_cases c : 0 < n
      · rw [if_pos c, if_pos (by omega)]
      · rw [if_neg c, if_neg (by omega)]
/-! ### how great the worth of a row may be -/
theorem wl_bound : ∀ (l : List Int) (m : Nat), (∀ x ∈ l, x.natAbs ≤ m) → (wl l).natAbs + m ≤ m * 2 ^ l.length
  | [], m, _ => by simp [wl]
  | x :: l, m, h => by
    have ih := wl_bound l m fun y hy => h y (List.mem_cons_of_mem _ hy)
    have hx := h x List.mem_cons_self
    simp only [wl, List.length_cons, Nat.pow_succ]
    have e : m * (2 ^ l.length * 2) = 2 * (m * 2 ^ l.length) := by rw [← Nat.mul_assoc, Nat.mul_comm _ 2]
    rw [e]; omega
theorem Fg.abs {x : Int} (h : Fg x) : x.natAbs ≤ 1 := by unfold Fg at h; omega
theorem row_bound {l : List Int} (h : ∀ x ∈ l, Fg x) : (wl l).natAbs < 2 ^ l.length := by
  have := wl_bound l 1 fun x hx => (h x hx).abs
  omega
end Lf
namespace Lf
open PySem PySem.Spec L2
open PyProof.Rows hiding St
/-! ### things of the built-in types -/
def tyN : List String := ["int", "bool", "str", "NoneType", "list", "tuple", "dict"]
structure Th (K : PySem.W.Frag) (H : Hp) (x : V) (n : String) : Prop where
  ty : TyX K H x (.type n)
  nm : n ∈ tyN
theorem nm_cases {n : String} (h : n ∈ tyN) : n = "int" ∨ n = "bool" ∨ n = "str" ∨ n = "NoneType" ∨ n = "list" ∨ n = "tuple" ∨ n = "dict" := by
  simpa [tyN] using h
section
variable {K : PySem.W.Frag} {H H' : Hp} {x : V} {n : String} {a : Addr}
theorem kit_nm {m : String} (hm : m = "int" ∨ m = "bool" ∨ m = "str" ∨ m = "list") (h : n ∈ tyN) : PySem.W.kitOne K (.type n) (.type m) = some (decide (n = m) || (decide (n = "bool") && decide (m = "int"))) := by
  rcases nm_cases h with rfl | rfl | rfl | rfl | rfl | rfl | rfl <;> rcases hm with rfl | rfl | rfl | rfl <;> exact kit_ty (by decide +kernel)
theorem isi_nm {m : String} {Q : VK} (hm : m = "int" ∨ m = "bool" ∨ m = "str" ∨ m = "list") (h : Th K H x n) (q : Q (.bl (decide (n = m) || (decide (n = "bool") && decide (m = "int")))) H) : rIsi K [x, .ty m] H Q :=
  ⟨x, .ty m, .type n, .type m, _, rfl, .ty m, h.ty, kit_nm hm h.nm, q⟩
theorem isi_int {Q : VK} (h : Th K H x n) (q : Q (.bl (decide (n = "int") || decide (n = "bool"))) H) : rIsi K [x, .ty "int"] H Q := isi_nm (.inl rfl) h (by simpa using q)
theorem isi_bool {Q : VK} (h : Th K H x n) (q : Q (.bl (decide (n = "bool"))) H) : rIsi K [x, .ty "bool"] H Q := isi_nm (.inr (.inl rfl)) h (by simpa using q)
theorem isi_str {Q : VK} (h : Th K H x n) (q : Q (.bl (decide (n = "str"))) H) : rIsi K [x, .ty "str"] H Q := isi_nm (.inr (.inr (.inl rfl))) h (by simpa using q)
theorem isi_list {Q : VK} (h : Th K H x n) (q : Q (.bl (decide (n = "list"))) H) : rIsi K [x, .ty "list"] H Q := isi_nm (.inr (.inr (.inr rfl))) h (by simpa using q)
theorem th_int {i : Int} : Th K H (.int i) "int" := ⟨.base (.int i), by simp [tyN]⟩
theorem th_bl {b : Bool} : Th K H (.bl b) "bool" := ⟨.base (.bl b), by simp [tyN]⟩
theorem th_str {s : Str} : Th K H (.str s) "str" := ⟨.base (.str s), by simp [tyN]⟩
theorem th_non : Th K H .non "NoneType" := ⟨.base .non, by simp [tyN]⟩
theorem th_sq {xs : List V} (h : SqL K H a xs) : Th K H (.ref a) "list" := by
  refine ⟨?_, by simp [tyN]⟩
  rcases h with (h | ⟨o, h⟩) | ⟨o, its, n, hk, hc, _⟩
  · exact .base (.lst h)
  · exact .base (.frz h)
  · exact .kList hk hc
theorem th_tup {xs : List V} (h : H a = some (.tup xs)) : Th K H (.ref a) "tuple" := ⟨.base (.tup h), by simp [tyN]⟩
theorem th_dict {kvs : List (Key × V)} (h : H a = some (.dK kvs)) : Th K H (.ref a) "dict" := ⟨.base (.dK h), by simp [tyN]⟩
theorem _root_.L2.TyX.same {t : Value} (s : Same H H') (h : TyX K H x t) : TyX K H' x t := by
  cases h with
  | base b =>
    refine .base ?_
    cases b with
    | non => exact .non
    | bl y => exact .bl y
    | int i => exact .int i
    | str y => exact .str y
    | flt y => exact .flt y
    | lst e => exact .lst (s _ _ e)
    | frz e => exact .frz (s _ _ e)
    | tup e => exact .tup (s _ _ e)
    | dK e => exact .dK (s _ _ e)
    | dT e => exact .dT (s _ _ e)
    | ins e cl ha hn htk hm => exact .ins (s _ _ e) cl ha hn htk hm
  | byt b => exact .byt b
  | set e => exact .set (s _ _ e)
  | kList e c => exact .kList e c
  | kTuple e c => exact .kTuple e c
  | kDict e c => exact .kDict e c
  | fTuple e => exact .fTuple (s _ _ e)
  | fDict e => exact .fDict (s _ _ e)
theorem Th.same (s : Same H H') (h : Th K H x n) : Th K H' x n := ⟨TyX.same s h.ty, h.nm⟩
/-- whether a thing is a whole number -/
def wh : V → Bool
  | .int _ => true
  | _ => false
theorem Th.wh (h : Th K H x n) : wh x = decide (n = "int") := by
  obtain ⟨t, m⟩ := h
  cases x with
  | int i =>
    cases t with
    | base b => cases b; rfl
  | non => cases t with
    | base b => cases b; rfl
  | bl y => cases t with
    | base b => cases b; rfl
  | str y => cases t with
    | base b => cases b; rfl
  | flt y => cases t with
    | base b => cases b; rfl
  | byt y => cases t with
    | base b => cases b
    | byt => rfl
  | ty y => cases t with
    | base b => cases b
  | ref a =>
    cases t with
    | base b => cases b <;> rfl
    | set e => rfl
    | kList e c => rfl
    | kTuple e c => rfl
    | kDict e c => rfl
    | fTuple e => rfl
    | fDict e => rfl
theorem Th.not_int (h : Th K H x n) (hn : n ≠ "int") : Lf.wh x = false := by rw [h.wh]; simpa using hn
/-- whether a thing is a figure -/
def fgB : V → Bool
  | .int i => decide (-1 ≤ i) && decide (i ≤ 1)
  | _ => false
theorem fgB_of {x : V} (h : fgB x = true) : ∃ i : Int, x = .int i ∧ Fg i := by
  cases x with
  | int i =>
    refine ⟨i, rfl, ?_⟩
    simp only [fgB, Bool.and_eq_true, decide_eq_true_eq] at h
    unfold Fg; omega
  | _ => cases h
theorem fgB_int {i : Int} (h : Fg i) : fgB (.int i) = true := by
  simp only [fgB, Bool.and_eq_true, decide_eq_true_eq]
  unfold Fg at h; omega
/-- whether the items make a row -/
def rowV (xs : List V) : Bool := xs.all fgB && (xs.isEmpty || !decide (xs.getLast? = some (.int 0)))
theorem row_ints : ∀ {xs : List V}, xs.all fgB = true → ∃ ns : List Int, xs = ns.map V.int ∧ ∀ x ∈ ns, Fg x
  | [], _ => ⟨[], rfl, by simp⟩
  | x :: xs, h => by
    rw [List.all_cons, Bool.and_eq_true] at h
    obtain ⟨i, rfl, hi⟩ := fgB_of h.1
    obtain ⟨ns, rfl, hn⟩ := row_ints h.2
    exact ⟨i :: ns, rfl, fun y hy => by
      rcases List.mem_cons.mp hy with e | e
      · rw [e]; exact hi
      · exact hn y e⟩
theorem getLast_map (ns : List Int) : (ns.map V.int).getLast? = ns.getLast?.map V.int := by
  rw [List.getLast?_map]
theorem rowV_row {ns : List Int} (h : Row ns) : rowV (ns.map V.int) = true := by
  unfold rowV
  rw [Bool.and_eq_true]
  refine ⟨?_, ?_⟩
  · rw [List.all_map, List.all_eq_true]
    exact fun x hx => fgB_int (h.fg x hx)
  · have hl := h.last
    unfold LastNz at hl
    rw [getLast_map]
    simp only [Bool.or_eq_true, Bool.not_eq_true', decide_eq_false_iff_not]
    right
    cases e : ns.getLast? with
    | none => simp
    | some z =>
      rw [e] at hl
      simp only [Option.map_some, Option.some.injEq, V.int.injEq]
      exact fun q => hl (by rw [q])
theorem row_of {xs : List V} (h : rowV xs = true) : ∃ ns : List Int, xs = ns.map V.int ∧ Row ns := by
  unfold rowV at h
  rw [Bool.and_eq_true] at h
  obtain ⟨ns, rfl, hn⟩ := row_ints h.1
  refine ⟨ns, rfl, hn, ?_⟩
  have h2 := h.2
  unfold LastNz
  intro e
  rw [getLast_map, e] at h2
  cases ns with
  | nil => cases e
  | cons => simp at h2
end
theorem atI_end {α : Type} {xs : List α} {v : α} (h : xs.getLast? = some v) : atI xs (-1) = some v := by
  obtain ⟨ys, rfl⟩ := List.getLast?_eq_some_iff.mp h
  exact atI_last ys v
theorem atI_at {α : Type} {xs : List α} {i : Int} {j : Nat} {v : α} (e : i = (j : Int)) (h : xs[j]? = some v) : atI xs i = some v := by
  rw [e]
  exact atI_nat h
theorem drop_at {α : Type} {l : List α} {i : Nat} {x : α} (h : l[i]? = some x) : l.drop i = x :: l.drop (i + 1) := by
  obtain ⟨hi, e⟩ := List.getElem?_eq_some_iff.mp h
  rw [← e]
  exact List.drop_eq_getElem_cons hi
/-! ### lists of whole numbers compared -/
theorem dpAll_ints {K : PySem.W.Frag} {H : Hp} : ∀ ns : List Int, DpAll K H (ns.map V.int) (ns.map PyData.int)
  | [] => .nil
  | n :: ns => .cons (.int n) (dpAll_ints ns)
theorem canLay_ints : ∀ ns : List Int, PyData.canLayAll0 (ns.map PyData.int) = true
  | [] => by simp [PyData.canLayAll0]
  | n :: ns => by
    have := canLay_ints ns
    simp [PyData.canLayAll0, PyData.canLay0, this]
theorem depth_ints : ∀ ns : List Int, PyData.depthAll (ns.map PyData.int) ≤ 1
  | [] => by simp [PyData.depthAll]
  | n :: ns => by
    have := depth_ints ns
    simp only [List.map_cons, PyData.depthAll, PyData.depth]
    omega
theorem shaped_ints (ns : List Int) : SeqAt.shaped (.list (ns.map PyData.int)) = true := by
  unfold SeqAt.shaped
  have h1 : (PyData.list (ns.map PyData.int)).canLay0 = true := by simp [PyData.canLay0, canLay_ints]
  have h2 : (PyData.list (ns.map PyData.int)).depth ≤ 64 := by
    have := depth_ints ns
    simp only [PyData.depth]
    omega
  rw [h1, decide_eq_true h2]; rfl
theorem eqvAll_ints : ∀ ns ms : List Int, PyData.eqvAll (ns.map PyData.int) (ms.map PyData.int) = decide (ns = ms)
  | [], [] => by simp [PyData.eqvAll]
  | [], m :: ms => by simp [PyData.eqvAll]
  | n :: ns, [] => by simp [PyData.eqvAll]
  | n :: ns, m :: ms => by
    simp only [List.map_cons, PyData.eqvAll, eqvAll_ints ns ms, PyData.eqv]
    by_cases h1 : n = m <;> by_cases h2 : ns = ms <;> simp [h1, h2]
theorem eqv_ints (ns ms : List Int) : PyData.eqv (.list (ns.map PyData.int)) (.list (ms.map PyData.int)) = decide (ns = ms) := by
  simp only [PyData.eqv, eqvAll_ints]
section
variable {K : PySem.W.Frag} {H : Hp} {a b : Addr} {ns ms : List Int} {Q : VK}
theorem eqD_ints (h1 : SqL K H a (ns.map V.int)) (h2 : SqL K H b (ms.map V.int)) (q : Q (.bl (decide (ns = ms))) H) : rEqD K (.ref a) (.ref b) H Q :=
  ⟨_, _, .lst h1 (dpAll_ints ns), .lst h2 (dpAll_ints ms), shaped_ints ns, shaped_ints ms, by rw [eqv_ints]; exact q⟩
theorem neD_ints (h1 : SqL K H a (ns.map V.int)) (h2 : SqL K H b (ms.map V.int)) (q : Q (.bl (!decide (ns = ms))) H) : rNeD K (.ref a) (.ref b) H Q :=
  ⟨_, _, .lst h1 (dpAll_ints ns), .lst h2 (dpAll_ints ms), shaped_ints ns, shaped_ints ms, by rw [eqv_ints]; exact q⟩
end
/-- the law's own script: ints of at most a million bits -/
def spLaw (K : PySem.W.Frag) : Sp := fun vs H Q _ => ∃ (a : Addr) (ns : List Int), vs = [.ref a] ∧ SqL K H a (ns.map V.int) ∧ ns.length ≤ 63 ∧ (∀ z ∈ ns, z.natAbs < 2 ^ 1048576) ∧ ∀ H', Q (.bl true) H'
theorem bits_lt {z : Int} (h : Builtin.Int.intBits z ≤ 1048576) : z.natAbs < 2 ^ 1048576 := by
  unfold Builtin.Int.intBits at h
  by_cases e : z = 0
  · rw [e]; exact Nat.pow_pos (by decide)
  · have e' : (z == 0) = false := by simpa using e
    rw [e'] at h
    have h2 : z.natAbs.log2 < 1048576 := by
      have : z.natAbs.log2 + 1 ≤ 1048576 := h
      omega
    exact (Nat.log2_lt (by omega)).mp h2
/-- what is handed in where a row is wanted: whether it is one -/
inductive RowB (K : PySem.W.Frag) (H : Hp) : V → Bool → Prop where
  | lst {a : Addr} {xs : List V} (h : SqL K H a xs) (ht : ∀ y ∈ xs, ∃ n, Th K H y n) (hz : xs.length ≤ 8000000) : RowB K H (.ref a) (rowV xs)
  | no {x : V} {n : String} (h : Th K H x n) (hn : n ≠ "list") : RowB K H x false
theorem RowB.same {K : PySem.W.Frag} {H H' : Hp} {x : V} {b : Bool} (s : Same H H') (h : RowB K H x b) : RowB K H' x b := by
  cases h with
  | lst h ht hz => exact .lst (s.seq h) (fun y hy => let ⟨n, q⟩ := ht y hy; ⟨n, q.same s⟩) hz
  | no h hn => exact .no (h.same s) hn
theorem RowB.row {K : PySem.W.Frag} {H : Hp} {a : Addr} {ns : List Int} (h : SqL K H a (ns.map V.int)) (r : Row ns) (hz : ns.length ≤ 8000000) : RowB K H (.ref a) true := by
  have q : RowB K H (.ref a) (rowV (ns.map V.int)) := .lst h (fun y hy => by
    obtain ⟨i, _, rfl⟩ := List.mem_map.mp hy
    exact ⟨"int", th_int⟩) (by rw [List.length_map]; exact hz)
  rw [rowV_row r] at q
  exact q
theorem RowB.of {K : PySem.W.Frag} {H : Hp} {x : V} (h : RowB K H x true) : ∃ a ns, x = .ref a ∧ SqL K H a (ns.map V.int) ∧ Row ns ∧ ns.length ≤ 8000000 := by
  generalize hb : true = b at h
  cases h with
  | no h hn => cases hb
  | lst h ht hz =>
    obtain ⟨ns, rfl, r⟩ := row_of hb.symm
    exact ⟨_, ns, rfl, h, r, by rw [List.length_map] at hz; exact hz⟩
end Lf

namespace Lf
open PySem PySem.Spec L2
open PyProof.Rows hiding St
section
variable {K : PySem.W.Frag} {C : Ad} {vs : List V} {H : Hp} {Q : VK} {E : XK}
/-! ### is_whole, is_figure, is_row, need_row -/
def sp_is_whole (K : PySem.W.Frag) (C : Ad) : Sp := fun vs H Q _ => ∃ x n, vs = [x] ∧ Th K H x n ∧ Q (.bl (wh x)) H
/-- the reading of is_whole; slots: 0 thing -/
def t_is_whole (K : PySem.W.Frag) (C : Ad) (E : XK) : TS :=
      (tRet (tAndV (tCB (rIsi K) (tCons (tVar 0) (tCons (tC (.ty "int")) tNil))) (tNotV (tCB (rIsi K) (tCons (tVar 0) (tCons (tC (.ty "bool")) tNil))))))
theorem r_is_whole (h : sp_is_whole K C vs H Q E) : t_is_whole K C E { nx := fun _ H' => Q .non H', rt := Q } (st 1 vs) H := by
  obtain ⟨x, n, rfl, hx, q⟩ := h
  unfold t_is_whole
  walk_at "st"
  walk_at "rd"
  rw [hx.wh] at q
  refine isi_int hx ?_
  walk_at "rd"
  rcases nm_cases hx.nm with e | e | e | e | e | e | e <;> subst e <;> simp at q ⊢ <;> first | exact q | (refine isi_bool hx ?_; simpa using q)
def sp_is_figure (K : PySem.W.Frag) (C : Ad) : Sp := fun vs H Q _ => ∃ x n, vs = [x] ∧ Th K H x n ∧ Q (.bl (fgB x)) H
/-- the reading of is_figure; slots: 0 thing -/
def t_is_figure (K : PySem.W.Frag) (C : Ad) (E : XK) : TS :=
      (tRet (tAndV (tF (sp_is_whole K C) E (tCons (tVar 0) tNil)) (tChain qLe qLe (tUn qNeg (tC (.int 1))) (tVar 0) (tC (.int 1)))))
theorem r_is_figure (h : sp_is_figure K C vs H Q E) : t_is_figure K C E { nx := fun _ H' => Q .non H', rt := Q } (st 1 vs) H := by
  obtain ⟨x, n, rfl, hx, q⟩ := h
  unfold t_is_figure
  walk_at "st"
  walk_at "rd"
  refine ⟨x, n, rfl, hx, ?_⟩
  cases x with
  | int i =>
    refine ⟨true, rfl, ?_⟩
    walk_at "rd"
    by_cases c : -1 ≤ i
    · simpa [fgB, c] using q
    · simpa [fgB, c] using q
  | _ => exact ⟨false, rfl, q⟩
def sp_is_row (K : PySem.W.Frag) (C : Ad) : Sp := fun vs H Q _ => ∃ x b, vs = [x] ∧ RowB K H x b ∧ ∀ H', Same H H' → Q (.bl b) H'
/-- the reading of is_row; slots: 0 thing 1 one -/
def t_is_row (K : PySem.W.Frag) (C : Ad) (E : XK) : TS :=
      (tSeq (tIfS (tOr (tNot (tB (tCB (rIsi K) (tCons (tVar 0) (tCons (tC (.ty "list")) tNil))))) (tNot (tB (tCB (rAll K) (tCons (tLc (iList K (tVar 0)) (gName 1) tYes (tF (sp_is_figure K C) E0 (tCons (tVar 1) tNil)) [1]) tNil))))) (tRet (tC (.bl false))) tNext)
      (tRet (tOrV (tOp (rEqD K) (tVar 0) (tLst tNil)) (tOp rNe (tOp (rIxL K) (tVar 0) (tUn qNeg (tC (.int 1)))) (tC (.int 0))))))
theorem r_is_row (h : sp_is_row K C vs H Q E) : t_is_row K C E { nx := fun _ H' => Q .non H', rt := Q } (st 2 vs) H := by
  obtain ⟨x, b, rfl, hb, q⟩ := h
  unfold t_is_row
  walk_at "st"
  walk_at "rd"
  cases hb with
  | no hx hn =>
    refine isi_list hx ?_
    rw [decide_eq_false hn]
    walk_at "rd"
    exact q H (Same.refl H)
  | @lst a xs hx ht hz =>
    refine isi_list (th_sq hx) ?_
    rw [decide_eq_true rfl]
    walk_at "rd"
    refine ⟨.ref a, rfl, a, rfl, ⟨_, hx⟩, fun D hD => ?_⟩
    refine lc_list (K := K) (a := a) (xs := xs) (fun i H' => Same H H' ∧ H' D = some (.lst ((xs.take i).map fun y => V.bl (fgB y)))) ⟨Same.new hD, upd_same⟩ (fun i H' _ p => p.1.seq hx) (fun i y H' hi p => ?_) (fun H' p => ?_)
    · walk_at "rd"
      obtain ⟨n, hn⟩ := ht y (List.mem_of_getElem? hi)
      refine ⟨y, n, rfl, hn.same p.1, _, p.2, ?_, p.1.mut hD, ?_⟩
      · rw [List.length_map, List.length_take, sizeLine_is]; omega
      · rw [upd_same, take_snoc hi, List.map_append]; rfl
    · obtain ⟨p1, p2⟩ := p
      rw [List.take_length] at p2
      walk_at "rd"
      refine ⟨D, xs.map fgB, rfl, sq (by rw [p2, List.map_map]; rfl), ?_⟩
      walk_at "rd"
      have e1 : (xs.map fgB).all id = xs.all fgB := by rw [List.all_map]; rfl
      rw [e1]
      cases hall : xs.all fgB with
      | false =>
        walk_at "rd"
        have : rowV xs = false := by unfold rowV; rw [hall]; rfl
        rw [this] at q
        exact q H' p1
      | true =>
        walk_at "rd"
        obtain ⟨ns, rfl, hns⟩ := row_ints hall
        refine fun p hp => ?_
        have sp : Same H (upd H' p (.lst [])) := p1.add hp
        refine eqD_ints (ns := ns) (ms := []) (sp.seq hx) sq0 ?_
        walk_at "rd"
        have er : rowV (ns.map V.int) = (decide (ns = []) || !decide (ns.getLast? = some 0)) := by
          unfold rowV
          rw [hall, getLast_map]
          cases ns with
          | nil => rfl
          | cons z zs => cases e : (z :: zs).getLast? <;> simp
        rw [er] at q
        cases ns with
        | nil => 
          walk_at "rd"
          exact q _ sp
        | cons z zs =>
          rw [if_neg (List.cons_ne_nil _ _)]
          obtain ⟨w, hw⟩ : ∃ w, (z :: zs).getLast? = some w := ⟨_, List.getLast?_eq_some_getLast (List.cons_ne_nil z zs)⟩
          refine ⟨a, _, -1, .int w, rfl, rfl, sp.seq hx, ?_, ?_⟩
          · exact atI_end (by rw [getLast_map, hw]; rfl)
          · walk_at "rd"
            rw [hw] at q
            have := q _ sp
            simpa using this
def sp_need_row (K : PySem.W.Frag) (C : Ad) : Sp := fun vs H Q E => ∃ x b, vs = [x] ∧ RowB K H x b ∧ (b = true → ∀ H', Same H H' → Q .non H') ∧ (b = false → ∀ H', Same H H' → E (.ref C.NoRow) none H')
/-- the reading of need_row; slots: 0 thing -/
def t_need_row (K : PySem.W.Frag) (C : Ad) (E : XK) : TS :=
      (tIfS (tNot (tB (tF (sp_is_row K C) E (tCons (tVar 0) tNil)))) (tRaiseX C.NoRow E) tNext)
theorem r_need_row (h : sp_need_row K C vs H Q E) : t_need_row K C E { nx := fun _ H' => Q .non H', rt := Q } (st 1 vs) H := by
  obtain ⟨x, b, rfl, hb, q1, q2⟩ := h
  unfold t_need_row
  walk_at "st"
  walk_at "rd"
  refine ⟨x, b, rfl, hb, fun H' s => ?_⟩
  walk_at "rd"
  cases b with
  | true => exact q1 rfl H' s
  | false => exact q2 rfl H' s
/-! ### worth, weight, is_lean -/
/-- what a def promises that asks for a row: refused, or what is told of the row's figures -/
def rowSp (K : PySem.W.Frag) (C : Ad) (R : List Int → VK → Hp → Prop) : Sp := fun vs H Q E => ∃ x, vs = [x] ∧ ((RowB K H x false ∧ ∀ H', Same H H' → E (.ref C.NoRow) none H') ∨
  (∃ a ns, x = .ref a ∧ SqL K H a (ns.map V.int) ∧ Row ns ∧ ns.length ≤ 8000000 ∧ ∀ H', Same H H' → R ns Q H'))
def sp_worth (K : PySem.W.Frag) (C : Ad) : Sp := rowSp K C fun ns Q H => Q (.int (wl ns)) H
/-- the reading of worth; slots: 0 row 1 found 2 figure -/
def t_worth (K : PySem.W.Frag) (C : Ad) (E : XK) : TS :=
      (tSeq (tDrop (tF (sp_need_row K C) E (tCons (tVar 0) tNil)))
      (tSeq (tAsg (tC (.int 0)) (gName 1))
      (tSeq (tFor (iRev K (tCons (tVar 0) tNil)) (gName 2) (tAsg (tOp qAdd (tOp qMul (tC (.int 2)) (tVar 1)) (tVar 2)) (gName 1)))
      (tRet (tVar 1)))))
theorem r_worth (h : sp_worth K C vs H Q E) : t_worth K C E { nx := fun _ H' => Q .non H', rt := Q } (st 3 vs) H := by
  obtain ⟨x, rfl, h⟩ := h
  unfold t_worth
  walk_at "st"
  walk_at "rd"
  rcases h with ⟨hb, q1⟩ | ⟨a, ns, rfl, hx, hr, hz, q2⟩
  · exact ⟨x, false, rfl, hb, (fun e => by cases e), fun _ => q1⟩
  refine ⟨.ref a, true, rfl, RowB.row hx hr hz, fun _ H1 s1 => ?_, fun e => by cases e⟩
  walk_at "rd"
  refine f_rev (fun i σ H' => ∃ y, σ = [some (.ref a), some (.int (wl (ns.drop (ns.length - i)))), y] ∧ Same H H') rfl ⟨none, by simp [wl], s1⟩ (s1.seq hx) (fun i σ H' ⟨_, _, p⟩ => p.seq hx) (fun i x σ H' hi hlt ⟨y, e, p⟩ => ?_) (fun σ H' ⟨y, e, p⟩ => ?_)
  · subst e
    rw [List.length_map] at hi hlt
    obtain ⟨z, hz1, rfl⟩ := mapE hi
    walk_at "rd"
    refine ⟨some (.int z), ?_, p⟩
    have e1 : ns.length - (i + 1) = ns.length - 1 - i := by omega
    have e2 : ns.length - 1 - i + 1 = ns.length - i := by omega
    rw [e1, drop_at hz1, e2]
    simp only [wl]
    rw [Int.add_comm z]
  · subst e
    walk_at "rd"
    rw [List.length_map, Nat.sub_self, List.drop_zero]
    exact q2 H' p
/-- how many figures other than 0 -/
def wt (ns : List Int) : Nat := (ns.filter fun x => !decide (x = 0)).length
def sp_weight (K : PySem.W.Frag) (C : Ad) : Sp := rowSp K C fun ns Q H => Q (.int (wt ns : Nat)) H
/-- the reading of weight; slots: 0 row 1 figure -/
def t_weight (K : PySem.W.Frag) (C : Ad) (E : XK) : TS :=
      (tSeq (tDrop (tF (sp_need_row K C) E (tCons (tVar 0) tNil)))
      (tRet (tCB (qLen K) (tCons (tLc (iList K (tVar 0)) (gName 1) (tTest (tOp rNe (tVar 1) (tC (.int 0)))) (tVar 1) [1]) tNil))))
theorem r_weight (h : sp_weight K C vs H Q E) : t_weight K C E { nx := fun _ H' => Q .non H', rt := Q } (st 2 vs) H := by
  obtain ⟨x, rfl, h⟩ := h
  unfold t_weight
  walk_at "st"
  walk_at "rd"
  rcases h with ⟨hb, q1⟩ | ⟨a, ns, rfl, hx, hr, hz, q2⟩
  · exact ⟨x, false, rfl, hb, (fun e => by cases e), fun _ => q1⟩
  refine ⟨.ref a, true, rfl, RowB.row hx hr hz, fun _ H1 s1 => ?_, fun e => by cases e⟩
  walk_at "rd"
  refine ⟨.ref a, rfl, a, rfl, ⟨_, s1.seq hx⟩, fun D hD => ?_⟩
  refine lc_list (K := K) (a := a) (xs := ns.map V.int) (fun i H' => Same H1 H' ∧ H' D = some (.lst (((ns.take i).filter fun x => !decide (x = 0)).map V.int))) ⟨Same.new hD, upd_same⟩ (fun i H' _ p => p.1.seq (s1.seq hx)) (fun i y H' hi p => ?_) (fun H' p => ?_)
  · obtain ⟨z, hz1, rfl⟩ := mapE hi
    walk_at "rd"
    by_cases hz0 : z = 0
    · rw [if_pos hz0]
      refine ⟨p.1, ?_⟩
      rw [p.2, take_snoc hz1, List.filter_append]
      simp [hz0]
    · rw [if_neg hz0]
      refine ⟨_, p.2, ?_, p.1.mut hD, ?_⟩
      · rw [List.length_map, sizeLine_is]
        have := List.length_filter_le (fun x => !decide (x = 0)) (ns.take i)
        rw [List.length_take] at this
        omega
      · rw [upd_same, take_snoc hz1, List.filter_append, List.map_append]
        simp [hz0]
  · obtain ⟨p1, p2⟩ := p
    rw [List.length_map, List.take_length] at p2
    walk_at "rd"
    refine ⟨D, _, rfl, .inl (sq p2), ?_⟩
    rw [List.length_map]
    exact q2 H' (s1.trans p1)
/-- whether of each two neighbours one is 0 -/
def apB (ns : List Int) : Bool := (ns.zip (ns.drop 1)).all fun p => decide (p.1 = 0) || decide (p.2 = 0)
theorem apB_iff : ∀ ns : List Int, apB ns = true ↔ Apart ns
  | [] => by simp [apB, Apart]
  | [x] => by simp [apB, Apart]
  | x :: y :: r => by
    have ih := apB_iff (y :: r)
    have e : apB (x :: y :: r) = ((decide (x = 0) || decide (y = 0)) && apB (y :: r)) := by simp [apB]
    rw [e, Bool.and_eq_true, ih]
    simp [Apart]
def sp_is_lean (K : PySem.W.Frag) (C : Ad) : Sp := rowSp K C fun ns Q H => Q (.bl (apB ns)) H
/-- the reading of is_lean; slots: 0 row 1 one 2 other -/
def t_is_lean (K : PySem.W.Frag) (C : Ad) (E : XK) : TS :=
      (tSeq (tDrop (tF (sp_need_row K C) E (tCons (tVar 0) tNil)))
      (tRet (tCB (rAll K) (tCons (tLc (iZip K (tCons (tVar 0) (tCons (tSl (rSlL K) (tVar 0) (tPart (tC (.int 1))) tNoPart) tNil))) (gTup K 2 (gCons (gName 1) (gCons (gName 2) gNil))) tYes (tOrV (tOp rEq (tVar 1) (tC (.int 0))) (tOp rEq (tVar 2) (tC (.int 0)))) [1, 2]) tNil))))
theorem cut1 (xs : List V) : cutV xs (some 1) none = xs.drop 1 := by
  unfold cutV
  rw [show HT.sIx xs.length 0 (some 1) = min 1 xs.length from HT.sIx_nat xs.length 0 1, HT.sIx_none]
  cases xs with
  | nil => rfl
  | cons x r =>
    rw [show min 1 (x :: r).length = 1 by rw [List.length_cons]; omega]
    show (List.take ((x :: r).length - 1) r) = r
    rw [List.length_cons, Nat.add_sub_cancel]
    exact List.take_length
theorem r_is_lean (h : sp_is_lean K C vs H Q E) : t_is_lean K C E { nx := fun _ H' => Q .non H', rt := Q } (st 3 vs) H := by
  obtain ⟨x, rfl, h⟩ := h
  unfold t_is_lean
  walk_at "st"
  walk_at "rd"
  rcases h with ⟨hb, q1⟩ | ⟨a, ns, rfl, hx, hr, hz, q2⟩
  · exact ⟨x, false, rfl, hb, (fun e => by cases e), fun _ => q1⟩
  refine ⟨.ref a, true, rfl, RowB.row hx hr hz, fun _ H1 s1 => ?_, fun e => by cases e⟩
  walk_at "rd"
  refine ⟨.ref a, rfl, .ref a, rfl, 1, rfl, a, _, rfl, s1.seq hx, fun b hb' => ?_⟩
  rw [cut1]
  have sb : Same H1 (upd H1 b (.lst ((ns.map V.int).drop 1))) := Same.new hb'
  refine ⟨a, b, _, _, rfl, sb.seq (s1.seq hx), sq0, fun D hD => ?_⟩
  have hl : (ns.zip (ns.drop 1)).length = ns.length - 1 := by rw [List.length_zip, List.length_drop]; omega
  refine lc_any (ns.length - 1) (fun i H' => Same H1 H' ∧ H' b = some (.lst ((ns.map V.int).drop 1)) ∧ H' D = some (.lst (((ns.zip (ns.drop 1)).take i).map fun p => V.bl (decide (p.1 = 0) || decide (p.2 = 0))))) ⟨sb.add hD, ?_, upd_same⟩ ?_ ?_ ?_ ?_
  · rw [upd_ne (fun e => by rw [e, upd_same] at hD; cases hD), upd_same]
  · intro i H' hi p
    have hi' : i < (ns.map V.int).length := by rw [List.length_map]; omega
    have hi2 : i < ((ns.map V.int).drop 1).length := by rw [List.length_drop, List.length_map]; omega
    obtain ⟨u, hu⟩ := getE hi'
    obtain ⟨v, hv⟩ := getE hi2
    exact ⟨_, _, u, v, p.1.seq (s1.seq hx), sq p.2.1, hu, hv⟩
  · intro H' p
    refine ⟨_, _, p.1.seq (s1.seq hx), sq p.2.1, .inr ?_⟩
    rw [List.length_drop, List.length_map]; omega
  · rintro i H' hi ⟨p1, p2, p3⟩ w H2 ⟨T, u, v, rfl, nT, rfl, ku, kv⟩
    have hu := ku _ (p1.seq (s1.seq hx))
    have hv := kv _ (sq p2)
    rw [← List.map_drop] at hv
    obtain ⟨z1, hz1, rfl⟩ := mapE hu
    obtain ⟨z2, hz2, rfl⟩ := mapE hv
    walk_at "rd"
    refine ⟨_, sqt upd_same, rfl, ?_⟩
    walk_at "rd"
    have hg : (ns.zip (ns.drop 1))[i]? = some (z1, z2) := by rw [List.getElem?_zip_eq_some]; exact ⟨hz1, hz2⟩
    have nTD : D ≠ T := ne_of_none p3 nT
    have nTb : b ≠ T := ne_of_none p2 nT
    have go : ∀ c : Bool, c = (decide (z1 = 0) || decide (z2 = 0)) → ∃ acc, (upd H' T (.tup [.int z1, .int z2])) D = some (.lst acc) ∧ acc.length < sizeLine ∧
        Same H1 (upd (upd H' T (.tup [.int z1, .int z2])) D (.lst (acc ++ [.bl c]))) ∧ (upd (upd H' T (.tup [.int z1, .int z2])) D (.lst (acc ++ [.bl c]))) b = some (.lst ((ns.map V.int).drop 1)) ∧
        (upd (upd H' T (.tup [.int z1, .int z2])) D (.lst (acc ++ [.bl c]))) D = some (.lst (((ns.zip (ns.drop 1)).take (i + 1)).map fun p => V.bl (decide (p.1 = 0) || decide (p.2 = 0)))) := fun c hc => by
      refine ⟨_, by rw [upd_ne nTD]; exact p3, ?_, (p1.add nT).mut ?_, ?_, ?_⟩
      · rw [List.length_map, List.length_take, hl, sizeLine_is]; omega
      · exact sb.free hD
      · rw [upd_ne (fun e => by rw [e, upd_same] at hD; cases hD), upd_ne nTb]; exact p2
      · rw [upd_same, take_snoc hg, List.map_append, hc]; rfl
    by_cases c : z1 = 0
    · rw [if_pos c]
      exact go true (by simp [c])
    · rw [if_neg c]
      exact go _ (by simp [c])
  · rintro H' ⟨p1, p2, p3⟩
    rw [← hl, List.take_length] at p3
    walk_at "rd"
    refine ⟨D, (ns.zip (ns.drop 1)).map fun p => decide (p.1 = 0) || decide (p.2 = 0), rfl, sq (by rw [p3, List.map_map]; rfl), ?_⟩
    have e1 : ((ns.zip (ns.drop 1)).map fun p => decide (p.1 = 0) || decide (p.2 = 0)).all id = apB ns := by rw [List.all_map]; rfl
    rw [e1]
    exact q2 H' (s1.trans p1)
/-! ### need_number, lean -/
def sp_need_number (K : PySem.W.Frag) (C : Ad) : Sp := fun vs H Q E => ∃ x n, vs = [x] ∧ Th K H x n ∧ (wh x = true → Q .non H) ∧ (wh x = false → E (.ref C.NoNumber) none H)
/-- the reading of need_number; slots: 0 thing -/
def t_need_number (K : PySem.W.Frag) (C : Ad) (E : XK) : TS :=
      (tIfS (tNot (tB (tF (sp_is_whole K C) E (tCons (tVar 0) tNil)))) (tRaiseX C.NoNumber E) tNext)
theorem r_need_number (h : sp_need_number K C vs H Q E) : t_need_number K C E { nx := fun _ H' => Q .non H', rt := Q } (st 1 vs) H := by
  obtain ⟨x, n, rfl, hx, q1, q2⟩ := h
  unfold t_need_number
  walk_at "st"
  walk_at "rd"
  refine ⟨x, n, rfl, hx, ?_⟩
  walk_at "rd"
  cases e : wh x with
  | true => exact q1 e
  | false => exact q2 e
theorem wh_int {x : V} (h : wh x = true) : ∃ i, x = .int i := by
  cases x with
  | int i => exact ⟨i, rfl⟩
  | _ => cases h
def sp_lean (K : PySem.W.Frag) (C : Ad) : Sp := fun vs H Q E => ∃ x n, vs = [x] ∧ Th K H x n ∧ (wh x = false → E (.ref C.NoNumber) none H) ∧
  (∀ i, x = .int i → (naf i).length < 16777216 ∧ ∀ H' p, Same H H' → H p = none → H' p = some (.lst ((naf i).map V.int)) → Q (.ref p) H')
/-- the reading of lean; slots: 0 number 1 left 2 found 3 figure -/
def t_lean (K : PySem.W.Frag) (C : Ad) (E : XK) : TS :=
      (tSeq (tDrop (tF (sp_need_number K C) E (tCons (tVar 0) tNil)))
      (tSeq (tAsg (tVar 0) (gName 1))
      (tSeq (tAsg (tLst tNil) (gName 2))
      (tSeq (tWhile (tTest (tOp rNe (tVar 1) (tC (.int 0)))) (tSeq (tAsg (tC (.int 0)) (gName 3))
      (tSeq (tIfS (tTest (tOp rNe (tOp qMod (tVar 1) (tC (.int 2))) (tC (.int 0)))) (tAsg (tOp qSub (tC (.int 2)) (tOp qMod (tVar 1) (tC (.int 4)))) (gName 3)) tNext)
      (tSeq (tDrop (tBM K "list" rAppend (tVar 2) (tCons (tVar 3) tNil)))
      (tAsg (tOp qDiv (tOp qSub (tVar 1) (tVar 3)) (tC (.int 2))) (gName 1))))))
      (tRet (tVar 2))))))
theorem r_lean (h : sp_lean K C vs H Q E) : t_lean K C E { nx := fun _ H' => Q .non H', rt := Q } (st 4 vs) H := by
  obtain ⟨x, n, rfl, hx, q1, q2⟩ := h
  unfold t_lean
  walk_at "st"
  walk_at "rd"
  refine ⟨x, n, rfl, hx, fun e => ?_, q1⟩
  obtain ⟨i, rfl⟩ := wh_int e
  obtain ⟨hz, q⟩ := q2 i rfl
  walk_at "rd"
  refine fun p hp => ?_
  refine f_while (fun m σ H' => ∃ k y, σ = [some (.int i), some (.int (rst i k)), some (.ref p), y] ∧ m = (rst i k).natAbs ∧ Same H H' ∧ H' p = some (.lst ((figs i k).map V.int)) ∧ k ≤ (naf i).length) i.natAbs (by walk_at "mono") ⟨0, none, rfl, rfl, Same.new hp, upd_same, Nat.zero_le _⟩ ?_
  rintro m σ H' ⟨k, y, rfl, rfl, p1, p2, p4⟩
  walk_at "rd"
  by_cases h0 : rst i k = 0
  · rw [if_pos h0]
    rw [figs_done h0 p4] at p2
    exact q H' p p1 hp p2
  · rw [if_neg h0]
    have hk := rst_long k i h0
    have go : ∀ f : Int, f = fig (rst i k) → tyV K "list" (.ref p) H' ∧ rAppend (.ref p) [.int f] H' fun x H1 => CDiv (rst i k - f) 2 ∧ ∃ m', m' < (rst i k).natAbs ∧ ∃ k_1 y, [some (V.int i), some (.int ((rst i k - f) / 2)), some (.ref p), some (.int f)] = [some (V.int i), some (.int (rst i k_1)), some (.ref p), y] ∧
        m' = (rst i k_1).natAbs ∧ Same H H1 ∧ H1 p = some (.lst ((figs i k_1).map V.int)) ∧ k_1 ≤ (naf i).length := fun f hf => by
      refine ⟨.inl ⟨rfl, _, sq p2⟩, p, _, _, rfl, rfl, p2, ?_, ⟨by decide, by decide⟩, (rst i (k + 1)).natAbs, ?_, k + 1, some (.int f), ?_, rfl, p1.mut hp, ?_, hk⟩
      · rw [List.length_map, figs_len, sizeLine_is]; omega
      · rw [rst_snoc]; exact nxt_lt h0
      · rw [rst_snoc, hf]; rfl
      · rw [upd_same, figs_snoc, List.map_append, hf]; rfl
    walk_at "rd"
    by_cases h2 : rst i k % 2 = 0
    · rw [if_pos h2]
      obtain ⟨g1, g2⟩ := go 0 (by unfold fig; rw [if_neg (by simpa using h2)])
      refine ⟨g1, ?_⟩
      simpa only [Lf.r_cdiv, Int.reduceLT, and_self, true_and] using g2
    · rw [if_neg h2]
      obtain ⟨g1, g2⟩ := go _ (by unfold fig; rw [if_pos h2])
      refine ⟨g1, ?_⟩
      simpa only [Lf.r_cdiv, Int.reduceLT, and_self, true_and] using g2
end
end Lf

namespace Lf
open PySem PySem.Spec L2
open PyProof.Rows hiding St
section
variable {K : PySem.W.Frag} {C : Ad} {vs : List V} {H : Hp} {Q : VK} {E : XK}
/-! ### the law's own helpers: a cell, a number mixed of it -/
def cellAt (ns : List Int) (k : Int) : Int := ns.getD k.toNat 0
def sp__law_cell_at (K : PySem.W.Frag) (C : Ad) : Sp := fun vs H Q _ => ∃ (a : Addr) (ns : List Int) (k : Int), vs = [.ref a, .int k] ∧ SqL K H a (ns.map V.int) ∧ 0 ≤ k ∧ Q (.int (cellAt ns k)) H
/-- the reading of _law_cell_at; slots: 0 _law_script 1 _law_k -/
def t__law_cell_at (K : PySem.W.Frag) (C : Ad) (E : XK) : TS :=
      (tSeq (tIfS (tTest (tOp qLt (tVar 1) (tCB (qLen K) (tCons (tVar 0) tNil)))) (tRet (tOp (rIxL K) (tVar 0) (tVar 1))) tNext)
      (tRet (tC (.int 0))))
theorem r__law_cell_at (h : sp__law_cell_at K C vs H Q E) : t__law_cell_at K C E { nx := fun _ H' => Q .non H', rt := Q } (st 2 vs) H := by
  obtain ⟨a, ns, k, rfl, hx, h0, q⟩ := h
  unfold t__law_cell_at
  walk_at "st"
  walk_at "rd"
  refine ⟨a, _, rfl, .inl hx, ?_⟩
  walk_at "rd"
  rw [List.length_map]
  by_cases c : k < (ns.length : Int)
  · rw [if_pos c]
    obtain ⟨z, hz⟩ := getE (show k.toNat < ns.length by omega)
    refine ⟨a, _, k, .int z, rfl, rfl, hx, atI_at (j := k.toNat) (by omega) (by rw [List.getElem?_map, hz]; rfl), ?_⟩
    unfold cellAt at q
    rw [List.getD_eq_getElem?_getD, hz] at q
    exact q
  · rw [if_neg c]
    unfold cellAt at q
    rw [List.getD_eq_getElem?_getD, List.getElem?_eq_none (by omega)] at q
    exact q
def mixed (c k : Int) : Int := (c % 1000000007 + 1) * 48271 % 2147483647 * (16807 + 7919 * k * k + 31 * k) % 2147483629 / 7
theorem mixed_nn (c k : Int) : 0 ≤ mixed c k := by unfold mixed; omega
theorem mixed_lt (c k : Int) : mixed c k < 2147483629 := by unfold mixed; omega
def sp__law_mixed (K : PySem.W.Frag) (C : Ad) : Sp := fun vs H Q _ => ∃ c k : Int, vs = [.int c, .int k] ∧ 0 ≤ k ∧ k ≤ 100 ∧ Q (.int (mixed c k)) H
/-- the reading of _law_mixed; slots: 0 _law_cell 1 _law_k 2 _law_number_here -/
def t__law_mixed (K : PySem.W.Frag) (C : Ad) (E : XK) : TS :=
      (tSeq (tAsg (tOp qMod (tOp qMul (tOp qAdd (tOp qMod (tVar 0) (tC (.int 1000000007))) (tC (.int 1))) (tC (.int 48271))) (tC (.int 2147483647))) (gName 2))
      (tRet (tOp qDiv (tOp qMod (tOp qMul (tVar 2) (tOp qAdd (tOp qAdd (tC (.int 16807)) (tOp qMul (tOp qMul (tC (.int 7919)) (tVar 1)) (tVar 1))) (tOp qMul (tC (.int 31)) (tVar 1)))) (tC (.int 2147483629))) (tC (.int 7)))))
theorem r__law_mixed (h : sp__law_mixed K C vs H Q E) : t__law_mixed K C E { nx := fun _ H' => Q .non H', rt := Q } (st 3 vs) H := by
  obtain ⟨c, k, rfl, h0, h1, q⟩ := h
  unfold t__law_mixed
  walk_at "st"
  walk_at "rd"
  exact ⟨by omega, by omega, q⟩
def sp__law_whole (K : PySem.W.Frag) (C : Ad) : Sp := fun vs H Q _ => ∃ x n, vs = [x] ∧ Th K H x n ∧ Q (.bl (wh x)) H
/-- the reading of _law_whole; slots: 0 _law_found -/
def t__law_whole (K : PySem.W.Frag) (C : Ad) (E : XK) : TS :=
      (tRet (tAndV (tCB (rIsi K) (tCons (tVar 0) (tCons (tC (.ty "int")) tNil))) (tNotV (tCB (rIsi K) (tCons (tVar 0) (tCons (tC (.ty "bool")) tNil))))))
theorem r__law_whole (h : sp__law_whole K C vs H Q E) : t__law_whole K C E { nx := fun _ H' => Q .non H', rt := Q } (st 1 vs) H := by
  obtain ⟨x, n, rfl, hx, q⟩ := h
  unfold t__law_whole
  walk_at "st"
  walk_at "rd"
  rw [hx.wh] at q
  refine isi_int hx ?_
  walk_at "rd"
  rcases nm_cases hx.nm with e | e | e | e | e | e | e <;> subst e <;> simp at q ⊢ <;> first | exact q | (refine isi_bool hx ?_; simpa using q)
/-! ### a number of a cell -/
def num (c : Int) : Int :=
  [c / 8 % 23 - 11, 2 ^ (c / 8 / 9 % 200).toNat + c / 8 % 9 - 4, 2 ^ (c / 8 / 9 % 200).toNat / 3 + c / 8 % 5 - 2, 0 - 2 ^ (c / 8 / 9 % 200).toNat + c / 8 % 9 - 4,
    c / 8 * 48271 % (2 * 10 ^ 60 + 1) - 10 ^ 60, c / 8 * 48271 % (2 * 10 ^ 60 + 1) - 10 ^ 60, c % (2 * 10 ^ 60 + 1) - 10 ^ 60, c / 8 % 2000001 - 1000000].getD (c % 8).toNat 0
def sp__law_number (K : PySem.W.Frag) (C : Ad) : Sp := fun vs H Q _ => ∃ c : Int, vs = [.int c] ∧ ∀ H', Same H H' → Q (.int (num c)) H'
/-- the reading of _law_number; slots: 0 _law_cell 1 _law_more 2 _law_power 3 _law_turn 4 _law_some 5 _law_wide -/
def t__law_number (K : PySem.W.Frag) (C : Ad) (E : XK) : TS :=
      (tSeq (tAsg (tOp qDiv (tVar 0) (tC (.int 8))) (gName 1))
      (tSeq (tAsg (tC (.int 1)) (gName 2))
      (tSeq (tFor (iRng1 (tCons (tOp qMod (tOp qDiv (tVar 1) (tC (.int 9))) (tC (.int 200))) tNil)) (gName 3) (tAsg (tOp qMul (tVar 2) (tC (.int 2))) (gName 2)))
      (tSeq (tAsg (tLst (tCons (tOp qSub (tOp qMod (tVar 1) (tC (.int 23))) (tC (.int 11))) (tCons (tOp qSub (tOp qAdd (tVar 2) (tOp qMod (tVar 1) (tC (.int 9)))) (tC (.int 4))) (tCons (tOp qSub (tOp qAdd (tOp qDiv (tVar 2) (tC (.int 3))) (tOp qMod (tVar 1) (tC (.int 5)))) (tC (.int 2))) (tCons (tOp qSub (tOp qAdd (tOp qSub (tC (.int 0)) (tVar 2)) (tOp qMod (tVar 1) (tC (.int 9)))) (tC (.int 4))) tNil))))) (gName 4))
      (tSeq (tAsg (tOp qSub (tOp qMod (tOp qMul (tVar 1) (tC (.int 48271))) (tOp qAdd (tOp qMul (tC (.int 2)) (tOp qPow (tC (.int 10)) (tC (.int 60)))) (tC (.int 1)))) (tOp qPow (tC (.int 10)) (tC (.int 60)))) (gName 5))
      (tRet (tOp (rIxL K) (tOp (qCat K) (tVar 4) (tLst (tCons (tVar 5) (tCons (tVar 5) (tCons (tOp qSub (tOp qMod (tVar 0) (tOp qAdd (tOp qMul (tC (.int 2)) (tOp qPow (tC (.int 10)) (tC (.int 60)))) (tC (.int 1)))) (tOp qPow (tC (.int 10)) (tC (.int 60)))) (tCons (tOp qSub (tOp qMod (tVar 1) (tC (.int 2000001))) (tC (.int 1000000))) tNil)))))) (tOp qMod (tVar 0) (tC (.int 8))))))))))
theorem r__law_number (h : sp__law_number K C vs H Q E) : t__law_number K C E { nx := fun _ H' => Q .non H', rt := Q } (st 6 vs) H := by
  obtain ⟨c, rfl, q⟩ := h
  unfold t__law_number
  walk_at "st"
  walk_at "rd"
  refine f_range (n := c / 8 / 9 % 200) (fun i σ H' => ∃ y, σ = [some (.int c), some (.int (c / 8)), some (.int (2 ^ i)), y, none, none] ∧ H' = H) (by walk_at "mono") ?_ (by omega) ⟨none, rfl, rfl⟩ (fun i σ H' hi ⟨y, e, e2⟩ => ?_) (fun σ H' ⟨y, e, e2⟩ => ?_)
  · walk_at "rd"
  · subst e e2
    walk_at "rd"
    exact ⟨_, by rw [Int.pow_succ]⟩
  · subst e e2
    walk_at "rd"
    intro p hp p1 hp1
    refine ⟨p, p1, _, _, rfl, rfl, sq (by rw [upd_ne (ne_of_none upd_same hp1)]; exact upd_same), sq0, by rw [sizeLine_is]; simp, fun p2 hp2 => ?_⟩
    walk_at "rd"
    have h8 : 0 ≤ c % 8 ∧ c % 8 < 8 := by omega
    refine ⟨p2, _, _, .int (num c), rfl, rfl, sq0, ?_, q _ (((Same.new hp).add hp1).add hp2)⟩
    generalize hk : c % 8 = k at h8
    have hk' : k = 0 ∨ k = 1 ∨ k = 2 ∨ k = 3 ∨ k = 4 ∨ k = 5 ∨ k = 6 ∨ k = 7 := by omega
    unfold num
    rw [hk]
    rcases hk' with e | e | e | e | e | e | e | e <;> subst e <;> rfl
theorem num_lt (c : Int) : (num c).natAbs < 2 ^ 210 := by
  have hp : ∀ e : Nat, e < 200 → (0 : Int) < 2 ^ e ∧ (2 : Int) ^ e < 2 ^ 200 := fun e he => ⟨Int.pow_pos (by decide), by
    have : (2:Nat) ^ e < 2 ^ 200 := Nat.pow_lt_pow_right (by decide) he
    exact_mod_cast this⟩
  obtain ⟨h1, h2⟩ := hp (c / 8 / 9 % 200).toNat (by omega)
  have e200 : (2:Int) ^ 200 = 1606938044258990275541962092341162602522202993782792835301376 := by decide
  have e210 : (2:Nat) ^ 210 = 1645504557321206042154969182557350504982735865633579863348609024 := by decide
  have e60 : (10:Int) ^ 60 = 1000000000000000000000000000000000000000000000000000000000000 := by decide
  unfold num
  rw [e60, e210]
  rw [e200] at h2
  have h8 : 0 ≤ c % 8 ∧ c % 8 < 8 := by omega
  generalize c % 8 = k at h8
  have hk' : k = 0 ∨ k = 1 ∨ k = 2 ∨ k = 3 ∨ k = 4 ∨ k = 5 ∨ k = 6 ∨ k = 7 := by omega
  rcases hk' with e | e | e | e | e | e | e | e <;> subst e <;> simp only [List.getD_cons_succ, List.getD_cons_zero, Int.reduceToNat] <;> omega
/-! ### what a row is worth, whether it is lean, by the law's own going -/
def sp__law_worth (K : PySem.W.Frag) (C : Ad) : Sp := fun vs H Q _ => ∃ (a : Addr) (ns : List Int), vs = [.ref a] ∧ SqL K H a (ns.map V.int) ∧ (∀ x ∈ ns, Fg x) ∧ Q (.int (wl ns)) H
/-- the reading of _law_worth; slots: 0 _law_row_here 1 _law_found 2 _law_power 3 _law_figure -/
def t__law_worth (K : PySem.W.Frag) (C : Ad) (E : XK) : TS :=
      (tSeq (tAsg (tC (.int 0)) (gName 1))
      (tSeq (tAsg (tC (.int 1)) (gName 2))
      (tSeq (tFor (iList K (tVar 0)) (gName 3) (tSeq (tAsg (tOp qAdd (tVar 1) (tOp qMul (tVar 3) (tVar 2))) (gName 1))
      (tAsg (tOp qMul (tVar 2) (tC (.int 2))) (gName 2))))
      (tRet (tVar 1)))))
theorem r__law_worth (h : sp__law_worth K C vs H Q E) : t__law_worth K C E { nx := fun _ H' => Q .non H', rt := Q } (st 4 vs) H := by
  obtain ⟨a, ns, rfl, hx, hf, q⟩ := h
  unfold t__law_worth
  walk_at "st"
  walk_at "rd"
  refine f_list (fun i σ H' => ∃ y, σ = [some (.ref a), some (.int (wl (ns.take i))), some (.int (2 ^ i)), y] ∧ H' = H) rfl ⟨none, rfl, rfl⟩ hx (fun i σ H' ⟨_, _, e⟩ => e ▸ hx) (fun i x σ H' hi hlt ⟨y, e, e2⟩ => ?_) (fun σ H' ⟨y, e, e2⟩ => ?_)
  · subst e e2
    obtain ⟨z, hz, rfl⟩ := mapE hi
    have hz1 := hf z (List.mem_of_getElem? hz)
    walk_at "rd"
    have hlen : (ns.take i).length = i := by
      rw [List.length_map] at hlt
      rw [List.length_take]; omega
    refine ⟨.inl (by unfold Fg at hz1; omega), some (.int z), ?_⟩
    rw [take_snoc hz, wl_append, hlen, Int.pow_succ]
    simp only [wl]
    rw [Int.mul_comm z]; simp
  · subst e e2
    walk_at "rd"
    rw [List.length_map, List.take_length]
    exact q
theorem cut_last (xs : List V) : cutV xs (some (-1)) none = xs.drop (xs.length - 1) := by
  unfold cutV
  rw [HT.sIx_none, show HT.sIx xs.length 0 (some (-1)) = xs.length - 1 by
    show (if (-1 : Int) < 0 then ((-1 : Int) + (xs.length : Int)).toNat else min (-1 : Int).toNat xs.length) = xs.length - 1
    rw [if_pos (by decide)]; omega]
  exact List.take_of_length_le (by rw [List.length_drop]; omega)
theorem apB_at (ns : List Int) : apB ns = true ↔ ∀ (j : Nat) (x y : Int), ns[j]? = some x → ns[j + 1]? = some y → x = 0 ∨ y = 0 := by
  unfold apB
  rw [List.all_eq_true]
  constructor
  · intro h j x y hx hy
    have e : (ns.zip (ns.drop 1))[j]? = some (x, y) := by
      rw [List.getElem?_zip_eq_some, List.getElem?_drop, Nat.add_comm 1 j]; exact ⟨hx, hy⟩
    have := h _ (List.mem_of_getElem? e)
    simpa using this
  · intro h p hp
    obtain ⟨j, hj⟩ := List.mem_iff_getElem?.mp hp
    rw [List.getElem?_zip_eq_some, List.getElem?_drop, Nat.add_comm 1 j] at hj
    have := h j p.1 p.2 hj.1 hj.2
    simpa using this
def sp__law_is_lean (K : PySem.W.Frag) (C : Ad) : Sp := fun vs H Q _ => ∃ (a : Addr) (ns : List Int), vs = [.ref a] ∧ SqL K H a (ns.map V.int) ∧ Row ns ∧ ns.length ≤ 8000000 ∧ ∀ H', Same H H' → Q (.bl (apB ns)) H'
/-- the reading of _law_is_lean; slots: 0 _law_row_here 1 _law_k -/
def t__law_is_lean (K : PySem.W.Frag) (C : Ad) (E : XK) : TS :=
      (tSeq (tIfS (tOr (tNot (tB (tCB (rIsi K) (tCons (tVar 0) (tCons (tC (.ty "list")) tNil))))) (tTest (tOp (rEqD K) (tSl (rSlL K) (tVar 0) (tPart (tUn qNeg (tC (.int 1)))) tNoPart) (tLst (tCons (tC (.int 0)) tNil))))) (tRet (tC (.bl false))) tNext)
      (tSeq (tFor (iRng1 (tCons (tCB (qLen K) (tCons (tVar 0) tNil)) tNil)) (gName 1) (tIfS (tOr (tNot (tB (tF (sp__law_whole K C) E (tCons (tOp (rIxL K) (tVar 0) (tVar 1)) tNil)))) (tOr (tTest (tOp (rIn K true) (tOp (rIxL K) (tVar 0) (tVar 1)) (tTup (tCons (tUn qNeg (tC (.int 1))) (tCons (tC (.int 0)) (tCons (tC (.int 1)) tNil)))))) (tAnd (tTest (tOp qGt (tVar 1) (tC (.int 0)))) (tAnd (tTest (tOp rNe (tOp (rIxL K) (tVar 0) (tVar 1)) (tC (.int 0)))) (tTest (tOp rNe (tOp (rIxL K) (tVar 0) (tOp qSub (tVar 1) (tC (.int 1)))) (tC (.int 0)))))))) (tRet (tC (.bl false))) tNext))
      (tRet (tC (.bl true)))))
theorem last_one {ns : List Int} (h : Row ns) : ns.drop (ns.length - 1) ≠ [0] := fun e => h.last (by
  have hne : ns ≠ [] := fun z => by rw [z] at e; cases e
  have e2 := List.getLast?_eq_getElem? (l := ns)
  have e3 : (ns.drop (ns.length - 1))[0]? = ns[ns.length - 1]? := by rw [List.getElem?_drop]; rfl
  rw [e2, ← e3, e]; rfl)
theorem fg_in {z : Int} {K : PySem.W.Frag} {H : Hp} {p : Addr} {Q : VK} (hz : Fg z) (hp : H p = some (.tup [.int (-1), .int 0, .int 1])) (q : Q (.bl false) H) : rIn K true (.int z) (.ref p) H Q := by
  refine ⟨p, _, rfl, .inr (sqt hp), rfl, rfl, ?_⟩
  rcases hz with rfl | rfl | rfl <;> exact q
theorem r__law_is_lean (h : sp__law_is_lean K C vs H Q E) : t__law_is_lean K C E { nx := fun _ H' => Q .non H', rt := Q } (st 2 vs) H := by
  obtain ⟨a, ns, rfl, hx, hr, hz, q⟩ := h
  unfold t__law_is_lean
  walk_at "st"
  walk_at "rd"
  refine isi_list (th_sq hx) ?_
  rw [decide_eq_true rfl]
  walk_at "rd"
  refine ⟨a, _, rfl, hx, ?_⟩
  rw [cut_last, ← List.map_drop, List.length_map]
  intro p hp p2 hp2
  have s2 := ((Same.new hp).add hp2 : Same H (upd (upd H p (.lst ((ns.drop (ns.length - 1)).map V.int))) p2 (.lst [.int 0])))
  refine eqD_ints (ns := ns.drop (ns.length - 1)) (ms := [0]) (sq (by rw [upd_ne (ne_of_none upd_same hp2)]; exact upd_same)) sq0 ?_
  walk_at "rd"
  rw [if_neg (last_one hr)]
  generalize (upd (upd H p (.lst ((ns.drop (ns.length - 1)).map V.int))) p2 (.lst [.int 0])) = H2 at s2
  refine f_range (n := (ns.length : Int)) (fun i σ H' => ∃ y, σ = [some (.ref a), y] ∧ Same H H' ∧ ∀ (j : Nat) (x y : Int), j + 1 < i → ns[j]? = some x → ns[j + 1]? = some y → x = 0 ∨ y = 0) (by walk_at "mono") ?_ (by omega) ⟨none, rfl, s2, fun j x y h => absurd h (by omega)⟩ (fun i σ H' hi ⟨y, e, p1, p2⟩ => ?_) (fun σ H' ⟨y, e, p1, p2⟩ => ?_)
  · walk_at "rd"
    exact ⟨a, _, rfl, .inl (s2.seq hx), by rw [List.length_map], rfl⟩
  · subst e
    obtain ⟨z, hz1⟩ := getE (show i < ns.length by omega)
    have hz2 : (ns.map V.int)[i]? = some (.int z) := by rw [List.getElem?_map, hz1]; rfl
    have hzf := hr.fg z (List.mem_of_getElem? hz1)
    walk_at "rd"
    refine ⟨a, _, _, .int z, rfl, rfl, p1.seq hx, atI_nat hz2, .int z, "int", rfl, th_int, ?_⟩
    rw [show wh (.int z) = true from rfl]
    walk_at "rd"
    refine ⟨a, _, _, .int z, rfl, rfl, p1.seq hx, atI_nat hz2, ?_⟩
    walk_at "rd"
    intro t ht
    have p3 : Same H (upd H' t (.tup [.int (-1), .int 0, .int 1])) := p1.add ht
    refine fg_in hzf upd_same ?_
    walk_at "rd"
    generalize (upd H' t (.tup [.int (-1), .int 0, .int 1])) = H3 at p3
    have bad : ∀ y : Option V, (∀ (x y : Int) (j : Nat), i = j + 1 → ns[j]? = some x → ns[j + 1]? = some y → x = 0 ∨ y = 0) → ∃ y_1, [some (V.ref a), y] = [some (V.ref a), y_1] ∧ Same H H3 ∧ ∀ (j : Nat) (x y : Int), j + 1 < i + 1 → ns[j]? = some x → ns[j + 1]? = some y → x = 0 ∨ y = 0 := fun y hg =>
      ⟨y, rfl, p3, fun j x y hj hx hy => by
        by_cases c : j + 1 < i
        · exact p2 j x y c hx hy
        · exact hg x y j (by omega) hx hy⟩
    by_cases c0 : (0 : Int) < (i : Int)
    · rw [if_pos c0]
      refine ⟨a, _, _, .int z, rfl, rfl, p3.seq hx, atI_nat hz2, ?_⟩
      walk_at "rd"
      by_cases cz : z = 0
      · rw [if_pos cz]
        exact bad _ fun x y j hj hx hy => by
          rw [← hj] at hy; rw [hy] at hz1; cases hz1; exact .inr cz
      · rw [if_neg cz]
        obtain ⟨w, hw1⟩ := getE (show i - 1 < ns.length by omega)
        have hw2 : (ns.map V.int)[i - 1]? = some (.int w) := by rw [List.getElem?_map, hw1]; rfl
        refine ⟨a, _, _, .int w, rfl, rfl, p3.seq hx, atI_at (j := i - 1) (by omega) hw2, ?_⟩
        walk_at "rd"
        by_cases cw : w = 0
        · rw [if_pos cw]
          exact bad _ fun x y j hj hx hy => by
            have : i - 1 = j := by omega
            rw [this] at hw1; rw [hx] at hw1; cases hw1; exact .inl cw
        · rw [if_neg cw]
          have hb : apB ns = false := by
            cases hc : apB ns with
            | false => rfl
            | true =>
              have := (apB_at ns).mp hc (i - 1) w z hw1 (by rw [show i - 1 + 1 = i by omega]; exact hz1)
              rcases this with e | e
              · exact absurd e cw
              · exact absurd e cz
          rw [hb] at q
          exact q H3 p3
    · rw [if_neg c0]
      exact bad _ fun x y j hj => by omega
  · subst e
    walk_at "rd"
    have hb : apB ns = true := (apB_at ns).mpr fun j x y hx hy => p2 j x y (by
      obtain ⟨h1, _⟩ := List.getElem?_eq_some_iff.mp hy
      omega) hx hy
    rw [hb] at q
    exact q H' p1
/-- a list that is the lean row of a number -/
def sp__law_is_row_for (K : PySem.W.Frag) (C : Ad) : Sp := fun vs H Q _ => ∃ (a : Addr) (ns : List Int) (n : Int), vs = [.ref a, .int n] ∧ SqL K H a (ns.map V.int) ∧ LeanR ns ∧ n = wl ns ∧ ns.length ≤ 8000000 ∧ ∀ H', Same H H' → Q (.bl true) H'
/-- the reading of _law_is_row_for; slots: 0 _law_row_here 1 _law_number_here -/
def t__law_is_row_for (K : PySem.W.Frag) (C : Ad) (E : XK) : TS :=
      (tRet (tAndV (tF (sp__law_is_lean K C) E (tCons (tVar 0) tNil)) (tOp rEq (tF (sp__law_worth K C) E (tCons (tVar 0) tNil)) (tVar 1))))
theorem r__law_is_row_for (h : sp__law_is_row_for K C vs H Q E) : t__law_is_row_for K C E { nx := fun _ H' => Q .non H', rt := Q } (st 2 vs) H := by
  obtain ⟨a, ns, n, rfl, hx, hr, hn, hz, q⟩ := h
  unfold t__law_is_row_for
  walk_at "st"
  walk_at "rd"
  refine ⟨a, ns, rfl, hx, hr.toRow, hz, fun H' s => ?_⟩
  rw [(apB_iff ns).mpr hr.ap]
  walk_at "rd"
  refine ⟨a, ns, rfl, s.seq hx, hr.fg, ?_⟩
  walk_at "rd"
  rw [← hn, decide_eq_true rfl]
  exact q H' s
/-- a number of eleven hundred places -/
def great (c : Int) : Int := 2 ^ 1100 / 3 + c
def sp__law_great (K : PySem.W.Frag) (C : Ad) : Sp := fun vs H Q _ => ∃ c : Int, vs = [.int c] ∧ Q (.int (great c)) H
/-- the reading of _law_great; slots: 0 _law_cell 1 _law_power 2 _law_turn -/
def t__law_great (K : PySem.W.Frag) (C : Ad) (E : XK) : TS :=
      (tSeq (tAsg (tC (.int 1)) (gName 1))
      (tSeq (tFor (iRng1 (tCons (tC (.int 1100)) tNil)) (gName 2) (tAsg (tOp qMul (tVar 1) (tC (.int 2))) (gName 1)))
      (tRet (tOp qAdd (tOp qDiv (tVar 1) (tC (.int 3))) (tVar 0)))))
theorem r__law_great (h : sp__law_great K C vs H Q E) : t__law_great K C E { nx := fun _ H' => Q .non H', rt := Q } (st 3 vs) H := by
  obtain ⟨c, rfl, q⟩ := h
  unfold t__law_great
  walk_at "st"
  walk_at "rd"
  refine f_range (n := 1100) (fun i σ H' => ∃ y, σ = [some (.int c), some (.int (2 ^ i)), y] ∧ H' = H) (by walk_at "mono") ?_ (by omega) ⟨none, rfl, rfl⟩ (fun i σ H' hi ⟨y, e, e2⟩ => ?_) (fun σ H' ⟨y, e, e2⟩ => ?_)
  · walk_at "rd"
  · subst e e2
    walk_at "rd"
    exact ⟨some (.int i), by rw [Int.pow_succ]⟩
  · subst e e2
    walk_at "rd"
    exact q
theorem great_lt {c : Int} {k : Nat} (h : c.natAbs < 2 ^ k) (hk : k ≤ 1100) : (great c).natAbs < 2 ^ 1101 := by
  have h1 : (2 : Nat) ^ k ≤ 2 ^ 1100 := Nat.pow_le_pow_right (by decide) hk
  have h2 : (2 : Nat) ^ 1101 = 2 * 2 ^ 1100 := by rw [Nat.pow_succ, Nat.mul_comm]
  have h3 : ((2 : Int) ^ 1100) = ((2 ^ 1100 : Nat) : Int) := by norm_cast
  unfold great
  rw [h3, h2]
  generalize (2 : Nat) ^ 1100 = p at *
  omega
end
end Lf

namespace Lf
open PySem PySem.Spec L2
open PyProof.Rows hiding St
section
variable {K : PySem.W.Frag} {C : Ad} {vs : List V} {H : Hp} {Q : VK} {E : XK}
/-! ### settled, laid over -/
/-- a new list of whole numbers -/
def newL (H : Hp) (ns : List Int) (Q : VK) : Prop := ∀ H' p, Same H H' → H p = none → H' p = some (.lst (ns.map V.int)) → Q (.ref p) H'
def sp_settled (K : PySem.W.Frag) (C : Ad) : Sp := fun vs H Q _ => ∃ (a : Addr) (ts : List Int), vs = [.ref a] ∧ SqL K H a (ts.map V.int) ∧ ts.length ≤ 8000000 ∧ (naf (wl ts)).length ≤ 8000000 ∧ newL H (naf (wl ts)) Q
/-- the reading of settled; slots: 0 totals 1 found 2 over 3 place 4 here 5 later 6 figure -/
def t_settled (K : PySem.W.Frag) (C : Ad) (E : XK) : TS :=
      (tSeq (tAsg (tLst tNil) (gName 1))
      (tSeq (tAsg (tC (.int 0)) (gName 2))
      (tSeq (tAsg (tC (.int 0)) (gName 3))
      (tSeq (tWhile (tOr (tTest (tOp qLt (tVar 3) (tCB (qLen K) (tCons (tVar 0) tNil)))) (tTest (tOp rNe (tVar 2) (tC (.int 0))))) (tSeq (tAsg (tVar 2) (gName 4))
      (Evl.tCut (tIfS (tTest (tOp qLt (tVar 3) (tCB (qLen K) (tCons (tVar 0) tNil)))) (tAug 4 (tOp (rIxL K) (tVar 0) (tVar 3)) (ipI fun i j => i + j)) tNext)
      (tSeq (tAsg (tC (.int 0)) (gName 5))
      (Evl.tCut (tIfS (tTest (tOp qLt (tOp qAdd (tVar 3) (tC (.int 1))) (tCB (qLen K) (tCons (tVar 0) tNil)))) (tAsg (tOp (rIxL K) (tVar 0) (tOp qAdd (tVar 3) (tC (.int 1)))) (gName 5)) tNext)
      (tSeq (tAsg (tC (.int 0)) (gName 6))
      (Evl.tCut (tIfS (tTest (tOp rNe (tOp qMod (tVar 4) (tC (.int 2))) (tC (.int 0)))) (tAsg (tIf (tTest (tOp rEq (tOp qMod (tOp qAdd (tVar 5) (tOp qDiv (tOp qSub (tVar 4) (tC (.int 1))) (tC (.int 2)))) (tC (.int 2))) (tC (.int 0)))) (tC (.int 1)) (tUn qNeg (tC (.int 1)))) (gName 6)) tNext)
      (tSeq (tDrop (tBM K "list" rAppend (tVar 1) (tCons (tVar 6) tNil)))
      (tSeq (tAsg (tOp qDiv (tOp qSub (tVar 4) (tVar 6)) (tC (.int 2))) (gName 2))
      (tAug 3 (tC (.int 1)) (ipI fun i j => i + j)))))))))))
      (tSeq (tWhile (tAnd (tTest (tOp (rNeD K) (tVar 1) (tLst tNil))) (tTest (tOp rEq (tOp (rIxL K) (tVar 1) (tUn qNeg (tC (.int 1)))) (tC (.int 0))))) (tDrop (tBM0 K "list" rPop (tVar 1))))
      (tRet (tVar 1)))))))
theorem choose_rw (here later : Int) : choose here later = if here % 2 = 0 then 0 else if (later + (here - 1) / 2) % 2 = 0 then 1 else -1 := by
  unfold choose
  by_cases h : here % 2 = 0
  · rw [if_neg (by simpa using h), if_pos h]
  · rw [if_pos h, if_neg h]
theorem get_d {ts : List Int} {i : Nat} (h : i < ts.length) : (ts.map V.int)[i]? = some (.int (ts.getD i 0)) := by
  rw [List.getElem?_map, List.getD_eq_getElem?_getD, List.getElem?_eq_getElem h]; rfl
theorem get_o {ts : List Int} {i : Nat} (h : ¬ i < ts.length) : ts.getD i 0 = 0 := by
  rw [List.getD_eq_getElem?_getD, List.getElem?_eq_none (by omega)]; rfl
theorem wl_none {ts : List Int} {i : Nat} (h : ts.length ≤ i) : wl (ts.drop i) = 0 := by
  rw [List.drop_of_length_le h]; rfl
theorem r_settled (h : sp_settled K C vs H Q E) : t_settled K C E { nx := fun _ H' => Q .non H', rt := Q } (st 7 vs) H := by
  obtain ⟨a, ts, rfl, hx, hz, hz2, q⟩ := h
  unfold t_settled
  walk_at "st"
  walk_at "rd"
  intro p np
  generalize hW : wl ts = W at hz2 q
  refine f_while (fun m σ H' => ∃ (i : Nat) (over : Int) (y4 y5 y6 : Option V), σ = [some (.ref a), some (.ref p), some (.int over), some (.int i), y4, y5, y6] ∧ m = (ts.length - i) + (rst W i).natAbs ∧ Same H H' ∧ H' p = some (.lst ((figs W i).map V.int)) ∧ over + wl (ts.drop i) = rst W i ∧ i ≤ 8000000) (ts.length + W.natAbs) (by walk_at "mono")
    ⟨0, 0, none, none, none, rfl, rfl, Same.new np, upd_same, by rw [List.drop_zero, hW]; show 0 + W = W; omega, by omega⟩ ?_
  rintro m σ H' ⟨i, over, y4, y5, y6, rfl, rfl, s1, hp, hov, hi⟩
  walk_at "rd"
  refine ⟨a, _, rfl, .inl (s1.seq hx), ?_⟩
  rw [List.length_map]
  walk_at "rd"
  -- one turn
  have turn : (i < ts.length ∨ over ≠ 0) → ∀ D : Ends, (∀ σ' H', (∃ m', m' < (ts.length - i) + (rst W i).natAbs ∧ ∃ (i : Nat) (over : Int) (y4 y5 y6 : Option V), σ' = [some (.ref a), some (.ref p), some (.int over), some (.int i), y4, y5, y6] ∧ m' = (ts.length - i) + (rst W i).natAbs ∧ Same H H' ∧ H' p = some (.lst ((figs W i).map V.int)) ∧ over + wl (ts.drop i) = rst W i ∧ i ≤ 8000000) → D.nx σ' H') →
      Evl.tCut (tIfS (tTest (tOp qLt (tVar 3) (tCB (qLen K) (tCons (tVar 0) tNil)))) (tAug 4 (tOp (rIxL K) (tVar 0) (tVar 3)) (ipI fun i j => i + j)) tNext)
      (tSeq (tAsg (tC (.int 0)) (gName 5))
      (Evl.tCut (tIfS (tTest (tOp qLt (tOp qAdd (tVar 3) (tC (.int 1))) (tCB (qLen K) (tCons (tVar 0) tNil)))) (tAsg (tOp (rIxL K) (tVar 0) (tOp qAdd (tVar 3) (tC (.int 1)))) (gName 5)) tNext)
      (tSeq (tAsg (tC (.int 0)) (gName 6))
      (Evl.tCut (tIfS (tTest (tOp rNe (tOp qMod (tVar 4) (tC (.int 2))) (tC (.int 0)))) (tAsg (tIf (tTest (tOp rEq (tOp qMod (tOp qAdd (tVar 5) (tOp qDiv (tOp qSub (tVar 4) (tC (.int 1))) (tC (.int 2)))) (tC (.int 2))) (tC (.int 0)))) (tC (.int 1)) (tUn qNeg (tC (.int 1)))) (gName 6)) tNext)
      (tSeq (tDrop (tBM K "list" rAppend (tVar 1) (tCons (tVar 6) tNil)))
      (tSeq (tAsg (tOp qDiv (tOp qSub (tVar 4) (tVar 6)) (tC (.int 2))) (gName 2))
      (tAug 3 (tC (.int 1)) (ipI fun i j => i + j)))))))) D [some (.ref a), some (.ref p), some (.int over), some (.int i), some (.int over), y5, y6] H' := fun hgo D hD => by
    obtain ⟨t1, t2⟩ := settle_turn hov
    generalize hh : over + ts.getD i 0 = here at t1 t2
    generalize hl : ts.getD (i + 1) 0 = later at t1 t2
    refine ⟨fun σ' H1 => H1 = H' ∧ σ' = [some (.ref a), some (.ref p), some (.int over), some (.int i), some (.int here), y5, y6], ?_, ?_⟩
    · walk_at "rd"
      refine ⟨a, _, rfl, .inl (s1.seq hx), ?_⟩
      rw [List.length_map]
      walk_at "rd"
      by_cases c : (i : Int) < (ts.length : Int)
      · rw [if_pos c]
        refine ⟨a, _, _, _, rfl, rfl, s1.seq hx, atI_nat (get_d (by omega)), ?_⟩
        walk_at "rd"
        rw [hh]
      · rw [if_neg c]
        rw [get_o (by omega)] at hh
        rw [← hh]; simp
    rintro σ' H1 ⟨rfl, rfl⟩
    walk_at "rd"
    refine ⟨fun σ' H2 => H2 = H1 ∧ σ' = [some (.ref a), some (.ref p), some (.int over), some (.int i), some (.int here), some (.int later), y6], ?_, ?_⟩
    · walk_at "rd"
      refine ⟨a, _, rfl, .inl (s1.seq hx), ?_⟩
      rw [List.length_map]
      walk_at "rd"
      by_cases c : (i : Int) + 1 < (ts.length : Int)
      · rw [if_pos c]
        refine ⟨a, _, _, _, rfl, rfl, s1.seq hx, atI_at (j := i + 1) (by omega) (get_d (by omega)), ?_⟩
        rw [hl]
        walk_at "rd"
      · rw [if_neg c]
        rw [get_o (by omega)] at hl
        rw [← hl]
    rintro σ' H1 ⟨rfl, rfl⟩
    walk_at "rd"
    refine ⟨fun σ' H2 => H2 = H1 ∧ σ' = [some (.ref a), some (.ref p), some (.int over), some (.int i), some (.int here), some (.int later), some (.int (choose here later))], ?_, ?_⟩
    · walk_at "rd"
      rw [choose_rw]
      by_cases c : here % 2 = 0
      · rw [if_pos c, if_pos c]
      · rw [if_neg c, if_neg c]
        by_cases c2 : (later + (here - 1) / 2) % 2 = 0
        · rw [if_pos c2, if_pos c2]
        · rw [if_neg c2, if_neg c2]
    rintro σ' H1 ⟨rfl, rfl⟩
    walk_at "rd"
    refine ⟨.inl ⟨rfl, _, sq hp⟩, p, _, _, rfl, rfl, hp, by rw [List.length_map, figs_len, sizeLine_is]; omega, ?_⟩
    have hi8 : i + 1 ≤ 8000000 := by
      by_cases c : i < ts.length
      · omega
      · have h0 := wl_none (ts := ts) (i := i) (by omega)
        have : rst W i ≠ 0 := by
          rcases hgo with g | g
          · exact absurd g c
          · omega
        have := rst_long i W this
        omega
    refine hD _ _ ⟨(ts.length - (i + 1)) + (rst W (i + 1)).natAbs, ?_, i + 1, (here - choose here later) / 2, some (.int here), some (.int later), some (.int (choose here later)), ?_, rfl, s1.mut np, ?_, t2, hi8⟩
    · have hle := nxt_le (rst W i)
      rw [← rst_snoc] at hle
      by_cases c : i < ts.length
      · omega
      · have h0 := wl_none (ts := ts) (i := i) (by omega)
        have hr0 : rst W i ≠ 0 := by
          rcases hgo with g | g
          · exact absurd g c
          · omega
        have := nxt_lt hr0
        rw [← rst_snoc] at this
        omega
    · simp
    · rw [upd_same, figs_snoc, ← t1, List.map_append]; rfl
  by_cases c : (i : Int) < (ts.length : Int)
  · rw [if_pos c]
    refine turn (.inl (by omega)) _ ?_
    exact fun _ _ h => h
  · rw [if_neg c]
    by_cases c2 : over = 0
    · rw [if_pos c2]
      have hr0 : rst W i = 0 := by rw [← hov, wl_none (by omega), c2]; rfl
      obtain ⟨k, hk⟩ := figs_naf i W hr0
      rw [hk] at hp
      refine f_while (fun m σ H' => σ = [some (.ref a), some (.ref p), some (.int over), some (.int i), y4, y5, y6] ∧ Same H H' ∧ H' p = some (.lst ((naf W ++ List.replicate m 0).map V.int))) k (by walk_at "mono") ⟨rfl, s1, hp⟩ ?_
      rintro m σ H1 ⟨rfl, s2, hp1⟩
      walk_at "rd"
      intro e ne
      generalize ee : upd H1 e _ = H2
      obtain ⟨s3, he⟩ := new_of ee ne
      have hp2 := s3 _ _ hp1
      refine neD_ints (ms := []) (sq hp2) (sq he) ?_
      walk_at "rd"
      cases m with
      | zero =>
        rw [List.replicate_zero, List.append_nil] at hp2 ⊢
        by_cases cn : naf W = []
        · rw [if_pos cn]
          exact q H2 p (s2.trans s3) np (by rw [hp2])
        · rw [if_neg cn]
          obtain ⟨w, hw⟩ : ∃ w, (naf W).getLast? = some w := ⟨_, List.getLast?_eq_some_getLast cn⟩
          refine ⟨p, _, _, .int w, rfl, rfl, sq hp2, atI_end (by rw [getLast_map, hw]; rfl), ?_⟩
          walk_at "rd"
          have hw0 : w ≠ 0 := fun e => naf_last W (by rw [hw, e])
          rw [if_neg hw0]
          exact q H2 p (s2.trans s3) np (by rw [hp2])
      | succ m =>
        have e1 : naf W ++ List.replicate (m + 1) 0 = (naf W ++ List.replicate m 0) ++ [0] := by rw [List.replicate_succ', List.append_assoc]
        rw [e1] at hp2 ⊢
        rw [if_neg (by simp)]
        refine ⟨p, _, _, .int 0, rfl, rfl, sq hp2, atI_end (by rw [getLast_map, List.getLast?_concat]; rfl), ?_⟩
        walk_at "rd"
        refine ⟨.inl ⟨rfl, _, sq hp2⟩, p, _, .int 0, rfl, rfl, hp2, ?_, ⟨m, by omega, (s2.trans s3).mut np, ?_⟩⟩
        · rw [List.map_append, List.length_append]; simp
        · rw [upd_same, List.map_append]; simp
    · rw [if_neg c2]
      refine turn (.inr c2) _ ?_
      exact fun _ _ h => h
/-- totals at l (the object that H0 did not know), a row put upon them -/
def sp_laid_over (K : PySem.W.Frag) (C : Ad) : Sp := fun vs H Q _ => ∃ (l a : Addr) (ts ns : List Int) (t : Int) (p : Nat) (H0 : Hp), vs = [.ref l, .ref a, .int t, .int (p : Nat)] ∧ H l = some (.lst (ts.map V.int)) ∧ Same H0 H ∧ H0 l = none ∧ SqL K H0 a (ns.map V.int) ∧
  p ≤ ts.length ∧ ts.length ≤ 8000000 ∧ p + ns.length ≤ 8000000 ∧ (-(2 ^ 64) < t ∧ t < 2 ^ 64) ∧ ∀ H', But l H H' → H' l = some (.lst ((lay ts t ns p).map V.int)) → Q .non H'
/-- the reading of laid_over; slots: 0 totals 1 row 2 times 3 place 4 number 5 figure -/
def t_laid_over (K : PySem.W.Frag) (C : Ad) (E : XK) : TS :=
      (tFor (iEnum K (tCons (tVar 1) tNil)) (gTup K 2 (gCons (gName 4) (gCons (gName 5) gNil))) (tSeq (tIfS (tTest (tOp rEq (tOp qAdd (tVar 3) (tVar 4)) (tCB (qLen K) (tCons (tVar 0) tNil)))) (tDrop (tBM K "list" rAppend (tVar 0) (tCons (tC (.int 0)) tNil))) tNext)
      (tAugS (tVar 0) (tOp qAdd (tVar 3) (tVar 4)) (tOp qMul (tVar 2) (tVar 5)) (qGetL K) (ipI fun i j => i + j) rSetL)))
theorem ixN_nat {n q : Nat} (h : q < n) : ixN n (q : Int) = some q := by
  unfold ixN
  rw [if_pos (by omega), if_pos (by omega)]; rfl
theorem map_set (ts : List Int) (q : Nat) (v : Int) : (ts.map V.int).set q (.int v) = (ts.set q v).map V.int := by
  rw [List.map_set]
theorem r_laid_over (h : sp_laid_over K C vs H Q E) : t_laid_over K C E { nx := fun _ H' => Q .non H', rt := Q } (st 6 vs) H := by
  obtain ⟨l, a, ts, ns, t, p, H0, rfl, hl, s0, n0, hx, hp, hz, hz2, ht, q⟩ := h
  unfold t_laid_over
  walk_at "st"
  walk_at "rd"
  refine f_enum (fun i σ H' => ∃ y1 y2, σ = [some (.ref l), some (.ref a), some (.int t), some (.int (p : Nat)), y1, y2] ∧ But l H H' ∧ H' l = some (.lst ((lay ts t (ns.take i) p).map V.int))) rfl ⟨none, none, rfl, But.refl _ _, hl⟩ (s0.seq hx) (fun i σ H' ⟨_, _, _, b, _⟩ => (b.same s0 n0).seq hx) (fun i x σ H' T hi hlt ⟨y1, y2, e, b1, hl1⟩ hT => ?_) (fun σ H' ⟨y1, y2, e, b1, hl1⟩ => ?_)
  · subst e
    obtain ⟨z, hz1, rfl⟩ := mapE hi
    have bT : But l H (upd H' T (.tup [.int (i : Nat), .int z])) := b1.new hT
    have hlT : (upd H' T (.tup [.int (i : Nat), .int z])) l = some (.lst ((lay ts t (ns.take i) p).map V.int)) := Same.new hT _ _ hl1
    generalize (upd H' T (.tup [.int (i : Nat), .int z])) = H2 at bT hlT
    rw [List.length_map] at hlt
    have hlen := len_lay (ns.take i) ts t p hp
    rw [List.length_take, Nat.min_eq_left (Nat.le_of_lt hlt)] at hlen
    have hsn := lay_snoc (ns.take i) ts t z p
    rw [← take_snoc hz1, List.length_take, Nat.min_eq_left (Nat.le_of_lt hlt)] at hsn
    generalize lay ts t (ns.take i) p = us at hlT hlen hsn
    walk_at "rd"
    refine ⟨l, _, rfl, .inl (sq hlT), ?_⟩
    rw [List.length_map]
    walk_at "rd"
    have hm : (-18446744073709551616 < t ∧ t < 18446744073709551616) ∨ -18446744073709551616 < z ∧ z < 18446744073709551616 := .inl (by simpa using ht)
    by_cases c : (p : Int) + (i : Int) = (us.length : Int)
    · rw [if_pos c]
      have hq : p + i = us.length := by omega
      refine ⟨.inl ⟨rfl, _, sq hlT⟩, l, _, _, rfl, rfl, hlT, by rw [List.length_map, sizeLine_is]; omega, ?_⟩
      have h3 : (upd H2 l (.lst (us.map V.int ++ [.int 0]))) l = some (.lst ((us ++ [0]).map V.int)) := by rw [upd_same, List.map_append]; rfl
      have b3 : But l H (upd H2 l (.lst (us.map V.int ++ [.int 0]))) := bT.set
      generalize (upd H2 l (.lst (us.map V.int ++ [.int 0]))) = H3 at h3 b3
      refine ⟨l, _, _, .int 0, rfl, rfl, sq h3, atI_at (j := us.length) (by omega) (by rw [List.getElem?_map, List.getElem?_append_right (Nat.le_refl _)]; simp), hm, ?_⟩
      walk_at "rd"
      refine ⟨l, _, _, us.length, rfl, rfl, h3, ?_, some (.int (i : Nat)), some (.int z), rfl, b3.set, ?_⟩
      · rw [List.length_map, List.length_append, show (p : Int) + (i : Int) = ((us.length : Nat) : Int) by omega]
        exact ixN_nat (by simp)
      · rw [upd_same, map_set, hsn]
        unfold lay1
        rw [if_pos hq]
        simp
    · rw [if_neg c]
      have hq : p + i < us.length := by omega
      have hz3 : us[p + i]? = some (us.getD (p + i) 0) := by rw [List.getD_eq_getElem?_getD, List.getElem?_eq_getElem hq]; rfl
      refine ⟨l, _, _, .int (us.getD (p + i) 0), rfl, rfl, sq hlT, atI_at (j := p + i) (by omega) (by rw [List.getElem?_map, hz3]; rfl), hm, ?_⟩
      walk_at "rd"
      refine ⟨l, _, _, p + i, rfl, rfl, hlT, ?_, some (.int (i : Nat)), some (.int z), rfl, bT.set, ?_⟩
      · rw [List.length_map, show (p : Int) + (i : Int) = ((p + i : Nat) : Int) by omega]
        exact ixN_nat hq
      · rw [upd_same, map_set, hsn]
        unfold lay1
        rw [if_neg (by omega)]
  · subst e
    rw [List.length_map, List.take_length] at hl1
    exact q H' b1 hl1
/-! ### negated, added, multiplied, compared, together -/
theorem naf_len' {n : Int} {k : Nat} (h : n.natAbs < 2 ^ k) (hk : k < 8000000) : (naf n).length ≤ 8000000 := Nat.le_trans (naf_len k n h) (by omega)
theorem Row.bound {l : List Int} (h : Row l) : (wl l).natAbs < 2 ^ l.length := row_bound h.1
theorem pow_mono {a b : Nat} (h : a ≤ b) : 2 ^ a ≤ 2 ^ b := Nat.pow_le_pow_right (by decide) h
theorem Row.bound' {l : List Int} (h : Row l) {k : Nat} (hk : l.length ≤ k) : (wl l).natAbs < 2 ^ k := Nat.lt_of_lt_of_le h.bound (pow_mono hk)
theorem Same.none {H H' : Hp} {p : Addr} (s : Same H H') (h : H' p = none) : H p = none := by
  cases e : H p with
  | none => rfl
  | some o => rw [s _ _ e] at h; cases h
theorem newL.from {H H' : Hp} {ns : List Int} {Q : VK} (h : newL H ns Q) (s : Same H H') : newL H' ns Q := fun H2 p s2 np hp => h H2 p (s.trans s2) (Same.none s np) hp
theorem natAbs_mul_lt {a b : Int} {i j : Nat} (h : a.natAbs < 2 ^ i) (k : b.natAbs < 2 ^ j) : (a * b).natAbs < 2 ^ (i + j) := by
  rw [Int.natAbs_mul, Nat.pow_add]
  exact Nat.mul_lt_mul'' h k
/-- a def that asks for a row that isn't over-long -/
def rowSpN (K : PySem.W.Frag) (C : Ad) (R : List Int → Hp → VK → Prop) : Sp := fun vs H Q E => ∃ x, vs = [x] ∧ ((RowB K H x false ∧ ∀ H', Same H H' → E (.ref C.NoRow) none H') ∨
  (∃ a ns, x = .ref a ∧ SqL K H a (ns.map V.int) ∧ Row ns ∧ ns.length ≤ 2000000 ∧ R ns H Q))
/-- ... for two rows -/
def rowSp2 (K : PySem.W.Frag) (C : Ad) (R : List Int → List Int → Hp → VK → Prop) : Sp := fun vs H Q E => ∃ x y, vs = [x, y] ∧ ((RowB K H x false ∧ ∀ H', Same H H' → E (.ref C.NoRow) none H') ∨
  (∃ a ns, x = .ref a ∧ SqL K H a (ns.map V.int) ∧ Row ns ∧ ns.length ≤ 2000000 ∧ ((RowB K H y false ∧ ∀ H', Same H H' → E (.ref C.NoRow) none H') ∨
  (∃ b ms, y = .ref b ∧ SqL K H b (ms.map V.int) ∧ Row ms ∧ ms.length ≤ 2000000 ∧ R ns ms H Q))))
def sp_negated (K : PySem.W.Frag) (C : Ad) : Sp := rowSpN K C fun ns H Q => newL H (naf (0 - wl ns)) Q
/-- the reading of negated; slots: 0 row 1 figure -/
def t_negated (K : PySem.W.Frag) (C : Ad) (E : XK) : TS :=
      (tSeq (tDrop (tF (sp_need_row K C) E (tCons (tVar 0) tNil)))
      (tRet (tF (sp_settled K C) E (tCons (tLc (iList K (tVar 0)) (gName 1) tYes (tOp qSub (tC (.int 0)) (tVar 1)) [1]) tNil))))
theorem r_negated (h : sp_negated K C vs H Q E) : t_negated K C E { nx := fun _ H' => Q .non H', rt := Q } (st 2 vs) H := by
  obtain ⟨x, rfl, h⟩ := h
  unfold t_negated
  walk_at "st"
  walk_at "rd"
  rcases h with ⟨hb, q1⟩ | ⟨a, ns, rfl, hx, hr, hz, q2⟩
  · exact ⟨x, false, rfl, hb, (fun e => by cases e), fun _ => q1⟩
  refine ⟨.ref a, true, rfl, RowB.row hx hr (by omega), fun _ H1 s1 => ?_, fun e => by cases e⟩
  walk_at "rd"
  have hx1 := s1.seq hx
  refine ⟨.ref a, rfl, a, rfl, ⟨_, hx1⟩, fun D hD => ?_⟩
  refine lc_list (K := K) (a := a) (xs := ns.map V.int) (fun i H' => Same H1 H' ∧ H' D = some (.lst (((ns.take i).map fun x => 0 - x).map V.int))) ⟨Same.new hD, upd_same⟩ (fun i H' _ p => p.1.seq hx1) (fun i y H' hi p => ?_) (fun H' p => ?_)
  · obtain ⟨z, hz1, rfl⟩ := mapE hi
    walk_at "rd"
    refine ⟨_, p.2, ?_, p.1.mut hD, ?_⟩
    · rw [List.length_map, List.length_map, List.length_take, sizeLine_is]; omega
    · rw [upd_same, take_snoc hz1, List.map_append, List.map_append]; rfl
  · obtain ⟨p1, p2⟩ := p
    rw [List.length_map, List.take_length] at p2
    walk_at "rd"
    refine ⟨D, _, rfl, sq p2, by rw [List.length_map]; omega, ?_, ?_⟩
    · rw [wl_neg]
      exact naf_len' (k := ns.length) (by have := hr.bound; omega) (by omega)
    · rw [wl_neg]
      exact (q2.from s1).from p1
def sp_added (K : PySem.W.Frag) (C : Ad) : Sp := rowSp2 K C fun ns ms H Q => newL H (naf (wl ns + wl ms)) Q
/-- the reading of added; slots: 0 one 1 other 2 totals -/
def t_added (K : PySem.W.Frag) (C : Ad) (E : XK) : TS :=
      (tSeq (tDrop (tF (sp_need_row K C) E (tCons (tVar 0) tNil)))
      (tSeq (tDrop (tF (sp_need_row K C) E (tCons (tVar 1) tNil)))
      (tSeq (tAsg (tCB (qList K) (tCons (tVar 0) tNil)) (gName 2))
      (tSeq (tDrop (tF (sp_laid_over K C) E (tCons (tVar 2) (tCons (tVar 1) (tCons (tC (.int 1)) (tCons (tC (.int 0)) tNil))))))
      (tRet (tF (sp_settled K C) E (tCons (tVar 2) tNil)))))))
theorem r_added (h : sp_added K C vs H Q E) : t_added K C E { nx := fun _ H' => Q .non H', rt := Q } (st 3 vs) H := by
  obtain ⟨x, y, rfl, h⟩ := h
  unfold t_added
  walk_at "st"
  walk_at "rd"
  rcases h with ⟨hb, q1⟩ | ⟨a, ns, rfl, hx, hr, hz, h⟩
  · exact ⟨x, false, rfl, hb, (fun e => by cases e), fun _ => q1⟩
  refine ⟨.ref a, true, rfl, RowB.row hx hr (by omega), fun _ H1 s1 => ?_, fun e => by cases e⟩
  walk_at "rd"
  rcases h with ⟨hb, q1⟩ | ⟨b, ms, rfl, hy, hs, hz2, q⟩
  · exact ⟨y, false, rfl, hb.same s1, (fun e => by cases e), fun _ H' s => q1 H' (s1.trans s)⟩
  refine ⟨.ref b, true, rfl, RowB.row (s1.seq hy) hs (by omega), fun _ H2 s2 => ?_, fun e => by cases e⟩
  walk_at "rd"
  have s3 := s1.trans s2
  refine ⟨a, _, rfl, .inl (s3.seq hx), fun l nl => ?_⟩
  generalize el : upd H2 l _ = H3
  obtain ⟨s4, hl⟩ := new_of el nl
  walk_at "rd"
  refine ⟨l, b, ns, ms, 1, 0, H2, rfl, hl, s4, nl, s3.seq hy, Nat.zero_le _, by omega, by omega, by omega, fun H4 bt hl4 => ?_⟩
  walk_at "rd"
  have hw : wl (lay ns 1 ms 0) = wl ns + wl ms := by rw [wl_lay _ _ _ _ (Nat.zero_le _)]; simp
  refine ⟨l, _, rfl, sq hl4, by rw [len_lay _ _ _ _ (Nat.zero_le _)]; omega, ?_, ?_⟩ <;> rw [hw]
  · refine naf_len' (k := 2000001) ?_ (by omega)
    have h1 := hr.bound' hz
    have h2 := hs.bound' hz2
    rw [Nat.pow_succ]
    generalize 2 ^ 2000000 = N at h1 h2 ⊢
    omega
  · exact (q.from s3).from (bt.same s4 nl)
def sp_multiplied (K : PySem.W.Frag) (C : Ad) : Sp := rowSp2 K C fun ns ms H Q => newL H (naf (wl ns * wl ms)) Q
theorem wl_take_snoc {ns : List Int} {i : Nat} {z : Int} (h : ns[i]? = some z) : wl (ns.take (i + 1)) = wl (ns.take i) + 2 ^ i * z := by
  have hi : i < ns.length := (List.getElem?_eq_some_iff.mp h).1
  rw [take_snoc h, wl_append, List.length_take, Nat.min_eq_left (Nat.le_of_lt hi)]
  simp [wl]
/-- the reading of multiplied; slots: 0 one 1 other 2 totals 3 place 4 figure -/
def t_multiplied (K : PySem.W.Frag) (C : Ad) (E : XK) : TS :=
      (tSeq (tDrop (tF (sp_need_row K C) E (tCons (tVar 0) tNil)))
      (tSeq (tDrop (tF (sp_need_row K C) E (tCons (tVar 1) tNil)))
      (tSeq (tAsg (tLst tNil) (gName 2))
      (tSeq (tFor (iEnum K (tCons (tVar 0) tNil)) (gTup K 2 (gCons (gName 3) (gCons (gName 4) gNil))) (tIfS (tTest (tOp rNe (tVar 4) (tC (.int 0)))) (tSeq (tWhile (tTest (tOp qLt (tCB (qLen K) (tCons (tVar 2) tNil)) (tVar 3))) (tDrop (tBM K "list" rAppend (tVar 2) (tCons (tC (.int 0)) tNil))))
      (tDrop (tF (sp_laid_over K C) E (tCons (tVar 2) (tCons (tVar 1) (tCons (tVar 4) (tCons (tVar 3) tNil))))))) tNext))
      (tRet (tF (sp_settled K C) E (tCons (tVar 2) tNil)))))))
theorem r_multiplied (h : sp_multiplied K C vs H Q E) : t_multiplied K C E { nx := fun _ H' => Q .non H', rt := Q } (st 5 vs) H := by
  obtain ⟨x, y, rfl, h⟩ := h
  unfold t_multiplied
  walk_at "st"
  walk_at "rd"
  rcases h with ⟨hb, q1⟩ | ⟨a, ns, rfl, hx, hr, hz, h⟩
  · exact ⟨x, false, rfl, hb, (fun e => by cases e), fun _ => q1⟩
  refine ⟨.ref a, true, rfl, RowB.row hx hr (by omega), fun _ H1 s1 => ?_, fun e => by cases e⟩
  walk_at "rd"
  rcases h with ⟨hb, q1⟩ | ⟨b, ms, rfl, hy, hs, hz2, q⟩
  · exact ⟨y, false, rfl, hb.same s1, (fun e => by cases e), fun _ H' s => q1 H' (s1.trans s)⟩
  refine ⟨.ref b, true, rfl, RowB.row (s1.seq hy) hs (by omega), fun _ H2 s2 => ?_, fun e => by cases e⟩
  walk_at "rd"
  have s3 := s1.trans s2
  intro l nl
  generalize el : upd H2 l _ = H3
  obtain ⟨s4, hl⟩ := new_of el nl
  have sx := s3.seq hx
  have sy := s3.seq hy
  refine f_enum (fun i σ H' => ∃ y1 y2 ts, σ = [some (.ref a), some (.ref b), some (.ref l), y1, y2] ∧ Same H2 H' ∧ H' l = some (.lst (ts.map V.int)) ∧ wl ts = wl (ns.take i) * wl ms ∧ ts.length ≤ i + ms.length) rfl ⟨none, none, [], rfl, s4, hl, by simp [wl], Nat.zero_le _⟩ (s4.seq sx) (fun i σ H' ⟨_, _, _, _, p, _⟩ => p.seq sx) (fun i x σ H' T hi hlt ⟨y1, y2, ts, e, p1, p2, p3, p4⟩ hT => ?_) (fun σ H' ⟨y1, y2, ts, e, p1, p2, p3, p4⟩ => ?_)
  · subst e
    obtain ⟨z, hz1, rfl⟩ := mapE hi
    have hw := wl_take_snoc hz1
    rw [List.length_map] at hlt
    have s5 : Same H2 (upd H' T (.tup [.int (i : Nat), .int z])) := p1.add hT
    have hl5 : (upd H' T (.tup [.int (i : Nat), .int z])) l = some (.lst (ts.map V.int)) := Same.new hT _ _ p2
    generalize (upd H' T (.tup [.int (i : Nat), .int z])) = H5 at s5 hl5
    walk_at "rd"
    by_cases c : z = 0
    · rw [if_pos c]
      refine ⟨_, _, ts, rfl, s5, hl5, ?_, by omega⟩
      rw [hw, c, p3]; simp
    · rw [if_neg c]
      refine f_while (fun m σ H' => σ = [some (.ref a), some (.ref b), some (.ref l), some (.int (i : Nat)), some (.int z)] ∧ Same H2 H' ∧ ∃ us, H' l = some (.lst (us.map V.int)) ∧ wl us = wl (ns.take i) * wl ms ∧ us.length ≤ i + ms.length ∧ m = i - us.length) (i - ts.length) (by walk_at "mono") ⟨rfl, s5, ts, hl5, p3, p4, rfl⟩ ?_
      rintro m σ H6 ⟨rfl, s6, us, h6, u1, u2, rfl⟩
      walk_at "rd"
      refine ⟨l, _, rfl, .inl (sq h6), ?_⟩
      rw [List.length_map]
      walk_at "rd"
      by_cases c2 : (us.length : Int) < (i : Int)
      · rw [if_pos c2]
        refine ⟨.inl ⟨rfl, _, sq h6⟩, l, _, _, rfl, rfl, h6, by rw [List.length_map, sizeLine_is]; omega, _, ?_, s6.mut nl, us ++ [0], by rw [upd_same, List.map_append]; rfl, by rw [wl_append]; simp [wl, u1], by rw [List.length_append]; simp; omega, rfl⟩
        rw [List.length_append]; simp; omega
      · rw [if_neg c2]
        have hle : i ≤ us.length := by omega
        refine ⟨l, b, us, ms, z, i, H2, rfl, h6, s6, nl, sy, hle, by omega, by omega, ?_, fun H7 bt h7 => ?_⟩
        · have := (hr.fg z (List.mem_of_getElem? hz1)).abs
          omega
        · refine ⟨_, _, _, rfl, bt.same s6 nl, h7, ?_, ?_⟩
          · rw [wl_lay _ _ _ _ hle, hw, u1, Int.add_mul, Int.mul_comm z]
          · rw [len_lay _ _ _ _ hle]; omega
  · subst e
    rw [List.length_map] at p4
    rw [List.length_map, List.take_length] at p3
    walk_at "rd"
    refine ⟨l, _, rfl, sq p2, by omega, ?_, ?_⟩ <;> rw [p3]
    · refine naf_len' (k := 2000000 + 2000000) ?_ (by omega)
      exact natAbs_mul_lt (hr.bound' hz) (hs.bound' hz2)
    · exact (q.from s3).from p1
/-- 1, 0 or -1 -/
def sgn (n : Int) : Int := if n = 0 then 0 else if 0 < n then 1 else -1
def sp_compared (K : PySem.W.Frag) (C : Ad) : Sp := rowSp2 K C fun ns ms H Q => ∀ H', Same H H' → Q (.int (sgn (wl ns - wl ms))) H'
/-- the reading of compared; slots: 0 one 1 other 2 totals 3 found -/
def t_compared (K : PySem.W.Frag) (C : Ad) (E : XK) : TS :=
      (tSeq (tDrop (tF (sp_need_row K C) E (tCons (tVar 0) tNil)))
      (tSeq (tDrop (tF (sp_need_row K C) E (tCons (tVar 1) tNil)))
      (tSeq (tAsg (tCB (qList K) (tCons (tVar 0) tNil)) (gName 2))
      (tSeq (tDrop (tF (sp_laid_over K C) E (tCons (tVar 2) (tCons (tVar 1) (tCons (tUn qNeg (tC (.int 1))) (tCons (tC (.int 0)) tNil))))))
      (tSeq (tAsg (tF (sp_settled K C) E (tCons (tVar 2) tNil)) (gName 3))
      (tSeq (tIfS (tTest (tOp (rEqD K) (tVar 3) (tLst tNil))) (tRet (tC (.int 0))) tNext)
      (tRet (tOp (rIxL K) (tVar 3) (tUn qNeg (tC (.int 1)))))))))))
theorem r_compared (h : sp_compared K C vs H Q E) : t_compared K C E { nx := fun _ H' => Q .non H', rt := Q } (st 4 vs) H := by
  obtain ⟨x, y, rfl, h⟩ := h
  unfold t_compared
  walk_at "st"
  walk_at "rd"
  rcases h with ⟨hb, q1⟩ | ⟨a, ns, rfl, hx, hr, hz, h⟩
  · exact ⟨x, false, rfl, hb, (fun e => by cases e), fun _ => q1⟩
  refine ⟨.ref a, true, rfl, RowB.row hx hr (by omega), fun _ H1 s1 => ?_, fun e => by cases e⟩
  walk_at "rd"
  rcases h with ⟨hb, q1⟩ | ⟨b, ms, rfl, hy, hs, hz2, q⟩
  · exact ⟨y, false, rfl, hb.same s1, (fun e => by cases e), fun _ H' s => q1 H' (s1.trans s)⟩
  refine ⟨.ref b, true, rfl, RowB.row (s1.seq hy) hs (by omega), fun _ H2 s2 => ?_, fun e => by cases e⟩
  walk_at "rd"
  have s3 := s1.trans s2
  refine ⟨a, _, rfl, .inl (s3.seq hx), fun l nl => ?_⟩
  generalize el : upd H2 l _ = H3
  obtain ⟨s4, hl⟩ := new_of el nl
  walk_at "rd"
  refine ⟨l, b, ns, ms, -1, 0, H2, rfl, hl, s4, nl, s3.seq hy, Nat.zero_le _, by omega, by omega, by omega, fun H4 bt hl4 => ?_⟩
  walk_at "rd"
  have hw : wl (lay ns (-1) ms 0) = wl ns - wl ms := by rw [wl_lay _ _ _ _ (Nat.zero_le _)]; simp; omega
  refine ⟨l, _, rfl, sq hl4, by rw [len_lay _ _ _ _ (Nat.zero_le _)]; omega, ?_, ?_⟩ <;> rw [hw]
  · refine naf_len' (k := 2000001) ?_ (by omega)
    have h1 := hr.bound' hz
    have h2 := hs.bound' hz2
    rw [Nat.pow_succ]
    generalize 2 ^ 2000000 = N at h1 h2 ⊢
    omega
  · intro H5 p s5 np hp
    have s6 := (s3.trans (bt.same s4 nl)).trans s5
    generalize wl ns - wl ms = n at hp q
    walk_at "rd"
    intro e ne
    generalize ee : upd H5 e _ = H6
    obtain ⟨s7, he⟩ := new_of ee ne
    have hp2 := s7 _ _ hp
    refine eqD_ints (ms := []) (sq hp2) (sq he) ?_
    walk_at "rd"
    by_cases c : n = 0
    · subst c
      rw [naf_zero, if_pos rfl]
      exact q _ (s6.trans s7)
    · have hs := naf_sign n c
      rw [if_neg (fun e => by rw [e] at hs; cases hs)]
      refine ⟨p, _, _, .int (if 0 < n then 1 else -1), rfl, rfl, sq hp2, atI_end (by rw [getLast_map, hs]; rfl), ?_⟩
      have := q _ (s6.trans s7)
      unfold sgn at this
      rw [if_neg c] at this
      exact this
def tot (rows : List (List Int)) : Int := (rows.map wl).sum
theorem tot_snoc {rows : List (List Int)} {i : Nat} {r : List Int} (h : rows[i]? = some r) : tot (rows.take (i + 1)) = tot (rows.take i) + wl r := by
  unfold tot
  rw [take_snoc h, List.map_append, List.sum_append]; simp
/-- the first things of xs are rows -/
def RowsL (K : PySem.W.Frag) (H : Hp) (xs : List V) (rows : List (List Int)) : Prop := ∀ (i : Nat) (r : List Int), rows[i]? = some r → ∃ a : Addr, xs[i]? = some (V.ref a) ∧ SqL K H a (r.map V.int) ∧ Row r ∧ r.length ≤ 8000000
def sp_together (K : PySem.W.Frag) (C : Ad) : Sp := fun vs H Q E => ∃ x, vs = [x] ∧ ((∃ n, Th K H x n ∧ n ≠ "list" ∧ ∀ H', Same H H' → E (.ref C.NoRow) none H') ∨
  (∃ a xs rows, x = .ref a ∧ SqL K H a xs ∧ RowsL K H xs rows ∧
    ((rows.length = xs.length ∧ (naf (tot rows)).length ≤ 8000000 ∧ newL H (naf (tot rows)) Q) ∨
     (∃ y, xs[rows.length]? = some y ∧ RowB K H y false ∧ ∀ H', Same H H' → E (.ref C.NoRow) none H'))))
/-- the reading of together; slots: 0 rows 1 totals 2 row -/
def t_together (K : PySem.W.Frag) (C : Ad) (E : XK) : TS :=
      (tSeq (tIfS (tNot (tB (tCB (rIsi K) (tCons (tVar 0) (tCons (tC (.ty "list")) tNil))))) (tRaiseX C.NoRow E) tNext)
      (tSeq (tAsg (tLst tNil) (gName 1))
      (tSeq (tFor (iList K (tVar 0)) (gName 2) (tSeq (tDrop (tF (sp_need_row K C) E (tCons (tVar 2) tNil)))
      (tDrop (tF (sp_laid_over K C) E (tCons (tVar 1) (tCons (tVar 2) (tCons (tC (.int 1)) (tCons (tC (.int 0)) tNil))))))))
      (tRet (tF (sp_settled K C) E (tCons (tVar 1) tNil))))))
theorem r_together (h : sp_together K C vs H Q E) : t_together K C E { nx := fun _ H' => Q .non H', rt := Q } (st 3 vs) H := by
  obtain ⟨x, rfl, h⟩ := h
  unfold t_together
  walk_at "st"
  walk_at "rd"
  rcases h with ⟨n, hn, hne, q⟩ | ⟨a, xs, rows, rfl, hx, hrows, h⟩
  · refine isi_list hn ?_
    rw [decide_eq_false hne]
    walk_at "rd"
    exact q H (Same.refl H)
  refine isi_list (th_sq hx) ?_
  rw [decide_eq_true rfl]
  walk_at "rd"
  intro l nl
  generalize el : upd H l _ = H1
  obtain ⟨s1, hl⟩ := new_of el nl
  have hlen : rows.length ≤ xs.length := by
    cases hc : rows.length with
    | zero => omega
    | succ k =>
      obtain ⟨r, hr⟩ := getE (l := rows) (i := k) (by omega)
      obtain ⟨b, hb, _⟩ := hrows k r hr
      have := (List.getElem?_eq_some_iff.mp hb).1
      omega
  refine f_list (fun i σ H' => ∃ y ts, σ = [some (.ref a), some (.ref l), y] ∧ Same H H' ∧ H' l = some (.lst (ts.map V.int)) ∧ wl ts = tot (rows.take i) ∧ ts.length ≤ 8000000 ∧ i ≤ rows.length) rfl ⟨none, [], rfl, s1, hl, by rw [List.take_zero]; rfl, Nat.zero_le _, Nat.zero_le _⟩ (s1.seq hx) (fun i σ H' ⟨_, _, _, p, _⟩ => p.seq hx) (fun i y σ H' hi hlt ⟨y1, ts, e, p1, p2, p3, p4, p5⟩ => ?_) (fun σ H' ⟨y1, ts, e, p1, p2, p3, p4, p5⟩ => ?_)
  · subst e
    walk_at "rd"
    by_cases c : i < rows.length
    · obtain ⟨r, hr⟩ := getE c
      obtain ⟨b, hb, hb2, hrr, hbz⟩ := hrows i r hr
      rw [hi] at hb
      obtain rfl : y = .ref b := by injection hb
      refine ⟨.ref b, true, rfl, RowB.row (p1.seq hb2) hrr hbz, fun _ H2 s2 => ?_, fun e => by cases e⟩
      walk_at "rd"
      have p2' := s2 _ _ p2
      have s3 := p1.trans s2
      refine ⟨l, b, ts, r, 1, 0, H, rfl, p2', s3, nl, hb2, Nat.zero_le _, p4, by omega, by omega, fun H3 bt h3 => ?_⟩
      refine ⟨_, _, rfl, bt.same s3 nl, h3, ?_, ?_, by omega⟩
      · rw [wl_lay _ _ _ _ (Nat.zero_le _), p3, tot_snoc hr]; simp
      · rw [len_lay _ _ _ _ (Nat.zero_le _)]; omega
    · have hir : i = rows.length := by omega
      rcases h with ⟨e, _⟩ | ⟨z, hz1, hz2, q⟩
      · omega
      · rw [← hir, hi] at hz1
        obtain rfl : y = z := by injection hz1
        exact ⟨y, false, rfl, hz2.same p1, (fun e => by cases e), fun _ H' s => q H' (p1.trans s)⟩
  · subst e
    walk_at "rd"
    rcases h with ⟨e, hz, q⟩ | ⟨z, hz1, hz2, q⟩
    · rw [← e, List.take_length] at p3
      refine ⟨l, _, rfl, sq p2, p4, by rw [p3]; exact hz, by rw [p3]; exact q.from p1⟩
    · have := (List.getElem?_eq_some_iff.mp hz1).1
      omega
end
end Lf

namespace Lf
open PySem PySem.Spec L2
open PyProof.Rows hiding St
/-! ### a row of a number's worth -/
structure RowInv (n s left : Int) (us : List Int) : Prop where
  sg : s = 1 ∨ s = -1
  nn : 0 ≤ left
  wo : 2 ^ us.length * (s * left) + wl us = n
  fg : ∀ x ∈ us, Fg x
  la : left = 0 → LastNz us
  sz : (us.length ≤ 212 ∧ left ≤ 2 ^ (212 - us.length)) ∨ (left = 0 ∧ us.length ≤ 213)
theorem last_snoc {us : List Int} {x : Int} (h : x ≠ 0) : LastNz (us ++ [x]) := by
  unfold LastNz
  rw [List.getLast?_concat]
  exact fun e => h (by injection e)
theorem sz_half {us : List Int} {left : Int} (h : (us.length ≤ 212 ∧ left ≤ 2 ^ (212 - us.length)) ∨ (left = 0 ∧ us.length ≤ 213)) (c : 0 < left) {l2 x : Int} (e : l2 = left / 2 ∨ (l2 = (left + 1) / 2 ∧ 1 < left)) : ((us ++ [x]).length ≤ 212 ∧ l2 ≤ 2 ^ (212 - (us ++ [x]).length)) ∨ (l2 = 0 ∧ (us ++ [x]).length ≤ 213) := by
  rw [List.length_append, show [x].length = 1 from rfl]
  rcases h with ⟨h1, h2⟩ | ⟨h1, _⟩
  · generalize hk : 212 - us.length = k at h2
    cases k with
    | zero =>
      have h3 : left ≤ 1 := h2
      refine .inr ⟨?_, by omega⟩
      rcases e with e | ⟨e, e2⟩ <;> omega
    | succ k =>
      rw [Int.pow_succ] at h2
      refine .inl ⟨by omega, ?_⟩
      rw [show 212 - (us.length + 1) = k by omega]
      generalize (2 : Int) ^ k = P at h2
      rcases e with e | ⟨e, e2⟩ <;> omega
  · omega
theorem RowInv.one {n s left : Int} {us : List Int} (h : RowInv n s left us) (c : left % 2 = 1) (c2 : 1 < left) : RowInv n s ((left + 1) / 2) (us ++ [0 - s]) := by
  obtain ⟨sg, nn, wo, fg, la, sz⟩ := h
  refine ⟨sg, by omega, ?_, ?_, fun e => by omega, sz_half sz (by omega) (.inr ⟨rfl, c2⟩)⟩
  · obtain ⟨k, rfl⟩ : ∃ k, left = 2 * k + 1 := ⟨left / 2, by omega⟩
    rw [show (2 * k + 1 + 1) / 2 = k + 1 by omega, List.length_append, show [0 - s].length = 1 from rfl, Int.pow_succ, wl_append, ← wo]
    simp only [wl]
    generalize (2 : Int) ^ us.length = P
    rcases sg with rfl | rfl <;> simp only [Int.mul_add, Int.add_mul, Int.mul_sub, Int.one_mul, Int.mul_one, Int.neg_mul, Int.mul_neg, Int.mul_zero, Int.mul_assoc] <;> omega
  · intro x hx
    rcases List.mem_append.mp hx with hx | hx
    · exact fg x hx
    · rw [List.mem_singleton] at hx
      subst hx
      unfold Fg
      omega
theorem RowInv.two {n s left : Int} {us : List Int} (h : RowInv n s left us) (c : 0 < left) : RowInv n s (left / 2) (us ++ [left % 2 * s]) := by
  obtain ⟨sg, nn, wo, fg, la, sz⟩ := h
  refine ⟨sg, by omega, ?_, ?_, fun e => last_snoc ?_, sz_half sz c (.inl rfl)⟩
  · rw [List.length_append, show [left % 2 * s].length = 1 from rfl, Int.pow_succ, wl_append, ← wo]
    simp only [wl]
    have e : left = 2 * (left / 2) + left % 2 := by omega
    generalize left / 2 = k at e ⊢
    generalize left % 2 = r at e ⊢
    subst e
    generalize (2 : Int) ^ us.length = P
    rcases sg with rfl | rfl <;> simp only [Int.mul_add, Int.add_mul, Int.mul_sub, Int.one_mul, Int.mul_one, Int.neg_mul, Int.mul_neg, Int.mul_zero, Int.mul_assoc] <;> omega
  · intro x hx
    rcases List.mem_append.mp hx with hx | hx
    · exact fg x hx
    · rw [List.mem_singleton] at hx
      subst hx
      unfold Fg
      rcases sg with rfl | rfl <;> omega
  · have : left = 1 := by omega
    subst this
    rcases sg with rfl | rfl <;> decide
theorem RowInv.done {n s left : Int} {us : List Int} (h : RowInv n s left us) (c : ¬ 0 < left) : Row us ∧ wl us = n ∧ us.length ≤ 213 := by
  obtain ⟨sg, nn, wo, fg, la, sz⟩ := h
  have : left = 0 := by omega
  subst this
  refine ⟨⟨fg, la rfl⟩, ?_, by omega⟩
  rw [← wo]; simp
/-- the promise: a row of the number's worth -/
def spRow (K : PySem.W.Frag) (C : Ad) : Sp := fun vs H Q _ => ∃ n c : Int, vs = [.int n, .int c] ∧ n.natAbs < 2 ^ 212 ∧
  ∀ H' p rs, Same H H' → H p = none → H' p = some (.lst (rs.map V.int)) → Row rs → wl rs = n → rs.length ≤ 213 → Q (.ref p) H'
section
variable {K : PySem.W.Frag} {C : Ad} {vs : List V} {H : Hp} {Q : VK} {E : XK}
theorem sg_is (n : Int) : (1 - 2 * (if decide (n < 0) = true then (1 : Int) else 0)) = if n < 0 then -1 else 1 := by
  by_cases h : n < 0 <;> simp [h]
theorem rowInv_start (n : Int) (hn : n.natAbs < 2 ^ 212) : RowInv n (1 - 2 * (if decide (n < 0) = true then (1 : Int) else 0)) (if n < 0 then -n else n) [] := by
  rw [sg_is]
  have e : (2 : Int) ^ (212 - ([] : List Int).length) = ((2 ^ 212 : Nat) : Int) := by decide
  refine { sg := ?_, nn := ?_, wo := ?_, fg := (fun x hx => by cases hx), la := (fun _ => by simp [LastNz]), sz := .inl ⟨Nat.zero_le _, ?_⟩ }
  · split <;> simp
  · split <;> omega
  · simp only [List.length_nil, wl]; split <;> omega
  · rw [e]
    generalize 2 ^ 212 = P at hn ⊢
    split <;> omega
/-- the state of the loop -/
def RowSt (H : Hp) (n c : Int) (p : Addr) (m : Nat) (σ : St) (H' : Hp) : Prop := ∃ s left us, σ = [some (.int n), some (.int c), some (.int s), some (.int left), some (.ref p)] ∧ Same H H' ∧ H' p = some (.lst (us.map V.int)) ∧ RowInv n s left us ∧ m = left.toNat
theorem RowSt.app {H H' : Hp} {n c s left l2 x : Int} {p : Addr} {us : List Int} (np : H p = none) (s1 : Same H H') (hi : RowInv n s left us) (hi2 : RowInv n s l2 (us ++ [x])) (hl : 0 < left) (hl2 : l2 < left) :
    ∃ m', m' < left.toNat ∧ RowSt H n c p m' [some (.int n), some (.int c), some (.int s), some (.int l2), some (.ref p)] (upd H' p (.lst (us.map V.int ++ [.int x]))) :=
  ⟨l2.toNat, by omega, s, l2, us ++ [x], rfl, s1.mut np, by rw [upd_same, List.map_append]; rfl, hi2, rfl⟩
theorem RowInv.len {n s left : Int} {us : List Int} (h : RowInv n s left us) : us.length ≤ 213 := by
  have := h.sz
  omega
abbrev sp__law_row_k05 := spRow
/-- the reading of _law_row; slots: 0 _law_number_here 1 _law_cell 2 _law_sign 3 _law_left 4 _law_found -/
def t__law_row_k05 (K : PySem.W.Frag) (C : Ad) (E : XK) : TS :=
      (tSeq (tAsg (tOp qSub (tC (.int 1)) (tOp qMul (tC (.int 2)) (tCB qInt1 (tCons (tOp qLt (tVar 0) (tC (.int 0))) tNil)))) (gName 2))
      (tSeq (tAsg (tCB qAbs (tCons (tVar 0) tNil)) (gName 3))
      (tSeq (tAsg (tLst tNil) (gName 4))
      (tSeq (tWhile (tTest (tOp qGt (tVar 3) (tC (.int 0)))) (tSeq (tIfS (tAnd (tTest (tOp rEq (tOp qMod (tVar 3) (tC (.int 2))) (tC (.int 1)))) (tAnd (tTest (tOp qGt (tVar 3) (tC (.int 1)))) (tTest (tOp rEq (tOp qMod (tF (sp__law_mixed K C) E (tCons (tVar 1) (tCons (tOp qMod (tCB (qLen K) (tCons (tVar 4) tNil)) (tC (.int 97))) tNil))) (tC (.int 4))) (tC (.int 1)))))) (tSeq (tDrop (tBM K "list" rAppend (tVar 4) (tCons (tOp qSub (tC (.int 0)) (tVar 2)) tNil)))
      (tAsg (tOp qAdd (tVar 3) (tC (.int 1))) (gName 3))) (tDrop (tBM K "list" rAppend (tVar 4) (tCons (tOp qMul (tOp qMod (tVar 3) (tC (.int 2))) (tVar 2)) tNil))))
      (tAsg (tOp qDiv (tVar 3) (tC (.int 2))) (gName 3))))
      (tRet (tVar 4))))))
theorem r__law_row_k05 (h : sp__law_row_k05 K C vs H Q E) : t__law_row_k05 K C E { nx := fun _ H' => Q .non H', rt := Q } (st 5 vs) H := by
  obtain ⟨n, c, rfl, hn, q⟩ := h
  unfold t__law_row_k05
  walk_at "st"
  walk_at "rd"
  intro p np
  have h0 := rowInv_start n hn
  generalize 1 - 2 * (if decide (n < 0) = true then (1 : Int) else 0) = s at h0 ⊢
  generalize (if n < 0 then -n else n) = left at h0 ⊢
  generalize el : upd H p _ = H1
  obtain ⟨s1, hp⟩ := new_of el np
  refine f_while (RowSt H n c p) left.toNat (by walk_at "mono") ⟨s, left, [], rfl, s1, hp, h0, rfl⟩ ?_
  rintro m σ H' ⟨s, left, us, rfl, s2, hp2, hi, rfl⟩
  walk_at "rd"
  by_cases cl : 0 < left
  · rw [if_pos cl]
    have  two : ∀ (H2 : Hp), Same H H2 → H2 p = some (.lst (us.map V.int)) → tyV K "list" (V.ref p) H2 ∧ (-18446744073709551616 < left % 2 ∧ left % 2 < 18446744073709551616 ∨ -18446744073709551616 < s ∧ s < 18446744073709551616) ∧ rAppend (V.ref p) [V.int (left % 2 * s)] H2 fun x H1 => ∃ m', m' < left.toNat ∧ RowSt H n c p m' [some (.int n), some (.int c), some (.int s), some (.int (left / 2)), some (.ref p)] H1 := fun H2 s3 hp3 =>
      ⟨.inl ⟨rfl, _, sq hp3⟩, .inl ⟨by omega, by omega⟩, p, _, _, rfl, rfl, hp3, by rw [List.length_map, sizeLine_is]; have := hi.len; omega, RowSt.app np s3 hi (hi.two cl) cl (by omega)⟩
    by_cases c1 : left % 2 = 1
    · rw [if_pos c1]
      by_cases c2 : 1 < left
      · rw [if_pos c2]
        have one : ∀ (H2 : Hp), Same H H2 → H2 p = some (.lst (us.map V.int)) → tyV K "list" (V.ref p) H2 ∧ rAppend (V.ref p) [V.int (0 - s)] H2 fun x H1 => ∃ m', m' < left.toNat ∧ RowSt H n c p m' [some (.int n), some (.int c), some (.int s), some (.int ((left + 1) / 2)), some (.ref p)] H1 := fun H2 s3 hp3 =>
          ⟨.inl ⟨rfl, _, sq hp3⟩, p, _, _, rfl, rfl, hp3, by rw [List.length_map, sizeLine_is]; have := hi.len; omega, RowSt.app np s3 hi (hi.one c1 c2) cl (by omega)⟩
        refine ⟨p, _, rfl, .inl (sq hp2), ?_⟩
        rw [List.length_map]
        walk_at "rd"
        refine ⟨c, _, rfl, by omega, by omega, ?_⟩
        walk_at "rd"
        split
        · exact one _ s2 hp2
        · exact two _ s2 hp2
      · rw [if_neg c2]
        exact two _ s2 hp2
    · rw [if_neg c1]
      exact two _ s2 hp2
  · rw [if_neg cl]
    obtain ⟨r1, r2, r3⟩ := hi.done cl
    exact q H' p us s2 np hp2 r1 r2 r3
abbrev sp__law_row_k06 := spRow
/-- the reading of _law_row; slots: 0 _law_number_here 1 _law_cell 2 _law_sign 3 _law_left 4 _law_found -/
def t__law_row_k06 (K : PySem.W.Frag) (C : Ad) (E : XK) : TS :=
      (tSeq (tAsg (tOp qSub (tC (.int 1)) (tOp qMul (tC (.int 2)) (tCB qInt1 (tCons (tOp qLt (tVar 0) (tC (.int 0))) tNil)))) (gName 2))
      (tSeq (tAsg (tCB qAbs (tCons (tVar 0) tNil)) (gName 3))
      (tSeq (tAsg (tLst tNil) (gName 4))
      (tSeq (tWhile (tTest (tOp qGt (tVar 3) (tC (.int 0)))) (tSeq (tIfS (tAnd (tTest (tOp rEq (tOp qMod (tVar 3) (tC (.int 2))) (tC (.int 1)))) (tAnd (tTest (tOp qGt (tVar 3) (tC (.int 1)))) (tTest (tOp rEq (tOp qMod (tF (sp__law_mixed K C) E (tCons (tVar 1) (tCons (tOp qMod (tCB (qLen K) (tCons (tVar 4) tNil)) (tC (.int 97))) tNil))) (tOp (rIxL K) (tLst (tCons (tC (.int 2)) (tCons (tC (.int 9)) tNil))) (tOp qMod (tVar 1) (tC (.int 2))))) (tC (.int 1)))))) (tSeq (tDrop (tBM K "list" rAppend (tVar 4) (tCons (tOp qSub (tC (.int 0)) (tVar 2)) tNil)))
      (tAsg (tOp qAdd (tVar 3) (tC (.int 1))) (gName 3))) (tDrop (tBM K "list" rAppend (tVar 4) (tCons (tOp qMul (tOp qMod (tVar 3) (tC (.int 2))) (tVar 2)) tNil))))
      (tAsg (tOp qDiv (tVar 3) (tC (.int 2))) (gName 3))))
      (tRet (tVar 4))))))
theorem r__law_row_k06 (h : sp__law_row_k06 K C vs H Q E) : t__law_row_k06 K C E { nx := fun _ H' => Q .non H', rt := Q } (st 5 vs) H := by
  obtain ⟨n, c, rfl, hn, q⟩ := h
  unfold t__law_row_k06
  walk_at "st"
  walk_at "rd"
  intro p np
  have h0 := rowInv_start n hn
  generalize 1 - 2 * (if decide (n < 0) = true then (1 : Int) else 0) = s at h0 ⊢
  generalize (if n < 0 then -n else n) = left at h0 ⊢
  generalize el : upd H p _ = H1
  obtain ⟨s1, hp⟩ := new_of el np
  refine f_while (RowSt H n c p) left.toNat (by walk_at "mono") ⟨s, left, [], rfl, s1, hp, h0, rfl⟩ ?_
  rintro m σ H' ⟨s, left, us, rfl, s2, hp2, hi, rfl⟩
  walk_at "rd"
  by_cases cl : 0 < left
  · rw [if_pos cl]
    have  two : ∀ (H2 : Hp), Same H H2 → H2 p = some (.lst (us.map V.int)) → tyV K "list" (V.ref p) H2 ∧ (-18446744073709551616 < left % 2 ∧ left % 2 < 18446744073709551616 ∨ -18446744073709551616 < s ∧ s < 18446744073709551616) ∧ rAppend (V.ref p) [V.int (left % 2 * s)] H2 fun x H1 => ∃ m', m' < left.toNat ∧ RowSt H n c p m' [some (.int n), some (.int c), some (.int s), some (.int (left / 2)), some (.ref p)] H1 := fun H2 s3 hp3 =>
      ⟨.inl ⟨rfl, _, sq hp3⟩, .inl ⟨by omega, by omega⟩, p, _, _, rfl, rfl, hp3, by rw [List.length_map, sizeLine_is]; have := hi.len; omega, RowSt.app np s3 hi (hi.two cl) cl (by omega)⟩
    by_cases c1 : left % 2 = 1
    · rw [if_pos c1]
      by_cases c2 : 1 < left
      · rw [if_pos c2]
        have one : ∀ (H2 : Hp), Same H H2 → H2 p = some (.lst (us.map V.int)) → tyV K "list" (V.ref p) H2 ∧ rAppend (V.ref p) [V.int (0 - s)] H2 fun x H1 => ∃ m', m' < left.toNat ∧ RowSt H n c p m' [some (.int n), some (.int c), some (.int s), some (.int ((left + 1) / 2)), some (.ref p)] H1 := fun H2 s3 hp3 =>
          ⟨.inl ⟨rfl, _, sq hp3⟩, p, _, _, rfl, rfl, hp3, by rw [List.length_map, sizeLine_is]; have := hi.len; omega, RowSt.app np s3 hi (hi.one c1 c2) cl (by omega)⟩
        refine ⟨p, _, rfl, .inl (sq hp2), ?_⟩
        rw [List.length_map]
        walk_at "rd"
        refine ⟨c, _, rfl, by omega, by omega, ?_⟩
        walk_at "rd"
        intro e ne
        generalize ee : upd H' e _ = H2
        obtain ⟨s3, he⟩ := new_of ee ne
        obtain ⟨w, hw, hw2⟩ : ∃ w : Int, atI [V.int 2, V.int 9] (c % 2) = some (.int w) ∧ (w = 2 ∨ w = 9) := by
          rcases (by omega : c % 2 = 0 ∨ c % 2 = 1) with e | e <;> rw [e]
          · exact ⟨2, rfl, .inl rfl⟩
          · exact ⟨9, rfl, .inr rfl⟩
        refine ⟨e, _, _, _, rfl, rfl, sq he, hw, ?_⟩
        walk_at "rd"
        refine ⟨by omega, ?_⟩
        split
        · exact one _ (s2.trans s3) (s3 _ _ hp2)
        · exact two _ (s2.trans s3) (s3 _ _ hp2)
      · rw [if_neg c2]
        exact two _ s2 hp2
    · rw [if_neg c1]
      exact two _ s2 hp2
  · rw [if_neg cl]
    obtain ⟨r1, r2, r3⟩ := hi.done cl
    exact q H' p us s2 np hp2 r1 r2 r3
abbrev sp__law_row_k07 := spRow
/-- the reading of _law_row; slots: 0 _law_number_here 1 _law_cell 2 _law_sign 3 _law_left 4 _law_found -/
def t__law_row_k07 (K : PySem.W.Frag) (C : Ad) (E : XK) : TS :=
      (tSeq (tAsg (tOp qSub (tC (.int 1)) (tOp qMul (tC (.int 2)) (tCB qInt1 (tCons (tOp qLt (tVar 0) (tC (.int 0))) tNil)))) (gName 2))
      (tSeq (tAsg (tCB qAbs (tCons (tVar 0) tNil)) (gName 3))
      (tSeq (tAsg (tLst tNil) (gName 4))
      (tSeq (tWhile (tTest (tOp qGt (tVar 3) (tC (.int 0)))) (tSeq (tIfS (tAnd (tTest (tOp rEq (tOp qMod (tVar 3) (tC (.int 2))) (tC (.int 1)))) (tAnd (tTest (tOp qGt (tVar 3) (tC (.int 1)))) (tTest (tOp rEq (tOp qMod (tF (sp__law_mixed K C) E (tCons (tVar 1) (tCons (tOp qMod (tCB (qLen K) (tCons (tVar 4) tNil)) (tC (.int 97))) tNil))) (tC (.int 3))) (tC (.int 1)))))) (tSeq (tDrop (tBM K "list" rAppend (tVar 4) (tCons (tOp qSub (tC (.int 0)) (tVar 2)) tNil)))
      (tAsg (tOp qAdd (tVar 3) (tC (.int 1))) (gName 3))) (tDrop (tBM K "list" rAppend (tVar 4) (tCons (tOp qMul (tOp qMod (tVar 3) (tC (.int 2))) (tVar 2)) tNil))))
      (tAsg (tOp qDiv (tVar 3) (tC (.int 2))) (gName 3))))
      (tRet (tVar 4))))))
theorem r__law_row_k07 (h : sp__law_row_k07 K C vs H Q E) : t__law_row_k07 K C E { nx := fun _ H' => Q .non H', rt := Q } (st 5 vs) H := by
  obtain ⟨n, c, rfl, hn, q⟩ := h
  unfold t__law_row_k07
  walk_at "st"
  walk_at "rd"
  intro p np
  have h0 := rowInv_start n hn
  generalize 1 - 2 * (if decide (n < 0) = true then (1 : Int) else 0) = s at h0 ⊢
  generalize (if n < 0 then -n else n) = left at h0 ⊢
  generalize el : upd H p _ = H1
  obtain ⟨s1, hp⟩ := new_of el np
  refine f_while (RowSt H n c p) left.toNat (by walk_at "mono") ⟨s, left, [], rfl, s1, hp, h0, rfl⟩ ?_
  rintro m σ H' ⟨s, left, us, rfl, s2, hp2, hi, rfl⟩
  walk_at "rd"
  by_cases cl : 0 < left
  · rw [if_pos cl]
    have  two : ∀ (H2 : Hp), Same H H2 → H2 p = some (.lst (us.map V.int)) → tyV K "list" (V.ref p) H2 ∧ (-18446744073709551616 < left % 2 ∧ left % 2 < 18446744073709551616 ∨ -18446744073709551616 < s ∧ s < 18446744073709551616) ∧ rAppend (V.ref p) [V.int (left % 2 * s)] H2 fun x H1 => ∃ m', m' < left.toNat ∧ RowSt H n c p m' [some (.int n), some (.int c), some (.int s), some (.int (left / 2)), some (.ref p)] H1 := fun H2 s3 hp3 =>
      ⟨.inl ⟨rfl, _, sq hp3⟩, .inl ⟨by omega, by omega⟩, p, _, _, rfl, rfl, hp3, by rw [List.length_map, sizeLine_is]; have := hi.len; omega, RowSt.app np s3 hi (hi.two cl) cl (by omega)⟩
    by_cases c1 : left % 2 = 1
    · rw [if_pos c1]
      by_cases c2 : 1 < left
      · rw [if_pos c2]
        have one : ∀ (H2 : Hp), Same H H2 → H2 p = some (.lst (us.map V.int)) → tyV K "list" (V.ref p) H2 ∧ rAppend (V.ref p) [V.int (0 - s)] H2 fun x H1 => ∃ m', m' < left.toNat ∧ RowSt H n c p m' [some (.int n), some (.int c), some (.int s), some (.int ((left + 1) / 2)), some (.ref p)] H1 := fun H2 s3 hp3 =>
          ⟨.inl ⟨rfl, _, sq hp3⟩, p, _, _, rfl, rfl, hp3, by rw [List.length_map, sizeLine_is]; have := hi.len; omega, RowSt.app np s3 hi (hi.one c1 c2) cl (by omega)⟩
        refine ⟨p, _, rfl, .inl (sq hp2), ?_⟩
        rw [List.length_map]
        walk_at "rd"
        refine ⟨c, _, rfl, by omega, by omega, ?_⟩
        walk_at "rd"
        split
        · exact one _ s2 hp2
        · exact two _ s2 hp2
      · rw [if_neg c2]
        exact two _ s2 hp2
    · rw [if_neg c1]
      exact two _ s2 hp2
  · rw [if_neg cl]
    obtain ⟨r1, r2, r3⟩ := hi.done cl
    exact q H' p us s2 np hp2 r1 r2 r3
end
end Lf
namespace Lf
open PySem PySem.Spec L2
open PyProof.Rows hiding St
/-! ### deep ==: the same on both sides -/
theorem shaped_eqv {d : PyData} (h : SeqAt.shaped d = true) : PyData.eqv d d = true := SeqAt.eqv_refl d (SeqAt.canLay_of_shaped h)
section
variable {K : PySem.W.Frag} {H : Hp} {x y : V} {d : PyData} {Q : VK}
theorem eqD_same (h1 : Dp K H x d) (h2 : Dp K H y d) (hs : SeqAt.shaped d = true) (q : Q (.bl true) H) : rEqD K x y H Q := ⟨d, d, h1, h2, hs, hs, by rw [shaped_eqv hs]; exact q⟩
theorem neD_same (h1 : Dp K H x d) (h2 : Dp K H y d) (hs : SeqAt.shaped d = true) (q : Q (.bl false) H) : rNeD K x y H Q := ⟨d, d, h1, h2, hs, hs, by rw [shaped_eqv hs]; exact q⟩
theorem dp_ints {a : Addr} {ns : List Int} (h : SqL K H a (ns.map V.int)) : Dp K H (.ref a) (.list (ns.map PyData.int)) := .lst h (dpAll_ints ns)
end
def intsD (ns : List Int) : PyData := .list (ns.map PyData.int)
theorem can_intsD (ns : List Int) : (intsD ns).canLay0 = true := by simp [intsD, PyData.canLay0, canLay_ints]
theorem depth_intsD (ns : List Int) : (intsD ns).depth ≤ 2 := by
  have := depth_ints ns
  simp only [intsD, PyData.depth]
  omega
theorem canAll_rows : ∀ rows : List (List Int), PyData.canLayAll0 (rows.map intsD) = true
  | [] => by simp [PyData.canLayAll0]
  | r :: rows => by
    have := canAll_rows rows
    simp [PyData.canLayAll0, can_intsD, this]
theorem depthAll_rows : ∀ rows : List (List Int), PyData.depthAll (rows.map intsD) ≤ 2
  | [] => by simp [PyData.depthAll]
  | r :: rows => by
    have := depthAll_rows rows
    have := depth_intsD r
    simp only [List.map_cons, PyData.depthAll]
    omega
theorem shaped_rows (rows : List (List Int)) : SeqAt.shaped (.list (rows.map intsD)) = true := by
  unfold SeqAt.shaped
  have h1 : (PyData.list (rows.map intsD)).canLay0 = true := by simp [PyData.canLay0, canAll_rows]
  have h2 : (PyData.list (rows.map intsD)).depth ≤ 64 := by
    have := depthAll_rows rows
    simp only [PyData.depth]
    omega
  rw [h1, decide_eq_true h2]; rfl
theorem shaped_rowsT (rows : List (List Int)) : SeqAt.shaped (.tuple (rows.map intsD)) = true := by
  unfold SeqAt.shaped
  have h1 : (PyData.tuple (rows.map intsD)).canLay0 = true := by simp [PyData.canLay0, canAll_rows]
  have h2 : (PyData.tuple (rows.map intsD)).depth ≤ 64 := by
    have := depthAll_rows rows
    simp only [PyData.depth]
    omega
  rw [h1, decide_eq_true h2]; rfl
/-! ### enumerate of what an expression has given -/
def loopE (K : PySem.W.Frag) (g : TG) (tb : TS) (D : Ends) (a : Addr) (σ : St) (H : Hp) : Prop := ∃ W : Nat → Nat → St → Hp → Prop, (∃ m, W 0 m σ H) ∧ ∀ i m σ H, W i m σ H →
  ((Ite K a).stop i H ∧ D.nx σ H) ∨ ((Ite K a).go i H ∧ ∃ N : St → Hp → Prop, (∀ σ' H', N σ' H' → ∃ m', m' < m ∧ W (i + 1) m' σ' H') ∧ ∀ x H', (Ite K a).yld i H x H' → g x σ H' fun σ2 H2 => tb { D with nx := N, ct := N, bk := D.nx } σ2 H2)
section
variable {K : PySem.W.Frag} {σ : St} {H : Hp} {D : Ends}
theorem r_forE {te : TE} {g : TG} {tb : TS} : tFor (iEnum K (tCons te tNil)) g tb D σ H = te σ H fun x H1 => ∃ a xs, [x] = [.ref a] ∧ SqL K H1 a xs ∧ loopE K g tb D a σ H1 := rfl
theorem l_enum {a : Addr} {xs : List V} {i1 i2 : Nat} {tb : TS} (Pv : Nat → St → Hp → Prop) (h0 : Pv 0 σ H) (hl : ∀ i σ H, Pv i σ H → SqL K H a xs)
    (hs : ∀ i x σ H T, xs[i]? = some x → i < xs.length → Pv i σ H → H T = none → tb { D with nx := Pv (i + 1), ct := Pv (i + 1), bk := D.nx } ((σ.set i1 (some (.int (i : Nat)))).set i2 (some x)) (upd H T (.tup [.int (i : Nat), x])))
    (hd : ∀ σ H, Pv xs.length σ H → D.nx σ H) : loopE K (gTup K 2 (gCons (gName i1) (gCons (gName i2) gNil))) tb D a σ H := by
  refine for_any xs.length Pv h0 (fun i σ H hi p => ⟨xs, xs[i], hl i σ H p, by simp [hi]⟩) (fun σ H p => ⟨xs, hl _ σ H p, Nat.le_refl _⟩) (fun i σ H hi p x H' y => ?_) hd
  obtain ⟨T, z, rfl, nT, rfl, k⟩ := y
  have hz := k xs (hl i σ H p)
  exact ⟨T, [.int (i : Nat), z], rfl, SqT.of upd_same, rfl, _, _, rfl, _, _, rfl, rfl, hs i z σ H T hz hi p nT⟩
end
/-! ### a comprehension over a list that an expression has given -/
def lcL (K : PySem.W.Frag) (g : TG) (tt : TT) (te : TE) (vs : List Nat) (Q : VK) (a : Addr) (σ : St) (H1 : Hp) : Prop := (∃ xs, SqL K H1 a xs) ∧ ∀ D, H1 D = none → ∃ W : Nat → Nat → Hp → Prop, (∃ m, W 0 m (upd H1 D (.lst []))) ∧ ∀ i m H, W i m H →
  (((Itl K a).stop i H ∧ Q (.ref D) H) ∨ ((Itl K a).go i H ∧ ∃ Nx : Hp → Prop, (∀ H', Nx H' → ∃ m', m' < m ∧ W (i + 1) m' H') ∧ ∀ x H', (Itl K a).yld i H x H' → g x (wipe σ vs) H' fun σ2 H2 => wipe σ2 vs = wipe σ vs ∧ tt σ2 H2 fun b H3 =>
    if b = true then te σ2 H3 fun y H4 => ∃ acc, H4 D = some (.lst acc) ∧ acc.length < sizeLine ∧ Nx (upd H4 D (.lst (acc ++ [y]))) else Nx H3))
section
variable {K : PySem.W.Frag} {σ : St} {H H1 : Hp} {Q : VK}
theorem r_lcL {tl : TE} {g : TG} {tt : TT} {te : TE} {vs : List Nat} : tLc (iList K tl) g tt te vs σ H Q = tl σ H fun x H1 => ∃ a, x = .ref a ∧ lcL K g tt te vs Q a σ H1 := rfl
theorem l_lc {a : Addr} {xs : List V} {g : TG} {tt : TT} {te : TE} {vs : List Nat} (Pv : Addr → Nat → Hp → Prop) (hx : SqL K H1 a xs) (h0 : ∀ D H2, H1 D = none → Same H1 H2 → H2 D = some (.lst []) → Pv D 0 H2) (hl : ∀ D i H, Pv D i H → SqL K H a xs)
    (hs : ∀ D i x H, H1 D = none → xs[i]? = some x → i < xs.length → Pv D i H → g x (wipe σ vs) H fun σ2 H2 => wipe σ2 vs = wipe σ vs ∧ tt σ2 H2 fun b H3 =>
      if b = true then te σ2 H3 fun y H4 => ∃ acc, H4 D = some (.lst acc) ∧ acc.length < sizeLine ∧ Pv D (i + 1) (upd H4 D (.lst (acc ++ [y]))) else Pv D (i + 1) H3) (hd : ∀ D H, H1 D = none → Pv D xs.length H → Q (.ref D) H) : lcL K g tt te vs Q a σ H1 :=
  ⟨⟨_, hx⟩, fun D nD => lc_list (xs := xs) (Pv D) (h0 D _ nD (Same.new nD) upd_same) (fun i H _ p => hl D i H p) (fun i x H hi p => hs D i x H nD hi (List.getElem?_eq_some_iff.mp hi).1 p) (fun H p => hd D H nD p)⟩
end
/-! ### lists of rows -/
/-- the things of xs are lists of whole numbers: rows -/
def RA (K : PySem.W.Frag) (H : Hp) (xs : List V) (rows : List (List Int)) : Prop := xs.length = rows.length ∧ ∀ (i : Nat) (r : List Int), rows[i]? = some r → ∃ a : Addr, xs[i]? = some (V.ref a) ∧ SqL K H a (r.map V.int)
section
variable {K : PySem.W.Frag} {H H' : Hp} {xs : List V} {rows : List (List Int)}
theorem RA.same (h : RA K H xs rows) (s : Same H H') : RA K H' xs rows := ⟨h.1, fun i r hr => let ⟨a, h1, h2⟩ := h.2 i r hr; ⟨a, h1, s.seq h2⟩⟩
theorem RA.nil : RA K H [] [] := ⟨rfl, fun i r h => by cases h⟩
theorem RA.snoc {a : Addr} {r : List Int} (h : RA K H xs rows) (hr : SqL K H a (r.map V.int)) : RA K H (xs ++ [.ref a]) (rows ++ [r]) := by
  refine ⟨by rw [List.length_append, List.length_append, h.1]; rfl, fun i q hq => ?_⟩
  by_cases c : i < rows.length
  · rw [List.getElem?_append_left c] at hq
    obtain ⟨b, h1, h2⟩ := h.2 i q hq
    exact ⟨b, by rw [List.getElem?_append_left (by rw [h.1]; exact c)]; exact h1, h2⟩
  · have hi : i = rows.length := by
      have := (List.getElem?_eq_some_iff.mp hq).1
      rw [List.length_append] at this
      simp at this; omega
    subst hi
    rw [List.getElem?_append_right (Nat.le_refl _), Nat.sub_self] at hq
    cases hq
    exact ⟨a, by rw [← h.1, List.getElem?_append_right (Nat.le_refl _), Nat.sub_self]; rfl, hr⟩
theorem RA.at (h : RA K H xs rows) {i : Nat} {x : V} (hx : xs[i]? = some x) : ∃ (a : Addr) (r : List Int), x = .ref a ∧ rows[i]? = some r ∧ SqL K H a (r.map V.int) := by
  have hi := (List.getElem?_eq_some_iff.mp hx).1
  obtain ⟨r, hr⟩ := getE (l := rows) (i := i) (by rw [← h.1]; exact hi)
  obtain ⟨a, h1, h2⟩ := h.2 i r hr
  rw [hx] at h1
  exact ⟨a, r, by injection h1, hr, h2⟩
theorem RA.cons {x : V} {r : List Int} (h : RA K H (x :: xs) (r :: rows)) : (∃ a, x = .ref a ∧ SqL K H a (r.map V.int)) ∧ RA K H xs rows := by
  refine ⟨?_, by simpa using h.1, fun i q hq => h.2 (i + 1) q hq⟩
  obtain ⟨a, h1, h2⟩ := h.2 0 r rfl
  exact ⟨a, by injection h1, h2⟩
theorem RA.dp : ∀ {xs : List V} {rows : List (List Int)}, RA K H xs rows → DpAll K H xs (rows.map intsD)
  | [], [], _ => .nil
  | [], _ :: _, h => by cases h.1
  | _ :: _, [], h => by cases h.1
  | x :: xs, r :: rows, h => by
    obtain ⟨⟨a, rfl, h1⟩, h2⟩ := h.cons
    exact .cons (dp_ints h1) h2.dp
theorem RA.take (h : RA K H xs rows) (n : Nat) : RA K H (xs.take n) (rows.take n) := by
  refine ⟨by rw [List.length_take, List.length_take, h.1], fun i r hr => ?_⟩
  have hi : i < n := by
    have := (List.getElem?_eq_some_iff.mp hr).1
    rw [List.length_take] at this; omega
  rw [List.getElem?_take_of_lt hi] at hr ⊢
  exact h.2 i r hr
theorem RA.drop (h : RA K H xs rows) (n : Nat) : RA K H (xs.drop n) (rows.drop n) := by
  refine ⟨by rw [List.length_drop, List.length_drop, h.1], fun i r hr => ?_⟩
  rw [List.getElem?_drop] at hr ⊢
  exact h.2 _ r hr
theorem RA.rev (h : RA K H xs rows) : RA K H xs.reverse rows.reverse := by
  refine ⟨by rw [List.length_reverse, List.length_reverse, h.1], fun i r hr => ?_⟩
  have hi : i < rows.length := by
    have := (List.getElem?_eq_some_iff.mp hr).1
    rwa [List.length_reverse] at this
  rw [List.getElem?_reverse hi] at hr
  rw [List.getElem?_reverse (by rw [h.1]; exact hi), h.1]
  exact h.2 _ r hr
theorem RA.rowsL (h : RA K H xs rows) (hr : ∀ r ∈ rows, Row r ∧ r.length ≤ 8000000) : RowsL K H xs rows := fun i r hi =>
  let ⟨a, h1, h2⟩ := h.2 i r hi
  ⟨a, h1, h2, hr r (List.mem_of_getElem? hi)⟩
end
/-- ... the lists' objects are known, and none of them is D -/
def RAn (H : Hp) (D : Addr) (xs : List V) (rows : List (List Int)) : Prop := xs.length = rows.length ∧ ∀ (i : Nat) (r : List Int), rows[i]? = some r → ∃ a : Addr, xs[i]? = some (V.ref a) ∧ a ≠ D ∧ H a = some (.lst (r.map V.int))
section
variable {K : PySem.W.Frag} {H H' : Hp} {D : Addr} {xs : List V} {rows : List (List Int)}
theorem RAn.nil : RAn H D [] [] := ⟨rfl, fun i r h => by cases h⟩
theorem RAn.same (h : RAn H D xs rows) (s : Same H H') : RAn H' D xs rows := ⟨h.1, fun i r hr => let ⟨a, h1, h2, h3⟩ := h.2 i r hr; ⟨a, h1, h2, s _ _ h3⟩⟩
theorem RAn.set {o : HO} (h : RAn H D xs rows) : RAn (upd H D o) D xs rows := ⟨h.1, fun i r hr => let ⟨a, h1, h2, h3⟩ := h.2 i r hr; ⟨a, h1, h2, by rw [upd_ne h2]; exact h3⟩⟩
theorem RAn.ra (h : RAn H D xs rows) : RA K H xs rows := ⟨h.1, fun i r hr => let ⟨a, h1, _, h3⟩ := h.2 i r hr; ⟨a, h1, sq h3⟩⟩
theorem RAn.snoc {a : Addr} {r : List Int} (h : RAn H D xs rows) (ha : a ≠ D) (hr : H a = some (.lst (r.map V.int))) : RAn H D (xs ++ [.ref a]) (rows ++ [r]) := by
  refine ⟨by rw [List.length_append, List.length_append, h.1]; rfl, fun i q hq => ?_⟩
  by_cases c : i < rows.length
  · rw [List.getElem?_append_left c] at hq
    obtain ⟨b, h1, h2⟩ := h.2 i q hq
    exact ⟨b, by rw [List.getElem?_append_left (by rw [h.1]; exact c)]; exact h1, h2⟩
  · have hi : i = rows.length := by
      have := (List.getElem?_eq_some_iff.mp hq).1
      rw [List.length_append] at this
      simp at this; omega
    subst hi
    rw [List.getElem?_append_right (Nat.le_refl _), Nat.sub_self] at hq
    cases hq
    exact ⟨a, by rw [← h.1, List.getElem?_append_right (Nat.le_refl _), Nat.sub_self]; rfl, ha, hr⟩
end
theorem ne_none {H : Hp} {a b : Addr} {o : HO} (h : H a = some o) (k : H b = none) : a ≠ b := fun e => by rw [e, k] at h; cases h
theorem ne_none' {H : Hp} {a b : Addr} {o : HO} (h : H b = some o) (k : H a = none) : a ≠ b := fun e => by rw [← e, k] at h; cases h
end Lf

namespace Lf
open PySem PySem.Spec L2
open PyProof.Rows hiding St
/-! ### texts -/
def qRepS : R2 := fun x y H Q => ∃ (z : Str) (k : Int), x = .str z ∧ y = .int k ∧ 1 ≤ k ∧ k ≤ 1000000 ∧ z.length ≠ 0 ∧ z.length ≤ 1000000 ∧ z.length * k.toNat ≤ 1000000 ∧ Q (.str ⟨(List.replicate k.toNat z.cps.toList).flatten.toArray⟩) H
theorem fold_rep (a : Array Nat) : ∀ (n : Nat) (b : Array Nat), (List.replicate n a).foldl (· ++ ·) b = b ++ (List.replicate n a.toList).flatten.toArray
  | 0, b => by simp
  | n + 1, b => by
    rw [List.replicate_succ, List.foldl_cons, fold_rep a n, List.replicate_succ, List.flatten_cons]
    apply Array.ext'
    simp
theorem flat_len (a : List Nat) : ∀ n : Nat, (List.replicate n a).flatten.length = n * a.length
  | 0 => by simp
  | n + 1 => by rw [List.replicate_succ, List.flatten_cons, List.length_append, flat_len a n, Nat.add_mul]; omega
theorem op_rep_str {X : Cx} : OpR X (binaryOp .Mult) qRepS := by
  intro pins s σ H x y v u Q I rx ry h
  obtain ⟨z, k, rfl, rfl, h1, h2, h3, h5, h4, q⟩ := h
  obtain ⟨t, rfl⟩ := rx
  obtain ⟨t', rfl⟩ := ry
  have hl : (z.length : Int) ≤ 1000000 := by omega
  have hsz : z.length * k.toNat ≤ sizeLine := by rw [sizeLine_is]; omega
  refine PySem.P.mul_str ?_ (fun _ _ hgt => ?_) (fun _ _ => ?_) ?_
  · rw [decide_eq_false (by omega), decide_eq_false (by omega)]; rfl
  · have : (1000000 : Int) ≤ (2 ^ 63 - 1) / k := Int.le_ediv_of_mul_le (by omega) (by omega)
    omega
  · unfold Builtin.Str.tooLong
    simpa using hsz
  · rw [if_neg (by omega)]
    by_cases k1 : k = 1
    · subst k1
      rw [if_pos (by rfl)]
      refine ⟨.str _, H, I.tok _, ⟨_, rfl⟩, ?_⟩
      have e : (⟨(List.replicate (1 : Int).toNat z.cps.toList).flatten.toArray⟩ : Str) = z := by
        show (⟨([z.cps.toList].flatten).toArray⟩ : Str) = z
        simp
      rw [e] at q
      exact q
    rw [if_neg (by simp; omega)]
    have e : (⟨(List.replicate k.toNat z.cps).foldl (· ++ ·) #[]⟩ : Str) = ⟨(List.replicate k.toNat z.cps.toList).flatten.toArray⟩ := by
      rw [fold_rep]; simp
    rw [e]
    refine ⟨?_, ⟨.str _, H, I.tok _, ⟨_, rfl⟩, q⟩⟩
    show (List.replicate k.toNat z.cps.toList).flatten.toArray.size ≤ sizeLine
    rw [List.size_toArray, flat_len, Nat.mul_comm]
    exact hsz
theorem find_sign (c : Nat) : Txt.find (Str.ofString "-0+") ⟨#[c]⟩ = if c = 45 then 0 else if c = 48 then 1 else if c = 43 then 2 else -1 := by
  have e : Str.ofString "-0+" = ⟨#[45, 48, 43]⟩ := by decide
  rw [e]
  by_cases h1 : c = 45
  · subst h1; unfold Txt.find Builtin.Str.occurrences; simp [Builtin.Str.subAt, Str.length, Id.run, List.range', List.take]; rfl
  by_cases h2 : c = 48
  · subst h2; unfold Txt.find Builtin.Str.occurrences; simp [Builtin.Str.subAt, Str.length, Id.run, List.range', List.take]; rfl
  by_cases h3 : c = 43
  · subst h3; unfold Txt.find Builtin.Str.occurrences; simp [Builtin.Str.subAt, Str.length, Id.run, List.range', List.take]; rfl
  rw [if_neg h1, if_neg h2, if_neg h3]
  unfold Txt.find Builtin.Str.occurrences
  have e1 : ¬ 45 = c := fun h => h1 h.symm
  have e2 : ¬ 48 = c := fun h => h2 h.symm
  have e3 : ¬ 43 = c := fun h => h3 h.symm
  simp [Builtin.Str.subAt, Str.length, Id.run, List.range', e1, e2, e3, List.take]
  rfl

theorem pe_find {X : Cx} {o e : Expr} {to te : TE} {apos pos : Pos} (ho : PE X o to) (he : PE X e te) (hs : starEach [e] X.env = [(false, eval e X.env)] := by rfl) (hbase : attributeBase o "find" X.env (eval o X.env) = eval o X.env := by rfl) (hline : (apos.endLine == pos.line) = true := by rfl) :
    PE X (.Call (.Attribute o "find" apos) [e] [] pos) (qFind to te) :=
  pe_m1 F.slot_str_find F.type_str_find mt_find ho he hs hbase hline
/-! ### comprehensions over what isn't a list -/
def lcJ (J : It) (g : TG) (tt : TT) (te : TE) (vs : List Nat) (Q : VK) (σ : St) (H1 : Hp) : Prop := ∀ D, H1 D = none → ∃ W : Nat → Nat → Hp → Prop, (∃ m, W 0 m (upd H1 D (.lst []))) ∧ ∀ i m H, W i m H →
  ((J.stop i H ∧ Q (.ref D) H) ∨ (J.go i H ∧ ∃ Nx : Hp → Prop, (∀ H', Nx H' → ∃ m', m' < m ∧ W (i + 1) m' H') ∧ ∀ x H', J.yld i H x H' → g x (wipe σ vs) H' fun σ2 H2 => wipe σ2 vs = wipe σ vs ∧ tt σ2 H2 fun b H3 =>
    if b = true then te σ2 H3 fun y H4 => ∃ acc, H4 D = some (.lst acc) ∧ acc.length < sizeLine ∧ Nx (upd H4 D (.lst (acc ++ [y]))) else Nx H3))
section
variable {K : PySem.W.Frag} {σ : St} {H H1 : Hp} {Q : VK}
theorem r_lcR {tl : TE} {g : TG} {tt : TT} {te : TE} {vs : List Nat} : tLc (iRev K (tCons tl tNil)) g tt te vs σ H Q = tl σ H fun x H1 => ∃ a xs, [x] = [.ref a] ∧ SqL K H1 a xs ∧ lcJ (Itv K a xs.length) g tt te vs Q σ H1 := rfl
theorem r_lcS {tl : TE} {g : TG} {tt : TT} {te : TE} {vs : List Nat} : tLc (iStr tl) g tt te vs σ H Q = tl σ H fun x H1 => ∃ s, x = .str s ∧ lcJ (Its s) g tt te vs Q σ H1 := rfl
theorem r_lcE {tl : TE} {g : TG} {tt : TT} {te : TE} {vs : List Nat} : tLc (iEnum K (tCons tl tNil)) g tt te vs σ H Q = tl σ H fun x H1 => ∃ a xs, [x] = [.ref a] ∧ SqL K H1 a xs ∧ lcJ (Ite K a) g tt te vs Q σ H1 := rfl
theorem l_lcR {a : Addr} {xs : List V} {g : TG} {tt : TT} {te : TE} {vs : List Nat} (Pv : Addr → Nat → Hp → Prop) (h0 : ∀ D H2, H1 D = none → Same H1 H2 → H2 D = some (.lst []) → Pv D 0 H2) (hl : ∀ D i H, Pv D i H → SqL K H a xs)
    (hs : ∀ D i x H, H1 D = none → xs[xs.length - 1 - i]? = some x → i < xs.length → Pv D i H → g x (wipe σ vs) H fun σ2 H2 => wipe σ2 vs = wipe σ vs ∧ tt σ2 H2 fun b H3 =>
      if b = true then te σ2 H3 fun y H4 => ∃ acc, H4 D = some (.lst acc) ∧ acc.length < sizeLine ∧ Pv D (i + 1) (upd H4 D (.lst (acc ++ [y]))) else Pv D (i + 1) H3) (hd : ∀ D H, H1 D = none → Pv D xs.length H → Q (.ref D) H) : lcJ (Itv K a xs.length) g tt te vs Q σ H1 := fun D nD =>
  lc_any xs.length (Pv D) (h0 D _ nD (Same.new nD) upd_same) (fun i H hi p => ⟨hi, xs, xs[xs.length - 1 - i]'(by omega), hl D i H p, List.getElem?_eq_getElem (by omega)⟩) (fun H p => Nat.le_refl _)
    (fun i H hi p x H' y => by
      obtain ⟨rfl, k⟩ := y
      exact hs D i x _ nD (k xs (hl D i _ p)) hi p) (fun H p => hd D H nD p)
theorem l_lcS {s : Str} {g : TG} {tt : TT} {te : TE} {vs : List Nat} (Pv : Addr → Nat → Hp → Prop) (h0 : ∀ D H2, H1 D = none → Same H1 H2 → H2 D = some (.lst []) → Pv D 0 H2)
    (hs : ∀ D i c H, H1 D = none → s.cps[i]? = some c → i < s.cps.size → Pv D i H → g (.str ⟨#[c]⟩) (wipe σ vs) H fun σ2 H2 => wipe σ2 vs = wipe σ vs ∧ tt σ2 H2 fun b H3 =>
      if b = true then te σ2 H3 fun y H4 => ∃ acc, H4 D = some (.lst acc) ∧ acc.length < sizeLine ∧ Pv D (i + 1) (upd H4 D (.lst (acc ++ [y]))) else Pv D (i + 1) H3) (hd : ∀ D H, H1 D = none → Pv D s.cps.size H → Q (.ref D) H) : lcJ (Its s) g tt te vs Q σ H1 := fun D nD =>
  lc_any s.cps.size (Pv D) (h0 D _ nD (Same.new nD) upd_same) (fun i H hi p => hi) (fun H p => Nat.le_refl _)
    (fun i H hi p x H' y => by
      obtain ⟨rfl, c, hc, rfl⟩ := y
      exact hs D i c _ nD hc hi p) (fun H p => hd D H nD p)
theorem l_lcE {a : Addr} {xs : List V} {i1 i2 : Nat} {tt : TT} {te : TE} {vs : List Nat} (Pv : Addr → Nat → Hp → Prop) (h0 : ∀ D H2, H1 D = none → Same H1 H2 → H2 D = some (.lst []) → Pv D 0 H2) (hl : ∀ D i H, Pv D i H → SqL K H a xs)
    (hs : ∀ D i x H T, H1 D = none → xs[i]? = some x → i < xs.length → Pv D i H → H T = none → wipe (((wipe σ vs).set i1 (some (.int (i : Nat)))).set i2 (some x)) vs = wipe σ vs ∧ tt (((wipe σ vs).set i1 (some (.int (i : Nat)))).set i2 (some x)) (upd H T (.tup [.int (i : Nat), x])) fun b H3 =>
      if b = true then te (((wipe σ vs).set i1 (some (.int (i : Nat)))).set i2 (some x)) H3 fun y H4 => ∃ acc, H4 D = some (.lst acc) ∧ acc.length < sizeLine ∧ Pv D (i + 1) (upd H4 D (.lst (acc ++ [y]))) else Pv D (i + 1) H3) (hd : ∀ D H, H1 D = none → Pv D xs.length H → Q (.ref D) H) : lcJ (Ite K a) (gTup K 2 (gCons (gName i1) (gCons (gName i2) gNil))) tt te vs Q σ H1 := fun D nD =>
  lc_any xs.length (Pv D) (h0 D _ nD (Same.new nD) upd_same) (fun i H hi p => ⟨xs, xs[i], hl D i H p, by simp [hi]⟩) (fun H p => ⟨xs, hl D _ H p, Nat.le_refl _⟩)
    (fun i H hi p x H' y => by
      obtain ⟨T, z, rfl, nT, rfl, k⟩ := y
      have hz := k xs (hl D i H p)
      exact ⟨T, [.int (i : Nat), z], rfl, SqT.of upd_same, rfl, _, _, rfl, _, _, rfl, rfl, hs D i z H T nD hz hi p nT⟩) (fun H p => hd D H nD p)
theorem r_join {to te : TE} : qJoin K to te σ H Q = to σ H fun x H1 => (∃ a, x = .str a) ∧ te σ H1 fun y H2 => ∃ a p, ∃ ys : List Str, x = .str a ∧ [y] = [.ref p] ∧ (SqL K H2 p (ys.map V.str) ∨ SqT K H2 p (ys.map V.str)) ∧ (ys.map (·.length)).sum + ys.length * a.length ≤ 16777216 ∧ Q (.str (Txt.join a ys)) H2 := rfl
theorem r_find {to te : TE} : qFind to te σ H Q = to σ H fun x H1 => (∃ a, x = .str a) ∧ te σ H1 fun y H2 => ∃ a b, x = .str a ∧ [y] = [.str b] ∧ Q (.int (Txt.find a b)) H2 := rfl
end
/-- the text of code points -/
def mkS (t : List Nat) : Str := ⟨t.toArray⟩
theorem mkS_inj {a b : List Nat} : (mkS a = mkS b) ↔ a = b := by
  unfold mkS
  constructor
  · intro h
    injection h with h
    simpa using h
  · intro h; rw [h]
theorem mkS_len (t : List Nat) : (mkS t).length = t.length := by simp [mkS, Str.length]
theorem mkS_add (a b : List Nat) : mkS a ++ mkS b = mkS (a ++ b) := Str.ext' (by rw [Str.cps_append]; simp [mkS])
theorem mkS_one (c : Nat) : (⟨#[c]⟩ : Str) = mkS [c] := rfl
theorem mkS_cps (t : List Nat) : (mkS t).cps.toList = t := rfl
theorem of_mkS (s : Str) : s = mkS s.cps.toList := by cases s; simp [mkS]
theorem s_0 : Str.ofString "0" = mkS [48] := by decide
theorem s_e : Str.ofString "" = mkS [] := by decide
theorem s_sg : Str.ofString "-0+" = mkS [45, 48, 43] := by decide
/-- the sign of a figure -/
def sgn1 (x : Int) : Nat := if x = -1 then 45 else if x = 0 then 48 else 43
def vl (c : Nat) : Int := if c = 43 then 1 else if c = 48 then 0 else -1
def isSg (c : Nat) : Bool := decide (c = 43) || decide (c = 48) || decide (c = 45)
def txt (ns : List Int) : List Nat := if ns = [] then [48] else (ns.reverse.map sgn1)
def due (t : List Nat) : Option (List Int) := if t = [48] then some [] else if t.all isSg = true ∧ t ≠ [] ∧ t.head? ≠ some 48 then some (t.reverse.map vl) else none
theorem sgn1_at {x : Int} (h : Fg x) : atI (mkS [45, 48, 43]).cps.toList (x + 1) = some (sgn1 x) := by
  rcases h with rfl | rfl | rfl <;> rfl
theorem sgn1_vl {c : Nat} (h : isSg c = true) : sgn1 (vl c) = c := by
  simp [isSg] at h
  rcases h with (rfl | rfl) | rfl <;> rfl
theorem vl_sgn1 {x : Int} (h : Fg x) : vl (sgn1 x) = x ∧ isSg (sgn1 x) = true := by
  rcases h with rfl | rfl | rfl <;> decide
theorem joinL_nil : ∀ ps : List (List Nat), TL.joinL [] ps = ps.flatten
  | [] => rfl
  | [p] => by simp [TL.joinL]
  | p :: q :: r => by
    show p ++ ([] ++ TL.joinL [] (q :: r)) = _
    rw [joinL_nil (q :: r), List.nil_append]
    simp
theorem flat_one : ∀ l : List Nat, (l.map fun c => [c]).flatten = l
  | [] => rfl
  | c :: l => by rw [List.map_cons, List.flatten_cons, flat_one l]; rfl
theorem join_one (l : List Nat) : Txt.join (Str.ofString "") (l.map fun c => mkS [c]) = mkS l := by
  show Builtin.Str.glued _ _ = _
  rw [StrLaws.glued_eq_join, s_e, of_mkS (Str.join _ _)]
  show mkS (TL.tl _) = _
  rw [TL.tl_join]
  show mkS (TL.joinL [] _) = _
  rw [joinL_nil, List.map_map]
  show mkS ((l.map fun c => [c]).flatten) = _
  rw [flat_one]
theorem sum_ones (l : List Nat) : ((l.map fun c => mkS [c]).map (·.length)).sum = l.length := by
  induction l with
  | nil => rfl
  | cons c l ih => rw [List.map_cons, List.map_cons, List.sum_cons, ih, mkS_len]; simp; omega
/-- the place of a sign, as find tells it -/
def plc (c : Nat) : Int := if c = 45 then 0 else if c = 48 then 1 else if c = 43 then 2 else -1
theorem plc_vl {c : Nat} (h : isSg c = true) : plc c - 1 = vl c ∧ plc c ≠ -1 := by
  simp [isSg] at h
  rcases h with (rfl | rfl) | rfl <;> decide
theorem plc_no {c : Nat} (h : isSg c = false) : plc c = -1 := by
  simp [isSg] at h
  unfold plc
  rw [if_neg h.2, if_neg h.1.2, if_neg h.1.1]
theorem inV_no {t : List Nat} : inV (.int (-1)) (t.map fun c => V.int (plc c)) = !t.all isSg := by
  induction t with
  | nil => rfl
  | cons c t ih =>
    have e : inV (.int (-1)) ((c :: t).map fun c => V.int (plc c)) = (eqV (.int (plc c)) (.int (-1)) || inV (.int (-1)) (t.map fun c => V.int (plc c))) := by
      first | rfl | (simp [inV])
    rw [e, ih, List.all_cons]
    cases h : isSg c with
    | true =>
      have := (plc_vl h).2
      simp [eqV, this]
    | false => rw [plc_no h]; simp [eqV]
theorem vl_fg (c : Nat) : Fg (vl c) := by
  unfold vl Fg
  split
  · exact .inr (.inr rfl)
  · split
    · exact .inr (.inl rfl)
    · exact .inl rfl
theorem row_vl {t : List Nat} (h : t.all isSg = true) : Row (t.reverse.map vl) ↔ t.head? ≠ some 48 := by
  have e : (t.reverse.map vl).getLast? = t.head?.map vl := by rw [List.getLast?_map, List.getLast?_reverse]
  constructor
  · intro r hh
    have := r.last
    unfold LastNz at this
    rw [e, hh] at this
    exact this rfl
  · intro hh
    refine ⟨fun x hx => ?_, ?_⟩
    · obtain ⟨c, _, rfl⟩ := List.mem_map.mp hx
      exact vl_fg c
    · unfold LastNz
      rw [e]
      cases t with
      | nil => simp
      | cons c t =>
        simp only [List.head?_cons, Option.map_some, ne_eq, Option.some.injEq] at hh ⊢
        have hc : isSg c = true := by
          rw [List.all_cons, Bool.and_eq_true] at h; exact h.1
        simp [isSg] at hc
        rcases hc with (rfl | rfl) | rfl
        · decide
        · exact absurd rfl hh
        · decide
section
variable {K : PySem.W.Frag} {C : Ad} {vs : List V} {H : Hp} {Q : VK} {E : XK}
def sp_shown (K : PySem.W.Frag) (C : Ad) : Sp := rowSp K C fun ns Q H => Q (.str (mkS (txt ns))) H
/-- the reading of shown; slots: 0 row 1 figure -/
def t_shown (K : PySem.W.Frag) (C : Ad) (E : XK) : TS :=
      (tSeq (tDrop (tF (sp_need_row K C) E (tCons (tVar 0) tNil)))
      (tSeq (tIfS (tTest (tOp (rEqD K) (tVar 0) (tLst tNil))) (tRet (tC (.str "0"))) tNext)
      (tRet (qJoin K (tC (.str "")) (tLc (iRev K (tCons (tVar 0) tNil)) (gName 1) tYes (tOp rIxS (tC (.str "-0+")) (tOp qAdd (tVar 1) (tC (.int 1)))) [1])))))
theorem r_shown (h : sp_shown K C vs H Q E) : t_shown K C E { nx := fun _ H' => Q .non H', rt := Q } (st 2 vs) H := by
  obtain ⟨x, rfl, h⟩ := h
  unfold t_shown
  walk_at "st"
  walk_at "rd"
  rcases h with ⟨hb, q1⟩ | ⟨a, ns, rfl, hx, hr, hz, q2⟩
  · exact ⟨x, false, rfl, hb, (fun e => by cases e), fun _ => q1⟩
  refine ⟨.ref a, true, rfl, RowB.row hx hr hz, fun _ H1 s1 => ?_, fun e => by cases e⟩
  walk_at "rd"
  intro p np
  generalize ep : upd H1 p _ = H2
  obtain ⟨s2, hp⟩ := new_of ep np
  have hx2 := (s1.trans s2).seq hx
  refine eqD_ints (ms := []) hx2 (sq hp) ?_
  walk_at "rd"
  by_cases c : ns = []
  · rw [if_pos c]
    have this : Q (V.str (mkS (txt ns))) H2 := q2 H2 (s1.trans s2)
    unfold txt at this
    rw [if_pos c] at this
    rw [s_0]
    exact this
  rw [if_neg c, r_join]
  walk_at "rd"
  refine ⟨⟨_, rfl⟩, ?_⟩
  rw [r_lcR]
  walk_at "rd"
  refine ⟨a, _, rfl, hx2, l_lcR (fun D i H' => Same H2 H' ∧ H' D = some (.lst ((ns.reverse.take i).map fun x => V.str (mkS [sgn1 x])))) (fun D H3 nD sD hD => ⟨sD, by rw [List.take_zero]; exact hD⟩) (fun D i H' ⟨p, _⟩ => p.seq hx2) (fun D i x H' nD hi hlt ⟨p, hD⟩ => ?_) (fun D H3 nD ⟨s3, hD⟩ => ?_)⟩
  · obtain ⟨z, hz1, rfl⟩ := mapE hi
    rw [List.length_map] at hlt hz1
    have hz2 : ns.reverse[i]? = some z := by rw [List.getElem?_reverse hlt]; exact hz1
    walk_at "rd"
    refine ⟨_, _, sgn1 z, rfl, rfl, by rw [s_sg, mkS_len]; decide, ?_, _, hD, ?_, p.mut nD, ?_⟩
    · rw [s_sg]
      exact sgn1_at (hr.fg z (List.mem_of_getElem? hz1))
    · rw [List.length_map, List.length_take, List.length_reverse, sizeLine_is]; omega
    · rw [upd_same, take_snoc hz2, List.map_append]; rfl
  · rw [List.length_map, show ns.length = ns.reverse.length from List.length_reverse.symm, List.take_length] at hD
    have e1 : (ns.reverse.map fun x => V.str (mkS [sgn1 x])) = ((ns.reverse.map sgn1).map fun c => mkS [c]).map V.str := by
      rw [List.map_map, List.map_map]; rfl
    rw [e1] at hD
    refine ⟨_, D, _, rfl, rfl, .inl (sq hD), ?_, ?_⟩
    · rw [sum_ones, s_e, mkS_len]; simp; omega
    · rw [join_one]
      have this : Q (V.str (mkS (txt ns))) H3 := q2 H3 ((s1.trans s2).trans s3)
      unfold txt at this
      rw [if_neg c] at this
      exact this
def sp_read (K : PySem.W.Frag) (C : Ad) : Sp := fun vs H Q E => ∃ x, vs = [x] ∧ ((∃ n, Th K H x n ∧ n ≠ "str" ∧ ∀ H', Same H H' → E (.ref C.NoText) none H') ∨
  (∃ t, x = .str (mkS t) ∧ t.length ≤ 1000000 ∧ ((due t = none ∧ ∀ H', Same H H' → E (.ref C.NoText) none H') ∨ (∃ ns, due t = some ns ∧ newL H ns Q))))
/-- the reading of read; slots: 0 text 1 places 2 found 3 sign 4 place -/
def t_read (K : PySem.W.Frag) (C : Ad) (E : XK) : TS :=
      (tSeq (tIfS (tNot (tB (tCB (rIsi K) (tCons (tVar 0) (tCons (tC (.ty "str")) tNil))))) (tRaiseX C.NoText E) tNext)
      (tSeq (tIfS (tTest (tOp rEq (tVar 0) (tC (.str "0")))) (tRet (tLst tNil)) tNext)
      (tSeq (tAsg (tLc (iStr (tVar 0)) (gName 3) tYes (qFind (tC (.str "-0+")) (tVar 3)) [3]) (gName 1))
      (tSeq (tAsg (tLc (iRev K (tCons (tVar 1) tNil)) (gName 4) tYes (tOp qSub (tVar 4) (tC (.int 1))) [4]) (gName 2))
      (tSeq (tIfS (tOr (tTest (tOp rEq (tVar 0) (tC (.str "")))) (tOr (tTest (tOp (rIn K false) (tUn qNeg (tC (.int 1))) (tVar 1))) (tNot (tB (tF (sp_is_row K C) E (tCons (tVar 2) tNil)))))) (tRaiseX C.NoText E) tNext)
      (tRet (tVar 2)))))))
theorem r_read (h : sp_read K C vs H Q E) : t_read K C E { nx := fun _ H' => Q .non H', rt := Q } (st 5 vs) H := by
  obtain ⟨x, rfl, h⟩ := h
  unfold t_read
  walk_at "st"
  walk_at "rd"
  rcases h with ⟨n, hn, hne, q⟩ | ⟨t, rfl, hz, h⟩
  · refine isi_str hn ?_
    rw [decide_eq_false hne]
    walk_at "rd"
    exact q H (Same.refl H)
  refine isi_str th_str ?_
  rw [decide_eq_true rfl]
  walk_at "rd"
  rw [if_neg (by decide), s_0]
  have e48 : (mkS t = mkS [48]) = (t = [48]) := propext mkS_inj
  by_cases c0 : t = [48]
  · rw [if_pos (by rw [c0])]
    intro p np
    generalize ep : upd H p _ = H1
    obtain ⟨s1, hp⟩ := new_of ep np
    have hd : due t = some [] := by unfold due; rw [if_pos c0]
    rcases h with ⟨e, _⟩ | ⟨ns, e, q⟩
    · rw [hd] at e; cases e
    · rw [hd] at e; cases e
      exact q H1 p s1 np hp
  rw [if_neg (by rw [e48]; exact c0), r_lcS]
  walk_at "rd"
  have hd : due t = if t.all isSg = true ∧ t ≠ [] ∧ t.head? ≠ some 48 then some (t.reverse.map vl) else none := by unfold due; rw [if_neg c0]
  have htz : t.toArray.size = t.length := by simp
  refine ⟨_, rfl, l_lcS (fun D i H' => Same H H' ∧ H' D = some (.lst ((t.take i).map fun c => V.int (plc c)))) (fun D H2 nD sD hD => ⟨sD, hD⟩) (fun D i c H' nD hi hlt ⟨p, hD⟩ => ?_) (fun P H1 nP ⟨s1, hP⟩ => ?_)⟩
  · have hi2 : t[i]? = some c := by simpa [mkS] using hi
    walk_at "rd"
    rw [r_find]
    walk_at "rd"
    refine ⟨⟨_, rfl⟩, _, _, rfl, rfl, _, hD, ?_, p.mut nD, ?_⟩
    · rw [List.length_map, List.length_take, sizeLine_is]; omega
    · rw [upd_same, take_snoc hi2, List.map_append, find_sign]; rfl
  have hP' : H1 P = some (.lst (t.map fun c => V.int (plc c))) := by
    have e : (mkS t).cps.size = t.length := htz
    rw [e, List.take_length] at hP
    exact hP
  walk_at "rd"
  rw [r_lcR]
  walk_at "rd"
  have hPm : t.map (fun c => V.int (plc c)) = (t.map plc).map V.int := by rw [List.map_map]; rfl
  refine ⟨P, _, rfl, sq hP', l_lcR (fun D i H' => Same H1 H' ∧ H' D = some (.lst ((t.reverse.take i).map fun c => V.int (plc c - 1)))) (fun D H3 nD sD hD => ⟨sD, by rw [List.take_zero]; exact hD⟩) (fun D i H' ⟨p, _⟩ => sq (p _ _ hP')) (fun D i x H' nD hi hlt ⟨p, hD⟩ => ?_) (fun F H2 nF ⟨s2, hF⟩ => ?_)⟩
  · obtain ⟨z, hz1, rfl⟩ := mapE hi
    rw [List.length_map] at hlt hz1
    have hz2 : t.reverse[i]? = some z := by rw [List.getElem?_reverse hlt]; exact hz1
    walk_at "rd"
    refine ⟨_, hD, ?_, p.mut nD, ?_⟩
    · rw [List.length_map, List.length_take, List.length_reverse, sizeLine_is]; omega
    · rw [upd_same, take_snoc hz2, List.map_append]; rfl
  rw [List.length_map, show t.length = t.reverse.length from List.length_reverse.symm, List.take_length] at hF
  walk_at "rd"
  rw [s_e]
  have ee : (mkS t = mkS []) = (t = []) := propext mkS_inj
  by_cases c1 : t = []
  · rw [if_pos (by rw [c1])]
    have hn : due t = none := by rw [hd, if_neg (fun h => h.2.1 c1)]
    rcases h with ⟨_, q⟩ | ⟨ns, e, q⟩
    · exact q H2 (s1.trans s2)
    · rw [hn] at e; cases e
  rw [if_neg (by rw [ee]; exact c1)]
  refine ⟨P, _, rfl, .inl (sq (s2 _ _ hP')), rfl, by rw [List.all_map, List.all_eq_true]; exact fun _ _ => rfl, ?_⟩
  rw [if_neg (by decide), inV_no]
  refine ⟨_, rfl, ?_⟩
  cases hall : t.all isSg with
  | false =>
    rw [if_pos (by rfl)]
    have hn : due t = none := by rw [hd, if_neg (fun h => by rw [hall] at h; cases h.1)]
    rcases h with ⟨_, q⟩ | ⟨ns, e, q⟩
    · exact q H2 (s1.trans s2)
    · rw [hn] at e; cases e
  | true =>
    rw [if_neg (by decide)]
    have ef : (t.reverse.map fun c => V.int (plc c - 1)) = (t.reverse.map vl).map V.int := by
      rw [List.map_map]
      apply List.map_congr_left
      intro c hc
      have := List.all_eq_true.mp hall c (List.mem_reverse.mp hc)
      show V.int (plc c - 1) = V.int (vl c)
      rw [(plc_vl this).1]
    rw [ef] at hF
    have rb : RowB K H2 (.ref F) (rowV ((t.reverse.map vl).map V.int)) := .lst (sq hF) (fun y hy => by
      obtain ⟨i, _, rfl⟩ := List.mem_map.mp hy
      exact ⟨"int", th_int⟩) (by rw [List.length_map, List.length_map, List.length_reverse]; omega)
    refine ⟨_, _, rfl, rb, fun H3 s3 => ⟨_, rfl, ?_⟩⟩
    by_cases ch : t.head? = some 48
    · have hn : due t = none := by rw [hd, if_neg (fun h => h.2.2 ch)]
      cases hb : rowV ((t.reverse.map vl).map V.int) with
      | true =>
        obtain ⟨ns, e, r⟩ := row_of hb
        have e2 : t.reverse.map vl = ns := (List.map_inj_right (f := V.int) (fun a b h => by injection h)).mp e
        rw [← e2] at r
        exact absurd ch ((row_vl hall).mp r)
      | false =>
        rw [if_pos (by rfl)]
        rcases h with ⟨_, q⟩ | ⟨ns, e, q⟩
        · exact q H3 ((s1.trans s2).trans s3)
        · rw [hn] at e; cases e
    · have hs : due t = some (t.reverse.map vl) := by rw [hd, if_pos ⟨hall, c1, ch⟩]
      rw [rowV_row ((row_vl hall).mpr ch), if_neg (by decide)]
      rcases h with ⟨e, _⟩ | ⟨ns, e, q⟩
      · rw [hs] at e; cases e
      · rw [hs] at e; cases e
        exact q H3 F ((s1.trans s2).trans s3) (Same.none s1 nF) (s3 _ _ hF)
end
end Lf

namespace Lf
open PySem PySem.Spec L2
open PyProof.Rows hiding St
/-! ### deeds -/
def isDd (c : Nat) : Bool := decide (c = 100) || (decide (c = 117) || decide (c = 119))
def okD (t : List Nat) : Bool := t.all isDd
def ledS (n : Int) (c : Nat) : Int := if c = 100 then 2 * n else if c = 117 then n + 1 else n - 1
def ledN (t : List Nat) : Int := t.foldl ledS 0
def costS (D S : Int) (c : Nat) : Int := if c = 100 then D else S
def costN (D S : Int) (t : List Nat) : Int := (t.map (costS D S)).sum
theorem ledN_snoc (t : List Nat) (c : Nat) : ledN (t ++ [c]) = ledS (ledN t) c := by unfold ledN; rw [List.foldl_append]; rfl
theorem costN_snoc (D S : Int) (t : List Nat) (c : Nat) : costN D S (t ++ [c]) = costN D S t + costS D S c := by unfold costN; rw [List.map_append, List.sum_append]; simp
theorem s_d : Str.ofString "d" = mkS [100] := by decide
theorem s_u : Str.ofString "u" = mkS [117] := by decide
theorem s_w : Str.ofString "w" = mkS [119] := by decide
theorem s_duw : Str.ofString "duw" = mkS [100, 117, 119] := by decide
/-- whether a thing is deeds -/
inductive DeedB (K : PySem.W.Frag) (H : Hp) : V → Bool → Prop
  | no {x : V} {n : String} : Th K H x n → n ≠ "str" → DeedB K H x false
  | txt {t : List Nat} : t.length ≤ 1000000 → DeedB K H (.str (mkS t)) (okD t)
theorem DeedB.same {K : PySem.W.Frag} {H H' : Hp} {x : V} {b : Bool} (s : Same H H') (h : DeedB K H x b) : DeedB K H' x b := by
  cases h with
  | no h hn => exact .no (h.same s) hn
  | txt h => exact .txt h
def cstB : V → Bool
  | .int i => decide (1 ≤ i) && decide (i ≤ 50)
  | _ => false
theorem one_is {k c : Nat} : (mkS [c] = mkS [k]) = (c = k) := propext (mkS_inj.trans ⟨fun h => by injection h, fun h => by rw [h]⟩)
section
variable {K : PySem.W.Frag} {C : Ad} {vs : List V} {H : Hp} {Q : VK} {E : XK}
def sp_need_deeds (K : PySem.W.Frag) (C : Ad) : Sp := fun vs H Q E => ∃ x b, vs = [x] ∧ DeedB K H x b ∧ (b = true → ∀ H', Same H H' → Q .non H') ∧ (b = false → ∀ H', Same H H' → E (.ref C.NoDeeds) none H')
/-- the reading of need_deeds; slots: 0 thing 1 sign -/
def t_need_deeds (K : PySem.W.Frag) (C : Ad) (E : XK) : TS :=
      (tIfS (tOr (tNot (tB (tCB (rIsi K) (tCons (tVar 0) (tCons (tC (.ty "str")) tNil))))) (tNot (tB (tCB (rAll K) (tCons (tLc (iStr (tVar 0)) (gName 1) tYes (tOp qInS (tVar 1) (tC (.str "duw"))) [1]) tNil))))) (tRaiseX C.NoDeeds E) tNext)
theorem r_need_deeds (h : sp_need_deeds K C vs H Q E) : t_need_deeds K C E { nx := fun _ H' => Q .non H', rt := Q } (st 2 vs) H := by
  obtain ⟨x, b, rfl, hb, q1, q2⟩ := h
  unfold t_need_deeds
  walk_at "st"
  walk_at "rd"
  cases hb with
  | no hn hne =>
    refine isi_str hn ?_
    rw [decide_eq_false hne]
    walk_at "rd"
    exact q2 rfl H (Same.refl H)
  | @txt t hz =>
    refine isi_str th_str ?_
    rw [decide_eq_true rfl]
    walk_at "rd"
    rw [if_neg (by decide)]
    rw [r_lcS]
    walk_at "rd"
    refine ⟨_, rfl, l_lcS (fun D i H' => Same H H' ∧ H' D = some (.lst (((t.take i).map isDd).map V.bl))) (fun D H2 nD sD hD => ⟨sD, hD⟩) (fun D i c H' nD hi hlt ⟨p, hD⟩ => ?_) (fun P H1 nP ⟨s1, hP⟩ => ?_)⟩
    · have hi2 : t[i]? = some c := by simpa [mkS] using hi
      walk_at "rd"
      refine ⟨c, _, rfl, rfl, _, hD, ?_, p.mut nD, ?_⟩
      · rw [List.length_map, List.length_map, List.length_take, sizeLine_is]; omega
      · rw [upd_same, take_snoc hi2, List.map_append, List.map_append, s_duw, mkS_cps]
        have e : decide (c ∈ [100, 117, 119]) = isDd c := by simp [isDd]
        rw [e]; rfl
    have htz : (mkS t).cps.size = t.length := by simp [mkS]
    rw [htz, List.take_length] at hP
    walk_at "rd"
    refine ⟨P, _, rfl, sq hP, ⟨_, rfl, ?_⟩⟩
    have e1 : (t.map isDd).all id = okD t := by unfold okD; rw [List.all_map]; rfl
    rw [e1]
    cases hd : okD t with
    | false => exact q2 hd H1 s1
    | true => exact q1 hd H1 s1
def sp_need_cost (K : PySem.W.Frag) (C : Ad) : Sp := fun vs H Q E => ∃ x n, vs = [x] ∧ Th K H x n ∧ (cstB x = true → Q .non H) ∧ (cstB x = false → E (.ref C.NoCost) none H)
/-- the reading of need_cost; slots: 0 thing -/
def t_need_cost (K : PySem.W.Frag) (C : Ad) (E : XK) : TS :=
      (tIfS (tOr (tNot (tB (tF (sp_is_whole K C) E (tCons (tVar 0) tNil)))) (tNot (tTest (tChain qLe qLe (tC (.int 1)) (tVar 0) (tC (.int 50)))))) (tRaiseX C.NoCost E) tNext)
theorem r_need_cost (h : sp_need_cost K C vs H Q E) : t_need_cost K C E { nx := fun _ H' => Q .non H', rt := Q } (st 1 vs) H := by
  obtain ⟨x, n, rfl, hx, q1, q2⟩ := h
  unfold t_need_cost
  walk_at "st"
  walk_at "rd"
  refine ⟨x, n, rfl, hx, ?_⟩
  cases x with
  | int i =>
    refine ⟨true, rfl, ?_⟩
    walk_at "rd"
    rw [if_neg (by decide)]
    by_cases c1 : 1 ≤ i
    · rw [if_pos c1]
      by_cases c2 : i ≤ 50
      · rw [if_pos c2]; exact q1 (by simp [cstB, c1, c2])
      · rw [if_neg c2]; exact q2 (by simp [cstB, c2])
    · rw [if_neg c1]; exact q2 (by simp [cstB, c1])
  | _ => exact ⟨false, rfl, q2 rfl⟩
def sp_led (K : PySem.W.Frag) (C : Ad) : Sp := fun vs H Q E => ∃ x, vs = [x] ∧ ((DeedB K H x false ∧ ∀ H', Same H H' → E (.ref C.NoDeeds) none H') ∨ (∃ t, x = .str (mkS t) ∧ t.length ≤ 1000000 ∧ okD t = true ∧ ∀ H', Same H H' → Q (.int (ledN t)) H'))
/-- the reading of led; slots: 0 deeds 1 found 2 sign -/
def t_led (K : PySem.W.Frag) (C : Ad) (E : XK) : TS :=
      (tSeq (tDrop (tF (sp_need_deeds K C) E (tCons (tVar 0) tNil)))
      (tSeq (tAsg (tC (.int 0)) (gName 1))
      (tSeq (tFor (iStr (tVar 0)) (gName 2) (tIfS (tTest (tOp rEq (tVar 2) (tC (.str "d")))) (tAsg (tOp qMul (tC (.int 2)) (tVar 1)) (gName 1)) (tAug 1 (tIf (tTest (tOp rEq (tVar 2) (tC (.str "u")))) (tC (.int 1)) (tUn qNeg (tC (.int 1)))) (ipI fun i j => i + j))))
      (tRet (tVar 1)))))
theorem r_led (h : sp_led K C vs H Q E) : t_led K C E { nx := fun _ H' => Q .non H', rt := Q } (st 3 vs) H := by
  obtain ⟨x, rfl, h⟩ := h
  unfold t_led
  walk_at "st"
  walk_at "rd"
  rcases h with ⟨hb, q⟩ | ⟨t, rfl, hz, hd, q⟩
  · exact ⟨_, _, rfl, hb, (fun e => by cases e), fun _ => q⟩
  have hb : DeedB K H (.str (mkS t)) true := hd ▸ DeedB.txt hz
  refine ⟨_, _, rfl, hb, fun _ H1 s1 => ?_, fun e => by cases e⟩
  walk_at "rd"
  refine f_str (fun i σ H' => ∃ y2, σ = [some (.str (mkS t)), some (.int (ledN (t.take i))), y2] ∧ H' = H1) rfl ⟨none, rfl, rfl⟩ (fun i c σ H' hi hlt ⟨y2, e, p⟩ => ?_) (fun σ H' ⟨y2, e, p⟩ => ?_)
  · subst e p
    have hi2 : t[i]? = some c := by simpa [mkS] using hi
    walk_at "rd"
    rw [mkS_one, s_d, s_u, take_snoc hi2, ledN_snoc]
    simp only [one_is]
    unfold ledS
    by_cases c1 : c = 100
    · rw [if_pos c1, if_pos c1]
      walk_at "rd"
      exact ⟨_, rfl⟩
    · rw [if_neg c1, if_neg c1]
      by_cases c2 : c = 117
      · rw [if_pos c2, if_pos c2]
        walk_at "rd"
        exact ⟨_, rfl⟩
      · rw [if_neg c2, if_neg c2]
        walk_at "rd"
        exact ⟨_, rfl⟩
  · subst e p
    have htz : (mkS t).cps.size = t.length := by simp [mkS]
    rw [htz, List.take_length]
    walk_at "rd"
    exact q _ s1
def sp_cost_of (K : PySem.W.Frag) (C : Ad) : Sp := fun vs H Q E => ∃ x y z, vs = [x, y, z] ∧ ((DeedB K H x false ∧ ∀ H', Same H H' → E (.ref C.NoDeeds) none H') ∨ (∃ t m n, x = .str (mkS t) ∧ t.length ≤ 1000000 ∧ okD t = true ∧ Th K H y m ∧ Th K H z n ∧
  (((cstB y = false ∨ cstB z = false) ∧ ∀ H', Same H H' → E (.ref C.NoCost) none H') ∨ (∃ D S, y = .int D ∧ z = .int S ∧ cstB y = true ∧ cstB z = true ∧ ∀ H', Same H H' → Q (.int (costN D S t)) H'))))
/-- the reading of cost_of; slots: 0 deeds 1 double 2 step 3 sign -/
def t_cost_of (K : PySem.W.Frag) (C : Ad) (E : XK) : TS :=
      (tSeq (tDrop (tF (sp_need_deeds K C) E (tCons (tVar 0) tNil)))
      (tSeq (tDrop (tF (sp_need_cost K C) E (tCons (tVar 1) tNil)))
      (tSeq (tDrop (tF (sp_need_cost K C) E (tCons (tVar 2) tNil)))
      (tRet (tCB (rSum K) (tCons (tLc (iStr (tVar 0)) (gName 3) tYes (tIf (tTest (tOp rEq (tVar 3) (tC (.str "d")))) (tVar 1) (tVar 2)) [3]) tNil))))))
theorem r_cost_of (h : sp_cost_of K C vs H Q E) : t_cost_of K C E { nx := fun _ H' => Q .non H', rt := Q } (st 4 vs) H := by
  obtain ⟨x, y, z, rfl, h⟩ := h
  unfold t_cost_of
  walk_at "st"
  walk_at "rd"
  rcases h with ⟨hb, q⟩ | ⟨t, m, n, rfl, hz, hd, hy, hw, h⟩
  · exact ⟨_, _, rfl, hb, (fun e => by cases e), fun _ => q⟩
  have hb : DeedB K H (.str (mkS t)) true := hd ▸ DeedB.txt hz
  refine ⟨_, _, rfl, hb, fun _ H1 s1 => ?_, fun e => by cases e⟩
  walk_at "rd"
  refine ⟨y, m, rfl, hy.same s1, fun cy => ?_, fun cy => ?_⟩
  · walk_at "rd"
    refine ⟨z, n, rfl, hw.same s1, fun cz => ?_, fun cz => ?_⟩
    · rcases h with ⟨hc, _⟩ | ⟨D, S, rfl, rfl, _, _, q⟩
      · rw [cy, cz] at hc; rcases hc with e | e <;> cases e
      walk_at "rd"
      rw [r_lcS]
      walk_at "rd"
      refine ⟨_, rfl, l_lcS (fun P i H' => Same H1 H' ∧ H' P = some (.lst (((t.take i).map (costS D S)).map V.int))) (fun P H2 nD sD hD => ⟨sD, hD⟩) (fun P i c H' nD hi hlt ⟨p, hD⟩ => ?_) (fun P H2 nP ⟨s2, hP⟩ => ?_)⟩
      · have hi2 : t[i]? = some c := by simpa [mkS] using hi
        have fin : ∀ v : Int, v = costS D S c → ∃ acc, H' P = some (.lst acc) ∧ acc.length < sizeLine ∧ Same H1 (upd H' P (.lst (acc ++ [V.int v]))) ∧ (upd H' P (.lst (acc ++ [V.int v]))) P = some (.lst (((t.take (i + 1)).map (costS D S)).map V.int)) := by
          rintro v rfl
          refine ⟨_, hD, ?_, p.mut nD, ?_⟩
          · rw [List.length_map, List.length_map, List.length_take, sizeLine_is]; omega
          · rw [upd_same, take_snoc hi2, List.map_append, List.map_append]; rfl
        walk_at "rd"
        rw [mkS_one, s_d]
        simp only [one_is]
        by_cases c1 : c = 100
        · rw [if_pos c1]
          exact fin _ (by unfold costS; rw [if_pos c1])
        · rw [if_neg c1]
          exact fin _ (by unfold costS; rw [if_neg c1])
      have htz : (mkS t).cps.size = t.length := by simp [mkS]
      rw [htz, List.take_length] at hP
      walk_at "rd"
      exact ⟨P, _, rfl, sq hP, q _ (s1.trans s2)⟩
    · rcases h with ⟨_, q⟩ | ⟨D, S, rfl, rfl, _, e, q⟩
      · exact q _ s1
      · rw [cz] at e; cases e
  · rcases h with ⟨_, q⟩ | ⟨D, S, rfl, rfl, e, _, q⟩
    · exact q _ s1
    · rw [cy] at e; cases e
end
end Lf
namespace Lf
/-! ### the least deeds -/
def best1 (S : Int) (n : Nat) (b : Int × List Nat) : Int × List Nat := if n ≤ 100 ∧ (n : Int) * S < b.1 then ((n : Int) * S, List.replicate n 117) else b
def wst (D S : Int) (p : Int × List Nat) (u : List Nat) : Int × List Nat := (p.1 + D + S * (u.length : Int), p.2 ++ [100] ++ u)
def less2 (a b : Int × List Nat) : Int × List Nat := if b.1 < a.1 then b else a
def Fp (D S : Int) (n : Nat) : Int × List Nat :=
  if h0 : n = 0 then (0, []) else if h1 : n = 1 then (S, [117]) else if n % 2 = 0 then best1 S n (wst D S (Fp D S (n / 2)) [])
  else best1 S n (less2 (wst D S (Fp D S (n / 2)) [117]) (wst D S (Fp D S (n / 2 + 1)) [119]))
termination_by n
decreasing_by all_goals omega
def cst (D S : Int) (n : Nat) : Int := (Fp D S n).1
theorem Fp_zero (D S : Int) : Fp D S 0 = (0, []) := by rw [Fp]; simp
theorem Fp_one (D S : Int) : Fp D S 1 = (S, [117]) := by rw [Fp]; simp
theorem Fp_even (D S : Int) {h : Nat} (h0 : 0 < h) : Fp D S (2 * h) = best1 S (2 * h) (wst D S (Fp D S h) []) := by
  rw [Fp, dif_neg (by omega), dif_neg (by omega), if_pos (by omega), show 2 * h / 2 = h by omega]
theorem Fp_odd (D S : Int) {h : Nat} (h0 : 0 < h) : Fp D S (2 * h + 1) = best1 S (2 * h + 1) (less2 (wst D S (Fp D S h) [117]) (wst D S (Fp D S (h + 1)) [119])) := by
  rw [Fp, dif_neg (by omega), dif_neg (by omega), if_neg (by omega), show (2 * h + 1) / 2 = h by omega]
theorem best1_cases (S : Int) (n : Nat) (b : Int × List Nat) : (best1 S n b = b ∧ ¬ (n ≤ 100 ∧ (n : Int) * S < b.1)) ∨ (best1 S n b = ((n : Int) * S, List.replicate n 117) ∧ n ≤ 100 ∧ (n : Int) * S < b.1) := by
  unfold best1
  by_cases h : n ≤ 100 ∧ (n : Int) * S < b.1
  · rw [if_pos h]; exact .inr ⟨rfl, h.1, h.2⟩
  · rw [if_neg h]; exact .inl ⟨rfl, h⟩
theorem less2_cases (a b : Int × List Nat) : (less2 a b = a ∧ a.1 ≤ b.1) ∨ (less2 a b = b ∧ b.1 < a.1) := by
  unfold less2
  by_cases h : b.1 < a.1
  · rw [if_pos h]; exact .inr ⟨rfl, h⟩
  · rw [if_neg h]; exact .inl ⟨rfl, by omega⟩
/-- the cost, told by cases -/
theorem cst_zero (D S : Int) : cst D S 0 = 0 := by unfold cst; rw [Fp_zero]
theorem cst_one (D S : Int) : cst D S 1 = S := by unfold cst; rw [Fp_one]
theorem cst_even (D S : Int) {h : Nat} (h0 : 0 < h) : cst D S (2 * h) ≤ cst D S h + D ∧ (2 * h ≤ 100 → cst D S (2 * h) ≤ ((2 * h : Nat) : Int) * S) ∧ (cst D S (2 * h) = cst D S h + D ∨ (2 * h ≤ 100 ∧ cst D S (2 * h) = ((2 * h : Nat) : Int) * S)) := by
  unfold cst
  rw [Fp_even D S h0]
  have e : (wst D S (Fp D S h) []).1 = (Fp D S h).1 + D := by simp [wst]
  rcases best1_cases S (2 * h) (wst D S (Fp D S h) []) with ⟨h1, h2⟩ | ⟨h1, h2, h3⟩ <;> rw [h1]
  · rw [e] at h2 ⊢
    refine ⟨by omega, fun hh => ?_, .inl rfl⟩
    have : ¬ (((2 * h : Nat) : Int) * S < (Fp D S h).1 + D) := fun q => h2 ⟨hh, q⟩
    omega
  · rw [e] at h3
    exact ⟨by omega, fun _ => Int.le_refl _, .inr ⟨h2, rfl⟩⟩
theorem cst_odd (D S : Int) {h : Nat} (h0 : 0 < h) : cst D S (2 * h + 1) ≤ cst D S h + D + S ∧ cst D S (2 * h + 1) ≤ cst D S (h + 1) + D + S ∧ (2 * h + 1 ≤ 100 → cst D S (2 * h + 1) ≤ ((2 * h + 1 : Nat) : Int) * S) ∧
    (cst D S (2 * h + 1) = cst D S h + D + S ∨ cst D S (2 * h + 1) = cst D S (h + 1) + D + S ∨ (2 * h + 1 ≤ 100 ∧ cst D S (2 * h + 1) = ((2 * h + 1 : Nat) : Int) * S)) := by
  unfold cst
  rw [Fp_odd D S h0]
  have ea : (wst D S (Fp D S h) [117]).1 = (Fp D S h).1 + D + S := by simp [wst]
  have eb : (wst D S (Fp D S (h + 1)) [119]).1 = (Fp D S (h + 1)).1 + D + S := by simp [wst]
  have hm : (less2 (wst D S (Fp D S h) [117]) (wst D S (Fp D S (h + 1)) [119])).1 ≤ (Fp D S h).1 + D + S ∧ (less2 (wst D S (Fp D S h) [117]) (wst D S (Fp D S (h + 1)) [119])).1 ≤ (Fp D S (h + 1)).1 + D + S ∧
      ((less2 (wst D S (Fp D S h) [117]) (wst D S (Fp D S (h + 1)) [119])).1 = (Fp D S h).1 + D + S ∨ (less2 (wst D S (Fp D S h) [117]) (wst D S (Fp D S (h + 1)) [119])).1 = (Fp D S (h + 1)).1 + D + S) := by
    rcases less2_cases (wst D S (Fp D S h) [117]) (wst D S (Fp D S (h + 1)) [119]) with ⟨q1, q2⟩ | ⟨q1, q2⟩ <;> rw [q1] <;> rw [ea, eb] at q2
    · rw [ea]; exact ⟨by omega, by omega, .inl rfl⟩
    · rw [eb]; exact ⟨by omega, by omega, .inr rfl⟩
  generalize less2 (wst D S (Fp D S h) [117]) (wst D S (Fp D S (h + 1)) [119]) = m at hm
  rcases best1_cases S (2 * h + 1) m with ⟨h1, h2⟩ | ⟨h1, h2, h3⟩ <;> rw [h1]
  · refine ⟨hm.1, hm.2.1, fun hh => ?_, ?_⟩
    · have : ¬ (((2 * h + 1 : Nat) : Int) * S < m.1) := fun q => h2 ⟨hh, q⟩
      omega
    · rcases hm.2.2 with e | e
      · exact .inl e
      · exact .inr (.inl e)
  · exact ⟨by show ((2 * h + 1 : Nat) : Int) * S ≤ _; omega, by show ((2 * h + 1 : Nat) : Int) * S ≤ _; omega, fun _ => Int.le_refl _, .inr (.inr ⟨h2, rfl⟩)⟩
theorem cst_two (D S : Int) (n : Nat) (hD : 0 ≤ D) : cst D S (2 * n) ≤ cst D S n + D := by
  cases n with
  | zero => rw [show 2 * 0 = 0 from rfl]; omega
  | succ n => exact (cst_even D S (Nat.succ_pos n)).1
/-- neighbours -/
theorem cst_near (D S : Int) (hD : 1 ≤ D) (hD2 : D ≤ 50) (hS : 1 ≤ S) : ∀ n : Nat, cst D S (n + 1) ≤ cst D S n + S ∧ cst D S n ≤ cst D S (n + 1) + S := by
  intro n
  induction n using Nat.strongRecOn with
  | ind n ih =>
    rcases Nat.eq_zero_or_pos n with rfl | hn
    · rw [Nat.zero_add, cst_zero, cst_one]; omega
    obtain ⟨h, e | e⟩ : ∃ h, n = 2 * h ∨ n = 2 * h + 1 := ⟨n / 2, by omega⟩
    · have h0 : 0 < h := by omega
      subst e
      obtain ⟨e1, e2, e3⟩ := cst_even D S h0
      obtain ⟨o1, o2, o3, o4⟩ := cst_odd D S h0
      have i := ih h (by omega)
      have x1 : ((2 * h + 1 : Nat) : Int) * S = ((2 * h : Nat) : Int) * S + S := by rw [Int.natCast_add, Int.add_mul]; simp
      refine ⟨?_, ?_⟩
      · rcases e3 with e3 | ⟨e4, e3⟩
        · omega
        · by_cases hh : 2 * h + 1 ≤ 100
          · have := o3 hh; omega
          · have h50 : h = 50 := by omega
            subst h50
            have c50 : cst D S 50 ≤ ((50 : Nat) : Int) * S := (cst_even D S (h := 25) (by decide)).2.1 (by decide)
            have c100 : ((2 * 50 : Nat) : Int) * S = 100 * S := rfl
            have c50' : ((50 : Nat) : Int) * S = 50 * S := rfl
            omega
      · rcases o4 with o4 | o4 | ⟨o5, o4⟩
        · omega
        · omega
        · have := e2 (by omega); omega
    · subst e
      rcases Nat.eq_zero_or_pos h with rfl | h0
      · obtain ⟨e1, e2, e3⟩ := cst_even D S (h := 1) (by decide)
        have e2' := e2 (by decide)
        have c1 := cst_one D S
        have e1' : cst D S (2 * 1) = cst D S (2 * 0 + 1 + 1) := rfl
        have e0 : cst D S (2 * 0 + 1) = cst D S 1 := rfl
        have x2 : ((2 * 1 : Nat) : Int) * S = 2 * S := rfl
        refine ⟨by omega, ?_⟩
        rcases e3 with e3 | ⟨_, e3⟩ <;> omega
      · obtain ⟨o1, o2, o3, o4⟩ := cst_odd D S h0
        obtain ⟨e1, e2, e3⟩ := cst_even D S (h := h + 1) (by omega)
        have i := ih h (by omega)
        have ee : cst D S (2 * (h + 1)) = cst D S (2 * h + 1 + 1) := rfl
        have x1 : ((2 * (h + 1) : Nat) : Int) * S = ((2 * h + 1 : Nat) : Int) * S + S := by
          rw [show 2 * (h + 1) = 2 * h + 1 + 1 from rfl, Int.natCast_add (2 * h + 1) 1, Int.add_mul]; simp
        refine ⟨?_, ?_⟩
        · rcases o4 with o4 | o4 | ⟨o5, o4⟩
          · omega
          · omega
          · have := e2 (by omega); omega
        · rcases e3 with e3 | ⟨e4, e3⟩
          · omega
          · have := o3 (by omega); omega
/-! ### the deeds that are told -/
theorem okD_app (a b : List Nat) : okD (a ++ b) = (okD a && okD b) := by unfold okD; rw [List.all_append]
theorem okD_us (n : Nat) : okD (List.replicate n 117) = true := by
  unfold okD
  rw [List.all_eq_true]
  intro x hx
  rw [(List.mem_replicate.mp hx).2]; decide
theorem ledN_us (n : Nat) : ledN (List.replicate n 117) = (n : Int) := by
  induction n with
  | zero => rfl
  | succ n ih => rw [List.replicate_succ', ledN_snoc, ih]; unfold ledS; rw [if_neg (by decide), if_pos rfl]; omega
theorem costN_us (D S : Int) (n : Nat) : costN D S (List.replicate n 117) = (n : Int) * S := by
  induction n with
  | zero => unfold costN; simp
  | succ n ih => rw [List.replicate_succ', costN_snoc, ih, Int.natCast_add, Int.add_mul]; unfold costS; rw [if_neg (by decide)]; simp
/-- what a pair of cost and deeds must keep -/
structure Good (D S : Int) (n : Nat) (p : Int × List Nat) : Prop where
  ok : okD p.2 = true
  le : ledN p.2 = (n : Int)
  co : costN D S p.2 = p.1
theorem good_us (D S : Int) (n : Nat) : Good D S n ((n : Int) * S, List.replicate n 117) := ⟨okD_us n, ledN_us n, costN_us D S n⟩
theorem good_best (D S : Int) (n : Nat) {b : Int × List Nat} (h : Good D S n b) : Good D S n (best1 S n b) := by
  rcases best1_cases S n b with ⟨e, _⟩ | ⟨e, _⟩ <;> rw [e]
  · exact h
  · exact good_us D S n
theorem good_e {D S : Int} {n : Nat} {p : Int × List Nat} (h : Good D S n p) : Good D S (2 * n) (wst D S p []) := by
  refine ⟨?_, ?_, ?_⟩ <;> simp only [wst, List.append_nil]
  · rw [okD_app, h.ok]; rfl
  · rw [ledN_snoc, h.le]; unfold ledS; rw [if_pos rfl]; omega
  · rw [costN_snoc, h.co]; unfold costS; rw [if_pos rfl]; simp
theorem good_u {D S : Int} {n : Nat} {p : Int × List Nat} (h : Good D S n p) : Good D S (2 * n + 1) (wst D S p [117]) := by
  refine ⟨?_, ?_, ?_⟩ <;> simp only [wst]
  · rw [okD_app, okD_app, h.ok]; rfl
  · rw [ledN_snoc, ledN_snoc, h.le]; unfold ledS; rw [if_neg (by decide), if_pos rfl, if_pos rfl]; omega
  · rw [costN_snoc, costN_snoc, h.co]; unfold costS; rw [if_pos rfl, if_neg (by decide)]; simp
theorem good_w {D S : Int} {n : Nat} {p : Int × List Nat} (h : Good D S (n + 1) p) : Good D S (2 * n + 1) (wst D S p [119]) := by
  refine ⟨?_, ?_, ?_⟩ <;> simp only [wst]
  · rw [okD_app, okD_app, h.ok]; rfl
  · rw [ledN_snoc, ledN_snoc, h.le]; unfold ledS; rw [if_neg (by decide), if_neg (by decide), if_pos rfl]; omega
  · rw [costN_snoc, costN_snoc, h.co]; unfold costS; rw [if_pos rfl, if_neg (by decide)]; simp
theorem good_Fp (D S : Int) : ∀ n : Nat, Good D S n (Fp D S n) := by
  intro n
  induction n using Nat.strongRecOn with
  | ind n ih =>
    rcases Nat.eq_zero_or_pos n with rfl | hn
    · rw [Fp_zero]; exact ⟨rfl, rfl, rfl⟩
    by_cases h1 : n = 1
    · subst h1; rw [Fp_one]
      have := good_us D S 1
      rw [show ((1 : Nat) : Int) * S = S by simp] at this
      exact this
    obtain ⟨h, e | e⟩ : ∃ h, n = 2 * h ∨ n = 2 * h + 1 := ⟨n / 2, by omega⟩
    · subst e
      rw [Fp_even D S (by omega)]
      exact good_best D S _ (good_e (ih h (by omega)))
    · subst e
      rw [Fp_odd D S (by omega)]
      refine good_best D S _ ?_
      rcases less2_cases (wst D S (Fp D S h) [117]) (wst D S (Fp D S (h + 1)) [119]) with ⟨e, _⟩ | ⟨e, _⟩ <;> rw [e]
      · exact good_u (ih h (by omega))
      · exact good_w (ih (h + 1) (by omega))
/-- how long the deeds are -/
theorem len_Fp (D S : Int) : ∀ (k n : Nat), n ≤ 2 ^ k → (Fp D S n).2.length ≤ 100 + 2 * k
  | 0, n, h => by
    have : n = 0 ∨ n = 1 := by simp at h; omega
    rcases this with rfl | rfl
    · rw [Fp_zero]; simp
    · rw [Fp_one]; simp
  | k + 1, n, hn => by
    rw [Nat.pow_succ] at hn
    rcases Nat.eq_zero_or_pos n with rfl | h0
    · rw [Fp_zero]; simp
    by_cases h1 : n = 1
    · subst h1; rw [Fp_one]; simp; omega
    have hb : ∀ (b : Int × List Nat), b.2.length ≤ 100 + 2 * (k + 1) → (best1 S n b).2.length ≤ 100 + 2 * (k + 1) := fun b hb => by
      rcases best1_cases S n b with ⟨e, _⟩ | ⟨e, e2, _⟩ <;> rw [e]
      · exact hb
      · rw [List.length_replicate]; omega
    obtain ⟨h, e | e⟩ : ∃ h, n = 2 * h ∨ n = 2 * h + 1 := ⟨n / 2, by omega⟩
    · subst e
      rw [Fp_even D S (by omega)]
      have := len_Fp D S k h (by omega)
      exact hb _ (by simp [wst]; omega)
    · subst e
      rw [Fp_odd D S (by omega)]
      have i1 := len_Fp D S k h (by omega)
      have i2 := len_Fp D S k (h + 1) (by omega)
      refine hb _ ?_
      rcases less2_cases (wst D S (Fp D S h) [117]) (wst D S (Fp D S (h + 1)) [119]) with ⟨e, _⟩ | ⟨e, _⟩ <;> rw [e] <;> simp [wst] <;> omega
/-- the deeds with steps the other way -/
def trn1 (c : Nat) : Nat := if c = 100 then 100 else if c = 117 then 119 else 117
theorem isDd_cases {c : Nat} (h : isDd c = true) : c = 100 ∨ c = 117 ∨ c = 119 := by simpa [isDd] using h
theorem okD_trn {t : List Nat} (h : okD t = true) : okD (t.map trn1) = true := by
  unfold okD at h ⊢
  rw [List.all_map, List.all_eq_true]
  intro x hx
  rcases isDd_cases (List.all_eq_true.mp h x hx) with rfl | rfl | rfl <;> rfl
theorem ledN_cons (t : List Nat) : ∀ n : Int, t.all isDd = true → (t.map trn1).foldl ledS (0 - n) = 0 - t.foldl ledS n := by
  induction t with
  | nil => intro n _; rfl
  | cons c t ih =>
    intro n h
    rw [List.all_cons, Bool.and_eq_true] at h
    rw [List.map_cons, List.foldl_cons, List.foldl_cons]
    have e : ledS (0 - n) (trn1 c) = 0 - ledS n c := by
      rcases isDd_cases h.1 with rfl | rfl | rfl <;> (simp only [trn1, ledS]; simp) <;> omega
    rw [e, ih _ h.2]
theorem ledN_trn {t : List Nat} (h : okD t = true) : ledN (t.map trn1) = 0 - ledN t := by
  unfold ledN
  have := ledN_cons t 0 h
  rw [Int.sub_zero] at this
  exact this
theorem costN_trn (D S : Int) {t : List Nat} (h : okD t = true) : costN D S (t.map trn1) = costN D S t := by
  unfold costN
  rw [List.map_map]
  congr 1
  apply List.map_congr_left
  intro c hc
  unfold okD at h
  rcases isDd_cases (List.all_eq_true.mp h c hc) with rfl | rfl | rfl <;> rfl
end Lf

namespace Lf
open PySem PySem.Spec L2
open PyProof.Rows hiding St
/-- the prices, written into an object -/
def Pri (C : Ad) (H : Hp) (a : Addr) (D S : Int) : Prop := ∃ dx, H a = some (.ins C.Prices dx [("double", .int D), ("step", .int S)])
theorem Pri.same {C : Ad} {H H' : Hp} {a : Addr} {D S : Int} (h : Pri C H a D S) (s : Same H H') : Pri C H' a D S := let ⟨dx, h⟩ := h; ⟨dx, s _ _ h⟩
def CostOk (x : Int) : Prop := 1 ≤ x ∧ x ≤ 50
/-- a pair of cost and deeds, written into a tuple -/
def PairT (K : PySem.W.Frag) (H : Hp) (a : Addr) (p : Int × List Nat) : Prop := SqT K H a [.int p.1, .str (mkS p.2)]
theorem PairT.same {K : PySem.W.Frag} {H H' : Hp} {a : Addr} {p : Int × List Nat} (h : PairT K H a p) (s : Same H H') : PairT K H' a p := s.tup h
section
variable {K : PySem.W.Frag} {C : Ad} {vs : List V} {H : Hp} {Q : VK} {E : XK}
def sp_Prices___init__ (K : PySem.W.Frag) (C : Ad) : Sp := fun vs H Q _ => ∃ (a dx : Addr) (D S : Int), vs = [.ref a, .int D, .int S] ∧ H a = some (.ins C.Prices dx []) ∧ Q .non (upd (upd H a (.ins C.Prices dx [("double", .int D)])) a (.ins C.Prices dx [("double", .int D), ("step", .int S)]))
/-- the reading of Prices.__init__; slots: 0 self 1 double 2 step -/
def t_Prices___init__ (K : PySem.W.Frag) (C : Ad) (E : XK) : TS :=
      (tSeq (sFld K (tVar 0) (tVar 1) "double")
      (sFld K (tVar 0) (tVar 2) "step"))
theorem r_Prices___init__ (cl : Cls K C.Prices) (n1 : NoAttr K C.Prices "double") (n2 : NoAttr K C.Prices "step") (h : sp_Prices___init__ K C vs H Q E) : t_Prices___init__ K C E { nx := fun _ H' => Q .non H', rt := Q } (st 3 vs) H := by
  obtain ⟨a, dx, D, S, rfl, ha, q⟩ := h
  unfold t_Prices___init__
  walk_at "st"
  walk_at "rd"
  refine ⟨a, C.Prices, dx, [], rfl, ha, cl, n1, by simp, ?_⟩
  walk_at "rd"
  refine ⟨a, C.Prices, dx, [("double", .int D)], rfl, upd_same, cl, n2, by simp, ?_⟩
  exact q
def sp_Prices_with_steps (K : PySem.W.Frag) (C : Ad) : Sp := fun vs H Q _ => ∃ (a f : Addr) (p : Int × List Nat) (u : List Nat) (D S : Int), vs = [.ref a, .ref f, .str (mkS u)] ∧ Pri C H a D S ∧ CostOk S ∧ PairT K H f p ∧ p.2.length ≤ 1000000 ∧ u.length ≤ 1000 ∧ ∀ H' t, Same H H' → H t = none → PairT K H' t (wst D S p u) → Q (.ref t) H'
/-- the reading of Prices.with_steps; slots: 0 self 1 found 2 signs -/
def t_Prices_with_steps (K : PySem.W.Frag) (C : Ad) (E : XK) : TS :=
      (tRet (tTup (tCons (tOp qAdd (tOp qAdd (tOp (rIxT K) (tVar 1) (tC (.int 0))) (tFld K (tVar 0) "double")) (tOp qMul (tFld K (tVar 0) "step") (tCB qLenS (tCons (tVar 2) tNil)))) (tCons (tOp qAddS (tOp qAddS (tOp (rIxT K) (tVar 1) (tC (.int 1))) (tC (.str "d"))) (tVar 2)) tNil))))
theorem r_Prices_with_steps (cl : Cls K C.Prices) (n1 : NoAttr K C.Prices "double") (n2 : NoAttr K C.Prices "step") (h : sp_Prices_with_steps K C vs H Q E) : t_Prices_with_steps K C E { nx := fun _ H' => Q .non H', rt := Q } (st 3 vs) H := by
  obtain ⟨a, f, p, u, D, S, rfl, ⟨dx, ha⟩, cS, hf, lp, lu, q⟩ := h
  unfold t_Prices_with_steps
  walk_at "st"
  walk_at "rd"
  refine ⟨f, _, 0, _, rfl, rfl, hf, rfl, ?_⟩
  walk_at "rd"
  refine ⟨a, C.Prices, dx, _, .int D, rfl, ha, cl, n1, rfl, ?_⟩
  walk_at "rd"
  refine ⟨a, C.Prices, dx, _, .int S, rfl, ha, cl, n2, rfl, ?_⟩
  refine ⟨_, rfl, by rw [mkS_len, sizeLine_is]; omega, ?_⟩
  rw [mkS_len]
  walk_at "rd"
  unfold CostOk at cS
  refine ⟨.inl ⟨by omega, by omega⟩, ?_⟩
  refine ⟨f, _, 1, _, rfl, rfl, hf, rfl, ?_⟩
  rw [s_d]
  walk_at "rd"
  refine ⟨by rw [mkS_len, mkS_len, sizeLine_is]; simp; omega, ?_⟩
  rw [mkS_add]
  refine ⟨by rw [mkS_len, mkS_len, List.length_append, sizeLine_is]; simp; omega, ?_⟩
  rw [mkS_add]
  intro t nt
  generalize et : upd H t _ = H1
  obtain ⟨s1, ht⟩ := new_of et nt
  exact q H1 t s1 nt (sqt ht)
theorem flat_rep1 (c : Nat) : ∀ n : Nat, (List.replicate n [c]).flatten = List.replicate n c
  | 0 => rfl
  | n + 1 => by rw [List.replicate_succ, List.flatten_cons, flat_rep1 c n, List.replicate_succ]; rfl
/-- the less of some pairs, the first of the least -/
def leastP (p : Int × List Nat) (ps : List (Int × List Nat)) : Int × List Nat := ps.foldl less2 p
def sp_Prices_least_of (K : PySem.W.Frag) (C : Ad) : Sp := fun vs H Q _ => ∃ (a l t0 : Addr) (n : Nat) (rest : List Addr) (p : Int × List Nat) (ps : List (Int × List Nat)) (D S : Int), vs = [.ref a, .int (n : Nat), .ref l] ∧ Pri C H a D S ∧ CostOk S ∧ 1 ≤ n ∧ SqL K H l (.ref t0 :: rest.map V.ref) ∧ PairT K H t0 p ∧ rest.length = ps.length ∧ (∀ (i : Nat) (b : Addr) (q : Int × List Nat), rest[i]? = some b → ps[i]? = some q → PairT K H b q) ∧
  ∀ H' t, Same H H' → PairT K H' t (best1 S n (leastP p ps)) → Q (.ref t) H'
/-- the reading of Prices.least_of; slots: 0 self 1 number 2 found 3 best 4 one -/
def t_Prices_least_of (K : PySem.W.Frag) (C : Ad) (E : XK) : TS :=
      (tSeq (tAsg (tOp (rIxL K) (tVar 2) (tC (.int 0))) (gName 3))
      (tSeq (tFor (iList K (tSl (rSlL K) (tVar 2) (tPart (tC (.int 1))) tNoPart)) (gName 4) (tIfS (tTest (tOp qLt (tOp (rIxT K) (tVar 4) (tC (.int 0))) (tOp (rIxT K) (tVar 3) (tC (.int 0))))) (tAsg (tVar 4) (gName 3)) tNext))
      (tSeq (tIfS (tAnd (tTest (tOp qLe (tVar 1) (tC (.int 100)))) (tTest (tOp qLt (tOp qMul (tVar 1) (tFld K (tVar 0) "step")) (tOp (rIxT K) (tVar 3) (tC (.int 0)))))) (tAsg (tTup (tCons (tOp qMul (tVar 1) (tFld K (tVar 0) "step")) (tCons (tOp qRepS (tC (.str "u")) (tVar 1)) tNil))) (gName 3)) tNext)
      (tRet (tVar 3)))))
theorem r_Prices_least_of (cl : Cls K C.Prices) (n2 : NoAttr K C.Prices "step") (h : sp_Prices_least_of K C vs H Q E) : t_Prices_least_of K C E { nx := fun _ H' => Q .non H', rt := Q } (st 5 vs) H := by
  obtain ⟨a, l, t0, n, rest, p, ps, D, S, rfl, hp, cS, hn, hl, h0, hlen, hr, q⟩ := h
  unfold t_Prices_least_of
  walk_at "st"
  walk_at "rd"
  unfold CostOk at cS
  refine ⟨l, _, 0, .ref t0, rfl, rfl, hl, atI_at (j := 0) rfl rfl, ?_⟩
  walk_at "rd"
  rw [r_forL]
  walk_at "rd"
  refine ⟨l, _, rfl, hl, fun r nr => ?_⟩
  generalize er : upd H r _ = H1
  obtain ⟨s1, hr1⟩ := new_of er nr
  have hcut : cutV (V.ref t0 :: rest.map V.ref) (some 1) none = rest.map V.ref := by
    show ((V.ref t0 :: rest.map V.ref).drop (min 1 (rest.map V.ref).length.succ)).take ((rest.map V.ref).length.succ - min 1 (rest.map V.ref).length.succ) = _
    rw [show min 1 (rest.map V.ref).length.succ = 1 by omega, List.drop_one, List.tail_cons, List.take_of_length_le (by omega)]
  rw [hcut] at hr1
  refine ⟨r, rfl, l_list (xs := rest.map V.ref) (fun i σ H' => ∃ b y4, σ = [some (.ref a), some (.int (n : Nat)), some (.ref l), some (.ref b), y4] ∧ Same H1 H' ∧ PairT K H' b (leastP p (ps.take i))) ⟨t0, none, rfl, Same.refl _, h0.same s1⟩ (sq hr1) (fun i σ H' ⟨_, _, _, p, _⟩ => sq (p _ _ hr1)) (fun i x σ H' hi hlt ⟨b, y4, e, k, hb⟩ => ?_) (fun σ H' ⟨b, y4, e, k, hb⟩ => ?_)⟩
  · subst e
    obtain ⟨c, hc, rfl⟩ := mapE hi
    rw [List.length_map] at hlt
    obtain ⟨z, hz⟩ := getE (l := ps) (i := i) (by omega)
    have hcz := (hr i c z hc hz).same (s1.trans k)
    have e1 : leastP p (ps.take (i + 1)) = less2 (leastP p (ps.take i)) z := by
      unfold leastP
      rw [take_snoc hz, List.foldl_append]; rfl
    rw [e1]
    generalize leastP p (ps.take i) = m at hb ⊢
    walk_at "rd"
    refine ⟨c, _, 0, _, rfl, rfl, hcz, rfl, ?_⟩
    walk_at "rd"
    refine ⟨b, _, 0, _, rfl, rfl, hb, rfl, ?_⟩
    walk_at "rd"
    unfold less2
    by_cases c1 : z.1 < m.1
    · rw [if_pos c1, if_pos c1]
      exact ⟨_, _, rfl, k, hcz⟩
    · rw [if_neg c1, if_neg c1]
      exact ⟨_, _, rfl, k, hb⟩
  · subst e
    rw [List.length_map, hlen, List.take_length] at hb
    generalize leastP p ps = m at hb q
    walk_at "rd"
    have hp' := hp.same (s1.trans k)
    obtain ⟨dx, ha⟩ := hp'
    have hnb : best1 S n m = if n ≤ 100 ∧ (n : Int) * S < m.1 then ((n : Int) * S, List.replicate n 117) else m := rfl
    by_cases c1 : (n : Int) ≤ 100
    · rw [if_pos c1]
      refine ⟨a, C.Prices, dx, _, .int S, rfl, ha, cl, n2, rfl, ?_⟩
      walk_at "rd"
      refine ⟨.inl ⟨by omega, by omega⟩, ?_⟩
      refine ⟨b, _, 0, _, rfl, rfl, hb, rfl, ?_⟩
      walk_at "rd"
      by_cases c2 : (n : Int) * S < m.1
      · rw [if_pos c2]
        refine ⟨a, C.Prices, dx, _, .int S, rfl, ha, cl, n2, rfl, ?_⟩
        walk_at "rd"
        refine ⟨.inl ⟨by omega, by omega⟩, ?_⟩
        rw [s_u]
        refine ⟨_, _, rfl, rfl, by omega, by omega, by rw [mkS_len]; simp, by rw [mkS_len]; simp, by rw [mkS_len]; simp; omega, ?_⟩
        intro t nt
        generalize et : upd H' t _ = H2
        obtain ⟨s2, ht⟩ := new_of et nt
        refine q H2 t ((s1.trans k).trans s2) ?_
        rw [hnb, if_pos ⟨by omega, c2⟩]
        have e2 : (⟨(List.replicate ((n : Nat) : Int).toNat (mkS [117]).cps.toList).flatten.toArray⟩ : Str) = mkS (List.replicate n 117) := by
          show mkS _ = _
          rw [mkS_cps, Int.toNat_natCast, flat_rep1]
        rw [e2] at ht
        exact sqt ht
      · rw [if_neg c2]
        refine q H' b (s1.trans k) ?_
        rw [hnb, if_neg (fun h => c2 h.2)]; exact hb
    · rw [if_neg c1]
      refine q H' b (s1.trans k) ?_
      rw [hnb, if_neg (fun h => c1 (by omega))]; exact hb
theorem pow2_pos (k : Nat) : 0 < 2 ^ k := Nat.pow_pos (by decide)
theorem half_pow (n k : Nat) : n / 2 ^ k / 2 = n / 2 ^ (k + 1) := by rw [Nat.div_div_eq_div_mul, Nat.pow_succ]
def bitL (n k : Nat) : List Int := (List.range k).map fun i => ((n / 2 ^ i % 2 : Nat) : Int)
theorem bitL_succ (n k : Nat) : bitL n (k + 1) = bitL n k ++ [((n / 2 ^ k % 2 : Nat) : Int)] := by
  unfold bitL
  rw [List.range_succ, List.map_append]; rfl
theorem bitL_len (n k : Nat) : (bitL n k).length = k := by unfold bitL; simp
theorem bitL_at {n k i : Nat} (h : i < k) : (bitL n k)[i]? = some ((n / 2 ^ i % 2 : Nat) : Int) := by
  unfold bitL
  rw [List.getElem?_map, List.getElem?_range h]; rfl
theorem first_odd (D S : Int) (hD : 1 ≤ D) (hS : 1 ≤ S) : best1 S 1 (less2 (wst D S (Fp D S 0) [117]) (wst D S (Fp D S 1) [119])) = Fp D S 1 := by
  rw [Fp_zero, Fp_one]
  have e : ∀ m : Int × List Nat, S < m.1 → best1 S 1 m = (S, [117]) := fun m hm => by
    unfold best1
    rw [if_pos ⟨by decide, by simpa using hm⟩]
    simp
  refine e _ ?_
  rcases less2_cases (wst D S (0, []) [117]) (wst D S (S, [117]) [119]) with ⟨q, _⟩ | ⟨q, _⟩ <;> rw [q] <;> simp [wst] <;> omega
theorem Fp_odd' (D S : Int) (hD : 1 ≤ D) (hS : 1 ≤ S) (h : Nat) : best1 S (2 * h + 1) (less2 (wst D S (Fp D S h) [117]) (wst D S (Fp D S (h + 1)) [119])) = Fp D S (2 * h + 1) := by
  rcases Nat.eq_zero_or_pos h with rfl | h0
  · exact first_odd D S hD hS
  · exact (Fp_odd D S h0).symm
def sp_Prices_least (K : PySem.W.Frag) (C : Ad) : Sp := fun vs H Q _ => ∃ (a : Addr) (n : Nat) (D S : Int), vs = [.ref a, .int (n : Nat)] ∧ Pri C H a D S ∧ CostOk D ∧ CostOk S ∧ n < 2 ^ 2000 ∧ ∀ H' t, Same H H' → PairT K H' t (Fp D S n) → Q (.ref t) H'
/-- the reading of Prices.least; slots: 0 self 1 number 2 bits 3 left 4 here 5 low 6 high 7 bit 8 odd -/
def t_Prices_least (K : PySem.W.Frag) (C : Ad) (E : XK) : TS :=
      (tSeq (tAsg (tLst tNil) (gName 2))
      (tSeq (tAsg (tVar 1) (gName 3))
      (tSeq (tWhile (tTest (tOp qGt (tVar 3) (tC (.int 0)))) (tSeq (tDrop (tBM K "list" rAppend (tVar 2) (tCons (tOp qMod (tVar 3) (tC (.int 2))) tNil)))
      (tAsg (tOp qDiv (tVar 3) (tC (.int 2))) (gName 3))))
      (tSeq (tAsg (tC (.int 0)) (gName 4))
      (tSeq (tAsg (tTup (tCons (tC (.int 0)) (tCons (tC (.str "")) tNil))) (gName 5))
      (tSeq (tAsg (tTup (tCons (tFld K (tVar 0) "step") (tCons (tC (.str "u")) tNil))) (gName 6))
      (tSeq (tFor (iRev K (tCons (tVar 2) tNil)) (gName 7) (tSeq (tAsg (tMeth C.Prices "least_of" (sp_Prices_least_of K C) [] E (tVar 0) (tCons (tOp qAdd (tOp qMul (tC (.int 2)) (tVar 4)) (tC (.int 1))) (tCons (tLst (tCons (tMeth C.Prices "with_steps" (sp_Prices_with_steps K C) [] E (tVar 0) (tCons (tVar 5) (tCons (tC (.str "u")) tNil))) (tCons (tMeth C.Prices "with_steps" (sp_Prices_with_steps K C) [] E (tVar 0) (tCons (tVar 6) (tCons (tC (.str "w")) tNil))) tNil))) tNil))) (gName 8))
      (tSeq (tIfS (tTest (tOp rEq (tVar 7) (tC (.int 0)))) (tSeq (tAsg (tMeth C.Prices "least_of" (sp_Prices_least_of K C) [] E (tVar 0) (tCons (tOp qMul (tC (.int 2)) (tVar 4)) (tCons (tLst (tCons (tMeth C.Prices "with_steps" (sp_Prices_with_steps K C) [] E (tVar 0) (tCons (tVar 5) (tCons (tC (.str "")) tNil))) tNil)) tNil))) (gName 5))
      (tAsg (tVar 8) (gName 6))) (tSeq (tAsg (tMeth C.Prices "least_of" (sp_Prices_least_of K C) [] E (tVar 0) (tCons (tOp qAdd (tOp qMul (tC (.int 2)) (tVar 4)) (tC (.int 2))) (tCons (tLst (tCons (tMeth C.Prices "with_steps" (sp_Prices_with_steps K C) [] E (tVar 0) (tCons (tVar 6) (tCons (tC (.str "")) tNil))) tNil)) tNil))) (gName 6))
      (tAsg (tVar 8) (gName 5))))
      (tAsg (tOp qAdd (tOp qMul (tC (.int 2)) (tVar 4)) (tVar 7)) (gName 4)))))
      (tRet (tVar 5)))))))))
theorem r_Prices_least (cl : Cls K C.Prices) (n2 : NoAttr K C.Prices "step") (h : sp_Prices_least K C vs H Q E) : t_Prices_least K C E { nx := fun _ H' => Q .non H', rt := Q } (st 9 vs) H := by
  obtain ⟨a, n, D, S, rfl, hp, cD, cS, hn, q⟩ := h
  unfold t_Prices_least
  walk_at "st"
  walk_at "rd"
  unfold CostOk at cD cS
  intro l nl
  generalize el : upd H l _ = H1
  obtain ⟨s1, hl⟩ := new_of el nl
  refine f_while (fun m σ H' => ∃ k : Nat, σ = [some (.ref a), some (.int (n : Nat)), some (.ref l), some (.int ((n / 2 ^ k : Nat) : Int)), none, none, none, none, none] ∧ m = n / 2 ^ k ∧ Same H H' ∧ H' l = some (.lst ((bitL n k).map V.int)) ∧ k ≤ 2000 ∧ (0 < k → 0 < n / 2 ^ (k - 1))) n (by walk_at "mono") ⟨0, by simp, by simp, s1, hl, by omega, fun h => absurd h (by decide)⟩ ?_
  rintro m σ H' ⟨k, rfl, rfl, s2, hl2, hk, hk0⟩
  walk_at "rd"
  by_cases c : 0 < ((n / 2 ^ k : Nat) : Int)
  · rw [if_pos c]
    have hk2 : k < 2000 := by
      rcases Nat.lt_or_ge k 2000 with h | h
      · exact h
      · have : n / 2 ^ k = 0 := Nat.div_eq_of_lt (Nat.lt_of_lt_of_le hn (Nat.pow_le_pow_right (by decide) h))
        rw [this] at c; exact absurd c (by decide)
    refine ⟨.inl ⟨rfl, _, sq hl2⟩, l, _, _, rfl, rfl, hl2, by rw [List.length_map, bitL_len, sizeLine_is]; omega, ?_⟩
    have e1 : ((n / 2 ^ k : Nat) : Int) / 2 = ((n / 2 ^ (k + 1) : Nat) : Int) := by rw [← half_pow]; omega
    have e2 : ((n / 2 ^ k : Nat) : Int) % 2 = ((n / 2 ^ k % 2 : Nat) : Int) := by omega
    refine ⟨n / 2 ^ (k + 1), by rw [← half_pow]; omega, k + 1, by rw [e1], rfl, s2.mut nl, ?_, by omega, fun _ => by rw [Nat.add_sub_cancel]; omega⟩
    rw [upd_same, bitL_succ, List.map_append, e2]; rfl
  · rw [if_neg c]
    have hz : n / 2 ^ k = 0 := by
      generalize n / 2 ^ k = w at c ⊢
      omega
    intro t0 nt0
    generalize et0 : upd H' t0 _ = H2
    obtain ⟨s3, ht0⟩ := new_of et0 nt0
    have hp2 := hp.same (s2.trans s3)
    obtain ⟨dx, ha⟩ := id hp2
    refine ⟨a, C.Prices, dx, _, .int S, rfl, ha, cl, n2, rfl, ?_⟩
    intro t1 nt1
    generalize et1 : upd H2 t1 _ = H3
    obtain ⟨s4, ht1⟩ := new_of et1 nt1
    rw [s_e] at ht0
    rw [s_u] at ht1
    have hl3 := s4 _ _ (s3 _ _ hl2)
    have k3 := (s2.trans s3).trans s4
    have p0 : PairT K H3 t0 (Fp D S 0) := by rw [Fp_zero]; exact sqt (s4 _ _ ht0)
    have p1 : PairT K H3 t1 (Fp D S 1) := by rw [Fp_one]; exact sqt ht1
    refine f_rev (fun i σ H' => ∃ tl th y7 y8, σ = [some (.ref a), some (.int (n : Nat)), some (.ref l), some (.int ((n / 2 ^ k : Nat) : Int)), some (.int ((n / 2 ^ (k - i) : Nat) : Int)), some (.ref tl), some (.ref th), y7, y8] ∧ Same H3 H' ∧ PairT K H' tl (Fp D S (n / 2 ^ (k - i))) ∧ PairT K H' th (Fp D S (n / 2 ^ (k - i) + 1))) rfl ⟨t0, t1, none, none, by rw [Nat.sub_zero, hz]; rfl, Same.refl _, by rw [Nat.sub_zero, hz]; exact p0, by rw [Nat.sub_zero, hz]; exact p1⟩ (sq hl3) (fun i σ H' ⟨_, _, _, _, _, p, _⟩ => sq (p _ _ hl3)) (fun i x σ H' hi hlt ⟨tl, th, y7, y8, e, p, q1, q2⟩ => ?_) (fun σ H' ⟨tl, th, y7, y8, e, p, q1, q2⟩ => ?_)
    · subst e
      rw [List.length_map, bitL_len] at hlt hi
      obtain ⟨z, hz1, rfl⟩ := mapE hi
      rw [bitL_at (by omega)] at hz1
      obtain ⟨j, hj⟩ : ∃ j, j = k - 1 - i := ⟨_, rfl⟩
      have e1 : k - i = j + 1 := by omega
      have e2 : k - (i + 1) = j := by omega
      rw [← hj] at hz1
      rw [e1] at q1 q2 ⊢
      rw [e2]
      have hg0 : 0 < n / 2 ^ j := Nat.lt_of_lt_of_le (hk0 (by omega)) (Nat.div_le_div_left (Nat.pow_le_pow_right (by decide) (by omega)) (pow2_pos j))
      have hgn : n / 2 ^ j ≤ n := Nat.div_le_self _ _
      rw [← half_pow] at q1 q2 ⊢
      generalize n / 2 ^ j = g at hz1 q1 q2 hg0 hgn
      obtain rfl : z = ((g % 2 : Nat) : Int) := by injection hz1 with h; exact h.symm
      obtain ⟨h, hh⟩ : ∃ h, h = g / 2 := ⟨_, rfl⟩
      rw [← hh] at q1 q2 ⊢
      have hgh : g = 2 * h + g % 2 := by omega
      have hlen : ∀ m, m ≤ n + 1 → (Fp D S m).2.length ≤ 1000000 := fun m hm => Nat.le_trans (len_Fp D S 2000 m (by omega)) (by decide)
      walk_at "rd"
      have hpH := hp.same (k3.trans p)
      obtain ⟨dx2, ha2⟩ := id hpH
      refine ⟨a, dx2, _, rfl, ha2, rfl, ?_⟩
      walk_at "rd"
      refine ⟨a, dx2, _, rfl, ha2, rfl, ?_⟩
      rw [s_u]
      refine ⟨a, tl, _, [117], D, S, rfl, hpH, cS, q1, hlen _ (by omega), by decide, fun H4 w1 s5 nw1 hw1 => ?_⟩
      have hp4 := hpH.same s5
      obtain ⟨dx4, ha4⟩ := id hp4
      refine ⟨a, dx4, _, rfl, ha4, rfl, ?_⟩
      rw [s_w]
      refine ⟨a, th, _, [119], D, S, rfl, hp4, cS, q2.same s5, hlen _ (by omega), by decide, fun H5 w2 s6 nw2 hw2 => ?_⟩
      intro L nL
      generalize eL : upd H5 L _ = H6
      obtain ⟨s7, hL⟩ := new_of eL nL
      have k6 := (s5.trans s6).trans s7
      have eg : (2 : Int) * (h : Int) + ((g % 2 : Nat) : Int) = (g : Int) := by omega
      rw [eg]
      have eo : (2 : Int) * (h : Int) + 1 = ((2 * h + 1 : Nat) : Int) := by omega
      rw [eo]
      have hw1' : PairT K H6 w1 (wst D S (Fp D S h) [117]) := hw1.same (s6.trans s7)
      have hw2' : PairT K H6 w2 (wst D S (Fp D S (h + 1)) [119]) := hw2.same s7
      refine ⟨a, L, w1, 2 * h + 1, [w2], _, [wst D S (Fp D S (h + 1)) [119]], D, S, rfl, hpH.same k6, cS, by omega, sq hL, hw1', rfl, fun i b q hb hq => ?_, fun H7 o s8 ho => ?_⟩
      · cases i with
        | zero => cases hb; cases hq; exact hw2'
        | succ i => cases hb
      have ho' : PairT K H7 o (Fp D S (2 * h + 1)) := by
        rw [← Fp_odd' D S cD.1 cS.1 h]; exact ho
      clear ho
      have k7 := k6.trans s8
      have hp7 := hpH.same k7
      obtain ⟨dx7, ha7⟩ := id hp7
      dsimp only
      by_cases cb : ((g % 2 : Nat) : Int) = 0
      · rw [if_pos cb]
        have hge : g = 2 * h := by omega
        refine ⟨a, dx7, _, rfl, ha7, rfl, a, dx7, _, rfl, ha7, rfl, ?_⟩
        rw [s_e]
        refine ⟨a, tl, _, [], D, S, rfl, hp7, cS, q1.same k7, hlen _ (by omega), by simp, fun H8 w3 s9 nw3 hw3 => ?_⟩
        intro M nM
        generalize eM : upd H8 M _ = H9
        obtain ⟨s10, hM⟩ := new_of eM nM
        have eo2 : (2 : Int) * (h : Int) = ((2 * h : Nat) : Int) := by omega
        rw [eo2]
        refine ⟨a, M, w3, 2 * h, [], _, [], D, S, rfl, hp7.same (s9.trans s10), cS, by omega, sq hM, hw3.same s10, rfl, fun i b q hb => by simp at hb, fun H10 v s11 hv => ?_⟩
        refine ⟨v, o, _, _, rfl, ((p.trans k7).trans (s9.trans s10)).trans s11, ?_, ?_⟩
        · rw [hge, Fp_even D S (by omega)]; exact hv
        · rw [hge]; exact ho'.same ((s9.trans s10).trans s11)
      · rw [if_neg cb]
        have hge : g = 2 * h + 1 := by omega
        refine ⟨a, dx7, _, rfl, ha7, rfl, a, dx7, _, rfl, ha7, rfl, ?_⟩
        rw [s_e]
        refine ⟨a, th, _, [], D, S, rfl, hp7, cS, q2.same k7, hlen _ (by omega), by simp, fun H8 w3 s9 nw3 hw3 => ?_⟩
        intro M nM
        generalize eM : upd H8 M _ = H9
        obtain ⟨s10, hM⟩ := new_of eM nM
        have eo2 : (2 : Int) * (h : Int) + 2 = ((2 * (h + 1) : Nat) : Int) := by omega
        rw [eo2]
        refine ⟨a, M, w3, 2 * (h + 1), [], _, [], D, S, rfl, hp7.same (s9.trans s10), cS, by omega, sq hM, hw3.same s10, rfl, fun i b q hb => by simp at hb, fun H10 v s11 hv => ?_⟩
        refine ⟨o, v, _, _, rfl, ((p.trans k7).trans (s9.trans s10)).trans s11, ?_, ?_⟩
        · rw [hge]; exact ho'.same ((s9.trans s10).trans s11)
        · rw [hge, show 2 * h + 1 + 1 = 2 * (h + 1) by omega, Fp_even D S (by omega)]; exact hv
    · subst e
      rw [List.length_map, bitL_len, Nat.sub_self, Nat.pow_zero, Nat.div_one] at q1
      walk_at "rd"
      exact q H' tl (k3.trans p) q1
end
end Lf

namespace Lf
open PySem PySem.Spec L2
open PyProof.Rows hiding St
section
variable {K : PySem.W.Frag} {C : Ad} {vs : List V} {H : Hp} {Q : VK} {E : XK}
def sp_turned (K : PySem.W.Frag) (C : Ad) : Sp := fun vs H Q _ => ∃ t : List Nat, vs = [.str (mkS t)] ∧ t.length ≤ 1000000 ∧ okD t = true ∧ ∀ H', Same H H' → Q (.str (mkS (t.map trn1))) H'
/-- the reading of turned; slots: 0 deeds 1 sign -/
def t_turned (K : PySem.W.Frag) (C : Ad) (E : XK) : TS :=
      (tRet (qJoin K (tC (.str "")) (tLc (iStr (tVar 0)) (gName 1) tYes (tDGet (tDisp (((tC (.str "d")), (tC (.str "d"))) :: (((tC (.str "u")), (tC (.str "w"))) :: (((tC (.str "w")), (tC (.str "u"))) :: [])))) (tVar 1)) [1])))
theorem r_turned (h : sp_turned K C vs H Q E) : t_turned K C E { nx := fun _ H' => Q .non H', rt := Q } (st 2 vs) H := by
  obtain ⟨t, rfl, hz, hd, q⟩ := h
  unfold t_turned
  walk_at "st"
  walk_at "rd"
  rw [r_join]
  walk_at "rd"
  refine ⟨⟨_, rfl⟩, ?_⟩
  rw [r_lcS]
  walk_at "rd"
  refine ⟨_, rfl, l_lcS (fun D i H' => Same H H' ∧ H' D = some (.lst ((((t.take i).map trn1).map fun c => mkS [c]).map V.str))) (fun D H2 nD sD hD => ⟨sD, hD⟩) (fun D i c H' nD hi hlt ⟨p, hD⟩ => ?_) (fun D H2 nD ⟨s2, hD⟩ => ?_)⟩
  · have hi2 : t[i]? = some c := by simpa [mkS] using hi
    have hc : isDd c = true := by
      unfold okD at hd
      exact List.all_eq_true.mp hd c (List.mem_of_getElem? hi2)
    walk_at "rd"
    simp only [tDGet, tDisp, tPairs]
    intro p2 np2
    walk_at "rd"
    refine ⟨upd_same, [(.inr (mkS [100]), .str (mkS [100])), (.inr (mkS [117]), .str (mkS [119])), (.inr (mkS [119]), .str (mkS [117]))], by rw [s_d, s_u, s_w]; rfl, by decide, ?_⟩
    generalize ep : upd (upd H' p2 _) p2 _ = H3
    have hp3 : H3 p2 = some (.dK [(.inr (mkS [100]), .str (mkS [100])), (.inr (mkS [117]), .str (mkS [119])), (.inr (mkS [119]), .str (mkS [117]))]) := by
      rw [← ep, upd_same]; rfl
    have s3 : Same H' H3 := by
      rw [← ep]; exact (Same.new np2).mut np2
    refine ⟨p2, .str (mkS [trn1 c]), rfl, ?_, _, s3 _ _ hD, ?_, (p.trans s3).mut nD, ?_⟩
    · have e := DGet.k (k := .inr (mkS [c])) hp3
      have e2 : valV [((.inr (mkS [100]) : L2.Key), V.str (mkS [100])), (.inr (mkS [117]), .str (mkS [119])), (.inr (mkS [119]), .str (mkS [117]))] (.inr (mkS [c])) = some (.str (mkS [trn1 c])) := by
        rcases isDd_cases hc with rfl | rfl | rfl <;> rfl
      rw [e2] at e
      exact e
    · rw [List.length_map, List.length_map, List.length_map, List.length_take, sizeLine_is]; omega
    · rw [upd_same, take_snoc hi2, List.map_append, List.map_append, List.map_append]; rfl
  · have htz : (mkS t).cps.size = t.length := by simp [mkS]
    rw [htz, List.take_length] at hD
    refine ⟨_, D, _, rfl, rfl, .inl (sq hD), ?_, ?_⟩
    · rw [sum_ones, s_e, mkS_len, List.length_map]; simp; omega
    · rw [join_one]
      exact q H2 s2
/-- the least deeds of a number of either sign -/
def LP (D S n : Int) : Int × List Nat := ((Fp D S n.natAbs).1, if n < 0 then (Fp D S n.natAbs).2.map trn1 else (Fp D S n.natAbs).2)
def sp_least (K : PySem.W.Frag) (C : Ad) : Sp := fun vs H Q E => ∃ x y z nx ny nz, vs = [x, y, z] ∧ Th K H x nx ∧ Th K H y ny ∧ Th K H z nz ∧ ((wh x = false ∧ E (.ref C.NoNumber) none H) ∨
  (wh x = true ∧ (cstB y = false ∨ cstB z = false) ∧ E (.ref C.NoCost) none H) ∨
  (∃ n D S : Int, x = .int n ∧ y = .int D ∧ z = .int S ∧ n.natAbs < 2 ^ 2000 ∧ CostOk D ∧ CostOk S ∧ ∀ H' t, Same H H' → H t = none → H' t = some (.tup [.int (LP D S n).1, .str (mkS (LP D S n).2)]) → Q (.ref t) H'))
/-- the reading of least; slots: 0 number 1 double 2 step 3 cost 4 deeds -/
def t_least (K : PySem.W.Frag) (C : Ad) (E : XK) : TS :=
      (tSeq (tDrop (tF (sp_need_number K C) E (tCons (tVar 0) tNil)))
      (tSeq (tDrop (tF (sp_need_cost K C) E (tCons (tVar 1) tNil)))
      (tSeq (tDrop (tF (sp_need_cost K C) E (tCons (tVar 2) tNil)))
      (tSeq (tAsg (tMeth C.Prices "least" (sp_Prices_least K C) [] E (tMake C.Prices (sp_Prices___init__ K C) [] E (tCons (tVar 1) (tCons (tVar 2) tNil))) (tCons (tCB qAbs (tCons (tVar 0) tNil)) tNil)) (gTup K 2 (gCons (gName 3) (gCons (gName 4) gNil))))
      (tSeq (tIfS (tTest (tOp qLt (tVar 0) (tC (.int 0)))) (tAsg (tF (sp_turned K C) E (tCons (tVar 4) tNil)) (gName 4)) tNext)
      (tRet (tTup (tCons (tVar 3) (tCons (tVar 4) tNil)))))))))
theorem r_least (h : sp_least K C vs H Q E) : t_least K C E { nx := fun _ H' => Q .non H', rt := Q } (st 5 vs) H := by
  obtain ⟨x, y, z, nx, ny, nz, rfl, hx, hy, hz, h⟩ := h
  unfold t_least
  walk_at "st"
  walk_at "rd"
  refine ⟨x, nx, rfl, hx, fun wx => ?_, fun wx => ?_⟩
  · refine ⟨y, ny, rfl, hy, fun cy => ?_, fun cy => ?_⟩
    · refine ⟨z, nz, rfl, hz, fun cz => ?_, fun cz => ?_⟩
      · rcases h with ⟨e, _⟩ | ⟨_, e, _⟩ | ⟨n, D, S, rfl, rfl, rfl, hn, cD, cS, q⟩
        · rw [wx] at e; cases e
        · rw [cy, cz] at e; rcases e with e | e <;> cases e
        walk_at "rd"
        intro x dx nxx ndx nd
        have sN : ∀ o : HO, Same H (upd (upd (upd (upd H dx (HO.own x)) x (HO.ins C.Prices dx [])) x (.ins C.Prices dx [("double", .int D)])) x o) := fun o => (((Same.new ndx).mut nxx).mut nxx).mut nxx
        refine ⟨x, dx, D, S, rfl, upd_same, rfl, ?_⟩
        have sH := sN (.ins C.Prices dx [("double", .int D), ("step", .int S)])
        have hpr : (upd (upd (upd (upd H dx (HO.own x)) x (HO.ins C.Prices dx [])) x (.ins C.Prices dx [("double", .int D)])) x (.ins C.Prices dx [("double", .int D), ("step", .int S)])) x = some (.ins C.Prices dx [("double", .int D), ("step", .int S)]) := upd_same
        generalize (upd (upd (upd (upd H dx (HO.own x)) x (HO.ins C.Prices dx [])) x (.ins C.Prices dx [("double", .int D)])) x (.ins C.Prices dx [("double", .int D), ("step", .int S)])) = H1 at sH hpr
        refine ⟨x, dx, _, rfl, hpr, rfl, ?_⟩
        have en : (if n < 0 then -n else n) = ((n.natAbs : Nat) : Int) := by split <;> omega
        rw [en]
        refine ⟨x, n.natAbs, D, S, rfl, ⟨dx, hpr⟩, cD, cS, hn, fun H2 t s2 ht => ?_⟩
        walk_at "rd"
        refine ⟨_, ht, rfl, ?_⟩
        walk_at "rd"
        have hlen := len_Fp D S 2000 n.natAbs (Nat.le_of_lt hn)
        have hg := good_Fp D S n.natAbs
        unfold LP at q
        by_cases c : n < 0
        · rw [if_pos c]
          refine ⟨_, rfl, by omega, hg.ok, fun H3 s3 => ?_⟩
          intro t2 nt2
          generalize et2 : upd H3 t2 _ = H4
          obtain ⟨s4, ht2⟩ := new_of et2 nt2
          refine q H4 t2 (((sH.trans s2).trans s3).trans s4) (Same.none ((sH.trans s2).trans s3) nt2) ?_
          rw [ht2, if_pos c]
        · rw [if_neg c]
          intro t2 nt2
          generalize et2 : upd H2 t2 _ = H4
          obtain ⟨s4, ht2⟩ := new_of et2 nt2
          refine q H4 t2 ((sH.trans s2).trans s4) (Same.none (sH.trans s2) nt2) ?_
          rw [ht2, if_neg c]
      · rcases h with ⟨e, _⟩ | ⟨_, _, q⟩ | ⟨n, D, S, rfl, rfl, rfl, hn, cD, cS, q⟩
        · rw [wx] at e; cases e
        · exact q
        · unfold CostOk at cS; simp [cstB, cS.1, cS.2] at cz
    · rcases h with ⟨e, _⟩ | ⟨_, _, q⟩ | ⟨n, D, S, rfl, rfl, rfl, hn, cD, cS, q⟩
      · rw [wx] at e; cases e
      · exact q
      · unfold CostOk at cD; simp [cstB, cD.1, cD.2] at cy
  · rcases h with ⟨_, q⟩ | ⟨e, _⟩ | ⟨n, D, S, rfl, _⟩
    · exact q
    · rw [wx] at e; cases e
    · simp [wh] at wx
end
end Lf
namespace Lf
open PySem PySem.Spec L2
open PyProof.Rows hiding St
theorem sl_ab {t : PySem.Str} {a b : Nat} (hab : a ≤ b) (hb : b ≤ t.length) : (Txt.slice t (some (a : Int)) (some (b : Int))).cps.toList = (t.cps.toList.drop a).take (b - a) := by
  unfold Txt.slice
  have hp := PySem.StrLaws.strSliceIndices_plain hab hb
  split
  · next h =>
    rw [hp, List.length_map, List.length_range, Bool.and_eq_true, beq_iff_eq, beq_iff_eq] at h
    have l : t.cps.toList.length = t.length := Array.length_toList
    have h2 := h.2
    have e1 : a = 0 := by omega
    have e2 : b = t.cps.toList.length := by omega
    rw [e1, e2, List.drop_zero, Nat.sub_zero, List.take_length]
  · exact PySem.StrLaws.sliced_plain t hab hb
theorem sl_take {t : List Nat} {k : Nat} (h : k ≤ t.length) : Txt.slice (mkS t) none (some (k : Int)) = mkS (t.take k) := by
  have e : Txt.slice (mkS t) none (some (k : Int)) = Txt.slice (mkS t) (some ((0 : Nat) : Int)) (some (k : Int)) := by
    unfold Txt.slice
    rw [PySem.StrLaws.sliceIdx_none_lo]; rfl
  rw [e, of_mkS (Txt.slice _ _ _), sl_ab (Nat.zero_le _) (by rw [mkS_len]; exact h), mkS_cps, List.drop_zero, Nat.sub_zero]
theorem sl_one {t : List Nat} {k : Nat} (h : k ≤ t.length) : Txt.slice (mkS t) (some (k : Int)) (some ((k : Int) + 1)) = mkS ((t.drop k).take 1) := by
  by_cases c : k < t.length
  · have := @sl_ab (mkS t) k (k + 1) (by omega) (by rw [mkS_len]; omega)
    rw [show (k : Int) + 1 = ((k + 1 : Nat) : Int) by omega, of_mkS (Txt.slice _ _ _), this, mkS_cps]
    congr 2; omega
  · have hk : k = t.length := by omega
    subst hk
    have e : Txt.slice (mkS t) (some (t.length : Int)) (some ((t.length : Int) + 1)) = Txt.slice (mkS t) (some (t.length : Int)) (some (t.length : Int)) := by
      unfold Txt.slice
      have e2 : Builtin.Str.strSliceIndices (some (t.length : Int)) (some ((t.length : Int) + 1)) 1 (mkS t).length = Builtin.Str.strSliceIndices (some (t.length : Int)) (some (t.length : Int)) 1 (mkS t).length := by
        unfold Builtin.Str.strSliceIndices
        rw [mkS_len]
        have h1 : ¬ ((t.length : Int) + 1 < 0) := by omega
        have h2 : ¬ ((t.length : Int) < 0) := by omega
        have h3 : min ((t.length : Int) + 1) (t.length : Int) = (t.length : Int) := by omega
        simp only [h1, h2, if_false, h3, Int.min_self, show ((1 : Int) > 0) = True from by simp, if_true]
      rw [e2]
    rw [e, of_mkS (Txt.slice _ _ _), sl_ab (Nat.le_refl _) (by rw [mkS_len]; omega), mkS_cps, Nat.sub_self, List.drop_length]
    rfl
theorem sl_from {t : List Nat} {k : Nat} (h : k ≤ t.length) : Txt.slice (mkS t) (some (k : Int)) none = mkS (t.drop k) := by
  have e : Txt.slice (mkS t) (some (k : Int)) none = Txt.slice (mkS t) (some (k : Int)) (some ((t.length : Nat) : Int)) := by
    unfold Txt.slice
    rw [PySem.StrLaws.sliceIdx_none_hi, mkS_len]
  rw [e, of_mkS (Txt.slice _ _ _), sl_ab h (by rw [mkS_len]; omega), mkS_cps, List.take_of_length_le (by rw [List.length_drop]; omega)]
theorem pick8 {P : V → Prop} {a b c d e f g h : V} {i : Int} (hi : 0 ≤ i ∧ i < 8) (ha : P a) (hb : P b) (hc : P c) (hd : P d) (he : P e) (hf : P f) (hg : P g) (hh : P h) : ∃ y, atI [a, b, c, d, e, f, g, h] i = some y ∧ P y := by
  have : i = 0 ∨ i = 1 ∨ i = 2 ∨ i = 3 ∨ i = 4 ∨ i = 5 ∨ i = 6 ∨ i = 7 := by omega
  rcases this with e | e | e | e | e | e | e | e <;> subst e
  · exact ⟨a, rfl, ha⟩
  · exact ⟨b, rfl, hb⟩
  · exact ⟨c, rfl, hc⟩
  · exact ⟨d, rfl, hd⟩
  · exact ⟨e, rfl, he⟩
  · exact ⟨f, rfl, hf⟩
  · exact ⟨g, rfl, hg⟩
  · exact ⟨h, rfl, hh⟩
theorem atI_ex {α : Type} {l : List α} {i : Int} (h0 : 0 ≤ i) (h : i < (l.length : Int)) : ∃ x, atI l i = some x := by
  obtain ⟨x, hx⟩ := getE (l := l) (i := i.toNat) (by omega)
  exact ⟨x, atI_at (j := i.toNat) (by omega) hx⟩
theorem shaped_strT (x : Str) (h0 : PyData.strOk x = true) : SeqAt.shaped (.tuple [.str x]) = true := by
  unfold SeqAt.shaped
  have h1 : (PyData.tuple [.str x]).canLay0 = true := by simp [PyData.canLay0, PyData.canLayAll0, h0]
  have h2 : (PyData.tuple [.str x]).depth ≤ 64 := by
    simp only [PyData.depth, PyData.depthAll]
    omega
  rw [h1, decide_eq_true h2]; rfl
theorem pick6 {P : V → Prop} {a b c d e f : V} {i : Int} (hi : 0 ≤ i ∧ i < 6) (ha : P a) (hb : P b) (hc : P c) (hd : P d) (he : P e) (hf : P f) : ∃ y, atI [a, b, c, d, e, f] i = some y ∧ P y := by
  have : i = 0 ∨ i = 1 ∨ i = 2 ∨ i = 3 ∨ i = 4 ∨ i = 5 := by omega
  rcases this with q | q | q | q | q | q <;> subst q
  · exact ⟨a, rfl, ha⟩
  · exact ⟨b, rfl, hb⟩
  · exact ⟨c, rfl, hc⟩
  · exact ⟨d, rfl, hd⟩
  · exact ⟨e, rfl, he⟩
  · exact ⟨f, rfl, hf⟩
theorem pick3 {P : V → Prop} {a b c : V} {i : Int} (hi : 0 ≤ i ∧ i < 3) (ha : P a) (hb : P b) (hc : P c) : ∃ y, atI [a, b, c] i = some y ∧ P y := by
  have : i = 0 ∨ i = 1 ∨ i = 2 := by omega
  rcases this with e | e | e <;> subst e
  · exact ⟨a, rfl, ha⟩
  · exact ⟨b, rfl, hb⟩
  · exact ⟨c, rfl, hc⟩
theorem shaped_costT (x : Str) (h0 : PyData.strOk x = true) (n : Int) : SeqAt.shaped (.tuple [.str x, .int n]) = true := by
  unfold SeqAt.shaped
  have h1 : (PyData.tuple [.str x, .int n]).canLay0 = true := by simp [PyData.canLay0, PyData.canLayAll0, h0]
  have h2 : (PyData.tuple [.str x, .int n]).depth ≤ 64 := by
    simp only [PyData.depth, PyData.depthAll]
    omega
  rw [h1, decide_eq_true h2]; rfl
theorem bad_in (t u : List Nat) (c : Nat) (h : isDd c = false) : okD (t ++ c :: u) = false := by
  unfold okD
  rw [List.all_append, List.all_cons, h]; simp
/-- a new tuple -/
def newT (H : Hp) (xs : List V) (Q : VK) : Prop := ∀ H' p, Same H H' → H p = none → H' p = some (.tup xs) → Q (.ref p) H'
theorem newT.from {H H' : Hp} {xs : List V} {Q : VK} (h : newT H xs Q) (s : Same H H') : newT H' xs Q := fun H2 p s2 np hp => h H2 p (s.trans s2) (Same.none s np) hp
end Lf
namespace Lf
open PySem PySem.Spec L2
open PyProof.Rows hiding St
theorem LP_ok (D S n : Int) : okD (LP D S n).2 = true := by
  unfold LP
  have hg := good_Fp D S n.natAbs
  by_cases c : n < 0
  · rw [if_pos c]; exact okD_trn hg.ok
  · rw [if_neg c]; exact hg.ok
theorem LP_led (D S n : Int) : ledN (LP D S n).2 = n := by
  unfold LP
  have hg := good_Fp D S n.natAbs
  by_cases c : n < 0
  · rw [if_pos c]
    show ledN ((Fp D S n.natAbs).2.map trn1) = n
    rw [ledN_trn hg.ok, hg.le]; omega
  · rw [if_neg c]
    show ledN (Fp D S n.natAbs).2 = n
    rw [hg.le]; omega
theorem LP_cost (D S n : Int) : costN D S (LP D S n).2 = (LP D S n).1 := by
  unfold LP
  have hg := good_Fp D S n.natAbs
  by_cases c : n < 0
  · rw [if_pos c]
    show costN D S ((Fp D S n.natAbs).2.map trn1) = _
    rw [costN_trn D S hg.ok, hg.co]
  · rw [if_neg c]
    exact hg.co
theorem LP_len (D S n : Int) (h : n.natAbs < 2 ^ 2000) : (LP D S n).2.length ≤ 5000 := by
  unfold LP
  have := len_Fp D S 2000 n.natAbs (Nat.le_of_lt h)
  by_cases c : n < 0
  · rw [if_pos c]
    show ((Fp D S n.natAbs).2.map trn1).length ≤ 5000
    rw [List.length_map]; omega
  · rw [if_neg c]
    show (Fp D S n.natAbs).2.length ≤ 5000
    omega
theorem LP_cst (D S n : Int) : (LP D S n).1 = cst D S n.natAbs := rfl
/-- what is asked of neighbours, told of numbers of either sign -/
theorem cst_right (D S : Int) (hD : CostOk D) (hS : CostOk S) (n : Int) :
    cst D S n.natAbs ≤ cst D S (n + 1).natAbs + S ∧ cst D S (n + 1).natAbs ≤ cst D S n.natAbs + S ∧ cst D S n.natAbs ≤ cst D S (n - 1).natAbs + S ∧ cst D S (n - 1).natAbs ≤ cst D S n.natAbs + S ∧ cst D S (2 * n).natAbs ≤ cst D S n.natAbs + D ∧ cst D S (0 - n).natAbs = cst D S n.natAbs := by
  unfold CostOk at hD hS
  have near : ∀ a b : Nat, a = b + 1 ∨ b = a + 1 → cst D S a ≤ cst D S b + S := fun a b h => by
    rcases h with rfl | rfl
    · exact (cst_near D S hD.1 hD.2 hS.1 b).1
    · exact (cst_near D S hD.1 hD.2 hS.1 a).2
  refine ⟨near _ _ (by omega), near _ _ (by omega), near _ _ (by omega), near _ _ (by omega), ?_, by congr 1; omega⟩
  rw [show (2 * n).natAbs = 2 * n.natAbs by omega]
  exact cst_two D S _ (by omega)
theorem strOk_deeds {t : List Nat} (h : okD t = true) : PyData.strOk (mkS t) = true := by
  unfold PyData.strOk mkS
  unfold okD at h
  rw [List.all_eq_true] at h
  simp only [List.all_toArray, List.all_eq_true, decide_eq_true_eq]
  intro c hc
  rcases isDd_cases (h c hc) with rfl | rfl | rfl <;> decide
theorem shaped_pair (p : Int × List Nat) (h : okD p.2 = true) : SeqAt.shaped (.tuple [.int p.1, .str (mkS p.2)]) = true := by
  unfold SeqAt.shaped
  have h1 : (PyData.tuple [.int p.1, .str (mkS p.2)]).canLay0 = true := by simp [PyData.canLay0, PyData.canLayAll0, strOk_deeds h]
  have h2 : (PyData.tuple [.int p.1, .str (mkS p.2)]).depth ≤ 64 := by
    simp only [PyData.depth, PyData.depthAll]
    omega
  rw [h1, decide_eq_true h2]; rfl
end Lf
namespace Lf
/-! ### the least cost of each number from -300 to 300, found from 0 on, the nearest first -/
abbrev FM := Int → Option Int
abbrev WM := Int → Option (List Int)
def inR (k : Int) : Prop := -300 ≤ k ∧ k ≤ 300
def nbs (D S k : Int) : List (Int × Int) := [(2 * k, D), (k + 1, S), (k - 1, S)]
def setM {α : Type} (F : Int → Option α) (k : Int) (v : Option α) : Int → Option α := fun j => if j = k then v else F j
theorem setM_same {α : Type} (F : Int → Option α) (k : Int) (v : Option α) : setM F k v k = v := by unfold setM; rw [if_pos rfl]
theorem setM_ne {α : Type} (F : Int → Option α) {k j : Int} (v : Option α) (h : j ≠ k) : setM F k v j = F j := by unfold setM; rw [if_neg h]
def Ok (F : FM) (c : Int) (p : Int × Int) : Prop := inR p.1 → ∃ u, F p.1 = some u ∧ u ≤ c + p.2
def Done (D S : Int) (F : FM) (k v : Int) : Prop := ∀ p ∈ nbs D S k, Ok F v p
def LeF (F F' : FM) : Prop := ∀ k u, F k = some u → ∃ u', F' k = some u' ∧ u' ≤ u
theorem LeF.refl (F : FM) : LeF F F := fun _ u h => ⟨u, h, Int.le_refl _⟩
theorem LeF.trans {F G H : FM} (a : LeF F G) (b : LeF G H) : LeF F H := fun k u h => by
  obtain ⟨u1, h1, l1⟩ := a k u h
  obtain ⟨u2, h2, l2⟩ := b k u1 h1
  exact ⟨u2, h2, Int.le_trans l2 l1⟩
theorem Ok.le {F F' : FM} {c : Int} {p : Int × Int} (l : LeF F F') (h : Ok F c p) : Ok F' c p := fun r => by
  obtain ⟨u, h1, h2⟩ := h r
  obtain ⟨u', h3, h4⟩ := l _ _ h1
  exact ⟨u', h3, by omega⟩
theorem LeF.set {F : FM} {l c : Int} (h : ∀ u, F l = some u → c < u) : LeF F (setM F l (some c)) := fun k u hk => by
  by_cases e : k = l
  · subst e
    exact ⟨c, setM_same _ _ _, Int.le_of_lt (h u hk)⟩
  · exact ⟨u, by rw [setM_ne _ _ e]; exact hk, Int.le_refl _⟩
structure DJ (C : Int → Int) (D S : Int) (F : FM) (W : WM) (lo : Int) (R : Int → Int → Prop) : Prop where
  z : F 0 = some 0
  f : ∀ k v, F k = some v → inR k ∧ C k ≤ v
  w : ∀ w l, W w = some l → lo ≤ w ∧ w ≤ 15050 ∧ l.Nodup ∧ ∀ k ∈ l, inR k ∧ ∃ v, F k = some v ∧ v ≤ w
  d : ∀ k v, F k = some v → Done D S F k v ∨ (∃ l, W v = some l ∧ k ∈ l) ∨ R k v
section
variable {C : Int → Int} {D S : Int} {F : FM} {W : WM} {c : Int} {R : Int → Int → Prop}
theorem dj_start (h0 : C 0 = 0) : DJ C D S (setM (fun _ => none) 0 (some 0)) (setM (fun _ => none) 0 (some [0])) 0 (fun _ _ => False) := by
  have key : ∀ k v, setM (fun _ => (none : Option Int)) 0 (some 0) k = some v → k = 0 ∧ v = 0 := fun k v h => by
    unfold setM at h
    by_cases e : k = 0
    · rw [if_pos e] at h; exact ⟨e, (Option.some.inj h).symm⟩
    · rw [if_neg e] at h; cases h
  refine ⟨setM_same _ _ _, fun k v h => ?_, fun w l h => ?_, fun k v h => ?_⟩
  · obtain ⟨rfl, rfl⟩ := key k v h
    exact ⟨⟨by decide, by decide⟩, by rw [h0]; decide⟩
  · unfold setM at h
    by_cases e : w = 0
    · rw [if_pos e] at h
      obtain rfl := Option.some.inj h
      subst e
      refine ⟨by decide, by decide, by simp, fun k hk => ?_⟩
      obtain rfl : k = 0 := by simpa using hk
      exact ⟨⟨by decide, by decide⟩, 0, setM_same _ _ _, by decide⟩
    · rw [if_neg e] at h; cases h
  · obtain ⟨rfl, rfl⟩ := key k v h
    exact .inr (.inl ⟨[0], setM_same _ _ _, by simp⟩)
theorem dj_pop {L : List Int} (J : DJ C D S F W c (fun _ _ => False)) (hL : W c = some L) : DJ C D S F (setM W c none) (c + 1) (fun k v => v = c ∧ k ∈ L.drop 0) ∧ ∀ k ∈ L, inR k ∧ ∃ v, F k = some v ∧ v ≤ c := by
  refine ⟨⟨J.z, J.f, fun w l h => ?_, fun k v h => ?_⟩, (J.w c L hL).2.2.2⟩
  · have e : w ≠ c := fun e => by subst e; rw [setM_same] at h; cases h
    rw [setM_ne _ _ e] at h
    obtain ⟨h1, h2⟩ := J.w w l h
    exact ⟨by omega, h2⟩
  · rcases J.d k v h with h1 | ⟨l, h1, h2⟩ | h1
    · exact .inl h1
    · by_cases e : v = c
      · subst e
        rw [hL] at h1
        obtain rfl := Option.some.inj h1
        exact .inr (.inr ⟨rfl, by simpa using h2⟩)
      · exact .inr (.inl ⟨l, by rw [setM_ne _ _ e]; exact h1, h2⟩)
    · exact h1.elim
theorem dj_popN (J : DJ C D S F W c (fun _ _ => False)) (hL : W c = none) : DJ C D S F W (c + 1) (fun k v => v = c ∧ k ∈ ([] : List Int).drop 0) := by
  refine ⟨J.z, J.f, fun w l h => ?_, fun k v h => ?_⟩
  · have e : w ≠ c := fun e => by subst e; rw [hL] at h; cases h
    obtain ⟨h1, h2⟩ := J.w w l h
    exact ⟨by omega, h2⟩
  · rcases J.d k v h with h1 | h1 | h1
    · exact .inl h1
    · exact .inr (.inl h1)
    · exact h1.elim
theorem dj_end {L : List Int} (J : DJ C D S F W (c + 1) (fun k v => v = c ∧ k ∈ L.drop L.length)) : DJ C D S F W (c + 1) (fun _ _ => False) := by
  refine ⟨J.z, J.f, J.w, fun k v h => ?_⟩
  rcases J.d k v h with h1 | h1 | ⟨_, h1⟩
  · exact .inl h1
  · exact .inr (.inl h1)
  · rw [List.drop_length] at h1; simp at h1
theorem dj_skip {L : List Int} {i : Nat} {k v : Int} (J : DJ C D S F W (c + 1) (fun k v => v = c ∧ k ∈ L.drop i)) (hk : L[i]? = some k) (hv : F k = some v) (hc : v = c → Done D S F k c) : DJ C D S F W (c + 1) (fun k v => v = c ∧ k ∈ L.drop (i + 1)) := by
  refine ⟨J.z, J.f, J.w, fun k' v' h => ?_⟩
  rcases J.d k' v' h with h1 | h1 | ⟨h1, h2⟩
  · exact .inl h1
  · exact .inr (.inl h1)
  · obtain ⟨hi, e⟩ := List.getElem?_eq_some_iff.mp hk
    rw [List.drop_eq_getElem_cons hi, e] at h2
    rcases List.mem_cons.mp h2 with h3 | h3
    · subst h3
      rw [hv] at h
      obtain rfl := Option.some.inj h
      exact .inl (by have := hc h1; rw [← h1] at this; exact this)
    · exact .inr (.inr ⟨h1, h3⟩)
/-- numbers that lie nearer than the cost are found by steps -/
theorem dj_steps {T : List Int} (J : DJ C D S F W (c + 1) (fun k v => v = c ∧ k ∈ T)) (hS : 1 ≤ S) : ∀ n : Nat, n ≤ 300 → ((n : Int) - 1) * S < c → (∃ u, F (n : Int) = some u ∧ u ≤ (n : Int) * S) ∧ ∃ u, F (-(n : Int)) = some u ∧ u ≤ (n : Int) * S
  | 0, _, _ => ⟨⟨0, J.z, by simp⟩, ⟨0, J.z, by simp⟩⟩
  | n + 1, hn, hc => by
    have e : (((n + 1 : Nat) : Int) - 1) * S = (n : Int) * S := by congr 1; omega
    rw [e] at hc
    have e2 : ((n : Int) - 1) * S = (n : Int) * S - S := by rw [Int.sub_mul]; omega
    have e3 : ((n + 1 : Nat) : Int) * S = (n : Int) * S + S := by rw [Int.natCast_add, Int.add_mul]; simp
    obtain ⟨⟨u, hu, lu⟩, v, hv, lv⟩ := dj_steps J hS n (by omega) (by omega)
    have dn : ∀ k x, F k = some x → x < c → Done D S F k x := fun k x hk hx => by
      rcases J.d k x hk with h1 | ⟨l, h1, _⟩ | ⟨h1, _⟩
      · exact h1
      · have := (J.w x l h1).1; omega
      · omega
    refine ⟨?_, ?_⟩
    · obtain ⟨y, hy, ly⟩ := dn _ u hu (by omega) ((n : Int) + 1, S) (by simp [nbs]) ⟨by show -300 ≤ (n : Int) + 1; omega, by show (n : Int) + 1 ≤ 300; omega⟩
      refine ⟨y, by rw [show (((n + 1 : Nat) : Int)) = (n : Int) + 1 by omega]; exact hy, ?_⟩
      have ly' : y ≤ u + S := ly
      omega
    · obtain ⟨y, hy, ly⟩ := dn _ v hv (by omega) (-(n : Int) - 1, S) (by simp [nbs]) ⟨by show -300 ≤ -(n : Int) - 1; omega, by show -(n : Int) - 1 ≤ 300; omega⟩
      refine ⟨y, by rw [show (-((n + 1 : Nat) : Int)) = -(n : Int) - 1 by omega]; exact hy, ?_⟩
      have ly' : y ≤ v + S := ly
      omega
theorem dj_bound {T : List Int} {k : Int} (J : DJ C D S F W (c + 1) (fun k v => v = c ∧ k ∈ T)) (hS : 1 ≤ S) (hS2 : S ≤ 50) (hk : F k = some c) : c ≤ 15000 := by
  by_cases h : 300 * S < c
  · have hr := (J.f k c hk).1
    unfold inR at hr
    have hle : ∀ n : Nat, n ≤ 300 → (n : Int) * S ≤ 300 * S := fun n hn => Int.mul_le_mul_of_nonneg_right (by omega) (by omega)
    have hlt : ∀ n : Nat, n ≤ 300 → ((n : Int) - 1) * S < c := fun n hn => by
      have e2 : ((n : Int) - 1) * S = (n : Int) * S - S := by rw [Int.sub_mul]; omega
      have := hle n hn
      omega
    obtain ⟨⟨u, hu, lu⟩, v, hv, lv⟩ := dj_steps J hS k.natAbs (by omega) (hlt _ (by omega))
    have := hle k.natAbs (by omega)
    rcases (by omega : k = (k.natAbs : Int) ∨ k = -(k.natAbs : Int)) with e | e
    · rw [← e, hk] at hu
      obtain rfl := Option.some.inj hu
      omega
    · rw [← e, hk] at hv
      obtain rfl := Option.some.inj hv
      omega
  · omega
theorem dj_push {T : List Int} {k : Int} {p : Int × Int} (J : DJ C D S F W (c + 1) (fun k v => v = c ∧ k ∈ T)) (hc : 0 ≤ c) (hb : c ≤ 15000) (hk : F k = some c) (hC : C p.1 ≤ C k + p.2) (hm : 1 ≤ p.2 ∧ p.2 ≤ 50) (hr : inR p.1) (hu : ∀ u, F p.1 = some u → c + p.2 < u) :
    DJ C D S (setM F p.1 (some (c + p.2))) (setM W (c + p.2) (some ((W (c + p.2)).getD [] ++ [p.1]))) (c + 1) (fun k v => v = c ∧ k ∈ T) := by
  have le : LeF F (setM F p.1 (some (c + p.2))) := LeF.set hu
  refine ⟨?_, fun k' v' h => ?_, fun w l h => ?_, fun k' v' h => ?_⟩
  · by_cases e : (0 : Int) = p.1
    · have := hu 0 (by rw [← e]; exact J.z)
      omega
    · rw [setM_ne _ _ e]; exact J.z
  · by_cases e : k' = p.1
    · subst e
      rw [setM_same] at h
      obtain rfl := Option.some.inj h
      have := (J.f k c hk).2
      exact ⟨hr, by omega⟩
    · rw [setM_ne _ _ e] at h; exact J.f k' v' h
  · by_cases e : w = c + p.2
    · subst e
      rw [setM_same] at h
      obtain rfl := Option.some.inj h
      have h0 : ((W (c + p.2)).getD []).Nodup ∧ ∀ k ∈ (W (c + p.2)).getD [], inR k ∧ ∃ v, F k = some v ∧ v ≤ c + p.2 := by
        cases e : W (c + p.2) with
        | none => exact ⟨by simp, by simp⟩
        | some l => exact (J.w _ l e).2.2
      refine ⟨by omega, by omega, ?_, fun k' hk' => ?_⟩
      · rw [List.nodup_append]
        refine ⟨h0.1, by simp, fun a ha b hb' e => ?_⟩
        obtain rfl : b = p.1 := by simpa using hb'
        obtain ⟨_, v, hv, lv⟩ := h0.2 a ha
        rw [e] at hv
        have := hu v hv
        omega
      · rcases List.mem_append.mp hk' with h1 | h1
        · obtain ⟨r, v, hv, lv⟩ := h0.2 k' h1
          obtain ⟨v', hv', lv'⟩ := le _ _ hv
          exact ⟨r, v', hv', by omega⟩
        · obtain rfl : k' = p.1 := by simpa using h1
          exact ⟨hr, _, setM_same _ _ _, Int.le_refl _⟩
    · rw [setM_ne _ _ e] at h
      obtain ⟨h1, h2, h3, h4⟩ := J.w w l h
      refine ⟨h1, h2, h3, fun k' hk' => ?_⟩
      obtain ⟨r, v, hv, lv⟩ := h4 k' hk'
      obtain ⟨v', hv', lv'⟩ := le _ _ hv
      exact ⟨r, v', hv', by omega⟩
  · by_cases e : k' = p.1
    · subst e
      rw [setM_same] at h
      obtain rfl := Option.some.inj h
      exact .inr (.inl ⟨_, setM_same _ _ _, by simp⟩)
    · rw [setM_ne _ _ e] at h
      rcases J.d k' v' h with h1 | ⟨l, h1, h2⟩ | h1
      · exact .inl fun q hq => (h1 q hq).le le
      · refine .inr (.inl ?_)
        by_cases e2 : v' = c + p.2
        · subst e2
          exact ⟨_, setM_same _ _ _, by rw [h1]; simp [h2]⟩
        · exact ⟨l, by rw [setM_ne _ _ e2]; exact h1, h2⟩
      · exact .inr (.inr h1)
end
theorem nodup_len : ∀ (n : Nat) (l : List Int), l.Nodup → (∀ x ∈ l, 0 ≤ x ∧ x < n) → l.length ≤ n
  | 0, l, _, h => by
    cases l with
    | nil => simp
    | cons x l => have := h x (by simp); omega
  | n + 1, l, hn, h => by
    have h1 := nodup_len n (l.erase (n : Int)) (hn.erase _) (fun x hx => by
      have hx2 := List.Nodup.mem_erase_iff hn |>.mp hx
      have := h x hx2.2
      have := hx2.1
      omega)
    have h2 : l.length ≤ (l.erase (n : Int)).length + 1 := by
      rw [List.length_erase]; split <;> omega
    omega
theorem nodup_span {l : List Int} (hn : l.Nodup) (h : ∀ x ∈ l, inR x) : l.length ≤ 601 := by
  have h1 : (l.map (· + 300)).Nodup := by
    unfold List.Nodup
    rw [List.pairwise_map]
    exact hn.imp fun h e => h (by omega)
  have := nodup_len 601 _ h1 fun x hx => by
    obtain ⟨y, hy, rfl⟩ := List.mem_map.mp hx
    have := h y hy
    unfold inR at this
    show 0 ≤ y + 300 ∧ y + 300 < ((601 : Nat) : Int)
    omega
  rwa [List.length_map] at this
/-- what is found is the least cost -/
theorem dj_low {D S : Int} {F : FM} (hD : 1 ≤ D) (hS : 1 ≤ S) (h0 : F 0 = some 0) (dn : ∀ k v, F k = some v → Done D S F k v) : ∀ n : Nat, n ≤ 298 → (∃ u, F (n : Int) = some u ∧ u ≤ cst D S n) ∧ ∃ u, F (-(n : Int)) = some u ∧ u ≤ cst D S n := by
  have step : ∀ k u (p : Int × Int), F k = some u → p ∈ nbs D S k → inR p.1 → ∃ y, F p.1 = some y ∧ y ≤ u + p.2 := fun k u p hk hp hr => dn k u hk p hp hr
  have two : ∀ k u, F k = some u → inR (2 * k) → ∃ y, F (2 * k) = some y ∧ y ≤ u + D := fun k u hk hr => step k u (2 * k, D) hk (by simp [nbs]) hr
  have up : ∀ k u, F k = some u → inR (k + 1) → ∃ y, F (k + 1) = some y ∧ y ≤ u + S := fun k u hk hr => step k u (k + 1, S) hk (by simp [nbs]) hr
  have dw : ∀ k u, F k = some u → inR (k - 1) → ∃ y, F (k - 1) = some y ∧ y ≤ u + S := fun k u hk hr => step k u (k - 1, S) hk (by simp [nbs]) hr
  have all : ∀ n : Nat, n ≤ 300 → (∃ u, F (n : Int) = some u ∧ u ≤ (n : Int) * S) ∧ ∃ u, F (-(n : Int)) = some u ∧ u ≤ (n : Int) * S := fun n => by
    induction n with
    | zero => exact fun _ => ⟨⟨0, h0, by simp⟩, ⟨0, h0, by simp⟩⟩
    | succ n ih =>
      intro hn
      have e3 : ((n + 1 : Nat) : Int) * S = (n : Int) * S + S := by rw [Int.natCast_add, Int.add_mul]; simp
      obtain ⟨⟨u, hu, lu⟩, v, hv, lv⟩ := ih (by omega)
      obtain ⟨y, hy, ly⟩ := up _ u hu (by unfold inR; omega)
      obtain ⟨x, hx, lx⟩ := dw _ v hv (by unfold inR; omega)
      exact ⟨⟨y, by rw [show (((n + 1 : Nat) : Int)) = (n : Int) + 1 by omega]; exact hy, by omega⟩, ⟨x, by rw [show (-((n + 1 : Nat) : Int)) = -(n : Int) - 1 by omega]; exact hx, by omega⟩⟩
  intro n
  induction n using Nat.strongRecOn with
  | ind n ih =>
    intro hn
    rcases Nat.eq_zero_or_pos n with rfl | hn0
    · rw [cst_zero]; exact ⟨⟨0, h0, Int.le_refl _⟩, ⟨0, h0, Int.le_refl _⟩⟩
    obtain ⟨h, e | e⟩ : ∃ h, n = 2 * h ∨ n = 2 * h + 1 := ⟨n / 2, by omega⟩
    · subst e
      obtain ⟨_, _, e3⟩ := cst_even D S (h := h) (by omega)
      rcases e3 with e3 | ⟨_, e3⟩ <;> rw [e3]
      · obtain ⟨⟨u, hu, lu⟩, v, hv, lv⟩ := ih h (by omega) (by omega)
        obtain ⟨y, hy, ly⟩ := two _ u hu (by unfold inR; omega)
        obtain ⟨x, hx, lx⟩ := two _ v hv (by unfold inR; omega)
        exact ⟨⟨y, by rw [show (((2 * h : Nat) : Int)) = 2 * (h : Int) by omega]; exact hy, by omega⟩, ⟨x, by rw [show (-((2 * h : Nat) : Int)) = 2 * -(h : Int) by omega]; exact hx, by omega⟩⟩
      · exact all _ (by omega)
    · subst e
      rcases Nat.eq_zero_or_pos h with rfl | hh
      · have := all 1 (by decide)
        rw [show 2 * 0 + 1 = 1 from rfl, cst_one]
        have e1 : ((1 : Nat) : Int) * S = S := by simp
        rw [e1] at this
        exact this
      obtain ⟨_, _, _, e4⟩ := cst_odd D S hh
      rcases e4 with e4 | e4 | ⟨_, e4⟩ <;> rw [e4]
      · obtain ⟨⟨u, hu, lu⟩, v, hv, lv⟩ := ih h (by omega) (by omega)
        obtain ⟨y, hy, ly⟩ := two _ u hu (by unfold inR; omega)
        obtain ⟨x, hx, lx⟩ := two _ v hv (by unfold inR; omega)
        obtain ⟨y2, hy2, ly2⟩ := up _ y hy (by unfold inR; omega)
        obtain ⟨x2, hx2, lx2⟩ := dw _ x hx (by unfold inR; omega)
        exact ⟨⟨y2, by rw [show (((2 * h + 1 : Nat) : Int)) = 2 * (h : Int) + 1 by omega]; exact hy2, by omega⟩, ⟨x2, by rw [show (-((2 * h + 1 : Nat) : Int)) = 2 * -(h : Int) - 1 by omega]; exact hx2, by omega⟩⟩
      · obtain ⟨⟨u, hu, lu⟩, v, hv, lv⟩ := ih (h + 1) (by omega) (by omega)
        obtain ⟨y, hy, ly⟩ := two _ u hu (by unfold inR; omega)
        obtain ⟨x, hx, lx⟩ := two _ v hv (by unfold inR; omega)
        obtain ⟨y2, hy2, ly2⟩ := dw _ y hy (by unfold inR; omega)
        obtain ⟨x2, hx2, lx2⟩ := up _ x hx (by unfold inR; omega)
        exact ⟨⟨y2, by rw [show (((2 * h + 1 : Nat) : Int)) = 2 * ((h + 1 : Nat) : Int) - 1 by omega]; exact hy2, by omega⟩, ⟨x2, by rw [show (-((2 * h + 1 : Nat) : Int)) = 2 * -((h + 1 : Nat) : Int) + 1 by omega]; exact hx2, by omega⟩⟩
      · exact all _ (by omega)
theorem dj_all {D S : Int} {F : FM} {W : WM} {c : Int} (hD : 1 ≤ D) (hS : 1 ≤ S) (J : DJ (fun k => cst D S k.natAbs) D S F W c (fun _ _ => False)) (hW : ∀ w, W w = none) (k : Int) (hk : k.natAbs ≤ 298) : F k = some (cst D S k.natAbs) := by
  have dn : ∀ k v, F k = some v → Done D S F k v := fun k v h => by
    rcases J.d k v h with h1 | ⟨l, h1, _⟩ | h1
    · exact h1
    · rw [hW] at h1; cases h1
    · exact h1.elim
  have ex : ∃ u, F k = some u ∧ u ≤ cst D S k.natAbs := by
    have := dj_low hD hS J.z dn k.natAbs hk
    rcases (by omega : k = (k.natAbs : Int) ∨ k = -(k.natAbs : Int)) with e | e
    · rw [← e] at this; exact this.1
    · rw [← e] at this; exact this.2
  obtain ⟨u, hu, lu⟩ := ex
  have := (J.f k u hu).2
  rw [hu]
  congr 1
  exact Int.le_antisymm lu this
end Lf

namespace Lf
open PySem PySem.Spec L2
open PyProof.Rows hiding St
/-- a dict beside an empty one -/
def qNeDK (K : PySem.W.Frag) : R2 := fun x y H Q => ∃ a b ks, x = .ref a ∧ y = .ref b ∧ H a = some (.dK ks) ∧ H b = some (.dK []) ∧ Q (.bl (!ks.isEmpty)) H
theorem op_neDK {X : Cx} (hu : X.A.units + 64 < cLine) : OpR X (compareOp .NotEq) (qNeDK X.K) := by
  intro pins s σ H x y v u Q I rx ry h
  obtain ⟨a, b, ks, rfl, rfl, ea, eb, q⟩ := h
  obtain rfl : v = Value.ref a := rx
  obtain rfl : u = Value.ref b := ry
  obtain ⟨_, ya, va, ra, da⟩ := (show ObjOk X.prog X.w H s.heap a (.dK ks) from I.hok a _ ea)
  obtain ⟨_, yb, vb, rb, db⟩ := (show ObjOk X.prog X.w H s.heap b (.dK []) from I.hok b _ eb)
  have hl : ks.length = va.length := ra.length
  have hl2 : ([] : List (Key × V)).length = vb.length := rb.length
  obtain rfl : vb = [] := List.eq_nil_of_length_eq_zero hl2.symm
  refine PySem.W.keq_ne (knd := mixKind X.prog X.w) (r := true) ya yb da db (by omega) (fun e => ?_) (fin_bl I q ?_)
  · obtain rfl : va = [] := List.eq_nil_of_length_eq_zero (by simpa using e)
    exact .nil
  · cases ks with
    | nil =>
      obtain rfl : va = [] := List.eq_nil_of_length_eq_zero hl.symm
      rfl
    | cons k ks =>
      cases va with
      | nil => simp at hl
      | cons z va => simp
section
variable {σ : L2.St} {H : Hp} {Q : VK} {td ty tx : TE} {K : PySem.W.Frag}
theorem r_dget : tDGet td ty σ H Q = td σ H fun x H1 => ty σ H1 fun y H2 => ∃ a v, x = .ref a ∧ DGet H2 a y (some v) ∧ Q v H2 := rfl
theorem r_dnotin : tDNotIn ty td σ H Q = ty σ H fun y H1 => td σ H1 fun x H2 => ∃ a o, x = .ref a ∧ DGet H2 a y o ∧ Q (.bl (!o.isSome)) H2 := rfl
theorem r_dget2 : tDGet2 td ty tx σ H Q = td σ H fun x H1 => ∃ a, x = .ref a ∧ IsD H1 a ∧ ty σ H1 fun y H2 => tx σ H2 fun z H3 => ∃ o, DGet H3 a y o ∧ Q (o.getD z) H3 := rfl
theorem r_dpop2 : tDPop2 td ty tx σ H Q = td σ H fun x H1 => ∃ a, x = .ref a ∧ IsD H1 a ∧ ty σ H1 fun y H2 => tx σ H2 fun z H3 => ∃ kvs k, H3 a = some (.dK kvs) ∧ y = kV k ∧
  (∀ v, valV kvs k = some v → Q v (upd H3 a (.dK (dropK kvs k)))) ∧ (valV kvs k = none → Q z H3) := rfl
theorem r_disp1 {tk tv : TE} : tDisp [(tk, tv)] σ H Q = ∀ p, H p = none → tk σ (upd H p (.dK [])) fun x H1 => tv σ H1 fun y H2 => H2 p = some (.dK []) ∧ ∃ kvs : List (Key × V), [(x, y)] = kvs.map (fun kv => (kV kv.1, kv.2)) ∧ kvs.length ≤ 15 ∧ Q (.ref p) (upd H2 p (.dK (mergeK [] kvs))) := rfl
theorem r_dnewK : tDNewK σ H Q = ∀ p, H p = none → Q (.ref p) (upd H p (.dK [])) := rfl
theorem r_gsub {to ti : TE} {t : TSet} {v : V} {T : L2.St → Hp → Prop} : gSub to ti t v σ H T = to σ H fun o H1 => ti σ H1 fun i H2 => t o i v H2 fun H3 => T σ H3 := rfl
theorem r_setD {o i v : V} {T : Hp → Prop} : rSetD o i v H T = ∃ a H', o = .ref a ∧ DPut H a i v H' ∧ T H' := rfl
end
theorem valV_drop {κ : Type} [DecidableEq κ] (k j : κ) : ∀ kvs : List (κ × V), valV (dropK kvs k) j = if j = k then none else valV kvs j
  | [] => by unfold dropK; simp [valV_nil]
  | p :: r => by
    have ih := valV_drop k j r
    unfold dropK at ih ⊢
    by_cases e : p.1 = k
    · rw [List.filter_cons_of_neg (by simpa using e), ih]
      by_cases e2 : j = k
      · rw [if_pos e2, if_pos e2]
      · rw [if_neg e2, if_neg e2, valV_neg (fun q => e2 (by rw [← q, e]))]
    · rw [List.filter_cons_of_pos (by simpa using e)]
      by_cases e3 : p.1 = j
      · rw [valV_pos e3, valV_pos e3, if_neg (fun q => e (by rw [e3, q]))]
      · rw [valV_neg e3, valV_neg e3, ih]
/-- a dict with numbers as keys, its entries told by a function -/
structure DKs (H : Hp) (p : Addr) (R : Int → Prop) (kvs : List (Key × V)) (val : Int → Option V) : Prop where
  at_ : H p = some (.dK kvs)
  ks : ∃ ks : List Int, kvs.map (·.1) = ks.map Sum.inl ∧ ks.Nodup ∧ ∀ k ∈ ks, R k
  vl : ∀ k : Int, valV kvs (Sum.inl k) = val k
section
variable {H : Hp} {p : Addr} {R : Int → Prop} {kvs : List (Key × V)} {val : Int → Option V}
theorem DKs.get (h : DKs H p R kvs val) (k : Int) : DGet H p (.int k) (val k) := by
  have := DGet.k (k := Sum.inl k) h.at_
  rw [h.vl k] at this
  exact this
theorem DKs.isD (h : DKs H p R kvs val) : IsD H p := .inl ⟨kvs, .inl h.at_⟩
theorem mem_valV {κ : Type} [DecidableEq κ] {kvs : List (κ × V)} {k : κ} : k ∈ kvs.map (·.1) → ∃ v, valV kvs k = some v := by
  induction kvs with
  | nil => intro h; simp at h
  | cons p r ih =>
    intro h
    by_cases e : p.1 = k
    · exact ⟨_, valV_pos e⟩
    · rw [valV_neg e]
      rw [List.map_cons, List.mem_cons] at h
      exact ih (h.resolve_left fun q => e q.symm)
theorem valV_mem {κ : Type} [DecidableEq κ] {kvs : List (κ × V)} {k : κ} {v : V} : valV kvs k = some v → k ∈ kvs.map (·.1) := by
  induction kvs with
  | nil => intro h; simp [valV_nil] at h
  | cons p r ih =>
    intro h
    by_cases e : p.1 = k
    · rw [List.map_cons, e]; exact List.mem_cons_self
    · rw [valV_neg e] at h
      exact List.mem_cons_of_mem _ (ih h)
theorem DKs.dom (h : DKs H p R kvs val) {k : Int} {v : V} (e : val k = some v) : R k := by
  obtain ⟨ks, e1, _, hr⟩ := h.ks
  rw [← h.vl k] at e
  have := valV_mem e
  rw [e1] at this
  obtain ⟨j, hj, ej⟩ := List.mem_map.mp this
  injection ej with ej
  rw [← ej]; exact hr j hj
theorem DKs.put (h : DKs H p R kvs val) {k : Int} (hk : R k) (v : V) (hz : kvs.length < sizeLine) : DPut H p (.int k) v (upd H p (.dK (putK kvs (Sum.inl k) v))) ∧ DKs (upd H p (.dK (putK kvs (Sum.inl k) v))) p R (putK kvs (Sum.inl k) v) (setM val k (some v)) := by
  refine ⟨DPut.k (k := Sum.inl k) h.at_ hz, upd_same, ?_, fun j => ?_⟩
  · obtain ⟨ks, e1, nd, hr⟩ := h.ks
    cases e : valV kvs (Sum.inl k) with
    | none =>
      rw [putK_new v e]
      refine ⟨ks ++ [k], by rw [List.map_append, List.map_append, e1]; rfl, ?_, fun j hj => ?_⟩
      · rw [List.nodup_append]
        refine ⟨nd, by simp, fun a ha b hb q => ?_⟩
        obtain rfl : b = k := by simpa using hb
        subst q
        obtain ⟨w, hw⟩ := mem_valV (kvs := kvs) (k := (Sum.inl a : Key)) (by rw [e1]; exact List.mem_map.mpr ⟨a, ha, rfl⟩)
        rw [e] at hw; cases hw
      · rcases List.mem_append.mp hj with q | q
        · exact hr j q
        · obtain rfl : j = k := by simpa using q
          exact hk
    | some w =>
      refine ⟨ks, ?_, nd, hr⟩
      rw [← e1]
      unfold putK
      rw [valV_any, e]
      simp only [Option.isSome_some, if_true, List.map_map]
      apply List.map_congr_left
      intro q _
      simp only [Function.comp_apply]
      split <;> rfl
  · rw [valV_put]
    unfold setM
    by_cases e : j = k
    · rw [if_pos e, if_pos (by rw [e])]
    · rw [if_neg e, if_neg (fun q => e (by injection q)), h.vl]
theorem DKs.drop (h : DKs H p R kvs val) (k : Int) : DKs (upd H p (.dK (dropK kvs (Sum.inl k)))) p R (dropK kvs (Sum.inl k)) (setM val k none) := by
  refine ⟨upd_same, ?_, fun j => ?_⟩
  · obtain ⟨ks, e1, nd, hr⟩ := h.ks
    refine ⟨ks.filter (fun j => decide (j ≠ k)), ?_, nd.filter _, fun j hj => hr j (List.mem_filter.mp hj).1⟩
    unfold dropK
    have e2 : (kvs.filter fun kv => decide (kv.1 ≠ (Sum.inl k : Key))).map (·.1) = (kvs.map (·.1)).filter fun q => decide (q ≠ (Sum.inl k : Key)) := by
      rw [List.filter_map]; rfl
    rw [e2, e1, List.filter_map]
    congr 1
    apply List.filter_congr
    intro j _
    simp
  · rw [valV_drop]
    unfold setM
    by_cases e : j = k
    · rw [if_pos e, if_pos (by rw [e])]
    · rw [if_neg e, if_neg (fun q => e (by injection q)), h.vl]
theorem DKs.same {H' : Hp} (h : DKs H p R kvs val) (s : Same H H') : DKs H' p R kvs val := ⟨s _ _ h.at_, h.ks, h.vl⟩
theorem DKs.ne (h : DKs H p R kvs val) {q : Addr} (n : q ≠ p) (o : HO) : DKs (upd H q o) p R kvs val := ⟨by rw [upd_ne (Ne.symm n)]; exact h.at_, h.ks, h.vl⟩
end
/-- what was found -/
def FD (H : Hp) (f : Addr) (F : FM) : Prop := ∃ kvs, DKs H f inR kvs fun k => (F k).map V.int
theorem FD.len {H : Hp} {f : Addr} {kvs : List (Key × V)} {val : Int → Option V} (h : DKs H f inR kvs val) : kvs.length ≤ 601 := by
  obtain ⟨ks, e, nd, hr⟩ := h.ks
  have := congrArg List.length e
  rw [List.length_map, List.length_map] at this
  rw [this]; exact nodup_span nd hr
def inW (w : Int) : Prop := 0 ≤ w ∧ w ≤ 15050
/-- what waits -/
def WD (H : Hp) (p : Addr) (ws : List (Key × V)) (A : Int → Option Addr) (W : WM) : Prop := DKs H p inW ws (fun w => (A w).map V.ref) ∧ ∀ w, (W w = none ∧ A w = none) ∨ ∃ l a, W w = some l ∧ A w = some a ∧ H a = some (.lst (l.map V.int))
theorem WD.len {H : Hp} {f : Addr} {kvs : List (Key × V)} {val : Int → Option V} (h : DKs H f inW kvs val) : kvs.length ≤ 15051 := by
  obtain ⟨ks, e, nd, hr⟩ := h.ks
  have := congrArg List.length e
  rw [List.length_map, List.length_map] at this
  rw [this]
  exact nodup_len 15051 ks nd fun x hx => by have := hr x hx; unfold inW at this; omega
theorem lst_dK {H : Hp} {a b : Addr} {xs : List V} {kvs : List (Key × V)} (h1 : H a = some (.lst xs)) (h2 : H b = some (.dK kvs)) : a ≠ b := fun e => by rw [e, h2] at h1; cases h1
theorem WD.same {H H' : Hp} {p : Addr} {ws : List (Key × V)} {A : Int → Option Addr} {W : WM} (h : WD H p ws A W) (s : Same H H') : WD H' p ws A W := ⟨h.1.same s, fun w => by
  rcases h.2 w with q | ⟨l, a, h1, h2, h3⟩
  · exact .inl q
  · exact .inr ⟨l, a, h1, h2, s _ _ h3⟩⟩
theorem WD.ne {H : Hp} {p f : Addr} {ws kvs kvs' : List (Key × V)} {A : Int → Option Addr} {W : WM} (h : WD H p ws A W) (hf : H f = some (.dK kvs)) (n : f ≠ p) : WD (upd H f (.dK kvs')) p ws A W := ⟨h.1.ne n _, fun w => by
  rcases h.2 w with q | ⟨l, a, h1, h2, h3⟩
  · exact .inl q
  · exact .inr ⟨l, a, h1, h2, by rw [upd_ne (lst_dK h3 hf)]; exact h3⟩⟩
theorem WD.drop {H : Hp} {p : Addr} {ws : List (Key × V)} {A : Int → Option Addr} {W : WM} (h : WD H p ws A W) (c : Int) : WD (upd H p (.dK (dropK ws (Sum.inl c)))) p (dropK ws (Sum.inl c)) (setM A c none) (setM W c none) := by
  refine ⟨?_, fun w => ?_⟩
  · have := h.1.drop c
    refine ⟨this.at_, this.ks, fun k => ?_⟩
    rw [this.vl k]
    unfold setM
    split <;> rfl
  · by_cases e : w = c
    · subst e; exact .inl ⟨setM_same _ _ _, setM_same _ _ _⟩
    · rw [setM_ne _ _ e, setM_ne _ _ e]
      rcases h.2 w with q | ⟨l, a, h1, h2, h3⟩
      · exact .inl q
      · exact .inr ⟨l, a, h1, h2, by rw [upd_ne (lst_dK h3 h.1.at_)]; exact h3⟩
theorem WD.put {H : Hp} {p r : Addr} {ws : List (Key × V)} {A : Int → Option Addr} {W : WM} (h : WD H p ws A W) {c : Int} (hc : inW c) {l : List Int} (hr : H r = some (.lst (l.map V.int))) :
    DPut H p (.int c) (.ref r) (upd H p (.dK (putK ws (Sum.inl c) (.ref r)))) ∧ WD (upd H p (.dK (putK ws (Sum.inl c) (.ref r)))) p (putK ws (Sum.inl c) (.ref r)) (setM A c (some r)) (setM W c (some l)) := by
  have hl := WD.len h.1
  obtain ⟨h1, h2⟩ := h.1.put hc (.ref r) (by rw [sizeLine_is]; omega)
  refine ⟨h1, ⟨h2.at_, h2.ks, fun k => ?_⟩, fun w => ?_⟩
  · rw [h2.vl k]
    unfold setM
    split <;> rfl
  · by_cases e : w = c
    · subst e; exact .inr ⟨l, r, setM_same _ _ _, setM_same _ _ _, by rw [upd_ne (lst_dK hr h.1.at_)]; exact hr⟩
    · rw [setM_ne _ _ e, setM_ne _ _ e]
      rcases h.2 w with q | ⟨l, a, h1, h2, h3⟩
      · exact .inl q
      · exact .inr ⟨l, a, h1, h2, by rw [upd_ne (lst_dK h3 h.1.at_)]; exact h3⟩
theorem FD.put {H : Hp} {f : Addr} {F : FM} (h : FD H f F) {k : Int} (hk : inR k) (v : Int) : ∃ kvs kvs', H f = some (.dK kvs) ∧ DPut H f (.int k) (.int v) (upd H f (.dK kvs')) ∧ FD (upd H f (.dK kvs')) f (setM F k (some v)) := by
  obtain ⟨kvs, h⟩ := h
  have hl := FD.len h
  obtain ⟨h1, h2⟩ := h.put hk (.int v) (by rw [sizeLine_is]; omega)
  refine ⟨kvs, _, h.at_, h1, _, h2.at_, h2.ks, fun j => ?_⟩
  rw [h2.vl j]
  unfold setM
  split <;> rfl
/-- but for two objects all stands -/
def Per (f p : Addr) (H H' : Hp) : Prop := ∀ b o, H b = some o → b ≠ f → b ≠ p → H' b = some o
theorem Per.refl (f p : Addr) (H : Hp) : Per f p H H := fun _ _ h _ _ => h
theorem Per.of {f p : Addr} {H H' : Hp} (s : Same H H') : Per f p H H' := fun b o h _ _ => s b o h
theorem Per.trans {f p : Addr} {H H' H'' : Hp} (a : Per f p H H') (b : Per f p H' H'') : Per f p H H'' := fun c o h h1 h2 => b c o (a c o h h1 h2) h1 h2
theorem Per.f {f p : Addr} {H : Hp} (o : HO) : Per f p H (upd H f o) := fun b x h h1 _ => by rw [upd_ne h1]; exact h
theorem Per.p {f p : Addr} {H : Hp} (o : HO) : Per f p H (upd H p o) := fun b x h _ h1 => by rw [upd_ne h1]; exact h
theorem Per.same {f p : Addr} {H0 H H' : Hp} (a : Per f p H H') (s : Same H0 H) (hf : H0 f = none) (hp : H0 p = none) : Same H0 H' := fun b o h => a b o (s b o h) (ne_of_none h hf) (ne_of_none h hp)
theorem Per.lst {f p : Addr} {H H' : Hp} (a : Per f p H H') {kf kp : List (Key × V)} (hf : H f = some (.dK kf)) (hp : H p = some (.dK kp)) {b : Addr} {xs : List V} (h : H b = some (.lst xs)) : H' b = some (.lst xs) := a b _ h (lst_dK h hf) (lst_dK h hp)
theorem Per.tup {f p : Addr} {H H' : Hp} (a : Per f p H H') {kf kp : List (Key × V)} (hf : H f = some (.dK kf)) (hp : H p = some (.dK kp)) {b : Addr} {xs : List V} (h : H b = some (.tup xs)) : H' b = some (.tup xs) := a b _ h (fun e => by rw [e, hf] at h; cases h) (fun e => by rw [e, hp] at h; cases h)
section
variable {K : PySem.W.Frag} {C : Ad} {vs : List V} {H : Hp} {Q : VK} {E : XK}
def tPush (K : PySem.W.Frag) : TS := tIfS (tAnd (tTest (tChain qLe qLe (tUn qNeg (tC (V.int 300))) (tVar 6) (tC (V.int 300)))) (tOr (tB (tDNotIn (tVar 6) (tVar 2))) (tTest (tOp qGt (tDGet (tVar 2) (tVar 6)) (tOp qAdd (tVar 4) (tVar 7))))))
  (tSeq (tAsg (tOp qAdd (tVar 4) (tVar 7)) (gSub (tVar 2) (tVar 6) rSetD)) (tAsg (tOp (qCat K) (tDGet2 (tVar 3) (tOp qAdd (tVar 4) (tVar 7)) (tLst tNil)) (tLst (tCons (tVar 6) tNil))) (gSub (tVar 3) (tOp qAdd (tVar 4) (tVar 7)) rSetD))) tNext
theorem r_push {Dn : Ends} {CC : Int → Int} {D S c k : Int} {x : Int × Int} {F : FM} {W : WM} {A : Int → Option Addr} {ws : List (Key × V)} {T : List Int} {f p : Addr} (cD : 1 ≤ D ∧ D ≤ 50) (cS : 1 ≤ S ∧ S ≤ 50) (hstep : ∀ (k : Int) (x : Int × Int), x ∈ nbs D S k → CC x.1 ≤ CC k + x.2)
    (J : DJ CC D S F W (c + 1) (fun k v => v = c ∧ k ∈ T)) (c0 : 0 ≤ c) (hk : F k = some c) (hx : x ∈ nbs D S k) (fd : FD H f F) (wd : WD H p ws A W) (nfp : f ≠ p)
    (go : ∀ F' W' A' ws' H', DJ CC D S F' W' (c + 1) (fun k v => v = c ∧ k ∈ T) → LeF F F' → F' k = some c → Ok F' c x → FD H' f F' → WD H' p ws' A' W' → Per f p H H' → Dn.nx [some (.int D), some (.int S), some (.ref f), some (.ref p), some (.int c), some (.int k), some (.int x.1), some (.int x.2)] H') :
    tPush K Dn [some (.int D), some (.int S), some (.ref f), some (.ref p), some (.int c), some (.int k), some (.int x.1), some (.int x.2)] H := by
  have hm : 1 ≤ x.2 ∧ x.2 ≤ 50 := by
    simp only [nbs, List.mem_cons, List.not_mem_nil, or_false] at hx
    rcases hx with rfl | rfl | rfl
    · exact cD
    · exact cS
    · exact cS
  have stay : Ok F c x → Dn.nx [some (.int D), some (.int S), some (.ref f), some (.ref p), some (.int c), some (.int k), some (.int x.1), some (.int x.2)] H := fun h => go F W A ws H J (LeF.refl F) hk h fd wd (Per.refl f p H)
  unfold tPush
  walk_at "rd"
  obtain ⟨kvs, fk⟩ := id fd
  have push : inR x.1 → (∀ u, F x.1 = some u → c + x.2 < u) → gSub (tVar 2) (tVar 6) rSetD (V.int (c + x.2))
      [some (.int D), some (.int S), some (.ref f), some (.ref p), some (.int c), some (.int k), some (.int x.1), some (.int x.2)] H
      (tAsg (tOp (qCat K) (tDGet2 (tVar 3) (tOp qAdd (tVar 4) (tVar 7)) (tLst tNil)) (tLst (tCons (tVar 6) tNil))) (gSub (tVar 3) (tOp qAdd (tVar 4) (tVar 7)) rSetD) Dn) := by
    intro hr hu
    have cb := dj_bound J cS.1 cS.2 hk
    have J' := dj_push J c0 cb hk (hstep k x hx) hm hr hu
    have le : LeF F (setM F x.1 (some (c + x.2))) := LeF.set hu
    have hk' : setM F x.1 (some (c + x.2)) k = some c := by
      by_cases e : k = x.1
      · rw [← e] at hu
        have := hu c hk
        omega
      · rw [setM_ne _ _ e]; exact hk
    have ok' : Ok (setM F x.1 (some (c + x.2))) c x := fun _ => ⟨_, setM_same _ _ _, Int.le_refl _⟩
    obtain ⟨kv1, kv2, e1, dp, fd2⟩ := fd.put hr (c + x.2)
    have wd2 := wd.ne (kvs' := kv2) e1 nfp
    rw [r_gsub]
    walk_at "rd"
    refine ⟨f, _, rfl, dp, ?_⟩
    have pr1 : Per f p H (upd H f (.dK kv2)) := Per.f _
    generalize upd H f (.dK kv2) = H2 at fd2 wd2 pr1
    walk_at "rd"
    rw [r_dget2]
    walk_at "rd"
    refine ⟨p, rfl, wd2.1.isD, ?_⟩
    intro em nem
    generalize eem : upd H2 em _ = H3
    obtain ⟨s3, hem⟩ := new_of eem nem
    have wd3 := wd2.same s3
    refine ⟨_, wd3.1.get _, ?_⟩
    intro l2 nl2
    generalize el2 : upd H3 l2 _ = H4
    obtain ⟨s4, hl2⟩ := new_of el2 nl2
    have wd4 := wd3.same s4
    have fd4 : FD H4 f (setM F x.1 (some (c + x.2))) := let ⟨kvs, h⟩ := fd2; ⟨kvs, (h.same s3).same s4⟩
    have pr4 := (pr1.trans (Per.of s3)).trans (Per.of s4)
    have hw : ∃ b, (((A (c + x.2)).map V.ref).getD (.ref em)) = .ref b ∧ H4 b = some (.lst (((W (c + x.2)).getD []).map V.int)) ∧ ((W (c + x.2)).getD []).length ≤ 601 := by
      rcases wd4.2 (c + x.2) with ⟨h1, h2⟩ | ⟨l, a, h1, h2, h3⟩
      · exact ⟨em, by rw [h2]; rfl, by rw [h1]; exact s4 _ _ hem, by rw [h1]; simp⟩
      · refine ⟨a, by rw [h2]; rfl, by rw [h1]; exact h3, ?_⟩
        rw [h1]
        obtain ⟨_, _, nd, hr⟩ := J.w _ _ h1
        exact nodup_span nd fun y hy => (hr y hy).1
    obtain ⟨b, eb, hb, lb⟩ := hw
    refine ⟨b, l2, _, _, eb, rfl, sq hb, sq hl2, by rw [List.length_map, sizeLine_is]; simp; omega, ?_⟩
    intro r nr
    generalize er : upd H4 r _ = H5
    obtain ⟨s5, hr5⟩ := new_of er nr
    rw [r_gsub]
    walk_at "rd"
    have wd5 := wd4.same s5
    obtain ⟨dp5, wd6⟩ := wd5.put (c := c + x.2) (r := r) (l := (W (c + x.2)).getD [] ++ [x.1]) ⟨by omega, by omega⟩ (by rw [hr5, List.map_append]; rfl)
    refine ⟨p, _, rfl, dp5, ?_⟩
    obtain ⟨kv5, fk5⟩ := fd4
    have fk5 := fk5.same s5
    exact go _ _ _ _ _ J' le hk' ok' ⟨kv5, fk5.ne (Ne.symm nfp) _⟩ wd6 ((pr4.trans (Per.of s5)).trans (Per.p _))
  by_cases h1 : -300 ≤ x.1
  · rw [if_pos h1]
    by_cases h2 : x.1 ≤ 300
    · rw [if_pos h2, r_dnotin]
      walk_at "rd"
      refine ⟨f, _, rfl, fk.get x.1, ?_⟩
      cases eF : F x.1 with
      | none =>
        rw [if_pos (show (!(Option.map V.int none).isSome) = true from rfl)]
        exact push ⟨h1, h2⟩ fun u hu => by rw [eF] at hu; cases hu
      | some u =>
        rw [if_neg (by simp), r_dget]
        walk_at "rd"
        refine ⟨f, .int u, rfl, by have := fk.get x.1; rw [eF] at this; exact this, ?_⟩
        walk_at "rd"
        by_cases h3 : c + x.2 < u
        · rw [if_pos h3]
          exact push ⟨h1, h2⟩ fun u' hu => by rw [eF] at hu; cases hu; exact h3
        · rw [if_neg h3]
          exact stay fun _ => ⟨u, eF, by omega⟩
    · rw [if_neg h2]
      exact stay fun hr => absurd hr.2 h2
  · rw [if_neg h1]
    exact stay fun hr => absurd hr.1 h1
def tNum (K : PySem.W.Frag) : TS := tIfS (tTest (tOp rEq (tDGet (tVar 2) (tVar 5)) (tVar 4)))
  (tFor (iList K (tLst (tCons (tTup (tCons (tOp qMul (tC (V.int 2)) (tVar 5)) (tCons (tVar 0) tNil))) (tCons (tTup (tCons (tOp qAdd (tVar 5) (tC (V.int 1))) (tCons (tVar 1) tNil))) (tCons (tTup (tCons (tOp qSub (tVar 5) (tC (V.int 1))) (tCons (tVar 1) tNil))) tNil)))))
    (gTup K 2 (gCons (gName 6) (gCons (gName 7) gNil))) (tPush K)) tNext
theorem r_num {Dn : Ends} {CC : Int → Int} {D S c k v : Int} {F : FM} {W : WM} {A : Int → Option Addr} {ws : List (Key × V)} {L : List Int} {i : Nat} {f p : Addr} {y6 y7 : Option V} (cD : 1 ≤ D ∧ D ≤ 50) (cS : 1 ≤ S ∧ S ≤ 50) (hstep : ∀ (k : Int) (x : Int × Int), x ∈ nbs D S k → CC x.1 ≤ CC k + x.2)
    (J : DJ CC D S F W (c + 1) (fun k v => v = c ∧ k ∈ L.drop i)) (c0 : 0 ≤ c) (hi : L[i]? = some k) (hv : F k = some v) (fd : FD H f F) (wd : WD H p ws A W) (nfp : f ≠ p)
    (go : ∀ F' W' A' ws' H' y6 y7, DJ CC D S F' W' (c + 1) (fun k v => v = c ∧ k ∈ L.drop (i + 1)) → LeF F F' → FD H' f F' → WD H' p ws' A' W' → Per f p H H' → Dn.nx [some (.int D), some (.int S), some (.ref f), some (.ref p), some (.int c), some (.int k), y6, y7] H') :
    tNum K Dn [some (.int D), some (.int S), some (.ref f), some (.ref p), some (.int c), some (.int k), y6, y7] H := by
  obtain ⟨kvs, fk⟩ := id fd
  unfold tNum
  walk_at "rd"
  rw [r_dget]
  walk_at "rd"
  refine ⟨f, .int v, rfl, by have := fk.get k; rw [hv] at this; exact this, ?_⟩
  walk_at "rd"
  by_cases hc : v = c
  · rw [if_pos hc]
    subst hc
    have hr := (J.f k v hv).1
    unfold inR at hr
    rw [r_forL]
    walk_at "rd"
    intro t1 n1
    generalize e1 : upd H t1 _ = H1
    obtain ⟨s1, h1⟩ := new_of e1 n1
    intro t2 n2
    generalize e2 : upd H1 t2 _ = H2
    obtain ⟨s2, h2⟩ := new_of e2 n2
    intro t3 n3
    generalize e3 : upd H2 t3 _ = H3
    obtain ⟨s3, h3⟩ := new_of e3 n3
    intro t4 n4
    generalize e4 : upd H3 t4 _ = H4
    obtain ⟨s4, h4⟩ := new_of e4 n4
    have k4 := ((s1.trans s2).trans s3).trans s4
    have hx : ∀ (j : Nat) (x : V), [V.ref t1, V.ref t2, V.ref t3][j]? = some x → ∃ t y, x = .ref t ∧ (nbs D S k)[j]? = some y ∧ H4 t = some (.tup [.int y.1, .int y.2]) := by
      intro j x hj
      match j, hj with
      | 0, hj => cases hj; exact ⟨t1, _, rfl, rfl, s4 _ _ (s3 _ _ (s2 _ _ h1))⟩
      | 1, hj => cases hj; exact ⟨t2, _, rfl, rfl, s4 _ _ (s3 _ _ h2)⟩
      | 2, hj => cases hj; exact ⟨t3, _, rfl, rfl, s4 _ _ h3⟩
      | j + 3, hj => simp at hj
    have fk4 := fk.same k4
    have wd4 := wd.same k4
    refine ⟨t4, rfl, l_list (xs := [V.ref t1, V.ref t2, V.ref t3]) (fun j σ H' => ∃ F' W' A' ws' y6 y7, σ = [some (.int D), some (.int S), some (.ref f), some (.ref p), some (.int v), some (.int k), y6, y7] ∧ DJ CC D S F' W' (v + 1) (fun k x => x = v ∧ k ∈ L.drop i) ∧ LeF F F' ∧ F' k = some v ∧ (∀ x ∈ (nbs D S k).take j, Ok F' v x) ∧ FD H' f F' ∧ WD H' p ws' A' W' ∧ Per f p H4 H')
      ⟨F, W, A, ws, y6, y7, rfl, J, LeF.refl F, hv, by simp, ⟨kvs, fk4⟩, wd4, Per.refl f p H4⟩ (sq h4) (fun j σ H' ⟨_, _, _, _, _, _, _, _, _, _, _, _, _, pr⟩ => sq (pr.lst fk4.at_ wd4.1.at_ h4)) (fun j x σ H' hj hlt ⟨F', W', A', ws', z6, z7, e, J', le, hk', ok', fd', wd', pr⟩ => ?_) (fun σ H' ⟨F', W', A', ws', z6, z7, e, J', le, hk', ok', fd', wd', pr⟩ => ?_)⟩
    · subst e
      obtain ⟨t, y, rfl, hy, ht⟩ := hx j x hj
      have hty := pr.tup fk4.at_ wd4.1.at_ ht
      walk_at "rd"
      refine ⟨_, sqt hty, rfl, ?_⟩
      walk_at "rd"
      refine r_push cD cS hstep J' c0 hk' (List.mem_of_getElem? hy) fd' wd' nfp fun F2 W2 A2 ws2 H5 J2 le2 hk2 ok2 fd2 wd2 pr2 => ?_
      refine ⟨F2, W2, A2, ws2, _, _, rfl, J2, le.trans le2, hk2, fun x hx => ?_, fd2, wd2, pr.trans pr2⟩
      rw [take_snoc hy] at hx
      rcases List.mem_append.mp hx with q | q
      · exact (ok' x q).le le2
      · obtain rfl : x = y := by simpa using q
        exact ok2
    · subst e
      refine go F' W' A' ws' H' z6 z7 (dj_skip J' hi hk' fun _ x hx => ok' x ?_) le fd' wd' ((Per.of k4).trans pr)
      have : (nbs D S k).take ([V.ref t1, V.ref t2, V.ref t3] : List V).length = nbs D S k := rfl
      rw [this]; exact hx
  · rw [if_neg hc]
    exact go F W A ws H y6 y7 (dj_skip J hi hv fun e => absurd e hc) (LeF.refl F) fd wd (Per.refl f p H)
/-- the loop over what waited at a cost -/
theorem l_num {Dn : Ends} {CC : Int → Int} {D S c : Int} {F : FM} {W : WM} {A : Int → Option Addr} {ws : List (Key × V)} {L : List Int} {a f p : Addr} {y5 y6 y7 : Option V} (cD : 1 ≤ D ∧ D ≤ 50) (cS : 1 ≤ S ∧ S ≤ 50) (hstep : ∀ (k : Int) (x : Int × Int), x ∈ nbs D S k → CC x.1 ≤ CC k + x.2)
    (J : DJ CC D S F W (c + 1) (fun k v => v = c ∧ k ∈ L.drop 0)) (hL : ∀ k ∈ L, ∃ v, F k = some v) (c0 : 0 ≤ c) (ha : H a = some (.lst (L.map V.int))) (fd : FD H f F) (wd : WD H p ws A W) (nfp : f ≠ p)
    (go : ∀ F' W' A' ws' H' y5 y6 y7, DJ CC D S F' W' (c + 1) (fun _ _ => False) → FD H' f F' → WD H' p ws' A' W' → Per f p H H' → Dn.nx [some (.int D), some (.int S), some (.ref f), some (.ref p), some (.int c), y5, y6, y7] H') :
    loopL K (gName 5) (tNum K) Dn a [some (.int D), some (.int S), some (.ref f), some (.ref p), some (.int c), y5, y6, y7] H := by
  obtain ⟨kvs, fk⟩ := id fd
  refine l_list (xs := L.map V.int) (fun i σ H' => ∃ F' W' A' ws' y5 y6 y7, σ = [some (.int D), some (.int S), some (.ref f), some (.ref p), some (.int c), y5, y6, y7] ∧ DJ CC D S F' W' (c + 1) (fun k v => v = c ∧ k ∈ L.drop i) ∧ LeF F F' ∧ FD H' f F' ∧ WD H' p ws' A' W' ∧ Per f p H H')
    ⟨F, W, A, ws, y5, y6, y7, rfl, J, LeF.refl F, fd, wd, Per.refl f p H⟩ (sq ha) (fun i σ H' ⟨_, _, _, _, _, _, _, _, _, _, _, _, pr⟩ => sq (pr.lst fk.at_ wd.1.at_ ha)) (fun i x σ H' hi hlt ⟨F', W', A', ws', z5, z6, z7, e, J', le, fd', wd', pr⟩ => ?_) (fun σ H' ⟨F', W', A', ws', z5, z6, z7, e, J', le, fd', wd', pr⟩ => ?_)
  · subst e
    obtain ⟨k, hk, rfl⟩ := mapE hi
    obtain ⟨v, hv⟩ := hL k (List.mem_of_getElem? hk)
    obtain ⟨v', hv', _⟩ := le k v hv
    walk_at "rd"
    refine r_num cD cS hstep J' c0 hk hv' fd' wd' nfp fun F2 W2 A2 ws2 H5 u6 u7 J2 le2 fd2 wd2 pr2 => ?_
    exact ⟨F2, W2, A2, ws2, _, _, _, rfl, J2, le.trans le2, fd2, wd2, pr.trans pr2⟩
  · subst e
    rw [List.length_map] at J'
    exact go F' W' A' ws' H' _ _ _ (dj_end J') fd' wd' pr
def sp__law_costs (K : PySem.W.Frag) (C : Ad) : Sp := fun vs H Q _ => ∃ D S : Int, vs = [.int D, .int S] ∧ CostOk D ∧ CostOk S ∧ ∀ H' f, Same H H' → (∃ kvs, H' f = some (.dK kvs) ∧ ∀ k : Int, k.natAbs ≤ 298 → valV kvs (.inl k) = some (.int (cst D S k.natAbs))) → Q (.ref f) H'
/-- the reading of _law_costs; slots: 0 _law_double 1 _law_step 2 _law_found 3 _law_waiting 4 _law_cost 5 _law_number 6 _law_later 7 _law_more -/
def t__law_costs (K : PySem.W.Frag) (C : Ad) (E : XK) : TS :=
      (tSeq (tAsg (tDisp (((tC (.int 0)), (tC (.int 0))) :: [])) (gName 2))
      (tSeq (tAsg (tDisp (((tC (.int 0)), (tLst (tCons (tC (.int 0)) tNil))) :: [])) (gName 3))
      (tSeq (tAsg (tC (.int 0)) (gName 4))
      (tSeq (tWhile (tTest (tOp (qNeDK K) (tVar 3) tDNewK)) (tSeq (tFor (iList K (tDPop2 (tVar 3) (tVar 4) (tLst tNil))) (gName 5) (tIfS (tTest (tOp rEq (tDGet (tVar 2) (tVar 5)) (tVar 4))) (tFor (iList K (tLst (tCons (tTup (tCons (tOp qMul (tC (.int 2)) (tVar 5)) (tCons (tVar 0) tNil))) (tCons (tTup (tCons (tOp qAdd (tVar 5) (tC (.int 1))) (tCons (tVar 1) tNil))) (tCons (tTup (tCons (tOp qSub (tVar 5) (tC (.int 1))) (tCons (tVar 1) tNil))) tNil))))) (gTup K 2 (gCons (gName 6) (gCons (gName 7) gNil))) (tIfS (tAnd (tTest (tChain qLe qLe (tUn qNeg (tC (.int 300))) (tVar 6) (tC (.int 300)))) (tOr (tB (tDNotIn (tVar 6) (tVar 2))) (tTest (tOp qGt (tDGet (tVar 2) (tVar 6)) (tOp qAdd (tVar 4) (tVar 7)))))) (tSeq (tAsg (tOp qAdd (tVar 4) (tVar 7)) (gSub (tVar 2) (tVar 6) rSetD))
      (tAsg (tOp (qCat K) (tDGet2 (tVar 3) (tOp qAdd (tVar 4) (tVar 7)) (tLst tNil)) (tLst (tCons (tVar 6) tNil))) (gSub (tVar 3) (tOp qAdd (tVar 4) (tVar 7)) rSetD))) tNext)) tNext))
      (tAsg (tOp qAdd (tVar 4) (tC (.int 1))) (gName 4))))
      (tRet (tVar 2))))))
theorem r__law_costs (h : sp__law_costs K C vs H Q E) : t__law_costs K C E { nx := fun _ H' => Q .non H', rt := Q } (st 8 vs) H := by
  obtain ⟨D, S, rfl, cD, cS, q⟩ := h
  unfold t__law_costs
  unfold CostOk at cD cS
  have hC0 : (fun k : Int => cst D S k.natAbs) 0 = 0 := cst_zero D S
  have hstep : ∀ (k : Int) (x : Int × Int), x ∈ nbs D S k → cst D S x.1.natAbs ≤ cst D S k.natAbs + x.2 := fun k x hx => by
    obtain ⟨_, r2, _, r4, r5, _⟩ := cst_right D S cD cS k
    simp only [nbs, List.mem_cons, List.not_mem_nil, or_false] at hx
    rcases hx with rfl | rfl | rfl
    · exact r5
    · exact r2
    · exact r4
  generalize hCC : (fun k : Int => cst D S k.natAbs) = CC at hC0
  have hstep' : ∀ (k : Int) (x : Int × Int), x ∈ nbs D S k → CC x.1 ≤ CC k + x.2 := fun k x hx => by rw [← hCC]; exact hstep k x hx
  walk_at "st"
  walk_at "rd"
  rw [r_disp1]
  intro f nf
  walk_at "rd"
  refine ⟨upd_same, [(Sum.inl 0, .int 0)], rfl, by decide, ?_⟩
  generalize ef : upd (upd H f _) f _ = H1
  have s1 : Same H H1 := by rw [← ef]; exact (Same.new nf).mut nf
  have hf1 : H1 f = some (.dK [(Sum.inl 0, .int 0)]) := by rw [← ef, upd_same]; rfl
  clear ef
  walk_at "rd"
  rw [r_disp1]
  intro p np
  walk_at "rd"
  intro l0 nl0
  have np2 : p ≠ l0 := fun e => by rw [e, upd_same] at nl0; cases nl0
  refine ⟨by rw [upd_ne np2, upd_same], [(Sum.inl 0, .ref l0)], rfl, by simp, ?_⟩
  generalize ep : upd (upd (upd H1 p _) l0 _) p _ = H2
  have s2 : Same H1 H2 := by rw [← ep]; exact ((Same.new np).add nl0).mut np
  have hp2 : H2 p = some (.dK [(Sum.inl 0, .ref l0)]) := by rw [← ep, upd_same]; rfl
  have hl2 : H2 l0 = some (.lst ([0].map V.int)) := by rw [← ep, upd_ne (Ne.symm np2), upd_same]; rfl
  have hf2 := s2 _ _ hf1
  clear ep nl0
  have nfp : f ≠ p := ne_of_none hf1 np
  have np0 : H p = none := s1.free np
  clear np
  walk_at "rd"
  have fd0 : FD H2 f (setM (fun _ => none) 0 (some 0)) := ⟨_, hf2, ⟨[0], rfl, by simp, fun k hk => by
      obtain rfl : k = 0 := by simpa using hk
      exact ⟨by decide, by decide⟩⟩, fun k => by
    unfold setM
    by_cases e : k = 0
    · subst e; rfl
    · rw [if_neg e, valV_neg (fun q => e (by injection q with q; exact q.symm))]; rfl⟩
  have wd0 : WD H2 p [(Sum.inl 0, .ref l0)] (setM (fun _ => none) 0 (some l0)) (setM (fun _ => none) 0 (some [0])) := by
    refine ⟨⟨hp2, ⟨[0], rfl, by simp, fun k hk => by
      obtain rfl : k = 0 := by simpa using hk
      exact ⟨by decide, by decide⟩⟩, fun k => ?_⟩, fun w => ?_⟩
    · unfold setM
      by_cases e : k = 0
      · subst e; rfl
      · rw [if_neg e, valV_neg (fun q => e (by injection q with q; exact q.symm))]; rfl
    · by_cases e : w = 0
      · subst e; exact .inr ⟨[0], l0, setM_same _ _ _, setM_same _ _ _, hl2⟩
      · exact .inl ⟨setM_ne _ _ e, setM_ne _ _ e⟩
  have dj0 := dj_start (D := D) (S := S) hC0
  have k2 := s1.trans s2
  clear hf1 hp2 hl2 hf2 s1 s2
  refine f_while (fun m σ H' => ∃ (c : Int) (F : FM) (W : WM) (A : Int → Option Addr) (ws : List (Key × V)) (y5 y6 y7 : Option V), σ = [some (.int D), some (.int S), some (.ref f), some (.ref p), some (.int c), y5, y6, y7] ∧ 0 ≤ c ∧ DJ CC D S F W c (fun _ _ => False) ∧ FD H' f F ∧ WD H' p ws A W ∧ Same H H' ∧ m = (15051 - c).toNat) 15051 ?_ ⟨0, _, _, _, _, none, none, none, rfl, by decide, dj0, fd0, wd0, k2, by decide⟩ ?_
  · intro σ H' Q Q' k ⟨x, hx, h⟩
    exact ⟨x, hx, fun p np => let ⟨a, b, ks, e1, e2, e3, e4, z, e5, q⟩ := h p np; ⟨a, b, ks, e1, e2, e3, e4, z, e5, k _ _ q⟩⟩
  rintro m σ H3 ⟨c, F, W, A, ws, y5, y6, y7, rfl, c0, J, fd, wd, k3, rfl⟩
  walk_at "rd"
  rw [r_dnewK]
  intro e ne
  generalize ee : upd H3 e _ = H4
  obtain ⟨s4, he⟩ := new_of ee ne
  refine ⟨p, e, ws, rfl, rfl, s4 _ _ wd.1.at_, he, _, rfl, ?_⟩
  by_cases hws : ws = []
  · subst hws
    rw [if_neg (by simp)]
    walk_at "rd"
    obtain ⟨kvs, hk⟩ := fd
    refine q H4 f (k3.trans s4) ⟨kvs, s4 _ _ hk.at_, fun k hkk => ?_⟩
    rw [hk.vl k]
    subst hCC
    rw [dj_all cD.1 cS.1 J (fun w => ?_) k hkk]
    · rfl
    · rcases wd.2 w with ⟨h1, _⟩ | ⟨l, a, _, h2, _⟩
      · exact h1
      · have := wd.1.vl w
        rw [h2] at this; cases this
  rw [if_pos (by cases ws with | nil => exact absurd rfl hws | cons => rfl)]
  have cle : c ≤ 15050 := by
    cases ws with
    | nil => exact absurd rfl hws
    | cons x xs =>
      obtain ⟨ks, e1, _, _⟩ := wd.1.ks
      cases ks with
      | nil => cases e1
      | cons w ks =>
        obtain ⟨v, hv⟩ := mem_valV (kvs := x :: xs) (k := (Sum.inl w : Key)) (by rw [e1]; simp)
        rcases wd.2 w with ⟨_, h1⟩ | ⟨l, a, h1, _, _⟩
        · have := wd.1.vl w
          rw [hv, h1] at this; cases this
        · have := J.w w l h1
          omega
  have fd4 : FD H4 f F := let ⟨kvs, h⟩ := fd; ⟨kvs, h.same s4⟩
  have wd4 := wd.same s4
  have k4 := k3.trans s4
  clear fd wd k3 hws ee he s4 ne
  walk_at "rd"
  rw [r_forL, r_dpop2]
  walk_at "rd"
  refine ⟨p, rfl, wd4.1.isD, ?_⟩
  intro em nem
  generalize eem : upd H4 em _ = H5
  obtain ⟨s5, hem⟩ := new_of eem nem
  have wd5 := wd4.same s5
  have fd5 : FD H5 f F := let ⟨kvs, h⟩ := fd4; ⟨kvs, h.same s5⟩
  have k5 := k4.trans s5
  clear fd4 wd4 k4 eem s5 nem
  refine ⟨ws, Sum.inl c, wd5.1.at_, rfl, fun v hv => ?_, fun hn => ?_⟩
  · have hv2 := wd5.1.vl c
    rw [hv] at hv2
    rcases wd5.2 c with ⟨_, h2⟩ | ⟨L, a, h1, h2, h3⟩
    · rw [h2] at hv2; cases hv2
    rw [h2] at hv2
    obtain rfl : v = .ref a := Option.some.inj hv2
    obtain ⟨J1, hL⟩ := dj_pop J h1
    have wd6 := wd5.drop c
    obtain ⟨kvs, fk⟩ := fd5
    have k6 : Same H (upd H5 p (.dK (dropK ws (Sum.inl c)))) := k5.mut np0
    have ha6 : (upd H5 p (.dK (dropK ws (Sum.inl c)))) a = some (.lst (L.map V.int)) := by rw [upd_ne (lst_dK h3 wd5.1.at_)]; exact h3
    refine ⟨a, rfl, l_num cD cS hstep' J1 (fun k hk => let ⟨_, v, h, _⟩ := hL k hk; ⟨v, h⟩) c0 ha6 ⟨kvs, fk.ne (Ne.symm nfp) _⟩ wd6 nfp fun F' W' A' ws' H' z5 z6 z7 J2 fd2 wd2 pr => ?_⟩
    walk_at "rd"
    exact ⟨_, by omega, c + 1, F', W', A', ws', z5, z6, z7, rfl, by omega, J2, fd2, wd2, pr.same k6 nf np0, rfl⟩
  · rw [wd5.1.vl c] at hn
    rcases wd5.2 c with ⟨h1, h2⟩ | ⟨L, a, h1, h2, h3⟩
    · refine ⟨em, rfl, l_num (L := []) cD cS hstep' (dj_popN J h1) (fun k hk => by simp at hk) c0 hem fd5 wd5 nfp fun F' W' A' ws' H' z5 z6 z7 J2 fd2 wd2 pr => ?_⟩
      walk_at "rd"
      exact ⟨_, by omega, c + 1, F', W', A', ws', z5, z6, z7, rfl, by omega, J2, fd2, wd2, pr.same k5 nf np0, rfl⟩
    · rw [h2] at hn; cases hn
def sp__law_told_k11 (K : PySem.W.Frag) (C : Ad) : Sp := fun vs H Q _ => ∃ x y z nx ny nz, vs = [x, y, z] ∧ Th K H x nx ∧ Th K H y ny ∧ Th K H z nz ∧ ((wh x = false ∧ newT H [.str "no number"] Q) ∨ (wh x = true ∧ (cstB y = false ∨ cstB z = false) ∧ newT H [.str "no cost"] Q))
/-- the reading of _law_told; slots: 0 _law_number 1 _law_double 2 _law_step 3 _law_found -/
def t__law_told_k11 (K : PySem.W.Frag) (C : Ad) (E : XK) : TS :=
      (tSeq (tAsg (tTup (tCons (tC (.str "other")) tNil)) (gName 3))
      (tSeq (fun D σ H => (fun W => (tAsg (tCallS (sp_least K C) (WE W) (tCons (tVar 0) (tCons (tVar 1) (tCons (tVar 2) tNil)))) (gName 3))) (wMany K (fun cls d _ H => E cls d H) D ((Value.ref C.NoRow, fun _ _ _ => (tAsg (tTup (tCons (tC (.str "no row")) tNil)) (gName 3))) :: ((Value.ref C.NoText, fun _ _ _ => (tAsg (tTup (tCons (tC (.str "no text")) tNil)) (gName 3))) :: ((Value.ref C.NoDeeds, fun _ _ _ => (tAsg (tTup (tCons (tC (.str "no deeds")) tNil)) (gName 3))) :: ((Value.ref C.NoNumber, fun _ _ _ => (tAsg (tTup (tCons (tC (.str "no number")) tNil)) (gName 3))) :: ((Value.ref C.NoCost, fun _ _ _ => (tAsg (tTup (tCons (tC (.str "no cost")) tNil)) (gName 3))) :: ((Value.ref C.LeanError, fun _ _ _ => (tAsg (tTup (tCons (tC (.str "lean")) tNil)) (gName 3))) :: []))))))) D σ H)
      (tRet (tVar 3))))
theorem r__law_told_k11 (p1 : PySem.W.exmOne K (.ref C.NoNumber) (.ref C.NoRow) = some false) (p2 : PySem.W.exmOne K (.ref C.NoNumber) (.ref C.NoText) = some false) (p3 : PySem.W.exmOne K (.ref C.NoNumber) (.ref C.NoDeeds) = some false) (p4 : PySem.W.exmOne K (.ref C.NoNumber) (.ref C.NoNumber) = some true)
    (c1 : PySem.W.exmOne K (.ref C.NoCost) (.ref C.NoRow) = some false) (c2 : PySem.W.exmOne K (.ref C.NoCost) (.ref C.NoText) = some false) (c3 : PySem.W.exmOne K (.ref C.NoCost) (.ref C.NoDeeds) = some false) (c4 : PySem.W.exmOne K (.ref C.NoCost) (.ref C.NoNumber) = some false) (c5 : PySem.W.exmOne K (.ref C.NoCost) (.ref C.NoCost) = some true)
    (h : sp__law_told_k11 K C vs H Q E) : t__law_told_k11 K C E { nx := fun _ H' => Q .non H', rt := Q } (st 4 vs) H := by
  obtain ⟨x, y, z, nx, ny, nz, rfl, hx, hy, hz, h⟩ := h
  unfold t__law_told_k11
  walk_at "st"
  walk_at "rd"
  intro o no
  generalize eo : upd H o _ = H1
  obtain ⟨s1, ho⟩ := new_of eo no
  rcases h with ⟨hw, q⟩ | ⟨hw, hc, q⟩
  · refine ⟨x, y, z, nx, ny, nz, rfl, hx.same s1, hy.same s1, hz.same s1, .inl ⟨hw, ?_⟩⟩
    simp only [WE, wMany]
    refine ⟨false, p1, (fun e => by cases e), fun _ => ⟨false, p2, (fun e => by cases e), fun _ => ⟨false, p3, (fun e => by cases e), fun _ => ⟨true, p4, fun _ a na => ?_, fun e => by cases e⟩⟩⟩⟩
    walk_at "rd"
    intro p np
    generalize ep : upd H1 p _ = H3
    obtain ⟨s3, hp⟩ := new_of ep np
    exact q H3 p (s1.trans s3) (Same.none s1 np) hp
  · refine ⟨x, y, z, nx, ny, nz, rfl, hx.same s1, hy.same s1, hz.same s1, .inr (.inl ⟨hw, hc, ?_⟩)⟩
    simp only [WE, wMany]
    refine ⟨false, c1, (fun e => by cases e), fun _ => ⟨false, c2, (fun e => by cases e), fun _ => ⟨false, c3, (fun e => by cases e), fun _ => ⟨false, c4, (fun e => by cases e), fun _ => ⟨true, c5, fun _ a na => ?_, fun e => by cases e⟩⟩⟩⟩⟩
    walk_at "rd"
    intro p np
    generalize ep : upd H1 p _ = H3
    obtain ⟨s3, hp⟩ := new_of ep np
    exact q H3 p (s1.trans s3) (Same.none s1 np) hp
theorem rg_ints (a b : Int) : rgV a b = ((List.range (b - a).toNat).map fun (i : Nat) => a + (i : Int)).map V.int := by
  unfold rgV
  rw [List.map_map]; rfl
/-- the reading of law; slots: 0 _law_script 1 _law_cell 2 _law_double 3 _law_step 4 _law_costs_here 5 _law_some 6 _law_number 7 _law_cost 8 _law_deeds 9 _law_odd 10 _law_wrong 11 _law_k 12 _law_one -/
def t_law_k11 (K : PySem.W.Frag) (C : Ad) (E : XK) : TS :=
      (tSeq (tAsg (tF (sp__law_mixed K C) E (tCons (tF (sp__law_cell_at K C) E (tCons (tVar 0) (tCons (tC (.int 0)) tNil))) (tCons (tC (.int 1)) tNil))) (gName 1))
      (tSeq (tAsg (tOp (rIxL K) (tLst (tCons (tOp qAdd (tC (.int 1)) (tOp qMod (tVar 1) (tC (.int 50)))) (tCons (tC (.int 1)) (tCons (tOp qAdd (tC (.int 1)) (tOp qMod (tVar 1) (tC (.int 9)))) (tCons (tC (.int 50)) tNil))))) (tOp qMod (tOp qDiv (tVar 1) (tC (.int 50))) (tC (.int 4)))) (gName 2))
      (tSeq (tAsg (tOp (rIxL K) (tLst (tCons (tOp qAdd (tC (.int 1)) (tOp qMod (tOp qDiv (tVar 1) (tC (.int 200))) (tC (.int 50)))) (tCons (tC (.int 1)) (tCons (tOp qAdd (tC (.int 1)) (tOp qMod (tOp qDiv (tVar 1) (tC (.int 200))) (tC (.int 9)))) (tCons (tC (.int 1)) tNil))))) (tOp qMod (tOp qDiv (tVar 1) (tC (.int 10000))) (tC (.int 4)))) (gName 3))
      (tSeq (tAsg (tF (sp__law_costs K C) E (tCons (tVar 2) (tCons (tVar 3) tNil))) (gName 4))
      (tSeq (tAsg (tOp (qCat K) (tLstRg (tRg2 (tUn qNeg (tC (.int 30))) (tC (.int 31)))) (tLc (iEnum K (tCons (tVar 0) tNil)) (gTup K 2 (gCons (gName 11) (gCons (gName 12) gNil))) tYes (tOp qSub (tOp qMod (tF (sp__law_mixed K C) E0 (tCons (tVar 12) (tCons (tOp qMod (tVar 11) (tC (.int 64))) tNil))) (tC (.int 261))) (tC (.int 130))) [11, 12])) (gName 5))
      (tSeq (tFor (iList K (tVar 5)) (gName 6) (tSeq (tAsg (tF (sp_least K C) E (tCons (tVar 6) (tCons (tVar 2) (tCons (tVar 3) tNil)))) (gTup K 2 (gCons (gName 7) (gCons (gName 8) gNil))))
      (tIfS (tOr (tTest (tOp rNe (tVar 7) (tDGet (tVar 4) (tVar 6)))) (tOr (tTest (tOp rNe (tF (sp_led K C) E (tCons (tVar 8) tNil)) (tVar 6))) (tTest (tOp rNe (tF (sp_cost_of K C) E (tCons (tVar 8) (tCons (tVar 2) (tCons (tVar 3) tNil)))) (tVar 7))))) (tRet (tC (.bl false))) tNext)))
      (tSeq (tAsg (tOp (rIxL K) (tLst (tCons (tC .non) (tCons (tC (.bl true)) (tCons (tC (.str "5")) (tCons (tLst (tCons (tC (.int 5)) tNil)) (tCons (tTup (tCons (tC (.int 1)) tNil)) (tCons tDNewK (tCons (tC (.bl false)) (tCons (tC (.str "d")) tNil))))))))) (tOp qMod (tOp qDiv (tVar 1) (tC (.int 77))) (tC (.int 8)))) (gName 9))
      (tSeq (tAsg (tOp (rIxL K) (tLst (tCons (tC (.int 0)) (tCons (tC (.int 51)) (tCons (tUn qNeg (tC (.int 1))) (tCons (tC (.bl true)) (tCons (tC .non) (tCons (tC (.str "5")) (tCons (tLst (tCons (tC (.int 5)) tNil)) (tCons (tOp qPow (tC (.int 10)) (tC (.int 40))) tNil))))))))) (tOp qMod (tOp qDiv (tVar 1) (tC (.int 7))) (tC (.int 8)))) (gName 10))
      (tSeq (tIfS (tOr (tTest (tOp (rNeD K) (tF (sp__law_told_k11 K C) E (tCons (tVar 9) (tCons (tVar 10) (tCons (tVar 10) tNil)))) (tTup (tCons (tC (.str "no number")) tNil)))) (tTest (tOp (rNeD K) (tF (sp__law_told_k11 K C) E (tCons (tVar 9) (tCons (tVar 2) (tCons (tVar 3) tNil)))) (tTup (tCons (tC (.str "no number")) tNil))))) (tRet (tC (.bl false))) tNext)
      (tRet (tAndV (tOp (rEqD K) (tF (sp__law_told_k11 K C) E (tCons (tC (.int 5)) (tCons (tVar 10) (tCons (tVar 3) tNil)))) (tTup (tCons (tC (.str "no cost")) tNil))) (tOp (rEqD K) (tF (sp__law_told_k11 K C) E (tCons (tUn qNeg (tC (.int 7))) (tCons (tVar 2) (tCons (tVar 10) tNil)))) (tTup (tCons (tC (.str "no cost")) tNil))))))))))))))
theorem r_law_k11 (h : spLaw K vs H Q E) : t_law_k11 K C E { nx := fun _ H' => Q .non H', rt := Q } (st 13 vs) H := by
  obtain ⟨a, ns, rfl, hx, hl, hb, q⟩ := h
  unfold t_law_k11
  walk_at "st"
  walk_at "rd"
  refine ⟨a, ns, 0, rfl, hx, by decide, ?_⟩
  refine ⟨_, 1, rfl, by decide, by decide, ?_⟩
  have cnn := mixed_nn (cellAt ns 0) 1
  generalize mixed (cellAt ns 0) 1 = c at cnn
  walk_at "rd"
  have pick4 : ∀ (w x y z : Int) (i : Int), 0 ≤ i ∧ i < 4 → CostOk w → CostOk x → CostOk y → CostOk z → ∃ v : Int, atI [V.int w, V.int x, V.int y, V.int z] i = some (.int v) ∧ CostOk v := by
    intro w x y z i hi h1 h2 h3 h4
    rcases (by omega : i = 0 ∨ i = 1 ∨ i = 2 ∨ i = 3) with e | e | e | e <;> subst e
    · exact ⟨w, rfl, h1⟩
    · exact ⟨x, rfl, h2⟩
    · exact ⟨y, rfl, h3⟩
    · exact ⟨z, rfl, h4⟩
  intro l1 n1
  generalize e1 : upd H l1 _ = H1
  obtain ⟨s1, h1⟩ := new_of e1 n1
  obtain ⟨D, hD, cD⟩ := pick4 (1 + c % 50) 1 (1 + c % 9) 50 (c / 50 % 4) (by omega) (by unfold CostOk; omega) (by unfold CostOk; omega) (by unfold CostOk; omega) (by unfold CostOk; omega)
  refine ⟨l1, _, _, _, rfl, rfl, sq h1, hD, ?_⟩
  intro l2 n2
  generalize e2 : upd H1 l2 _ = H2
  obtain ⟨s2, h2⟩ := new_of e2 n2
  obtain ⟨S, hS, cS⟩ := pick4 (1 + c / 200 % 50) 1 (1 + c / 200 % 9) 1 (c / 10000 % 4) (by omega) (by unfold CostOk; omega) (by unfold CostOk; omega) (by unfold CostOk; omega) (by unfold CostOk; omega)
  refine ⟨l2, _, _, _, rfl, rfl, sq h2, hS, ?_⟩
  refine ⟨D, S, rfl, cD, cS, fun H3 f s3 ⟨kvs, hf, hv⟩ => ?_⟩
  have k3 := (s1.trans s2).trans s3
  simp only [tLstRg, tRg2]
  walk_at "rd"
  refine ⟨-30, 31, rfl, rfl, ⟨by decide, by decide, by decide, by decide, by decide⟩, fun p4 np4 => ?_⟩
  generalize ep4 : upd H3 p4 _ = H4
  obtain ⟨s4, h4⟩ := new_of ep4 np4
  rw [rg_ints] at h4
  obtain ⟨z0, hz0⟩ : ∃ z0 : List Int, ((List.range (31 - -30 : Int).toNat).map fun (i : Nat) => (-30 : Int) + (i : Int)) = z0 := ⟨_, rfl⟩
  have bz0 : z0.length ≤ 61 ∧ ∀ z ∈ z0, z.natAbs ≤ 130 := by
    rw [← hz0]
    refine ⟨by simp, fun z hz => ?_⟩
    obtain ⟨i, hi, rfl⟩ := List.mem_map.mp hz
    have := List.mem_range.mp hi
    have e : (31 - -30 : Int).toNat = 61 := by decide
    omega
  rw [hz0] at h4
  clear hz0
  have k4 := k3.trans s4
  rw [r_lcE]
  walk_at "rd"
  refine ⟨a, _, rfl, k4.seq hx, l_lcE (fun R i H' => Same H4 H' ∧ ∃ us : List Int, H' R = some (.lst (us.map V.int)) ∧ us.length = i ∧ ∀ z ∈ us, z.natAbs ≤ 130) (fun R H5 nR sR hR => ⟨sR, [], hR, rfl, by simp⟩) (fun R i H' ⟨p, _⟩ => p.seq (k4.seq hx)) (fun R i x H' T nR hi hlt ⟨p, us, hR, lu, bu⟩ nT => ?_) (fun R H5 nR ⟨s5, us, hR, lu, bu⟩ => ?_)⟩
  · obtain ⟨z, hz1, rfl⟩ := mapE hi
    rw [List.length_map] at hlt
    have sT : Same H' (upd H' T (.tup [.int (i : Nat), .int z])) := Same.new nT
    generalize (upd H' T (.tup [.int (i : Nat), .int z])) = H9 at sT
    walk_at "rd"
    refine ⟨z, _, rfl, by omega, by omega, ?_⟩
    walk_at "rd"
    generalize mixed z ((i : Int) % 64) = w
    refine ⟨_, sT _ _ hR, ?_, (p.trans sT).mut nR, us ++ [w % 261 - 130], ?_, by rw [List.length_append, lu]; rfl, fun y hy => ?_⟩
    · rw [List.length_map, sizeLine_is]; omega
    · rw [upd_same, List.map_append]; rfl
    · rcases List.mem_append.mp hy with h | h
      · exact bu y h
      · obtain rfl : y = w % 261 - 130 := by simpa using h
        omega
  rw [List.length_map] at lu
  have k5 := k4.trans s5
  refine ⟨p4, R, _, _, rfl, rfl, sq (s5 _ _ h4), sq hR, by rw [List.length_map, List.length_map, sizeLine_is]; omega, fun p6 np6 => ?_⟩
  generalize ep6 : upd H5 p6 _ = H6
  obtain ⟨s6, h6⟩ := new_of ep6 np6
  rw [← List.map_append] at h6
  have bz : ∀ z ∈ z0 ++ us, z.natAbs ≤ 130 := fun z hz => (List.mem_append.mp hz).elim (bz0.2 z) (bu z)
  generalize z0 ++ us = zs at h6 bz
  have k6 := k5.trans s6
  have hf6 := s6 _ _ (s5 _ _ (s4 _ _ hf))
  walk_at "rd"
  refine f_list (j := 5) (fun i σ H' => ∃ y6 y7 y8, σ = [some (.ref a), some (.int c), some (.int D), some (.int S), some (.ref f), some (.ref p6), y6, y7, y8, none, none, none, none] ∧ Same H6 H') rfl ⟨none, none, none, rfl, Same.refl _⟩ (sq h6) (fun i σ H' ⟨_, _, _, _, p⟩ => sq (p _ _ h6)) (fun i x σ H' hi hlt ⟨y6, y7, y8, e, p⟩ => ?_) (fun σ H' ⟨y6, y7, y8, e, p⟩ => ?_)
  · subst e
    obtain ⟨z, hz, rfl⟩ := mapE hi
    have bz1 := bz z (List.mem_of_getElem? hz)
    have bz2 : z.natAbs < 2 ^ 2000 := Nat.lt_of_lt_of_le (show z.natAbs < 2 ^ 8 by omega) (Nat.pow_le_pow_right (by decide) (by decide))
    walk_at "rd"
    refine ⟨_, _, _, _, _, _, rfl, th_int, th_int, th_int, .inr (.inr ⟨z, D, S, rfl, rfl, rfl, bz2, cD, cS, fun H7 t s7 nt ht => ?_⟩)⟩
    walk_at "rd"
    have hlen := LP_len D S z bz2
    have hok := LP_ok D S z
    have hled := LP_led D S z
    have hco := LP_cost D S z
    have hc1 := LP_cst D S z
    generalize LP D S z = pr at *
    refine ⟨_, sqt ht, rfl, ?_⟩
    walk_at "rd"
    rw [r_dget]
    walk_at "rd"
    have hf7 := s7 _ _ (p _ _ hf6)
    refine ⟨f, .int (cst D S z.natAbs), rfl, by have := DGet.k (k := Sum.inl z) hf7; rw [hv z (by omega)] at this; exact this, ?_⟩
    rw [← hc1]
    walk_at "rd"
    refine ⟨_, rfl, .inr ⟨pr.2, rfl, by omega, hok, fun H8 s8 => ?_⟩⟩
    rw [hled]
    walk_at "rd"
    have cDb : cstB (.int D) = true := by unfold CostOk at cD; simp [cstB, cD.1, cD.2]
    have cSb : cstB (.int S) = true := by unfold CostOk at cS; simp [cstB, cS.1, cS.2]
    refine ⟨_, _, _, rfl, .inr ⟨pr.2, _, _, rfl, by omega, hok, th_int, th_int, .inr ⟨D, S, rfl, rfl, cDb, cSb, fun H9 s9 => ?_⟩⟩⟩
    rw [hco]
    walk_at "rd"
    exact ⟨_, _, _, rfl, ((p.trans s7).trans s8).trans s9⟩
  subst e
  walk_at "rd"
  intro m1 nm1
  generalize em1 : upd H' m1 _ = G1
  obtain ⟨g1, hm1⟩ := new_of em1 nm1
  intro m2 nm2
  generalize em2 : upd G1 m2 _ = G2
  obtain ⟨g2, hm2⟩ := new_of em2 nm2
  unfold tDNewK
  intro m3 nm3
  generalize em3 : upd G2 m3 _ = G3
  obtain ⟨g3, hm3⟩ := new_of em3 nm3
  intro m4 nm4
  generalize em4 : upd G3 m4 _ = G4
  obtain ⟨g4, hm4⟩ := new_of em4 nm4
  obtain ⟨odd, hodd, no, to, wo⟩ := pick8 (P := fun x => ∃ n, Th K G4 x n ∧ wh x = false) (i := c / 77 % 8) (by omega) (a := .non) (b := .bl true) (c := .str (Str.ofString "5")) (d := .ref m1) (e := .ref m2) (f := .ref m3) (g := .bl false) (h := .str (Str.ofString "d"))
    ⟨_, th_non, rfl⟩ ⟨_, th_bl, rfl⟩ ⟨_, th_str, rfl⟩ ⟨_, th_sq (sq (g4 _ _ (g3 _ _ (g2 _ _ hm1)))), rfl⟩ ⟨_, th_tup (g4 _ _ (g3 _ _ hm2)), rfl⟩ ⟨_, th_dict (g4 _ _ hm3), rfl⟩ ⟨_, th_bl, rfl⟩ ⟨_, th_str, rfl⟩
  refine ⟨m4, _, _, odd, rfl, rfl, sq hm4, hodd, ?_⟩
  intro m5 nm5
  generalize em5 : upd G4 m5 _ = G5
  obtain ⟨g5, hm5⟩ := new_of em5 nm5
  intro m6 nm6
  generalize em6 : upd G5 m6 _ = G6
  obtain ⟨g6, hm6⟩ := new_of em6 nm6
  obtain ⟨wr, hwr, mw, tw, cw⟩ := pick8 (P := fun x => ∃ n, Th K G6 x n ∧ cstB x = false) (i := c / 7 % 8) (by omega) (a := .int 0) (b := .int 51) (c := .int (-1)) (d := .bl true) (e := .non) (f := .str (Str.ofString "5")) (g := .ref m5) (h := .int (10 ^ Int.toNat 40))
    ⟨_, th_int, rfl⟩ ⟨_, th_int, rfl⟩ ⟨_, th_int, rfl⟩ ⟨_, th_bl, rfl⟩ ⟨_, th_non, rfl⟩ ⟨_, th_str, rfl⟩ ⟨_, th_sq (sq (g6 _ _ hm5)), rfl⟩ ⟨_, th_int, by decide +kernel⟩
  refine ⟨m6, _, _, wr, rfl, rfl, sq hm6, hwr, ?_⟩
  have to6 := to.same (g5.trans g6)
  have sc : ∀ x : Str, PyData.strOk x = true → ∀ (Ha Hb : Hp) (p q : Addr) (Q' : VK), Ha p = some (.tup [.str x]) → Same Ha Hb → Hb q = some (.tup [.str x]) → Q' (.bl false) Hb → rNeD K (.ref p) (.ref q) Hb Q' := fun x hx Ha Hb p q Q' h1 s h2 hq =>
    neD_same (d := .tuple [.str x]) (.tup (sqt (s _ _ h1)) (.cons (.str _) .nil)) (.tup (sqt h2) (.cons (.str _) .nil)) (shaped_strT _ hx) hq
  have se : ∀ x : Str, PyData.strOk x = true → ∀ (Ha Hb : Hp) (p q : Addr) (Q' : VK), Ha p = some (.tup [.str x]) → Same Ha Hb → Hb q = some (.tup [.str x]) → Q' (.bl true) Hb → rEqD K (.ref p) (.ref q) Hb Q' := fun x hx Ha Hb p q Q' h1 s h2 hq =>
    eqD_same (d := .tuple [.str x]) (.tup (sqt (s _ _ h1)) (.cons (.str _) .nil)) (.tup (sqt h2) (.cons (.str _) .nil)) (shaped_strT _ hx) hq
  refine ⟨odd, wr, wr, _, _, _, rfl, to6, tw, tw, .inl ⟨wo, fun H10 p1 s10 np1 hp1 => ?_⟩⟩
  intro q1 nq1
  generalize eq1 : upd H10 q1 _ = H11
  obtain ⟨s11, hq1⟩ := new_of eq1 nq1
  refine sc _ (by decide +kernel) _ _ _ _ _ hp1 s11 hq1 ⟨_, rfl, ?_⟩
  rw [if_neg (by decide)]
  have k11 := s10.trans s11
  refine ⟨odd, _, _, _, _, _, rfl, to6.same k11, th_int, th_int, .inl ⟨wo, fun H12 p2 s12 np2 hp2 => ?_⟩⟩
  intro q2 nq2
  generalize eq2 : upd H12 q2 _ = H13
  obtain ⟨s13, hq2⟩ := new_of eq2 nq2
  refine sc _ (by decide +kernel) _ _ _ _ _ hp2 s13 hq2 ⟨_, rfl, ?_⟩
  rw [if_neg (by decide)]
  have k13 := (k11.trans s12).trans s13
  walk_at "rd"
  refine ⟨_, wr, _, _, _, _, rfl, th_int, tw.same k13, th_int, .inr ⟨rfl, .inl cw, fun H14 p3 s14 np3 hp3 => ?_⟩⟩
  intro q3 nq3
  generalize eq3 : upd H14 q3 _ = H15
  obtain ⟨s15, hq3⟩ := new_of eq3 nq3
  refine se _ (by decide +kernel) _ _ _ _ _ hp3 s15 hq3 ⟨_, rfl, ?_⟩
  rw [if_pos rfl]
  have k15 := (k13.trans s14).trans s15
  refine ⟨_, _, wr, _, _, _, rfl, th_int, th_int, tw.same k15, .inr ⟨rfl, .inr cw, fun H16 p4 s16 np4 hp4 => ?_⟩⟩
  intro q4 nq4
  generalize eq4 : upd H16 q4 _ = H17
  obtain ⟨s17, hq4⟩ := new_of eq4 nq4
  exact se _ (by decide +kernel) _ _ _ _ _ hp4 s17 hq4 (q _)
end
end Lf
namespace Lf
open PySem PySem.Spec L2
open PyProof.Rows hiding St
/-! ### the text by places -/
def topS (i : Nat) : Stmt := PySem.Challenge.pw_leanfigures_k11_whole_least_small_ones.main.body.getD i (.Pass ⟨0, 0, 0, 0⟩)
abbrev s_is_whole : Stmt := topS 8
abbrev s_need_number : Stmt := topS 9
abbrev s_need_deeds : Stmt := topS 13
abbrev s_need_cost : Stmt := topS 14
abbrev s_led : Stmt := topS 15
abbrev s_cost_of : Stmt := topS 16
abbrev s_Prices___init__ : Stmt := inClass (topS 17) 0
abbrev s_Prices_with_steps : Stmt := inClass (topS 17) 1
abbrev s_Prices_least_of : Stmt := inClass (topS 17) 2
abbrev s_Prices_least : Stmt := inClass (topS 17) 3
abbrev s_turned : Stmt := topS 18
abbrev s_least : Stmt := topS 19
abbrev s__law_cell_at : Stmt := topS 21
abbrev s__law_mixed : Stmt := topS 22
abbrev s__law_costs : Stmt := topS 24
abbrev s__law_told : Stmt := topS 25
abbrev s_law : Stmt := topS 26
theorem sc_is_whole : FnScope ["thing"] ["thing"] (defScope s_is_whole) := ⟨rfl, rfl, rfl, by decide +kernel, rfl, by decide +kernel, by decide +kernel⟩
theorem sc_need_number : FnScope ["thing"] ["thing"] (defScope s_need_number) := ⟨rfl, rfl, rfl, by decide +kernel, rfl, by decide +kernel, by decide +kernel⟩
theorem sc_need_deeds : FnScope ["thing", "sign"] ["thing"] (defScope s_need_deeds) := ⟨rfl, rfl, rfl, by decide +kernel, rfl, by decide +kernel, by decide +kernel⟩
theorem sc_need_cost : FnScope ["thing"] ["thing"] (defScope s_need_cost) := ⟨rfl, rfl, rfl, by decide +kernel, rfl, by decide +kernel, by decide +kernel⟩
theorem sc_led : FnScope ["deeds", "found", "sign"] ["deeds"] (defScope s_led) := ⟨rfl, rfl, rfl, by decide +kernel, rfl, by decide +kernel, by decide +kernel⟩
theorem sc_cost_of : FnScope ["deeds", "double", "step", "sign"] ["deeds", "double", "step"] (defScope s_cost_of) := ⟨rfl, rfl, rfl, by decide +kernel, rfl, by decide +kernel, by decide +kernel⟩
theorem sc_Prices___init__ : FnScope ["self", "double", "step"] ["self", "double", "step"] (defScope s_Prices___init__) := ⟨rfl, rfl, rfl, by decide +kernel, rfl, by decide +kernel, by decide +kernel⟩
theorem sc_Prices_with_steps : FnScope ["self", "found", "signs"] ["self", "found", "signs"] (defScope s_Prices_with_steps) := ⟨rfl, rfl, rfl, by decide +kernel, rfl, by decide +kernel, by decide +kernel⟩
theorem sc_Prices_least_of : FnScope ["self", "number", "found", "best", "one"] ["self", "number", "found"] (defScope s_Prices_least_of) := ⟨rfl, rfl, rfl, by decide +kernel, rfl, by decide +kernel, by decide +kernel⟩
theorem sc_Prices_least : FnScope ["self", "number", "bits", "left", "here", "low", "high", "bit", "odd"] ["self", "number"] (defScope s_Prices_least) := ⟨rfl, rfl, rfl, by decide +kernel, rfl, by decide +kernel, by decide +kernel⟩
theorem sc_turned : FnScope ["deeds", "sign"] ["deeds"] (defScope s_turned) := ⟨rfl, rfl, rfl, by decide +kernel, rfl, by decide +kernel, by decide +kernel⟩
theorem sc_least : FnScope ["number", "double", "step", "cost", "deeds"] ["number", "double", "step"] (defScope s_least) := ⟨rfl, rfl, rfl, by decide +kernel, rfl, by decide +kernel, by decide +kernel⟩
theorem sc__law_cell_at : FnScope ["_law_script", "_law_k"] ["_law_script", "_law_k"] (defScope s__law_cell_at) := ⟨rfl, rfl, rfl, by decide +kernel, rfl, by decide +kernel, by decide +kernel⟩
theorem sc__law_mixed : FnScope ["_law_cell", "_law_k", "_law_number"] ["_law_cell", "_law_k"] (defScope s__law_mixed) := ⟨rfl, rfl, rfl, by decide +kernel, rfl, by decide +kernel, by decide +kernel⟩
theorem sc__law_costs : FnScope ["_law_double", "_law_step", "_law_found", "_law_waiting", "_law_cost", "_law_number", "_law_later", "_law_more"] ["_law_double", "_law_step"] (defScope s__law_costs) := ⟨rfl, rfl, rfl, by decide +kernel, rfl, by decide +kernel, by decide +kernel⟩
theorem sc__law_told : FnScope ["_law_number", "_law_double", "_law_step", "_law_found"] ["_law_number", "_law_double", "_law_step"] (defScope s__law_told) := ⟨rfl, rfl, rfl, by decide +kernel, rfl, by decide +kernel, by decide +kernel⟩
theorem sc_law : FnScope ["_law_script", "_law_cell", "_law_double", "_law_step", "_law_costs_here", "_law_some", "_law_number", "_law_cost", "_law_deeds", "_law_odd", "_law_wrong", "_law_k", "_law_one"] ["_law_script"] (defScope s_law) := ⟨rfl, rfl, rfl, by decide +kernel, rfl, by decide +kernel, by decide +kernel⟩
/-- what the top has written besides defs -/
structure Gx (K : PySem.W.Frag) (mg : Str → Option Value) (C : Ad) : Prop where
  e_LeanError : ExcC K mg "LeanError" C.LeanError
  e_NoNumber : ExcC K mg "NoNumber" C.NoNumber
  e_NoRow : ExcC K mg "NoRow" C.NoRow
  e_NoText : ExcC K mg "NoText" C.NoText
  e_NoDeeds : ExcC K mg "NoDeeds" C.NoDeeds
  e_NoCost : ExcC K mg "NoCost" C.NoCost
  c_MOST_COST : ∃ u, mg "MOST_COST" = some u ∧ RelV (.int 50) u
  c_MOST_STEPS : ∃ u, mg "MOST_STEPS" = some u ∧ RelV (.int 100) u
  m_Prices : mg "Prices" = some (.ref C.Prices)
  cl_Prices : Cls K C.Prices
  n_Prices_double : NoAttr K C.Prices "double"
  n_Prices_step : NoAttr K C.Prices "step"
  p_NoNumber_NoRow : PySem.W.exmOne K (.ref C.NoNumber) (.ref C.NoRow) = some false
  p_NoNumber_NoText : PySem.W.exmOne K (.ref C.NoNumber) (.ref C.NoText) = some false
  p_NoNumber_NoDeeds : PySem.W.exmOne K (.ref C.NoNumber) (.ref C.NoDeeds) = some false
  p_NoNumber_NoNumber : PySem.W.exmOne K (.ref C.NoNumber) (.ref C.NoNumber) = some true
  p_NoCost_NoRow : PySem.W.exmOne K (.ref C.NoCost) (.ref C.NoRow) = some false
  p_NoCost_NoText : PySem.W.exmOne K (.ref C.NoCost) (.ref C.NoText) = some false
  p_NoCost_NoDeeds : PySem.W.exmOne K (.ref C.NoCost) (.ref C.NoDeeds) = some false
  p_NoCost_NoNumber : PySem.W.exmOne K (.ref C.NoCost) (.ref C.NoNumber) = some false
  p_NoCost_NoCost : PySem.W.exmOne K (.ref C.NoCost) (.ref C.NoCost) = some true
section
variable {P : Program} {w : World} {K : PySem.W.Frag} {mg : Str → Option Value} {base : Heap} {C : Ad}
theorem ok_is_whole (D : Dfn K mg "is_whole" ["thing"] s_is_whole) (B : Blt mg) (G : Gx K mg C)  : Cal P w K mg base 1 "is_whole" (sp_is_whole K C) :=
  cal_of D sc_is_whole (fun vs H Q E h => by
    unfold sp_is_whole at h
    try unfold rowSp at h
    try unfold spLaw at h
    repeat first | exact congrArg List.length h.1 | (obtain ⟨_, h⟩ := h)) (fun f cdv A outer s H vs Q E hr h => ⟨t_is_whole K C E,
    (pss_one (ps_ret (pe_and (pe_callB call_isi (by rfl) B.b_isinstance (by decide +kernel) (pa_cons (pv 0) (pa_cons (pe_bltn (v := .ty "int") (by rfl) B.b_int (by decide +kernel) rfl) pa_nil))) (pe_one (pe_not (pe_callB call_isi (by rfl) B.b_isinstance (by decide +kernel) (pa_cons (pv 0) (pa_cons (pe_bltn (v := .ty "bool") (by rfl) B.b_bool (by decide +kernel) rfl) pa_nil)))))))), r_is_whole h⟩)
theorem ok_need_number (D : Dfn K mg "need_number" ["thing"] s_need_number) (B : Blt mg) (G : Gx K mg C) (c_is_whole : Cal P w K mg base 1 "is_whole" (sp_is_whole K C)) : Cal P w K mg base 2 "need_number" (sp_need_number K C) :=
  cal_of D sc_need_number (fun vs H Q E h => by
    unfold sp_need_number at h
    try unfold rowSp at h
    try unfold spLaw at h
    repeat first | exact congrArg List.length h.1 | (obtain ⟨_, h⟩ := h)) (fun f cdv A outer s H vs Q E hr h => ⟨t_need_number K C E,
    (pss_one (ps_if (pt_not (pt_val (pe_f c_is_whole hr (by decide) (passes_call (takes_of rfl rfl rfl rfl) (fun _ _ _ _ h => h)) (pa_cons (pv 0) pa_nil)))) (pss_one (ps_raise rfl (takes_of rfl rfl rfl rfl) (pmk_own PySem.F.excBase_ValueError G.e_NoNumber.x G.e_NoNumber.g G.e_NoNumber.k (raises_own G.e_NoNumber.b G.e_NoNumber.t) (by exact rfl)))) pss_nil)), r_need_number h⟩)
theorem ok_need_deeds (D : Dfn K mg "need_deeds" ["thing"] s_need_deeds) (B : Blt mg) (G : Gx K mg C)  : Cal P w K mg base 1 "need_deeds" (sp_need_deeds K C) :=
  cal_of D sc_need_deeds (fun vs H Q E h => by
    unfold sp_need_deeds at h
    try unfold rowSp at h
    try unfold spLaw at h
    repeat first | exact congrArg List.length h.1 | (obtain ⟨_, h⟩ := h)) (fun f cdv A outer s H vs Q E hr h => ⟨t_need_deeds K C E,
    (pss_one (ps_if (PW.pt (pw_or (pt_not (pt_val (pe_callB call_isi (by rfl) B.b_isinstance (by decide +kernel) (pa_cons (pv 0) (pa_cons (pe_bltn (v := .ty "str") (by rfl) B.b_str (by decide +kernel) rfl) pa_nil))))) (pw_or1 (pt_not (pt_val (pe_callB (cr_all rfl) (by rfl) B.b_all (by decide +kernel) (pa_cons (pe_lc (own := [("sign", 1)]) (g := (gName 1)) (tt := tYes) rfl sc_need_deeds.nd (pi_str (pv 0)) (blkOk_by (N := ["thing", "sign"]) (sc := defScope s_need_deeds) (own := [("sign", 1)]) (by decide +kernel)) (fun _ _ _ _ _ => (pg_name (i := 1) sc_need_deeds.nd rfl (Or.inl rfl))) (fun _ _ _ _ _ => pts_nil) (fun _ _ _ _ _ => (pe_cmpR op_in_sign (pv 1) pe_str (by rfl)))) pa_nil))))))) (pss_one (ps_raise rfl (takes_of rfl rfl rfl rfl) (pmk_own PySem.F.excBase_ValueError G.e_NoDeeds.x G.e_NoDeeds.g G.e_NoDeeds.k (raises_own G.e_NoDeeds.b G.e_NoDeeds.t) (by exact rfl)))) pss_nil)), r_need_deeds h⟩)
theorem ok_need_cost (D : Dfn K mg "need_cost" ["thing"] s_need_cost) (B : Blt mg) (G : Gx K mg C) (c_is_whole : Cal P w K mg base 1 "is_whole" (sp_is_whole K C)) : Cal P w K mg base 2 "need_cost" (sp_need_cost K C) :=
  cal_of D sc_need_cost (fun vs H Q E h => by
    unfold sp_need_cost at h
    try unfold rowSp at h
    try unfold spLaw at h
    repeat first | exact congrArg List.length h.1 | (obtain ⟨_, h⟩ := h)) (fun f cdv A outer s H vs Q E hr h => ⟨t_need_cost K C E,
    (pss_one (ps_if (PW.pt (pw_or (pt_not (pt_val (pe_f c_is_whole hr (by decide) (passes_call (takes_of rfl rfl rfl rfl) (fun _ _ _ _ h => h)) (pa_cons (pv 0) pa_nil)))) (pw_or1 (pt_not (pt_chain op_le op_le pe_int (pv 0) (C8.pe_gc rfl G.c_MOST_COST)))))) (pss_one (ps_raise rfl (takes_of rfl rfl rfl rfl) (pmk_own PySem.F.excBase_ValueError G.e_NoCost.x G.e_NoCost.g G.e_NoCost.k (raises_own G.e_NoCost.b G.e_NoCost.t) (by exact rfl)))) pss_nil)), r_need_cost h⟩)
theorem ok_led (D : Dfn K mg "led" ["deeds"] s_led) (B : Blt mg) (G : Gx K mg C) (c_need_deeds : Cal P w K mg base 1 "need_deeds" (sp_need_deeds K C)) : Cal P w K mg base 2 "led" (sp_led K C) :=
  cal_of D sc_led (fun vs H Q E h => by
    unfold sp_led at h
    try unfold rowSp at h
    try unfold spLaw at h
    repeat first | exact congrArg List.length h.1 | (obtain ⟨_, h⟩ := h)) (fun f cdv A outer s H vs Q E hr h => ⟨t_led K C E,
    (pss_cons (ps_expr (pe_f c_need_deeds hr (by decide) (passes_call (takes_of rfl rfl rfl rfl) (fun _ _ _ _ h => h)) (pa_cons (pv 0) pa_nil)))
      (pss_cons (ps_set (i := 1) sc_led.nd rfl (Or.inl rfl) pe_int)
      (pss_cons (ps_for (passes_of rfl) rfl (pi_str (pv 0)) (pg_name (i := 2) sc_led.nd rfl (Or.inl rfl)) (pss_one (ps_if (pt_cmpR op_eq (pv 2) pe_str (nomark _)) (pss_one (ps_set (i := 1) sc_led.nd rfl (Or.inl rfl) (pe_op op_mul pe_int (pv 1)))) (pss_one (ps_aug (i := 1) sc_led.nd rfl (Or.inl rfl) (pe_ifExp (pt_cmpR op_eq (pv 2) pe_str (nomark _)) pe_int (pe_un un_neg pe_int)) ip_add)))))
      (pss_one (ps_ret (pv 1)))))), r_led h⟩)
theorem ok_cost_of (D : Dfn K mg "cost_of" ["deeds", "double", "step"] s_cost_of) (B : Blt mg) (G : Gx K mg C) (c_need_deeds : Cal P w K mg base 1 "need_deeds" (sp_need_deeds K C)) (c_need_cost : Cal P w K mg base 2 "need_cost" (sp_need_cost K C)) : Cal P w K mg base 3 "cost_of" (sp_cost_of K C) :=
  cal_of D sc_cost_of (fun vs H Q E h => by
    unfold sp_cost_of at h
    try unfold rowSp at h
    try unfold spLaw at h
    repeat first | exact congrArg List.length h.1 | (obtain ⟨_, h⟩ := h)) (fun f cdv A outer s H vs Q E hr h => ⟨t_cost_of K C E,
    (pss_cons (ps_expr (pe_f c_need_deeds hr (by decide) (passes_call (takes_of rfl rfl rfl rfl) (fun _ _ _ _ h => h)) (pa_cons (pv 0) pa_nil)))
      (pss_cons (ps_expr (pe_f c_need_cost hr (by decide) (passes_call (takes_of rfl rfl rfl rfl) (fun _ _ _ _ h => h)) (pa_cons (pv 1) pa_nil)))
      (pss_cons (ps_expr (pe_f c_need_cost hr (by decide) (passes_call (takes_of rfl rfl rfl rfl) (fun _ _ _ _ h => h)) (pa_cons (pv 2) pa_nil)))
      (pss_one (ps_ret (pe_callB (cr_sum rfl) (by rfl) B.b_sum (by decide +kernel) (pa_cons (pe_lc (own := [("sign", 3)]) (g := (gName 3)) (tt := tYes) rfl sc_cost_of.nd (pi_str (pv 0)) (blkOk_by (N := ["deeds", "double", "step", "sign"]) (sc := defScope s_cost_of) (own := [("sign", 3)]) (by decide +kernel)) (fun _ _ _ _ _ => (pg_name (i := 3) sc_cost_of.nd rfl (Or.inl rfl))) (fun _ _ _ _ _ => pts_nil) (fun _ _ _ _ _ => (pe_ifExp (pt_cmpR op_eq (pv 3) pe_str (nomark _)) (pv 1) (pv 2)))) pa_nil))))))), r_cost_of h⟩)
theorem ok_Prices___init__ {f : Addr} {fd : FuncData} (M : Mk K C.Prices f) (F : Fun K "__init__" "Prices.__init__" s_Prices___init__ f fd) (b : Binds K fd ["self", "double", "step"] []) (B : Blt mg) (G : Gx K mg C)  : MakP P w K mg base 1 "Prices" C.Prices (sp_Prices___init__ K C) :=
  mak_of M G.m_Prices F b sc_Prices___init__ (fun vs H Q E h => by
    unfold sp_Prices___init__ at h
    try unfold rowSp at h
    try unfold spLaw at h
    repeat first | exact congrArg List.length h.1 | (obtain ⟨_, h⟩ := h)) (fun cdv A outer s H vs Q E hr h => ⟨t_Prices___init__ K C E,
    (pss_cons (ps_fld (pv 0) (pv 1) (by rfl))
      (pss_one (ps_fld (pv 0) (pv 2) (by rfl)))), r_Prices___init__ G.cl_Prices G.n_Prices_double G.n_Prices_step h⟩)
theorem ok_Prices_with_steps {f : Addr} {fd : FuncData} (M : Meth K C.Prices "with_steps" f) (F : Fun K "with_steps" "Prices.with_steps" s_Prices_with_steps f fd) (b : Binds K fd ["self", "found", "signs"] []) (B : Blt mg) (G : Gx K mg C)  : MetP P w K mg base 1 C.Prices "with_steps" (sp_Prices_with_steps K C) :=
  met_of G.cl_Prices M F b sc_Prices_with_steps (fun vs H Q E h => by
    unfold sp_Prices_with_steps at h
    try unfold rowSp at h
    try unfold spLaw at h
    repeat first | exact congrArg List.length h.1 | (obtain ⟨_, h⟩ := h)) (fun cdv A outer s H vs Q E hr h => ⟨t_Prices_with_steps K C E,
    (pss_one (ps_ret (pe_tup (pa_cons (pe_op op_add (pe_op op_add (pe_ix ix_tup (pv 1) pe_int (fun _ _ => rfl)) (pe_fld (pv 0) rfl)) (pe_op op_mul (pe_fld (pv 0) rfl) (pe_callB call_len_str (by rfl) B.b_len (by decide +kernel) (pa_cons (pv 2) pa_nil)))) (pa_cons (pe_op op_add_str (pe_op op_add_str (pe_ix ix_tup (pv 1) pe_int (fun _ _ => rfl)) pe_str) (pv 2)) pa_nil))))), r_Prices_with_steps G.cl_Prices G.n_Prices_double G.n_Prices_step h⟩)
theorem ok_Prices_least_of {f : Addr} {fd : FuncData} (M : Meth K C.Prices "least_of" f) (F : Fun K "least_of" "Prices.least_of" s_Prices_least_of f fd) (b : Binds K fd ["self", "number", "found"] []) (B : Blt mg) (G : Gx K mg C)  : MetP P w K mg base 1 C.Prices "least_of" (sp_Prices_least_of K C) :=
  met_of G.cl_Prices M F b sc_Prices_least_of (fun vs H Q E h => by
    unfold sp_Prices_least_of at h
    try unfold rowSp at h
    try unfold spLaw at h
    repeat first | exact congrArg List.length h.1 | (obtain ⟨_, h⟩ := h)) (fun cdv A outer s H vs Q E hr h => ⟨t_Prices_least_of K C E,
    (pss_cons (ps_set (i := 3) sc_Prices_least_of.nd rfl (Or.inl rfl) (pe_ix ix_list (pv 2) pe_int (fun _ _ => rfl)))
      (pss_cons (ps_for (passes_of rfl) rfl (pi_list (pe_slice sl_list (pv 2) (po_some pe_int) po_none)) (pg_name (i := 4) sc_Prices_least_of.nd rfl (Or.inl rfl)) (pss_one (ps_if (pt_cmpR op_lt (pe_ix ix_tup (pv 4) pe_int (fun _ _ => rfl)) (pe_ix ix_tup (pv 3) pe_int (fun _ _ => rfl)) (nomark _)) (pss_one (ps_set (i := 3) sc_Prices_least_of.nd rfl (Or.inl rfl) (pv 4))) pss_nil)))
      (pss_cons (ps_if (PW.pt (pw_and (pt_cmpR op_le (pv 1) (C8.pe_gc rfl G.c_MOST_STEPS) (nomark _)) (pw_and1 (pt_cmpR op_lt (pe_op op_mul (pv 1) (pe_fld (pv 0) rfl)) (pe_ix ix_tup (pv 3) pe_int (fun _ _ => rfl)) (nomark _))))) (pss_one (ps_set (i := 3) sc_Prices_least_of.nd rfl (Or.inl rfl) (pe_tup (pa_cons (pe_op op_mul (pv 1) (pe_fld (pv 0) rfl)) (pa_cons (pe_op op_rep_str pe_str (pv 1)) pa_nil))))) pss_nil)
      (pss_one (ps_ret (pv 3)))))), r_Prices_least_of G.cl_Prices G.n_Prices_step h⟩)
theorem ok_Prices_least {f : Addr} {fd : FuncData} (M : Meth K C.Prices "least" f) (F : Fun K "least" "Prices.least" s_Prices_least f fd) (b : Binds K fd ["self", "number"] []) (B : Blt mg) (G : Gx K mg C) (c_Prices_least_of : MetP P w K mg base 1 C.Prices "least_of" (sp_Prices_least_of K C)) (c_Prices_with_steps : MetP P w K mg base 1 C.Prices "with_steps" (sp_Prices_with_steps K C)) : MetP P w K mg base 2 C.Prices "least" (sp_Prices_least K C) :=
  met_of G.cl_Prices M F b sc_Prices_least (fun vs H Q E h => by
    unfold sp_Prices_least at h
    try unfold rowSp at h
    try unfold spLaw at h
    repeat first | exact congrArg List.length h.1 | (obtain ⟨_, h⟩ := h)) (fun cdv A outer s H vs Q E hr h => ⟨t_Prices_least K C E,
    (pss_cons (ps_set (i := 2) sc_Prices_least.nd rfl (Or.inl rfl) (pe_lst pa_nil))
      (pss_cons (ps_set (i := 3) sc_Prices_least.nd rfl (Or.inl rfl) (pv 1))
      (pss_cons (ps_while (passes_of rfl) (pt_cmpR op_gt (pv 3) pe_int (nomark _)) (pss_cons (ps_expr (pe_bm PySem.F.plainAttrs_list PySem.F.slot_list_append PySem.F.type_list_append mt_append (pv 2) (pa_cons (pe_op op_mod (pv 3) pe_int) pa_nil)))
      (pss_one (ps_set (i := 3) sc_Prices_least.nd rfl (Or.inl rfl) (pe_op op_fdiv (pv 3) pe_int)))))
      (pss_cons (ps_set (i := 4) sc_Prices_least.nd rfl (Or.inl rfl) pe_int)
      (pss_cons (ps_set (i := 5) sc_Prices_least.nd rfl (Or.inl rfl) (pe_tup (pa_cons pe_int (pa_cons pe_str pa_nil))))
      (pss_cons (ps_set (i := 6) sc_Prices_least.nd rfl (Or.inl rfl) (pe_tup (pa_cons (pe_fld (pv 0) rfl) (pa_cons pe_str pa_nil))))
      (pss_cons (ps_for (passes_of rfl) rfl (pi_reversed (by rfl) B.b_reversed (pa_cons (pv 2) pa_nil)) (pg_name (i := 7) sc_Prices_least.nd rfl (Or.inl rfl)) (pss_cons (ps_set (i := 8) sc_Prices_least.nd rfl (Or.inl rfl) (pe_mtP c_Prices_least_of hr (by decide) (passes_call (takes_of rfl rfl rfl rfl) (fun _ _ _ _ h => h)) (pv 0) (pa_cons (pe_op op_add (pe_op op_mul pe_int (pv 4)) pe_int) (pa_cons (pe_lst (pa_cons (pe_mtP c_Prices_with_steps hr (by decide) (passes_call (takes_of rfl rfl rfl rfl) (fun _ _ _ _ h => h)) (pv 0) (pa_cons (pv 5) (pa_cons pe_str pa_nil))) (pa_cons (pe_mtP c_Prices_with_steps hr (by decide) (passes_call (takes_of rfl rfl rfl rfl) (fun _ _ _ _ h => h)) (pv 0) (pa_cons (pv 6) (pa_cons pe_str pa_nil))) pa_nil))) pa_nil))))
      (pss_cons (ps_if (pt_cmpR op_eq (pv 7) pe_int (nomark _)) (pss_cons (ps_set (i := 5) sc_Prices_least.nd rfl (Or.inl rfl) (pe_mtP c_Prices_least_of hr (by decide) (passes_call (takes_of rfl rfl rfl rfl) (fun _ _ _ _ h => h)) (pv 0) (pa_cons (pe_op op_mul pe_int (pv 4)) (pa_cons (pe_lst (pa_cons (pe_mtP c_Prices_with_steps hr (by decide) (passes_call (takes_of rfl rfl rfl rfl) (fun _ _ _ _ h => h)) (pv 0) (pa_cons (pv 5) (pa_cons pe_str pa_nil))) pa_nil)) pa_nil))))
      (pss_one (ps_set (i := 6) sc_Prices_least.nd rfl (Or.inl rfl) (pv 8)))) (pss_cons (ps_set (i := 6) sc_Prices_least.nd rfl (Or.inl rfl) (pe_mtP c_Prices_least_of hr (by decide) (passes_call (takes_of rfl rfl rfl rfl) (fun _ _ _ _ h => h)) (pv 0) (pa_cons (pe_op op_add (pe_op op_mul pe_int (pv 4)) pe_int) (pa_cons (pe_lst (pa_cons (pe_mtP c_Prices_with_steps hr (by decide) (passes_call (takes_of rfl rfl rfl rfl) (fun _ _ _ _ h => h)) (pv 0) (pa_cons (pv 6) (pa_cons pe_str pa_nil))) pa_nil)) pa_nil))))
      (pss_one (ps_set (i := 5) sc_Prices_least.nd rfl (Or.inl rfl) (pv 8)))))
      (pss_one (ps_set (i := 4) sc_Prices_least.nd rfl (Or.inl rfl) (pe_op op_add (pe_op op_mul pe_int (pv 4)) (pv 7)))))))
      (pss_one (ps_ret (pv 5)))))))))), r_Prices_least G.cl_Prices G.n_Prices_step h⟩)
theorem ok_turned (D : Dfn K mg "turned" ["deeds"] s_turned) (B : Blt mg) (G : Gx K mg C)  : Cal P w K mg base 1 "turned" (sp_turned K C) :=
  cal_of D sc_turned (fun vs H Q E h => by
    unfold sp_turned at h
    try unfold rowSp at h
    try unfold spLaw at h
    repeat first | exact congrArg List.length h.1 | (obtain ⟨_, h⟩ := h)) (fun f cdv A outer s H vs Q E hr h => ⟨t_turned K C E,
    (pss_one (ps_ret (pe_join pe_str (pe_lc (own := [("sign", 1)]) (g := (gName 1)) (tt := tYes) rfl sc_turned.nd (pi_str (pv 0)) (blkOk_by (N := ["deeds", "sign"]) (sc := defScope s_turned) (own := [("sign", 1)]) (by decide +kernel)) (fun _ _ _ _ _ => (pg_name (i := 1) sc_turned.nd rfl (Or.inl rfl))) (fun _ _ _ _ _ => pts_nil) (fun _ _ _ _ _ => (pe_dget (hu_of hr) (pe_disp (pps_cons pe_str pe_str (pps_cons pe_str pe_str (pps_cons pe_str pe_str pps_nil))) (by rfl) (by rfl) (fun z => by cases z) (by decide)) (pv 1) (fun _ _ => rfl))))))), r_turned h⟩)
theorem ok_least (D : Dfn K mg "least" ["number", "double", "step"] s_least) (B : Blt mg) (G : Gx K mg C) (c_need_number : Cal P w K mg base 2 "need_number" (sp_need_number K C)) (c_need_cost : Cal P w K mg base 2 "need_cost" (sp_need_cost K C)) (c_Prices___init__ : MakP P w K mg base 1 "Prices" C.Prices (sp_Prices___init__ K C)) (c_Prices_least : MetP P w K mg base 2 C.Prices "least" (sp_Prices_least K C)) (c_turned : Cal P w K mg base 1 "turned" (sp_turned K C)) : Cal P w K mg base 3 "least" (sp_least K C) :=
  cal_of D sc_least (fun vs H Q E h => by
    unfold sp_least at h
    try unfold rowSp at h
    try unfold spLaw at h
    repeat first | exact congrArg List.length h.1 | (obtain ⟨_, h⟩ := h)) (fun f cdv A outer s H vs Q E hr h => ⟨t_least K C E,
    (pss_cons (ps_expr (pe_f c_need_number hr (by decide) (passes_call (takes_of rfl rfl rfl rfl) (fun _ _ _ _ h => h)) (pa_cons (pv 0) pa_nil)))
      (pss_cons (ps_expr (pe_f c_need_cost hr (by decide) (passes_call (takes_of rfl rfl rfl rfl) (fun _ _ _ _ h => h)) (pa_cons (pv 1) pa_nil)))
      (pss_cons (ps_expr (pe_f c_need_cost hr (by decide) (passes_call (takes_of rfl rfl rfl rfl) (fun _ _ _ _ h => h)) (pa_cons (pv 2) pa_nil)))
      (pss_cons (ps_asg (pe_mtP c_Prices_least hr (by decide) (passes_call (takes_of rfl rfl rfl rfl) (fun _ _ _ _ h => h)) (pe_mkP c_Prices___init__ hr (by decide) (passes_call (takes_of rfl rfl rfl rfl) (fun _ _ _ _ h => h)) (pa_cons (pv 1) (pa_cons (pv 2) pa_nil))) (pa_cons (pe_callB call_abs (by rfl) B.b_abs (by decide +kernel) (pa_cons (pv 0) pa_nil)) pa_nil)) (pg_tup rfl (pgs_cons (pg_name (i := 3) sc_least.nd rfl (Or.inl rfl)) (pgs_cons (pg_name (i := 4) sc_least.nd rfl (Or.inl rfl)) pgs_nil))))
      (pss_cons (ps_if (pt_cmpR op_lt (pv 0) pe_int (nomark _)) (pss_one (ps_set (i := 4) sc_least.nd rfl (Or.inl rfl) (pe_f c_turned hr (by decide) (passes_call (takes_of rfl rfl rfl rfl) (fun _ _ _ _ h => h)) (pa_cons (pv 4) pa_nil)))) pss_nil)
      (pss_one (ps_ret (pe_tup (pa_cons (pv 3) (pa_cons (pv 4) pa_nil)))))))))), r_least h⟩)
theorem ok__law_cell_at (D : Dfn K mg "_law_cell_at" ["_law_script", "_law_k"] s__law_cell_at) (B : Blt mg) (G : Gx K mg C)  : Cal P w K mg base 1 "_law_cell_at" (sp__law_cell_at K C) :=
  cal_of D sc__law_cell_at (fun vs H Q E h => by
    unfold sp__law_cell_at at h
    try unfold rowSp at h
    try unfold spLaw at h
    repeat first | exact congrArg List.length h.1 | (obtain ⟨_, h⟩ := h)) (fun f cdv A outer s H vs Q E hr h => ⟨t__law_cell_at K C E,
    (pss_cons (ps_if (pt_cmpR op_lt (pv 1) (pe_callB call_len_seq (by rfl) B.b_len (by decide +kernel) (pa_cons (pv 0) pa_nil)) (nomark _)) (pss_one (ps_ret (pe_ix ix_list (pv 0) (pv 1) (fun _ _ => rfl)))) pss_nil)
      (pss_one (ps_ret pe_int))), r__law_cell_at h⟩)
theorem ok__law_mixed (D : Dfn K mg "_law_mixed" ["_law_cell", "_law_k"] s__law_mixed) (B : Blt mg) (G : Gx K mg C)  : Cal P w K mg base 1 "_law_mixed" (sp__law_mixed K C) :=
  cal_of D sc__law_mixed (fun vs H Q E h => by
    unfold sp__law_mixed at h
    try unfold rowSp at h
    try unfold spLaw at h
    repeat first | exact congrArg List.length h.1 | (obtain ⟨_, h⟩ := h)) (fun f cdv A outer s H vs Q E hr h => ⟨t__law_mixed K C E,
    (pss_cons (ps_set (i := 2) sc__law_mixed.nd rfl (Or.inl rfl) (pe_op op_mod (pe_op op_mul (pe_op op_add (pe_op op_mod (pv 0) pe_int) pe_int) pe_int) pe_int))
      (pss_one (ps_ret (pe_op op_fdiv (pe_op op_mod (pe_op op_mul (pv 2) (pe_op op_add (pe_op op_add pe_int (pe_op op_mul (pe_op op_mul pe_int (pv 1)) (pv 1))) (pe_op op_mul pe_int (pv 1)))) pe_int) pe_int)))), r__law_mixed h⟩)
theorem ok__law_costs (D : Dfn K mg "_law_costs" ["_law_double", "_law_step"] s__law_costs) (B : Blt mg) (G : Gx K mg C)  : Cal P w K mg base 1 "_law_costs" (sp__law_costs K C) :=
  cal_of D sc__law_costs (fun vs H Q E h => by
    unfold sp__law_costs at h
    try unfold rowSp at h
    try unfold spLaw at h
    repeat first | exact congrArg List.length h.1 | (obtain ⟨_, h⟩ := h)) (fun f cdv A outer s H vs Q E hr h => ⟨t__law_costs K C E,
    (pss_cons (ps_set (i := 2) sc__law_costs.nd rfl (Or.inl rfl) (pe_disp (pps_cons pe_int pe_int pps_nil) (by rfl) (by rfl) (fun z => by cases z) (by decide)))
      (pss_cons (ps_set (i := 3) sc__law_costs.nd rfl (Or.inl rfl) (pe_disp (pps_cons pe_int (pe_lst (pa_cons pe_int pa_nil)) pps_nil) (by rfl) (by rfl) (fun z => by cases z) (by decide)))
      (pss_cons (ps_set (i := 4) sc__law_costs.nd rfl (Or.inl rfl) pe_int)
      (pss_cons (ps_while (passes_of rfl) (pt_cmpR (op_neDK hr.units) (pv 3) pe_dnewK (nomark _)) (pss_cons (ps_for (passes_of rfl) rfl (pi_list (pe_dpop2 (pv 3) (pv 4) (pe_lst pa_nil) ⟨by rfl, by rfl, by rfl, by rfl⟩)) (pg_name (i := 5) sc__law_costs.nd rfl (Or.inl rfl)) (pss_one (ps_if (pt_cmpR op_eq (pe_dget (hu_of hr) (pv 2) (pv 5) (fun _ _ => rfl)) (pv 4) (nomark _)) (pss_one (ps_for (passes_of rfl) rfl (pi_list (pe_lst (pa_cons (pe_tup (pa_cons (pe_op op_mul pe_int (pv 5)) (pa_cons (pv 0) pa_nil))) (pa_cons (pe_tup (pa_cons (pe_op op_add (pv 5) pe_int) (pa_cons (pv 1) pa_nil))) (pa_cons (pe_tup (pa_cons (pe_op op_sub (pv 5) pe_int) (pa_cons (pv 1) pa_nil))) pa_nil))))) (pg_tup rfl (pgs_cons (pg_name (i := 6) sc__law_costs.nd rfl (Or.inl rfl)) (pgs_cons (pg_name (i := 7) sc__law_costs.nd rfl (Or.inl rfl)) pgs_nil))) (pss_one (ps_if (PW.pt (pw_and (pt_chain op_le op_le (pe_un un_neg pe_int) (pv 6) pe_int) (pw_and1 (PW.pt (pw_or (pt_cmp (pc_dnotin (hu_of hr) (pv 6) (pv 2))) (pw_or1 (pt_cmpR op_gt (pe_dget (hu_of hr) (pv 2) (pv 6) (fun _ _ => rfl)) (pe_op op_add (pv 4) (pv 7)) (nomark _)))))))) (pss_cons (ps_asg (pe_op op_add (pv 4) (pv 7)) (pg_sub (pv 2) (pv 6) (set_dict (hu_of hr))))
      (pss_one (ps_asg (pe_op op_catS (pe_dget2 (hu_of hr) (pv 3) (pe_op op_add (pv 4) (pv 7)) (pe_lst pa_nil) ⟨by rfl, by rfl, by rfl, by rfl⟩) (pe_lst (pa_cons (pv 6) pa_nil))) (pg_sub (pv 3) (pe_op op_add (pv 4) (pv 7)) (set_dict (hu_of hr)))))) pss_nil)))) pss_nil)))
      (pss_one (ps_set (i := 4) sc__law_costs.nd rfl (Or.inl rfl) (pe_op op_add (pv 4) pe_int)))))
      (pss_one (ps_ret (pv 2))))))), r__law_costs h⟩)
theorem ok__law_told (D : Dfn K mg "_law_told" ["_law_number", "_law_double", "_law_step"] s__law_told) (B : Blt mg) (G : Gx K mg C) (c_least : Cal P w K mg base 3 "least" (sp_least K C)) : Cal P w K mg base 4 "_law_told" (sp__law_told_k11 K C) :=
  cal_of D sc__law_told (fun vs H Q E h => by
    unfold sp__law_told_k11 at h
    try unfold rowSp at h
    try unfold spLaw at h
    repeat first | exact congrArg List.length h.1 | (obtain ⟨_, h⟩ := h)) (fun f cdv A outer s H vs Q E hr h => ⟨t__law_told_k11 K C E,
    (pss_cons (ps_set (i := 3) sc__law_told.nd rfl (Or.inl rfl) (pe_tup (pa_cons pe_str pa_nil)))
      (pss_cons (ps_try_many (tb := fun W => (tAsg (tCallS (sp_least K C) (WE W) (tCons (tVar 0) (tCons (tVar 1) (tCons (tVar 2) tNil)))) (gName 3))) (Wout := fun cls d _ H => E cls d H) rfl rfl (takes_of rfl rfl rfl rfl) (fun W pn xe tk _ => (pss_one (ps_set (i := 3) sc__law_told.nd rfl (Or.inl rfl) (pe_fS c_least hr (by decide) (fun σ => passAt tk σ) (pa_cons (pv 0) (pa_cons (pv 1) (pa_cons (pv 2) pa_nil))))))) (HdsOk.cons (ts := fun _ _ _ => (tAsg (tTup (tCons (tC (.str "no row")) tNil)) (gName 3))) ⟨rfl, by decide, Or.inl G.e_NoRow.g⟩ (fun a oe cls d pn _ _ => (pss_one (ps_set (i := 3) sc__law_told.nd rfl (Or.inl rfl) (pe_tup (pa_cons pe_str pa_nil))))) (HdsOk.cons (ts := fun _ _ _ => (tAsg (tTup (tCons (tC (.str "no text")) tNil)) (gName 3))) ⟨rfl, by decide, Or.inl G.e_NoText.g⟩ (fun a oe cls d pn _ _ => (pss_one (ps_set (i := 3) sc__law_told.nd rfl (Or.inl rfl) (pe_tup (pa_cons pe_str pa_nil))))) (HdsOk.cons (ts := fun _ _ _ => (tAsg (tTup (tCons (tC (.str "no deeds")) tNil)) (gName 3))) ⟨rfl, by decide, Or.inl G.e_NoDeeds.g⟩ (fun a oe cls d pn _ _ => (pss_one (ps_set (i := 3) sc__law_told.nd rfl (Or.inl rfl) (pe_tup (pa_cons pe_str pa_nil))))) (HdsOk.cons (ts := fun _ _ _ => (tAsg (tTup (tCons (tC (.str "no number")) tNil)) (gName 3))) ⟨rfl, by decide, Or.inl G.e_NoNumber.g⟩ (fun a oe cls d pn _ _ => (pss_one (ps_set (i := 3) sc__law_told.nd rfl (Or.inl rfl) (pe_tup (pa_cons pe_str pa_nil))))) (HdsOk.cons (ts := fun _ _ _ => (tAsg (tTup (tCons (tC (.str "no cost")) tNil)) (gName 3))) ⟨rfl, by decide, Or.inl G.e_NoCost.g⟩ (fun a oe cls d pn _ _ => (pss_one (ps_set (i := 3) sc__law_told.nd rfl (Or.inl rfl) (pe_tup (pa_cons pe_str pa_nil))))) (HdsOk.cons (ts := fun _ _ _ => (tAsg (tTup (tCons (tC (.str "lean")) tNil)) (gName 3))) ⟨rfl, by decide, Or.inl G.e_LeanError.g⟩ (fun a oe cls d pn _ _ => (pss_one (ps_set (i := 3) sc__law_told.nd rfl (Or.inl rfl) (pe_tup (pa_cons pe_str pa_nil))))) HdsOk.nil)))))))
      (pss_one (ps_ret (pv 3))))), r__law_told_k11 G.p_NoNumber_NoRow G.p_NoNumber_NoText G.p_NoNumber_NoDeeds G.p_NoNumber_NoNumber G.p_NoCost_NoRow G.p_NoCost_NoText G.p_NoCost_NoDeeds G.p_NoCost_NoNumber G.p_NoCost_NoCost h⟩)
theorem ok_law {f : Addr} {fd : FuncData} (F : Fun K "law" "law" s_law f fd) (B : Blt mg) (G : Gx K mg C) (c__law_mixed : Cal P w K mg base 1 "_law_mixed" (sp__law_mixed K C)) (c__law_cell_at : Cal P w K mg base 1 "_law_cell_at" (sp__law_cell_at K C)) (c__law_costs : Cal P w K mg base 1 "_law_costs" (sp__law_costs K C)) (c_least : Cal P w K mg base 3 "least" (sp_least K C)) (c_led : Cal P w K mg base 2 "led" (sp_led K C)) (c_cost_of : Cal P w K mg base 3 "cost_of" (sp_cost_of K C)) (c__law_told : Cal P w K mg base 4 "_law_told" (sp__law_told_k11 K C)) : FnOk P w K mg base (L2.CX P w) 5 f fd ["_law_script"] (spLaw K) :=
  F.okX sc_law (fun vs H Q E h => by
    unfold spLaw at h
    try unfold rowSp at h
    try unfold spLaw at h
    repeat first | exact congrArg List.length h.1 | (obtain ⟨_, h⟩ := h)) (fun cdv A outer s H vs Q E hr h => ⟨t_law_k11 K C E,
    (pss_cons (ps_set (i := 1) sc_law.nd rfl (Or.inl rfl) (pe_f c__law_mixed hr (by decide) (passes_call (takes_of rfl rfl rfl rfl) (fun _ _ _ _ h => h)) (pa_cons (pe_f c__law_cell_at hr (by decide) (passes_call (takes_of rfl rfl rfl rfl) (fun _ _ _ _ h => h)) (pa_cons (pv 0) (pa_cons pe_int pa_nil))) (pa_cons pe_int pa_nil))))
      (pss_cons (ps_set (i := 2) sc_law.nd rfl (Or.inl rfl) (pe_ix ix_list (pe_lst (pa_cons (pe_op op_add pe_int (pe_op op_mod (pv 1) pe_int)) (pa_cons pe_int (pa_cons (pe_op op_add pe_int (pe_op op_mod (pv 1) pe_int)) (pa_cons pe_int pa_nil))))) (pe_op op_mod (pe_op op_fdiv (pv 1) pe_int) pe_int) (fun _ _ => rfl)))
      (pss_cons (ps_set (i := 3) sc_law.nd rfl (Or.inl rfl) (pe_ix ix_list (pe_lst (pa_cons (pe_op op_add pe_int (pe_op op_mod (pe_op op_fdiv (pv 1) pe_int) pe_int)) (pa_cons pe_int (pa_cons (pe_op op_add pe_int (pe_op op_mod (pe_op op_fdiv (pv 1) pe_int) pe_int)) (pa_cons pe_int pa_nil))))) (pe_op op_mod (pe_op op_fdiv (pv 1) pe_int) pe_int) (fun _ _ => rfl)))
      (pss_cons (ps_set (i := 4) sc_law.nd rfl (Or.inl rfl) (pe_f c__law_costs hr (by decide) (passes_call (takes_of rfl rfl rfl rfl) (fun _ _ _ _ h => h)) (pa_cons (pv 2) (pa_cons (pv 3) pa_nil))))
      (pss_cons (ps_set (i := 5) sc_law.nd rfl (Or.inl rfl) (pe_op op_catS (pe_listRg rfl rfl B.b_list (prg_2 rfl B.b_range (pe_un un_neg pe_int) pe_int)) (pe_lc (own := [("_law_k", 11), ("_law_one", 12)]) (g := (gTup K 2 (gCons (gName 11) (gCons (gName 12) gNil)))) (tt := tYes) rfl sc_law.nd (pi_enum (by rfl) B.b_enumerate (pa_cons (pv 0) pa_nil)) (blkOk_by (N := ["_law_script", "_law_cell", "_law_double", "_law_step", "_law_costs_here", "_law_some", "_law_number", "_law_cost", "_law_deeds", "_law_odd", "_law_wrong", "_law_k", "_law_one"]) (sc := defScope s_law) (own := [("_law_k", 11), ("_law_one", 12)]) (by decide +kernel)) (fun _ _ _ _ _ => (pg_tup rfl (pgs_cons (pg_name (i := 11) sc_law.nd rfl (Or.inl rfl)) (pgs_cons (pg_name (i := 12) sc_law.nd rfl (Or.inl rfl)) pgs_nil)))) (fun _ _ _ _ _ => pts_nil) (fun _ _ _ _ _ => (pe_op op_sub (pe_op op_mod (pe_f c__law_mixed hr (by decide) passL (pa_cons (pv 12) (pa_cons (pe_op op_mod (pv 11) pe_int) pa_nil))) pe_int) pe_int)))))
      (pss_cons (ps_for (passes_of rfl) rfl (pi_list (pv 5)) (pg_name (i := 6) sc_law.nd rfl (Or.inl rfl)) (pss_cons (ps_asg (pe_f c_least hr (by decide) (passes_call (takes_of rfl rfl rfl rfl) (fun _ _ _ _ h => h)) (pa_cons (pv 6) (pa_cons (pv 2) (pa_cons (pv 3) pa_nil)))) (pg_tup rfl (pgs_cons (pg_name (i := 7) sc_law.nd rfl (Or.inl rfl)) (pgs_cons (pg_name (i := 8) sc_law.nd rfl (Or.inl rfl)) pgs_nil))))
      (pss_one (ps_if (PW.pt (pw_or (pt_cmpR op_ne (pv 7) (pe_dget (hu_of hr) (pv 4) (pv 6) (fun _ _ => rfl)) (nomark _)) (pw_or (pt_cmpR op_ne (pe_f c_led hr (by decide) (passes_call (takes_of rfl rfl rfl rfl) (fun _ _ _ _ h => h)) (pa_cons (pv 8) pa_nil)) (pv 6) (nomark _)) (pw_or1 (pt_cmpR op_ne (pe_f c_cost_of hr (by decide) (passes_call (takes_of rfl rfl rfl rfl) (fun _ _ _ _ h => h)) (pa_cons (pv 8) (pa_cons (pv 2) (pa_cons (pv 3) pa_nil)))) (pv 7) (nomark _)))))) (pss_one (ps_ret pe_bl)) pss_nil))))
      (pss_cons (ps_set (i := 9) sc_law.nd rfl (Or.inl rfl) (pe_ix ix_list (pe_lst (pa_cons pe_non (pa_cons pe_bl (pa_cons pe_str (pa_cons (pe_lst (pa_cons pe_int pa_nil)) (pa_cons (pe_tup (pa_cons pe_int pa_nil)) (pa_cons pe_dnewK (pa_cons pe_bl (pa_cons pe_str pa_nil))))))))) (pe_op op_mod (pe_op op_fdiv (pv 1) pe_int) pe_int) (fun _ _ => rfl)))
      (pss_cons (ps_set (i := 10) sc_law.nd rfl (Or.inl rfl) (pe_ix ix_list (pe_lst (pa_cons pe_int (pa_cons pe_int (pa_cons (pe_un un_neg pe_int) (pa_cons pe_bl (pa_cons pe_non (pa_cons pe_str (pa_cons (pe_lst (pa_cons pe_int pa_nil)) (pa_cons (pe_op op_pow pe_int pe_int) pa_nil))))))))) (pe_op op_mod (pe_op op_fdiv (pv 1) pe_int) pe_int) (fun _ _ => rfl)))
      (pss_cons (ps_if (PW.pt (pw_or (pt_cmpR (op_neD hr.units) (pe_f c__law_told hr (by decide) (passes_call (takes_of rfl rfl rfl rfl) (fun _ _ _ _ h => h)) (pa_cons (pv 9) (pa_cons (pv 10) (pa_cons (pv 10) pa_nil)))) (pe_tup (pa_cons pe_str pa_nil)) (nomark _)) (pw_or1 (pt_cmpR (op_neD hr.units) (pe_f c__law_told hr (by decide) (passes_call (takes_of rfl rfl rfl rfl) (fun _ _ _ _ h => h)) (pa_cons (pv 9) (pa_cons (pv 2) (pa_cons (pv 3) pa_nil)))) (pe_tup (pa_cons pe_str pa_nil)) (nomark _))))) (pss_one (ps_ret pe_bl)) pss_nil)
      (pss_one (ps_ret (pe_and (pe_cmpR (op_eqD hr.units) (pe_f c__law_told hr (by decide) (passes_call (takes_of rfl rfl rfl rfl) (fun _ _ _ _ h => h)) (pa_cons pe_int (pa_cons (pv 10) (pa_cons (pv 3) pa_nil)))) (pe_tup (pa_cons pe_str pa_nil)) (nomark _)) (pe_one (pe_cmpR (op_eqD hr.units) (pe_f c__law_told hr (by decide) (passes_call (takes_of rfl rfl rfl rfl) (fun _ _ _ _ h => h)) (pa_cons (pe_un un_neg pe_int) (pa_cons (pv 2) (pa_cons (pv 10) pa_nil)))) (pe_tup (pa_cons pe_str pa_nil)) (nomark _))))))))))))))), r_law_k11 h⟩)
end
/-! ### what the top has written, and the law's own head -/
theorem all_mk {P : Program} {w : World} {K : PySem.W.Frag} {h : Heap} {mg : Str → Option Value} {fa : Addr} (X : K.In h) (Gg : h.Ns mainGlobals mg) (hfa : mg "law" = some (.ref fa))
    {f1 : Addr} {od1 an1 : Option Addr} {sl1 : Array (Option Value)} {oc1 kV1 dc1 pm1 cd1 ct1 : Value}
    {f2 : Addr} {od2 an2 : Option Addr} {sl2 : Array (Option Value)} {oc2 kV2 dc2 pm2 cd2 ct2 : Value}
    {f3 : Addr} {od3 an3 : Option Addr} {sl3 : Array (Option Value)} {oc3 kV3 dc3 pm3 cd3 ct3 : Value}
    {f4 : Addr} {od4 an4 : Option Addr} {sl4 : Array (Option Value)} {oc4 kV4 dc4 pm4 cd4 ct4 : Value}
    {f5 : Addr} {od5 an5 : Option Addr} {sl5 : Array (Option Value)} {oc5 kV5 dc5 pm5 cd5 ct5 : Value}
    {f6 : Addr} {od6 an6 : Option Addr} {sl6 : Array (Option Value)} {oc6 kV6 dc6 pm6 cd6 ct6 : Value}
    {f7 : Addr} {od7 an7 : Option Addr} {sl7 : Array (Option Value)} {oc7 kV7 dc7 pm7 cd7 ct7 : Value}
    {f8 : Addr} {od8 an8 : Option Addr} {sl8 : Array (Option Value)} {oc8 kV8 dc8 pm8 cd8 ct8 : Value}
    {f9 : Addr} {od9 an9 : Option Addr} {sl9 : Array (Option Value)} {oc9 kV9 dc9 pm9 cd9 ct9 : Value}
    {f10 : Addr} {od10 an10 : Option Addr} {sl10 : Array (Option Value)} {oc10 kV10 dc10 pm10 cd10 ct10 : Value}
    {f11 : Addr} {od11 an11 : Option Addr} {sl11 : Array (Option Value)} {oc11 kV11 dc11 pm11 cd11 ct11 : Value}
    {f12 : Addr} {od12 an12 : Option Addr} {sl12 : Array (Option Value)} {oc12 kV12 dc12 pm12 cd12 ct12 : Value}
    {f13 : Addr} {od13 an13 : Option Addr} {sl13 : Array (Option Value)} {oc13 kV13 dc13 pm13 cd13 ct13 : Value}
    {f14 : Addr} {od14 an14 : Option Addr} {sl14 : Array (Option Value)} {oc14 kV14 dc14 pm14 cd14 ct14 : Value}
    {f15 : Addr} {od15 an15 : Option Addr} {sl15 : Array (Option Value)} {oc15 kV15 dc15 pm15 cd15 ct15 : Value}
    {f16 : Addr} {od16 an16 : Option Addr} {sl16 : Array (Option Value)} {oc16 kV16 dc16 pm16 cd16 ct16 : Value}
    {f17 : Addr} {od17 an17 : Option Addr} {sl17 : Array (Option Value)} {oc17 kV17 dc17 pm17 cd17 ct17 : Value}
    {CLeanError : Addr}
    {CNoNumber : Addr}
    {CNoRow : Addr}
    {CNoText : Addr}
    {CNoDeeds : Addr}
    {CNoCost : Addr}
    {CPrices : Addr}
    {uMOST_COST : Value}
    {uMOST_STEPS : Value}
    (gPrices : PySem.W.nsIn K mainGlobals "Prices" = some (some (.ref CPrices)))
    (a1 : PySem.W.nsIn K mainGlobals "is_whole" = some (some (.ref f1)))
    (l1 : K.lookup f1 = some ⟨oc1, od1, .func (PySem.W.fnOf "is_whole" "is_whole" (defArgs s_is_whole) (defBody s_is_whole) (defScope s_is_whole) .none kV1 dc1 pm1 an1 cd1 ct1), sl1⟩)
    (c1 : PySem.W.codeIn K cd1 "is_whole" = true)
    (k1 : PySem.W.keepIn K (.ref f1) = true)
    (a2 : PySem.W.nsIn K mainGlobals "need_number" = some (some (.ref f2)))
    (l2 : K.lookup f2 = some ⟨oc2, od2, .func (PySem.W.fnOf "need_number" "need_number" (defArgs s_need_number) (defBody s_need_number) (defScope s_need_number) .none kV2 dc2 pm2 an2 cd2 ct2), sl2⟩)
    (c2 : PySem.W.codeIn K cd2 "need_number" = true)
    (k2 : PySem.W.keepIn K (.ref f2) = true)
    (a3 : PySem.W.nsIn K mainGlobals "need_deeds" = some (some (.ref f3)))
    (l3 : K.lookup f3 = some ⟨oc3, od3, .func (PySem.W.fnOf "need_deeds" "need_deeds" (defArgs s_need_deeds) (defBody s_need_deeds) (defScope s_need_deeds) .none kV3 dc3 pm3 an3 cd3 ct3), sl3⟩)
    (c3 : PySem.W.codeIn K cd3 "need_deeds" = true)
    (k3 : PySem.W.keepIn K (.ref f3) = true)
    (a4 : PySem.W.nsIn K mainGlobals "need_cost" = some (some (.ref f4)))
    (l4 : K.lookup f4 = some ⟨oc4, od4, .func (PySem.W.fnOf "need_cost" "need_cost" (defArgs s_need_cost) (defBody s_need_cost) (defScope s_need_cost) .none kV4 dc4 pm4 an4 cd4 ct4), sl4⟩)
    (c4 : PySem.W.codeIn K cd4 "need_cost" = true)
    (k4 : PySem.W.keepIn K (.ref f4) = true)
    (a5 : PySem.W.nsIn K mainGlobals "led" = some (some (.ref f5)))
    (l5 : K.lookup f5 = some ⟨oc5, od5, .func (PySem.W.fnOf "led" "led" (defArgs s_led) (defBody s_led) (defScope s_led) .none kV5 dc5 pm5 an5 cd5 ct5), sl5⟩)
    (c5 : PySem.W.codeIn K cd5 "led" = true)
    (k5 : PySem.W.keepIn K (.ref f5) = true)
    (a6 : PySem.W.nsIn K mainGlobals "cost_of" = some (some (.ref f6)))
    (l6 : K.lookup f6 = some ⟨oc6, od6, .func (PySem.W.fnOf "cost_of" "cost_of" (defArgs s_cost_of) (defBody s_cost_of) (defScope s_cost_of) .none kV6 dc6 pm6 an6 cd6 ct6), sl6⟩)
    (c6 : PySem.W.codeIn K cd6 "cost_of" = true)
    (k6 : PySem.W.keepIn K (.ref f6) = true)
    (a7 : PySem.W.findIn K (.ref CPrices) "__init__" = some (some (.ref f7)))
    (i7 : PySem.W.isFn K (.ref f7) = true)
    (l7 : K.lookup f7 = some ⟨oc7, od7, .func (PySem.W.fnOf "__init__" "Prices.__init__" (defArgs s_Prices___init__) (defBody s_Prices___init__) (defScope s_Prices___init__) .none kV7 dc7 pm7 an7 cd7 ct7), sl7⟩)
    (c7 : PySem.W.codeIn K cd7 "Prices.__init__" = true)
    (k7 : PySem.W.keepIn K (.ref f7) = true)
    (a8 : PySem.W.findIn K (.ref CPrices) "with_steps" = some (some (.ref f8)))
    (i8 : PySem.W.isFn K (.ref f8) = true)
    (l8 : K.lookup f8 = some ⟨oc8, od8, .func (PySem.W.fnOf "with_steps" "Prices.with_steps" (defArgs s_Prices_with_steps) (defBody s_Prices_with_steps) (defScope s_Prices_with_steps) .none kV8 dc8 pm8 an8 cd8 ct8), sl8⟩)
    (c8 : PySem.W.codeIn K cd8 "Prices.with_steps" = true)
    (k8 : PySem.W.keepIn K (.ref f8) = true)
    (a9 : PySem.W.findIn K (.ref CPrices) "least_of" = some (some (.ref f9)))
    (i9 : PySem.W.isFn K (.ref f9) = true)
    (l9 : K.lookup f9 = some ⟨oc9, od9, .func (PySem.W.fnOf "least_of" "Prices.least_of" (defArgs s_Prices_least_of) (defBody s_Prices_least_of) (defScope s_Prices_least_of) .none kV9 dc9 pm9 an9 cd9 ct9), sl9⟩)
    (c9 : PySem.W.codeIn K cd9 "Prices.least_of" = true)
    (k9 : PySem.W.keepIn K (.ref f9) = true)
    (a10 : PySem.W.findIn K (.ref CPrices) "least" = some (some (.ref f10)))
    (i10 : PySem.W.isFn K (.ref f10) = true)
    (l10 : K.lookup f10 = some ⟨oc10, od10, .func (PySem.W.fnOf "least" "Prices.least" (defArgs s_Prices_least) (defBody s_Prices_least) (defScope s_Prices_least) .none kV10 dc10 pm10 an10 cd10 ct10), sl10⟩)
    (c10 : PySem.W.codeIn K cd10 "Prices.least" = true)
    (k10 : PySem.W.keepIn K (.ref f10) = true)
    (a11 : PySem.W.nsIn K mainGlobals "turned" = some (some (.ref f11)))
    (l11 : K.lookup f11 = some ⟨oc11, od11, .func (PySem.W.fnOf "turned" "turned" (defArgs s_turned) (defBody s_turned) (defScope s_turned) .none kV11 dc11 pm11 an11 cd11 ct11), sl11⟩)
    (c11 : PySem.W.codeIn K cd11 "turned" = true)
    (k11 : PySem.W.keepIn K (.ref f11) = true)
    (a12 : PySem.W.nsIn K mainGlobals "least" = some (some (.ref f12)))
    (l12 : K.lookup f12 = some ⟨oc12, od12, .func (PySem.W.fnOf "least" "least" (defArgs s_least) (defBody s_least) (defScope s_least) .none kV12 dc12 pm12 an12 cd12 ct12), sl12⟩)
    (c12 : PySem.W.codeIn K cd12 "least" = true)
    (k12 : PySem.W.keepIn K (.ref f12) = true)
    (a13 : PySem.W.nsIn K mainGlobals "_law_cell_at" = some (some (.ref f13)))
    (l13 : K.lookup f13 = some ⟨oc13, od13, .func (PySem.W.fnOf "_law_cell_at" "_law_cell_at" (defArgs s__law_cell_at) (defBody s__law_cell_at) (defScope s__law_cell_at) .none kV13 dc13 pm13 an13 cd13 ct13), sl13⟩)
    (c13 : PySem.W.codeIn K cd13 "_law_cell_at" = true)
    (k13 : PySem.W.keepIn K (.ref f13) = true)
    (a14 : PySem.W.nsIn K mainGlobals "_law_mixed" = some (some (.ref f14)))
    (l14 : K.lookup f14 = some ⟨oc14, od14, .func (PySem.W.fnOf "_law_mixed" "_law_mixed" (defArgs s__law_mixed) (defBody s__law_mixed) (defScope s__law_mixed) .none kV14 dc14 pm14 an14 cd14 ct14), sl14⟩)
    (c14 : PySem.W.codeIn K cd14 "_law_mixed" = true)
    (k14 : PySem.W.keepIn K (.ref f14) = true)
    (a15 : PySem.W.nsIn K mainGlobals "_law_costs" = some (some (.ref f15)))
    (l15 : K.lookup f15 = some ⟨oc15, od15, .func (PySem.W.fnOf "_law_costs" "_law_costs" (defArgs s__law_costs) (defBody s__law_costs) (defScope s__law_costs) .none kV15 dc15 pm15 an15 cd15 ct15), sl15⟩)
    (c15 : PySem.W.codeIn K cd15 "_law_costs" = true)
    (k15 : PySem.W.keepIn K (.ref f15) = true)
    (a16 : PySem.W.nsIn K mainGlobals "_law_told" = some (some (.ref f16)))
    (l16 : K.lookup f16 = some ⟨oc16, od16, .func (PySem.W.fnOf "_law_told" "_law_told" (defArgs s__law_told) (defBody s__law_told) (defScope s__law_told) .none kV16 dc16 pm16 an16 cd16 ct16), sl16⟩)
    (c16 : PySem.W.codeIn K cd16 "_law_told" = true)
    (k16 : PySem.W.keepIn K (.ref f16) = true)
    (a17 : PySem.W.nsIn K mainGlobals "law" = some (some (.ref f17)))
    (l17 : K.lookup f17 = some ⟨oc17, od17, .func (PySem.W.fnOf "law" "law" (defArgs s_law) (defBody s_law) (defScope s_law) .none kV17 dc17 pm17 an17 cd17 ct17), sl17⟩)
    (c17 : PySem.W.codeIn K cd17 "law" = true)
    (k17 : PySem.W.keepIn K (.ref f17) = true)
    (gLeanError : PySem.W.nsIn K mainGlobals "LeanError" = some (some (.ref CLeanError)))
    (xLeanError : PySem.W.excIn K CLeanError [.type "ValueError", .type "Exception", .type "BaseException", .type "object"] "ValueError.__new__" = true)
    (kLeanError : PySem.W.keepIn K (.ref CLeanError) = true)
    (bLeanError : PySem.W.subIn K (.ref CLeanError) (.type "BaseException") = some true)
    (tLeanError : PySem.W.typeIn K (.ref CLeanError) = some (.type "type"))
    (iLeanError : PySem.W.hasDictIn K CLeanError = true)
    (gNoNumber : PySem.W.nsIn K mainGlobals "NoNumber" = some (some (.ref CNoNumber)))
    (xNoNumber : PySem.W.excIn K CNoNumber [.type "ValueError", .type "Exception", .type "BaseException", .type "object"] "ValueError.__new__" = true)
    (kNoNumber : PySem.W.keepIn K (.ref CNoNumber) = true)
    (bNoNumber : PySem.W.subIn K (.ref CNoNumber) (.type "BaseException") = some true)
    (tNoNumber : PySem.W.typeIn K (.ref CNoNumber) = some (.type "type"))
    (iNoNumber : PySem.W.hasDictIn K CNoNumber = true)
    (gNoRow : PySem.W.nsIn K mainGlobals "NoRow" = some (some (.ref CNoRow)))
    (xNoRow : PySem.W.excIn K CNoRow [.type "ValueError", .type "Exception", .type "BaseException", .type "object"] "ValueError.__new__" = true)
    (kNoRow : PySem.W.keepIn K (.ref CNoRow) = true)
    (bNoRow : PySem.W.subIn K (.ref CNoRow) (.type "BaseException") = some true)
    (tNoRow : PySem.W.typeIn K (.ref CNoRow) = some (.type "type"))
    (iNoRow : PySem.W.hasDictIn K CNoRow = true)
    (gNoText : PySem.W.nsIn K mainGlobals "NoText" = some (some (.ref CNoText)))
    (xNoText : PySem.W.excIn K CNoText [.type "ValueError", .type "Exception", .type "BaseException", .type "object"] "ValueError.__new__" = true)
    (kNoText : PySem.W.keepIn K (.ref CNoText) = true)
    (bNoText : PySem.W.subIn K (.ref CNoText) (.type "BaseException") = some true)
    (tNoText : PySem.W.typeIn K (.ref CNoText) = some (.type "type"))
    (iNoText : PySem.W.hasDictIn K CNoText = true)
    (gNoDeeds : PySem.W.nsIn K mainGlobals "NoDeeds" = some (some (.ref CNoDeeds)))
    (xNoDeeds : PySem.W.excIn K CNoDeeds [.type "ValueError", .type "Exception", .type "BaseException", .type "object"] "ValueError.__new__" = true)
    (kNoDeeds : PySem.W.keepIn K (.ref CNoDeeds) = true)
    (bNoDeeds : PySem.W.subIn K (.ref CNoDeeds) (.type "BaseException") = some true)
    (tNoDeeds : PySem.W.typeIn K (.ref CNoDeeds) = some (.type "type"))
    (iNoDeeds : PySem.W.hasDictIn K CNoDeeds = true)
    (gNoCost : PySem.W.nsIn K mainGlobals "NoCost" = some (some (.ref CNoCost)))
    (xNoCost : PySem.W.excIn K CNoCost [.type "ValueError", .type "Exception", .type "BaseException", .type "object"] "ValueError.__new__" = true)
    (kNoCost : PySem.W.keepIn K (.ref CNoCost) = true)
    (bNoCost : PySem.W.subIn K (.ref CNoCost) (.type "BaseException") = some true)
    (tNoCost : PySem.W.typeIn K (.ref CNoCost) = some (.type "type"))
    (iNoCost : PySem.W.hasDictIn K CNoCost = true)
    (sNoNumber_NoRow : PySem.W.subIn K (.ref CNoNumber) (.ref CNoRow) = some false)
    (sNoNumber_NoText : PySem.W.subIn K (.ref CNoNumber) (.ref CNoText) = some false)
    (sNoNumber_NoDeeds : PySem.W.subIn K (.ref CNoNumber) (.ref CNoDeeds) = some false)
    (sNoNumber_NoNumber : PySem.W.subIn K (.ref CNoNumber) (.ref CNoNumber) = some true)
    (sNoCost_NoRow : PySem.W.subIn K (.ref CNoCost) (.ref CNoRow) = some false)
    (sNoCost_NoText : PySem.W.subIn K (.ref CNoCost) (.ref CNoText) = some false)
    (sNoCost_NoDeeds : PySem.W.subIn K (.ref CNoCost) (.ref CNoDeeds) = some false)
    (sNoCost_NoNumber : PySem.W.subIn K (.ref CNoCost) (.ref CNoNumber) = some false)
    (sNoCost_NoCost : PySem.W.subIn K (.ref CNoCost) (.ref CNoCost) = some true)
    (pgPrices : PySem.W.plainGet K CPrices Str.empty = true)
    (hdPrices : PySem.W.hasDictIn K CPrices = true)
    (poPrices : PySem.W.plainOver K CPrices = true)
    (saPrices : PySem.W.findIn K (.ref CPrices) "__setattr__" = some (some (.builtin "object.__setattr__")))
    (mkPrices : PySem.W.makesIn K CPrices = true)
    (kcPrices : PySem.W.keepIn K (.ref CPrices) = true)
    (nPrices_double : PySem.W.findIn K (.ref CPrices) "double" = some none)
    (nPrices_step : PySem.W.findIn K (.ref CPrices) "step" = some none)
    (uMOST_COST_ : PySem.W.nsIn K mainGlobals "MOST_COST" = some (some uMOST_COST))
    (rMOST_COST_ : RelV (.int 50) uMOST_COST)
    (uMOST_STEPS_ : PySem.W.nsIn K mainGlobals "MOST_STEPS" = some (some uMOST_STEPS))
    (rMOST_STEPS_ : RelV (.int 100) uMOST_STEPS)
    (z_isinstance : PySem.W.nsIn K mainGlobals "isinstance" = some none)
    (z_int : PySem.W.nsIn K mainGlobals "int" = some none)
    (z_bool : PySem.W.nsIn K mainGlobals "bool" = some none)
    (z_str : PySem.W.nsIn K mainGlobals "str" = some none)
    (z_list : PySem.W.nsIn K mainGlobals "list" = some none)
    (z_tuple : PySem.W.nsIn K mainGlobals "tuple" = some none)
    (z_len : PySem.W.nsIn K mainGlobals "len" = some none)
    (z_all : PySem.W.nsIn K mainGlobals "all" = some none)
    (z_sum : PySem.W.nsIn K mainGlobals "sum" = some none)
    (z_abs : PySem.W.nsIn K mainGlobals "abs" = some none)
    (z_min : PySem.W.nsIn K mainGlobals "min" = some none)
    (z_max : PySem.W.nsIn K mainGlobals "max" = some none)
    (z_reversed : PySem.W.nsIn K mainGlobals "reversed" = some none)
    (z_zip : PySem.W.nsIn K mainGlobals "zip" = some none)
    (z_enumerate : PySem.W.nsIn K mainGlobals "enumerate" = some none)
    (z_range : PySem.W.nsIn K mainGlobals "range" = some none)
    (z_ValueError : PySem.W.nsIn K mainGlobals "ValueError" = some none)
    : ∃ fd : FuncData, (∀ (s : Shared) (v : Value), BindsTo s fd ⟨[v], []⟩ [("_law_script", v)]) ∧ ∀ base : Heap, K.In base → base.Ns mainGlobals mg → FnOk P w K mg base (L2.CX P w) 5 fa fd ["_law_script"] (spLaw K) := by
  have e := hfa.symm.trans (PySem.W.mg_of X Gg a17)
  cases e
  have B : Blt mg := ⟨PySem.W.mg_none_of X Gg z_isinstance, PySem.W.mg_none_of X Gg z_int, PySem.W.mg_none_of X Gg z_bool, PySem.W.mg_none_of X Gg z_str, PySem.W.mg_none_of X Gg z_list, PySem.W.mg_none_of X Gg z_tuple, PySem.W.mg_none_of X Gg z_len, PySem.W.mg_none_of X Gg z_all, PySem.W.mg_none_of X Gg z_sum, PySem.W.mg_none_of X Gg z_abs, PySem.W.mg_none_of X Gg z_min, PySem.W.mg_none_of X Gg z_max, PySem.W.mg_none_of X Gg z_reversed, PySem.W.mg_none_of X Gg z_zip, PySem.W.mg_none_of X Gg z_enumerate, PySem.W.mg_none_of X Gg z_range, PySem.W.mg_none_of X Gg z_ValueError⟩
  let C : Ad := { LeanError := CLeanError, NoNumber := CNoNumber, NoRow := CNoRow, NoText := CNoText, NoDeeds := CNoDeeds, NoCost := CNoCost, Prices := CPrices }
  have G : Gx K mg C := ⟨⟨PySem.W.mg_of X Gg gLeanError, xLeanError, kLeanError, bLeanError, tLeanError⟩, ⟨PySem.W.mg_of X Gg gNoNumber, xNoNumber, kNoNumber, bNoNumber, tNoNumber⟩, ⟨PySem.W.mg_of X Gg gNoRow, xNoRow, kNoRow, bNoRow, tNoRow⟩, ⟨PySem.W.mg_of X Gg gNoText, xNoText, kNoText, bNoText, tNoText⟩, ⟨PySem.W.mg_of X Gg gNoDeeds, xNoDeeds, kNoDeeds, bNoDeeds, tNoDeeds⟩, ⟨PySem.W.mg_of X Gg gNoCost, xNoCost, kNoCost, bNoCost, tNoCost⟩, ⟨_, PySem.W.mg_of X Gg uMOST_COST_, rMOST_COST_⟩, ⟨_, PySem.W.mg_of X Gg uMOST_STEPS_, rMOST_STEPS_⟩, PySem.W.mg_of X Gg gPrices, ⟨pgPrices, hdPrices, poPrices, saPrices⟩, nPrices_double, nPrices_step, PySem.W.exm_ref bNoRow iNoRow tNoRow sNoNumber_NoRow, PySem.W.exm_ref bNoText iNoText tNoText sNoNumber_NoText, PySem.W.exm_ref bNoDeeds iNoDeeds tNoDeeds sNoNumber_NoDeeds, PySem.W.exm_ref bNoNumber iNoNumber tNoNumber sNoNumber_NoNumber, PySem.W.exm_ref bNoRow iNoRow tNoRow sNoCost_NoRow, PySem.W.exm_ref bNoText iNoText tNoText sNoCost_NoText, PySem.W.exm_ref bNoDeeds iNoDeeds tNoDeeds sNoCost_NoDeeds, PySem.W.exm_ref bNoNumber iNoNumber tNoNumber sNoCost_NoNumber, PySem.W.exm_ref bNoCost iNoCost tNoCost sNoCost_NoCost⟩
  have F1 := fun_mk (st := s_is_whole) l1 c1 k1
  have b1 := F1.binds (ps := ["thing"]) fun _ _ _ _ _ _ us hl => match us, hl with | [_], _ => rfl
  have F2 := fun_mk (st := s_need_number) l2 c2 k2
  have b2 := F2.binds (ps := ["thing"]) fun _ _ _ _ _ _ us hl => match us, hl with | [_], _ => rfl
  have F3 := fun_mk (st := s_need_deeds) l3 c3 k3
  have b3 := F3.binds (ps := ["thing"]) fun _ _ _ _ _ _ us hl => match us, hl with | [_], _ => rfl
  have F4 := fun_mk (st := s_need_cost) l4 c4 k4
  have b4 := F4.binds (ps := ["thing"]) fun _ _ _ _ _ _ us hl => match us, hl with | [_], _ => rfl
  have F5 := fun_mk (st := s_led) l5 c5 k5
  have b5 := F5.binds (ps := ["deeds"]) fun _ _ _ _ _ _ us hl => match us, hl with | [_], _ => rfl
  have F6 := fun_mk (st := s_cost_of) l6 c6 k6
  have b6 := F6.binds (ps := ["deeds", "double", "step"]) fun _ _ _ _ _ _ us hl => match us, hl with | [_, _, _], _ => rfl
  have F7 := fun_mk (st := s_Prices___init__) l7 c7 k7
  have b7 := F7.binds (ps := ["self", "double", "step"]) fun _ _ _ _ _ _ us hl => match us, hl with | [_, _, _], _ => rfl
  have F8 := fun_mk (st := s_Prices_with_steps) l8 c8 k8
  have b8 := F8.binds (ps := ["self", "found", "signs"]) fun _ _ _ _ _ _ us hl => match us, hl with | [_, _, _], _ => rfl
  have F9 := fun_mk (st := s_Prices_least_of) l9 c9 k9
  have b9 := F9.binds (ps := ["self", "number", "found"]) fun _ _ _ _ _ _ us hl => match us, hl with | [_, _, _], _ => rfl
  have F10 := fun_mk (st := s_Prices_least) l10 c10 k10
  have b10 := F10.binds (ps := ["self", "number"]) fun _ _ _ _ _ _ us hl => match us, hl with | [_, _], _ => rfl
  have F11 := fun_mk (st := s_turned) l11 c11 k11
  have b11 := F11.binds (ps := ["deeds"]) fun _ _ _ _ _ _ us hl => match us, hl with | [_], _ => rfl
  have F12 := fun_mk (st := s_least) l12 c12 k12
  have b12 := F12.binds (ps := ["number", "double", "step"]) fun _ _ _ _ _ _ us hl => match us, hl with | [_, _, _], _ => rfl
  have F13 := fun_mk (st := s__law_cell_at) l13 c13 k13
  have b13 := F13.binds (ps := ["_law_script", "_law_k"]) fun _ _ _ _ _ _ us hl => match us, hl with | [_, _], _ => rfl
  have F14 := fun_mk (st := s__law_mixed) l14 c14 k14
  have b14 := F14.binds (ps := ["_law_cell", "_law_k"]) fun _ _ _ _ _ _ us hl => match us, hl with | [_, _], _ => rfl
  have F15 := fun_mk (st := s__law_costs) l15 c15 k15
  have b15 := F15.binds (ps := ["_law_double", "_law_step"]) fun _ _ _ _ _ _ us hl => match us, hl with | [_, _], _ => rfl
  have F16 := fun_mk (st := s__law_told) l16 c16 k16
  have b16 := F16.binds (ps := ["_law_number", "_law_double", "_law_step"]) fun _ _ _ _ _ _ us hl => match us, hl with | [_, _, _], _ => rfl
  have F17 := fun_mk (st := s_law) l17 c17 k17
  refine ⟨PySem.W.fnOf "law" "law" (defArgs s_law) (defBody s_law) (defScope s_law) .none kV17 dc17 pm17 an17 cd17 ct17, fun s v => .of_eq rfl, fun base _ _ => ?_⟩
  have c_is_whole : Cal P w K mg base 1 "is_whole" (sp_is_whole K C) := ok_is_whole ⟨f1, _, F1, PySem.W.mg_of X Gg a1, b1⟩ B G 
  have c_need_number : Cal P w K mg base 2 "need_number" (sp_need_number K C) := ok_need_number ⟨f2, _, F2, PySem.W.mg_of X Gg a2, b2⟩ B G c_is_whole
  have c_need_deeds : Cal P w K mg base 1 "need_deeds" (sp_need_deeds K C) := ok_need_deeds ⟨f3, _, F3, PySem.W.mg_of X Gg a3, b3⟩ B G 
  have c_need_cost : Cal P w K mg base 2 "need_cost" (sp_need_cost K C) := ok_need_cost ⟨f4, _, F4, PySem.W.mg_of X Gg a4, b4⟩ B G c_is_whole
  have c_led : Cal P w K mg base 2 "led" (sp_led K C) := ok_led ⟨f5, _, F5, PySem.W.mg_of X Gg a5, b5⟩ B G c_need_deeds
  have c_cost_of : Cal P w K mg base 3 "cost_of" (sp_cost_of K C) := ok_cost_of ⟨f6, _, F6, PySem.W.mg_of X Gg a6, b6⟩ B G c_need_deeds c_need_cost
  have c_Prices___init__ : MakP P w K mg base 1 "Prices" C.Prices (sp_Prices___init__ K C) := ok_Prices___init__ ⟨mkPrices, a7, i7, kcPrices⟩ F7 b7 B G 
  have c_Prices_with_steps : MetP P w K mg base 1 C.Prices "with_steps" (sp_Prices_with_steps K C) := ok_Prices_with_steps ⟨a8, i8, k8⟩ F8 b8 B G 
  have c_Prices_least_of : MetP P w K mg base 1 C.Prices "least_of" (sp_Prices_least_of K C) := ok_Prices_least_of ⟨a9, i9, k9⟩ F9 b9 B G 
  have c_Prices_least : MetP P w K mg base 2 C.Prices "least" (sp_Prices_least K C) := ok_Prices_least ⟨a10, i10, k10⟩ F10 b10 B G c_Prices_least_of c_Prices_with_steps
  have c_turned : Cal P w K mg base 1 "turned" (sp_turned K C) := ok_turned ⟨f11, _, F11, PySem.W.mg_of X Gg a11, b11⟩ B G 
  have c_least : Cal P w K mg base 3 "least" (sp_least K C) := ok_least ⟨f12, _, F12, PySem.W.mg_of X Gg a12, b12⟩ B G c_need_number c_need_cost c_Prices___init__ c_Prices_least c_turned
  have c__law_cell_at : Cal P w K mg base 1 "_law_cell_at" (sp__law_cell_at K C) := ok__law_cell_at ⟨f13, _, F13, PySem.W.mg_of X Gg a13, b13⟩ B G 
  have c__law_mixed : Cal P w K mg base 1 "_law_mixed" (sp__law_mixed K C) := ok__law_mixed ⟨f14, _, F14, PySem.W.mg_of X Gg a14, b14⟩ B G 
  have c__law_costs : Cal P w K mg base 1 "_law_costs" (sp__law_costs K C) := ok__law_costs ⟨f15, _, F15, PySem.W.mg_of X Gg a15, b15⟩ B G 
  have c__law_told : Cal P w K mg base 4 "_law_told" (sp__law_told_k11 K C) := ok__law_told ⟨f16, _, F16, PySem.W.mg_of X Gg a16, b16⟩ B G c_least
  exact ok_law F17 B G c__law_mixed c__law_cell_at c__law_costs c_least c_led c_cost_of c__law_told
theorem walk {l : PySem.W.OpenLaw} {q : Program} {loose : List Str} {XP : (Str → Option Value) → Heap → Prop} {YP : World → Heap → Prop} {d : DefRec} {K : Params → PySem.W.Frag} (hn : l.most = some 63) (hdf : d.params.defaults = [])
    (hY : ∀ (w : World) (h : Heap), YP w h → (K w.params).In h)
    (F : ∀ (w : World) (mg : Str → Option Value) (fa : Addr) (h : Heap), (K w.params).In h → h.Ns mainGlobals mg → mg d.name = some (.ref fa) →
      ∃ fd : FuncData, (∀ (s : Shared) (u : Value), BindsTo s fd ⟨[u], []⟩ [("_law_script", u)]) ∧ ∀ base : Heap, (K w.params).In base → base.Ns mainGlobals mg → FnOk l.prog w (K w.params) mg base (L2.CX l.prog w) 5 fa fd ["_law_script"] (spLaw (K w.params))) :
    PySem.W.WalkO q loose XP YP l.row.toRowW d [] (fun f vs => PySem.call f vs) :=
  L2.walk_ofB (n := 63) (k := 5) (x := "_law_script") (CX := fun w => L2.CX l.prog w) (sp := fun w => spLaw (K w.params)) hn (by decide) hdf ⟨rfl, by decide, by decide⟩ hY F
    (fun _ _ a ns hl hb _ hS => ⟨a, ns, rfl, hS, hl, fun z hz => bits_lt (hb z hz), fun _ => rfl⟩) fun _ _ _ _ _ h => by
      obtain ⟨_, _, _, _, _, _, _, _, _, _, _, _, z⟩ := h
      exact z.elim
end Lf
open PySem PySem.W PyProof.Rows
set_option maxRecDepth 100000 in
set_option maxHeartbeats 0 in
theorem PySem.Challenge.cw_leanfigures_k11_whole_least_small_ones_holds : PySem.Challenge.rw_leanfigures_k11_whole_least_small_ones.Holds := by
  w_on; o_law; k_head; (case hw => w_witness2)
  k_fill
  refine Lf.walk (l := PySem.Challenge.rw_leanfigures_k11_whole_least_small_ones) rfl rfl (fun w h Y => PySem.W.kIn_of Y) ?F
  case F =>
    intro w mg fa h KX G hmg
    refine' Lf.all_mk KX G hmg ?gPrices ?a1 ?l1 ?c1 ?k1 ?a2 ?l2 ?c2 ?k2 ?a3 ?l3 ?c3 ?k3 ?a4 ?l4 ?c4 ?k4 ?a5 ?l5 ?c5 ?k5 ?a6 ?l6 ?c6 ?k6 ?a7 ?i7 ?l7 ?c7 ?k7 ?a8 ?i8 ?l8 ?c8 ?k8 ?a9 ?i9 ?l9 ?c9 ?k9 ?a10 ?i10 ?l10 ?c10 ?k10 ?a11 ?l11 ?c11 ?k11 ?a12 ?l12 ?c12 ?k12 ?a13 ?l13 ?c13 ?k13 ?a14 ?l14 ?c14 ?k14 ?a15 ?l15 ?c15 ?k15 ?a16 ?l16 ?c16 ?k16 ?a17 ?l17 ?c17 ?k17 ?gLeanError ?xLeanError ?kLeanError ?bLeanError ?tLeanError ?iLeanError ?gNoNumber ?xNoNumber ?kNoNumber ?bNoNumber ?tNoNumber ?iNoNumber ?gNoRow ?xNoRow ?kNoRow ?bNoRow ?tNoRow ?iNoRow ?gNoText ?xNoText ?kNoText ?bNoText ?tNoText ?iNoText ?gNoDeeds ?xNoDeeds ?kNoDeeds ?bNoDeeds ?tNoDeeds ?iNoDeeds ?gNoCost ?xNoCost ?kNoCost ?bNoCost ?tNoCost ?iNoCost ?sNoNumber_NoRow ?sNoNumber_NoText ?sNoNumber_NoDeeds ?sNoNumber_NoNumber ?sNoCost_NoRow ?sNoCost_NoText ?sNoCost_NoDeeds ?sNoCost_NoNumber ?sNoCost_NoCost ?pgPrices ?hdPrices ?poPrices ?saPrices ?mkPrices ?kcPrices ?nPrices_double ?nPrices_step ?uMOST_COST_ ?rMOST_COST_ ?uMOST_STEPS_ ?rMOST_STEPS_ ?z_isinstance ?z_int ?z_bool ?z_str ?z_list ?z_tuple ?z_len ?z_all ?z_sum ?z_abs ?z_min ?z_max ?z_reversed ?z_zip ?z_enumerate ?z_range ?z_ValueError
    (case gPrices => k_is)
    (case a1 => k_is)
    (case l1 => k_is)
    (case c1 => k_is)
    (case k1 => k_is)
    (case a2 => k_is)
    (case l2 => k_is)
    (case c2 => k_is)
    (case k2 => k_is)
    (case a3 => k_is)
    (case l3 => k_is)
    (case c3 => k_is)
    (case k3 => k_is)
    (case a4 => k_is)
    (case l4 => k_is)
    (case c4 => k_is)
    (case k4 => k_is)
    (case a5 => k_is)
    (case l5 => k_is)
    (case c5 => k_is)
    (case k5 => k_is)
    (case a6 => k_is)
    (case l6 => k_is)
    (case c6 => k_is)
    (case k6 => k_is)
    (case a7 => k_is)
    (case i7 => k_is)
    (case l7 => k_is)
    (case c7 => k_is)
    (case k7 => k_is)
    (case a8 => k_is)
    (case i8 => k_is)
    (case l8 => k_is)
    (case c8 => k_is)
    (case k8 => k_is)
    (case a9 => k_is)
    (case i9 => k_is)
    (case l9 => k_is)
    (case c9 => k_is)
    (case k9 => k_is)
    (case a10 => k_is)
    (case i10 => k_is)
    (case l10 => k_is)
    (case c10 => k_is)
    (case k10 => k_is)
    (case a11 => k_is)
    (case l11 => k_is)
    (case c11 => k_is)
    (case k11 => k_is)
    (case a12 => k_is)
    (case l12 => k_is)
    (case c12 => k_is)
    (case k12 => k_is)
    (case a13 => k_is)
    (case l13 => k_is)
    (case c13 => k_is)
    (case k13 => k_is)
    (case a14 => k_is)
    (case l14 => k_is)
    (case c14 => k_is)
    (case k14 => k_is)
    (case a15 => k_is)
    (case l15 => k_is)
    (case c15 => k_is)
    (case k15 => k_is)
    (case a16 => k_is)
    (case l16 => k_is)
    (case c16 => k_is)
    (case k16 => k_is)
    (case a17 => k_is)
    (case l17 => k_is)
    (case c17 => k_is)
    (case k17 => k_is)
    (case gLeanError => k_is)
    (case xLeanError => k_exc)
    (case kLeanError => k_is)
    (case bLeanError => k_is)
    (case tLeanError => k_is)
    (case iLeanError => k_is)
    (case gNoNumber => k_is)
    (case xNoNumber => k_exc)
    (case kNoNumber => k_is)
    (case bNoNumber => k_is)
    (case tNoNumber => k_is)
    (case iNoNumber => k_is)
    (case gNoRow => k_is)
    (case xNoRow => k_exc)
    (case kNoRow => k_is)
    (case bNoRow => k_is)
    (case tNoRow => k_is)
    (case iNoRow => k_is)
    (case gNoText => k_is)
    (case xNoText => k_exc)
    (case kNoText => k_is)
    (case bNoText => k_is)
    (case tNoText => k_is)
    (case iNoText => k_is)
    (case gNoDeeds => k_is)
    (case xNoDeeds => k_exc)
    (case kNoDeeds => k_is)
    (case bNoDeeds => k_is)
    (case tNoDeeds => k_is)
    (case iNoDeeds => k_is)
    (case gNoCost => k_is)
    (case xNoCost => k_exc)
    (case kNoCost => k_is)
    (case bNoCost => k_is)
    (case tNoCost => k_is)
    (case iNoCost => k_is)
    (case sNoNumber_NoRow => first | rfl | k_is)
    (case sNoNumber_NoText => first | rfl | k_is)
    (case sNoNumber_NoDeeds => first | rfl | k_is)
    (case sNoNumber_NoNumber => first | rfl | k_is)
    (case sNoCost_NoRow => first | rfl | k_is)
    (case sNoCost_NoText => first | rfl | k_is)
    (case sNoCost_NoDeeds => first | rfl | k_is)
    (case sNoCost_NoNumber => first | rfl | k_is)
    (case sNoCost_NoCost => first | rfl | k_is)
    (case pgPrices => k_is)
    (case hdPrices => k_is)
    (case poPrices => k_is)
    (case saPrices => k_is)
    (case mkPrices => k_is)
    (case kcPrices => k_is)
    (case nPrices_double => k_is)
    (case nPrices_step => k_is)
    (case uMOST_COST_ => k_is)
    (case rMOST_COST_ => exact ⟨_, rfl⟩)
    (case uMOST_STEPS_ => k_is)
    (case rMOST_STEPS_ => exact ⟨_, rfl⟩)
    (case z_isinstance => k_is)
    (case z_int => k_is)
    (case z_bool => k_is)
    (case z_str => k_is)
    (case z_list => k_is)
    (case z_tuple => k_is)
    (case z_len => k_is)
    (case z_all => k_is)
    (case z_sum => k_is)
    (case z_abs => k_is)
    (case z_min => k_is)
    (case z_max => k_is)
    (case z_reversed => k_is)
    (case z_zip => k_is)
    (case z_enumerate => k_is)
    (case z_range => k_is)
    (case z_ValueError => k_is)
#print axioms PySem.Challenge.cw_leanfigures_k11_whole_least_small_ones_holds
