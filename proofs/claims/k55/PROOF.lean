import PyProof.Rows.All
import Wide.All
import OpenK.AllK
import Wide.FinOn
import HandS.ForMost
import HandS.Wide
import HandS.IsInst
import HandS.TupAny
import HandS.Codes
import PySem.Challenge.RW_viewwood_k55_changes_done
set_option Elab.async false
set_option linter.all false
set_option maxRecDepth 100000
/-! Uni: one rule for each construct whatever its values are, and short steps of readings. -/
namespace U
open PySem PySem.Spec PyProof.Rows L2
/-! ### a def that stands in the text, with its promise -/
structure Loc (K : PySem.W.Frag) (mg : Str → Option Value) (x : Str) (ps : List Str) (st : Stmt) : Prop where
  ex : ∃ f fd, Fun K x x st f fd ∧ mg x = some (.ref f) ∧ Binds K fd ps []
structure Fx (P : Program) (w : World) (K : PySem.W.Frag) (mg : Str → Option Value) (base : Heap) (k : Nat) (x : Str) (ps : List Str) (sp : Sp) : Prop where
  ex : ∃ f fd, FnOk P w K mg base CX0 k f fd ps sp ∧ mg x = some (.ref f) ∧ PySem.W.keepIn K (.ref f) = true ∧ Binds K fd ps []
theorem Fx.mono {P : Program} {w : World} {K : PySem.W.Frag} {mg : Str → Option Value} {base : Heap} {j k : Nat} {x : Str} {ps : List Str} {sp : Sp} (F : Fx P w K mg base j x ps sp) (h : j ≤ k) : Fx P w K mg base k x ps sp := by
  obtain ⟨f, fd, a, b, c, d⟩ := F.ex
  exact ⟨f, fd, a.mono h, b, c, d⟩
theorem Loc.ok {P : Program} {w : World} {K : PySem.W.Frag} {mg : Str → Option Value} {base : Heap} {x : Str} {st : Stmt} {N ps : List Str} {k : Nat} {sp : Sp} (L : Loc K mg x ps st) (S : FnScope N ps (defScope st)) (len : ∀ vs H Q E, sp vs H Q E → vs.length = ps.length)
    (hbody : ∀ (f : Addr) (cdv : Value) (A : Around) (outer : List Env) (s : Shared) (H : Hp) (vs : List V) (Q : VK) (E : XK), Room k (A.deeper (envOfC x (defScope st) s.heap.objs.size f cdv)) → sp vs H Q E →
      ∃ t, PSs (cxOf CX0 P w K mg base N x (defScope st) f cdv A outer s H E).nox (defBody st) t ∧ t ⟨fun _ H' => Q .non H', Q, fun _ _ => False, fun _ _ => False⟩ (start N vs) H) : Fx P w K mg base (k + 1) x ps sp := by
  obtain ⟨f, fd, F, m, b⟩ := L.ex
  exact ⟨f, fd, F.ok S len fun cdv A outer s H vs Q E hr h => hbody f cdv A outer s H vs Q E hr h, m, F.kp, b⟩
theorem pe_fx {X : Cx} {k j : Nat} {x : Str} {ps : List Str} {sp : Sp} {e : Expr} {es : List Expr} {t : TA} {p pos : Pos} (G : Fx X.prog X.w X.K X.mg X.base k x ps sp) (hr : Room j X.A) (hkj : k ≤ j) (ha : PA X (e :: es) t) (hg : Gl X x := by rfl)
    (hdb : (x == ("__debug__" : Str)) = false := by decide +kernel)
    (he : starEach (e :: es) X.env = (false, eval e X.env) :: starEach es X.env := by rfl) (hpl : (backTo pos (starEach es X.env)).any (·.1) = false := by rfl) : PE X (.Call (.Name x p) (e :: es) [] pos) (tCall sp [] E0 t) := by
  obtain ⟨f, fd, a, b, c, d⟩ := G.ex
  exact pe_call a (hr.mono hkj) hg b c d .nil pass0 ha (hdb := hdb) (he := he) (hpl := hpl)

/-! ### one rule a construct -/
section
variable {X : Cx}
abbrev r2or (r r' : R2) : R2 := fun x y H Q => r x y H Q ∨ r' x y H Q
def rStrCat : R2 := fun x y H Q => ∃ i j, x = .str i ∧ y = .str j ∧ i.length + j.length ≤ sizeLine ∧ Q (.str (i ++ j)) H
def rAddU (K : PySem.W.Frag) : R2 := r2or (r2or (rI0 fun i j => .int (i + j)) rStrCat) (r2or (rCatA K) rCat)
theorem op_addU : OpR X (binaryOp .Add) (rAddU X.K) := (op_add.or op_add_str).or (op_catA.or op_cat)
def rMaxU : List V → Hp → VK → Prop := fun xs H Q => ∃ i j, xs = [.int i, .int j] ∧ Q (.int (if j > i then j else i)) H
def rMinU : List V → Hp → VK → Prop := fun xs H Q => ∃ i j, xs = [.int i, .int j] ∧ Q (.int (if j < i then j else i)) H
def rAbsU : List V → Hp → VK → Prop := fun xs H Q => ∃ i, xs = [.int i] ∧ Q (.int (if i < 0 then -i else i)) H
def rIntU : List V → Hp → VK → Prop := fun xs H Q => (∃ i, xs = [.int i] ∧ Q (.int i) H) ∨ ∃ k, xs = [.bl k] ∧ Q (.int (if k then 1 else 0)) H
theorem call_maxU (hc : X.calm = true) : CallR X (.builtin "max") rMaxU := call_max2 hc
theorem call_minU (hc : X.calm = true) : CallR X (.builtin "min") rMinU := call_min2 hc
theorem call_absU : CallR X (.builtin "abs") rAbsU := call_abs
theorem call_intU : CallR X (.type "int") rIntU := call_int1
def rLenU (K : PySem.W.Frag) : List V → Hp → VK → Prop := fun xs H Q => (∃ p ys, xs = [.ref p] ∧ (SqL K H p ys ∨ SqT K H p ys) ∧ Q (.int ys.length) H) ∨ (∃ z, xs = [.str z] ∧ z.length ≤ sizeLine ∧ Q (.int z.length) H)
theorem call_lenU : CallR X (.builtin "len") (rLenU X.K) := call_len_seq.or call_len_str
def rMulU : R2 := r2or (r2or (rI CMul fun i j => .int (i * j)) (rI CMulW fun i j => .int (i * j))) rRep
theorem op_mulU : OpR X (binaryOp .Mult) rMulU := (op_mul.or op_mulW).or op_rep
def rEqU (K : PySem.W.Frag) : R2 := r2or rEq (rEqD K)
theorem op_eqU (hu : X.A.units + 64 < cLine) : OpR X (compareOp .Eq) (rEqU X.K) := op_eq.or (op_eqD hu)
def rNeU (K : PySem.W.Frag) : R2 := r2or rNe (rNeD K)
theorem op_neU (hu : X.A.units + 64 < cLine) : OpR X (compareOp .NotEq) (rNeU X.K) := op_ne.or (op_neD hu)
end
theorem u64 {A : Around} {k : Nat} (hr : Room k A) : A.units + 64 < cLine := hr.units
section
variable {K : PySem.W.Frag} {H : Hp} {Q : VK} {i j : Int}
theorem w_addI (q : Q (.int (i + j)) H) : rAddU K (.int i) (.int j) H Q := .inl (.inl ⟨i, j, rfl, rfl, q⟩)
theorem w_addS {a b : Str} (h : a.length + b.length ≤ sizeLine) (q : Q (.str (a ++ b)) H) : rAddU K (.str a) (.str b) H Q := .inl (.inr ⟨a, b, rfl, rfl, h, q⟩)
theorem w_sub (q : Q (.int (i - j)) H) : rI0 (fun i j => .int (i - j)) (.int i) (.int j) H Q := ⟨i, j, rfl, rfl, q⟩
theorem w_rI0 {g : Int → Int → V} (q : Q (g i j) H) : rI0 g (.int i) (.int j) H Q := ⟨i, j, rfl, rfl, q⟩
theorem w_rI {C : Int → Int → Prop} {g : Int → Int → V} (c : C i j) (q : Q (g i j) H) : rI C g (.int i) (.int j) H Q := ⟨i, j, rfl, rfl, c, q⟩
theorem w_mulI (c : (-(2 ^ 64) < i ∧ i < 2 ^ 64) ∨ (-(2 ^ 64) < j ∧ j < 2 ^ 64)) (q : Q (.int (i * j)) H) : rMulU (.int i) (.int j) H Q := .inl (.inl ⟨i, j, rfl, rfl, c, q⟩)
theorem w_max (q : Q (.int (if j > i then j else i)) H) : rMaxU [.int i, .int j] H Q := ⟨i, j, rfl, q⟩
theorem w_min (q : Q (.int (if j < i then j else i)) H) : rMinU [.int i, .int j] H Q := ⟨i, j, rfl, q⟩
theorem w_abs (q : Q (.int (if i < 0 then -i else i)) H) : rAbsU [.int i] H Q := ⟨i, rfl, q⟩
theorem w_intI (q : Q (.int i) H) : rIntU [.int i] H Q := .inl ⟨i, rfl, q⟩
theorem w_intB {k : Bool} (q : Q (.int (if k then 1 else 0)) H) : rIntU [.bl k] H Q := .inr ⟨k, rfl, q⟩
theorem w_pow9 (q : Q (.int 1000000000) H) : rI CPow (fun i j => .int (i ^ j.toNat)) (.int 10) (.int 9) H Q := ⟨10, 9, rfl, rfl, ⟨by decide, by decide, by decide⟩, q⟩
theorem w_pow18 (q : Q (.int 1000000000000000000) H) : rI CPow (fun i j => .int (i ^ j.toNat)) (.int 10) (.int 18) H Q := ⟨10, 18, rfl, rfl, ⟨by decide, by decide, by decide⟩, q⟩
theorem w_pow6 (q : Q (.int 1000000) H) : rI CPow (fun i j => .int (i ^ j.toNat)) (.int 10) (.int 6) H Q := ⟨10, 6, rfl, rfl, ⟨by decide, by decide, by decide⟩, q⟩
theorem w_pow59 (q : Q (.int 100000000000000000000000000000000000000000000000000000000000) H) : rI CPow (fun i j => .int (i ^ j.toNat)) (.int 10) (.int 59) H Q := ⟨10, 59, rfl, rfl, ⟨by decide, by decide, by decide⟩, q⟩
theorem w_lenL {p : Addr} {ys : List V} (h : SqL K H p ys) (q : Q (.int ys.length) H) : rLenU K [.ref p] H Q := .inl ⟨p, ys, rfl, .inl h, q⟩
theorem w_lenT {p : Addr} {ys : List V} (h : SqT K H p ys) (q : Q (.int ys.length) H) : rLenU K [.ref p] H Q := .inl ⟨p, ys, rfl, .inr h, q⟩
theorem w_lenS {z : Str} (h : z.length ≤ sizeLine) (q : Q (.int z.length) H) : rLenU K [.str z] H Q := .inr ⟨z, rfl, h, q⟩
theorem w_ixL {p : Addr} {xs : List V} {v : V} (h : SqL K H p xs) (e : atI xs i = some v) (q : Q v H) : rIx K (.ref p) (.int i) H Q := .inl ⟨p, xs, i, v, rfl, rfl, h, e, q⟩
theorem w_ixT {p : Addr} {xs : List V} {v : V} (h : SqT K H p xs) (e : atI xs i = some v) (q : Q v H) : rIx K (.ref p) (.int i) H Q := .inr (.inl ⟨p, xs, i, v, rfl, rfl, h, e, q⟩)
theorem w_setL {p : Addr} {xs : List V} {v : V} {j : Nat} {Q : Hp → Prop} (h : H p = some (.lst xs)) (e : ixN xs.length i = some j) (q : Q (upd H p (.lst (xs.set j v)))) : rSetL (.ref p) (.int i) v H Q := ⟨p, xs, i, j, rfl, rfl, h, e, q⟩
theorem w_isi {x : V} {n : String} {t : Value} {b : Bool} (ty : TyX K H x t) (e : PySem.W.kitOne K t (.type n) = some b) (q : Q (.bl b) H) : rIsi K [x, .ty n] H Q := ⟨x, .ty n, t, .type n, b, rfl, .ty n, ty, e, q⟩
/-! isinstance of plain values -/
theorem is_non_int (q : Q (.bl false) H) : rIsi K [.non, .ty "int"] H Q := w_isi (.base .non) (kit_ty (by decide +kernel)) q
theorem is_non_bool (q : Q (.bl false) H) : rIsi K [.non, .ty "bool"] H Q := w_isi (.base .non) (kit_ty (by decide +kernel)) q
theorem is_non_str (q : Q (.bl false) H) : rIsi K [.non, .ty "str"] H Q := w_isi (.base .non) (kit_ty (by decide +kernel)) q
theorem is_non_tuple (q : Q (.bl false) H) : rIsi K [.non, .ty "tuple"] H Q := w_isi (.base .non) (kit_ty (by decide +kernel)) q
theorem is_non_list (q : Q (.bl false) H) : rIsi K [.non, .ty "list"] H Q := w_isi (.base .non) (kit_ty (by decide +kernel)) q
theorem is_non_dict (q : Q (.bl false) H) : rIsi K [.non, .ty "dict"] H Q := w_isi (.base .non) (kit_ty (by decide +kernel)) q
theorem is_bl_int {u : Bool} (q : Q (.bl true) H) : rIsi K [(.bl u), .ty "int"] H Q := w_isi (.base (.bl _)) (kit_ty (by decide +kernel)) q
theorem is_bl_bool {u : Bool} (q : Q (.bl true) H) : rIsi K [(.bl u), .ty "bool"] H Q := w_isi (.base (.bl _)) (kit_ty (by decide +kernel)) q
theorem is_bl_str {u : Bool} (q : Q (.bl false) H) : rIsi K [(.bl u), .ty "str"] H Q := w_isi (.base (.bl _)) (kit_ty (by decide +kernel)) q
theorem is_bl_tuple {u : Bool} (q : Q (.bl false) H) : rIsi K [(.bl u), .ty "tuple"] H Q := w_isi (.base (.bl _)) (kit_ty (by decide +kernel)) q
theorem is_bl_list {u : Bool} (q : Q (.bl false) H) : rIsi K [(.bl u), .ty "list"] H Q := w_isi (.base (.bl _)) (kit_ty (by decide +kernel)) q
theorem is_bl_dict {u : Bool} (q : Q (.bl false) H) : rIsi K [(.bl u), .ty "dict"] H Q := w_isi (.base (.bl _)) (kit_ty (by decide +kernel)) q
theorem is_int_int {u : Int} (q : Q (.bl true) H) : rIsi K [(.int u), .ty "int"] H Q := w_isi (.base (.int _)) (kit_ty (by decide +kernel)) q
theorem is_int_bool {u : Int} (q : Q (.bl false) H) : rIsi K [(.int u), .ty "bool"] H Q := w_isi (.base (.int _)) (kit_ty (by decide +kernel)) q
theorem is_int_str {u : Int} (q : Q (.bl false) H) : rIsi K [(.int u), .ty "str"] H Q := w_isi (.base (.int _)) (kit_ty (by decide +kernel)) q
theorem is_int_tuple {u : Int} (q : Q (.bl false) H) : rIsi K [(.int u), .ty "tuple"] H Q := w_isi (.base (.int _)) (kit_ty (by decide +kernel)) q
theorem is_int_list {u : Int} (q : Q (.bl false) H) : rIsi K [(.int u), .ty "list"] H Q := w_isi (.base (.int _)) (kit_ty (by decide +kernel)) q
theorem is_int_dict {u : Int} (q : Q (.bl false) H) : rIsi K [(.int u), .ty "dict"] H Q := w_isi (.base (.int _)) (kit_ty (by decide +kernel)) q
theorem is_str_int {u : Str} (q : Q (.bl false) H) : rIsi K [(.str u), .ty "int"] H Q := w_isi (.base (.str _)) (kit_ty (by decide +kernel)) q
theorem is_str_bool {u : Str} (q : Q (.bl false) H) : rIsi K [(.str u), .ty "bool"] H Q := w_isi (.base (.str _)) (kit_ty (by decide +kernel)) q
theorem is_str_str {u : Str} (q : Q (.bl true) H) : rIsi K [(.str u), .ty "str"] H Q := w_isi (.base (.str _)) (kit_ty (by decide +kernel)) q
theorem is_str_tuple {u : Str} (q : Q (.bl false) H) : rIsi K [(.str u), .ty "tuple"] H Q := w_isi (.base (.str _)) (kit_ty (by decide +kernel)) q
theorem is_str_list {u : Str} (q : Q (.bl false) H) : rIsi K [(.str u), .ty "list"] H Q := w_isi (.base (.str _)) (kit_ty (by decide +kernel)) q
theorem is_str_dict {u : Str} (q : Q (.bl false) H) : rIsi K [(.str u), .ty "dict"] H Q := w_isi (.base (.str _)) (kit_ty (by decide +kernel)) q
theorem w_rU {g : Int → V} (q : Q (g i) H) : rU g (.int i) H Q := ⟨i, rfl, q⟩
theorem dec_int {a b : Int} : decide (V.int a = V.int b) = decide (a = b) := by
  by_cases h : a = b
  · subst h; simp
  · rw [decide_eq_false h, decide_eq_false fun e => h (V.int.inj e)]
theorem dec_str {a b : Str} : decide (V.str a = V.str b) = decide (a = b) := by
  by_cases h : a = b
  · subst h; simp
  · rw [decide_eq_false h, decide_eq_false fun e => h (V.str.inj e)]
theorem dec_bl {a b : Bool} : decide (V.bl a = V.bl b) = decide (a = b) := by
  by_cases h : a = b
  · subst h; simp
  · rw [decide_eq_false h, decide_eq_false fun e => h (V.bl.inj e)]
theorem w_eqI (q : Q (.bl (decide (i = j))) H) : rEqU K (.int i) (.int j) H Q := .inl ⟨rfl, by rw [dec_int]; exact q⟩
theorem w_eqS {a b : Str} (q : Q (.bl (decide (a = b))) H) : rEqU K (.str a) (.str b) H Q := .inl ⟨rfl, by rw [dec_str]; exact q⟩
theorem w_eqB {a b : Bool} (q : Q (.bl (decide (a = b))) H) : rEqU K (.bl a) (.bl b) H Q := .inl ⟨rfl, by rw [dec_bl]; exact q⟩
theorem w_neI (q : Q (.bl (!decide (i = j))) H) : rNeU K (.int i) (.int j) H Q := .inl ⟨rfl, by rw [dec_int]; exact q⟩
theorem w_neS {a b : Str} (q : Q (.bl (!decide (a = b))) H) : rNeU K (.str a) (.str b) H Q := .inl ⟨rfl, by rw [dec_str]; exact q⟩
theorem w_neB {a b : Bool} (q : Q (.bl (!decide (a = b))) H) : rNeU K (.bl a) (.bl b) H Q := .inl ⟨rfl, by rw [dec_bl]; exact q⟩
theorem w_eqD {x y : V} {d e : PyData} (hx : Dp K H x d) (hy : Dp K H y e) (sx : SeqAt.shaped d = true) (sy : SeqAt.shaped e = true) (q : Q (.bl (PyData.eqv d e)) H) : rEqU K x y H Q := .inr ⟨d, e, hx, hy, sx, sy, q⟩
theorem w_neD {x y : V} {d e : PyData} (hx : Dp K H x d) (hy : Dp K H y e) (sx : SeqAt.shaped d = true) (sy : SeqAt.shaped e = true) (q : Q (.bl (!PyData.eqv d e)) H) : rNeU K x y H Q := .inr ⟨d, e, hx, hy, sx, sy, q⟩
end
/-! ### steps of a reading -/
section
variable {K : PySem.W.Frag} {σ : L2.St} {H : Hp} {Q : VK} {QB : Bool → Hp → Prop} {QA : List V → Hp → Prop} {ta tb tc : TE} {t u : TT} {v : V} {i : Nat} {r r' : R2}
theorem w_var (h : σ[i]? = some (some v)) (q : Q v H) : tVar i σ H Q := ⟨v, h, q⟩
theorem w_c (q : Q v H) : tC v σ H Q := q
theorem w_op (q : ta σ H fun x H1 => tb σ H1 fun y H2 => r x y H2 Q) : tOp r ta tb σ H Q := q
theorem w_un {r : V → Hp → VK → Prop} (q : ta σ H fun x H1 => r x H1 Q) : tUn r ta σ H Q := q
theorem w_chain (q : ta σ H fun x H1 => tb σ H1 fun y H2 => r x y H2 fun z H3 => ∃ k, z = .bl k ∧ (if k = true then tc σ H3 fun w' H4 => r' y w' H4 Q else Q (.bl false) H3)) : tChain r r' ta tb tc σ H Q := q
theorem w_bl {b : Bool} {P : Bool → Prop} (q : P b) : ∃ k, V.bl b = .bl k ∧ P k := ⟨b, rfl, q⟩
theorem w_test (q : ta σ H fun x H' => ∃ k, x = .bl k ∧ QB k H') : tTest ta σ H QB := q
theorem w_B (q : ta σ H fun x H' => ∃ k, x = .bl k ∧ QB k H') : tB ta σ H QB := q
theorem w_and (q : t σ H fun c H1 => if c = true then u σ H1 QB else QB false H1) : tAnd t u σ H QB := q
theorem w_or (q : t σ H fun c H1 => if c = true then QB true H1 else u σ H1 QB) : tOr t u σ H QB := q
theorem w_not (q : t σ H fun c H1 => QB (!c) H1) : tNot t σ H QB := q
theorem w_andV (q : ta σ H fun x H1 => ∃ c, x = .bl c ∧ if c = true then tb σ H1 Q else Q (.bl false) H1) : tAndV ta tb σ H Q := q
theorem w_orV (q : ta σ H fun x H1 => ∃ c, x = .bl c ∧ if c = true then Q (.bl true) H1 else tb σ H1 Q) : tOrV ta tb σ H Q := q
theorem w_notV (q : ta σ H fun x H1 => ∃ c, x = .bl c ∧ Q (.bl (!c)) H1) : tNotV ta σ H Q := q
theorem w_if (q : t σ H fun c H1 => if c = true then ta σ H1 Q else tb σ H1 Q) : tIf t ta tb σ H Q := q
theorem w_isN (q : ta σ H fun x H1 => Q (.bl (decide (x = .non))) H1) : tIsN ta σ H Q := q
theorem w_notN (q : ta σ H fun x H1 => Q (.bl (!decide (x = .non))) H1) : tNotN ta σ H Q := q
theorem w_nil (q : QA [] H) : tNil σ H QA := q
theorem w_cons {tr : TA} (q : ta σ H fun x H1 => tr σ H1 fun xs H2 => QA (x :: xs) H2) : tCons ta tr σ H QA := q
theorem w_tup {tr : TA} (q : tr σ H fun xs H1 => xs.length ≤ sizeLine ∧ ∀ p, H1 p = none → Q (.ref p) (upd H1 p (.tup xs))) : tTup tr σ H Q := q
theorem w_lst {tr : TA} (q : tr σ H fun xs H1 => xs.length ≤ sizeLine ∧ ∀ p, H1 p = none → Q (.ref p) (upd H1 p (.lst xs))) : tLst tr σ H Q := q
theorem w_call {sp : Sp} {dvs : List V} {E : XK} {tr : TA} (q : tr σ H fun vs H1 => sp (vs ++ dvs) H1 Q E) : tCall sp dvs E tr σ H Q := q
theorem w_cb {rc : List V → Hp → VK → Prop} {tr : TA} (q : tr σ H fun vs H1 => rc vs H1 Q) : tCB rc tr σ H Q := q
theorem w_bm {T : String} {rm : V → List V → Hp → VK → Prop} {tr : TA} (q : ta σ H fun x H1 => tyV K T x H1 ∧ tr σ H1 fun xs H2 => rm x xs H2 Q) : tBM K T rm ta tr σ H Q := q
theorem w_bm0 {T : String} {rm : V → List V → Hp → VK → Prop} (q : ta σ H fun x H1 => tyV K T x H1 ∧ rm x [] H1 Q) : tBM0 K T rm ta σ H Q := q
end
section
variable {σ : L2.St} {H : Hp} {n b c : L2.St → Hp → Prop} {r : VK} {t u : TS} {te : TE} {tt : TT} {g : TG} {v : V} {i : Nat}
theorem w_cut (M : L2.St → Hp → Prop) (h1 : t ⟨M, r, b, c⟩ σ H) (h2 : ∀ σ' H', M σ' H' → u ⟨n, r, b, c⟩ σ' H') : C8.tCut t u ⟨n, r, b, c⟩ σ H := ⟨M, h1, h2⟩
theorem w_sub' {Q : L2.St → Hp → Prop} {to ti : TE} {ts : TSet} (q : to σ H fun o H1 => ti σ H1 fun i H2 => ts o i v H2 fun H3 => Q σ H3) : gSub to ti ts v σ H Q := q
theorem w_seq (q : t ⟨u ⟨n, r, b, c⟩, r, b, c⟩ σ H) : tSeq t u ⟨n, r, b, c⟩ σ H := q
theorem w_asg (q : te σ H fun x H1 => g x σ H1 n) : tAsg te g ⟨n, r, b, c⟩ σ H := q
theorem w_name {Q : L2.St → Hp → Prop} (q : Q (σ.set i (some v)) H) : gName i v σ H Q := q
theorem w_ret (q : te σ H r) : tRet te ⟨n, r, b, c⟩ σ H := q
theorem w_retN (q : r .non H) : tRetN ⟨n, r, b, c⟩ σ H := q
theorem w_drop (q : te σ H fun _ H1 => n σ H1) : tDrop te ⟨n, r, b, c⟩ σ H := q
theorem w_ifS (q : tt σ H fun k H1 => if k = true then t ⟨n, r, b, c⟩ σ H1 else u ⟨n, r, b, c⟩ σ H1) : tIfS tt t u ⟨n, r, b, c⟩ σ H := q
theorem w_next (q : n σ H) : tNext ⟨n, r, b, c⟩ σ H := q
theorem w_break (q : b σ H) : tBreak ⟨n, r, b, c⟩ σ H := q
theorem w_cont (q : c σ H) : tCont ⟨n, r, b, c⟩ σ H := q
end
/-! ### loops -/
/-- the turns of a for over J -/
def FOR (J : It) (g : TG) (tb : TS) (D : Ends) (σ : L2.St) (H1 : Hp) : Prop :=
  ∃ W : Nat → Nat → L2.St → Hp → Prop, (∃ m, W 0 m σ H1) ∧
    ∀ i m σ H, W i m σ H → (J.stop i H ∧ D.nx σ H) ∨ (J.go i H ∧
      ∃ N : L2.St → Hp → Prop, (∀ σ' H', N σ' H' → ∃ m', m' < m ∧ W (i + 1) m' σ' H') ∧
        ∀ x H', J.yld i H x H' → g x σ H' fun σ2 H2 => tb { D with nx := N, ct := N, bk := D.nx } σ2 H2)
section
variable {K : PySem.W.Frag} {σ : L2.St} {H : Hp} {nx b c : L2.St → Hp → Prop} {rt : VK} {g : TG} {tb : TS} {D : Ends}
theorem w_for {wi : TI} (q : wi σ H fun J H1 => FOR J g tb D σ H1) : tFor wi g tb D σ H := q
theorem w_iR1 {ta : TA} {R : It → Hp → Prop} (q : ta σ H fun vs H1 => ∃ j : Int, vs = [.int j] ∧ -(2 ^ 62) ≤ j ∧ j < 2 ^ 62 ∧ R (Itr 0 j.toNat) H1) : iRng1 ta σ H R := q
theorem w_iR2 {ta : TA} {R : It → Hp → Prop} (q : ta σ H fun vs H1 => ∃ i j : Int, vs = [.int i, .int j] ∧ (-(2 ^ 62) ≤ i ∧ i < 2 ^ 62 ∧ -(2 ^ 62) ≤ j ∧ j < 2 ^ 62) ∧ R (Itr i (j - i).toNat) H1) : iRng2 ta σ H R := q
theorem w_iL {tl : TE} {R : It → Hp → Prop} (q : tl σ H fun x H1 => ∃ a, x = .ref a ∧ (∃ xs, SqL K H1 a xs) ∧ R (Itl K a) H1) : iList K tl σ H R := q
theorem w_iT {tl : TE} {R : It → Hp → Prop} (q : tl σ H fun x H1 => ∃ a, x = .ref a ∧ (∃ xs, SqT K H1 a xs) ∧ R (Itt K a) H1) : iTup K tl σ H R := q
theorem F_R1 {j : Int} (n : Nat) (hn : j.toNat = n) (h1 : -(2 ^ 62) ≤ j) (h2 : j < 2 ^ 62) (Pv : Nat → L2.St → Hp → Prop) (h0 : Pv 0 σ H)
    (hs : ∀ i σ H, i < n → Pv i σ H → g (.int i) σ H fun σ2 H2 => tb ⟨Pv (i + 1), rt, nx, Pv (i + 1)⟩ σ2 H2) (hd : ∀ σ H, Pv n σ H → nx σ H) :
    ∃ j' : Int, [V.int j] = [.int j'] ∧ -(2 ^ 62) ≤ j' ∧ j' < 2 ^ 62 ∧ FOR (Itr 0 j'.toNat) g tb ⟨nx, rt, b, c⟩ σ H := by
  subst hn
  refine ⟨j, rfl, h1, h2, ?_⟩
  exact for_range (D := ⟨nx, rt, b, c⟩) Pv h0 (fun i σ H hi p => by rw [Int.zero_add]; exact hs i σ H hi p) hd
theorem F_L {a : Addr} {xs : List V} (h : SqL K H a xs) (Pv : Nat → L2.St → Hp → Prop) (h0 : Pv 0 σ H) (hl : ∀ i σ H, i ≤ xs.length → Pv i σ H → SqL K H a xs)
    (hs : ∀ i x σ H, xs[i]? = some x → Pv i σ H → g x σ H fun σ2 H2 => tb ⟨Pv (i + 1), rt, nx, Pv (i + 1)⟩ σ2 H2) (hd : ∀ σ H, Pv xs.length σ H → nx σ H) :
    ∃ a', V.ref a = .ref a' ∧ (∃ ys, SqL K H a' ys) ∧ FOR (Itl K a') g tb ⟨nx, rt, b, c⟩ σ H :=
  ⟨a, rfl, ⟨xs, h⟩, for_list (D := ⟨nx, rt, b, c⟩) Pv h0 hl hs hd⟩
theorem F_T {a : Addr} {xs : List V} (h : SqT K H a xs) (Pv : Nat → L2.St → Hp → Prop) (h0 : Pv 0 σ H) (hl : ∀ i σ H, i ≤ xs.length → Pv i σ H → SqT K H a xs)
    (hs : ∀ i x σ H, xs[i]? = some x → Pv i σ H → g x σ H fun σ2 H2 => tb ⟨Pv (i + 1), rt, nx, Pv (i + 1)⟩ σ2 H2) (hd : ∀ σ H, Pv xs.length σ H → nx σ H) :
    ∃ a', V.ref a = .ref a' ∧ (∃ ys, SqT K H a' ys) ∧ FOR (Itt K a') g tb ⟨nx, rt, b, c⟩ σ H :=
  ⟨a, rfl, ⟨xs, h⟩, for_tup (D := ⟨nx, rt, b, c⟩) Pv h0 hl hs hd⟩
end
/-- a test's outcome, as a proposition -/
theorem ite_d {c : Prop} [Decidable c] {A B : Prop} (h1 : c → A) (h2 : ¬ c → B) : if decide c = true then A else B := by
  by_cases h : c
  · rw [if_pos (decide_eq_true h)]; exact h1 h
  · rw [if_neg (by rw [decide_eq_false h]; decide)]; exact h2 h
theorem ite_nd {c : Prop} [Decidable c] {A B : Prop} (h1 : ¬ c → A) (h2 : c → B) : if (!decide c) = true then A else B := by
  by_cases h : c
  · rw [if_neg (by rw [decide_eq_true h]; decide)]; exact h2 h
  · rw [if_pos (by rw [decide_eq_false h]; decide)]; exact h1 h
theorem ite_b {k : Bool} {A B : Prop} (h1 : k = true → A) (h2 : k = false → B) : if k = true then A else B := by
  cases k
  · exact h2 rfl
  · exact h1 rfl
/-! ### heaps -/
/-- all that was tracked, but for S, is as it was -/
def Fr (S : List Addr) (H H' : Hp) : Prop := ∀ a o, H a = some o → a ∉ S → H' a = some o
theorem Fr.refl {S : List Addr} {H : Hp} : Fr S H H := fun _ _ h _ => h
theorem Fr.trans {S : List Addr} {H H1 H2 : Hp} (a : Fr S H H1) (b : Fr S H1 H2) : Fr S H H2 := fun x o h n => b x o (a x o h n) n
theorem Fr.new {S : List Addr} {H : Hp} {p : Addr} {o : HO} (h : H p = none) : Fr S H (upd H p o) := fun a u e _ => by
  rw [upd_ne (ne_of_none e h)]
  exact e
theorem Fr.mut {S : List Addr} {H : Hp} {p : Addr} {o : HO} (h : p ∈ S) : Fr S H (upd H p o) := fun a u e n => by
  rw [upd_ne (by rintro rfl; exact n h)]
  exact e
theorem Fr.mono {S S' : List Addr} {H H' : Hp} (a : Fr S H H') (h : ∀ x ∈ S, x ∈ S') : Fr S' H H' := fun x o e n => a x o e fun z => n (h x z)
theorem Fr.free {H H' : Hp} (e : Fr [] H H') {l : Addr} (h : H' l = none) : H l = none := by
  cases q : H l with
  | none => rfl
  | some o =>
    rw [e l o q (by simp)] at h
    cases h
/-- what is new may change -/
theorem Fr.new_mut {S : List Addr} {H H' : Hp} {p : Addr} (hp : H p = none) (a : Fr (p :: S) H H') : Fr S H H' := fun x o e n => a x o e (by
  intro z
  rcases List.mem_cons.mp z with z | z
  · subst z; rw [hp] at e; cases e
  · exact n z)
theorem Fr.seqL {S : List Addr} {K : PySem.W.Frag} {H H' : Hp} {a : Addr} {xs : List V} (e : Fr S H H') (h : SqL K H a xs) (n : a ∉ S) : SqL K H' a xs := by
  rcases h with (h | ⟨o, h⟩) | h
  · exact .inl (.inl (e _ _ h n))
  · exact .inl (.inr ⟨o, e _ _ h n⟩)
  · exact .inr h
theorem Fr.seqT {S : List Addr} {K : PySem.W.Frag} {H H' : Hp} {a : Addr} {xs : List V} (e : Fr S H H') (h : SqT K H a xs) (n : a ∉ S) : SqT K H' a xs := by
  rcases h with (h | ⟨o, h⟩) | h
  · exact .inl (.inl (e _ _ h n))
  · exact .inl (.inr ⟨o, e _ _ h n⟩)
  · exact .inr h
/-- an open place of a list of ints all of which hold P -/
theorem at_all {ns : List Int} {P : Int → Prop} (hP : ∀ z ∈ ns, P z) {p : Int} (h0 : 0 ≤ p) (h : p < ns.length) : ∃ z, atI (ns.map V.int) p = some (.int z) ∧ P z := by
  have hk : p.toNat < ns.length := by omega
  have ek : p = ((p.toNat : Nat) : Int) := by omega
  have key : atI (ns.map V.int) ((p.toNat : Nat) : Int) = some (.int ns[p.toNat]) := atI_nat (by rw [List.getElem?_map, List.getElem?_eq_getElem hk] <;> rfl)
  rw [← ek] at key
  exact ⟨_, key, hP _ (List.getElem_mem hk)⟩
theorem at_str {ns : List Str} {P : Str → Prop} (hP : ∀ z ∈ ns, P z) {p : Int} (h0 : 0 ≤ p) (h : p < ns.length) : ∃ z, atI (ns.map V.str) p = some (.str z) ∧ P z := by
  have hk : p.toNat < ns.length := by omega
  have ek : p = ((p.toNat : Nat) : Int) := by omega
  have key : atI (ns.map V.str) ((p.toNat : Nat) : Int) = some (.str ns[p.toNat]) := atI_nat (by rw [List.getElem?_map, List.getElem?_eq_getElem hk] <;> rfl)
  rw [← ek] at key
  exact ⟨_, key, hP _ (List.getElem_mem hk)⟩
theorem at_int {ns : List Int} {p : Int} (h0 : 0 ≤ p) (h : p < ns.length) : ∃ z, atI (ns.map V.int) p = some (.int z) ∧ ns[p.toNat]? = some z := by
  have hk : p.toNat < ns.length := by omega
  have ek : p = ((p.toNat : Nat) : Int) := by omega
  have key : atI (ns.map V.int) ((p.toNat : Nat) : Int) = some (.int ns[p.toNat]) := atI_nat (by rw [List.getElem?_map, List.getElem?_eq_getElem hk] <;> rfl)
  rw [← ek] at key
  exact ⟨_, key, List.getElem?_eq_getElem hk⟩
end U

set_option maxHeartbeats 4000000
namespace LW
open PySem PySem.Spec PyProof.Rows L2 U
def topS (i : Nat) : Stmt := PySem.Challenge.pw_viewwood_k55_changes_done.main.body.getD i (.Pass ⟨0, 0, 0, 0⟩)
abbrev s_cut : Stmt := topS 2
abbrev N_cut : List Str := ["number"]
abbrev p_cut : List Str := ["number"]
theorem sc_cut : FnScope N_cut p_cut (defScope s_cut) := ⟨rfl, rfl, rfl, by decide +kernel, rfl, by decide +kernel, by decide +kernel⟩
abbrev s_done_on : Stmt := topS 4
abbrev N_done_on : List Str := ["number", "change"]
abbrev p_done_on : List Str := ["number", "change"]
theorem sc_done_on : FnScope N_done_on p_done_on (defScope s_done_on) := ⟨rfl, rfl, rfl, by decide +kernel, rfl, by decide +kernel, by decide +kernel⟩
abbrev s_law_tape : Stmt := topS 6
abbrev N_law_tape : List Str := ["_law_script"]
abbrev p_law_tape : List Str := ["_law_script"]
theorem sc_law_tape : FnScope N_law_tape p_law_tape (defScope s_law_tape) := ⟨rfl, rfl, rfl, by decide +kernel, rfl, by decide +kernel, by decide +kernel⟩
abbrev s_law_draw : Stmt := topS 7
abbrev N_law_draw : List Str := ["_law_tape_here", "_law_many", "_law_script", "_law_digit", "_law_cell", "_law_mixed"]
abbrev p_law_draw : List Str := ["_law_tape_here", "_law_many"]
theorem sc_law_draw : FnScope N_law_draw p_law_draw (defScope s_law_draw) := ⟨rfl, rfl, rfl, by decide +kernel, rfl, by decide +kernel, by decide +kernel⟩
abbrev s_law_number : Stmt := topS 8
abbrev N_law_number : List Str := ["_law_tape_here"]
abbrev p_law_number : List Str := ["_law_tape_here"]
theorem sc_law_number : FnScope N_law_number p_law_number (defScope s_law_number) := ⟨rfl, rfl, rfl, by decide +kernel, rfl, by decide +kernel, by decide +kernel⟩
abbrev s_law_cut : Stmt := topS 9
abbrev N_law_cut : List Str := ["_law_number_here"]
abbrev p_law_cut : List Str := ["_law_number_here"]
theorem sc_law_cut : FnScope N_law_cut p_law_cut (defScope s_law_cut) := ⟨rfl, rfl, rfl, by decide +kernel, rfl, by decide +kernel, by decide +kernel⟩
abbrev s_law_after : Stmt := topS 10
abbrev N_law_after : List Str := ["_law_number_here", "_law_word", "_law_more"]
abbrev p_law_after : List Str := ["_law_number_here", "_law_word", "_law_more"]
theorem sc_law_after : FnScope N_law_after p_law_after (defScope s_law_after) := ⟨rfl, rfl, rfl, by decide +kernel, rfl, by decide +kernel, by decide +kernel⟩
abbrev s_law_whole : Stmt := topS 11
abbrev N_law_whole : List Str := ["_law_found"]
abbrev p_law_whole : List Str := ["_law_found"]
theorem sc_law_whole : FnScope N_law_whole p_law_whole (defScope s_law_whole) := ⟨rfl, rfl, rfl, by decide +kernel, rfl, by decide +kernel, by decide +kernel⟩
abbrev s_law : Stmt := topS 12
abbrev N_law : List Str := ["_law_script", "_law_tape_here", "_law_k", "_law_number_here", "_law_word", "_law_more", "_law_found"]
abbrev p_law : List Str := ["_law_script"]
theorem sc_law : FnScope N_law p_law (defScope s_law) := ⟨rfl, rfl, rfl, by decide +kernel, rfl, by decide +kernel, by decide +kernel⟩
/-- what the top has left -/
structure Env (K : PySem.W.Frag) (mg : Str → Option Value) : Prop where
  l_cut : Loc K mg "cut" p_cut s_cut
  l_done_on : Loc K mg "done_on" p_done_on s_done_on
  l_law_tape : Loc K mg "_law_tape" p_law_tape s_law_tape
  l_law_draw : Loc K mg "_law_draw" p_law_draw s_law_draw
  l_law_number : Loc K mg "_law_number" p_law_number s_law_number
  l_law_cut : Loc K mg "_law_cut" p_law_cut s_law_cut
  l_law_after : Loc K mg "_law_after" p_law_after s_law_after
  l_law_whole : Loc K mg "_law_whole" p_law_whole s_law_whole
  l_law : Loc K mg "law" p_law s_law
  m_abs : mg "abs" = none
  m_bool : mg "bool" = none
  m_int : mg "int" = none
  m_isinstance : mg "isinstance" = none
  m_len : mg "len" = none
  m_max : mg "max" = none
  m_min : mg "min" = none
  m_range : mg "range" = none
  g_GREATEST : ∃ t, mg "GREATEST" = some (.int 1000000000 t)
theorem Env.pe_GREATEST {X : Cx} {pos : Pos} (T : Env X.K X.mg) (hg : Gl X "GREATEST" := by rfl) : PE X (.Name "GREATEST" pos) (tC (.int 1000000000)) := by
  obtain ⟨t, e⟩ := T.g_GREATEST
  exact pe_glob hg e ⟨_, rfl⟩ (by decide +kernel)
local macro_rules | `(tactic| walk_at "s") => `(tactic| first
  | ((with_reducible refine' w_var ?h ?q); (case h => exact rfl))
  | (with_reducible refine' w_c ?_)
  | (with_reducible refine' w_name ?_)
  | (with_reducible refine' w_op ?_)
  | (with_reducible refine' w_nil ?_)
  | (with_reducible refine' w_cons ?_)
  | (with_reducible refine' w_seq ?_)
  | (with_reducible refine' w_asg ?_)
  | (with_reducible refine' w_ret ?_)
  | (with_reducible refine' w_ifS ?_)
  | (with_reducible refine' w_call ?_)
  | (with_reducible refine' w_cb ?_)
  | (with_reducible refine' w_test ?_)
  | (with_reducible refine' w_B ?_)
  | (with_reducible refine' w_addI ?_)
  | (with_reducible refine' w_rI0 ?_)
  | (with_reducible refine' w_eqI ?_)
  | (with_reducible refine' w_eqS ?_)
  | (with_reducible refine' w_eqB ?_)
  | (with_reducible refine' w_neI ?_)
  | (with_reducible refine' w_neS ?_)
  | (with_reducible refine' w_neB ?_)
  | (with_reducible refine' w_bl ?_)
  | (with_reducible refine' w_and ?_)
  | (with_reducible refine' w_or ?_)
  | (with_reducible refine' w_not ?_)
  | (with_reducible refine' w_andV ?_)
  | (with_reducible refine' w_orV ?_)
  | (with_reducible refine' w_notV ?_)
  | (with_reducible refine' w_if ?_)
  | (with_reducible refine' w_isN ?_)
  | (with_reducible refine' w_notN ?_)
  | (with_reducible refine' w_tup ?_)
  | (with_reducible refine' w_lst ?_)
  | (with_reducible refine' w_un ?_)
  | (with_reducible refine' w_rU ?_)
  | (with_reducible refine' w_chain ?_)
  | (with_reducible refine' w_retN ?_)
  | (with_reducible refine' w_drop ?_)
  | (with_reducible refine' w_next ?_)
  | (with_reducible refine' w_sub' ?_)
  | (with_reducible refine' w_for ?_)
  | (with_reducible refine' w_iR1 ?_)
  | (with_reducible refine' w_max ?_)
  | (with_reducible refine' w_min ?_)
  | (with_reducible refine' w_abs ?_)
  | (with_reducible refine' w_intI ?_)
  | (with_reducible refine' w_intB ?_)
  | (with_reducible refine' w_pow9 ?_)
  | (with_reducible refine' w_pow18 ?_)
  | (with_reducible refine' w_pow6 ?_)
  | (with_reducible refine' w_pow59 ?_)
  | (with_reducible refine' w_iR2 ?_)
  | (with_reducible refine' w_iL ?_)
  | (with_reducible refine' w_iT ?_)
  | (with_reducible refine' is_non_int ?_)
  | (with_reducible refine' is_non_bool ?_)
  | (with_reducible refine' is_non_str ?_)
  | (with_reducible refine' is_non_tuple ?_)
  | (with_reducible refine' is_non_list ?_)
  | (with_reducible refine' is_non_dict ?_)
  | (with_reducible refine' is_bl_int ?_)
  | (with_reducible refine' is_bl_bool ?_)
  | (with_reducible refine' is_bl_str ?_)
  | (with_reducible refine' is_bl_tuple ?_)
  | (with_reducible refine' is_bl_list ?_)
  | (with_reducible refine' is_bl_dict ?_)
  | (with_reducible refine' is_int_int ?_)
  | (with_reducible refine' is_int_bool ?_)
  | (with_reducible refine' is_int_str ?_)
  | (with_reducible refine' is_int_tuple ?_)
  | (with_reducible refine' is_int_list ?_)
  | (with_reducible refine' is_int_dict ?_)
  | (with_reducible refine' is_str_int ?_)
  | (with_reducible refine' is_str_bool ?_)
  | (with_reducible refine' is_str_str ?_)
  | (with_reducible refine' is_str_tuple ?_)
  | (with_reducible refine' is_str_list ?_)
  | (with_reducible refine' is_str_dict ?_)
  | (with_reducible refine' iteT ?_)
  | (with_reducible refine' iteF ?_))
local macro_rules | `(tactic| walk_at "go") => `(tactic| repeat walk_at "s")

/-! ### the law's own draws: nothing is known of a number drawn but its bounds -/
/-- a tape: script, count, rest, place -/
def Tape (K : PySem.W.Frag) (H : Hp) (t : Addr) : Prop := ∃ (a : Addr) (ns : List Int) (n d p : Int), H t = some (.lst [.ref a, .int n, .int d, .int p]) ∧ SqL K H a (ns.map V.int) ∧ 0 ≤ p
theorem Tape.fr {K : PySem.W.Frag} {H H' : Hp} {t : Addr} (T : Tape K H t) (e : Fr [] H H') : Tape K H' t := by
  obtain ⟨a, ns, n, d, p, h1, h2, h3⟩ := T
  exact ⟨a, ns, n, d, p, e _ _ h1 (by simp), e.seqL h2 (by simp), h3⟩
theorem tape_keep {K : PySem.W.Frag} {H H' : Hp} {t a b : Addr} {ns : List Int} {r : List V} (ht : H t = some (.lst (.ref b :: r))) (hS : SqL K H a (ns.map V.int)) (f : Fr [t] H H') : SqL K H' a (ns.map V.int) := by
  have ne : ∀ u, H a = some u → (u = .lst (ns.map V.int) ∨ ∃ o, u = .frz o (.lst (ns.map V.int))) → a ∉ [t] := by
    rintro u e hu z
    have z := List.mem_singleton.mp z
    subst z
    rw [ht] at e
    cases e
    rcases hu with hu | ⟨o, hu⟩
    · cases ns with
      | nil => cases hu
      | cons x xs => cases hu
    · cases hu
  rcases hS with (h | ⟨o, h⟩) | h
  · exact .inl (.inl (f _ _ h (ne _ h (.inl rfl))))
  · exact .inl (.inr ⟨o, f _ _ h (ne _ h (.inr ⟨o, rfl⟩))⟩)
  · exact .inr h
theorem Tape.ne {K : PySem.W.Frag} {H : Hp} {t q : Addr} (T : Tape K H t) (h : H q = none) : q ≠ t := by
  rintro rfl
  obtain ⟨_, _, _, _, _, e, _⟩ := T
  rw [h] at e
  cases e
theorem Tape.at {K : PySem.W.Frag} {H : Hp} {t : Addr} (T : Tape K H t) : ∃ b r, H t = some (.lst (.ref b :: r)) := by
  obtain ⟨_, _, _, _, _, e, _⟩ := T
  exact ⟨_, _, e⟩
/-- a list of other things changes -/
theorem Tape.mut {K : PySem.W.Frag} {H : Hp} {t q : Addr} (T : Tape K H t) {o : HO} (nq : q ≠ t) (nn : ∀ (b : List Int) u, H q = some u → u ≠ .lst (b.map V.int) ∧ ∀ o, u ≠ .frz o (.lst (b.map V.int))) : Tape K (upd H q o) t := by
  obtain ⟨a, zs, n, d, p, h1, h2, h4⟩ := T
  refine ⟨a, zs, n, d, p, ?_, ?_, h4⟩
  · rw [upd_ne nq.symm]; exact h1
  · rcases h2 with (h | ⟨o, h⟩) | h
    · exact .inl (.inl (by rw [upd_ne (fun z => by subst z; exact (nn zs _ h).1 rfl)]; exact h))
    · exact .inl (.inr ⟨o, by rw [upd_ne (fun z => by subst z; exact (nn zs _ h).2 _ rfl)]; exact h⟩)
    · exact .inr h
def sp_law_tape (K : PySem.W.Frag) : Sp := fun vs H Q _ => ∃ (a : Addr) (ns : List Int), vs = [.ref a] ∧ SqL K H a (ns.map V.int) ∧ ∀ t H', H t = none → Fr [] H H' → Tape K H' t → Q (.ref t) H'
def sp_law_draw (K : PySem.W.Frag) : Sp := fun vs H Q _ => ∃ (t : Addr) (m : Int), vs = [.ref t, .int m] ∧ Tape K H t ∧ 0 < m ∧ m < 2 ^ 64 ∧ ∀ r H', 0 ≤ r → r < m → Fr [t] H H' → Tape K H' t → Q (.int r) H'
section
variable {P : Program} {w : World} {K : PySem.W.Frag} {mg : Str → Option Value} {base : Heap}
theorem ok_law_tape (T : Env K mg) : Fx P w K mg base 1 "_law_tape" p_law_tape (sp_law_tape K) := by
  refine T.l_law_tape.ok sc_law_tape (fun vs H Q E h => ?_) (fun f cdv A outer s H vs Q E hr h => ?_)
  · obtain ⟨a, ns, rfl, _⟩ := h
    rfl
  · obtain ⟨a, ns, rfl, hS, k⟩ := h
    refine ⟨_, (pss_one (ps_ret (pe_lst (pa_cons (pv 0) (pa_cons pe_int (pa_cons pe_int (pa_cons pe_int pa_nil))))))), ?_⟩
    walk_at "go"
    refine ⟨by show 4 ≤ sizeLine; decide, fun t ht => ?_⟩
    exact k t _ ht (Fr.new ht) ⟨a, ns, 0, 0, 0, upd_same, (Fr.new (S := []) ht).seqL hS (by simp), Int.le_refl 0⟩
theorem ok_law_draw (T : Env K mg) : Fx P w K mg base 1 "_law_draw" p_law_draw (sp_law_draw K) := by
  refine T.l_law_draw.ok sc_law_draw (fun vs H Q E h => ?_) (fun f cdv A outer s H vs Q E hr h => ?_)
  · obtain ⟨t, m, rfl, _⟩ := h
    rfl
  · obtain ⟨t, m, rfl, hT, m0, m64, k⟩ := h
    obtain ⟨a, ns, n, d, p, ht, hS, hp⟩ := hT
    refine ⟨_, (pss_cons (ps_set (i := 2) sc_law_draw.nd rfl (Or.inl rfl) (pe_ix ix_seq (pv 0) pe_int (fun _ _ => rfl)))
      (pss_cons (ps_asg (pe_op op_addU (pe_ix ix_seq (pv 0) pe_int (fun _ _ => rfl)) pe_int) (pg_sub (pv 0) pe_int set_list))
      (C8.pss_cut (ps_if (PW.pt (pw_and (pt_cmpR (op_eqU (u64 hr)) (pe_ix ix_seq (pv 0) pe_int (fun _ _ => rfl)) pe_int (nomark _)) (pw_and1 (pt_cmpR op_lt (pe_ix ix_seq (pv 0) pe_int (fun _ _ => rfl)) (pe_callB call_lenU (by rfl) T.m_len (by decide +kernel) (pa_cons (pv 2) pa_nil)) (nomark _))))) (pss_cons (ps_asg (pe_op op_fdivW (pe_callB call_absU (by rfl) T.m_abs (by decide +kernel) (pa_cons (pe_ix ix_seq (pv 2) (pe_ix ix_seq (pv 0) pe_int (fun _ _ => rfl)) (fun _ _ => rfl)) pa_nil)) (pe_op op_pow pe_int pe_int)) (pg_sub (pv 0) pe_int set_list))
      (pss_one (ps_asg (pe_op op_addU (pe_ix ix_seq (pv 0) pe_int (fun _ _ => rfl)) pe_int) (pg_sub (pv 0) pe_int set_list)))) pss_nil)
      (pss_cons (ps_if (pt_cmpR op_gt (pe_ix ix_seq (pv 0) pe_int (fun _ _ => rfl)) pe_int (nomark _)) (pss_cons (ps_set (i := 3) sc_law_draw.nd rfl (Or.inl rfl) (pe_op op_mod (pe_ix ix_seq (pv 0) pe_int (fun _ _ => rfl)) (pv 1)))
      (pss_cons (ps_asg (pe_op op_fdivW (pe_ix ix_seq (pv 0) pe_int (fun _ _ => rfl)) (pv 1)) (pg_sub (pv 0) pe_int set_list))
      (pss_one (ps_ret (pv 3))))) pss_nil)
      (pss_cons (ps_set (i := 4) sc_law_draw.nd rfl (Or.inl rfl) pe_int)
      (C8.pss_cut (ps_if (pt_cmpR op_gt (pe_callB call_lenU (by rfl) T.m_len (by decide +kernel) (pa_cons (pv 2) pa_nil)) pe_int (nomark _)) (pss_one (ps_set (i := 4) sc_law_draw.nd rfl (Or.inl rfl) (pe_ix ix_seq (pv 2) (pe_op op_mod (pe_ix ix_seq (pv 0) pe_int (fun _ _ => rfl)) (pe_callB call_lenU (by rfl) T.m_len (by decide +kernel) (pa_cons (pv 2) pa_nil))) (fun _ _ => rfl)))) pss_nil)
      (pss_cons (ps_set (i := 5) sc_law_draw.nd rfl (Or.inl rfl) (pe_op op_mod (pe_op op_addU (pe_op op_addU (pe_op op_mulU (pe_op op_mod (pv 4) pe_int) pe_int) (pe_op op_mulU (pe_ix ix_seq (pv 0) pe_int (fun _ _ => rfl)) pe_int)) pe_int) pe_int))
      (pss_cons (ps_set (i := 5) sc_law_draw.nd rfl (Or.inl rfl) (pe_op op_mod (pe_op op_mulU (pv 5) (pe_op op_addU (pv 5) pe_int)) pe_int))
      (pss_one (ps_ret (pe_op op_mod (pe_op op_mod (pe_op op_mulU (pv 5) pe_int) pe_int) (pv 1)))))))))))), ?_⟩
    walk_at "go"
    refine w_ixL (SqL.of ht) rfl ?_
    walk_at "go"
    refine w_ixL (SqL.of ht) rfl ?_
    walk_at "go"
    refine w_setL ht rfl ?_
    generalize hH1 : upd H t _ = H1
    have f1 : Fr [t] H H1 := by rw [← hH1]; exact Fr.mut (by simp)
    have t1 : H1 t = some (.lst [.ref a, .int (n + 1), .int d, .int p]) := by rw [← hH1]; exact upd_same
    refine w_cut (fun σ' H' => σ' = [some (.ref t), some (.int m), some (.ref a), none, none, none] ∧ Fr [t] H H' ∧ ∃ d p, H' t = some (.lst [.ref a, .int (n + 1), .int d, .int p]) ∧ 0 ≤ p) ?_ ?_
    · walk_at "go"
      refine w_ixL (SqL.of t1) rfl ?_
      walk_at "go"
      have end0 : ∀ d p, 0 ≤ p → ∀ H', Fr [t] H H' → H' t = some (.lst [.ref a, .int (n + 1), .int d, .int p]) → ([some (.ref t), some (.int m), some (.ref a), none, none, none] : L2.St) = [some (.ref t), some (.int m), some (.ref a), none, none, none] ∧ Fr [t] H H' ∧ ∃ d p, H' t = some (.lst [.ref a, .int (n + 1), .int d, .int p]) ∧ 0 ≤ p :=
        fun d p hp H' f e => ⟨rfl, f, d, p, e, hp⟩
      refine ite_d (fun h0 => ?_) (fun h0 => ?_)
      · walk_at "go"
        refine w_ixL (SqL.of t1) rfl ?_
        walk_at "go"
        have hS1 : SqL K H1 a (ns.map V.int) := tape_keep ht hS f1
        refine w_lenL hS1 ?_
        walk_at "go"
        refine ite_d (fun h1 => ?_) (fun h1 => ?_)
        · rw [List.length_map] at h1
          obtain ⟨z, hz, _⟩ := at_int hp h1
          walk_at "go"
          refine w_ixL (SqL.of t1) rfl ?_
          walk_at "go"
          refine w_ixL hS1 hz ?_
          walk_at "go"
          refine w_rI ⟨by decide, by decide +kernel⟩ ?_
          walk_at "go"
          refine w_setL t1 rfl ?_
          walk_at "go"
          refine w_ixL (SqL.of upd_same) rfl ?_
          walk_at "go"
          refine w_setL upd_same rfl ?_
          refine end0 _ (p + 1) (by omega) _ ?_ upd_same
          exact (f1.trans (Fr.mut (by simp))).trans (Fr.mut (by simp))
        · walk_at "go"
          exact end0 d p hp H1 f1 t1
      · walk_at "go"
        exact end0 d p hp H1 f1 t1
    · rintro σ' H2 ⟨rfl, f2, d, p, t2, hp⟩
      have hS2 : SqL K H2 a (ns.map V.int) := tape_keep ht hS f2
      have fin : ∀ x, Q (.int (x % m)) H2 := fun x => k _ H2 (Int.emod_nonneg _ (by omega)) (Int.emod_lt_of_pos _ m0) f2 ⟨a, ns, n + 1, d, p, t2, hS2, hp⟩
      walk_at "go"
      refine w_ixL (SqL.of t2) rfl ?_
      walk_at "go"
      refine ite_d (fun h0 => ?_) (fun h0 => ?_)
      · walk_at "go"
        refine w_ixL (SqL.of t2) rfl ?_
        walk_at "go"
        refine w_rI m0 ?_
        walk_at "go"
        refine w_ixL (SqL.of t2) rfl ?_
        walk_at "go"
        refine w_rI (wide_div m0 (b := 64) (by omega) (by decide) (by decide)) ?_
        walk_at "go"
        refine w_setL t2 rfl ?_
        walk_at "go"
        have f3 : Fr [t] H (upd H2 t (.lst [.ref a, .int (n + 1), .int (d / m), .int p])) := f2.trans (Fr.mut (by simp))
        exact k _ _ (Int.emod_nonneg _ (by omega)) (Int.emod_lt_of_pos _ m0) f3 ⟨a, ns, n + 1, d / m, p, upd_same, tape_keep ht hS f3, hp⟩
      · walk_at "go"
        refine w_cut (fun σ' H' => H' = H2 ∧ ∃ z, σ' = [some (.ref t), some (.int m), some (.ref a), none, some (.int z), none]) ?_ ?_
        · walk_at "go"
          refine w_lenL hS2 ?_
          walk_at "go"
          refine ite_d (fun h1 => ?_) (fun h1 => ?_)
          · rw [List.length_map] at h1
            walk_at "go"
            refine w_ixL (SqL.of t2) rfl ?_
            walk_at "go"
            refine w_lenL hS2 ?_
            rw [List.length_map]
            refine w_rI h1 ?_
            obtain ⟨z, hz, _⟩ := at_int (ns := ns) (p := (n + 1) % (ns.length : Int)) (Int.emod_nonneg _ (by omega)) (Int.emod_lt_of_pos _ h1)
            refine w_ixL hS2 hz ?_
            walk_at "go"
            exact ⟨rfl, z, rfl⟩
          · walk_at "go"
            exact ⟨rfl, 0, rfl⟩
        · rintro σ' H' ⟨rfl, z, rfl⟩
          walk_at "go"
          refine w_rI (by show (0 : Int) < 2147483647; decide) ?_
          refine w_mulI (.inr (by decide)) ?_
          walk_at "go"
          refine w_ixL (SqL.of t2) rfl ?_
          walk_at "go"
          refine w_mulI (.inr (by decide)) ?_
          walk_at "go"
          refine w_rI (by show (0 : Int) < 2147483629; decide) ?_
          walk_at "go"
          have b1 : ∀ y : Int, 0 ≤ y % 2147483629 ∧ y % 2147483629 < 2147483629 := fun y => ⟨Int.emod_nonneg _ (by decide), Int.emod_lt_of_pos _ (by decide)⟩
          generalize he : (_ : Int) % 2147483629 = e
          have b2 : 0 ≤ e ∧ e < 2147483629 := by rw [← he]; exact b1 _
          refine w_mulI (.inl (by constructor <;> omega)) ?_
          walk_at "go"
          refine w_rI (by show (0 : Int) < 2147483587; decide) ?_
          walk_at "go"
          refine w_mulI (.inr (by decide)) ?_
          walk_at "go"
          refine w_rI (by show (0 : Int) < 2147483563; decide) ?_
          walk_at "go"
          refine w_rI m0 ?_
          exact fin _
end

/-! ### plain: cut, one change -/
def cutI (n : Int) : Int := if (if n < 1000000000 then n else 1000000000) > -1000000000 then (if n < 1000000000 then n else 1000000000) else -1000000000
def afterI (n : Int) (w : Str) (m : Int) : Int := if w = "set" then m else if w = "add" then cutI (n + m) else cutI (n * m)
theorem cutI_bd (n : Int) : -1000000000 ≤ cutI n ∧ cutI n ≤ 1000000000 := by
  unfold cutI
  repeat' split
  all_goals omega
theorem afterI_bd {n m : Int} {w : Str} (h : -1000000000 ≤ m ∧ m ≤ 1000000000) : -1000000000 ≤ afterI n w m ∧ afterI n w m ≤ 1000000000 := by
  unfold afterI
  split
  · exact h
  · split
    · exact cutI_bd _
    · exact cutI_bd _

section
variable {P : Program} {w : World} {K : PySem.W.Frag} {mg : Str → Option Value} {base : Heap}
/-- a small number, or one of six -/
def sp_law_number (K : PySem.W.Frag) : Sp := fun vs H Q _ => ∃ (t : Addr), vs = [.ref t] ∧ Tape K H t ∧ ∀ r H', -1000000000 ≤ r ∧ r ≤ 1000000000 → Fr [t] H H' → Tape K H' t → Q (.int r) H'
theorem ok_law_number (T : Env K mg) : Fx P w K mg base 2 "_law_number" p_law_number (sp_law_number K) := by
  refine T.l_law_number.ok sc_law_number (fun vs H Q E h => ?_) (fun f cdv A outer s H vs Q E hr h => ?_)
  · obtain ⟨t, rfl, _⟩ := h
    rfl
  · obtain ⟨t, rfl, hT, k⟩ := h
    refine ⟨_, (pss_cons (ps_if (pt_cmpR op_gt (pe_fx (ok_law_draw T) hr (by decide) (pa_cons (pv 0) (pa_cons pe_int pa_nil))) pe_int (nomark _)) (pss_one (ps_ret (pe_op op_sub (pe_fx (ok_law_draw T) hr (by decide) (pa_cons (pv 0) (pa_cons pe_int pa_nil))) pe_int))) pss_nil)
      (pss_one (ps_ret (pe_ix ix_seq (pe_lst (pa_cons (pe_op op_pow pe_int pe_int) (pa_cons (pe_un un_neg (pe_op op_pow pe_int pe_int)) (pa_cons pe_int (pa_cons (pe_un un_neg pe_int) (pa_cons pe_int (pa_cons pe_int pa_nil))))))) (pe_fx (ok_law_draw T) hr (by decide) (pa_cons (pv 0) (pa_cons pe_int pa_nil))) (fun _ _ => rfl))))), ?_⟩
    walk_at "go"
    refine ⟨t, 8, rfl, hT, by decide, by decide, fun r H1 r0 r1 f1 T1 => ?_⟩
    walk_at "go"
    refine ite_d (fun h0 => ?_) (fun h0 => ?_)
    · walk_at "go"
      refine ⟨t, 9, rfl, T1, by decide, by decide, fun r2 H2 r20 r21 f2 T2 => ?_⟩
      walk_at "go"
      exact k _ _ (by omega) (f1.trans f2) T2
    · walk_at "go"
      refine ⟨by show 6 ≤ sizeLine; decide, fun l hl => ?_⟩
      walk_at "go"
      refine ⟨t, 6, rfl, T1.fr (Fr.new hl), by decide, by decide, fun r2 H2 r20 r21 f2 T2 => ?_⟩
      have e2 : H2 l = some (.lst (([1000000000, -1000000000, 999983, -70001, 31623, 40000] : List Int).map V.int)) := f2 _ _ upd_same (by
        rintro z
        have z := List.mem_singleton.mp z
        subst z
        obtain ⟨_, _, _, _, _, e, _⟩ := T1
        rw [hl] at e
        cases e)
      obtain ⟨z, hz, hb⟩ := at_all (ns := [1000000000, -1000000000, 999983, -70001, 31623, 40000]) (P := fun r => -1000000000 ≤ r ∧ r ≤ 1000000000) (by decide) r20 r21
      refine w_ixL (SqL.of e2) hz ?_
      exact k _ _ hb ((f1.trans (Fr.new hl)).trans f2) T2
def sp_law_cut : Sp := fun vs H Q _ => ∃ n, vs = [.int n] ∧ Q (.int (cutI n)) H
theorem ok_law_cut (T : Env K mg) : Fx P w K mg base 1 "_law_cut" p_law_cut sp_law_cut := by
  refine T.l_law_cut.ok sc_law_cut (fun vs H Q E h => ?_) (fun f cdv A outer s H vs Q E hr h => ?_)
  · obtain ⟨n, rfl, _⟩ := h
    rfl
  · obtain ⟨n, rfl, k⟩ := h
    refine ⟨_, (pss_one (ps_ret (pe_callB (call_maxU rfl) (by rfl) T.m_max (by decide +kernel) (pa_cons (pe_un un_neg (pe_op op_pow pe_int pe_int)) (pa_cons (pe_callB (call_minU rfl) (by rfl) T.m_min (by decide +kernel) (pa_cons (pe_op op_pow pe_int pe_int) (pa_cons (pv 0) pa_nil))) pa_nil))))), ?_⟩
    walk_at "go"
    exact k
def sp_law_after : Sp := fun vs H Q _ => ∃ n w m, vs = [.int n, .str w, .int m] ∧ (-1000000000 ≤ m ∧ m ≤ 1000000000) ∧ Q (.int (afterI n w m)) H
theorem ok_law_after (T : Env K mg) : Fx P w K mg base 2 "_law_after" p_law_after sp_law_after := by
  refine T.l_law_after.ok sc_law_after (fun vs H Q E h => ?_) (fun f cdv A outer s H vs Q E hr h => ?_)
  · obtain ⟨n, w, m, rfl, _⟩ := h
    rfl
  · obtain ⟨n, w, m, rfl, hm, k⟩ := h
    refine ⟨_, (pss_cons (ps_if (pt_cmpR (op_eqU (u64 hr)) (pv 1) pe_str (nomark _)) (pss_one (ps_ret (pv 2))) pss_nil)
      (pss_cons (ps_if (pt_cmpR (op_eqU (u64 hr)) (pv 1) pe_str (nomark _)) (pss_one (ps_ret (pe_fx (ok_law_cut T) hr (by decide) (pa_cons (pe_op op_addU (pv 0) (pv 2)) pa_nil)))) pss_nil)
      (pss_one (ps_ret (pe_fx (ok_law_cut T) hr (by decide) (pa_cons (pe_op op_mulU (pv 0) (pv 2)) pa_nil)))))), ?_⟩
    unfold afterI at k
    walk_at "go"
    refine ite_d (fun h0 => ?_) (fun h0 => ?_)
    · walk_at "go"
      rw [if_pos h0] at k
      exact k
    · rw [if_neg h0] at k
      walk_at "go"
      refine ite_d (fun h1 => ?_) (fun h1 => ?_)
      · rw [if_pos h1] at k
        walk_at "go"
        exact ⟨_, rfl, k⟩
      · rw [if_neg h1] at k
        walk_at "go"
        refine w_mulI (.inr (by constructor <;> omega)) ?_
        walk_at "go"
        exact ⟨_, rfl, k⟩
def sp_law_whole : Sp := fun vs H Q _ => ∃ n, vs = [.int n] ∧ Q (.bl true) H
theorem ok_law_whole (T : Env K mg) : Fx P w K mg base 1 "_law_whole" p_law_whole sp_law_whole := by
  refine T.l_law_whole.ok sc_law_whole (fun vs H Q E h => ?_) (fun f cdv A outer s H vs Q E hr h => ?_)
  · obtain ⟨n, rfl, _⟩ := h
    rfl
  · obtain ⟨n, rfl, k⟩ := h
    refine ⟨_, (pss_one (ps_ret (pe_and (pe_callB call_isi (by rfl) T.m_isinstance (by decide +kernel) (pa_cons (pv 0) (pa_cons (pe_bltn (v := .ty "int") (u := .type "int") rfl T.m_int (by decide +kernel) rfl) pa_nil))) (pe_one (pe_not (pe_callB call_isi (by rfl) T.m_isinstance (by decide +kernel) (pa_cons (pv 0) (pa_cons (pe_bltn (v := .ty "bool") (u := .type "bool") rfl T.m_bool (by decide +kernel) rfl) pa_nil)))))))), ?_⟩
    walk_at "go"
    exact k
end

section
variable {P : Program} {w : World} {K : PySem.W.Frag} {mg : Str → Option Value} {base : Heap}
def sp_cut : Sp := fun vs H Q _ => ∃ n, vs = [.int n] ∧ Q (.int (cutI n)) H
theorem ok_cut (T : Env K mg) : Fx P w K mg base 1 "cut" p_cut sp_cut := by
  refine T.l_cut.ok sc_cut (fun vs H Q E h => ?_) (fun f cdv A outer s H vs Q E hr h => ?_)
  · obtain ⟨n, rfl, _⟩ := h
    rfl
  · obtain ⟨n, rfl, k⟩ := h
    refine ⟨_, (pss_one (ps_ret (pe_callB (call_maxU rfl) (by rfl) T.m_max (by decide +kernel) (pa_cons (pe_op op_sub pe_int T.pe_GREATEST) (pa_cons (pe_callB (call_minU rfl) (by rfl) T.m_min (by decide +kernel) (pa_cons T.pe_GREATEST (pa_cons (pv 0) pa_nil))) pa_nil))))), ?_⟩
    walk_at "go"
    exact k
/-- a change, told by its word and number -/
def sp_done_on (K : PySem.W.Frag) : Sp := fun vs H Q _ => ∃ n c r w m, vs = [.int n, .ref c] ∧ SqT K H c [r, .str w, .int m] ∧ (-1000000000 ≤ m ∧ m ≤ 1000000000) ∧ Q (.int (afterI n w m)) H
theorem ok_done_on (T : Env K mg) : Fx P w K mg base 2 "done_on" p_done_on (sp_done_on K) := by
  refine T.l_done_on.ok sc_done_on (fun vs H Q E h => ?_) (fun f cdv A outer s H vs Q E hr h => ?_)
  · obtain ⟨n, c, r, w, m, rfl, _⟩ := h
    rfl
  · obtain ⟨n, c, r, w, m, rfl, hc, hm, k⟩ := h
    refine ⟨_, (pss_cons (ps_if (pt_cmpR (op_eqU (u64 hr)) (pe_ix ix_seq (pv 1) pe_int (fun _ _ => rfl)) pe_str (nomark _)) (pss_one (ps_ret (pe_ix ix_seq (pv 1) pe_int (fun _ _ => rfl)))) pss_nil)
      (pss_cons (ps_if (pt_cmpR (op_eqU (u64 hr)) (pe_ix ix_seq (pv 1) pe_int (fun _ _ => rfl)) pe_str (nomark _)) (pss_one (ps_ret (pe_fx (ok_cut T) hr (by decide) (pa_cons (pe_op op_addU (pv 0) (pe_ix ix_seq (pv 1) pe_int (fun _ _ => rfl))) pa_nil)))) pss_nil)
      (pss_one (ps_ret (pe_fx (ok_cut T) hr (by decide) (pa_cons (pe_op op_mulU (pv 0) (pe_ix ix_seq (pv 1) pe_int (fun _ _ => rfl))) pa_nil)))))), ?_⟩
    unfold afterI at k
    walk_at "go"
    refine w_ixT hc rfl ?_
    walk_at "go"
    refine ite_d (fun h0 => ?_) (fun h0 => ?_)
    · walk_at "go"
      rw [if_pos h0] at k
      exact w_ixT hc rfl k
    · rw [if_neg h0] at k
      walk_at "go"
      refine w_ixT hc rfl ?_
      walk_at "go"
      refine ite_d (fun h1 => ?_) (fun h1 => ?_)
      · rw [if_pos h1] at k
        walk_at "go"
        refine w_ixT hc rfl ?_
        walk_at "go"
        exact ⟨_, rfl, k⟩
      · rw [if_neg h1] at k
        walk_at "go"
        refine w_ixT hc rfl ?_
        refine w_mulI (.inr (by constructor <;> omega)) ?_
        walk_at "go"
        exact ⟨_, rfl, k⟩
end

def sp_law (K : PySem.W.Frag) : Sp := fun vs H Q _ => ∃ (a : Addr) (ns : List Int), vs = [.ref a] ∧ SqL K H a (ns.map V.int) ∧ ns.length ≤ 63 ∧ ∀ H', Q (.bl true) H'
section
variable {P : Program} {w : World} {K : PySem.W.Frag} {mg : Str → Option Value} {base : Heap}
theorem ok_law (T : Env K mg) {f : Addr} {fd : FuncData} (F : Fun K "law" "law" s_law f fd) : FnOk P w K mg base CX0 3 f fd p_law (sp_law K) := by
  refine F.ok sc_law (fun vs H Q E h => ?_) (fun cdv A outer s H vs Q E hr h => ?_)
  · obtain ⟨a, ns, rfl, _⟩ := h
    rfl
  · obtain ⟨a, ns, rfl, hS, hl, k⟩ := h
    refine ⟨_, (pss_cons (ps_set (i := 1) sc_law.nd rfl (Or.inl rfl) (pe_fx (ok_law_tape T) hr (by decide) (pa_cons (pv 0) pa_nil)))
      (pss_cons (ps_for PassesOwn.never rfl (pi_range1 rfl T.m_range (pa_cons (pe_op op_addU pe_int (pe_fx (ok_law_draw T) hr (by decide) (pa_cons (pv 1) (pa_cons pe_int pa_nil)))) pa_nil)) (pg_name (i := 2) sc_law.nd rfl (Or.inl rfl)) (pss_cons (ps_set (i := 3) sc_law.nd rfl (Or.inl rfl) (pe_fx (ok_law_number T) hr (by decide) (pa_cons (pv 1) pa_nil)))
      (pss_one (ps_for PassesOwn.never rfl (pi_list (pe_lst (pa_cons pe_str (pa_cons pe_str (pa_cons pe_str pa_nil))))) (pg_name (i := 4) sc_law.nd rfl (Or.inl rfl)) (pss_cons (ps_set (i := 5) sc_law.nd rfl (Or.inl rfl) (pe_fx (ok_law_number T) hr (by decide) (pa_cons (pv 1) pa_nil)))
      (pss_cons (ps_set (i := 6) sc_law.nd rfl (Or.inl rfl) (pe_fx (ok_done_on T) hr (by decide) (pa_cons (pv 3) (pa_cons (pe_tup (pa_cons (pe_fx (ok_law_draw T) hr (by decide) (pa_cons (pv 1) (pa_cons pe_int pa_nil))) (pa_cons (pv 4) (pa_cons (pv 5) pa_nil)))) pa_nil))))
      (pss_one (ps_if (PW.pt (pw_or (pt_not (pt_val (pe_fx (ok_law_whole T) hr (by decide) (pa_cons (pv 6) pa_nil)))) (pw_or1 (pt_cmpR (op_neU (u64 hr)) (pv 6) (pe_fx (ok_law_after T) hr (by decide) (pa_cons (pv 3) (pa_cons (pv 4) (pa_cons (pv 5) pa_nil)))) (nomark _))))) (pss_one (ps_ret pe_bl)) pss_nil))))))))
      (pss_one (ps_ret pe_bl)))), ?_⟩
    walk_at "go"
    refine ⟨a, ns, rfl, hS, fun t H1 ht f1 T1 => ?_⟩
    walk_at "go"
    refine ⟨t, 30, rfl, T1, by decide, by decide, fun r H2 r0 r1 f2 T2 => ?_⟩
    walk_at "go"
    refine F_R1 (1 + r).toNat rfl (by omega) (by omega) (fun i σ H => (∃ v2 v3 v4 v5 v6, σ = [some (.ref a), some (.ref t), v2, v3, v4, v5, v6]) ∧ Tape K H t) ⟨⟨_, _, _, _, _, rfl⟩, T2⟩ ?_ ?_
    · rintro i σ H3 hi ⟨⟨v2, v3, v4, v5, v6, rfl⟩, T3⟩
      walk_at "go"
      refine ⟨t, rfl, T3, fun n H4 bn f4 T4 => ?_⟩
      walk_at "go"
      refine ⟨by show 3 ≤ sizeLine; decide, fun l hl => ?_⟩
      have T5 := T4.fr (Fr.new hl (o := .lst [.str "set", .str "add", .str "times"]))
      refine F_L (SqL.of upd_same) (fun j σ H => (∃ v4 v5 v6, σ = [some (.ref a), some (.ref t), some (.int i), some (.int n), v4, v5, v6]) ∧ Tape K H t ∧ H l = some (.lst [.str "set", .str "add", .str "times"])) ⟨⟨_, _, _, rfl⟩, T5, upd_same⟩ (fun _ _ _ _ h => SqL.of h.2.2) ?_ ?_
      · rintro j x σ H6 hj ⟨⟨u4, u5, u6, rfl⟩, T6, e6⟩
        have hx : ∃ z : Str, x = .str z := by
          have := List.mem_of_getElem? hj
          simp only [List.mem_cons, List.not_mem_nil, or_false] at this
          rcases this with z | z | z <;> exact ⟨_, z⟩
        obtain ⟨wd, rfl⟩ := hx
        walk_at "go"
        refine ⟨t, rfl, T6, fun m H7 bm f7 T7 => ?_⟩
        walk_at "go"
        refine ⟨t, 4, rfl, T7, by decide, by decide, fun r8 H8 r80 r81 f8 T8 => ?_⟩
        walk_at "go"
        refine ⟨by show 3 ≤ sizeLine; decide, fun c hc => ?_⟩
        walk_at "go"
        refine ⟨n, c, _, wd, m, rfl, .inl (.inl upd_same), bm, ?_⟩
        walk_at "go"
        refine ⟨_, rfl, ?_⟩
        walk_at "go"
        refine ⟨_, rfl, ?_⟩
        walk_at "go"
        refine ⟨_, _, _, rfl, bm, ?_⟩
        walk_at "go"
        refine ite_nd (fun z => absurd rfl z) (fun _ => ?_)
        walk_at "go"
        have T9 := T8.fr (Fr.new hc (o := .tup [.int r8, .str wd, .int m]))
        refine ⟨⟨_, _, _, rfl⟩, T9, ?_⟩
        have ne : l ≠ t := T4.ne hl
        rw [upd_ne (by
          rintro rfl
          have := f8 _ _ (f7 _ _ e6 (by simpa using ne)) (by simpa using ne)
          rw [hc] at this
          cases this)]
        exact f8 _ _ (f7 _ _ e6 (by simpa using ne)) (by simpa using ne)
      · rintro σ H6 ⟨⟨u4, u5, u6, rfl⟩, T6, e6⟩
        exact ⟨⟨_, _, _, _, _, rfl⟩, T6⟩
    · rintro σ H3 ⟨⟨v2, v3, v4, v5, v6, rfl⟩, T3⟩
      walk_at "go"
      exact k _
end
section
variable {w : World} {K : PySem.W.Frag} {h : Heap} {mg : Str → Option Value}
theorem mk_cut (X : K.In h) (G : h.Ns mainGlobals mg) {f : Addr} {od an : Option Addr} {sl : Array (Option Value)} {oc kV dc pm cd ct : Value} (a : PySem.W.nsIn K mainGlobals "cut" = some (some (.ref f))) (l : K.lookup f = some ⟨oc, od, .func (PySem.W.fnOf "cut" "cut" (defArgs s_cut) (defBody s_cut) (defScope s_cut) .none kV dc pm an cd ct), sl⟩) (c : PySem.W.codeIn K cd "cut" = true) (k : PySem.W.keepIn K (.ref f) = true) : Loc K mg "cut" p_cut s_cut :=
  have F := fun_mk (st := s_cut) l c k
  ⟨f, _, F, PySem.W.mg_of X G a, F.binds (ps := p_cut) fun _ _ _ _ _ _ us hl => match us, hl with | [_], _ => rfl⟩
theorem mk_done_on (X : K.In h) (G : h.Ns mainGlobals mg) {f : Addr} {od an : Option Addr} {sl : Array (Option Value)} {oc kV dc pm cd ct : Value} (a : PySem.W.nsIn K mainGlobals "done_on" = some (some (.ref f))) (l : K.lookup f = some ⟨oc, od, .func (PySem.W.fnOf "done_on" "done_on" (defArgs s_done_on) (defBody s_done_on) (defScope s_done_on) .none kV dc pm an cd ct), sl⟩) (c : PySem.W.codeIn K cd "done_on" = true) (k : PySem.W.keepIn K (.ref f) = true) : Loc K mg "done_on" p_done_on s_done_on :=
  have F := fun_mk (st := s_done_on) l c k
  ⟨f, _, F, PySem.W.mg_of X G a, F.binds (ps := p_done_on) fun _ _ _ _ _ _ us hl => match us, hl with | [_, _], _ => rfl⟩
theorem mk_law_tape (X : K.In h) (G : h.Ns mainGlobals mg) {f : Addr} {od an : Option Addr} {sl : Array (Option Value)} {oc kV dc pm cd ct : Value} (a : PySem.W.nsIn K mainGlobals "_law_tape" = some (some (.ref f))) (l : K.lookup f = some ⟨oc, od, .func (PySem.W.fnOf "_law_tape" "_law_tape" (defArgs s_law_tape) (defBody s_law_tape) (defScope s_law_tape) .none kV dc pm an cd ct), sl⟩) (c : PySem.W.codeIn K cd "_law_tape" = true) (k : PySem.W.keepIn K (.ref f) = true) : Loc K mg "_law_tape" p_law_tape s_law_tape :=
  have F := fun_mk (st := s_law_tape) l c k
  ⟨f, _, F, PySem.W.mg_of X G a, F.binds (ps := p_law_tape) fun _ _ _ _ _ _ us hl => match us, hl with | [_], _ => rfl⟩
theorem mk_law_draw (X : K.In h) (G : h.Ns mainGlobals mg) {f : Addr} {od an : Option Addr} {sl : Array (Option Value)} {oc kV dc pm cd ct : Value} (a : PySem.W.nsIn K mainGlobals "_law_draw" = some (some (.ref f))) (l : K.lookup f = some ⟨oc, od, .func (PySem.W.fnOf "_law_draw" "_law_draw" (defArgs s_law_draw) (defBody s_law_draw) (defScope s_law_draw) .none kV dc pm an cd ct), sl⟩) (c : PySem.W.codeIn K cd "_law_draw" = true) (k : PySem.W.keepIn K (.ref f) = true) : Loc K mg "_law_draw" p_law_draw s_law_draw :=
  have F := fun_mk (st := s_law_draw) l c k
  ⟨f, _, F, PySem.W.mg_of X G a, F.binds (ps := p_law_draw) fun _ _ _ _ _ _ us hl => match us, hl with | [_, _], _ => rfl⟩
theorem mk_law_number (X : K.In h) (G : h.Ns mainGlobals mg) {f : Addr} {od an : Option Addr} {sl : Array (Option Value)} {oc kV dc pm cd ct : Value} (a : PySem.W.nsIn K mainGlobals "_law_number" = some (some (.ref f))) (l : K.lookup f = some ⟨oc, od, .func (PySem.W.fnOf "_law_number" "_law_number" (defArgs s_law_number) (defBody s_law_number) (defScope s_law_number) .none kV dc pm an cd ct), sl⟩) (c : PySem.W.codeIn K cd "_law_number" = true) (k : PySem.W.keepIn K (.ref f) = true) : Loc K mg "_law_number" p_law_number s_law_number :=
  have F := fun_mk (st := s_law_number) l c k
  ⟨f, _, F, PySem.W.mg_of X G a, F.binds (ps := p_law_number) fun _ _ _ _ _ _ us hl => match us, hl with | [_], _ => rfl⟩
theorem mk_law_cut (X : K.In h) (G : h.Ns mainGlobals mg) {f : Addr} {od an : Option Addr} {sl : Array (Option Value)} {oc kV dc pm cd ct : Value} (a : PySem.W.nsIn K mainGlobals "_law_cut" = some (some (.ref f))) (l : K.lookup f = some ⟨oc, od, .func (PySem.W.fnOf "_law_cut" "_law_cut" (defArgs s_law_cut) (defBody s_law_cut) (defScope s_law_cut) .none kV dc pm an cd ct), sl⟩) (c : PySem.W.codeIn K cd "_law_cut" = true) (k : PySem.W.keepIn K (.ref f) = true) : Loc K mg "_law_cut" p_law_cut s_law_cut :=
  have F := fun_mk (st := s_law_cut) l c k
  ⟨f, _, F, PySem.W.mg_of X G a, F.binds (ps := p_law_cut) fun _ _ _ _ _ _ us hl => match us, hl with | [_], _ => rfl⟩
theorem mk_law_after (X : K.In h) (G : h.Ns mainGlobals mg) {f : Addr} {od an : Option Addr} {sl : Array (Option Value)} {oc kV dc pm cd ct : Value} (a : PySem.W.nsIn K mainGlobals "_law_after" = some (some (.ref f))) (l : K.lookup f = some ⟨oc, od, .func (PySem.W.fnOf "_law_after" "_law_after" (defArgs s_law_after) (defBody s_law_after) (defScope s_law_after) .none kV dc pm an cd ct), sl⟩) (c : PySem.W.codeIn K cd "_law_after" = true) (k : PySem.W.keepIn K (.ref f) = true) : Loc K mg "_law_after" p_law_after s_law_after :=
  have F := fun_mk (st := s_law_after) l c k
  ⟨f, _, F, PySem.W.mg_of X G a, F.binds (ps := p_law_after) fun _ _ _ _ _ _ us hl => match us, hl with | [_, _, _], _ => rfl⟩
theorem mk_law_whole (X : K.In h) (G : h.Ns mainGlobals mg) {f : Addr} {od an : Option Addr} {sl : Array (Option Value)} {oc kV dc pm cd ct : Value} (a : PySem.W.nsIn K mainGlobals "_law_whole" = some (some (.ref f))) (l : K.lookup f = some ⟨oc, od, .func (PySem.W.fnOf "_law_whole" "_law_whole" (defArgs s_law_whole) (defBody s_law_whole) (defScope s_law_whole) .none kV dc pm an cd ct), sl⟩) (c : PySem.W.codeIn K cd "_law_whole" = true) (k : PySem.W.keepIn K (.ref f) = true) : Loc K mg "_law_whole" p_law_whole s_law_whole :=
  have F := fun_mk (st := s_law_whole) l c k
  ⟨f, _, F, PySem.W.mg_of X G a, F.binds (ps := p_law_whole) fun _ _ _ _ _ _ us hl => match us, hl with | [_], _ => rfl⟩
theorem mk_law (X : K.In h) (G : h.Ns mainGlobals mg) {f : Addr} {od an : Option Addr} {sl : Array (Option Value)} {oc kV dc pm cd ct : Value} (a : PySem.W.nsIn K mainGlobals "law" = some (some (.ref f))) (l : K.lookup f = some ⟨oc, od, .func (PySem.W.fnOf "law" "law" (defArgs s_law) (defBody s_law) (defScope s_law) .none kV dc pm an cd ct), sl⟩) (c : PySem.W.codeIn K cd "law" = true) (k : PySem.W.keepIn K (.ref f) = true) : Loc K mg "law" p_law s_law :=
  have F := fun_mk (st := s_law) l c k
  ⟨f, _, F, PySem.W.mg_of X G a, F.binds (ps := p_law) fun _ _ _ _ _ _ us hl => match us, hl with | [_], _ => rfl⟩
theorem all_env (X : K.In h) (G : h.Ns mainGlobals mg)
    {f0 : Addr} {od0 an0 : Option Addr} {sl0 : Array (Option Value)} {oc0 kV0 dc0 pm0 cd0 ct0 : Value}
    (a0 : PySem.W.nsIn K mainGlobals "cut" = some (some (.ref f0))) (l0 : K.lookup f0 = some ⟨oc0, od0, .func (PySem.W.fnOf "cut" "cut" (defArgs s_cut) (defBody s_cut) (defScope s_cut) .none kV0 dc0 pm0 an0 cd0 ct0), sl0⟩) (c0 : PySem.W.codeIn K cd0 "cut" = true) (k0 : PySem.W.keepIn K (.ref f0) = true)
    {f1 : Addr} {od1 an1 : Option Addr} {sl1 : Array (Option Value)} {oc1 kV1 dc1 pm1 cd1 ct1 : Value}
    (a1 : PySem.W.nsIn K mainGlobals "done_on" = some (some (.ref f1))) (l1 : K.lookup f1 = some ⟨oc1, od1, .func (PySem.W.fnOf "done_on" "done_on" (defArgs s_done_on) (defBody s_done_on) (defScope s_done_on) .none kV1 dc1 pm1 an1 cd1 ct1), sl1⟩) (c1 : PySem.W.codeIn K cd1 "done_on" = true) (k1 : PySem.W.keepIn K (.ref f1) = true)
    {f2 : Addr} {od2 an2 : Option Addr} {sl2 : Array (Option Value)} {oc2 kV2 dc2 pm2 cd2 ct2 : Value}
    (a2 : PySem.W.nsIn K mainGlobals "_law_tape" = some (some (.ref f2))) (l2 : K.lookup f2 = some ⟨oc2, od2, .func (PySem.W.fnOf "_law_tape" "_law_tape" (defArgs s_law_tape) (defBody s_law_tape) (defScope s_law_tape) .none kV2 dc2 pm2 an2 cd2 ct2), sl2⟩) (c2 : PySem.W.codeIn K cd2 "_law_tape" = true) (k2 : PySem.W.keepIn K (.ref f2) = true)
    {f3 : Addr} {od3 an3 : Option Addr} {sl3 : Array (Option Value)} {oc3 kV3 dc3 pm3 cd3 ct3 : Value}
    (a3 : PySem.W.nsIn K mainGlobals "_law_draw" = some (some (.ref f3))) (l3 : K.lookup f3 = some ⟨oc3, od3, .func (PySem.W.fnOf "_law_draw" "_law_draw" (defArgs s_law_draw) (defBody s_law_draw) (defScope s_law_draw) .none kV3 dc3 pm3 an3 cd3 ct3), sl3⟩) (c3 : PySem.W.codeIn K cd3 "_law_draw" = true) (k3 : PySem.W.keepIn K (.ref f3) = true)
    {f4 : Addr} {od4 an4 : Option Addr} {sl4 : Array (Option Value)} {oc4 kV4 dc4 pm4 cd4 ct4 : Value}
    (a4 : PySem.W.nsIn K mainGlobals "_law_number" = some (some (.ref f4))) (l4 : K.lookup f4 = some ⟨oc4, od4, .func (PySem.W.fnOf "_law_number" "_law_number" (defArgs s_law_number) (defBody s_law_number) (defScope s_law_number) .none kV4 dc4 pm4 an4 cd4 ct4), sl4⟩) (c4 : PySem.W.codeIn K cd4 "_law_number" = true) (k4 : PySem.W.keepIn K (.ref f4) = true)
    {f5 : Addr} {od5 an5 : Option Addr} {sl5 : Array (Option Value)} {oc5 kV5 dc5 pm5 cd5 ct5 : Value}
    (a5 : PySem.W.nsIn K mainGlobals "_law_cut" = some (some (.ref f5))) (l5 : K.lookup f5 = some ⟨oc5, od5, .func (PySem.W.fnOf "_law_cut" "_law_cut" (defArgs s_law_cut) (defBody s_law_cut) (defScope s_law_cut) .none kV5 dc5 pm5 an5 cd5 ct5), sl5⟩) (c5 : PySem.W.codeIn K cd5 "_law_cut" = true) (k5 : PySem.W.keepIn K (.ref f5) = true)
    {f6 : Addr} {od6 an6 : Option Addr} {sl6 : Array (Option Value)} {oc6 kV6 dc6 pm6 cd6 ct6 : Value}
    (a6 : PySem.W.nsIn K mainGlobals "_law_after" = some (some (.ref f6))) (l6 : K.lookup f6 = some ⟨oc6, od6, .func (PySem.W.fnOf "_law_after" "_law_after" (defArgs s_law_after) (defBody s_law_after) (defScope s_law_after) .none kV6 dc6 pm6 an6 cd6 ct6), sl6⟩) (c6 : PySem.W.codeIn K cd6 "_law_after" = true) (k6 : PySem.W.keepIn K (.ref f6) = true)
    {f7 : Addr} {od7 an7 : Option Addr} {sl7 : Array (Option Value)} {oc7 kV7 dc7 pm7 cd7 ct7 : Value}
    (a7 : PySem.W.nsIn K mainGlobals "_law_whole" = some (some (.ref f7))) (l7 : K.lookup f7 = some ⟨oc7, od7, .func (PySem.W.fnOf "_law_whole" "_law_whole" (defArgs s_law_whole) (defBody s_law_whole) (defScope s_law_whole) .none kV7 dc7 pm7 an7 cd7 ct7), sl7⟩) (c7 : PySem.W.codeIn K cd7 "_law_whole" = true) (k7 : PySem.W.keepIn K (.ref f7) = true)
    {f8 : Addr} {od8 an8 : Option Addr} {sl8 : Array (Option Value)} {oc8 kV8 dc8 pm8 cd8 ct8 : Value}
    (a8 : PySem.W.nsIn K mainGlobals "law" = some (some (.ref f8))) (l8 : K.lookup f8 = some ⟨oc8, od8, .func (PySem.W.fnOf "law" "law" (defArgs s_law) (defBody s_law) (defScope s_law) .none kV8 dc8 pm8 an8 cd8 ct8), sl8⟩) (c8 : PySem.W.codeIn K cd8 "law" = true) (k8 : PySem.W.keepIn K (.ref f8) = true)
    (z_abs : PySem.W.nsIn K mainGlobals "abs" = some none)
    (z_bool : PySem.W.nsIn K mainGlobals "bool" = some none)
    (z_int : PySem.W.nsIn K mainGlobals "int" = some none)
    (z_isinstance : PySem.W.nsIn K mainGlobals "isinstance" = some none)
    (z_len : PySem.W.nsIn K mainGlobals "len" = some none)
    (z_max : PySem.W.nsIn K mainGlobals "max" = some none)
    (z_min : PySem.W.nsIn K mainGlobals "min" = some none)
    (z_range : PySem.W.nsIn K mainGlobals "range" = some none)
    {t_GREATEST : Tok} (g_GREATEST : PySem.W.nsIn K mainGlobals "GREATEST" = some (some (.int 1000000000 t_GREATEST))) : Env K mg :=
  { l_cut := mk_cut X G a0 l0 c0 k0,
    l_done_on := mk_done_on X G a1 l1 c1 k1,
    l_law_tape := mk_law_tape X G a2 l2 c2 k2,
    l_law_draw := mk_law_draw X G a3 l3 c3 k3,
    l_law_number := mk_law_number X G a4 l4 c4 k4,
    l_law_cut := mk_law_cut X G a5 l5 c5 k5,
    l_law_after := mk_law_after X G a6 l6 c6 k6,
    l_law_whole := mk_law_whole X G a7 l7 c7 k7,
    l_law := mk_law X G a8 l8 c8 k8,
    m_abs := PySem.W.mg_none_of X G z_abs,
    m_bool := PySem.W.mg_none_of X G z_bool,
    m_int := PySem.W.mg_none_of X G z_int,
    m_isinstance := PySem.W.mg_none_of X G z_isinstance,
    m_len := PySem.W.mg_none_of X G z_len,
    m_max := PySem.W.mg_none_of X G z_max,
    m_min := PySem.W.mg_none_of X G z_min,
    m_range := PySem.W.mg_none_of X G z_range,
    g_GREATEST := ⟨_, PySem.W.mg_of X G g_GREATEST⟩ }
theorem walk {l : PySem.W.OpenLaw} {q : Program} {loose : List Str} {XP : (Str → Option Value) → Heap → Prop} {YP : World → Heap → Prop} {d : DefRec} {K : Params → PySem.W.Frag} (hn : l.most = some 63) (hdf : d.params.defaults = [])
    (hY : ∀ (w : World) (h : Heap), YP w h → (K w.params).In h) (hd : d.name = "law")
    (F : ∀ (w : World) (mg : Str → Option Value) (h : Heap), (K w.params).In h → h.Ns mainGlobals mg → Env (K w.params) mg) :
    PySem.W.WalkO q loose XP YP l.row.toRowW d [] (fun f vs => PySem.call f vs) :=
  L2.walk_of (n := 63) (k := 3) (x := "_law_script") (CX := fun _ => CX0) (sp := fun w => sp_law (K w.params)) hn (by decide) hdf ⟨rfl, by decide, by decide⟩ hY (fun w mg fa h KX G hmg => by
    have T := F w mg h KX G
    obtain ⟨f, fd, F1, m, b⟩ := T.l_law.ex
    rw [hd] at hmg
    have e := hmg.symm.trans m
    cases e
    refine ⟨fd, fun s v => ?_, fun base _ _ => ?_⟩
    · obtain ⟨oc, od, kV, doc, pm, an, cdv, ct, osl, rfl, lk, hcd⟩ := F1.ex
      exact .of_eq rfl
    · exact ok_law T F1) (fun _ _ a ns hl _ hS => ⟨a, ns, rfl, hS, hl, fun _ => rfl⟩) fun _ _ _ _ _ z => z
end
end LW
open PySem PySem.W PyProof.Rows
set_option maxRecDepth 100000 in
set_option maxHeartbeats 0 in
theorem PySem.Challenge.cw_viewwood_k55_changes_done_holds : PySem.Challenge.rw_viewwood_k55_changes_done.Holds := by
  w_on; o_law; k_head; (case hw => w_witness2)
  k_fill
  refine LW.walk (l := PySem.Challenge.rw_viewwood_k55_changes_done) rfl rfl (fun w h Y => PySem.W.kIn_of Y) rfl ?F
  case F =>
    intro w mg h KX G
    refine' LW.all_env KX G ?a0 ?l0 ?c0 ?k0 ?a1 ?l1 ?c1 ?k1 ?a2 ?l2 ?c2 ?k2 ?a3 ?l3 ?c3 ?k3 ?a4 ?l4 ?c4 ?k4 ?a5 ?l5 ?c5 ?k5 ?a6 ?l6 ?c6 ?k6 ?a7 ?l7 ?c7 ?k7 ?a8 ?l8 ?c8 ?k8 ?z_abs ?z_bool ?z_int ?z_isinstance ?z_len ?z_max ?z_min ?z_range ?g_GREATEST
    (case a0 => k_is)
    (case l0 => k_is)
    (case c0 => k_is)
    (case k0 => k_is)
    (case a1 => k_is)
    (case l1 => k_is)
    (case c1 => k_is)
    (case k1 => k_is)
    (case a2 => k_is)
    (case l2 => k_is)
    (case c2 => k_is)
    (case k2 => k_is)
    (case a3 => k_is)
    (case l3 => k_is)
    (case c3 => k_is)
    (case k3 => k_is)
    (case a4 => k_is)
    (case l4 => k_is)
    (case c4 => k_is)
    (case k4 => k_is)
    (case a5 => k_is)
    (case l5 => k_is)
    (case c5 => k_is)
    (case k5 => k_is)
    (case a6 => k_is)
    (case l6 => k_is)
    (case c6 => k_is)
    (case k6 => k_is)
    (case a7 => k_is)
    (case l7 => k_is)
    (case c7 => k_is)
    (case k7 => k_is)
    (case a8 => k_is)
    (case l8 => k_is)
    (case c8 => k_is)
    (case k8 => k_is)
    (case z_abs => k_is)
    (case z_bool => k_is)
    (case z_int => k_is)
    (case z_isinstance => k_is)
    (case z_len => k_is)
    (case z_max => k_is)
    (case z_min => k_is)
    (case z_range => k_is)
    (case g_GREATEST => k_is)

