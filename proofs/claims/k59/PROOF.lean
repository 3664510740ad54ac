import PyProof.Rows.All
import Wide.All
import OpenK.AllK
import Wide.FinOn
import HandS.ForMost
import HandS.Wide
import HandS.IsInst
import HandS.TupAny
import HandS.Codes
import HandS.More
import PySem.Challenge.RW_viewwood_k59_queues_of_boxes
set_option Elab.async false
set_option linter.all false
set_option maxRecDepth 100000
/-! Uni: one rule for each construct whatever its values are, and short steps of readings. -/
namespace U
open PySem PySem.Spec PyProof.Rows L2
/-! ### a def that stands in the text, with its promise -/
structure Loc (K : PySem.W.Frag) (mg : Str → Option Value) (x : Str) (ps : List Str) (st : Stmt) : Prop where
  ex : ∃ f fd, Fun K x x st f fd ∧ mg x = some (.ref f) ∧ Binds K fd ps []
structure Fx (P : Program) (w : World) (K : PySem.W.Frag) (mg : Str → Option Value) (base : Heap) (k : Nat) (x : Str) (ps : List Str) (sp : Sp) : Prop where
  ex : ∃ f fd, FnOk P w K mg base CX0 k f fd ps sp ∧ mg x = some (.ref f) ∧ PySem.W.keepIn K (.ref f) = true ∧ Binds K fd ps []
theorem Fx.mono {P : Program} {w : World} {K : PySem.W.Frag} {mg : Str → Option Value} {base : Heap} {j k : Nat} {x : Str} {ps : List Str} {sp : Sp} (F : Fx P w K mg base j x ps sp) (h : j ≤ k) : Fx P w K mg base k x ps sp := by
  obtain ⟨f, fd, a, b, c, d⟩ := F.ex
  exact ⟨f, fd, a.mono h, b, c, d⟩
theorem Loc.ok {P : Program} {w : World} {K : PySem.W.Frag} {mg : Str → Option Value} {base : Heap} {x : Str} {st : Stmt} {N ps : List Str} {k : Nat} {sp : Sp} (L : Loc K mg x ps st) (S : FnScope N ps (defScope st)) (len : ∀ vs H Q E, sp vs H Q E → vs.length = ps.length)
    (hbody : ∀ (f : Addr) (cdv : Value) (A : Around) (outer : List Env) (s : Shared) (H : Hp) (vs : List V) (Q : VK) (E : XK), Room k (A.deeper (envOfC x (defScope st) s.heap.objs.size f cdv)) → sp vs H Q E →
      ∃ t, PSs (cxOf CX0 P w K mg base N x (defScope st) f cdv A outer s H E).nox (defBody st) t ∧ t ⟨fun _ H' => Q .non H', Q, fun _ _ => False, fun _ _ => False⟩ (start N vs) H) : Fx P w K mg base (k + 1) x ps sp := by
  obtain ⟨f, fd, F, m, b⟩ := L.ex
  exact ⟨f, fd, F.ok S len fun cdv A outer s H vs Q E hr h => hbody f cdv A outer s H vs Q E hr h, m, F.kp, b⟩
theorem pe_fx {X : Cx} {k j : Nat} {x : Str} {ps : List Str} {sp : Sp} {e : Expr} {es : List Expr} {t : TA} {p pos : Pos} (G : Fx X.prog X.w X.K X.mg X.base k x ps sp) (hr : Room j X.A) (hkj : k ≤ j) (ha : PA X (e :: es) t) (hg : Gl X x := by rfl)
    (hdb : (x == ("__debug__" : Str)) = false := by decide +kernel)
    (he : starEach (e :: es) X.env = (false, eval e X.env) :: starEach es X.env := by rfl) (hpl : (backTo pos (starEach es X.env)).any (·.1) = false := by rfl) : PE X (.Call (.Name x p) (e :: es) [] pos) (tCall sp [] E0 t) := by
  obtain ⟨f, fd, a, b, c, d⟩ := G.ex
  exact pe_call a (hr.mono hkj) hg b c d .nil pass0 ha (hdb := hdb) (he := he) (hpl := hpl)

/-! ### one rule a construct -/
section
variable {X : Cx}
abbrev r2or (r r' : R2) : R2 := fun x y H Q => r x y H Q ∨ r' x y H Q
def rStrCat : R2 := fun x y H Q => ∃ i j, x = .str i ∧ y = .str j ∧ i.length + j.length ≤ sizeLine ∧ Q (.str (i ++ j)) H
def rAddU (K : PySem.W.Frag) : R2 := r2or (r2or (rI0 fun i j => .int (i + j)) rStrCat) (r2or (rCatA K) rCat)
theorem op_addU {K} (hK : X.K = K) : OpR X (binaryOp .Add) (rAddU K) := by subst hK; exact (op_add.or op_add_str).or (op_catA.or op_cat)
def rMaxU : List V → Hp → VK → Prop := fun xs H Q => ∃ i j, xs = [.int i, .int j] ∧ Q (.int (if j > i then j else i)) H
def rMinU : List V → Hp → VK → Prop := fun xs H Q => ∃ i j, xs = [.int i, .int j] ∧ Q (.int (if j < i then j else i)) H
def rAbsU : List V → Hp → VK → Prop := fun xs H Q => ∃ i, xs = [.int i] ∧ Q (.int (if i < 0 then -i else i)) H
def rIntU : List V → Hp → VK → Prop := fun xs H Q => (∃ i, xs = [.int i] ∧ Q (.int i) H) ∨ ∃ k, xs = [.bl k] ∧ Q (.int (if k then 1 else 0)) H
theorem call_maxU (hc : X.calm = true) : CallR X (.builtin "max") rMaxU := call_max2 hc
theorem call_minU (hc : X.calm = true) : CallR X (.builtin "min") rMinU := call_min2 hc
theorem call_absU : CallR X (.builtin "abs") rAbsU := call_abs
theorem call_intU : CallR X (.type "int") rIntU := call_int1
def rLenU (K : PySem.W.Frag) : List V → Hp → VK → Prop := fun xs H Q => (∃ p ys, xs = [.ref p] ∧ (SqL K H p ys ∨ SqT K H p ys) ∧ Q (.int ys.length) H) ∨ (∃ z, xs = [.str z] ∧ z.length ≤ sizeLine ∧ Q (.int z.length) H)
theorem call_lenU {K} (hK : X.K = K) : CallR X (.builtin "len") (rLenU K) := by subst hK; exact call_len_seq.or call_len_str
theorem call_isiU {K} (hK : X.K = K) : CallR X (.builtin "isinstance") (rIsi K) := by subst hK; exact call_isi
theorem ix_U {K} (hK : X.K = K) : IxR X (rIx K) := by subst hK; exact ix_seq
theorem call_allU {K} (hK : X.K = K) (hc : X.calm = true) : CallR X (.builtin "all") (rAll K) := by subst hK; exact cr_all hc
theorem call_anyU {K} (hK : X.K = K) (hc : X.calm = true) : CallR X (.builtin "any") (rAny K) := by subst hK; exact cr_any hc
theorem call_sumU {K} (hK : X.K = K) (hc : X.calm = true) : CallR X (.builtin "sum") (rSum K) := by subst hK; exact cr_sum hc
def rListU (K : PySem.W.Frag) : List V → Hp → VK → Prop := fun xs H Q => ∃ p ys, xs = [.ref p] ∧ (SqL K H p ys ∨ SqT K H p ys) ∧ ∀ l, H l = none → Q (.ref l) (upd H l (.lst ys))
theorem call_listU {K} (hK : X.K = K) : CallR X (.type "list") (rListU K) := by subst hK; exact call_list_of
def rTupleU (K : PySem.W.Frag) : List V → Hp → VK → Prop := fun xs H Q => ∃ p ys, xs = [.ref p] ∧ ((SqL K H p ys ∧ ∀ l, H l = none → Q (.ref l) (upd H l (.tup ys))) ∨ (SqT K H p ys ∧ Q (.ref p) H))
theorem call_tupleU {K} (hK : X.K = K) : CallR X (.type "tuple") (rTupleU K) := by subst hK; exact call_tuple_of
theorem pg_tupU {K} {es : List Expr} {k : Nat} {t : TGs} {n : Nat} {pos : Pos} (hK : X.K = K) (hc : X.calm = true) (h : PGs X es t)
    (hn : (assignEach es X.env).length = n := by rfl) (hst : (assignEach es X.env).findIdx? (·.1) = none := by rfl) : PG X (.Tuple es k pos) (gTup K n t) := by subst hK; exact pg_tup hc h hn hst
theorem pi_listU {K} {tg l : Expr} {tl : TE} (hK : X.K = K) (hl : PE X l tl) : PI X tg l (iList K tl) := by subst hK; exact pi_list hl
theorem pi_tupU {K} {tg l : Expr} {tl : TE} (hK : X.K = K) (hl : PE X l tl) : PI X tg l (iTup K tl) := by subst hK; exact pi_tup hl
def rMulU : R2 := r2or (r2or (rI CMul fun i j => .int (i * j)) (rI CMulW fun i j => .int (i * j))) rRep
theorem op_mulU : OpR X (binaryOp .Mult) rMulU := (op_mul.or op_mulW).or op_rep
/-- a slice -/
def rSlU (K : PySem.W.Frag) : V → Option Int → Option Int → Hp → VK → Prop := fun x lo hi H Q => (rSlL K x lo hi H Q ∨ rSlA K x lo hi H Q) ∨ rSlS x lo hi H Q
theorem sl_U {K} (hK : X.K = K) : SlR X (rSlU K) := by subst hK; exact (sl_list.or sl_tupA).or sl_str
def rEqU (K : PySem.W.Frag) : R2 := r2or rEq (rEqD K)
theorem op_eqU {K} (hK : X.K = K) (hu : X.A.units + 64 < cLine) : OpR X (compareOp .Eq) (rEqU K) := by subst hK; exact op_eq.or (op_eqD hu)
def rNeU (K : PySem.W.Frag) : R2 := r2or rNe (rNeD K)
theorem op_neU {K} (hK : X.K = K) (hu : X.A.units + 64 < cLine) : OpR X (compareOp .NotEq) (rNeU K) := by subst hK; exact op_ne.or (op_neD hu)
end
theorem u64 {A : Around} {k : Nat} (hr : Room k A) : A.units + 64 < cLine := hr.units
section
variable {K : PySem.W.Frag} {H : Hp} {Q : VK} {i j : Int}
theorem w_addI (q : Q (.int (i + j)) H) : rAddU K (.int i) (.int j) H Q := .inl (.inl ⟨i, j, rfl, rfl, q⟩)
theorem w_addS {a b : Str} (h : a.length + b.length ≤ sizeLine) (q : Q (.str (a ++ b)) H) : rAddU K (.str a) (.str b) H Q := .inl (.inr ⟨a, b, rfl, rfl, h, q⟩)
theorem w_addL {l b : Addr} {xs zs : List V} (h1 : H l = some (.lst xs)) (h2 : H b = some (.lst zs)) (hl : xs.length + zs.length ≤ 1000000) (q : ∀ p, H p = none → Q (.ref p) (upd H p (.lst (xs ++ zs)))) : rAddU K (.ref l) (.ref b) H Q := .inr (.inr ⟨l, b, xs, zs, rfl, rfl, h1, h2, Nat.le_trans hl (by decide), q⟩)
theorem w_sub (q : Q (.int (i - j)) H) : rI0 (fun i j => .int (i - j)) (.int i) (.int j) H Q := ⟨i, j, rfl, rfl, q⟩
theorem w_rI0 {g : Int → Int → V} (q : Q (g i j) H) : rI0 g (.int i) (.int j) H Q := ⟨i, j, rfl, rfl, q⟩
theorem w_rI {C : Int → Int → Prop} {g : Int → Int → V} (c : C i j) (q : Q (g i j) H) : rI C g (.int i) (.int j) H Q := ⟨i, j, rfl, rfl, c, q⟩
theorem w_mulI (c : (-(2 ^ 64) < i ∧ i < 2 ^ 64) ∨ (-(2 ^ 64) < j ∧ j < 2 ^ 64)) (q : Q (.int (i * j)) H) : rMulU (.int i) (.int j) H Q := .inl (.inl ⟨i, j, rfl, rfl, c, q⟩)
theorem w_max (q : Q (.int (if j > i then j else i)) H) : rMaxU [.int i, .int j] H Q := ⟨i, j, rfl, q⟩
theorem w_min (q : Q (.int (if j < i then j else i)) H) : rMinU [.int i, .int j] H Q := ⟨i, j, rfl, q⟩
theorem w_abs (q : Q (.int (if i < 0 then -i else i)) H) : rAbsU [.int i] H Q := ⟨i, rfl, q⟩
theorem w_intI (q : Q (.int i) H) : rIntU [.int i] H Q := .inl ⟨i, rfl, q⟩
theorem w_intB {k : Bool} (q : Q (.int (if k then 1 else 0)) H) : rIntU [.bl k] H Q := .inr ⟨k, rfl, q⟩
theorem w_pow9 (q : Q (.int 1000000000) H) : rI CPow (fun i j => .int (i ^ j.toNat)) (.int 10) (.int 9) H Q := ⟨10, 9, rfl, rfl, ⟨by decide, by decide, by decide⟩, q⟩
theorem w_pow18 (q : Q (.int 1000000000000000000) H) : rI CPow (fun i j => .int (i ^ j.toNat)) (.int 10) (.int 18) H Q := ⟨10, 18, rfl, rfl, ⟨by decide, by decide, by decide⟩, q⟩
theorem w_pow6 (q : Q (.int 1000000) H) : rI CPow (fun i j => .int (i ^ j.toNat)) (.int 10) (.int 6) H Q := ⟨10, 6, rfl, rfl, ⟨by decide, by decide, by decide⟩, q⟩
theorem w_pow59 (q : Q (.int 100000000000000000000000000000000000000000000000000000000000) H) : rI CPow (fun i j => .int (i ^ j.toNat)) (.int 10) (.int 59) H Q := ⟨10, 59, rfl, rfl, ⟨by decide, by decide, by decide⟩, q⟩
theorem w_slL {p : Addr} {xs : List V} {lo hi : Option Int} (h : SqL K H p xs) (q : ∀ l, H l = none → Q (.ref l) (upd H l (.lst (cutV xs lo hi)))) : rSlU K (.ref p) lo hi H Q := .inl (.inl ⟨p, xs, rfl, h, q⟩)
theorem w_part {σ : L2.St} {te : TE} {Q : Option Int → Hp → Prop} (q : te σ H fun x H1 => ∃ i, x = .int i ∧ Q (some i) H1) : tPart te σ H Q := q
theorem w_partI {P : Int → Prop} (q : P i) : ∃ k, V.int i = .int k ∧ P k := ⟨i, rfl, q⟩
theorem w_nopart {σ : L2.St} {Q : Option Int → Hp → Prop} (q : Q none H) : tNoPart σ H Q := q
theorem w_sl {σ : L2.St} {r : V → Option Int → Option Int → Hp → VK → Prop} {te : TE} {tl th : TO} (q : te σ H fun x H1 => tl σ H1 fun l H2 => th σ H2 fun u H3 => r x l u H3 Q) : tSl r te tl th σ H Q := q
theorem w_listL {p : Addr} {ys : List V} (h : SqL K H p ys) (q : ∀ l, H l = none → Q (.ref l) (upd H l (.lst ys))) : rListU K [.ref p] H Q := ⟨p, ys, rfl, .inl h, q⟩
theorem w_listT {p : Addr} {ys : List V} (h : SqT K H p ys) (q : ∀ l, H l = none → Q (.ref l) (upd H l (.lst ys))) : rListU K [.ref p] H Q := ⟨p, ys, rfl, .inr h, q⟩
theorem w_tupleL {p : Addr} {ys : List V} (h : SqL K H p ys) (q : ∀ l, H l = none → Q (.ref l) (upd H l (.tup ys))) : rTupleU K [.ref p] H Q := ⟨p, ys, rfl, .inl ⟨h, q⟩⟩
theorem w_lenL {p : Addr} {ys : List V} (h : SqL K H p ys) (q : Q (.int ys.length) H) : rLenU K [.ref p] H Q := .inl ⟨p, ys, rfl, .inl h, q⟩
theorem w_lenT {p : Addr} {ys : List V} (h : SqT K H p ys) (q : Q (.int ys.length) H) : rLenU K [.ref p] H Q := .inl ⟨p, ys, rfl, .inr h, q⟩
theorem w_lenS {z : Str} (h : z.length ≤ sizeLine) (q : Q (.int z.length) H) : rLenU K [.str z] H Q := .inr ⟨z, rfl, h, q⟩
theorem w_ixL {p : Addr} {xs : List V} {v : V} (h : SqL K H p xs) (e : atI xs i = some v) (q : Q v H) : rIx K (.ref p) (.int i) H Q := .inl ⟨p, xs, i, v, rfl, rfl, h, e, q⟩
theorem w_ixT {p : Addr} {xs : List V} {v : V} (h : SqT K H p xs) (e : atI xs i = some v) (q : Q v H) : rIx K (.ref p) (.int i) H Q := .inr (.inl ⟨p, xs, i, v, rfl, rfl, h, e, q⟩)
theorem w_setL {p : Addr} {xs : List V} {v : V} {j : Nat} {Q : Hp → Prop} (h : H p = some (.lst xs)) (e : ixN xs.length i = some j) (q : Q (upd H p (.lst (xs.set j v)))) : rSetL (.ref p) (.int i) v H Q := ⟨p, xs, i, j, rfl, rfl, h, e, q⟩
theorem w_isi {x : V} {n : String} {t : Value} {b : Bool} (ty : TyX K H x t) (e : PySem.W.kitOne K t (.type n) = some b) (q : Q (.bl b) H) : rIsi K [x, .ty n] H Q := ⟨x, .ty n, t, .type n, b, rfl, .ty n, ty, e, q⟩
/-! isinstance of plain values -/
theorem ty_T {a : Addr} {xs : List V} (h : SqT K H a xs) : TyX K H (.ref a) (.type "tuple") := by
  rcases h with (h | ⟨o, h⟩) | ⟨o, its, n, h, hc, _⟩
  · exact .base (.tup h)
  · exact .fTuple h
  · exact .kTuple h hc
theorem ty_L {a : Addr} {xs : List V} (h : SqL K H a xs) : TyX K H (.ref a) (.type "list") := by
  rcases h with (h | ⟨o, h⟩) | ⟨o, its, n, h, hc, _⟩
  · exact .base (.lst h)
  · exact .base (.frz h)
  · exact .kList h hc
theorem isT_int {a : Addr} {xs : List V} (h : SqT K H a xs) (q : Q (.bl false) H) : rIsi K [.ref a, .ty "int"] H Q := w_isi (ty_T h) (kit_ty (by decide +kernel)) q
theorem isT_bool {a : Addr} {xs : List V} (h : SqT K H a xs) (q : Q (.bl false) H) : rIsi K [.ref a, .ty "bool"] H Q := w_isi (ty_T h) (kit_ty (by decide +kernel)) q
theorem isT_str {a : Addr} {xs : List V} (h : SqT K H a xs) (q : Q (.bl false) H) : rIsi K [.ref a, .ty "str"] H Q := w_isi (ty_T h) (kit_ty (by decide +kernel)) q
theorem isT_tuple {a : Addr} {xs : List V} (h : SqT K H a xs) (q : Q (.bl true) H) : rIsi K [.ref a, .ty "tuple"] H Q := w_isi (ty_T h) (kit_ty (by decide +kernel)) q
theorem isT_list {a : Addr} {xs : List V} (h : SqT K H a xs) (q : Q (.bl false) H) : rIsi K [.ref a, .ty "list"] H Q := w_isi (ty_T h) (kit_ty (by decide +kernel)) q
theorem isT_dict {a : Addr} {xs : List V} (h : SqT K H a xs) (q : Q (.bl false) H) : rIsi K [.ref a, .ty "dict"] H Q := w_isi (ty_T h) (kit_ty (by decide +kernel)) q
theorem isL_int {a : Addr} {xs : List V} (h : SqL K H a xs) (q : Q (.bl false) H) : rIsi K [.ref a, .ty "int"] H Q := w_isi (ty_L h) (kit_ty (by decide +kernel)) q
theorem isL_bool {a : Addr} {xs : List V} (h : SqL K H a xs) (q : Q (.bl false) H) : rIsi K [.ref a, .ty "bool"] H Q := w_isi (ty_L h) (kit_ty (by decide +kernel)) q
theorem isL_str {a : Addr} {xs : List V} (h : SqL K H a xs) (q : Q (.bl false) H) : rIsi K [.ref a, .ty "str"] H Q := w_isi (ty_L h) (kit_ty (by decide +kernel)) q
theorem isL_tuple {a : Addr} {xs : List V} (h : SqL K H a xs) (q : Q (.bl false) H) : rIsi K [.ref a, .ty "tuple"] H Q := w_isi (ty_L h) (kit_ty (by decide +kernel)) q
theorem isL_list {a : Addr} {xs : List V} (h : SqL K H a xs) (q : Q (.bl true) H) : rIsi K [.ref a, .ty "list"] H Q := w_isi (ty_L h) (kit_ty (by decide +kernel)) q
theorem isL_dict {a : Addr} {xs : List V} (h : SqL K H a xs) (q : Q (.bl false) H) : rIsi K [.ref a, .ty "dict"] H Q := w_isi (ty_L h) (kit_ty (by decide +kernel)) q
theorem is_non_int (q : Q (.bl false) H) : rIsi K [.non, .ty "int"] H Q := w_isi (.base .non) (kit_ty (by decide +kernel)) q
theorem is_non_bool (q : Q (.bl false) H) : rIsi K [.non, .ty "bool"] H Q := w_isi (.base .non) (kit_ty (by decide +kernel)) q
theorem is_non_str (q : Q (.bl false) H) : rIsi K [.non, .ty "str"] H Q := w_isi (.base .non) (kit_ty (by decide +kernel)) q
theorem is_non_tuple (q : Q (.bl false) H) : rIsi K [.non, .ty "tuple"] H Q := w_isi (.base .non) (kit_ty (by decide +kernel)) q
theorem is_non_list (q : Q (.bl false) H) : rIsi K [.non, .ty "list"] H Q := w_isi (.base .non) (kit_ty (by decide +kernel)) q
theorem is_non_dict (q : Q (.bl false) H) : rIsi K [.non, .ty "dict"] H Q := w_isi (.base .non) (kit_ty (by decide +kernel)) q
theorem is_bl_int {u : Bool} (q : Q (.bl true) H) : rIsi K [(.bl u), .ty "int"] H Q := w_isi (.base (.bl _)) (kit_ty (by decide +kernel)) q
theorem is_bl_bool {u : Bool} (q : Q (.bl true) H) : rIsi K [(.bl u), .ty "bool"] H Q := w_isi (.base (.bl _)) (kit_ty (by decide +kernel)) q
theorem is_bl_str {u : Bool} (q : Q (.bl false) H) : rIsi K [(.bl u), .ty "str"] H Q := w_isi (.base (.bl _)) (kit_ty (by decide +kernel)) q
theorem is_bl_tuple {u : Bool} (q : Q (.bl false) H) : rIsi K [(.bl u), .ty "tuple"] H Q := w_isi (.base (.bl _)) (kit_ty (by decide +kernel)) q
theorem is_bl_list {u : Bool} (q : Q (.bl false) H) : rIsi K [(.bl u), .ty "list"] H Q := w_isi (.base (.bl _)) (kit_ty (by decide +kernel)) q
theorem is_bl_dict {u : Bool} (q : Q (.bl false) H) : rIsi K [(.bl u), .ty "dict"] H Q := w_isi (.base (.bl _)) (kit_ty (by decide +kernel)) q
theorem is_int_int {u : Int} (q : Q (.bl true) H) : rIsi K [(.int u), .ty "int"] H Q := w_isi (.base (.int _)) (kit_ty (by decide +kernel)) q
theorem is_int_bool {u : Int} (q : Q (.bl false) H) : rIsi K [(.int u), .ty "bool"] H Q := w_isi (.base (.int _)) (kit_ty (by decide +kernel)) q
theorem is_int_str {u : Int} (q : Q (.bl false) H) : rIsi K [(.int u), .ty "str"] H Q := w_isi (.base (.int _)) (kit_ty (by decide +kernel)) q
theorem is_int_tuple {u : Int} (q : Q (.bl false) H) : rIsi K [(.int u), .ty "tuple"] H Q := w_isi (.base (.int _)) (kit_ty (by decide +kernel)) q
theorem is_int_list {u : Int} (q : Q (.bl false) H) : rIsi K [(.int u), .ty "list"] H Q := w_isi (.base (.int _)) (kit_ty (by decide +kernel)) q
theorem is_int_dict {u : Int} (q : Q (.bl false) H) : rIsi K [(.int u), .ty "dict"] H Q := w_isi (.base (.int _)) (kit_ty (by decide +kernel)) q
theorem is_str_int {u : Str} (q : Q (.bl false) H) : rIsi K [(.str u), .ty "int"] H Q := w_isi (.base (.str _)) (kit_ty (by decide +kernel)) q
theorem is_str_bool {u : Str} (q : Q (.bl false) H) : rIsi K [(.str u), .ty "bool"] H Q := w_isi (.base (.str _)) (kit_ty (by decide +kernel)) q
theorem is_str_str {u : Str} (q : Q (.bl true) H) : rIsi K [(.str u), .ty "str"] H Q := w_isi (.base (.str _)) (kit_ty (by decide +kernel)) q
theorem is_str_tuple {u : Str} (q : Q (.bl false) H) : rIsi K [(.str u), .ty "tuple"] H Q := w_isi (.base (.str _)) (kit_ty (by decide +kernel)) q
theorem is_str_list {u : Str} (q : Q (.bl false) H) : rIsi K [(.str u), .ty "list"] H Q := w_isi (.base (.str _)) (kit_ty (by decide +kernel)) q
theorem is_str_dict {u : Str} (q : Q (.bl false) H) : rIsi K [(.str u), .ty "dict"] H Q := w_isi (.base (.str _)) (kit_ty (by decide +kernel)) q
theorem w_rU {g : Int → V} (q : Q (g i) H) : rU g (.int i) H Q := ⟨i, rfl, q⟩
theorem dec_int {a b : Int} : decide (V.int a = V.int b) = decide (a = b) := by
  by_cases h : a = b
  · subst h; simp
  · rw [decide_eq_false h, decide_eq_false fun e => h (V.int.inj e)]
theorem dec_str {a b : Str} : decide (V.str a = V.str b) = decide (a = b) := by
  by_cases h : a = b
  · subst h; simp
  · rw [decide_eq_false h, decide_eq_false fun e => h (V.str.inj e)]
theorem dec_bl {a b : Bool} : decide (V.bl a = V.bl b) = decide (a = b) := by
  by_cases h : a = b
  · subst h; simp
  · rw [decide_eq_false h, decide_eq_false fun e => h (V.bl.inj e)]
theorem w_eqI (q : Q (.bl (decide (i = j))) H) : rEqU K (.int i) (.int j) H Q := .inl ⟨rfl, by rw [dec_int]; exact q⟩
theorem w_eqS {a b : Str} (q : Q (.bl (decide (a = b))) H) : rEqU K (.str a) (.str b) H Q := .inl ⟨rfl, by rw [dec_str]; exact q⟩
theorem w_eqB {a b : Bool} (q : Q (.bl (decide (a = b))) H) : rEqU K (.bl a) (.bl b) H Q := .inl ⟨rfl, by rw [dec_bl]; exact q⟩
theorem w_neI (q : Q (.bl (!decide (i = j))) H) : rNeU K (.int i) (.int j) H Q := .inl ⟨rfl, by rw [dec_int]; exact q⟩
theorem w_neS {a b : Str} (q : Q (.bl (!decide (a = b))) H) : rNeU K (.str a) (.str b) H Q := .inl ⟨rfl, by rw [dec_str]; exact q⟩
theorem w_neB {a b : Bool} (q : Q (.bl (!decide (a = b))) H) : rNeU K (.bl a) (.bl b) H Q := .inl ⟨rfl, by rw [dec_bl]; exact q⟩
theorem w_eqD {x y : V} {d e : PyData} (hx : Dp K H x d) (hy : Dp K H y e) (sx : SeqAt.shaped d = true) (sy : SeqAt.shaped e = true) (q : Q (.bl (PyData.eqv d e)) H) : rEqU K x y H Q := .inr ⟨d, e, hx, hy, sx, sy, q⟩
theorem w_neD {x y : V} {d e : PyData} (hx : Dp K H x d) (hy : Dp K H y e) (sx : SeqAt.shaped d = true) (sy : SeqAt.shaped e = true) (q : Q (.bl (!PyData.eqv d e)) H) : rNeU K x y H Q := .inr ⟨d, e, hx, hy, sx, sy, q⟩
end
/-- a new tuple, a new list -/
def MkT (xs : List V) (Q : VK) (H : Hp) : Prop := xs.length ≤ sizeLine ∧ ∀ p, H p = none → Q (.ref p) (upd H p (.tup xs))
def MkL (xs : List V) (Q : VK) (H : Hp) : Prop := xs.length ≤ sizeLine ∧ ∀ p, H p = none → Q (.ref p) (upd H p (.lst xs))
/-! ### steps of a reading -/
section
variable {K : PySem.W.Frag} {σ : L2.St} {H : Hp} {Q : VK} {QB : Bool → Hp → Prop} {QA : List V → Hp → Prop} {ta tb tc : TE} {t u : TT} {v : V} {i : Nat} {r r' : R2}
theorem w_var (h : σ[i]? = some (some v)) (q : Q v H) : tVar i σ H Q := ⟨v, h, q⟩
theorem w_c (q : Q v H) : tC v σ H Q := q
theorem w_op (q : ta σ H fun x H1 => tb σ H1 fun y H2 => r x y H2 Q) : tOp r ta tb σ H Q := q
theorem w_un {r : V → Hp → VK → Prop} (q : ta σ H fun x H1 => r x H1 Q) : tUn r ta σ H Q := q
theorem w_chain (q : ta σ H fun x H1 => tb σ H1 fun y H2 => r x y H2 fun z H3 => ∃ k, z = .bl k ∧ (if k = true then tc σ H3 fun w' H4 => r' y w' H4 Q else Q (.bl false) H3)) : tChain r r' ta tb tc σ H Q := q
theorem w_bl {b : Bool} {P : Bool → Prop} (q : P b) : ∃ k, V.bl b = .bl k ∧ P k := ⟨b, rfl, q⟩
theorem w_test (q : ta σ H fun x H' => ∃ k, x = .bl k ∧ QB k H') : tTest ta σ H QB := q
theorem w_B (q : ta σ H fun x H' => ∃ k, x = .bl k ∧ QB k H') : tB ta σ H QB := q
theorem w_and (q : t σ H fun c H1 => if c = true then u σ H1 QB else QB false H1) : tAnd t u σ H QB := q
theorem w_or (q : t σ H fun c H1 => if c = true then QB true H1 else u σ H1 QB) : tOr t u σ H QB := q
theorem w_not (q : t σ H fun c H1 => QB (!c) H1) : tNot t σ H QB := q
theorem w_andV (q : ta σ H fun x H1 => ∃ c, x = .bl c ∧ if c = true then tb σ H1 Q else Q (.bl false) H1) : tAndV ta tb σ H Q := q
theorem w_orV (q : ta σ H fun x H1 => ∃ c, x = .bl c ∧ if c = true then Q (.bl true) H1 else tb σ H1 Q) : tOrV ta tb σ H Q := q
theorem w_notV (q : ta σ H fun x H1 => ∃ c, x = .bl c ∧ Q (.bl (!c)) H1) : tNotV ta σ H Q := q
theorem w_if (q : t σ H fun c H1 => if c = true then ta σ H1 Q else tb σ H1 Q) : tIf t ta tb σ H Q := q
theorem w_isN (q : ta σ H fun x H1 => Q (.bl (decide (x = .non))) H1) : tIsN ta σ H Q := q
theorem w_notN (q : ta σ H fun x H1 => Q (.bl (!decide (x = .non))) H1) : tNotN ta σ H Q := q
theorem w_nil (q : QA [] H) : tNil σ H QA := q
theorem w_cons {tr : TA} (q : ta σ H fun x H1 => tr σ H1 fun xs H2 => QA (x :: xs) H2) : tCons ta tr σ H QA := q
theorem w_tup {tr : TA} (q : tr σ H fun xs H1 => MkT xs Q H1) : tTup tr σ H Q := q
theorem w_lst {tr : TA} (q : tr σ H fun xs H1 => MkL xs Q H1) : tLst tr σ H Q := q
theorem w_call {sp : Sp} {dvs : List V} {E : XK} {tr : TA} (q : tr σ H fun vs H1 => sp (vs ++ dvs) H1 Q E) : tCall sp dvs E tr σ H Q := q
theorem w_cb {rc : List V → Hp → VK → Prop} {tr : TA} (q : tr σ H fun vs H1 => rc vs H1 Q) : tCB rc tr σ H Q := q
theorem w_bm {T : String} {rm : V → List V → Hp → VK → Prop} {tr : TA} (q : ta σ H fun x H1 => tyV K T x H1 ∧ tr σ H1 fun xs H2 => rm x xs H2 Q) : tBM K T rm ta tr σ H Q := q
theorem w_bm0 {T : String} {rm : V → List V → Hp → VK → Prop} (q : ta σ H fun x H1 => tyV K T x H1 ∧ rm x [] H1 Q) : tBM0 K T rm ta σ H Q := q
end
section
variable {σ : L2.St} {H : Hp} {n b c : L2.St → Hp → Prop} {r : VK} {t u : TS} {te : TE} {tt : TT} {g : TG} {v : V} {i : Nat}
theorem w_cut (M : L2.St → Hp → Prop) (h1 : t ⟨M, r, b, c⟩ σ H) (h2 : ∀ σ' H', M σ' H' → u ⟨n, r, b, c⟩ σ' H') : C8.tCut t u ⟨n, r, b, c⟩ σ H := ⟨M, h1, h2⟩
theorem w_sub' {Q : L2.St → Hp → Prop} {to ti : TE} {ts : TSet} (q : to σ H fun o H1 => ti σ H1 fun i H2 => ts o i v H2 fun H3 => Q σ H3) : gSub to ti ts v σ H Q := q
theorem w_seq (q : t ⟨u ⟨n, r, b, c⟩, r, b, c⟩ σ H) : tSeq t u ⟨n, r, b, c⟩ σ H := q
theorem w_asg (q : te σ H fun x H1 => g x σ H1 n) : tAsg te g ⟨n, r, b, c⟩ σ H := q
theorem w_name {Q : L2.St → Hp → Prop} (q : Q (σ.set i (some v)) H) : gName i v σ H Q := q
theorem w_gcons {t1 : TG} {u1 : TGs} {vs : List V} {Q : L2.St → Hp → Prop} (q : t1 v σ H fun σ' H' => u1 vs σ' H' Q) : gCons t1 u1 (v :: vs) σ H Q := ⟨v, vs, rfl, q⟩
theorem w_gnil {Q : L2.St → Hp → Prop} (q : Q σ H) : gNil [] σ H Q := ⟨rfl, q⟩
theorem w_gtup {K : PySem.W.Frag} {t1 : TGs} {p : Addr} {xs : List V} {m : Nat} {Q : L2.St → Hp → Prop} (h : SqT K H p xs) (hl : xs.length = m) (q : t1 xs σ H Q) : gTup K m t1 (.ref p) σ H Q := ⟨p, xs, rfl, h, hl, q⟩
theorem w_ret (q : te σ H r) : tRet te ⟨n, r, b, c⟩ σ H := q
theorem w_retN (q : r .non H) : tRetN ⟨n, r, b, c⟩ σ H := q
theorem w_drop (q : te σ H fun _ H1 => n σ H1) : tDrop te ⟨n, r, b, c⟩ σ H := q
theorem w_ifS (q : tt σ H fun k H1 => if k = true then t ⟨n, r, b, c⟩ σ H1 else u ⟨n, r, b, c⟩ σ H1) : tIfS tt t u ⟨n, r, b, c⟩ σ H := q
theorem w_next (q : n σ H) : tNext ⟨n, r, b, c⟩ σ H := q
theorem w_break (q : b σ H) : tBreak ⟨n, r, b, c⟩ σ H := q
theorem w_cont (q : c σ H) : tCont ⟨n, r, b, c⟩ σ H := q
end
/-! ### loops -/
/-- the turns of a for over J -/
def FOR (J : It) (g : TG) (tb : TS) (D : Ends) (σ : L2.St) (H1 : Hp) : Prop :=
  ∃ W : Nat → Nat → L2.St → Hp → Prop, (∃ m, W 0 m σ H1) ∧
    ∀ i m σ H, W i m σ H → (J.stop i H ∧ D.nx σ H) ∨ (J.go i H ∧
      ∃ N : L2.St → Hp → Prop, (∀ σ' H', N σ' H' → ∃ m', m' < m ∧ W (i + 1) m' σ' H') ∧
        ∀ x H', J.yld i H x H' → g x σ H' fun σ2 H2 => tb { D with nx := N, ct := N, bk := D.nx } σ2 H2)
section
variable {K : PySem.W.Frag} {σ : L2.St} {H : Hp} {nx b c : L2.St → Hp → Prop} {rt : VK} {g : TG} {tb : TS} {D : Ends}
theorem w_for {wi : TI} (q : wi σ H fun J H1 => FOR J g tb D σ H1) : tFor wi g tb D σ H := q
theorem w_iR1 {ta : TA} {R : It → Hp → Prop} (q : ta σ H fun vs H1 => ∃ j : Int, vs = [.int j] ∧ -(2 ^ 62) ≤ j ∧ j < 2 ^ 62 ∧ R (Itr 0 j.toNat) H1) : iRng1 ta σ H R := q
theorem w_iR2 {ta : TA} {R : It → Hp → Prop} (q : ta σ H fun vs H1 => ∃ i j : Int, vs = [.int i, .int j] ∧ (-(2 ^ 62) ≤ i ∧ i < 2 ^ 62 ∧ -(2 ^ 62) ≤ j ∧ j < 2 ^ 62) ∧ R (Itr i (j - i).toNat) H1) : iRng2 ta σ H R := q
theorem w_iL {tl : TE} {R : It → Hp → Prop} (q : tl σ H fun x H1 => ∃ a, x = .ref a ∧ (∃ xs, SqL K H1 a xs) ∧ R (Itl K a) H1) : iList K tl σ H R := q
theorem w_iT {tl : TE} {R : It → Hp → Prop} (q : tl σ H fun x H1 => ∃ a, x = .ref a ∧ (∃ xs, SqT K H1 a xs) ∧ R (Itt K a) H1) : iTup K tl σ H R := q
theorem F_R1 {j : Int} (n : Nat) (hn : j.toNat = n) (h1 : -(2 ^ 62) ≤ j) (h2 : j < 2 ^ 62) (Pv : Nat → L2.St → Hp → Prop) (h0 : Pv 0 σ H)
    (hs : ∀ i σ H, i < n → Pv i σ H → g (.int i) σ H fun σ2 H2 => tb ⟨Pv (i + 1), rt, nx, Pv (i + 1)⟩ σ2 H2) (hd : ∀ σ H, Pv n σ H → nx σ H) :
    ∃ j' : Int, [V.int j] = [.int j'] ∧ -(2 ^ 62) ≤ j' ∧ j' < 2 ^ 62 ∧ FOR (Itr 0 j'.toNat) g tb ⟨nx, rt, b, c⟩ σ H := by
  subst hn
  refine ⟨j, rfl, h1, h2, ?_⟩
  exact for_range (D := ⟨nx, rt, b, c⟩) Pv h0 (fun i σ H hi p => by rw [Int.zero_add]; exact hs i σ H hi p) hd
theorem F_L {a : Addr} {xs : List V} (h : SqL K H a xs) (Pv : Nat → L2.St → Hp → Prop) (h0 : Pv 0 σ H) (hl : ∀ i σ H, i ≤ xs.length → Pv i σ H → SqL K H a xs)
    (hs : ∀ i x σ H, xs[i]? = some x → Pv i σ H → g x σ H fun σ2 H2 => tb ⟨Pv (i + 1), rt, nx, Pv (i + 1)⟩ σ2 H2) (hd : ∀ σ H, Pv xs.length σ H → nx σ H) :
    ∃ a', V.ref a = .ref a' ∧ (∃ ys, SqL K H a' ys) ∧ FOR (Itl K a') g tb ⟨nx, rt, b, c⟩ σ H :=
  ⟨a, rfl, ⟨xs, h⟩, for_list (D := ⟨nx, rt, b, c⟩) Pv h0 hl hs hd⟩
theorem F_T {a : Addr} {xs : List V} (h : SqT K H a xs) (Pv : Nat → L2.St → Hp → Prop) (h0 : Pv 0 σ H) (hl : ∀ i σ H, i ≤ xs.length → Pv i σ H → SqT K H a xs)
    (hs : ∀ i x σ H, xs[i]? = some x → Pv i σ H → g x σ H fun σ2 H2 => tb ⟨Pv (i + 1), rt, nx, Pv (i + 1)⟩ σ2 H2) (hd : ∀ σ H, Pv xs.length σ H → nx σ H) :
    ∃ a', V.ref a = .ref a' ∧ (∃ ys, SqT K H a' ys) ∧ FOR (Itt K a') g tb ⟨nx, rt, b, c⟩ σ H :=
  ⟨a, rfl, ⟨xs, h⟩, for_tup (D := ⟨nx, rt, b, c⟩) Pv h0 hl hs hd⟩
/-- a while by an invariant with a measure -/
theorem w_while {tt : TT} (W : Nat → L2.St → Hp → Prop) (m0 : Nat) (h0 : W m0 σ H)
    (hs : ∀ m σ' H', W m σ' H' → tt σ' H' fun k H1 => if k = true then tb ⟨fun σ2 H2 => ∃ m', m' < m ∧ W m' σ2 H2, rt, nx, fun σ2 H2 => ∃ m', m' < m ∧ W m' σ2 H2⟩ σ' H1 else nx σ' H1)
    (mono : ∀ σ H (Q Q' : Bool → Hp → Prop), (∀ k H1, Q k H1 → Q' k H1) → tt σ H Q → tt σ H Q') : tWhile tt tb ⟨nx, rt, b, c⟩ σ H := by
  refine ⟨W, ⟨m0, h0⟩, fun m σ' H' w => mono σ' H' _ _ (fun k H1 q => ?_) (hs m σ' H' w)⟩
  cases k with
  | true => exact ⟨_, fun _ _ z => z, q⟩
  | false => exact q
/-- .. the measure's step told at the test's end -/
theorem w_whileN {tt : TT} (W : Nat → L2.St → Hp → Prop) (m0 : Nat) (h0 : W m0 σ H)
    (hs : ∀ m σ' H', W m σ' H' → tt σ' H' fun k H1 => if k = true then ∃ N : L2.St → Hp → Prop, (∀ σ2 H2, N σ2 H2 → ∃ m', m' < m ∧ W m' σ2 H2) ∧ tb ⟨N, rt, nx, N⟩ σ' H1 else nx σ' H1) : tWhile tt tb ⟨nx, rt, b, c⟩ σ H := ⟨W, ⟨m0, h0⟩, hs⟩
theorem w_N {m : Nat} {W : Nat → L2.St → Hp → Prop} (q : tb ⟨fun σ2 H2 => ∃ m', m' < m ∧ W m' σ2 H2, rt, nx, fun σ2 H2 => ∃ m', m' < m ∧ W m' σ2 H2⟩ σ H) : ∃ N : L2.St → Hp → Prop, (∀ σ2 H2, N σ2 H2 → ∃ m', m' < m ∧ W m' σ2 H2) ∧ tb ⟨N, rt, nx, N⟩ σ H := ⟨_, fun _ _ z => z, q⟩
/-- the turns of a comprehension over J -/
def LC (J : It) (g : TG) (tt : TT) (te : TE) (vs : List Nat) (σ : L2.St) (D : Addr) (Q : VK) (H1 : Hp) : Prop :=
  ∃ W : Nat → Nat → Hp → Prop, (∃ m, W 0 m H1) ∧ ∀ i m H, W i m H → (J.stop i H ∧ Q (.ref D) H) ∨ (J.go i H ∧
    ∃ Nx : Hp → Prop, (∀ H', Nx H' → ∃ m', m' < m ∧ W (i + 1) m' H') ∧ ∀ x H', J.yld i H x H' → g x (wipe σ vs) H' fun σ2 H2 => wipe σ2 vs = wipe σ vs ∧
      tt σ2 H2 fun k H3 => if k = true then te σ2 H3 fun y H4 => ∃ acc, H4 D = some (.lst acc) ∧ acc.length < sizeLine ∧ Nx (upd H4 D (.lst (acc ++ [y]))) else Nx H3)
theorem w_lc {wi : TI} {tt : TT} {te : TE} {vs : List Nat} {Q : VK} (q : wi σ H fun J H1 => ∀ D, H1 D = none → LC J g tt te vs σ D Q (upd H1 D (.lst []))) : tLc wi g tt te vs σ H Q := q
theorem LC_L {a : Addr} {xs : List V} {tt : TT} {te : TE} {vs : List Nat} {Q : VK} (h : SqL K H a xs) (q : ∀ D, H D = none → LC (Itl K a) g tt te vs σ D Q (upd H D (.lst []))) :
    ∃ a', V.ref a = .ref a' ∧ (∃ ys, SqL K H a' ys) ∧ ∀ D, H D = none → LC (Itl K a') g tt te vs σ D Q (upd H D (.lst [])) := ⟨a, rfl, ⟨xs, h⟩, q⟩
theorem LC_T {a : Addr} {xs : List V} {tt : TT} {te : TE} {vs : List Nat} {Q : VK} (h : SqT K H a xs) (q : ∀ D, H D = none → LC (Itt K a) g tt te vs σ D Q (upd H D (.lst []))) :
    ∃ a', V.ref a = .ref a' ∧ (∃ ys, SqT K H a' ys) ∧ ∀ D, H D = none → LC (Itt K a') g tt te vs σ D Q (upd H D (.lst [])) := ⟨a, rfl, ⟨xs, h⟩, q⟩
theorem LC_by {a D : Addr} {xs : List V} {tt : TT} {te : TE} {vs : List Nat} {Q : VK} (Pv : Nat → Hp → Prop) (h0 : Pv 0 (upd H D (.lst []))) (hl : ∀ i H, i ≤ xs.length → Pv i H → SqL K H a xs)
    (hs : ∀ i x H, xs[i]? = some x → Pv i H → g x (wipe σ vs) H fun σ2 H2 => wipe σ2 vs = wipe σ vs ∧ tt σ2 H2 fun k H3 =>
      if k = true then te σ2 H3 fun y H4 => ∃ acc, H4 D = some (.lst acc) ∧ acc.length < sizeLine ∧ Pv (i + 1) (upd H4 D (.lst (acc ++ [y]))) else Pv (i + 1) H3)
    (hd : ∀ H, Pv xs.length H → Q (.ref D) H) : LC (Itl K a) g tt te vs σ D Q (upd H D (.lst [])) := lc_list (xs := xs) Pv h0 hl hs hd
theorem w_wipe {σ1 σ2 : L2.St} {vs : List Nat} {B : Prop} (h : wipe σ2 vs = wipe σ1 vs) (q : B) : wipe σ2 vs = wipe σ1 vs ∧ B := ⟨h, q⟩
theorem w_yes {Q : Bool → Hp → Prop} (q : Q true H) : tYes σ H Q := q
end
/-- a test's outcome, as a proposition -/
theorem ite_d {c : Prop} [Decidable c] {A B : Prop} (h1 : c → A) (h2 : ¬ c → B) : if decide c = true then A else B := by
  by_cases h : c
  · rw [if_pos (decide_eq_true h)]; exact h1 h
  · rw [if_neg (by rw [decide_eq_false h]; decide)]; exact h2 h
theorem ite_nd {c : Prop} [Decidable c] {A B : Prop} (h1 : ¬ c → A) (h2 : c → B) : if (!decide c) = true then A else B := by
  by_cases h : c
  · rw [if_neg (by rw [decide_eq_true h]; decide)]; exact h2 h
  · rw [if_pos (by rw [decide_eq_false h]; decide)]; exact h1 h
theorem iteNT {A B : Prop} (h : B) : if (!true) = true then A else B := h
theorem iteNF {A B : Prop} (h : A) : if (!false) = true then A else B := h
theorem ite_b {k : Bool} {A B : Prop} (h1 : k = true → A) (h2 : k = false → B) : if k = true then A else B := by
  cases k
  · exact h2 rfl
  · exact h1 rfl
/-! ### heaps -/
/-- all that was tracked, but for S, is as it was -/
def Fr (S : List Addr) (H H' : Hp) : Prop := ∀ a o, H a = some o → a ∉ S → H' a = some o
theorem Fr.refl {S : List Addr} {H : Hp} : Fr S H H := fun _ _ h _ => h
theorem Fr.trans {S : List Addr} {H H1 H2 : Hp} (a : Fr S H H1) (b : Fr S H1 H2) : Fr S H H2 := fun x o h n => b x o (a x o h n) n
theorem Fr.new {S : List Addr} {H : Hp} {p : Addr} {o : HO} (h : H p = none) : Fr S H (upd H p o) := fun a u e _ => by
  rw [upd_ne (ne_of_none e h)]
  exact e
theorem Fr.mut {S : List Addr} {H : Hp} {p : Addr} {o : HO} (h : p ∈ S) : Fr S H (upd H p o) := fun a u e n => by
  rw [upd_ne (by rintro rfl; exact n h)]
  exact e
theorem Fr.mono {S S' : List Addr} {H H' : Hp} (a : Fr S H H') (h : ∀ x ∈ S, x ∈ S') : Fr S' H H' := fun x o e n => a x o e fun z => n (h x z)
theorem Fr.free {H H' : Hp} (e : Fr [] H H') {l : Addr} (h : H' l = none) : H l = none := by
  cases q : H l with
  | none => rfl
  | some o =>
    rw [e l o q (by simp)] at h
    cases h
/-- what is new may change -/
theorem Fr.new_mut {S : List Addr} {H H' : Hp} {p : Addr} (hp : H p = none) (a : Fr (p :: S) H H') : Fr S H H' := fun x o e n => a x o e (by
  intro z
  rcases List.mem_cons.mp z with z | z
  · subst z; rw [hp] at e; cases e
  · exact n z)
theorem Fr.seqL {S : List Addr} {K : PySem.W.Frag} {H H' : Hp} {a : Addr} {xs : List V} (e : Fr S H H') (h : SqL K H a xs) (n : a ∉ S) : SqL K H' a xs := by
  rcases h with (h | ⟨o, h⟩) | h
  · exact .inl (.inl (e _ _ h n))
  · exact .inl (.inr ⟨o, e _ _ h n⟩)
  · exact .inr h
theorem Fr.seqT {S : List Addr} {K : PySem.W.Frag} {H H' : Hp} {a : Addr} {xs : List V} (e : Fr S H H') (h : SqT K H a xs) (n : a ∉ S) : SqT K H' a xs := by
  rcases h with (h | ⟨o, h⟩) | h
  · exact .inl (.inl (e _ _ h n))
  · exact .inl (.inr ⟨o, e _ _ h n⟩)
  · exact .inr h
/-- an open place of a list of ints all of which hold P -/
theorem at_all {ns : List Int} {P : Int → Prop} (hP : ∀ z ∈ ns, P z) {p : Int} (h0 : 0 ≤ p) (h : p < ns.length) : ∃ z, atI (ns.map V.int) p = some (.int z) ∧ P z := by
  have hk : p.toNat < ns.length := by omega
  have ek : p = ((p.toNat : Nat) : Int) := by omega
  have key : atI (ns.map V.int) ((p.toNat : Nat) : Int) = some (.int ns[p.toNat]) := atI_nat (by rw [List.getElem?_map, List.getElem?_eq_getElem hk] <;> rfl)
  rw [← ek] at key
  exact ⟨_, key, hP _ (List.getElem_mem hk)⟩
theorem at_str {ns : List Str} {P : Str → Prop} (hP : ∀ z ∈ ns, P z) {p : Int} (h0 : 0 ≤ p) (h : p < ns.length) : ∃ z, atI (ns.map V.str) p = some (.str z) ∧ P z := by
  have hk : p.toNat < ns.length := by omega
  have ek : p = ((p.toNat : Nat) : Int) := by omega
  have key : atI (ns.map V.str) ((p.toNat : Nat) : Int) = some (.str ns[p.toNat]) := atI_nat (by rw [List.getElem?_map, List.getElem?_eq_getElem hk] <;> rfl)
  rw [← ek] at key
  exact ⟨_, key, hP _ (List.getElem_mem hk)⟩
theorem at_int {ns : List Int} {p : Int} (h0 : 0 ≤ p) (h : p < ns.length) : ∃ z, atI (ns.map V.int) p = some (.int z) ∧ ns[p.toNat]? = some z := by
  have hk : p.toNat < ns.length := by omega
  have ek : p = ((p.toNat : Nat) : Int) := by omega
  have key : atI (ns.map V.int) ((p.toNat : Nat) : Int) = some (.int ns[p.toNat]) := atI_nat (by rw [List.getElem?_map, List.getElem?_eq_getElem hk] <;> rfl)
  rw [← ek] at key
  exact ⟨_, key, List.getElem?_eq_getElem hk⟩
end U

namespace U
open PySem PySem.Spec PyProof.Rows L2
/-! ### data of tuples all the way down: nothing changes it -/
mutual
inductive Dt (K : PySem.W.Frag) (H : Hp) : V → PyData → Prop
  | non : Dt K H .non .none
  | bl (b : Bool) : Dt K H (.bl b) (.bool b)
  | int (i : Int) : Dt K H (.int i) (.int i)
  | str (x : Str) : Dt K H (.str x) (.str x)
  | tup {p : Addr} {vs : List V} {es : List PyData} : SqT K H p vs → DtAll K H vs es → Dt K H (.ref p) (.tuple es)
inductive DtAll (K : PySem.W.Frag) (H : Hp) : List V → List PyData → Prop
  | nil : DtAll K H [] []
  | cons {v : V} {vs : List V} {e : PyData} {es : List PyData} : Dt K H v e → DtAll K H vs es → DtAll K H (v :: vs) (e :: es)
end
/-- tuples stand -/
def Tu (H H' : Hp) : Prop := ∀ a xs, (H a = some (.tup xs) → H' a = some (.tup xs)) ∧ ∀ o, H a = some (.frz o (.tup xs)) → H' a = some (.frz o (.tup xs))
theorem Tu.refl {H : Hp} : Tu H H := fun _ _ => ⟨id, fun _ => id⟩
theorem Tu.trans {H H1 H2 : Hp} (a : Tu H H1) (b : Tu H1 H2) : Tu H H2 := fun x xs => ⟨fun h => (b x xs).1 ((a x xs).1 h), fun o h => (b x xs).2 o ((a x xs).2 o h)⟩
theorem Fr.tu {H H' : Hp} (f : Fr [] H H') : Tu H H' := fun a xs => ⟨fun h => f a _ h (by simp), fun o h => f a _ h (by simp)⟩
theorem Fr.tu1 {H H' : Hp} {t : Addr} {xs : List V} (f : Fr [t] H H') (h : H t = some (.lst xs)) : Tu H H' := fun a ys =>
  ⟨fun e => f a _ e (by intro z; rw [List.mem_singleton.mp z, h] at e; cases e), fun o e => f a _ e (by intro z; rw [List.mem_singleton.mp z, h] at e; cases e)⟩
theorem Tu.mut {H : Hp} {q : Addr} {xs : List V} {o : HO} (h : H q = some (.lst xs)) : Tu H (upd H q o) := fun a ys =>
  ⟨fun e => by rw [upd_ne (by rintro rfl; rw [h] at e; cases e)]; exact e, fun o e => by rw [upd_ne (by rintro rfl; rw [h] at e; cases e)]; exact e⟩
theorem Tu.new {H : Hp} {q : Addr} {o : HO} (h : H q = none) : Tu H (upd H q o) := (Fr.new h).tu
theorem Tu.seqT {K : PySem.W.Frag} {H H' : Hp} {a : Addr} {xs : List V} (e : Tu H H') (h : SqT K H a xs) : SqT K H' a xs := by
  rcases h with (h | ⟨o, h⟩) | h
  · exact .inl (.inl ((e a xs).1 h))
  · exact .inl (.inr ⟨o, (e a xs).2 o h⟩)
  · exact .inr h
section
variable {K : PySem.W.Frag} {H H' : Hp}
mutual
theorem Dt.mono (f : Tu H H') : ∀ {v : V} {d : PyData}, Dt K H v d → Dt K H' v d
  | _, _, .non => .non
  | _, _, .bl b => .bl b
  | _, _, .int i => .int i
  | _, _, .str x => .str x
  | _, _, .tup s a => .tup (f.seqT s) (DtAll.mono f a)
theorem DtAll.mono (f : Tu H H') : ∀ {vs : List V} {ds : List PyData}, DtAll K H vs ds → DtAll K H' vs ds
  | _, _, .nil => .nil
  | _, _, .cons a b => .cons (Dt.mono f a) (DtAll.mono f b)
end
mutual
theorem Dt.dp : ∀ {v : V} {d : PyData}, Dt K H v d → Dp K H v d
  | _, _, .non => .non
  | _, _, .bl b => .bl b
  | _, _, .int i => .int i
  | _, _, .str x => .str x
  | _, _, .tup s a => .tup s (DtAll.dp a)
theorem DtAll.dp : ∀ {vs : List V} {ds : List PyData}, DtAll K H vs ds → DpAll K H vs ds
  | _, _, .nil => .nil
  | _, _, .cons a b => .cons (Dt.dp a) (DtAll.dp b)
end
theorem DtAll.length : ∀ {vs : List V} {ds : List PyData}, DtAll K H vs ds → vs.length = ds.length
  | _, _, .nil => rfl
  | _, _, .cons _ b => by rw [List.length_cons, List.length_cons, DtAll.length b]
theorem DtAll.append : ∀ {vs us : List V} {ds es : List PyData}, DtAll K H vs ds → DtAll K H us es → DtAll K H (vs ++ us) (ds ++ es)
  | _, _, _, _, .nil, h => h
  | _, _, _, _, .cons a b, h => .cons a (DtAll.append b h)
theorem DtAll.take : ∀ {vs : List V} {ds : List PyData} (n : Nat), DtAll K H vs ds → DtAll K H (vs.take n) (ds.take n)
  | _, _, 0, _ => .nil
  | _, _, _ + 1, .nil => .nil
  | _, _, n + 1, .cons a b => .cons a (DtAll.take n b)
theorem DtAll.drop : ∀ {vs : List V} {ds : List PyData} (n : Nat), DtAll K H vs ds → DtAll K H (vs.drop n) (ds.drop n)
  | _, _, 0, h => h
  | _, _, _ + 1, .nil => .nil
  | _, _, n + 1, .cons a b => DtAll.drop n b
theorem DtAll.get : ∀ {vs : List V} {ds : List PyData} {i : Nat} {v : V}, DtAll K H vs ds → vs[i]? = some v → ∃ d, ds[i]? = some d ∧ Dt K H v d
  | _, _, i, _, .nil, h => by simp at h
  | _, _, 0, v, .cons a b, h => by
    simp at h
    subst h
    exact ⟨_, rfl, a⟩
  | _, _, i + 1, v, .cons a b, h => by
    obtain ⟨d, h1, h2⟩ := DtAll.get (i := i) b (by simpa using h)
    exact ⟨d, by simpa using h1, h2⟩
theorem DtAll.get' {vs : List V} {ds : List PyData} {i : Nat} {d : PyData} (h : DtAll K H vs ds) (e : ds[i]? = some d) : ∃ v, vs[i]? = some v ∧ Dt K H v d := by
  have hi := (List.getElem?_eq_some_iff.mp e).1
  rw [← h.length] at hi
  obtain ⟨d', h1, h2⟩ := h.get (List.getElem?_eq_getElem hi)
  rw [e] at h1
  cases h1
  exact ⟨_, List.getElem?_eq_getElem hi, h2⟩
theorem Dt.tuple {v : V} {ds : List PyData} (h : Dt K H v (.tuple ds)) : ∃ p vs, v = .ref p ∧ SqT K H p vs ∧ DtAll K H vs ds := by
  cases h with
  | tup s a => exact ⟨_, _, rfl, s, a⟩
theorem Dt.of_int {v : V} {i : Int} (h : Dt K H v (.int i)) : v = .int i := by cases h; rfl
theorem Dt.of_str {v : V} {x : Str} (h : Dt K H v (.str x)) : v = .str x := by cases h; rfl
theorem Dt.of_bl {v : V} {b : Bool} (h : Dt K H v (.bool b)) : v = .bl b := by cases h; rfl
theorem Dt.of_non {v : V} (h : Dt K H v .none) : v = .non := by cases h; rfl
theorem DtAll.ints : ∀ (ns : List Int), DtAll K H (ns.map V.int) (ns.map PyData.int)
  | [] => .nil
  | n :: r => .cons (.int n) (DtAll.ints r)
end
/-! ### a list of such -/
def Lq (K : PySem.W.Frag) (H : Hp) (q : Addr) (ds : List PyData) : Prop := ∃ vs, H q = some (.lst vs) ∧ DtAll K H vs ds
section
variable {K : PySem.W.Frag} {H H' : Hp} {q : Addr} {ds : List PyData}
theorem Lq.fr {S : List Addr} (h : Lq K H q ds) (f : Fr S H H') (n : q ∉ S) (t : Tu H H') : Lq K H' q ds := by
  obtain ⟨vs, e, a⟩ := h
  exact ⟨vs, f _ _ e n, a.mono t⟩
theorem Lq.fr0 (h : Lq K H q ds) (f : Fr [] H H') : Lq K H' q ds := h.fr f (by simp) f.tu
theorem Lq.dp (h : Lq K H q ds) : Dp K H (.ref q) (.list ds) := by
  obtain ⟨vs, e, a⟩ := h
  exact .lst (SqL.of e) a.dp
theorem lay_list {n : Nat} (h : ∀ d ∈ ds, d.canLay0 = true ∧ d.depth ≤ n) : PyData.canLayAll0 ds = true ∧ PyData.depthAll ds ≤ n := by
  induction ds with
  | nil => exact ⟨by simp [PyData.canLayAll0], by simp [PyData.depthAll]⟩
  | cons d r ih =>
    have h1 := h d List.mem_cons_self
    have h2 := ih fun x hx => h x (List.mem_cons_of_mem _ hx)
    constructor
    · simp [PyData.canLayAll0, h1.1, h2.1]
    · simp only [PyData.depthAll]
      exact Nat.max_le.mpr ⟨h1.2, h2.2⟩
theorem shaped_list {n : Nat} (hn : n < 64) (h : ∀ d ∈ ds, d.canLay0 = true ∧ d.depth ≤ n) : SeqAt.shaped (.list ds) = true := by
  have k := lay_list h
  unfold SeqAt.shaped
  rw [Bool.and_eq_true]
  refine ⟨by simp only [PyData.canLay0]; exact k.1, decide_eq_true ?_⟩
  simp only [PyData.depth]
  omega
theorem shaped_tuple {n : Nat} (hn : n < 64) (h : ∀ d ∈ ds, d.canLay0 = true ∧ d.depth ≤ n) : SeqAt.shaped (.tuple ds) = true := by
  have k := lay_list h
  unfold SeqAt.shaped
  rw [Bool.and_eq_true]
  refine ⟨by simp only [PyData.canLay0]; exact k.1, decide_eq_true ?_⟩
  simp only [PyData.depth]
  omega
theorem shaped_refl {d : PyData} (h : SeqAt.shaped d = true) : PyData.eqv d d = true := SeqAt.eqv_refl d (SeqAt.canLay_of_shaped h)
theorem w_eqR {Q : VK} {x y : V} {d : PyData} (hx : Dp K H x d) (hy : Dp K H y d) (s : SeqAt.shaped d = true) (q : Q (.bl true) H) : rEqU K x y H Q := w_eqD hx hy s s (by rw [shaped_refl s]; exact q)
theorem w_neR {Q : VK} {x y : V} {d : PyData} (hx : Dp K H x d) (hy : Dp K H y d) (s : SeqAt.shaped d = true) (q : Q (.bl false) H) : rNeU K x y H Q := w_neD hx hy s s (by rw [shaped_refl s]; exact q)
theorem w_app {l : Addr} {xs : List V} {y : V} {Q : VK} (h : H l = some (.lst xs)) (n : xs.length ≤ 1000000) (q : Q .non (upd H l (.lst (xs ++ [y])))) : tyV K "list" (.ref l) H ∧ rAppend (.ref l) [y] H Q :=
  ⟨.inl ⟨rfl, _, SqL.of h⟩, l, xs, y, rfl, rfl, h, Nat.lt_of_le_of_lt n (by decide), q⟩
end
theorem cut_take {xs : List V} (n : Nat) : cutV xs none (some (n : Int)) = xs.take n := by
  unfold cutV
  rw [HT.sIx_none, HT.sIx_nat, List.drop_zero, Nat.sub_zero]
  by_cases h : n ≤ xs.length
  · rw [Nat.min_eq_left h]
  · rw [Nat.min_eq_right (by omega), List.take_length, List.take_of_length_le (by omega)]
theorem cut_drop {xs : List V} (n : Nat) : cutV xs (some (n : Int)) none = xs.drop n := by
  unfold cutV
  rw [HT.sIx_none, HT.sIx_nat]
  by_cases h : n ≤ xs.length
  · rw [Nat.min_eq_left h, List.take_of_length_le (by rw [List.length_drop]; omega)]
  · rw [Nat.min_eq_right (by omega), Nat.sub_self, List.take_zero, List.drop_eq_nil_of_le (by omega)]
/-- == with an empty list -/
theorem w_eqNil {Q : VK} {K : PySem.W.Frag} {H : Hp} {x e : Addr} {ds : List PyData} (hx : Dp K H (.ref x) (.list ds)) (he : H e = some (.lst [])) (s : SeqAt.shaped (.list ds) = true) (q : Q (.bl ds.isEmpty) H) : rEqU K (.ref x) (.ref e) H Q :=
  w_eqD hx (.lst (SqL.of he) .nil) s (by decide) (by
    cases ds with
    | nil => exact q
    | cons d r => exact q)
theorem w_neNil {Q : VK} {K : PySem.W.Frag} {H : Hp} {x e : Addr} {ds : List PyData} (hx : Dp K H (.ref x) (.list ds)) (he : H e = some (.lst [])) (s : SeqAt.shaped (.list ds) = true) (q : Q (.bl (!ds.isEmpty)) H) : rNeU K (.ref x) (.ref e) H Q :=
  w_neD hx (.lst (SqL.of he) .nil) s (by decide) (by
    cases ds with
    | nil => exact q
    | cons d r => exact q)
theorem take_fold {α β : Type} {f : β → α → β} {b : β} {xs : List α} {i : Nat} {x : α} (h : xs[i]? = some x) : (xs.take (i + 1)).foldl f b = f ((xs.take i).foldl f b) x := by
  rw [List.take_add_one, h, List.foldl_append]
  rfl
theorem take_map {α β : Type} {f : α → β} {xs : List α} {i : Nat} {x : α} (h : xs[i]? = some x) : (xs.take (i + 1)).map f = (xs.take i).map f ++ [f x] := by
  rw [List.take_add_one, h, List.map_append]
  rfl
theorem take_filt {α : Type} {f : α → Bool} {xs : List α} {i : Nat} {x : α} (h : xs[i]? = some x) : (xs.take (i + 1)).filter f = (xs.take i).filter f ++ (if f x then [x] else []) := by
  rw [List.take_add_one, h, List.filter_append]
  show _ ++ List.filter f [x] = _
  rw [List.filter_cons, List.filter_nil]
/-! ### displays, append: what is known of them behind -/
theorem mkT {K : PySem.W.Frag} {H : Hp} {xs : List V} {ds : List PyData} {Q : VK} (d : DtAll K H xs ds) (q : ∀ p H', H p = none → Fr [] H H' → Dt K H' (.ref p) (.tuple ds) → Q (.ref p) H') (n : xs.length ≤ 1000 := by exact Nat.le_of_ble_eq_true rfl) : MkT xs Q H :=
  ⟨Nat.le_trans n (by decide), fun p hp => q p _ hp (Fr.new hp) (.tup (.inl (.inl upd_same)) (d.mono (Tu.new hp)))⟩
theorem mkL {K : PySem.W.Frag} {H : Hp} {xs : List V} {ds : List PyData} {Q : VK} (d : DtAll K H xs ds) (q : ∀ p H', H p = none → Fr [] H H' → Lq K H' p ds → Q (.ref p) H') (n : xs.length ≤ 1000 := by exact Nat.le_of_ble_eq_true rfl) : MkL xs Q H :=
  ⟨Nat.le_trans n (by decide), fun p hp => q p _ hp (Fr.new hp) ⟨xs, upd_same, d.mono (Tu.new hp)⟩⟩
/-- a list of ints, of texts -/
theorem mkI {H : Hp} {ns : List Int} {xs : List V} {Q : VK} (e : xs = ns.map V.int) (q : ∀ p H', H p = none → Fr [] H H' → H' p = some (.lst (ns.map V.int)) → Q (.ref p) H') (n : xs.length ≤ 1000 := by exact Nat.le_of_ble_eq_true rfl) : MkL xs Q H :=
  ⟨Nat.le_trans n (by decide), fun p hp => q p _ hp (Fr.new hp) (by rw [upd_same, e])⟩
theorem mkS {H : Hp} {ns : List Str} {xs : List V} {Q : VK} (e : xs = ns.map V.str) (q : ∀ p H', H p = none → Fr [] H H' → H' p = some (.lst (ns.map V.str)) → Q (.ref p) H') (n : xs.length ≤ 1000 := by exact Nat.le_of_ble_eq_true rfl) : MkL xs Q H :=
  ⟨Nat.le_trans n (by decide), fun p hp => q p _ hp (Fr.new hp) (by rw [upd_same, e])⟩
theorem Lq.ty {K : PySem.W.Frag} {H : Hp} {l : Addr} {ds : List PyData} (h : Lq K H l ds) : tyV K "list" (.ref l) H := by
  obtain ⟨vs, e, _⟩ := h
  exact .inl ⟨rfl, _, SqL.of e⟩
theorem Lq.app {K : PySem.W.Frag} {H : Hp} {l : Addr} {ds : List PyData} {y : V} {d : PyData} {Q : VK} (h : Lq K H l ds) (hy : Dt K H y d) (n : ds.length ≤ 100000) (q : ∀ H', Fr [l] H H' → Tu H H' → Lq K H' l (ds ++ [d]) → Q .non H') : rAppend (.ref l) [y] H Q := by
  obtain ⟨vs, e, a⟩ := h
  refine ⟨l, vs, y, rfl, rfl, e, Nat.lt_of_le_of_lt (show vs.length ≤ 100000 by rw [a.length]; exact n) (by decide), ?_⟩
  exact q _ (Fr.mut (by simp)) (Tu.mut e) ⟨_, upd_same, (a.append (.cons hy .nil)).mono (Tu.mut e)⟩
theorem Lq.copy {K : PySem.W.Frag} {H : Hp} {l : Addr} {ds : List PyData} {Q : VK} (h : Lq K H l ds) (q : ∀ p H', H p = none → Fr [] H H' → Lq K H' p ds → Q (.ref p) H') : rListU K [.ref l] H Q := by
  obtain ⟨vs, e, a⟩ := h
  exact w_listL (SqL.of e) fun p hp => q p _ hp (Fr.new hp) ⟨vs, upd_same, a.mono (Tu.new hp)⟩
theorem Lq.isList {K : PySem.W.Frag} {H : Hp} {l : Addr} {ds : List PyData} {Q : VK} (h : Lq K H l ds) (q : Q (.bl true) H) : rIsi K [.ref l, .ty "list"] H Q := by
  obtain ⟨vs, e, a⟩ := h
  exact isL_list (SqL.of e) q
theorem Lq.len {K : PySem.W.Frag} {H : Hp} {l : Addr} {ds : List PyData} {Q : VK} (h : Lq K H l ds) (q : Q (.int ds.length) H) : rLenU K [.ref l] H Q := by
  obtain ⟨vs, e, a⟩ := h
  rw [← a.length] at q
  exact w_lenL (SqL.of e) q
/-- what changed is new -/
theorem Fr.drop1 {S : List Addr} {H H1 H2 : Hp} {p : Addr} (hp : H p = none) (a : Fr S H H1) (b : Fr [p] H1 H2) : Fr S H H2 := fun x o e n => b x o (a x o e n) (by
  intro z
  rw [List.mem_singleton.mp z, hp] at e
  cases e)
/-- a comprehension with a test over a list of data: what is kept is the data's own filter -/
theorem LCF {K : PySem.W.Frag} {α : Type} {q : Addr} {H : Hp} {us : List V} {cs : List α} {dS : α → PyData} {j : Nat} {ws : List Nat} {σ : L2.St} {tt : TT} {te : TE} {Q : VK} (f : α → Bool) (g : α → PyData)
    (hq : H q = some (.lst us)) (hd : DtAll K H us (cs.map dS)) (lc : cs.length ≤ 100000) (hw : ∀ x, wipe ((wipe σ ws).set j (some x)) ws = wipe σ ws)
    (ht : ∀ c x H', c ∈ cs → Fr [] H H' → Dt K H' x (dS c) → ∀ QB : Bool → Hp → Prop, (∀ H2, Fr [] H' H2 → QB (f c) H2) → tt ((wipe σ ws).set j (some x)) H' QB)
    (he : ∀ c x H', c ∈ cs → Fr [] H H' → Dt K H' x (dS c) → f c = true → ∀ Q : VK, (∀ y H2, Fr [] H' H2 → Dt K H2 y (g c) → Q y H2) → te ((wipe σ ws).set j (some x)) H' Q)
    (k : ∀ D H', H D = none → Fr [] H H' → Lq K H' D ((cs.filter f).map g) → Q (.ref D) H') :
    ∃ a', V.ref q = .ref a' ∧ (∃ ys, SqL K H a' ys) ∧ ∀ D, H D = none → LC (Itl K a') (gName j) tt te ws σ D Q (upd H D (.lst [])) := by
  have lu : us.length = cs.length := by rw [hd.length, List.length_map]
  refine LC_L (SqL.of hq) fun D hD => LC_by (a := q) (xs := us) (fun i H' => Fr [] H H' ∧ Lq K H' D (((cs.take i).filter f).map g)) ⟨Fr.new hD, [], upd_same, .nil⟩ (fun i H' _ h => SqL.of (h.1 _ _ hq (by simp))) ?_ ?_
  · rintro i x H' hx ⟨f', ys, hys, dys⟩
    obtain ⟨d, h1, h2⟩ := (hd.mono f'.tu).get hx
    obtain ⟨c, h3, rfl⟩ := (by
      rw [List.getElem?_map] at h1
      cases e : cs[i]? with
      | none => rw [e] at h1; cases h1
      | some x => rw [e] at h1; exact ⟨x, rfl, Option.some.inj h1⟩ : ∃ c, cs[i]? = some c ∧ dS c = d)
    have mc := List.mem_of_getElem? h3
    have hi : i < us.length := (List.getElem?_eq_some_iff.mp hx).1
    have ly : ys.length ≤ i := by
      rw [dys.length, List.length_map]
      refine Nat.le_trans (List.length_filter_le _ _) ?_
      rw [List.length_take]
      omega
    refine ⟨hw x, ht c x H' mc f' h2 _ fun H2 f2 => ?_⟩
    cases hf : f c with
    | false =>
      rw [if_neg Bool.false_ne_true]
      refine ⟨f'.trans f2, ?_⟩
      rw [take_filt h3, hf]
      show Lq K H2 D ((List.filter f (cs.take i) ++ []).map g)
      rw [List.append_nil]
      exact Lq.fr0 ⟨ys, hys, dys⟩ f2
    | true =>
      rw [if_pos rfl]
      refine he c x H2 mc (f'.trans f2) (h2.mono f2.tu) hf _ fun y H3 f3 dy => ?_
      have f23 := f2.trans f3
      have e3 := f23 _ _ hys (by simp)
      refine ⟨ys, e3, Nat.lt_of_le_of_lt (show ys.length ≤ 100000 by omega) (by decide), Fr.new_mut hD ((f'.trans f23).mono (by simp) |>.trans (Fr.mut (by simp))), _, upd_same, ?_⟩
      rw [take_filt h3, hf, List.map_append]
      exact ((dys.mono f23.tu).append (.cons dy .nil)).mono (Tu.mut e3)
  · rintro H' ⟨f', L⟩
    rw [lu, List.take_length] at L
    exact k D H' hD f' L
theorem Lq.at {K : PySem.W.Frag} {H : Hp} {l : Addr} {ds : List PyData} {P : PyData → Prop} (h : Lq K H l ds) (hP : ∀ d ∈ ds, P d) {i : Int} (h0 : 0 ≤ i) (h1 : i < ds.length) {Q : VK} (q : ∀ v d, Dt K H v d → P d → ds[i.toNat]? = some d → Q v H) : rIx K (.ref l) (.int i) H Q := by
  obtain ⟨vs, e, a⟩ := h
  have ek : i = ((i.toNat : Nat) : Int) := by omega
  have hk : i.toNat < ds.length := by omega
  obtain ⟨v, hv, dv⟩ := a.get' (List.getElem?_eq_getElem hk)
  refine w_ixL (SqL.of e) ?_ (q v _ dv (hP _ (List.getElem_mem hk)) (List.getElem?_eq_getElem hk))
  rw [ek]
  exact atI_nat hv
/-- a for over such a list -/
theorem Lq.walk {K : PySem.W.Frag} {H : Hp} {l : Addr} {ds : List PyData} {σ : L2.St} {nx b c : L2.St → Hp → Prop} {rt : VK} {g : TG} {tb : TS} (h : Lq K H l ds) (Pv : Nat → L2.St → Hp → Prop) (h0 : Pv 0 σ H) (hl : ∀ i σ H', Pv i σ H' → Lq K H' l ds)
    (hs : ∀ i v d σ H', ds[i]? = some d → Dt K H' v d → Pv i σ H' → g v σ H' fun σ2 H2 => tb ⟨Pv (i + 1), rt, nx, Pv (i + 1)⟩ σ2 H2) (hd : ∀ σ H', Pv ds.length σ H' → nx σ H') :
    ∃ a', V.ref l = .ref a' ∧ (∃ ys, SqL K H a' ys) ∧ FOR (Itl K a') g tb ⟨nx, rt, b, c⟩ σ H := by
  obtain ⟨vs, e, a⟩ := id h
  refine ⟨l, rfl, ⟨vs, SqL.of e⟩, fun i m σ H => m = ds.length - i ∧ i ≤ ds.length ∧ Pv i σ H, ⟨_, rfl, Nat.zero_le _, h0⟩, ?_⟩
  rintro i m σ' H' ⟨rfl, hi, p⟩
  obtain ⟨us, eu, au⟩ := hl i σ' H' p
  by_cases hlt : i < ds.length
  · obtain ⟨v, hv, dv⟩ := au.get' (List.getElem?_eq_getElem hlt)
    refine .inr ⟨⟨us, v, SqL.of eu, hv⟩, Pv (i + 1), fun σ2 H2 p' => ⟨ds.length - (i + 1), by omega, rfl, hlt, p'⟩, fun x H2 y => ?_⟩
    obtain ⟨z, y⟩ := y
    subst z
    have ex : x = v := Option.some.inj ((y us (SqL.of eu)).symm.trans hv)
    subst ex
    exact hs i x _ σ' _ (List.getElem?_eq_getElem hlt) dv p
  · have z : i = ds.length := by omega
    subst z
    exact .inl ⟨⟨us, SqL.of eu, by rw [au.length]; exact Nat.le_refl _⟩, hd σ' H' p⟩
theorem map_get {α β : Type} {f : α → β} {xs : List α} {i : Nat} {y : β} (h : (xs.map f)[i]? = some y) : ∃ x, xs[i]? = some x ∧ f x = y := by
  rw [List.getElem?_map] at h
  cases e : xs[i]? with
  | none => rw [e] at h; cases h
  | some x => rw [e] at h; exact ⟨x, rfl, Option.some.inj h⟩
end U

set_option maxHeartbeats 4000000

namespace LW
open PySem PySem.Spec PyProof.Rows L2 U
def topS (i : Nat) : Stmt := PySem.Challenge.pw_viewwood_k59_queues_of_boxes.main.body.getD i (.Pass ⟨0, 0, 0, 0⟩)
abbrev s_queue_of : Stmt := topS 1
abbrev N_queue_of : List Str := ["queue", "path", "box", "change"]
abbrev p_queue_of : List Str := ["queue", "path", "box"]
theorem sc_queue_of : FnScope N_queue_of p_queue_of (defScope s_queue_of) := ⟨rfl, rfl, rfl, by decide +kernel, rfl, by decide +kernel, by decide +kernel⟩
abbrev s_law_tape : Stmt := topS 3
abbrev N_law_tape : List Str := ["_law_script"]
abbrev p_law_tape : List Str := ["_law_script"]
theorem sc_law_tape : FnScope N_law_tape p_law_tape (defScope s_law_tape) := ⟨rfl, rfl, rfl, by decide +kernel, rfl, by decide +kernel, by decide +kernel⟩
abbrev s_law_draw : Stmt := topS 4
abbrev N_law_draw : List Str := ["_law_tape_here", "_law_many", "_law_script", "_law_digit", "_law_cell", "_law_mixed"]
abbrev p_law_draw : List Str := ["_law_tape_here", "_law_many"]
theorem sc_law_draw : FnScope N_law_draw p_law_draw (defScope s_law_draw) := ⟨rfl, rfl, rfl, by decide +kernel, rfl, by decide +kernel, by decide +kernel⟩
abbrev s_law_number : Stmt := topS 5
abbrev N_law_number : List Str := ["_law_tape_here"]
abbrev p_law_number : List Str := ["_law_tape_here"]
theorem sc_law_number : FnScope N_law_number p_law_number (defScope s_law_number) := ⟨rfl, rfl, rfl, by decide +kernel, rfl, by decide +kernel, by decide +kernel⟩
abbrev s_law : Stmt := topS 6
abbrev N_law : List Str := ["_law_script", "_law_tape_here", "_law_key", "_law_paths", "_law_names", "_law_queue", "_law_k", "_law_word", "_law_spot", "_law_handed", "_law_path", "_law_name", "_law_due", "_law_rank", "_law_box", "_law_number_here", "_law_again", "_law_found"]
abbrev p_law : List Str := ["_law_script"]
theorem sc_law : FnScope N_law p_law (defScope s_law) := ⟨rfl, rfl, rfl, by decide +kernel, rfl, by decide +kernel, by decide +kernel⟩
/-- what the top has left -/
structure Env (K : PySem.W.Frag) (mg : Str → Option Value) : Prop where
  l_queue_of : Loc K mg "queue_of" p_queue_of s_queue_of
  l_law_tape : Loc K mg "_law_tape" p_law_tape s_law_tape
  l_law_draw : Loc K mg "_law_draw" p_law_draw s_law_draw
  l_law_number : Loc K mg "_law_number" p_law_number s_law_number
  l_law : Loc K mg "law" p_law s_law
  m_abs : mg "abs" = none
  m_isinstance : mg "isinstance" = none
  m_len : mg "len" = none
  m_list : mg "list" = none
  m_range : mg "range" = none
local macro_rules | `(tactic| walk_at "s") => `(tactic| first
  | ((with_reducible refine' w_var ?h ?q); (case h => exact rfl))
  | (with_reducible refine' w_c ?_)
  | (with_reducible refine' w_name ?_)
  | (with_reducible refine' w_op ?_)
  | (with_reducible refine' w_nil ?_)
  | (with_reducible refine' w_cons ?_)
  | (with_reducible refine' w_seq ?_)
  | (with_reducible refine' w_asg ?_)
  | (with_reducible refine' w_ret ?_)
  | (with_reducible refine' w_ifS ?_)
  | (with_reducible refine' w_call ?_)
  | (with_reducible refine' w_cb ?_)
  | (with_reducible refine' w_test ?_)
  | (with_reducible refine' w_B ?_)
  | (with_reducible refine' w_addI ?_)
  | (with_reducible refine' w_rI0 ?_)
  | (with_reducible refine' w_eqI ?_)
  | (with_reducible refine' w_eqS ?_)
  | (with_reducible refine' w_eqB ?_)
  | (with_reducible refine' w_neI ?_)
  | (with_reducible refine' w_neS ?_)
  | (with_reducible refine' w_neB ?_)
  | (with_reducible refine' w_bl ?_)
  | (with_reducible refine' w_and ?_)
  | (with_reducible refine' w_or ?_)
  | (with_reducible refine' w_not ?_)
  | (with_reducible refine' w_andV ?_)
  | (with_reducible refine' w_orV ?_)
  | (with_reducible refine' w_notV ?_)
  | (with_reducible refine' w_if ?_)
  | (with_reducible refine' w_isN ?_)
  | (with_reducible refine' w_notN ?_)
  | (with_reducible refine' w_tup ?_)
  | (with_reducible refine' w_lst ?_)
  | (with_reducible refine' w_un ?_)
  | (with_reducible refine' w_rU ?_)
  | (with_reducible refine' w_chain ?_)
  | (with_reducible refine' w_retN ?_)
  | (with_reducible refine' w_drop ?_)
  | (with_reducible refine' w_next ?_)
  | (with_reducible refine' w_sub' ?_)
  | (with_reducible refine' w_for ?_)
  | (with_reducible refine' w_sl ?_)
  | (with_reducible refine' w_part ?_)
  | (with_reducible refine' w_partI ?_)
  | (with_reducible refine' w_nopart ?_)
  | (with_reducible refine' w_bm ?_)
  | (with_reducible refine' w_bm0 ?_)
  | (with_reducible refine' w_lc ?_)
  | ((with_reducible refine' w_wipe ?h ?q); (case h => exact rfl))
  | (with_reducible refine' w_yes ?_)
  | (with_reducible refine' w_N ?_)
  | (with_reducible refine' w_gcons ?_)
  | (with_reducible refine' w_gnil ?_)
  | (with_reducible refine' w_iR1 ?_)
  | (with_reducible refine' w_max ?_)
  | (with_reducible refine' w_min ?_)
  | (with_reducible refine' w_abs ?_)
  | (with_reducible refine' w_intI ?_)
  | (with_reducible refine' w_intB ?_)
  | (with_reducible refine' w_pow9 ?_)
  | (with_reducible refine' w_pow18 ?_)
  | (with_reducible refine' w_pow6 ?_)
  | (with_reducible refine' w_pow59 ?_)
  | (with_reducible refine' w_iR2 ?_)
  | (with_reducible refine' w_iL ?_)
  | (with_reducible refine' w_iT ?_)
  | (with_reducible refine' is_non_int ?_)
  | (with_reducible refine' is_non_bool ?_)
  | (with_reducible refine' is_non_str ?_)
  | (with_reducible refine' is_non_tuple ?_)
  | (with_reducible refine' is_non_list ?_)
  | (with_reducible refine' is_non_dict ?_)
  | (with_reducible refine' is_bl_int ?_)
  | (with_reducible refine' is_bl_bool ?_)
  | (with_reducible refine' is_bl_str ?_)
  | (with_reducible refine' is_bl_tuple ?_)
  | (with_reducible refine' is_bl_list ?_)
  | (with_reducible refine' is_bl_dict ?_)
  | (with_reducible refine' is_int_int ?_)
  | (with_reducible refine' is_int_bool ?_)
  | (with_reducible refine' is_int_str ?_)
  | (with_reducible refine' is_int_tuple ?_)
  | (with_reducible refine' is_int_list ?_)
  | (with_reducible refine' is_int_dict ?_)
  | (with_reducible refine' is_str_int ?_)
  | (with_reducible refine' is_str_bool ?_)
  | (with_reducible refine' is_str_str ?_)
  | (with_reducible refine' is_str_tuple ?_)
  | (with_reducible refine' is_str_list ?_)
  | (with_reducible refine' is_str_dict ?_)
  | (with_reducible refine' iteT ?_)
  | (with_reducible refine' iteF ?_)
  | (with_reducible refine' iteNT ?_)
  | (with_reducible refine' iteNF ?_))
local macro_rules | `(tactic| walk_at "go") => `(tactic| repeat walk_at "s")

/-! ### the law's own draws: nothing is known of a number drawn but its bounds -/
/-- a tape: script, count, rest, place; all that stood at first stands -/
def Tape (K : PySem.W.Frag) (H0 H : Hp) (t : Addr) : Prop := (∃ (a : Addr) (ns : List Int) (n d p : Int), H t = some (.lst [.ref a, .int n, .int d, .int p]) ∧ SqL K H0 a (ns.map V.int) ∧ 0 ≤ p) ∧ Fr [] H0 H ∧ H0 t = none
section
variable {K : PySem.W.Frag} {H0 H H' : Hp} {t q : Addr}
theorem Tape.fr (T : Tape K H0 H t) (e : Fr [] H H') : Tape K H0 H' t := by
  obtain ⟨⟨a, ns, n, d, p, h1, h2, h3⟩, h4, h5⟩ := T
  exact ⟨⟨a, ns, n, d, p, e _ _ h1 (by simp), h2, h3⟩, h4.trans e, h5⟩
theorem Tape.new (T : Tape K H0 H t) {o : HO} (h : H q = none) : Tape K H0 (upd H q o) t := T.fr (Fr.new h)
theorem Tape.ne (T : Tape K H0 H t) (h : H q = none) : q ≠ t := by
  rintro rfl
  obtain ⟨⟨_, _, _, _, _, e, _⟩, _⟩ := T
  rw [h] at e
  cases e
theorem Tape.no (T : Tape K H0 H t) (h : H q = none) : H0 q = none := T.2.1.free h
/-- what is new changes -/
theorem Tape.mut (T : Tape K H0 H t) {o : HO} (nq : q ≠ t) (n0 : H0 q = none) : Tape K H0 (upd H q o) t := by
  obtain ⟨⟨a, zs, n, d, p, h1, h2, h4⟩, f, h5⟩ := T
  refine ⟨⟨a, zs, n, d, p, ?_, h2, h4⟩, fun b u e z => ?_, h5⟩
  · rw [upd_ne nq.symm]; exact h1
  · rw [upd_ne (by rintro rfl; rw [n0] at e; cases e)]
    exact f b u e z
theorem Tape.fr1 (T : Tape K H0 H t) (e : Fr [q] H H') (nq : q ≠ t) (n0 : H0 q = none) : Tape K H0 H' t := by
  obtain ⟨⟨a, zs, n, d, p, h1, h2, h4⟩, f, h5⟩ := T
  exact ⟨⟨a, zs, n, d, p, e _ _ h1 (by simpa using nq.symm), h2, h4⟩, Fr.drop1 n0 f e, h5⟩
theorem Tape.free1 (T : Tape K H0 H t) (f : Fr [t] H H') (h : H' q = none) (nq : q ≠ t) : H q = none := by
  cases e : H q with
  | none => rfl
  | some o =>
    have z := f q o e (by simpa using nq)
    rw [h] at z
    cases z
theorem Tape.tu (T : Tape K H0 H t) (f : Fr [t] H H') : Tu H H' := by
  obtain ⟨⟨a, zs, n, d, p, h1, _⟩, _⟩ := T
  exact f.tu1 h1
end
def sp_law_tape (K : PySem.W.Frag) : Sp := fun vs H Q _ => ∃ (a : Addr) (ns : List Int), vs = [.ref a] ∧ SqL K H a (ns.map V.int) ∧ ∀ t H', H t = none → Fr [] H H' → Tape K H H' t → Q (.ref t) H'
def sp_law_draw (K : PySem.W.Frag) : Sp := fun vs H Q _ => ∃ (t : Addr) (m : Int) (H0 : Hp), vs = [.ref t, .int m] ∧ Tape K H0 H t ∧ 0 < m ∧ m < 2 ^ 64 ∧ ∀ r H', 0 ≤ r → r < m → Fr [t] H H' → Tape K H0 H' t → Q (.int r) H'
section
variable {P : Program} {w : World} {K : PySem.W.Frag} {mg : Str → Option Value} {base : Heap}
theorem ok_law_tape (T : Env K mg) : Fx P w K mg base 1 "_law_tape" p_law_tape (sp_law_tape K) := by
  refine T.l_law_tape.ok sc_law_tape (fun vs H Q E h => ?_) (fun f cdv A outer s H vs Q E hr h => ?_)
  · obtain ⟨a, ns, rfl, _⟩ := h
    rfl
  · obtain ⟨a, ns, rfl, hS, k⟩ := h
    refine ⟨_, (pss_one (ps_ret (pe_lst (pa_cons (pv 0) (pa_cons pe_int (pa_cons pe_int (pa_cons pe_int pa_nil))))))), ?_⟩
    walk_at "go"
    refine ⟨by show 4 ≤ sizeLine; decide, fun t ht => ?_⟩
    exact k t _ ht (Fr.new ht) ⟨⟨a, ns, 0, 0, 0, upd_same, hS, Int.le_refl 0⟩, Fr.new ht, ht⟩
theorem ok_law_draw (T : Env K mg) : Fx P w K mg base 1 "_law_draw" p_law_draw (sp_law_draw K) := by
  refine T.l_law_draw.ok sc_law_draw (fun vs H Q E h => ?_) (fun f cdv A outer s H vs Q E hr h => ?_)
  · obtain ⟨t, m, _, rfl, _⟩ := h
    rfl
  · obtain ⟨t, m, H0, rfl, hT, m0, m64, k⟩ := h
    obtain ⟨⟨a, ns, n, d, p, ht, hS0, hp⟩, f0, n0⟩ := hT
    have hS : SqL K H a (ns.map V.int) := f0.seqL hS0 (by simp)
    have keep : ∀ H', Fr [t] H H' → Fr [] H0 H' := fun H' f b o e _ => f b o (f0 b o e (by simp)) (by
      intro z
      rw [List.mem_singleton.mp z, n0] at e
      cases e)
    refine ⟨_, (pss_cons (ps_set (i := 2) sc_law_draw.nd rfl (Or.inl rfl) (pe_ix (ix_U (K := K) rfl) (pv 0) pe_int (fun _ _ => rfl)))
      (pss_cons (ps_asg (pe_op (op_addU (K := K) rfl) (pe_ix (ix_U (K := K) rfl) (pv 0) pe_int (fun _ _ => rfl)) pe_int) (pg_sub (pv 0) pe_int set_list))
      (C8.pss_cut (ps_if (PW.pt (pw_and (pt_cmpR (op_eqU (K := K) rfl (u64 hr)) (pe_ix (ix_U (K := K) rfl) (pv 0) pe_int (fun _ _ => rfl)) pe_int (nomark _)) (pw_and1 (pt_cmpR op_lt (pe_ix (ix_U (K := K) rfl) (pv 0) pe_int (fun _ _ => rfl)) (pe_callB (call_lenU (K := K) rfl) (by rfl) T.m_len (by decide +kernel) (pa_cons (pv 2) pa_nil)) (nomark _))))) (pss_cons (ps_asg (pe_op op_fdivW (pe_callB call_absU (by rfl) T.m_abs (by decide +kernel) (pa_cons (pe_ix (ix_U (K := K) rfl) (pv 2) (pe_ix (ix_U (K := K) rfl) (pv 0) pe_int (fun _ _ => rfl)) (fun _ _ => rfl)) pa_nil)) (pe_op op_pow pe_int pe_int)) (pg_sub (pv 0) pe_int set_list))
      (pss_one (ps_asg (pe_op (op_addU (K := K) rfl) (pe_ix (ix_U (K := K) rfl) (pv 0) pe_int (fun _ _ => rfl)) pe_int) (pg_sub (pv 0) pe_int set_list)))) pss_nil)
      (pss_cons (ps_if (pt_cmpR op_gt (pe_ix (ix_U (K := K) rfl) (pv 0) pe_int (fun _ _ => rfl)) pe_int (nomark _)) (pss_cons (ps_set (i := 3) sc_law_draw.nd rfl (Or.inl rfl) (pe_op op_mod (pe_ix (ix_U (K := K) rfl) (pv 0) pe_int (fun _ _ => rfl)) (pv 1)))
      (pss_cons (ps_asg (pe_op op_fdivW (pe_ix (ix_U (K := K) rfl) (pv 0) pe_int (fun _ _ => rfl)) (pv 1)) (pg_sub (pv 0) pe_int set_list))
      (pss_one (ps_ret (pv 3))))) pss_nil)
      (pss_cons (ps_set (i := 4) sc_law_draw.nd rfl (Or.inl rfl) pe_int)
      (C8.pss_cut (ps_if (pt_cmpR op_gt (pe_callB (call_lenU (K := K) rfl) (by rfl) T.m_len (by decide +kernel) (pa_cons (pv 2) pa_nil)) pe_int (nomark _)) (pss_one (ps_set (i := 4) sc_law_draw.nd rfl (Or.inl rfl) (pe_ix (ix_U (K := K) rfl) (pv 2) (pe_op op_mod (pe_ix (ix_U (K := K) rfl) (pv 0) pe_int (fun _ _ => rfl)) (pe_callB (call_lenU (K := K) rfl) (by rfl) T.m_len (by decide +kernel) (pa_cons (pv 2) pa_nil))) (fun _ _ => rfl)))) pss_nil)
      (pss_cons (ps_set (i := 5) sc_law_draw.nd rfl (Or.inl rfl) (pe_op op_mod (pe_op (op_addU (K := K) rfl) (pe_op (op_addU (K := K) rfl) (pe_op op_mulU (pe_op op_mod (pv 4) pe_int) pe_int) (pe_op op_mulU (pe_ix (ix_U (K := K) rfl) (pv 0) pe_int (fun _ _ => rfl)) pe_int)) pe_int) pe_int))
      (pss_cons (ps_set (i := 5) sc_law_draw.nd rfl (Or.inl rfl) (pe_op op_mod (pe_op op_mulU (pv 5) (pe_op (op_addU (K := K) rfl) (pv 5) pe_int)) pe_int))
      (pss_one (ps_ret (pe_op op_mod (pe_op op_mod (pe_op op_mulU (pv 5) pe_int) pe_int) (pv 1)))))))))))), ?_⟩
    walk_at "go"
    refine w_ixL (SqL.of ht) rfl ?_
    walk_at "go"
    refine w_ixL (SqL.of ht) rfl ?_
    walk_at "go"
    refine w_setL ht rfl ?_
    generalize hH1 : upd H t _ = H1
    have f1 : Fr [t] H H1 := by rw [← hH1]; exact Fr.mut (by simp)
    have t1 : H1 t = some (.lst [.ref a, .int (n + 1), .int d, .int p]) := by rw [← hH1]; exact upd_same
    refine w_cut (fun σ' H' => σ' = [some (.ref t), some (.int m), some (.ref a), none, none, none] ∧ Fr [t] H H' ∧ ∃ d p, H' t = some (.lst [.ref a, .int (n + 1), .int d, .int p]) ∧ 0 ≤ p) ?_ ?_
    · walk_at "go"
      refine w_ixL (SqL.of t1) rfl ?_
      walk_at "go"
      have end0 : ∀ d p, 0 ≤ p → ∀ H', Fr [t] H H' → H' t = some (.lst [.ref a, .int (n + 1), .int d, .int p]) → ([some (.ref t), some (.int m), some (.ref a), none, none, none] : L2.St) = [some (.ref t), some (.int m), some (.ref a), none, none, none] ∧ Fr [t] H H' ∧ ∃ d p, H' t = some (.lst [.ref a, .int (n + 1), .int d, .int p]) ∧ 0 ≤ p :=
        fun d p hp H' f e => ⟨rfl, f, d, p, e, hp⟩
      refine ite_d (fun h0 => ?_) (fun h0 => ?_)
      · walk_at "go"
        refine w_ixL (SqL.of t1) rfl ?_
        walk_at "go"
        have hS1 : SqL K H1 a (ns.map V.int) := (keep _ f1).seqL hS0 (by simp)
        refine w_lenL hS1 ?_
        walk_at "go"
        refine ite_d (fun h1 => ?_) (fun h1 => ?_)
        · rw [List.length_map] at h1
          obtain ⟨z, hz, _⟩ := at_int hp h1
          walk_at "go"
          refine w_ixL (SqL.of t1) rfl ?_
          walk_at "go"
          refine w_ixL hS1 hz ?_
          walk_at "go"
          refine w_rI ⟨by decide, by decide +kernel⟩ ?_
          walk_at "go"
          refine w_setL t1 rfl ?_
          walk_at "go"
          refine w_ixL (SqL.of upd_same) rfl ?_
          walk_at "go"
          refine w_setL upd_same rfl ?_
          refine end0 _ (p + 1) (by omega) _ ?_ upd_same
          exact (f1.trans (Fr.mut (by simp))).trans (Fr.mut (by simp))
        · walk_at "go"
          exact end0 d p hp H1 f1 t1
      · walk_at "go"
        exact end0 d p hp H1 f1 t1
    · rintro σ' H2 ⟨rfl, f2, d, p, t2, hp⟩
      have hS2 : SqL K H2 a (ns.map V.int) := (keep _ f2).seqL hS0 (by simp)
      have fin : ∀ x, Q (.int (x % m)) H2 := fun x => k _ H2 (Int.emod_nonneg _ (by omega)) (Int.emod_lt_of_pos _ m0) f2 ⟨⟨a, ns, n + 1, d, p, t2, hS0, hp⟩, keep _ f2, n0⟩
      walk_at "go"
      refine w_ixL (SqL.of t2) rfl ?_
      walk_at "go"
      refine ite_d (fun h0 => ?_) (fun h0 => ?_)
      · walk_at "go"
        refine w_ixL (SqL.of t2) rfl ?_
        walk_at "go"
        refine w_rI m0 ?_
        walk_at "go"
        refine w_ixL (SqL.of t2) rfl ?_
        walk_at "go"
        refine w_rI (wide_div m0 (b := 64) (by omega) (by decide) (by decide)) ?_
        walk_at "go"
        refine w_setL t2 rfl ?_
        walk_at "go"
        have f3 : Fr [t] H (upd H2 t (.lst [.ref a, .int (n + 1), .int (d / m), .int p])) := f2.trans (Fr.mut (by simp))
        exact k _ _ (Int.emod_nonneg _ (by omega)) (Int.emod_lt_of_pos _ m0) f3 ⟨⟨a, ns, n + 1, d / m, p, upd_same, hS0, hp⟩, keep _ f3, n0⟩
      · walk_at "go"
        refine w_cut (fun σ' H' => H' = H2 ∧ ∃ z, σ' = [some (.ref t), some (.int m), some (.ref a), none, some (.int z), none]) ?_ ?_
        · walk_at "go"
          refine w_lenL hS2 ?_
          walk_at "go"
          refine ite_d (fun h1 => ?_) (fun h1 => ?_)
          · rw [List.length_map] at h1
            walk_at "go"
            refine w_ixL (SqL.of t2) rfl ?_
            walk_at "go"
            refine w_lenL hS2 ?_
            rw [List.length_map]
            refine w_rI h1 ?_
            obtain ⟨z, hz, _⟩ := at_int (ns := ns) (p := (n + 1) % (ns.length : Int)) (Int.emod_nonneg _ (by omega)) (Int.emod_lt_of_pos _ h1)
            refine w_ixL hS2 hz ?_
            walk_at "go"
            exact ⟨rfl, z, rfl⟩
          · walk_at "go"
            exact ⟨rfl, 0, rfl⟩
        · rintro σ' H' ⟨rfl, z, rfl⟩
          walk_at "go"
          refine w_rI (by show (0 : Int) < 2147483647; decide) ?_
          refine w_mulI (.inr (by decide)) ?_
          walk_at "go"
          refine w_ixL (SqL.of t2) rfl ?_
          walk_at "go"
          refine w_mulI (.inr (by decide)) ?_
          walk_at "go"
          refine w_rI (by show (0 : Int) < 2147483629; decide) ?_
          walk_at "go"
          have b1 : ∀ y : Int, 0 ≤ y % 2147483629 ∧ y % 2147483629 < 2147483629 := fun y => ⟨Int.emod_nonneg _ (by decide), Int.emod_lt_of_pos _ (by decide)⟩
          generalize he : (_ : Int) % 2147483629 = e
          have b2 : 0 ≤ e ∧ e < 2147483629 := by rw [← he]; exact b1 _
          refine w_mulI (.inl (by constructor <;> omega)) ?_
          walk_at "go"
          refine w_rI (by show (0 : Int) < 2147483587; decide) ?_
          walk_at "go"
          refine w_mulI (.inr (by decide)) ?_
          walk_at "go"
          refine w_rI (by show (0 : Int) < 2147483563; decide) ?_
          walk_at "go"
          refine w_rI m0 ?_
          exact fin _
end

/-- a change as a queue has it -/
structure Ch where
  rank : Int
  word : Str
  num : Int
  deriving DecidableEq
def Ch.d (c : Ch) : PyData := .tuple [.int c.rank, .str c.word, .int c.num]
def Ch.ok (c : Ch) : Prop := (-1000000000 ≤ c.num ∧ c.num ≤ 1000000000) ∧ PyData.strOk c.word = true
theorem Ch.lay {c : Ch} (h : c.ok) : c.d.canLay0 = true ∧ c.d.depth ≤ 1 := by
  constructor
  · simp [Ch.d, PyData.canLay0, PyData.canLayAll0, h.2]
  · simp [Ch.d, PyData.depth, PyData.depthAll]
theorem Ch.at {K : PySem.W.Frag} {H : Hp} {v : V} {c : Ch} (h : Dt K H v c.d) : ∃ p, v = .ref p ∧ SqT K H p [.int c.rank, .str c.word, .int c.num] := by
  obtain ⟨p, vs, rfl, s, a⟩ := h.tuple
  refine ⟨p, rfl, ?_⟩
  cases a with
  | cons a1 a2 =>
    cases a2 with
    | cons a2 a3 =>
      cases a3 with
      | cons a3 a4 =>
        cases a4
        cases a1.of_int
        cases a2.of_str
        cases a3.of_int
        exact s
theorem Ch.mk_at {K : PySem.W.Frag} {H : Hp} {p : Addr} (c : Ch) (h : SqT K H p [.int c.rank, .str c.word, .int c.num]) : Dt K H (.ref p) c.d := .tup h (.cons (.int _) (.cons (.str _) (.cons (.int _) .nil)))
theorem chs_shaped {cs : List Ch} (h : ∀ c ∈ cs, c.ok) : SeqAt.shaped (.list (cs.map Ch.d)) = true := shaped_list (n := 1) (by decide) fun d hd => by
  obtain ⟨c, hc, rfl⟩ := List.mem_map.mp hd
  exact Ch.lay (h c hc)
/-- the place of a change in a queue -/
theorem chs_at {K : PySem.W.Frag} {H : Hp} {vs : List V} {cs : List Ch} (a : DtAll K H vs (cs.map Ch.d)) {i : Nat} {x : V} (h : vs[i]? = some x) : ∃ c p, cs[i]? = some c ∧ x = .ref p ∧ SqT K H p [.int c.rank, .str c.word, .int c.num] := by
  obtain ⟨d, h1, h2⟩ := a.get h
  obtain ⟨c, h3, rfl⟩ := map_get h1
  obtain ⟨p, rfl, h4⟩ := Ch.at h2
  exact ⟨c, p, h3, rfl, h4⟩

/-- a change that has come -/
structure Co where
  rank : Int
  path : PyData
  box : Str
  word : Str
  num : Int
def Co.d (c : Co) : PyData := .tuple [.int c.rank, c.path, .str c.box, .str c.word, .int c.num]
def Co.short (c : Co) : Ch := ⟨c.rank, c.word, c.num⟩
def Co.ok (c : Co) : Prop := c.short.ok ∧ PyData.strOk c.box = true ∧ c.path.canLay0 = true ∧ c.path.depth ≤ 2
theorem Co.at {K : PySem.W.Frag} {H : Hp} {v : V} {c : Co} (h : Dt K H v c.d) : ∃ p u, v = .ref p ∧ SqT K H p [.int c.rank, u, .str c.box, .str c.word, .int c.num] ∧ Dt K H u c.path := by
  obtain ⟨p, vs, rfl, s, a⟩ := h.tuple
  cases a with
  | cons a1 a2 =>
    cases a2 with
    | cons a2 a3 =>
      cases a3 with
      | cons a3 a4 =>
        cases a4 with
        | cons a4 a5 =>
          cases a5 with
          | cons a5 a6 =>
            cases a6
            cases a1.of_int
            cases a3.of_str
            cases a4.of_str
            cases a5.of_int
            exact ⟨p, _, rfl, s, a2⟩
theorem Co.lay {c : Co} (h : c.ok) : c.d.canLay0 = true ∧ c.d.depth ≤ 3 := by
  obtain ⟨⟨_, h1⟩, h2, h3, h4⟩ := h
  have h1 : PyData.strOk c.word = true := h1
  constructor
  · simp [Co.d, PyData.canLay0, PyData.canLayAll0, h1, h2, h3]
  · simp [Co.d, PyData.depth, PyData.depthAll]
    omega
theorem lay_shaped {d : PyData} (h : d.canLay0 = true ∧ d.depth ≤ 64) : SeqAt.shaped d = true := by
  unfold SeqAt.shaped
  rw [Bool.and_eq_true]
  exact ⟨h.1, decide_eq_true h.2⟩
def ofBox (d : PyData) (b : Str) (c : Co) : Bool := PyData.eqv c.path d && decide (c.box = b)
section
variable {P : Program} {w : World} {K : PySem.W.Frag} {mg : Str → Option Value} {base : Heap}
def sp_queue_of (K : PySem.W.Frag) : Sp := fun vs H Q _ => ∃ (q : Addr) (v : V) (b : Str) (cs : List Co) (d : PyData), vs = [.ref q, v, .str b] ∧ Lq K H q (cs.map Co.d) ∧ Dt K H v d ∧ (d.canLay0 = true ∧ d.depth ≤ 2) ∧ (∀ c ∈ cs, c.ok) ∧ cs.length ≤ 1000 ∧
  ∀ l H', H l = none → Fr [] H H' → Lq K H' l ((cs.filter (ofBox d b)).map fun c => c.short.d) → Q (.ref l) H'
theorem ok_queue_of (T : Env K mg) : Fx P w K mg base 1 "queue_of" p_queue_of (sp_queue_of K) := by
  refine T.l_queue_of.ok sc_queue_of (fun vs H Q E h => ?_) (fun f cdv A outer s H vs Q E hr h => ?_)
  · obtain ⟨q, v, b, cs, d, rfl, _⟩ := h
    rfl
  · obtain ⟨q, v, b, cs, d, rfl, ⟨us, hq, hd⟩, dv, ld, ok, lc, k⟩ := h
    refine ⟨_, (pss_one (ps_ret (pe_lc (own := [("change", 3)]) (g := (gName 3)) rfl sc_queue_of.nd (pi_listU (K := K) rfl (pv 0)) (blkOk_by (N := N_queue_of) (sc := defScope s_queue_of) (by decide +kernel)) (fun _ _ _ _ _ => (pg_name (i := 3) sc_queue_of.nd rfl (Or.inl rfl))) (fun _ _ _ _ _ => (pts_one (PW.pt (pw_and (pt_cmpR (op_eqU (K := K) rfl (u64 hr)) (pe_ix (ix_U (K := K) rfl) (pv 3) pe_int (fun _ _ => rfl)) (pv 1) (nomark _)) (pw_and1 (pt_cmpR (op_eqU (K := K) rfl (u64 hr)) (pe_ix (ix_U (K := K) rfl) (pv 3) pe_int (fun _ _ => rfl)) (pv 2) (nomark _))))))) (fun _ _ _ _ _ => (pe_tup (pa_cons (pe_ix (ix_U (K := K) rfl) (pv 3) pe_int (fun _ _ => rfl)) (pa_cons (pe_ix (ix_U (K := K) rfl) (pv 3) pe_int (fun _ _ => rfl)) (pa_cons (pe_ix (ix_U (K := K) rfl) (pv 3) pe_int (fun _ _ => rfl)) pa_nil)))))))), ?_⟩
    walk_at "go"
    refine LCF (ofBox d b) (fun c => c.short.d) hq hd (by omega) (fun _ => rfl) ?_ ?_ ?_
    · intro c x H' mc f' dx QB kb
      obtain ⟨p, u, rfl, hp, du⟩ := Co.at dx
      have okc := ok c mc
      walk_at "go"
      refine w_ixT hp rfl ?_
      walk_at "go"
      refine w_eqD du.dp (dv.mono f'.tu).dp (lay_shaped ⟨okc.2.2.1, by have := okc.2.2.2; omega⟩) (lay_shaped ⟨ld.1, by omega⟩) ?_
      walk_at "go"
      unfold ofBox at kb
      refine ite_b (fun h1 => ?_) (fun h1 => ?_)
      · rw [h1] at kb
        walk_at "go"
        refine w_ixT hp rfl ?_
        walk_at "go"
        exact kb H' Fr.refl
      · rw [h1] at kb
        exact kb H' Fr.refl
    · intro c x H' mc f' dx _ Q' kq
      obtain ⟨p, u, rfl, hp, du⟩ := Co.at dx
      walk_at "go"
      iterate 3
        refine w_ixT hp rfl ?_
        walk_at "go"
      refine ⟨by show 3 ≤ sizeLine; decide, fun c2 hc2 => ?_⟩
      exact kq _ _ (Fr.new hc2) (Ch.mk_at c.short (.inl (.inl upd_same)))
    · intro D H' hD f' L
      exact k D H' hD f' L
end

section
variable {P : Program} {w : World} {K : PySem.W.Frag} {mg : Str → Option Value} {base : Heap}
/-- a small number, or one of six -/
def sp_law_number (K : PySem.W.Frag) : Sp := fun vs H Q _ => ∃ (t : Addr) (H0 : Hp), vs = [.ref t] ∧ Tape K H0 H t ∧ ∀ r H', -1000000000 ≤ r ∧ r ≤ 1000000000 → Fr [t] H H' → Tape K H0 H' t → Q (.int r) H'
theorem ok_law_number (T : Env K mg) : Fx P w K mg base 2 "_law_number" p_law_number (sp_law_number K) := by
  refine T.l_law_number.ok sc_law_number (fun vs H Q E h => ?_) (fun f cdv A outer s H vs Q E hr h => ?_)
  · obtain ⟨t, _, rfl, _⟩ := h
    rfl
  · obtain ⟨t, H0, rfl, hT, k⟩ := h
    refine ⟨_, (pss_cons (ps_if (pt_cmpR op_gt (pe_fx (ok_law_draw T) hr (by decide) (pa_cons (pv 0) (pa_cons pe_int pa_nil))) pe_int (nomark _)) (pss_one (ps_ret (pe_op op_sub (pe_fx (ok_law_draw T) hr (by decide) (pa_cons (pv 0) (pa_cons pe_int pa_nil))) pe_int))) pss_nil)
      (pss_one (ps_ret (pe_ix (ix_U (K := K) rfl) (pe_lst (pa_cons (pe_op op_pow pe_int pe_int) (pa_cons (pe_un un_neg (pe_op op_pow pe_int pe_int)) (pa_cons pe_int (pa_cons (pe_un un_neg pe_int) (pa_cons pe_int (pa_cons pe_int pa_nil))))))) (pe_fx (ok_law_draw T) hr (by decide) (pa_cons (pv 0) (pa_cons pe_int pa_nil))) (fun _ _ => rfl))))), ?_⟩
    walk_at "go"
    refine ⟨t, 8, H0, rfl, hT, by decide, by decide, fun r H1 r0 r1 f1 T1 => ?_⟩
    walk_at "go"
    refine ite_d (fun h0 => ?_) (fun h0 => ?_)
    · walk_at "go"
      refine ⟨t, 9, H0, rfl, T1, by decide, by decide, fun r2 H2 r20 r21 f2 T2 => ?_⟩
      walk_at "go"
      exact k _ _ (by omega) (f1.trans f2) T2
    · walk_at "go"
      refine ⟨by show 6 ≤ sizeLine; decide, fun l hl => ?_⟩
      walk_at "go"
      refine ⟨t, 6, H0, rfl, T1.new hl, by decide, by decide, fun r2 H2 r20 r21 f2 T2 => ?_⟩
      have e2 : H2 l = some (.lst (([1000000000, -1000000000, 999983, -70001, 31623, 40000] : List Int).map V.int)) := f2 _ _ upd_same (by simpa using T1.ne hl)
      obtain ⟨z, hz, hb⟩ := at_all (ns := [1000000000, -1000000000, 999983, -70001, 31623, 40000]) (P := fun r => -1000000000 ≤ r ∧ r ≤ 1000000000) (by decide) r20 r21
      refine w_ixL (SqL.of e2) hz ?_
      exact k _ _ hb ((f1.trans (Fr.new hl)).trans f2) T2



end

def sp_law (K : PySem.W.Frag) : Sp := fun vs H Q _ => ∃ (a : Addr) (ns : List Int), vs = [.ref a] ∧ SqL K H a (ns.map V.int) ∧ ns.length ≤ 63 ∧ ∀ H', Q (.bl true) H'

section
variable {P : Program} {w : World} {K : PySem.W.Frag} {mg : Str → Option Value} {base : Heap}
theorem ok_law (T : Env K mg) {f : Addr} {fd : FuncData} (F : Fun K "law" "law" s_law f fd) : FnOk P w K mg base CX0 3 f fd p_law (sp_law K) := by
  refine F.ok sc_law (fun vs H Q E h => ?_) (fun cdv A outer s H vs Q E hr h => ?_)
  · obtain ⟨a, ns, rfl, _⟩ := h
    rfl
  · obtain ⟨a, ns, rfl, hS, hl, k⟩ := h
    refine ⟨_, (pss_cons (ps_set (i := 1) sc_law.nd rfl (Or.inl rfl) (pe_fx (ok_law_tape T) hr (by decide) (pa_cons (pv 0) pa_nil)))
      (pss_cons (ps_set (i := 2) sc_law.nd rfl (Or.inl rfl) (pe_op op_sub (pe_fx (ok_law_draw T) hr (by decide) (pa_cons (pv 1) (pa_cons pe_int pa_nil))) pe_int))
      (pss_cons (ps_set (i := 3) sc_law.nd rfl (Or.inl rfl) (pe_lst (pa_cons (pe_tup pa_nil) (pa_cons (pe_tup (pa_cons (pe_tup (pa_cons pe_non (pa_cons pe_int pa_nil))) pa_nil)) (pa_cons (pe_tup (pa_cons (pe_tup (pa_cons (pv 2) (pa_cons pe_int pa_nil))) pa_nil)) (pa_cons (pe_tup (pa_cons (pe_tup (pa_cons pe_non (pa_cons pe_int pa_nil))) (pa_cons (pe_tup (pa_cons (pv 2) (pa_cons pe_int pa_nil))) pa_nil))) (pa_cons (pe_tup (pa_cons (pe_tup (pa_cons (pv 2) (pa_cons pe_int pa_nil))) pa_nil)) pa_nil)))))))
      (pss_cons (ps_set (i := 4) sc_law.nd rfl (Or.inl rfl) (pe_lst (pa_cons pe_str (pa_cons pe_str (pa_cons pe_str pa_nil)))))
      (pss_cons (ps_set (i := 5) sc_law.nd rfl (Or.inl rfl) (pe_lst pa_nil))
      (pss_cons (ps_for PassesOwn.never rfl (pi_range1 rfl T.m_range (pa_cons (pe_fx (ok_law_draw T) hr (by decide) (pa_cons (pv 1) (pa_cons pe_int pa_nil))) pa_nil)) (pg_name (i := 6) sc_law.nd rfl (Or.inl rfl)) (pss_cons (ps_set (i := 7) sc_law.nd rfl (Or.inl rfl) (pe_ix (ix_U (K := K) rfl) (pe_lst (pa_cons pe_str (pa_cons pe_str (pa_cons pe_str pa_nil)))) (pe_fx (ok_law_draw T) hr (by decide) (pa_cons (pv 1) (pa_cons pe_int pa_nil))) (fun _ _ => rfl)))
      (pss_cons (ps_set (i := 8) sc_law.nd rfl (Or.inl rfl) (pe_ix (ix_U (K := K) rfl) (pv 3) (pe_fx (ok_law_draw T) hr (by decide) (pa_cons (pv 1) (pa_cons pe_int pa_nil))) (fun _ _ => rfl)))
      (pss_one (ps_expr (pe_bm PySem.F.plainAttrs_list PySem.F.slot_list_append PySem.F.type_list_append mt_append (pv 5) (pa_cons (pe_tup (pa_cons (pe_fx (ok_law_draw T) hr (by decide) (pa_cons (pv 1) (pa_cons pe_int pa_nil))) (pa_cons (pv 8) (pa_cons (pe_ix (ix_U (K := K) rfl) (pv 4) (pe_fx (ok_law_draw T) hr (by decide) (pa_cons (pv 1) (pa_cons pe_int pa_nil))) (fun _ _ => rfl)) (pa_cons (pv 7) (pa_cons (pe_fx (ok_law_number T) hr (by decide) (pa_cons (pv 1) pa_nil)) pa_nil)))))) pa_nil)))))))
      (pss_cons (ps_set (i := 9) sc_law.nd rfl (Or.inl rfl) (pe_callTy (call_listU (K := K) rfl) (by rfl) T.m_list (by decide +kernel) (pa_cons (pv 5) pa_nil)))
      (pss_cons (ps_for PassesOwn.never rfl (pi_listU (K := K) rfl (pv 3)) (pg_name (i := 10) sc_law.nd rfl (Or.inl rfl)) (pss_one (ps_for PassesOwn.never rfl (pi_listU (K := K) rfl (pe_op (op_addU (K := K) rfl) (pv 4) (pe_lst (pa_cons pe_str pa_nil)))) (pg_name (i := 11) sc_law.nd rfl (Or.inl rfl)) (pss_cons (ps_set (i := 12) sc_law.nd rfl (Or.inl rfl) (pe_lst pa_nil))
      (pss_cons (ps_for PassesOwn.never rfl (pi_listU (K := K) rfl (pv 5)) (pg_tupU (K := K) (n := 5) rfl rfl (pgs_cons (pg_name (i := 13) sc_law.nd rfl (Or.inl rfl)) (pgs_cons (pg_name (i := 8) sc_law.nd rfl (Or.inl rfl)) (pgs_cons (pg_name (i := 14) sc_law.nd rfl (Or.inl rfl)) (pgs_cons (pg_name (i := 7) sc_law.nd rfl (Or.inl rfl)) (pgs_cons (pg_name (i := 15) sc_law.nd rfl (Or.inl rfl)) pgs_nil)))))) (pss_one (ps_if (PW.pt (pw_and (pt_cmpR (op_eqU (K := K) rfl (u64 hr)) (pv 8) (pv 10) (nomark _)) (pw_and1 (pt_cmpR (op_eqU (K := K) rfl (u64 hr)) (pv 14) (pv 11) (nomark _))))) (pss_one (ps_expr (pe_bm PySem.F.plainAttrs_list PySem.F.slot_list_append PySem.F.type_list_append mt_append (pv 12) (pa_cons (pe_tup (pa_cons (pv 13) (pa_cons (pv 7) (pa_cons (pv 15) pa_nil)))) pa_nil)))) pss_nil)))
      (pss_one (ps_for PassesOwn.never rfl (pi_range1 rfl T.m_range (pa_cons pe_int pa_nil)) (pg_name (i := 16) sc_law.nd rfl (Or.inl rfl)) (pss_cons (ps_set (i := 17) sc_law.nd rfl (Or.inl rfl) (pe_fx (ok_queue_of T) hr (by decide) (pa_cons (pv 9) (pa_cons (pv 10) (pa_cons (pv 11) pa_nil)))))
      (pss_cons (ps_if (PW.pt (pw_or (pt_not (pt_val (pe_callB (call_isiU (K := K) rfl) (by rfl) T.m_isinstance (by decide +kernel) (pa_cons (pv 17) (pa_cons (pe_bltn (v := .ty "list") (u := .type "list") rfl T.m_list (by decide +kernel) rfl) pa_nil))))) (pw_or (pt_cmpR (op_neU (K := K) rfl (u64 hr)) (pv 17) (pv 12) (nomark _)) (pw_or1 (pt_cmpR (op_neU (K := K) rfl (u64 hr)) (pv 9) (pv 5) (nomark _)))))) (pss_one (ps_ret pe_bl)) pss_nil)
      (pss_one (ps_expr (pe_bm PySem.F.plainAttrs_list PySem.F.slot_list_append PySem.F.type_list_append mt_append (pv 17) (pa_cons (pe_tup (pa_cons pe_int (pa_cons pe_str (pa_cons pe_int pa_nil)))) pa_nil)))))))))))))
      (pss_one (ps_ret pe_bl)))))))))), ?_⟩
    walk_at "go"
    refine ⟨a, ns, rfl, hS, fun t H1 ht f1 T1 => ?_⟩
    walk_at "go"
    refine ⟨t, 5, H, rfl, T1, by decide, by decide, fun r H2 a2 b2 f2 T2 => ?_⟩
    walk_at "go"
    generalize hk : r - 1 = key
    refine mkT (K := K) .nil fun p1 H3 _ g1 d1 => ?_
    walk_at "go"
    refine mkT (K := K) (.cons .non (.cons (.int 0) .nil)) fun p2 H4 _ g2 d2 => ?_
    walk_at "go"
    refine mkT (.cons d2 .nil) fun p3 H5 _ g3 d3 => ?_
    walk_at "go"
    refine mkT (K := K) (.cons (.int key) (.cons (.int 0) .nil)) fun p4 H6 _ g4 d4 => ?_
    walk_at "go"
    refine mkT (.cons d4 .nil) fun p5 H7 _ g5 d5 => ?_
    walk_at "go"
    refine mkT (K := K) (.cons .non (.cons (.int 0) .nil)) fun p6 H8 _ g6 d6 => ?_
    walk_at "go"
    refine mkT (K := K) (.cons (.int key) (.cons (.int 1) .nil)) fun p7 H9 _ g7 d7 => ?_
    walk_at "go"
    refine mkT (.cons (d6.mono g7.tu) (.cons d7 .nil)) fun p8 H10 _ g8 d8 => ?_
    walk_at "go"
    refine mkT (K := K) (.cons (.int key) (.cons (.int 1) .nil)) fun p9 H11 _ g9 d9 => ?_
    walk_at "go"
    refine mkT (.cons d9 .nil) fun p10 H12 _ g10 d10 => ?_
    walk_at "go"
    have g712 := ((((g6.trans g7).trans g8).trans g9).trans g10)
    refine mkL (.cons (d1.mono ((((g2.trans g3).trans g4).trans g5).trans g712).tu) (.cons (d3.mono ((g4.trans g5).trans g712).tu) (.cons (d5.mono g712.tu) (.cons (d8.mono (g9.trans g10).tu) (.cons d10 .nil))))) fun pl H13 npl g11 L13 => ?_
    have T13 := T2.fr ((((((g1.trans g2).trans g3).trans g4).trans g5).trans g712).trans g11)
    have npt : pl ≠ t := (T2.fr (((((g1.trans g2).trans g3).trans g4).trans g5).trans g712)).ne npl
    have okp : ∀ d ∈ ([.tuple [], .tuple [.tuple [.none, .int 0]], .tuple [.tuple [.int key, .int 0]], .tuple [.tuple [.none, .int 0], .tuple [.int key, .int 1]], .tuple [.tuple [.int key, .int 1]]] : List PyData), d.canLay0 = true ∧ d.depth ≤ 2 := by
      intro d hd
      simp only [List.mem_cons, List.not_mem_nil, or_false] at hd
      rcases hd with rfl | rfl | rfl | rfl | rfl <;> exact ⟨by simp [PyData.canLay0, PyData.canLayAll0], by simp [PyData.depth, PyData.depthAll]⟩
    have n5 : ([.tuple [], .tuple [.tuple [.none, .int 0]], .tuple [.tuple [.int key, .int 0]], .tuple [.tuple [.none, .int 0], .tuple [.int key, .int 1]], .tuple [.tuple [.int key, .int 1]]] : List PyData).length = 5 := rfl
    generalize ([.tuple [], .tuple [.tuple [.none, .int 0]], .tuple [.tuple [.int key, .int 0]], .tuple [.tuple [.none, .int 0], .tuple [.int key, .int 1]], .tuple [.tuple [.int key, .int 1]]] : List PyData) = pds at L13 okp n5
    clear d1 d2 d3 d4 d5 d6 d7 d8 d9 d10 g1 g2 g3 g4 g5 g6 g7 g8 g9 g10 g11 g712
    walk_at "go"
    refine mkS (ns := ["a", "ab", "b"]) rfl fun nl H14 nnl g14 e14 => ?_
    have nnt : nl ≠ t := T13.ne nnl
    have npl2 : nl ≠ pl := by
      rintro rfl
      obtain ⟨_, e, _⟩ := L13
      rw [nnl] at e
      cases e
    have L14 := L13.fr0 g14
    have T14 := T13.fr g14
    walk_at "go"
    refine mkL (K := K) .nil fun q H15 nq g15 L15 => ?_
    have nqt : q ≠ t := T14.ne nq
    have q0 : H q = none := T14.no nq
    have T15 := T14.fr g15
    have Lp := L14.fr0 g15
    have en := g15 _ _ e14 (by simp)
    have npq : pl ≠ q := by
      rintro rfl
      obtain ⟨_, e, _⟩ := L14
      rw [nq] at e
      cases e
    have nnq : nl ≠ q := by
      rintro rfl
      rw [nq] at e14
      cases e14
    clear L13 L14 g14 g15 T13 T14
    walk_at "go"
    refine ⟨t, 20, H, rfl, T15, by decide, by decide, fun rn H16 a16 b16 f16 T16 => ?_⟩
    have Lp16 := Lp.fr f16 (by simpa using npt) (T15.tu f16)
    have Lq16 := L15.fr f16 (by simpa using nqt) (T15.tu f16)
    have en16 := f16 _ _ en (by simpa using nnt)
    clear Lp L15 en
    refine F_R1 rn.toNat rfl (by omega) (by omega) (fun i σ H' => (∃ v6 v7 v8 v9 v10 v11 v12 v13 v14 v15 v16 v17, σ = [some (.ref a), some (.ref t), some (.int key), some (.ref pl), some (.ref nl), some (.ref q), v6, v7, v8, v9, v10, v11, v12, v13, v14, v15, v16, v17]) ∧ Tape K H H' t ∧ Lq K H' pl pds ∧ H' nl = some (.lst ((["a", "ab", "b"] : List Str).map V.str)) ∧ ∃ cs : List Co, cs.length = i ∧ (∀ c ∈ cs, c.ok) ∧ Lq K H' q (cs.map Co.d)) ?_ ?_ ?_
    · exact ⟨⟨_, _, _, _, _, _, _, _, _, _, _, _, rfl⟩, T16, Lp16, en16, [], rfl, by simp, Lq16⟩
    · rintro i σ H17 hi ⟨⟨v6, v7, v8, v9, v10, v11, v12, v13, v14, v15, v16, v17, rfl⟩, T17, Lp17, en17, cs, el, okc, Lq17⟩
      walk_at "go"
      refine mkS (ns := ["set", "add", "times"]) rfl fun wl H18 nwl g18 e18 => ?_
      walk_at "go"
      refine ⟨t, 3, H, rfl, T17.fr g18, by decide, by decide, fun r19 H19 a19 b19 f19 T19 => ?_⟩
      have e19 := f19 _ _ e18 (by simpa using T17.ne nwl)
      obtain ⟨wd, hwd, swd⟩ := at_str (ns := ["set", "add", "times"]) (P := fun z => PyData.strOk z = true) (by decide +kernel) a19 b19
      have f719 : Fr [t] H17 H19 := (g18.mono (by simp)).trans f19
      have tu19 := T17.tu f719
      have Lp19 := Lp17.fr f719 (by simpa using npt) tu19
      have Lq19 := Lq17.fr f719 (by simpa using nqt) tu19
      have en19 := f719 _ _ en17 (by simpa using nnt)
      refine w_ixL (SqL.of e19) hwd ?_
      clear e18 e19 f719 tu19 Lp17 Lq17 en17 g18 f19
      walk_at "go"
      refine ⟨t, 4, H, rfl, T19, by decide, by decide, fun r20 H20 a20 b20 f20 T20 => ?_⟩
      have tu20 := T19.tu f20
      have Lp20 := Lp19.fr f20 (by simpa using npt) tu20
      have Lq20 := Lq19.fr f20 (by simpa using nqt) tu20
      have en20 := f20 _ _ en19 (by simpa using nnt)
      clear Lp19 Lq19 en19
      refine Lp20.at okp a20 (by omega) fun v d dv ld _ => ?_
      walk_at "go"
      refine ⟨Lq20.ty, ?_⟩
      walk_at "go"
      refine ⟨t, 4, H, rfl, T20, by decide, by decide, fun r21 H21 a21 b21 f21 T21 => ?_⟩
      walk_at "go"
      refine ⟨t, 3, H, rfl, T21, by decide, by decide, fun r22 H22 a22 b22 f22 T22 => ?_⟩
      have f202 := f21.trans f22
      have en22 := f202 _ _ en20 (by simpa using nnt)
      obtain ⟨nb, hnb, snb⟩ := at_str (ns := ["a", "ab", "b"]) (P := fun z => PyData.strOk z = true) (by decide +kernel) a22 b22
      refine w_ixL (SqL.of en22) hnb ?_
      walk_at "go"
      refine ⟨t, H, rfl, T22, fun m H23 bm f23 T23 => ?_⟩
      have f203 := f202.trans f23
      have tu23 := T20.tu f203
      have Lp23 := Lp20.fr f203 (by simpa using npt) tu23
      have Lq23 := Lq20.fr f203 (by simpa using nqt) tu23
      have en23 := f203 _ _ en20 (by simpa using nnt)
      have dv23 := dv.mono tu23
      clear Lp20 Lq20 en20 f202 f203 tu23 en22 dv
      walk_at "go"
      refine mkT (.cons (.int r21) (.cons dv23 (.cons (.str nb) (.cons (.str wd) (.cons (.int m) .nil))))) fun c2 H24 nc2 g24 d24 => ?_
      walk_at "go"
      refine (Lq23.fr0 g24).app d24 (by rw [List.length_map]; omega) fun H25 f25 tu25 L25 => ?_
      have T25 := (T23.fr g24).fr1 f25 nqt q0
      refine ⟨⟨_, _, _, _, _, _, _, _, _, _, _, _, rfl⟩, T25, (Lp23.fr0 g24).fr f25 (by simpa using npq) tu25, f25 _ _ (g24 _ _ en23 (by simp)) (by simpa using nnq), cs ++ [⟨r21, d, nb, wd, m⟩], by simp [el], ?_, by rw [List.map_append]; exact L25⟩
      intro x hx
      rcases List.mem_append.mp hx with z | z
      · exact okc x z
      · rw [List.mem_singleton.mp z]
        exact ⟨⟨bm, swd⟩, snb, ld.1, ld.2⟩
    · rintro σ H17 ⟨⟨v6, v7, v8, v9, v10, v11, v12, v13, v14, v15, v16, v17, rfl⟩, T17, Lp17, en17, cs, el, okc, Lq17⟩
      clear T17 T16 T15 Lp16 Lq16 en16 T2 f2
      have lcs : cs.length ≤ 20 := by omega
      walk_at "go"
      refine Lq17.copy fun l H18 nl18 g18 L18 => ?_
      have Lp18 := Lp17.fr0 g18
      have Lq18 := Lq17.fr0 g18
      have en18 := g18 _ _ en17 (by simp)
      clear Lp17 Lq17 en17 g18
      have shq : SeqAt.shaped (.list (cs.map Co.d)) = true := shaped_list (n := 3) (by decide) fun d hd => by
        obtain ⟨c, hc, rfl⟩ := List.mem_map.mp hd
        exact Co.lay (okc c hc)
      walk_at "go"
      refine Lp18.walk (fun i σ H' => Fr [] H18 H' ∧ ∃ v6 v7 v8 v10 v11 v12 v13 v14 v15 v16 v17, σ = [some (.ref a), some (.ref t), some (.int key), some (.ref pl), some (.ref nl), some (.ref q), v6, v7, v8, some (.ref l), v10, v11, v12, v13, v14, v15, v16, v17]) ⟨Fr.refl, _, _, _, _, _, _, _, _, _, _, _, rfl⟩ (fun i σ H' h => Lp18.fr0 h.1) ?_ ?_
      · rintro i pv pd σ H19 hpd dpv ⟨f19, v6, v7, v8, v10, v11, v12, v13, v14, v15, v16, v17, rfl⟩
        have lpd := okp pd (List.mem_of_getElem? hpd)
        walk_at "go"
        refine mkS (ns := ["abc"]) rfl fun l3 H20 nl3 g20 e20 => ?_
        refine w_addL (xs := (["a", "ab", "b"] : List Str).map V.str) (zs := (["abc"] : List Str).map V.str) ((f19.trans g20) _ _ en18 (by simp)) e20 (by decide) fun l4 hl4 => ?_
        have g21 : Fr [] H20 (upd H20 l4 (.lst ((["a", "ab", "b"] : List Str).map V.str ++ (["abc"] : List Str).map V.str))) := Fr.new hl4
        have e21 : (upd H20 l4 (.lst ((["a", "ab", "b"] : List Str).map V.str ++ (["abc"] : List Str).map V.str))) l4 = some (.lst ((["a", "ab", "b", "abc"] : List Str).map V.str)) := upd_same
        generalize upd H20 l4 (.lst ((["a", "ab", "b"] : List Str).map V.str ++ (["abc"] : List Str).map V.str)) = H21 at g21 e21 ⊢
        have f1921 := g20.trans g21
        refine F_L (SqL.of e21) (fun i σ H' => Fr [] H21 H' ∧ ∃ v6 v7 v8 v11 v12 v13 v14 v15 v16 v17, σ = [some (.ref a), some (.ref t), some (.int key), some (.ref pl), some (.ref nl), some (.ref q), v6, v7, v8, some (.ref l), some pv, v11, v12, v13, v14, v15, v16, v17]) ⟨Fr.refl, _, _, _, _, _, _, _, _, _, _, rfl⟩ (fun i σ H' _ h => SqL.of (h.1 _ _ e21 (by simp))) ?_ ?_
        · rintro j x σ H22 hx ⟨f22, v6, v7, v8, v11, v12, v13, v14, v15, v16, v17, rfl⟩
          obtain ⟨nm, _, rfl⟩ := map_get hx
          have f1922 := f1921.trans f22
          have f1822 := f19.trans f1922
          have dpv22 := dpv.mono f1922.tu
          walk_at "go"
          refine mkL (K := K) .nil fun due H23 ndue g23 L23 => ?_
          walk_at "go"
          have f1823 := f1822.trans g23
          refine (Lq18.fr0 f1823).walk (fun i σ H' => Fr [] H22 H' ∧ Lq K H' due (((cs.take i).filter (ofBox pd nm)).map fun c => c.short.d) ∧ ∃ v6 v7 v8 v13 v14 v15 v16 v17, σ = [some (.ref a), some (.ref t), some (.int key), some (.ref pl), some (.ref nl), some (.ref q), v6, v7, v8, some (.ref l), some pv, some (.str nm), some (.ref due), v13, v14, v15, v16, v17]) ⟨g23, L23, _, _, _, _, _, _, _, _, rfl⟩ (fun i σ H' h => Lq18.fr0 (f1822.trans h.1)) ?_ ?_
          · rintro k2 cv cd σ H24 hcd dcv ⟨f24, L24, v6, v7, v8, v13, v14, v15, v16, v17, rfl⟩
            obtain ⟨c, hc, rfl⟩ := map_get hcd
            have okC := okc c (List.mem_of_getElem? hc)
            obtain ⟨p, u, rfl, hp, du⟩ := Co.at dcv
            walk_at "go"
            refine w_gtup hp rfl ?_
            walk_at "go"
            refine w_eqD du.dp (dpv22.mono f24.tu).dp (lay_shaped ⟨okC.2.2.1, by have := okC.2.2.2; omega⟩) (lay_shaped ⟨lpd.1, by have := lpd.2; omega⟩) ?_
            walk_at "go"
            have fil := take_filt (f := ofBox pd nm) hc
            have le : ((cs.take k2).filter (ofBox pd nm)).length ≤ 20 := Nat.le_trans (List.length_filter_le _ _) (by rw [List.length_take]; omega)
            refine ite_b (fun h1 => ?_) (fun h1 => ?_)
            · walk_at "go"
              refine ite_d (fun h2 => ?_) (fun h2 => ?_)
              · have ob : ofBox pd nm c = true := by unfold ofBox; rw [h1, decide_eq_true h2]; rfl
                rw [ob, if_pos rfl] at fil
                walk_at "go"
                refine ⟨L24.ty, ?_⟩
                walk_at "go"
                refine mkT (K := K) (.cons (.int c.rank) (.cons (.str c.word) (.cons (.int c.num) .nil))) fun c2 H25 nc2 g25 d25 => ?_
                walk_at "go"
                refine (L24.fr0 g25).app d25 (by rw [List.length_map]; omega) fun H26 f26 tu26 L26 => ?_
                refine ⟨Fr.drop1 ndue (f24.trans g25) f26, ?_, _, _, _, _, _, _, _, _, rfl⟩
                rw [fil, List.map_append]
                exact L26
              · have ob : ofBox pd nm c = false := by unfold ofBox; rw [decide_eq_false h2, Bool.and_false]
                rw [ob, if_neg Bool.false_ne_true, List.append_nil] at fil
                walk_at "go"
                exact ⟨f24, by rw [fil]; exact L24, _, _, _, _, _, _, _, _, rfl⟩
            · have ob : ofBox pd nm c = false := by unfold ofBox; rw [h1]; rfl
              rw [ob, if_neg Bool.false_ne_true, List.append_nil] at fil
              walk_at "go"
              exact ⟨f24, by rw [fil]; exact L24, _, _, _, _, _, _, _, _, rfl⟩
          · rintro σ H24 ⟨f24, L24, v6, v7, v8, v13, v14, v15, v16, v17, rfl⟩
            rw [List.length_map, List.take_length] at L24
            walk_at "go"
            refine F_R1 2 rfl (by decide) (by decide) (fun i σ H' => Fr [] H24 H' ∧ ∃ v6 v7 v8 v13 v14 v15 v16 v17, σ = [some (.ref a), some (.ref t), some (.int key), some (.ref pl), some (.ref nl), some (.ref q), v6, v7, v8, some (.ref l), some pv, some (.str nm), some (.ref due), v13, v14, v15, v16, v17]) ⟨Fr.refl, _, _, _, _, _, _, _, _, rfl⟩ ?_ ?_
            · rintro k3 σ H25 hk3 ⟨f25, v6, v7, v8, v13, v14, v15, v16, v17, rfl⟩
              have f1825 := (f1822.trans f24).trans f25
              have f2225 := f24.trans f25
              walk_at "go"
              refine ⟨l, pv, nm, cs, pd, rfl, L18.fr0 f1825, dpv22.mono f2225.tu, ⟨lpd.1, lpd.2⟩, okc, by omega, fun fd H26 nfd f26 L26 => ?_⟩
              walk_at "go"
              refine L26.isList ?_
              walk_at "go"
              have L24' : Lq K H26 due ((cs.filter (ofBox pd nm)).map fun c => c.short.d) := L24.fr0 (f25.trans f26)
              have shd : SeqAt.shaped (.list ((cs.filter (ofBox pd nm)).map fun c => c.short.d)) = true := shaped_list (n := 1) (by decide) fun d hd => by
                obtain ⟨c, hc, rfl⟩ := List.mem_map.mp hd
                exact Ch.lay (okc c (List.mem_filter.mp hc).1).1
              refine w_neR L26.dp L24'.dp shd ?_
              walk_at "go"
              refine w_neR (L18.fr0 (f1825.trans f26)).dp (Lq18.fr0 (f1825.trans f26)).dp shq ?_
              walk_at "go"
              refine ⟨L26.ty, ?_⟩
              walk_at "go"
              refine mkT (K := K) (.cons (.int 0) (.cons (.str "set") (.cons (.int 1) .nil))) fun c2 H27 nc2 g27 d27 => ?_
              walk_at "go"
              refine (L26.fr0 g27).app d27 (by rw [List.length_map]; exact Nat.le_trans (List.length_filter_le _ _) (by omega)) fun H28 f28 tu28 L28 => ?_
              exact ⟨Fr.drop1 (f25.free nfd) ((f25.trans f26).trans g27) f28, _, _, _, _, _, _, _, _, rfl⟩
            · rintro σ H25 ⟨f25, v6, v7, v8, v13, v14, v15, v16, v17, rfl⟩
              exact ⟨(f22.trans f24).trans f25, _, _, _, _, _, _, _, _, _, _, rfl⟩
        · rintro σ H22 ⟨f22, v6, v7, v8, v11, v12, v13, v14, v15, v16, v17, rfl⟩
          exact ⟨(f19.trans f1921).trans f22, _, _, _, _, _, _, _, _, _, _, _, rfl⟩
      · rintro σ H19 ⟨f19, v6, v7, v8, v10, v11, v12, v13, v14, v15, v16, v17, rfl⟩
        walk_at "go"
        exact k _
end
section
variable {w : World} {K : PySem.W.Frag} {h : Heap} {mg : Str → Option Value}
theorem mk_queue_of (X : K.In h) (G : h.Ns mainGlobals mg) {f : Addr} {od an : Option Addr} {sl : Array (Option Value)} {oc kV dc pm cd ct : Value} (a : PySem.W.nsIn K mainGlobals "queue_of" = some (some (.ref f))) (l : K.lookup f = some ⟨oc, od, .func (PySem.W.fnOf "queue_of" "queue_of" (defArgs s_queue_of) (defBody s_queue_of) (defScope s_queue_of) .none kV dc pm an cd ct), sl⟩) (c : PySem.W.codeIn K cd "queue_of" = true) (k : PySem.W.keepIn K (.ref f) = true) : Loc K mg "queue_of" p_queue_of s_queue_of :=
  have F := fun_mk (st := s_queue_of) l c k
  ⟨f, _, F, PySem.W.mg_of X G a, F.binds (ps := p_queue_of) fun _ _ _ _ _ _ us hl => match us, hl with | [_, _, _], _ => rfl⟩
theorem mk_law_tape (X : K.In h) (G : h.Ns mainGlobals mg) {f : Addr} {od an : Option Addr} {sl : Array (Option Value)} {oc kV dc pm cd ct : Value} (a : PySem.W.nsIn K mainGlobals "_law_tape" = some (some (.ref f))) (l : K.lookup f = some ⟨oc, od, .func (PySem.W.fnOf "_law_tape" "_law_tape" (defArgs s_law_tape) (defBody s_law_tape) (defScope s_law_tape) .none kV dc pm an cd ct), sl⟩) (c : PySem.W.codeIn K cd "_law_tape" = true) (k : PySem.W.keepIn K (.ref f) = true) : Loc K mg "_law_tape" p_law_tape s_law_tape :=
  have F := fun_mk (st := s_law_tape) l c k
  ⟨f, _, F, PySem.W.mg_of X G a, F.binds (ps := p_law_tape) fun _ _ _ _ _ _ us hl => match us, hl with | [_], _ => rfl⟩
theorem mk_law_draw (X : K.In h) (G : h.Ns mainGlobals mg) {f : Addr} {od an : Option Addr} {sl : Array (Option Value)} {oc kV dc pm cd ct : Value} (a : PySem.W.nsIn K mainGlobals "_law_draw" = some (some (.ref f))) (l : K.lookup f = some ⟨oc, od, .func (PySem.W.fnOf "_law_draw" "_law_draw" (defArgs s_law_draw) (defBody s_law_draw) (defScope s_law_draw) .none kV dc pm an cd ct), sl⟩) (c : PySem.W.codeIn K cd "_law_draw" = true) (k : PySem.W.keepIn K (.ref f) = true) : Loc K mg "_law_draw" p_law_draw s_law_draw :=
  have F := fun_mk (st := s_law_draw) l c k
  ⟨f, _, F, PySem.W.mg_of X G a, F.binds (ps := p_law_draw) fun _ _ _ _ _ _ us hl => match us, hl with | [_, _], _ => rfl⟩
theorem mk_law_number (X : K.In h) (G : h.Ns mainGlobals mg) {f : Addr} {od an : Option Addr} {sl : Array (Option Value)} {oc kV dc pm cd ct : Value} (a : PySem.W.nsIn K mainGlobals "_law_number" = some (some (.ref f))) (l : K.lookup f = some ⟨oc, od, .func (PySem.W.fnOf "_law_number" "_law_number" (defArgs s_law_number) (defBody s_law_number) (defScope s_law_number) .none kV dc pm an cd ct), sl⟩) (c : PySem.W.codeIn K cd "_law_number" = true) (k : PySem.W.keepIn K (.ref f) = true) : Loc K mg "_law_number" p_law_number s_law_number :=
  have F := fun_mk (st := s_law_number) l c k
  ⟨f, _, F, PySem.W.mg_of X G a, F.binds (ps := p_law_number) fun _ _ _ _ _ _ us hl => match us, hl with | [_], _ => rfl⟩
theorem mk_law (X : K.In h) (G : h.Ns mainGlobals mg) {f : Addr} {od an : Option Addr} {sl : Array (Option Value)} {oc kV dc pm cd ct : Value} (a : PySem.W.nsIn K mainGlobals "law" = some (some (.ref f))) (l : K.lookup f = some ⟨oc, od, .func (PySem.W.fnOf "law" "law" (defArgs s_law) (defBody s_law) (defScope s_law) .none kV dc pm an cd ct), sl⟩) (c : PySem.W.codeIn K cd "law" = true) (k : PySem.W.keepIn K (.ref f) = true) : Loc K mg "law" p_law s_law :=
  have F := fun_mk (st := s_law) l c k
  ⟨f, _, F, PySem.W.mg_of X G a, F.binds (ps := p_law) fun _ _ _ _ _ _ us hl => match us, hl with | [_], _ => rfl⟩
theorem all_env (X : K.In h) (G : h.Ns mainGlobals mg)
    {f0 : Addr} {od0 an0 : Option Addr} {sl0 : Array (Option Value)} {oc0 kV0 dc0 pm0 cd0 ct0 : Value}
    (a0 : PySem.W.nsIn K mainGlobals "queue_of" = some (some (.ref f0))) (l0 : K.lookup f0 = some ⟨oc0, od0, .func (PySem.W.fnOf "queue_of" "queue_of" (defArgs s_queue_of) (defBody s_queue_of) (defScope s_queue_of) .none kV0 dc0 pm0 an0 cd0 ct0), sl0⟩) (c0 : PySem.W.codeIn K cd0 "queue_of" = true) (k0 : PySem.W.keepIn K (.ref f0) = true)
    {f1 : Addr} {od1 an1 : Option Addr} {sl1 : Array (Option Value)} {oc1 kV1 dc1 pm1 cd1 ct1 : Value}
    (a1 : PySem.W.nsIn K mainGlobals "_law_tape" = some (some (.ref f1))) (l1 : K.lookup f1 = some ⟨oc1, od1, .func (PySem.W.fnOf "_law_tape" "_law_tape" (defArgs s_law_tape) (defBody s_law_tape) (defScope s_law_tape) .none kV1 dc1 pm1 an1 cd1 ct1), sl1⟩) (c1 : PySem.W.codeIn K cd1 "_law_tape" = true) (k1 : PySem.W.keepIn K (.ref f1) = true)
    {f2 : Addr} {od2 an2 : Option Addr} {sl2 : Array (Option Value)} {oc2 kV2 dc2 pm2 cd2 ct2 : Value}
    (a2 : PySem.W.nsIn K mainGlobals "_law_draw" = some (some (.ref f2))) (l2 : K.lookup f2 = some ⟨oc2, od2, .func (PySem.W.fnOf "_law_draw" "_law_draw" (defArgs s_law_draw) (defBody s_law_draw) (defScope s_law_draw) .none kV2 dc2 pm2 an2 cd2 ct2), sl2⟩) (c2 : PySem.W.codeIn K cd2 "_law_draw" = true) (k2 : PySem.W.keepIn K (.ref f2) = true)
    {f3 : Addr} {od3 an3 : Option Addr} {sl3 : Array (Option Value)} {oc3 kV3 dc3 pm3 cd3 ct3 : Value}
    (a3 : PySem.W.nsIn K mainGlobals "_law_number" = some (some (.ref f3))) (l3 : K.lookup f3 = some ⟨oc3, od3, .func (PySem.W.fnOf "_law_number" "_law_number" (defArgs s_law_number) (defBody s_law_number) (defScope s_law_number) .none kV3 dc3 pm3 an3 cd3 ct3), sl3⟩) (c3 : PySem.W.codeIn K cd3 "_law_number" = true) (k3 : PySem.W.keepIn K (.ref f3) = true)
    {f4 : Addr} {od4 an4 : Option Addr} {sl4 : Array (Option Value)} {oc4 kV4 dc4 pm4 cd4 ct4 : Value}
    (a4 : PySem.W.nsIn K mainGlobals "law" = some (some (.ref f4))) (l4 : K.lookup f4 = some ⟨oc4, od4, .func (PySem.W.fnOf "law" "law" (defArgs s_law) (defBody s_law) (defScope s_law) .none kV4 dc4 pm4 an4 cd4 ct4), sl4⟩) (c4 : PySem.W.codeIn K cd4 "law" = true) (k4 : PySem.W.keepIn K (.ref f4) = true)
    (z_abs : PySem.W.nsIn K mainGlobals "abs" = some none)
    (z_isinstance : PySem.W.nsIn K mainGlobals "isinstance" = some none)
    (z_len : PySem.W.nsIn K mainGlobals "len" = some none)
    (z_list : PySem.W.nsIn K mainGlobals "list" = some none)
    (z_range : PySem.W.nsIn K mainGlobals "range" = some none) : Env K mg :=
  { l_queue_of := mk_queue_of X G a0 l0 c0 k0,
    l_law_tape := mk_law_tape X G a1 l1 c1 k1,
    l_law_draw := mk_law_draw X G a2 l2 c2 k2,
    l_law_number := mk_law_number X G a3 l3 c3 k3,
    l_law := mk_law X G a4 l4 c4 k4,
    m_abs := PySem.W.mg_none_of X G z_abs,
    m_isinstance := PySem.W.mg_none_of X G z_isinstance,
    m_len := PySem.W.mg_none_of X G z_len,
    m_list := PySem.W.mg_none_of X G z_list,
    m_range := PySem.W.mg_none_of X G z_range }
theorem walk {l : PySem.W.OpenLaw} {q : Program} {loose : List Str} {XP : (Str → Option Value) → Heap → Prop} {YP : World → Heap → Prop} {d : DefRec} {K : Params → PySem.W.Frag} (hn : l.most = some 63) (hdf : d.params.defaults = [])
    (hY : ∀ (w : World) (h : Heap), YP w h → (K w.params).In h) (hd : d.name = "law")
    (F : ∀ (w : World) (mg : Str → Option Value) (h : Heap), (K w.params).In h → h.Ns mainGlobals mg → Env (K w.params) mg) :
    PySem.W.WalkO q loose XP YP l.row.toRowW d [] (fun f vs => PySem.call f vs) :=
  L2.walk_of (n := 63) (k := 3) (x := "_law_script") (CX := fun _ => CX0) (sp := fun w => sp_law (K w.params)) hn (by decide) hdf ⟨rfl, by decide, by decide⟩ hY (fun w mg fa h KX G hmg => by
    have T := F w mg h KX G
    obtain ⟨f, fd, F1, m, b⟩ := T.l_law.ex
    rw [hd] at hmg
    have e := hmg.symm.trans m
    cases e
    refine ⟨fd, fun s v => ?_, fun base _ _ => ?_⟩
    · obtain ⟨oc, od, kV, doc, pm, an, cdv, ct, osl, rfl, lk, hcd⟩ := F1.ex
      exact .of_eq rfl
    · exact ok_law T F1) (fun _ _ a ns hl _ hS => ⟨a, ns, rfl, hS, hl, fun _ => rfl⟩) fun _ _ _ _ _ z => z
end
end LW
open PySem PySem.W PyProof.Rows
set_option maxRecDepth 100000 in
set_option maxHeartbeats 0 in
theorem PySem.Challenge.cw_viewwood_k59_queues_of_boxes_holds : PySem.Challenge.rw_viewwood_k59_queues_of_boxes.Holds := by
  w_on; o_law; k_head; (case hw => w_witness2)
  k_fill
  refine LW.walk (l := PySem.Challenge.rw_viewwood_k59_queues_of_boxes) rfl rfl (fun w h Y => PySem.W.kIn_of Y) rfl ?F
  case F =>
    intro w mg h KX G
    refine' LW.all_env KX G ?a0 ?l0 ?c0 ?k0 ?a1 ?l1 ?c1 ?k1 ?a2 ?l2 ?c2 ?k2 ?a3 ?l3 ?c3 ?k3 ?a4 ?l4 ?c4 ?k4 ?z_abs ?z_isinstance ?z_len ?z_list ?z_range
    (case a0 => k_is)
    (case l0 => k_is)
    (case c0 => k_is)
    (case k0 => k_is)
    (case a1 => k_is)
    (case l1 => k_is)
    (case c1 => k_is)
    (case k1 => k_is)
    (case a2 => k_is)
    (case l2 => k_is)
    (case c2 => k_is)
    (case k2 => k_is)
    (case a3 => k_is)
    (case l3 => k_is)
    (case c3 => k_is)
    (case k3 => k_is)
    (case a4 => k_is)
    (case l4 => k_is)
    (case c4 => k_is)
    (case k4 => k_is)
    (case z_abs => k_is)
    (case z_isinstance => k_is)
    (case z_len => k_is)
    (case z_list => k_is)
    (case z_range => k_is)

