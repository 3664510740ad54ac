import PyProof.Rows.All
import Wide.All
import OpenK.AllK
import Wide.FinOn
import HandS.ForMost
import HandS.Wide
import HandS.IsInst
import HandS.TupAny
import HandS.Codes
import HandS.Deep
import HandS.Rev
import HandS.TupLe
import HandS.More
import HandS.Walk
import PySem.Challenge.RW_viewwood_k01_numbers_and_names
set_option Elab.async false
set_option linter.all false
set_option maxRecDepth 100000
/-! Uni: one rule for each construct whatever its values are, and short steps of readings. -/
namespace U
open PySem PySem.Spec PyProof.Rows L2
/-! ### a def that stands in the text, with its promise -/
structure Loc (K : PySem.W.Frag) (mg : Str → Option Value) (x : Str) (ps : List Str) (st : Stmt) : Prop where
  ex : ∃ f fd, Fun K x x st f fd ∧ mg x = some (.ref f) ∧ Binds K fd ps []
structure Fx (P : Program) (w : World) (K : PySem.W.Frag) (mg : Str → Option Value) (base : Heap) (k : Nat) (x : Str) (ps : List Str) (sp : Sp) : Prop where
  ex : ∃ f fd, FnOk P w K mg base CX0 k f fd ps sp ∧ mg x = some (.ref f) ∧ PySem.W.keepIn K (.ref f) = true ∧ Binds K fd ps []
theorem Fx.mono {P : Program} {w : World} {K : PySem.W.Frag} {mg : Str → Option Value} {base : Heap} {j k : Nat} {x : Str} {ps : List Str} {sp : Sp} (F : Fx P w K mg base j x ps sp) (h : j ≤ k) : Fx P w K mg base k x ps sp := by
  obtain ⟨f, fd, a, b, c, d⟩ := F.ex
  exact ⟨f, fd, a.mono h, b, c, d⟩
theorem Loc.ok {P : Program} {w : World} {K : PySem.W.Frag} {mg : Str → Option Value} {base : Heap} {x : Str} {st : Stmt} {N ps : List Str} {k : Nat} {sp : Sp} (L : Loc K mg x ps st) (S : FnScope N ps (defScope st)) (len : ∀ vs H Q E, sp vs H Q E → vs.length = ps.length)
    (hbody : ∀ (f : Addr) (cdv : Value) (A : Around) (outer : List Env) (s : Shared) (H : Hp) (vs : List V) (Q : VK) (E : XK), Room k (A.deeper (envOfC x (defScope st) s.heap.objs.size f cdv)) → sp vs H Q E →
      ∃ t, PSs (cxOf CX0 P w K mg base N x (defScope st) f cdv A outer s H E).nox (defBody st) t ∧ t ⟨fun _ H' => Q .non H', Q, fun _ _ => False, fun _ _ => False⟩ (start N vs) H) : Fx P w K mg base (k + 1) x ps sp := by
  obtain ⟨f, fd, F, m, b⟩ := L.ex
  exact ⟨f, fd, F.ok S len fun cdv A outer s H vs Q E hr h => hbody f cdv A outer s H vs Q E hr h, m, F.kp, b⟩
theorem pe_fx {X : Cx} {k j : Nat} {x : Str} {ps : List Str} {sp : Sp} {e : Expr} {es : List Expr} {t : TA} {p pos : Pos} (G : Fx X.prog X.w X.K X.mg X.base k x ps sp) (hr : Room j X.A) (hkj : k ≤ j) (ha : PA X (e :: es) t) (hg : Gl X x := by rfl)
    (hdb : (x == ("__debug__" : Str)) = false := by decide +kernel)
    (he : starEach (e :: es) X.env = (false, eval e X.env) :: starEach es X.env := by rfl) (hpl : (backTo pos (starEach es X.env)).any (·.1) = false := by rfl) : PE X (.Call (.Name x p) (e :: es) [] pos) (tCall sp [] E0 t) := by
  obtain ⟨f, fd, a, b, c, d⟩ := G.ex
  exact pe_call a (hr.mono hkj) hg b c d .nil pass0 ha (hdb := hdb) (he := he) (hpl := hpl)

/-! ### a constant tuple of the top -/
def KTup (K : PySem.W.Frag) (a : Addr) (xs : List V) : Prop := ∀ H, SqT K H a xs
def tKT (K : PySem.W.Frag) (xs : List V) : TE := fun _ H Q => ∀ a, KTup K a xs → Q (.ref a) H
theorem pe_ktup {X : Cx} {e : Expr} {a : Addr} {xs : List V} (h : PE X e (tC (.ref a))) (k : KTup X.K a xs) : PE X e (tKT X.K xs) := ⟨fun pins s σ H Q I q => h.run pins s σ H Q I (q a k)⟩
theorem ktup_of {K : PySem.W.Frag} {a : Addr} {xs : List V} {od : Option Addr} {its : Array Value} {n : Nat} {sl : Array (Option Value)} (h : K.lookup a = some ⟨.type "tuple", od, .seq its n, sl⟩) (v : Vals xs its.toList) (z : its.size ≤ 1000 := by exact Nat.le_of_ble_eq_true rfl) : KTup K a xs := fun _ =>
  .inr ⟨_, its, n, h, rfl, rfl, Nat.le_trans z (by decide), v⟩
theorem vs_nil : Vals [] [] := .nil
theorem vs_str {x : Str} {t : Tok} {xs : List V} {us : List Value} (h : Vals xs us) : Vals (.str x :: xs) (.str x t :: us) := .cons ⟨t, rfl⟩ h
theorem vs_int {x : Int} {t : Tok} {xs : List V} {us : List Value} (h : Vals xs us) : Vals (.int x :: xs) (.int x t :: us) := .cons ⟨t, rfl⟩ h
/-! ### one rule a construct -/
section
variable {X : Cx}
abbrev r2or (r r' : R2) : R2 := fun x y H Q => r x y H Q ∨ r' x y H Q
def rStrCat : R2 := fun x y H Q => ∃ i j, x = .str i ∧ y = .str j ∧ i.length + j.length ≤ sizeLine ∧ Q (.str (i ++ j)) H
def rAddU (K : PySem.W.Frag) : R2 := r2or (r2or (rI0 fun i j => .int (i + j)) rStrCat) (r2or (rCatA K) rCat)
theorem op_addU {K} (hK : X.K = K) : OpR X (binaryOp .Add) (rAddU K) := by subst hK; exact (op_add.or op_add_str).or (op_catA.or op_cat)
def rMaxU : List V → Hp → VK → Prop := fun xs H Q => ∃ i j, xs = [.int i, .int j] ∧ Q (.int (if j > i then j else i)) H
def rMinU : List V → Hp → VK → Prop := fun xs H Q => ∃ i j, xs = [.int i, .int j] ∧ Q (.int (if j < i then j else i)) H
def rAbsU : List V → Hp → VK → Prop := fun xs H Q => ∃ i, xs = [.int i] ∧ Q (.int (if i < 0 then -i else i)) H
def rIntU : List V → Hp → VK → Prop := fun xs H Q => (∃ i, xs = [.int i] ∧ Q (.int i) H) ∨ ∃ k, xs = [.bl k] ∧ Q (.int (if k then 1 else 0)) H
theorem call_maxU (hc : X.calm = true) : CallR X (.builtin "max") rMaxU := call_max2 hc
theorem call_minU (hc : X.calm = true) : CallR X (.builtin "min") rMinU := call_min2 hc
theorem call_absU : CallR X (.builtin "abs") rAbsU := call_abs
theorem call_intU : CallR X (.type "int") rIntU := call_int1
def rLenU (K : PySem.W.Frag) : List V → Hp → VK → Prop := fun xs H Q => (∃ p ys, xs = [.ref p] ∧ (SqL K H p ys ∨ SqT K H p ys) ∧ Q (.int ys.length) H) ∨ (∃ z, xs = [.str z] ∧ z.length ≤ sizeLine ∧ Q (.int z.length) H)
theorem call_lenU {K} (hK : X.K = K) : CallR X (.builtin "len") (rLenU K) := by subst hK; exact call_len_seq.or call_len_str
theorem call_isiU {K} (hK : X.K = K) : CallR X (.builtin "isinstance") (rIsi K) := by subst hK; exact call_isi
theorem ix_U {K} (hK : X.K = K) : IxR X (rIx K) := by subst hK; exact ix_seq
theorem call_allU {K} (hK : X.K = K) (hc : X.calm = true) : CallR X (.builtin "all") (rAll K) := by subst hK; exact cr_all hc
theorem call_anyU {K} (hK : X.K = K) (hc : X.calm = true) : CallR X (.builtin "any") (rAny K) := by subst hK; exact cr_any hc
theorem call_sumU {K} (hK : X.K = K) (hc : X.calm = true) : CallR X (.builtin "sum") (rSum K) := by subst hK; exact cr_sum hc
def rListU (K : PySem.W.Frag) : List V → Hp → VK → Prop := fun xs H Q => ∃ p ys, xs = [.ref p] ∧ (SqL K H p ys ∨ SqT K H p ys) ∧ ∀ l, H l = none → Q (.ref l) (upd H l (.lst ys))
theorem call_listU {K} (hK : X.K = K) : CallR X (.type "list") (rListU K) := by subst hK; exact call_list_of
def rTupleU (K : PySem.W.Frag) : List V → Hp → VK → Prop := fun xs H Q => ∃ p ys, xs = [.ref p] ∧ ((SqL K H p ys ∧ ∀ l, H l = none → Q (.ref l) (upd H l (.tup ys))) ∨ (SqT K H p ys ∧ Q (.ref p) H))
theorem call_tupleU {K} (hK : X.K = K) : CallR X (.type "tuple") (rTupleU K) := by subst hK; exact call_tuple_of
theorem pg_tupU {K} {es : List Expr} {k : Nat} {t : TGs} {n : Nat} {pos : Pos} (hK : X.K = K) (hc : X.calm = true) (h : PGs X es t)
    (hn : (assignEach es X.env).length = n := by rfl) (hst : (assignEach es X.env).findIdx? (·.1) = none := by rfl) : PG X (.Tuple es k pos) (gTup K n t) := by subst hK; exact pg_tup hc h hn hst
theorem pi_listU {K} {tg l : Expr} {tl : TE} (hK : X.K = K) (hl : PE X l tl) : PI X tg l (iList K tl) := by subst hK; exact pi_list hl
theorem pi_tupU {K} {tg l : Expr} {tl : TE} (hK : X.K = K) (hl : PE X l tl) : PI X tg l (iTup K tl) := by subst hK; exact pi_tup hl
def rMulU : R2 := r2or (r2or (rI CMul fun i j => .int (i * j)) (rI CMulW fun i j => .int (i * j))) rRep
theorem op_mulU : OpR X (binaryOp .Mult) rMulU := (op_mul.or op_mulW).or op_rep
def rSignIn : R2 := fun x y H Q => ∃ (c : Nat) (z : Str), x = .str ⟨#[c]⟩ ∧ y = .str z ∧ Q (.bl (decide (c ∈ z.cps.toList))) H
def rSignNin : R2 := fun x y H Q => ∃ (c : Nat) (z : Str), x = .str ⟨#[c]⟩ ∧ y = .str z ∧ Q (.bl (!decide (c ∈ z.cps.toList))) H
def rInU (K : PySem.W.Frag) : R2 := r2or (r2or (rIn K false) (rInD K)) rSignIn
def rNinU (K : PySem.W.Frag) : R2 := r2or (r2or (rIn K true) (rNotInD K)) rSignNin
theorem op_inU {K} (hK : X.K = K) (hu : X.A.units + 65 < cLine) : OpR X (compareOp .In) (rInU K) := by subst hK; exact (op_in_seq.or (op_inD hu)).or op_in_sign
theorem op_ninU {K} (hK : X.K = K) (hu : X.A.units + 65 < cLine) : OpR X (compareOp .NotIn) (rNinU K) := by subst hK; exact (op_notIn_seq.or (op_notInD hu)).or op_notIn_sign
def rMaxL (K : PySem.W.Frag) : List V → Hp → VK → Prop := rMax K
theorem call_maxL {K} (hK : X.K = K) (hc : X.calm = true) : CallR X (.builtin "max") (rMaxL K) := by subst hK; exact cr_max hc
def rMinL (K : PySem.W.Frag) : List V → Hp → VK → Prop := rMin K
theorem call_minL {K} (hK : X.K = K) (hc : X.calm = true) : CallR X (.builtin "min") (rMinL K) := by subst hK; exact cr_min hc
def rIsB : R2 := fun x y H Q => ∃ a b, x = .bl a ∧ y = .bl b ∧ Q (.bl (decide (a = b))) H
def rNisB : R2 := fun x y H Q => ∃ a b, x = .bl a ∧ y = .bl b ∧ Q (.bl (!decide (a = b))) H
theorem op_isB : OpR X (compareOp .Is) rIsB := op_is_bl
theorem op_nisB : OpR X (compareOp .IsNot) rNisB := op_isnot_bl
def iRevU (K : PySem.W.Frag) (te : TE) : TI := RT.iRevA K te
theorem pi_revU {K} {tg e : Expr} {te : TE} {p pos : Pos} (hK : X.K = K) (hg : Gl X "reversed") (hm : X.mg "reversed" = none) (he : PE X e te) (hs : starEach [e] X.env = (false, eval e X.env) :: starEach [] X.env := by rfl) : PI X tg (.Call (.Name "reversed" p) [e] [] pos) (iRevU K te) := by
  subst hK; exact RT.pi_revA hg hm he hs
def iEnumU (K : PySem.W.Frag) (ta : TA) : TI := iEnum K ta
theorem pi_enumU {K} {e : Expr} {ta : TA} {p pos tpos : Pos} {elts : List Expr} {kk : Nat} (hK : X.K = K) (hg : Gl X "enumerate") (hm : X.mg "enumerate" = none) (ha : PA X [e] ta) (hs : starEach [e] X.env = [(false, eval e X.env)] := by rfl) :
    PI X (.Tuple elts kk tpos) (.Call (.Name "enumerate" p) [e] [] pos) (iEnumU K ta) := by subst hK; exact pi_enum hg hm ha hs
/-- a slice -/
def rSlU (K : PySem.W.Frag) : V → Option Int → Option Int → Hp → VK → Prop := fun x lo hi H Q => (rSlL K x lo hi H Q ∨ rSlA K x lo hi H Q) ∨ rSlS x lo hi H Q
theorem sl_U {K} (hK : X.K = K) : SlR X (rSlU K) := by subst hK; exact (sl_list.or sl_tupA).or sl_str
def rEqU (K : PySem.W.Frag) : R2 := r2or rEq (rEqD K)
theorem op_eqU {K} (hK : X.K = K) (hu : X.A.units + 64 < cLine) : OpR X (compareOp .Eq) (rEqU K) := by subst hK; exact op_eq.or (op_eqD hu)
def rNeU (K : PySem.W.Frag) : R2 := r2or rNe (rNeD K)
theorem op_neU {K} (hK : X.K = K) (hu : X.A.units + 64 < cLine) : OpR X (compareOp .NotEq) (rNeU K) := by subst hK; exact op_ne.or (op_neD hu)
end
theorem u65 {A : Around} {k : Nat} (hr : Room k A) : A.units + 65 < cLine := by have := hr.un; omega
theorem u64 {A : Around} {k : Nat} (hr : Room k A) : A.units + 64 < cLine := hr.units
section
variable {K : PySem.W.Frag} {H : Hp} {Q : VK} {i j : Int}
theorem w_addI (q : Q (.int (i + j)) H) : rAddU K (.int i) (.int j) H Q := .inl (.inl ⟨i, j, rfl, rfl, q⟩)
theorem w_addS {a b : Str} (h : a.length + b.length ≤ sizeLine) (q : Q (.str (a ++ b)) H) : rAddU K (.str a) (.str b) H Q := .inl (.inr ⟨a, b, rfl, rfl, h, q⟩)
theorem w_addL {l b : Addr} {xs zs : List V} (h1 : H l = some (.lst xs)) (h2 : H b = some (.lst zs)) (hl : xs.length + zs.length ≤ 1000000) (q : ∀ p, H p = none → Q (.ref p) (upd H p (.lst (xs ++ zs)))) : rAddU K (.ref l) (.ref b) H Q := .inr (.inr ⟨l, b, xs, zs, rfl, rfl, h1, h2, Nat.le_trans hl (by decide), q⟩)
theorem w_sub (q : Q (.int (i - j)) H) : rI0 (fun i j => .int (i - j)) (.int i) (.int j) H Q := ⟨i, j, rfl, rfl, q⟩
theorem w_rI0 {g : Int → Int → V} (q : Q (g i j) H) : rI0 g (.int i) (.int j) H Q := ⟨i, j, rfl, rfl, q⟩
theorem w_rI {C : Int → Int → Prop} {g : Int → Int → V} (c : C i j) (q : Q (g i j) H) : rI C g (.int i) (.int j) H Q := ⟨i, j, rfl, rfl, c, q⟩
theorem w_mulI (c : (-(2 ^ 64) < i ∧ i < 2 ^ 64) ∨ (-(2 ^ 64) < j ∧ j < 2 ^ 64)) (q : Q (.int (i * j)) H) : rMulU (.int i) (.int j) H Q := .inl (.inl ⟨i, j, rfl, rfl, c, q⟩)
theorem w_max (q : Q (.int (if j > i then j else i)) H) : rMaxU [.int i, .int j] H Q := ⟨i, j, rfl, q⟩
theorem w_min (q : Q (.int (if j < i then j else i)) H) : rMinU [.int i, .int j] H Q := ⟨i, j, rfl, q⟩
theorem w_abs (q : Q (.int (if i < 0 then -i else i)) H) : rAbsU [.int i] H Q := ⟨i, rfl, q⟩
theorem w_intI (q : Q (.int i) H) : rIntU [.int i] H Q := .inl ⟨i, rfl, q⟩
theorem w_intB {k : Bool} (q : Q (.int (if k then 1 else 0)) H) : rIntU [.bl k] H Q := .inr ⟨k, rfl, q⟩
theorem w_pow9 (q : Q (.int 1000000000) H) : rI CPow (fun i j => .int (i ^ j.toNat)) (.int 10) (.int 9) H Q := ⟨10, 9, rfl, rfl, ⟨by decide, by decide, by decide⟩, q⟩
theorem w_pow18 (q : Q (.int 1000000000000000000) H) : rI CPow (fun i j => .int (i ^ j.toNat)) (.int 10) (.int 18) H Q := ⟨10, 18, rfl, rfl, ⟨by decide, by decide, by decide⟩, q⟩
theorem w_pow6 (q : Q (.int 1000000) H) : rI CPow (fun i j => .int (i ^ j.toNat)) (.int 10) (.int 6) H Q := ⟨10, 6, rfl, rfl, ⟨by decide, by decide, by decide⟩, q⟩
theorem w_pow59 (q : Q (.int 100000000000000000000000000000000000000000000000000000000000) H) : rI CPow (fun i j => .int (i ^ j.toNat)) (.int 10) (.int 59) H Q := ⟨10, 59, rfl, rfl, ⟨by decide, by decide, by decide⟩, q⟩
theorem w_slL {p : Addr} {xs : List V} {lo hi : Option Int} (h : SqL K H p xs) (q : ∀ l, H l = none → Q (.ref l) (upd H l (.lst (cutV xs lo hi)))) : rSlU K (.ref p) lo hi H Q := .inl (.inl ⟨p, xs, rfl, h, q⟩)
theorem w_part {σ : L2.St} {te : TE} {Q : Option Int → Hp → Prop} (q : te σ H fun x H1 => ∃ i, x = .int i ∧ Q (some i) H1) : tPart te σ H Q := q
theorem w_partI {P : Int → Prop} (q : P i) : ∃ k, V.int i = .int k ∧ P k := ⟨i, rfl, q⟩
theorem w_nopart {σ : L2.St} {Q : Option Int → Hp → Prop} (q : Q none H) : tNoPart σ H Q := q
theorem w_sl {σ : L2.St} {r : V → Option Int → Option Int → Hp → VK → Prop} {te : TE} {tl th : TO} (q : te σ H fun x H1 => tl σ H1 fun l H2 => th σ H2 fun u H3 => r x l u H3 Q) : tSl r te tl th σ H Q := q
theorem w_listL {p : Addr} {ys : List V} (h : SqL K H p ys) (q : ∀ l, H l = none → Q (.ref l) (upd H l (.lst ys))) : rListU K [.ref p] H Q := ⟨p, ys, rfl, .inl h, q⟩
theorem w_listT {p : Addr} {ys : List V} (h : SqT K H p ys) (q : ∀ l, H l = none → Q (.ref l) (upd H l (.lst ys))) : rListU K [.ref p] H Q := ⟨p, ys, rfl, .inr h, q⟩
theorem w_tupleL {p : Addr} {ys : List V} (h : SqL K H p ys) (q : ∀ l, H l = none → Q (.ref l) (upd H l (.tup ys))) : rTupleU K [.ref p] H Q := ⟨p, ys, rfl, .inl ⟨h, q⟩⟩
theorem w_isB {a b : Bool} (q : Q (.bl (decide (a = b))) H) : rIsB (.bl a) (.bl b) H Q := ⟨a, b, rfl, rfl, q⟩
theorem w_nisB {a b : Bool} (q : Q (.bl (!decide (a = b))) H) : rNisB (.bl a) (.bl b) H Q := ⟨a, b, rfl, rfl, q⟩
theorem w_inT {x : V} {p : Addr} {xs : List V} (h : SqT K H p xs) (hx : flatV x = true) (ha : xs.all flatV = true) (q : Q (.bl (inV x xs)) H) : rInU K x (.ref p) H Q := .inl (.inl ⟨p, xs, rfl, .inr h, hx, ha, q⟩)
theorem w_inL {x : V} {p : Addr} {xs : List V} (h : SqL K H p xs) (hx : flatV x = true) (ha : xs.all flatV = true) (q : Q (.bl (inV x xs)) H) : rInU K x (.ref p) H Q := .inl (.inl ⟨p, xs, rfl, .inl h, hx, ha, q⟩)
theorem w_ninT {x : V} {p : Addr} {xs : List V} (h : SqT K H p xs) (hx : flatV x = true) (ha : xs.all flatV = true) (q : Q (.bl (!inV x xs)) H) : rNinU K x (.ref p) H Q := .inl (.inl ⟨p, xs, rfl, .inr h, hx, ha, q⟩)
theorem w_ninL {x : V} {p : Addr} {xs : List V} (h : SqL K H p xs) (hx : flatV x = true) (ha : xs.all flatV = true) (q : Q (.bl (!inV x xs)) H) : rNinU K x (.ref p) H Q := .inl (.inl ⟨p, xs, rfl, .inl h, hx, ha, q⟩)
theorem w_lenL {p : Addr} {ys : List V} (h : SqL K H p ys) (q : Q (.int ys.length) H) : rLenU K [.ref p] H Q := .inl ⟨p, ys, rfl, .inl h, q⟩
theorem w_lenT {p : Addr} {ys : List V} (h : SqT K H p ys) (q : Q (.int ys.length) H) : rLenU K [.ref p] H Q := .inl ⟨p, ys, rfl, .inr h, q⟩
theorem w_lenS {z : Str} (h : z.length ≤ sizeLine) (q : Q (.int z.length) H) : rLenU K [.str z] H Q := .inr ⟨z, rfl, h, q⟩
theorem w_ixL {p : Addr} {xs : List V} {v : V} (h : SqL K H p xs) (e : atI xs i = some v) (q : Q v H) : rIx K (.ref p) (.int i) H Q := .inl ⟨p, xs, i, v, rfl, rfl, h, e, q⟩
theorem w_ixT {p : Addr} {xs : List V} {v : V} (h : SqT K H p xs) (e : atI xs i = some v) (q : Q v H) : rIx K (.ref p) (.int i) H Q := .inr (.inl ⟨p, xs, i, v, rfl, rfl, h, e, q⟩)
theorem w_setL {p : Addr} {xs : List V} {v : V} {j : Nat} {Q : Hp → Prop} (h : H p = some (.lst xs)) (e : ixN xs.length i = some j) (q : Q (upd H p (.lst (xs.set j v)))) : rSetL (.ref p) (.int i) v H Q := ⟨p, xs, i, j, rfl, rfl, h, e, q⟩
theorem w_isi {x : V} {n : String} {t : Value} {b : Bool} (ty : TyX K H x t) (e : PySem.W.kitOne K t (.type n) = some b) (q : Q (.bl b) H) : rIsi K [x, .ty n] H Q := ⟨x, .ty n, t, .type n, b, rfl, .ty n, ty, e, q⟩
/-! isinstance of plain values -/
theorem ty_T {a : Addr} {xs : List V} (h : SqT K H a xs) : TyX K H (.ref a) (.type "tuple") := by
  rcases h with (h | ⟨o, h⟩) | ⟨o, its, n, h, hc, _⟩
  · exact .base (.tup h)
  · exact .fTuple h
  · exact .kTuple h hc
theorem ty_L {a : Addr} {xs : List V} (h : SqL K H a xs) : TyX K H (.ref a) (.type "list") := by
  rcases h with (h | ⟨o, h⟩) | ⟨o, its, n, h, hc, _⟩
  · exact .base (.lst h)
  · exact .base (.frz h)
  · exact .kList h hc
theorem isD_int {a : Addr} {kvs : List (Key × V)} (h : H a = some (.dK kvs)) (q : Q (.bl false) H) : rIsi K [.ref a, .ty "int"] H Q := w_isi (.base (.dK h)) (kit_ty (by decide +kernel)) q
theorem isD_bool {a : Addr} {kvs : List (Key × V)} (h : H a = some (.dK kvs)) (q : Q (.bl false) H) : rIsi K [.ref a, .ty "bool"] H Q := w_isi (.base (.dK h)) (kit_ty (by decide +kernel)) q
theorem isD_str {a : Addr} {kvs : List (Key × V)} (h : H a = some (.dK kvs)) (q : Q (.bl false) H) : rIsi K [.ref a, .ty "str"] H Q := w_isi (.base (.dK h)) (kit_ty (by decide +kernel)) q
theorem isD_tuple {a : Addr} {kvs : List (Key × V)} (h : H a = some (.dK kvs)) (q : Q (.bl false) H) : rIsi K [.ref a, .ty "tuple"] H Q := w_isi (.base (.dK h)) (kit_ty (by decide +kernel)) q
theorem isD_list {a : Addr} {kvs : List (Key × V)} (h : H a = some (.dK kvs)) (q : Q (.bl false) H) : rIsi K [.ref a, .ty "list"] H Q := w_isi (.base (.dK h)) (kit_ty (by decide +kernel)) q
theorem isD_dict {a : Addr} {kvs : List (Key × V)} (h : H a = some (.dK kvs)) (q : Q (.bl true) H) : rIsi K [.ref a, .ty "dict"] H Q := w_isi (.base (.dK h)) (kit_ty (by decide +kernel)) q
theorem isT_int {a : Addr} {xs : List V} (h : SqT K H a xs) (q : Q (.bl false) H) : rIsi K [.ref a, .ty "int"] H Q := w_isi (ty_T h) (kit_ty (by decide +kernel)) q
theorem isT_bool {a : Addr} {xs : List V} (h : SqT K H a xs) (q : Q (.bl false) H) : rIsi K [.ref a, .ty "bool"] H Q := w_isi (ty_T h) (kit_ty (by decide +kernel)) q
theorem isT_str {a : Addr} {xs : List V} (h : SqT K H a xs) (q : Q (.bl false) H) : rIsi K [.ref a, .ty "str"] H Q := w_isi (ty_T h) (kit_ty (by decide +kernel)) q
theorem isT_tuple {a : Addr} {xs : List V} (h : SqT K H a xs) (q : Q (.bl true) H) : rIsi K [.ref a, .ty "tuple"] H Q := w_isi (ty_T h) (kit_ty (by decide +kernel)) q
theorem isT_list {a : Addr} {xs : List V} (h : SqT K H a xs) (q : Q (.bl false) H) : rIsi K [.ref a, .ty "list"] H Q := w_isi (ty_T h) (kit_ty (by decide +kernel)) q
theorem isT_dict {a : Addr} {xs : List V} (h : SqT K H a xs) (q : Q (.bl false) H) : rIsi K [.ref a, .ty "dict"] H Q := w_isi (ty_T h) (kit_ty (by decide +kernel)) q
theorem isL_int {a : Addr} {xs : List V} (h : SqL K H a xs) (q : Q (.bl false) H) : rIsi K [.ref a, .ty "int"] H Q := w_isi (ty_L h) (kit_ty (by decide +kernel)) q
theorem isL_bool {a : Addr} {xs : List V} (h : SqL K H a xs) (q : Q (.bl false) H) : rIsi K [.ref a, .ty "bool"] H Q := w_isi (ty_L h) (kit_ty (by decide +kernel)) q
theorem isL_str {a : Addr} {xs : List V} (h : SqL K H a xs) (q : Q (.bl false) H) : rIsi K [.ref a, .ty "str"] H Q := w_isi (ty_L h) (kit_ty (by decide +kernel)) q
theorem isL_tuple {a : Addr} {xs : List V} (h : SqL K H a xs) (q : Q (.bl false) H) : rIsi K [.ref a, .ty "tuple"] H Q := w_isi (ty_L h) (kit_ty (by decide +kernel)) q
theorem isL_list {a : Addr} {xs : List V} (h : SqL K H a xs) (q : Q (.bl true) H) : rIsi K [.ref a, .ty "list"] H Q := w_isi (ty_L h) (kit_ty (by decide +kernel)) q
theorem isL_dict {a : Addr} {xs : List V} (h : SqL K H a xs) (q : Q (.bl false) H) : rIsi K [.ref a, .ty "dict"] H Q := w_isi (ty_L h) (kit_ty (by decide +kernel)) q
theorem is_non_int (q : Q (.bl false) H) : rIsi K [.non, .ty "int"] H Q := w_isi (.base .non) (kit_ty (by decide +kernel)) q
theorem is_non_bool (q : Q (.bl false) H) : rIsi K [.non, .ty "bool"] H Q := w_isi (.base .non) (kit_ty (by decide +kernel)) q
theorem is_non_str (q : Q (.bl false) H) : rIsi K [.non, .ty "str"] H Q := w_isi (.base .non) (kit_ty (by decide +kernel)) q
theorem is_non_tuple (q : Q (.bl false) H) : rIsi K [.non, .ty "tuple"] H Q := w_isi (.base .non) (kit_ty (by decide +kernel)) q
theorem is_non_list (q : Q (.bl false) H) : rIsi K [.non, .ty "list"] H Q := w_isi (.base .non) (kit_ty (by decide +kernel)) q
theorem is_non_dict (q : Q (.bl false) H) : rIsi K [.non, .ty "dict"] H Q := w_isi (.base .non) (kit_ty (by decide +kernel)) q
theorem is_bl_int {u : Bool} (q : Q (.bl true) H) : rIsi K [(.bl u), .ty "int"] H Q := w_isi (.base (.bl _)) (kit_ty (by decide +kernel)) q
theorem is_bl_bool {u : Bool} (q : Q (.bl true) H) : rIsi K [(.bl u), .ty "bool"] H Q := w_isi (.base (.bl _)) (kit_ty (by decide +kernel)) q
theorem is_bl_str {u : Bool} (q : Q (.bl false) H) : rIsi K [(.bl u), .ty "str"] H Q := w_isi (.base (.bl _)) (kit_ty (by decide +kernel)) q
theorem is_bl_tuple {u : Bool} (q : Q (.bl false) H) : rIsi K [(.bl u), .ty "tuple"] H Q := w_isi (.base (.bl _)) (kit_ty (by decide +kernel)) q
theorem is_bl_list {u : Bool} (q : Q (.bl false) H) : rIsi K [(.bl u), .ty "list"] H Q := w_isi (.base (.bl _)) (kit_ty (by decide +kernel)) q
theorem is_bl_dict {u : Bool} (q : Q (.bl false) H) : rIsi K [(.bl u), .ty "dict"] H Q := w_isi (.base (.bl _)) (kit_ty (by decide +kernel)) q
theorem is_int_int {u : Int} (q : Q (.bl true) H) : rIsi K [(.int u), .ty "int"] H Q := w_isi (.base (.int _)) (kit_ty (by decide +kernel)) q
theorem is_int_bool {u : Int} (q : Q (.bl false) H) : rIsi K [(.int u), .ty "bool"] H Q := w_isi (.base (.int _)) (kit_ty (by decide +kernel)) q
theorem is_int_str {u : Int} (q : Q (.bl false) H) : rIsi K [(.int u), .ty "str"] H Q := w_isi (.base (.int _)) (kit_ty (by decide +kernel)) q
theorem is_int_tuple {u : Int} (q : Q (.bl false) H) : rIsi K [(.int u), .ty "tuple"] H Q := w_isi (.base (.int _)) (kit_ty (by decide +kernel)) q
theorem is_int_list {u : Int} (q : Q (.bl false) H) : rIsi K [(.int u), .ty "list"] H Q := w_isi (.base (.int _)) (kit_ty (by decide +kernel)) q
theorem is_int_dict {u : Int} (q : Q (.bl false) H) : rIsi K [(.int u), .ty "dict"] H Q := w_isi (.base (.int _)) (kit_ty (by decide +kernel)) q
theorem is_str_int {u : Str} (q : Q (.bl false) H) : rIsi K [(.str u), .ty "int"] H Q := w_isi (.base (.str _)) (kit_ty (by decide +kernel)) q
theorem is_str_bool {u : Str} (q : Q (.bl false) H) : rIsi K [(.str u), .ty "bool"] H Q := w_isi (.base (.str _)) (kit_ty (by decide +kernel)) q
theorem is_str_str {u : Str} (q : Q (.bl true) H) : rIsi K [(.str u), .ty "str"] H Q := w_isi (.base (.str _)) (kit_ty (by decide +kernel)) q
theorem is_str_tuple {u : Str} (q : Q (.bl false) H) : rIsi K [(.str u), .ty "tuple"] H Q := w_isi (.base (.str _)) (kit_ty (by decide +kernel)) q
theorem is_str_list {u : Str} (q : Q (.bl false) H) : rIsi K [(.str u), .ty "list"] H Q := w_isi (.base (.str _)) (kit_ty (by decide +kernel)) q
theorem is_str_dict {u : Str} (q : Q (.bl false) H) : rIsi K [(.str u), .ty "dict"] H Q := w_isi (.base (.str _)) (kit_ty (by decide +kernel)) q
theorem w_rU {g : Int → V} (q : Q (g i) H) : rU g (.int i) H Q := ⟨i, rfl, q⟩
theorem dec_int {a b : Int} : decide (V.int a = V.int b) = decide (a = b) := by
  by_cases h : a = b
  · subst h; simp
  · rw [decide_eq_false h, decide_eq_false fun e => h (V.int.inj e)]
theorem dec_str {a b : Str} : decide (V.str a = V.str b) = decide (a = b) := by
  by_cases h : a = b
  · subst h; simp
  · rw [decide_eq_false h, decide_eq_false fun e => h (V.str.inj e)]
theorem dec_bl {a b : Bool} : decide (V.bl a = V.bl b) = decide (a = b) := by
  by_cases h : a = b
  · subst h; simp
  · rw [decide_eq_false h, decide_eq_false fun e => h (V.bl.inj e)]
theorem w_eqI (q : Q (.bl (decide (i = j))) H) : rEqU K (.int i) (.int j) H Q := .inl ⟨rfl, by rw [dec_int]; exact q⟩
theorem w_eqS {a b : Str} (q : Q (.bl (decide (a = b))) H) : rEqU K (.str a) (.str b) H Q := .inl ⟨rfl, by rw [dec_str]; exact q⟩
theorem w_eqB {a b : Bool} (q : Q (.bl (decide (a = b))) H) : rEqU K (.bl a) (.bl b) H Q := .inl ⟨rfl, by rw [dec_bl]; exact q⟩
theorem w_neI (q : Q (.bl (!decide (i = j))) H) : rNeU K (.int i) (.int j) H Q := .inl ⟨rfl, by rw [dec_int]; exact q⟩
theorem w_neS {a b : Str} (q : Q (.bl (!decide (a = b))) H) : rNeU K (.str a) (.str b) H Q := .inl ⟨rfl, by rw [dec_str]; exact q⟩
theorem w_neB {a b : Bool} (q : Q (.bl (!decide (a = b))) H) : rNeU K (.bl a) (.bl b) H Q := .inl ⟨rfl, by rw [dec_bl]; exact q⟩
theorem w_eqD {x y : V} {d e : PyData} (hx : Dp K H x d) (hy : Dp K H y e) (sx : SeqAt.shaped d = true) (sy : SeqAt.shaped e = true) (q : Q (.bl (PyData.eqv d e)) H) : rEqU K x y H Q := .inr ⟨d, e, hx, hy, sx, sy, q⟩
theorem w_neD {x y : V} {d e : PyData} (hx : Dp K H x d) (hy : Dp K H y e) (sx : SeqAt.shaped d = true) (sy : SeqAt.shaped e = true) (q : Q (.bl (!PyData.eqv d e)) H) : rNeU K x y H Q := .inr ⟨d, e, hx, hy, sx, sy, q⟩
end
/-- a new tuple, a new list -/
def MkT (xs : List V) (Q : VK) (H : Hp) : Prop := xs.length ≤ sizeLine ∧ ∀ p, H p = none → Q (.ref p) (upd H p (.tup xs))
def MkL (xs : List V) (Q : VK) (H : Hp) : Prop := xs.length ≤ sizeLine ∧ ∀ p, H p = none → Q (.ref p) (upd H p (.lst xs))
/-! ### steps of a reading -/
section
variable {K : PySem.W.Frag} {σ : L2.St} {H : Hp} {Q : VK} {QB : Bool → Hp → Prop} {QA : List V → Hp → Prop} {ta tb tc : TE} {t u : TT} {v : V} {i : Nat} {r r' : R2}
theorem w_var (h : σ[i]? = some (some v)) (q : Q v H) : tVar i σ H Q := ⟨v, h, q⟩
theorem w_c (q : Q v H) : tC v σ H Q := q
theorem w_op (q : ta σ H fun x H1 => tb σ H1 fun y H2 => r x y H2 Q) : tOp r ta tb σ H Q := q
theorem w_un {r : V → Hp → VK → Prop} (q : ta σ H fun x H1 => r x H1 Q) : tUn r ta σ H Q := q
theorem w_chain (q : ta σ H fun x H1 => tb σ H1 fun y H2 => r x y H2 fun z H3 => ∃ k, z = .bl k ∧ (if k = true then tc σ H3 fun w' H4 => r' y w' H4 Q else Q (.bl false) H3)) : tChain r r' ta tb tc σ H Q := q
theorem w_bl {b : Bool} {P : Bool → Prop} (q : P b) : ∃ k, V.bl b = .bl k ∧ P k := ⟨b, rfl, q⟩
theorem w_test (q : ta σ H fun x H' => ∃ k, x = .bl k ∧ QB k H') : tTest ta σ H QB := q
theorem w_B (q : ta σ H fun x H' => ∃ k, x = .bl k ∧ QB k H') : tB ta σ H QB := q
theorem w_and (q : t σ H fun c H1 => if c = true then u σ H1 QB else QB false H1) : tAnd t u σ H QB := q
theorem w_or (q : t σ H fun c H1 => if c = true then QB true H1 else u σ H1 QB) : tOr t u σ H QB := q
theorem w_not (q : t σ H fun c H1 => QB (!c) H1) : tNot t σ H QB := q
theorem w_andV (q : ta σ H fun x H1 => ∃ c, x = .bl c ∧ if c = true then tb σ H1 Q else Q (.bl false) H1) : tAndV ta tb σ H Q := q
theorem w_orV (q : ta σ H fun x H1 => ∃ c, x = .bl c ∧ if c = true then Q (.bl true) H1 else tb σ H1 Q) : tOrV ta tb σ H Q := q
theorem w_notV (q : ta σ H fun x H1 => ∃ c, x = .bl c ∧ Q (.bl (!c)) H1) : tNotV ta σ H Q := q
theorem w_if (q : t σ H fun c H1 => if c = true then ta σ H1 Q else tb σ H1 Q) : tIf t ta tb σ H Q := q
theorem w_isN (q : ta σ H fun x H1 => Q (.bl (decide (x = .non))) H1) : tIsN ta σ H Q := q
theorem w_notN (q : ta σ H fun x H1 => Q (.bl (!decide (x = .non))) H1) : tNotN ta σ H Q := q
theorem w_nil (q : QA [] H) : tNil σ H QA := q
theorem w_cons {tr : TA} (q : ta σ H fun x H1 => tr σ H1 fun xs H2 => QA (x :: xs) H2) : tCons ta tr σ H QA := q
theorem w_tup {tr : TA} (q : tr σ H fun xs H1 => MkT xs Q H1) : tTup tr σ H Q := q
theorem w_lst {tr : TA} (q : tr σ H fun xs H1 => MkL xs Q H1) : tLst tr σ H Q := q
theorem w_call {sp : Sp} {dvs : List V} {E : XK} {tr : TA} (q : tr σ H fun vs H1 => sp (vs ++ dvs) H1 Q E) : tCall sp dvs E tr σ H Q := q
theorem w_cb {rc : List V → Hp → VK → Prop} {tr : TA} (q : tr σ H fun vs H1 => rc vs H1 Q) : tCB rc tr σ H Q := q
theorem w_bm {T : String} {rm : V → List V → Hp → VK → Prop} {tr : TA} (q : ta σ H fun x H1 => tyV K T x H1 ∧ tr σ H1 fun xs H2 => rm x xs H2 Q) : tBM K T rm ta tr σ H Q := q
theorem w_bm0 {T : String} {rm : V → List V → Hp → VK → Prop} (q : ta σ H fun x H1 => tyV K T x H1 ∧ rm x [] H1 Q) : tBM0 K T rm ta σ H Q := q
end
section
variable {σ : L2.St} {H : Hp} {n b c : L2.St → Hp → Prop} {r : VK} {t u : TS} {te : TE} {tt : TT} {g : TG} {v : V} {i : Nat}
theorem w_cut (M : L2.St → Hp → Prop) (h1 : t ⟨M, r, b, c⟩ σ H) (h2 : ∀ σ' H', M σ' H' → u ⟨n, r, b, c⟩ σ' H') : C8.tCut t u ⟨n, r, b, c⟩ σ H := ⟨M, h1, h2⟩
theorem w_sub' {Q : L2.St → Hp → Prop} {to ti : TE} {ts : TSet} (q : to σ H fun o H1 => ti σ H1 fun i H2 => ts o i v H2 fun H3 => Q σ H3) : gSub to ti ts v σ H Q := q
theorem w_seq (q : t ⟨u ⟨n, r, b, c⟩, r, b, c⟩ σ H) : tSeq t u ⟨n, r, b, c⟩ σ H := q
theorem w_asg (q : te σ H fun x H1 => g x σ H1 n) : tAsg te g ⟨n, r, b, c⟩ σ H := q
theorem w_name {Q : L2.St → Hp → Prop} (q : Q (σ.set i (some v)) H) : gName i v σ H Q := q
theorem w_gcons {t1 : TG} {u1 : TGs} {vs : List V} {Q : L2.St → Hp → Prop} (q : t1 v σ H fun σ' H' => u1 vs σ' H' Q) : gCons t1 u1 (v :: vs) σ H Q := ⟨v, vs, rfl, q⟩
theorem w_gnil {Q : L2.St → Hp → Prop} (q : Q σ H) : gNil [] σ H Q := ⟨rfl, q⟩
theorem w_gtup {K : PySem.W.Frag} {t1 : TGs} {p : Addr} {xs : List V} {m : Nat} {Q : L2.St → Hp → Prop} (h : SqT K H p xs) (hl : xs.length = m) (q : t1 xs σ H Q) : gTup K m t1 (.ref p) σ H Q := ⟨p, xs, rfl, h, hl, q⟩
theorem w_ret (q : te σ H r) : tRet te ⟨n, r, b, c⟩ σ H := q
theorem w_retN (q : r .non H) : tRetN ⟨n, r, b, c⟩ σ H := q
theorem w_drop (q : te σ H fun _ H1 => n σ H1) : tDrop te ⟨n, r, b, c⟩ σ H := q
theorem w_ifS (q : tt σ H fun k H1 => if k = true then t ⟨n, r, b, c⟩ σ H1 else u ⟨n, r, b, c⟩ σ H1) : tIfS tt t u ⟨n, r, b, c⟩ σ H := q
theorem w_next (q : n σ H) : tNext ⟨n, r, b, c⟩ σ H := q
theorem w_break (q : b σ H) : tBreak ⟨n, r, b, c⟩ σ H := q
theorem w_cont (q : c σ H) : tCont ⟨n, r, b, c⟩ σ H := q
end
/-! ### loops -/
/-- the turns of a for over J -/
def FOR (J : It) (g : TG) (tb : TS) (D : Ends) (σ : L2.St) (H1 : Hp) : Prop :=
  ∃ W : Nat → Nat → L2.St → Hp → Prop, (∃ m, W 0 m σ H1) ∧
    ∀ i m σ H, W i m σ H → (J.stop i H ∧ D.nx σ H) ∨ (J.go i H ∧
      ∃ N : L2.St → Hp → Prop, (∀ σ' H', N σ' H' → ∃ m', m' < m ∧ W (i + 1) m' σ' H') ∧
        ∀ x H', J.yld i H x H' → g x σ H' fun σ2 H2 => tb { D with nx := N, ct := N, bk := D.nx } σ2 H2)
section
variable {K : PySem.W.Frag} {σ : L2.St} {H : Hp} {nx b c : L2.St → Hp → Prop} {rt : VK} {g : TG} {tb : TS} {D : Ends}
theorem w_for {wi : TI} (q : wi σ H fun J H1 => FOR J g tb D σ H1) : tFor wi g tb D σ H := q
theorem w_iR1 {ta : TA} {R : It → Hp → Prop} (q : ta σ H fun vs H1 => ∃ j : Int, vs = [.int j] ∧ -(2 ^ 62) ≤ j ∧ j < 2 ^ 62 ∧ R (Itr 0 j.toNat) H1) : iRng1 ta σ H R := q
theorem w_iR2 {ta : TA} {R : It → Hp → Prop} (q : ta σ H fun vs H1 => ∃ i j : Int, vs = [.int i, .int j] ∧ (-(2 ^ 62) ≤ i ∧ i < 2 ^ 62 ∧ -(2 ^ 62) ≤ j ∧ j < 2 ^ 62) ∧ R (Itr i (j - i).toNat) H1) : iRng2 ta σ H R := q
theorem w_iRev {te : TE} {R : It → Hp → Prop} (q : te σ H fun v H1 => ∃ (a : Addr) (xs : List V), v = .ref a ∧ ((SqL K H1 a xs ∧ R (Itv K a xs.length) H1) ∨ (SqT K H1 a xs ∧ R (RT.ItvT K a xs.length) H1))) : iRevU K te σ H R := q
theorem w_iEnum {ta : TA} {R : It → Hp → Prop} (q : ta σ H fun vs H1 => ∃ a xs, vs = [.ref a] ∧ SqL K H1 a xs ∧ R (Ite K a) H1) : iEnumU K ta σ H R := q
theorem w_iL {tl : TE} {R : It → Hp → Prop} (q : tl σ H fun x H1 => ∃ a, x = .ref a ∧ (∃ xs, SqL K H1 a xs) ∧ R (Itl K a) H1) : iList K tl σ H R := q
theorem w_iT {tl : TE} {R : It → Hp → Prop} (q : tl σ H fun x H1 => ∃ a, x = .ref a ∧ (∃ xs, SqT K H1 a xs) ∧ R (Itt K a) H1) : iTup K tl σ H R := q
theorem F_R1 {j : Int} (n : Nat) (hn : j.toNat = n) (h1 : -(2 ^ 62) ≤ j) (h2 : j < 2 ^ 62) (Pv : Nat → L2.St → Hp → Prop) (h0 : Pv 0 σ H)
    (hs : ∀ i σ H, i < n → Pv i σ H → g (.int i) σ H fun σ2 H2 => tb ⟨Pv (i + 1), rt, nx, Pv (i + 1)⟩ σ2 H2) (hd : ∀ σ H, Pv n σ H → nx σ H) :
    ∃ j' : Int, [V.int j] = [.int j'] ∧ -(2 ^ 62) ≤ j' ∧ j' < 2 ^ 62 ∧ FOR (Itr 0 j'.toNat) g tb ⟨nx, rt, b, c⟩ σ H := by
  subst hn
  refine ⟨j, rfl, h1, h2, ?_⟩
  exact for_range (D := ⟨nx, rt, b, c⟩) Pv h0 (fun i σ H hi p => by rw [Int.zero_add]; exact hs i σ H hi p) hd
theorem F_L {a : Addr} {xs : List V} (h : SqL K H a xs) (Pv : Nat → L2.St → Hp → Prop) (h0 : Pv 0 σ H) (hl : ∀ i σ H, i ≤ xs.length → Pv i σ H → SqL K H a xs)
    (hs : ∀ i x σ H, xs[i]? = some x → Pv i σ H → g x σ H fun σ2 H2 => tb ⟨Pv (i + 1), rt, nx, Pv (i + 1)⟩ σ2 H2) (hd : ∀ σ H, Pv xs.length σ H → nx σ H) :
    ∃ a', V.ref a = .ref a' ∧ (∃ ys, SqL K H a' ys) ∧ FOR (Itl K a') g tb ⟨nx, rt, b, c⟩ σ H :=
  ⟨a, rfl, ⟨xs, h⟩, for_list (D := ⟨nx, rt, b, c⟩) Pv h0 hl hs hd⟩
theorem F_T {a : Addr} {xs : List V} (h : SqT K H a xs) (Pv : Nat → L2.St → Hp → Prop) (h0 : Pv 0 σ H) (hl : ∀ i σ H, i ≤ xs.length → Pv i σ H → SqT K H a xs)
    (hs : ∀ i x σ H, xs[i]? = some x → Pv i σ H → g x σ H fun σ2 H2 => tb ⟨Pv (i + 1), rt, nx, Pv (i + 1)⟩ σ2 H2) (hd : ∀ σ H, Pv xs.length σ H → nx σ H) :
    ∃ a', V.ref a = .ref a' ∧ (∃ ys, SqT K H a' ys) ∧ FOR (Itt K a') g tb ⟨nx, rt, b, c⟩ σ H :=
  ⟨a, rfl, ⟨xs, h⟩, for_tup (D := ⟨nx, rt, b, c⟩) Pv h0 hl hs hd⟩
/-- a while by an invariant with a measure -/
theorem w_while {tt : TT} (W : Nat → L2.St → Hp → Prop) (m0 : Nat) (h0 : W m0 σ H)
    (hs : ∀ m σ' H', W m σ' H' → tt σ' H' fun k H1 => if k = true then tb ⟨fun σ2 H2 => ∃ m', m' < m ∧ W m' σ2 H2, rt, nx, fun σ2 H2 => ∃ m', m' < m ∧ W m' σ2 H2⟩ σ' H1 else nx σ' H1)
    (mono : ∀ σ H (Q Q' : Bool → Hp → Prop), (∀ k H1, Q k H1 → Q' k H1) → tt σ H Q → tt σ H Q') : tWhile tt tb ⟨nx, rt, b, c⟩ σ H := by
  refine ⟨W, ⟨m0, h0⟩, fun m σ' H' w => mono σ' H' _ _ (fun k H1 q => ?_) (hs m σ' H' w)⟩
  cases k with
  | true => exact ⟨_, fun _ _ z => z, q⟩
  | false => exact q
/-- .. the measure's step told at the test's end -/
theorem w_whileN {tt : TT} (W : Nat → L2.St → Hp → Prop) (m0 : Nat) (h0 : W m0 σ H)
    (hs : ∀ m σ' H', W m σ' H' → tt σ' H' fun k H1 => if k = true then ∃ N : L2.St → Hp → Prop, (∀ σ2 H2, N σ2 H2 → ∃ m', m' < m ∧ W m' σ2 H2) ∧ tb ⟨N, rt, nx, N⟩ σ' H1 else nx σ' H1) : tWhile tt tb ⟨nx, rt, b, c⟩ σ H := ⟨W, ⟨m0, h0⟩, hs⟩
theorem w_N {m : Nat} {W : Nat → L2.St → Hp → Prop} (q : tb ⟨fun σ2 H2 => ∃ m', m' < m ∧ W m' σ2 H2, rt, nx, fun σ2 H2 => ∃ m', m' < m ∧ W m' σ2 H2⟩ σ H) : ∃ N : L2.St → Hp → Prop, (∀ σ2 H2, N σ2 H2 → ∃ m', m' < m ∧ W m' σ2 H2) ∧ tb ⟨N, rt, nx, N⟩ σ H := ⟨_, fun _ _ z => z, q⟩
/-- the turns of a comprehension over J -/
def LC (J : It) (g : TG) (tt : TT) (te : TE) (vs : List Nat) (σ : L2.St) (D : Addr) (Q : VK) (H1 : Hp) : Prop :=
  ∃ W : Nat → Nat → Hp → Prop, (∃ m, W 0 m H1) ∧ ∀ i m H, W i m H → (J.stop i H ∧ Q (.ref D) H) ∨ (J.go i H ∧
    ∃ Nx : Hp → Prop, (∀ H', Nx H' → ∃ m', m' < m ∧ W (i + 1) m' H') ∧ ∀ x H', J.yld i H x H' → g x (wipe σ vs) H' fun σ2 H2 => wipe σ2 vs = wipe σ vs ∧
      tt σ2 H2 fun k H3 => if k = true then te σ2 H3 fun y H4 => ∃ acc, H4 D = some (.lst acc) ∧ acc.length < sizeLine ∧ Nx (upd H4 D (.lst (acc ++ [y]))) else Nx H3)
theorem w_lc {wi : TI} {tt : TT} {te : TE} {vs : List Nat} {Q : VK} (q : wi σ H fun J H1 => ∀ D, H1 D = none → LC J g tt te vs σ D Q (upd H1 D (.lst []))) : tLc wi g tt te vs σ H Q := q
theorem LC_L {a : Addr} {xs : List V} {tt : TT} {te : TE} {vs : List Nat} {Q : VK} (h : SqL K H a xs) (q : ∀ D, H D = none → LC (Itl K a) g tt te vs σ D Q (upd H D (.lst []))) :
    ∃ a', V.ref a = .ref a' ∧ (∃ ys, SqL K H a' ys) ∧ ∀ D, H D = none → LC (Itl K a') g tt te vs σ D Q (upd H D (.lst [])) := ⟨a, rfl, ⟨xs, h⟩, q⟩
theorem LC_T {a : Addr} {xs : List V} {tt : TT} {te : TE} {vs : List Nat} {Q : VK} (h : SqT K H a xs) (q : ∀ D, H D = none → LC (Itt K a) g tt te vs σ D Q (upd H D (.lst []))) :
    ∃ a', V.ref a = .ref a' ∧ (∃ ys, SqT K H a' ys) ∧ ∀ D, H D = none → LC (Itt K a') g tt te vs σ D Q (upd H D (.lst [])) := ⟨a, rfl, ⟨xs, h⟩, q⟩
theorem LC_by {a D : Addr} {xs : List V} {tt : TT} {te : TE} {vs : List Nat} {Q : VK} (Pv : Nat → Hp → Prop) (h0 : Pv 0 (upd H D (.lst []))) (hl : ∀ i H, i ≤ xs.length → Pv i H → SqL K H a xs)
    (hs : ∀ i x H, xs[i]? = some x → Pv i H → g x (wipe σ vs) H fun σ2 H2 => wipe σ2 vs = wipe σ vs ∧ tt σ2 H2 fun k H3 =>
      if k = true then te σ2 H3 fun y H4 => ∃ acc, H4 D = some (.lst acc) ∧ acc.length < sizeLine ∧ Pv (i + 1) (upd H4 D (.lst (acc ++ [y]))) else Pv (i + 1) H3)
    (hd : ∀ H, Pv xs.length H → Q (.ref D) H) : LC (Itl K a) g tt te vs σ D Q (upd H D (.lst [])) := lc_list (xs := xs) Pv h0 hl hs hd
theorem LC_R1 {j : Int} {tt : TT} {te : TE} {vs : List Nat} {Q : VK} (n : Nat) (hn : j.toNat = n) (h1 : -(2 ^ 62) ≤ j) (h2 : j < 2 ^ 62)
    (q : ∀ D, H D = none → ∃ Pv : Nat → Hp → Prop, Pv 0 (upd H D (.lst [])) ∧ (∀ (i : Nat) H', i < n → Pv i H' → g (.int i) (wipe σ vs) H' fun σ2 H2 => wipe σ2 vs = wipe σ vs ∧ tt σ2 H2 fun k H3 =>
      if k = true then te σ2 H3 fun y H4 => ∃ acc, H4 D = some (.lst acc) ∧ acc.length < sizeLine ∧ Pv (i + 1) (upd H4 D (.lst (acc ++ [y]))) else Pv (i + 1) H3) ∧ ∀ H', Pv n H' → Q (.ref D) H') :
    ∃ j' : Int, [V.int j] = [.int j'] ∧ -(2 ^ 62) ≤ j' ∧ j' < 2 ^ 62 ∧ ∀ D, H D = none → LC (Itr 0 j'.toNat) g tt te vs σ D Q (upd H D (.lst [])) := by
  subst hn
  refine ⟨j, rfl, h1, h2, fun D hD => ?_⟩
  obtain ⟨Pv, p0, ps, pd⟩ := q D hD
  exact lc_range Pv p0 (fun i H hi p => by rw [Int.zero_add]; exact ps i H hi p) pd
theorem w_wipe {σ1 σ2 : L2.St} {vs : List Nat} {B : Prop} (h : wipe σ2 vs = wipe σ1 vs) (q : B) : wipe σ2 vs = wipe σ1 vs ∧ B := ⟨h, q⟩
theorem w_yes {Q : Bool → Hp → Prop} (q : Q true H) : tYes σ H Q := q
end
/-- a test's outcome, as a proposition -/
theorem ite_d {c : Prop} [Decidable c] {A B : Prop} (h1 : c → A) (h2 : ¬ c → B) : if decide c = true then A else B := by
  by_cases h : c
  · rw [if_pos (decide_eq_true h)]; exact h1 h
  · rw [if_neg (by rw [decide_eq_false h]; decide)]; exact h2 h
theorem ite_nd {c : Prop} [Decidable c] {A B : Prop} (h1 : ¬ c → A) (h2 : c → B) : if (!decide c) = true then A else B := by
  by_cases h : c
  · rw [if_neg (by rw [decide_eq_true h]; decide)]; exact h2 h
  · rw [if_pos (by rw [decide_eq_false h]; decide)]; exact h1 h
theorem iteNT {A B : Prop} (h : B) : if (!true) = true then A else B := h
theorem iteNF {A B : Prop} (h : A) : if (!false) = true then A else B := h
theorem ite_b {k : Bool} {A B : Prop} (h1 : k = true → A) (h2 : k = false → B) : if k = true then A else B := by
  cases k
  · exact h2 rfl
  · exact h1 rfl
/-! ### heaps -/
/-- all that was tracked, but for S, is as it was -/
def Fr (S : List Addr) (H H' : Hp) : Prop := ∀ a o, H a = some o → a ∉ S → H' a = some o
theorem Fr.refl {S : List Addr} {H : Hp} : Fr S H H := fun _ _ h _ => h
theorem Fr.trans {S : List Addr} {H H1 H2 : Hp} (a : Fr S H H1) (b : Fr S H1 H2) : Fr S H H2 := fun x o h n => b x o (a x o h n) n
theorem Fr.new {S : List Addr} {H : Hp} {p : Addr} {o : HO} (h : H p = none) : Fr S H (upd H p o) := fun a u e _ => by
  rw [upd_ne (ne_of_none e h)]
  exact e
theorem Fr.mut {S : List Addr} {H : Hp} {p : Addr} {o : HO} (h : p ∈ S) : Fr S H (upd H p o) := fun a u e n => by
  rw [upd_ne (by rintro rfl; exact n h)]
  exact e
theorem Fr.mono {S S' : List Addr} {H H' : Hp} (a : Fr S H H') (h : ∀ x ∈ S, x ∈ S') : Fr S' H H' := fun x o e n => a x o e fun z => n (h x z)
theorem Fr.free {H H' : Hp} (e : Fr [] H H') {l : Addr} (h : H' l = none) : H l = none := by
  cases q : H l with
  | none => rfl
  | some o =>
    rw [e l o q (by simp)] at h
    cases h
/-- what is new may change -/
theorem Fr.new_mut {S : List Addr} {H H' : Hp} {p : Addr} (hp : H p = none) (a : Fr (p :: S) H H') : Fr S H H' := fun x o e n => a x o e (by
  intro z
  rcases List.mem_cons.mp z with z | z
  · subst z; rw [hp] at e; cases e
  · exact n z)
theorem Fr.seqL {S : List Addr} {K : PySem.W.Frag} {H H' : Hp} {a : Addr} {xs : List V} (e : Fr S H H') (h : SqL K H a xs) (n : a ∉ S) : SqL K H' a xs := by
  rcases h with (h | ⟨o, h⟩) | h
  · exact .inl (.inl (e _ _ h n))
  · exact .inl (.inr ⟨o, e _ _ h n⟩)
  · exact .inr h
theorem Fr.seqT {S : List Addr} {K : PySem.W.Frag} {H H' : Hp} {a : Addr} {xs : List V} (e : Fr S H H') (h : SqT K H a xs) (n : a ∉ S) : SqT K H' a xs := by
  rcases h with (h | ⟨o, h⟩) | h
  · exact .inl (.inl (e _ _ h n))
  · exact .inl (.inr ⟨o, e _ _ h n⟩)
  · exact .inr h
/-- an open place of a list of ints all of which hold P -/
theorem at_all {ns : List Int} {P : Int → Prop} (hP : ∀ z ∈ ns, P z) {p : Int} (h0 : 0 ≤ p) (h : p < ns.length) : ∃ z, atI (ns.map V.int) p = some (.int z) ∧ P z := by
  have hk : p.toNat < ns.length := by omega
  have ek : p = ((p.toNat : Nat) : Int) := by omega
  have key : atI (ns.map V.int) ((p.toNat : Nat) : Int) = some (.int ns[p.toNat]) := atI_nat (by rw [List.getElem?_map, List.getElem?_eq_getElem hk] <;> rfl)
  rw [← ek] at key
  exact ⟨_, key, hP _ (List.getElem_mem hk)⟩
theorem at_str {ns : List Str} {P : Str → Prop} (hP : ∀ z ∈ ns, P z) {p : Int} (h0 : 0 ≤ p) (h : p < ns.length) : ∃ z, atI (ns.map V.str) p = some (.str z) ∧ P z := by
  have hk : p.toNat < ns.length := by omega
  have ek : p = ((p.toNat : Nat) : Int) := by omega
  have key : atI (ns.map V.str) ((p.toNat : Nat) : Int) = some (.str ns[p.toNat]) := atI_nat (by rw [List.getElem?_map, List.getElem?_eq_getElem hk] <;> rfl)
  rw [← ek] at key
  exact ⟨_, key, hP _ (List.getElem_mem hk)⟩
theorem at_int {ns : List Int} {p : Int} (h0 : 0 ≤ p) (h : p < ns.length) : ∃ z, atI (ns.map V.int) p = some (.int z) ∧ ns[p.toNat]? = some z := by
  have hk : p.toNat < ns.length := by omega
  have ek : p = ((p.toNat : Nat) : Int) := by omega
  have key : atI (ns.map V.int) ((p.toNat : Nat) : Int) = some (.int ns[p.toNat]) := atI_nat (by rw [List.getElem?_map, List.getElem?_eq_getElem hk] <;> rfl)
  rw [← ek] at key
  exact ⟨_, key, List.getElem?_eq_getElem hk⟩
end U

namespace U
open PySem PySem.Spec PyProof.Rows L2
/-! ### data of tuples all the way down: nothing changes it -/
mutual
inductive Dt (K : PySem.W.Frag) (H : Hp) : V → PyData → Prop
  | non : Dt K H .non .none
  | bl (b : Bool) : Dt K H (.bl b) (.bool b)
  | int (i : Int) : Dt K H (.int i) (.int i)
  | str (x : Str) : Dt K H (.str x) (.str x)
  | tup {p : Addr} {vs : List V} {es : List PyData} : SqT K H p vs → DtAll K H vs es → Dt K H (.ref p) (.tuple es)
inductive DtAll (K : PySem.W.Frag) (H : Hp) : List V → List PyData → Prop
  | nil : DtAll K H [] []
  | cons {v : V} {vs : List V} {e : PyData} {es : List PyData} : Dt K H v e → DtAll K H vs es → DtAll K H (v :: vs) (e :: es)
end
/-- tuples stand -/
def Tu (H H' : Hp) : Prop := ∀ a xs, (H a = some (.tup xs) → H' a = some (.tup xs)) ∧ ∀ o, H a = some (.frz o (.tup xs)) → H' a = some (.frz o (.tup xs))
theorem Tu.refl {H : Hp} : Tu H H := fun _ _ => ⟨id, fun _ => id⟩
theorem Tu.trans {H H1 H2 : Hp} (a : Tu H H1) (b : Tu H1 H2) : Tu H H2 := fun x xs => ⟨fun h => (b x xs).1 ((a x xs).1 h), fun o h => (b x xs).2 o ((a x xs).2 o h)⟩
theorem Fr.tu {H H' : Hp} (f : Fr [] H H') : Tu H H' := fun a xs => ⟨fun h => f a _ h (by simp), fun o h => f a _ h (by simp)⟩
theorem Fr.tu1 {H H' : Hp} {t : Addr} {xs : List V} (f : Fr [t] H H') (h : H t = some (.lst xs)) : Tu H H' := fun a ys =>
  ⟨fun e => f a _ e (by intro z; rw [List.mem_singleton.mp z, h] at e; cases e), fun o e => f a _ e (by intro z; rw [List.mem_singleton.mp z, h] at e; cases e)⟩
theorem Tu.mut {H : Hp} {q : Addr} {xs : List V} {o : HO} (h : H q = some (.lst xs)) : Tu H (upd H q o) := fun a ys =>
  ⟨fun e => by rw [upd_ne (by rintro rfl; rw [h] at e; cases e)]; exact e, fun o e => by rw [upd_ne (by rintro rfl; rw [h] at e; cases e)]; exact e⟩
theorem Tu.new {H : Hp} {q : Addr} {o : HO} (h : H q = none) : Tu H (upd H q o) := (Fr.new h).tu
theorem Tu.seqT {K : PySem.W.Frag} {H H' : Hp} {a : Addr} {xs : List V} (e : Tu H H') (h : SqT K H a xs) : SqT K H' a xs := by
  rcases h with (h | ⟨o, h⟩) | h
  · exact .inl (.inl ((e a xs).1 h))
  · exact .inl (.inr ⟨o, (e a xs).2 o h⟩)
  · exact .inr h
section
variable {K : PySem.W.Frag} {H H' : Hp}
mutual
theorem Dt.mono (f : Tu H H') : ∀ {v : V} {d : PyData}, Dt K H v d → Dt K H' v d
  | _, _, .non => .non
  | _, _, .bl b => .bl b
  | _, _, .int i => .int i
  | _, _, .str x => .str x
  | _, _, .tup s a => .tup (f.seqT s) (DtAll.mono f a)
theorem DtAll.mono (f : Tu H H') : ∀ {vs : List V} {ds : List PyData}, DtAll K H vs ds → DtAll K H' vs ds
  | _, _, .nil => .nil
  | _, _, .cons a b => .cons (Dt.mono f a) (DtAll.mono f b)
end
mutual
theorem Dt.dp : ∀ {v : V} {d : PyData}, Dt K H v d → Dp K H v d
  | _, _, .non => .non
  | _, _, .bl b => .bl b
  | _, _, .int i => .int i
  | _, _, .str x => .str x
  | _, _, .tup s a => .tup s (DtAll.dp a)
theorem DtAll.dp : ∀ {vs : List V} {ds : List PyData}, DtAll K H vs ds → DpAll K H vs ds
  | _, _, .nil => .nil
  | _, _, .cons a b => .cons (Dt.dp a) (DtAll.dp b)
end
theorem DtAll.length : ∀ {vs : List V} {ds : List PyData}, DtAll K H vs ds → vs.length = ds.length
  | _, _, .nil => rfl
  | _, _, .cons _ b => by rw [List.length_cons, List.length_cons, DtAll.length b]
theorem DtAll.append : ∀ {vs us : List V} {ds es : List PyData}, DtAll K H vs ds → DtAll K H us es → DtAll K H (vs ++ us) (ds ++ es)
  | _, _, _, _, .nil, h => h
  | _, _, _, _, .cons a b, h => .cons a (DtAll.append b h)
theorem DtAll.take : ∀ {vs : List V} {ds : List PyData} (n : Nat), DtAll K H vs ds → DtAll K H (vs.take n) (ds.take n)
  | _, _, 0, _ => .nil
  | _, _, _ + 1, .nil => .nil
  | _, _, n + 1, .cons a b => .cons a (DtAll.take n b)
theorem DtAll.drop : ∀ {vs : List V} {ds : List PyData} (n : Nat), DtAll K H vs ds → DtAll K H (vs.drop n) (ds.drop n)
  | _, _, 0, h => h
  | _, _, _ + 1, .nil => .nil
  | _, _, n + 1, .cons a b => DtAll.drop n b
theorem DtAll.get : ∀ {vs : List V} {ds : List PyData} {i : Nat} {v : V}, DtAll K H vs ds → vs[i]? = some v → ∃ d, ds[i]? = some d ∧ Dt K H v d
  | _, _, i, _, .nil, h => by simp at h
  | _, _, 0, v, .cons a b, h => by
    simp at h
    subst h
    exact ⟨_, rfl, a⟩
  | _, _, i + 1, v, .cons a b, h => by
    obtain ⟨d, h1, h2⟩ := DtAll.get (i := i) b (by simpa using h)
    exact ⟨d, by simpa using h1, h2⟩
theorem DtAll.get' {vs : List V} {ds : List PyData} {i : Nat} {d : PyData} (h : DtAll K H vs ds) (e : ds[i]? = some d) : ∃ v, vs[i]? = some v ∧ Dt K H v d := by
  have hi := (List.getElem?_eq_some_iff.mp e).1
  rw [← h.length] at hi
  obtain ⟨d', h1, h2⟩ := h.get (List.getElem?_eq_getElem hi)
  rw [e] at h1
  cases h1
  exact ⟨_, List.getElem?_eq_getElem hi, h2⟩
theorem Dt.tuple {v : V} {ds : List PyData} (h : Dt K H v (.tuple ds)) : ∃ p vs, v = .ref p ∧ SqT K H p vs ∧ DtAll K H vs ds := by
  cases h with
  | tup s a => exact ⟨_, _, rfl, s, a⟩
theorem Dt.of_int {v : V} {i : Int} (h : Dt K H v (.int i)) : v = .int i := by cases h; rfl
theorem Dt.of_str {v : V} {x : Str} (h : Dt K H v (.str x)) : v = .str x := by cases h; rfl
theorem Dt.of_bl {v : V} {b : Bool} (h : Dt K H v (.bool b)) : v = .bl b := by cases h; rfl
theorem Dt.of_non {v : V} (h : Dt K H v .none) : v = .non := by cases h; rfl
theorem DtAll.ints : ∀ (ns : List Int), DtAll K H (ns.map V.int) (ns.map PyData.int)
  | [] => .nil
  | n :: r => .cons (.int n) (DtAll.ints r)
end
/-! ### a list of such -/
def Lq (K : PySem.W.Frag) (H : Hp) (q : Addr) (ds : List PyData) : Prop := ∃ vs, H q = some (.lst vs) ∧ DtAll K H vs ds
section
variable {K : PySem.W.Frag} {H H' : Hp} {q : Addr} {ds : List PyData}
theorem Lq.fr {S : List Addr} (h : Lq K H q ds) (f : Fr S H H') (n : q ∉ S) (t : Tu H H') : Lq K H' q ds := by
  obtain ⟨vs, e, a⟩ := h
  exact ⟨vs, f _ _ e n, a.mono t⟩
theorem Lq.fr0 (h : Lq K H q ds) (f : Fr [] H H') : Lq K H' q ds := h.fr f (by simp) f.tu
theorem Lq.dp (h : Lq K H q ds) : Dp K H (.ref q) (.list ds) := by
  obtain ⟨vs, e, a⟩ := h
  exact .lst (SqL.of e) a.dp
theorem lay_list {n : Nat} (h : ∀ d ∈ ds, d.canLay0 = true ∧ d.depth ≤ n) : PyData.canLayAll0 ds = true ∧ PyData.depthAll ds ≤ n := by
  induction ds with
  | nil => exact ⟨by simp [PyData.canLayAll0], by simp [PyData.depthAll]⟩
  | cons d r ih =>
    have h1 := h d List.mem_cons_self
    have h2 := ih fun x hx => h x (List.mem_cons_of_mem _ hx)
    constructor
    · simp [PyData.canLayAll0, h1.1, h2.1]
    · simp only [PyData.depthAll]
      exact Nat.max_le.mpr ⟨h1.2, h2.2⟩
theorem shaped_list {n : Nat} (hn : n < 64) (h : ∀ d ∈ ds, d.canLay0 = true ∧ d.depth ≤ n) : SeqAt.shaped (.list ds) = true := by
  have k := lay_list h
  unfold SeqAt.shaped
  rw [Bool.and_eq_true]
  refine ⟨by simp only [PyData.canLay0]; exact k.1, decide_eq_true ?_⟩
  simp only [PyData.depth]
  omega
theorem shaped_tuple {n : Nat} (hn : n < 64) (h : ∀ d ∈ ds, d.canLay0 = true ∧ d.depth ≤ n) : SeqAt.shaped (.tuple ds) = true := by
  have k := lay_list h
  unfold SeqAt.shaped
  rw [Bool.and_eq_true]
  refine ⟨by simp only [PyData.canLay0]; exact k.1, decide_eq_true ?_⟩
  simp only [PyData.depth]
  omega
theorem lay_shaped {d : PyData} (h : d.canLay0 = true ∧ d.depth ≤ 64) : SeqAt.shaped d = true := by
  unfold SeqAt.shaped
  rw [Bool.and_eq_true]
  exact ⟨h.1, decide_eq_true h.2⟩
theorem shaped_refl {d : PyData} (h : SeqAt.shaped d = true) : PyData.eqv d d = true := SeqAt.eqv_refl d (SeqAt.canLay_of_shaped h)
theorem w_eqR {Q : VK} {x y : V} {d : PyData} (hx : Dp K H x d) (hy : Dp K H y d) (s : SeqAt.shaped d = true) (q : Q (.bl true) H) : rEqU K x y H Q := w_eqD hx hy s s (by rw [shaped_refl s]; exact q)
theorem w_neR {Q : VK} {x y : V} {d : PyData} (hx : Dp K H x d) (hy : Dp K H y d) (s : SeqAt.shaped d = true) (q : Q (.bl false) H) : rNeU K x y H Q := w_neD hx hy s s (by rw [shaped_refl s]; exact q)
theorem w_app {l : Addr} {xs : List V} {y : V} {Q : VK} (h : H l = some (.lst xs)) (n : xs.length ≤ 1000000) (q : Q .non (upd H l (.lst (xs ++ [y])))) : tyV K "list" (.ref l) H ∧ rAppend (.ref l) [y] H Q :=
  ⟨.inl ⟨rfl, _, SqL.of h⟩, l, xs, y, rfl, rfl, h, Nat.lt_of_le_of_lt n (by decide), q⟩
end
theorem cut_take {xs : List V} (n : Nat) : cutV xs none (some (n : Int)) = xs.take n := by
  unfold cutV
  rw [HT.sIx_none, HT.sIx_nat, List.drop_zero, Nat.sub_zero]
  by_cases h : n ≤ xs.length
  · rw [Nat.min_eq_left h]
  · rw [Nat.min_eq_right (by omega), List.take_length, List.take_of_length_le (by omega)]
theorem cut_drop {xs : List V} (n : Nat) : cutV xs (some (n : Int)) none = xs.drop n := by
  unfold cutV
  rw [HT.sIx_none, HT.sIx_nat]
  by_cases h : n ≤ xs.length
  · rw [Nat.min_eq_left h, List.take_of_length_le (by rw [List.length_drop]; omega)]
  · rw [Nat.min_eq_right (by omega), Nat.sub_self, List.take_zero, List.drop_eq_nil_of_le (by omega)]
/-- == with an empty list -/
theorem w_eqNil {Q : VK} {K : PySem.W.Frag} {H : Hp} {x e : Addr} {ds : List PyData} (hx : Dp K H (.ref x) (.list ds)) (he : H e = some (.lst [])) (s : SeqAt.shaped (.list ds) = true) (q : Q (.bl ds.isEmpty) H) : rEqU K (.ref x) (.ref e) H Q :=
  w_eqD hx (.lst (SqL.of he) .nil) s (by decide) (by
    cases ds with
    | nil => exact q
    | cons d r => exact q)
theorem w_neNil {Q : VK} {K : PySem.W.Frag} {H : Hp} {x e : Addr} {ds : List PyData} (hx : Dp K H (.ref x) (.list ds)) (he : H e = some (.lst [])) (s : SeqAt.shaped (.list ds) = true) (q : Q (.bl (!ds.isEmpty)) H) : rNeU K (.ref x) (.ref e) H Q :=
  w_neD hx (.lst (SqL.of he) .nil) s (by decide) (by
    cases ds with
    | nil => exact q
    | cons d r => exact q)
theorem take_fold {α β : Type} {f : β → α → β} {b : β} {xs : List α} {i : Nat} {x : α} (h : xs[i]? = some x) : (xs.take (i + 1)).foldl f b = f ((xs.take i).foldl f b) x := by
  rw [List.take_add_one, h, List.foldl_append]
  rfl
theorem take_map {α β : Type} {f : α → β} {xs : List α} {i : Nat} {x : α} (h : xs[i]? = some x) : (xs.take (i + 1)).map f = (xs.take i).map f ++ [f x] := by
  rw [List.take_add_one, h, List.map_append]
  rfl
theorem take_filt {α : Type} {f : α → Bool} {xs : List α} {i : Nat} {x : α} (h : xs[i]? = some x) : (xs.take (i + 1)).filter f = (xs.take i).filter f ++ (if f x then [x] else []) := by
  rw [List.take_add_one, h, List.filter_append]
  show _ ++ List.filter f [x] = _
  rw [List.filter_cons, List.filter_nil]
/-! ### any plain data (a dict: that it is one) -/
mutual
inductive Dg (K : PySem.W.Frag) (H : Hp) : V → PyData → Prop
  | non : Dg K H .non .none
  | bl (b : Bool) : Dg K H (.bl b) (.bool b)
  | int (i : Int) : Dg K H (.int i) (.int i)
  | str (x : Str) : Dg K H (.str x) (.str x)
  | tup {p : Addr} {vs : List V} {es : List PyData} : SqT K H p vs → DgAll K H vs es → Dg K H (.ref p) (.tuple es)
  | lst {p : Addr} {vs : List V} {es : List PyData} : SqL K H p vs → DgAll K H vs es → Dg K H (.ref p) (.list es)
  | dct {p : Addr} {kvs : List (Key × V)} {es : List (PyData × PyData)} : H p = some (.dK kvs) → Dg K H (.ref p) (.dict es)
inductive DgAll (K : PySem.W.Frag) (H : Hp) : List V → List PyData → Prop
  | nil : DgAll K H [] []
  | cons {v : V} {vs : List V} {e : PyData} {es : List PyData} : Dg K H v e → DgAll K H vs es → DgAll K H (v :: vs) (e :: es)
end
section
variable {K : PySem.W.Frag} {H H' : Hp}
mutual
theorem Dg.fr (f : Fr [] H H') : ∀ {v : V} {d : PyData}, Dg K H v d → Dg K H' v d
  | _, _, .non => .non
  | _, _, .bl b => .bl b
  | _, _, .int i => .int i
  | _, _, .str x => .str x
  | _, _, .tup s a => .tup (f.seqT s (by simp)) (DgAll.fr f a)
  | _, _, .lst s a => .lst (f.seqL s (by simp)) (DgAll.fr f a)
  | _, _, .dct h => .dct (f _ _ h (by simp))
theorem DgAll.fr (f : Fr [] H H') : ∀ {vs : List V} {ds : List PyData}, DgAll K H vs ds → DgAll K H' vs ds
  | _, _, .nil => .nil
  | _, _, .cons a b => .cons (Dg.fr f a) (DgAll.fr f b)
end
mutual
theorem Dt.dg : ∀ {v : V} {d : PyData}, Dt K H v d → Dg K H v d
  | _, _, .non => .non
  | _, _, .bl b => .bl b
  | _, _, .int i => .int i
  | _, _, .str x => .str x
  | _, _, .tup s a => .tup s (DtAll.dg a)
theorem DtAll.dg : ∀ {vs : List V} {ds : List PyData}, DtAll K H vs ds → DgAll K H vs ds
  | _, _, .nil => .nil
  | _, _, .cons a b => .cons (Dt.dg a) (DtAll.dg b)
end
theorem DgAll.length : ∀ {vs : List V} {ds : List PyData}, DgAll K H vs ds → vs.length = ds.length
  | _, _, .nil => rfl
  | _, _, .cons _ b => by rw [List.length_cons, List.length_cons, DgAll.length b]
theorem DgAll.get : ∀ {vs : List V} {ds : List PyData} {i : Nat} {v : V}, DgAll K H vs ds → vs[i]? = some v → ∃ d, ds[i]? = some d ∧ Dg K H v d
  | _, _, i, _, .nil, h => by simp at h
  | _, _, 0, v, .cons a b, h => by
    simp at h
    subst h
    exact ⟨_, rfl, a⟩
  | _, _, i + 1, v, .cons a b, h => by
    obtain ⟨d, h1, h2⟩ := DgAll.get (i := i) b (by simpa using h)
    exact ⟨d, by simpa using h1, h2⟩
end
theorem Lq.dg {K : PySem.W.Frag} {H : Hp} {l : Addr} {ds : List PyData} (h : Lq K H l ds) : Dg K H (.ref l) (.list ds) := by
  obtain ⟨vs, e, a⟩ := h
  exact .lst (SqL.of e) a.dg
/-! ### displays, append: what is known of them behind -/
theorem mkT {K : PySem.W.Frag} {H : Hp} {xs : List V} {ds : List PyData} {Q : VK} (d : DtAll K H xs ds) (q : ∀ p H', H p = none → Fr [] H H' → Dt K H' (.ref p) (.tuple ds) → Q (.ref p) H') (n : xs.length ≤ 1000 := by exact Nat.le_of_ble_eq_true rfl) : MkT xs Q H :=
  ⟨Nat.le_trans n (by decide), fun p hp => q p _ hp (Fr.new hp) (.tup (.inl (.inl upd_same)) (d.mono (Tu.new hp)))⟩
theorem mkL {K : PySem.W.Frag} {H : Hp} {xs : List V} {ds : List PyData} {Q : VK} (d : DtAll K H xs ds) (q : ∀ p H', H p = none → Fr [] H H' → Lq K H' p ds → Q (.ref p) H') (n : xs.length ≤ 1000 := by exact Nat.le_of_ble_eq_true rfl) : MkL xs Q H :=
  ⟨Nat.le_trans n (by decide), fun p hp => q p _ hp (Fr.new hp) ⟨xs, upd_same, d.mono (Tu.new hp)⟩⟩
/-- a list of ints, of texts -/
theorem mkI {H : Hp} {ns : List Int} {xs : List V} {Q : VK} (e : xs = ns.map V.int) (q : ∀ p H', H p = none → Fr [] H H' → H' p = some (.lst (ns.map V.int)) → Q (.ref p) H') (n : xs.length ≤ 1000 := by exact Nat.le_of_ble_eq_true rfl) : MkL xs Q H :=
  ⟨Nat.le_trans n (by decide), fun p hp => q p _ hp (Fr.new hp) (by rw [upd_same, e])⟩
theorem mkS {H : Hp} {ns : List Str} {xs : List V} {Q : VK} (e : xs = ns.map V.str) (q : ∀ p H', H p = none → Fr [] H H' → H' p = some (.lst (ns.map V.str)) → Q (.ref p) H') (n : xs.length ≤ 1000 := by exact Nat.le_of_ble_eq_true rfl) : MkL xs Q H :=
  ⟨Nat.le_trans n (by decide), fun p hp => q p _ hp (Fr.new hp) (by rw [upd_same, e])⟩
theorem Lq.ty {K : PySem.W.Frag} {H : Hp} {l : Addr} {ds : List PyData} (h : Lq K H l ds) : tyV K "list" (.ref l) H := by
  obtain ⟨vs, e, _⟩ := h
  exact .inl ⟨rfl, _, SqL.of e⟩
theorem Lq.app {K : PySem.W.Frag} {H : Hp} {l : Addr} {ds : List PyData} {y : V} {d : PyData} {Q : VK} (h : Lq K H l ds) (hy : Dt K H y d) (n : ds.length ≤ 100000) (q : ∀ H', Fr [l] H H' → Tu H H' → Lq K H' l (ds ++ [d]) → Q .non H') : rAppend (.ref l) [y] H Q := by
  obtain ⟨vs, e, a⟩ := h
  refine ⟨l, vs, y, rfl, rfl, e, Nat.lt_of_le_of_lt (show vs.length ≤ 100000 by rw [a.length]; exact n) (by decide), ?_⟩
  exact q _ (Fr.mut (by simp)) (Tu.mut e) ⟨_, upd_same, (a.append (.cons hy .nil)).mono (Tu.mut e)⟩
theorem Lq.copy {K : PySem.W.Frag} {H : Hp} {l : Addr} {ds : List PyData} {Q : VK} (h : Lq K H l ds) (q : ∀ p H', H p = none → Fr [] H H' → Lq K H' p ds → Q (.ref p) H') : rListU K [.ref l] H Q := by
  obtain ⟨vs, e, a⟩ := h
  exact w_listL (SqL.of e) fun p hp => q p _ hp (Fr.new hp) ⟨vs, upd_same, a.mono (Tu.new hp)⟩
theorem Lq.isList {K : PySem.W.Frag} {H : Hp} {l : Addr} {ds : List PyData} {Q : VK} (h : Lq K H l ds) (q : Q (.bl true) H) : rIsi K [.ref l, .ty "list"] H Q := by
  obtain ⟨vs, e, a⟩ := h
  exact isL_list (SqL.of e) q
theorem Lq.len {K : PySem.W.Frag} {H : Hp} {l : Addr} {ds : List PyData} {Q : VK} (h : Lq K H l ds) (q : Q (.int ds.length) H) : rLenU K [.ref l] H Q := by
  obtain ⟨vs, e, a⟩ := h
  rw [← a.length] at q
  exact w_lenL (SqL.of e) q
theorem DtAll.rev {K : PySem.W.Frag} {H : Hp} : ∀ {vs : List V} {ds : List PyData}, DtAll K H vs ds → DtAll K H vs.reverse ds.reverse
  | _, _, .nil => .nil
  | _, _, .cons a b => by
    rw [List.reverse_cons, List.reverse_cons]
    exact (DtAll.rev b).append (.cons a .nil)
theorem Lq.reverse {K : PySem.W.Frag} {H : Hp} {l : Addr} {ds : List PyData} {Q : VK} (h : Lq K H l ds) (q : ∀ H', Fr [l] H H' → Tu H H' → Lq K H' l ds.reverse → Q .non H') : rReverse (.ref l) [] H Q := by
  obtain ⟨vs, e, a⟩ := h
  exact ⟨l, vs, rfl, rfl, e, q _ (Fr.mut (by simp)) (Tu.mut e) ⟨_, upd_same, (a.rev).mono (Tu.mut e)⟩⟩
/-! ### slices, sums -/
def cutA {α : Type} (xs : List α) (lo hi : Option Int) : List α := (xs.drop (HT.sIx xs.length 0 lo)).take (HT.sIx xs.length xs.length hi - HT.sIx xs.length 0 lo)
theorem cutA_take {α : Type} {xs : List α} (n : Nat) : cutA xs none (some (n : Int)) = xs.take n := by
  unfold cutA
  rw [HT.sIx_none, HT.sIx_nat, List.drop_zero, Nat.sub_zero]
  by_cases h : n ≤ xs.length
  · rw [Nat.min_eq_left h]
  · rw [Nat.min_eq_right (by omega), List.take_length, List.take_of_length_le (by omega)]
theorem cutA_drop {α : Type} {xs : List α} (n : Nat) : cutA xs (some (n : Int)) none = xs.drop n := by
  unfold cutA
  rw [HT.sIx_none, HT.sIx_nat]
  by_cases h : n ≤ xs.length
  · rw [Nat.min_eq_left h, List.take_of_length_le (by rw [List.length_drop]; omega)]
  · rw [Nat.min_eq_right (by omega), Nat.sub_self, List.take_zero, List.drop_eq_nil_of_le (by omega)]
theorem cutA_mem {α : Type} {xs : List α} {lo hi : Option Int} {x : α} (h : x ∈ cutA xs lo hi) : x ∈ xs := List.mem_of_mem_drop (List.mem_of_mem_take h)
theorem cutA_map {α β : Type} {f : α → β} {xs : List α} {lo hi : Option Int} : cutA (xs.map f) lo hi = (cutA xs lo hi).map f := by
  unfold cutA
  rw [List.length_map, ← List.map_drop, ← List.map_take]
theorem cutA_len {α : Type} {xs : List α} {lo hi : Option Int} : (cutA xs lo hi).length ≤ xs.length := by
  unfold cutA
  rw [List.length_take, List.length_drop]
  omega
theorem DtAll.cut {K : PySem.W.Frag} {H : Hp} {vs : List V} {ds : List PyData} (h : DtAll K H vs ds) (lo hi : Option Int) : DtAll K H (cutV vs lo hi) (cutA ds lo hi) := by
  unfold cutV cutA
  rw [h.length]
  exact (h.drop _).take _
theorem Lq.slice {K : PySem.W.Frag} {H : Hp} {l : Addr} {ds : List PyData} {lo hi : Option Int} {Q : VK} (h : Lq K H l ds) (q : ∀ p H', H p = none → Fr [] H H' → Lq K H' p (cutA ds lo hi) → Q (.ref p) H') : rSlU K (.ref l) lo hi H Q := by
  obtain ⟨vs, e, a⟩ := h
  exact w_slL (SqL.of e) fun p hp => q p _ hp (Fr.new hp) ⟨_, upd_same, (a.cut lo hi).mono (Tu.new hp)⟩
theorem cutA_full {α : Type} {xs : List α} {lo hi : Option Int} (h : HT.sIx xs.length 0 lo = 0 ∧ HT.sIx xs.length xs.length hi = xs.length) : cutA xs lo hi = xs := by
  unfold cutA
  rw [h.1, h.2, List.drop_zero, Nat.sub_zero, List.take_length]
theorem Dt.slice {K : PySem.W.Frag} {H : Hp} {v : V} {ds : List PyData} {lo hi : Option Int} {Q : VK} (h : Dt K H v (.tuple ds)) (q : ∀ p H', Fr [] H H' → Dt K H' (.ref p) (.tuple (cutA ds lo hi)) → Q (.ref p) H') : rSlU K v lo hi H Q := by
  obtain ⟨p, vs, rfl, s, a⟩ := h.tuple
  refine .inl (.inr ⟨p, vs, rfl, s, fun z => ?_, fun _ p' hp => ?_⟩)
  · rw [a.length] at z
    refine q p H Fr.refl ?_
    rw [cutA_full z]
    exact h
  · exact q p' _ (Fr.new hp) (.tup (.inl (.inl upd_same)) ((a.cut lo hi).mono (Tu.new hp)))
theorem Dt.cat {K : PySem.W.Frag} {H : Hp} {v u : V} {ds es : List PyData} {Q : VK} (h : Dt K H v (.tuple ds)) (h' : Dt K H u (.tuple es)) (n : ds.length + es.length ≤ 1000) (q : ∀ p H', Fr [] H H' → Dt K H' (.ref p) (.tuple (ds ++ es)) → Q (.ref p) H') : rAddU K v u H Q := by
  obtain ⟨p, vs, rfl, s, a⟩ := h.tuple
  obtain ⟨p', us, rfl, s', a'⟩ := h'.tuple
  refine .inr (.inl ⟨p, p', vs, us, rfl, rfl, s, s', Nat.le_trans (show _ ≤ 1000 by rw [a.length, a'.length]; exact n) (by decide), fun z => ?_, fun _ z => ?_, fun _ _ r hr => ?_⟩)
  · subst z
    cases a
    exact q p' H Fr.refl h'
  · subst z
    cases a'
    refine q p H Fr.refl ?_
    rw [List.append_nil]
    exact h
  · exact q r _ (Fr.new hr) (.tup (.inl (.inl upd_same)) ((a.append a').mono (Tu.new hr)))
theorem Lq.cat {K : PySem.W.Frag} {H : Hp} {l m : Addr} {ds es : List PyData} {Q : VK} (h : Lq K H l ds) (h' : Lq K H m es) (n : ds.length + es.length ≤ 100000) (q : ∀ p H', H p = none → Fr [] H H' → Lq K H' p (ds ++ es) → Q (.ref p) H') : rAddU K (.ref l) (.ref m) H Q := by
  obtain ⟨vs, e, a⟩ := h
  obtain ⟨us, e', a'⟩ := h'
  exact w_addL e e' (by rw [a.length, a'.length]; omega) fun p hp => q p _ hp (Fr.new hp) ⟨_, upd_same, (a.append a').mono (Tu.new hp)⟩
theorem Lq.allB {K : PySem.W.Frag} {H : Hp} {l : Addr} {bs : List Bool} {Q : VK} (h : Lq K H l (bs.map PyData.bool)) (q : Q (.bl (bs.all id)) H) : rAll K [.ref l] H Q := by
  obtain ⟨vs, e, a⟩ := h
  have z : vs = bs.map V.bl := by
    clear e q
    induction bs generalizing vs with
    | nil => cases a; rfl
    | cons b r ih =>
      cases a with
      | cons a1 a2 => rw [a1.of_bl, ih _ a2]; rfl
  exact ⟨l, bs, rfl, SqL.of (by rw [e, z]), q⟩
theorem Lq.ints {K : PySem.W.Frag} {H : Hp} {l : Addr} {ns : List Int} (h : Lq K H l (ns.map PyData.int)) : H l = some (.lst (ns.map V.int)) := by
  obtain ⟨vs, e, a⟩ := h
  have z : vs = ns.map V.int := by
    clear e
    induction ns generalizing vs with
    | nil => cases a; rfl
    | cons b r ih =>
      cases a with
      | cons a1 a2 => rw [a1.of_int, ih _ a2]; rfl
  rw [e, z]
/-- what changed is new -/
theorem Fr.drop1 {S : List Addr} {H H1 H2 : Hp} {p : Addr} (hp : H p = none) (a : Fr S H H1) (b : Fr [p] H1 H2) : Fr S H H2 := fun x o e n => b x o (a x o e n) (by
  intro z
  rw [List.mem_singleton.mp z, hp] at e
  cases e)
/-- a comprehension with a test over a list of data: what is kept is the data's own filter -/
theorem LCF {K : PySem.W.Frag} {α : Type} {q : Addr} {H : Hp} {us : List V} {cs : List α} {dS : α → PyData} {j : Nat} {ws : List Nat} {σ : L2.St} {tt : TT} {te : TE} {Q : VK} (f : α → Bool) (g : α → PyData)
    (hq : H q = some (.lst us)) (hd : DtAll K H us (cs.map dS)) (lc : cs.length ≤ 100000) (hw : ∀ x, wipe ((wipe σ ws).set j (some x)) ws = wipe σ ws)
    (ht : ∀ c x H', c ∈ cs → Fr [] H H' → Dt K H' x (dS c) → ∀ QB : Bool → Hp → Prop, (∀ H2, Fr [] H' H2 → QB (f c) H2) → tt ((wipe σ ws).set j (some x)) H' QB)
    (he : ∀ c x H', c ∈ cs → Fr [] H H' → Dt K H' x (dS c) → f c = true → ∀ Q : VK, (∀ y H2, Fr [] H' H2 → Dt K H2 y (g c) → Q y H2) → te ((wipe σ ws).set j (some x)) H' Q)
    (k : ∀ D H', H D = none → Fr [] H H' → Lq K H' D ((cs.filter f).map g) → Q (.ref D) H') :
    ∃ a', V.ref q = .ref a' ∧ (∃ ys, SqL K H a' ys) ∧ ∀ D, H D = none → LC (Itl K a') (gName j) tt te ws σ D Q (upd H D (.lst [])) := by
  have lu : us.length = cs.length := by rw [hd.length, List.length_map]
  refine LC_L (SqL.of hq) fun D hD => LC_by (a := q) (xs := us) (fun i H' => Fr [] H H' ∧ Lq K H' D (((cs.take i).filter f).map g)) ⟨Fr.new hD, [], upd_same, .nil⟩ (fun i H' _ h => SqL.of (h.1 _ _ hq (by simp))) ?_ ?_
  · rintro i x H' hx ⟨f', ys, hys, dys⟩
    obtain ⟨d, h1, h2⟩ := (hd.mono f'.tu).get hx
    obtain ⟨c, h3, rfl⟩ := (by
      rw [List.getElem?_map] at h1
      cases e : cs[i]? with
      | none => rw [e] at h1; cases h1
      | some x => rw [e] at h1; exact ⟨x, rfl, Option.some.inj h1⟩ : ∃ c, cs[i]? = some c ∧ dS c = d)
    have mc := List.mem_of_getElem? h3
    have hi : i < us.length := (List.getElem?_eq_some_iff.mp hx).1
    have ly : ys.length ≤ i := by
      rw [dys.length, List.length_map]
      refine Nat.le_trans (List.length_filter_le _ _) ?_
      rw [List.length_take]
      omega
    refine ⟨hw x, ht c x H' mc f' h2 _ fun H2 f2 => ?_⟩
    cases hf : f c with
    | false =>
      rw [if_neg Bool.false_ne_true]
      refine ⟨f'.trans f2, ?_⟩
      rw [take_filt h3, hf]
      show Lq K H2 D ((List.filter f (cs.take i) ++ []).map g)
      rw [List.append_nil]
      exact Lq.fr0 ⟨ys, hys, dys⟩ f2
    | true =>
      rw [if_pos rfl]
      refine he c x H2 mc (f'.trans f2) (h2.mono f2.tu) hf _ fun y H3 f3 dy => ?_
      have f23 := f2.trans f3
      have e3 := f23 _ _ hys (by simp)
      refine ⟨ys, e3, Nat.lt_of_le_of_lt (show ys.length ≤ 100000 by omega) (by decide), Fr.new_mut hD ((f'.trans f23).mono (by simp) |>.trans (Fr.mut (by simp))), _, upd_same, ?_⟩
      rw [take_filt h3, hf, List.map_append]
      exact ((dys.mono f23.tu).append (.cons dy .nil)).mono (Tu.mut e3)
  · rintro H' ⟨f', L⟩
    rw [lu, List.take_length] at L
    exact k D H' hD f' L
theorem Lq.at {K : PySem.W.Frag} {H : Hp} {l : Addr} {ds : List PyData} {P : PyData → Prop} (h : Lq K H l ds) (hP : ∀ d ∈ ds, P d) {i : Int} (h0 : 0 ≤ i) (h1 : i < ds.length) {Q : VK} (q : ∀ v d, Dt K H v d → P d → ds[i.toNat]? = some d → Q v H) : rIx K (.ref l) (.int i) H Q := by
  obtain ⟨vs, e, a⟩ := h
  have ek : i = ((i.toNat : Nat) : Int) := by omega
  have hk : i.toNat < ds.length := by omega
  obtain ⟨v, hv, dv⟩ := a.get' (List.getElem?_eq_getElem hk)
  refine w_ixL (SqL.of e) ?_ (q v _ dv (hP _ (List.getElem_mem hk)) (List.getElem?_eq_getElem hk))
  rw [ek]
  exact atI_nat hv
/-- the last -/
theorem Lq.last {K : PySem.W.Frag} {H : Hp} {l : Addr} {ds : List PyData} {d : PyData} {Q : VK} (h : Lq K H l (ds ++ [d])) (q : ∀ v, Dt K H v d → Q v H) : rIx K (.ref l) (.int (-1)) H Q := by
  obtain ⟨vs, e, a⟩ := h
  have hl := a.length
  rw [List.length_append] at hl
  have hl : vs.length = ds.length + 1 := hl
  obtain ⟨v, hv, dv⟩ := a.get' (i := ds.length) (d := d) (by rw [List.getElem?_append_right (Nat.le_refl _), Nat.sub_self]; rfl)
  refine w_ixL (SqL.of e) ?_ (q v dv)
  unfold atI ixN
  rw [if_neg (by decide), if_pos (by omega)]
  show vs[((-1 : Int) + vs.length).toNat]? = some v
  rw [show ((-1 : Int) + vs.length).toNat = ds.length by omega]
  exact hv
/-- a for over such a list -/
theorem Lq.walk {K : PySem.W.Frag} {H : Hp} {l : Addr} {ds : List PyData} {σ : L2.St} {nx b c : L2.St → Hp → Prop} {rt : VK} {g : TG} {tb : TS} (h : Lq K H l ds) (Pv : Nat → L2.St → Hp → Prop) (h0 : Pv 0 σ H) (hl : ∀ i σ H', Pv i σ H' → Lq K H' l ds)
    (hs : ∀ i v d σ H', ds[i]? = some d → Dt K H' v d → Pv i σ H' → g v σ H' fun σ2 H2 => tb ⟨Pv (i + 1), rt, nx, Pv (i + 1)⟩ σ2 H2) (hd : ∀ σ H', Pv ds.length σ H' → nx σ H') :
    ∃ a', V.ref l = .ref a' ∧ (∃ ys, SqL K H a' ys) ∧ FOR (Itl K a') g tb ⟨nx, rt, b, c⟩ σ H := by
  obtain ⟨vs, e, a⟩ := id h
  refine ⟨l, rfl, ⟨vs, SqL.of e⟩, fun i m σ H => m = ds.length - i ∧ i ≤ ds.length ∧ Pv i σ H, ⟨_, rfl, Nat.zero_le _, h0⟩, ?_⟩
  rintro i m σ' H' ⟨rfl, hi, p⟩
  obtain ⟨us, eu, au⟩ := hl i σ' H' p
  by_cases hlt : i < ds.length
  · obtain ⟨v, hv, dv⟩ := au.get' (List.getElem?_eq_getElem hlt)
    refine .inr ⟨⟨us, v, SqL.of eu, hv⟩, Pv (i + 1), fun σ2 H2 p' => ⟨ds.length - (i + 1), by omega, rfl, hlt, p'⟩, fun x H2 y => ?_⟩
    obtain ⟨z, y⟩ := y
    subst z
    have ex : x = v := Option.some.inj ((y us (SqL.of eu)).symm.trans hv)
    subst ex
    exact hs i x _ σ' _ (List.getElem?_eq_getElem hlt) dv p
  · have z : i = ds.length := by omega
    subst z
    exact .inl ⟨⟨us, SqL.of eu, by rw [au.length]; exact Nat.le_refl _⟩, hd σ' H' p⟩
/-- .. backwards -/
theorem Lq.walkRev {K : PySem.W.Frag} {H : Hp} {l : Addr} {ds : List PyData} {σ : L2.St} {nx b c : L2.St → Hp → Prop} {rt : VK} {g : TG} {tb : TS} (h : Lq K H l ds) (Pv : Nat → L2.St → Hp → Prop) (h0 : Pv 0 σ H) (hl : ∀ i σ H', Pv i σ H' → Lq K H' l ds)
    (hs : ∀ i v d σ H', i < ds.length → ds[ds.length - 1 - i]? = some d → Dt K H' v d → Pv i σ H' → g v σ H' fun σ2 H2 => tb ⟨Pv (i + 1), rt, nx, Pv (i + 1)⟩ σ2 H2) (hd : ∀ σ H', Pv ds.length σ H' → nx σ H') :
    ∃ (a : Addr) (xs : List V), V.ref l = .ref a ∧ ((SqL K H a xs ∧ FOR (Itv K a xs.length) g tb ⟨nx, rt, b, c⟩ σ H) ∨ (SqT K H a xs ∧ FOR (RT.ItvT K a xs.length) g tb ⟨nx, rt, b, c⟩ σ H)) := by
  obtain ⟨vs, e, a⟩ := id h
  have lv := a.length
  refine ⟨l, vs, rfl, .inl ⟨SqL.of e, fun i m σ H => m = ds.length - i ∧ i ≤ ds.length ∧ Pv i σ H, ⟨_, rfl, Nat.zero_le _, h0⟩, ?_⟩⟩
  rintro i m σ' H' ⟨rfl, hi, p⟩
  obtain ⟨us, eu, au⟩ := hl i σ' H' p
  by_cases hlt : i < ds.length
  · have hj : ds.length - 1 - i < ds.length := by omega
    obtain ⟨v, hv, dv⟩ := au.get' (List.getElem?_eq_getElem hj)
    refine .inr ⟨⟨by omega, us, v, SqL.of eu, by rw [lv]; exact hv⟩, Pv (i + 1), fun σ2 H2 p' => ⟨ds.length - (i + 1), by omega, rfl, hlt, p'⟩, fun x H2 y => ?_⟩
    obtain ⟨z, y⟩ := y
    subst z
    have y2 := y us (SqL.of eu)
    rw [lv] at y2
    have ex : x = v := Option.some.inj (y2.symm.trans hv)
    subst ex
    exact hs i x _ σ' _ hlt (List.getElem?_eq_getElem hj) dv p
  · have z : i = ds.length := by omega
    subst z
    exact .inl ⟨by show vs.length ≤ _; omega, hd σ' H' p⟩
/-- .. with its number -/
theorem Lq.walkEnum {K : PySem.W.Frag} {H : Hp} {l : Addr} {ds : List PyData} {σ : L2.St} {nx b c : L2.St → Hp → Prop} {rt : VK} {g : TG} {tb : TS} (h : Lq K H l ds) (Pv : Nat → L2.St → Hp → Prop) (h0 : Pv 0 σ H) (hl : ∀ i σ H', Pv i σ H' → Lq K H' l ds)
    (hs : ∀ i t v d σ H' H2, ds[i]? = some d → Dt K H2 v d → Fr [] H' H2 → Pv i σ H' → SqT K H2 t [.int i, v] → g (.ref t) σ H2 fun σ2 H3 => tb ⟨Pv (i + 1), rt, nx, Pv (i + 1)⟩ σ2 H3) (hd : ∀ σ H', Pv ds.length σ H' → nx σ H') :
    ∃ a xs, [V.ref l] = [.ref a] ∧ SqL K H a xs ∧ FOR (Ite K a) g tb ⟨nx, rt, b, c⟩ σ H := by
  obtain ⟨vs, e, a⟩ := id h
  refine ⟨l, vs, rfl, SqL.of e, fun i m σ H => m = ds.length - i ∧ i ≤ ds.length ∧ Pv i σ H, ⟨_, rfl, Nat.zero_le _, h0⟩, ?_⟩
  rintro i m σ' H' ⟨rfl, hi, p⟩
  obtain ⟨us, eu, au⟩ := hl i σ' H' p
  by_cases hlt : i < ds.length
  · obtain ⟨v, hv, dv⟩ := au.get' (List.getElem?_eq_getElem hlt)
    refine .inr ⟨⟨us, v, SqL.of eu, hv⟩, Pv (i + 1), fun σ2 H2 p' => ⟨ds.length - (i + 1), by omega, rfl, hlt, p'⟩, fun x H2 y => ?_⟩
    obtain ⟨t, z, e1, ht, e2, y⟩ := y
    subst e1 e2
    have ex : z = v := Option.some.inj ((y us (SqL.of eu)).symm.trans hv)
    subst ex
    exact hs i t z _ σ' H' _ (List.getElem?_eq_getElem hlt) (dv.mono (Tu.new ht)) (Fr.new ht) p (.inl (.inl upd_same))
  · have z : i = ds.length := by omega
    subst z
    exact .inl ⟨⟨us, SqL.of eu, by rw [au.length]; exact Nat.le_refl _⟩, hd σ' H' p⟩
theorem map_get {α β : Type} {f : α → β} {xs : List α} {i : Nat} {y : β} (h : (xs.map f)[i]? = some y) : ∃ x, xs[i]? = some x ∧ f x = y := by
  rw [List.getElem?_map] at h
  cases e : xs[i]? with
  | none => rw [e] at h; cases h
  | some x => rw [e] at h; exact ⟨x, rfl, Option.some.inj h⟩
end U

namespace U
open PySem PySem.Spec PyProof.Rows L2
/-! ### texts: a sign, a part, sign by sign -/
section
variable {K : PySem.W.Frag} {H : Hp} {Q : VK} {i j : Int}
theorem w_ixS {z : Str} {c : Nat} (h : z.length ≤ sizeLine) (e : atI z.cps.toList i = some c) (q : Q (.str ⟨#[c]⟩) H) : rIx K (.str z) (.int i) H Q := .inr (.inr ⟨z, i, c, rfl, rfl, h, e, q⟩)
theorem w_inSign {c : Nat} {z : Str} (q : Q (.bl (decide (c ∈ z.cps.toList))) H) : rInU K (.str ⟨#[c]⟩) (.str z) H Q := .inr ⟨c, z, rfl, rfl, q⟩
theorem w_ninSign {c : Nat} {z : Str} (q : Q (.bl (!decide (c ∈ z.cps.toList))) H) : rNinU K (.str ⟨#[c]⟩) (.str z) H Q := .inr ⟨c, z, rfl, rfl, q⟩
theorem w_slS {z : Str} {lo hi : Option Int} (h : z.length ≤ sizeLine) (q : Q (.str (cutS z lo hi)) H) : rSlU K (.str z) lo hi H Q := .inr ⟨z, rfl, h, q⟩
def MkD (Q : VK) (H : Hp) : Prop := ∀ p, H p = none → Q (.ref p) (upd H p (.dK []))
theorem w_dnew {σ : L2.St} (q : MkD Q H) : tDNewK σ H Q := q
theorem w_iS {σ : L2.St} {te : TE} {R : It → Hp → Prop} (q : te σ H fun v H1 => ∃ x, v = .str x ∧ R (Its x) H1) : iStr te σ H R := q
theorem at_sign {z : Str} {p : Int} (h0 : 0 ≤ p) (h : p < z.length) : ∃ c, atI z.cps.toList p = some c ∧ c ∈ z.cps.toList := by
  have h1 : p.toNat < z.cps.toList.length := by
    rw [Array.length_toList]
    have : z.length = z.cps.size := rfl
    omega
  have ek : p = ((p.toNat : Nat) : Int) := by omega
  have key : atI z.cps.toList ((p.toNat : Nat) : Int) = some z.cps.toList[p.toNat] := atI_nat (List.getElem?_eq_getElem h1)
  rw [← ek] at key
  exact ⟨_, key, List.getElem_mem h1⟩
end
/-- a text of at most n signs, each of them one -/
def TxOk (n : Nat) (x : Str) : Prop := x.length ≤ n ∧ PyData.strOk x = true
theorem strOk_mem {x : Str} : PyData.strOk x = true ↔ ∀ c ∈ x.cps.toList, c < 0x110000 := by
  unfold PyData.strOk
  rw [← Array.all_toList, List.all_eq_true]
  constructor
  · intro h c hc; simpa using h c hc
  · intro h c hc; simpa using h c hc
theorem TxOk.mono {n m : Nat} {x : Str} (h : TxOk n x) (l : n ≤ m) : TxOk m x := ⟨Nat.le_trans h.1 l, h.2⟩
theorem TxOk.cat {n m : Nat} {a b : Str} (ha : TxOk n a) (hb : TxOk m b) : TxOk (n + m) (a ++ b) := by
  refine ⟨?_, strOk_mem.mpr fun c hc => ?_⟩
  · have e : (a ++ b).length = a.length + b.length := by
      show (a ++ b).cps.size = a.cps.size + b.cps.size
      rw [PySem.Str.cps_append, Array.size_append]
    have := ha.1
    have := hb.1
    omega
  · rw [PySem.Str.cps_append, Array.toList_append] at hc
    rcases List.mem_append.mp hc with h | h
    · exact strOk_mem.mp ha.2 c h
    · exact strOk_mem.mp hb.2 c h
theorem TxOk.cut {n : Nat} {a : Str} {lo hi : Option Int} (ha : TxOk n a) : TxOk n (cutS a lo hi) := by
  refine ⟨Nat.le_trans (cutS_length a lo hi) ha.1, strOk_mem.mpr fun c hc => ?_⟩
  unfold cutS at hc
  rw [List.toList_toArray] at hc
  exact strOk_mem.mp ha.2 c (List.mem_of_mem_drop (List.mem_of_mem_take hc))
theorem TxOk.sign {n : Nat} {a : Str} {c : Nat} (ha : TxOk n a) (h : c ∈ a.cps.toList) : TxOk 1 ⟨#[c]⟩ := by
  refine ⟨Nat.le_refl _, strOk_mem.mpr fun d hd => ?_⟩
  rw [List.mem_singleton.mp hd]
  exact strOk_mem.mp ha.2 c h
/-- a comprehension over a text, sign by sign -/
theorem LCS {K : PySem.W.Frag} {x : Str} {H : Hp} {j : Nat} {ws : List Nat} {σ : L2.St} {tt : TT} {te : TE} {Q : VK} (f : Nat → Bool) (g : Nat → PyData) (lx : x.length ≤ 100000)
    (hw : ∀ v, wipe ((wipe σ ws).set j (some v)) ws = wipe σ ws)
    (ht : ∀ c H', Fr [] H H' → ∀ QB : Bool → Hp → Prop, QB (f c) H' → tt ((wipe σ ws).set j (some (.str ⟨#[c]⟩))) H' QB)
    (he : ∀ c H', Fr [] H H' → f c = true → ∀ Q : VK, (∀ y, Dt K H' y (g c) → Q y H') → te ((wipe σ ws).set j (some (.str ⟨#[c]⟩))) H' Q)
    (k : ∀ D H', H D = none → Fr [] H H' → Lq K H' D ((x.cps.toList.filter f).map g) → Q (.ref D) H') :
    ∃ x', V.str x = .str x' ∧ ∀ D, H D = none → LC (Its x') (gName j) tt te ws σ D Q (upd H D (.lst [])) := by
  refine ⟨x, rfl, fun D hD => ?_⟩
  refine lc_it (walk_str (z := x)) (fun i H' => Fr [] H H' ∧ Lq K H' D (((x.cps.toList.take i).filter f).map g)) ⟨Fr.new hD, [], upd_same, .nil⟩ (fun _ _ _ _ => trivial) ?_ ?_
  · rintro i v H1 H' hi ⟨f', ys, hys, dys⟩ ⟨rfl, c, hc, rfl⟩
    have hcl : x.cps.toList[i]? = some c := by rw [Array.getElem?_toList]; exact hc
    have ly : ys.length ≤ i := by
      rw [dys.length, List.length_map]
      refine Nat.le_trans (List.length_filter_le _ _) ?_
      rw [List.length_take]
      omega
    have lz : x.cps.size ≤ 100000 := lx
    refine ⟨hw _, ht c H' f' _ ?_⟩
    cases hf : f c with
    | false =>
      rw [if_neg Bool.false_ne_true]
      refine ⟨f', ?_⟩
      rw [take_filt hcl, hf]
      show Lq K H' D ((List.filter f (x.cps.toList.take i) ++ []).map g)
      rw [List.append_nil]
      exact ⟨ys, hys, dys⟩
    | true =>
      rw [if_pos rfl]
      refine he c H' f' hf _ fun y dy => ?_
      refine ⟨ys, hys, Nat.lt_of_le_of_lt (show ys.length ≤ 100000 by omega) (by decide), Fr.new_mut hD ((f'.mono (by simp)).trans (Fr.mut (by simp))), _, upd_same, ?_⟩
      rw [take_filt hcl, hf, List.map_append]
      exact (dys.append (.cons dy .nil)).mono (Tu.mut hys)
  · rintro H' ⟨f', L⟩
    have e : List.take x.cps.size x.cps.toList = x.cps.toList := by
      rw [← Array.length_toList, List.take_length]
    rw [e] at L
    exact k D H' hD f' L
/-- a new list of any data -/
theorem mkG {K : PySem.W.Frag} {H : Hp} {xs : List V} {ds : List PyData} {Q : VK} (d : DgAll K H xs ds) (q : ∀ p H' vs, H p = none → Fr [] H H' → H' p = some (.lst vs) → DgAll K H' vs ds → Q (.ref p) H') (n : xs.length ≤ 1000 := by exact Nat.le_of_ble_eq_true rfl) : MkL xs Q H :=
  ⟨Nat.le_trans n (by decide), fun p hp => q p _ xs hp (Fr.new hp) upd_same (d.fr (Fr.new hp))⟩
theorem mkD {H : Hp} {Q : VK} (q : ∀ p H', H p = none → Fr [] H H' → H' p = some (.dK []) → Q (.ref p) H') : MkD Q H := fun p hp => q p _ hp (Fr.new hp) upd_same
end U

set_option maxHeartbeats 4000000






namespace LW
open PySem PySem.Spec PyProof.Rows L2 U
def topS (i : Nat) : Stmt := PySem.Challenge.pw_viewwood_k01_numbers_and_names.main.body.getD i (.Pass ⟨0, 0, 0, 0⟩)
abbrev s_is_whole : Stmt := topS 3
abbrev N_is_whole : List Str := ["thing"]
abbrev p_is_whole : List Str := ["thing"]
theorem sc_is_whole : FnScope N_is_whole p_is_whole (defScope s_is_whole) := ⟨rfl, rfl, rfl, by decide +kernel, rfl, by decide +kernel, by decide +kernel⟩
abbrev s_is_number : Stmt := topS 4
abbrev N_is_number : List Str := ["thing"]
abbrev p_is_number : List Str := ["thing"]
theorem sc_is_number : FnScope N_is_number p_is_number (defScope s_is_number) := ⟨rfl, rfl, rfl, by decide +kernel, rfl, by decide +kernel, by decide +kernel⟩
abbrev s_is_name : Stmt := topS 5
abbrev N_is_name : List Str := ["thing", "sign"]
abbrev p_is_name : List Str := ["thing"]
theorem sc_is_name : FnScope N_is_name p_is_name (defScope s_is_name) := ⟨rfl, rfl, rfl, by decide +kernel, rfl, by decide +kernel, by decide +kernel⟩
abbrev s_cut : Stmt := topS 6
abbrev N_cut : List Str := ["number"]
abbrev p_cut : List Str := ["number"]
theorem sc_cut : FnScope N_cut p_cut (defScope s_cut) := ⟨rfl, rfl, rfl, by decide +kernel, rfl, by decide +kernel, by decide +kernel⟩
abbrev s_law_tape : Stmt := topS 8
abbrev N_law_tape : List Str := ["_law_script"]
abbrev p_law_tape : List Str := ["_law_script"]
theorem sc_law_tape : FnScope N_law_tape p_law_tape (defScope s_law_tape) := ⟨rfl, rfl, rfl, by decide +kernel, rfl, by decide +kernel, by decide +kernel⟩
abbrev s_law_draw : Stmt := topS 9
abbrev N_law_draw : List Str := ["_law_tape_here", "_law_many", "_law_script", "_law_digit", "_law_cell", "_law_mixed"]
abbrev p_law_draw : List Str := ["_law_tape_here", "_law_many"]
theorem sc_law_draw : FnScope N_law_draw p_law_draw (defScope s_law_draw) := ⟨rfl, rfl, rfl, by decide +kernel, rfl, by decide +kernel, by decide +kernel⟩
abbrev s_law_far : Stmt := topS 10
abbrev N_law_far : List Str := ["_law_tape_here", "_law_number"]
abbrev p_law_far : List Str := ["_law_tape_here"]
theorem sc_law_far : FnScope N_law_far p_law_far (defScope s_law_far) := ⟨rfl, rfl, rfl, by decide +kernel, rfl, by decide +kernel, by decide +kernel⟩
abbrev s_law_text : Stmt := topS 11
abbrev N_law_text : List Str := ["_law_tape_here", "_law_text_here", "_law_k", "_law_at"]
abbrev p_law_text : List Str := ["_law_tape_here"]
theorem sc_law_text : FnScope N_law_text p_law_text (defScope s_law_text) := ⟨rfl, rfl, rfl, by decide +kernel, rfl, by decide +kernel, by decide +kernel⟩
abbrev s_law_thing : Stmt := topS 12
abbrev N_law_thing : List Str := ["_law_tape_here", "_law_way"]
abbrev p_law_thing : List Str := ["_law_tape_here"]
theorem sc_law_thing : FnScope N_law_thing p_law_thing (defScope s_law_thing) := ⟨rfl, rfl, rfl, by decide +kernel, rfl, by decide +kernel, by decide +kernel⟩
abbrev s_law_right : Stmt := topS 13
abbrev N_law_right : List Str := ["_law_thing_here", "_law_whole", "_law_number", "_law_name", "_law_found", "_law_due", "_law_sign"]
abbrev p_law_right : List Str := ["_law_thing_here"]
theorem sc_law_right : FnScope N_law_right p_law_right (defScope s_law_right) := ⟨rfl, rfl, rfl, by decide +kernel, rfl, by decide +kernel, by decide +kernel⟩
abbrev s_law : Stmt := topS 14
abbrev N_law : List Str := ["_law_script", "_law_tape_here", "_law_k"]
abbrev p_law : List Str := ["_law_script"]
theorem sc_law : FnScope N_law p_law (defScope s_law) := ⟨rfl, rfl, rfl, by decide +kernel, rfl, by decide +kernel, by decide +kernel⟩
/-- what the top has left -/
structure Env (K : PySem.W.Frag) (mg : Str → Option Value) : Prop where
  l_is_whole : Loc K mg "is_whole" p_is_whole s_is_whole
  l_is_number : Loc K mg "is_number" p_is_number s_is_number
  l_is_name : Loc K mg "is_name" p_is_name s_is_name
  l_cut : Loc K mg "cut" p_cut s_cut
  l_law_tape : Loc K mg "_law_tape" p_law_tape s_law_tape
  l_law_draw : Loc K mg "_law_draw" p_law_draw s_law_draw
  l_law_far : Loc K mg "_law_far" p_law_far s_law_far
  l_law_text : Loc K mg "_law_text" p_law_text s_law_text
  l_law_thing : Loc K mg "_law_thing" p_law_thing s_law_thing
  l_law_right : Loc K mg "_law_right" p_law_right s_law_right
  l_law : Loc K mg "law" p_law s_law
  m_abs : mg "abs" = none
  m_all : mg "all" = none
  m_bool : mg "bool" = none
  m_int : mg "int" = none
  m_isinstance : mg "isinstance" = none
  m_len : mg "len" = none
  m_max : mg "max" = none
  m_min : mg "min" = none
  m_range : mg "range" = none
  m_str : mg "str" = none
  g_GREATEST : ∃ t, mg "GREATEST" = some (.int 1000000000 t)
  g_LETTERS : ∃ t, mg "LETTERS" = some (.str "abcdefghijklmnopqrstuvwxyz" t)
theorem Env.pe_GREATEST {X : Cx} {pos : Pos} (T : Env X.K X.mg) (hg : Gl X "GREATEST" := by rfl) : PE X (.Name "GREATEST" pos) (tC (.int 1000000000)) := by
  obtain ⟨t, e⟩ := T.g_GREATEST
  exact pe_glob hg e ⟨_, rfl⟩ (by decide +kernel)
theorem Env.pe_LETTERS {X : Cx} {pos : Pos} (T : Env X.K X.mg) (hg : Gl X "LETTERS" := by rfl) : PE X (.Name "LETTERS" pos) (tC (.str "abcdefghijklmnopqrstuvwxyz")) := by
  obtain ⟨t, e⟩ := T.g_LETTERS
  exact pe_glob hg e ⟨_, rfl⟩ (by decide +kernel)
local macro_rules | `(tactic| walk_at "s") => `(tactic| first
  | ((with_reducible refine' w_var ?h ?q); (case h => exact rfl))
  | (with_reducible refine' w_c ?_)
  | (with_reducible refine' w_name ?_)
  | (with_reducible refine' w_op ?_)
  | (with_reducible refine' w_nil ?_)
  | (with_reducible refine' w_cons ?_)
  | (with_reducible refine' w_seq ?_)
  | (with_reducible refine' w_asg ?_)
  | (with_reducible refine' w_ret ?_)
  | (with_reducible refine' w_ifS ?_)
  | (with_reducible refine' w_call ?_)
  | (with_reducible refine' w_cb ?_)
  | (with_reducible refine' w_test ?_)
  | (with_reducible refine' w_B ?_)
  | (with_reducible refine' w_addI ?_)
  | (with_reducible refine' w_rI0 ?_)
  | (with_reducible refine' w_eqI ?_)
  | (with_reducible refine' w_eqS ?_)
  | (with_reducible refine' w_eqB ?_)
  | (with_reducible refine' w_neI ?_)
  | (with_reducible refine' w_neS ?_)
  | (with_reducible refine' w_neB ?_)
  | (with_reducible refine' w_bl ?_)
  | (with_reducible refine' w_and ?_)
  | (with_reducible refine' w_or ?_)
  | (with_reducible refine' w_not ?_)
  | (with_reducible refine' w_andV ?_)
  | (with_reducible refine' w_orV ?_)
  | (with_reducible refine' w_notV ?_)
  | (with_reducible refine' w_if ?_)
  | (with_reducible refine' w_isN ?_)
  | (with_reducible refine' w_notN ?_)
  | (with_reducible refine' w_tup ?_)
  | (with_reducible refine' w_lst ?_)
  | (with_reducible refine' w_un ?_)
  | (with_reducible refine' w_rU ?_)
  | (with_reducible refine' w_chain ?_)
  | (with_reducible refine' w_retN ?_)
  | (with_reducible refine' w_drop ?_)
  | (with_reducible refine' w_next ?_)
  | (with_reducible refine' w_sub' ?_)
  | (with_reducible refine' w_for ?_)
  | (with_reducible refine' w_sl ?_)
  | (with_reducible refine' w_part ?_)
  | (with_reducible refine' w_partI ?_)
  | (with_reducible refine' w_nopart ?_)
  | (with_reducible refine' w_bm ?_)
  | (with_reducible refine' w_bm0 ?_)
  | (with_reducible refine' w_lc ?_)
  | ((with_reducible refine' w_wipe ?h ?q); (case h => exact rfl))
  | (with_reducible refine' w_yes ?_)
  | (with_reducible refine' w_N ?_)
  | (with_reducible refine' w_gcons ?_)
  | (with_reducible refine' w_gnil ?_)
  | (with_reducible refine' w_isB ?_)
  | (with_reducible refine' w_nisB ?_)
  | (with_reducible refine' w_iRev ?_)
  | (with_reducible refine' w_iEnum ?_)
  | (with_reducible refine' w_iR1 ?_)
  | (with_reducible refine' w_max ?_)
  | (with_reducible refine' w_min ?_)
  | (with_reducible refine' w_abs ?_)
  | (with_reducible refine' w_intI ?_)
  | (with_reducible refine' w_intB ?_)
  | (with_reducible refine' w_pow9 ?_)
  | (with_reducible refine' w_pow18 ?_)
  | (with_reducible refine' w_pow6 ?_)
  | (with_reducible refine' w_pow59 ?_)
  | (with_reducible refine' w_iR2 ?_)
  | (with_reducible refine' w_iL ?_)
  | (with_reducible refine' w_iT ?_)
  | (with_reducible refine' is_non_int ?_)
  | (with_reducible refine' is_non_bool ?_)
  | (with_reducible refine' is_non_str ?_)
  | (with_reducible refine' is_non_tuple ?_)
  | (with_reducible refine' is_non_list ?_)
  | (with_reducible refine' is_non_dict ?_)
  | (with_reducible refine' is_bl_int ?_)
  | (with_reducible refine' is_bl_bool ?_)
  | (with_reducible refine' is_bl_str ?_)
  | (with_reducible refine' is_bl_tuple ?_)
  | (with_reducible refine' is_bl_list ?_)
  | (with_reducible refine' is_bl_dict ?_)
  | (with_reducible refine' is_int_int ?_)
  | (with_reducible refine' is_int_bool ?_)
  | (with_reducible refine' is_int_str ?_)
  | (with_reducible refine' is_int_tuple ?_)
  | (with_reducible refine' is_int_list ?_)
  | (with_reducible refine' is_int_dict ?_)
  | (with_reducible refine' is_str_int ?_)
  | (with_reducible refine' is_str_bool ?_)
  | (with_reducible refine' is_str_str ?_)
  | (with_reducible refine' is_str_tuple ?_)
  | (with_reducible refine' is_str_list ?_)
  | (with_reducible refine' is_str_dict ?_)
  | (with_reducible refine' w_inSign ?_)
  | (with_reducible refine' w_ninSign ?_)
  | (with_reducible refine' w_dnew ?_)
  | (with_reducible refine' w_iS ?_)
  | (with_reducible refine' iteT ?_)
  | (with_reducible refine' iteF ?_)
  | (with_reducible refine' iteNT ?_)
  | (with_reducible refine' iteNF ?_))
local macro_rules | `(tactic| walk_at "go") => `(tactic| repeat walk_at "s")

/-! ### the law's own draws: nothing is known of a number drawn but its bounds -/
/-- a tape: script, count, rest, place; all that stood at first stands -/
def Tape (K : PySem.W.Frag) (H0 H : Hp) (t : Addr) : Prop := (∃ (a : Addr) (ns : List Int) (n d p : Int), H t = some (.lst [.ref a, .int n, .int d, .int p]) ∧ SqL K H0 a (ns.map V.int) ∧ 0 ≤ p) ∧ Fr [] H0 H ∧ H0 t = none
section
variable {K : PySem.W.Frag} {H0 H H' : Hp} {t q : Addr}
theorem Tape.fr (T : Tape K H0 H t) (e : Fr [] H H') : Tape K H0 H' t := by
  obtain ⟨⟨a, ns, n, d, p, h1, h2, h3⟩, h4, h5⟩ := T
  exact ⟨⟨a, ns, n, d, p, e _ _ h1 (by simp), h2, h3⟩, h4.trans e, h5⟩
theorem Tape.new (T : Tape K H0 H t) {o : HO} (h : H q = none) : Tape K H0 (upd H q o) t := T.fr (Fr.new h)
theorem Tape.ne (T : Tape K H0 H t) (h : H q = none) : q ≠ t := by
  rintro rfl
  obtain ⟨⟨_, _, _, _, _, e, _⟩, _⟩ := T
  rw [h] at e
  cases e
theorem Tape.no (T : Tape K H0 H t) (h : H q = none) : H0 q = none := T.2.1.free h
/-- what is new changes -/
theorem Tape.mut (T : Tape K H0 H t) {o : HO} (nq : q ≠ t) (n0 : H0 q = none) : Tape K H0 (upd H q o) t := by
  obtain ⟨⟨a, zs, n, d, p, h1, h2, h4⟩, f, h5⟩ := T
  refine ⟨⟨a, zs, n, d, p, ?_, h2, h4⟩, fun b u e z => ?_, h5⟩
  · rw [upd_ne nq.symm]; exact h1
  · rw [upd_ne (by rintro rfl; rw [n0] at e; cases e)]
    exact f b u e z
theorem Tape.fr1 (T : Tape K H0 H t) (e : Fr [q] H H') (nq : q ≠ t) (n0 : H0 q = none) : Tape K H0 H' t := by
  obtain ⟨⟨a, zs, n, d, p, h1, h2, h4⟩, f, h5⟩ := T
  exact ⟨⟨a, zs, n, d, p, e _ _ h1 (by simpa using nq.symm), h2, h4⟩, Fr.drop1 n0 f e, h5⟩
theorem Tape.free1 (T : Tape K H0 H t) (f : Fr [t] H H') (h : H' q = none) (nq : q ≠ t) : H q = none := by
  cases e : H q with
  | none => rfl
  | some o =>
    have z := f q o e (by simpa using nq)
    rw [h] at z
    cases z
theorem Tape.tu (T : Tape K H0 H t) (f : Fr [t] H H') : Tu H H' := by
  obtain ⟨⟨a, zs, n, d, p, h1, _⟩, _⟩ := T
  exact f.tu1 h1
end
def sp_law_tape (K : PySem.W.Frag) : Sp := fun vs H Q _ => ∃ (a : Addr) (ns : List Int), vs = [.ref a] ∧ SqL K H a (ns.map V.int) ∧ ∀ t H', H t = none → Fr [] H H' → Tape K H H' t → Q (.ref t) H'
def sp_law_draw (K : PySem.W.Frag) : Sp := fun vs H Q _ => ∃ (t : Addr) (m : Int) (H0 : Hp), vs = [.ref t, .int m] ∧ Tape K H0 H t ∧ 0 < m ∧ m < 2 ^ 64 ∧ ∀ r H', 0 ≤ r → r < m → Fr [t] H H' → Tape K H0 H' t → Q (.int r) H'
section
variable {P : Program} {w : World} {K : PySem.W.Frag} {mg : Str → Option Value} {base : Heap}
theorem ok_law_tape (T : Env K mg) : Fx P w K mg base 1 "_law_tape" p_law_tape (sp_law_tape K) := by
  refine T.l_law_tape.ok sc_law_tape (fun vs H Q E h => ?_) (fun f cdv A outer s H vs Q E hr h => ?_)
  · obtain ⟨a, ns, rfl, _⟩ := h
    rfl
  · obtain ⟨a, ns, rfl, hS, k⟩ := h
    refine ⟨_, (pss_one (ps_ret (pe_lst (pa_cons (pv 0) (pa_cons pe_int (pa_cons pe_int (pa_cons pe_int pa_nil))))))), ?_⟩
    walk_at "go"
    refine ⟨by show 4 ≤ sizeLine; decide, fun t ht => ?_⟩
    exact k t _ ht (Fr.new ht) ⟨⟨a, ns, 0, 0, 0, upd_same, hS, Int.le_refl 0⟩, Fr.new ht, ht⟩
theorem ok_law_draw (T : Env K mg) : Fx P w K mg base 1 "_law_draw" p_law_draw (sp_law_draw K) := by
  refine T.l_law_draw.ok sc_law_draw (fun vs H Q E h => ?_) (fun f cdv A outer s H vs Q E hr h => ?_)
  · obtain ⟨t, m, _, rfl, _⟩ := h
    rfl
  · obtain ⟨t, m, H0, rfl, hT, m0, m64, k⟩ := h
    obtain ⟨⟨a, ns, n, d, p, ht, hS0, hp⟩, f0, n0⟩ := hT
    have hS : SqL K H a (ns.map V.int) := f0.seqL hS0 (by simp)
    have keep : ∀ H', Fr [t] H H' → Fr [] H0 H' := fun H' f b o e _ => f b o (f0 b o e (by simp)) (by
      intro z
      rw [List.mem_singleton.mp z, n0] at e
      cases e)
    refine ⟨_, (pss_cons (ps_set (i := 2) sc_law_draw.nd rfl (Or.inl rfl) (pe_ix (ix_U (K := K) rfl) (pv 0) pe_int (fun _ _ => rfl)))
      (pss_cons (ps_asg (pe_op (op_addU (K := K) rfl) (pe_ix (ix_U (K := K) rfl) (pv 0) pe_int (fun _ _ => rfl)) pe_int) (pg_sub (pv 0) pe_int set_list))
      (C8.pss_cut (ps_if (PW.pt (pw_and (pt_cmpR (op_eqU (K := K) rfl (u64 hr)) (pe_ix (ix_U (K := K) rfl) (pv 0) pe_int (fun _ _ => rfl)) pe_int (nomark _)) (pw_and1 (pt_cmpR op_lt (pe_ix (ix_U (K := K) rfl) (pv 0) pe_int (fun _ _ => rfl)) (pe_callB (call_lenU (K := K) rfl) (by rfl) T.m_len (by decide +kernel) (pa_cons (pv 2) pa_nil)) (nomark _))))) (pss_cons (ps_asg (pe_op op_fdivW (pe_callB call_absU (by rfl) T.m_abs (by decide +kernel) (pa_cons (pe_ix (ix_U (K := K) rfl) (pv 2) (pe_ix (ix_U (K := K) rfl) (pv 0) pe_int (fun _ _ => rfl)) (fun _ _ => rfl)) pa_nil)) (pe_op op_pow pe_int pe_int)) (pg_sub (pv 0) pe_int set_list))
      (pss_one (ps_asg (pe_op (op_addU (K := K) rfl) (pe_ix (ix_U (K := K) rfl) (pv 0) pe_int (fun _ _ => rfl)) pe_int) (pg_sub (pv 0) pe_int set_list)))) pss_nil)
      (pss_cons (ps_if (pt_cmpR op_gt (pe_ix (ix_U (K := K) rfl) (pv 0) pe_int (fun _ _ => rfl)) pe_int (nomark _)) (pss_cons (ps_set (i := 3) sc_law_draw.nd rfl (Or.inl rfl) (pe_op op_mod (pe_ix (ix_U (K := K) rfl) (pv 0) pe_int (fun _ _ => rfl)) (pv 1)))
      (pss_cons (ps_asg (pe_op op_fdivW (pe_ix (ix_U (K := K) rfl) (pv 0) pe_int (fun _ _ => rfl)) (pv 1)) (pg_sub (pv 0) pe_int set_list))
      (pss_one (ps_ret (pv 3))))) pss_nil)
      (pss_cons (ps_set (i := 4) sc_law_draw.nd rfl (Or.inl rfl) pe_int)
      (C8.pss_cut (ps_if (pt_cmpR op_gt (pe_callB (call_lenU (K := K) rfl) (by rfl) T.m_len (by decide +kernel) (pa_cons (pv 2) pa_nil)) pe_int (nomark _)) (pss_one (ps_set (i := 4) sc_law_draw.nd rfl (Or.inl rfl) (pe_ix (ix_U (K := K) rfl) (pv 2) (pe_op op_mod (pe_ix (ix_U (K := K) rfl) (pv 0) pe_int (fun _ _ => rfl)) (pe_callB (call_lenU (K := K) rfl) (by rfl) T.m_len (by decide +kernel) (pa_cons (pv 2) pa_nil))) (fun _ _ => rfl)))) pss_nil)
      (pss_cons (ps_set (i := 5) sc_law_draw.nd rfl (Or.inl rfl) (pe_op op_mod (pe_op (op_addU (K := K) rfl) (pe_op (op_addU (K := K) rfl) (pe_op op_mulU (pe_op op_mod (pv 4) pe_int) pe_int) (pe_op op_mulU (pe_ix (ix_U (K := K) rfl) (pv 0) pe_int (fun _ _ => rfl)) pe_int)) pe_int) pe_int))
      (pss_cons (ps_set (i := 5) sc_law_draw.nd rfl (Or.inl rfl) (pe_op op_mod (pe_op op_mulU (pv 5) (pe_op (op_addU (K := K) rfl) (pv 5) pe_int)) pe_int))
      (pss_one (ps_ret (pe_op op_mod (pe_op op_mod (pe_op op_mulU (pv 5) pe_int) pe_int) (pv 1)))))))))))), ?_⟩
    walk_at "go"
    refine w_ixL (SqL.of ht) rfl ?_
    walk_at "go"
    refine w_ixL (SqL.of ht) rfl ?_
    walk_at "go"
    refine w_setL ht rfl ?_
    generalize hH1 : upd H t _ = H1
    have f1 : Fr [t] H H1 := by rw [← hH1]; exact Fr.mut (by simp)
    have t1 : H1 t = some (.lst [.ref a, .int (n + 1), .int d, .int p]) := by rw [← hH1]; exact upd_same
    refine w_cut (fun σ' H' => σ' = [some (.ref t), some (.int m), some (.ref a), none, none, none] ∧ Fr [t] H H' ∧ ∃ d p, H' t = some (.lst [.ref a, .int (n + 1), .int d, .int p]) ∧ 0 ≤ p) ?_ ?_
    · walk_at "go"
      refine w_ixL (SqL.of t1) rfl ?_
      walk_at "go"
      have end0 : ∀ d p, 0 ≤ p → ∀ H', Fr [t] H H' → H' t = some (.lst [.ref a, .int (n + 1), .int d, .int p]) → ([some (.ref t), some (.int m), some (.ref a), none, none, none] : L2.St) = [some (.ref t), some (.int m), some (.ref a), none, none, none] ∧ Fr [t] H H' ∧ ∃ d p, H' t = some (.lst [.ref a, .int (n + 1), .int d, .int p]) ∧ 0 ≤ p :=
        fun d p hp H' f e => ⟨rfl, f, d, p, e, hp⟩
      refine ite_d (fun h0 => ?_) (fun h0 => ?_)
      · walk_at "go"
        refine w_ixL (SqL.of t1) rfl ?_
        walk_at "go"
        have hS1 : SqL K H1 a (ns.map V.int) := (keep _ f1).seqL hS0 (by simp)
        refine w_lenL hS1 ?_
        walk_at "go"
        refine ite_d (fun h1 => ?_) (fun h1 => ?_)
        · rw [List.length_map] at h1
          obtain ⟨z, hz, _⟩ := at_int hp h1
          walk_at "go"
          refine w_ixL (SqL.of t1) rfl ?_
          walk_at "go"
          refine w_ixL hS1 hz ?_
          walk_at "go"
          refine w_rI ⟨by decide, by decide +kernel⟩ ?_
          walk_at "go"
          refine w_setL t1 rfl ?_
          walk_at "go"
          refine w_ixL (SqL.of upd_same) rfl ?_
          walk_at "go"
          refine w_setL upd_same rfl ?_
          refine end0 _ (p + 1) (by omega) _ ?_ upd_same
          exact (f1.trans (Fr.mut (by simp))).trans (Fr.mut (by simp))
        · walk_at "go"
          exact end0 d p hp H1 f1 t1
      · walk_at "go"
        exact end0 d p hp H1 f1 t1
    · rintro σ' H2 ⟨rfl, f2, d, p, t2, hp⟩
      have hS2 : SqL K H2 a (ns.map V.int) := (keep _ f2).seqL hS0 (by simp)
      have fin : ∀ x, Q (.int (x % m)) H2 := fun x => k _ H2 (Int.emod_nonneg _ (by omega)) (Int.emod_lt_of_pos _ m0) f2 ⟨⟨a, ns, n + 1, d, p, t2, hS0, hp⟩, keep _ f2, n0⟩
      walk_at "go"
      refine w_ixL (SqL.of t2) rfl ?_
      walk_at "go"
      refine ite_d (fun h0 => ?_) (fun h0 => ?_)
      · walk_at "go"
        refine w_ixL (SqL.of t2) rfl ?_
        walk_at "go"
        refine w_rI m0 ?_
        walk_at "go"
        refine w_ixL (SqL.of t2) rfl ?_
        walk_at "go"
        refine w_rI (wide_div m0 (b := 64) (by omega) (by decide) (by decide)) ?_
        walk_at "go"
        refine w_setL t2 rfl ?_
        walk_at "go"
        have f3 : Fr [t] H (upd H2 t (.lst [.ref a, .int (n + 1), .int (d / m), .int p])) := f2.trans (Fr.mut (by simp))
        exact k _ _ (Int.emod_nonneg _ (by omega)) (Int.emod_lt_of_pos _ m0) f3 ⟨⟨a, ns, n + 1, d / m, p, upd_same, hS0, hp⟩, keep _ f3, n0⟩
      · walk_at "go"
        refine w_cut (fun σ' H' => H' = H2 ∧ ∃ z, σ' = [some (.ref t), some (.int m), some (.ref a), none, some (.int z), none]) ?_ ?_
        · walk_at "go"
          refine w_lenL hS2 ?_
          walk_at "go"
          refine ite_d (fun h1 => ?_) (fun h1 => ?_)
          · rw [List.length_map] at h1
            walk_at "go"
            refine w_ixL (SqL.of t2) rfl ?_
            walk_at "go"
            refine w_lenL hS2 ?_
            rw [List.length_map]
            refine w_rI h1 ?_
            obtain ⟨z, hz, _⟩ := at_int (ns := ns) (p := (n + 1) % (ns.length : Int)) (Int.emod_nonneg _ (by omega)) (Int.emod_lt_of_pos _ h1)
            refine w_ixL hS2 hz ?_
            walk_at "go"
            exact ⟨rfl, z, rfl⟩
          · walk_at "go"
            exact ⟨rfl, 0, rfl⟩
        · rintro σ' H' ⟨rfl, z, rfl⟩
          walk_at "go"
          refine w_rI (by show (0 : Int) < 2147483647; decide) ?_
          refine w_mulI (.inr (by decide)) ?_
          walk_at "go"
          refine w_ixL (SqL.of t2) rfl ?_
          walk_at "go"
          refine w_mulI (.inr (by decide)) ?_
          walk_at "go"
          refine w_rI (by show (0 : Int) < 2147483629; decide) ?_
          walk_at "go"
          have b1 : ∀ y : Int, 0 ≤ y % 2147483629 ∧ y % 2147483629 < 2147483629 := fun y => ⟨Int.emod_nonneg _ (by decide), Int.emod_lt_of_pos _ (by decide)⟩
          generalize he : (_ : Int) % 2147483629 = e
          have b2 : 0 ≤ e ∧ e < 2147483629 := by rw [← he]; exact b1 _
          refine w_mulI (.inl (by constructor <;> omega)) ?_
          walk_at "go"
          refine w_rI (by show (0 : Int) < 2147483587; decide) ?_
          walk_at "go"
          refine w_mulI (.inr (by decide)) ?_
          walk_at "go"
          refine w_rI (by show (0 : Int) < 2147483563; decide) ?_
          walk_at "go"
          refine w_rI m0 ?_
          exact fin _
end

/-! ### plain: cut, one change -/
def cutI (n : Int) : Int := if (if n < 1000000000 then n else 1000000000) > -1000000000 then (if n < 1000000000 then n else 1000000000) else -1000000000
def afterI (n : Int) (w : Str) (m : Int) : Int := if w = "set" then m else if w = "add" then cutI (n + m) else cutI (n * m)
theorem cutI_bd (n : Int) : -1000000000 ≤ cutI n ∧ cutI n ≤ 1000000000 := by
  unfold cutI
  repeat' split
  all_goals omega
theorem afterI_bd {n m : Int} {w : Str} (h : -1000000000 ≤ m ∧ m ≤ 1000000000) : -1000000000 ≤ afterI n w m ∧ afterI n w m ≤ 1000000000 := by
  unfold afterI
  split
  · exact h
  · split
    · exact cutI_bd _
    · exact cutI_bd _

/-! ### whole numbers, numbers, of any plain thing -/
def isWholeD : PyData → Bool
  | .int _ => true
  | _ => false
def isNumD : PyData → Bool
  | .int i => decide (-1000000000 ≤ i) && decide (i ≤ 1000000000)
  | _ => false
def isRankD : PyData → Bool
  | .int i => decide (1 ≤ i) && decide (i ≤ 3)
  | _ => false
section
variable {P : Program} {w : World} {K : PySem.W.Frag} {mg : Str → Option Value} {base : Heap}

def sp_is_whole (K : PySem.W.Frag) : Sp := fun vs H Q _ => ∃ v d, vs = [v] ∧ Dg K H v d ∧ Q (.bl (isWholeD d)) H
theorem ok_is_whole (T : Env K mg) : Fx P w K mg base 1 "is_whole" p_is_whole (sp_is_whole K) := by
  refine T.l_is_whole.ok sc_is_whole (fun vs H Q E h => ?_) (fun f cdv A outer s H vs Q E hr h => ?_)
  · obtain ⟨v, d, rfl, _⟩ := h
    rfl
  · obtain ⟨v, d, rfl, D, k⟩ := h
    refine ⟨_, (pss_one (ps_ret (pe_and (pe_callB (call_isiU (K := K) rfl) (by rfl) T.m_isinstance (by decide +kernel) (pa_cons (pv 0) (pa_cons (pe_bltn (v := .ty "int") (u := .type "int") rfl T.m_int (by decide +kernel) rfl) pa_nil))) (pe_one (pe_not (pe_callB (call_isiU (K := K) rfl) (by rfl) T.m_isinstance (by decide +kernel) (pa_cons (pv 0) (pa_cons (pe_bltn (v := .ty "bool") (u := .type "bool") rfl T.m_bool (by decide +kernel) rfl) pa_nil)))))))), ?_⟩
    walk_at "go"
    cases D with
    | non => walk_at "go"; exact k
    | bl b => walk_at "go"; exact k
    | int i => walk_at "go"; exact k
    | str x => walk_at "go"; exact k
    | tup s _ => refine isT_int s ?_; walk_at "go"; exact k
    | lst s _ => refine isL_int s ?_; walk_at "go"; exact k
    | dct s => refine isD_int s ?_; walk_at "go"; exact k


def sp_is_number (K : PySem.W.Frag) : Sp := fun vs H Q _ => ∃ v d, vs = [v] ∧ Dg K H v d ∧ Q (.bl (isNumD d)) H
theorem ok_is_number (T : Env K mg) : Fx P w K mg base 2 "is_number" p_is_number (sp_is_number K) := by
  refine T.l_is_number.ok sc_is_number (fun vs H Q E h => ?_) (fun f cdv A outer s H vs Q E hr h => ?_)
  · obtain ⟨v, d, rfl, _⟩ := h
    rfl
  · obtain ⟨v, d, rfl, D, k⟩ := h
    refine ⟨_, (pss_one (ps_ret (pe_and (pe_fx (ok_is_whole T) hr (by decide) (pa_cons (pv 0) pa_nil)) (pe_one (pe_chain op_le op_le (pe_op op_sub pe_int T.pe_GREATEST) (pv 0) T.pe_GREATEST))))), ?_⟩
    walk_at "go"
    refine ⟨v, d, rfl, D, ?_⟩
    cases D with
    | int i =>
      have k : Q (.bl (decide (-1000000000 ≤ i) && decide (i ≤ 1000000000))) H := k
      rw [show isWholeD (.int i) = true from rfl]
      walk_at "go"
      refine ite_d (fun h0 => ?_) (fun h0 => ?_)
      · rw [decide_eq_true (by omega : (-1000000000 : Int) ≤ i), Bool.true_and] at k
        walk_at "go"
        exact k
      · rw [decide_eq_false (by omega : ¬ (-1000000000 : Int) ≤ i), Bool.false_and] at k
        exact k
    | non => walk_at "go"; exact k
    | bl b => walk_at "go"; exact k
    | str x => walk_at "go"; exact k
    | tup s _ => walk_at "go"; exact k
    | lst s _ => walk_at "go"; exact k
    | dct s => walk_at "go"; exact k




end

/-! ### names -/
def letters : Str := "abcdefghijklmnopqrstuvwxyz"
def isNameD : PyData → Bool
  | .str x => decide (1 ≤ x.length) && decide (x.length ≤ 8) && x.cps.toList.all (fun c => decide (c ∈ letters.cps.toList))
  | _ => false
section
variable {P : Program} {w : World} {K : PySem.W.Frag} {mg : Str → Option Value} {base : Heap}
def sp_is_name (K : PySem.W.Frag) : Sp := fun vs H Q _ => ∃ v d, vs = [v] ∧ Dg K H v d ∧ (∀ x, d = .str x → TxOk 1000 x) ∧ ∀ H', Fr [] H H' → Q (.bl (isNameD d)) H'
theorem ok_is_name (T : Env K mg) : Fx P w K mg base 1 "is_name" p_is_name (sp_is_name K) := by
  refine T.l_is_name.ok sc_is_name (fun vs H Q E h => ?_) (fun f cdv A outer s H vs Q E hr h => ?_)
  · obtain ⟨v, d, rfl, _⟩ := h
    rfl
  · obtain ⟨v, d, rfl, D, lx, k⟩ := h
    refine ⟨_, (pss_cons (ps_if (PW.pt (pw_or (pt_not (pt_val (pe_callB (call_isiU (K := K) rfl) (by rfl) T.m_isinstance (by decide +kernel) (pa_cons (pv 0) (pa_cons (pe_bltn (v := .ty "str") (u := .type "str") rfl T.m_str (by decide +kernel) rfl) pa_nil))))) (pw_or (pt_cmpR op_lt (pe_callB (call_lenU (K := K) rfl) (by rfl) T.m_len (by decide +kernel) (pa_cons (pv 0) pa_nil)) pe_int (nomark _)) (pw_or1 (pt_cmpR op_gt (pe_callB (call_lenU (K := K) rfl) (by rfl) T.m_len (by decide +kernel) (pa_cons (pv 0) pa_nil)) pe_int (nomark _)))))) (pss_one (ps_ret pe_bl)) pss_nil)
      (pss_one (ps_ret (pe_callB (call_allU (K := K) rfl rfl) (by rfl) T.m_all (by decide +kernel) (pa_cons (pe_lc (own := [("sign", 1)]) (g := (gName 1)) (tt := tYes) rfl sc_is_name.nd (pi_str (pv 0)) (blkOk_by (N := N_is_name) (sc := defScope s_is_name) (by decide +kernel)) (fun _ _ _ _ _ => (pg_name (i := 1) sc_is_name.nd rfl (Or.inl rfl))) (fun _ _ _ _ _ => pts_nil) (fun _ _ _ _ _ => (pe_cmpR (op_inU (K := K) rfl (u65 hr)) (pv 1) T.pe_LETTERS (by rfl)))) pa_nil))))), ?_⟩
    walk_at "go"
    cases D with
    | str x =>
      have k : ∀ H', Fr [] H H' → Q (.bl (decide (1 ≤ x.length) && decide (x.length ≤ 8) && x.cps.toList.all (fun c => decide (c ∈ letters.cps.toList)))) H' := k
      have lx : x.length ≤ 1000 := (lx x rfl).1
      have lz : x.length ≤ sizeLine := Nat.le_trans lx (by decide)
      walk_at "go"
      refine w_lenS lz ?_
      walk_at "go"
      refine ite_d (fun h0 => ?_) (fun h0 => ?_)
      · rw [decide_eq_false (by omega : ¬ 1 ≤ x.length)] at k
        walk_at "go"
        exact k H Fr.refl
      · walk_at "go"
        refine w_lenS lz ?_
        walk_at "go"
        refine ite_d (fun h1 => ?_) (fun h1 => ?_)
        · rw [decide_eq_false (by omega : ¬ x.length ≤ 8), Bool.and_false] at k
          walk_at "go"
          exact k H Fr.refl
        · rw [decide_eq_true (by omega : 1 ≤ x.length), decide_eq_true (by omega : x.length ≤ 8)] at k
          walk_at "go"
          refine LCS (K := K) (x := x) (fun _ => true) (fun c => .bool (decide (c ∈ letters.cps.toList))) (by omega) ?_ ?_ ?_ fun D H1 nD f1 L1 => ?_
          · intro v; rfl
          · intro c H' f' QB q
            walk_at "go"
            exact q
          · intro c H' f' _ Q q
            walk_at "go"
            exact q _ (.bl _)
          · rw [List.filter_eq_self.mpr (by simp)] at L1
            rw [show (List.map (fun c => PyData.bool (decide (c ∈ letters.cps.toList))) x.cps.toList) = (x.cps.toList.map fun c => decide (c ∈ letters.cps.toList)).map PyData.bool by rw [List.map_map]; rfl] at L1
            walk_at "go"
            refine L1.allB ?_
            have z := k H1 f1
            rw [List.all_map]
            exact z
    | non => walk_at "go"; exact k H Fr.refl
    | bl b => walk_at "go"; exact k H Fr.refl
    | int i => walk_at "go"; exact k H Fr.refl
    | tup s _ => refine isT_str s ?_; walk_at "go"; exact k H Fr.refl
    | lst s _ => refine isL_str s ?_; walk_at "go"; exact k H Fr.refl
    | dct s => refine isD_str s ?_; walk_at "go"; exact k H Fr.refl
end

section
variable {P : Program} {w : World} {K : PySem.W.Frag} {mg : Str → Option Value} {base : Heap}
def sp_cut : Sp := fun vs H Q _ => ∃ n, vs = [.int n] ∧ Q (.int (cutI n)) H
theorem ok_cut (T : Env K mg) : Fx P w K mg base 1 "cut" p_cut sp_cut := by
  refine T.l_cut.ok sc_cut (fun vs H Q E h => ?_) (fun f cdv A outer s H vs Q E hr h => ?_)
  · obtain ⟨n, rfl, _⟩ := h
    rfl
  · obtain ⟨n, rfl, k⟩ := h
    refine ⟨_, (pss_one (ps_ret (pe_callB (call_maxU rfl) (by rfl) T.m_max (by decide +kernel) (pa_cons (pe_op op_sub pe_int T.pe_GREATEST) (pa_cons (pe_callB (call_minU rfl) (by rfl) T.m_min (by decide +kernel) (pa_cons T.pe_GREATEST (pa_cons (pv 0) pa_nil))) pa_nil))))), ?_⟩
    walk_at "go"
    exact k
def sp_law_right (K : PySem.W.Frag) : Sp := fun vs H Q _ => ∃ v d, vs = [v] ∧ Dg K H v d ∧ (∀ x, d = .str x → TxOk 1000 x) ∧ ∀ H', Fr [] H H' → Q (.bl true) H'
theorem ok_law_right (T : Env K mg) : Fx P w K mg base 3 "_law_right" p_law_right (sp_law_right K) := by
  refine T.l_law_right.ok sc_law_right (fun vs H Q E h => ?_) (fun f cdv A outer s H vs Q E hr h => ?_)
  · obtain ⟨v, d, rfl, _⟩ := h
    rfl
  · obtain ⟨v, d, rfl, D, lx, k⟩ := h
    refine ⟨_, (C8.pss_cut (ps_set (i := 1) sc_law_right.nd rfl (Or.inl rfl) (pe_and (pe_callB (call_isiU (K := K) rfl) (by rfl) T.m_isinstance (by decide +kernel) (pa_cons (pv 0) (pa_cons (pe_bltn (v := .ty "int") (u := .type "int") rfl T.m_int (by decide +kernel) rfl) pa_nil))) (pe_one (pe_not (pe_callB (call_isiU (K := K) rfl) (by rfl) T.m_isinstance (by decide +kernel) (pa_cons (pv 0) (pa_cons (pe_bltn (v := .ty "bool") (u := .type "bool") rfl T.m_bool (by decide +kernel) rfl) pa_nil)))))))
      (C8.pss_cut (ps_set (i := 2) sc_law_right.nd rfl (Or.inl rfl) (pe_and (pv 1) (pe_one (pe_chain op_le op_le (pe_un un_neg (pe_op op_pow pe_int pe_int)) (pv 0) (pe_op op_pow pe_int pe_int)))))
      (C8.pss_cut (ps_set (i := 3) sc_law_right.nd rfl (Or.inl rfl) (pe_and (pe_callB (call_isiU (K := K) rfl) (by rfl) T.m_isinstance (by decide +kernel) (pa_cons (pv 0) (pa_cons (pe_bltn (v := .ty "str") (u := .type "str") rfl T.m_str (by decide +kernel) rfl) pa_nil))) (pe_one (pe_chain op_le op_le pe_int (pe_callB (call_lenU (K := K) rfl) (by rfl) T.m_len (by decide +kernel) (pa_cons (pv 0) pa_nil)) pe_int))))
      (C8.pss_cut (ps_if (pt_val (pv 3)) (pss_one (ps_set (i := 3) sc_law_right.nd rfl (Or.inl rfl) (pe_cmpR (op_eqU (K := K) rfl (u64 hr)) (pe_lc (own := [("_law_sign", 6)]) (g := (gName 6)) rfl sc_law_right.nd (pi_str (pv 0)) (blkOk_by (N := N_law_right) (sc := defScope s_law_right) (by decide +kernel)) (fun _ _ _ _ _ => (pg_name (i := 6) sc_law_right.nd rfl (Or.inl rfl))) (fun _ _ _ _ _ => (pts_one (pt_cmpR (op_ninU (K := K) rfl (u65 hr)) (pv 6) pe_str (by rfl)))) (fun _ _ _ _ _ => (pv 6))) (pe_lst pa_nil) (nomark _)))) pss_nil)
      (pss_cons (ps_for PassesOwn.never rfl (pi_listU (K := K) rfl (pe_lst (pa_cons (pe_tup (pa_cons (pe_fx (ok_is_number T) hr (by decide) (pa_cons (pv 0) pa_nil)) (pa_cons (pv 2) pa_nil))) (pa_cons (pe_tup (pa_cons (pe_fx (ok_is_name T) hr (by decide) (pa_cons (pv 0) pa_nil)) (pa_cons (pv 3) pa_nil))) pa_nil)))) (pg_tupU (K := K) (n := 2) rfl rfl (pgs_cons (pg_name (i := 4) sc_law_right.nd rfl (Or.inl rfl)) (pgs_cons (pg_name (i := 5) sc_law_right.nd rfl (Or.inl rfl)) pgs_nil))) (pss_one (ps_if (PW.pt (pw_or (pt_not (pt_val (pe_callB (call_isiU (K := K) rfl) (by rfl) T.m_isinstance (by decide +kernel) (pa_cons (pv 4) (pa_cons (pe_bltn (v := .ty "bool") (u := .type "bool") rfl T.m_bool (by decide +kernel) rfl) pa_nil))))) (pw_or1 (pt_cmpR (op_neU (K := K) rfl (u64 hr)) (pv 4) (pv 5) (nomark _))))) (pss_one (ps_ret pe_bl)) pss_nil)))
      (pss_cons (ps_if (pt_not (pt_val (pv 1))) (pss_one (ps_ret pe_bl)) pss_nil)
      (pss_cons (ps_set (i := 4) sc_law_right.nd rfl (Or.inl rfl) (pe_fx (ok_cut T) hr (by decide) (pa_cons (pv 0) pa_nil)))
      (pss_cons (ps_set (i := 5) sc_law_right.nd rfl (Or.inl rfl) (pv 0))
      (C8.pss_cut (ps_if (pt_not (pt_val (pv 2))) (pss_one (ps_set (i := 5) sc_law_right.nd rfl (Or.inl rfl) (pe_op op_mulU (pe_op op_pow pe_int pe_int) (pe_op op_sub pe_int (pe_op op_mulU pe_int (pe_callTy call_intU (by rfl) T.m_int (by decide +kernel) (pa_cons (pe_cmpR op_lt (pv 0) pe_int (nomark _)) pa_nil))))))) pss_nil)
      (pss_one (ps_ret (pe_and (pe_callB (call_isiU (K := K) rfl) (by rfl) T.m_isinstance (by decide +kernel) (pa_cons (pv 4) (pa_cons (pe_bltn (v := .ty "int") (u := .type "int") rfl T.m_int (by decide +kernel) rfl) pa_nil))) (pe_and (pe_not (pe_callB (call_isiU (K := K) rfl) (by rfl) T.m_isinstance (by decide +kernel) (pa_cons (pv 4) (pa_cons (pe_bltn (v := .ty "bool") (u := .type "bool") rfl T.m_bool (by decide +kernel) rfl) pa_nil)))) (pe_one (pe_cmpR (op_eqU (K := K) rfl (u64 hr)) (pv 4) (pv 5) (nomark _)))))))))))))))), ?_⟩
    walk_at "go"
    refine w_cut (fun σ' H' => H = H' ∧ σ' = [some v, some (.bl (isWholeD d)), none, none, none, none, none]) ?_ ?_
    · walk_at "go"
      cases D with
      | non => walk_at "go"; exact ⟨rfl, rfl⟩
      | bl b => walk_at "go"; exact ⟨rfl, rfl⟩
      | int i => walk_at "go"; exact ⟨rfl, rfl⟩
      | str x => walk_at "go"; exact ⟨rfl, rfl⟩
      | tup s _ => refine isT_int s ?_; walk_at "go"; exact ⟨rfl, rfl⟩
      | lst s _ => refine isL_int s ?_; walk_at "go"; exact ⟨rfl, rfl⟩
      | dct s => refine isD_int s ?_; walk_at "go"; exact ⟨rfl, rfl⟩
    rintro σ' H' ⟨rfl, rfl⟩
    walk_at "go"
    refine w_cut (fun σ' H' => H = H' ∧ σ' = [some v, some (.bl (isWholeD d)), some (.bl (isNumD d)), none, none, none, none]) ?_ ?_
    · walk_at "go"
      cases D with
      | int i =>
        rw [show isWholeD (.int i) = true from rfl, show isNumD (.int i) = (decide (-1000000000 ≤ i) && decide (i ≤ 1000000000)) from rfl]
        walk_at "go"
        refine ite_d (fun h0 => ?_) (fun h0 => ?_)
        · rw [decide_eq_true h0, Bool.true_and]
          walk_at "go"
          exact ⟨rfl, rfl⟩
        · rw [decide_eq_false h0, Bool.false_and]
          exact ⟨rfl, rfl⟩
      | non => walk_at "go"; exact ⟨rfl, rfl⟩
      | bl b => walk_at "go"; exact ⟨rfl, rfl⟩
      | str x => walk_at "go"; exact ⟨rfl, rfl⟩
      | tup s _ => walk_at "go"; exact ⟨rfl, rfl⟩
      | lst s _ => walk_at "go"; exact ⟨rfl, rfl⟩
      | dct s => walk_at "go"; exact ⟨rfl, rfl⟩
    rintro σ' H' ⟨rfl, rfl⟩
    walk_at "go"
    refine w_cut (fun σ' H' => H = H' ∧ ∃ b, σ' = [some v, some (.bl (isWholeD d)), some (.bl (isNumD d)), some (.bl b), none, none, none] ∧ ((b = false ∧ isNameD d = false) ∨ ∃ x, d = .str x ∧ b = true ∧ isNameD d = x.cps.toList.all (fun c => decide (c ∈ letters.cps.toList)))) ?_ ?_
    · walk_at "go"
      cases D with
      | str x =>
        have lz : x.length ≤ sizeLine := Nat.le_trans (lx x rfl).1 (by decide)
        have en : isNameD (.str x) = (decide (1 ≤ x.length) && decide (x.length ≤ 8) && x.cps.toList.all (fun c => decide (c ∈ letters.cps.toList))) := rfl
        walk_at "go"
        refine w_lenS lz ?_
        walk_at "go"
        refine ite_d (fun h0 => ?_) (fun h0 => ?_)
        · walk_at "go"
          rcases Decidable.em ((x.length : Int) ≤ 8) with h1 | h1
          · refine ⟨rfl, true, by rw [decide_eq_true h1]; rfl, .inr ⟨x, rfl, rfl, ?_⟩⟩
            rw [en, decide_eq_true (by omega : 1 ≤ x.length), decide_eq_true (by omega : x.length ≤ 8)]
            rfl
          · refine ⟨rfl, false, by rw [decide_eq_false h1]; rfl, .inl ⟨rfl, ?_⟩⟩
            rw [en, decide_eq_false (by omega : ¬ x.length ≤ 8), Bool.and_false, Bool.false_and]
        · refine ⟨rfl, false, rfl, .inl ⟨rfl, ?_⟩⟩
          rw [en, decide_eq_false (by omega : ¬ 1 ≤ x.length)]
          rfl
      | non => walk_at "go"; exact ⟨rfl, false, rfl, .inl ⟨rfl, rfl⟩⟩
      | bl b => walk_at "go"; exact ⟨rfl, false, rfl, .inl ⟨rfl, rfl⟩⟩
      | int i => walk_at "go"; exact ⟨rfl, false, rfl, .inl ⟨rfl, rfl⟩⟩
      | tup s _ => refine isT_str s ?_; walk_at "go"; exact ⟨rfl, false, rfl, .inl ⟨rfl, rfl⟩⟩
      | lst s _ => refine isL_str s ?_; walk_at "go"; exact ⟨rfl, false, rfl, .inl ⟨rfl, rfl⟩⟩
      | dct s => refine isD_str s ?_; walk_at "go"; exact ⟨rfl, false, rfl, .inl ⟨rfl, rfl⟩⟩
    rintro σ' H' ⟨rfl, b, rfl, hb⟩
    walk_at "go"
    refine w_cut (fun σ' H' => Fr [] H H' ∧ ∃ v6, σ' = [some v, some (.bl (isWholeD d)), some (.bl (isNumD d)), some (.bl (isNameD d)), none, none, v6]) ?_ ?_
    · walk_at "go"
      rcases hb with ⟨rfl, e⟩ | ⟨x, rfl, rfl, e⟩
      · walk_at "go"
        exact ⟨Fr.refl, none, by rw [e]⟩
      · have ex : v = .str x := by cases D; rfl
        subst ex
        have ox : PyData.strOk x = true := (lx x rfl).2
        have lx : x.length ≤ 1000 := (lx x rfl).1
        walk_at "go"
        refine LCS (K := K) (x := x) (fun c => !decide (c ∈ letters.cps.toList)) (fun c => .str ⟨#[c]⟩) (by omega) ?_ ?_ ?_ fun D H1 nD f1 L1 => ?_
        · intro v; rfl
        · intro c H' f' QB q
          walk_at "go"
          exact q
        · intro c H' f' _ Q q
          walk_at "go"
          exact q _ (.str _)
        · walk_at "go"
          refine ⟨by exact Nat.zero_le _, fun e2 n2 => ?_⟩
          have g2 : Fr [] H1 (upd H1 e2 (.lst [])) := Fr.new n2
          refine w_eqNil (L1.fr0 g2).dp upd_same (shaped_list (n := 0) (by decide) ?_) ?_
          · intro d hd
            obtain ⟨c, hc, rfl⟩ := List.mem_map.mp hd
            refine ⟨?_, Nat.le_refl _⟩
            show PyData.strOk ⟨#[c]⟩ = true
            exact (TxOk.sign (n := 1000) ⟨lx, ox⟩ (List.mem_filter.mp hc).1).2
          · rw [show (List.map (fun c => PyData.str { cps := #[c] }) (List.filter (fun c => !decide (c ∈ letters.cps.toList)) x.cps.toList)).isEmpty = isNameD (.str x) by
              rw [e, Bool.eq_iff_iff, List.isEmpty_iff, List.map_eq_nil_iff, List.filter_eq_nil_iff, List.all_eq_true]
              constructor
              · intro h c hc
                have := h c hc
                revert this
                cases decide (c ∈ letters.cps.toList) <;> simp
              · intro h c hc
                rw [h c hc]
                simp]
            walk_at "go"
            exact ⟨f1.trans g2, none, rfl⟩
    rintro σ' H1 ⟨f1, v6, rfl⟩
    have D1 := D.fr f1
    walk_at "go"
    refine ⟨v, d, rfl, D1, ?_⟩
    walk_at "go"
    refine mkT (K := K) (.cons (.bl _) (.cons (.bl _) .nil)) fun p2 H2 n2 f2 d2 => ?_
    walk_at "go"
    refine ⟨v, d, rfl, D1.fr f2, lx, fun H3 f3 => ?_⟩
    walk_at "go"
    refine mkT (K := K) (.cons (.bl _) (.cons (.bl _) .nil)) fun p4 H4 n4 f4 d4 => ?_
    walk_at "go"
    refine mkL (K := K) (.cons (d2.mono (f3.trans f4).tu) (.cons d4 .nil)) fun l5 H5 n5 f5 L5 => ?_
    walk_at "go"
    have f15 := ((f2.trans f3).trans f4).trans f5
    refine L5.walk (fun i σ H' => H' = H5 ∧ ∃ v4 v5 v6, σ = [some v, some (.bl (isWholeD d)), some (.bl (isNumD d)), some (.bl (isNameD d)), v4, v5, v6]) ⟨rfl, _, _, _, rfl⟩ (fun i σ H' h => by rw [h.1]; exact L5) ?_ ?_
    · rintro i u e σ H' he du ⟨rfl, v4, v5, v6, rfl⟩
      have eb : ∃ b : Bool, e = .tuple [.bool b, .bool b] := by
        rcases i with _ | _ | i
        · exact ⟨_, (Option.some.inj he).symm⟩
        · exact ⟨_, (Option.some.inj he).symm⟩
        · simp at he
      obtain ⟨b, rfl⟩ := eb
      obtain ⟨p, vs, rfl, hp, av⟩ := du.tuple
      cases av with
      | cons a1 av =>
      cases av with
      | cons a2 av =>
      cases av
      cases a1.of_bl
      cases a2.of_bl
      refine w_gtup hp rfl ?_
      walk_at "go"
      rw [show (!decide (b = b)) = false by simp]
      walk_at "go"
      exact ⟨rfl, _, _, _, rfl⟩
    · rintro σ H' ⟨rfl, v4, v5, v6, rfl⟩
      walk_at "go"
      cases hw : isWholeD d with
      | false =>
        walk_at "go"
        exact k _ (f1.trans f15)
      | true =>
        have ei : ∃ i, d = .int i := by
          cases d with
          | int i => exact ⟨i, rfl⟩
          | _ => cases hw
        obtain ⟨i, rfl⟩ := ei
        cases D
        walk_at "go"
        refine ⟨i, rfl, ?_⟩
        walk_at "go"
        refine w_cut (fun σ' H1 => H' = H1 ∧ σ' = [some (.int i), some (.bl true), some (.bl (isNumD (PyData.int i))), some (.bl (isNameD (PyData.int i))), some (.int (cutI i)), some (.int (cutI i)), v6]) ?_ ?_
        · walk_at "go"
          have en : isNumD (.int i) = (decide (-1000000000 ≤ i) && decide (i ≤ 1000000000)) := rfl
          cases hn : isNumD (.int i) with
          | true =>
            rw [hn] at en
            have z := en.symm
            simp only [Bool.and_eq_true, decide_eq_true_eq] at z
            walk_at "go"
            refine ⟨rfl, ?_⟩
            rw [show cutI i = i by unfold cutI; split <;> split <;> omega]
            rfl
          | false =>
            rw [hn] at en
            have z := en.symm
            simp only [Bool.and_eq_false_iff, decide_eq_false_iff_not] at z
            walk_at "go"
            refine w_mulI (.inl (by decide)) ?_
            walk_at "go"
            refine w_mulI (.inl (by decide)) ?_
            walk_at "go"
            refine ⟨rfl, ?_⟩
            rw [show (1000000000 * (1 - 2 * if decide (i < 0) = true then 1 else 0) : Int) = cutI i by
              unfold cutI
              rcases Decidable.em (i < 0) with h | h
              · rw [decide_eq_true h, if_pos rfl]
                split <;> split <;> omega
              · rw [decide_eq_false h, if_neg Bool.false_ne_true]
                split <;> split <;> omega]
            rfl
        · rintro σ' H1 ⟨rfl, rfl⟩
          walk_at "go"
          rw [show decide (cutI i = cutI i) = true by simp]
          exact k _ (f1.trans f15)
def sp_law_far (K : PySem.W.Frag) : Sp := fun vs H Q _ => ∃ (t : Addr) (H0 : Hp), vs = [.ref t] ∧ Tape K H0 H t ∧ ∀ n H', Fr [t] H H' → Tape K H0 H' t → Q (.int n) H'
theorem ok_law_far (T : Env K mg) : Fx P w K mg base 2 "_law_far" p_law_far (sp_law_far K) := by
  refine T.l_law_far.ok sc_law_far (fun vs H Q E h => ?_) (fun f cdv A outer s H vs Q E hr h => ?_)
  · obtain ⟨t, _, rfl, _⟩ := h
    rfl
  · obtain ⟨t, H0, rfl, T0, k⟩ := h
    refine ⟨_, (pss_cons (ps_set (i := 1) sc_law_far.nd rfl (Or.inl rfl) (pe_ix (ix_U (K := K) rfl) (pe_lst (pa_cons pe_int (pa_cons pe_int (pa_cons pe_int (pa_cons (pe_op op_pow pe_int pe_int) (pa_cons (pe_op (op_addU (K := K) rfl) (pe_op op_pow pe_int pe_int) pe_int) (pa_cons (pe_op op_sub (pe_op op_pow pe_int pe_int) pe_int) (pa_cons (pe_op op_pow pe_int pe_int) (pa_cons (pe_fx (ok_law_draw T) hr (by decide) (pa_cons (pv 0) (pa_cons (pe_op op_mulU pe_int (pe_op op_pow pe_int pe_int)) pa_nil))) pa_nil))))))))) (pe_fx (ok_law_draw T) hr (by decide) (pa_cons (pv 0) (pa_cons pe_int pa_nil))) (fun _ _ => rfl)))
      (pss_one (ps_ret (pe_ix (ix_U (K := K) rfl) (pe_lst (pa_cons (pv 1) (pa_cons (pe_un un_neg (pv 1)) pa_nil))) (pe_fx (ok_law_draw T) hr (by decide) (pa_cons (pv 0) (pa_cons pe_int pa_nil))) (fun _ _ => rfl))))), ?_⟩
    walk_at "go"
    refine w_mulI (.inl (by decide)) ?_
    walk_at "go"
    refine ⟨t, 2000000000, H0, rfl, T0, by decide, by decide, fun r1 H1 a1 b1 f1 T1 => ?_⟩
    walk_at "go"
    refine mkI (ns := [0, 1, 9, 1000000000, 1000000001, 999999999, 100000000000000000000000000000000000000000000000000000000000, r1]) rfl fun l2 H2 n2 f2 e2 => ?_
    walk_at "go"
    refine ⟨t, 8, H0, rfl, T1.fr f2, by decide, by decide, fun r3 H3 a3 b3 f3 T3 => ?_⟩
    have nl : l2 ≠ t := T1.ne n2
    have e3 := f3 _ _ e2 (by simpa using nl)
    obtain ⟨z, hz, _⟩ := at_int (ns := [0, 1, 9, 1000000000, 1000000001, 999999999, 100000000000000000000000000000000000000000000000000000000000, r1]) a3 b3
    walk_at "go"
    refine w_ixL (SqL.of e3) hz ?_
    walk_at "go"
    refine mkI (ns := [z, -z]) rfl fun l4 H4 n4 f4 e4 => ?_
    have T4 := T3.fr f4
    walk_at "go"
    refine ⟨t, 2, H0, rfl, T4, by decide, by decide, fun r5 H5 a5 b5 f5 T5 => ?_⟩
    have e5 := f5 _ _ e4 (by simpa using T3.ne n4)
    obtain ⟨y, hy, _⟩ := at_int (ns := [z, -z]) a5 b5
    walk_at "go"
    refine w_ixL (SqL.of e5) hy ?_
    exact k y H5 ((((f1.trans (f2.mono (by simp))).trans f3).trans (f4.mono (by simp))).trans f5) T5
def sp_law_text (K : PySem.W.Frag) : Sp := fun vs H Q _ => ∃ (t : Addr) (H0 : Hp), vs = [.ref t] ∧ Tape K H0 H t ∧ ∀ x H', TxOk 1000 x → Fr [t] H H' → Tape K H0 H' t → Q (.str x) H'
theorem ok_law_text (T : Env K mg) : Fx P w K mg base 2 "_law_text" p_law_text (sp_law_text K) := by
  refine T.l_law_text.ok sc_law_text (fun vs H Q E h => ?_) (fun f cdv A outer s H vs Q E hr h => ?_)
  · obtain ⟨t, _, rfl, _⟩ := h
    rfl
  · obtain ⟨t, H0, rfl, T0, k⟩ := h
    refine ⟨_, (pss_cons (ps_set (i := 1) sc_law_text.nd rfl (Or.inl rfl) pe_str)
      (pss_cons (ps_for PassesOwn.never rfl (pi_range1 rfl T.m_range (pa_cons (pe_fx (ok_law_draw T) hr (by decide) (pa_cons (pv 0) (pa_cons pe_int pa_nil))) pa_nil)) (pg_name (i := 2) sc_law_text.nd rfl (Or.inl rfl)) (pss_one (ps_set (i := 1) sc_law_text.nd rfl (Or.inl rfl) (pe_op (op_addU (K := K) rfl) (pv 1) (pe_ix (ix_U (K := K) rfl) pe_str (pe_fx (ok_law_draw T) hr (by decide) (pa_cons (pv 0) (pa_cons pe_int pa_nil))) (fun _ _ => rfl))))))
      (pss_cons (ps_set (i := 3) sc_law_text.nd rfl (Or.inl rfl) (pe_fx (ok_law_draw T) hr (by decide) (pa_cons (pv 0) (pa_cons (pe_op (op_addU (K := K) rfl) (pe_callB (call_lenU (K := K) rfl) (by rfl) T.m_len (by decide +kernel) (pa_cons (pv 1) pa_nil)) pe_int) pa_nil))))
      (C8.pss_cut (ps_if (pt_cmpR (op_eqU (K := K) rfl (u64 hr)) (pe_fx (ok_law_draw T) hr (by decide) (pa_cons (pv 0) (pa_cons pe_int pa_nil))) pe_int (nomark _)) (pss_one (ps_set (i := 1) sc_law_text.nd rfl (Or.inl rfl) (pe_op (op_addU (K := K) rfl) (pe_op (op_addU (K := K) rfl) (pe_slice (sl_U (K := K) rfl) (pv 1) po_none (po_some (pv 3))) (pe_ix (ix_U (K := K) rfl) pe_str (pe_fx (ok_law_draw T) hr (by decide) (pa_cons (pv 0) (pa_cons pe_int pa_nil))) (fun _ _ => rfl))) (pe_slice (sl_U (K := K) rfl) (pv 1) (po_some (pe_op (op_addU (K := K) rfl) (pv 3) pe_int)) po_none)))) pss_nil)
      (pss_one (ps_ret (pv 1))))))), ?_⟩
    walk_at "go"
    refine ⟨t, 11, H0, rfl, T0, by decide, by decide, fun r1 H1 a1 b1 f1 T1 => ?_⟩
    walk_at "go"
    refine F_R1 r1.toNat rfl (by omega) (by omega) (fun i σ H' => Fr [t] H H' ∧ Tape K H0 H' t ∧ ∃ (x : Str) (v2 v3 : Option V), σ = [some (.ref t), some (.str x), v2, v3] ∧ TxOk i x) ⟨f1, T1, "", _, _, rfl, Nat.le_refl _, by decide +kernel⟩ ?_ ?_
    · rintro i σ H2 hi ⟨f2, T2, x, v2, v3, rfl, ox⟩
      walk_at "go"
      refine ⟨t, 26, H0, rfl, T2, by decide, by decide, fun r3 H3 a3 b3 f3 T3 => ?_⟩
      obtain ⟨c, hc, mc⟩ := at_sign (z := "abcdefghijklmnopqrstuvwxyz") a3 b3
      walk_at "go"
      refine w_ixS (by decide +kernel) hc ?_
      walk_at "go"
      have oc : TxOk 1 ⟨#[c]⟩ := TxOk.sign (n := 1000) (a := "abcdefghijklmnopqrstuvwxyz") ⟨by decide +kernel, by decide +kernel⟩ mc
      have ox2 := ox.cat oc
      refine w_addS (Nat.le_trans (Nat.add_le_add ox.1 oc.1) (show i + 1 ≤ sizeLine from Nat.le_trans (by omega : i + 1 ≤ 1000) (by decide))) ?_
      exact ⟨f2.trans f3, T3, _, _, _, rfl, ox2⟩
    · rintro σ H2 ⟨f2, T2, x, v2, v3, rfl, ox⟩
      have ox : TxOk 10 x := ox.mono (by omega)
      have lx := ox.1
      have lz : x.length ≤ sizeLine := Nat.le_trans lx (by decide)
      walk_at "go"
      refine w_lenS lz ?_
      walk_at "go"
      refine ⟨t, x.length + 1, H0, rfl, T2, by omega, by omega, fun r3 H3 a3 b3 f3 T3 => ?_⟩
      walk_at "go"
      refine w_cut (fun σ' H' => Fr [t] H H' ∧ Tape K H0 H' t ∧ ∃ (x : Str) (v2 v3 : Option V), σ' = [some (.ref t), some (.str x), v2, v3] ∧ TxOk 1000 x) ?_ ?_
      · walk_at "go"
        refine ⟨t, 2, H0, rfl, T3, by decide, by decide, fun r4 H4 a4 b4 f4 T4 => ?_⟩
        walk_at "go"
        refine ite_d (fun h0 => ?_) (fun h0 => ?_)
        · walk_at "go"
          refine w_slS lz ?_
          walk_at "go"
          refine ⟨t, 8, H0, rfl, T4, by decide, by decide, fun r5 H5 a5 b5 f5 T5 => ?_⟩
          obtain ⟨c, hc, mc⟩ := at_sign (z := " A0_-.~{") a5 b5
          walk_at "go"
          refine w_ixS (by decide +kernel) hc ?_
          walk_at "go"
          have oc : TxOk 1 ⟨#[c]⟩ := TxOk.sign (n := 1000) (a := " A0_-.~{") ⟨by decide +kernel, by decide +kernel⟩ mc
          have o1 := (ox.cut (lo := none) (hi := some r3)).cat oc
          refine w_addS (Nat.le_trans (Nat.add_le_add (ox.cut (lo := none) (hi := some r3)).1 oc.1) (by decide)) ?_
          walk_at "go"
          refine w_slS lz ?_
          walk_at "go"
          have o2 := ox.cut (lo := some (r3 + 1)) (hi := none)
          refine w_addS (Nat.le_trans (Nat.add_le_add o1.1 o2.1) (by decide)) ?_
          exact ⟨((f2.trans f3).trans f4).trans f5, T5, _, _, _, rfl, (o1.cat o2).mono (by decide)⟩
        · exact ⟨(f2.trans f3).trans f4, T4, _, _, _, rfl, ox.mono (by decide)⟩
      · rintro σ' H4 ⟨f4, T4, y, v2, v3, rfl, oy⟩
        walk_at "go"
        exact k y H4 oy f4 T4
def sp_law_thing (K : PySem.W.Frag) : Sp := fun vs H Q _ => ∃ (t : Addr) (H0 : Hp), vs = [.ref t] ∧ Tape K H0 H t ∧ ∀ v d H', Dg K H' v d → (∀ x, d = .str x → TxOk 1000 x) → Tape K H0 H' t → Q v H'
theorem ok_law_thing (T : Env K mg) : Fx P w K mg base 3 "_law_thing" p_law_thing (sp_law_thing K) := by
  refine T.l_law_thing.ok sc_law_thing (fun vs H Q E h => ?_) (fun f cdv A outer s H vs Q E hr h => ?_)
  · obtain ⟨t, _, rfl, _⟩ := h
    rfl
  · obtain ⟨t, H0, rfl, T0, k⟩ := h
    refine ⟨_, (pss_cons (ps_set (i := 1) sc_law_thing.nd rfl (Or.inl rfl) (pe_fx (ok_law_draw T) hr (by decide) (pa_cons (pv 0) (pa_cons pe_int pa_nil))))
      (pss_cons (ps_if (pt_cmpR op_lt (pv 1) pe_int (nomark _)) (pss_one (ps_ret (pe_fx (ok_law_far T) hr (by decide) (pa_cons (pv 0) pa_nil)))) pss_nil)
      (pss_cons (ps_if (pt_cmpR op_lt (pv 1) pe_int (nomark _)) (pss_one (ps_ret (pe_fx (ok_law_text T) hr (by decide) (pa_cons (pv 0) pa_nil)))) pss_nil)
      (pss_one (ps_ret (pe_ix (ix_U (K := K) rfl) (pe_lst (pa_cons pe_bl (pa_cons pe_bl (pa_cons pe_non (pa_cons (pe_tup pa_nil) (pa_cons (pe_lst pa_nil) (pa_cons pe_dnewK (pa_cons (pe_tup (pa_cons pe_int pa_nil)) (pa_cons (pe_lst (pa_cons pe_str pa_nil)) (pa_cons (pe_tup (pa_cons pe_str pa_nil)) pa_nil)))))))))) (pe_fx (ok_law_draw T) hr (by decide) (pa_cons (pv 0) (pa_cons pe_int pa_nil))) (fun _ _ => rfl))))))), ?_⟩
    walk_at "go"
    refine ⟨t, 6, H0, rfl, T0, by decide, by decide, fun way H1 a1 b1 f1 T1 => ?_⟩
    walk_at "go"
    refine ite_d (fun h0 => ?_) (fun h0 => ?_)
    · walk_at "go"
      refine ⟨t, H0, rfl, T1, fun n H2 f2 T2 => ?_⟩
      exact k _ _ H2 (.int n) (fun x e => by cases e) T2
    · walk_at "go"
      refine ite_d (fun h1 => ?_) (fun h1 => ?_)
      · walk_at "go"
        refine ⟨t, H0, rfl, T1, fun x H2 ox f2 T2 => ?_⟩
        exact k _ _ H2 (.str x) (fun y e => by cases e; exact ox) T2
      · walk_at "go"
        refine mkT (K := K) .nil fun p2 H2 n2 f2 d2 => ?_
        walk_at "go"
        refine mkL (K := K) .nil fun p3 H3 n3 f3 L3 => ?_
        walk_at "go"
        refine mkD fun p4 H4 n4 f4 e4 => ?_
        walk_at "go"
        refine mkT (K := K) (.cons (.int 1) .nil) fun p5 H5 n5 f5 d5 => ?_
        walk_at "go"
        refine mkL (K := K) (.cons (.str "a") .nil) fun p6 H6 n6 f6 L6 => ?_
        walk_at "go"
        refine mkT (K := K) (.cons (.str "a") .nil) fun p7 H7 n7 f7 d7 => ?_
        walk_at "go"
        refine ⟨by exact Nat.le_of_ble_eq_true rfl, fun p8 n8 => ?_⟩
        generalize e8 : upd H7 p8 _ = H8
        have f8 : Fr [] H7 H8 := by rw [← e8]; exact Fr.new n8
        have e8 : H8 p8 = some (.lst [.bl true, .bl false, .non, .ref p2, .ref p3, .ref p4, .ref p5, .ref p6, .ref p7]) := by rw [← e8]; exact upd_same
        have f58 := ((f5.trans f6).trans f7).trans f8
        have f38 := (f3.trans f4).trans f58
        have T2 := T1.fr f2
        have T3 := T2.fr f3
        have T4 := T3.fr f4
        have T5 := T4.fr f5
        have T7 := (T5.fr f6).fr f7
        have T8 := T7.fr f8
        walk_at "go"
        refine ⟨t, 9, H0, rfl, T8, by decide, by decide, fun r9 H9 a9 b9 f9 T9 => ?_⟩
        have e9 := f9 _ _ e8 (by simpa using T7.ne n8)
        have c4 := f9 _ _ (f58 _ _ e4 (by simp)) (by simpa using T3.ne n4)
        have c3 := (L3.fr0 (f4.trans f58)).fr f9 (by simpa using T2.ne n3) (T8.tu f9)
        have c6 := (L6.fr0 (f7.trans f8)).fr f9 (by simpa using T5.ne n6) (T8.tu f9)
        have c2 := (d2.mono f38.tu).mono (T8.tu f9)
        have c5 := (d5.mono ((f6.trans f7).trans f8).tu).mono (T8.tu f9)
        have c7 := (d7.mono f8.tu).mono (T8.tu f9)
        walk_at "go"
        rcases (by omega : r9 = 0 ∨ r9 = 1 ∨ r9 = 2 ∨ r9 = 3 ∨ r9 = 4 ∨ r9 = 5 ∨ r9 = 6 ∨ r9 = 7 ∨ r9 = 8) with rfl | rfl | rfl | rfl | rfl | rfl | rfl | rfl | rfl
        · exact w_ixL (SqL.of e9) rfl (k _ _ H9 (.bl _) (fun x e => by cases e) T9)
        · exact w_ixL (SqL.of e9) rfl (k _ _ H9 (.bl _) (fun x e => by cases e) T9)
        · exact w_ixL (SqL.of e9) rfl (k _ _ H9 .non (fun x e => by cases e) T9)
        · exact w_ixL (SqL.of e9) rfl (k _ _ H9 c2.dg (fun x e => by cases e) T9)
        · exact w_ixL (SqL.of e9) rfl (k _ _ H9 c3.dg (fun x e => by cases e) T9)
        · exact w_ixL (SqL.of e9) rfl (k _ _ H9 (.dct (es := []) c4) (fun x e => by cases e) T9)
        · exact w_ixL (SqL.of e9) rfl (k _ _ H9 c5.dg (fun x e => by cases e) T9)
        · exact w_ixL (SqL.of e9) rfl (k _ _ H9 c6.dg (fun x e => by cases e) T9)
        · exact w_ixL (SqL.of e9) rfl (k _ _ H9 c7.dg (fun x e => by cases e) T9)
end

def sp_law (K : PySem.W.Frag) : Sp := fun vs H Q _ => ∃ (a : Addr) (ns : List Int), vs = [.ref a] ∧ SqL K H a (ns.map V.int) ∧ ns.length ≤ 63 ∧ ∀ H', Q (.bl true) H'

section
variable {P : Program} {w : World} {K : PySem.W.Frag} {mg : Str → Option Value} {base : Heap}
theorem ok_law (T : Env K mg) {f : Addr} {fd : FuncData} (F : Fun K "law" "law" s_law f fd) : FnOk P w K mg base CX0 4 f fd p_law (sp_law K) := by
  refine F.ok sc_law (fun vs H Q E h => ?_) (fun cdv A outer s H vs Q E hr h => ?_)
  · obtain ⟨a, ns, rfl, _⟩ := h
    rfl
  · obtain ⟨a, ns, rfl, hS, hl, k⟩ := h
    refine ⟨_, (pss_cons (ps_set (i := 1) sc_law.nd rfl (Or.inl rfl) (pe_fx (ok_law_tape T) hr (by decide) (pa_cons (pv 0) pa_nil)))
      (pss_cons (ps_for PassesOwn.never rfl (pi_range1 rfl T.m_range (pa_cons pe_int pa_nil)) (pg_name (i := 2) sc_law.nd rfl (Or.inl rfl)) (pss_one (ps_if (pt_not (pt_val (pe_fx (ok_law_right T) hr (by decide) (pa_cons (pe_fx (ok_law_thing T) hr (by decide) (pa_cons (pv 1) pa_nil)) pa_nil)))) (pss_one (ps_ret pe_bl)) pss_nil)))
      (pss_one (ps_ret (pe_and (pe_fx (ok_law_right T) hr (by decide) (pa_cons (pe_op op_pow pe_int pe_int) pa_nil)) (pe_and (pe_fx (ok_law_right T) hr (by decide) (pa_cons (pe_op op_sub (pe_un un_neg (pe_op op_pow pe_int pe_int)) pe_int) pa_nil)) (pe_and (pe_fx (ok_law_right T) hr (by decide) (pa_cons pe_str pa_nil)) (pe_one (pe_fx (ok_law_right T) hr (by decide) (pa_cons pe_bl pa_nil)))))))))), ?_⟩
    walk_at "go"
    refine ⟨a, ns, rfl, hS, fun t H1 ht f1 T1 => ?_⟩
    walk_at "go"
    refine F_R1 20 rfl (by decide) (by decide) (fun i σ H' => Tape K H H' t ∧ ∃ (v2 : Option V), σ = [some (.ref a), some (.ref t), v2]) ⟨T1, _, rfl⟩ ?_ ?_
    · rintro i σ H2 hi ⟨T2, v2, rfl⟩
      walk_at "go"
      refine ⟨t, H, rfl, T2, fun v d H3 D3 o3 T3 => ?_⟩
      walk_at "go"
      refine ⟨v, d, rfl, D3, o3, fun H4 f4 => ?_⟩
      walk_at "go"
      exact ⟨T3.fr f4, _, rfl⟩
    · rintro σ H2 ⟨T2, v2, rfl⟩
      walk_at "go"
      refine ⟨_, _, rfl, .int _, fun x e => (by cases e), fun H3 f3 => ?_⟩
      walk_at "go"
      refine ⟨_, _, rfl, .int _, fun x e => (by cases e), fun H4 f4 => ?_⟩
      walk_at "go"
      refine ⟨_, _, rfl, .str _, fun x e => (by cases e; exact ⟨by decide +kernel, by decide +kernel⟩), fun H5 f5 => ?_⟩
      walk_at "go"
      refine ⟨_, _, rfl, .bl _, fun x e => (by cases e), fun H6 f6 => ?_⟩
      walk_at "go"
      exact k _
end
section
variable {w : World} {K : PySem.W.Frag} {h : Heap} {mg : Str → Option Value}
theorem mk_is_whole (X : K.In h) (G : h.Ns mainGlobals mg) {f : Addr} {od an : Option Addr} {sl : Array (Option Value)} {oc kV dc pm cd ct : Value} (a : PySem.W.nsIn K mainGlobals "is_whole" = some (some (.ref f))) (l : K.lookup f = some ⟨oc, od, .func (PySem.W.fnOf "is_whole" "is_whole" (defArgs s_is_whole) (defBody s_is_whole) (defScope s_is_whole) .none kV dc pm an cd ct), sl⟩) (c : PySem.W.codeIn K cd "is_whole" = true) (k : PySem.W.keepIn K (.ref f) = true) : Loc K mg "is_whole" p_is_whole s_is_whole :=
  have F := fun_mk (st := s_is_whole) l c k
  ⟨f, _, F, PySem.W.mg_of X G a, F.binds (ps := p_is_whole) fun _ _ _ _ _ _ us hl => match us, hl with | [_], _ => rfl⟩
theorem mk_is_number (X : K.In h) (G : h.Ns mainGlobals mg) {f : Addr} {od an : Option Addr} {sl : Array (Option Value)} {oc kV dc pm cd ct : Value} (a : PySem.W.nsIn K mainGlobals "is_number" = some (some (.ref f))) (l : K.lookup f = some ⟨oc, od, .func (PySem.W.fnOf "is_number" "is_number" (defArgs s_is_number) (defBody s_is_number) (defScope s_is_number) .none kV dc pm an cd ct), sl⟩) (c : PySem.W.codeIn K cd "is_number" = true) (k : PySem.W.keepIn K (.ref f) = true) : Loc K mg "is_number" p_is_number s_is_number :=
  have F := fun_mk (st := s_is_number) l c k
  ⟨f, _, F, PySem.W.mg_of X G a, F.binds (ps := p_is_number) fun _ _ _ _ _ _ us hl => match us, hl with | [_], _ => rfl⟩
theorem mk_is_name (X : K.In h) (G : h.Ns mainGlobals mg) {f : Addr} {od an : Option Addr} {sl : Array (Option Value)} {oc kV dc pm cd ct : Value} (a : PySem.W.nsIn K mainGlobals "is_name" = some (some (.ref f))) (l : K.lookup f = some ⟨oc, od, .func (PySem.W.fnOf "is_name" "is_name" (defArgs s_is_name) (defBody s_is_name) (defScope s_is_name) .none kV dc pm an cd ct), sl⟩) (c : PySem.W.codeIn K cd "is_name" = true) (k : PySem.W.keepIn K (.ref f) = true) : Loc K mg "is_name" p_is_name s_is_name :=
  have F := fun_mk (st := s_is_name) l c k
  ⟨f, _, F, PySem.W.mg_of X G a, F.binds (ps := p_is_name) fun _ _ _ _ _ _ us hl => match us, hl with | [_], _ => rfl⟩
theorem mk_cut (X : K.In h) (G : h.Ns mainGlobals mg) {f : Addr} {od an : Option Addr} {sl : Array (Option Value)} {oc kV dc pm cd ct : Value} (a : PySem.W.nsIn K mainGlobals "cut" = some (some (.ref f))) (l : K.lookup f = some ⟨oc, od, .func (PySem.W.fnOf "cut" "cut" (defArgs s_cut) (defBody s_cut) (defScope s_cut) .none kV dc pm an cd ct), sl⟩) (c : PySem.W.codeIn K cd "cut" = true) (k : PySem.W.keepIn K (.ref f) = true) : Loc K mg "cut" p_cut s_cut :=
  have F := fun_mk (st := s_cut) l c k
  ⟨f, _, F, PySem.W.mg_of X G a, F.binds (ps := p_cut) fun _ _ _ _ _ _ us hl => match us, hl with | [_], _ => rfl⟩
theorem mk_law_tape (X : K.In h) (G : h.Ns mainGlobals mg) {f : Addr} {od an : Option Addr} {sl : Array (Option Value)} {oc kV dc pm cd ct : Value} (a : PySem.W.nsIn K mainGlobals "_law_tape" = some (some (.ref f))) (l : K.lookup f = some ⟨oc, od, .func (PySem.W.fnOf "_law_tape" "_law_tape" (defArgs s_law_tape) (defBody s_law_tape) (defScope s_law_tape) .none kV dc pm an cd ct), sl⟩) (c : PySem.W.codeIn K cd "_law_tape" = true) (k : PySem.W.keepIn K (.ref f) = true) : Loc K mg "_law_tape" p_law_tape s_law_tape :=
  have F := fun_mk (st := s_law_tape) l c k
  ⟨f, _, F, PySem.W.mg_of X G a, F.binds (ps := p_law_tape) fun _ _ _ _ _ _ us hl => match us, hl with | [_], _ => rfl⟩
theorem mk_law_draw (X : K.In h) (G : h.Ns mainGlobals mg) {f : Addr} {od an : Option Addr} {sl : Array (Option Value)} {oc kV dc pm cd ct : Value} (a : PySem.W.nsIn K mainGlobals "_law_draw" = some (some (.ref f))) (l : K.lookup f = some ⟨oc, od, .func (PySem.W.fnOf "_law_draw" "_law_draw" (defArgs s_law_draw) (defBody s_law_draw) (defScope s_law_draw) .none kV dc pm an cd ct), sl⟩) (c : PySem.W.codeIn K cd "_law_draw" = true) (k : PySem.W.keepIn K (.ref f) = true) : Loc K mg "_law_draw" p_law_draw s_law_draw :=
  have F := fun_mk (st := s_law_draw) l c k
  ⟨f, _, F, PySem.W.mg_of X G a, F.binds (ps := p_law_draw) fun _ _ _ _ _ _ us hl => match us, hl with | [_, _], _ => rfl⟩
theorem mk_law_far (X : K.In h) (G : h.Ns mainGlobals mg) {f : Addr} {od an : Option Addr} {sl : Array (Option Value)} {oc kV dc pm cd ct : Value} (a : PySem.W.nsIn K mainGlobals "_law_far" = some (some (.ref f))) (l : K.lookup f = some ⟨oc, od, .func (PySem.W.fnOf "_law_far" "_law_far" (defArgs s_law_far) (defBody s_law_far) (defScope s_law_far) .none kV dc pm an cd ct), sl⟩) (c : PySem.W.codeIn K cd "_law_far" = true) (k : PySem.W.keepIn K (.ref f) = true) : Loc K mg "_law_far" p_law_far s_law_far :=
  have F := fun_mk (st := s_law_far) l c k
  ⟨f, _, F, PySem.W.mg_of X G a, F.binds (ps := p_law_far) fun _ _ _ _ _ _ us hl => match us, hl with | [_], _ => rfl⟩
theorem mk_law_text (X : K.In h) (G : h.Ns mainGlobals mg) {f : Addr} {od an : Option Addr} {sl : Array (Option Value)} {oc kV dc pm cd ct : Value} (a : PySem.W.nsIn K mainGlobals "_law_text" = some (some (.ref f))) (l : K.lookup f = some ⟨oc, od, .func (PySem.W.fnOf "_law_text" "_law_text" (defArgs s_law_text) (defBody s_law_text) (defScope s_law_text) .none kV dc pm an cd ct), sl⟩) (c : PySem.W.codeIn K cd "_law_text" = true) (k : PySem.W.keepIn K (.ref f) = true) : Loc K mg "_law_text" p_law_text s_law_text :=
  have F := fun_mk (st := s_law_text) l c k
  ⟨f, _, F, PySem.W.mg_of X G a, F.binds (ps := p_law_text) fun _ _ _ _ _ _ us hl => match us, hl with | [_], _ => rfl⟩
theorem mk_law_thing (X : K.In h) (G : h.Ns mainGlobals mg) {f : Addr} {od an : Option Addr} {sl : Array (Option Value)} {oc kV dc pm cd ct : Value} (a : PySem.W.nsIn K mainGlobals "_law_thing" = some (some (.ref f))) (l : K.lookup f = some ⟨oc, od, .func (PySem.W.fnOf "_law_thing" "_law_thing" (defArgs s_law_thing) (defBody s_law_thing) (defScope s_law_thing) .none kV dc pm an cd ct), sl⟩) (c : PySem.W.codeIn K cd "_law_thing" = true) (k : PySem.W.keepIn K (.ref f) = true) : Loc K mg "_law_thing" p_law_thing s_law_thing :=
  have F := fun_mk (st := s_law_thing) l c k
  ⟨f, _, F, PySem.W.mg_of X G a, F.binds (ps := p_law_thing) fun _ _ _ _ _ _ us hl => match us, hl with | [_], _ => rfl⟩
theorem mk_law_right (X : K.In h) (G : h.Ns mainGlobals mg) {f : Addr} {od an : Option Addr} {sl : Array (Option Value)} {oc kV dc pm cd ct : Value} (a : PySem.W.nsIn K mainGlobals "_law_right" = some (some (.ref f))) (l : K.lookup f = some ⟨oc, od, .func (PySem.W.fnOf "_law_right" "_law_right" (defArgs s_law_right) (defBody s_law_right) (defScope s_law_right) .none kV dc pm an cd ct), sl⟩) (c : PySem.W.codeIn K cd "_law_right" = true) (k : PySem.W.keepIn K (.ref f) = true) : Loc K mg "_law_right" p_law_right s_law_right :=
  have F := fun_mk (st := s_law_right) l c k
  ⟨f, _, F, PySem.W.mg_of X G a, F.binds (ps := p_law_right) fun _ _ _ _ _ _ us hl => match us, hl with | [_], _ => rfl⟩
theorem mk_law (X : K.In h) (G : h.Ns mainGlobals mg) {f : Addr} {od an : Option Addr} {sl : Array (Option Value)} {oc kV dc pm cd ct : Value} (a : PySem.W.nsIn K mainGlobals "law" = some (some (.ref f))) (l : K.lookup f = some ⟨oc, od, .func (PySem.W.fnOf "law" "law" (defArgs s_law) (defBody s_law) (defScope s_law) .none kV dc pm an cd ct), sl⟩) (c : PySem.W.codeIn K cd "law" = true) (k : PySem.W.keepIn K (.ref f) = true) : Loc K mg "law" p_law s_law :=
  have F := fun_mk (st := s_law) l c k
  ⟨f, _, F, PySem.W.mg_of X G a, F.binds (ps := p_law) fun _ _ _ _ _ _ us hl => match us, hl with | [_], _ => rfl⟩
theorem all_env (X : K.In h) (G : h.Ns mainGlobals mg)
    {f0 : Addr} {od0 an0 : Option Addr} {sl0 : Array (Option Value)} {oc0 kV0 dc0 pm0 cd0 ct0 : Value}
    (a0 : PySem.W.nsIn K mainGlobals "is_whole" = some (some (.ref f0))) (l0 : K.lookup f0 = some ⟨oc0, od0, .func (PySem.W.fnOf "is_whole" "is_whole" (defArgs s_is_whole) (defBody s_is_whole) (defScope s_is_whole) .none kV0 dc0 pm0 an0 cd0 ct0), sl0⟩) (c0 : PySem.W.codeIn K cd0 "is_whole" = true) (k0 : PySem.W.keepIn K (.ref f0) = true)
    {f1 : Addr} {od1 an1 : Option Addr} {sl1 : Array (Option Value)} {oc1 kV1 dc1 pm1 cd1 ct1 : Value}
    (a1 : PySem.W.nsIn K mainGlobals "is_number" = some (some (.ref f1))) (l1 : K.lookup f1 = some ⟨oc1, od1, .func (PySem.W.fnOf "is_number" "is_number" (defArgs s_is_number) (defBody s_is_number) (defScope s_is_number) .none kV1 dc1 pm1 an1 cd1 ct1), sl1⟩) (c1 : PySem.W.codeIn K cd1 "is_number" = true) (k1 : PySem.W.keepIn K (.ref f1) = true)
    {f2 : Addr} {od2 an2 : Option Addr} {sl2 : Array (Option Value)} {oc2 kV2 dc2 pm2 cd2 ct2 : Value}
    (a2 : PySem.W.nsIn K mainGlobals "is_name" = some (some (.ref f2))) (l2 : K.lookup f2 = some ⟨oc2, od2, .func (PySem.W.fnOf "is_name" "is_name" (defArgs s_is_name) (defBody s_is_name) (defScope s_is_name) .none kV2 dc2 pm2 an2 cd2 ct2), sl2⟩) (c2 : PySem.W.codeIn K cd2 "is_name" = true) (k2 : PySem.W.keepIn K (.ref f2) = true)
    {f3 : Addr} {od3 an3 : Option Addr} {sl3 : Array (Option Value)} {oc3 kV3 dc3 pm3 cd3 ct3 : Value}
    (a3 : PySem.W.nsIn K mainGlobals "cut" = some (some (.ref f3))) (l3 : K.lookup f3 = some ⟨oc3, od3, .func (PySem.W.fnOf "cut" "cut" (defArgs s_cut) (defBody s_cut) (defScope s_cut) .none kV3 dc3 pm3 an3 cd3 ct3), sl3⟩) (c3 : PySem.W.codeIn K cd3 "cut" = true) (k3 : PySem.W.keepIn K (.ref f3) = true)
    {f4 : Addr} {od4 an4 : Option Addr} {sl4 : Array (Option Value)} {oc4 kV4 dc4 pm4 cd4 ct4 : Value}
    (a4 : PySem.W.nsIn K mainGlobals "_law_tape" = some (some (.ref f4))) (l4 : K.lookup f4 = some ⟨oc4, od4, .func (PySem.W.fnOf "_law_tape" "_law_tape" (defArgs s_law_tape) (defBody s_law_tape) (defScope s_law_tape) .none kV4 dc4 pm4 an4 cd4 ct4), sl4⟩) (c4 : PySem.W.codeIn K cd4 "_law_tape" = true) (k4 : PySem.W.keepIn K (.ref f4) = true)
    {f5 : Addr} {od5 an5 : Option Addr} {sl5 : Array (Option Value)} {oc5 kV5 dc5 pm5 cd5 ct5 : Value}
    (a5 : PySem.W.nsIn K mainGlobals "_law_draw" = some (some (.ref f5))) (l5 : K.lookup f5 = some ⟨oc5, od5, .func (PySem.W.fnOf "_law_draw" "_law_draw" (defArgs s_law_draw) (defBody s_law_draw) (defScope s_law_draw) .none kV5 dc5 pm5 an5 cd5 ct5), sl5⟩) (c5 : PySem.W.codeIn K cd5 "_law_draw" = true) (k5 : PySem.W.keepIn K (.ref f5) = true)
    {f6 : Addr} {od6 an6 : Option Addr} {sl6 : Array (Option Value)} {oc6 kV6 dc6 pm6 cd6 ct6 : Value}
    (a6 : PySem.W.nsIn K mainGlobals "_law_far" = some (some (.ref f6))) (l6 : K.lookup f6 = some ⟨oc6, od6, .func (PySem.W.fnOf "_law_far" "_law_far" (defArgs s_law_far) (defBody s_law_far) (defScope s_law_far) .none kV6 dc6 pm6 an6 cd6 ct6), sl6⟩) (c6 : PySem.W.codeIn K cd6 "_law_far" = true) (k6 : PySem.W.keepIn K (.ref f6) = true)
    {f7 : Addr} {od7 an7 : Option Addr} {sl7 : Array (Option Value)} {oc7 kV7 dc7 pm7 cd7 ct7 : Value}
    (a7 : PySem.W.nsIn K mainGlobals "_law_text" = some (some (.ref f7))) (l7 : K.lookup f7 = some ⟨oc7, od7, .func (PySem.W.fnOf "_law_text" "_law_text" (defArgs s_law_text) (defBody s_law_text) (defScope s_law_text) .none kV7 dc7 pm7 an7 cd7 ct7), sl7⟩) (c7 : PySem.W.codeIn K cd7 "_law_text" = true) (k7 : PySem.W.keepIn K (.ref f7) = true)
    {f8 : Addr} {od8 an8 : Option Addr} {sl8 : Array (Option Value)} {oc8 kV8 dc8 pm8 cd8 ct8 : Value}
    (a8 : PySem.W.nsIn K mainGlobals "_law_thing" = some (some (.ref f8))) (l8 : K.lookup f8 = some ⟨oc8, od8, .func (PySem.W.fnOf "_law_thing" "_law_thing" (defArgs s_law_thing) (defBody s_law_thing) (defScope s_law_thing) .none kV8 dc8 pm8 an8 cd8 ct8), sl8⟩) (c8 : PySem.W.codeIn K cd8 "_law_thing" = true) (k8 : PySem.W.keepIn K (.ref f8) = true)
    {f9 : Addr} {od9 an9 : Option Addr} {sl9 : Array (Option Value)} {oc9 kV9 dc9 pm9 cd9 ct9 : Value}
    (a9 : PySem.W.nsIn K mainGlobals "_law_right" = some (some (.ref f9))) (l9 : K.lookup f9 = some ⟨oc9, od9, .func (PySem.W.fnOf "_law_right" "_law_right" (defArgs s_law_right) (defBody s_law_right) (defScope s_law_right) .none kV9 dc9 pm9 an9 cd9 ct9), sl9⟩) (c9 : PySem.W.codeIn K cd9 "_law_right" = true) (k9 : PySem.W.keepIn K (.ref f9) = true)
    {f10 : Addr} {od10 an10 : Option Addr} {sl10 : Array (Option Value)} {oc10 kV10 dc10 pm10 cd10 ct10 : Value}
    (a10 : PySem.W.nsIn K mainGlobals "law" = some (some (.ref f10))) (l10 : K.lookup f10 = some ⟨oc10, od10, .func (PySem.W.fnOf "law" "law" (defArgs s_law) (defBody s_law) (defScope s_law) .none kV10 dc10 pm10 an10 cd10 ct10), sl10⟩) (c10 : PySem.W.codeIn K cd10 "law" = true) (k10 : PySem.W.keepIn K (.ref f10) = true)
    (z_abs : PySem.W.nsIn K mainGlobals "abs" = some none)
    (z_all : PySem.W.nsIn K mainGlobals "all" = some none)
    (z_bool : PySem.W.nsIn K mainGlobals "bool" = some none)
    (z_int : PySem.W.nsIn K mainGlobals "int" = some none)
    (z_isinstance : PySem.W.nsIn K mainGlobals "isinstance" = some none)
    (z_len : PySem.W.nsIn K mainGlobals "len" = some none)
    (z_max : PySem.W.nsIn K mainGlobals "max" = some none)
    (z_min : PySem.W.nsIn K mainGlobals "min" = some none)
    (z_range : PySem.W.nsIn K mainGlobals "range" = some none)
    (z_str : PySem.W.nsIn K mainGlobals "str" = some none)
    {t_GREATEST : Tok} (g_GREATEST : PySem.W.nsIn K mainGlobals "GREATEST" = some (some (.int 1000000000 t_GREATEST)))
    {t_LETTERS : Tok} (g_LETTERS : PySem.W.nsIn K mainGlobals "LETTERS" = some (some (.str "abcdefghijklmnopqrstuvwxyz" t_LETTERS))) : Env K mg :=
  { l_is_whole := mk_is_whole X G a0 l0 c0 k0,
    l_is_number := mk_is_number X G a1 l1 c1 k1,
    l_is_name := mk_is_name X G a2 l2 c2 k2,
    l_cut := mk_cut X G a3 l3 c3 k3,
    l_law_tape := mk_law_tape X G a4 l4 c4 k4,
    l_law_draw := mk_law_draw X G a5 l5 c5 k5,
    l_law_far := mk_law_far X G a6 l6 c6 k6,
    l_law_text := mk_law_text X G a7 l7 c7 k7,
    l_law_thing := mk_law_thing X G a8 l8 c8 k8,
    l_law_right := mk_law_right X G a9 l9 c9 k9,
    l_law := mk_law X G a10 l10 c10 k10,
    m_abs := PySem.W.mg_none_of X G z_abs,
    m_all := PySem.W.mg_none_of X G z_all,
    m_bool := PySem.W.mg_none_of X G z_bool,
    m_int := PySem.W.mg_none_of X G z_int,
    m_isinstance := PySem.W.mg_none_of X G z_isinstance,
    m_len := PySem.W.mg_none_of X G z_len,
    m_max := PySem.W.mg_none_of X G z_max,
    m_min := PySem.W.mg_none_of X G z_min,
    m_range := PySem.W.mg_none_of X G z_range,
    m_str := PySem.W.mg_none_of X G z_str,
    g_GREATEST := ⟨_, PySem.W.mg_of X G g_GREATEST⟩,
    g_LETTERS := ⟨_, PySem.W.mg_of X G g_LETTERS⟩ }
theorem walk {l : PySem.W.OpenLaw} {q : Program} {loose : List Str} {XP : (Str → Option Value) → Heap → Prop} {YP : World → Heap → Prop} {d : DefRec} {K : Params → PySem.W.Frag} (hn : l.most = some 63) (hdf : d.params.defaults = [])
    (hY : ∀ (w : World) (h : Heap), YP w h → (K w.params).In h) (hd : d.name = "law")
    (F : ∀ (w : World) (mg : Str → Option Value) (h : Heap), (K w.params).In h → h.Ns mainGlobals mg → Env (K w.params) mg) :
    PySem.W.WalkO q loose XP YP l.row.toRowW d [] (fun f vs => PySem.call f vs) :=
  L2.walk_of (n := 63) (k := 4) (x := "_law_script") (CX := fun _ => CX0) (sp := fun w => sp_law (K w.params)) hn (by decide) hdf ⟨rfl, by decide, by decide⟩ hY (fun w mg fa h KX G hmg => by
    have T := F w mg h KX G
    obtain ⟨f, fd, F1, m, b⟩ := T.l_law.ex
    rw [hd] at hmg
    have e := hmg.symm.trans m
    cases e
    refine ⟨fd, fun s v => ?_, fun base _ _ => ?_⟩
    · obtain ⟨oc, od, kV, doc, pm, an, cdv, ct, osl, rfl, lk, hcd⟩ := F1.ex
      exact .of_eq rfl
    · exact ok_law T F1) (fun _ _ a ns hl _ hS => ⟨a, ns, rfl, hS, hl, fun _ => rfl⟩) fun _ _ _ _ _ z => z
end
end LW
open PySem PySem.W PyProof.Rows
set_option maxRecDepth 100000 in
set_option maxHeartbeats 0 in
theorem PySem.Challenge.cw_viewwood_k01_numbers_and_names_holds : PySem.Challenge.rw_viewwood_k01_numbers_and_names.Holds := by
  w_on; o_law; k_head; (case hw => w_witness2)
  k_fill
  refine LW.walk (l := PySem.Challenge.rw_viewwood_k01_numbers_and_names) rfl rfl (fun w h Y => PySem.W.kIn_of Y) rfl ?F
  case F =>
    intro w mg h KX G
    refine' LW.all_env KX G ?a0 ?l0 ?c0 ?k0 ?a1 ?l1 ?c1 ?k1 ?a2 ?l2 ?c2 ?k2 ?a3 ?l3 ?c3 ?k3 ?a4 ?l4 ?c4 ?k4 ?a5 ?l5 ?c5 ?k5 ?a6 ?l6 ?c6 ?k6 ?a7 ?l7 ?c7 ?k7 ?a8 ?l8 ?c8 ?k8 ?a9 ?l9 ?c9 ?k9 ?a10 ?l10 ?c10 ?k10 ?z_abs ?z_all ?z_bool ?z_int ?z_isinstance ?z_len ?z_max ?z_min ?z_range ?z_str ?g_GREATEST ?g_LETTERS
    (case a0 => k_is)
    (case l0 => k_is)
    (case c0 => k_is)
    (case k0 => k_is)
    (case a1 => k_is)
    (case l1 => k_is)
    (case c1 => k_is)
    (case k1 => k_is)
    (case a2 => k_is)
    (case l2 => k_is)
    (case c2 => k_is)
    (case k2 => k_is)
    (case a3 => k_is)
    (case l3 => k_is)
    (case c3 => k_is)
    (case k3 => k_is)
    (case a4 => k_is)
    (case l4 => k_is)
    (case c4 => k_is)
    (case k4 => k_is)
    (case a5 => k_is)
    (case l5 => k_is)
    (case c5 => k_is)
    (case k5 => k_is)
    (case a6 => k_is)
    (case l6 => k_is)
    (case c6 => k_is)
    (case k6 => k_is)
    (case a7 => k_is)
    (case l7 => k_is)
    (case c7 => k_is)
    (case k7 => k_is)
    (case a8 => k_is)
    (case l8 => k_is)
    (case c8 => k_is)
    (case k8 => k_is)
    (case a9 => k_is)
    (case l9 => k_is)
    (case c9 => k_is)
    (case k9 => k_is)
    (case a10 => k_is)
    (case l10 => k_is)
    (case c10 => k_is)
    (case k10 => k_is)
    (case z_abs => k_is)
    (case z_all => k_is)
    (case z_bool => k_is)
    (case z_int => k_is)
    (case z_isinstance => k_is)
    (case z_len => k_is)
    (case z_max => k_is)
    (case z_min => k_is)
    (case z_range => k_is)
    (case z_str => k_is)
    (case g_GREATEST => k_is)
    (case g_LETTERS => k_is)

