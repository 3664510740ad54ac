import PyProof.Rows.All
import Wide.All
import OpenK.AllK
import Wide.FinOn
import HandS.ForMost
import HandS.Wide
import HandS.IsInst
import HandS.TupAny
import HandS.Codes
import HandS.Deep
import HandS.Rev
import HandS.TupLe
import HandS.More
import HandS.Walk
import HandS.RevRange
import HandS.Conv
import PySem.Challenge.RW_viewwood_k67_whole_hands_along_alone
set_option Elab.async false
set_option linter.all false
set_option maxRecDepth 100000
/-! Uni: one rule for each construct whatever its values are, and short steps of readings. -/
namespace U
open PySem PySem.Spec PyProof.Rows L2
/-! ### a def that stands in the text, with its promise -/
structure Loc (K : PySem.W.Frag) (mg : Str → Option Value) (x : Str) (ps : List Str) (st : Stmt) : Prop where
  ex : ∃ f fd, Fun K x x st f fd ∧ mg x = some (.ref f) ∧ Binds K fd ps []
structure Fx (P : Program) (w : World) (K : PySem.W.Frag) (mg : Str → Option Value) (base : Heap) (k : Nat) (x : Str) (ps : List Str) (sp : Sp) : Prop where
  ex : ∃ f fd, FnOk P w K mg base CX0 k f fd ps sp ∧ mg x = some (.ref f) ∧ PySem.W.keepIn K (.ref f) = true ∧ Binds K fd ps []
theorem Fx.mono {P : Program} {w : World} {K : PySem.W.Frag} {mg : Str → Option Value} {base : Heap} {j k : Nat} {x : Str} {ps : List Str} {sp : Sp} (F : Fx P w K mg base j x ps sp) (h : j ≤ k) : Fx P w K mg base k x ps sp := by
  obtain ⟨f, fd, a, b, c, d⟩ := F.ex
  exact ⟨f, fd, a.mono h, b, c, d⟩
theorem Loc.ok {P : Program} {w : World} {K : PySem.W.Frag} {mg : Str → Option Value} {base : Heap} {x : Str} {st : Stmt} {N ps : List Str} {k : Nat} {sp : Sp} (L : Loc K mg x ps st) (S : FnScope N ps (defScope st)) (len : ∀ vs H Q E, sp vs H Q E → vs.length = ps.length)
    (hbody : ∀ (f : Addr) (cdv : Value) (A : Around) (outer : List Env) (s : Shared) (H : Hp) (vs : List V) (Q : VK) (E : XK), Room k (A.deeper (envOfC x (defScope st) s.heap.objs.size f cdv)) → sp vs H Q E →
      ∃ t, PSs (cxOf CX0 P w K mg base N x (defScope st) f cdv A outer s H E).nox (defBody st) t ∧ t ⟨fun _ H' => Q .non H', Q, fun _ _ => False, fun _ _ => False⟩ (start N vs) H) : Fx P w K mg base (k + 1) x ps sp := by
  obtain ⟨f, fd, F, m, b⟩ := L.ex
  exact ⟨f, fd, F.ok S len fun cdv A outer s H vs Q E hr h => hbody f cdv A outer s H vs Q E hr h, m, F.kp, b⟩
theorem pe_fx {X : Cx} {k j : Nat} {x : Str} {ps : List Str} {sp : Sp} {e : Expr} {es : List Expr} {t : TA} {p pos : Pos} (G : Fx X.prog X.w X.K X.mg X.base k x ps sp) (hr : Room j X.A) (hkj : k ≤ j) (ha : PA X (e :: es) t) (hg : Gl X x := by rfl)
    (hdb : (x == ("__debug__" : Str)) = false := by decide +kernel)
    (he : starEach (e :: es) X.env = (false, eval e X.env) :: starEach es X.env := by rfl) (hpl : (backTo pos (starEach es X.env)).any (·.1) = false := by rfl) : PE X (.Call (.Name x p) (e :: es) [] pos) (tCall sp [] E0 t) := by
  obtain ⟨f, fd, a, b, c, d⟩ := G.ex
  exact pe_call a (hr.mono hkj) hg b c d .nil pass0 ha (hdb := hdb) (he := he) (hpl := hpl)

/-! ### a constant tuple of the top -/
def KTup (K : PySem.W.Frag) (a : Addr) (xs : List V) : Prop := ∀ H, SqT K H a xs
def tKT (K : PySem.W.Frag) (xs : List V) : TE := fun _ H Q => ∀ a, KTup K a xs → Q (.ref a) H
theorem pe_ktup {X : Cx} {e : Expr} {a : Addr} {xs : List V} (h : PE X e (tC (.ref a))) (k : KTup X.K a xs) : PE X e (tKT X.K xs) := ⟨fun pins s σ H Q I q => h.run pins s σ H Q I (q a k)⟩
theorem ktup_of {K : PySem.W.Frag} {a : Addr} {xs : List V} {od : Option Addr} {its : Array Value} {n : Nat} {sl : Array (Option Value)} (h : K.lookup a = some ⟨.type "tuple", od, .seq its n, sl⟩) (v : Vals xs its.toList) (z : its.size ≤ 1000 := by exact Nat.le_of_ble_eq_true rfl) : KTup K a xs := fun _ =>
  .inr ⟨_, its, n, h, rfl, rfl, Nat.le_trans z (by decide), v⟩
theorem vs_nil : Vals [] [] := .nil
theorem vs_str {x : Str} {t : Tok} {xs : List V} {us : List Value} (h : Vals xs us) : Vals (.str x :: xs) (.str x t :: us) := .cons ⟨t, rfl⟩ h
theorem vs_int {x : Int} {t : Tok} {xs : List V} {us : List Value} (h : Vals xs us) : Vals (.int x :: xs) (.int x t :: us) := .cons ⟨t, rfl⟩ h
/-! ### one rule a construct -/
section
variable {X : Cx}
abbrev r2or (r r' : R2) : R2 := fun x y H Q => r x y H Q ∨ r' x y H Q
def rStrCat : R2 := fun x y H Q => ∃ i j, x = .str i ∧ y = .str j ∧ i.length + j.length ≤ sizeLine ∧ Q (.str (i ++ j)) H
def rAddU (K : PySem.W.Frag) : R2 := r2or (r2or (rI0 fun i j => .int (i + j)) rStrCat) (r2or (rCatA K) rCat)
theorem op_addU {K} (hK : X.K = K) : OpR X (binaryOp .Add) (rAddU K) := by subst hK; exact (op_add.or op_add_str).or (op_catA.or op_cat)
def rMaxU : List V → Hp → VK → Prop := fun xs H Q => ∃ i j, xs = [.int i, .int j] ∧ Q (.int (if j > i then j else i)) H
def rMinU : List V → Hp → VK → Prop := fun xs H Q => ∃ i j, xs = [.int i, .int j] ∧ Q (.int (if j < i then j else i)) H
def rAbsU : List V → Hp → VK → Prop := fun xs H Q => ∃ i, xs = [.int i] ∧ Q (.int (if i < 0 then -i else i)) H
def rIntU : List V → Hp → VK → Prop := fun xs H Q => (∃ i, xs = [.int i] ∧ Q (.int i) H) ∨ ∃ k, xs = [.bl k] ∧ Q (.int (if k then 1 else 0)) H
theorem call_maxU (hc : X.calm = true) : CallR X (.builtin "max") rMaxU := call_max2 hc
theorem call_minU (hc : X.calm = true) : CallR X (.builtin "min") rMinU := call_min2 hc
theorem call_absU : CallR X (.builtin "abs") rAbsU := call_abs
theorem call_intU : CallR X (.type "int") rIntU := call_int1
def rLenU (K : PySem.W.Frag) : List V → Hp → VK → Prop := fun xs H Q => (∃ p ys, xs = [.ref p] ∧ (SqL K H p ys ∨ SqT K H p ys) ∧ Q (.int ys.length) H) ∨ (∃ z, xs = [.str z] ∧ z.length ≤ sizeLine ∧ Q (.int z.length) H)
theorem call_lenU {K} (hK : X.K = K) : CallR X (.builtin "len") (rLenU K) := by subst hK; exact call_len_seq.or call_len_str
theorem call_isiU {K} (hK : X.K = K) : CallR X (.builtin "isinstance") (rIsi K) := by subst hK; exact call_isi
theorem ix_U {K} (hK : X.K = K) : IxR X (rIx K) := by subst hK; exact ix_seq
theorem call_allU {K} (hK : X.K = K) (hc : X.calm = true) : CallR X (.builtin "all") (rAll K) := by subst hK; exact cr_all hc
theorem call_anyU {K} (hK : X.K = K) (hc : X.calm = true) : CallR X (.builtin "any") (rAny K) := by subst hK; exact cr_any hc
theorem call_sumU {K} (hK : X.K = K) (hc : X.calm = true) : CallR X (.builtin "sum") (rSum K) := by subst hK; exact cr_sum hc
def rListU (K : PySem.W.Frag) : List V → Hp → VK → Prop := fun xs H Q => ∃ p ys, xs = [.ref p] ∧ (SqL K H p ys ∨ SqT K H p ys) ∧ ∀ l, H l = none → Q (.ref l) (upd H l (.lst ys))
theorem call_listU {K} (hK : X.K = K) : CallR X (.type "list") (rListU K) := by subst hK; exact call_list_of
def rTupleU (K : PySem.W.Frag) : List V → Hp → VK → Prop := fun xs H Q => ∃ p ys, xs = [.ref p] ∧ ((SqL K H p ys ∧ ∀ l, H l = none → Q (.ref l) (upd H l (.tup ys))) ∨ (SqT K H p ys ∧ Q (.ref p) H))
theorem call_tupleU {K} (hK : X.K = K) : CallR X (.type "tuple") (rTupleU K) := by subst hK; exact call_tuple_of
theorem pg_tupU {K} {es : List Expr} {k : Nat} {t : TGs} {n : Nat} {pos : Pos} (hK : X.K = K) (hc : X.calm = true) (h : PGs X es t)
    (hn : (assignEach es X.env).length = n := by rfl) (hst : (assignEach es X.env).findIdx? (·.1) = none := by rfl) : PG X (.Tuple es k pos) (gTup K n t) := by subst hK; exact pg_tup hc h hn hst
theorem pi_listU {K} {tg l : Expr} {tl : TE} (hK : X.K = K) (hl : PE X l tl) : PI X tg l (iList K tl) := by subst hK; exact pi_list hl
theorem pi_tupU {K} {tg l : Expr} {tl : TE} (hK : X.K = K) (hl : PE X l tl) : PI X tg l (iTup K tl) := by subst hK; exact pi_tup hl
def rMulU : R2 := r2or (r2or (rI CMul fun i j => .int (i * j)) (rI CMulW fun i j => .int (i * j))) rRep
theorem op_mulU : OpR X (binaryOp .Mult) rMulU := (op_mul.or op_mulW).or op_rep
def rSignIn : R2 := fun x y H Q => ∃ (c : Nat) (z : Str), x = .str ⟨#[c]⟩ ∧ y = .str z ∧ Q (.bl (decide (c ∈ z.cps.toList))) H
def rSignNin : R2 := fun x y H Q => ∃ (c : Nat) (z : Str), x = .str ⟨#[c]⟩ ∧ y = .str z ∧ Q (.bl (!decide (c ∈ z.cps.toList))) H
def rInU (K : PySem.W.Frag) : R2 := r2or (r2or (rIn K false) (rInD K)) rSignIn
def rNinU (K : PySem.W.Frag) : R2 := r2or (r2or (rIn K true) (rNotInD K)) rSignNin
theorem op_inU {K} (hK : X.K = K) (hu : X.A.units + 65 < cLine) : OpR X (compareOp .In) (rInU K) := by subst hK; exact (op_in_seq.or (op_inD hu)).or op_in_sign
theorem op_ninU {K} (hK : X.K = K) (hu : X.A.units + 65 < cLine) : OpR X (compareOp .NotIn) (rNinU K) := by subst hK; exact (op_notIn_seq.or (op_notInD hu)).or op_notIn_sign
def rMaxL (K : PySem.W.Frag) : List V → Hp → VK → Prop := rMax K
theorem call_maxL {K} (hK : X.K = K) (hc : X.calm = true) : CallR X (.builtin "max") (rMaxL K) := by subst hK; exact cr_max hc
def rMinL (K : PySem.W.Frag) : List V → Hp → VK → Prop := rMin K
theorem call_minL {K} (hK : X.K = K) (hc : X.calm = true) : CallR X (.builtin "min") (rMinL K) := by subst hK; exact cr_min hc
def rIsB : R2 := fun x y H Q => ∃ a b, x = .bl a ∧ y = .bl b ∧ Q (.bl (decide (a = b))) H
def rNisB : R2 := fun x y H Q => ∃ a b, x = .bl a ∧ y = .bl b ∧ Q (.bl (!decide (a = b))) H
theorem op_isB : OpR X (compareOp .Is) rIsB := op_is_bl
theorem op_nisB : OpR X (compareOp .IsNot) rNisB := op_isnot_bl
def iRevU (K : PySem.W.Frag) (te : TE) : TI := RT.iRevA K te
theorem pi_revU {K} {tg e : Expr} {te : TE} {p pos : Pos} (hK : X.K = K) (hg : Gl X "reversed") (hm : X.mg "reversed" = none) (he : PE X e te) (hs : starEach [e] X.env = (false, eval e X.env) :: starEach [] X.env := by rfl) : PI X tg (.Call (.Name "reversed" p) [e] [] pos) (iRevU K te) := by
  subst hK; exact RT.pi_revA hg hm he hs
def iEnumU (K : PySem.W.Frag) (ta : TA) : TI := iEnum K ta
theorem pi_enumU {K} {e : Expr} {ta : TA} {p pos tpos : Pos} {elts : List Expr} {kk : Nat} (hK : X.K = K) (hg : Gl X "enumerate") (hm : X.mg "enumerate" = none) (ha : PA X [e] ta) (hs : starEach [e] X.env = [(false, eval e X.env)] := by rfl) :
    PI X (.Tuple elts kk tpos) (.Call (.Name "enumerate" p) [e] [] pos) (iEnumU K ta) := by subst hK; exact pi_enum hg hm ha hs
/-- a slice -/
def rSlU (K : PySem.W.Frag) : V → Option Int → Option Int → Hp → VK → Prop := fun x lo hi H Q => (rSlL K x lo hi H Q ∨ rSlA K x lo hi H Q) ∨ rSlS x lo hi H Q
theorem sl_U {K} (hK : X.K = K) : SlR X (rSlU K) := by subst hK; exact (sl_list.or sl_tupA).or sl_str
def rEqU (K : PySem.W.Frag) : R2 := r2or rEq (rEqD K)
theorem op_eqU {K} (hK : X.K = K) (hu : X.A.units + 64 < cLine) : OpR X (compareOp .Eq) (rEqU K) := by subst hK; exact op_eq.or (op_eqD hu)
def rNeU (K : PySem.W.Frag) : R2 := r2or rNe (rNeD K)
theorem op_neU {K} (hK : X.K = K) (hu : X.A.units + 64 < cLine) : OpR X (compareOp .NotEq) (rNeU K) := by subst hK; exact op_ne.or (op_neD hu)
end
theorem u65 {A : Around} {k : Nat} (hr : Room k A) : A.units + 65 < cLine := by have := hr.un; omega
theorem u64 {A : Around} {k : Nat} (hr : Room k A) : A.units + 64 < cLine := hr.units
section
variable {K : PySem.W.Frag} {H : Hp} {Q : VK} {i j : Int}
theorem w_addI (q : Q (.int (i + j)) H) : rAddU K (.int i) (.int j) H Q := .inl (.inl ⟨i, j, rfl, rfl, q⟩)
theorem w_addS {a b : Str} (h : a.length + b.length ≤ sizeLine) (q : Q (.str (a ++ b)) H) : rAddU K (.str a) (.str b) H Q := .inl (.inr ⟨a, b, rfl, rfl, h, q⟩)
theorem w_addL {l b : Addr} {xs zs : List V} (h1 : H l = some (.lst xs)) (h2 : H b = some (.lst zs)) (hl : xs.length + zs.length ≤ 1000000) (q : ∀ p, H p = none → Q (.ref p) (upd H p (.lst (xs ++ zs)))) : rAddU K (.ref l) (.ref b) H Q := .inr (.inr ⟨l, b, xs, zs, rfl, rfl, h1, h2, Nat.le_trans hl (by decide), q⟩)
theorem w_sub (q : Q (.int (i - j)) H) : rI0 (fun i j => .int (i - j)) (.int i) (.int j) H Q := ⟨i, j, rfl, rfl, q⟩
theorem w_rI0 {g : Int → Int → V} (q : Q (g i j) H) : rI0 g (.int i) (.int j) H Q := ⟨i, j, rfl, rfl, q⟩
theorem w_rI {C : Int → Int → Prop} {g : Int → Int → V} (c : C i j) (q : Q (g i j) H) : rI C g (.int i) (.int j) H Q := ⟨i, j, rfl, rfl, c, q⟩
theorem w_mulI (c : (-(2 ^ 64) < i ∧ i < 2 ^ 64) ∨ (-(2 ^ 64) < j ∧ j < 2 ^ 64)) (q : Q (.int (i * j)) H) : rMulU (.int i) (.int j) H Q := .inl (.inl ⟨i, j, rfl, rfl, c, q⟩)
theorem w_max (q : Q (.int (if j > i then j else i)) H) : rMaxU [.int i, .int j] H Q := ⟨i, j, rfl, q⟩
theorem w_min (q : Q (.int (if j < i then j else i)) H) : rMinU [.int i, .int j] H Q := ⟨i, j, rfl, q⟩
theorem w_abs (q : Q (.int (if i < 0 then -i else i)) H) : rAbsU [.int i] H Q := ⟨i, rfl, q⟩
theorem w_intI (q : Q (.int i) H) : rIntU [.int i] H Q := .inl ⟨i, rfl, q⟩
theorem w_intB {k : Bool} (q : Q (.int (if k then 1 else 0)) H) : rIntU [.bl k] H Q := .inr ⟨k, rfl, q⟩
theorem w_pow9 (q : Q (.int 1000000000) H) : rI CPow (fun i j => .int (i ^ j.toNat)) (.int 10) (.int 9) H Q := ⟨10, 9, rfl, rfl, ⟨by decide, by decide, by decide⟩, q⟩
theorem w_pow18 (q : Q (.int 1000000000000000000) H) : rI CPow (fun i j => .int (i ^ j.toNat)) (.int 10) (.int 18) H Q := ⟨10, 18, rfl, rfl, ⟨by decide, by decide, by decide⟩, q⟩
theorem w_pow6 (q : Q (.int 1000000) H) : rI CPow (fun i j => .int (i ^ j.toNat)) (.int 10) (.int 6) H Q := ⟨10, 6, rfl, rfl, ⟨by decide, by decide, by decide⟩, q⟩
theorem w_pow59 (q : Q (.int 100000000000000000000000000000000000000000000000000000000000) H) : rI CPow (fun i j => .int (i ^ j.toNat)) (.int 10) (.int 59) H Q := ⟨10, 59, rfl, rfl, ⟨by decide, by decide, by decide⟩, q⟩
theorem w_slL {p : Addr} {xs : List V} {lo hi : Option Int} (h : SqL K H p xs) (q : ∀ l, H l = none → Q (.ref l) (upd H l (.lst (cutV xs lo hi)))) : rSlU K (.ref p) lo hi H Q := .inl (.inl ⟨p, xs, rfl, h, q⟩)
theorem w_part {σ : L2.St} {te : TE} {Q : Option Int → Hp → Prop} (q : te σ H fun x H1 => ∃ i, x = .int i ∧ Q (some i) H1) : tPart te σ H Q := q
theorem w_partI {P : Int → Prop} (q : P i) : ∃ k, V.int i = .int k ∧ P k := ⟨i, rfl, q⟩
theorem w_nopart {σ : L2.St} {Q : Option Int → Hp → Prop} (q : Q none H) : tNoPart σ H Q := q
theorem w_sl {σ : L2.St} {r : V → Option Int → Option Int → Hp → VK → Prop} {te : TE} {tl th : TO} (q : te σ H fun x H1 => tl σ H1 fun l H2 => th σ H2 fun u H3 => r x l u H3 Q) : tSl r te tl th σ H Q := q
theorem w_listL {p : Addr} {ys : List V} (h : SqL K H p ys) (q : ∀ l, H l = none → Q (.ref l) (upd H l (.lst ys))) : rListU K [.ref p] H Q := ⟨p, ys, rfl, .inl h, q⟩
theorem w_listT {p : Addr} {ys : List V} (h : SqT K H p ys) (q : ∀ l, H l = none → Q (.ref l) (upd H l (.lst ys))) : rListU K [.ref p] H Q := ⟨p, ys, rfl, .inr h, q⟩
theorem w_tupleL {p : Addr} {ys : List V} (h : SqL K H p ys) (q : ∀ l, H l = none → Q (.ref l) (upd H l (.tup ys))) : rTupleU K [.ref p] H Q := ⟨p, ys, rfl, .inl ⟨h, q⟩⟩
theorem w_isB {a b : Bool} (q : Q (.bl (decide (a = b))) H) : rIsB (.bl a) (.bl b) H Q := ⟨a, b, rfl, rfl, q⟩
theorem w_nisB {a b : Bool} (q : Q (.bl (!decide (a = b))) H) : rNisB (.bl a) (.bl b) H Q := ⟨a, b, rfl, rfl, q⟩
theorem w_inT {x : V} {p : Addr} {xs : List V} (h : SqT K H p xs) (hx : flatV x = true) (ha : xs.all flatV = true) (q : Q (.bl (inV x xs)) H) : rInU K x (.ref p) H Q := .inl (.inl ⟨p, xs, rfl, .inr h, hx, ha, q⟩)
theorem w_inL {x : V} {p : Addr} {xs : List V} (h : SqL K H p xs) (hx : flatV x = true) (ha : xs.all flatV = true) (q : Q (.bl (inV x xs)) H) : rInU K x (.ref p) H Q := .inl (.inl ⟨p, xs, rfl, .inl h, hx, ha, q⟩)
theorem w_ninT {x : V} {p : Addr} {xs : List V} (h : SqT K H p xs) (hx : flatV x = true) (ha : xs.all flatV = true) (q : Q (.bl (!inV x xs)) H) : rNinU K x (.ref p) H Q := .inl (.inl ⟨p, xs, rfl, .inr h, hx, ha, q⟩)
theorem w_ninL {x : V} {p : Addr} {xs : List V} (h : SqL K H p xs) (hx : flatV x = true) (ha : xs.all flatV = true) (q : Q (.bl (!inV x xs)) H) : rNinU K x (.ref p) H Q := .inl (.inl ⟨p, xs, rfl, .inl h, hx, ha, q⟩)
theorem w_lenL {p : Addr} {ys : List V} (h : SqL K H p ys) (q : Q (.int ys.length) H) : rLenU K [.ref p] H Q := .inl ⟨p, ys, rfl, .inl h, q⟩
theorem w_lenT {p : Addr} {ys : List V} (h : SqT K H p ys) (q : Q (.int ys.length) H) : rLenU K [.ref p] H Q := .inl ⟨p, ys, rfl, .inr h, q⟩
theorem w_lenS {z : Str} (h : z.length ≤ sizeLine) (q : Q (.int z.length) H) : rLenU K [.str z] H Q := .inr ⟨z, rfl, h, q⟩
theorem w_ixL {p : Addr} {xs : List V} {v : V} (h : SqL K H p xs) (e : atI xs i = some v) (q : Q v H) : rIx K (.ref p) (.int i) H Q := .inl ⟨p, xs, i, v, rfl, rfl, h, e, q⟩
theorem w_ixT {p : Addr} {xs : List V} {v : V} (h : SqT K H p xs) (e : atI xs i = some v) (q : Q v H) : rIx K (.ref p) (.int i) H Q := .inr (.inl ⟨p, xs, i, v, rfl, rfl, h, e, q⟩)
theorem w_setL {p : Addr} {xs : List V} {v : V} {j : Nat} {Q : Hp → Prop} (h : H p = some (.lst xs)) (e : ixN xs.length i = some j) (q : Q (upd H p (.lst (xs.set j v)))) : rSetL (.ref p) (.int i) v H Q := ⟨p, xs, i, j, rfl, rfl, h, e, q⟩
theorem w_isi {x : V} {n : String} {t : Value} {b : Bool} (ty : TyX K H x t) (e : PySem.W.kitOne K t (.type n) = some b) (q : Q (.bl b) H) : rIsi K [x, .ty n] H Q := ⟨x, .ty n, t, .type n, b, rfl, .ty n, ty, e, q⟩
/-! isinstance of plain values -/
theorem ty_T {a : Addr} {xs : List V} (h : SqT K H a xs) : TyX K H (.ref a) (.type "tuple") := by
  rcases h with (h | ⟨o, h⟩) | ⟨o, its, n, h, hc, _⟩
  · exact .base (.tup h)
  · exact .fTuple h
  · exact .kTuple h hc
theorem ty_L {a : Addr} {xs : List V} (h : SqL K H a xs) : TyX K H (.ref a) (.type "list") := by
  rcases h with (h | ⟨o, h⟩) | ⟨o, its, n, h, hc, _⟩
  · exact .base (.lst h)
  · exact .base (.frz h)
  · exact .kList h hc
theorem isD_int {a : Addr} {kvs : List (Key × V)} (h : H a = some (.dK kvs)) (q : Q (.bl false) H) : rIsi K [.ref a, .ty "int"] H Q := w_isi (.base (.dK h)) (kit_ty (by decide +kernel)) q
theorem isD_bool {a : Addr} {kvs : List (Key × V)} (h : H a = some (.dK kvs)) (q : Q (.bl false) H) : rIsi K [.ref a, .ty "bool"] H Q := w_isi (.base (.dK h)) (kit_ty (by decide +kernel)) q
theorem isD_str {a : Addr} {kvs : List (Key × V)} (h : H a = some (.dK kvs)) (q : Q (.bl false) H) : rIsi K [.ref a, .ty "str"] H Q := w_isi (.base (.dK h)) (kit_ty (by decide +kernel)) q
theorem isD_tuple {a : Addr} {kvs : List (Key × V)} (h : H a = some (.dK kvs)) (q : Q (.bl false) H) : rIsi K [.ref a, .ty "tuple"] H Q := w_isi (.base (.dK h)) (kit_ty (by decide +kernel)) q
theorem isD_list {a : Addr} {kvs : List (Key × V)} (h : H a = some (.dK kvs)) (q : Q (.bl false) H) : rIsi K [.ref a, .ty "list"] H Q := w_isi (.base (.dK h)) (kit_ty (by decide +kernel)) q
theorem isD_dict {a : Addr} {kvs : List (Key × V)} (h : H a = some (.dK kvs)) (q : Q (.bl true) H) : rIsi K [.ref a, .ty "dict"] H Q := w_isi (.base (.dK h)) (kit_ty (by decide +kernel)) q
theorem isT_int {a : Addr} {xs : List V} (h : SqT K H a xs) (q : Q (.bl false) H) : rIsi K [.ref a, .ty "int"] H Q := w_isi (ty_T h) (kit_ty (by decide +kernel)) q
theorem isT_bool {a : Addr} {xs : List V} (h : SqT K H a xs) (q : Q (.bl false) H) : rIsi K [.ref a, .ty "bool"] H Q := w_isi (ty_T h) (kit_ty (by decide +kernel)) q
theorem isT_str {a : Addr} {xs : List V} (h : SqT K H a xs) (q : Q (.bl false) H) : rIsi K [.ref a, .ty "str"] H Q := w_isi (ty_T h) (kit_ty (by decide +kernel)) q
theorem isT_tuple {a : Addr} {xs : List V} (h : SqT K H a xs) (q : Q (.bl true) H) : rIsi K [.ref a, .ty "tuple"] H Q := w_isi (ty_T h) (kit_ty (by decide +kernel)) q
theorem isT_list {a : Addr} {xs : List V} (h : SqT K H a xs) (q : Q (.bl false) H) : rIsi K [.ref a, .ty "list"] H Q := w_isi (ty_T h) (kit_ty (by decide +kernel)) q
theorem isT_dict {a : Addr} {xs : List V} (h : SqT K H a xs) (q : Q (.bl false) H) : rIsi K [.ref a, .ty "dict"] H Q := w_isi (ty_T h) (kit_ty (by decide +kernel)) q
theorem isL_int {a : Addr} {xs : List V} (h : SqL K H a xs) (q : Q (.bl false) H) : rIsi K [.ref a, .ty "int"] H Q := w_isi (ty_L h) (kit_ty (by decide +kernel)) q
theorem isL_bool {a : Addr} {xs : List V} (h : SqL K H a xs) (q : Q (.bl false) H) : rIsi K [.ref a, .ty "bool"] H Q := w_isi (ty_L h) (kit_ty (by decide +kernel)) q
theorem isL_str {a : Addr} {xs : List V} (h : SqL K H a xs) (q : Q (.bl false) H) : rIsi K [.ref a, .ty "str"] H Q := w_isi (ty_L h) (kit_ty (by decide +kernel)) q
theorem isL_tuple {a : Addr} {xs : List V} (h : SqL K H a xs) (q : Q (.bl false) H) : rIsi K [.ref a, .ty "tuple"] H Q := w_isi (ty_L h) (kit_ty (by decide +kernel)) q
theorem isL_list {a : Addr} {xs : List V} (h : SqL K H a xs) (q : Q (.bl true) H) : rIsi K [.ref a, .ty "list"] H Q := w_isi (ty_L h) (kit_ty (by decide +kernel)) q
theorem isL_dict {a : Addr} {xs : List V} (h : SqL K H a xs) (q : Q (.bl false) H) : rIsi K [.ref a, .ty "dict"] H Q := w_isi (ty_L h) (kit_ty (by decide +kernel)) q
theorem is_non_int (q : Q (.bl false) H) : rIsi K [.non, .ty "int"] H Q := w_isi (.base .non) (kit_ty (by decide +kernel)) q
theorem is_non_bool (q : Q (.bl false) H) : rIsi K [.non, .ty "bool"] H Q := w_isi (.base .non) (kit_ty (by decide +kernel)) q
theorem is_non_str (q : Q (.bl false) H) : rIsi K [.non, .ty "str"] H Q := w_isi (.base .non) (kit_ty (by decide +kernel)) q
theorem is_non_tuple (q : Q (.bl false) H) : rIsi K [.non, .ty "tuple"] H Q := w_isi (.base .non) (kit_ty (by decide +kernel)) q
theorem is_non_list (q : Q (.bl false) H) : rIsi K [.non, .ty "list"] H Q := w_isi (.base .non) (kit_ty (by decide +kernel)) q
theorem is_non_dict (q : Q (.bl false) H) : rIsi K [.non, .ty "dict"] H Q := w_isi (.base .non) (kit_ty (by decide +kernel)) q
theorem is_bl_int {u : Bool} (q : Q (.bl true) H) : rIsi K [(.bl u), .ty "int"] H Q := w_isi (.base (.bl _)) (kit_ty (by decide +kernel)) q
theorem is_bl_bool {u : Bool} (q : Q (.bl true) H) : rIsi K [(.bl u), .ty "bool"] H Q := w_isi (.base (.bl _)) (kit_ty (by decide +kernel)) q
theorem is_bl_str {u : Bool} (q : Q (.bl false) H) : rIsi K [(.bl u), .ty "str"] H Q := w_isi (.base (.bl _)) (kit_ty (by decide +kernel)) q
theorem is_bl_tuple {u : Bool} (q : Q (.bl false) H) : rIsi K [(.bl u), .ty "tuple"] H Q := w_isi (.base (.bl _)) (kit_ty (by decide +kernel)) q
theorem is_bl_list {u : Bool} (q : Q (.bl false) H) : rIsi K [(.bl u), .ty "list"] H Q := w_isi (.base (.bl _)) (kit_ty (by decide +kernel)) q
theorem is_bl_dict {u : Bool} (q : Q (.bl false) H) : rIsi K [(.bl u), .ty "dict"] H Q := w_isi (.base (.bl _)) (kit_ty (by decide +kernel)) q
theorem is_int_int {u : Int} (q : Q (.bl true) H) : rIsi K [(.int u), .ty "int"] H Q := w_isi (.base (.int _)) (kit_ty (by decide +kernel)) q
theorem is_int_bool {u : Int} (q : Q (.bl false) H) : rIsi K [(.int u), .ty "bool"] H Q := w_isi (.base (.int _)) (kit_ty (by decide +kernel)) q
theorem is_int_str {u : Int} (q : Q (.bl false) H) : rIsi K [(.int u), .ty "str"] H Q := w_isi (.base (.int _)) (kit_ty (by decide +kernel)) q
theorem is_int_tuple {u : Int} (q : Q (.bl false) H) : rIsi K [(.int u), .ty "tuple"] H Q := w_isi (.base (.int _)) (kit_ty (by decide +kernel)) q
theorem is_int_list {u : Int} (q : Q (.bl false) H) : rIsi K [(.int u), .ty "list"] H Q := w_isi (.base (.int _)) (kit_ty (by decide +kernel)) q
theorem is_int_dict {u : Int} (q : Q (.bl false) H) : rIsi K [(.int u), .ty "dict"] H Q := w_isi (.base (.int _)) (kit_ty (by decide +kernel)) q
theorem is_str_int {u : Str} (q : Q (.bl false) H) : rIsi K [(.str u), .ty "int"] H Q := w_isi (.base (.str _)) (kit_ty (by decide +kernel)) q
theorem is_str_bool {u : Str} (q : Q (.bl false) H) : rIsi K [(.str u), .ty "bool"] H Q := w_isi (.base (.str _)) (kit_ty (by decide +kernel)) q
theorem is_str_str {u : Str} (q : Q (.bl true) H) : rIsi K [(.str u), .ty "str"] H Q := w_isi (.base (.str _)) (kit_ty (by decide +kernel)) q
theorem is_str_tuple {u : Str} (q : Q (.bl false) H) : rIsi K [(.str u), .ty "tuple"] H Q := w_isi (.base (.str _)) (kit_ty (by decide +kernel)) q
theorem is_str_list {u : Str} (q : Q (.bl false) H) : rIsi K [(.str u), .ty "list"] H Q := w_isi (.base (.str _)) (kit_ty (by decide +kernel)) q
theorem is_str_dict {u : Str} (q : Q (.bl false) H) : rIsi K [(.str u), .ty "dict"] H Q := w_isi (.base (.str _)) (kit_ty (by decide +kernel)) q
theorem w_rU {g : Int → V} (q : Q (g i) H) : rU g (.int i) H Q := ⟨i, rfl, q⟩
theorem dec_int {a b : Int} : decide (V.int a = V.int b) = decide (a = b) := by
  by_cases h : a = b
  · subst h; simp
  · rw [decide_eq_false h, decide_eq_false fun e => h (V.int.inj e)]
theorem dec_str {a b : Str} : decide (V.str a = V.str b) = decide (a = b) := by
  by_cases h : a = b
  · subst h; simp
  · rw [decide_eq_false h, decide_eq_false fun e => h (V.str.inj e)]
theorem dec_bl {a b : Bool} : decide (V.bl a = V.bl b) = decide (a = b) := by
  by_cases h : a = b
  · subst h; simp
  · rw [decide_eq_false h, decide_eq_false fun e => h (V.bl.inj e)]
theorem w_eqI (q : Q (.bl (decide (i = j))) H) : rEqU K (.int i) (.int j) H Q := .inl ⟨rfl, by rw [dec_int]; exact q⟩
theorem w_eqS {a b : Str} (q : Q (.bl (decide (a = b))) H) : rEqU K (.str a) (.str b) H Q := .inl ⟨rfl, by rw [dec_str]; exact q⟩
theorem w_eqB {a b : Bool} (q : Q (.bl (decide (a = b))) H) : rEqU K (.bl a) (.bl b) H Q := .inl ⟨rfl, by rw [dec_bl]; exact q⟩
theorem w_neI (q : Q (.bl (!decide (i = j))) H) : rNeU K (.int i) (.int j) H Q := .inl ⟨rfl, by rw [dec_int]; exact q⟩
theorem w_neS {a b : Str} (q : Q (.bl (!decide (a = b))) H) : rNeU K (.str a) (.str b) H Q := .inl ⟨rfl, by rw [dec_str]; exact q⟩
theorem w_neB {a b : Bool} (q : Q (.bl (!decide (a = b))) H) : rNeU K (.bl a) (.bl b) H Q := .inl ⟨rfl, by rw [dec_bl]; exact q⟩
theorem w_eqD {x y : V} {d e : PyData} (hx : Dp K H x d) (hy : Dp K H y e) (sx : SeqAt.shaped d = true) (sy : SeqAt.shaped e = true) (q : Q (.bl (PyData.eqv d e)) H) : rEqU K x y H Q := .inr ⟨d, e, hx, hy, sx, sy, q⟩
theorem w_neD {x y : V} {d e : PyData} (hx : Dp K H x d) (hy : Dp K H y e) (sx : SeqAt.shaped d = true) (sy : SeqAt.shaped e = true) (q : Q (.bl (!PyData.eqv d e)) H) : rNeU K x y H Q := .inr ⟨d, e, hx, hy, sx, sy, q⟩
end
/-- a new tuple, a new list -/
def MkT (xs : List V) (Q : VK) (H : Hp) : Prop := xs.length ≤ sizeLine ∧ ∀ p, H p = none → Q (.ref p) (upd H p (.tup xs))
def MkL (xs : List V) (Q : VK) (H : Hp) : Prop := xs.length ≤ sizeLine ∧ ∀ p, H p = none → Q (.ref p) (upd H p (.lst xs))
/-! ### steps of a reading -/
section
variable {K : PySem.W.Frag} {σ : L2.St} {H : Hp} {Q : VK} {QB : Bool → Hp → Prop} {QA : List V → Hp → Prop} {ta tb tc : TE} {t u : TT} {v : V} {i : Nat} {r r' : R2}
theorem w_var (h : σ[i]? = some (some v)) (q : Q v H) : tVar i σ H Q := ⟨v, h, q⟩
theorem w_c (q : Q v H) : tC v σ H Q := q
theorem w_op (q : ta σ H fun x H1 => tb σ H1 fun y H2 => r x y H2 Q) : tOp r ta tb σ H Q := q
theorem w_un {r : V → Hp → VK → Prop} (q : ta σ H fun x H1 => r x H1 Q) : tUn r ta σ H Q := q
theorem w_chain (q : ta σ H fun x H1 => tb σ H1 fun y H2 => r x y H2 fun z H3 => ∃ k, z = .bl k ∧ (if k = true then tc σ H3 fun w' H4 => r' y w' H4 Q else Q (.bl false) H3)) : tChain r r' ta tb tc σ H Q := q
theorem w_bl {b : Bool} {P : Bool → Prop} (q : P b) : ∃ k, V.bl b = .bl k ∧ P k := ⟨b, rfl, q⟩
theorem w_test (q : ta σ H fun x H' => ∃ k, x = .bl k ∧ QB k H') : tTest ta σ H QB := q
theorem w_B (q : ta σ H fun x H' => ∃ k, x = .bl k ∧ QB k H') : tB ta σ H QB := q
theorem w_and (q : t σ H fun c H1 => if c = true then u σ H1 QB else QB false H1) : tAnd t u σ H QB := q
theorem w_or (q : t σ H fun c H1 => if c = true then QB true H1 else u σ H1 QB) : tOr t u σ H QB := q
theorem w_not (q : t σ H fun c H1 => QB (!c) H1) : tNot t σ H QB := q
theorem w_andV (q : ta σ H fun x H1 => ∃ c, x = .bl c ∧ if c = true then tb σ H1 Q else Q (.bl false) H1) : tAndV ta tb σ H Q := q
theorem w_orV (q : ta σ H fun x H1 => ∃ c, x = .bl c ∧ if c = true then Q (.bl true) H1 else tb σ H1 Q) : tOrV ta tb σ H Q := q
theorem w_notV (q : ta σ H fun x H1 => ∃ c, x = .bl c ∧ Q (.bl (!c)) H1) : tNotV ta σ H Q := q
theorem w_if (q : t σ H fun c H1 => if c = true then ta σ H1 Q else tb σ H1 Q) : tIf t ta tb σ H Q := q
theorem w_isN (q : ta σ H fun x H1 => Q (.bl (decide (x = .non))) H1) : tIsN ta σ H Q := q
theorem w_notN (q : ta σ H fun x H1 => Q (.bl (!decide (x = .non))) H1) : tNotN ta σ H Q := q
theorem w_nil (q : QA [] H) : tNil σ H QA := q
theorem w_cons {tr : TA} (q : ta σ H fun x H1 => tr σ H1 fun xs H2 => QA (x :: xs) H2) : tCons ta tr σ H QA := q
theorem w_tup {tr : TA} (q : tr σ H fun xs H1 => MkT xs Q H1) : tTup tr σ H Q := q
theorem w_lst {tr : TA} (q : tr σ H fun xs H1 => MkL xs Q H1) : tLst tr σ H Q := q
theorem w_call {sp : Sp} {dvs : List V} {E : XK} {tr : TA} (q : tr σ H fun vs H1 => sp (vs ++ dvs) H1 Q E) : tCall sp dvs E tr σ H Q := q
theorem w_cb {rc : List V → Hp → VK → Prop} {tr : TA} (q : tr σ H fun vs H1 => rc vs H1 Q) : tCB rc tr σ H Q := q
theorem w_bm {T : String} {rm : V → List V → Hp → VK → Prop} {tr : TA} (q : ta σ H fun x H1 => tyV K T x H1 ∧ tr σ H1 fun xs H2 => rm x xs H2 Q) : tBM K T rm ta tr σ H Q := q
theorem w_bm0 {T : String} {rm : V → List V → Hp → VK → Prop} (q : ta σ H fun x H1 => tyV K T x H1 ∧ rm x [] H1 Q) : tBM0 K T rm ta σ H Q := q
end
section
variable {σ : L2.St} {H : Hp} {n b c : L2.St → Hp → Prop} {r : VK} {t u : TS} {te : TE} {tt : TT} {g : TG} {v : V} {i : Nat}
theorem w_cut (M : L2.St → Hp → Prop) (h1 : t ⟨M, r, b, c⟩ σ H) (h2 : ∀ σ' H', M σ' H' → u ⟨n, r, b, c⟩ σ' H') : C8.tCut t u ⟨n, r, b, c⟩ σ H := ⟨M, h1, h2⟩
theorem w_sub' {Q : L2.St → Hp → Prop} {to ti : TE} {ts : TSet} (q : to σ H fun o H1 => ti σ H1 fun i H2 => ts o i v H2 fun H3 => Q σ H3) : gSub to ti ts v σ H Q := q
theorem w_seq (q : t ⟨u ⟨n, r, b, c⟩, r, b, c⟩ σ H) : tSeq t u ⟨n, r, b, c⟩ σ H := q
theorem w_asg (q : te σ H fun x H1 => g x σ H1 n) : tAsg te g ⟨n, r, b, c⟩ σ H := q
theorem w_name {Q : L2.St → Hp → Prop} (q : Q (σ.set i (some v)) H) : gName i v σ H Q := q
theorem w_gcons {t1 : TG} {u1 : TGs} {vs : List V} {Q : L2.St → Hp → Prop} (q : t1 v σ H fun σ' H' => u1 vs σ' H' Q) : gCons t1 u1 (v :: vs) σ H Q := ⟨v, vs, rfl, q⟩
theorem w_gnil {Q : L2.St → Hp → Prop} (q : Q σ H) : gNil [] σ H Q := ⟨rfl, q⟩
theorem w_gtup {K : PySem.W.Frag} {t1 : TGs} {p : Addr} {xs : List V} {m : Nat} {Q : L2.St → Hp → Prop} (h : SqT K H p xs) (hl : xs.length = m) (q : t1 xs σ H Q) : gTup K m t1 (.ref p) σ H Q := ⟨p, xs, rfl, h, hl, q⟩
theorem w_ret (q : te σ H r) : tRet te ⟨n, r, b, c⟩ σ H := q
theorem w_retN (q : r .non H) : tRetN ⟨n, r, b, c⟩ σ H := q
theorem w_drop (q : te σ H fun _ H1 => n σ H1) : tDrop te ⟨n, r, b, c⟩ σ H := q
theorem w_ifS (q : tt σ H fun k H1 => if k = true then t ⟨n, r, b, c⟩ σ H1 else u ⟨n, r, b, c⟩ σ H1) : tIfS tt t u ⟨n, r, b, c⟩ σ H := q
theorem w_next (q : n σ H) : tNext ⟨n, r, b, c⟩ σ H := q
theorem w_break (q : b σ H) : tBreak ⟨n, r, b, c⟩ σ H := q
theorem w_cont (q : c σ H) : tCont ⟨n, r, b, c⟩ σ H := q
end
/-! ### loops -/
/-- the turns of a for over J -/
def FOR (J : It) (g : TG) (tb : TS) (D : Ends) (σ : L2.St) (H1 : Hp) : Prop :=
  ∃ W : Nat → Nat → L2.St → Hp → Prop, (∃ m, W 0 m σ H1) ∧
    ∀ i m σ H, W i m σ H → (J.stop i H ∧ D.nx σ H) ∨ (J.go i H ∧
      ∃ N : L2.St → Hp → Prop, (∀ σ' H', N σ' H' → ∃ m', m' < m ∧ W (i + 1) m' σ' H') ∧
        ∀ x H', J.yld i H x H' → g x σ H' fun σ2 H2 => tb { D with nx := N, ct := N, bk := D.nx } σ2 H2)
section
variable {K : PySem.W.Frag} {σ : L2.St} {H : Hp} {nx b c : L2.St → Hp → Prop} {rt : VK} {g : TG} {tb : TS} {D : Ends}
theorem w_for {wi : TI} (q : wi σ H fun J H1 => FOR J g tb D σ H1) : tFor wi g tb D σ H := q
theorem w_iR1 {ta : TA} {R : It → Hp → Prop} (q : ta σ H fun vs H1 => ∃ j : Int, vs = [.int j] ∧ -(2 ^ 62) ≤ j ∧ j < 2 ^ 62 ∧ R (Itr 0 j.toNat) H1) : iRng1 ta σ H R := q
theorem w_iR2 {ta : TA} {R : It → Hp → Prop} (q : ta σ H fun vs H1 => ∃ i j : Int, vs = [.int i, .int j] ∧ (-(2 ^ 62) ≤ i ∧ i < 2 ^ 62 ∧ -(2 ^ 62) ≤ j ∧ j < 2 ^ 62) ∧ R (Itr i (j - i).toNat) H1) : iRng2 ta σ H R := q
theorem w_iRev {te : TE} {R : It → Hp → Prop} (q : te σ H fun v H1 => ∃ (a : Addr) (xs : List V), v = .ref a ∧ ((SqL K H1 a xs ∧ R (Itv K a xs.length) H1) ∨ (SqT K H1 a xs ∧ R (RT.ItvT K a xs.length) H1))) : iRevU K te σ H R := q
theorem w_iEnum {ta : TA} {R : It → Hp → Prop} (q : ta σ H fun vs H1 => ∃ a xs, vs = [.ref a] ∧ SqL K H1 a xs ∧ R (Ite K a) H1) : iEnumU K ta σ H R := q
theorem w_iL {tl : TE} {R : It → Hp → Prop} (q : tl σ H fun x H1 => ∃ a, x = .ref a ∧ (∃ xs, SqL K H1 a xs) ∧ R (Itl K a) H1) : iList K tl σ H R := q
theorem w_iT {tl : TE} {R : It → Hp → Prop} (q : tl σ H fun x H1 => ∃ a, x = .ref a ∧ (∃ xs, SqT K H1 a xs) ∧ R (Itt K a) H1) : iTup K tl σ H R := q
theorem F_R1 {j : Int} (n : Nat) (hn : j.toNat = n) (h1 : -(2 ^ 62) ≤ j) (h2 : j < 2 ^ 62) (Pv : Nat → L2.St → Hp → Prop) (h0 : Pv 0 σ H)
    (hs : ∀ i σ H, i < n → Pv i σ H → g (.int i) σ H fun σ2 H2 => tb ⟨Pv (i + 1), rt, nx, Pv (i + 1)⟩ σ2 H2) (hd : ∀ σ H, Pv n σ H → nx σ H) :
    ∃ j' : Int, [V.int j] = [.int j'] ∧ -(2 ^ 62) ≤ j' ∧ j' < 2 ^ 62 ∧ FOR (Itr 0 j'.toNat) g tb ⟨nx, rt, b, c⟩ σ H := by
  subst hn
  refine ⟨j, rfl, h1, h2, ?_⟩
  exact for_range (D := ⟨nx, rt, b, c⟩) Pv h0 (fun i σ H hi p => by rw [Int.zero_add]; exact hs i σ H hi p) hd
theorem F_L {a : Addr} {xs : List V} (h : SqL K H a xs) (Pv : Nat → L2.St → Hp → Prop) (h0 : Pv 0 σ H) (hl : ∀ i σ H, i ≤ xs.length → Pv i σ H → SqL K H a xs)
    (hs : ∀ i x σ H, xs[i]? = some x → Pv i σ H → g x σ H fun σ2 H2 => tb ⟨Pv (i + 1), rt, nx, Pv (i + 1)⟩ σ2 H2) (hd : ∀ σ H, Pv xs.length σ H → nx σ H) :
    ∃ a', V.ref a = .ref a' ∧ (∃ ys, SqL K H a' ys) ∧ FOR (Itl K a') g tb ⟨nx, rt, b, c⟩ σ H :=
  ⟨a, rfl, ⟨xs, h⟩, for_list (D := ⟨nx, rt, b, c⟩) Pv h0 hl hs hd⟩
theorem F_T {a : Addr} {xs : List V} (h : SqT K H a xs) (Pv : Nat → L2.St → Hp → Prop) (h0 : Pv 0 σ H) (hl : ∀ i σ H, i ≤ xs.length → Pv i σ H → SqT K H a xs)
    (hs : ∀ i x σ H, xs[i]? = some x → Pv i σ H → g x σ H fun σ2 H2 => tb ⟨Pv (i + 1), rt, nx, Pv (i + 1)⟩ σ2 H2) (hd : ∀ σ H, Pv xs.length σ H → nx σ H) :
    ∃ a', V.ref a = .ref a' ∧ (∃ ys, SqT K H a' ys) ∧ FOR (Itt K a') g tb ⟨nx, rt, b, c⟩ σ H :=
  ⟨a, rfl, ⟨xs, h⟩, for_tup (D := ⟨nx, rt, b, c⟩) Pv h0 hl hs hd⟩
/-- a while by an invariant with a measure -/
theorem w_while {tt : TT} (W : Nat → L2.St → Hp → Prop) (m0 : Nat) (h0 : W m0 σ H)
    (hs : ∀ m σ' H', W m σ' H' → tt σ' H' fun k H1 => if k = true then tb ⟨fun σ2 H2 => ∃ m', m' < m ∧ W m' σ2 H2, rt, nx, fun σ2 H2 => ∃ m', m' < m ∧ W m' σ2 H2⟩ σ' H1 else nx σ' H1)
    (mono : ∀ σ H (Q Q' : Bool → Hp → Prop), (∀ k H1, Q k H1 → Q' k H1) → tt σ H Q → tt σ H Q') : tWhile tt tb ⟨nx, rt, b, c⟩ σ H := by
  refine ⟨W, ⟨m0, h0⟩, fun m σ' H' w => mono σ' H' _ _ (fun k H1 q => ?_) (hs m σ' H' w)⟩
  cases k with
  | true => exact ⟨_, fun _ _ z => z, q⟩
  | false => exact q
/-- .. the measure's step told at the test's end -/
theorem w_whileN {tt : TT} (W : Nat → L2.St → Hp → Prop) (m0 : Nat) (h0 : W m0 σ H)
    (hs : ∀ m σ' H', W m σ' H' → tt σ' H' fun k H1 => if k = true then ∃ N : L2.St → Hp → Prop, (∀ σ2 H2, N σ2 H2 → ∃ m', m' < m ∧ W m' σ2 H2) ∧ tb ⟨N, rt, nx, N⟩ σ' H1 else nx σ' H1) : tWhile tt tb ⟨nx, rt, b, c⟩ σ H := ⟨W, ⟨m0, h0⟩, hs⟩
theorem w_N {m : Nat} {W : Nat → L2.St → Hp → Prop} (q : tb ⟨fun σ2 H2 => ∃ m', m' < m ∧ W m' σ2 H2, rt, nx, fun σ2 H2 => ∃ m', m' < m ∧ W m' σ2 H2⟩ σ H) : ∃ N : L2.St → Hp → Prop, (∀ σ2 H2, N σ2 H2 → ∃ m', m' < m ∧ W m' σ2 H2) ∧ tb ⟨N, rt, nx, N⟩ σ H := ⟨_, fun _ _ z => z, q⟩
/-- the turns of a comprehension over J -/
def LC (J : It) (g : TG) (tt : TT) (te : TE) (vs : List Nat) (σ : L2.St) (D : Addr) (Q : VK) (H1 : Hp) : Prop :=
  ∃ W : Nat → Nat → Hp → Prop, (∃ m, W 0 m H1) ∧ ∀ i m H, W i m H → (J.stop i H ∧ Q (.ref D) H) ∨ (J.go i H ∧
    ∃ Nx : Hp → Prop, (∀ H', Nx H' → ∃ m', m' < m ∧ W (i + 1) m' H') ∧ ∀ x H', J.yld i H x H' → g x (wipe σ vs) H' fun σ2 H2 => wipe σ2 vs = wipe σ vs ∧
      tt σ2 H2 fun k H3 => if k = true then te σ2 H3 fun y H4 => ∃ acc, H4 D = some (.lst acc) ∧ acc.length < sizeLine ∧ Nx (upd H4 D (.lst (acc ++ [y]))) else Nx H3)
theorem w_lc {wi : TI} {tt : TT} {te : TE} {vs : List Nat} {Q : VK} (q : wi σ H fun J H1 => ∀ D, H1 D = none → LC J g tt te vs σ D Q (upd H1 D (.lst []))) : tLc wi g tt te vs σ H Q := q
theorem LC_L {a : Addr} {xs : List V} {tt : TT} {te : TE} {vs : List Nat} {Q : VK} (h : SqL K H a xs) (q : ∀ D, H D = none → LC (Itl K a) g tt te vs σ D Q (upd H D (.lst []))) :
    ∃ a', V.ref a = .ref a' ∧ (∃ ys, SqL K H a' ys) ∧ ∀ D, H D = none → LC (Itl K a') g tt te vs σ D Q (upd H D (.lst [])) := ⟨a, rfl, ⟨xs, h⟩, q⟩
theorem LC_T {a : Addr} {xs : List V} {tt : TT} {te : TE} {vs : List Nat} {Q : VK} (h : SqT K H a xs) (q : ∀ D, H D = none → LC (Itt K a) g tt te vs σ D Q (upd H D (.lst []))) :
    ∃ a', V.ref a = .ref a' ∧ (∃ ys, SqT K H a' ys) ∧ ∀ D, H D = none → LC (Itt K a') g tt te vs σ D Q (upd H D (.lst [])) := ⟨a, rfl, ⟨xs, h⟩, q⟩
theorem LC_by {a D : Addr} {xs : List V} {tt : TT} {te : TE} {vs : List Nat} {Q : VK} (Pv : Nat → Hp → Prop) (h0 : Pv 0 (upd H D (.lst []))) (hl : ∀ i H, i ≤ xs.length → Pv i H → SqL K H a xs)
    (hs : ∀ i x H, xs[i]? = some x → Pv i H → g x (wipe σ vs) H fun σ2 H2 => wipe σ2 vs = wipe σ vs ∧ tt σ2 H2 fun k H3 =>
      if k = true then te σ2 H3 fun y H4 => ∃ acc, H4 D = some (.lst acc) ∧ acc.length < sizeLine ∧ Pv (i + 1) (upd H4 D (.lst (acc ++ [y]))) else Pv (i + 1) H3)
    (hd : ∀ H, Pv xs.length H → Q (.ref D) H) : LC (Itl K a) g tt te vs σ D Q (upd H D (.lst [])) := lc_list (xs := xs) Pv h0 hl hs hd
theorem LC_R1 {j : Int} {tt : TT} {te : TE} {vs : List Nat} {Q : VK} (n : Nat) (hn : j.toNat = n) (h1 : -(2 ^ 62) ≤ j) (h2 : j < 2 ^ 62)
    (q : ∀ D, H D = none → ∃ Pv : Nat → Hp → Prop, Pv 0 (upd H D (.lst [])) ∧ (∀ (i : Nat) H', i < n → Pv i H' → g (.int i) (wipe σ vs) H' fun σ2 H2 => wipe σ2 vs = wipe σ vs ∧ tt σ2 H2 fun k H3 =>
      if k = true then te σ2 H3 fun y H4 => ∃ acc, H4 D = some (.lst acc) ∧ acc.length < sizeLine ∧ Pv (i + 1) (upd H4 D (.lst (acc ++ [y]))) else Pv (i + 1) H3) ∧ ∀ H', Pv n H' → Q (.ref D) H') :
    ∃ j' : Int, [V.int j] = [.int j'] ∧ -(2 ^ 62) ≤ j' ∧ j' < 2 ^ 62 ∧ ∀ D, H D = none → LC (Itr 0 j'.toNat) g tt te vs σ D Q (upd H D (.lst [])) := by
  subst hn
  refine ⟨j, rfl, h1, h2, fun D hD => ?_⟩
  obtain ⟨Pv, p0, ps, pd⟩ := q D hD
  exact lc_range Pv p0 (fun i H hi p => by rw [Int.zero_add]; exact ps i H hi p) pd
theorem w_wipe {σ1 σ2 : L2.St} {vs : List Nat} {B : Prop} (h : wipe σ2 vs = wipe σ1 vs) (q : B) : wipe σ2 vs = wipe σ1 vs ∧ B := ⟨h, q⟩
theorem w_yes {Q : Bool → Hp → Prop} (q : Q true H) : tYes σ H Q := q
end
/-- a test's outcome, as a proposition -/
theorem ite_d {c : Prop} [Decidable c] {A B : Prop} (h1 : c → A) (h2 : ¬ c → B) : if decide c = true then A else B := by
  by_cases h : c
  · rw [if_pos (decide_eq_true h)]; exact h1 h
  · rw [if_neg (by rw [decide_eq_false h]; decide)]; exact h2 h
theorem ite_nd {c : Prop} [Decidable c] {A B : Prop} (h1 : ¬ c → A) (h2 : c → B) : if (!decide c) = true then A else B := by
  by_cases h : c
  · rw [if_neg (by rw [decide_eq_true h]; decide)]; exact h2 h
  · rw [if_pos (by rw [decide_eq_false h]; decide)]; exact h1 h
theorem iteNT {A B : Prop} (h : B) : if (!true) = true then A else B := h
theorem iteNF {A B : Prop} (h : A) : if (!false) = true then A else B := h
theorem ite_b {k : Bool} {A B : Prop} (h1 : k = true → A) (h2 : k = false → B) : if k = true then A else B := by
  cases k
  · exact h2 rfl
  · exact h1 rfl
/-! ### heaps -/
/-- all that was tracked, but for S, is as it was -/
def Fr (S : List Addr) (H H' : Hp) : Prop := ∀ a o, H a = some o → a ∉ S → H' a = some o
theorem Fr.refl {S : List Addr} {H : Hp} : Fr S H H := fun _ _ h _ => h
theorem Fr.trans {S : List Addr} {H H1 H2 : Hp} (a : Fr S H H1) (b : Fr S H1 H2) : Fr S H H2 := fun x o h n => b x o (a x o h n) n
theorem Fr.new {S : List Addr} {H : Hp} {p : Addr} {o : HO} (h : H p = none) : Fr S H (upd H p o) := fun a u e _ => by
  rw [upd_ne (ne_of_none e h)]
  exact e
theorem Fr.mut {S : List Addr} {H : Hp} {p : Addr} {o : HO} (h : p ∈ S) : Fr S H (upd H p o) := fun a u e n => by
  rw [upd_ne (by rintro rfl; exact n h)]
  exact e
theorem Fr.mono {S S' : List Addr} {H H' : Hp} (a : Fr S H H') (h : ∀ x ∈ S, x ∈ S') : Fr S' H H' := fun x o e n => a x o e fun z => n (h x z)
theorem Fr.free {H H' : Hp} (e : Fr [] H H') {l : Addr} (h : H' l = none) : H l = none := by
  cases q : H l with
  | none => rfl
  | some o =>
    rw [e l o q (by simp)] at h
    cases h
/-- what is new may change -/
theorem Fr.new_mut {S : List Addr} {H H' : Hp} {p : Addr} (hp : H p = none) (a : Fr (p :: S) H H') : Fr S H H' := fun x o e n => a x o e (by
  intro z
  rcases List.mem_cons.mp z with z | z
  · subst z; rw [hp] at e; cases e
  · exact n z)
theorem Fr.seqL {S : List Addr} {K : PySem.W.Frag} {H H' : Hp} {a : Addr} {xs : List V} (e : Fr S H H') (h : SqL K H a xs) (n : a ∉ S) : SqL K H' a xs := by
  rcases h with (h | ⟨o, h⟩) | h
  · exact .inl (.inl (e _ _ h n))
  · exact .inl (.inr ⟨o, e _ _ h n⟩)
  · exact .inr h
theorem Fr.seqT {S : List Addr} {K : PySem.W.Frag} {H H' : Hp} {a : Addr} {xs : List V} (e : Fr S H H') (h : SqT K H a xs) (n : a ∉ S) : SqT K H' a xs := by
  rcases h with (h | ⟨o, h⟩) | h
  · exact .inl (.inl (e _ _ h n))
  · exact .inl (.inr ⟨o, e _ _ h n⟩)
  · exact .inr h
/-- an open place of a list of ints all of which hold P -/
theorem at_all {ns : List Int} {P : Int → Prop} (hP : ∀ z ∈ ns, P z) {p : Int} (h0 : 0 ≤ p) (h : p < ns.length) : ∃ z, atI (ns.map V.int) p = some (.int z) ∧ P z := by
  have hk : p.toNat < ns.length := by omega
  have ek : p = ((p.toNat : Nat) : Int) := by omega
  have key : atI (ns.map V.int) ((p.toNat : Nat) : Int) = some (.int ns[p.toNat]) := atI_nat (by rw [List.getElem?_map, List.getElem?_eq_getElem hk] <;> rfl)
  rw [← ek] at key
  exact ⟨_, key, hP _ (List.getElem_mem hk)⟩
theorem at_str {ns : List Str} {P : Str → Prop} (hP : ∀ z ∈ ns, P z) {p : Int} (h0 : 0 ≤ p) (h : p < ns.length) : ∃ z, atI (ns.map V.str) p = some (.str z) ∧ P z := by
  have hk : p.toNat < ns.length := by omega
  have ek : p = ((p.toNat : Nat) : Int) := by omega
  have key : atI (ns.map V.str) ((p.toNat : Nat) : Int) = some (.str ns[p.toNat]) := atI_nat (by rw [List.getElem?_map, List.getElem?_eq_getElem hk] <;> rfl)
  rw [← ek] at key
  exact ⟨_, key, hP _ (List.getElem_mem hk)⟩
theorem at_int {ns : List Int} {p : Int} (h0 : 0 ≤ p) (h : p < ns.length) : ∃ z, atI (ns.map V.int) p = some (.int z) ∧ ns[p.toNat]? = some z := by
  have hk : p.toNat < ns.length := by omega
  have ek : p = ((p.toNat : Nat) : Int) := by omega
  have key : atI (ns.map V.int) ((p.toNat : Nat) : Int) = some (.int ns[p.toNat]) := atI_nat (by rw [List.getElem?_map, List.getElem?_eq_getElem hk] <;> rfl)
  rw [← ek] at key
  exact ⟨_, key, List.getElem?_eq_getElem hk⟩
end U

namespace U
open PySem PySem.Spec PyProof.Rows L2
/-! ### data of tuples all the way down: nothing changes it -/
mutual
inductive Dt (K : PySem.W.Frag) (H : Hp) : V → PyData → Prop
  | non : Dt K H .non .none
  | bl (b : Bool) : Dt K H (.bl b) (.bool b)
  | int (i : Int) : Dt K H (.int i) (.int i)
  | str (x : Str) : Dt K H (.str x) (.str x)
  | tup {p : Addr} {vs : List V} {es : List PyData} : SqT K H p vs → DtAll K H vs es → Dt K H (.ref p) (.tuple es)
inductive DtAll (K : PySem.W.Frag) (H : Hp) : List V → List PyData → Prop
  | nil : DtAll K H [] []
  | cons {v : V} {vs : List V} {e : PyData} {es : List PyData} : Dt K H v e → DtAll K H vs es → DtAll K H (v :: vs) (e :: es)
end
/-- tuples stand -/
def Tu (H H' : Hp) : Prop := ∀ a xs, (H a = some (.tup xs) → H' a = some (.tup xs)) ∧ ∀ o, H a = some (.frz o (.tup xs)) → H' a = some (.frz o (.tup xs))
theorem Tu.refl {H : Hp} : Tu H H := fun _ _ => ⟨id, fun _ => id⟩
theorem Tu.trans {H H1 H2 : Hp} (a : Tu H H1) (b : Tu H1 H2) : Tu H H2 := fun x xs => ⟨fun h => (b x xs).1 ((a x xs).1 h), fun o h => (b x xs).2 o ((a x xs).2 o h)⟩
theorem Fr.tu {H H' : Hp} (f : Fr [] H H') : Tu H H' := fun a xs => ⟨fun h => f a _ h (by simp), fun o h => f a _ h (by simp)⟩
theorem Fr.tu1 {H H' : Hp} {t : Addr} {xs : List V} (f : Fr [t] H H') (h : H t = some (.lst xs)) : Tu H H' := fun a ys =>
  ⟨fun e => f a _ e (by intro z; rw [List.mem_singleton.mp z, h] at e; cases e), fun o e => f a _ e (by intro z; rw [List.mem_singleton.mp z, h] at e; cases e)⟩
theorem Tu.mut {H : Hp} {q : Addr} {xs : List V} {o : HO} (h : H q = some (.lst xs)) : Tu H (upd H q o) := fun a ys =>
  ⟨fun e => by rw [upd_ne (by rintro rfl; rw [h] at e; cases e)]; exact e, fun o e => by rw [upd_ne (by rintro rfl; rw [h] at e; cases e)]; exact e⟩
theorem Tu.new {H : Hp} {q : Addr} {o : HO} (h : H q = none) : Tu H (upd H q o) := (Fr.new h).tu
theorem Tu.seqT {K : PySem.W.Frag} {H H' : Hp} {a : Addr} {xs : List V} (e : Tu H H') (h : SqT K H a xs) : SqT K H' a xs := by
  rcases h with (h | ⟨o, h⟩) | h
  · exact .inl (.inl ((e a xs).1 h))
  · exact .inl (.inr ⟨o, (e a xs).2 o h⟩)
  · exact .inr h
section
variable {K : PySem.W.Frag} {H H' : Hp}
mutual
theorem Dt.mono (f : Tu H H') : ∀ {v : V} {d : PyData}, Dt K H v d → Dt K H' v d
  | _, _, .non => .non
  | _, _, .bl b => .bl b
  | _, _, .int i => .int i
  | _, _, .str x => .str x
  | _, _, .tup s a => .tup (f.seqT s) (DtAll.mono f a)
theorem DtAll.mono (f : Tu H H') : ∀ {vs : List V} {ds : List PyData}, DtAll K H vs ds → DtAll K H' vs ds
  | _, _, .nil => .nil
  | _, _, .cons a b => .cons (Dt.mono f a) (DtAll.mono f b)
end
mutual
theorem Dt.dp : ∀ {v : V} {d : PyData}, Dt K H v d → Dp K H v d
  | _, _, .non => .non
  | _, _, .bl b => .bl b
  | _, _, .int i => .int i
  | _, _, .str x => .str x
  | _, _, .tup s a => .tup s (DtAll.dp a)
theorem DtAll.dp : ∀ {vs : List V} {ds : List PyData}, DtAll K H vs ds → DpAll K H vs ds
  | _, _, .nil => .nil
  | _, _, .cons a b => .cons (Dt.dp a) (DtAll.dp b)
end
theorem DtAll.length : ∀ {vs : List V} {ds : List PyData}, DtAll K H vs ds → vs.length = ds.length
  | _, _, .nil => rfl
  | _, _, .cons _ b => by rw [List.length_cons, List.length_cons, DtAll.length b]
theorem DtAll.append : ∀ {vs us : List V} {ds es : List PyData}, DtAll K H vs ds → DtAll K H us es → DtAll K H (vs ++ us) (ds ++ es)
  | _, _, _, _, .nil, h => h
  | _, _, _, _, .cons a b, h => .cons a (DtAll.append b h)
theorem DtAll.take : ∀ {vs : List V} {ds : List PyData} (n : Nat), DtAll K H vs ds → DtAll K H (vs.take n) (ds.take n)
  | _, _, 0, _ => .nil
  | _, _, _ + 1, .nil => .nil
  | _, _, n + 1, .cons a b => .cons a (DtAll.take n b)
theorem DtAll.drop : ∀ {vs : List V} {ds : List PyData} (n : Nat), DtAll K H vs ds → DtAll K H (vs.drop n) (ds.drop n)
  | _, _, 0, h => h
  | _, _, _ + 1, .nil => .nil
  | _, _, n + 1, .cons a b => DtAll.drop n b
theorem DtAll.get : ∀ {vs : List V} {ds : List PyData} {i : Nat} {v : V}, DtAll K H vs ds → vs[i]? = some v → ∃ d, ds[i]? = some d ∧ Dt K H v d
  | _, _, i, _, .nil, h => by simp at h
  | _, _, 0, v, .cons a b, h => by
    simp at h
    subst h
    exact ⟨_, rfl, a⟩
  | _, _, i + 1, v, .cons a b, h => by
    obtain ⟨d, h1, h2⟩ := DtAll.get (i := i) b (by simpa using h)
    exact ⟨d, by simpa using h1, h2⟩
theorem DtAll.get' {vs : List V} {ds : List PyData} {i : Nat} {d : PyData} (h : DtAll K H vs ds) (e : ds[i]? = some d) : ∃ v, vs[i]? = some v ∧ Dt K H v d := by
  have hi := (List.getElem?_eq_some_iff.mp e).1
  rw [← h.length] at hi
  obtain ⟨d', h1, h2⟩ := h.get (List.getElem?_eq_getElem hi)
  rw [e] at h1
  cases h1
  exact ⟨_, List.getElem?_eq_getElem hi, h2⟩
theorem Dt.tuple {v : V} {ds : List PyData} (h : Dt K H v (.tuple ds)) : ∃ p vs, v = .ref p ∧ SqT K H p vs ∧ DtAll K H vs ds := by
  cases h with
  | tup s a => exact ⟨_, _, rfl, s, a⟩
theorem Dt.of_int {v : V} {i : Int} (h : Dt K H v (.int i)) : v = .int i := by cases h; rfl
theorem Dt.of_str {v : V} {x : Str} (h : Dt K H v (.str x)) : v = .str x := by cases h; rfl
theorem Dt.of_bl {v : V} {b : Bool} (h : Dt K H v (.bool b)) : v = .bl b := by cases h; rfl
theorem Dt.of_non {v : V} (h : Dt K H v .none) : v = .non := by cases h; rfl
theorem DtAll.ints : ∀ (ns : List Int), DtAll K H (ns.map V.int) (ns.map PyData.int)
  | [] => .nil
  | n :: r => .cons (.int n) (DtAll.ints r)
end
/-! ### a list of such -/
def Lq (K : PySem.W.Frag) (H : Hp) (q : Addr) (ds : List PyData) : Prop := ∃ vs, H q = some (.lst vs) ∧ DtAll K H vs ds
section
variable {K : PySem.W.Frag} {H H' : Hp} {q : Addr} {ds : List PyData}
theorem Lq.fr {S : List Addr} (h : Lq K H q ds) (f : Fr S H H') (n : q ∉ S) (t : Tu H H') : Lq K H' q ds := by
  obtain ⟨vs, e, a⟩ := h
  exact ⟨vs, f _ _ e n, a.mono t⟩
theorem Lq.fr0 (h : Lq K H q ds) (f : Fr [] H H') : Lq K H' q ds := h.fr f (by simp) f.tu
theorem Lq.dp (h : Lq K H q ds) : Dp K H (.ref q) (.list ds) := by
  obtain ⟨vs, e, a⟩ := h
  exact .lst (SqL.of e) a.dp
theorem lay_list {n : Nat} (h : ∀ d ∈ ds, d.canLay0 = true ∧ d.depth ≤ n) : PyData.canLayAll0 ds = true ∧ PyData.depthAll ds ≤ n := by
  induction ds with
  | nil => exact ⟨by simp [PyData.canLayAll0], by simp [PyData.depthAll]⟩
  | cons d r ih =>
    have h1 := h d List.mem_cons_self
    have h2 := ih fun x hx => h x (List.mem_cons_of_mem _ hx)
    constructor
    · simp [PyData.canLayAll0, h1.1, h2.1]
    · simp only [PyData.depthAll]
      exact Nat.max_le.mpr ⟨h1.2, h2.2⟩
theorem shaped_list {n : Nat} (hn : n < 64) (h : ∀ d ∈ ds, d.canLay0 = true ∧ d.depth ≤ n) : SeqAt.shaped (.list ds) = true := by
  have k := lay_list h
  unfold SeqAt.shaped
  rw [Bool.and_eq_true]
  refine ⟨by simp only [PyData.canLay0]; exact k.1, decide_eq_true ?_⟩
  simp only [PyData.depth]
  omega
theorem shaped_tuple {n : Nat} (hn : n < 64) (h : ∀ d ∈ ds, d.canLay0 = true ∧ d.depth ≤ n) : SeqAt.shaped (.tuple ds) = true := by
  have k := lay_list h
  unfold SeqAt.shaped
  rw [Bool.and_eq_true]
  refine ⟨by simp only [PyData.canLay0]; exact k.1, decide_eq_true ?_⟩
  simp only [PyData.depth]
  omega
theorem lay_shaped {d : PyData} (h : d.canLay0 = true ∧ d.depth ≤ 64) : SeqAt.shaped d = true := by
  unfold SeqAt.shaped
  rw [Bool.and_eq_true]
  exact ⟨h.1, decide_eq_true h.2⟩
theorem shaped_refl {d : PyData} (h : SeqAt.shaped d = true) : PyData.eqv d d = true := SeqAt.eqv_refl d (SeqAt.canLay_of_shaped h)
theorem w_eqR {Q : VK} {x y : V} {d : PyData} (hx : Dp K H x d) (hy : Dp K H y d) (s : SeqAt.shaped d = true) (q : Q (.bl true) H) : rEqU K x y H Q := w_eqD hx hy s s (by rw [shaped_refl s]; exact q)
theorem w_neR {Q : VK} {x y : V} {d : PyData} (hx : Dp K H x d) (hy : Dp K H y d) (s : SeqAt.shaped d = true) (q : Q (.bl false) H) : rNeU K x y H Q := w_neD hx hy s s (by rw [shaped_refl s]; exact q)
theorem w_app {l : Addr} {xs : List V} {y : V} {Q : VK} (h : H l = some (.lst xs)) (n : xs.length ≤ 1000000) (q : Q .non (upd H l (.lst (xs ++ [y])))) : tyV K "list" (.ref l) H ∧ rAppend (.ref l) [y] H Q :=
  ⟨.inl ⟨rfl, _, SqL.of h⟩, l, xs, y, rfl, rfl, h, Nat.lt_of_le_of_lt n (by decide), q⟩
end
theorem cut_take {xs : List V} (n : Nat) : cutV xs none (some (n : Int)) = xs.take n := by
  unfold cutV
  rw [HT.sIx_none, HT.sIx_nat, List.drop_zero, Nat.sub_zero]
  by_cases h : n ≤ xs.length
  · rw [Nat.min_eq_left h]
  · rw [Nat.min_eq_right (by omega), List.take_length, List.take_of_length_le (by omega)]
theorem cut_drop {xs : List V} (n : Nat) : cutV xs (some (n : Int)) none = xs.drop n := by
  unfold cutV
  rw [HT.sIx_none, HT.sIx_nat]
  by_cases h : n ≤ xs.length
  · rw [Nat.min_eq_left h, List.take_of_length_le (by rw [List.length_drop]; omega)]
  · rw [Nat.min_eq_right (by omega), Nat.sub_self, List.take_zero, List.drop_eq_nil_of_le (by omega)]
/-- == with an empty list -/
theorem w_eqNil {Q : VK} {K : PySem.W.Frag} {H : Hp} {x e : Addr} {ds : List PyData} (hx : Dp K H (.ref x) (.list ds)) (he : H e = some (.lst [])) (s : SeqAt.shaped (.list ds) = true) (q : Q (.bl ds.isEmpty) H) : rEqU K (.ref x) (.ref e) H Q :=
  w_eqD hx (.lst (SqL.of he) .nil) s (by decide) (by
    cases ds with
    | nil => exact q
    | cons d r => exact q)
theorem w_neNil {Q : VK} {K : PySem.W.Frag} {H : Hp} {x e : Addr} {ds : List PyData} (hx : Dp K H (.ref x) (.list ds)) (he : H e = some (.lst [])) (s : SeqAt.shaped (.list ds) = true) (q : Q (.bl (!ds.isEmpty)) H) : rNeU K (.ref x) (.ref e) H Q :=
  w_neD hx (.lst (SqL.of he) .nil) s (by decide) (by
    cases ds with
    | nil => exact q
    | cons d r => exact q)
theorem take_fold {α β : Type} {f : β → α → β} {b : β} {xs : List α} {i : Nat} {x : α} (h : xs[i]? = some x) : (xs.take (i + 1)).foldl f b = f ((xs.take i).foldl f b) x := by
  rw [List.take_add_one, h, List.foldl_append]
  rfl
theorem take_map {α β : Type} {f : α → β} {xs : List α} {i : Nat} {x : α} (h : xs[i]? = some x) : (xs.take (i + 1)).map f = (xs.take i).map f ++ [f x] := by
  rw [List.take_add_one, h, List.map_append]
  rfl
theorem take_filt {α : Type} {f : α → Bool} {xs : List α} {i : Nat} {x : α} (h : xs[i]? = some x) : (xs.take (i + 1)).filter f = (xs.take i).filter f ++ (if f x then [x] else []) := by
  rw [List.take_add_one, h, List.filter_append]
  show _ ++ List.filter f [x] = _
  rw [List.filter_cons, List.filter_nil]
/-! ### any plain data (a dict: that it is one) -/
mutual
inductive Dg (K : PySem.W.Frag) (H : Hp) : V → PyData → Prop
  | non : Dg K H .non .none
  | bl (b : Bool) : Dg K H (.bl b) (.bool b)
  | int (i : Int) : Dg K H (.int i) (.int i)
  | str (x : Str) : Dg K H (.str x) (.str x)
  | tup {p : Addr} {vs : List V} {es : List PyData} : SqT K H p vs → DgAll K H vs es → Dg K H (.ref p) (.tuple es)
  | lst {p : Addr} {vs : List V} {es : List PyData} : SqL K H p vs → DgAll K H vs es → Dg K H (.ref p) (.list es)
  | dct {p : Addr} {kvs : List (Key × V)} {es : List (PyData × PyData)} : H p = some (.dK kvs) → Dg K H (.ref p) (.dict es)
inductive DgAll (K : PySem.W.Frag) (H : Hp) : List V → List PyData → Prop
  | nil : DgAll K H [] []
  | cons {v : V} {vs : List V} {e : PyData} {es : List PyData} : Dg K H v e → DgAll K H vs es → DgAll K H (v :: vs) (e :: es)
end
section
variable {K : PySem.W.Frag} {H H' : Hp}
mutual
theorem Dg.fr (f : Fr [] H H') : ∀ {v : V} {d : PyData}, Dg K H v d → Dg K H' v d
  | _, _, .non => .non
  | _, _, .bl b => .bl b
  | _, _, .int i => .int i
  | _, _, .str x => .str x
  | _, _, .tup s a => .tup (f.seqT s (by simp)) (DgAll.fr f a)
  | _, _, .lst s a => .lst (f.seqL s (by simp)) (DgAll.fr f a)
  | _, _, .dct h => .dct (f _ _ h (by simp))
theorem DgAll.fr (f : Fr [] H H') : ∀ {vs : List V} {ds : List PyData}, DgAll K H vs ds → DgAll K H' vs ds
  | _, _, .nil => .nil
  | _, _, .cons a b => .cons (Dg.fr f a) (DgAll.fr f b)
end
mutual
theorem Dt.dg : ∀ {v : V} {d : PyData}, Dt K H v d → Dg K H v d
  | _, _, .non => .non
  | _, _, .bl b => .bl b
  | _, _, .int i => .int i
  | _, _, .str x => .str x
  | _, _, .tup s a => .tup s (DtAll.dg a)
theorem DtAll.dg : ∀ {vs : List V} {ds : List PyData}, DtAll K H vs ds → DgAll K H vs ds
  | _, _, .nil => .nil
  | _, _, .cons a b => .cons (Dt.dg a) (DtAll.dg b)
end
theorem DgAll.length : ∀ {vs : List V} {ds : List PyData}, DgAll K H vs ds → vs.length = ds.length
  | _, _, .nil => rfl
  | _, _, .cons _ b => by rw [List.length_cons, List.length_cons, DgAll.length b]
theorem DgAll.get : ∀ {vs : List V} {ds : List PyData} {i : Nat} {v : V}, DgAll K H vs ds → vs[i]? = some v → ∃ d, ds[i]? = some d ∧ Dg K H v d
  | _, _, i, _, .nil, h => by simp at h
  | _, _, 0, v, .cons a b, h => by
    simp at h
    subst h
    exact ⟨_, rfl, a⟩
  | _, _, i + 1, v, .cons a b, h => by
    obtain ⟨d, h1, h2⟩ := DgAll.get (i := i) b (by simpa using h)
    exact ⟨d, by simpa using h1, h2⟩
end
theorem Lq.dg {K : PySem.W.Frag} {H : Hp} {l : Addr} {ds : List PyData} (h : Lq K H l ds) : Dg K H (.ref l) (.list ds) := by
  obtain ⟨vs, e, a⟩ := h
  exact .lst (SqL.of e) a.dg
/-! ### displays, append: what is known of them behind -/
theorem mkT {K : PySem.W.Frag} {H : Hp} {xs : List V} {ds : List PyData} {Q : VK} (d : DtAll K H xs ds) (q : ∀ p H', H p = none → Fr [] H H' → Dt K H' (.ref p) (.tuple ds) → Q (.ref p) H') (n : xs.length ≤ 1000 := by exact Nat.le_of_ble_eq_true rfl) : MkT xs Q H :=
  ⟨Nat.le_trans n (by decide), fun p hp => q p _ hp (Fr.new hp) (.tup (.inl (.inl upd_same)) (d.mono (Tu.new hp)))⟩
theorem mkL {K : PySem.W.Frag} {H : Hp} {xs : List V} {ds : List PyData} {Q : VK} (d : DtAll K H xs ds) (q : ∀ p H', H p = none → Fr [] H H' → Lq K H' p ds → Q (.ref p) H') (n : xs.length ≤ 1000 := by exact Nat.le_of_ble_eq_true rfl) : MkL xs Q H :=
  ⟨Nat.le_trans n (by decide), fun p hp => q p _ hp (Fr.new hp) ⟨xs, upd_same, d.mono (Tu.new hp)⟩⟩
/-- a list of ints, of texts -/
theorem mkI {H : Hp} {ns : List Int} {xs : List V} {Q : VK} (e : xs = ns.map V.int) (q : ∀ p H', H p = none → Fr [] H H' → H' p = some (.lst (ns.map V.int)) → Q (.ref p) H') (n : xs.length ≤ 1000 := by exact Nat.le_of_ble_eq_true rfl) : MkL xs Q H :=
  ⟨Nat.le_trans n (by decide), fun p hp => q p _ hp (Fr.new hp) (by rw [upd_same, e])⟩
theorem mkS {H : Hp} {ns : List Str} {xs : List V} {Q : VK} (e : xs = ns.map V.str) (q : ∀ p H', H p = none → Fr [] H H' → H' p = some (.lst (ns.map V.str)) → Q (.ref p) H') (n : xs.length ≤ 1000 := by exact Nat.le_of_ble_eq_true rfl) : MkL xs Q H :=
  ⟨Nat.le_trans n (by decide), fun p hp => q p _ hp (Fr.new hp) (by rw [upd_same, e])⟩
theorem Lq.ty {K : PySem.W.Frag} {H : Hp} {l : Addr} {ds : List PyData} (h : Lq K H l ds) : tyV K "list" (.ref l) H := by
  obtain ⟨vs, e, _⟩ := h
  exact .inl ⟨rfl, _, SqL.of e⟩
theorem Lq.app {K : PySem.W.Frag} {H : Hp} {l : Addr} {ds : List PyData} {y : V} {d : PyData} {Q : VK} (h : Lq K H l ds) (hy : Dt K H y d) (n : ds.length ≤ 100000) (q : ∀ H', Fr [l] H H' → Tu H H' → Lq K H' l (ds ++ [d]) → Q .non H') : rAppend (.ref l) [y] H Q := by
  obtain ⟨vs, e, a⟩ := h
  refine ⟨l, vs, y, rfl, rfl, e, Nat.lt_of_le_of_lt (show vs.length ≤ 100000 by rw [a.length]; exact n) (by decide), ?_⟩
  exact q _ (Fr.mut (by simp)) (Tu.mut e) ⟨_, upd_same, (a.append (.cons hy .nil)).mono (Tu.mut e)⟩
theorem Lq.copy {K : PySem.W.Frag} {H : Hp} {l : Addr} {ds : List PyData} {Q : VK} (h : Lq K H l ds) (q : ∀ p H', H p = none → Fr [] H H' → Lq K H' p ds → Q (.ref p) H') : rListU K [.ref l] H Q := by
  obtain ⟨vs, e, a⟩ := h
  exact w_listL (SqL.of e) fun p hp => q p _ hp (Fr.new hp) ⟨vs, upd_same, a.mono (Tu.new hp)⟩
theorem Lq.isList {K : PySem.W.Frag} {H : Hp} {l : Addr} {ds : List PyData} {Q : VK} (h : Lq K H l ds) (q : Q (.bl true) H) : rIsi K [.ref l, .ty "list"] H Q := by
  obtain ⟨vs, e, a⟩ := h
  exact isL_list (SqL.of e) q
theorem Lq.len {K : PySem.W.Frag} {H : Hp} {l : Addr} {ds : List PyData} {Q : VK} (h : Lq K H l ds) (q : Q (.int ds.length) H) : rLenU K [.ref l] H Q := by
  obtain ⟨vs, e, a⟩ := h
  rw [← a.length] at q
  exact w_lenL (SqL.of e) q
theorem DtAll.rev {K : PySem.W.Frag} {H : Hp} : ∀ {vs : List V} {ds : List PyData}, DtAll K H vs ds → DtAll K H vs.reverse ds.reverse
  | _, _, .nil => .nil
  | _, _, .cons a b => by
    rw [List.reverse_cons, List.reverse_cons]
    exact (DtAll.rev b).append (.cons a .nil)
theorem Lq.reverse {K : PySem.W.Frag} {H : Hp} {l : Addr} {ds : List PyData} {Q : VK} (h : Lq K H l ds) (q : ∀ H', Fr [l] H H' → Tu H H' → Lq K H' l ds.reverse → Q .non H') : rReverse (.ref l) [] H Q := by
  obtain ⟨vs, e, a⟩ := h
  exact ⟨l, vs, rfl, rfl, e, q _ (Fr.mut (by simp)) (Tu.mut e) ⟨_, upd_same, (a.rev).mono (Tu.mut e)⟩⟩
/-! ### slices, sums -/
def cutA {α : Type} (xs : List α) (lo hi : Option Int) : List α := (xs.drop (HT.sIx xs.length 0 lo)).take (HT.sIx xs.length xs.length hi - HT.sIx xs.length 0 lo)
theorem cutA_take {α : Type} {xs : List α} (n : Nat) : cutA xs none (some (n : Int)) = xs.take n := by
  unfold cutA
  rw [HT.sIx_none, HT.sIx_nat, List.drop_zero, Nat.sub_zero]
  by_cases h : n ≤ xs.length
  · rw [Nat.min_eq_left h]
  · rw [Nat.min_eq_right (by omega), List.take_length, List.take_of_length_le (by omega)]
theorem cutA_drop {α : Type} {xs : List α} (n : Nat) : cutA xs (some (n : Int)) none = xs.drop n := by
  unfold cutA
  rw [HT.sIx_none, HT.sIx_nat]
  by_cases h : n ≤ xs.length
  · rw [Nat.min_eq_left h, List.take_of_length_le (by rw [List.length_drop]; omega)]
  · rw [Nat.min_eq_right (by omega), Nat.sub_self, List.take_zero, List.drop_eq_nil_of_le (by omega)]
theorem cutA_mem {α : Type} {xs : List α} {lo hi : Option Int} {x : α} (h : x ∈ cutA xs lo hi) : x ∈ xs := List.mem_of_mem_drop (List.mem_of_mem_take h)
theorem cutA_map {α β : Type} {f : α → β} {xs : List α} {lo hi : Option Int} : cutA (xs.map f) lo hi = (cutA xs lo hi).map f := by
  unfold cutA
  rw [List.length_map, ← List.map_drop, ← List.map_take]
theorem cutA_len {α : Type} {xs : List α} {lo hi : Option Int} : (cutA xs lo hi).length ≤ xs.length := by
  unfold cutA
  rw [List.length_take, List.length_drop]
  omega
theorem DtAll.cut {K : PySem.W.Frag} {H : Hp} {vs : List V} {ds : List PyData} (h : DtAll K H vs ds) (lo hi : Option Int) : DtAll K H (cutV vs lo hi) (cutA ds lo hi) := by
  unfold cutV cutA
  rw [h.length]
  exact (h.drop _).take _
theorem Lq.slice {K : PySem.W.Frag} {H : Hp} {l : Addr} {ds : List PyData} {lo hi : Option Int} {Q : VK} (h : Lq K H l ds) (q : ∀ p H', H p = none → Fr [] H H' → Lq K H' p (cutA ds lo hi) → Q (.ref p) H') : rSlU K (.ref l) lo hi H Q := by
  obtain ⟨vs, e, a⟩ := h
  exact w_slL (SqL.of e) fun p hp => q p _ hp (Fr.new hp) ⟨_, upd_same, (a.cut lo hi).mono (Tu.new hp)⟩
theorem cutA_full {α : Type} {xs : List α} {lo hi : Option Int} (h : HT.sIx xs.length 0 lo = 0 ∧ HT.sIx xs.length xs.length hi = xs.length) : cutA xs lo hi = xs := by
  unfold cutA
  rw [h.1, h.2, List.drop_zero, Nat.sub_zero, List.take_length]
theorem Dt.slice {K : PySem.W.Frag} {H : Hp} {v : V} {ds : List PyData} {lo hi : Option Int} {Q : VK} (h : Dt K H v (.tuple ds)) (q : ∀ p H', Fr [] H H' → Dt K H' (.ref p) (.tuple (cutA ds lo hi)) → Q (.ref p) H') : rSlU K v lo hi H Q := by
  obtain ⟨p, vs, rfl, s, a⟩ := h.tuple
  refine .inl (.inr ⟨p, vs, rfl, s, fun z => ?_, fun _ p' hp => ?_⟩)
  · rw [a.length] at z
    refine q p H Fr.refl ?_
    rw [cutA_full z]
    exact h
  · exact q p' _ (Fr.new hp) (.tup (.inl (.inl upd_same)) ((a.cut lo hi).mono (Tu.new hp)))
theorem Dt.cat {K : PySem.W.Frag} {H : Hp} {v u : V} {ds es : List PyData} {Q : VK} (h : Dt K H v (.tuple ds)) (h' : Dt K H u (.tuple es)) (n : ds.length + es.length ≤ 1000) (q : ∀ p H', Fr [] H H' → Dt K H' (.ref p) (.tuple (ds ++ es)) → Q (.ref p) H') : rAddU K v u H Q := by
  obtain ⟨p, vs, rfl, s, a⟩ := h.tuple
  obtain ⟨p', us, rfl, s', a'⟩ := h'.tuple
  refine .inr (.inl ⟨p, p', vs, us, rfl, rfl, s, s', Nat.le_trans (show _ ≤ 1000 by rw [a.length, a'.length]; exact n) (by decide), fun z => ?_, fun _ z => ?_, fun _ _ r hr => ?_⟩)
  · subst z
    cases a
    exact q p' H Fr.refl h'
  · subst z
    cases a'
    refine q p H Fr.refl ?_
    rw [List.append_nil]
    exact h
  · exact q r _ (Fr.new hr) (.tup (.inl (.inl upd_same)) ((a.append a').mono (Tu.new hr)))
theorem Lq.cat {K : PySem.W.Frag} {H : Hp} {l m : Addr} {ds es : List PyData} {Q : VK} (h : Lq K H l ds) (h' : Lq K H m es) (n : ds.length + es.length ≤ 100000) (q : ∀ p H', H p = none → Fr [] H H' → Lq K H' p (ds ++ es) → Q (.ref p) H') : rAddU K (.ref l) (.ref m) H Q := by
  obtain ⟨vs, e, a⟩ := h
  obtain ⟨us, e', a'⟩ := h'
  exact w_addL e e' (by rw [a.length, a'.length]; omega) fun p hp => q p _ hp (Fr.new hp) ⟨_, upd_same, (a.append a').mono (Tu.new hp)⟩
theorem Lq.allB {K : PySem.W.Frag} {H : Hp} {l : Addr} {bs : List Bool} {Q : VK} (h : Lq K H l (bs.map PyData.bool)) (q : Q (.bl (bs.all id)) H) : rAll K [.ref l] H Q := by
  obtain ⟨vs, e, a⟩ := h
  have z : vs = bs.map V.bl := by
    clear e q
    induction bs generalizing vs with
    | nil => cases a; rfl
    | cons b r ih =>
      cases a with
      | cons a1 a2 => rw [a1.of_bl, ih _ a2]; rfl
  exact ⟨l, bs, rfl, SqL.of (by rw [e, z]), q⟩
theorem Lq.ints {K : PySem.W.Frag} {H : Hp} {l : Addr} {ns : List Int} (h : Lq K H l (ns.map PyData.int)) : H l = some (.lst (ns.map V.int)) := by
  obtain ⟨vs, e, a⟩ := h
  have z : vs = ns.map V.int := by
    clear e
    induction ns generalizing vs with
    | nil => cases a; rfl
    | cons b r ih =>
      cases a with
      | cons a1 a2 => rw [a1.of_int, ih _ a2]; rfl
  rw [e, z]
/-- what changed is new -/
theorem Fr.drop1 {S : List Addr} {H H1 H2 : Hp} {p : Addr} (hp : H p = none) (a : Fr S H H1) (b : Fr [p] H1 H2) : Fr S H H2 := fun x o e n => b x o (a x o e n) (by
  intro z
  rw [List.mem_singleton.mp z, hp] at e
  cases e)
/-- a comprehension with a test over a list of data: what is kept is the data's own filter -/
theorem LCF {K : PySem.W.Frag} {α : Type} {q : Addr} {H : Hp} {us : List V} {cs : List α} {dS : α → PyData} {j : Nat} {ws : List Nat} {σ : L2.St} {tt : TT} {te : TE} {Q : VK} (f : α → Bool) (g : α → PyData)
    (hq : H q = some (.lst us)) (hd : DtAll K H us (cs.map dS)) (lc : cs.length ≤ 100000) (hw : ∀ x, wipe ((wipe σ ws).set j (some x)) ws = wipe σ ws)
    (ht : ∀ c x H', c ∈ cs → Fr [] H H' → Dt K H' x (dS c) → ∀ QB : Bool → Hp → Prop, (∀ H2, Fr [] H' H2 → QB (f c) H2) → tt ((wipe σ ws).set j (some x)) H' QB)
    (he : ∀ c x H', c ∈ cs → Fr [] H H' → Dt K H' x (dS c) → f c = true → ∀ Q : VK, (∀ y H2, Fr [] H' H2 → Dt K H2 y (g c) → Q y H2) → te ((wipe σ ws).set j (some x)) H' Q)
    (k : ∀ D H', H D = none → Fr [] H H' → Lq K H' D ((cs.filter f).map g) → Q (.ref D) H') :
    ∃ a', V.ref q = .ref a' ∧ (∃ ys, SqL K H a' ys) ∧ ∀ D, H D = none → LC (Itl K a') (gName j) tt te ws σ D Q (upd H D (.lst [])) := by
  have lu : us.length = cs.length := by rw [hd.length, List.length_map]
  refine LC_L (SqL.of hq) fun D hD => LC_by (a := q) (xs := us) (fun i H' => Fr [] H H' ∧ Lq K H' D (((cs.take i).filter f).map g)) ⟨Fr.new hD, [], upd_same, .nil⟩ (fun i H' _ h => SqL.of (h.1 _ _ hq (by simp))) ?_ ?_
  · rintro i x H' hx ⟨f', ys, hys, dys⟩
    obtain ⟨d, h1, h2⟩ := (hd.mono f'.tu).get hx
    obtain ⟨c, h3, rfl⟩ := (by
      rw [List.getElem?_map] at h1
      cases e : cs[i]? with
      | none => rw [e] at h1; cases h1
      | some x => rw [e] at h1; exact ⟨x, rfl, Option.some.inj h1⟩ : ∃ c, cs[i]? = some c ∧ dS c = d)
    have mc := List.mem_of_getElem? h3
    have hi : i < us.length := (List.getElem?_eq_some_iff.mp hx).1
    have ly : ys.length ≤ i := by
      rw [dys.length, List.length_map]
      refine Nat.le_trans (List.length_filter_le _ _) ?_
      rw [List.length_take]
      omega
    refine ⟨hw x, ht c x H' mc f' h2 _ fun H2 f2 => ?_⟩
    cases hf : f c with
    | false =>
      rw [if_neg Bool.false_ne_true]
      refine ⟨f'.trans f2, ?_⟩
      rw [take_filt h3, hf]
      show Lq K H2 D ((List.filter f (cs.take i) ++ []).map g)
      rw [List.append_nil]
      exact Lq.fr0 ⟨ys, hys, dys⟩ f2
    | true =>
      rw [if_pos rfl]
      refine he c x H2 mc (f'.trans f2) (h2.mono f2.tu) hf _ fun y H3 f3 dy => ?_
      have f23 := f2.trans f3
      have e3 := f23 _ _ hys (by simp)
      refine ⟨ys, e3, Nat.lt_of_le_of_lt (show ys.length ≤ 100000 by omega) (by decide), Fr.new_mut hD ((f'.trans f23).mono (by simp) |>.trans (Fr.mut (by simp))), _, upd_same, ?_⟩
      rw [take_filt h3, hf, List.map_append]
      exact ((dys.mono f23.tu).append (.cons dy .nil)).mono (Tu.mut e3)
  · rintro H' ⟨f', L⟩
    rw [lu, List.take_length] at L
    exact k D H' hD f' L
theorem Lq.at {K : PySem.W.Frag} {H : Hp} {l : Addr} {ds : List PyData} {P : PyData → Prop} (h : Lq K H l ds) (hP : ∀ d ∈ ds, P d) {i : Int} (h0 : 0 ≤ i) (h1 : i < ds.length) {Q : VK} (q : ∀ v d, Dt K H v d → P d → ds[i.toNat]? = some d → Q v H) : rIx K (.ref l) (.int i) H Q := by
  obtain ⟨vs, e, a⟩ := h
  have ek : i = ((i.toNat : Nat) : Int) := by omega
  have hk : i.toNat < ds.length := by omega
  obtain ⟨v, hv, dv⟩ := a.get' (List.getElem?_eq_getElem hk)
  refine w_ixL (SqL.of e) ?_ (q v _ dv (hP _ (List.getElem_mem hk)) (List.getElem?_eq_getElem hk))
  rw [ek]
  exact atI_nat hv
/-- the last -/
theorem Lq.last {K : PySem.W.Frag} {H : Hp} {l : Addr} {ds : List PyData} {d : PyData} {Q : VK} (h : Lq K H l (ds ++ [d])) (q : ∀ v, Dt K H v d → Q v H) : rIx K (.ref l) (.int (-1)) H Q := by
  obtain ⟨vs, e, a⟩ := h
  have hl := a.length
  rw [List.length_append] at hl
  have hl : vs.length = ds.length + 1 := hl
  obtain ⟨v, hv, dv⟩ := a.get' (i := ds.length) (d := d) (by rw [List.getElem?_append_right (Nat.le_refl _), Nat.sub_self]; rfl)
  refine w_ixL (SqL.of e) ?_ (q v dv)
  unfold atI ixN
  rw [if_neg (by decide), if_pos (by omega)]
  show vs[((-1 : Int) + vs.length).toNat]? = some v
  rw [show ((-1 : Int) + vs.length).toNat = ds.length by omega]
  exact hv
/-- a for over such a list -/
theorem Lq.walk {K : PySem.W.Frag} {H : Hp} {l : Addr} {ds : List PyData} {σ : L2.St} {nx b c : L2.St → Hp → Prop} {rt : VK} {g : TG} {tb : TS} (h : Lq K H l ds) (Pv : Nat → L2.St → Hp → Prop) (h0 : Pv 0 σ H) (hl : ∀ i σ H', Pv i σ H' → Lq K H' l ds)
    (hs : ∀ i v d σ H', ds[i]? = some d → Dt K H' v d → Pv i σ H' → g v σ H' fun σ2 H2 => tb ⟨Pv (i + 1), rt, nx, Pv (i + 1)⟩ σ2 H2) (hd : ∀ σ H', Pv ds.length σ H' → nx σ H') :
    ∃ a', V.ref l = .ref a' ∧ (∃ ys, SqL K H a' ys) ∧ FOR (Itl K a') g tb ⟨nx, rt, b, c⟩ σ H := by
  obtain ⟨vs, e, a⟩ := id h
  refine ⟨l, rfl, ⟨vs, SqL.of e⟩, fun i m σ H => m = ds.length - i ∧ i ≤ ds.length ∧ Pv i σ H, ⟨_, rfl, Nat.zero_le _, h0⟩, ?_⟩
  rintro i m σ' H' ⟨rfl, hi, p⟩
  obtain ⟨us, eu, au⟩ := hl i σ' H' p
  by_cases hlt : i < ds.length
  · obtain ⟨v, hv, dv⟩ := au.get' (List.getElem?_eq_getElem hlt)
    refine .inr ⟨⟨us, v, SqL.of eu, hv⟩, Pv (i + 1), fun σ2 H2 p' => ⟨ds.length - (i + 1), by omega, rfl, hlt, p'⟩, fun x H2 y => ?_⟩
    obtain ⟨z, y⟩ := y
    subst z
    have ex : x = v := Option.some.inj ((y us (SqL.of eu)).symm.trans hv)
    subst ex
    exact hs i x _ σ' _ (List.getElem?_eq_getElem hlt) dv p
  · have z : i = ds.length := by omega
    subst z
    exact .inl ⟨⟨us, SqL.of eu, by rw [au.length]; exact Nat.le_refl _⟩, hd σ' H' p⟩
/-- .. backwards -/
theorem Lq.walkRev {K : PySem.W.Frag} {H : Hp} {l : Addr} {ds : List PyData} {σ : L2.St} {nx b c : L2.St → Hp → Prop} {rt : VK} {g : TG} {tb : TS} (h : Lq K H l ds) (Pv : Nat → L2.St → Hp → Prop) (h0 : Pv 0 σ H) (hl : ∀ i σ H', Pv i σ H' → Lq K H' l ds)
    (hs : ∀ i v d σ H', i < ds.length → ds[ds.length - 1 - i]? = some d → Dt K H' v d → Pv i σ H' → g v σ H' fun σ2 H2 => tb ⟨Pv (i + 1), rt, nx, Pv (i + 1)⟩ σ2 H2) (hd : ∀ σ H', Pv ds.length σ H' → nx σ H') :
    ∃ (a : Addr) (xs : List V), V.ref l = .ref a ∧ ((SqL K H a xs ∧ FOR (Itv K a xs.length) g tb ⟨nx, rt, b, c⟩ σ H) ∨ (SqT K H a xs ∧ FOR (RT.ItvT K a xs.length) g tb ⟨nx, rt, b, c⟩ σ H)) := by
  obtain ⟨vs, e, a⟩ := id h
  have lv := a.length
  refine ⟨l, vs, rfl, .inl ⟨SqL.of e, fun i m σ H => m = ds.length - i ∧ i ≤ ds.length ∧ Pv i σ H, ⟨_, rfl, Nat.zero_le _, h0⟩, ?_⟩⟩
  rintro i m σ' H' ⟨rfl, hi, p⟩
  obtain ⟨us, eu, au⟩ := hl i σ' H' p
  by_cases hlt : i < ds.length
  · have hj : ds.length - 1 - i < ds.length := by omega
    obtain ⟨v, hv, dv⟩ := au.get' (List.getElem?_eq_getElem hj)
    refine .inr ⟨⟨by omega, us, v, SqL.of eu, by rw [lv]; exact hv⟩, Pv (i + 1), fun σ2 H2 p' => ⟨ds.length - (i + 1), by omega, rfl, hlt, p'⟩, fun x H2 y => ?_⟩
    obtain ⟨z, y⟩ := y
    subst z
    have y2 := y us (SqL.of eu)
    rw [lv] at y2
    have ex : x = v := Option.some.inj (y2.symm.trans hv)
    subst ex
    exact hs i x _ σ' _ hlt (List.getElem?_eq_getElem hj) dv p
  · have z : i = ds.length := by omega
    subst z
    exact .inl ⟨by show vs.length ≤ _; omega, hd σ' H' p⟩
/-- .. with its number -/
theorem Lq.walkEnum {K : PySem.W.Frag} {H : Hp} {l : Addr} {ds : List PyData} {σ : L2.St} {nx b c : L2.St → Hp → Prop} {rt : VK} {g : TG} {tb : TS} (h : Lq K H l ds) (Pv : Nat → L2.St → Hp → Prop) (h0 : Pv 0 σ H) (hl : ∀ i σ H', Pv i σ H' → Lq K H' l ds)
    (hs : ∀ i t v d σ H' H2, ds[i]? = some d → Dt K H2 v d → Fr [] H' H2 → Pv i σ H' → SqT K H2 t [.int i, v] → g (.ref t) σ H2 fun σ2 H3 => tb ⟨Pv (i + 1), rt, nx, Pv (i + 1)⟩ σ2 H3) (hd : ∀ σ H', Pv ds.length σ H' → nx σ H') :
    ∃ a xs, [V.ref l] = [.ref a] ∧ SqL K H a xs ∧ FOR (Ite K a) g tb ⟨nx, rt, b, c⟩ σ H := by
  obtain ⟨vs, e, a⟩ := id h
  refine ⟨l, vs, rfl, SqL.of e, fun i m σ H => m = ds.length - i ∧ i ≤ ds.length ∧ Pv i σ H, ⟨_, rfl, Nat.zero_le _, h0⟩, ?_⟩
  rintro i m σ' H' ⟨rfl, hi, p⟩
  obtain ⟨us, eu, au⟩ := hl i σ' H' p
  by_cases hlt : i < ds.length
  · obtain ⟨v, hv, dv⟩ := au.get' (List.getElem?_eq_getElem hlt)
    refine .inr ⟨⟨us, v, SqL.of eu, hv⟩, Pv (i + 1), fun σ2 H2 p' => ⟨ds.length - (i + 1), by omega, rfl, hlt, p'⟩, fun x H2 y => ?_⟩
    obtain ⟨t, z, e1, ht, e2, y⟩ := y
    subst e1 e2
    have ex : z = v := Option.some.inj ((y us (SqL.of eu)).symm.trans hv)
    subst ex
    exact hs i t z _ σ' H' _ (List.getElem?_eq_getElem hlt) (dv.mono (Tu.new ht)) (Fr.new ht) p (.inl (.inl upd_same))
  · have z : i = ds.length := by omega
    subst z
    exact .inl ⟨⟨us, SqL.of eu, by rw [au.length]; exact Nat.le_refl _⟩, hd σ' H' p⟩
theorem map_get {α β : Type} {f : α → β} {xs : List α} {i : Nat} {y : β} (h : (xs.map f)[i]? = some y) : ∃ x, xs[i]? = some x ∧ f x = y := by
  rw [List.getElem?_map] at h
  cases e : xs[i]? with
  | none => rw [e] at h; cases h
  | some x => rw [e] at h; exact ⟨x, rfl, Option.some.inj h⟩
end U

namespace U
open PySem PySem.Spec PyProof.Rows L2
/-! ### texts: a sign, a part, sign by sign -/
section
variable {K : PySem.W.Frag} {H : Hp} {Q : VK} {i j : Int}
theorem w_ixS {z : Str} {c : Nat} (h : z.length ≤ sizeLine) (e : atI z.cps.toList i = some c) (q : Q (.str ⟨#[c]⟩) H) : rIx K (.str z) (.int i) H Q := .inr (.inr ⟨z, i, c, rfl, rfl, h, e, q⟩)
theorem w_inSign {c : Nat} {z : Str} (q : Q (.bl (decide (c ∈ z.cps.toList))) H) : rInU K (.str ⟨#[c]⟩) (.str z) H Q := .inr ⟨c, z, rfl, rfl, q⟩
theorem w_ninSign {c : Nat} {z : Str} (q : Q (.bl (!decide (c ∈ z.cps.toList))) H) : rNinU K (.str ⟨#[c]⟩) (.str z) H Q := .inr ⟨c, z, rfl, rfl, q⟩
theorem w_slS {z : Str} {lo hi : Option Int} (h : z.length ≤ sizeLine) (q : Q (.str (cutS z lo hi)) H) : rSlU K (.str z) lo hi H Q := .inr ⟨z, rfl, h, q⟩
def MkD (Q : VK) (H : Hp) : Prop := ∀ p, H p = none → Q (.ref p) (upd H p (.dK []))
theorem w_dnew {σ : L2.St} (q : MkD Q H) : tDNewK σ H Q := q
theorem w_iS {σ : L2.St} {te : TE} {R : It → Hp → Prop} (q : te σ H fun v H1 => ∃ x, v = .str x ∧ R (Its x) H1) : iStr te σ H R := q
theorem at_sign {z : Str} {p : Int} (h0 : 0 ≤ p) (h : p < z.length) : ∃ c, atI z.cps.toList p = some c ∧ c ∈ z.cps.toList := by
  have h1 : p.toNat < z.cps.toList.length := by
    rw [Array.length_toList]
    have : z.length = z.cps.size := rfl
    omega
  have ek : p = ((p.toNat : Nat) : Int) := by omega
  have key : atI z.cps.toList ((p.toNat : Nat) : Int) = some z.cps.toList[p.toNat] := atI_nat (List.getElem?_eq_getElem h1)
  rw [← ek] at key
  exact ⟨_, key, List.getElem_mem h1⟩
end
/-- a text of at most n signs, each of them one -/
def TxOk (n : Nat) (x : Str) : Prop := x.length ≤ n ∧ PyData.strOk x = true
theorem strOk_mem {x : Str} : PyData.strOk x = true ↔ ∀ c ∈ x.cps.toList, c < 0x110000 := by
  unfold PyData.strOk
  rw [← Array.all_toList, List.all_eq_true]
  constructor
  · intro h c hc; simpa using h c hc
  · intro h c hc; simpa using h c hc
theorem TxOk.mono {n m : Nat} {x : Str} (h : TxOk n x) (l : n ≤ m) : TxOk m x := ⟨Nat.le_trans h.1 l, h.2⟩
theorem TxOk.cat {n m : Nat} {a b : Str} (ha : TxOk n a) (hb : TxOk m b) : TxOk (n + m) (a ++ b) := by
  refine ⟨?_, strOk_mem.mpr fun c hc => ?_⟩
  · have e : (a ++ b).length = a.length + b.length := by
      show (a ++ b).cps.size = a.cps.size + b.cps.size
      rw [PySem.Str.cps_append, Array.size_append]
    have := ha.1
    have := hb.1
    omega
  · rw [PySem.Str.cps_append, Array.toList_append] at hc
    rcases List.mem_append.mp hc with h | h
    · exact strOk_mem.mp ha.2 c h
    · exact strOk_mem.mp hb.2 c h
theorem TxOk.cut {n : Nat} {a : Str} {lo hi : Option Int} (ha : TxOk n a) : TxOk n (cutS a lo hi) := by
  refine ⟨Nat.le_trans (cutS_length a lo hi) ha.1, strOk_mem.mpr fun c hc => ?_⟩
  unfold cutS at hc
  rw [List.toList_toArray] at hc
  exact strOk_mem.mp ha.2 c (List.mem_of_mem_drop (List.mem_of_mem_take hc))
theorem TxOk.sign {n : Nat} {a : Str} {c : Nat} (ha : TxOk n a) (h : c ∈ a.cps.toList) : TxOk 1 ⟨#[c]⟩ := by
  refine ⟨Nat.le_refl _, strOk_mem.mpr fun d hd => ?_⟩
  rw [List.mem_singleton.mp hd]
  exact strOk_mem.mp ha.2 c h
/-- a comprehension over a text, sign by sign -/
theorem LCS {K : PySem.W.Frag} {x : Str} {H : Hp} {j : Nat} {ws : List Nat} {σ : L2.St} {tt : TT} {te : TE} {Q : VK} (f : Nat → Bool) (g : Nat → PyData) (lx : x.length ≤ 100000)
    (hw : ∀ v, wipe ((wipe σ ws).set j (some v)) ws = wipe σ ws)
    (ht : ∀ c H', Fr [] H H' → ∀ QB : Bool → Hp → Prop, QB (f c) H' → tt ((wipe σ ws).set j (some (.str ⟨#[c]⟩))) H' QB)
    (he : ∀ c H', Fr [] H H' → f c = true → ∀ Q : VK, (∀ y, Dt K H' y (g c) → Q y H') → te ((wipe σ ws).set j (some (.str ⟨#[c]⟩))) H' Q)
    (k : ∀ D H', H D = none → Fr [] H H' → Lq K H' D ((x.cps.toList.filter f).map g) → Q (.ref D) H') :
    ∃ x', V.str x = .str x' ∧ ∀ D, H D = none → LC (Its x') (gName j) tt te ws σ D Q (upd H D (.lst [])) := by
  refine ⟨x, rfl, fun D hD => ?_⟩
  refine lc_it (walk_str (z := x)) (fun i H' => Fr [] H H' ∧ Lq K H' D (((x.cps.toList.take i).filter f).map g)) ⟨Fr.new hD, [], upd_same, .nil⟩ (fun _ _ _ _ => trivial) ?_ ?_
  · rintro i v H1 H' hi ⟨f', ys, hys, dys⟩ ⟨rfl, c, hc, rfl⟩
    have hcl : x.cps.toList[i]? = some c := by rw [Array.getElem?_toList]; exact hc
    have ly : ys.length ≤ i := by
      rw [dys.length, List.length_map]
      refine Nat.le_trans (List.length_filter_le _ _) ?_
      rw [List.length_take]
      omega
    have lz : x.cps.size ≤ 100000 := lx
    refine ⟨hw _, ht c H' f' _ ?_⟩
    cases hf : f c with
    | false =>
      rw [if_neg Bool.false_ne_true]
      refine ⟨f', ?_⟩
      rw [take_filt hcl, hf]
      show Lq K H' D ((List.filter f (x.cps.toList.take i) ++ []).map g)
      rw [List.append_nil]
      exact ⟨ys, hys, dys⟩
    | true =>
      rw [if_pos rfl]
      refine he c H' f' hf _ fun y dy => ?_
      refine ⟨ys, hys, Nat.lt_of_le_of_lt (show ys.length ≤ 100000 by omega) (by decide), Fr.new_mut hD ((f'.mono (by simp)).trans (Fr.mut (by simp))), _, upd_same, ?_⟩
      rw [take_filt hcl, hf, List.map_append]
      exact (dys.append (.cons dy .nil)).mono (Tu.mut hys)
  · rintro H' ⟨f', L⟩
    have e : List.take x.cps.size x.cps.toList = x.cps.toList := by
      rw [← Array.length_toList, List.take_length]
    rw [e] at L
    exact k D H' hD f' L
/-- a new list of any data -/
theorem mkG {K : PySem.W.Frag} {H : Hp} {xs : List V} {ds : List PyData} {Q : VK} (d : DgAll K H xs ds) (q : ∀ p H' vs, H p = none → Fr [] H H' → H' p = some (.lst vs) → DgAll K H' vs ds → Q (.ref p) H') (n : xs.length ≤ 1000 := by exact Nat.le_of_ble_eq_true rfl) : MkL xs Q H :=
  ⟨Nat.le_trans n (by decide), fun p hp => q p _ xs hp (Fr.new hp) upd_same (d.fr (Fr.new hp))⟩
theorem mkD {H : Hp} {Q : VK} (q : ∀ p H', H p = none → Fr [] H H' → H' p = some (.dK []) → Q (.ref p) H') : MkD Q H := fun p hp => q p _ hp (Fr.new hp) upd_same
end U

namespace U
open PySem PySem.Spec PyProof.Rows L2
/-! ### a for over a tuple of data, comprehensions with any target and test -/
section
variable {K : PySem.W.Frag}
theorem Dt.walk {H : Hp} {v : V} {ds : List PyData} {σ : L2.St} {nx b c : L2.St → Hp → Prop} {rt : VK} {g : TG} {tb : TS} (h : Dt K H v (.tuple ds)) (Pv : Nat → L2.St → Hp → Prop) (h0 : Pv 0 σ H) (hl : ∀ i σ H', Pv i σ H' → Tu H H')
    (hs : ∀ i u d σ H', ds[i]? = some d → Dt K H' u d → Pv i σ H' → g u σ H' fun σ2 H2 => tb ⟨Pv (i + 1), rt, nx, Pv (i + 1)⟩ σ2 H2) (hd : ∀ σ H', Pv ds.length σ H' → nx σ H') :
    ∃ a, v = .ref a ∧ (∃ xs, SqT K H a xs) ∧ FOR (Itt K a) g tb ⟨nx, rt, b, c⟩ σ H := by
  obtain ⟨a, vs, rfl, s, av⟩ := h.tuple
  have e := av.length
  refine ⟨a, rfl, ⟨vs, s⟩, for_tup (D := ⟨nx, rt, b, c⟩) (xs := vs) Pv h0 (fun i σ H' _ p => (hl i σ H' p).seqT s) (fun i x σ H' hx p => ?_) (fun σ H' p => hd σ H' (by rw [← e]; exact p))⟩
  obtain ⟨d, h1, h2⟩ := (av.mono (hl i σ H' p)).get hx
  exact hs i x d σ H' h1 h2 p
theorem LCX_L {α : Type} {q : Addr} {H : Hp} {cs : List α} {dS : α → PyData} {ws : List Nat} {σ : L2.St} {tg : TG} {tt : TT} {te : TE} {Q : VK} (f : α → Bool) (g : α → PyData)
    (h : Lq K H q (cs.map dS)) (lc : cs.length ≤ 100000)
    (hs : ∀ (c : α) (x : V) (H' : Hp) (KEEP : VK) (DROP : Hp → Prop), c ∈ cs → Fr [] H H' → Dt K H' x (dS c) → (f c = true → ∀ y H4, Fr [] H' H4 → Dt K H4 y (g c) → KEEP y H4) → (f c = false → ∀ H4, Fr [] H' H4 → DROP H4) →
      tg x (wipe σ ws) H' fun σ2 H2 => wipe σ2 ws = wipe σ ws ∧ tt σ2 H2 fun k H3 => if k = true then te σ2 H3 KEEP else DROP H3)
    (k : ∀ D H', H D = none → Fr [] H H' → Lq K H' D ((cs.filter f).map g) → Q (.ref D) H') :
    ∃ a', V.ref q = .ref a' ∧ (∃ ys, SqL K H a' ys) ∧ ∀ D, H D = none → LC (Itl K a') tg tt te ws σ D Q (upd H D (.lst [])) := by
  obtain ⟨us, hq, hd⟩ := h
  have lu : us.length = cs.length := by rw [hd.length, List.length_map]
  refine LC_L (SqL.of hq) fun D hD => LC_by (a := q) (xs := us) (fun i H' => Fr [] H H' ∧ Lq K H' D (((cs.take i).filter f).map g)) ⟨Fr.new hD, [], upd_same, .nil⟩ (fun i H' _ h => SqL.of (h.1 _ _ hq (by simp))) ?_ ?_
  · rintro i x H' hx ⟨f', ys, hys, dys⟩
    obtain ⟨d, h1, h2⟩ := (hd.mono f'.tu).get hx
    obtain ⟨c, h3, rfl⟩ := map_get h1
    have hi : i < us.length := (List.getElem?_eq_some_iff.mp hx).1
    have ly : ys.length ≤ i := by
      rw [dys.length, List.length_map]
      refine Nat.le_trans (List.length_filter_le _ _) ?_
      rw [List.length_take]
      omega
    refine hs c x H' _ _ (List.mem_of_getElem? h3) f' h2 (fun hf y H4 f4 dy => ?_) (fun hf H4 f4 => ?_)
    · have e3 := f4 _ _ hys (by simp)
      refine ⟨ys, e3, Nat.lt_of_le_of_lt (show ys.length ≤ 100000 by omega) (by decide), Fr.new_mut hD ((f'.trans f4).mono (by simp) |>.trans (Fr.mut (by simp))), _, upd_same, ?_⟩
      rw [take_filt h3, hf, List.map_append]
      exact ((dys.mono f4.tu).append (.cons dy .nil)).mono (Tu.mut e3)
    · refine ⟨f'.trans f4, ?_⟩
      rw [take_filt h3, hf]
      show Lq K H4 D ((List.filter f (cs.take i) ++ []).map g)
      rw [List.append_nil]
      exact Lq.fr0 ⟨ys, hys, dys⟩ f4
  · rintro H' ⟨f', L⟩
    rw [lu, List.take_length] at L
    exact k D H' hD f' L
theorem LCX_T {α : Type} {v : V} {H : Hp} {cs : List α} {dS : α → PyData} {ws : List Nat} {σ : L2.St} {tg : TG} {tt : TT} {te : TE} {Q : VK} (f : α → Bool) (g : α → PyData)
    (h : Dt K H v (.tuple (cs.map dS))) (lc : cs.length ≤ 100000)
    (hs : ∀ (c : α) (x : V) (H' : Hp) (KEEP : VK) (DROP : Hp → Prop), c ∈ cs → Fr [] H H' → Dt K H' x (dS c) → (f c = true → ∀ y H4, Fr [] H' H4 → Dt K H4 y (g c) → KEEP y H4) → (f c = false → ∀ H4, Fr [] H' H4 → DROP H4) →
      tg x (wipe σ ws) H' fun σ2 H2 => wipe σ2 ws = wipe σ ws ∧ tt σ2 H2 fun k H3 => if k = true then te σ2 H3 KEEP else DROP H3)
    (k : ∀ D H', H D = none → Fr [] H H' → Lq K H' D ((cs.filter f).map g) → Q (.ref D) H') :
    ∃ a', v = .ref a' ∧ (∃ ys, SqT K H a' ys) ∧ ∀ D, H D = none → LC (Itt K a') tg tt te ws σ D Q (upd H D (.lst [])) := by
  obtain ⟨q, us, rfl, hq, hd⟩ := h.tuple
  have lu : us.length = cs.length := by rw [hd.length, List.length_map]
  refine LC_T hq fun D hD => ?_
  refine lc_it (walk_tup (K := K) (a := q) (xs := us)) (fun i H' => Fr [] H H' ∧ Lq K H' D (((cs.take i).filter f).map g)) ⟨Fr.new hD, [], upd_same, .nil⟩ (fun i H' _ h => h.1.seqT hq (by simp)) ?_ ?_
  · rintro i x H0' H' hi ⟨f', ys, hys, dys⟩ ⟨rfl, hx⟩
    obtain ⟨d, h1, h2⟩ := (hd.mono f'.tu).get hx
    obtain ⟨c, h3, rfl⟩ := map_get h1
    have ly : ys.length ≤ i := by
      rw [dys.length, List.length_map]
      refine Nat.le_trans (List.length_filter_le _ _) ?_
      rw [List.length_take]
      omega
    refine hs c x _ _ _ (List.mem_of_getElem? h3) f' h2 (fun hf y H4 f4 dy => ?_) (fun hf H4 f4 => ?_)
    · have e3 := f4 _ _ hys (by simp)
      refine ⟨ys, e3, Nat.lt_of_le_of_lt (show ys.length ≤ 100000 by omega) (by decide), Fr.new_mut hD ((f'.trans f4).mono (by simp) |>.trans (Fr.mut (by simp))), _, upd_same, ?_⟩
      rw [take_filt h3, hf, List.map_append]
      exact ((dys.mono f4.tu).append (.cons dy .nil)).mono (Tu.mut e3)
    · refine ⟨f'.trans f4, ?_⟩
      rw [take_filt h3, hf]
      show Lq K H4 D ((List.filter f (cs.take i) ++ []).map g)
      rw [List.append_nil]
      exact Lq.fr0 ⟨ys, hys, dys⟩ f4
  · rintro H' ⟨f', L⟩
    rw [lu, List.take_length] at L
    exact k D H' hD f' L
/-- extend by a list of data -/
theorem Lq.extend {H : Hp} {l m : Addr} {ds es : List PyData} {Q : VK} (h : Lq K H l ds) (h' : Lq K H m es) (n : ds.length + es.length ≤ 100000) (q : ∀ H', Fr [l] H H' → Tu H H' → Lq K H' l (ds ++ es) → Q .non H') : rExtend (.ref l) [.ref m] H Q := by
  obtain ⟨vs, e, a⟩ := h
  obtain ⟨us, e', a'⟩ := h'
  refine ⟨l, m, vs, us, rfl, rfl, e, e', Nat.le_trans (show _ ≤ 100000 by rw [a.length, a'.length]; exact n) (by decide), ?_⟩
  exact q _ (Fr.mut (by simp)) (Tu.mut e) ⟨_, upd_same, (a.append a').mono (Tu.mut e)⟩
/-- tuple(list) -/
theorem Lq.tuple {H : Hp} {l : Addr} {ds : List PyData} {Q : VK} (h : Lq K H l ds) (q : ∀ p H', Fr [] H H' → Dt K H' (.ref p) (.tuple ds) → Q (.ref p) H') : rTupleU K [.ref l] H Q := by
  obtain ⟨vs, e, a⟩ := h
  exact w_tupleL (SqL.of e) fun p hp => q p _ (Fr.new hp) (.tup (.inl (.inl upd_same)) (a.mono (Tu.new hp)))
/-- a part of a tuple, the first of a list -/
theorem Dt.ix {H : Hp} {v : V} {ds : List PyData} {d : PyData} {i : Int} {Q : VK} (n : Nat) (h : Dt K H v (.tuple ds)) (e : ds[n]? = some d) (q : ∀ u, Dt K H u d → Q u H) (hi : i = (n : Int) := by rfl) : rIx K v (.int i) H Q := by
  obtain ⟨p, vs, rfl, s, a⟩ := h.tuple
  obtain ⟨u, hu, du⟩ := a.get' e
  subst hi
  exact w_ixT s (atI_nat hu) (q u du)
theorem Lq.ix {H : Hp} {l : Addr} {ds : List PyData} {d : PyData} {i : Int} {Q : VK} (n : Nat) (h : Lq K H l ds) (e : ds[n]? = some d) (q : ∀ u, Dt K H u d → Q u H) (hi : i = (n : Int) := by rfl) : rIx K (.ref l) (.int i) H Q := by
  obtain ⟨vs, s, a⟩ := h
  obtain ⟨u, hu, du⟩ := a.get' e
  subst hi
  exact w_ixL (SqL.of s) (atI_nat hu) (q u du)
theorem Lq.nin {H : Hp} {l : Addr} {x : V} {ds : List PyData} {d : PyData} {Q : VK} (h : Lq K H l ds) (hx : Dt K H x d) (sd : SeqAt.shaped d = true) (sl : SeqAt.shaped (.list ds) = true) (q : Q (.bl (!ds.any fun z => PyData.eqv z d)) H) : rNinU K x (.ref l) H Q := .inl (.inr ⟨d, ds, hx.dp, h.dp, sd, sl, q⟩)
theorem Lq.isin {H : Hp} {l : Addr} {x : V} {ds : List PyData} {d : PyData} {Q : VK} (h : Lq K H l ds) (hx : Dt K H x d) (sd : SeqAt.shaped d = true) (sl : SeqAt.shaped (.list ds) = true) (q : Q (.bl (ds.any fun z => PyData.eqv z d)) H) : rInU K x (.ref l) H Q := .inl (.inr ⟨d, ds, hx.dp, h.dp, sd, sl, q⟩)
theorem Dt.isTuple {H : Hp} {v : V} {ds : List PyData} {Q : VK} (h : Dt K H v (.tuple ds)) (q : Q (.bl true) H) : rIsi K [v, .ty "tuple"] H Q := by
  obtain ⟨p, vs, rfl, s, a⟩ := h.tuple
  exact isT_tuple s q
theorem w_iRevR {σ : L2.St} {H : Hp} {te : TE} {R : It → Hp → Prop} (q : te σ H fun x H1 => ∃ n, x = .int n ∧ (-(2 ^ 62) ≤ (0 : Int) ∧ (0 : Int) < 2 ^ 62 ∧ -(2 ^ 62) ≤ n ∧ n < 2 ^ 62 ∧ R (Itc (0 + (((n - 0).toNat : Nat) : Int) - 1) (-1) (n - 0).toNat) H1)) : iRevR (tRg1 te) σ H R := q
theorem F_RevR {σ : L2.St} {H : Hp} {nx b c : L2.St → Hp → Prop} {rt : VK} {g : TG} {tb : TS} (n : Nat) (hn : n ≤ 100000) (Pv : Nat → L2.St → Hp → Prop) (h0 : Pv 0 σ H)
    (hs : ∀ i σ H, i < n → Pv i σ H → g (.int ((n - 1 - i : Nat) : Int)) σ H fun σ2 H2 => tb ⟨Pv (i + 1), rt, nx, Pv (i + 1)⟩ σ2 H2) (hd : ∀ σ H, Pv n σ H → nx σ H) :
    -(2 ^ 62) ≤ (0 : Int) ∧ (0 : Int) < 2 ^ 62 ∧ -(2 ^ 62) ≤ (n : Int) ∧ (n : Int) < 2 ^ 62 ∧ FOR (Itc (0 + ((((n : Int) - 0).toNat : Nat) : Int) - 1) (-1) ((n : Int) - 0).toNat) g tb ⟨nx, rt, b, c⟩ σ H := by
  refine ⟨by decide, by decide, by omega, by omega, ?_⟩
  have e : ((n : Int) - 0).toNat = n := by omega
  rw [e]
  refine for_it (D := ⟨nx, rt, b, c⟩) (walk_rangeC (lo := 0 + (n : Int) - 1) (c := -1) (n := n)) Pv h0 (fun _ _ _ _ _ => trivial) (fun i x σ H H' hi p y => ?_) (fun σ H p => hd σ H p)
  obtain ⟨rfl, rfl⟩ := y
  have z := hs i σ H' hi p
  rw [show ((n - 1 - i : Nat) : Int) = 0 + (n : Int) - 1 + ((i : Nat) : Int) * -1 by omega] at z
  exact z
def rIns : V → List V → Hp → VK → Prop := fun x vs H Q => ∃ (l : Addr) (xs : List V) (i : Int) (y : V), x = .ref l ∧ vs = [.int i, y] ∧ H l = some (.lst xs) ∧ xs.length < sizeLine ∧ 0 ≤ i ∧ i < 2 ^ 63 ∧ Q .non (upd H l (.lst (xs.take i.toNat ++ [y] ++ xs.drop i.toNat)))
theorem mt_insU {X : Cx} : MtR X "list.insert" rIns := mt_insert
theorem Lq.insert {H : Hp} {l : Addr} {ds : List PyData} {i : Int} {y : V} {d : PyData} {Q : VK} (h : Lq K H l ds) (hy : Dt K H y d) (n : ds.length ≤ 100000) (h0 : 0 ≤ i) (h1 : i < 2 ^ 63) (q : ∀ H', Fr [l] H H' → Tu H H' → Lq K H' l (ds.take i.toNat ++ [d] ++ ds.drop i.toNat) → Q .non H') : rIns (.ref l) [.int i, y] H Q := by
  obtain ⟨vs, e, a⟩ := h
  refine ⟨l, vs, i, y, rfl, rfl, e, Nat.lt_of_le_of_lt (show vs.length ≤ 100000 by rw [a.length]; exact n) (by decide), h0, h1, ?_⟩
  exact q _ (Fr.mut (by simp)) (Tu.mut e) ⟨_, upd_same, (((a.take _).append (.cons hy .nil)).append (a.drop _)).mono (Tu.mut e)⟩
end
end U

set_option maxHeartbeats 4000000












namespace LW
open PySem PySem.Spec PyProof.Rows L2 U
def topS (i : Nat) : Stmt := PySem.Challenge.pw_viewwood_k67_whole_hands_along_alone.main.body.getD i (.Pass ⟨0, 0, 0, 0⟩)
abbrev s_boxes_along : Stmt := topS 4
abbrev N_boxes_along : List Str := ["tree", "address", "found", "row", "label", "here", "one", "box"]
abbrev p_boxes_along : List Str := ["tree", "address"]
theorem sc_boxes_along : FnScope N_boxes_along p_boxes_along (defScope s_boxes_along) := ⟨rfl, rfl, rfl, by decide +kernel, rfl, by decide +kernel, by decide +kernel⟩
abbrev s_gone_up : Stmt := topS 5
abbrev N_gone_up : List Str := ["tree", "address", "event", "changes", "box", "hand", "change"]
abbrev p_gone_up : List Str := ["tree", "address", "event"]
theorem sc_gone_up : FnScope N_gone_up p_gone_up (defScope s_gone_up) := ⟨rfl, rfl, rfl, by decide +kernel, rfl, by decide +kernel, by decide +kernel⟩
abbrev s_law_tape : Stmt := topS 7
abbrev N_law_tape : List Str := ["_law_script"]
abbrev p_law_tape : List Str := ["_law_script"]
theorem sc_law_tape : FnScope N_law_tape p_law_tape (defScope s_law_tape) := ⟨rfl, rfl, rfl, by decide +kernel, rfl, by decide +kernel, by decide +kernel⟩
abbrev s_law_draw : Stmt := topS 8
abbrev N_law_draw : List Str := ["_law_tape_here", "_law_many", "_law_script", "_law_digit", "_law_cell", "_law_mixed"]
abbrev p_law_draw : List Str := ["_law_tape_here", "_law_many"]
theorem sc_law_draw : FnScope N_law_draw p_law_draw (defScope s_law_draw) := ⟨rfl, rfl, rfl, by decide +kernel, rfl, by decide +kernel, by decide +kernel⟩
abbrev s_law_number : Stmt := topS 9
abbrev N_law_number : List Str := ["_law_tape_here"]
abbrev p_law_number : List Str := ["_law_tape_here"]
theorem sc_law_number : FnScope N_law_number p_law_number (defScope s_law_number) := ⟨rfl, rfl, rfl, by decide +kernel, rfl, by decide +kernel, by decide +kernel⟩
abbrev s_law_spot : Stmt := topS 10
abbrev N_law_spot : List Str := ["_law_tape_here"]
abbrev p_law_spot : List Str := ["_law_tape_here"]
theorem sc_law_spot : FnScope N_law_spot p_law_spot (defScope s_law_spot) := ⟨rfl, rfl, rfl, by decide +kernel, rfl, by decide +kernel, by decide +kernel⟩
abbrev s_law_label : Stmt := topS 11
abbrev N_law_label : List Str := ["_law_tape_here", "_law_k"]
abbrev p_law_label : List Str := ["_law_tape_here"]
theorem sc_law_label : FnScope N_law_label p_law_label (defScope s_law_label) := ⟨rfl, rfl, rfl, by decide +kernel, rfl, by decide +kernel, by decide +kernel⟩
abbrev s_law_hands : Stmt := topS 12
abbrev N_law_hands : List Str := ["_law_tape_here", "_law_hands_here", "_law_events", "_law_event", "_law_path", "_law_changes", "_law_k", "_law_word"]
abbrev p_law_hands : List Str := ["_law_tape_here"]
theorem sc_law_hands : FnScope N_law_hands p_law_hands (defScope s_law_hands) := ⟨rfl, rfl, rfl, by decide +kernel, rfl, by decide +kernel, by decide +kernel⟩
abbrev s_law_tree : Stmt := topS 13
abbrev N_law_tree : List Str := ["_law_tape_here", "_law_deep", "_law_row", "_law_k", "_law_label_here", "_law_inner", "_law_one"]
abbrev p_law_tree : List Str := ["_law_tape_here", "_law_deep"]
theorem sc_law_tree : FnScope N_law_tree p_law_tree (defScope s_law_tree) := ⟨rfl, rfl, rfl, by decide +kernel, rfl, by decide +kernel, by decide +kernel⟩
abbrev s_law_addresses : Stmt := topS 14
abbrev N_law_addresses : List Str := ["_law_tree_here", "_law_told", "_law_label_here", "_law_box", "_law_rest"]
abbrev p_law_addresses : List Str := ["_law_tree_here"]
theorem sc_law_addresses : FnScope N_law_addresses p_law_addresses (defScope s_law_addresses) := ⟨rfl, rfl, rfl, by decide +kernel, rfl, by decide +kernel, by decide +kernel⟩
abbrev s_law_along : Stmt := topS 15
abbrev N_law_along : List Str := ["_law_tree_here", "_law_address", "_law_boxes", "_law_row", "_law_label_here", "_law_here", "_law_one", "_law_box"]
abbrev p_law_along : List Str := ["_law_tree_here", "_law_address"]
theorem sc_law_along : FnScope N_law_along p_law_along (defScope s_law_along) := ⟨rfl, rfl, rfl, by decide +kernel, rfl, by decide +kernel, by decide +kernel⟩
abbrev s_law_other : Stmt := topS 16
abbrev N_law_other : List Str := ["_law_tape_here", "_law_boxes", "_law_address", "_law_inner", "_law_k", "_law_row", "_law_box", "_law_one"]
abbrev p_law_other : List Str := ["_law_tape_here", "_law_boxes", "_law_address"]
theorem sc_law_other : FnScope N_law_other p_law_other (defScope s_law_other) := ⟨rfl, rfl, rfl, by decide +kernel, rfl, by decide +kernel, by decide +kernel⟩
abbrev s_law : Stmt := topS 17
abbrev N_law : List Str := ["_law_script", "_law_tape_here", "_law_tree_here", "_law_addresses_here", "_law_turn", "_law_address", "_law_boxes", "_law_other_here", "_law_event", "_law_found", "_law_told", "_law_open_still", "_law_box", "_law_alone", "_law_one"]
abbrev p_law : List Str := ["_law_script"]
theorem sc_law : FnScope N_law p_law (defScope s_law) := ⟨rfl, rfl, rfl, by decide +kernel, rfl, by decide +kernel, by decide +kernel⟩
/-- what the top has left -/
structure Env (K : PySem.W.Frag) (mg : Str → Option Value) : Prop where
  l_boxes_along : Loc K mg "boxes_along" p_boxes_along s_boxes_along
  l_gone_up : Loc K mg "gone_up" p_gone_up s_gone_up
  l_law_tape : Loc K mg "_law_tape" p_law_tape s_law_tape
  l_law_draw : Loc K mg "_law_draw" p_law_draw s_law_draw
  l_law_number : Loc K mg "_law_number" p_law_number s_law_number
  l_law_spot : Loc K mg "_law_spot" p_law_spot s_law_spot
  l_law_label : Loc K mg "_law_label" p_law_label s_law_label
  l_law_hands : Loc K mg "_law_hands" p_law_hands s_law_hands
  l_law_tree : Loc K mg "_law_tree" p_law_tree s_law_tree
  l_law_addresses : Loc K mg "_law_addresses" p_law_addresses s_law_addresses
  l_law_along : Loc K mg "_law_along" p_law_along s_law_along
  l_law_other : Loc K mg "_law_other" p_law_other s_law_other
  l_law : Loc K mg "law" p_law s_law
  m_ValueError : mg "ValueError" = none
  m_abs : mg "abs" = none
  m_int : mg "int" = none
  m_len : mg "len" = none
  m_range : mg "range" = none
  m_reversed : mg "reversed" = none
  m_tuple : mg "tuple" = none
local macro_rules | `(tactic| walk_at "s") => `(tactic| first
  | ((with_reducible refine' w_var ?h ?q); (case h => exact rfl))
  | (with_reducible refine' w_c ?_)
  | (with_reducible refine' w_name ?_)
  | (with_reducible refine' w_op ?_)
  | (with_reducible refine' w_nil ?_)
  | (with_reducible refine' w_cons ?_)
  | (with_reducible refine' w_seq ?_)
  | (with_reducible refine' w_asg ?_)
  | (with_reducible refine' w_ret ?_)
  | (with_reducible refine' w_ifS ?_)
  | (with_reducible refine' w_call ?_)
  | (with_reducible refine' w_cb ?_)
  | (with_reducible refine' w_test ?_)
  | (with_reducible refine' w_B ?_)
  | (with_reducible refine' w_addI ?_)
  | (with_reducible refine' w_rI0 ?_)
  | (with_reducible refine' w_eqI ?_)
  | (with_reducible refine' w_eqS ?_)
  | (with_reducible refine' w_eqB ?_)
  | (with_reducible refine' w_neI ?_)
  | (with_reducible refine' w_neS ?_)
  | (with_reducible refine' w_neB ?_)
  | (with_reducible refine' w_bl ?_)
  | (with_reducible refine' w_and ?_)
  | (with_reducible refine' w_or ?_)
  | (with_reducible refine' w_not ?_)
  | (with_reducible refine' w_andV ?_)
  | (with_reducible refine' w_orV ?_)
  | (with_reducible refine' w_notV ?_)
  | (with_reducible refine' w_if ?_)
  | (with_reducible refine' w_isN ?_)
  | (with_reducible refine' w_notN ?_)
  | (with_reducible refine' w_tup ?_)
  | (with_reducible refine' w_lst ?_)
  | (with_reducible refine' w_un ?_)
  | (with_reducible refine' w_rU ?_)
  | (with_reducible refine' w_chain ?_)
  | (with_reducible refine' w_retN ?_)
  | (with_reducible refine' w_drop ?_)
  | (with_reducible refine' w_next ?_)
  | (with_reducible refine' w_sub' ?_)
  | (with_reducible refine' w_for ?_)
  | (with_reducible refine' w_sl ?_)
  | (with_reducible refine' w_part ?_)
  | (with_reducible refine' w_partI ?_)
  | (with_reducible refine' w_nopart ?_)
  | (with_reducible refine' w_bm ?_)
  | (with_reducible refine' w_bm0 ?_)
  | (with_reducible refine' w_lc ?_)
  | ((with_reducible refine' w_wipe ?h ?q); (case h => exact rfl))
  | (with_reducible refine' w_yes ?_)
  | (with_reducible refine' w_N ?_)
  | (with_reducible refine' w_gcons ?_)
  | (with_reducible refine' w_gnil ?_)
  | (with_reducible refine' w_isB ?_)
  | (with_reducible refine' w_nisB ?_)
  | (with_reducible refine' w_iRev ?_)
  | (with_reducible refine' w_iEnum ?_)
  | (with_reducible refine' w_iR1 ?_)
  | (with_reducible refine' w_max ?_)
  | (with_reducible refine' w_min ?_)
  | (with_reducible refine' w_abs ?_)
  | (with_reducible refine' w_intI ?_)
  | (with_reducible refine' w_intB ?_)
  | (with_reducible refine' w_pow9 ?_)
  | (with_reducible refine' w_pow18 ?_)
  | (with_reducible refine' w_pow6 ?_)
  | (with_reducible refine' w_pow59 ?_)
  | (with_reducible refine' w_iR2 ?_)
  | (with_reducible refine' w_iL ?_)
  | (with_reducible refine' w_iT ?_)
  | (with_reducible refine' is_non_int ?_)
  | (with_reducible refine' is_non_bool ?_)
  | (with_reducible refine' is_non_str ?_)
  | (with_reducible refine' is_non_tuple ?_)
  | (with_reducible refine' is_non_list ?_)
  | (with_reducible refine' is_non_dict ?_)
  | (with_reducible refine' is_bl_int ?_)
  | (with_reducible refine' is_bl_bool ?_)
  | (with_reducible refine' is_bl_str ?_)
  | (with_reducible refine' is_bl_tuple ?_)
  | (with_reducible refine' is_bl_list ?_)
  | (with_reducible refine' is_bl_dict ?_)
  | (with_reducible refine' is_int_int ?_)
  | (with_reducible refine' is_int_bool ?_)
  | (with_reducible refine' is_int_str ?_)
  | (with_reducible refine' is_int_tuple ?_)
  | (with_reducible refine' is_int_list ?_)
  | (with_reducible refine' is_int_dict ?_)
  | (with_reducible refine' is_str_int ?_)
  | (with_reducible refine' is_str_bool ?_)
  | (with_reducible refine' is_str_str ?_)
  | (with_reducible refine' is_str_tuple ?_)
  | (with_reducible refine' is_str_list ?_)
  | (with_reducible refine' is_str_dict ?_)
  | (with_reducible refine' w_inSign ?_)
  | (with_reducible refine' w_ninSign ?_)
  | (with_reducible refine' w_dnew ?_)
  | (with_reducible refine' w_iS ?_)
  | (with_reducible refine' w_iRevR ?_)
  | (with_reducible refine' iteT ?_)
  | (with_reducible refine' iteF ?_)
  | (with_reducible refine' iteNT ?_)
  | (with_reducible refine' iteNF ?_))
local macro_rules | `(tactic| walk_at "go") => `(tactic| repeat walk_at "s")

/-! ### the law's own draws: nothing is known of a number drawn but its bounds -/
/-- a tape: script, count, rest, place; all that stood at first stands -/
def Tape (K : PySem.W.Frag) (H0 H : Hp) (t : Addr) : Prop := (∃ (a : Addr) (ns : List Int) (n d p : Int), H t = some (.lst [.ref a, .int n, .int d, .int p]) ∧ SqL K H0 a (ns.map V.int) ∧ 0 ≤ p) ∧ Fr [] H0 H ∧ H0 t = none
section
variable {K : PySem.W.Frag} {H0 H H' : Hp} {t q : Addr}
theorem Tape.fr (T : Tape K H0 H t) (e : Fr [] H H') : Tape K H0 H' t := by
  obtain ⟨⟨a, ns, n, d, p, h1, h2, h3⟩, h4, h5⟩ := T
  exact ⟨⟨a, ns, n, d, p, e _ _ h1 (by simp), h2, h3⟩, h4.trans e, h5⟩
theorem Tape.new (T : Tape K H0 H t) {o : HO} (h : H q = none) : Tape K H0 (upd H q o) t := T.fr (Fr.new h)
theorem Tape.ne (T : Tape K H0 H t) (h : H q = none) : q ≠ t := by
  rintro rfl
  obtain ⟨⟨_, _, _, _, _, e, _⟩, _⟩ := T
  rw [h] at e
  cases e
theorem Tape.no (T : Tape K H0 H t) (h : H q = none) : H0 q = none := T.2.1.free h
/-- what is new changes -/
theorem Tape.mut (T : Tape K H0 H t) {o : HO} (nq : q ≠ t) (n0 : H0 q = none) : Tape K H0 (upd H q o) t := by
  obtain ⟨⟨a, zs, n, d, p, h1, h2, h4⟩, f, h5⟩ := T
  refine ⟨⟨a, zs, n, d, p, ?_, h2, h4⟩, fun b u e z => ?_, h5⟩
  · rw [upd_ne nq.symm]; exact h1
  · rw [upd_ne (by rintro rfl; rw [n0] at e; cases e)]
    exact f b u e z
theorem Tape.fr1 (T : Tape K H0 H t) (e : Fr [q] H H') (nq : q ≠ t) (n0 : H0 q = none) : Tape K H0 H' t := by
  obtain ⟨⟨a, zs, n, d, p, h1, h2, h4⟩, f, h5⟩ := T
  exact ⟨⟨a, zs, n, d, p, e _ _ h1 (by simpa using nq.symm), h2, h4⟩, Fr.drop1 n0 f e, h5⟩
theorem Tape.free1 (T : Tape K H0 H t) (f : Fr [t] H H') (h : H' q = none) (nq : q ≠ t) : H q = none := by
  cases e : H q with
  | none => rfl
  | some o =>
    have z := f q o e (by simpa using nq)
    rw [h] at z
    cases z
theorem Tape.tu (T : Tape K H0 H t) (f : Fr [t] H H') : Tu H H' := by
  obtain ⟨⟨a, zs, n, d, p, h1, _⟩, _⟩ := T
  exact f.tu1 h1
end
def sp_law_tape (K : PySem.W.Frag) : Sp := fun vs H Q _ => ∃ (a : Addr) (ns : List Int), vs = [.ref a] ∧ SqL K H a (ns.map V.int) ∧ ∀ t H', H t = none → Fr [] H H' → Tape K H H' t → Q (.ref t) H'
def sp_law_draw (K : PySem.W.Frag) : Sp := fun vs H Q _ => ∃ (t : Addr) (m : Int) (H0 : Hp), vs = [.ref t, .int m] ∧ Tape K H0 H t ∧ 0 < m ∧ m < 2 ^ 64 ∧ ∀ r H', 0 ≤ r → r < m → Fr [t] H H' → Tape K H0 H' t → Q (.int r) H'
section
variable {P : Program} {w : World} {K : PySem.W.Frag} {mg : Str → Option Value} {base : Heap}
theorem ok_law_tape (T : Env K mg) : Fx P w K mg base 1 "_law_tape" p_law_tape (sp_law_tape K) := by
  refine T.l_law_tape.ok sc_law_tape (fun vs H Q E h => ?_) (fun f cdv A outer s H vs Q E hr h => ?_)
  · obtain ⟨a, ns, rfl, _⟩ := h
    rfl
  · obtain ⟨a, ns, rfl, hS, k⟩ := h
    refine ⟨_, (pss_one (ps_ret (pe_lst (pa_cons (pv 0) (pa_cons pe_int (pa_cons pe_int (pa_cons pe_int pa_nil))))))), ?_⟩
    walk_at "go"
    refine ⟨by show 4 ≤ sizeLine; decide, fun t ht => ?_⟩
    exact k t _ ht (Fr.new ht) ⟨⟨a, ns, 0, 0, 0, upd_same, hS, Int.le_refl 0⟩, Fr.new ht, ht⟩
theorem ok_law_draw (T : Env K mg) : Fx P w K mg base 1 "_law_draw" p_law_draw (sp_law_draw K) := by
  refine T.l_law_draw.ok sc_law_draw (fun vs H Q E h => ?_) (fun f cdv A outer s H vs Q E hr h => ?_)
  · obtain ⟨t, m, _, rfl, _⟩ := h
    rfl
  · obtain ⟨t, m, H0, rfl, hT, m0, m64, k⟩ := h
    obtain ⟨⟨a, ns, n, d, p, ht, hS0, hp⟩, f0, n0⟩ := hT
    have hS : SqL K H a (ns.map V.int) := f0.seqL hS0 (by simp)
    have keep : ∀ H', Fr [t] H H' → Fr [] H0 H' := fun H' f b o e _ => f b o (f0 b o e (by simp)) (by
      intro z
      rw [List.mem_singleton.mp z, n0] at e
      cases e)
    refine ⟨_, (pss_cons (ps_set (i := 2) sc_law_draw.nd rfl (Or.inl rfl) (pe_ix (ix_U (K := K) rfl) (pv 0) pe_int (fun _ _ => rfl)))
      (pss_cons (ps_asg (pe_op (op_addU (K := K) rfl) (pe_ix (ix_U (K := K) rfl) (pv 0) pe_int (fun _ _ => rfl)) pe_int) (pg_sub (pv 0) pe_int set_list))
      (C8.pss_cut (ps_if (PW.pt (pw_and (pt_cmpR (op_eqU (K := K) rfl (u64 hr)) (pe_ix (ix_U (K := K) rfl) (pv 0) pe_int (fun _ _ => rfl)) pe_int (nomark _)) (pw_and1 (pt_cmpR op_lt (pe_ix (ix_U (K := K) rfl) (pv 0) pe_int (fun _ _ => rfl)) (pe_callB (call_lenU (K := K) rfl) (by rfl) T.m_len (by decide +kernel) (pa_cons (pv 2) pa_nil)) (nomark _))))) (pss_cons (ps_asg (pe_op op_fdivW (pe_callB call_absU (by rfl) T.m_abs (by decide +kernel) (pa_cons (pe_ix (ix_U (K := K) rfl) (pv 2) (pe_ix (ix_U (K := K) rfl) (pv 0) pe_int (fun _ _ => rfl)) (fun _ _ => rfl)) pa_nil)) (pe_op op_pow pe_int pe_int)) (pg_sub (pv 0) pe_int set_list))
      (pss_one (ps_asg (pe_op (op_addU (K := K) rfl) (pe_ix (ix_U (K := K) rfl) (pv 0) pe_int (fun _ _ => rfl)) pe_int) (pg_sub (pv 0) pe_int set_list)))) pss_nil)
      (pss_cons (ps_if (pt_cmpR op_gt (pe_ix (ix_U (K := K) rfl) (pv 0) pe_int (fun _ _ => rfl)) pe_int (nomark _)) (pss_cons (ps_set (i := 3) sc_law_draw.nd rfl (Or.inl rfl) (pe_op op_mod (pe_ix (ix_U (K := K) rfl) (pv 0) pe_int (fun _ _ => rfl)) (pv 1)))
      (pss_cons (ps_asg (pe_op op_fdivW (pe_ix (ix_U (K := K) rfl) (pv 0) pe_int (fun _ _ => rfl)) (pv 1)) (pg_sub (pv 0) pe_int set_list))
      (pss_one (ps_ret (pv 3))))) pss_nil)
      (pss_cons (ps_set (i := 4) sc_law_draw.nd rfl (Or.inl rfl) pe_int)
      (C8.pss_cut (ps_if (pt_cmpR op_gt (pe_callB (call_lenU (K := K) rfl) (by rfl) T.m_len (by decide +kernel) (pa_cons (pv 2) pa_nil)) pe_int (nomark _)) (pss_one (ps_set (i := 4) sc_law_draw.nd rfl (Or.inl rfl) (pe_ix (ix_U (K := K) rfl) (pv 2) (pe_op op_mod (pe_ix (ix_U (K := K) rfl) (pv 0) pe_int (fun _ _ => rfl)) (pe_callB (call_lenU (K := K) rfl) (by rfl) T.m_len (by decide +kernel) (pa_cons (pv 2) pa_nil))) (fun _ _ => rfl)))) pss_nil)
      (pss_cons (ps_set (i := 5) sc_law_draw.nd rfl (Or.inl rfl) (pe_op op_mod (pe_op (op_addU (K := K) rfl) (pe_op (op_addU (K := K) rfl) (pe_op op_mulU (pe_op op_mod (pv 4) pe_int) pe_int) (pe_op op_mulU (pe_ix (ix_U (K := K) rfl) (pv 0) pe_int (fun _ _ => rfl)) pe_int)) pe_int) pe_int))
      (pss_cons (ps_set (i := 5) sc_law_draw.nd rfl (Or.inl rfl) (pe_op op_mod (pe_op op_mulU (pv 5) (pe_op (op_addU (K := K) rfl) (pv 5) pe_int)) pe_int))
      (pss_one (ps_ret (pe_op op_mod (pe_op op_mod (pe_op op_mulU (pv 5) pe_int) pe_int) (pv 1)))))))))))), ?_⟩
    walk_at "go"
    refine w_ixL (SqL.of ht) rfl ?_
    walk_at "go"
    refine w_ixL (SqL.of ht) rfl ?_
    walk_at "go"
    refine w_setL ht rfl ?_
    generalize hH1 : upd H t _ = H1
    have f1 : Fr [t] H H1 := by rw [← hH1]; exact Fr.mut (by simp)
    have t1 : H1 t = some (.lst [.ref a, .int (n + 1), .int d, .int p]) := by rw [← hH1]; exact upd_same
    refine w_cut (fun σ' H' => σ' = [some (.ref t), some (.int m), some (.ref a), none, none, none] ∧ Fr [t] H H' ∧ ∃ d p, H' t = some (.lst [.ref a, .int (n + 1), .int d, .int p]) ∧ 0 ≤ p) ?_ ?_
    · walk_at "go"
      refine w_ixL (SqL.of t1) rfl ?_
      walk_at "go"
      have end0 : ∀ d p, 0 ≤ p → ∀ H', Fr [t] H H' → H' t = some (.lst [.ref a, .int (n + 1), .int d, .int p]) → ([some (.ref t), some (.int m), some (.ref a), none, none, none] : L2.St) = [some (.ref t), some (.int m), some (.ref a), none, none, none] ∧ Fr [t] H H' ∧ ∃ d p, H' t = some (.lst [.ref a, .int (n + 1), .int d, .int p]) ∧ 0 ≤ p :=
        fun d p hp H' f e => ⟨rfl, f, d, p, e, hp⟩
      refine ite_d (fun h0 => ?_) (fun h0 => ?_)
      · walk_at "go"
        refine w_ixL (SqL.of t1) rfl ?_
        walk_at "go"
        have hS1 : SqL K H1 a (ns.map V.int) := (keep _ f1).seqL hS0 (by simp)
        refine w_lenL hS1 ?_
        walk_at "go"
        refine ite_d (fun h1 => ?_) (fun h1 => ?_)
        · rw [List.length_map] at h1
          obtain ⟨z, hz, _⟩ := at_int hp h1
          walk_at "go"
          refine w_ixL (SqL.of t1) rfl ?_
          walk_at "go"
          refine w_ixL hS1 hz ?_
          walk_at "go"
          refine w_rI ⟨by decide, by decide +kernel⟩ ?_
          walk_at "go"
          refine w_setL t1 rfl ?_
          walk_at "go"
          refine w_ixL (SqL.of upd_same) rfl ?_
          walk_at "go"
          refine w_setL upd_same rfl ?_
          refine end0 _ (p + 1) (by omega) _ ?_ upd_same
          exact (f1.trans (Fr.mut (by simp))).trans (Fr.mut (by simp))
        · walk_at "go"
          exact end0 d p hp H1 f1 t1
      · walk_at "go"
        exact end0 d p hp H1 f1 t1
    · rintro σ' H2 ⟨rfl, f2, d, p, t2, hp⟩
      have hS2 : SqL K H2 a (ns.map V.int) := (keep _ f2).seqL hS0 (by simp)
      have fin : ∀ x, Q (.int (x % m)) H2 := fun x => k _ H2 (Int.emod_nonneg _ (by omega)) (Int.emod_lt_of_pos _ m0) f2 ⟨⟨a, ns, n + 1, d, p, t2, hS0, hp⟩, keep _ f2, n0⟩
      walk_at "go"
      refine w_ixL (SqL.of t2) rfl ?_
      walk_at "go"
      refine ite_d (fun h0 => ?_) (fun h0 => ?_)
      · walk_at "go"
        refine w_ixL (SqL.of t2) rfl ?_
        walk_at "go"
        refine w_rI m0 ?_
        walk_at "go"
        refine w_ixL (SqL.of t2) rfl ?_
        walk_at "go"
        refine w_rI (wide_div m0 (b := 64) (by omega) (by decide) (by decide)) ?_
        walk_at "go"
        refine w_setL t2 rfl ?_
        walk_at "go"
        have f3 : Fr [t] H (upd H2 t (.lst [.ref a, .int (n + 1), .int (d / m), .int p])) := f2.trans (Fr.mut (by simp))
        exact k _ _ (Int.emod_nonneg _ (by omega)) (Int.emod_lt_of_pos _ m0) f3 ⟨⟨a, ns, n + 1, d / m, p, upd_same, hS0, hp⟩, keep _ f3, n0⟩
      · walk_at "go"
        refine w_cut (fun σ' H' => H' = H2 ∧ ∃ z, σ' = [some (.ref t), some (.int m), some (.ref a), none, some (.int z), none]) ?_ ?_
        · walk_at "go"
          refine w_lenL hS2 ?_
          walk_at "go"
          refine ite_d (fun h1 => ?_) (fun h1 => ?_)
          · rw [List.length_map] at h1
            walk_at "go"
            refine w_ixL (SqL.of t2) rfl ?_
            walk_at "go"
            refine w_lenL hS2 ?_
            rw [List.length_map]
            refine w_rI h1 ?_
            obtain ⟨z, hz, _⟩ := at_int (ns := ns) (p := (n + 1) % (ns.length : Int)) (Int.emod_nonneg _ (by omega)) (Int.emod_lt_of_pos _ h1)
            refine w_ixL hS2 hz ?_
            walk_at "go"
            exact ⟨rfl, z, rfl⟩
          · walk_at "go"
            exact ⟨rfl, 0, rfl⟩
        · rintro σ' H' ⟨rfl, z, rfl⟩
          walk_at "go"
          refine w_rI (by show (0 : Int) < 2147483647; decide) ?_
          refine w_mulI (.inr (by decide)) ?_
          walk_at "go"
          refine w_ixL (SqL.of t2) rfl ?_
          walk_at "go"
          refine w_mulI (.inr (by decide)) ?_
          walk_at "go"
          refine w_rI (by show (0 : Int) < 2147483629; decide) ?_
          walk_at "go"
          have b1 : ∀ y : Int, 0 ≤ y % 2147483629 ∧ y % 2147483629 < 2147483629 := fun y => ⟨Int.emod_nonneg _ (by decide), Int.emod_lt_of_pos _ (by decide)⟩
          generalize he : (_ : Int) % 2147483629 = e
          have b2 : 0 ≤ e ∧ e < 2147483629 := by rw [← he]; exact b1 _
          refine w_mulI (.inl (by constructor <;> omega)) ?_
          walk_at "go"
          refine w_rI (by show (0 : Int) < 2147483587; decide) ?_
          walk_at "go"
          refine w_mulI (.inr (by decide)) ?_
          walk_at "go"
          refine w_rI (by show (0 : Int) < 2147483563; decide) ?_
          walk_at "go"
          refine w_rI m0 ?_
          exact fin _
end

/-! ### comprehensions that draw -/
section
variable {K : PySem.W.Frag} {H0 H : Hp} {t : Addr}
theorem LC_tape {m : Int} {j : Nat} {ws : List Nat} {σ : L2.St} {te : TE} {Q : VK} (n : Nat) (P : PyData → Prop) (T : Tape K H0 H t) (hn : m.toNat = n) (h1 : -(2 ^ 62) ≤ m) (h2 : m < 2 ^ 62) (ln : n ≤ 100000)
    (hw : ∀ v, wipe ((wipe σ ws).set j (some v)) ws = wipe σ ws)
    (he : ∀ (i : Nat) H', i < n → Tape K H0 H' t → Fr [t] H H' → ∀ Q : VK, (∀ y d H2, Fr [t] H' H2 → Tape K H0 H2 t → Dt K H2 y d → P d → Q y H2) → te ((wipe σ ws).set j (some (.int i))) H' Q)
    (k : ∀ D H' ds, H D = none → Fr [t] H H' → Tape K H0 H' t → Lq K H' D ds → ds.length = n → (∀ d ∈ ds, P d) → Q (.ref D) H') :
    ∃ j' : Int, [V.int m] = [.int j'] ∧ -(2 ^ 62) ≤ j' ∧ j' < 2 ^ 62 ∧ ∀ D, H D = none → LC (Itr 0 j'.toNat) (gName j) tYes te ws σ D Q (upd H D (.lst [])) := by
  refine LC_R1 n hn h1 h2 fun D hD => ⟨fun i H' => Fr [t] H H' ∧ Tape K H0 H' t ∧ ∃ ds, Lq K H' D ds ∧ ds.length = i ∧ ∀ d ∈ ds, P d, ⟨Fr.new hD, T.new hD, [], ⟨[], upd_same, .nil⟩, rfl, by simp⟩, ?_, ?_⟩
  · rintro i H' hi ⟨f', T', ds, L, ld, pd⟩
    refine ⟨hw _, ?_⟩
    refine w_yes (iteT ?_)
    have nD := T.ne hD
    refine he i H' hi T' f' _ fun y d H2 f2 T2 dy py => ?_
    have L2' := L.fr f2 (by simpa using nD) (T'.tu f2)
    obtain ⟨ys, hys, dys⟩ := L2'
    refine ⟨ys, hys, Nat.lt_of_le_of_lt (show ys.length ≤ 100000 by rw [dys.length]; omega) (by decide), Fr.drop1 hD (f'.trans f2) (Fr.mut (by simp)), T2.mut nD (T.no hD), ds ++ [d], ⟨_, upd_same, (dys.append (.cons dy .nil)).mono (Tu.mut hys)⟩, by simp [ld], ?_⟩
    intro z hz
    rcases List.mem_append.mp hz with a | a
    · exact pd z a
    · rw [List.mem_singleton.mp a]; exact py
  · rintro H' ⟨f', T', ds, L, ld, pd⟩
    exact k D H' ds hD f' T' L ld pd
theorem _root_.U.Fr.free1' {H H' : Hp} {t a : Addr} (f : Fr [t] H H') (h : H' a = none) (n : a ≠ t) : H a = none := by
  cases e : H a with
  | none => rfl
  | some o =>
    have z := f a o e (by simpa using n)
    rw [h] at z
    cases z
end

/-! ### trees of boxes, as data -/
def Good (n : Nat) (d : PyData) : Prop := d.canLay0 = true ∧ d.depth ≤ n
structure Hand where
  ev : Str
  rank : Int
  last : Bool
  path : PyData
  chs : List (Str × Str × Int)
def chD (c : Str × Str × Int) : PyData := .tuple [.str c.1, .str c.2.1, .int c.2.2]
def Hand.d (h : Hand) : PyData := .tuple [.str h.ev, .int h.rank, .bool h.last, h.path, .tuple (h.chs.map chD)]
def Hand.ok (h : Hand) : Prop := Good 3 h.path ∧ h.chs.length ≤ 4 ∧ (∀ c ∈ h.chs, PyData.strOk c.1 = true ∧ PyData.strOk c.2.1 = true) ∧ PyData.strOk h.ev = true
def Hand.one (h : Hand) (c : Str × Str × Int) : PyData := .tuple [.int h.rank, h.path, .str c.1, .str c.2.1, .int c.2.2]
def Hand.told (h : Hand) : List PyData := h.chs.map h.one
theorem chs_lay : ∀ {cs : List (Str × Str × Int)}, (∀ c ∈ cs, PyData.strOk c.1 = true ∧ PyData.strOk c.2.1 = true) → PyData.canLayAll0 (cs.map chD) = true ∧ PyData.depthAll (cs.map chD) ≤ 1 := fun {cs} h => lay_list (n := 1) (fun d hd => by
  obtain ⟨c, hc, rfl⟩ := List.mem_map.mp hd
  obtain ⟨s1, s2⟩ := h c hc
  refine ⟨?_, Nat.le_refl _⟩
  show (PyData.strOk c.1 && (PyData.strOk c.2.1 && (true && true))) = true
  rw [s1, s2]
  rfl)
theorem Hand.good {h : Hand} (o : h.ok) : Good 4 h.d := by
  obtain ⟨c1, c2⟩ := chs_lay o.2.2.1
  refine ⟨?_, ?_⟩
  · show (PyData.strOk h.ev && (true && (true && (h.path.canLay0 && (PyData.canLayAll0 (h.chs.map chD) && true))))) = true
    rw [o.2.2.2, o.1.1, c1]
    rfl
  · show max 0 (max 0 (max 0 (max h.path.depth (max (PyData.depthAll (h.chs.map chD) + 1) 0)))) + 1 ≤ 4
    have := o.1.2
    omega
inductive Tr
  | nil
  | cons (l g s : PyData) (hs : List Hand) (i r : Tr)
structure Bx where
  g : PyData
  s : PyData
  hs : List Hand
  inner : Tr
def Tr.rows : Tr → List (PyData × Bx)
  | .nil => []
  | .cons l g s h i r => (l, ⟨g, s, h, i⟩) :: r.rows
def Tr.ds : Tr → List PyData
  | .nil => []
  | .cons l g s h i r => .tuple [l, .tuple [g, s, .tuple (h.map Hand.d), .tuple i.ds]] :: r.ds
def Tr.d (t : Tr) : PyData := .tuple t.ds
def Bx.d (b : Bx) : PyData := .tuple [b.g, b.s, .tuple (b.hs.map Hand.d), b.inner.d]
def rowD (p : PyData × Bx) : PyData := .tuple [p.1, p.2.d]
theorem Tr.ds_rows : ∀ t : Tr, t.ds = t.rows.map rowD
  | .nil => rfl
  | .cons l g s h i r => by
    rw [Tr.ds, Tr.rows, List.map_cons, Tr.ds_rows r]
    rfl
theorem Tr.d_rows (t : Tr) : t.d = .tuple (t.rows.map rowD) := by rw [Tr.d, Tr.ds_rows]
def Tr.of : List (PyData × Bx) → Tr
  | [] => .nil
  | p :: r => .cons p.1 p.2.g p.2.s p.2.hs p.2.inner (Tr.of r)
theorem Tr.rows_of : ∀ xs, (Tr.of xs).rows = xs
  | [] => rfl
  | p :: r => by rw [Tr.of, Tr.rows, Tr.rows_of r]
theorem Tr.d_of (xs : List (PyData × Bx)) : (Tr.of xs).d = .tuple (xs.map rowD) := by rw [Tr.d_rows, Tr.rows_of]
def HsOk (hs : List Hand) : Prop := hs.length ≤ 4 ∧ (∀ h ∈ hs, h.ok) ∧ ∀ ev, (hs.filter (fun h => decide (h.ev = ev))).length ≤ 1
def Tr.ok : Tr → Prop
  | .nil => True
  | .cons l _ _ h i r => Good 3 l ∧ HsOk h ∧ i.ok ∧ r.ok
def Tr.apart : Tr → Prop
  | .nil => True
  | .cons l _ _ _ i r => (∀ p ∈ r.rows, PyData.eqv l p.1 = false) ∧ i.apart ∧ r.apart
def Tr.cnt : Tr → Nat
  | .nil => 0
  | .cons _ _ _ _ i r => 1 + i.cnt + r.cnt
def Tr.deep : Tr → Nat
  | .nil => 0
  | .cons _ _ _ _ i r => max (1 + i.deep) r.deep
theorem Tr.ok_of : ∀ {xs : List (PyData × Bx)}, (∀ p ∈ xs, Good 3 p.1 ∧ HsOk p.2.hs ∧ p.2.inner.ok) → (Tr.of xs).ok
  | [], _ => trivial
  | p :: r, h => ⟨(h p (by simp)).1, (h p (by simp)).2.1, (h p (by simp)).2.2, Tr.ok_of fun q hq => h q (by simp [hq])⟩
theorem Tr.ok_rows : ∀ {t : Tr}, t.ok → ∀ p ∈ t.rows, Good 3 p.1 ∧ HsOk p.2.hs ∧ p.2.inner.ok
  | .nil, _, p, h => by simp [Tr.rows] at h
  | .cons l g s hs i r, o, p, h => by
    rw [Tr.rows] at h
    rcases List.mem_cons.mp h with rfl | h
    · exact ⟨o.1, o.2.1, o.2.2.1⟩
    · exact Tr.ok_rows o.2.2.2 p h
theorem Tr.apart_of : ∀ {xs : List (PyData × Bx)}, xs.Pairwise (fun p q => PyData.eqv p.1 q.1 = false) → (∀ p ∈ xs, p.2.inner.apart) → (Tr.of xs).apart
  | [], _, _ => trivial
  | p :: r, h, k => by
    obtain ⟨h1, h2⟩ := List.pairwise_cons.mp h
    exact ⟨by rw [Tr.rows_of]; exact h1, k p (by simp), Tr.apart_of h2 fun q hq => k q (by simp [hq])⟩
theorem Tr.cnt_of {m : Nat} : ∀ {xs : List (PyData × Bx)}, (∀ p ∈ xs, p.2.inner.cnt ≤ m) → (Tr.of xs).cnt ≤ xs.length * (1 + m)
  | [], _ => Nat.zero_le _
  | p :: r, h => by
    have h1 := Tr.cnt_of (xs := r) fun q hq => h q (by simp [hq])
    have h2 := h p (by simp)
    show 1 + p.2.inner.cnt + (Tr.of r).cnt ≤ (r.length + 1) * (1 + m)
    rw [Nat.add_mul]
    omega
theorem Tr.deep_of {m : Nat} : ∀ {xs : List (PyData × Bx)}, (∀ p ∈ xs, p.2.inner.deep ≤ m) → (Tr.of xs).deep ≤ 1 + m
  | [], _ => Nat.zero_le _
  | p :: r, h => by
    have h1 := Tr.deep_of (xs := r) fun q hq => h q (by simp [hq])
    have h2 := h p (by simp)
    show max (1 + p.2.inner.deep) (Tr.of r).deep ≤ 1 + m
    omega
theorem Tr.rows_len : ∀ t : Tr, t.rows.length ≤ t.cnt
  | .nil => Nat.le_refl _
  | .cons l g s h i r => by
    have := Tr.rows_len r
    show r.rows.length + 1 ≤ 1 + i.cnt + r.cnt
    omega
theorem Tr.deep_rows : ∀ {t : Tr}, ∀ p ∈ t.rows, 1 + p.2.inner.deep ≤ t.deep
  | .nil, p, h => by simp [Tr.rows] at h
  | .cons l g s hs i r, p, h => by
    rw [Tr.rows] at h
    show _ ≤ max (1 + i.deep) r.deep
    rcases List.mem_cons.mp h with rfl | h
    · exact Nat.le_max_left _ _
    · exact Nat.le_trans (Tr.deep_rows p h) (Nat.le_max_right _ _)
theorem Tr.cnt_rows : ∀ {t : Tr}, ∀ p ∈ t.rows, 1 + p.2.inner.cnt ≤ t.cnt
  | .nil, p, h => by simp [Tr.rows] at h
  | .cons l g s hs i r, p, h => by
    rw [Tr.rows] at h
    show _ ≤ 1 + i.cnt + r.cnt
    rcases List.mem_cons.mp h with rfl | h
    · show 1 + i.cnt ≤ _
      omega
    · have := Tr.cnt_rows p h
      omega
/-- the boxes along an address -/
def alongT : Tr → List PyData → Option (List Bx)
  | _, [] => some []
  | t, l :: r => match t.rows.filter fun p => PyData.eqv p.1 l with
    | [] => none
    | p :: _ => (alongT p.2.inner r).map (p.2 :: ·)
def addrs : Tr → List (List PyData)
  | .nil => []
  | .cons l _ _ _ i r => [l] :: ((addrs i).map (l :: ·) ++ addrs r)
theorem addrs_len : ∀ t : Tr, (addrs t).length = t.cnt
  | .nil => rfl
  | .cons l g s h i r => by
    rw [addrs, List.length_cons, List.length_append, List.length_map, addrs_len i, addrs_len r, Tr.cnt]
    omega
theorem alongT_rest {l g s : PyData} {h : List Hand} {i r : Tr} {x : PyData} {a : List PyData} (e : PyData.eqv l x = false) : alongT (.cons l g s h i r) (x :: a) = alongT r (x :: a) := by
  rw [alongT, alongT, Tr.rows, List.filter_cons_of_neg (by rw [e]; simp)]
theorem alongT_here {l g s : PyData} {h : List Hand} {i r : Tr} {a : List PyData} (e : PyData.eqv l l = true) : alongT (.cons l g s h i r) (l :: a) = (alongT i a).map (⟨g, s, h, i⟩ :: ·) := by
  rw [alongT, Tr.rows, List.filter_cons_of_pos (by rw [e])]
theorem good_refl {n : Nat} {d : PyData} (h : Good n d) (hn : n ≤ 64) : PyData.eqv d d = true := shaped_refl (lay_shaped ⟨h.1, Nat.le_trans h.2 hn⟩)
theorem addrs_head : ∀ {t : Tr}, ∀ a ∈ addrs t, ∃ p ∈ t.rows, ∃ r, a = p.1 :: r
  | .nil, a, h => by simp [addrs] at h
  | .cons l g s hs i r, a, h => by
    rw [addrs] at h
    rcases List.mem_cons.mp h with rfl | h
    · exact ⟨(l, ⟨g, s, hs, i⟩), by simp [Tr.rows], [], rfl⟩
    · rcases List.mem_append.mp h with h | h
      · obtain ⟨b, hb, rfl⟩ := List.mem_map.mp h
        exact ⟨(l, ⟨g, s, hs, i⟩), by simp [Tr.rows], b, rfl⟩
      · obtain ⟨p, hp, q, rfl⟩ := addrs_head a h
        exact ⟨p, by simp [Tr.rows, hp], q, rfl⟩
theorem addrs_along : ∀ {t : Tr}, t.ok → t.apart → ∀ a ∈ addrs t, ∃ b bs, alongT t a = some (b :: bs)
  | .nil, _, _, a, h => by simp [addrs] at h
  | .cons l g s hs i r, o, k, a, h => by
    rw [addrs] at h
    have e := good_refl o.1 (by decide)
    rcases List.mem_cons.mp h with rfl | h
    · exact ⟨⟨g, s, hs, i⟩, [], by rw [alongT_here e]; rfl⟩
    · rcases List.mem_append.mp h with h | h
      · obtain ⟨b, hb, rfl⟩ := List.mem_map.mp h
        obtain ⟨c, cs, ec⟩ := addrs_along o.2.2.1 k.2.1 b hb
        exact ⟨⟨g, s, hs, i⟩, c :: cs, by rw [alongT_here e, ec]; rfl⟩
      · obtain ⟨p, hp, q, rfl⟩ := addrs_head a h
        rw [alongT_rest (k.1 p hp)]
        exact addrs_along o.2.2.2 k.2.2 _ h
/-- what is along an address is right, and no longer than the tree is deep -/
theorem alongT_ok : ∀ {a : List PyData} {t : Tr} {bs : List Bx}, t.ok → alongT t a = some bs → (∀ b ∈ bs, HsOk b.hs) ∧ bs.length = a.length ∧ bs.length ≤ t.deep
  | [], t, bs, _, h => by
    rw [alongT] at h
    cases h
    exact ⟨by simp, rfl, Nat.zero_le _⟩
  | l :: r, t, bs, o, h => by
    rw [alongT] at h
    split at h
    · cases h
    · rename_i p _ e
      have hp : p ∈ t.rows := (List.mem_filter.mp (by rw [e]; simp)).1
      obtain ⟨o1, o2, o3⟩ := Tr.ok_rows o p hp
      cases e2 : alongT p.2.inner r with
      | none => rw [e2] at h; cases h
      | some cs =>
        rw [e2] at h
        cases h
        obtain ⟨a1, a2, a3⟩ := alongT_ok o3 e2
        refine ⟨fun b hb => ?_, by simp [a2], ?_⟩
        · rcases List.mem_cons.mp hb with rfl | hb
          · exact o2
          · exact a1 b hb
        · have := Tr.deep_rows p hp
          show cs.length + 1 ≤ _
          omega
/-- the changes that an event brings -/
def goH (ev : Str) : List Hand → List PyData × Bool
  | [] => ([], false)
  | h :: r => if h.ev = ev then (if h.last = true then (h.told, true) else (h.told ++ (goH ev r).1, (goH ev r).2)) else goH ev r
def goB (ev : Str) : List Bx → List PyData
  | [] => []
  | b :: r => if (goH ev b.hs).2 = true then (goH ev b.hs).1 else (goH ev b.hs).1 ++ goB ev r
theorem goB_cons {ev : Str} {b : Bx} {r : List Bx} : goB ev (b :: r) = (goH ev b.hs).1 ++ if (goH ev b.hs).2 = true then [] else goB ev r := by
  rw [goB]
  split
  · rw [List.append_nil]
  · rfl
theorem told_len {h : Hand} (o : h.ok) : h.told.length ≤ 4 := by
  rw [Hand.told, List.length_map]
  exact o.2.1
theorem goH_len {ev : Str} : ∀ {hs : List Hand}, (∀ h ∈ hs, h.ok) → (goH ev hs).1.length ≤ 4 * hs.length
  | [], _ => Nat.le_refl _
  | h :: r, o => by
    have h1 := told_len (o h (by simp))
    have h2 := goH_len (ev := ev) (hs := r) fun x hx => o x (by simp [hx])
    rw [goH]
    split
    · split
      · show h.told.length ≤ 4 * (r.length + 1)
        omega
      · show (h.told ++ (goH ev r).1).length ≤ 4 * (r.length + 1)
        rw [List.length_append]
        omega
    · show _ ≤ 4 * (r.length + 1)
      omega
theorem goB_len {ev : Str} : ∀ {bs : List Bx}, (∀ b ∈ bs, HsOk b.hs) → (goB ev bs).length ≤ 16 * bs.length
  | [], _ => Nat.le_refl _
  | b :: r, o => by
    have ob := o b (by simp)
    have h1 := goH_len (ev := ev) ob.2.1
    have h2 := goB_len (ev := ev) (bs := r) fun x hx => o x (by simp [hx])
    have h3 := ob.1
    rw [goB]
    split
    · show _ ≤ 16 * (r.length + 1)
      omega
    · show ((goH ev b.hs).1 ++ goB ev r).length ≤ 16 * (r.length + 1)
      rw [List.length_append]
      omega
/-- a change told -/
def ToldOk (d : PyData) : Prop := ∃ (h : Hand) (c : Str × Str × Int), h.ok ∧ c ∈ h.chs ∧ d = h.one c
theorem goH_ok {ev : Str} : ∀ {hs : List Hand}, (∀ h ∈ hs, h.ok) → ∀ d ∈ (goH ev hs).1, ToldOk d
  | [], _, d, hd => by simp [goH] at hd
  | h :: r, o, d, hd => by
    have h1 : ∀ d ∈ h.told, ToldOk d := fun d hd => by
      obtain ⟨c, hc, rfl⟩ := List.mem_map.mp hd
      exact ⟨h, c, o h (by simp), hc, rfl⟩
    have h2 := goH_ok (ev := ev) (hs := r) fun x hx => o x (by simp [hx])
    rw [goH] at hd
    split at hd
    · split at hd
      · exact h1 d hd
      · rcases List.mem_append.mp hd with z | z
        · exact h1 d z
        · exact h2 d z
    · exact h2 d hd
theorem goB_ok {ev : Str} : ∀ {bs : List Bx}, (∀ b ∈ bs, HsOk b.hs) → ∀ d ∈ goB ev bs, ToldOk d
  | [], _, d, hd => by simp [goB] at hd
  | b :: r, o, d, hd => by
    have h1 := goH_ok (ev := ev) (o b (by simp)).2.1
    have h2 := goB_ok (ev := ev) (bs := r) fun x hx => o x (by simp [hx])
    rw [goB] at hd
    split at hd
    · exact h1 d hd
    · rcases List.mem_append.mp hd with z | z
      · exact h1 d z
      · exact h2 d z
theorem ToldOk.good {d : PyData} (h : ToldOk d) : Good 4 d := by
  obtain ⟨h, c, o, hc, rfl⟩ := h
  obtain ⟨s1, s2⟩ := o.2.2.1 c hc
  refine ⟨?_, ?_⟩
  · show (true && (h.path.canLay0 && (PyData.strOk c.1 && (PyData.strOk c.2.1 && (true && true))))) = true
    rw [o.1.1, s1, s2]
    rfl
  · show max 0 (max h.path.depth (max 0 (max 0 (max 0 0)))) + 1 ≤ 4
    have := o.1.2
    omega
/-- the first hand of an event alone -/
def lawB (ev : Str) : List Bx → List PyData
  | [] => []
  | b :: r => match b.hs.filter fun h => decide (h.ev = ev) with
    | [] => lawB ev r
    | h :: _ => if h.last = true then h.told else h.told ++ lawB ev r
theorem goH_none {ev : Str} : ∀ {hs : List Hand}, hs.filter (fun h => decide (h.ev = ev)) = [] → goH ev hs = ([], false)
  | [], _ => rfl
  | h :: r, e => by
    rw [goH]
    by_cases z : h.ev = ev
    · rw [List.filter_cons_of_pos (by simpa using z)] at e
      cases e
    · rw [List.filter_cons_of_neg (by simpa using z)] at e
      rw [if_neg z]
      exact goH_none e
theorem goH_one {ev : Str} {x : Hand} : ∀ {hs : List Hand}, hs.filter (fun h => decide (h.ev = ev)) = [x] → goH ev hs = (x.told, x.last)
  | [], e => by cases e
  | h :: r, e => by
    rw [goH]
    by_cases z : h.ev = ev
    · rw [List.filter_cons_of_pos (by simpa using z)] at e
      obtain ⟨rfl, e'⟩ := List.cons.inj e
      rw [if_pos z, goH_none e']
      cases hl : h.last with
      | true => rfl
      | false => simp
    · rw [List.filter_cons_of_neg (by simpa using z)] at e
      rw [if_neg z]
      exact goH_one e
theorem lawB_goB {ev : Str} : ∀ {bs : List Bx}, (∀ b ∈ bs, HsOk b.hs) → lawB ev bs = goB ev bs
  | [], _ => rfl
  | b :: r, o => by
    have h2 := lawB_goB (ev := ev) (bs := r) fun x hx => o x (by simp [hx])
    have h3 := (o b (by simp)).2.2 ev
    rw [lawB, goB, h2]
    split
    · rename_i e
      rw [goH_none e]
      rfl
    · rename_i x y e
      rw [e] at h3
      have ey : y = [] := by
        cases y with
        | nil => rfl
        | cons _ _ => simp at h3
      subst ey
      rw [goH_one e]
def addrsR (xs : List (PyData × Bx)) : List (List PyData) := xs.flatMap fun p => [p.1] :: (addrs p.2.inner).map (p.1 :: ·)
theorem addrs_rows : ∀ t : Tr, addrs t = addrsR t.rows
  | .nil => rfl
  | .cons l g s h i r => by
    rw [addrs, Tr.rows, addrsR, List.flatMap_cons, addrs_rows r]
    rfl
theorem addrsR_take {xs : List (PyData × Bx)} {i : Nat} {p : PyData × Bx} (h : xs[i]? = some p) : addrsR (xs.take (i + 1)) = (addrsR (xs.take i) ++ [[p.1]]) ++ (addrs p.2.inner).map (p.1 :: ·) := by
  rw [List.take_add_one, h, addrsR, List.flatMap_append]
  show _ ++ ([p.1] :: (addrs p.2.inner).map (p.1 :: ·) ++ []) = _
  rw [List.append_nil, List.append_assoc]
  rfl
theorem addrsR_len {xs : List (PyData × Bx)} (i : Nat) : (addrsR (xs.take i)).length ≤ (addrsR xs).length := by
  have e : addrsR xs = addrsR (xs.take i) ++ addrsR (xs.drop i) := by
    rw [addrsR, addrsR, addrsR, ← List.flatMap_append, List.take_append_drop]
  rw [e, List.length_append]
  omega
theorem addrs_good : ∀ {t : Tr}, t.ok → ∀ a ∈ addrs t, (∀ l ∈ a, Good 3 l) ∧ a.length ≤ t.deep
  | .nil, _, a, h => by simp [addrs] at h
  | .cons l g s hs i r, o, a, h => by
    rw [addrs] at h
    show _ ∧ _ ≤ max (1 + i.deep) r.deep
    rcases List.mem_cons.mp h with rfl | h
    · refine ⟨fun x hx => ?_, ?_⟩
      · rw [List.mem_singleton.mp hx]; exact o.1
      · show 1 ≤ _
        omega
    · rcases List.mem_append.mp h with h | h
      · obtain ⟨b, hb, rfl⟩ := List.mem_map.mp h
        obtain ⟨h1, h2⟩ := addrs_good o.2.2.1 b hb
        refine ⟨fun x hx => ?_, ?_⟩
        · rcases List.mem_cons.mp hx with rfl | hx
          · exact o.1
          · exact h1 x hx
        · show b.length + 1 ≤ _
          omega
      · obtain ⟨h1, h2⟩ := addrs_good o.2.2.2 a h
        exact ⟨h1, by omega⟩

section
variable {P : Program} {w : World} {K : PySem.W.Frag} {mg : Str → Option Value} {base : Heap}
def sp_boxes_along (K : PySem.W.Frag) : Sp := fun vs H Q _ => ∃ (v va : V) (t : Tr) (ls : List PyData) (b : Bx) (bs : List Bx), vs = [v, va] ∧ Dt K H v t.d ∧ Dt K H va (.tuple ls) ∧ t.ok ∧ (∀ l ∈ ls, Good 3 l) ∧ alongT t ls = some (b :: bs) ∧ t.cnt ≤ 1000 ∧ ls.length ≤ 1000 ∧
  ∀ q H', H q = none → Fr [] H H' → Lq K H' q ((b :: bs).map Bx.d) → Q (.ref q) H'
theorem ok_boxes_along (T : Env K mg) : Fx P w K mg base 1 "boxes_along" p_boxes_along (sp_boxes_along K) := by
  refine T.l_boxes_along.ok sc_boxes_along (fun vs H Q E h => ?_) (fun f cdv A outer s H vs Q E hr h => ?_)
  · obtain ⟨v, va, t, ls, b, bs, rfl, _⟩ := h
    rfl
  · obtain ⟨v, va, t, ls, b, bs, rfl, dt, da, ot, gl, ea, ct, ll, k⟩ := h
    refine ⟨_, (pss_cons (ps_set (i := 2) sc_boxes_along.nd rfl (Or.inl rfl) (pe_lst pa_nil))
      (pss_cons (ps_set (i := 3) sc_boxes_along.nd rfl (Or.inl rfl) (pv 0))
      (pss_cons (ps_for PassesOwn.never rfl (pi_tupU (K := K) rfl (pv 1)) (pg_name (i := 4) sc_boxes_along.nd rfl (Or.inr rfl)) (pss_cons (ps_setLc (i := 5) (own := [("one", 6), ("box", 7)]) (g := (gTup K 2 (gCons (gName 6) (gCons (gName 7) gNil)))) rfl sc_boxes_along.nd rfl rfl (sw_true rfl rfl rfl (by decide +kernel)) (pi_tupU (K := K) rfl (pv 3)) (blkOk_by (N := N_boxes_along) (sc := defScope s_boxes_along) (by decide +kernel)) (fun _ _ _ _ _ => (pg_tupU (K := K) (n := 2) rfl rfl (pgs_cons (pg_name (i := 6) sc_boxes_along.nd rfl (Or.inl rfl)) (pgs_cons (pg_name (i := 7) sc_boxes_along.nd rfl (Or.inl rfl)) pgs_nil)))) (fun _ _ _ _ _ => (pts_one (pt_cmpR (op_eqU (K := K) rfl (u64 hr)) (pv 6) (pv 4) (nomark _)))) (fun _ _ _ _ _ => (pv 7)))
      (pss_cons (ps_if (pt_cmpR (op_eqU (K := K) rfl (u64 hr)) (pe_callB (call_lenU (K := K) rfl) (by rfl) T.m_len (by decide +kernel) (pa_cons (pv 5) pa_nil)) pe_int (nomark _)) (pss_one ps_never) pss_nil)
      (pss_cons (ps_expr (pe_bm PySem.F.plainAttrs_list PySem.F.slot_list_append PySem.F.type_list_append mt_append (pv 2) (pa_cons (pe_ix (ix_U (K := K) rfl) (pv 5) pe_int (fun _ _ => rfl)) pa_nil)))
      (pss_one (ps_set (i := 3) sc_boxes_along.nd rfl (Or.inl rfl) (pe_ix (ix_U (K := K) rfl) (pe_ix (ix_U (K := K) rfl) (pv 5) pe_int (fun _ _ => rfl)) pe_int (fun _ _ => rfl))))))))
      (pss_cons (ps_if (pt_cmpR (op_eqU (K := K) rfl (u64 hr)) (pe_callB (call_lenU (K := K) rfl) (by rfl) T.m_len (by decide +kernel) (pa_cons (pv 2) pa_nil)) pe_int (nomark _)) (pss_one ps_never) pss_nil)
      (pss_one (ps_ret (pv 2))))))), ?_⟩
    walk_at "go"
    refine mkL (K := K) .nil fun q H1 n1 f1 L1 => ?_
    walk_at "go"
    refine (da.mono f1.tu).walk (fun i σ H' => Fr [] H H' ∧ Tu H1 H' ∧ ∃ (rv : V) (u : Tr) (done rest : List Bx) (v4 v5 v6 v7 : Option V), σ = [some v, some va, some (.ref q), some rv, v4, v5, v6, v7] ∧ Dt K H' rv u.d ∧ u.ok ∧ u.cnt ≤ 1000 ∧ alongT u (ls.drop i) = some rest ∧ b :: bs = done ++ rest ∧ done.length = i ∧ Lq K H' q (done.map Bx.d)) ?_ ?_ ?_ ?_
    · exact ⟨f1, Tu.refl, v, t, [], b :: bs, _, _, _, _, rfl, dt.mono f1.tu, ot, ct, ea, rfl, rfl, L1⟩
    · rintro i σ H' ⟨_, z, _⟩
      exact z
    · rintro i lv l σ H2 hl dl ⟨f2, tu2, rv, u, done, rest, v4, v5, v6, v7, rfl, du, ou, cu, eu, eb, ed, L2'⟩
      have hli := (List.getElem?_eq_some_iff.mp hl)
      obtain ⟨hlt, el⟩ := hli
      have edr : ls.drop i = l :: ls.drop (i + 1) := by rw [List.drop_eq_getElem_cons hlt, el]
      rw [edr, alongT] at eu
      have gl1 : Good 3 l := gl l (by rw [← el]; exact List.getElem_mem hlt)
      have rl := Tr.rows_len u
      split at eu
      · cases eu
      · rename_i p ps ep
        have hp : p ∈ u.rows := (List.mem_filter.mp (by rw [ep]; simp)).1
        cases e2 : alongT p.2.inner (ls.drop (i + 1)) with
        | none => rw [e2] at eu; cases eu
        | some cs =>
          rw [e2] at eu
          have er : p.2 :: cs = rest := Option.some.inj eu
          subst er
          walk_at "go"
          rw [Tr.d_rows] at du
          refine LCX_T (K := K) (cs := u.rows) (dS := rowD) (fun x => PyData.eqv x.1 l) (fun x => x.2.d) du (by omega) ?_ fun D H3 n3 f3 L3 => ?_
          · intro c x H' KEEP DROP hc f' dx hk hd
            obtain ⟨a', us, rfl, sa, av⟩ := dx.tuple
            cases av with
            | cons d1 av =>
            cases av with
            | cons d2 av =>
            cases av
            refine w_gtup sa rfl ?_
            walk_at "go"
            have g1 := (Tr.ok_rows ou c hc).1
            refine w_eqD d1.dp (dl.mono f'.tu).dp (lay_shaped ⟨g1.1, Nat.le_trans g1.2 (by decide)⟩) (lay_shaped ⟨gl1.1, Nat.le_trans gl1.2 (by decide)⟩) ?_
            cases e : PyData.eqv c.1 l with
            | true =>
              walk_at "go"
              exact hk e _ _ Fr.refl d2
            | false =>
              walk_at "go"
              exact hd e _ Fr.refl
          · rw [ep, List.map_cons] at L3
            have dq : D ≠ q := by
              rintro rfl
              obtain ⟨ys, hys, _⟩ := L2'
              rw [n3] at hys
              cases hys
            have L23 := L2'.fr0 f3
            walk_at "go"
            refine L3.len ?_
            walk_at "go"
            rw [List.length_cons, decide_eq_false (by omega : ¬ (((List.map (fun x => Bx.d x.2) ps).length + 1 : Nat) : Int) = 0)]
            walk_at "go"
            refine ⟨L23.ty, ?_⟩
            walk_at "go"
            refine L3.ix 0 rfl fun bv db => ?_
            walk_at "go"
            have ld : done.length ≤ 1000 := by omega
            refine L23.app db (by rw [List.length_map]; omega) fun H4 f4 tu4 L4 => ?_
            walk_at "go"
            have L34 := L3.fr f4 (by simpa using dq) tu4
            refine L34.ix 0 rfl fun bv2 db2 => ?_
            walk_at "go"
            refine Dt.ix 3 db2 rfl fun iv di => ?_
            have nq : H q = none := n1
            obtain ⟨o1, o2, o3⟩ := Tr.ok_rows ou p hp
            have c3 := Tr.cnt_rows p hp
            exact ⟨Fr.drop1 nq (f2.trans f3) f4, (tu2.trans f3.tu).trans tu4, iv, p.2.inner, done ++ [p.2], cs, _, _, _, _, rfl, di, o3, by omega, e2, by rw [eb]; simp, by simp [ed], by rw [List.map_append]; exact L4⟩
    · rintro σ H2 ⟨f2, tu2, rv, u, done, rest, v4, v5, v6, v7, rfl, du, ou, cu, eu, eb, ed, L2'⟩
      rw [List.drop_length, alongT] at eu
      have er : [] = rest := Option.some.inj eu
      subst er
      rw [List.append_nil] at eb
      subst eb
      walk_at "go"
      refine L2'.len ?_
      walk_at "go"
      rw [List.map_cons, List.length_cons, decide_eq_false (by omega : ¬ (((List.map Bx.d bs).length + 1 : Nat) : Int) = 0)]
      walk_at "go"
      exact k q H2 n1 f2 L2'
def sp_gone_up (K : PySem.W.Frag) : Sp := fun vs H Q _ => ∃ (v va : V) (ev : Str) (t : Tr) (ls : List PyData) (b : Bx) (bs : List Bx), vs = [v, va, .str ev] ∧ Dt K H v t.d ∧ Dt K H va (.tuple ls) ∧ t.ok ∧ (∀ l ∈ ls, Good 3 l) ∧ alongT t ls = some (b :: bs) ∧ t.cnt ≤ 1000 ∧ ls.length ≤ 1000 ∧
  ∀ q H', H q = none → Fr [] H H' → Lq K H' q (goB ev (b :: bs).reverse) → Q (.ref q) H'
theorem ok_gone_up (T : Env K mg) : Fx P w K mg base 2 "gone_up" p_gone_up (sp_gone_up K) := by
  refine T.l_gone_up.ok sc_gone_up (fun vs H Q E h => ?_) (fun f cdv A outer s H vs Q E hr h => ?_)
  · obtain ⟨v, va, ev, t, ls, b, bs, rfl, _⟩ := h
    rfl
  · obtain ⟨v, va, ev, t, ls, b, bs, rfl, dt, da, ot, gl, ea, ct, ll, k⟩ := h
    obtain ⟨okb, lb, _⟩ := alongT_ok ot ea
    have okr : ∀ x ∈ (b :: bs).reverse, HsOk x.hs := fun x hx => okb x (List.mem_reverse.mp hx)
    refine ⟨_, (pss_cons (ps_set (i := 3) sc_gone_up.nd rfl (Or.inl rfl) (pe_lst pa_nil))
      (pss_cons (ps_for PassesOwn.never rfl (pi_revU (K := K) rfl (by rfl) T.m_reversed (pe_fx (ok_boxes_along T) hr (by decide) (pa_cons (pv 0) (pa_cons (pv 1) pa_nil)))) (pg_name (i := 4) sc_gone_up.nd rfl (Or.inl rfl)) (pss_one (ps_for PassesOwn.never rfl (pi_tupU (K := K) rfl (pe_ix (ix_U (K := K) rfl) (pv 4) pe_int (fun _ _ => rfl))) (pg_name (i := 5) sc_gone_up.nd rfl (Or.inr rfl)) (pss_one (ps_if (pt_cmpR (op_eqU (K := K) rfl (u64 hr)) (pe_ix (ix_U (K := K) rfl) (pv 5) pe_int (fun _ _ => rfl)) (pv 2) (nomark _)) (pss_cons (ps_expr (pe_bm PySem.F.plainAttrs_list PySem.F.slot_list_extend PySem.F.type_list_extend mt_extend (pv 3) (pa_cons (pe_lc (own := [("change", 6)]) (g := (gName 6)) (tt := tYes) rfl sc_gone_up.nd (pi_tupU (K := K) rfl (pe_ix (ix_U (K := K) rfl) (pv 5) pe_int (fun _ _ => rfl))) (blkOk_by (N := N_gone_up) (sc := defScope s_gone_up) (by decide +kernel)) (fun _ _ _ _ _ => (pg_name (i := 6) sc_gone_up.nd rfl (Or.inl rfl))) (fun _ _ _ _ _ => pts_nil) (fun _ _ _ _ _ => (pe_op (op_addU (K := K) rfl) (pe_tup (pa_cons (pe_ix (ix_U (K := K) rfl) (pv 5) pe_int (fun _ _ => rfl)) (pa_cons (pe_ix (ix_U (K := K) rfl) (pv 5) pe_int (fun _ _ => rfl)) pa_nil))) (pv 6)))) pa_nil)))
      (pss_one (ps_if (pt_val (pe_ix (ix_U (K := K) rfl) (pv 5) pe_int (fun _ _ => rfl))) (pss_one (ps_ret (pv 3))) pss_nil))) pss_nil)))))
      (pss_one (ps_ret (pv 3))))), ?_⟩
    walk_at "go"
    refine mkL (K := K) .nil fun ch H1 n1 f1 L1 => ?_
    walk_at "go"
    refine ⟨v, va, t, ls, b, bs, rfl, dt.mono f1.tu, da.mono f1.tu, ot, gl, ea, ct, ll, fun q H2 n2 f2 L2' => ?_⟩
    have nqc : q ≠ ch := by
      rintro rfl
      obtain ⟨ys, hys, _⟩ := L1
      rw [n2] at hys
      cases hys
    walk_at "go"
    have lR : (b :: bs).length = (b :: bs).reverse.length := by rw [List.length_reverse]
    have total : (goB ev (b :: bs).reverse).length ≤ 16 * (b :: bs).reverse.length := goB_len okr
    have eg : ∀ i bx, (b :: bs)[(b :: bs).length - 1 - i]? = some bx → i < (b :: bs).length → (b :: bs).reverse[i]? = some bx := fun i bx e hi => by rw [List.getElem?_reverse hi]; exact e
    have lls : (b :: bs).length ≤ 1000 := by omega
    generalize hR : (b :: bs).reverse = R at total eg okr lR k
    generalize hB : b :: bs = B at L2' total eg lR lls
    refine L2'.walkRev (fun i σ H' => Fr [] H H' ∧ Tu H2 H' ∧ Lq K H' q (B.map Bx.d) ∧ ∃ (acc : List PyData) (v4 v5 v6 : Option V), σ = [some v, some va, some (.str ev), some (.ref ch), v4, v5, v6] ∧ Lq K H' ch acc ∧ acc ++ goB ev (R.drop i) = goB ev R) ?_ ?_ ?_ ?_
    · exact ⟨f1.trans f2, Tu.refl, L2', [], _, _, _, rfl, L1.fr0 f2, rfl⟩
    · rintro i σ H' ⟨_, _, L, _⟩
      exact L
    · rintro i bv d σ H3 hi hd db ⟨f3, tu3, L3, acc, v4, v5, v6, rfl, La3, ea3⟩
      obtain ⟨bx, hbx, rfl⟩ := map_get hd
      rw [List.length_map] at hi hbx
      have hrx := eg i bx hbx hi
      obtain ⟨hlt, el⟩ := List.getElem?_eq_some_iff.mp hrx
      have edr : R.drop i = bx :: R.drop (i + 1) := by rw [List.drop_eq_getElem_cons hlt, el]
      have okx : HsOk bx.hs := okr bx (by rw [← el]; exact List.getElem_mem hlt)
      rw [edr, goB_cons] at ea3
      walk_at "go"
      refine Dt.ix 2 db rfl fun hv dh => ?_
      walk_at "go"
      refine dh.walk (fun j σ H' => Fr [] H H' ∧ Tu H2 H' ∧ Tu H3 H' ∧ Lq K H' q (B.map Bx.d) ∧ ∃ (acc : List PyData) (v5 v6 : Option V), σ = [some v, some va, some (.str ev), some (.ref ch), some bv, v5, v6] ∧ Lq K H' ch acc ∧ acc ++ ((goH ev (bx.hs.drop j)).1 ++ if (goH ev (bx.hs.drop j)).2 = true then [] else goB ev (R.drop (i + 1))) = goB ev R) ?_ ?_ ?_ ?_
      · exact ⟨f3, tu3, Tu.refl, L3, acc, _, _, rfl, La3, ea3⟩
      · rintro j σ H' ⟨_, _, z, _⟩
        exact z
      · rintro j hdv d σ H4 hj dd ⟨f4, tu4, tu34, L4, acc, v5, v6, rfl, La4, ea4⟩
        obtain ⟨hh, hhx, rfl⟩ := map_get hj
        obtain ⟨hlt2, el2⟩ := List.getElem?_eq_some_iff.mp hhx
        have edh : bx.hs.drop j = hh :: bx.hs.drop (j + 1) := by rw [List.drop_eq_getElem_cons hlt2, el2]
        have okh : hh.ok := okx.2.1 hh (by rw [← el2]; exact List.getElem_mem hlt2)
        rw [edh, goH] at ea4
        have la : acc.length ≤ 16 * R.length := by
          rw [← ea4, List.length_append] at total
          omega
        walk_at "go"
        refine Dt.ix 0 dd rfl fun u0 d0 => ?_
        cases d0.of_str
        walk_at "go"
        refine ite_d (fun h0 => ?_) (fun h0 => ?_)
        · rw [if_pos h0] at ea4
          walk_at "go"
          refine ⟨La4.ty, ?_⟩
          walk_at "go"
          refine Dt.ix 4 dd rfl fun u4 d4 => ?_
          refine LCX_T (K := K) (cs := hh.chs) (dS := chD) (fun _ => true) hh.one d4 (Nat.le_trans okh.2.1 (by decide)) ?_ fun D H5 n5 f5 L5 => ?_
          · intro c x H' KEEP DROP hc f' dx hk _
            have dd' := dd.mono f'.tu
            walk_at "go"
            refine Dt.ix 1 dd' rfl fun u1 d1 => ?_
            walk_at "go"
            refine Dt.ix 3 dd' rfl fun u3 d3 => ?_
            walk_at "go"
            refine mkT (K := K) (.cons d1 (.cons d3 .nil)) fun p6 H6 n6 f6 d6 => ?_
            walk_at "go"
            refine d6.cat (dx.mono f6.tu) (by exact Nat.le_of_ble_eq_true rfl) fun p7 H7 f7 d7 => ?_
            exact hk rfl _ H7 (f6.trans f7) d7
          · rw [List.filter_eq_self.mpr (fun _ _ => rfl)] at L5
            have L5 : Lq K H5 D hh.told := L5
            have lt := told_len okh
            have La5 := La4.fr0 f5
            walk_at "go"
            refine La5.extend L5 (by omega) fun H6 f6 tu6 L6 => ?_
            have f46 := f4.trans f5
            have nch : H ch = none := n1
            have f6' : Fr [] H H6 := Fr.drop1 nch f46 f6
            have tu46 := f5.tu.trans tu6
            have Lq6 := (L4.fr0 f5).fr f6 (by simpa using nqc) tu6
            walk_at "go"
            refine Dt.ix 2 (dd.mono tu46) rfl fun u2 d2 => ?_
            cases d2.of_bl
            walk_at "go"
            cases hl : hh.last with
            | true =>
              rw [hl, if_pos rfl] at ea4
              have e9 : acc ++ hh.told = goB ev R := by rw [← ea4]; simp
              rw [e9] at L6
              walk_at "go"
              exact k ch H6 nch f6' L6
            | false =>
              rw [hl, if_neg Bool.false_ne_true] at ea4
              walk_at "go"
              exact ⟨f6', tu4.trans tu46, tu34.trans tu46, Lq6, acc ++ hh.told, _, _, rfl, L6, by rw [← ea4]; simp⟩
        · rw [if_neg h0] at ea4
          walk_at "go"
          exact ⟨f4, tu4, tu34, L4, acc, _, _, rfl, La4, ea4⟩
      · rintro σ H4 ⟨f4, tu4, tu34, L4, acc, v5, v6, rfl, La4, ea4⟩
        rw [List.length_map, List.drop_length, goH] at ea4
        exact ⟨f4, tu4, L4, acc, _, _, _, rfl, La4, by rw [← ea4]; simp⟩
    · rintro σ H3 ⟨f3, tu3, L3, acc, v4, v5, v6, rfl, La3, ea3⟩
      rw [List.length_map, lR, List.drop_length, goB, List.append_nil] at ea3
      rw [ea3] at La3
      walk_at "go"
      exact k ch H3 n1 f3 La3
end


section
variable {P : Program} {w : World} {K : PySem.W.Frag} {mg : Str → Option Value} {base : Heap}
/-- a small number, or one of six -/
def sp_law_number (K : PySem.W.Frag) : Sp := fun vs H Q _ => ∃ (t : Addr) (H0 : Hp), vs = [.ref t] ∧ Tape K H0 H t ∧ ∀ r H', -1000000000 ≤ r ∧ r ≤ 1000000000 → Fr [t] H H' → Tape K H0 H' t → Q (.int r) H'
theorem ok_law_number (T : Env K mg) : Fx P w K mg base 2 "_law_number" p_law_number (sp_law_number K) := by
  refine T.l_law_number.ok sc_law_number (fun vs H Q E h => ?_) (fun f cdv A outer s H vs Q E hr h => ?_)
  · obtain ⟨t, _, rfl, _⟩ := h
    rfl
  · obtain ⟨t, H0, rfl, hT, k⟩ := h
    refine ⟨_, (pss_cons (ps_if (pt_cmpR op_gt (pe_fx (ok_law_draw T) hr (by decide) (pa_cons (pv 0) (pa_cons pe_int pa_nil))) pe_int (nomark _)) (pss_one (ps_ret (pe_op op_sub (pe_fx (ok_law_draw T) hr (by decide) (pa_cons (pv 0) (pa_cons pe_int pa_nil))) pe_int))) pss_nil)
      (pss_one (ps_ret (pe_ix (ix_U (K := K) rfl) (pe_lst (pa_cons (pe_op op_pow pe_int pe_int) (pa_cons (pe_un un_neg (pe_op op_pow pe_int pe_int)) (pa_cons pe_int (pa_cons (pe_un un_neg pe_int) (pa_cons pe_int (pa_cons pe_int pa_nil))))))) (pe_fx (ok_law_draw T) hr (by decide) (pa_cons (pv 0) (pa_cons pe_int pa_nil))) (fun _ _ => rfl))))), ?_⟩
    walk_at "go"
    refine ⟨t, 8, H0, rfl, hT, by decide, by decide, fun r H1 r0 r1 f1 T1 => ?_⟩
    walk_at "go"
    refine ite_d (fun h0 => ?_) (fun h0 => ?_)
    · walk_at "go"
      refine ⟨t, 9, H0, rfl, T1, by decide, by decide, fun r2 H2 r20 r21 f2 T2 => ?_⟩
      walk_at "go"
      exact k _ _ (by omega) (f1.trans f2) T2
    · walk_at "go"
      refine ⟨by show 6 ≤ sizeLine; decide, fun l hl => ?_⟩
      walk_at "go"
      refine ⟨t, 6, H0, rfl, T1.new hl, by decide, by decide, fun r2 H2 r20 r21 f2 T2 => ?_⟩
      have e2 : H2 l = some (.lst (([1000000000, -1000000000, 999983, -70001, 31623, 40000] : List Int).map V.int)) := f2 _ _ upd_same (by simpa using T1.ne hl)
      obtain ⟨z, hz, hb⟩ := at_all (ns := [1000000000, -1000000000, 999983, -70001, 31623, 40000]) (P := fun r => -1000000000 ≤ r ∧ r ≤ 1000000000) (by decide) r20 r21
      refine w_ixL (SqL.of e2) hz ?_
      exact k _ _ hb ((f1.trans (Fr.new hl)).trans f2) T2

end

theorem Good.mono {n m : Nat} {d : PyData} (h : Good n d) (l : n ≤ m) : Good m d := ⟨h.1, Nat.le_trans h.2 l⟩
theorem good_tuple {n : Nat} {ds : List PyData} (h : ∀ d ∈ ds, Good n d) : Good (n + 1) (.tuple ds) := by
  obtain ⟨a, b⟩ := lay_list (n := n) h
  exact ⟨a, Nat.succ_le_succ b⟩
theorem one_of_nodup {e : Str} : ∀ {hs : List Hand}, (hs.map Hand.ev).Nodup → (hs.filter (fun h => decide (h.ev = e))).length ≤ 1
  | [], _ => Nat.zero_le _
  | h :: r, nde => by
    rw [List.map_cons, List.nodup_cons] at nde
    by_cases z : h.ev = e
    · rw [List.filter_cons_of_pos (by simpa using z)]
      have y : r.filter (fun h => decide (h.ev = e)) = [] := by
        rw [List.filter_eq_nil_iff]
        intro x hx hxe
        apply nde.1
        rw [z, ← of_decide_eq_true hxe]
        exact List.mem_map_of_mem hx
      rw [y]
      exact Nat.le_refl _
    · rw [List.filter_cons_of_neg (by simpa using z)]
      exact one_of_nodup nde.2
section
variable {P : Program} {w : World} {K : PySem.W.Frag} {mg : Str → Option Value} {base : Heap}
def sp_law_spot (K : PySem.W.Frag) : Sp := fun vs H Q _ => ∃ (t : Addr) (H0 : Hp), vs = [.ref t] ∧ Tape K H0 H t ∧ ∀ v d H', Fr [t] H H' → Tape K H0 H' t → Dt K H' v d → Good 1 d → Q v H'
theorem ok_law_spot (T : Env K mg) : Fx P w K mg base 2 "_law_spot" p_law_spot (sp_law_spot K) := by
  refine T.l_law_spot.ok sc_law_spot (fun vs H Q E h => ?_) (fun f cdv A outer s H vs Q E hr h => ?_)
  · obtain ⟨t, _, rfl, _⟩ := h
    rfl
  · obtain ⟨t, H0, rfl, T0, k⟩ := h
    refine ⟨_, (pss_one (ps_ret (pe_tup (pa_cons (pe_ix (ix_U (K := K) rfl) (pe_lst (pa_cons pe_non (pa_cons pe_non (pa_cons pe_int (pa_cons pe_int (pa_cons (pe_un un_neg pe_int) (pa_cons pe_int pa_nil))))))) (pe_fx (ok_law_draw T) hr (by decide) (pa_cons (pv 0) (pa_cons pe_int pa_nil))) (fun _ _ => rfl)) (pa_cons (pe_fx (ok_law_draw T) hr (by decide) (pa_cons (pv 0) (pa_cons pe_int pa_nil))) pa_nil))))), ?_⟩
    walk_at "go"
    refine mkL (K := K) (.cons .non (.cons .non (.cons (.int 0) (.cons (.int 1) (.cons (.int (-2)) (.cons (.int 7) .nil)))))) fun l H1 n1 f1 L1 => ?_
    have T1 := T0.fr f1
    walk_at "go"
    refine ⟨t, 6, H0, rfl, T1, by decide, by decide, fun r2 H2 a2 b2 f2 T2 => ?_⟩
    have L2' := L1.fr f2 (by simpa using T0.ne n1) (T1.tu f2)
    walk_at "go"
    refine L2'.at (P := Good 0) (by
      intro d hd
      simp only [List.mem_cons, List.not_mem_nil, or_false] at hd
      rcases hd with rfl | rfl | rfl | rfl | rfl | rfl <;> exact ⟨rfl, Nat.le_refl _⟩) a2 (by simpa using b2) fun v d dv gd _ => ?_
    walk_at "go"
    refine ⟨t, 3, H0, rfl, T2, by decide, by decide, fun r3 H3 a3 b3 f3 T3 => ?_⟩
    walk_at "go"
    refine mkT (K := K) (.cons (dv.mono (T2.tu f3)) (.cons (.int r3) .nil)) fun p4 H4 n4 f4 d4 => ?_
    refine k _ _ H4 (((f1.mono (by simp)).trans (f2.trans f3)).trans (f4.mono (by simp))) (T3.fr f4) d4 (good_tuple (n := 0) ?_)
    intro x hx
    simp only [List.mem_cons, List.not_mem_nil, or_false] at hx
    rcases hx with rfl | rfl
    · exact gd
    · exact ⟨rfl, Nat.le_refl _⟩
def sp_law_label (K : PySem.W.Frag) : Sp := fun vs H Q _ => ∃ (t : Addr) (H0 : Hp), vs = [.ref t] ∧ Tape K H0 H t ∧ ∀ v d H', Fr [t] H H' → Tape K H0 H' t → Dt K H' v d → Good 2 d → Q v H'
theorem ok_law_label (T : Env K mg) : Fx P w K mg base 3 "_law_label" p_law_label (sp_law_label K) := by
  refine T.l_law_label.ok sc_law_label (fun vs H Q E h => ?_) (fun f cdv A outer s H vs Q E hr h => ?_)
  · obtain ⟨t, _, rfl, _⟩ := h
    rfl
  · obtain ⟨t, H0, rfl, T0, k⟩ := h
    refine ⟨_, (pss_one (ps_ret (pe_callTy (call_tupleU (K := K) rfl) (by rfl) T.m_tuple (by decide +kernel) (pa_cons (pe_lc (own := [("_law_k", 1)]) (g := (gName 1)) (tt := tYes) rfl sc_law_label.nd (pi_range1 rfl T.m_range (pa_cons (pe_op (op_addU (K := K) rfl) pe_int (pe_op op_fdivW (pe_fx (ok_law_draw T) hr (by decide) (pa_cons (pv 0) (pa_cons pe_int pa_nil))) pe_int)) pa_nil)) (blkOk_by (N := N_law_label) (sc := defScope s_law_label) (by decide +kernel)) (fun _ _ _ _ _ => (pg_name (i := 1) sc_law_label.nd rfl (Or.inl rfl))) (fun _ _ _ _ _ => pts_nil) (fun _ _ _ _ _ => (pe_fx (ok_law_spot T) hr (by decide) (pa_cons (pv 0) pa_nil)))) pa_nil)))), ?_⟩
    walk_at "go"
    refine ⟨t, 3, H0, rfl, T0, by decide, by decide, fun r1 H1 a1 b1 f1 T1 => ?_⟩
    walk_at "go"
    refine w_rI ⟨by decide, by decide +kernel⟩ ?_
    walk_at "go"
    refine LC_tape (K := K) (1 + r1 / 2).toNat (Good 1) T1 rfl (by omega) (by omega) (by omega) (fun v => rfl) ?_ fun D H2 ds n2 f2 T2 L2' _ g2 => ?_
    · intro i H' hi T' f' Q' q
      walk_at "go"
      refine ⟨t, H0, rfl, T', fun v d H3 f3 T3 d3 g3 => ?_⟩
      exact q v d H3 f3 T3 d3 g3
    · walk_at "go"
      refine L2'.tuple fun p H3 f3 d3 => ?_
      exact k _ _ H3 ((f1.trans f2).trans (f3.mono (by simp))) (T2.fr f3) d3 (good_tuple g2)
def sp_law_hands (K : PySem.W.Frag) : Sp := fun vs H Q _ => ∃ (t : Addr) (H0 : Hp), vs = [.ref t] ∧ Tape K H0 H t ∧ ∀ v hs H', Fr [t] H H' → Tape K H0 H' t → Dt K H' v (.tuple (hs.map Hand.d)) → HsOk hs → Q v H'
theorem ok_law_hands (T : Env K mg) : Fx P w K mg base 3 "_law_hands" p_law_hands (sp_law_hands K) := by
  refine T.l_law_hands.ok sc_law_hands (fun vs H Q E h => ?_) (fun f cdv A outer s H vs Q E hr h => ?_)
  · obtain ⟨t, _, rfl, _⟩ := h
    rfl
  · obtain ⟨t, H0, rfl, T0, k⟩ := h
    refine ⟨_, (pss_cons (ps_set (i := 1) sc_law_hands.nd rfl (Or.inl rfl) (pe_lst pa_nil))
      (pss_cons (ps_set (i := 2) sc_law_hands.nd rfl (Or.inl rfl) (pe_ix (ix_U (K := K) rfl) (pe_lst (pa_cons (pe_lst (pa_cons pe_str (pa_cons pe_str (pa_cons pe_str pa_nil)))) (pa_cons (pe_lst (pa_cons pe_str (pa_cons pe_str (pa_cons pe_str pa_nil)))) (pa_cons (pe_lst (pa_cons pe_str (pa_cons pe_str (pa_cons pe_str pa_nil)))) pa_nil)))) (pe_fx (ok_law_draw T) hr (by decide) (pa_cons (pv 0) (pa_cons pe_int pa_nil))) (fun _ _ => rfl)))
      (pss_cons (ps_for PassesOwn.never rfl (pi_listU (K := K) rfl (pe_slice (sl_U (K := K) rfl) (pv 2) po_none (po_some (pe_fx (ok_law_draw T) hr (by decide) (pa_cons (pv 0) (pa_cons pe_int pa_nil)))))) (pg_name (i := 3) sc_law_hands.nd rfl (Or.inl rfl)) (pss_cons (ps_set (i := 4) sc_law_hands.nd rfl (Or.inl rfl) (pe_callTy (call_tupleU (K := K) rfl) (by rfl) T.m_tuple (by decide +kernel) (pa_cons (pe_lc (own := [("_law_k", 6)]) (g := (gName 6)) (tt := tYes) rfl sc_law_hands.nd (pi_range1 rfl T.m_range (pa_cons (pe_fx (ok_law_draw T) hr (by decide) (pa_cons (pv 0) (pa_cons pe_int pa_nil))) pa_nil)) (blkOk_by (N := N_law_hands) (sc := defScope s_law_hands) (by decide +kernel)) (fun _ _ _ _ _ => (pg_name (i := 6) sc_law_hands.nd rfl (Or.inl rfl))) (fun _ _ _ _ _ => pts_nil) (fun _ _ _ _ _ => (pe_fx (ok_law_spot T) hr (by decide) (pa_cons (pv 0) pa_nil)))) pa_nil)))
      (pss_cons (ps_set (i := 5) sc_law_hands.nd rfl (Or.inl rfl) (pe_lst pa_nil))
      (pss_cons (ps_for PassesOwn.never rfl (pi_range1 rfl T.m_range (pa_cons (pe_fx (ok_law_draw T) hr (by decide) (pa_cons (pv 0) (pa_cons pe_int pa_nil))) pa_nil)) (pg_name (i := 6) sc_law_hands.nd rfl (Or.inl rfl)) (pss_cons (ps_set (i := 7) sc_law_hands.nd rfl (Or.inl rfl) (pe_ix (ix_U (K := K) rfl) (pe_lst (pa_cons pe_str (pa_cons pe_str (pa_cons pe_str pa_nil)))) (pe_fx (ok_law_draw T) hr (by decide) (pa_cons (pv 0) (pa_cons pe_int pa_nil))) (fun _ _ => rfl)))
      (pss_one (ps_expr (pe_bm PySem.F.plainAttrs_list PySem.F.slot_list_append PySem.F.type_list_append mt_append (pv 5) (pa_cons (pe_tup (pa_cons (pe_ix (ix_U (K := K) rfl) (pe_lst (pa_cons pe_str (pa_cons pe_str (pa_cons pe_str pa_nil)))) (pe_fx (ok_law_draw T) hr (by decide) (pa_cons (pv 0) (pa_cons pe_int pa_nil))) (fun _ _ => rfl)) (pa_cons (pv 7) (pa_cons (pe_fx (ok_law_number T) hr (by decide) (pa_cons (pv 0) pa_nil)) pa_nil)))) pa_nil))))))
      (pss_one (ps_expr (pe_bm PySem.F.plainAttrs_list PySem.F.slot_list_append PySem.F.type_list_append mt_append (pv 1) (pa_cons (pe_tup (pa_cons (pv 3) (pa_cons (pe_op (op_addU (K := K) rfl) pe_int (pe_fx (ok_law_draw T) hr (by decide) (pa_cons (pv 0) (pa_cons pe_int pa_nil)))) (pa_cons (pe_cmpR (op_eqU (K := K) rfl (u64 hr)) (pe_fx (ok_law_draw T) hr (by decide) (pa_cons (pv 0) (pa_cons pe_int pa_nil))) pe_int (nomark _)) (pa_cons (pv 4) (pa_cons (pe_callTy (call_tupleU (K := K) rfl) (by rfl) T.m_tuple (by decide +kernel) (pa_cons (pv 5) pa_nil)) pa_nil)))))) pa_nil))))))))
      (pss_one (ps_ret (pe_callTy (call_tupleU (K := K) rfl) (by rfl) T.m_tuple (by decide +kernel) (pa_cons (pv 1) pa_nil))))))), ?_⟩
    walk_at "go"
    refine mkL (K := K) .nil fun hl H1 n1 f1 L1 => ?_
    have nh := T0.ne n1
    have nh0 := T0.no n1
    walk_at "go"
    refine mkL (K := K) (.cons (.str "tap") (.cons (.str "key") (.cons (.str "ta") .nil))) fun l2 H2 n2 f2 L2' => ?_
    walk_at "go"
    refine mkL (K := K) (.cons (.str "key") (.cons (.str "tap") (.cons (.str "ta") .nil))) fun l3 H3 n3 f3 L3 => ?_
    walk_at "go"
    refine mkL (K := K) (.cons (.str "ta") (.cons (.str "tap") (.cons (.str "key") .nil))) fun l4 H4 n4 f4 L4 => ?_
    walk_at "go"
    refine ⟨by exact Nat.le_of_ble_eq_true rfl, fun p5 n5 => ?_⟩
    generalize e5 : upd H4 p5 _ = H5
    have f5 : Fr [] H4 H5 := by rw [← e5]; exact Fr.new n5
    have e5 : H5 p5 = some (.lst [.ref l2, .ref l3, .ref l4]) := by rw [← e5]; exact upd_same
    have T1 := T0.fr f1
    have T2 := T1.fr f2
    have T3 := T2.fr f3
    have T4 := T3.fr f4
    have T5 := T4.fr f5
    walk_at "go"
    refine ⟨t, 3, H0, rfl, T5, by decide, by decide, fun r6 H6 a6 b6 f6 T6 => ?_⟩
    have e6 := f6 _ _ e5 (by simpa using T4.ne n5)
    have c2 := (L2'.fr0 ((f3.trans f4).trans f5)).fr f6 (by simpa using T1.ne n2) (T5.tu f6)
    have c3 := (L3.fr0 (f4.trans f5)).fr f6 (by simpa using T2.ne n3) (T5.tu f6)
    have c4 := (L4.fr0 f5).fr f6 (by simpa using T3.ne n4) (T5.tu f6)
    have c1 := (L1.fr0 (((f2.trans f3).trans f4).trans f5)).fr f6 (by simpa using nh) (T5.tu f6)
    have f16 : Fr [t] H H6 := ((((f1.trans f2).trans f3).trans f4).trans f5).mono (by simp) |>.trans f6
    have pick : ∃ (le : Addr) (evs : List Str), atI [V.ref l2, .ref l3, .ref l4] r6 = some (.ref le) ∧ Lq K H6 le (evs.map PyData.str) ∧ evs.Nodup ∧ evs.length = 3 ∧ ∀ e ∈ evs, PyData.strOk e = true := by
      rcases (by omega : r6 = 0 ∨ r6 = 1 ∨ r6 = 2) with rfl | rfl | rfl
      · exact ⟨l2, ["tap", "key", "ta"], rfl, c2, by decide +kernel, rfl, by decide +kernel⟩
      · exact ⟨l3, ["key", "tap", "ta"], rfl, c3, by decide +kernel, rfl, by decide +kernel⟩
      · exact ⟨l4, ["ta", "tap", "key"], rfl, c4, by decide +kernel, rfl, by decide +kernel⟩
    obtain ⟨le, evs, hat, Le, nd, l3e, oke⟩ := pick
    walk_at "go"
    refine w_ixL (SqL.of e6) hat ?_
    walk_at "go"
    refine ⟨t, 4, H0, rfl, T6, by decide, by decide, fun r7 H7 a7 b7 f7 T7 => ?_⟩
    have nle : le ≠ t := by
      rcases (by omega : r6 = 0 ∨ r6 = 1 ∨ r6 = 2) with rfl | rfl | rfl
      · cases hat; exact T1.ne n2
      · cases hat; exact T2.ne n3
      · cases hat; exact T3.ne n4
    have Le7 := Le.fr f7 (by simpa using nle) (T6.tu f7)
    have c17 := c1.fr f7 (by simpa using nh) (T6.tu f7)
    walk_at "go"
    refine Le7.slice fun ls H8 n8 f8 L8 => ?_
    rw [show (some r7 : Option Int) = some ((r7.toNat : Nat) : Int) by rw [Int.toNat_of_nonneg a7], cutA_take, ← List.map_take] at L8
    have nls := T7.ne n8
    have nls0 := T7.no n8
    have c18 := c17.fr0 f8
    have nlh : ls ≠ hl := by
      rintro rfl
      obtain ⟨ys, hys, _⟩ := c17
      rw [n8] at hys
      cases hys
    have nd8 : (evs.take r7.toNat).Nodup := nd.sublist (List.take_sublist _ _)
    have ok8 : ∀ e ∈ evs.take r7.toNat, PyData.strOk e = true := fun e he => oke e (List.mem_of_mem_take he)
    have l8 : (evs.take r7.toNat).length ≤ 3 := by rw [List.length_take]; omega
    generalize evs.take r7.toNat = es at L8 nd8 ok8 l8
    have f18 : Fr [t] H H8 := (f16.trans f7).trans (f8.mono (by simp))
    have T8 := T7.fr f8
    walk_at "go"
    refine L8.walk (fun i σ H' => Fr [t] H H' ∧ Tape K H0 H' t ∧ Lq K H' ls (es.map PyData.str) ∧ ∃ (hs : List Hand) (v3 v4 v5 v6 v7 : Option V), σ = [some (.ref t), some (.ref hl), some (.ref le), v3, v4, v5, v6, v7] ∧ Lq K H' hl (hs.map Hand.d) ∧ hs.map Hand.ev = es.take i ∧ ∀ h ∈ hs, h.ok) ?_ ?_ ?_ ?_
    · exact ⟨f18, T8, L8, [], _, _, _, _, _, rfl, c18, rfl, by simp⟩
    · rintro i σ H' ⟨_, _, L, _⟩
      exact L
    · rintro i u d σ H9 hi du ⟨f9, T9, L9, hs, v3, v4, v5, v6, v7, rfl, c9, em, oh⟩
      obtain ⟨ev, hev, rfl⟩ := map_get hi
      cases du.of_str
      have lhs : hs.length ≤ 3 := by
        have z := congrArg List.length em
        rw [List.length_map, List.length_take] at z
        omega
      walk_at "go"
      refine ⟨t, 3, H0, rfl, T9, by decide, by decide, fun r10 H10 a10 b10 f10 T10 => ?_⟩
      walk_at "go"
      refine LC_tape (K := K) r10.toNat (Good 1) T10 rfl (by omega) (by omega) (by omega) (fun v => rfl) ?_ fun D H11 ds n11 f11 T11 L11 _ g11 => ?_
      · intro j H' hj T' f' Q' q
        walk_at "go"
        refine ⟨t, H0, rfl, T', fun v d H3 f3 T3 d3 g3 => ?_⟩
        exact q v d H3 f3 T3 d3 g3
      walk_at "go"
      refine L11.tuple fun pp H12 f12 d12 => ?_
      have T12 := T11.fr f12
      have f912 := (f10.trans f11).trans (f12.mono (by simp))
      have L12 := L9.fr f912 (by simpa using nls) (T9.tu f912)
      have c12 := c9.fr f912 (by simpa using nh) (T9.tu f912)
      walk_at "go"
      refine mkL (K := K) .nil fun cl H13 n13 f13 L13 => ?_
      have ncl := T12.ne n13
      have ncl0 := T12.no n13
      have T13 := T12.fr f13
      have ncls : cl ≠ ls := by
        rintro rfl
        obtain ⟨ys, hys, _⟩ := L12
        rw [n13] at hys
        cases hys
      have nclh : cl ≠ hl := by
        rintro rfl
        obtain ⟨ys, hys, _⟩ := c12
        rw [n13] at hys
        cases hys
      walk_at "go"
      refine ⟨t, 4, H0, rfl, T13, by decide, by decide, fun r14 H14 a14 b14 f14 T14 => ?_⟩
      have L14 := (L12.fr0 f13).fr f14 (by simpa using nls) (T13.tu f14)
      have c14 := (c12.fr0 f13).fr f14 (by simpa using nh) (T13.tu f14)
      have d14 := (d12.mono f13.tu).mono (T13.tu f14)
      have cl14 := L13.fr f14 (by simpa using ncl) (T13.tu f14)
      have f14a : Fr [t] H H14 := ((f9.trans f912).trans (f13.mono (by simp))).trans f14
      walk_at "go"
      refine F_R1 r14.toNat rfl (by omega) (by omega) (fun j σ H' => Fr [t] H H' ∧ Tape K H0 H' t ∧ Lq K H' ls (es.map PyData.str) ∧ Lq K H' hl (hs.map Hand.d) ∧ Dt K H' (.ref pp) (.tuple ds) ∧ ∃ (cs : List (Str × Str × Int)) (v6 v7 : Option V), σ = [some (.ref t), some (.ref hl), some (.ref le), some (.str ev), some (.ref pp), some (.ref cl), v6, v7] ∧ Lq K H' cl (cs.map chD) ∧ cs.length = j ∧ ∀ c ∈ cs, PyData.strOk c.1 = true ∧ PyData.strOk c.2.1 = true) ⟨f14a, T14, L14, c14, d14, [], _, _, rfl, cl14, rfl, by simp⟩ ?_ ?_
      · rintro j σ H15 hj ⟨f15, T15, L15, c15, d15, cs, v6, v7, rfl, cl15, lcs, ocs⟩
        walk_at "go"
        refine mkL (K := K) (.cons (.str "set") (.cons (.str "add") (.cons (.str "times") .nil))) fun wl H16 n16 f16 L16 => ?_
        have T16 := T15.fr f16
        walk_at "go"
        refine ⟨t, 3, H0, rfl, T16, by decide, by decide, fun r17 H17 a17 b17 f17 T17 => ?_⟩
        have L17 := L16.fr f17 (by simpa using T15.ne n16) (T16.tu f17)
        walk_at "go"
        refine L17.at (P := fun d => ∃ x, d = .str x ∧ PyData.strOk x = true) (by
          intro d hd
          simp only [List.mem_cons, List.not_mem_nil, or_false] at hd
          rcases hd with rfl | rfl | rfl
          · exact ⟨_, rfl, by decide +kernel⟩
          · exact ⟨_, rfl, by decide +kernel⟩
          · exact ⟨_, rfl, by decide +kernel⟩) a17 (by simpa using b17) fun wv wd dw gw _ => ?_
        obtain ⟨wx, rfl, ow⟩ := gw
        cases dw.of_str
        have f1517 : Fr [t] H15 H17 := (f16.mono (by simp)).trans f17
        have cl17 := cl15.fr f1517 (by simpa using ncl) (T15.tu f1517)
        walk_at "go"
        refine ⟨cl17.ty, ?_⟩
        walk_at "go"
        refine mkL (K := K) (.cons (.str "a") (.cons (.str "ab") (.cons (.str "tap") .nil))) fun nl H18 n18 f18 L18 => ?_
        have T18 := T17.fr f18
        walk_at "go"
        refine ⟨t, 3, H0, rfl, T18, by decide, by decide, fun r19 H19 a19 b19 f19 T19 => ?_⟩
        have L19 := L18.fr f19 (by simpa using T17.ne n18) (T18.tu f19)
        walk_at "go"
        refine L19.at (P := fun d => ∃ x, d = .str x ∧ PyData.strOk x = true) (by
          intro d hd
          simp only [List.mem_cons, List.not_mem_nil, or_false] at hd
          rcases hd with rfl | rfl | rfl
          · exact ⟨_, rfl, by decide +kernel⟩
          · exact ⟨_, rfl, by decide +kernel⟩
          · exact ⟨_, rfl, by decide +kernel⟩) a19 (by simpa using b19) fun nv nd' dn gn _ => ?_
        obtain ⟨nx, rfl, on⟩ := gn
        cases dn.of_str
        walk_at "go"
        refine ⟨t, H0, rfl, T19, fun r20 H20 a20 f20 T20 => ?_⟩
        walk_at "go"
        refine mkT (K := K) (.cons (.str nx) (.cons (.str wx) (.cons (.int r20) .nil))) fun p21 H21 n21 f21 d21 => ?_
        have f1721 : Fr [t] H17 H21 := (((f18.mono (by simp)).trans f19).trans f20).trans (f21.mono (by simp))
        have cl21 := cl17.fr f1721 (by simpa using ncl) (T17.tu f1721)
        have T21 := T20.fr f21
        walk_at "go"
        refine cl21.app d21 (by rw [List.length_map]; omega) fun H22 f22 tu22 L22 => ?_
        have f1521 := f1517.trans f1721
        have tu1522 := (T15.tu f1521).trans tu22
        refine ⟨?_, T21.fr1 f22 ncl ncl0, (L15.fr f1521 (by simpa using nls) (T15.tu f1521)).fr f22 (by simpa using ncls.symm) tu22, (c15.fr f1521 (by simpa using nh) (T15.tu f1521)).fr f22 (by simpa using nclh.symm) tu22, d15.mono tu1522, cs ++ [(nx, wx, r20)], _, _, rfl, by rw [List.map_append]; exact L22, by simp [lcs], ?_⟩
        · refine Fr.drop1 ?_ (f15.trans f1521) f22
          have z := ((f9.trans f912).free1' n13 ncl)
          exact z
        · intro c hc
          rcases List.mem_append.mp hc with z | z
          · exact ocs c z
          · rw [List.mem_singleton.mp z]
            exact ⟨on, ow⟩
      · rintro σ H15 ⟨f15, T15, L15, c15, d15, cs, v6, v7, rfl, cl15, lcs, ocs⟩
        walk_at "go"
        refine ⟨c15.ty, ?_⟩
        walk_at "go"
        refine ⟨t, 3, H0, rfl, T15, by decide, by decide, fun r16 H16 a16 b16 f16 T16 => ?_⟩
        walk_at "go"
        refine ⟨t, 4, H0, rfl, T16, by decide, by decide, fun r17 H17 a17 b17 f17 T17 => ?_⟩
        have cl17 := (cl15.fr f16 (by simpa using ncl) (T15.tu f16)).fr f17 (by simpa using ncl) (T16.tu f17)
        walk_at "go"
        refine cl17.tuple fun p18 H18 f18 d18 => ?_
        have f1518 := (f16.trans f17).trans (f18.mono (by simp))
        have tu1518 := T15.tu f1518
        have T18 := T17.fr f18
        walk_at "go"
        refine mkT (K := K) (.cons (.str ev) (.cons (.int (1 + r16)) (.cons (.bl (decide (r17 = 0))) (.cons (d15.mono tu1518) (.cons d18 .nil))))) fun p19 H19 n19 f19 d19 => ?_
        have c19 := (c15.fr f1518 (by simpa using nh) tu1518).fr0 f19
        have L19 := (L15.fr f1518 (by simpa using nls) tu1518).fr0 f19
        walk_at "go"
        have T19 := T18.fr f19
        refine c19.app (d := (Hand.mk ev (1 + r16) (decide (r17 = 0)) (.tuple ds) cs).d) d19 (by rw [List.length_map]; omega) fun H20 f20 tu20 L20 => ?_
        refine ⟨?_, T19.fr1 f20 nh nh0, L19.fr f20 (by simpa using nlh) tu20, hs ++ [⟨ev, 1 + r16, decide (r17 = 0), .tuple ds, cs⟩], _, _, _, _, _, rfl, by rw [List.map_append]; exact L20, ?_, ?_⟩
        · exact Fr.drop1 n1 ((f15.trans f1518).trans (f19.mono (by simp))) f20
        · rw [List.map_append, em, List.take_add_one, hev]
          rfl
        · intro x hx
          rcases List.mem_append.mp hx with z | z
          · exact oh x z
          · rw [List.mem_singleton.mp z]
            exact ⟨(good_tuple g11).mono (by decide), by show cs.length ≤ 4; omega, ocs, ok8 ev (List.mem_of_getElem? hev)⟩
    · rintro σ H9 ⟨f9, T9, L9, hs, v3, v4, v5, v6, v7, rfl, c9, em, oh⟩
      rw [List.length_map, List.take_length] at em
      have lhs : hs.length ≤ 4 := by
        have z := congrArg List.length em
        rw [List.length_map] at z
        omega
      walk_at "go"
      refine c9.tuple fun pp H10 f10 d10 => ?_
      refine k _ hs H10 (f9.trans (f10.mono (by simp))) (T9.fr f10) d10 ⟨lhs, oh, fun e => ?_⟩
      have nde : (hs.map Hand.ev).Nodup := by rw [em]; exact nd8
      exact one_of_nodup nde
def sp_law_tree (K : PySem.W.Frag) (n : Nat) : Sp := fun vs H Q _ => ∃ (t : Addr) (e : Nat) (H0 : Hp), vs = [.ref t, .int e] ∧ e < n ∧ n ≤ 10 ∧ Tape K H0 H t ∧ ∀ v (u : Tr) H', Fr [t] H H' → Tape K H0 H' t → Dt K H' v u.d → u.ok → u.apart → u.cnt + 1 ≤ 4 ^ (e + 1) → u.deep ≤ e + 1 → Q v H'
theorem ok_law_tree (T : Env K mg) : ∀ n, Fx P w K mg base (4 + n) "_law_tree" p_law_tree (sp_law_tree K n)
  | 0 => T.l_law_tree.ok (k := 4 - 1) sc_law_tree (fun vs H Q E h => by
      obtain ⟨t, e, _, _, h, _⟩ := h
      exact absurd h (Nat.not_lt_zero _)) (fun f cdv A outer s H vs Q E hr h => by
      obtain ⟨t, e, _, _, h, _⟩ := h
      exact absurd h (Nat.not_lt_zero _))
  | n + 1 => by
    have IH := ok_law_tree T n
    refine T.l_law_tree.ok sc_law_tree (fun vs H Q E h => ?_) (fun f cdv A outer s H vs Q E hr h => ?_)
    · obtain ⟨t, e, _, rfl, _⟩ := h
      rfl
    · obtain ⟨t, e, H0, rfl, en, n9, T0, k⟩ := h
      refine ⟨_, (pss_cons (ps_set (i := 2) sc_law_tree.nd rfl (Or.inl rfl) (pe_lst pa_nil))
      (pss_cons (ps_for PassesOwn.never rfl (pi_range1 rfl T.m_range (pa_cons (pe_op op_sub (pe_op (op_addU (K := K) rfl) pe_int (pe_fx (ok_law_draw T) hr (Nat.le_trans (m := 4) (by decide) (Nat.le_add_right 4 _)) (pa_cons (pv 0) (pa_cons pe_int pa_nil)))) (pe_callTy call_intU (by rfl) T.m_int (by decide +kernel) (pa_cons (pe_cmpR (op_eqU (K := K) rfl (u64 hr)) (pv 1) pe_int (nomark _)) pa_nil))) pa_nil)) (pg_name (i := 3) sc_law_tree.nd rfl (Or.inl rfl)) (pss_cons (ps_set (i := 4) sc_law_tree.nd rfl (Or.inl rfl) (pe_fx (ok_law_label T) hr (Nat.le_trans (m := 4) (by decide) (Nat.le_add_right 4 _)) (pa_cons (pv 0) pa_nil)))
      (pss_one (ps_if (pt_cmpR (op_ninU (K := K) rfl (u65 hr)) (pv 4) (pe_lc (own := [("_law_one", 6)]) (g := (gName 6)) (tt := tYes) rfl sc_law_tree.nd (pi_listU (K := K) rfl (pv 2)) (blkOk_by (N := N_law_tree) (sc := defScope s_law_tree) (by decide +kernel)) (fun _ _ _ _ _ => (pg_name (i := 6) sc_law_tree.nd rfl (Or.inl rfl))) (fun _ _ _ _ _ => pts_nil) (fun _ _ _ _ _ => (pe_ix (ix_U (K := K) rfl) (pv 6) pe_int (fun _ _ => rfl)))) (by rfl)) (pss_cons (ps_set (i := 5) sc_law_tree.nd rfl (Or.inl rfl) (pe_tup pa_nil))
      (C8.pss_cut (ps_if (pt_cmpR op_gt (pv 1) pe_int (nomark _)) (pss_one (ps_set (i := 5) sc_law_tree.nd rfl (Or.inl rfl) (pe_fx (IH) hr (Nat.le_refl _) (pa_cons (pv 0) (pa_cons (pe_op op_sub (pv 1) pe_int) pa_nil))))) pss_nil)
      (pss_one (ps_expr (pe_bm PySem.F.plainAttrs_list PySem.F.slot_list_append PySem.F.type_list_append mt_append (pv 2) (pa_cons (pe_tup (pa_cons (pv 4) (pa_cons (pe_tup (pa_cons (pe_ix (ix_U (K := K) rfl) (pe_lst (pa_cons pe_str (pa_cons pe_str pa_nil))) (pe_fx (ok_law_draw T) hr (Nat.le_trans (m := 4) (by decide) (Nat.le_add_right 4 _)) (pa_cons (pv 0) (pa_cons pe_int pa_nil))) (fun _ _ => rfl)) (pa_cons (pe_tup pa_nil) (pa_cons (pe_fx (ok_law_hands T) hr (Nat.le_trans (m := 4) (by decide) (Nat.le_add_right 4 _)) (pa_cons (pv 0) pa_nil)) (pa_cons (pv 5) pa_nil))))) pa_nil))) pa_nil)))))) pss_nil))))
      (pss_one (ps_ret (pe_callTy (call_tupleU (K := K) rfl) (by rfl) T.m_tuple (by decide +kernel) (pa_cons (pv 2) pa_nil)))))), ?_⟩
      walk_at "go"
      refine mkL (K := K) .nil fun rl H1 n1 f1 L1 => ?_
      have nr := T0.ne n1
      have nr0 := T0.no n1
      have T1 := T0.fr f1
      walk_at "go"
      refine ⟨t, 3, H0, rfl, T1, by decide, by decide, fun r2 H2 a2 b2 f2 T2 => ?_⟩
      have L2' := L1.fr f2 (by simpa using nr) (T1.tu f2)
      walk_at "go"
      have hm : 0 ≤ (1 + r2 - if decide ((e : Int) = 0) = true then 1 else 0) ∧ (1 + r2 - if decide ((e : Int) = 0) = true then 1 else 0) ≤ 3 := by split <;> omega
      generalize (1 + r2 - if decide ((e : Int) = 0) = true then 1 else 0) = m at hm
      have f12 : Fr [t] H H2 := (f1.mono (by simp)).trans f2
      refine F_R1 m.toNat rfl (by omega) (by omega) (fun j σ H' => Fr [t] H H' ∧ Tape K H0 H' t ∧ ∃ (xs : List (PyData × Bx)) (v3 v4 v5 v6 : Option V), σ = [some (.ref t), some (.int e), some (.ref rl), v3, v4, v5, v6] ∧ Lq K H' rl (xs.map rowD) ∧ xs.length ≤ j ∧ (∀ p ∈ xs, Good 2 p.1 ∧ HsOk p.2.hs ∧ p.2.inner.ok ∧ p.2.inner.apart ∧ p.2.inner.cnt + 1 ≤ 4 ^ e ∧ p.2.inner.deep ≤ e) ∧ xs.Pairwise (fun p q => PyData.eqv p.1 q.1 = false)) ⟨f12, T2, [], _, _, _, _, rfl, L2', Nat.le_refl _, by simp, .nil⟩ ?_ ?_
      · rintro j σ H3 hj ⟨f3, T3, xs, v3, v4, v5, v6, rfl, L3, lx, ox, ax⟩
        walk_at "go"
        refine ⟨t, H0, rfl, T3, fun lv ld H4 f4 T4 d4 g4 => ?_⟩
        have L4 := L3.fr f4 (by simpa using nr) (T3.tu f4)
        have sl4 : SeqAt.shaped ld = true := lay_shaped ⟨g4.1, Nat.le_trans g4.2 (by decide)⟩
        walk_at "go"
        refine LCX_L (K := K) (cs := xs) (dS := rowD) (fun _ => true) (fun p => p.1) L4 (by omega) ?_ fun D H5 n5 f5 L5 => ?_
        · intro c x H' KEEP DROP hc f' dx hk _
          walk_at "go"
          refine Dt.ix 0 dx rfl fun u0 d0 => ?_
          exact hk rfl _ _ Fr.refl d0
        · rw [List.filter_eq_self.mpr (fun _ _ => rfl)] at L5
          have d5 := d4.mono f5.tu
          have L45 := L4.fr0 f5
          have T5 := T4.fr f5
          refine L5.nin d5 sl4 (shaped_list (n := 2) (by decide) fun d hd => ?_) ?_
          · obtain ⟨p, hp, rfl⟩ := List.mem_map.mp hd
            exact (ox p hp).1
          walk_at "go"
          have f35 : Fr [t] H H5 := (f3.trans f4).trans (f5.mono (by simp))
          cases han : (List.map (fun p : PyData × Bx => p.1) xs).any (fun z => PyData.eqv z ld) with
          | true =>
            walk_at "go"
            exact ⟨f35, T5, xs, _, _, _, _, rfl, L45, by omega, ox, ax⟩
          | false =>
            have fresh : ∀ p ∈ xs, PyData.eqv p.1 ld = false := fun p hp => by
              cases ee : PyData.eqv p.1 ld with
              | false => rfl
              | true =>
                rw [List.any_eq_false] at han
                exact absurd ee (han p.1 (List.mem_map.mpr ⟨p, hp, rfl⟩))
            walk_at "go"
            refine mkT (K := K) .nil fun p6 H6 n6 f6 d6 => ?_
            have T6 := T5.fr f6
            walk_at "go"
            refine w_cut (fun σ' H' => Fr [t] H H' ∧ Tape K H0 H' t ∧ Lq K H' rl (xs.map rowD) ∧ Dt K H' lv ld ∧ ∃ (iv : V) (u : Tr) (v3 v6 : Option V), σ' = [some (.ref t), some (.int e), some (.ref rl), v3, some lv, some iv, v6] ∧ Dt K H' iv u.d ∧ u.ok ∧ u.apart ∧ u.cnt + 1 ≤ 4 ^ e ∧ u.deep ≤ e) ?_ ?_
            · walk_at "go"
              cases e with
              | zero =>
                refine ite_d (fun h0 => absurd h0 (by decide)) (fun _ => ?_)
                walk_at "go"
                exact ⟨f35.trans (f6.mono (by simp)), T6, L45.fr0 f6, d5.mono f6.tu, _, .nil, _, _, rfl, d6, trivial, trivial, Nat.le_refl _, Nat.le_refl _⟩
              | succ e =>
                refine ite_d (fun _ => ?_) (fun h0 => absurd (by omega) h0)
                walk_at "go"
                refine ⟨t, e, H0, by rw [show ((e + 1 : Nat) : Int) - 1 = e by omega]; rfl, by omega, by omega, T6, fun iv u H7 f7 T7 d7 ou au cu du => ?_⟩
                walk_at "go"
                exact ⟨(f35.trans (f6.mono (by simp))).trans f7, T7, (L45.fr0 f6).fr f7 (by simpa using nr) (T6.tu f7), (d5.mono f6.tu).mono (T6.tu f7), _, u, _, _, rfl, d7, ou, au, cu, du⟩
            · rintro σ' H7 ⟨f7, T7, L7, d7, iv, u, v3, v6, rfl, du, ou, au, cu, deu⟩
              walk_at "go"
              refine ⟨L7.ty, ?_⟩
              walk_at "go"
              refine mkL (K := K) (.cons (.str "row") (.cons (.str "cell") .nil)) fun gl H8 n8 f8 L8 => ?_
              have T8 := T7.fr f8
              walk_at "go"
              refine ⟨t, 2, H0, rfl, T8, by decide, by decide, fun r9 H9 a9 b9 f9 T9 => ?_⟩
              have L9 := L8.fr f9 (by simpa using T7.ne n8) (T8.tu f9)
              walk_at "go"
              refine L9.at (P := fun _ => True) (fun _ _ => trivial) a9 (by simpa using b9) fun gv gd dg _ _ => ?_
              walk_at "go"
              refine mkT (K := K) .nil fun p10 H10 n10 f10 d10 => ?_
              have T10 := T9.fr f10
              walk_at "go"
              refine ⟨t, H0, rfl, T10, fun hv hs H11 f11 T11 d11 oh => ?_⟩
              have f711 : Fr [t] H7 H11 := (((f8.mono (by simp)).trans f9).trans (f10.mono (by simp))).trans f11
              have tu711 := T7.tu f711
              walk_at "go"
              refine mkT (K := K) (.cons (dg.mono (f10.tu.trans (T10.tu f11))) (.cons (d10.mono (T10.tu f11)) (.cons d11 (.cons (du.mono tu711) .nil)))) fun p12 H12 n12 f12 d12 => ?_
              walk_at "go"
              refine mkT (K := K) (.cons ((d7.mono tu711).mono f12.tu) (.cons d12 .nil)) fun p13 H13 n13 f13 d13 => ?_
              have f713 : Fr [t] H7 H13 := f711.trans ((f12.trans f13).mono (by simp))
              have T13 := (T11.fr f12).fr f13
              walk_at "go"
              refine (L7.fr f713 (by simpa using nr) (T7.tu f713)).app (d := rowD (ld, ⟨gd, .tuple [], hs, u⟩)) d13 (by rw [List.length_map]; omega) fun H14 f14 tu14 L14 => ?_
              refine ⟨Fr.drop1 n1 (f7.trans f713) f14, T13.fr1 f14 nr nr0, xs ++ [(ld, ⟨gd, .tuple [], hs, u⟩)], _, _, _, _, rfl, by rw [List.map_append]; exact L14, by rw [List.length_append]; exact Nat.succ_le_succ lx, ?_, ?_⟩
              · intro p hp
                rcases List.mem_append.mp hp with z | z
                · exact ox p z
                · rw [List.mem_singleton.mp z]
                  exact ⟨g4, oh, ou, au, cu, deu⟩
              · rw [List.pairwise_append]
                refine ⟨ax, List.pairwise_singleton _ _, fun p hp q hq => ?_⟩
                rw [List.mem_singleton.mp hq]
                exact fresh p hp
      · rintro σ H3 ⟨f3, T3, xs, v3, v4, v5, v6, rfl, L3, lx, ox, ax⟩
        walk_at "go"
        refine L3.tuple fun p H4 f4 d4 => ?_
        have l3 : xs.length ≤ 3 := by omega
        have hc : (Tr.of xs).cnt ≤ xs.length * (1 + (4 ^ e - 1)) := Tr.cnt_of fun p hp => by have := (ox p hp).2.2.2.2.1; omega
        have pe : 1 ≤ 4 ^ e := Nat.one_le_pow e 4 (by decide)
        have hc2 : xs.length * (1 + (4 ^ e - 1)) ≤ 3 * (1 + (4 ^ e - 1)) := Nat.mul_le_mul_right _ l3
        refine k _ (Tr.of xs) H4 (f3.trans (f4.mono (by simp))) (T3.fr f4) (by rw [Tr.d_of]; exact d4) (Tr.ok_of fun p hp => ⟨(ox p hp).1.mono (by decide), (ox p hp).2.1, (ox p hp).2.2.1⟩) (Tr.apart_of ax fun p hp => (ox p hp).2.2.2.1) (by rw [Nat.pow_succ]; omega) (by have := Tr.deep_of (m := e) (xs := xs) fun p hp => (ox p hp).2.2.2.2.2; omega)
end

section
variable {P : Program} {w : World} {K : PySem.W.Frag} {mg : Str → Option Value} {base : Heap}
def sp_law_addresses (K : PySem.W.Frag) (n : Nat) : Sp := fun vs H Q _ => ∃ (v : V) (u : Tr), vs = [v] ∧ (u.deep < n ∧ n ≤ 900) ∧ Dt K H v u.d ∧ u.ok ∧ u.cnt ≤ 1000 ∧ ∀ q H', H q = none → Fr [] H H' → Lq K H' q ((addrs u).map PyData.tuple) → Q (.ref q) H'
theorem ok_law_addresses (T : Env K mg) : ∀ n, Fx P w K mg base (1 + n) "_law_addresses" p_law_addresses (sp_law_addresses K n)
  | 0 => T.l_law_addresses.ok (k := 1 - 1) sc_law_addresses (fun vs H Q E h => by
      obtain ⟨v, u, _, h, _⟩ := h
      exact absurd h.1 (Nat.not_lt_zero _)) (fun f cdv A outer s H vs Q E hr h => by
      obtain ⟨v, u, _, h, _⟩ := h
      exact absurd h.1 (Nat.not_lt_zero _))
  | n + 1 => by
    have IH := ok_law_addresses T n
    refine T.l_law_addresses.ok sc_law_addresses (fun vs H Q E h => ?_) (fun f cdv A outer s H vs Q E hr h => ?_)
    · obtain ⟨v, u, rfl, _⟩ := h
      rfl
    · obtain ⟨v, u, rfl, un, du, ou, cu, k⟩ := h
      refine ⟨_, (pss_cons (ps_set (i := 1) sc_law_addresses.nd rfl (Or.inl rfl) (pe_lst pa_nil))
      (pss_cons (ps_for PassesOwn.never rfl (pi_tupU (K := K) rfl (pv 0)) (pg_tupU (K := K) (n := 2) rfl rfl (pgs_cons (pg_name (i := 2) sc_law_addresses.nd rfl (Or.inr rfl)) (pgs_cons (pg_name (i := 3) sc_law_addresses.nd rfl (Or.inl rfl)) pgs_nil))) (pss_cons (ps_expr (pe_bm PySem.F.plainAttrs_list PySem.F.slot_list_append PySem.F.type_list_append mt_append (pv 1) (pa_cons (pe_tup (pa_cons (pv 2) pa_nil)) pa_nil)))
      (pss_one (ps_set (i := 1) sc_law_addresses.nd rfl (Or.inl rfl) (pe_op (op_addU (K := K) rfl) (pv 1) (pe_lc (own := [("_law_rest", 4)]) (g := (gName 4)) (tt := tYes) rfl sc_law_addresses.nd (pi_listU (K := K) rfl (pe_fx (IH) hr (Nat.le_refl _) (pa_cons (pe_ix (ix_U (K := K) rfl) (pv 3) pe_int (fun _ _ => rfl)) pa_nil))) (blkOk_by (N := N_law_addresses) (sc := defScope s_law_addresses) (by decide +kernel)) (fun _ _ _ _ _ => (pg_name (i := 4) sc_law_addresses.nd rfl (Or.inl rfl))) (fun _ _ _ _ _ => pts_nil) (fun _ _ _ _ _ => (pe_op (op_addU (K := K) rfl) (pe_tup (pa_cons (pv 2) pa_nil)) (pv 4)))))))))
      (pss_one (ps_ret (pv 1))))), ?_⟩
      rw [Tr.d_rows] at du
      walk_at "go"
      refine mkL (K := K) .nil fun q1 H1 n1 f1 L1 => ?_
      walk_at "go"
      refine (du.mono f1.tu).walk (fun i σ H' => Fr [] H H' ∧ Tu H1 H' ∧ ∃ (q : Addr) (v2 v3 v4 : Option V), σ = [some v, some (.ref q), v2, v3, v4] ∧ H q = none ∧ Lq K H' q ((addrsR (u.rows.take i)).map PyData.tuple)) ?_ ?_ ?_ ?_
      · exact ⟨f1, Tu.refl, q1, _, _, _, rfl, n1, L1⟩
      · rintro i σ H' ⟨_, z, _⟩
        exact z
      · rintro i pv d σ H2 hi dp ⟨f2, tu2, q, v2, v3, v4, rfl, nq, L2'⟩
        obtain ⟨p, hp, rfl⟩ := map_get hi
        have mp := List.mem_of_getElem? hp
        obtain ⟨o1, o2, o3⟩ := Tr.ok_rows ou p mp
        have de := Tr.deep_rows p mp
        have ce := Tr.cnt_rows p mp
        have la : (addrsR (u.rows.take i)).length ≤ 1000 := Nat.le_trans (addrsR_len i) (by rw [← addrs_rows, addrs_len]; exact cu)
        have la2 : (addrsR (u.rows.take (i + 1))).length ≤ 1000 := Nat.le_trans (addrsR_len (i + 1)) (by rw [← addrs_rows, addrs_len]; exact cu)
        obtain ⟨a', us, rfl, sa, av⟩ := dp.tuple
        cases av with
        | cons d1 av =>
        cases av with
        | cons d2 av =>
        cases av
        refine w_gtup sa rfl ?_
        walk_at "go"
        refine ⟨L2'.ty, ?_⟩
        walk_at "go"
        refine mkT (K := K) (.cons d1 .nil) fun p3 H3 n3 f3 d3 => ?_
        walk_at "go"
        refine (L2'.fr0 f3).app d3 (by rw [List.length_map]; omega) fun H4 f4 tu4 L4 => ?_
        have f24 : Fr [] H H4 := Fr.drop1 nq (f2.trans f3) f4
        have tu24 := f3.tu.trans tu4
        have d14 := d1.mono tu24
        walk_at "go"
        refine Dt.ix 3 (d2.mono tu24) rfl fun iv di => ?_
        walk_at "go"
        refine ⟨iv, p.2.inner, rfl, ⟨by omega, by omega⟩, di, o3, by omega, fun q5 H5 n5 f5 L5 => ?_⟩
        refine LCX_L (K := K) (cs := addrs p.2.inner) (dS := PyData.tuple) (fun _ => true) (fun r => .tuple (p.1 :: r)) L5 (by rw [addrs_len]; omega) ?_ fun D H6 n6 f6 L6 => ?_
        · intro c x H' KEEP DROP hc f' dx hk _
          walk_at "go"
          refine mkT (K := K) (.cons ((d14.mono f5.tu).mono f'.tu) .nil) fun p7 H7 n7 f7 d7 => ?_
          walk_at "go"
          have lc := (addrs_good o3 c hc).2
          have ld : p.2.inner.deep ≤ 900 := by omega
          refine d7.cat (dx.mono f7.tu) (by show 1 + c.length ≤ 1000; omega) fun p8 H8 f8 d8 => ?_
          exact hk rfl _ H8 (f7.trans f8) d8
        · rw [List.filter_eq_self.mpr (fun _ _ => rfl)] at L6
          have L46 := (L4.fr0 f5).fr0 f6
          rw [addrsR_take hp, List.length_append, List.length_append, List.length_map] at la2
          walk_at "go"
          refine L46.cat L6 (by rw [List.length_append, List.length_map, List.length_map, List.length_singleton]; simp only [List.length_cons, List.length_nil] at la2; omega) fun q7 H7 n7 f7 L7 => ?_
          walk_at "go"
          have f47 := (f5.trans f6).trans f7
          refine ⟨f24.trans f47, (tu2.trans tu24).trans f47.tu, q7, _, _, _, rfl, (f24.trans (f5.trans f6)).free n7, ?_⟩
          rw [addrsR_take hp, List.map_append, List.map_append, List.map_map]
          exact L7
      · rintro σ H2 ⟨f2, tu2, q, v2, v3, v4, rfl, nq, L2'⟩
        rw [List.length_map, List.take_length, ← addrs_rows] at L2'
        walk_at "go"
        exact k q H2 nq f2 L2'
def sp_law_along (K : PySem.W.Frag) : Sp := fun vs H Q _ => ∃ (v va : V) (t : Tr) (ls : List PyData) (b : Bx) (bs : List Bx), vs = [v, va] ∧ Dt K H v t.d ∧ Dt K H va (.tuple ls) ∧ t.ok ∧ (∀ l ∈ ls, Good 3 l) ∧ alongT t ls = some (b :: bs) ∧ t.cnt ≤ 1000 ∧ ls.length ≤ 1000 ∧
  ∀ q H', H q = none → Fr [] H H' → Lq K H' q ((b :: bs).map Bx.d) → Q (.ref q) H'
theorem ok_law_along (T : Env K mg) : Fx P w K mg base 1 "_law_along" p_law_along (sp_law_along K) := by
  refine T.l_law_along.ok sc_law_along (fun vs H Q E h => ?_) (fun f cdv A outer s H vs Q E hr h => ?_)
  · obtain ⟨v, va, t, ls, b, bs, rfl, _⟩ := h
    rfl
  · obtain ⟨v, va, t, ls, b, bs, rfl, dt, da, ot, gl, ea, ct, ll, k⟩ := h
    refine ⟨_, (pss_cons (ps_set (i := 2) sc_law_along.nd rfl (Or.inl rfl) (pe_lst pa_nil))
      (pss_cons (ps_set (i := 3) sc_law_along.nd rfl (Or.inl rfl) (pv 0))
      (pss_cons (ps_for PassesOwn.never rfl (pi_tupU (K := K) rfl (pv 1)) (pg_name (i := 4) sc_law_along.nd rfl (Or.inr rfl)) (pss_cons (ps_setLc (i := 5) (own := [("_law_one", 6), ("_law_box", 7)]) (g := (gTup K 2 (gCons (gName 6) (gCons (gName 7) gNil)))) rfl sc_law_along.nd rfl rfl (sw_true rfl rfl rfl (by decide +kernel)) (pi_tupU (K := K) rfl (pv 3)) (blkOk_by (N := N_law_along) (sc := defScope s_law_along) (by decide +kernel)) (fun _ _ _ _ _ => (pg_tupU (K := K) (n := 2) rfl rfl (pgs_cons (pg_name (i := 6) sc_law_along.nd rfl (Or.inl rfl)) (pgs_cons (pg_name (i := 7) sc_law_along.nd rfl (Or.inl rfl)) pgs_nil)))) (fun _ _ _ _ _ => (pts_one (pt_cmpR (op_eqU (K := K) rfl (u64 hr)) (pv 6) (pv 4) (nomark _)))) (fun _ _ _ _ _ => (pv 7)))
      (pss_cons (ps_expr (pe_bm PySem.F.plainAttrs_list PySem.F.slot_list_append PySem.F.type_list_append mt_append (pv 2) (pa_cons (pe_ix (ix_U (K := K) rfl) (pv 5) pe_int (fun _ _ => rfl)) pa_nil)))
      (pss_one (ps_set (i := 3) sc_law_along.nd rfl (Or.inl rfl) (pe_ix (ix_U (K := K) rfl) (pe_ix (ix_U (K := K) rfl) (pv 5) pe_int (fun _ _ => rfl)) pe_int (fun _ _ => rfl)))))))
      (pss_one (ps_ret (pv 2)))))), ?_⟩
    walk_at "go"
    refine mkL (K := K) .nil fun q H1 n1 f1 L1 => ?_
    walk_at "go"
    refine (da.mono f1.tu).walk (fun i σ H' => Fr [] H H' ∧ Tu H1 H' ∧ ∃ (rv : V) (u : Tr) (done rest : List Bx) (v4 v5 v6 v7 : Option V), σ = [some v, some va, some (.ref q), some rv, v4, v5, v6, v7] ∧ Dt K H' rv u.d ∧ u.ok ∧ u.cnt ≤ 1000 ∧ alongT u (ls.drop i) = some rest ∧ b :: bs = done ++ rest ∧ done.length = i ∧ Lq K H' q (done.map Bx.d)) ?_ ?_ ?_ ?_
    · exact ⟨f1, Tu.refl, v, t, [], b :: bs, _, _, _, _, rfl, dt.mono f1.tu, ot, ct, ea, rfl, rfl, L1⟩
    · rintro i σ H' ⟨_, z, _⟩
      exact z
    · rintro i lv l σ H2 hl dl ⟨f2, tu2, rv, u, done, rest, v4, v5, v6, v7, rfl, du, ou, cu, eu, eb, ed, L2'⟩
      have hli := (List.getElem?_eq_some_iff.mp hl)
      obtain ⟨hlt, el⟩ := hli
      have edr : ls.drop i = l :: ls.drop (i + 1) := by rw [List.drop_eq_getElem_cons hlt, el]
      rw [edr, alongT] at eu
      have gl1 : Good 3 l := gl l (by rw [← el]; exact List.getElem_mem hlt)
      have rl := Tr.rows_len u
      split at eu
      · cases eu
      · rename_i p ps ep
        have hp : p ∈ u.rows := (List.mem_filter.mp (by rw [ep]; simp)).1
        cases e2 : alongT p.2.inner (ls.drop (i + 1)) with
        | none => rw [e2] at eu; cases eu
        | some cs =>
          rw [e2] at eu
          have er : p.2 :: cs = rest := Option.some.inj eu
          subst er
          walk_at "go"
          rw [Tr.d_rows] at du
          refine LCX_T (K := K) (cs := u.rows) (dS := rowD) (fun x => PyData.eqv x.1 l) (fun x => x.2.d) du (by omega) ?_ fun D H3 n3 f3 L3 => ?_
          · intro c x H' KEEP DROP hc f' dx hk hd
            obtain ⟨a', us, rfl, sa, av⟩ := dx.tuple
            cases av with
            | cons d1 av =>
            cases av with
            | cons d2 av =>
            cases av
            refine w_gtup sa rfl ?_
            walk_at "go"
            have g1 := (Tr.ok_rows ou c hc).1
            refine w_eqD d1.dp (dl.mono f'.tu).dp (lay_shaped ⟨g1.1, Nat.le_trans g1.2 (by decide)⟩) (lay_shaped ⟨gl1.1, Nat.le_trans gl1.2 (by decide)⟩) ?_
            cases e : PyData.eqv c.1 l with
            | true =>
              walk_at "go"
              exact hk e _ _ Fr.refl d2
            | false =>
              walk_at "go"
              exact hd e _ Fr.refl
          · rw [ep, List.map_cons] at L3
            have dq : D ≠ q := by
              rintro rfl
              obtain ⟨ys, hys, _⟩ := L2'
              rw [n3] at hys
              cases hys
            have L23 := L2'.fr0 f3
            walk_at "go"
            refine ⟨L23.ty, ?_⟩
            walk_at "go"
            refine L3.ix 0 rfl fun bv db => ?_
            walk_at "go"
            have ld : done.length ≤ 1000 := by omega
            refine L23.app db (by rw [List.length_map]; omega) fun H4 f4 tu4 L4 => ?_
            walk_at "go"
            have L34 := L3.fr f4 (by simpa using dq) tu4
            refine L34.ix 0 rfl fun bv2 db2 => ?_
            walk_at "go"
            refine Dt.ix 3 db2 rfl fun iv di => ?_
            have nq : H q = none := n1
            obtain ⟨o1, o2, o3⟩ := Tr.ok_rows ou p hp
            have c3 := Tr.cnt_rows p hp
            exact ⟨Fr.drop1 nq (f2.trans f3) f4, (tu2.trans f3.tu).trans tu4, iv, p.2.inner, done ++ [p.2], cs, _, _, _, _, rfl, di, o3, by omega, e2, by rw [eb]; simp, by simp [ed], by rw [List.map_append]; exact L4⟩
    · rintro σ H2 ⟨f2, tu2, rv, u, done, rest, v4, v5, v6, v7, rfl, du, ou, cu, eu, eb, ed, L2'⟩
      rw [List.drop_length, alongT] at eu
      have er : [] = rest := Option.some.inj eu
      subst er
      rw [List.append_nil] at eb
      subst eb
      walk_at "go"
      exact k q H2 n1 f2 L2'


end

theorem Tr.cnt_sum : ∀ xs : List (PyData × Bx), (Tr.of xs).cnt = (xs.map fun p => 1 + p.2.inner.cnt).sum
  | [] => rfl
  | p :: r => by
    rw [List.map_cons, List.sum_cons, ← Tr.cnt_sum r]
    rfl
theorem Tr.cnt_eq : ∀ t : Tr, t.cnt = (t.rows.map fun p => 1 + p.2.inner.cnt).sum
  | .nil => rfl
  | .cons l g s h i r => by
    rw [Tr.rows, List.map_cons, List.sum_cons, ← Tr.cnt_eq r]
    rfl
theorem sum_filter {α : Type} (f : α → Nat) (p : α → Bool) : ∀ xs : List α, ((xs.filter p).map f).sum ≤ (xs.map f).sum
  | [] => Nat.le_refl _
  | x :: r => by
    have h := sum_filter f p r
    cases e : p x with
    | true =>
      rw [List.filter_cons_of_pos e, List.map_cons, List.map_cons, List.sum_cons, List.sum_cons]
      omega
    | false =>
      rw [List.filter_cons_of_neg (by rw [e]; exact Bool.false_ne_true), List.map_cons, List.sum_cons]
      omega
theorem goB_congr {ev : Str} : ∀ {xs ys : List Bx}, xs.map Bx.hs = ys.map Bx.hs → goB ev xs = goB ev ys
  | [], [], _ => rfl
  | [], _ :: _, h => by cases h
  | _ :: _, [], h => by cases h
  | x :: r, y :: s, h => by
    rw [List.map_cons, List.map_cons] at h
    obtain ⟨h1, h2⟩ := List.cons.inj h
    rw [goB, goB, h1, goB_congr h2]
theorem goH_snd {ev : Str} : ∀ hs : List Hand, (goH ev hs).2 = hs.any (fun h => decide (h.ev = ev) && h.last)
  | [] => rfl
  | h :: r => by
    have z := goH_snd (ev := ev) r
    rw [goH, List.any_cons]
    split
    · rename_i e
      split
      · rename_i l
        rw [decide_eq_true e, l]
        rfl
      · rename_i l
        rw [decide_eq_true e, Bool.not_eq_true _ |>.mp l]
        exact z
    · rename_i e
      rw [decide_eq_false e]
      exact z
/-- a box put among others that are not called so -/
theorem along_put {xs ys : List (PyData × Bx)} {l : PyData} {b : Bx} {r : List PyData} (h : ∀ p ∈ xs ++ ys, PyData.eqv p.1 l = false) (e : PyData.eqv l l = true) :
    alongT (Tr.of (xs ++ [(l, b)] ++ ys)) (l :: r) = (alongT b.inner r).map (b :: ·) := by
  have e1 : xs.filter (fun p => PyData.eqv p.1 l) = [] := List.filter_eq_nil_iff.mpr (fun p hp => by rw [h p (List.mem_append_left _ hp)]; exact Bool.false_ne_true)
  have e2 : ys.filter (fun p => PyData.eqv p.1 l) = [] := List.filter_eq_nil_iff.mpr (fun p hp => by rw [h p (List.mem_append_right _ hp)]; exact Bool.false_ne_true)
  have e3 : [(l, b)].filter (fun p => PyData.eqv p.1 l) = [(l, b)] := List.filter_cons_of_pos (by exact e)
  rw [alongT, Tr.rows_of, List.filter_append, List.filter_append, e1, e2, e3]
  rfl
section
variable {P : Program} {w : World} {K : PySem.W.Frag} {mg : Str → Option Value} {base : Heap}
def sp_law_other (K : PySem.W.Frag) : Sp := fun vs H Q _ => ∃ (t : Addr) (q : Addr) (va : V) (bs : List Bx) (ls : List PyData) (H0 : Hp), vs = [.ref t, .ref q, va] ∧ Tape K H0 H t ∧ Lq K H q (bs.map Bx.d) ∧ q ≠ t ∧ Dt K H va (.tuple ls) ∧ bs.length = ls.length ∧ ls.length ≤ 100 ∧ (∀ l ∈ ls, Good 3 l) ∧ (∀ b ∈ bs, HsOk b.hs) ∧
  ∀ v (u : Tr) bs' H', Fr [t] H H' → Tape K H0 H' t → Dt K H' v u.d → u.ok → u.cnt ≤ 1000 → alongT u ls = some bs' → bs'.map Bx.hs = bs.map Bx.hs → Q v H'
theorem ok_law_other (T : Env K mg) : Fx P w K mg base 9 "_law_other" p_law_other (sp_law_other K) := by
  refine T.l_law_other.ok sc_law_other (fun vs H Q E h => ?_) (fun f cdv A outer s H vs Q E hr h => ?_)
  · obtain ⟨t, q, va, bs, ls, _, rfl, _⟩ := h
    rfl
  · obtain ⟨t, q, va, bs, ls, H0, rfl, T0, Lb, nqt, da, lbl, ll, gl, ob, k⟩ := h
    refine ⟨_, (pss_cons (ps_set (i := 3) sc_law_other.nd rfl (Or.inl rfl) (pe_fx (ok_law_tree T 4) hr (by decide) (pa_cons (pv 0) (pa_cons pe_int pa_nil))))
      (pss_cons (ps_for PassesOwn.never rfl (pi_revR (by rfl) T.m_reversed (prg_1 (by rfl) T.m_range (pe_callB (call_lenU (K := K) rfl) (by rfl) T.m_len (by decide +kernel) (pa_cons (pv 2) pa_nil)))) (pg_name (i := 4) sc_law_other.nd rfl (Or.inr rfl)) (pss_cons (ps_setLc (i := 5) (own := [("_law_one", 7)]) (g := (gName 7)) rfl sc_law_other.nd rfl rfl (sw_true rfl rfl rfl (by decide +kernel)) (pi_tupU (K := K) rfl (pe_fx (ok_law_tree T 4) hr (by decide) (pa_cons (pv 0) (pa_cons pe_int pa_nil)))) (blkOk_by (N := N_law_other) (sc := defScope s_law_other) (by decide +kernel)) (fun _ _ _ _ _ => (pg_name (i := 7) sc_law_other.nd rfl (Or.inl rfl))) (fun _ _ _ _ _ => (pts_one (pt_cmpR (op_neU (K := K) rfl (u64 hr)) (pe_ix (ix_U (K := K) rfl) (pv 7) pe_int (fun _ _ => rfl)) (pe_ix (ix_U (K := K) rfl) (pv 2) (pv 4) (fun _ _ => rfl)) (nomark _)))) (fun _ _ _ _ _ => (pv 7)))
      (pss_cons (ps_set (i := 6) sc_law_other.nd rfl (Or.inl rfl) (pe_tup (pa_cons (pe_ix (ix_U (K := K) rfl) (pe_lst (pa_cons pe_str (pa_cons pe_str pa_nil))) (pe_fx (ok_law_draw T) hr (by decide) (pa_cons (pv 0) (pa_cons pe_int pa_nil))) (fun _ _ => rfl)) (pa_cons (pe_tup (pa_cons (pe_tup (pa_cons pe_str (pa_cons (pe_fx (ok_law_number T) hr (by decide) (pa_cons (pv 0) pa_nil)) pa_nil))) pa_nil)) (pa_cons (pe_ix (ix_U (K := K) rfl) (pe_ix (ix_U (K := K) rfl) (pv 1) (pv 4) (fun _ _ => rfl)) pe_int (fun _ _ => rfl)) (pa_cons (pv 3) pa_nil))))))
      (pss_cons (ps_expr (pe_bm PySem.F.plainAttrs_list PySem.F.slot_list_insert PySem.F.type_list_insert mt_insU (pv 5) (pa_cons (pe_fx (ok_law_draw T) hr (by decide) (pa_cons (pv 0) (pa_cons (pe_op (op_addU (K := K) rfl) (pe_callB (call_lenU (K := K) rfl) (by rfl) T.m_len (by decide +kernel) (pa_cons (pv 5) pa_nil)) pe_int) pa_nil))) (pa_cons (pe_tup (pa_cons (pe_ix (ix_U (K := K) rfl) (pv 2) (pv 4) (fun _ _ => rfl)) (pa_cons (pv 6) pa_nil))) pa_nil))))
      (pss_one (ps_set (i := 3) sc_law_other.nd rfl (Or.inl rfl) (pe_callTy (call_tupleU (K := K) rfl) (by rfl) T.m_tuple (by decide +kernel) (pa_cons (pv 5) pa_nil))))))))
      (pss_one (ps_ret (pv 3))))), ?_⟩
    walk_at "go"
    refine ⟨t, 1, H0, rfl, by decide, by decide, T0, fun iv u H1 f1 T1 d1 o1 a1 c1 e1 => ?_⟩
    obtain ⟨pa, us, rfl, sa, av⟩ := da.tuple
    have elen := av.length
    walk_at "go"
    refine w_lenT ((T0.tu f1).seqT sa) ?_
    rw [elen]
    walk_at "go"
    refine F_RevR ls.length (by omega) (fun i σ H' => Fr [t] H H' ∧ Tape K H0 H' t ∧ Lq K H' q (bs.map Bx.d) ∧ Dt K H' (.ref pa) (.tuple ls) ∧ ∃ (iv : V) (u : Tr) (bs' : List Bx) (v4 v5 v6 v7 : Option V), σ = [some (.ref t), some (.ref q), some (.ref pa), some iv, v4, v5, v6, v7] ∧ Dt K H' iv u.d ∧ u.ok ∧ u.cnt ≤ 15 + 4 * i ∧ alongT u (ls.drop (ls.length - i)) = some bs' ∧ bs'.map Bx.hs = (bs.drop (ls.length - i)).map Bx.hs) ?_ ?_ ?_
    · exact ⟨f1, T1, Lb.fr f1 (by simpa using nqt) (T0.tu f1), da.mono (T0.tu f1), iv, u, [], _, _, _, _, rfl, d1, o1, by have : (4 : Nat) ^ (1 + 1) = 16 := rfl; omega, by rw [Nat.sub_zero, List.drop_length, alongT], by rw [Nat.sub_zero, ← lbl, List.drop_length]⟩
    · rintro i σ H2 hi ⟨f2, T2, L2', da2, iv, u, bs', v4, v5, v6, v7, rfl, d2, o2, c2, e2, h2⟩
      obtain ⟨lk, elk⟩ : ∃ lk, ls[ls.length - 1 - i]? = some lk := ⟨_, List.getElem?_eq_getElem (by omega)⟩
      obtain ⟨bk, ebk⟩ : ∃ bk, bs[ls.length - 1 - i]? = some bk := ⟨_, List.getElem?_eq_getElem (by omega)⟩
      have gk : Good 3 lk := gl lk (List.mem_of_getElem? elk)
      have shk : SeqAt.shaped lk = true := lay_shaped ⟨gk.1, Nat.le_trans gk.2 (by decide)⟩
      have obk := ob bk (List.mem_of_getElem? ebk)
      have ed : ls.drop (ls.length - (i + 1)) = lk :: ls.drop (ls.length - i) := by
        obtain ⟨h1, h2⟩ := List.getElem?_eq_some_iff.mp elk
        rw [show ls.length - (i + 1) = ls.length - 1 - i by omega, List.drop_eq_getElem_cons h1, h2, show ls.length - 1 - i + 1 = ls.length - i by omega]
      have edb : bs.drop (ls.length - (i + 1)) = bk :: bs.drop (ls.length - i) := by
        obtain ⟨h1, h2⟩ := List.getElem?_eq_some_iff.mp ebk
        rw [show ls.length - (i + 1) = ls.length - 1 - i by omega, List.drop_eq_getElem_cons h1, h2, show ls.length - 1 - i + 1 = ls.length - i by omega]
      walk_at "go"
      refine ⟨t, 0, H0, rfl, by decide, by decide, T2, fun rv ru H3 f3 T3 d3 o3 a3 c3 e3 => ?_⟩
      have da3 := da2.mono (T2.tu f3)
      have rl := Tr.rows_len ru
      have d3' := d3
      rw [Tr.d_rows] at d3'
      refine LCX_T (K := K) (cs := ru.rows) (dS := rowD) (fun p => !PyData.eqv p.1 lk) rowD d3' (by omega) ?_ fun D H4 n4 f4 L4 => ?_
      · intro c x H' KEEP DROP hc f' dx hk hdr
        walk_at "go"
        refine Dt.ix 0 dx rfl fun u0 d0 => ?_
        walk_at "go"
        refine Dt.ix (ls.length - 1 - i) (da3.mono f'.tu) elk fun u1 d1 => ?_
        have g1 := (Tr.ok_rows o3 c hc).1
        refine w_neD d0.dp d1.dp (lay_shaped ⟨g1.1, Nat.le_trans g1.2 (by decide)⟩) shk ?_
        cases e : PyData.eqv c.1 lk with
        | true =>
          walk_at "go"
          exact hdr (by rw [e]; rfl) _ Fr.refl
        | false =>
          walk_at "go"
          exact hk (by rw [e]; rfl) _ _ Fr.refl dx
      · have T4 := T3.fr f4
        have nD := T3.ne n4
        have nD0 := T3.no n4
        have f24 : Fr [t] H2 H4 := f3.trans (f4.mono (by simp))
        have tu24 := T2.tu f24
        have nDq : D ≠ q := by
          rintro rfl
          obtain ⟨ys, hys, _⟩ := L2'.fr f3 (by simpa using nqt) (T2.tu f3)
          rw [n4] at hys
          cases hys
        have Lq4 := L2'.fr f24 (by simpa using nqt) tu24
        have da4 := da2.mono tu24
        have d4 := d2.mono tu24
        walk_at "go"
        refine mkL (K := K) (.cons (.str "a") (.cons (.str "row") .nil)) fun gl' H5 n5 f5 L5 => ?_
        have T5 := T4.fr f5
        walk_at "go"
        refine ⟨t, 2, H0, rfl, T5, by decide, by decide, fun r6 H6 a6 b6 f6 T6 => ?_⟩
        have L6 := L5.fr f6 (by simpa using T4.ne n5) (T5.tu f6)
        walk_at "go"
        refine L6.at (P := fun _ => True) (fun _ _ => trivial) a6 (by simpa using b6) fun gv gd dg _ _ => ?_
        walk_at "go"
        refine ⟨t, H0, rfl, T6, fun r7 H7 b7 f7 T7 => ?_⟩
        walk_at "go"
        refine mkT (K := K) (.cons (.str "a") (.cons (.int r7) .nil)) fun p8 H8 n8 f8 d8 => ?_
        walk_at "go"
        refine mkT (K := K) (.cons d8 .nil) fun p9 H9 n9 f9 d9 => ?_
        have T9 := (T7.fr f8).fr f9
        have f49 : Fr [t] H4 H9 := (((f5.mono (by simp)).trans f6).trans f7).trans ((f8.trans f9).mono (by simp))
        have tu49 := T4.tu f49
        have Lq9 := Lq4.fr f49 (by simpa using nqt) tu49
        walk_at "go"
        refine Lq9.ix (ls.length - 1 - i) (by rw [List.getElem?_map, ebk]; rfl) fun bv db => ?_
        walk_at "go"
        refine Dt.ix 2 db rfl fun hv dh => ?_
        walk_at "go"
        refine mkT (K := K) (.cons ((dg.mono (T6.tu f7)).mono (f8.trans f9).tu) (.cons d9 (.cons dh (.cons (d4.mono tu49) .nil)))) fun p10 H10 n10 f10 d10 => ?_
        have T10 := T9.fr f10
        have f410 : Fr [t] H4 H10 := f49.trans (f10.mono (by simp))
        have LD10 := L4.fr f410 (by simpa using nD) (T4.tu f410)
        walk_at "go"
        refine ⟨LD10.ty, ?_⟩
        walk_at "go"
        refine LD10.len ?_
        rw [List.length_map]
        have fl := List.length_filter_le (fun p : PyData × Bx => !PyData.eqv p.1 lk) ru.rows
        have c3' : ru.cnt ≤ 3 := by have : (4 : Nat) ^ (0 + 1) = 4 := rfl; omega
        walk_at "go"
        refine ⟨t, _, H0, rfl, T10, by omega, by omega, fun r11 H11 a11 b11 f11 T11 => ?_⟩
        have f411 := f410.trans f11
        have LD11 := LD10.fr f11 (by simpa using nD) (T10.tu f11)
        walk_at "go"
        refine Dt.ix (ls.length - 1 - i) (da4.mono (T4.tu f411)) elk fun lv dl => ?_
        walk_at "go"
        refine mkT (K := K) (.cons dl (.cons (d10.mono (T10.tu f11)) .nil)) fun p12 H12 n12 f12 d12 => ?_
        have T12 := T11.fr f12
        walk_at "go"
        refine (LD11.fr0 f12).insert (d := rowD (lk, ⟨gd, .tuple [.tuple [.str "a", .int r7]], bk.hs, u⟩)) d12 (by rw [List.length_map]; omega) a11 (by omega) fun H13 f13 tu13 L13 => ?_
        have f412 : Fr [t] H4 H12 := f411.trans (f12.mono (by simp))
        walk_at "go"
        refine L13.tuple fun p14 H14 f14 d14 => ?_
        have T13 := T12.fr1 f13 nD nD0
        have n4' : H2 D = none := by
          cases e : H2 D with
          | none => rfl
          | some o =>
            have z := f3 D o e (by simpa using nD)
            rw [n4] at z
            cases z
        have f213 : Fr [t] H2 H13 := Fr.drop1 n4' (f24.trans f412) f13
        have tuA := (T4.tu f412).trans (tu13.trans f14.tu)
        have exs : ∀ p ∈ ru.rows.filter (fun p : PyData × Bx => !PyData.eqv p.1 lk), PyData.eqv p.1 lk = false := fun p hp => by
          have z := (List.mem_filter.mp hp).2
          cases e : PyData.eqv p.1 lk with
          | false => rfl
          | true => rw [e] at z; cases z
        have okx : ∀ p ∈ ru.rows.filter (fun p : PyData × Bx => !PyData.eqv p.1 lk), Good 3 p.1 ∧ HsOk p.2.hs ∧ p.2.inner.ok := fun p hp => Tr.ok_rows o3 p (List.mem_filter.mp hp).1
        have sumx := sum_filter (fun p : PyData × Bx => 1 + p.2.inner.cnt) (fun p : PyData × Bx => !PyData.eqv p.1 lk) ru.rows
        rw [← Tr.cnt_eq] at sumx
        generalize ru.rows.filter (fun p : PyData × Bx => !PyData.eqv p.1 lk) = xs at exs okx sumx d14 L13
        refine ⟨f2.trans (f213.trans (f14.mono (by simp))), T13.fr f14, (Lq4.fr f412 (by simpa using nqt) (T4.tu f412)).fr f13 (by simpa using nDq.symm) tu13 |>.fr0 f14, da4.mono tuA, _, Tr.of (xs.take r11.toNat ++ [(lk, ⟨gd, .tuple [.tuple [.str "a", .int r7]], bk.hs, u⟩)] ++ xs.drop r11.toNat), ⟨gd, .tuple [.tuple [.str "a", .int r7]], bk.hs, u⟩ :: bs', _, _, _, _, rfl, ?_, ?_, ?_, ?_, ?_⟩
        · rw [Tr.d_of, List.map_append, List.map_append, List.map_take, List.map_drop]
          exact d14
        · refine Tr.ok_of fun p hp => ?_
          rcases List.mem_append.mp hp with z | z
          · rcases List.mem_append.mp z with z | z
            · exact okx p (List.mem_of_mem_take z)
            · rw [List.mem_singleton.mp z]
              exact ⟨gk, obk, o2⟩
          · exact okx p (List.mem_of_mem_drop z)
        · rw [Tr.cnt_sum, List.map_append, List.map_append, List.sum_append, List.sum_append]
          have e : (xs.map fun p => 1 + p.2.inner.cnt).sum = ((xs.take r11.toNat).map fun p => 1 + p.2.inner.cnt).sum + ((xs.drop r11.toNat).map fun p => 1 + p.2.inner.cnt).sum := by
            rw [← List.sum_append, ← List.map_append, List.take_append_drop]
          simp only [List.map_cons, List.map_nil, List.sum_cons, List.sum_nil]
          omega
        · rw [ed, along_put (fun p hp => exs p (by rw [List.take_append_drop] at hp; exact hp)) (good_refl gk (by decide))]
          show (alongT u (ls.drop (ls.length - i))).map _ = _
          rw [e2]
          rfl
        · rw [edb, List.map_cons, List.map_cons, h2]
    · rintro σ H2 ⟨f2, T2, L2', da2, iv, u, bs', v4, v5, v6, v7, rfl, d2, o2, c2, e2, h2⟩
      rw [Nat.sub_self, List.drop_zero] at e2 h2
      walk_at "go"
      exact k _ u bs' H2 f2 T2 d2 o2 (by omega) e2 h2
end

def sp_law (K : PySem.W.Frag) : Sp := fun vs H Q _ => ∃ (a : Addr) (ns : List Int), vs = [.ref a] ∧ SqL K H a (ns.map V.int) ∧ ns.length ≤ 63 ∧ ∀ H', Q (.bl true) H'

def labN : PyData := .tuple [.tuple [.none, .int 0]]
theorem if_any {α β : Type} (f : α → Bool) (g : α → PyData) (xs : List α) (A B : β) : (if ((xs.filter f).map g).isEmpty = true then A else B) = if xs.any f = true then B else A := by
  cases h : xs.any f with
  | false =>
    rw [List.any_eq_false] at h
    rw [List.filter_eq_nil_iff.mpr h]
    rfl
  | true =>
    obtain ⟨x, hx, fx⟩ := List.any_eq_true.mp h
    have m : x ∈ xs.filter f := List.mem_filter.mpr ⟨hx, fx⟩
    cases e : xs.filter f with
    | nil => rw [e] at m; cases m
    | cons y ys => rfl
theorem goodN : Good 3 labN := ⟨rfl, by decide⟩
theorem goB_one {ev : Str} {b : Bx} : goB ev [b] = (goH ev b.hs).1 := by
  rw [goB_cons]
  show _ ++ (if _ then [] else goB ev []) = _
  rw [show goB ev [] = [] from rfl]
  split <;> exact List.append_nil _
section
variable {P : Program} {w : World} {K : PySem.W.Frag} {mg : Str → Option Value} {base : Heap}
theorem ok_law (T : Env K mg) {f : Addr} {fd : FuncData} (F : Fun K "law" "law" s_law f fd) : FnOk P w K mg base CX0 10 f fd p_law (sp_law K) := by
  refine F.ok sc_law (fun vs H Q E h => ?_) (fun cdv A outer s H vs Q E hr h => ?_)
  · obtain ⟨a, ns, rfl, _⟩ := h
    rfl
  · obtain ⟨a, ns, rfl, hS, hl, k⟩ := h
    refine ⟨_, (pss_cons (ps_set (i := 1) sc_law.nd rfl (Or.inl rfl) (pe_fx (ok_law_tape T) hr (by decide) (pa_cons (pv 0) pa_nil)))
      (pss_cons (ps_set (i := 2) sc_law.nd rfl (Or.inl rfl) (pe_fx (ok_law_tree T 4) hr (by decide) (pa_cons (pv 1) (pa_cons (pe_fx (ok_law_draw T) hr (by decide) (pa_cons (pv 1) (pa_cons pe_int pa_nil))) pa_nil))))
      (pss_cons (ps_set (i := 3) sc_law.nd rfl (Or.inl rfl) (pe_fx (ok_law_addresses T 6) hr (by decide) (pa_cons (pv 2) pa_nil)))
      (pss_cons (ps_if (pt_cmpR (op_eqU (K := K) rfl (u64 hr)) (pv 3) (pe_lst pa_nil) (nomark _)) (pss_one (ps_ret pe_bl)) pss_nil)
      (pss_cons (ps_for PassesOwn.never rfl (pi_range1 rfl T.m_range (pa_cons pe_int pa_nil)) (pg_name (i := 4) sc_law.nd rfl (Or.inl rfl)) (pss_cons (ps_set (i := 5) sc_law.nd rfl (Or.inl rfl) (pe_ix (ix_U (K := K) rfl) (pv 3) (pe_fx (ok_law_draw T) hr (by decide) (pa_cons (pv 1) (pa_cons (pe_callB (call_lenU (K := K) rfl) (by rfl) T.m_len (by decide +kernel) (pa_cons (pv 3) pa_nil)) pa_nil))) (fun _ _ => rfl)))
      (pss_cons (ps_set (i := 6) sc_law.nd rfl (Or.inl rfl) (pe_fx (ok_law_along T) hr (by decide) (pa_cons (pv 2) (pa_cons (pv 5) pa_nil))))
      (pss_cons (ps_set (i := 7) sc_law.nd rfl (Or.inl rfl) (pe_fx (ok_law_other T) hr (by decide) (pa_cons (pv 1) (pa_cons (pv 6) (pa_cons (pv 5) pa_nil)))))
      (pss_one (ps_for PassesOwn.never rfl (pi_listU (K := K) rfl (pe_lst (pa_cons pe_str (pa_cons pe_str (pa_cons pe_str (pa_cons pe_str pa_nil)))))) (pg_name (i := 8) sc_law.nd rfl (Or.inr rfl)) (pss_cons (ps_set (i := 9) sc_law.nd rfl (Or.inl rfl) (pe_fx (ok_gone_up T) hr (by decide) (pa_cons (pv 2) (pa_cons (pv 5) (pa_cons (pv 8) pa_nil)))))
      (pss_cons (ps_if (pt_cmpR (op_neU (K := K) rfl (u64 hr)) (pe_fx (ok_gone_up T) hr (by decide) (pa_cons (pv 7) (pa_cons (pv 5) (pa_cons (pv 8) pa_nil)))) (pv 9) (nomark _)) (pss_one (ps_ret pe_bl)) pss_nil)
      (pss_cons (ps_set (i := 10) sc_law.nd rfl (Or.inl rfl) (pe_lst pa_nil))
      (pss_cons (ps_set (i := 11) sc_law.nd rfl (Or.inl rfl) pe_bl)
      (pss_cons (ps_for PassesOwn.never rfl (pi_revU (K := K) rfl (by rfl) T.m_reversed (pv 6)) (pg_name (i := 12) sc_law.nd rfl (Or.inl rfl)) (pss_one (ps_if (pt_val (pv 11)) (pss_cons (ps_set (i := 13) sc_law.nd rfl (Or.inl rfl) (pe_tup (pa_cons (pe_tup (pa_cons (pe_tup (pa_cons (pe_tup (pa_cons pe_non (pa_cons pe_int pa_nil))) pa_nil)) (pa_cons (pe_tup (pa_cons (pe_ix (ix_U (K := K) rfl) (pv 12) pe_int (fun _ _ => rfl)) (pa_cons (pe_tup pa_nil) (pa_cons (pe_ix (ix_U (K := K) rfl) (pv 12) pe_int (fun _ _ => rfl)) (pa_cons (pe_tup pa_nil) pa_nil))))) pa_nil))) pa_nil)))
      (pss_cons (ps_set (i := 10) sc_law.nd rfl (Or.inl rfl) (pe_op (op_addU (K := K) rfl) (pv 10) (pe_fx (ok_gone_up T) hr (by decide) (pa_cons (pv 13) (pa_cons (pe_tup (pa_cons (pe_tup (pa_cons (pe_tup (pa_cons pe_non (pa_cons pe_int pa_nil))) pa_nil)) pa_nil)) (pa_cons (pv 8) pa_nil))))))
      (pss_one (ps_set (i := 11) sc_law.nd rfl (Or.inl rfl) (pe_cmpR (op_eqU (K := K) rfl (u64 hr)) (pe_lc (own := [("_law_one", 14)]) (g := (gName 14)) rfl sc_law.nd (pi_tupU (K := K) rfl (pe_ix (ix_U (K := K) rfl) (pv 12) pe_int (fun _ _ => rfl))) (blkOk_by (N := N_law) (sc := defScope s_law) (by decide +kernel)) (fun _ _ _ _ _ => (pg_name (i := 14) sc_law.nd rfl (Or.inl rfl))) (fun _ _ _ _ _ => (pts_one (PW.pt (pw_and (pt_cmpR (op_eqU (K := K) rfl (u64 hr)) (pe_ix (ix_U (K := K) rfl) (pv 14) pe_int (fun _ _ => rfl)) (pv 8) (nomark _)) (pw_and1 (pt_val (pe_ix (ix_U (K := K) rfl) (pv 14) pe_int (fun _ _ => rfl)))))))) (fun _ _ _ _ _ => (pv 14))) (pe_lst pa_nil) (nomark _)))))) pss_nil)))
      (pss_one (ps_if (pt_cmpR (op_neU (K := K) rfl (u64 hr)) (pv 10) (pv 9) (nomark _)) (pss_one (ps_ret pe_bl)) pss_nil)))))))))))))
      (pss_one (ps_ret pe_bl))))))), ?_⟩
    walk_at "go"
    refine ⟨a, ns, rfl, hS, fun t H1 ht f1 T1 => ?_⟩
    walk_at "go"
    refine ⟨t, 4, H, rfl, T1, by decide, by decide, fun rd Hb ab bb fb Tb => ?_⟩
    walk_at "go"
    refine ⟨t, rd.toNat, H, by rw [Int.toNat_of_nonneg ab]; rfl, by omega, by decide, Tb, fun tv u Hc fc Tc dc oc ac cc ec => ?_⟩
    have cu : u.cnt ≤ 1000 := by
      have : (4 : Nat) ^ (rd.toNat + 1) ≤ 4 ^ 4 := Nat.pow_le_pow_right (by decide) (by omega)
      omega
    walk_at "go"
    refine ⟨tv, u, rfl, ⟨by omega, by decide⟩, dc, oc, cu, fun qd Hd nd fd Ld => ?_⟩
    have Td := Tc.fr fd
    have nqd := Tc.ne nd
    walk_at "go"
    refine ⟨by exact Nat.zero_le _, fun e2 n2 => ?_⟩
    have fe : Fr [] Hd (upd Hd e2 (.lst [])) := Fr.new n2
    have sha : SeqAt.shaped (.list ((addrs u).map PyData.tuple)) = true := shaped_list (n := 4) (by decide) fun d hd => by
      obtain ⟨x, hx, rfl⟩ := List.mem_map.mp hd
      exact good_tuple (addrs_good oc x hx).1
    refine w_eqNil (Ld.fr0 fe).dp upd_same sha ?_
    replace Ld := Ld.fr0 fe
    replace Td := Td.fr fe
    have dd := dc.mono (fd.trans fe).tu
    generalize upd Hd e2 (.lst []) = He at Ld Td dd fe
    walk_at "go"
    cases eas : addrs u with
    | nil =>
      rw [show (List.map PyData.tuple []).isEmpty = true from rfl]
      walk_at "go"
      exact k _
    | cons as0 asr =>
      rw [← eas]
      have lpos : 0 < (addrs u).length := by rw [eas]; exact Nat.succ_pos _
      rw [show (List.map PyData.tuple (addrs u)).isEmpty = false by rw [eas]; rfl]
      walk_at "go"
      refine F_R1 4 rfl (by decide) (by decide) (fun i σ H' => Tape K H H' t ∧ Lq K H' qd ((addrs u).map PyData.tuple) ∧ Dt K H' tv u.d ∧ ∃ (v4 v5 v6 v7 v8 v9 v10 v11 v12 v13 v14 : Option V), σ = [some (.ref a), some (.ref t), some tv, some (.ref qd), v4, v5, v6, v7, v8, v9, v10, v11, v12, v13, v14]) ⟨Td, Ld, dd, _, _, _, _, _, _, _, _, _, _, _, rfl⟩ ?_ ?_
      · rintro i σ Hf hi ⟨Tf, Lf, df, v4, v5, v6, v7, v8, v9, v10, v11, v12, v13, v14, rfl⟩
        have lal := addrs_len u
        walk_at "go"
        refine Lf.len ?_
        rw [List.length_map]
        walk_at "go"
        refine ⟨t, _, H, rfl, Tf, by omega, by omega, fun rg Hg ag bg fg Tg => ?_⟩
        have Lg := Lf.fr fg (by simpa using nqd) (Tf.tu fg)
        have dg := df.mono (Tf.tu fg)
        walk_at "go"
        refine Lg.at (P := fun _ => True) (fun _ _ => trivial) ag (by rw [List.length_map]; exact bg) fun av d dav _ hav => ?_
        obtain ⟨ad, had, rfl⟩ := map_get hav
        have mad := List.mem_of_getElem? had
        obtain ⟨b, bs, eal⟩ := addrs_along oc ac ad mad
        obtain ⟨ga, la2⟩ := addrs_good oc ad mad
        obtain ⟨okb, lbs, _⟩ := alongT_ok oc eal
        have okr : ∀ x ∈ (b :: bs).reverse, HsOk x.hs := fun x hx => okb x (List.mem_reverse.mp hx)
        have lad : ad.length ≤ 100 := by omega
        walk_at "go"
        refine ⟨tv, av, u, ad, b, bs, rfl, dg, dav, oc, ga, eal, cu, by omega, fun qb Hh nh fh Lh => ?_⟩
        have Th := Tg.fr fh
        have nqb := Tg.ne nh
        walk_at "go"
        refine ⟨t, qb, av, b :: bs, ad, H, rfl, Th, Lh, nqb, dav.mono fh.tu, lbs, lad, ga, okb, fun ov uo bs' Hi fi Ti di oi ci ei hi' => ?_⟩
        have Li := Lh.fr fi (by simpa using nqb) (Th.tu fi)
        have da_i := (dav.mono fh.tu).mono (Th.tu fi)
        have dt_i := (dg.mono fh.tu).mono (Th.tu fi)
        have LA_i := (Lg.fr0 fh).fr fi (by simpa using nqd) (Th.tu fi)
        have ebs' : ∃ b' bt, bs' = b' :: bt := by
          cases bs' with
          | nil => cases hi'
          | cons x y => exact ⟨x, y, rfl⟩
        obtain ⟨b', bt, rfl⟩ := ebs'
        walk_at "go"
        refine mkL (K := K) (.cons (.str "tap") (.cons (.str "key") (.cons (.str "ta") (.cons (.str "none") .nil)))) fun ql Hj nj fj Lj => ?_
        walk_at "go"
        refine Lj.walk (fun j σ H' => Fr [] Hj H' ∧ ∃ (v4 v8 v9 v10 v11 v12 v13 v14 : Option V), σ = [some (.ref a), some (.ref t), some tv, some (.ref qd), v4, some av, some (.ref qb), some ov, v8, v9, v10, v11, v12, v13, v14]) ⟨Fr.refl, _, _, _, _, _, _, _, _, rfl⟩ (fun i σ H' h => Lj.fr0 h.1) ?_ ?_
        · rintro j evv d σ Hk hj dk ⟨fk, v4, v8, v9, v10, v11, v12, v13, v14, rfl⟩
          have ee : ∃ e : Str, d = .str e := by
            rcases j with _ | _ | _ | _ | j
            · exact ⟨_, (Option.some.inj hj).symm⟩
            · exact ⟨_, (Option.some.inj hj).symm⟩
            · exact ⟨_, (Option.some.inj hj).symm⟩
            · exact ⟨_, (Option.some.inj hj).symm⟩
            · simp at hj
          obtain ⟨e, rfl⟩ := ee
          cases dk.of_str
          have fik := fj.trans fk
          have okt := goB_ok (ev := e) okr
          have sht : SeqAt.shaped (.list (goB e (b :: bs).reverse)) = true := shaped_list (n := 4) (by decide) fun d hd => (okt d hd).good
          walk_at "go"
          refine ⟨tv, av, e, u, ad, b, bs, rfl, dt_i.mono fik.tu, da_i.mono fik.tu, oc, ga, eal, cu, by omega, fun qf Hl nl fl Ll => ?_⟩
          have fil := fik.trans fl
          walk_at "go"
          refine ⟨ov, av, e, uo, ad, b', bt, rfl, di.mono fil.tu, da_i.mono fil.tu, oi, ga, ei, ci, by omega, fun qo Hm nm fm Lm => ?_⟩
          rw [goB_congr (show (b' :: bt).reverse.map Bx.hs = (b :: bs).reverse.map Bx.hs by rw [List.map_reverse, List.map_reverse, hi'])] at Lm
          walk_at "go"
          refine w_neR Lm.dp (Ll.fr0 fm).dp sht ?_
          walk_at "go"
          refine mkL (K := K) .nil fun qt Hn nn fn Ln => ?_
          have fin := (fil.trans fm).trans fn
          have Lfn := (Ll.fr0 fm).fr0 fn
          walk_at "go"
          have lR : (b :: bs).length = (b :: bs).reverse.length := by rw [List.length_reverse]
          have total : (goB e (b :: bs).reverse).length ≤ 16 * (b :: bs).reverse.length := goB_len okr
          have eg : ∀ i bx, (b :: bs)[(b :: bs).length - 1 - i]? = some bx → i < (b :: bs).length → (b :: bs).reverse[i]? = some bx := fun i bx e hi => by rw [List.getElem?_reverse hi]; exact e
          have lls : (b :: bs).length ≤ 1000 := by omega
          have Lb := Li.fr0 fin
          have okrB := okr
          have LfnB := Lfn
          have shtB := sht
          generalize hR : (b :: bs).reverse = R at total eg okrB lR LfnB shtB
          generalize hB : b :: bs = B at Lb total eg lR lls
          refine Lb.walkRev (fun m σ H' => Fr [] Hn H' ∧ ∃ (la : Addr) (acc : List PyData) (op : Bool) (v4 v12 v13 v14 : Option V), σ = [some (.ref a), some (.ref t), some tv, some (.ref qd), v4, some av, some (.ref qb), some ov, some (.str e), some (.ref qf), some (.ref la), some (.bl op), v12, v13, v14] ∧ Lq K H' la acc ∧ acc ++ (if op = true then goB e (R.drop m) else []) = goB e R) ?_ ?_ ?_ ?_
          · exact ⟨Fr.refl, qt, [], true, _, _, _, _, rfl, Ln, rfl⟩
          · rintro m σ H' ⟨fo, _⟩
            exact Lb.fr0 fo
          · rintro m bv d σ Ho hm hd db ⟨fo, la, acc, op, v4, v12, v13, v14, rfl, Lo, eo⟩
            obtain ⟨bx, hbx, rfl⟩ := map_get hd
            rw [List.length_map] at hm hbx
            have hrx := eg m bx hbx hm
            obtain ⟨hlt, el⟩ := List.getElem?_eq_some_iff.mp hrx
            have edr : R.drop m = bx :: R.drop (m + 1) := by rw [List.drop_eq_getElem_cons hlt, el]
            have okx : HsOk bx.hs := okrB bx (by rw [← el]; exact List.getElem_mem hlt)
            walk_at "go"
            cases op with
            | false =>
              rw [if_neg Bool.false_ne_true] at eo
              walk_at "go"
              exact ⟨fo, la, acc, false, _, _, _, _, rfl, Lo, by rw [if_neg Bool.false_ne_true]; exact eo⟩
            | true =>
              rw [if_pos rfl, edr, goB_cons] at eo
              have lacc : acc.length ≤ 16 * R.length := by
                rw [← eo, List.length_append] at total
                omega
              have lgh := goH_len (ev := e) okx.2.1
              have lhs := okx.1
              walk_at "go"
              refine mkT (K := K) (.cons .non (.cons (.int 0) .nil)) fun p1 X1 m1 g1 h1 => ?_
              walk_at "go"
              refine mkT (K := K) (.cons h1 .nil) fun p2 X2 m2 g2 h2 => ?_
              walk_at "go"
              refine Dt.ix 0 (db.mono (g1.trans g2).tu) rfl fun gv dgv => ?_
              walk_at "go"
              refine mkT (K := K) .nil fun p3 X3 m3 g3 h3 => ?_
              walk_at "go"
              refine Dt.ix 2 (db.mono ((g1.trans g2).trans g3).tu) rfl fun hv dhv => ?_
              walk_at "go"
              refine mkT (K := K) .nil fun p4 X4 m4 g4 h4 => ?_
              walk_at "go"
              refine mkT (K := K) (.cons (dgv.mono (g3.trans g4).tu) (.cons (h3.mono g4.tu) (.cons (dhv.mono g4.tu) (.cons h4 .nil)))) fun p5 X5 m5 g5 h5 => ?_
              walk_at "go"
              refine mkT (K := K) (.cons (h2.mono ((g3.trans g4).trans g5).tu) (.cons h5 .nil)) fun p6 X6 m6 g6 h6 => ?_
              walk_at "go"
              refine mkT (K := K) (.cons h6 .nil) fun p7 X7 m7 g7 h7 => ?_
              walk_at "go"
              refine mkT (K := K) (.cons .non (.cons (.int 0) .nil)) fun p8 X8 m8 g8 h8 => ?_
              walk_at "go"
              refine mkT (K := K) (.cons h8 .nil) fun p9 X9 m9 g9 h9 => ?_
              walk_at "go"
              refine mkT (K := K) (.cons h9 .nil) fun p10 X10 m10 g10 h10 => ?_
              have g810 := (g8.trans g9).trans g10
              walk_at "go"
              refine ⟨_, _, e, .cons labN bx.g (.tuple []) bx.hs .nil .nil, [labN], ⟨bx.g, .tuple [], bx.hs, .nil⟩, [], rfl, h7.mono g810.tu, h10, ⟨goodN, okx, trivial, trivial⟩, fun l hl => by rw [List.mem_singleton.mp hl]; exact goodN, alongT_here (by decide +kernel), by exact Nat.le_of_ble_eq_true rfl, by exact Nat.le_of_ble_eq_true rfl, fun qa X11 m11 g11 L11 => ?_⟩
              rw [show ([⟨bx.g, .tuple [], bx.hs, .nil⟩] : List Bx).reverse = [⟨bx.g, .tuple [], bx.hs, .nil⟩] from rfl, goB_one] at L11
              have g111 := ((((((g1.trans g2).trans g3).trans g4).trans g5).trans g6).trans g7).trans (g810.trans g11)
              walk_at "go"
              refine (Lo.fr0 g111).cat L11 (by show acc.length + (goH e bx.hs).1.length ≤ 100000; omega) fun q12 X12 m12 g12 L12 => ?_
              walk_at "go"
              refine Dt.ix 2 (db.mono (g111.trans g12).tu) rfl fun hv2 dhv2 => ?_
              refine LCX_T (K := K) (cs := bx.hs) (dS := Hand.d) (fun h => decide (h.ev = e) && h.last) Hand.d dhv2 (Nat.le_trans okx.1 (by decide)) ?_ fun D X13 m13 g13 L13 => ?_
              · intro c x H' KEEP DROP hc f' dx hk hdr
                walk_at "go"
                refine Dt.ix 0 dx rfl fun u0 d0 => ?_
                cases d0.of_str
                walk_at "go"
                refine ite_d (fun h0 => ?_) (fun h0 => ?_)
                · walk_at "go"
                  refine Dt.ix 2 dx rfl fun u2 d2 => ?_
                  cases d2.of_bl
                  walk_at "go"
                  cases hcl : c.last with
                  | true =>
                    walk_at "go"
                    exact hk (by rw [decide_eq_true h0, hcl]; rfl) _ _ Fr.refl dx
                  | false =>
                    walk_at "go"
                    exact hdr (by rw [hcl, Bool.and_false]) _ Fr.refl
                · walk_at "go"
                  exact hdr (by rw [decide_eq_false h0, Bool.false_and]) _ Fr.refl
              · walk_at "go"
                refine ⟨by exact Nat.zero_le _, fun e14 m14 => ?_⟩
                have g14 : Fr [] X13 (upd X13 e14 (.lst [])) := Fr.new m14
                refine w_eqNil (L13.fr0 g14).dp upd_same (shaped_list (n := 4) (by decide) fun d hd => by
                  obtain ⟨x, hx, rfl⟩ := List.mem_map.mp hd
                  exact Hand.good (okx.2.1 x (List.mem_filter.mp hx).1)) ?_
                have L14 := (L12.fr0 g13).fr0 g14
                have fo14 := ((fo.trans (g111.trans g12)).trans g13).trans g14
                generalize upd X13 e14 (.lst []) = X14 at L14 fo14
                walk_at "go"
                refine ⟨fo14, q12, acc ++ (goH e bx.hs).1, _, _, _, _, _, rfl, L14, ?_⟩
                rw [← eo, goH_snd, List.append_assoc]
                rw [if_any]
          · rintro σ Ho ⟨fo, la, acc, op, v4, v12, v13, v14, rfl, Lo, eo⟩
            have eo2 : acc = goB e R := by
              rw [List.length_map, lR, List.drop_length] at eo
              rw [← eo]
              cases op <;> simp [goB]
            rw [eo2] at Lo
            walk_at "go"
            refine w_neR Lo.dp (LfnB.fr0 fo).dp shtB ?_
            walk_at "go"
            exact ⟨((((fk.trans fl).trans fm).trans fn)).trans fo, _, _, _, _, _, _, _, _, rfl⟩
        · rintro σ Hk ⟨fk, v4, v8, v9, v10, v11, v12, v13, v14, rfl⟩
          have fik := fj.trans fk
          exact ⟨Ti.fr fik, LA_i.fr0 fik, dt_i.mono fik.tu, _, _, _, _, _, _, _, _, _, _, _, rfl⟩
      · rintro σ Hf ⟨Tf, Lf, df, v4, v5, v6, v7, v8, v9, v10, v11, v12, v13, v14, rfl⟩
        walk_at "go"
        exact k _
end
section
variable {w : World} {K : PySem.W.Frag} {h : Heap} {mg : Str → Option Value}
theorem mk_boxes_along (X : K.In h) (G : h.Ns mainGlobals mg) {f : Addr} {od an : Option Addr} {sl : Array (Option Value)} {oc kV dc pm cd ct : Value} (a : PySem.W.nsIn K mainGlobals "boxes_along" = some (some (.ref f))) (l : K.lookup f = some ⟨oc, od, .func (PySem.W.fnOf "boxes_along" "boxes_along" (defArgs s_boxes_along) (defBody s_boxes_along) (defScope s_boxes_along) .none kV dc pm an cd ct), sl⟩) (c : PySem.W.codeIn K cd "boxes_along" = true) (k : PySem.W.keepIn K (.ref f) = true) : Loc K mg "boxes_along" p_boxes_along s_boxes_along :=
  have F := fun_mk (st := s_boxes_along) l c k
  ⟨f, _, F, PySem.W.mg_of X G a, F.binds (ps := p_boxes_along) fun _ _ _ _ _ _ us hl => match us, hl with | [_, _], _ => rfl⟩
theorem mk_gone_up (X : K.In h) (G : h.Ns mainGlobals mg) {f : Addr} {od an : Option Addr} {sl : Array (Option Value)} {oc kV dc pm cd ct : Value} (a : PySem.W.nsIn K mainGlobals "gone_up" = some (some (.ref f))) (l : K.lookup f = some ⟨oc, od, .func (PySem.W.fnOf "gone_up" "gone_up" (defArgs s_gone_up) (defBody s_gone_up) (defScope s_gone_up) .none kV dc pm an cd ct), sl⟩) (c : PySem.W.codeIn K cd "gone_up" = true) (k : PySem.W.keepIn K (.ref f) = true) : Loc K mg "gone_up" p_gone_up s_gone_up :=
  have F := fun_mk (st := s_gone_up) l c k
  ⟨f, _, F, PySem.W.mg_of X G a, F.binds (ps := p_gone_up) fun _ _ _ _ _ _ us hl => match us, hl with | [_, _, _], _ => rfl⟩
theorem mk_law_tape (X : K.In h) (G : h.Ns mainGlobals mg) {f : Addr} {od an : Option Addr} {sl : Array (Option Value)} {oc kV dc pm cd ct : Value} (a : PySem.W.nsIn K mainGlobals "_law_tape" = some (some (.ref f))) (l : K.lookup f = some ⟨oc, od, .func (PySem.W.fnOf "_law_tape" "_law_tape" (defArgs s_law_tape) (defBody s_law_tape) (defScope s_law_tape) .none kV dc pm an cd ct), sl⟩) (c : PySem.W.codeIn K cd "_law_tape" = true) (k : PySem.W.keepIn K (.ref f) = true) : Loc K mg "_law_tape" p_law_tape s_law_tape :=
  have F := fun_mk (st := s_law_tape) l c k
  ⟨f, _, F, PySem.W.mg_of X G a, F.binds (ps := p_law_tape) fun _ _ _ _ _ _ us hl => match us, hl with | [_], _ => rfl⟩
theorem mk_law_draw (X : K.In h) (G : h.Ns mainGlobals mg) {f : Addr} {od an : Option Addr} {sl : Array (Option Value)} {oc kV dc pm cd ct : Value} (a : PySem.W.nsIn K mainGlobals "_law_draw" = some (some (.ref f))) (l : K.lookup f = some ⟨oc, od, .func (PySem.W.fnOf "_law_draw" "_law_draw" (defArgs s_law_draw) (defBody s_law_draw) (defScope s_law_draw) .none kV dc pm an cd ct), sl⟩) (c : PySem.W.codeIn K cd "_law_draw" = true) (k : PySem.W.keepIn K (.ref f) = true) : Loc K mg "_law_draw" p_law_draw s_law_draw :=
  have F := fun_mk (st := s_law_draw) l c k
  ⟨f, _, F, PySem.W.mg_of X G a, F.binds (ps := p_law_draw) fun _ _ _ _ _ _ us hl => match us, hl with | [_, _], _ => rfl⟩
theorem mk_law_number (X : K.In h) (G : h.Ns mainGlobals mg) {f : Addr} {od an : Option Addr} {sl : Array (Option Value)} {oc kV dc pm cd ct : Value} (a : PySem.W.nsIn K mainGlobals "_law_number" = some (some (.ref f))) (l : K.lookup f = some ⟨oc, od, .func (PySem.W.fnOf "_law_number" "_law_number" (defArgs s_law_number) (defBody s_law_number) (defScope s_law_number) .none kV dc pm an cd ct), sl⟩) (c : PySem.W.codeIn K cd "_law_number" = true) (k : PySem.W.keepIn K (.ref f) = true) : Loc K mg "_law_number" p_law_number s_law_number :=
  have F := fun_mk (st := s_law_number) l c k
  ⟨f, _, F, PySem.W.mg_of X G a, F.binds (ps := p_law_number) fun _ _ _ _ _ _ us hl => match us, hl with | [_], _ => rfl⟩
theorem mk_law_spot (X : K.In h) (G : h.Ns mainGlobals mg) {f : Addr} {od an : Option Addr} {sl : Array (Option Value)} {oc kV dc pm cd ct : Value} (a : PySem.W.nsIn K mainGlobals "_law_spot" = some (some (.ref f))) (l : K.lookup f = some ⟨oc, od, .func (PySem.W.fnOf "_law_spot" "_law_spot" (defArgs s_law_spot) (defBody s_law_spot) (defScope s_law_spot) .none kV dc pm an cd ct), sl⟩) (c : PySem.W.codeIn K cd "_law_spot" = true) (k : PySem.W.keepIn K (.ref f) = true) : Loc K mg "_law_spot" p_law_spot s_law_spot :=
  have F := fun_mk (st := s_law_spot) l c k
  ⟨f, _, F, PySem.W.mg_of X G a, F.binds (ps := p_law_spot) fun _ _ _ _ _ _ us hl => match us, hl with | [_], _ => rfl⟩
theorem mk_law_label (X : K.In h) (G : h.Ns mainGlobals mg) {f : Addr} {od an : Option Addr} {sl : Array (Option Value)} {oc kV dc pm cd ct : Value} (a : PySem.W.nsIn K mainGlobals "_law_label" = some (some (.ref f))) (l : K.lookup f = some ⟨oc, od, .func (PySem.W.fnOf "_law_label" "_law_label" (defArgs s_law_label) (defBody s_law_label) (defScope s_law_label) .none kV dc pm an cd ct), sl⟩) (c : PySem.W.codeIn K cd "_law_label" = true) (k : PySem.W.keepIn K (.ref f) = true) : Loc K mg "_law_label" p_law_label s_law_label :=
  have F := fun_mk (st := s_law_label) l c k
  ⟨f, _, F, PySem.W.mg_of X G a, F.binds (ps := p_law_label) fun _ _ _ _ _ _ us hl => match us, hl with | [_], _ => rfl⟩
theorem mk_law_hands (X : K.In h) (G : h.Ns mainGlobals mg) {f : Addr} {od an : Option Addr} {sl : Array (Option Value)} {oc kV dc pm cd ct : Value} (a : PySem.W.nsIn K mainGlobals "_law_hands" = some (some (.ref f))) (l : K.lookup f = some ⟨oc, od, .func (PySem.W.fnOf "_law_hands" "_law_hands" (defArgs s_law_hands) (defBody s_law_hands) (defScope s_law_hands) .none kV dc pm an cd ct), sl⟩) (c : PySem.W.codeIn K cd "_law_hands" = true) (k : PySem.W.keepIn K (.ref f) = true) : Loc K mg "_law_hands" p_law_hands s_law_hands :=
  have F := fun_mk (st := s_law_hands) l c k
  ⟨f, _, F, PySem.W.mg_of X G a, F.binds (ps := p_law_hands) fun _ _ _ _ _ _ us hl => match us, hl with | [_], _ => rfl⟩
theorem mk_law_tree (X : K.In h) (G : h.Ns mainGlobals mg) {f : Addr} {od an : Option Addr} {sl : Array (Option Value)} {oc kV dc pm cd ct : Value} (a : PySem.W.nsIn K mainGlobals "_law_tree" = some (some (.ref f))) (l : K.lookup f = some ⟨oc, od, .func (PySem.W.fnOf "_law_tree" "_law_tree" (defArgs s_law_tree) (defBody s_law_tree) (defScope s_law_tree) .none kV dc pm an cd ct), sl⟩) (c : PySem.W.codeIn K cd "_law_tree" = true) (k : PySem.W.keepIn K (.ref f) = true) : Loc K mg "_law_tree" p_law_tree s_law_tree :=
  have F := fun_mk (st := s_law_tree) l c k
  ⟨f, _, F, PySem.W.mg_of X G a, F.binds (ps := p_law_tree) fun _ _ _ _ _ _ us hl => match us, hl with | [_, _], _ => rfl⟩
theorem mk_law_addresses (X : K.In h) (G : h.Ns mainGlobals mg) {f : Addr} {od an : Option Addr} {sl : Array (Option Value)} {oc kV dc pm cd ct : Value} (a : PySem.W.nsIn K mainGlobals "_law_addresses" = some (some (.ref f))) (l : K.lookup f = some ⟨oc, od, .func (PySem.W.fnOf "_law_addresses" "_law_addresses" (defArgs s_law_addresses) (defBody s_law_addresses) (defScope s_law_addresses) .none kV dc pm an cd ct), sl⟩) (c : PySem.W.codeIn K cd "_law_addresses" = true) (k : PySem.W.keepIn K (.ref f) = true) : Loc K mg "_law_addresses" p_law_addresses s_law_addresses :=
  have F := fun_mk (st := s_law_addresses) l c k
  ⟨f, _, F, PySem.W.mg_of X G a, F.binds (ps := p_law_addresses) fun _ _ _ _ _ _ us hl => match us, hl with | [_], _ => rfl⟩
theorem mk_law_along (X : K.In h) (G : h.Ns mainGlobals mg) {f : Addr} {od an : Option Addr} {sl : Array (Option Value)} {oc kV dc pm cd ct : Value} (a : PySem.W.nsIn K mainGlobals "_law_along" = some (some (.ref f))) (l : K.lookup f = some ⟨oc, od, .func (PySem.W.fnOf "_law_along" "_law_along" (defArgs s_law_along) (defBody s_law_along) (defScope s_law_along) .none kV dc pm an cd ct), sl⟩) (c : PySem.W.codeIn K cd "_law_along" = true) (k : PySem.W.keepIn K (.ref f) = true) : Loc K mg "_law_along" p_law_along s_law_along :=
  have F := fun_mk (st := s_law_along) l c k
  ⟨f, _, F, PySem.W.mg_of X G a, F.binds (ps := p_law_along) fun _ _ _ _ _ _ us hl => match us, hl with | [_, _], _ => rfl⟩
theorem mk_law_other (X : K.In h) (G : h.Ns mainGlobals mg) {f : Addr} {od an : Option Addr} {sl : Array (Option Value)} {oc kV dc pm cd ct : Value} (a : PySem.W.nsIn K mainGlobals "_law_other" = some (some (.ref f))) (l : K.lookup f = some ⟨oc, od, .func (PySem.W.fnOf "_law_other" "_law_other" (defArgs s_law_other) (defBody s_law_other) (defScope s_law_other) .none kV dc pm an cd ct), sl⟩) (c : PySem.W.codeIn K cd "_law_other" = true) (k : PySem.W.keepIn K (.ref f) = true) : Loc K mg "_law_other" p_law_other s_law_other :=
  have F := fun_mk (st := s_law_other) l c k
  ⟨f, _, F, PySem.W.mg_of X G a, F.binds (ps := p_law_other) fun _ _ _ _ _ _ us hl => match us, hl with | [_, _, _], _ => rfl⟩
theorem mk_law (X : K.In h) (G : h.Ns mainGlobals mg) {f : Addr} {od an : Option Addr} {sl : Array (Option Value)} {oc kV dc pm cd ct : Value} (a : PySem.W.nsIn K mainGlobals "law" = some (some (.ref f))) (l : K.lookup f = some ⟨oc, od, .func (PySem.W.fnOf "law" "law" (defArgs s_law) (defBody s_law) (defScope s_law) .none kV dc pm an cd ct), sl⟩) (c : PySem.W.codeIn K cd "law" = true) (k : PySem.W.keepIn K (.ref f) = true) : Loc K mg "law" p_law s_law :=
  have F := fun_mk (st := s_law) l c k
  ⟨f, _, F, PySem.W.mg_of X G a, F.binds (ps := p_law) fun _ _ _ _ _ _ us hl => match us, hl with | [_], _ => rfl⟩
theorem all_env (X : K.In h) (G : h.Ns mainGlobals mg)
    {f0 : Addr} {od0 an0 : Option Addr} {sl0 : Array (Option Value)} {oc0 kV0 dc0 pm0 cd0 ct0 : Value}
    (a0 : PySem.W.nsIn K mainGlobals "boxes_along" = some (some (.ref f0))) (l0 : K.lookup f0 = some ⟨oc0, od0, .func (PySem.W.fnOf "boxes_along" "boxes_along" (defArgs s_boxes_along) (defBody s_boxes_along) (defScope s_boxes_along) .none kV0 dc0 pm0 an0 cd0 ct0), sl0⟩) (c0 : PySem.W.codeIn K cd0 "boxes_along" = true) (k0 : PySem.W.keepIn K (.ref f0) = true)
    {f1 : Addr} {od1 an1 : Option Addr} {sl1 : Array (Option Value)} {oc1 kV1 dc1 pm1 cd1 ct1 : Value}
    (a1 : PySem.W.nsIn K mainGlobals "gone_up" = some (some (.ref f1))) (l1 : K.lookup f1 = some ⟨oc1, od1, .func (PySem.W.fnOf "gone_up" "gone_up" (defArgs s_gone_up) (defBody s_gone_up) (defScope s_gone_up) .none kV1 dc1 pm1 an1 cd1 ct1), sl1⟩) (c1 : PySem.W.codeIn K cd1 "gone_up" = true) (k1 : PySem.W.keepIn K (.ref f1) = true)
    {f2 : Addr} {od2 an2 : Option Addr} {sl2 : Array (Option Value)} {oc2 kV2 dc2 pm2 cd2 ct2 : Value}
    (a2 : PySem.W.nsIn K mainGlobals "_law_tape" = some (some (.ref f2))) (l2 : K.lookup f2 = some ⟨oc2, od2, .func (PySem.W.fnOf "_law_tape" "_law_tape" (defArgs s_law_tape) (defBody s_law_tape) (defScope s_law_tape) .none kV2 dc2 pm2 an2 cd2 ct2), sl2⟩) (c2 : PySem.W.codeIn K cd2 "_law_tape" = true) (k2 : PySem.W.keepIn K (.ref f2) = true)
    {f3 : Addr} {od3 an3 : Option Addr} {sl3 : Array (Option Value)} {oc3 kV3 dc3 pm3 cd3 ct3 : Value}
    (a3 : PySem.W.nsIn K mainGlobals "_law_draw" = some (some (.ref f3))) (l3 : K.lookup f3 = some ⟨oc3, od3, .func (PySem.W.fnOf "_law_draw" "_law_draw" (defArgs s_law_draw) (defBody s_law_draw) (defScope s_law_draw) .none kV3 dc3 pm3 an3 cd3 ct3), sl3⟩) (c3 : PySem.W.codeIn K cd3 "_law_draw" = true) (k3 : PySem.W.keepIn K (.ref f3) = true)
    {f4 : Addr} {od4 an4 : Option Addr} {sl4 : Array (Option Value)} {oc4 kV4 dc4 pm4 cd4 ct4 : Value}
    (a4 : PySem.W.nsIn K mainGlobals "_law_number" = some (some (.ref f4))) (l4 : K.lookup f4 = some ⟨oc4, od4, .func (PySem.W.fnOf "_law_number" "_law_number" (defArgs s_law_number) (defBody s_law_number) (defScope s_law_number) .none kV4 dc4 pm4 an4 cd4 ct4), sl4⟩) (c4 : PySem.W.codeIn K cd4 "_law_number" = true) (k4 : PySem.W.keepIn K (.ref f4) = true)
    {f5 : Addr} {od5 an5 : Option Addr} {sl5 : Array (Option Value)} {oc5 kV5 dc5 pm5 cd5 ct5 : Value}
    (a5 : PySem.W.nsIn K mainGlobals "_law_spot" = some (some (.ref f5))) (l5 : K.lookup f5 = some ⟨oc5, od5, .func (PySem.W.fnOf "_law_spot" "_law_spot" (defArgs s_law_spot) (defBody s_law_spot) (defScope s_law_spot) .none kV5 dc5 pm5 an5 cd5 ct5), sl5⟩) (c5 : PySem.W.codeIn K cd5 "_law_spot" = true) (k5 : PySem.W.keepIn K (.ref f5) = true)
    {f6 : Addr} {od6 an6 : Option Addr} {sl6 : Array (Option Value)} {oc6 kV6 dc6 pm6 cd6 ct6 : Value}
    (a6 : PySem.W.nsIn K mainGlobals "_law_label" = some (some (.ref f6))) (l6 : K.lookup f6 = some ⟨oc6, od6, .func (PySem.W.fnOf "_law_label" "_law_label" (defArgs s_law_label) (defBody s_law_label) (defScope s_law_label) .none kV6 dc6 pm6 an6 cd6 ct6), sl6⟩) (c6 : PySem.W.codeIn K cd6 "_law_label" = true) (k6 : PySem.W.keepIn K (.ref f6) = true)
    {f7 : Addr} {od7 an7 : Option Addr} {sl7 : Array (Option Value)} {oc7 kV7 dc7 pm7 cd7 ct7 : Value}
    (a7 : PySem.W.nsIn K mainGlobals "_law_hands" = some (some (.ref f7))) (l7 : K.lookup f7 = some ⟨oc7, od7, .func (PySem.W.fnOf "_law_hands" "_law_hands" (defArgs s_law_hands) (defBody s_law_hands) (defScope s_law_hands) .none kV7 dc7 pm7 an7 cd7 ct7), sl7⟩) (c7 : PySem.W.codeIn K cd7 "_law_hands" = true) (k7 : PySem.W.keepIn K (.ref f7) = true)
    {f8 : Addr} {od8 an8 : Option Addr} {sl8 : Array (Option Value)} {oc8 kV8 dc8 pm8 cd8 ct8 : Value}
    (a8 : PySem.W.nsIn K mainGlobals "_law_tree" = some (some (.ref f8))) (l8 : K.lookup f8 = some ⟨oc8, od8, .func (PySem.W.fnOf "_law_tree" "_law_tree" (defArgs s_law_tree) (defBody s_law_tree) (defScope s_law_tree) .none kV8 dc8 pm8 an8 cd8 ct8), sl8⟩) (c8 : PySem.W.codeIn K cd8 "_law_tree" = true) (k8 : PySem.W.keepIn K (.ref f8) = true)
    {f9 : Addr} {od9 an9 : Option Addr} {sl9 : Array (Option Value)} {oc9 kV9 dc9 pm9 cd9 ct9 : Value}
    (a9 : PySem.W.nsIn K mainGlobals "_law_addresses" = some (some (.ref f9))) (l9 : K.lookup f9 = some ⟨oc9, od9, .func (PySem.W.fnOf "_law_addresses" "_law_addresses" (defArgs s_law_addresses) (defBody s_law_addresses) (defScope s_law_addresses) .none kV9 dc9 pm9 an9 cd9 ct9), sl9⟩) (c9 : PySem.W.codeIn K cd9 "_law_addresses" = true) (k9 : PySem.W.keepIn K (.ref f9) = true)
    {f10 : Addr} {od10 an10 : Option Addr} {sl10 : Array (Option Value)} {oc10 kV10 dc10 pm10 cd10 ct10 : Value}
    (a10 : PySem.W.nsIn K mainGlobals "_law_along" = some (some (.ref f10))) (l10 : K.lookup f10 = some ⟨oc10, od10, .func (PySem.W.fnOf "_law_along" "_law_along" (defArgs s_law_along) (defBody s_law_along) (defScope s_law_along) .none kV10 dc10 pm10 an10 cd10 ct10), sl10⟩) (c10 : PySem.W.codeIn K cd10 "_law_along" = true) (k10 : PySem.W.keepIn K (.ref f10) = true)
    {f11 : Addr} {od11 an11 : Option Addr} {sl11 : Array (Option Value)} {oc11 kV11 dc11 pm11 cd11 ct11 : Value}
    (a11 : PySem.W.nsIn K mainGlobals "_law_other" = some (some (.ref f11))) (l11 : K.lookup f11 = some ⟨oc11, od11, .func (PySem.W.fnOf "_law_other" "_law_other" (defArgs s_law_other) (defBody s_law_other) (defScope s_law_other) .none kV11 dc11 pm11 an11 cd11 ct11), sl11⟩) (c11 : PySem.W.codeIn K cd11 "_law_other" = true) (k11 : PySem.W.keepIn K (.ref f11) = true)
    {f12 : Addr} {od12 an12 : Option Addr} {sl12 : Array (Option Value)} {oc12 kV12 dc12 pm12 cd12 ct12 : Value}
    (a12 : PySem.W.nsIn K mainGlobals "law" = some (some (.ref f12))) (l12 : K.lookup f12 = some ⟨oc12, od12, .func (PySem.W.fnOf "law" "law" (defArgs s_law) (defBody s_law) (defScope s_law) .none kV12 dc12 pm12 an12 cd12 ct12), sl12⟩) (c12 : PySem.W.codeIn K cd12 "law" = true) (k12 : PySem.W.keepIn K (.ref f12) = true)
    (z_ValueError : PySem.W.nsIn K mainGlobals "ValueError" = some none)
    (z_abs : PySem.W.nsIn K mainGlobals "abs" = some none)
    (z_int : PySem.W.nsIn K mainGlobals "int" = some none)
    (z_len : PySem.W.nsIn K mainGlobals "len" = some none)
    (z_range : PySem.W.nsIn K mainGlobals "range" = some none)
    (z_reversed : PySem.W.nsIn K mainGlobals "reversed" = some none)
    (z_tuple : PySem.W.nsIn K mainGlobals "tuple" = some none) : Env K mg :=
  { l_boxes_along := mk_boxes_along X G a0 l0 c0 k0,
    l_gone_up := mk_gone_up X G a1 l1 c1 k1,
    l_law_tape := mk_law_tape X G a2 l2 c2 k2,
    l_law_draw := mk_law_draw X G a3 l3 c3 k3,
    l_law_number := mk_law_number X G a4 l4 c4 k4,
    l_law_spot := mk_law_spot X G a5 l5 c5 k5,
    l_law_label := mk_law_label X G a6 l6 c6 k6,
    l_law_hands := mk_law_hands X G a7 l7 c7 k7,
    l_law_tree := mk_law_tree X G a8 l8 c8 k8,
    l_law_addresses := mk_law_addresses X G a9 l9 c9 k9,
    l_law_along := mk_law_along X G a10 l10 c10 k10,
    l_law_other := mk_law_other X G a11 l11 c11 k11,
    l_law := mk_law X G a12 l12 c12 k12,
    m_ValueError := PySem.W.mg_none_of X G z_ValueError,
    m_abs := PySem.W.mg_none_of X G z_abs,
    m_int := PySem.W.mg_none_of X G z_int,
    m_len := PySem.W.mg_none_of X G z_len,
    m_range := PySem.W.mg_none_of X G z_range,
    m_reversed := PySem.W.mg_none_of X G z_reversed,
    m_tuple := PySem.W.mg_none_of X G z_tuple }
theorem walk {l : PySem.W.OpenLaw} {q : Program} {loose : List Str} {XP : (Str → Option Value) → Heap → Prop} {YP : World → Heap → Prop} {d : DefRec} {K : Params → PySem.W.Frag} (hn : l.most = some 63) (hdf : d.params.defaults = [])
    (hY : ∀ (w : World) (h : Heap), YP w h → (K w.params).In h) (hd : d.name = "law")
    (F : ∀ (w : World) (mg : Str → Option Value) (h : Heap), (K w.params).In h → h.Ns mainGlobals mg → Env (K w.params) mg) :
    PySem.W.WalkO q loose XP YP l.row.toRowW d [] (fun f vs => PySem.call f vs) :=
  L2.walk_of (n := 63) (k := 10) (x := "_law_script") (CX := fun _ => CX0) (sp := fun w => sp_law (K w.params)) hn (by decide) hdf ⟨rfl, by decide, by decide⟩ hY (fun w mg fa h KX G hmg => by
    have T := F w mg h KX G
    obtain ⟨f, fd, F1, m, b⟩ := T.l_law.ex
    rw [hd] at hmg
    have e := hmg.symm.trans m
    cases e
    refine ⟨fd, fun s v => ?_, fun base _ _ => ?_⟩
    · obtain ⟨oc, od, kV, doc, pm, an, cdv, ct, osl, rfl, lk, hcd⟩ := F1.ex
      exact .of_eq rfl
    · exact ok_law T F1) (fun _ _ a ns hl _ hS => ⟨a, ns, rfl, hS, hl, fun _ => rfl⟩) fun _ _ _ _ _ z => z
end
end LW
open PySem PySem.W PyProof.Rows
set_option maxRecDepth 100000 in
set_option maxHeartbeats 0 in
theorem PySem.Challenge.cw_viewwood_k67_whole_hands_along_alone_holds : PySem.Challenge.rw_viewwood_k67_whole_hands_along_alone.Holds := by
  w_on; o_law; k_head; (case hw => w_witness2)
  k_fill
  refine LW.walk (l := PySem.Challenge.rw_viewwood_k67_whole_hands_along_alone) rfl rfl (fun w h Y => PySem.W.kIn_of Y) rfl ?F
  case F =>
    intro w mg h KX G
    refine' LW.all_env KX G ?a0 ?l0 ?c0 ?k0 ?a1 ?l1 ?c1 ?k1 ?a2 ?l2 ?c2 ?k2 ?a3 ?l3 ?c3 ?k3 ?a4 ?l4 ?c4 ?k4 ?a5 ?l5 ?c5 ?k5 ?a6 ?l6 ?c6 ?k6 ?a7 ?l7 ?c7 ?k7 ?a8 ?l8 ?c8 ?k8 ?a9 ?l9 ?c9 ?k9 ?a10 ?l10 ?c10 ?k10 ?a11 ?l11 ?c11 ?k11 ?a12 ?l12 ?c12 ?k12 ?z_ValueError ?z_abs ?z_int ?z_len ?z_range ?z_reversed ?z_tuple
    (case a0 => k_is)
    (case l0 => k_is)
    (case c0 => k_is)
    (case k0 => k_is)
    (case a1 => k_is)
    (case l1 => k_is)
    (case c1 => k_is)
    (case k1 => k_is)
    (case a2 => k_is)
    (case l2 => k_is)
    (case c2 => k_is)
    (case k2 => k_is)
    (case a3 => k_is)
    (case l3 => k_is)
    (case c3 => k_is)
    (case k3 => k_is)
    (case a4 => k_is)
    (case l4 => k_is)
    (case c4 => k_is)
    (case k4 => k_is)
    (case a5 => k_is)
    (case l5 => k_is)
    (case c5 => k_is)
    (case k5 => k_is)
    (case a6 => k_is)
    (case l6 => k_is)
    (case c6 => k_is)
    (case k6 => k_is)
    (case a7 => k_is)
    (case l7 => k_is)
    (case c7 => k_is)
    (case k7 => k_is)
    (case a8 => k_is)
    (case l8 => k_is)
    (case c8 => k_is)
    (case k8 => k_is)
    (case a9 => k_is)
    (case l9 => k_is)
    (case c9 => k_is)
    (case k9 => k_is)
    (case a10 => k_is)
    (case l10 => k_is)
    (case c10 => k_is)
    (case k10 => k_is)
    (case a11 => k_is)
    (case l11 => k_is)
    (case c11 => k_is)
    (case k11 => k_is)
    (case a12 => k_is)
    (case l12 => k_is)
    (case c12 => k_is)
    (case k12 => k_is)
    (case z_ValueError => k_is)
    (case z_abs => k_is)
    (case z_int => k_is)
    (case z_len => k_is)
    (case z_range => k_is)
    (case z_reversed => k_is)
    (case z_tuple => k_is)

