import PyProof.Rows.All
import Wide.All
import OpenK.AllK
import Wide.FinOn
import HandS.ForMost
import HandS.Wide
import HandS.IsInst
import HandS.TupAny
import HandS.Codes
import HandS.Deep
import HandS.Rev
import HandS.TupLe
import PyProof.NeKinds
import PyProof.FactsAll.dict_1
import PyProof.FactsAll.dict_2
import HandS.More
import HandS.Walk
import HandS.RevRange
import HandS.Conv
import PySem.Challenge.RW_viewwood_k61_what_is_no_ledger
set_option Elab.async false
set_option linter.all false
set_option maxRecDepth 100000
/-! a dict against a text: == is false, != true -/
namespace U
open PySem PySem.SeqAt
open PySem.AutoSeq1 (wpAny_loadPart')
open PySem.MeetsSeq PySem.MeetsSeq2 PySem.MeetsSeq3
theorem dict_ne_declines_str (l : Addr) (o : Obj) (b : Str) (u : Tok) (hc : o.cls = .type "dict") (es : Array DictEntry) (ep : Nat) (hd : o.data = .dict es ep) :
    Meets (Builtin.«dict.__ne__» ⟨[.ref l, .str b u], []⟩) (fun _ R s => s.heap.get? l = some o ∧ R (.ok (.ret .notImplemented)) s) :=
  .of_wp fun prog w A R s h => by
    obtain ⟨hp, g, d, tk, os⟩ := s; obtain ⟨hl, h⟩ := h; have f1 := F.sub_str_dict
    obtain ⟨cls, dd, data, sl⟩ := o
    simp only at hc hd
    subst hc hd
    wp_walk using wpAny_loadPart' hl, wpAny_load hl
    exact ⟨_, rfl, h⟩
theorem str_ne_declines_dict (b : Str) (u : Tok) (l : Addr) (o : Obj) (hc : o.cls = .type "dict") (es : Array DictEntry) (ep : Nat) (hd : o.data = .dict es ep) :
    Meets (Builtin.«str.__ne__» ⟨[.str b u, .ref l], []⟩) (fun _ R s => s.heap.get? l = some o ∧ R (.ok (.ret .notImplemented)) s) :=
  .of_wp fun prog w A R s h => by
    obtain ⟨hp, g, d, tk, os⟩ := s; obtain ⟨hl, h⟩ := h
    obtain ⟨cls, dd, data, sl⟩ := o
    simp only at hc hd
    subst hc hd
    wp_walk using wpAny_loadPart' hl, wpAny_load hl
    exact ⟨_, rfl, h⟩
section
variable {A : Around} {s : Shared}
theorem rcNe_dict_str {l : Addr} {o : Obj} {es : Array DictEntry} {ep : Nat} (b : Str) (u : Tok) (ho : s.heap.get? l = some o) (hc : o.cls = .type "dict") (hd : o.data = .dict es ep) (hu : A.units < cLine) : RcNeAt A s (.ref l) (.str b u) true := fun prog w E Q h =>
  rc_ne_decline_or (k := false) ⟨_, ho, hc⟩ (typeIs_str s b u) (by decide) F.sub_str_dict F.slot_dict_ne F.slot_str_ne_refl
    (fun _ hq => call_meets F.slot_dict_ne ⟨_, ho, hc⟩ F.entry_dict_ne (F.args_dict_ne_2 _ _) (dict_ne_declines_str l o b u hc es ep hd) ⟨ho, hq⟩)
    (fun _ hq => call_meets F.slot_str_ne_refl (typeIs_str s b u) F.entry_str_ne (F.args_str_ne_2 _ _) (str_ne_declines_dict b u l o hc es ep hd) ⟨ho, hq⟩)
    (fun _ hq => wpAny_of_eq (rfl : isSame (.ref l) (.str b u) = pure false) hq) (.inr hu) h
end
theorem dict_eq_declines_str (l : Addr) (o : Obj) (b : Str) (u : Tok) (hc : o.cls = .type "dict") (es : Array DictEntry) (ep : Nat) (hd : o.data = .dict es ep) :
    Meets (Builtin.«dict.__eq__» ⟨[.ref l, .str b u], []⟩) (fun _ R s => s.heap.get? l = some o ∧ R (.ok (.ret .notImplemented)) s) :=
  .of_wp fun prog w A R s h => by
    obtain ⟨hp, g, d, tk, os⟩ := s; obtain ⟨hl, h⟩ := h; have f1 := F.sub_str_dict
    obtain ⟨cls, dd, data, sl⟩ := o
    simp only at hc hd
    subst hc hd
    wp_walk using wpAny_loadPart' hl, wpAny_load hl
    exact ⟨_, rfl, h⟩
theorem str_eq_declines_dict (b : Str) (u : Tok) (l : Addr) (o : Obj) (hc : o.cls = .type "dict") (es : Array DictEntry) (ep : Nat) (hd : o.data = .dict es ep) :
    Meets (Builtin.«str.__eq__» ⟨[.str b u, .ref l], []⟩) (fun _ R s => s.heap.get? l = some o ∧ R (.ok (.ret .notImplemented)) s) :=
  .of_wp fun prog w A R s h => by
    obtain ⟨hp, g, d, tk, os⟩ := s; obtain ⟨hl, h⟩ := h
    obtain ⟨cls, dd, data, sl⟩ := o
    simp only at hc hd
    subst hc hd
    wp_walk using wpAny_loadPart' hl, wpAny_load hl
    exact ⟨_, rfl, h⟩
section
variable {A : Around} {s : Shared}
theorem rcEq_dict_str {l : Addr} {o : Obj} {es : Array DictEntry} {ep : Nat} (b : Str) (u : Tok) (ho : s.heap.get? l = some o) (hc : o.cls = .type "dict") (hd : o.data = .dict es ep) (hu : A.units < cLine) : RcAt A s (.ref l) (.str b u) false := fun prog w E Q h =>
  rc_eq_decline_or (k := false) ⟨_, ho, hc⟩ (typeIs_str s b u) (by decide) F.sub_str_dict F.slot_dict_eq F.slot_str_eq_refl
    (fun _ hq => call_meets F.slot_dict_eq ⟨_, ho, hc⟩ F.entry_dict_eq (F.args_dict_eq_2 _ _) (dict_eq_declines_str l o b u hc es ep hd) ⟨ho, hq⟩)
    (fun _ hq => call_meets F.slot_str_eq_refl (typeIs_str s b u) F.entry_str_eq (F.args_str_eq_2 _ _) (str_eq_declines_dict b u l o hc es ep hd) ⟨ho, hq⟩)
    (fun _ hq => wpAny_of_eq (rfl : isSame (.ref l) (.str b u) = pure false) hq) (.inr hu) h
end
end U
namespace U
open PySem PySem.Spec PyProof.Rows L2
def rNeDS : R2 := fun x y H Q => ∃ p kvs z, x = .ref p ∧ H p = some (.dK kvs) ∧ y = .str z ∧ Q (.bl true) H
theorem op_neDS {X : Cx} (hu : X.A.units + 64 < cLine) : OpR X (compareOp .NotEq) rNeDS := by
  intro pins s σ H x y v u Q I rx ry h
  obtain ⟨p, kvs, z, rfl, hp, rfl, q⟩ := h
  obtain ⟨t, rfl⟩ := ry
  cases rx
  obtain ⟨_, _, _, _, o, es, ep, ho, hex, hd, _⟩ := I.hok p _ hp
  exact rcNe_dict_str z t ho hex.1 hd (by omega) _ _ _ _ ⟨.bl true, H, I, rfl, q⟩
def rEqDS : R2 := fun x y H Q => ∃ p kvs z, x = .ref p ∧ H p = some (.dK kvs) ∧ y = .str z ∧ Q (.bl false) H
theorem op_eqDS {X : Cx} (hu : X.A.units + 64 < cLine) : OpR X (compareOp .Eq) rEqDS := by
  intro pins s σ H x y v u Q I rx ry h
  obtain ⟨p, kvs, z, rfl, hp, rfl, q⟩ := h
  obtain ⟨t, rfl⟩ := ry
  cases rx
  obtain ⟨_, _, _, _, o, es, ep, ho, hex, hd, _⟩ := I.hok p _ hp
  exact rcEq_dict_str z t ho hex.1 hd (by omega) _ _ _ _ ⟨.bl false, H, I, rfl, q⟩
end U

/-! Uni: one rule for each construct whatever its values are, and short steps of readings. -/
namespace U
open PySem PySem.Spec PyProof.Rows L2
/-! ### a def that stands in the text, with its promise -/
structure Loc (K : PySem.W.Frag) (mg : Str → Option Value) (x : Str) (ps : List Str) (st : Stmt) : Prop where
  ex : ∃ f fd, Fun K x x st f fd ∧ mg x = some (.ref f) ∧ Binds K fd ps []
structure Fx (P : Program) (w : World) (K : PySem.W.Frag) (mg : Str → Option Value) (base : Heap) (k : Nat) (x : Str) (ps : List Str) (sp : Sp) : Prop where
  ex : ∃ f fd, FnOk P w K mg base CX0 k f fd ps sp ∧ mg x = some (.ref f) ∧ PySem.W.keepIn K (.ref f) = true ∧ Binds K fd ps []
theorem Fx.mono {P : Program} {w : World} {K : PySem.W.Frag} {mg : Str → Option Value} {base : Heap} {j k : Nat} {x : Str} {ps : List Str} {sp : Sp} (F : Fx P w K mg base j x ps sp) (h : j ≤ k) : Fx P w K mg base k x ps sp := by
  obtain ⟨f, fd, a, b, c, d⟩ := F.ex
  exact ⟨f, fd, a.mono h, b, c, d⟩
theorem Loc.ok {P : Program} {w : World} {K : PySem.W.Frag} {mg : Str → Option Value} {base : Heap} {x : Str} {st : Stmt} {N ps : List Str} {k : Nat} {sp : Sp} (L : Loc K mg x ps st) (S : FnScope N ps (defScope st)) (len : ∀ vs H Q E, sp vs H Q E → vs.length = ps.length)
    (hbody : ∀ (f : Addr) (cdv : Value) (A : Around) (outer : List Env) (s : Shared) (H : Hp) (vs : List V) (Q : VK) (E : XK), Room k (A.deeper (envOfC x (defScope st) s.heap.objs.size f cdv)) → sp vs H Q E →
      ∃ t, PSs (cxOf CX0 P w K mg base N x (defScope st) f cdv A outer s H E).nox (defBody st) t ∧ t ⟨fun _ H' => Q .non H', Q, fun _ _ => False, fun _ _ => False⟩ (start N vs) H) : Fx P w K mg base (k + 1) x ps sp := by
  obtain ⟨f, fd, F, m, b⟩ := L.ex
  exact ⟨f, fd, F.ok S len fun cdv A outer s H vs Q E hr h => hbody f cdv A outer s H vs Q E hr h, m, F.kp, b⟩
theorem pe_fx {X : Cx} {k j : Nat} {x : Str} {ps : List Str} {sp : Sp} {e : Expr} {es : List Expr} {t : TA} {p pos : Pos} (G : Fx X.prog X.w X.K X.mg X.base k x ps sp) (hr : Room j X.A) (hkj : k ≤ j) (ha : PA X (e :: es) t) (hg : Gl X x := by rfl)
    (hdb : (x == ("__debug__" : Str)) = false := by decide +kernel)
    (he : starEach (e :: es) X.env = (false, eval e X.env) :: starEach es X.env := by rfl) (hpl : (backTo pos (starEach es X.env)).any (·.1) = false := by rfl) : PE X (.Call (.Name x p) (e :: es) [] pos) (tCall sp [] E0 t) := by
  obtain ⟨f, fd, a, b, c, d⟩ := G.ex
  exact pe_call a (hr.mono hkj) hg b c d .nil pass0 ha (hdb := hdb) (he := he) (hpl := hpl)

/-! ### a constant tuple of the top -/
def KTup (K : PySem.W.Frag) (a : Addr) (xs : List V) : Prop := ∀ H, SqT K H a xs
def tKT (K : PySem.W.Frag) (xs : List V) : TE := fun _ H Q => ∀ a, KTup K a xs → Q (.ref a) H
theorem pe_ktup {X : Cx} {e : Expr} {a : Addr} {xs : List V} (h : PE X e (tC (.ref a))) (k : KTup X.K a xs) : PE X e (tKT X.K xs) := ⟨fun pins s σ H Q I q => h.run pins s σ H Q I (q a k)⟩
theorem ktup_of {K : PySem.W.Frag} {a : Addr} {xs : List V} {od : Option Addr} {its : Array Value} {n : Nat} {sl : Array (Option Value)} (h : K.lookup a = some ⟨.type "tuple", od, .seq its n, sl⟩) (v : Vals xs its.toList) (z : its.size ≤ 1000 := by exact Nat.le_of_ble_eq_true rfl) : KTup K a xs := fun _ =>
  .inr ⟨_, its, n, h, rfl, rfl, Nat.le_trans z (by decide), v⟩
theorem vs_nil : Vals [] [] := .nil
theorem vs_str {x : Str} {t : Tok} {xs : List V} {us : List Value} (h : Vals xs us) : Vals (.str x :: xs) (.str x t :: us) := .cons ⟨t, rfl⟩ h
theorem vs_int {x : Int} {t : Tok} {xs : List V} {us : List Value} (h : Vals xs us) : Vals (.int x :: xs) (.int x t :: us) := .cons ⟨t, rfl⟩ h
/-! ### one rule a construct -/
section
variable {X : Cx}
abbrev r2or (r r' : R2) : R2 := fun x y H Q => r x y H Q ∨ r' x y H Q
def rStrCat : R2 := fun x y H Q => ∃ i j, x = .str i ∧ y = .str j ∧ i.length + j.length ≤ sizeLine ∧ Q (.str (i ++ j)) H
def rAddU (K : PySem.W.Frag) : R2 := r2or (r2or (rI0 fun i j => .int (i + j)) rStrCat) (r2or (rCatA K) rCat)
theorem op_addU {K} (hK : X.K = K) : OpR X (binaryOp .Add) (rAddU K) := by subst hK; exact (op_add.or op_add_str).or (op_catA.or op_cat)
def rMaxU : List V → Hp → VK → Prop := fun xs H Q => ∃ i j, xs = [.int i, .int j] ∧ Q (.int (if j > i then j else i)) H
def rMinU : List V → Hp → VK → Prop := fun xs H Q => ∃ i j, xs = [.int i, .int j] ∧ Q (.int (if j < i then j else i)) H
def rAbsU : List V → Hp → VK → Prop := fun xs H Q => ∃ i, xs = [.int i] ∧ Q (.int (if i < 0 then -i else i)) H
def rIntU : List V → Hp → VK → Prop := fun xs H Q => (∃ i, xs = [.int i] ∧ Q (.int i) H) ∨ ∃ k, xs = [.bl k] ∧ Q (.int (if k then 1 else 0)) H
theorem call_maxU (hc : X.calm = true) : CallR X (.builtin "max") rMaxU := call_max2 hc
theorem call_minU (hc : X.calm = true) : CallR X (.builtin "min") rMinU := call_min2 hc
theorem call_absU : CallR X (.builtin "abs") rAbsU := call_abs
theorem call_intU : CallR X (.type "int") rIntU := call_int1
def rLenU (K : PySem.W.Frag) : List V → Hp → VK → Prop := fun xs H Q => (∃ p ys, xs = [.ref p] ∧ (SqL K H p ys ∨ SqT K H p ys) ∧ Q (.int ys.length) H) ∨ (∃ z, xs = [.str z] ∧ z.length ≤ sizeLine ∧ Q (.int z.length) H)
theorem call_lenU {K} (hK : X.K = K) : CallR X (.builtin "len") (rLenU K) := by subst hK; exact call_len_seq.or call_len_str
theorem call_isiU {K} (hK : X.K = K) : CallR X (.builtin "isinstance") (rIsi K) := by subst hK; exact call_isi
theorem ix_U {K} (hK : X.K = K) : IxR X (rIx K) := by subst hK; exact ix_seq
theorem call_allU {K} (hK : X.K = K) (hc : X.calm = true) : CallR X (.builtin "all") (rAll K) := by subst hK; exact cr_all hc
theorem call_anyU {K} (hK : X.K = K) (hc : X.calm = true) : CallR X (.builtin "any") (rAny K) := by subst hK; exact cr_any hc
theorem call_sumU {K} (hK : X.K = K) (hc : X.calm = true) : CallR X (.builtin "sum") (rSum K) := by subst hK; exact cr_sum hc
def rListU (K : PySem.W.Frag) : List V → Hp → VK → Prop := fun xs H Q => ∃ p ys, xs = [.ref p] ∧ (SqL K H p ys ∨ SqT K H p ys) ∧ ∀ l, H l = none → Q (.ref l) (upd H l (.lst ys))
theorem call_listU {K} (hK : X.K = K) : CallR X (.type "list") (rListU K) := by subst hK; exact call_list_of
def rTupleU (K : PySem.W.Frag) : List V → Hp → VK → Prop := fun xs H Q => ∃ p ys, xs = [.ref p] ∧ ((SqL K H p ys ∧ ∀ l, H l = none → Q (.ref l) (upd H l (.tup ys))) ∨ (SqT K H p ys ∧ Q (.ref p) H))
theorem call_tupleU {K} (hK : X.K = K) : CallR X (.type "tuple") (rTupleU K) := by subst hK; exact call_tuple_of
theorem pg_tupU {K} {es : List Expr} {k : Nat} {t : TGs} {n : Nat} {pos : Pos} (hK : X.K = K) (hc : X.calm = true) (h : PGs X es t)
    (hn : (assignEach es X.env).length = n := by rfl) (hst : (assignEach es X.env).findIdx? (·.1) = none := by rfl) : PG X (.Tuple es k pos) (gTup K n t) := by subst hK; exact pg_tup hc h hn hst
theorem pi_listU {K} {tg l : Expr} {tl : TE} (hK : X.K = K) (hl : PE X l tl) : PI X tg l (iList K tl) := by subst hK; exact pi_list hl
theorem pi_tupU {K} {tg l : Expr} {tl : TE} (hK : X.K = K) (hl : PE X l tl) : PI X tg l (iTup K tl) := by subst hK; exact pi_tup hl
def rMulU : R2 := r2or (r2or (rI CMul fun i j => .int (i * j)) (rI CMulW fun i j => .int (i * j))) rRep
theorem op_mulU : OpR X (binaryOp .Mult) rMulU := (op_mul.or op_mulW).or op_rep
def rSignIn : R2 := fun x y H Q => ∃ (c : Nat) (z : Str), x = .str ⟨#[c]⟩ ∧ y = .str z ∧ Q (.bl (decide (c ∈ z.cps.toList))) H
def rSignNin : R2 := fun x y H Q => ∃ (c : Nat) (z : Str), x = .str ⟨#[c]⟩ ∧ y = .str z ∧ Q (.bl (!decide (c ∈ z.cps.toList))) H
def rInU (K : PySem.W.Frag) : R2 := r2or (r2or (rIn K false) (rInD K)) rSignIn
def rNinU (K : PySem.W.Frag) : R2 := r2or (r2or (rIn K true) (rNotInD K)) rSignNin
theorem op_inU {K} (hK : X.K = K) (hu : X.A.units + 65 < cLine) : OpR X (compareOp .In) (rInU K) := by subst hK; exact (op_in_seq.or (op_inD hu)).or op_in_sign
theorem op_ninU {K} (hK : X.K = K) (hu : X.A.units + 65 < cLine) : OpR X (compareOp .NotIn) (rNinU K) := by subst hK; exact (op_notIn_seq.or (op_notInD hu)).or op_notIn_sign
def rMaxL (K : PySem.W.Frag) : List V → Hp → VK → Prop := rMax K
theorem call_maxL {K} (hK : X.K = K) (hc : X.calm = true) : CallR X (.builtin "max") (rMaxL K) := by subst hK; exact cr_max hc
def rMinL (K : PySem.W.Frag) : List V → Hp → VK → Prop := rMin K
theorem call_minL {K} (hK : X.K = K) (hc : X.calm = true) : CallR X (.builtin "min") (rMinL K) := by subst hK; exact cr_min hc
def rIsB : R2 := fun x y H Q => ∃ a b, x = .bl a ∧ y = .bl b ∧ Q (.bl (decide (a = b))) H
def rNisB : R2 := fun x y H Q => ∃ a b, x = .bl a ∧ y = .bl b ∧ Q (.bl (!decide (a = b))) H
theorem op_isB : OpR X (compareOp .Is) rIsB := op_is_bl
theorem op_nisB : OpR X (compareOp .IsNot) rNisB := op_isnot_bl
def iRevU (K : PySem.W.Frag) (te : TE) : TI := RT.iRevA K te
theorem pi_revU {K} {tg e : Expr} {te : TE} {p pos : Pos} (hK : X.K = K) (hg : Gl X "reversed") (hm : X.mg "reversed" = none) (he : PE X e te) (hs : starEach [e] X.env = (false, eval e X.env) :: starEach [] X.env := by rfl) : PI X tg (.Call (.Name "reversed" p) [e] [] pos) (iRevU K te) := by
  subst hK; exact RT.pi_revA hg hm he hs
def iEnumU (K : PySem.W.Frag) (ta : TA) : TI := iEnum K ta
theorem pi_enumU {K} {e : Expr} {ta : TA} {p pos tpos : Pos} {elts : List Expr} {kk : Nat} (hK : X.K = K) (hg : Gl X "enumerate") (hm : X.mg "enumerate" = none) (ha : PA X [e] ta) (hs : starEach [e] X.env = [(false, eval e X.env)] := by rfl) :
    PI X (.Tuple elts kk tpos) (.Call (.Name "enumerate" p) [e] [] pos) (iEnumU K ta) := by subst hK; exact pi_enum hg hm ha hs
/-- a slice -/
def rSlU (K : PySem.W.Frag) : V → Option Int → Option Int → Hp → VK → Prop := fun x lo hi H Q => (rSlL K x lo hi H Q ∨ rSlA K x lo hi H Q) ∨ rSlS x lo hi H Q
theorem sl_U {K} (hK : X.K = K) : SlR X (rSlU K) := by subst hK; exact (sl_list.or sl_tupA).or sl_str
def rEqU (K : PySem.W.Frag) : R2 := r2or (r2or rEq (rEqD K)) rEqDS
theorem op_eqU {K} (hK : X.K = K) (hu : X.A.units + 64 < cLine) : OpR X (compareOp .Eq) (rEqU K) := by subst hK; exact (op_eq.or (op_eqD hu)).or (op_eqDS hu)
def rNeU (K : PySem.W.Frag) : R2 := r2or (r2or rNe (rNeD K)) rNeDS
theorem op_neU {K} (hK : X.K = K) (hu : X.A.units + 64 < cLine) : OpR X (compareOp .NotEq) (rNeU K) := by subst hK; exact (op_ne.or (op_neD hu)).or (op_neDS hu)
end
theorem u65 {A : Around} {k : Nat} (hr : Room k A) : A.units + 65 < cLine := by have := hr.un; omega
theorem u64 {A : Around} {k : Nat} (hr : Room k A) : A.units + 64 < cLine := hr.units
section
variable {K : PySem.W.Frag} {H : Hp} {Q : VK} {i j : Int}
theorem w_addI (q : Q (.int (i + j)) H) : rAddU K (.int i) (.int j) H Q := .inl (.inl ⟨i, j, rfl, rfl, q⟩)
theorem w_addS {a b : Str} (h : a.length + b.length ≤ sizeLine) (q : Q (.str (a ++ b)) H) : rAddU K (.str a) (.str b) H Q := .inl (.inr ⟨a, b, rfl, rfl, h, q⟩)
theorem w_addL {l b : Addr} {xs zs : List V} (h1 : H l = some (.lst xs)) (h2 : H b = some (.lst zs)) (hl : xs.length + zs.length ≤ 1000000) (q : ∀ p, H p = none → Q (.ref p) (upd H p (.lst (xs ++ zs)))) : rAddU K (.ref l) (.ref b) H Q := .inr (.inr ⟨l, b, xs, zs, rfl, rfl, h1, h2, Nat.le_trans hl (by decide), q⟩)
theorem w_sub (q : Q (.int (i - j)) H) : rI0 (fun i j => .int (i - j)) (.int i) (.int j) H Q := ⟨i, j, rfl, rfl, q⟩
theorem w_rI0 {g : Int → Int → V} (q : Q (g i j) H) : rI0 g (.int i) (.int j) H Q := ⟨i, j, rfl, rfl, q⟩
theorem w_rI {C : Int → Int → Prop} {g : Int → Int → V} (c : C i j) (q : Q (g i j) H) : rI C g (.int i) (.int j) H Q := ⟨i, j, rfl, rfl, c, q⟩
theorem w_mulI (c : (-(2 ^ 64) < i ∧ i < 2 ^ 64) ∨ (-(2 ^ 64) < j ∧ j < 2 ^ 64)) (q : Q (.int (i * j)) H) : rMulU (.int i) (.int j) H Q := .inl (.inl ⟨i, j, rfl, rfl, c, q⟩)
theorem w_max (q : Q (.int (if j > i then j else i)) H) : rMaxU [.int i, .int j] H Q := ⟨i, j, rfl, q⟩
theorem w_min (q : Q (.int (if j < i then j else i)) H) : rMinU [.int i, .int j] H Q := ⟨i, j, rfl, q⟩
theorem w_abs (q : Q (.int (if i < 0 then -i else i)) H) : rAbsU [.int i] H Q := ⟨i, rfl, q⟩
theorem w_intI (q : Q (.int i) H) : rIntU [.int i] H Q := .inl ⟨i, rfl, q⟩
theorem w_intB {k : Bool} (q : Q (.int (if k then 1 else 0)) H) : rIntU [.bl k] H Q := .inr ⟨k, rfl, q⟩
theorem w_pow9 (q : Q (.int 1000000000) H) : rI CPow (fun i j => .int (i ^ j.toNat)) (.int 10) (.int 9) H Q := ⟨10, 9, rfl, rfl, ⟨by decide, by decide, by decide⟩, q⟩
theorem w_pow18 (q : Q (.int 1000000000000000000) H) : rI CPow (fun i j => .int (i ^ j.toNat)) (.int 10) (.int 18) H Q := ⟨10, 18, rfl, rfl, ⟨by decide, by decide, by decide⟩, q⟩
theorem w_pow6 (q : Q (.int 1000000) H) : rI CPow (fun i j => .int (i ^ j.toNat)) (.int 10) (.int 6) H Q := ⟨10, 6, rfl, rfl, ⟨by decide, by decide, by decide⟩, q⟩
theorem w_pow59 (q : Q (.int 100000000000000000000000000000000000000000000000000000000000) H) : rI CPow (fun i j => .int (i ^ j.toNat)) (.int 10) (.int 59) H Q := ⟨10, 59, rfl, rfl, ⟨by decide, by decide, by decide⟩, q⟩
theorem w_slL {p : Addr} {xs : List V} {lo hi : Option Int} (h : SqL K H p xs) (q : ∀ l, H l = none → Q (.ref l) (upd H l (.lst (cutV xs lo hi)))) : rSlU K (.ref p) lo hi H Q := .inl (.inl ⟨p, xs, rfl, h, q⟩)
theorem w_part {σ : L2.St} {te : TE} {Q : Option Int → Hp → Prop} (q : te σ H fun x H1 => ∃ i, x = .int i ∧ Q (some i) H1) : tPart te σ H Q := q
theorem w_partI {P : Int → Prop} (q : P i) : ∃ k, V.int i = .int k ∧ P k := ⟨i, rfl, q⟩
theorem w_nopart {σ : L2.St} {Q : Option Int → Hp → Prop} (q : Q none H) : tNoPart σ H Q := q
theorem w_sl {σ : L2.St} {r : V → Option Int → Option Int → Hp → VK → Prop} {te : TE} {tl th : TO} (q : te σ H fun x H1 => tl σ H1 fun l H2 => th σ H2 fun u H3 => r x l u H3 Q) : tSl r te tl th σ H Q := q
theorem w_listL {p : Addr} {ys : List V} (h : SqL K H p ys) (q : ∀ l, H l = none → Q (.ref l) (upd H l (.lst ys))) : rListU K [.ref p] H Q := ⟨p, ys, rfl, .inl h, q⟩
theorem w_listT {p : Addr} {ys : List V} (h : SqT K H p ys) (q : ∀ l, H l = none → Q (.ref l) (upd H l (.lst ys))) : rListU K [.ref p] H Q := ⟨p, ys, rfl, .inr h, q⟩
theorem w_tupleL {p : Addr} {ys : List V} (h : SqL K H p ys) (q : ∀ l, H l = none → Q (.ref l) (upd H l (.tup ys))) : rTupleU K [.ref p] H Q := ⟨p, ys, rfl, .inl ⟨h, q⟩⟩
theorem w_isB {a b : Bool} (q : Q (.bl (decide (a = b))) H) : rIsB (.bl a) (.bl b) H Q := ⟨a, b, rfl, rfl, q⟩
theorem w_nisB {a b : Bool} (q : Q (.bl (!decide (a = b))) H) : rNisB (.bl a) (.bl b) H Q := ⟨a, b, rfl, rfl, q⟩
theorem w_inT {x : V} {p : Addr} {xs : List V} (h : SqT K H p xs) (hx : flatV x = true) (ha : xs.all flatV = true) (q : Q (.bl (inV x xs)) H) : rInU K x (.ref p) H Q := .inl (.inl ⟨p, xs, rfl, .inr h, hx, ha, q⟩)
theorem w_inL {x : V} {p : Addr} {xs : List V} (h : SqL K H p xs) (hx : flatV x = true) (ha : xs.all flatV = true) (q : Q (.bl (inV x xs)) H) : rInU K x (.ref p) H Q := .inl (.inl ⟨p, xs, rfl, .inl h, hx, ha, q⟩)
theorem w_ninT {x : V} {p : Addr} {xs : List V} (h : SqT K H p xs) (hx : flatV x = true) (ha : xs.all flatV = true) (q : Q (.bl (!inV x xs)) H) : rNinU K x (.ref p) H Q := .inl (.inl ⟨p, xs, rfl, .inr h, hx, ha, q⟩)
theorem w_ninL {x : V} {p : Addr} {xs : List V} (h : SqL K H p xs) (hx : flatV x = true) (ha : xs.all flatV = true) (q : Q (.bl (!inV x xs)) H) : rNinU K x (.ref p) H Q := .inl (.inl ⟨p, xs, rfl, .inl h, hx, ha, q⟩)
theorem w_lenL {p : Addr} {ys : List V} (h : SqL K H p ys) (q : Q (.int ys.length) H) : rLenU K [.ref p] H Q := .inl ⟨p, ys, rfl, .inl h, q⟩
theorem w_lenT {p : Addr} {ys : List V} (h : SqT K H p ys) (q : Q (.int ys.length) H) : rLenU K [.ref p] H Q := .inl ⟨p, ys, rfl, .inr h, q⟩
theorem w_lenS {z : Str} (h : z.length ≤ sizeLine) (q : Q (.int z.length) H) : rLenU K [.str z] H Q := .inr ⟨z, rfl, h, q⟩
theorem w_ixL {p : Addr} {xs : List V} {v : V} (h : SqL K H p xs) (e : atI xs i = some v) (q : Q v H) : rIx K (.ref p) (.int i) H Q := .inl ⟨p, xs, i, v, rfl, rfl, h, e, q⟩
theorem w_ixT {p : Addr} {xs : List V} {v : V} (h : SqT K H p xs) (e : atI xs i = some v) (q : Q v H) : rIx K (.ref p) (.int i) H Q := .inr (.inl ⟨p, xs, i, v, rfl, rfl, h, e, q⟩)
theorem w_setL {p : Addr} {xs : List V} {v : V} {j : Nat} {Q : Hp → Prop} (h : H p = some (.lst xs)) (e : ixN xs.length i = some j) (q : Q (upd H p (.lst (xs.set j v)))) : rSetL (.ref p) (.int i) v H Q := ⟨p, xs, i, j, rfl, rfl, h, e, q⟩
theorem w_isi {x : V} {n : String} {t : Value} {b : Bool} (ty : TyX K H x t) (e : PySem.W.kitOne K t (.type n) = some b) (q : Q (.bl b) H) : rIsi K [x, .ty n] H Q := ⟨x, .ty n, t, .type n, b, rfl, .ty n, ty, e, q⟩
/-! isinstance of plain values -/
theorem ty_T {a : Addr} {xs : List V} (h : SqT K H a xs) : TyX K H (.ref a) (.type "tuple") := by
  rcases h with (h | ⟨o, h⟩) | ⟨o, its, n, h, hc, _⟩
  · exact .base (.tup h)
  · exact .fTuple h
  · exact .kTuple h hc
theorem ty_L {a : Addr} {xs : List V} (h : SqL K H a xs) : TyX K H (.ref a) (.type "list") := by
  rcases h with (h | ⟨o, h⟩) | ⟨o, its, n, h, hc, _⟩
  · exact .base (.lst h)
  · exact .base (.frz h)
  · exact .kList h hc
theorem isD_int {a : Addr} {kvs : List (Key × V)} (h : H a = some (.dK kvs)) (q : Q (.bl false) H) : rIsi K [.ref a, .ty "int"] H Q := w_isi (.base (.dK h)) (kit_ty (by decide +kernel)) q
theorem isD_bool {a : Addr} {kvs : List (Key × V)} (h : H a = some (.dK kvs)) (q : Q (.bl false) H) : rIsi K [.ref a, .ty "bool"] H Q := w_isi (.base (.dK h)) (kit_ty (by decide +kernel)) q
theorem isD_str {a : Addr} {kvs : List (Key × V)} (h : H a = some (.dK kvs)) (q : Q (.bl false) H) : rIsi K [.ref a, .ty "str"] H Q := w_isi (.base (.dK h)) (kit_ty (by decide +kernel)) q
theorem isD_tuple {a : Addr} {kvs : List (Key × V)} (h : H a = some (.dK kvs)) (q : Q (.bl false) H) : rIsi K [.ref a, .ty "tuple"] H Q := w_isi (.base (.dK h)) (kit_ty (by decide +kernel)) q
theorem isD_list {a : Addr} {kvs : List (Key × V)} (h : H a = some (.dK kvs)) (q : Q (.bl false) H) : rIsi K [.ref a, .ty "list"] H Q := w_isi (.base (.dK h)) (kit_ty (by decide +kernel)) q
theorem isD_dict {a : Addr} {kvs : List (Key × V)} (h : H a = some (.dK kvs)) (q : Q (.bl true) H) : rIsi K [.ref a, .ty "dict"] H Q := w_isi (.base (.dK h)) (kit_ty (by decide +kernel)) q
theorem isT_int {a : Addr} {xs : List V} (h : SqT K H a xs) (q : Q (.bl false) H) : rIsi K [.ref a, .ty "int"] H Q := w_isi (ty_T h) (kit_ty (by decide +kernel)) q
theorem isT_bool {a : Addr} {xs : List V} (h : SqT K H a xs) (q : Q (.bl false) H) : rIsi K [.ref a, .ty "bool"] H Q := w_isi (ty_T h) (kit_ty (by decide +kernel)) q
theorem isT_str {a : Addr} {xs : List V} (h : SqT K H a xs) (q : Q (.bl false) H) : rIsi K [.ref a, .ty "str"] H Q := w_isi (ty_T h) (kit_ty (by decide +kernel)) q
theorem isT_tuple {a : Addr} {xs : List V} (h : SqT K H a xs) (q : Q (.bl true) H) : rIsi K [.ref a, .ty "tuple"] H Q := w_isi (ty_T h) (kit_ty (by decide +kernel)) q
theorem isT_list {a : Addr} {xs : List V} (h : SqT K H a xs) (q : Q (.bl false) H) : rIsi K [.ref a, .ty "list"] H Q := w_isi (ty_T h) (kit_ty (by decide +kernel)) q
theorem isT_dict {a : Addr} {xs : List V} (h : SqT K H a xs) (q : Q (.bl false) H) : rIsi K [.ref a, .ty "dict"] H Q := w_isi (ty_T h) (kit_ty (by decide +kernel)) q
theorem isL_int {a : Addr} {xs : List V} (h : SqL K H a xs) (q : Q (.bl false) H) : rIsi K [.ref a, .ty "int"] H Q := w_isi (ty_L h) (kit_ty (by decide +kernel)) q
theorem isL_bool {a : Addr} {xs : List V} (h : SqL K H a xs) (q : Q (.bl false) H) : rIsi K [.ref a, .ty "bool"] H Q := w_isi (ty_L h) (kit_ty (by decide +kernel)) q
theorem isL_str {a : Addr} {xs : List V} (h : SqL K H a xs) (q : Q (.bl false) H) : rIsi K [.ref a, .ty "str"] H Q := w_isi (ty_L h) (kit_ty (by decide +kernel)) q
theorem isL_tuple {a : Addr} {xs : List V} (h : SqL K H a xs) (q : Q (.bl false) H) : rIsi K [.ref a, .ty "tuple"] H Q := w_isi (ty_L h) (kit_ty (by decide +kernel)) q
theorem isL_list {a : Addr} {xs : List V} (h : SqL K H a xs) (q : Q (.bl true) H) : rIsi K [.ref a, .ty "list"] H Q := w_isi (ty_L h) (kit_ty (by decide +kernel)) q
theorem isL_dict {a : Addr} {xs : List V} (h : SqL K H a xs) (q : Q (.bl false) H) : rIsi K [.ref a, .ty "dict"] H Q := w_isi (ty_L h) (kit_ty (by decide +kernel)) q
theorem is_non_int (q : Q (.bl false) H) : rIsi K [.non, .ty "int"] H Q := w_isi (.base .non) (kit_ty (by decide +kernel)) q
theorem is_non_bool (q : Q (.bl false) H) : rIsi K [.non, .ty "bool"] H Q := w_isi (.base .non) (kit_ty (by decide +kernel)) q
theorem is_non_str (q : Q (.bl false) H) : rIsi K [.non, .ty "str"] H Q := w_isi (.base .non) (kit_ty (by decide +kernel)) q
theorem is_non_tuple (q : Q (.bl false) H) : rIsi K [.non, .ty "tuple"] H Q := w_isi (.base .non) (kit_ty (by decide +kernel)) q
theorem is_non_list (q : Q (.bl false) H) : rIsi K [.non, .ty "list"] H Q := w_isi (.base .non) (kit_ty (by decide +kernel)) q
theorem is_non_dict (q : Q (.bl false) H) : rIsi K [.non, .ty "dict"] H Q := w_isi (.base .non) (kit_ty (by decide +kernel)) q
theorem is_bl_int {u : Bool} (q : Q (.bl true) H) : rIsi K [(.bl u), .ty "int"] H Q := w_isi (.base (.bl _)) (kit_ty (by decide +kernel)) q
theorem is_bl_bool {u : Bool} (q : Q (.bl true) H) : rIsi K [(.bl u), .ty "bool"] H Q := w_isi (.base (.bl _)) (kit_ty (by decide +kernel)) q
theorem is_bl_str {u : Bool} (q : Q (.bl false) H) : rIsi K [(.bl u), .ty "str"] H Q := w_isi (.base (.bl _)) (kit_ty (by decide +kernel)) q
theorem is_bl_tuple {u : Bool} (q : Q (.bl false) H) : rIsi K [(.bl u), .ty "tuple"] H Q := w_isi (.base (.bl _)) (kit_ty (by decide +kernel)) q
theorem is_bl_list {u : Bool} (q : Q (.bl false) H) : rIsi K [(.bl u), .ty "list"] H Q := w_isi (.base (.bl _)) (kit_ty (by decide +kernel)) q
theorem is_bl_dict {u : Bool} (q : Q (.bl false) H) : rIsi K [(.bl u), .ty "dict"] H Q := w_isi (.base (.bl _)) (kit_ty (by decide +kernel)) q
theorem is_int_int {u : Int} (q : Q (.bl true) H) : rIsi K [(.int u), .ty "int"] H Q := w_isi (.base (.int _)) (kit_ty (by decide +kernel)) q
theorem is_int_bool {u : Int} (q : Q (.bl false) H) : rIsi K [(.int u), .ty "bool"] H Q := w_isi (.base (.int _)) (kit_ty (by decide +kernel)) q
theorem is_int_str {u : Int} (q : Q (.bl false) H) : rIsi K [(.int u), .ty "str"] H Q := w_isi (.base (.int _)) (kit_ty (by decide +kernel)) q
theorem is_int_tuple {u : Int} (q : Q (.bl false) H) : rIsi K [(.int u), .ty "tuple"] H Q := w_isi (.base (.int _)) (kit_ty (by decide +kernel)) q
theorem is_int_list {u : Int} (q : Q (.bl false) H) : rIsi K [(.int u), .ty "list"] H Q := w_isi (.base (.int _)) (kit_ty (by decide +kernel)) q
theorem is_int_dict {u : Int} (q : Q (.bl false) H) : rIsi K [(.int u), .ty "dict"] H Q := w_isi (.base (.int _)) (kit_ty (by decide +kernel)) q
theorem is_str_int {u : Str} (q : Q (.bl false) H) : rIsi K [(.str u), .ty "int"] H Q := w_isi (.base (.str _)) (kit_ty (by decide +kernel)) q
theorem is_str_bool {u : Str} (q : Q (.bl false) H) : rIsi K [(.str u), .ty "bool"] H Q := w_isi (.base (.str _)) (kit_ty (by decide +kernel)) q
theorem is_str_str {u : Str} (q : Q (.bl true) H) : rIsi K [(.str u), .ty "str"] H Q := w_isi (.base (.str _)) (kit_ty (by decide +kernel)) q
theorem is_str_tuple {u : Str} (q : Q (.bl false) H) : rIsi K [(.str u), .ty "tuple"] H Q := w_isi (.base (.str _)) (kit_ty (by decide +kernel)) q
theorem is_str_list {u : Str} (q : Q (.bl false) H) : rIsi K [(.str u), .ty "list"] H Q := w_isi (.base (.str _)) (kit_ty (by decide +kernel)) q
theorem is_str_dict {u : Str} (q : Q (.bl false) H) : rIsi K [(.str u), .ty "dict"] H Q := w_isi (.base (.str _)) (kit_ty (by decide +kernel)) q
theorem w_rU {g : Int → V} (q : Q (g i) H) : rU g (.int i) H Q := ⟨i, rfl, q⟩
theorem dec_int {a b : Int} : decide (V.int a = V.int b) = decide (a = b) := by
  by_cases h : a = b
  · subst h; simp
  · rw [decide_eq_false h, decide_eq_false fun e => h (V.int.inj e)]
theorem dec_str {a b : Str} : decide (V.str a = V.str b) = decide (a = b) := by
  by_cases h : a = b
  · subst h; simp
  · rw [decide_eq_false h, decide_eq_false fun e => h (V.str.inj e)]
theorem dec_bl {a b : Bool} : decide (V.bl a = V.bl b) = decide (a = b) := by
  by_cases h : a = b
  · subst h; simp
  · rw [decide_eq_false h, decide_eq_false fun e => h (V.bl.inj e)]
theorem w_eqI (q : Q (.bl (decide (i = j))) H) : rEqU K (.int i) (.int j) H Q := .inl (.inl ⟨rfl, by rw [dec_int]; exact q⟩)
theorem w_eqS {a b : Str} (q : Q (.bl (decide (a = b))) H) : rEqU K (.str a) (.str b) H Q := .inl (.inl ⟨rfl, by rw [dec_str]; exact q⟩)
theorem w_eqB {a b : Bool} (q : Q (.bl (decide (a = b))) H) : rEqU K (.bl a) (.bl b) H Q := .inl (.inl ⟨rfl, by rw [dec_bl]; exact q⟩)
theorem w_neI (q : Q (.bl (!decide (i = j))) H) : rNeU K (.int i) (.int j) H Q := .inl (.inl ⟨rfl, by rw [dec_int]; exact q⟩)
theorem w_neS {a b : Str} (q : Q (.bl (!decide (a = b))) H) : rNeU K (.str a) (.str b) H Q := .inl (.inl ⟨rfl, by rw [dec_str]; exact q⟩)
theorem w_neB {a b : Bool} (q : Q (.bl (!decide (a = b))) H) : rNeU K (.bl a) (.bl b) H Q := .inl (.inl ⟨rfl, by rw [dec_bl]; exact q⟩)
theorem w_eqDS {p : Addr} {kvs : List (Key × V)} {z : Str} (h : H p = some (.dK kvs)) (q : Q (.bl false) H) : rEqU K (.ref p) (.str z) H Q := .inr ⟨p, kvs, z, rfl, h, rfl, q⟩
theorem w_neDS {p : Addr} {kvs : List (Key × V)} {z : Str} (h : H p = some (.dK kvs)) (q : Q (.bl true) H) : rNeU K (.ref p) (.str z) H Q := .inr ⟨p, kvs, z, rfl, h, rfl, q⟩
theorem w_eqD {x y : V} {d e : PyData} (hx : Dp K H x d) (hy : Dp K H y e) (sx : SeqAt.shaped d = true) (sy : SeqAt.shaped e = true) (q : Q (.bl (PyData.eqv d e)) H) : rEqU K x y H Q := .inl (.inr ⟨d, e, hx, hy, sx, sy, q⟩)
theorem w_neD {x y : V} {d e : PyData} (hx : Dp K H x d) (hy : Dp K H y e) (sx : SeqAt.shaped d = true) (sy : SeqAt.shaped e = true) (q : Q (.bl (!PyData.eqv d e)) H) : rNeU K x y H Q := .inl (.inr ⟨d, e, hx, hy, sx, sy, q⟩)
end
/-- a new tuple, a new list -/
def MkT (xs : List V) (Q : VK) (H : Hp) : Prop := xs.length ≤ sizeLine ∧ ∀ p, H p = none → Q (.ref p) (upd H p (.tup xs))
def MkL (xs : List V) (Q : VK) (H : Hp) : Prop := xs.length ≤ sizeLine ∧ ∀ p, H p = none → Q (.ref p) (upd H p (.lst xs))
/-! ### steps of a reading -/
section
variable {K : PySem.W.Frag} {σ : L2.St} {H : Hp} {Q : VK} {QB : Bool → Hp → Prop} {QA : List V → Hp → Prop} {ta tb tc : TE} {t u : TT} {v : V} {i : Nat} {r r' : R2}
theorem w_var (h : σ[i]? = some (some v)) (q : Q v H) : tVar i σ H Q := ⟨v, h, q⟩
theorem w_c (q : Q v H) : tC v σ H Q := q
theorem w_op (q : ta σ H fun x H1 => tb σ H1 fun y H2 => r x y H2 Q) : tOp r ta tb σ H Q := q
theorem w_un {r : V → Hp → VK → Prop} (q : ta σ H fun x H1 => r x H1 Q) : tUn r ta σ H Q := q
theorem w_chain (q : ta σ H fun x H1 => tb σ H1 fun y H2 => r x y H2 fun z H3 => ∃ k, z = .bl k ∧ (if k = true then tc σ H3 fun w' H4 => r' y w' H4 Q else Q (.bl false) H3)) : tChain r r' ta tb tc σ H Q := q
theorem w_bl {b : Bool} {P : Bool → Prop} (q : P b) : ∃ k, V.bl b = .bl k ∧ P k := ⟨b, rfl, q⟩
theorem w_test (q : ta σ H fun x H' => ∃ k, x = .bl k ∧ QB k H') : tTest ta σ H QB := q
theorem w_B (q : ta σ H fun x H' => ∃ k, x = .bl k ∧ QB k H') : tB ta σ H QB := q
theorem w_and (q : t σ H fun c H1 => if c = true then u σ H1 QB else QB false H1) : tAnd t u σ H QB := q
theorem w_or (q : t σ H fun c H1 => if c = true then QB true H1 else u σ H1 QB) : tOr t u σ H QB := q
theorem w_not (q : t σ H fun c H1 => QB (!c) H1) : tNot t σ H QB := q
theorem w_andV (q : ta σ H fun x H1 => ∃ c, x = .bl c ∧ if c = true then tb σ H1 Q else Q (.bl false) H1) : tAndV ta tb σ H Q := q
theorem w_orV (q : ta σ H fun x H1 => ∃ c, x = .bl c ∧ if c = true then Q (.bl true) H1 else tb σ H1 Q) : tOrV ta tb σ H Q := q
theorem w_notV (q : ta σ H fun x H1 => ∃ c, x = .bl c ∧ Q (.bl (!c)) H1) : tNotV ta σ H Q := q
theorem w_if (q : t σ H fun c H1 => if c = true then ta σ H1 Q else tb σ H1 Q) : tIf t ta tb σ H Q := q
theorem w_isN (q : ta σ H fun x H1 => Q (.bl (decide (x = .non))) H1) : tIsN ta σ H Q := q
theorem w_notN (q : ta σ H fun x H1 => Q (.bl (!decide (x = .non))) H1) : tNotN ta σ H Q := q
theorem w_nil (q : QA [] H) : tNil σ H QA := q
theorem w_cons {tr : TA} (q : ta σ H fun x H1 => tr σ H1 fun xs H2 => QA (x :: xs) H2) : tCons ta tr σ H QA := q
theorem w_tup {tr : TA} (q : tr σ H fun xs H1 => MkT xs Q H1) : tTup tr σ H Q := q
theorem w_lst {tr : TA} (q : tr σ H fun xs H1 => MkL xs Q H1) : tLst tr σ H Q := q
theorem w_call {sp : Sp} {dvs : List V} {E : XK} {tr : TA} (q : tr σ H fun vs H1 => sp (vs ++ dvs) H1 Q E) : tCall sp dvs E tr σ H Q := q
theorem w_cb {rc : List V → Hp → VK → Prop} {tr : TA} (q : tr σ H fun vs H1 => rc vs H1 Q) : tCB rc tr σ H Q := q
theorem w_bm {T : String} {rm : V → List V → Hp → VK → Prop} {tr : TA} (q : ta σ H fun x H1 => tyV K T x H1 ∧ tr σ H1 fun xs H2 => rm x xs H2 Q) : tBM K T rm ta tr σ H Q := q
theorem w_bm0 {T : String} {rm : V → List V → Hp → VK → Prop} (q : ta σ H fun x H1 => tyV K T x H1 ∧ rm x [] H1 Q) : tBM0 K T rm ta σ H Q := q
end
section
variable {σ : L2.St} {H : Hp} {n b c : L2.St → Hp → Prop} {r : VK} {t u : TS} {te : TE} {tt : TT} {g : TG} {v : V} {i : Nat}
theorem w_cut (M : L2.St → Hp → Prop) (h1 : t ⟨M, r, b, c⟩ σ H) (h2 : ∀ σ' H', M σ' H' → u ⟨n, r, b, c⟩ σ' H') : C8.tCut t u ⟨n, r, b, c⟩ σ H := ⟨M, h1, h2⟩
theorem w_sub' {Q : L2.St → Hp → Prop} {to ti : TE} {ts : TSet} (q : to σ H fun o H1 => ti σ H1 fun i H2 => ts o i v H2 fun H3 => Q σ H3) : gSub to ti ts v σ H Q := q
theorem w_seq (q : t ⟨u ⟨n, r, b, c⟩, r, b, c⟩ σ H) : tSeq t u ⟨n, r, b, c⟩ σ H := q
theorem w_asg (q : te σ H fun x H1 => g x σ H1 n) : tAsg te g ⟨n, r, b, c⟩ σ H := q
theorem w_name {Q : L2.St → Hp → Prop} (q : Q (σ.set i (some v)) H) : gName i v σ H Q := q
theorem w_gcons {t1 : TG} {u1 : TGs} {vs : List V} {Q : L2.St → Hp → Prop} (q : t1 v σ H fun σ' H' => u1 vs σ' H' Q) : gCons t1 u1 (v :: vs) σ H Q := ⟨v, vs, rfl, q⟩
theorem w_gnil {Q : L2.St → Hp → Prop} (q : Q σ H) : gNil [] σ H Q := ⟨rfl, q⟩
theorem w_gtup {K : PySem.W.Frag} {t1 : TGs} {p : Addr} {xs : List V} {m : Nat} {Q : L2.St → Hp → Prop} (h : SqT K H p xs) (hl : xs.length = m) (q : t1 xs σ H Q) : gTup K m t1 (.ref p) σ H Q := ⟨p, xs, rfl, h, hl, q⟩
theorem w_ret (q : te σ H r) : tRet te ⟨n, r, b, c⟩ σ H := q
theorem w_retN (q : r .non H) : tRetN ⟨n, r, b, c⟩ σ H := q
theorem w_drop (q : te σ H fun _ H1 => n σ H1) : tDrop te ⟨n, r, b, c⟩ σ H := q
theorem w_ifS (q : tt σ H fun k H1 => if k = true then t ⟨n, r, b, c⟩ σ H1 else u ⟨n, r, b, c⟩ σ H1) : tIfS tt t u ⟨n, r, b, c⟩ σ H := q
theorem w_next (q : n σ H) : tNext ⟨n, r, b, c⟩ σ H := q
theorem w_break (q : b σ H) : tBreak ⟨n, r, b, c⟩ σ H := q
theorem w_cont (q : c σ H) : tCont ⟨n, r, b, c⟩ σ H := q
end
/-! ### loops -/
/-- the turns of a for over J -/
def FOR (J : It) (g : TG) (tb : TS) (D : Ends) (σ : L2.St) (H1 : Hp) : Prop :=
  ∃ W : Nat → Nat → L2.St → Hp → Prop, (∃ m, W 0 m σ H1) ∧
    ∀ i m σ H, W i m σ H → (J.stop i H ∧ D.nx σ H) ∨ (J.go i H ∧
      ∃ N : L2.St → Hp → Prop, (∀ σ' H', N σ' H' → ∃ m', m' < m ∧ W (i + 1) m' σ' H') ∧
        ∀ x H', J.yld i H x H' → g x σ H' fun σ2 H2 => tb { D with nx := N, ct := N, bk := D.nx } σ2 H2)
section
variable {K : PySem.W.Frag} {σ : L2.St} {H : Hp} {nx b c : L2.St → Hp → Prop} {rt : VK} {g : TG} {tb : TS} {D : Ends}
theorem w_for {wi : TI} (q : wi σ H fun J H1 => FOR J g tb D σ H1) : tFor wi g tb D σ H := q
theorem w_iR1 {ta : TA} {R : It → Hp → Prop} (q : ta σ H fun vs H1 => ∃ j : Int, vs = [.int j] ∧ -(2 ^ 62) ≤ j ∧ j < 2 ^ 62 ∧ R (Itr 0 j.toNat) H1) : iRng1 ta σ H R := q
theorem w_iR2 {ta : TA} {R : It → Hp → Prop} (q : ta σ H fun vs H1 => ∃ i j : Int, vs = [.int i, .int j] ∧ (-(2 ^ 62) ≤ i ∧ i < 2 ^ 62 ∧ -(2 ^ 62) ≤ j ∧ j < 2 ^ 62) ∧ R (Itr i (j - i).toNat) H1) : iRng2 ta σ H R := q
theorem w_iRev {te : TE} {R : It → Hp → Prop} (q : te σ H fun v H1 => ∃ (a : Addr) (xs : List V), v = .ref a ∧ ((SqL K H1 a xs ∧ R (Itv K a xs.length) H1) ∨ (SqT K H1 a xs ∧ R (RT.ItvT K a xs.length) H1))) : iRevU K te σ H R := q
theorem w_iEnum {ta : TA} {R : It → Hp → Prop} (q : ta σ H fun vs H1 => ∃ a xs, vs = [.ref a] ∧ SqL K H1 a xs ∧ R (Ite K a) H1) : iEnumU K ta σ H R := q
theorem w_iL {tl : TE} {R : It → Hp → Prop} (q : tl σ H fun x H1 => ∃ a, x = .ref a ∧ (∃ xs, SqL K H1 a xs) ∧ R (Itl K a) H1) : iList K tl σ H R := q
theorem w_iT {tl : TE} {R : It → Hp → Prop} (q : tl σ H fun x H1 => ∃ a, x = .ref a ∧ (∃ xs, SqT K H1 a xs) ∧ R (Itt K a) H1) : iTup K tl σ H R := q
theorem F_R1 {j : Int} (n : Nat) (hn : j.toNat = n) (h1 : -(2 ^ 62) ≤ j) (h2 : j < 2 ^ 62) (Pv : Nat → L2.St → Hp → Prop) (h0 : Pv 0 σ H)
    (hs : ∀ i σ H, i < n → Pv i σ H → g (.int i) σ H fun σ2 H2 => tb ⟨Pv (i + 1), rt, nx, Pv (i + 1)⟩ σ2 H2) (hd : ∀ σ H, Pv n σ H → nx σ H) :
    ∃ j' : Int, [V.int j] = [.int j'] ∧ -(2 ^ 62) ≤ j' ∧ j' < 2 ^ 62 ∧ FOR (Itr 0 j'.toNat) g tb ⟨nx, rt, b, c⟩ σ H := by
  subst hn
  refine ⟨j, rfl, h1, h2, ?_⟩
  exact for_range (D := ⟨nx, rt, b, c⟩) Pv h0 (fun i σ H hi p => by rw [Int.zero_add]; exact hs i σ H hi p) hd
theorem F_L {a : Addr} {xs : List V} (h : SqL K H a xs) (Pv : Nat → L2.St → Hp → Prop) (h0 : Pv 0 σ H) (hl : ∀ i σ H, i ≤ xs.length → Pv i σ H → SqL K H a xs)
    (hs : ∀ i x σ H, xs[i]? = some x → Pv i σ H → g x σ H fun σ2 H2 => tb ⟨Pv (i + 1), rt, nx, Pv (i + 1)⟩ σ2 H2) (hd : ∀ σ H, Pv xs.length σ H → nx σ H) :
    ∃ a', V.ref a = .ref a' ∧ (∃ ys, SqL K H a' ys) ∧ FOR (Itl K a') g tb ⟨nx, rt, b, c⟩ σ H :=
  ⟨a, rfl, ⟨xs, h⟩, for_list (D := ⟨nx, rt, b, c⟩) Pv h0 hl hs hd⟩
theorem F_T {a : Addr} {xs : List V} (h : SqT K H a xs) (Pv : Nat → L2.St → Hp → Prop) (h0 : Pv 0 σ H) (hl : ∀ i σ H, i ≤ xs.length → Pv i σ H → SqT K H a xs)
    (hs : ∀ i x σ H, xs[i]? = some x → Pv i σ H → g x σ H fun σ2 H2 => tb ⟨Pv (i + 1), rt, nx, Pv (i + 1)⟩ σ2 H2) (hd : ∀ σ H, Pv xs.length σ H → nx σ H) :
    ∃ a', V.ref a = .ref a' ∧ (∃ ys, SqT K H a' ys) ∧ FOR (Itt K a') g tb ⟨nx, rt, b, c⟩ σ H :=
  ⟨a, rfl, ⟨xs, h⟩, for_tup (D := ⟨nx, rt, b, c⟩) Pv h0 hl hs hd⟩
/-- a while by an invariant with a measure -/
theorem w_while {tt : TT} (W : Nat → L2.St → Hp → Prop) (m0 : Nat) (h0 : W m0 σ H)
    (hs : ∀ m σ' H', W m σ' H' → tt σ' H' fun k H1 => if k = true then tb ⟨fun σ2 H2 => ∃ m', m' < m ∧ W m' σ2 H2, rt, nx, fun σ2 H2 => ∃ m', m' < m ∧ W m' σ2 H2⟩ σ' H1 else nx σ' H1)
    (mono : ∀ σ H (Q Q' : Bool → Hp → Prop), (∀ k H1, Q k H1 → Q' k H1) → tt σ H Q → tt σ H Q') : tWhile tt tb ⟨nx, rt, b, c⟩ σ H := by
  refine ⟨W, ⟨m0, h0⟩, fun m σ' H' w => mono σ' H' _ _ (fun k H1 q => ?_) (hs m σ' H' w)⟩
  cases k with
  | true => exact ⟨_, fun _ _ z => z, q⟩
  | false => exact q
/-- .. the measure's step told at the test's end -/
theorem w_whileN {tt : TT} (W : Nat → L2.St → Hp → Prop) (m0 : Nat) (h0 : W m0 σ H)
    (hs : ∀ m σ' H', W m σ' H' → tt σ' H' fun k H1 => if k = true then ∃ N : L2.St → Hp → Prop, (∀ σ2 H2, N σ2 H2 → ∃ m', m' < m ∧ W m' σ2 H2) ∧ tb ⟨N, rt, nx, N⟩ σ' H1 else nx σ' H1) : tWhile tt tb ⟨nx, rt, b, c⟩ σ H := ⟨W, ⟨m0, h0⟩, hs⟩
theorem w_N {m : Nat} {W : Nat → L2.St → Hp → Prop} (q : tb ⟨fun σ2 H2 => ∃ m', m' < m ∧ W m' σ2 H2, rt, nx, fun σ2 H2 => ∃ m', m' < m ∧ W m' σ2 H2⟩ σ H) : ∃ N : L2.St → Hp → Prop, (∀ σ2 H2, N σ2 H2 → ∃ m', m' < m ∧ W m' σ2 H2) ∧ tb ⟨N, rt, nx, N⟩ σ H := ⟨_, fun _ _ z => z, q⟩
/-- the turns of a comprehension over J -/
def LC (J : It) (g : TG) (tt : TT) (te : TE) (vs : List Nat) (σ : L2.St) (D : Addr) (Q : VK) (H1 : Hp) : Prop :=
  ∃ W : Nat → Nat → Hp → Prop, (∃ m, W 0 m H1) ∧ ∀ i m H, W i m H → (J.stop i H ∧ Q (.ref D) H) ∨ (J.go i H ∧
    ∃ Nx : Hp → Prop, (∀ H', Nx H' → ∃ m', m' < m ∧ W (i + 1) m' H') ∧ ∀ x H', J.yld i H x H' → g x (wipe σ vs) H' fun σ2 H2 => wipe σ2 vs = wipe σ vs ∧
      tt σ2 H2 fun k H3 => if k = true then te σ2 H3 fun y H4 => ∃ acc, H4 D = some (.lst acc) ∧ acc.length < sizeLine ∧ Nx (upd H4 D (.lst (acc ++ [y]))) else Nx H3)
theorem w_lc {wi : TI} {tt : TT} {te : TE} {vs : List Nat} {Q : VK} (q : wi σ H fun J H1 => ∀ D, H1 D = none → LC J g tt te vs σ D Q (upd H1 D (.lst []))) : tLc wi g tt te vs σ H Q := q
theorem LC_L {a : Addr} {xs : List V} {tt : TT} {te : TE} {vs : List Nat} {Q : VK} (h : SqL K H a xs) (q : ∀ D, H D = none → LC (Itl K a) g tt te vs σ D Q (upd H D (.lst []))) :
    ∃ a', V.ref a = .ref a' ∧ (∃ ys, SqL K H a' ys) ∧ ∀ D, H D = none → LC (Itl K a') g tt te vs σ D Q (upd H D (.lst [])) := ⟨a, rfl, ⟨xs, h⟩, q⟩
theorem LC_T {a : Addr} {xs : List V} {tt : TT} {te : TE} {vs : List Nat} {Q : VK} (h : SqT K H a xs) (q : ∀ D, H D = none → LC (Itt K a) g tt te vs σ D Q (upd H D (.lst []))) :
    ∃ a', V.ref a = .ref a' ∧ (∃ ys, SqT K H a' ys) ∧ ∀ D, H D = none → LC (Itt K a') g tt te vs σ D Q (upd H D (.lst [])) := ⟨a, rfl, ⟨xs, h⟩, q⟩
theorem LC_by {a D : Addr} {xs : List V} {tt : TT} {te : TE} {vs : List Nat} {Q : VK} (Pv : Nat → Hp → Prop) (h0 : Pv 0 (upd H D (.lst []))) (hl : ∀ i H, i ≤ xs.length → Pv i H → SqL K H a xs)
    (hs : ∀ i x H, xs[i]? = some x → Pv i H → g x (wipe σ vs) H fun σ2 H2 => wipe σ2 vs = wipe σ vs ∧ tt σ2 H2 fun k H3 =>
      if k = true then te σ2 H3 fun y H4 => ∃ acc, H4 D = some (.lst acc) ∧ acc.length < sizeLine ∧ Pv (i + 1) (upd H4 D (.lst (acc ++ [y]))) else Pv (i + 1) H3)
    (hd : ∀ H, Pv xs.length H → Q (.ref D) H) : LC (Itl K a) g tt te vs σ D Q (upd H D (.lst [])) := lc_list (xs := xs) Pv h0 hl hs hd
theorem LC_R1 {j : Int} {tt : TT} {te : TE} {vs : List Nat} {Q : VK} (n : Nat) (hn : j.toNat = n) (h1 : -(2 ^ 62) ≤ j) (h2 : j < 2 ^ 62)
    (q : ∀ D, H D = none → ∃ Pv : Nat → Hp → Prop, Pv 0 (upd H D (.lst [])) ∧ (∀ (i : Nat) H', i < n → Pv i H' → g (.int i) (wipe σ vs) H' fun σ2 H2 => wipe σ2 vs = wipe σ vs ∧ tt σ2 H2 fun k H3 =>
      if k = true then te σ2 H3 fun y H4 => ∃ acc, H4 D = some (.lst acc) ∧ acc.length < sizeLine ∧ Pv (i + 1) (upd H4 D (.lst (acc ++ [y]))) else Pv (i + 1) H3) ∧ ∀ H', Pv n H' → Q (.ref D) H') :
    ∃ j' : Int, [V.int j] = [.int j'] ∧ -(2 ^ 62) ≤ j' ∧ j' < 2 ^ 62 ∧ ∀ D, H D = none → LC (Itr 0 j'.toNat) g tt te vs σ D Q (upd H D (.lst [])) := by
  subst hn
  refine ⟨j, rfl, h1, h2, fun D hD => ?_⟩
  obtain ⟨Pv, p0, ps, pd⟩ := q D hD
  exact lc_range Pv p0 (fun i H hi p => by rw [Int.zero_add]; exact ps i H hi p) pd
theorem w_wipe {σ1 σ2 : L2.St} {vs : List Nat} {B : Prop} (h : wipe σ2 vs = wipe σ1 vs) (q : B) : wipe σ2 vs = wipe σ1 vs ∧ B := ⟨h, q⟩
theorem w_yes {Q : Bool → Hp → Prop} (q : Q true H) : tYes σ H Q := q
end
/-- a test's outcome, as a proposition -/
theorem ite_d {c : Prop} [Decidable c] {A B : Prop} (h1 : c → A) (h2 : ¬ c → B) : if decide c = true then A else B := by
  by_cases h : c
  · rw [if_pos (decide_eq_true h)]; exact h1 h
  · rw [if_neg (by rw [decide_eq_false h]; decide)]; exact h2 h
theorem ite_nd {c : Prop} [Decidable c] {A B : Prop} (h1 : ¬ c → A) (h2 : c → B) : if (!decide c) = true then A else B := by
  by_cases h : c
  · rw [if_neg (by rw [decide_eq_true h]; decide)]; exact h2 h
  · rw [if_pos (by rw [decide_eq_false h]; decide)]; exact h1 h
theorem iteNT {A B : Prop} (h : B) : if (!true) = true then A else B := h
theorem iteNF {A B : Prop} (h : A) : if (!false) = true then A else B := h
theorem ite_b {k : Bool} {A B : Prop} (h1 : k = true → A) (h2 : k = false → B) : if k = true then A else B := by
  cases k
  · exact h2 rfl
  · exact h1 rfl
/-! ### heaps -/
/-- all that was tracked, but for S, is as it was -/
def Fr (S : List Addr) (H H' : Hp) : Prop := ∀ a o, H a = some o → a ∉ S → H' a = some o
theorem Fr.refl {S : List Addr} {H : Hp} : Fr S H H := fun _ _ h _ => h
theorem Fr.trans {S : List Addr} {H H1 H2 : Hp} (a : Fr S H H1) (b : Fr S H1 H2) : Fr S H H2 := fun x o h n => b x o (a x o h n) n
theorem Fr.new {S : List Addr} {H : Hp} {p : Addr} {o : HO} (h : H p = none) : Fr S H (upd H p o) := fun a u e _ => by
  rw [upd_ne (ne_of_none e h)]
  exact e
theorem Fr.mut {S : List Addr} {H : Hp} {p : Addr} {o : HO} (h : p ∈ S) : Fr S H (upd H p o) := fun a u e n => by
  rw [upd_ne (by rintro rfl; exact n h)]
  exact e
theorem Fr.mono {S S' : List Addr} {H H' : Hp} (a : Fr S H H') (h : ∀ x ∈ S, x ∈ S') : Fr S' H H' := fun x o e n => a x o e fun z => n (h x z)
theorem Fr.free {H H' : Hp} (e : Fr [] H H') {l : Addr} (h : H' l = none) : H l = none := by
  cases q : H l with
  | none => rfl
  | some o =>
    rw [e l o q (by simp)] at h
    cases h
/-- what is new may change -/
theorem Fr.new_mut {S : List Addr} {H H' : Hp} {p : Addr} (hp : H p = none) (a : Fr (p :: S) H H') : Fr S H H' := fun x o e n => a x o e (by
  intro z
  rcases List.mem_cons.mp z with z | z
  · subst z; rw [hp] at e; cases e
  · exact n z)
theorem Fr.seqL {S : List Addr} {K : PySem.W.Frag} {H H' : Hp} {a : Addr} {xs : List V} (e : Fr S H H') (h : SqL K H a xs) (n : a ∉ S) : SqL K H' a xs := by
  rcases h with (h | ⟨o, h⟩) | h
  · exact .inl (.inl (e _ _ h n))
  · exact .inl (.inr ⟨o, e _ _ h n⟩)
  · exact .inr h
theorem Fr.seqT {S : List Addr} {K : PySem.W.Frag} {H H' : Hp} {a : Addr} {xs : List V} (e : Fr S H H') (h : SqT K H a xs) (n : a ∉ S) : SqT K H' a xs := by
  rcases h with (h | ⟨o, h⟩) | h
  · exact .inl (.inl (e _ _ h n))
  · exact .inl (.inr ⟨o, e _ _ h n⟩)
  · exact .inr h
/-- an open place of a list of ints all of which hold P -/
theorem at_all {ns : List Int} {P : Int → Prop} (hP : ∀ z ∈ ns, P z) {p : Int} (h0 : 0 ≤ p) (h : p < ns.length) : ∃ z, atI (ns.map V.int) p = some (.int z) ∧ P z := by
  have hk : p.toNat < ns.length := by omega
  have ek : p = ((p.toNat : Nat) : Int) := by omega
  have key : atI (ns.map V.int) ((p.toNat : Nat) : Int) = some (.int ns[p.toNat]) := atI_nat (by rw [List.getElem?_map, List.getElem?_eq_getElem hk] <;> rfl)
  rw [← ek] at key
  exact ⟨_, key, hP _ (List.getElem_mem hk)⟩
theorem at_str {ns : List Str} {P : Str → Prop} (hP : ∀ z ∈ ns, P z) {p : Int} (h0 : 0 ≤ p) (h : p < ns.length) : ∃ z, atI (ns.map V.str) p = some (.str z) ∧ P z := by
  have hk : p.toNat < ns.length := by omega
  have ek : p = ((p.toNat : Nat) : Int) := by omega
  have key : atI (ns.map V.str) ((p.toNat : Nat) : Int) = some (.str ns[p.toNat]) := atI_nat (by rw [List.getElem?_map, List.getElem?_eq_getElem hk] <;> rfl)
  rw [← ek] at key
  exact ⟨_, key, hP _ (List.getElem_mem hk)⟩
theorem at_int {ns : List Int} {p : Int} (h0 : 0 ≤ p) (h : p < ns.length) : ∃ z, atI (ns.map V.int) p = some (.int z) ∧ ns[p.toNat]? = some z := by
  have hk : p.toNat < ns.length := by omega
  have ek : p = ((p.toNat : Nat) : Int) := by omega
  have key : atI (ns.map V.int) ((p.toNat : Nat) : Int) = some (.int ns[p.toNat]) := atI_nat (by rw [List.getElem?_map, List.getElem?_eq_getElem hk] <;> rfl)
  rw [← ek] at key
  exact ⟨_, key, List.getElem?_eq_getElem hk⟩
end U

namespace U
open PySem PySem.Spec PyProof.Rows L2
/-! ### data of tuples all the way down: nothing changes it -/
mutual
inductive Dt (K : PySem.W.Frag) (H : Hp) : V → PyData → Prop
  | non : Dt K H .non .none
  | bl (b : Bool) : Dt K H (.bl b) (.bool b)
  | int (i : Int) : Dt K H (.int i) (.int i)
  | str (x : Str) : Dt K H (.str x) (.str x)
  | tup {p : Addr} {vs : List V} {es : List PyData} : SqT K H p vs → DtAll K H vs es → Dt K H (.ref p) (.tuple es)
inductive DtAll (K : PySem.W.Frag) (H : Hp) : List V → List PyData → Prop
  | nil : DtAll K H [] []
  | cons {v : V} {vs : List V} {e : PyData} {es : List PyData} : Dt K H v e → DtAll K H vs es → DtAll K H (v :: vs) (e :: es)
end
/-- tuples stand -/
def Tu (H H' : Hp) : Prop := ∀ a xs, (H a = some (.tup xs) → H' a = some (.tup xs)) ∧ ∀ o, H a = some (.frz o (.tup xs)) → H' a = some (.frz o (.tup xs))
theorem Tu.refl {H : Hp} : Tu H H := fun _ _ => ⟨id, fun _ => id⟩
theorem Tu.trans {H H1 H2 : Hp} (a : Tu H H1) (b : Tu H1 H2) : Tu H H2 := fun x xs => ⟨fun h => (b x xs).1 ((a x xs).1 h), fun o h => (b x xs).2 o ((a x xs).2 o h)⟩
theorem Fr.tu {H H' : Hp} (f : Fr [] H H') : Tu H H' := fun a xs => ⟨fun h => f a _ h (by simp), fun o h => f a _ h (by simp)⟩
theorem Fr.tu1 {H H' : Hp} {t : Addr} {xs : List V} (f : Fr [t] H H') (h : H t = some (.lst xs)) : Tu H H' := fun a ys =>
  ⟨fun e => f a _ e (by intro z; rw [List.mem_singleton.mp z, h] at e; cases e), fun o e => f a _ e (by intro z; rw [List.mem_singleton.mp z, h] at e; cases e)⟩
theorem Tu.mut {H : Hp} {q : Addr} {xs : List V} {o : HO} (h : H q = some (.lst xs)) : Tu H (upd H q o) := fun a ys =>
  ⟨fun e => by rw [upd_ne (by rintro rfl; rw [h] at e; cases e)]; exact e, fun o e => by rw [upd_ne (by rintro rfl; rw [h] at e; cases e)]; exact e⟩
theorem Tu.new {H : Hp} {q : Addr} {o : HO} (h : H q = none) : Tu H (upd H q o) := (Fr.new h).tu
theorem Tu.seqT {K : PySem.W.Frag} {H H' : Hp} {a : Addr} {xs : List V} (e : Tu H H') (h : SqT K H a xs) : SqT K H' a xs := by
  rcases h with (h | ⟨o, h⟩) | h
  · exact .inl (.inl ((e a xs).1 h))
  · exact .inl (.inr ⟨o, (e a xs).2 o h⟩)
  · exact .inr h
section
variable {K : PySem.W.Frag} {H H' : Hp}
mutual
theorem Dt.mono (f : Tu H H') : ∀ {v : V} {d : PyData}, Dt K H v d → Dt K H' v d
  | _, _, .non => .non
  | _, _, .bl b => .bl b
  | _, _, .int i => .int i
  | _, _, .str x => .str x
  | _, _, .tup s a => .tup (f.seqT s) (DtAll.mono f a)
theorem DtAll.mono (f : Tu H H') : ∀ {vs : List V} {ds : List PyData}, DtAll K H vs ds → DtAll K H' vs ds
  | _, _, .nil => .nil
  | _, _, .cons a b => .cons (Dt.mono f a) (DtAll.mono f b)
end
mutual
theorem Dt.dp : ∀ {v : V} {d : PyData}, Dt K H v d → Dp K H v d
  | _, _, .non => .non
  | _, _, .bl b => .bl b
  | _, _, .int i => .int i
  | _, _, .str x => .str x
  | _, _, .tup s a => .tup s (DtAll.dp a)
theorem DtAll.dp : ∀ {vs : List V} {ds : List PyData}, DtAll K H vs ds → DpAll K H vs ds
  | _, _, .nil => .nil
  | _, _, .cons a b => .cons (Dt.dp a) (DtAll.dp b)
end
theorem DtAll.length : ∀ {vs : List V} {ds : List PyData}, DtAll K H vs ds → vs.length = ds.length
  | _, _, .nil => rfl
  | _, _, .cons _ b => by rw [List.length_cons, List.length_cons, DtAll.length b]
theorem DtAll.append : ∀ {vs us : List V} {ds es : List PyData}, DtAll K H vs ds → DtAll K H us es → DtAll K H (vs ++ us) (ds ++ es)
  | _, _, _, _, .nil, h => h
  | _, _, _, _, .cons a b, h => .cons a (DtAll.append b h)
theorem DtAll.take : ∀ {vs : List V} {ds : List PyData} (n : Nat), DtAll K H vs ds → DtAll K H (vs.take n) (ds.take n)
  | _, _, 0, _ => .nil
  | _, _, _ + 1, .nil => .nil
  | _, _, n + 1, .cons a b => .cons a (DtAll.take n b)
theorem DtAll.drop : ∀ {vs : List V} {ds : List PyData} (n : Nat), DtAll K H vs ds → DtAll K H (vs.drop n) (ds.drop n)
  | _, _, 0, h => h
  | _, _, _ + 1, .nil => .nil
  | _, _, n + 1, .cons a b => DtAll.drop n b
theorem DtAll.get : ∀ {vs : List V} {ds : List PyData} {i : Nat} {v : V}, DtAll K H vs ds → vs[i]? = some v → ∃ d, ds[i]? = some d ∧ Dt K H v d
  | _, _, i, _, .nil, h => by simp at h
  | _, _, 0, v, .cons a b, h => by
    simp at h
    subst h
    exact ⟨_, rfl, a⟩
  | _, _, i + 1, v, .cons a b, h => by
    obtain ⟨d, h1, h2⟩ := DtAll.get (i := i) b (by simpa using h)
    exact ⟨d, by simpa using h1, h2⟩
theorem DtAll.get' {vs : List V} {ds : List PyData} {i : Nat} {d : PyData} (h : DtAll K H vs ds) (e : ds[i]? = some d) : ∃ v, vs[i]? = some v ∧ Dt K H v d := by
  have hi := (List.getElem?_eq_some_iff.mp e).1
  rw [← h.length] at hi
  obtain ⟨d', h1, h2⟩ := h.get (List.getElem?_eq_getElem hi)
  rw [e] at h1
  cases h1
  exact ⟨_, List.getElem?_eq_getElem hi, h2⟩
theorem Dt.tuple {v : V} {ds : List PyData} (h : Dt K H v (.tuple ds)) : ∃ p vs, v = .ref p ∧ SqT K H p vs ∧ DtAll K H vs ds := by
  cases h with
  | tup s a => exact ⟨_, _, rfl, s, a⟩
theorem Dt.of_int {v : V} {i : Int} (h : Dt K H v (.int i)) : v = .int i := by cases h; rfl
theorem Dt.of_str {v : V} {x : Str} (h : Dt K H v (.str x)) : v = .str x := by cases h; rfl
theorem Dt.of_bl {v : V} {b : Bool} (h : Dt K H v (.bool b)) : v = .bl b := by cases h; rfl
theorem Dt.of_non {v : V} (h : Dt K H v .none) : v = .non := by cases h; rfl
theorem DtAll.ints : ∀ (ns : List Int), DtAll K H (ns.map V.int) (ns.map PyData.int)
  | [] => .nil
  | n :: r => .cons (.int n) (DtAll.ints r)
end
/-! ### a list of such -/
def Lq (K : PySem.W.Frag) (H : Hp) (q : Addr) (ds : List PyData) : Prop := ∃ vs, H q = some (.lst vs) ∧ DtAll K H vs ds
section
variable {K : PySem.W.Frag} {H H' : Hp} {q : Addr} {ds : List PyData}
theorem Lq.fr {S : List Addr} (h : Lq K H q ds) (f : Fr S H H') (n : q ∉ S) (t : Tu H H') : Lq K H' q ds := by
  obtain ⟨vs, e, a⟩ := h
  exact ⟨vs, f _ _ e n, a.mono t⟩
theorem Lq.fr0 (h : Lq K H q ds) (f : Fr [] H H') : Lq K H' q ds := h.fr f (by simp) f.tu
theorem Lq.dp (h : Lq K H q ds) : Dp K H (.ref q) (.list ds) := by
  obtain ⟨vs, e, a⟩ := h
  exact .lst (SqL.of e) a.dp
theorem lay_list {n : Nat} (h : ∀ d ∈ ds, d.canLay0 = true ∧ d.depth ≤ n) : PyData.canLayAll0 ds = true ∧ PyData.depthAll ds ≤ n := by
  induction ds with
  | nil => exact ⟨by simp [PyData.canLayAll0], by simp [PyData.depthAll]⟩
  | cons d r ih =>
    have h1 := h d List.mem_cons_self
    have h2 := ih fun x hx => h x (List.mem_cons_of_mem _ hx)
    constructor
    · simp [PyData.canLayAll0, h1.1, h2.1]
    · simp only [PyData.depthAll]
      exact Nat.max_le.mpr ⟨h1.2, h2.2⟩
theorem shaped_list {n : Nat} (hn : n < 64) (h : ∀ d ∈ ds, d.canLay0 = true ∧ d.depth ≤ n) : SeqAt.shaped (.list ds) = true := by
  have k := lay_list h
  unfold SeqAt.shaped
  rw [Bool.and_eq_true]
  refine ⟨by simp only [PyData.canLay0]; exact k.1, decide_eq_true ?_⟩
  simp only [PyData.depth]
  omega
theorem shaped_tuple {n : Nat} (hn : n < 64) (h : ∀ d ∈ ds, d.canLay0 = true ∧ d.depth ≤ n) : SeqAt.shaped (.tuple ds) = true := by
  have k := lay_list h
  unfold SeqAt.shaped
  rw [Bool.and_eq_true]
  refine ⟨by simp only [PyData.canLay0]; exact k.1, decide_eq_true ?_⟩
  simp only [PyData.depth]
  omega
theorem lay_shaped {d : PyData} (h : d.canLay0 = true ∧ d.depth ≤ 64) : SeqAt.shaped d = true := by
  unfold SeqAt.shaped
  rw [Bool.and_eq_true]
  exact ⟨h.1, decide_eq_true h.2⟩
theorem shaped_refl {d : PyData} (h : SeqAt.shaped d = true) : PyData.eqv d d = true := SeqAt.eqv_refl d (SeqAt.canLay_of_shaped h)
theorem w_eqR {Q : VK} {x y : V} {d : PyData} (hx : Dp K H x d) (hy : Dp K H y d) (s : SeqAt.shaped d = true) (q : Q (.bl true) H) : rEqU K x y H Q := w_eqD hx hy s s (by rw [shaped_refl s]; exact q)
theorem w_neR {Q : VK} {x y : V} {d : PyData} (hx : Dp K H x d) (hy : Dp K H y d) (s : SeqAt.shaped d = true) (q : Q (.bl false) H) : rNeU K x y H Q := w_neD hx hy s s (by rw [shaped_refl s]; exact q)
theorem w_app {l : Addr} {xs : List V} {y : V} {Q : VK} (h : H l = some (.lst xs)) (n : xs.length ≤ 1000000) (q : Q .non (upd H l (.lst (xs ++ [y])))) : tyV K "list" (.ref l) H ∧ rAppend (.ref l) [y] H Q :=
  ⟨.inl ⟨rfl, _, SqL.of h⟩, l, xs, y, rfl, rfl, h, Nat.lt_of_le_of_lt n (by decide), q⟩
end
theorem cut_take {xs : List V} (n : Nat) : cutV xs none (some (n : Int)) = xs.take n := by
  unfold cutV
  rw [HT.sIx_none, HT.sIx_nat, List.drop_zero, Nat.sub_zero]
  by_cases h : n ≤ xs.length
  · rw [Nat.min_eq_left h]
  · rw [Nat.min_eq_right (by omega), List.take_length, List.take_of_length_le (by omega)]
theorem cut_drop {xs : List V} (n : Nat) : cutV xs (some (n : Int)) none = xs.drop n := by
  unfold cutV
  rw [HT.sIx_none, HT.sIx_nat]
  by_cases h : n ≤ xs.length
  · rw [Nat.min_eq_left h, List.take_of_length_le (by rw [List.length_drop]; omega)]
  · rw [Nat.min_eq_right (by omega), Nat.sub_self, List.take_zero, List.drop_eq_nil_of_le (by omega)]
/-- == with an empty list -/
theorem w_eqNil {Q : VK} {K : PySem.W.Frag} {H : Hp} {x e : Addr} {ds : List PyData} (hx : Dp K H (.ref x) (.list ds)) (he : H e = some (.lst [])) (s : SeqAt.shaped (.list ds) = true) (q : Q (.bl ds.isEmpty) H) : rEqU K (.ref x) (.ref e) H Q :=
  w_eqD hx (.lst (SqL.of he) .nil) s (by decide) (by
    cases ds with
    | nil => exact q
    | cons d r => exact q)
theorem w_neNil {Q : VK} {K : PySem.W.Frag} {H : Hp} {x e : Addr} {ds : List PyData} (hx : Dp K H (.ref x) (.list ds)) (he : H e = some (.lst [])) (s : SeqAt.shaped (.list ds) = true) (q : Q (.bl (!ds.isEmpty)) H) : rNeU K (.ref x) (.ref e) H Q :=
  w_neD hx (.lst (SqL.of he) .nil) s (by decide) (by
    cases ds with
    | nil => exact q
    | cons d r => exact q)
theorem take_fold {α β : Type} {f : β → α → β} {b : β} {xs : List α} {i : Nat} {x : α} (h : xs[i]? = some x) : (xs.take (i + 1)).foldl f b = f ((xs.take i).foldl f b) x := by
  rw [List.take_add_one, h, List.foldl_append]
  rfl
theorem take_map {α β : Type} {f : α → β} {xs : List α} {i : Nat} {x : α} (h : xs[i]? = some x) : (xs.take (i + 1)).map f = (xs.take i).map f ++ [f x] := by
  rw [List.take_add_one, h, List.map_append]
  rfl
theorem take_filt {α : Type} {f : α → Bool} {xs : List α} {i : Nat} {x : α} (h : xs[i]? = some x) : (xs.take (i + 1)).filter f = (xs.take i).filter f ++ (if f x then [x] else []) := by
  rw [List.take_add_one, h, List.filter_append]
  show _ ++ List.filter f [x] = _
  rw [List.filter_cons, List.filter_nil]
/-! ### any plain data (a dict: that it is one) -/
mutual
inductive Dg (K : PySem.W.Frag) (H : Hp) : V → PyData → Prop
  | non : Dg K H .non .none
  | bl (b : Bool) : Dg K H (.bl b) (.bool b)
  | int (i : Int) : Dg K H (.int i) (.int i)
  | str (x : Str) : Dg K H (.str x) (.str x)
  | tup {p : Addr} {vs : List V} {es : List PyData} : SqT K H p vs → DgAll K H vs es → Dg K H (.ref p) (.tuple es)
  | lst {p : Addr} {vs : List V} {es : List PyData} : SqL K H p vs → DgAll K H vs es → Dg K H (.ref p) (.list es)
  | dct {p : Addr} {kvs : List (Key × V)} {es : List (PyData × PyData)} : H p = some (.dK kvs) → Dg K H (.ref p) (.dict es)
inductive DgAll (K : PySem.W.Frag) (H : Hp) : List V → List PyData → Prop
  | nil : DgAll K H [] []
  | cons {v : V} {vs : List V} {e : PyData} {es : List PyData} : Dg K H v e → DgAll K H vs es → DgAll K H (v :: vs) (e :: es)
end
section
variable {K : PySem.W.Frag} {H H' : Hp}
mutual
theorem Dg.fr (f : Fr [] H H') : ∀ {v : V} {d : PyData}, Dg K H v d → Dg K H' v d
  | _, _, .non => .non
  | _, _, .bl b => .bl b
  | _, _, .int i => .int i
  | _, _, .str x => .str x
  | _, _, .tup s a => .tup (f.seqT s (by simp)) (DgAll.fr f a)
  | _, _, .lst s a => .lst (f.seqL s (by simp)) (DgAll.fr f a)
  | _, _, .dct h => .dct (f _ _ h (by simp))
theorem DgAll.fr (f : Fr [] H H') : ∀ {vs : List V} {ds : List PyData}, DgAll K H vs ds → DgAll K H' vs ds
  | _, _, .nil => .nil
  | _, _, .cons a b => .cons (Dg.fr f a) (DgAll.fr f b)
end
mutual
theorem Dt.dg : ∀ {v : V} {d : PyData}, Dt K H v d → Dg K H v d
  | _, _, .non => .non
  | _, _, .bl b => .bl b
  | _, _, .int i => .int i
  | _, _, .str x => .str x
  | _, _, .tup s a => .tup s (DtAll.dg a)
theorem DtAll.dg : ∀ {vs : List V} {ds : List PyData}, DtAll K H vs ds → DgAll K H vs ds
  | _, _, .nil => .nil
  | _, _, .cons a b => .cons (Dt.dg a) (DtAll.dg b)
end
theorem DgAll.length : ∀ {vs : List V} {ds : List PyData}, DgAll K H vs ds → vs.length = ds.length
  | _, _, .nil => rfl
  | _, _, .cons _ b => by rw [List.length_cons, List.length_cons, DgAll.length b]
theorem DgAll.get : ∀ {vs : List V} {ds : List PyData} {i : Nat} {v : V}, DgAll K H vs ds → vs[i]? = some v → ∃ d, ds[i]? = some d ∧ Dg K H v d
  | _, _, i, _, .nil, h => by simp at h
  | _, _, 0, v, .cons a b, h => by
    simp at h
    subst h
    exact ⟨_, rfl, a⟩
  | _, _, i + 1, v, .cons a b, h => by
    obtain ⟨d, h1, h2⟩ := DgAll.get (i := i) b (by simpa using h)
    exact ⟨d, by simpa using h1, h2⟩
end
theorem Lq.dg {K : PySem.W.Frag} {H : Hp} {l : Addr} {ds : List PyData} (h : Lq K H l ds) : Dg K H (.ref l) (.list ds) := by
  obtain ⟨vs, e, a⟩ := h
  exact .lst (SqL.of e) a.dg
/-! ### displays, append: what is known of them behind -/
theorem mkT {K : PySem.W.Frag} {H : Hp} {xs : List V} {ds : List PyData} {Q : VK} (d : DtAll K H xs ds) (q : ∀ p H', H p = none → Fr [] H H' → Dt K H' (.ref p) (.tuple ds) → Q (.ref p) H') (n : xs.length ≤ 1000 := by exact Nat.le_of_ble_eq_true rfl) : MkT xs Q H :=
  ⟨Nat.le_trans n (by decide), fun p hp => q p _ hp (Fr.new hp) (.tup (.inl (.inl upd_same)) (d.mono (Tu.new hp)))⟩
theorem mkL {K : PySem.W.Frag} {H : Hp} {xs : List V} {ds : List PyData} {Q : VK} (d : DtAll K H xs ds) (q : ∀ p H', H p = none → Fr [] H H' → Lq K H' p ds → Q (.ref p) H') (n : xs.length ≤ 1000 := by exact Nat.le_of_ble_eq_true rfl) : MkL xs Q H :=
  ⟨Nat.le_trans n (by decide), fun p hp => q p _ hp (Fr.new hp) ⟨xs, upd_same, d.mono (Tu.new hp)⟩⟩
/-- a list of ints, of texts -/
theorem mkI {H : Hp} {ns : List Int} {xs : List V} {Q : VK} (e : xs = ns.map V.int) (q : ∀ p H', H p = none → Fr [] H H' → H' p = some (.lst (ns.map V.int)) → Q (.ref p) H') (n : xs.length ≤ 1000 := by exact Nat.le_of_ble_eq_true rfl) : MkL xs Q H :=
  ⟨Nat.le_trans n (by decide), fun p hp => q p _ hp (Fr.new hp) (by rw [upd_same, e])⟩
theorem mkS {H : Hp} {ns : List Str} {xs : List V} {Q : VK} (e : xs = ns.map V.str) (q : ∀ p H', H p = none → Fr [] H H' → H' p = some (.lst (ns.map V.str)) → Q (.ref p) H') (n : xs.length ≤ 1000 := by exact Nat.le_of_ble_eq_true rfl) : MkL xs Q H :=
  ⟨Nat.le_trans n (by decide), fun p hp => q p _ hp (Fr.new hp) (by rw [upd_same, e])⟩
theorem Lq.ty {K : PySem.W.Frag} {H : Hp} {l : Addr} {ds : List PyData} (h : Lq K H l ds) : tyV K "list" (.ref l) H := by
  obtain ⟨vs, e, _⟩ := h
  exact .inl ⟨rfl, _, SqL.of e⟩
theorem Lq.app {K : PySem.W.Frag} {H : Hp} {l : Addr} {ds : List PyData} {y : V} {d : PyData} {Q : VK} (h : Lq K H l ds) (hy : Dt K H y d) (n : ds.length ≤ 100000) (q : ∀ H', Fr [l] H H' → Tu H H' → Lq K H' l (ds ++ [d]) → Q .non H') : rAppend (.ref l) [y] H Q := by
  obtain ⟨vs, e, a⟩ := h
  refine ⟨l, vs, y, rfl, rfl, e, Nat.lt_of_le_of_lt (show vs.length ≤ 100000 by rw [a.length]; exact n) (by decide), ?_⟩
  exact q _ (Fr.mut (by simp)) (Tu.mut e) ⟨_, upd_same, (a.append (.cons hy .nil)).mono (Tu.mut e)⟩
theorem Lq.copy {K : PySem.W.Frag} {H : Hp} {l : Addr} {ds : List PyData} {Q : VK} (h : Lq K H l ds) (q : ∀ p H', H p = none → Fr [] H H' → Lq K H' p ds → Q (.ref p) H') : rListU K [.ref l] H Q := by
  obtain ⟨vs, e, a⟩ := h
  exact w_listL (SqL.of e) fun p hp => q p _ hp (Fr.new hp) ⟨vs, upd_same, a.mono (Tu.new hp)⟩
theorem Lq.isList {K : PySem.W.Frag} {H : Hp} {l : Addr} {ds : List PyData} {Q : VK} (h : Lq K H l ds) (q : Q (.bl true) H) : rIsi K [.ref l, .ty "list"] H Q := by
  obtain ⟨vs, e, a⟩ := h
  exact isL_list (SqL.of e) q
theorem Lq.len {K : PySem.W.Frag} {H : Hp} {l : Addr} {ds : List PyData} {Q : VK} (h : Lq K H l ds) (q : Q (.int ds.length) H) : rLenU K [.ref l] H Q := by
  obtain ⟨vs, e, a⟩ := h
  rw [← a.length] at q
  exact w_lenL (SqL.of e) q
theorem DtAll.rev {K : PySem.W.Frag} {H : Hp} : ∀ {vs : List V} {ds : List PyData}, DtAll K H vs ds → DtAll K H vs.reverse ds.reverse
  | _, _, .nil => .nil
  | _, _, .cons a b => by
    rw [List.reverse_cons, List.reverse_cons]
    exact (DtAll.rev b).append (.cons a .nil)
theorem Lq.reverse {K : PySem.W.Frag} {H : Hp} {l : Addr} {ds : List PyData} {Q : VK} (h : Lq K H l ds) (q : ∀ H', Fr [l] H H' → Tu H H' → Lq K H' l ds.reverse → Q .non H') : rReverse (.ref l) [] H Q := by
  obtain ⟨vs, e, a⟩ := h
  exact ⟨l, vs, rfl, rfl, e, q _ (Fr.mut (by simp)) (Tu.mut e) ⟨_, upd_same, (a.rev).mono (Tu.mut e)⟩⟩
/-! ### slices, sums -/
def cutA {α : Type} (xs : List α) (lo hi : Option Int) : List α := (xs.drop (HT.sIx xs.length 0 lo)).take (HT.sIx xs.length xs.length hi - HT.sIx xs.length 0 lo)
theorem cutA_take {α : Type} {xs : List α} (n : Nat) : cutA xs none (some (n : Int)) = xs.take n := by
  unfold cutA
  rw [HT.sIx_none, HT.sIx_nat, List.drop_zero, Nat.sub_zero]
  by_cases h : n ≤ xs.length
  · rw [Nat.min_eq_left h]
  · rw [Nat.min_eq_right (by omega), List.take_length, List.take_of_length_le (by omega)]
theorem cutA_drop {α : Type} {xs : List α} (n : Nat) : cutA xs (some (n : Int)) none = xs.drop n := by
  unfold cutA
  rw [HT.sIx_none, HT.sIx_nat]
  by_cases h : n ≤ xs.length
  · rw [Nat.min_eq_left h, List.take_of_length_le (by rw [List.length_drop]; omega)]
  · rw [Nat.min_eq_right (by omega), Nat.sub_self, List.take_zero, List.drop_eq_nil_of_le (by omega)]
theorem cutA_mem {α : Type} {xs : List α} {lo hi : Option Int} {x : α} (h : x ∈ cutA xs lo hi) : x ∈ xs := List.mem_of_mem_drop (List.mem_of_mem_take h)
theorem cutA_map {α β : Type} {f : α → β} {xs : List α} {lo hi : Option Int} : cutA (xs.map f) lo hi = (cutA xs lo hi).map f := by
  unfold cutA
  rw [List.length_map, ← List.map_drop, ← List.map_take]
theorem cutA_len {α : Type} {xs : List α} {lo hi : Option Int} : (cutA xs lo hi).length ≤ xs.length := by
  unfold cutA
  rw [List.length_take, List.length_drop]
  omega
theorem DtAll.cut {K : PySem.W.Frag} {H : Hp} {vs : List V} {ds : List PyData} (h : DtAll K H vs ds) (lo hi : Option Int) : DtAll K H (cutV vs lo hi) (cutA ds lo hi) := by
  unfold cutV cutA
  rw [h.length]
  exact (h.drop _).take _
theorem Lq.slice {K : PySem.W.Frag} {H : Hp} {l : Addr} {ds : List PyData} {lo hi : Option Int} {Q : VK} (h : Lq K H l ds) (q : ∀ p H', H p = none → Fr [] H H' → Lq K H' p (cutA ds lo hi) → Q (.ref p) H') : rSlU K (.ref l) lo hi H Q := by
  obtain ⟨vs, e, a⟩ := h
  exact w_slL (SqL.of e) fun p hp => q p _ hp (Fr.new hp) ⟨_, upd_same, (a.cut lo hi).mono (Tu.new hp)⟩
theorem cutA_full {α : Type} {xs : List α} {lo hi : Option Int} (h : HT.sIx xs.length 0 lo = 0 ∧ HT.sIx xs.length xs.length hi = xs.length) : cutA xs lo hi = xs := by
  unfold cutA
  rw [h.1, h.2, List.drop_zero, Nat.sub_zero, List.take_length]
theorem Dt.slice {K : PySem.W.Frag} {H : Hp} {v : V} {ds : List PyData} {lo hi : Option Int} {Q : VK} (h : Dt K H v (.tuple ds)) (q : ∀ p H', Fr [] H H' → Dt K H' (.ref p) (.tuple (cutA ds lo hi)) → Q (.ref p) H') : rSlU K v lo hi H Q := by
  obtain ⟨p, vs, rfl, s, a⟩ := h.tuple
  refine .inl (.inr ⟨p, vs, rfl, s, fun z => ?_, fun _ p' hp => ?_⟩)
  · rw [a.length] at z
    refine q p H Fr.refl ?_
    rw [cutA_full z]
    exact h
  · exact q p' _ (Fr.new hp) (.tup (.inl (.inl upd_same)) ((a.cut lo hi).mono (Tu.new hp)))
theorem Dt.cat {K : PySem.W.Frag} {H : Hp} {v u : V} {ds es : List PyData} {Q : VK} (h : Dt K H v (.tuple ds)) (h' : Dt K H u (.tuple es)) (n : ds.length + es.length ≤ 1000) (q : ∀ p H', Fr [] H H' → Dt K H' (.ref p) (.tuple (ds ++ es)) → Q (.ref p) H') : rAddU K v u H Q := by
  obtain ⟨p, vs, rfl, s, a⟩ := h.tuple
  obtain ⟨p', us, rfl, s', a'⟩ := h'.tuple
  refine .inr (.inl ⟨p, p', vs, us, rfl, rfl, s, s', Nat.le_trans (show _ ≤ 1000 by rw [a.length, a'.length]; exact n) (by decide), fun z => ?_, fun _ z => ?_, fun _ _ r hr => ?_⟩)
  · subst z
    cases a
    exact q p' H Fr.refl h'
  · subst z
    cases a'
    refine q p H Fr.refl ?_
    rw [List.append_nil]
    exact h
  · exact q r _ (Fr.new hr) (.tup (.inl (.inl upd_same)) ((a.append a').mono (Tu.new hr)))
theorem Lq.cat {K : PySem.W.Frag} {H : Hp} {l m : Addr} {ds es : List PyData} {Q : VK} (h : Lq K H l ds) (h' : Lq K H m es) (n : ds.length + es.length ≤ 100000) (q : ∀ p H', H p = none → Fr [] H H' → Lq K H' p (ds ++ es) → Q (.ref p) H') : rAddU K (.ref l) (.ref m) H Q := by
  obtain ⟨vs, e, a⟩ := h
  obtain ⟨us, e', a'⟩ := h'
  exact w_addL e e' (by rw [a.length, a'.length]; omega) fun p hp => q p _ hp (Fr.new hp) ⟨_, upd_same, (a.append a').mono (Tu.new hp)⟩
theorem Lq.allB {K : PySem.W.Frag} {H : Hp} {l : Addr} {bs : List Bool} {Q : VK} (h : Lq K H l (bs.map PyData.bool)) (q : Q (.bl (bs.all id)) H) : rAll K [.ref l] H Q := by
  obtain ⟨vs, e, a⟩ := h
  have z : vs = bs.map V.bl := by
    clear e q
    induction bs generalizing vs with
    | nil => cases a; rfl
    | cons b r ih =>
      cases a with
      | cons a1 a2 => rw [a1.of_bl, ih _ a2]; rfl
  exact ⟨l, bs, rfl, SqL.of (by rw [e, z]), q⟩
theorem Lq.ints {K : PySem.W.Frag} {H : Hp} {l : Addr} {ns : List Int} (h : Lq K H l (ns.map PyData.int)) : H l = some (.lst (ns.map V.int)) := by
  obtain ⟨vs, e, a⟩ := h
  have z : vs = ns.map V.int := by
    clear e
    induction ns generalizing vs with
    | nil => cases a; rfl
    | cons b r ih =>
      cases a with
      | cons a1 a2 => rw [a1.of_int, ih _ a2]; rfl
  rw [e, z]
/-- what changed is new -/
theorem Fr.drop1 {S : List Addr} {H H1 H2 : Hp} {p : Addr} (hp : H p = none) (a : Fr S H H1) (b : Fr [p] H1 H2) : Fr S H H2 := fun x o e n => b x o (a x o e n) (by
  intro z
  rw [List.mem_singleton.mp z, hp] at e
  cases e)
/-- a comprehension with a test over a list of data: what is kept is the data's own filter -/
theorem LCF {K : PySem.W.Frag} {α : Type} {q : Addr} {H : Hp} {us : List V} {cs : List α} {dS : α → PyData} {j : Nat} {ws : List Nat} {σ : L2.St} {tt : TT} {te : TE} {Q : VK} (f : α → Bool) (g : α → PyData)
    (hq : H q = some (.lst us)) (hd : DtAll K H us (cs.map dS)) (lc : cs.length ≤ 100000) (hw : ∀ x, wipe ((wipe σ ws).set j (some x)) ws = wipe σ ws)
    (ht : ∀ c x H', c ∈ cs → Fr [] H H' → Dt K H' x (dS c) → ∀ QB : Bool → Hp → Prop, (∀ H2, Fr [] H' H2 → QB (f c) H2) → tt ((wipe σ ws).set j (some x)) H' QB)
    (he : ∀ c x H', c ∈ cs → Fr [] H H' → Dt K H' x (dS c) → f c = true → ∀ Q : VK, (∀ y H2, Fr [] H' H2 → Dt K H2 y (g c) → Q y H2) → te ((wipe σ ws).set j (some x)) H' Q)
    (k : ∀ D H', H D = none → Fr [] H H' → Lq K H' D ((cs.filter f).map g) → Q (.ref D) H') :
    ∃ a', V.ref q = .ref a' ∧ (∃ ys, SqL K H a' ys) ∧ ∀ D, H D = none → LC (Itl K a') (gName j) tt te ws σ D Q (upd H D (.lst [])) := by
  have lu : us.length = cs.length := by rw [hd.length, List.length_map]
  refine LC_L (SqL.of hq) fun D hD => LC_by (a := q) (xs := us) (fun i H' => Fr [] H H' ∧ Lq K H' D (((cs.take i).filter f).map g)) ⟨Fr.new hD, [], upd_same, .nil⟩ (fun i H' _ h => SqL.of (h.1 _ _ hq (by simp))) ?_ ?_
  · rintro i x H' hx ⟨f', ys, hys, dys⟩
    obtain ⟨d, h1, h2⟩ := (hd.mono f'.tu).get hx
    obtain ⟨c, h3, rfl⟩ := (by
      rw [List.getElem?_map] at h1
      cases e : cs[i]? with
      | none => rw [e] at h1; cases h1
      | some x => rw [e] at h1; exact ⟨x, rfl, Option.some.inj h1⟩ : ∃ c, cs[i]? = some c ∧ dS c = d)
    have mc := List.mem_of_getElem? h3
    have hi : i < us.length := (List.getElem?_eq_some_iff.mp hx).1
    have ly : ys.length ≤ i := by
      rw [dys.length, List.length_map]
      refine Nat.le_trans (List.length_filter_le _ _) ?_
      rw [List.length_take]
      omega
    refine ⟨hw x, ht c x H' mc f' h2 _ fun H2 f2 => ?_⟩
    cases hf : f c with
    | false =>
      rw [if_neg Bool.false_ne_true]
      refine ⟨f'.trans f2, ?_⟩
      rw [take_filt h3, hf]
      show Lq K H2 D ((List.filter f (cs.take i) ++ []).map g)
      rw [List.append_nil]
      exact Lq.fr0 ⟨ys, hys, dys⟩ f2
    | true =>
      rw [if_pos rfl]
      refine he c x H2 mc (f'.trans f2) (h2.mono f2.tu) hf _ fun y H3 f3 dy => ?_
      have f23 := f2.trans f3
      have e3 := f23 _ _ hys (by simp)
      refine ⟨ys, e3, Nat.lt_of_le_of_lt (show ys.length ≤ 100000 by omega) (by decide), Fr.new_mut hD ((f'.trans f23).mono (by simp) |>.trans (Fr.mut (by simp))), _, upd_same, ?_⟩
      rw [take_filt h3, hf, List.map_append]
      exact ((dys.mono f23.tu).append (.cons dy .nil)).mono (Tu.mut e3)
  · rintro H' ⟨f', L⟩
    rw [lu, List.take_length] at L
    exact k D H' hD f' L
theorem Lq.at {K : PySem.W.Frag} {H : Hp} {l : Addr} {ds : List PyData} {P : PyData → Prop} (h : Lq K H l ds) (hP : ∀ d ∈ ds, P d) {i : Int} (h0 : 0 ≤ i) (h1 : i < ds.length) {Q : VK} (q : ∀ v d, Dt K H v d → P d → ds[i.toNat]? = some d → Q v H) : rIx K (.ref l) (.int i) H Q := by
  obtain ⟨vs, e, a⟩ := h
  have ek : i = ((i.toNat : Nat) : Int) := by omega
  have hk : i.toNat < ds.length := by omega
  obtain ⟨v, hv, dv⟩ := a.get' (List.getElem?_eq_getElem hk)
  refine w_ixL (SqL.of e) ?_ (q v _ dv (hP _ (List.getElem_mem hk)) (List.getElem?_eq_getElem hk))
  rw [ek]
  exact atI_nat hv
/-- the last -/
theorem Lq.last {K : PySem.W.Frag} {H : Hp} {l : Addr} {ds : List PyData} {d : PyData} {Q : VK} (h : Lq K H l (ds ++ [d])) (q : ∀ v, Dt K H v d → Q v H) : rIx K (.ref l) (.int (-1)) H Q := by
  obtain ⟨vs, e, a⟩ := h
  have hl := a.length
  rw [List.length_append] at hl
  have hl : vs.length = ds.length + 1 := hl
  obtain ⟨v, hv, dv⟩ := a.get' (i := ds.length) (d := d) (by rw [List.getElem?_append_right (Nat.le_refl _), Nat.sub_self]; rfl)
  refine w_ixL (SqL.of e) ?_ (q v dv)
  unfold atI ixN
  rw [if_neg (by decide), if_pos (by omega)]
  show vs[((-1 : Int) + vs.length).toNat]? = some v
  rw [show ((-1 : Int) + vs.length).toNat = ds.length by omega]
  exact hv
/-- a for over such a list -/
theorem Lq.walk {K : PySem.W.Frag} {H : Hp} {l : Addr} {ds : List PyData} {σ : L2.St} {nx b c : L2.St → Hp → Prop} {rt : VK} {g : TG} {tb : TS} (h : Lq K H l ds) (Pv : Nat → L2.St → Hp → Prop) (h0 : Pv 0 σ H) (hl : ∀ i σ H', Pv i σ H' → Lq K H' l ds)
    (hs : ∀ i v d σ H', ds[i]? = some d → Dt K H' v d → Pv i σ H' → g v σ H' fun σ2 H2 => tb ⟨Pv (i + 1), rt, nx, Pv (i + 1)⟩ σ2 H2) (hd : ∀ σ H', Pv ds.length σ H' → nx σ H') :
    ∃ a', V.ref l = .ref a' ∧ (∃ ys, SqL K H a' ys) ∧ FOR (Itl K a') g tb ⟨nx, rt, b, c⟩ σ H := by
  obtain ⟨vs, e, a⟩ := id h
  refine ⟨l, rfl, ⟨vs, SqL.of e⟩, fun i m σ H => m = ds.length - i ∧ i ≤ ds.length ∧ Pv i σ H, ⟨_, rfl, Nat.zero_le _, h0⟩, ?_⟩
  rintro i m σ' H' ⟨rfl, hi, p⟩
  obtain ⟨us, eu, au⟩ := hl i σ' H' p
  by_cases hlt : i < ds.length
  · obtain ⟨v, hv, dv⟩ := au.get' (List.getElem?_eq_getElem hlt)
    refine .inr ⟨⟨us, v, SqL.of eu, hv⟩, Pv (i + 1), fun σ2 H2 p' => ⟨ds.length - (i + 1), by omega, rfl, hlt, p'⟩, fun x H2 y => ?_⟩
    obtain ⟨z, y⟩ := y
    subst z
    have ex : x = v := Option.some.inj ((y us (SqL.of eu)).symm.trans hv)
    subst ex
    exact hs i x _ σ' _ (List.getElem?_eq_getElem hlt) dv p
  · have z : i = ds.length := by omega
    subst z
    exact .inl ⟨⟨us, SqL.of eu, by rw [au.length]; exact Nat.le_refl _⟩, hd σ' H' p⟩
/-- .. backwards -/
theorem Lq.walkRev {K : PySem.W.Frag} {H : Hp} {l : Addr} {ds : List PyData} {σ : L2.St} {nx b c : L2.St → Hp → Prop} {rt : VK} {g : TG} {tb : TS} (h : Lq K H l ds) (Pv : Nat → L2.St → Hp → Prop) (h0 : Pv 0 σ H) (hl : ∀ i σ H', Pv i σ H' → Lq K H' l ds)
    (hs : ∀ i v d σ H', i < ds.length → ds[ds.length - 1 - i]? = some d → Dt K H' v d → Pv i σ H' → g v σ H' fun σ2 H2 => tb ⟨Pv (i + 1), rt, nx, Pv (i + 1)⟩ σ2 H2) (hd : ∀ σ H', Pv ds.length σ H' → nx σ H') :
    ∃ (a : Addr) (xs : List V), V.ref l = .ref a ∧ ((SqL K H a xs ∧ FOR (Itv K a xs.length) g tb ⟨nx, rt, b, c⟩ σ H) ∨ (SqT K H a xs ∧ FOR (RT.ItvT K a xs.length) g tb ⟨nx, rt, b, c⟩ σ H)) := by
  obtain ⟨vs, e, a⟩ := id h
  have lv := a.length
  refine ⟨l, vs, rfl, .inl ⟨SqL.of e, fun i m σ H => m = ds.length - i ∧ i ≤ ds.length ∧ Pv i σ H, ⟨_, rfl, Nat.zero_le _, h0⟩, ?_⟩⟩
  rintro i m σ' H' ⟨rfl, hi, p⟩
  obtain ⟨us, eu, au⟩ := hl i σ' H' p
  by_cases hlt : i < ds.length
  · have hj : ds.length - 1 - i < ds.length := by omega
    obtain ⟨v, hv, dv⟩ := au.get' (List.getElem?_eq_getElem hj)
    refine .inr ⟨⟨by omega, us, v, SqL.of eu, by rw [lv]; exact hv⟩, Pv (i + 1), fun σ2 H2 p' => ⟨ds.length - (i + 1), by omega, rfl, hlt, p'⟩, fun x H2 y => ?_⟩
    obtain ⟨z, y⟩ := y
    subst z
    have y2 := y us (SqL.of eu)
    rw [lv] at y2
    have ex : x = v := Option.some.inj (y2.symm.trans hv)
    subst ex
    exact hs i x _ σ' _ hlt (List.getElem?_eq_getElem hj) dv p
  · have z : i = ds.length := by omega
    subst z
    exact .inl ⟨by show vs.length ≤ _; omega, hd σ' H' p⟩
/-- .. with its number -/
theorem Lq.walkEnum {K : PySem.W.Frag} {H : Hp} {l : Addr} {ds : List PyData} {σ : L2.St} {nx b c : L2.St → Hp → Prop} {rt : VK} {g : TG} {tb : TS} (h : Lq K H l ds) (Pv : Nat → L2.St → Hp → Prop) (h0 : Pv 0 σ H) (hl : ∀ i σ H', Pv i σ H' → Lq K H' l ds)
    (hs : ∀ i t v d σ H' H2, ds[i]? = some d → Dt K H2 v d → Fr [] H' H2 → Pv i σ H' → SqT K H2 t [.int i, v] → g (.ref t) σ H2 fun σ2 H3 => tb ⟨Pv (i + 1), rt, nx, Pv (i + 1)⟩ σ2 H3) (hd : ∀ σ H', Pv ds.length σ H' → nx σ H') :
    ∃ a xs, [V.ref l] = [.ref a] ∧ SqL K H a xs ∧ FOR (Ite K a) g tb ⟨nx, rt, b, c⟩ σ H := by
  obtain ⟨vs, e, a⟩ := id h
  refine ⟨l, vs, rfl, SqL.of e, fun i m σ H => m = ds.length - i ∧ i ≤ ds.length ∧ Pv i σ H, ⟨_, rfl, Nat.zero_le _, h0⟩, ?_⟩
  rintro i m σ' H' ⟨rfl, hi, p⟩
  obtain ⟨us, eu, au⟩ := hl i σ' H' p
  by_cases hlt : i < ds.length
  · obtain ⟨v, hv, dv⟩ := au.get' (List.getElem?_eq_getElem hlt)
    refine .inr ⟨⟨us, v, SqL.of eu, hv⟩, Pv (i + 1), fun σ2 H2 p' => ⟨ds.length - (i + 1), by omega, rfl, hlt, p'⟩, fun x H2 y => ?_⟩
    obtain ⟨t, z, e1, ht, e2, y⟩ := y
    subst e1 e2
    have ex : z = v := Option.some.inj ((y us (SqL.of eu)).symm.trans hv)
    subst ex
    exact hs i t z _ σ' H' _ (List.getElem?_eq_getElem hlt) (dv.mono (Tu.new ht)) (Fr.new ht) p (.inl (.inl upd_same))
  · have z : i = ds.length := by omega
    subst z
    exact .inl ⟨⟨us, SqL.of eu, by rw [au.length]; exact Nat.le_refl _⟩, hd σ' H' p⟩
theorem map_get {α β : Type} {f : α → β} {xs : List α} {i : Nat} {y : β} (h : (xs.map f)[i]? = some y) : ∃ x, xs[i]? = some x ∧ f x = y := by
  rw [List.getElem?_map] at h
  cases e : xs[i]? with
  | none => rw [e] at h; cases h
  | some x => rw [e] at h; exact ⟨x, rfl, Option.some.inj h⟩
end U

namespace U
open PySem PySem.Spec PyProof.Rows L2
/-! ### texts: a sign, a part, sign by sign -/
section
variable {K : PySem.W.Frag} {H : Hp} {Q : VK} {i j : Int}
theorem w_ixS {z : Str} {c : Nat} (h : z.length ≤ sizeLine) (e : atI z.cps.toList i = some c) (q : Q (.str ⟨#[c]⟩) H) : rIx K (.str z) (.int i) H Q := .inr (.inr ⟨z, i, c, rfl, rfl, h, e, q⟩)
theorem w_inSign {c : Nat} {z : Str} (q : Q (.bl (decide (c ∈ z.cps.toList))) H) : rInU K (.str ⟨#[c]⟩) (.str z) H Q := .inr ⟨c, z, rfl, rfl, q⟩
theorem w_ninSign {c : Nat} {z : Str} (q : Q (.bl (!decide (c ∈ z.cps.toList))) H) : rNinU K (.str ⟨#[c]⟩) (.str z) H Q := .inr ⟨c, z, rfl, rfl, q⟩
theorem w_slS {z : Str} {lo hi : Option Int} (h : z.length ≤ sizeLine) (q : Q (.str (cutS z lo hi)) H) : rSlU K (.str z) lo hi H Q := .inr ⟨z, rfl, h, q⟩
def MkD (Q : VK) (H : Hp) : Prop := ∀ p, H p = none → Q (.ref p) (upd H p (.dK []))
theorem w_dnew {σ : L2.St} (q : MkD Q H) : tDNewK σ H Q := q
theorem w_iS {σ : L2.St} {te : TE} {R : It → Hp → Prop} (q : te σ H fun v H1 => ∃ x, v = .str x ∧ R (Its x) H1) : iStr te σ H R := q
theorem at_sign {z : Str} {p : Int} (h0 : 0 ≤ p) (h : p < z.length) : ∃ c, atI z.cps.toList p = some c ∧ c ∈ z.cps.toList := by
  have h1 : p.toNat < z.cps.toList.length := by
    rw [Array.length_toList]
    have : z.length = z.cps.size := rfl
    omega
  have ek : p = ((p.toNat : Nat) : Int) := by omega
  have key : atI z.cps.toList ((p.toNat : Nat) : Int) = some z.cps.toList[p.toNat] := atI_nat (List.getElem?_eq_getElem h1)
  rw [← ek] at key
  exact ⟨_, key, List.getElem_mem h1⟩
end
/-- a text of at most n signs, each of them one -/
def TxOk (n : Nat) (x : Str) : Prop := x.length ≤ n ∧ PyData.strOk x = true
theorem strOk_mem {x : Str} : PyData.strOk x = true ↔ ∀ c ∈ x.cps.toList, c < 0x110000 := by
  unfold PyData.strOk
  rw [← Array.all_toList, List.all_eq_true]
  constructor
  · intro h c hc; simpa using h c hc
  · intro h c hc; simpa using h c hc
theorem TxOk.mono {n m : Nat} {x : Str} (h : TxOk n x) (l : n ≤ m) : TxOk m x := ⟨Nat.le_trans h.1 l, h.2⟩
theorem TxOk.cat {n m : Nat} {a b : Str} (ha : TxOk n a) (hb : TxOk m b) : TxOk (n + m) (a ++ b) := by
  refine ⟨?_, strOk_mem.mpr fun c hc => ?_⟩
  · have e : (a ++ b).length = a.length + b.length := by
      show (a ++ b).cps.size = a.cps.size + b.cps.size
      rw [PySem.Str.cps_append, Array.size_append]
    have := ha.1
    have := hb.1
    omega
  · rw [PySem.Str.cps_append, Array.toList_append] at hc
    rcases List.mem_append.mp hc with h | h
    · exact strOk_mem.mp ha.2 c h
    · exact strOk_mem.mp hb.2 c h
theorem TxOk.cut {n : Nat} {a : Str} {lo hi : Option Int} (ha : TxOk n a) : TxOk n (cutS a lo hi) := by
  refine ⟨Nat.le_trans (cutS_length a lo hi) ha.1, strOk_mem.mpr fun c hc => ?_⟩
  unfold cutS at hc
  rw [List.toList_toArray] at hc
  exact strOk_mem.mp ha.2 c (List.mem_of_mem_drop (List.mem_of_mem_take hc))
theorem TxOk.sign {n : Nat} {a : Str} {c : Nat} (ha : TxOk n a) (h : c ∈ a.cps.toList) : TxOk 1 ⟨#[c]⟩ := by
  refine ⟨Nat.le_refl _, strOk_mem.mpr fun d hd => ?_⟩
  rw [List.mem_singleton.mp hd]
  exact strOk_mem.mp ha.2 c h
/-- a comprehension over a text, sign by sign -/
theorem LCS {K : PySem.W.Frag} {x : Str} {H : Hp} {j : Nat} {ws : List Nat} {σ : L2.St} {tt : TT} {te : TE} {Q : VK} (f : Nat → Bool) (g : Nat → PyData) (lx : x.length ≤ 100000)
    (hw : ∀ v, wipe ((wipe σ ws).set j (some v)) ws = wipe σ ws)
    (ht : ∀ c H', Fr [] H H' → ∀ QB : Bool → Hp → Prop, QB (f c) H' → tt ((wipe σ ws).set j (some (.str ⟨#[c]⟩))) H' QB)
    (he : ∀ c H', Fr [] H H' → f c = true → ∀ Q : VK, (∀ y, Dt K H' y (g c) → Q y H') → te ((wipe σ ws).set j (some (.str ⟨#[c]⟩))) H' Q)
    (k : ∀ D H', H D = none → Fr [] H H' → Lq K H' D ((x.cps.toList.filter f).map g) → Q (.ref D) H') :
    ∃ x', V.str x = .str x' ∧ ∀ D, H D = none → LC (Its x') (gName j) tt te ws σ D Q (upd H D (.lst [])) := by
  refine ⟨x, rfl, fun D hD => ?_⟩
  refine lc_it (walk_str (z := x)) (fun i H' => Fr [] H H' ∧ Lq K H' D (((x.cps.toList.take i).filter f).map g)) ⟨Fr.new hD, [], upd_same, .nil⟩ (fun _ _ _ _ => trivial) ?_ ?_
  · rintro i v H1 H' hi ⟨f', ys, hys, dys⟩ ⟨rfl, c, hc, rfl⟩
    have hcl : x.cps.toList[i]? = some c := by rw [Array.getElem?_toList]; exact hc
    have ly : ys.length ≤ i := by
      rw [dys.length, List.length_map]
      refine Nat.le_trans (List.length_filter_le _ _) ?_
      rw [List.length_take]
      omega
    have lz : x.cps.size ≤ 100000 := lx
    refine ⟨hw _, ht c H' f' _ ?_⟩
    cases hf : f c with
    | false =>
      rw [if_neg Bool.false_ne_true]
      refine ⟨f', ?_⟩
      rw [take_filt hcl, hf]
      show Lq K H' D ((List.filter f (x.cps.toList.take i) ++ []).map g)
      rw [List.append_nil]
      exact ⟨ys, hys, dys⟩
    | true =>
      rw [if_pos rfl]
      refine he c H' f' hf _ fun y dy => ?_
      refine ⟨ys, hys, Nat.lt_of_le_of_lt (show ys.length ≤ 100000 by omega) (by decide), Fr.new_mut hD ((f'.mono (by simp)).trans (Fr.mut (by simp))), _, upd_same, ?_⟩
      rw [take_filt hcl, hf, List.map_append]
      exact (dys.append (.cons dy .nil)).mono (Tu.mut hys)
  · rintro H' ⟨f', L⟩
    have e : List.take x.cps.size x.cps.toList = x.cps.toList := by
      rw [← Array.length_toList, List.take_length]
    rw [e] at L
    exact k D H' hD f' L
/-- a new list of any data -/
theorem mkG {K : PySem.W.Frag} {H : Hp} {xs : List V} {ds : List PyData} {Q : VK} (d : DgAll K H xs ds) (q : ∀ p H' vs, H p = none → Fr [] H H' → H' p = some (.lst vs) → DgAll K H' vs ds → Q (.ref p) H') (n : xs.length ≤ 1000 := by exact Nat.le_of_ble_eq_true rfl) : MkL xs Q H :=
  ⟨Nat.le_trans n (by decide), fun p hp => q p _ xs hp (Fr.new hp) upd_same (d.fr (Fr.new hp))⟩
theorem mkD {H : Hp} {Q : VK} (q : ∀ p H', H p = none → Fr [] H H' → H' p = some (.dK []) → Q (.ref p) H') : MkD Q H := fun p hp => q p _ hp (Fr.new hp) upd_same
end U

namespace U
open PySem PySem.Spec PyProof.Rows L2
/-! ### a for over a tuple of data, comprehensions with any target and test -/
section
variable {K : PySem.W.Frag}
theorem Dt.walk {H : Hp} {v : V} {ds : List PyData} {σ : L2.St} {nx b c : L2.St → Hp → Prop} {rt : VK} {g : TG} {tb : TS} (h : Dt K H v (.tuple ds)) (Pv : Nat → L2.St → Hp → Prop) (h0 : Pv 0 σ H) (hl : ∀ i σ H', Pv i σ H' → Tu H H')
    (hs : ∀ i u d σ H', ds[i]? = some d → Dt K H' u d → Pv i σ H' → g u σ H' fun σ2 H2 => tb ⟨Pv (i + 1), rt, nx, Pv (i + 1)⟩ σ2 H2) (hd : ∀ σ H', Pv ds.length σ H' → nx σ H') :
    ∃ a, v = .ref a ∧ (∃ xs, SqT K H a xs) ∧ FOR (Itt K a) g tb ⟨nx, rt, b, c⟩ σ H := by
  obtain ⟨a, vs, rfl, s, av⟩ := h.tuple
  have e := av.length
  refine ⟨a, rfl, ⟨vs, s⟩, for_tup (D := ⟨nx, rt, b, c⟩) (xs := vs) Pv h0 (fun i σ H' _ p => (hl i σ H' p).seqT s) (fun i x σ H' hx p => ?_) (fun σ H' p => hd σ H' (by rw [← e]; exact p))⟩
  obtain ⟨d, h1, h2⟩ := (av.mono (hl i σ H' p)).get hx
  exact hs i x d σ H' h1 h2 p
theorem LCX_L {α : Type} {q : Addr} {H : Hp} {cs : List α} {dS : α → PyData} {ws : List Nat} {σ : L2.St} {tg : TG} {tt : TT} {te : TE} {Q : VK} (f : α → Bool) (g : α → PyData)
    (h : Lq K H q (cs.map dS)) (lc : cs.length ≤ 100000)
    (hs : ∀ (c : α) (x : V) (H' : Hp) (KEEP : VK) (DROP : Hp → Prop), c ∈ cs → Fr [] H H' → Dt K H' x (dS c) → (f c = true → ∀ y H4, Fr [] H' H4 → Dt K H4 y (g c) → KEEP y H4) → (f c = false → ∀ H4, Fr [] H' H4 → DROP H4) →
      tg x (wipe σ ws) H' fun σ2 H2 => wipe σ2 ws = wipe σ ws ∧ tt σ2 H2 fun k H3 => if k = true then te σ2 H3 KEEP else DROP H3)
    (k : ∀ D H', H D = none → Fr [] H H' → Lq K H' D ((cs.filter f).map g) → Q (.ref D) H') :
    ∃ a', V.ref q = .ref a' ∧ (∃ ys, SqL K H a' ys) ∧ ∀ D, H D = none → LC (Itl K a') tg tt te ws σ D Q (upd H D (.lst [])) := by
  obtain ⟨us, hq, hd⟩ := h
  have lu : us.length = cs.length := by rw [hd.length, List.length_map]
  refine LC_L (SqL.of hq) fun D hD => LC_by (a := q) (xs := us) (fun i H' => Fr [] H H' ∧ Lq K H' D (((cs.take i).filter f).map g)) ⟨Fr.new hD, [], upd_same, .nil⟩ (fun i H' _ h => SqL.of (h.1 _ _ hq (by simp))) ?_ ?_
  · rintro i x H' hx ⟨f', ys, hys, dys⟩
    obtain ⟨d, h1, h2⟩ := (hd.mono f'.tu).get hx
    obtain ⟨c, h3, rfl⟩ := map_get h1
    have hi : i < us.length := (List.getElem?_eq_some_iff.mp hx).1
    have ly : ys.length ≤ i := by
      rw [dys.length, List.length_map]
      refine Nat.le_trans (List.length_filter_le _ _) ?_
      rw [List.length_take]
      omega
    refine hs c x H' _ _ (List.mem_of_getElem? h3) f' h2 (fun hf y H4 f4 dy => ?_) (fun hf H4 f4 => ?_)
    · have e3 := f4 _ _ hys (by simp)
      refine ⟨ys, e3, Nat.lt_of_le_of_lt (show ys.length ≤ 100000 by omega) (by decide), Fr.new_mut hD ((f'.trans f4).mono (by simp) |>.trans (Fr.mut (by simp))), _, upd_same, ?_⟩
      rw [take_filt h3, hf, List.map_append]
      exact ((dys.mono f4.tu).append (.cons dy .nil)).mono (Tu.mut e3)
    · refine ⟨f'.trans f4, ?_⟩
      rw [take_filt h3, hf]
      show Lq K H4 D ((List.filter f (cs.take i) ++ []).map g)
      rw [List.append_nil]
      exact Lq.fr0 ⟨ys, hys, dys⟩ f4
  · rintro H' ⟨f', L⟩
    rw [lu, List.take_length] at L
    exact k D H' hD f' L
theorem LCX_T {α : Type} {v : V} {H : Hp} {cs : List α} {dS : α → PyData} {ws : List Nat} {σ : L2.St} {tg : TG} {tt : TT} {te : TE} {Q : VK} (f : α → Bool) (g : α → PyData)
    (h : Dt K H v (.tuple (cs.map dS))) (lc : cs.length ≤ 100000)
    (hs : ∀ (c : α) (x : V) (H' : Hp) (KEEP : VK) (DROP : Hp → Prop), c ∈ cs → Fr [] H H' → Dt K H' x (dS c) → (f c = true → ∀ y H4, Fr [] H' H4 → Dt K H4 y (g c) → KEEP y H4) → (f c = false → ∀ H4, Fr [] H' H4 → DROP H4) →
      tg x (wipe σ ws) H' fun σ2 H2 => wipe σ2 ws = wipe σ ws ∧ tt σ2 H2 fun k H3 => if k = true then te σ2 H3 KEEP else DROP H3)
    (k : ∀ D H', H D = none → Fr [] H H' → Lq K H' D ((cs.filter f).map g) → Q (.ref D) H') :
    ∃ a', v = .ref a' ∧ (∃ ys, SqT K H a' ys) ∧ ∀ D, H D = none → LC (Itt K a') tg tt te ws σ D Q (upd H D (.lst [])) := by
  obtain ⟨q, us, rfl, hq, hd⟩ := h.tuple
  have lu : us.length = cs.length := by rw [hd.length, List.length_map]
  refine LC_T hq fun D hD => ?_
  refine lc_it (walk_tup (K := K) (a := q) (xs := us)) (fun i H' => Fr [] H H' ∧ Lq K H' D (((cs.take i).filter f).map g)) ⟨Fr.new hD, [], upd_same, .nil⟩ (fun i H' _ h => h.1.seqT hq (by simp)) ?_ ?_
  · rintro i x H0' H' hi ⟨f', ys, hys, dys⟩ ⟨rfl, hx⟩
    obtain ⟨d, h1, h2⟩ := (hd.mono f'.tu).get hx
    obtain ⟨c, h3, rfl⟩ := map_get h1
    have ly : ys.length ≤ i := by
      rw [dys.length, List.length_map]
      refine Nat.le_trans (List.length_filter_le _ _) ?_
      rw [List.length_take]
      omega
    refine hs c x _ _ _ (List.mem_of_getElem? h3) f' h2 (fun hf y H4 f4 dy => ?_) (fun hf H4 f4 => ?_)
    · have e3 := f4 _ _ hys (by simp)
      refine ⟨ys, e3, Nat.lt_of_le_of_lt (show ys.length ≤ 100000 by omega) (by decide), Fr.new_mut hD ((f'.trans f4).mono (by simp) |>.trans (Fr.mut (by simp))), _, upd_same, ?_⟩
      rw [take_filt h3, hf, List.map_append]
      exact ((dys.mono f4.tu).append (.cons dy .nil)).mono (Tu.mut e3)
    · refine ⟨f'.trans f4, ?_⟩
      rw [take_filt h3, hf]
      show Lq K H4 D ((List.filter f (cs.take i) ++ []).map g)
      rw [List.append_nil]
      exact Lq.fr0 ⟨ys, hys, dys⟩ f4
  · rintro H' ⟨f', L⟩
    rw [lu, List.take_length] at L
    exact k D H' hD f' L
/-- extend by a list of data -/
theorem Lq.extend {H : Hp} {l m : Addr} {ds es : List PyData} {Q : VK} (h : Lq K H l ds) (h' : Lq K H m es) (n : ds.length + es.length ≤ 100000) (q : ∀ H', Fr [l] H H' → Tu H H' → Lq K H' l (ds ++ es) → Q .non H') : rExtend (.ref l) [.ref m] H Q := by
  obtain ⟨vs, e, a⟩ := h
  obtain ⟨us, e', a'⟩ := h'
  refine ⟨l, m, vs, us, rfl, rfl, e, e', Nat.le_trans (show _ ≤ 100000 by rw [a.length, a'.length]; exact n) (by decide), ?_⟩
  exact q _ (Fr.mut (by simp)) (Tu.mut e) ⟨_, upd_same, (a.append a').mono (Tu.mut e)⟩
/-- tuple(list) -/
theorem Lq.tuple {H : Hp} {l : Addr} {ds : List PyData} {Q : VK} (h : Lq K H l ds) (q : ∀ p H', Fr [] H H' → Dt K H' (.ref p) (.tuple ds) → Q (.ref p) H') : rTupleU K [.ref l] H Q := by
  obtain ⟨vs, e, a⟩ := h
  exact w_tupleL (SqL.of e) fun p hp => q p _ (Fr.new hp) (.tup (.inl (.inl upd_same)) (a.mono (Tu.new hp)))
/-- a part of a tuple, the first of a list -/
theorem Dt.ix {H : Hp} {v : V} {ds : List PyData} {d : PyData} {i : Int} {Q : VK} (n : Nat) (h : Dt K H v (.tuple ds)) (e : ds[n]? = some d) (q : ∀ u, Dt K H u d → Q u H) (hi : i = (n : Int) := by rfl) : rIx K v (.int i) H Q := by
  obtain ⟨p, vs, rfl, s, a⟩ := h.tuple
  obtain ⟨u, hu, du⟩ := a.get' e
  subst hi
  exact w_ixT s (atI_nat hu) (q u du)
theorem Lq.ix {H : Hp} {l : Addr} {ds : List PyData} {d : PyData} {i : Int} {Q : VK} (n : Nat) (h : Lq K H l ds) (e : ds[n]? = some d) (q : ∀ u, Dt K H u d → Q u H) (hi : i = (n : Int) := by rfl) : rIx K (.ref l) (.int i) H Q := by
  obtain ⟨vs, s, a⟩ := h
  obtain ⟨u, hu, du⟩ := a.get' e
  subst hi
  exact w_ixL (SqL.of s) (atI_nat hu) (q u du)
theorem Lq.nin {H : Hp} {l : Addr} {x : V} {ds : List PyData} {d : PyData} {Q : VK} (h : Lq K H l ds) (hx : Dt K H x d) (sd : SeqAt.shaped d = true) (sl : SeqAt.shaped (.list ds) = true) (q : Q (.bl (!ds.any fun z => PyData.eqv z d)) H) : rNinU K x (.ref l) H Q := .inl (.inr ⟨d, ds, hx.dp, h.dp, sd, sl, q⟩)
theorem Lq.isin {H : Hp} {l : Addr} {x : V} {ds : List PyData} {d : PyData} {Q : VK} (h : Lq K H l ds) (hx : Dt K H x d) (sd : SeqAt.shaped d = true) (sl : SeqAt.shaped (.list ds) = true) (q : Q (.bl (ds.any fun z => PyData.eqv z d)) H) : rInU K x (.ref l) H Q := .inl (.inr ⟨d, ds, hx.dp, h.dp, sd, sl, q⟩)
theorem Dt.isTuple {H : Hp} {v : V} {ds : List PyData} {Q : VK} (h : Dt K H v (.tuple ds)) (q : Q (.bl true) H) : rIsi K [v, .ty "tuple"] H Q := by
  obtain ⟨p, vs, rfl, s, a⟩ := h.tuple
  exact isT_tuple s q
theorem w_iRevR {σ : L2.St} {H : Hp} {te : TE} {R : It → Hp → Prop} (q : te σ H fun x H1 => ∃ n, x = .int n ∧ (-(2 ^ 62) ≤ (0 : Int) ∧ (0 : Int) < 2 ^ 62 ∧ -(2 ^ 62) ≤ n ∧ n < 2 ^ 62 ∧ R (Itc (0 + (((n - 0).toNat : Nat) : Int) - 1) (-1) (n - 0).toNat) H1)) : iRevR (tRg1 te) σ H R := q
theorem F_RevR {σ : L2.St} {H : Hp} {nx b c : L2.St → Hp → Prop} {rt : VK} {g : TG} {tb : TS} (n : Nat) (hn : n ≤ 100000) (Pv : Nat → L2.St → Hp → Prop) (h0 : Pv 0 σ H)
    (hs : ∀ i σ H, i < n → Pv i σ H → g (.int ((n - 1 - i : Nat) : Int)) σ H fun σ2 H2 => tb ⟨Pv (i + 1), rt, nx, Pv (i + 1)⟩ σ2 H2) (hd : ∀ σ H, Pv n σ H → nx σ H) :
    -(2 ^ 62) ≤ (0 : Int) ∧ (0 : Int) < 2 ^ 62 ∧ -(2 ^ 62) ≤ (n : Int) ∧ (n : Int) < 2 ^ 62 ∧ FOR (Itc (0 + ((((n : Int) - 0).toNat : Nat) : Int) - 1) (-1) ((n : Int) - 0).toNat) g tb ⟨nx, rt, b, c⟩ σ H := by
  refine ⟨by decide, by decide, by omega, by omega, ?_⟩
  have e : ((n : Int) - 0).toNat = n := by omega
  rw [e]
  refine for_it (D := ⟨nx, rt, b, c⟩) (walk_rangeC (lo := 0 + (n : Int) - 1) (c := -1) (n := n)) Pv h0 (fun _ _ _ _ _ => trivial) (fun i x σ H H' hi p y => ?_) (fun σ H p => hd σ H p)
  obtain ⟨rfl, rfl⟩ := y
  have z := hs i σ H' hi p
  rw [show ((n - 1 - i : Nat) : Int) = 0 + (n : Int) - 1 + ((i : Nat) : Int) * -1 by omega] at z
  exact z
def rIns : V → List V → Hp → VK → Prop := fun x vs H Q => ∃ (l : Addr) (xs : List V) (i : Int) (y : V), x = .ref l ∧ vs = [.int i, y] ∧ H l = some (.lst xs) ∧ xs.length < sizeLine ∧ 0 ≤ i ∧ i < 2 ^ 63 ∧ Q .non (upd H l (.lst (xs.take i.toNat ++ [y] ++ xs.drop i.toNat)))
theorem mt_insU {X : Cx} : MtR X "list.insert" rIns := mt_insert
theorem Lq.insert {H : Hp} {l : Addr} {ds : List PyData} {i : Int} {y : V} {d : PyData} {Q : VK} (h : Lq K H l ds) (hy : Dt K H y d) (n : ds.length ≤ 100000) (h0 : 0 ≤ i) (h1 : i < 2 ^ 63) (q : ∀ H', Fr [l] H H' → Tu H H' → Lq K H' l (ds.take i.toNat ++ [d] ++ ds.drop i.toNat) → Q .non H') : rIns (.ref l) [.int i, y] H Q := by
  obtain ⟨vs, e, a⟩ := h
  refine ⟨l, vs, i, y, rfl, rfl, e, Nat.lt_of_le_of_lt (show vs.length ≤ 100000 by rw [a.length]; exact n) (by decide), h0, h1, ?_⟩
  exact q _ (Fr.mut (by simp)) (Tu.mut e) ⟨_, upd_same, (((a.take _).append (.cons hy .nil)).append (a.drop _)).mono (Tu.mut e)⟩
end
end U

set_option maxHeartbeats 4000000

namespace LW
open PySem PySem.Spec PyProof.Rows L2 U
def topS (i : Nat) : Stmt := PySem.Challenge.pw_viewwood_k61_what_is_no_ledger.main.body.getD i (.Pass ⟨0, 0, 0, 0⟩)
abbrev s_is_whole : Stmt := topS 2
abbrev N_is_whole : List Str := ["thing"]
abbrev p_is_whole : List Str := ["thing"]
theorem sc_is_whole : FnScope N_is_whole p_is_whole (defScope s_is_whole) := ⟨rfl, rfl, rfl, by decide +kernel, rfl, by decide +kernel, by decide +kernel⟩
abbrev s_is_number : Stmt := topS 3
abbrev N_is_number : List Str := ["thing"]
abbrev p_is_number : List Str := ["thing"]
theorem sc_is_number : FnScope N_is_number p_is_number (defScope s_is_number) := ⟨rfl, rfl, rfl, by decide +kernel, rfl, by decide +kernel, by decide +kernel⟩
abbrev s_cut : Stmt := topS 4
abbrev N_cut : List Str := ["number"]
abbrev p_cut : List Str := ["number"]
theorem sc_cut : FnScope N_cut p_cut (defScope s_cut) := ⟨rfl, rfl, rfl, by decide +kernel, rfl, by decide +kernel, by decide +kernel⟩
abbrev s_done_on : Stmt := topS 6
abbrev N_done_on : List Str := ["number", "change"]
abbrev p_done_on : List Str := ["number", "change"]
theorem sc_done_on : FnScope N_done_on p_done_on (defScope s_done_on) := ⟨rfl, rfl, rfl, by decide +kernel, rfl, by decide +kernel, by decide +kernel⟩
abbrev s_is_rank : Stmt := topS 10
abbrev N_is_rank : List Str := ["thing"]
abbrev p_is_rank : List Str := ["thing"]
theorem sc_is_rank : FnScope N_is_rank p_is_rank (defScope s_is_rank) := ⟨rfl, rfl, rfl, by decide +kernel, rfl, by decide +kernel, by decide +kernel⟩
abbrev s_is_come : Stmt := topS 11
abbrev N_is_come : List Str := ["thing"]
abbrev p_is_come : List Str := ["thing"]
theorem sc_is_come : FnScope N_is_come p_is_come (defScope s_is_come) := ⟨rfl, rfl, rfl, by decide +kernel, rfl, by decide +kernel, by decide +kernel⟩
abbrev s_is_laid : Stmt := topS 12
abbrev N_is_laid : List Str := ["thing"]
abbrev p_is_laid : List Str := ["thing"]
theorem sc_is_laid : FnScope N_is_laid p_is_laid (defScope s_is_laid) := ⟨rfl, rfl, rfl, by decide +kernel, rfl, by decide +kernel, by decide +kernel⟩
abbrev s_value_behind : Stmt := topS 13
abbrev N_value_behind : List Str := ["first", "rows", "greatest", "seen", "row", "value"]
abbrev p_value_behind : List Str := ["first", "rows"]
theorem sc_value_behind : FnScope N_value_behind p_value_behind (defScope s_value_behind) := ⟨rfl, rfl, rfl, by decide +kernel, rfl, by decide +kernel, by decide +kernel⟩
abbrev s_lets_ledger : Stmt := topS 14
abbrev N_lets_ledger : List Str := ["first", "thing", "k", "row"]
abbrev p_lets_ledger : List Str := ["first", "thing"]
theorem sc_lets_ledger : FnScope N_lets_ledger p_lets_ledger (defScope s_lets_ledger) := ⟨rfl, rfl, rfl, by decide +kernel, rfl, by decide +kernel, by decide +kernel⟩
abbrev s_law_tape : Stmt := topS 16
abbrev N_law_tape : List Str := ["_law_script"]
abbrev p_law_tape : List Str := ["_law_script"]
theorem sc_law_tape : FnScope N_law_tape p_law_tape (defScope s_law_tape) := ⟨rfl, rfl, rfl, by decide +kernel, rfl, by decide +kernel, by decide +kernel⟩
abbrev s_law_draw : Stmt := topS 17
abbrev N_law_draw : List Str := ["_law_tape_here", "_law_many_here", "_law_script", "_law_digit", "_law_cell", "_law_mixed"]
abbrev p_law_draw : List Str := ["_law_tape_here", "_law_many_here"]
theorem sc_law_draw : FnScope N_law_draw p_law_draw (defScope s_law_draw) := ⟨rfl, rfl, rfl, by decide +kernel, rfl, by decide +kernel, by decide +kernel⟩
abbrev s_law_number : Stmt := topS 18
abbrev N_law_number : List Str := ["_law_tape_here"]
abbrev p_law_number : List Str := ["_law_tape_here"]
theorem sc_law_number : FnScope N_law_number p_law_number (defScope s_law_number) := ⟨rfl, rfl, rfl, by decide +kernel, rfl, by decide +kernel, by decide +kernel⟩
abbrev s_law_cut : Stmt := topS 19
abbrev N_law_cut : List Str := ["_law_number_here"]
abbrev p_law_cut : List Str := ["_law_number_here"]
theorem sc_law_cut : FnScope N_law_cut p_law_cut (defScope s_law_cut) := ⟨rfl, rfl, rfl, by decide +kernel, rfl, by decide +kernel, by decide +kernel⟩
abbrev s_law_after : Stmt := topS 20
abbrev N_law_after : List Str := ["_law_number_here", "_law_word", "_law_more"]
abbrev p_law_after : List Str := ["_law_number_here", "_law_word", "_law_more"]
theorem sc_law_after : FnScope N_law_after p_law_after (defScope s_law_after) := ⟨rfl, rfl, rfl, by decide +kernel, rfl, by decide +kernel, by decide +kernel⟩
abbrev s_law_is_number : Stmt := topS 21
abbrev N_law_is_number : List Str := ["_law_thing"]
abbrev p_law_is_number : List Str := ["_law_thing"]
theorem sc_law_is_number : FnScope N_law_is_number p_law_is_number (defScope s_law_is_number) := ⟨rfl, rfl, rfl, by decide +kernel, rfl, by decide +kernel, by decide +kernel⟩
abbrev s_law_is_rank : Stmt := topS 22
abbrev N_law_is_rank : List Str := ["_law_thing"]
abbrev p_law_is_rank : List Str := ["_law_thing"]
theorem sc_law_is_rank : FnScope N_law_is_rank p_law_is_rank (defScope s_law_is_rank) := ⟨rfl, rfl, rfl, by decide +kernel, rfl, by decide +kernel, by decide +kernel⟩
abbrev s_law_is_ledger_row : Stmt := topS 23
abbrev N_law_is_ledger_row : List Str := ["_law_row"]
abbrev p_law_is_ledger_row : List Str := ["_law_row"]
theorem sc_law_is_ledger_row : FnScope N_law_is_ledger_row p_law_is_ledger_row (defScope s_law_is_ledger_row) := ⟨rfl, rfl, rfl, by decide +kernel, rfl, by decide +kernel, by decide +kernel⟩
abbrev s_law_laid : Stmt := topS 24
abbrev N_law_laid : List Str := ["_law_first", "_law_rows", "_law_value", "_law_k", "_law_most", "_law_row"]
abbrev p_law_laid : List Str := ["_law_first", "_law_rows"]
theorem sc_law_laid : FnScope N_law_laid p_law_laid (defScope s_law_laid) := ⟨rfl, rfl, rfl, by decide +kernel, rfl, by decide +kernel, by decide +kernel⟩
abbrev s_law_lets : Stmt := topS 25
abbrev N_law_lets : List Str := ["_law_first", "_law_thing", "_law_k", "_law_row"]
abbrev p_law_lets : List Str := ["_law_first", "_law_thing"]
theorem sc_law_lets : FnScope N_law_lets p_law_lets (defScope s_law_lets) := ⟨rfl, rfl, rfl, by decide +kernel, rfl, by decide +kernel, by decide +kernel⟩
abbrev s_law_come : Stmt := topS 26
abbrev N_law_come : List Str := ["_law_tape_here", "_law_word"]
abbrev p_law_come : List Str := ["_law_tape_here"]
theorem sc_law_come : FnScope N_law_come p_law_come (defScope s_law_come) := ⟨rfl, rfl, rfl, by decide +kernel, rfl, by decide +kernel, by decide +kernel⟩
abbrev s_law_many : Stmt := topS 27
abbrev N_law_many : List Str := ["_law_tape_here"]
abbrev p_law_many : List Str := ["_law_tape_here"]
theorem sc_law_many : FnScope N_law_many p_law_many (defScope s_law_many) := ⟨rfl, rfl, rfl, by decide +kernel, rfl, by decide +kernel, by decide +kernel⟩
abbrev s_law_ledger : Stmt := topS 28
abbrev N_law_ledger : List Str := ["_law_tape_here", "_law_first", "_law_rows", "_law_k", "_law_rank"]
abbrev p_law_ledger : List Str := ["_law_tape_here", "_law_first"]
theorem sc_law_ledger : FnScope N_law_ledger p_law_ledger (defScope s_law_ledger) := ⟨rfl, rfl, rfl, by decide +kernel, rfl, by decide +kernel, by decide +kernel⟩
abbrev s_law_odd : Stmt := topS 29
abbrev N_law_odd : List Str := ["_law_tape_here", "_law_thing", "_law_some"]
abbrev p_law_odd : List Str := ["_law_tape_here", "_law_thing"]
theorem sc_law_odd : FnScope N_law_odd p_law_odd (defScope s_law_odd) := ⟨rfl, rfl, rfl, by decide +kernel, rfl, by decide +kernel, by decide +kernel⟩
abbrev s_law_bent : Stmt := topS 30
abbrev N_law_bent : List Str := ["_law_tape_here", "_law_row", "_law_at", "_law_way"]
abbrev p_law_bent : List Str := ["_law_tape_here", "_law_row"]
theorem sc_law_bent : FnScope N_law_bent p_law_bent (defScope s_law_bent) := ⟨rfl, rfl, rfl, by decide +kernel, rfl, by decide +kernel, by decide +kernel⟩
abbrev s_law : Stmt := topS 31
abbrev N_law : List Str := ["_law_script", "_law_tape_here", "_law_first", "_law_ledger_here", "_law_k", "_law_at", "_law_bent_here", "_law_found", "_law_odd_here", "_law_thing", "_law_one"]
abbrev p_law : List Str := ["_law_script"]
theorem sc_law : FnScope N_law p_law (defScope s_law) := ⟨rfl, rfl, rfl, by decide +kernel, rfl, by decide +kernel, by decide +kernel⟩
/-- what the top has left -/
structure Env (K : PySem.W.Frag) (mg : Str → Option Value) : Prop where
  l_is_whole : Loc K mg "is_whole" p_is_whole s_is_whole
  l_is_number : Loc K mg "is_number" p_is_number s_is_number
  l_cut : Loc K mg "cut" p_cut s_cut
  l_done_on : Loc K mg "done_on" p_done_on s_done_on
  l_is_rank : Loc K mg "is_rank" p_is_rank s_is_rank
  l_is_come : Loc K mg "is_come" p_is_come s_is_come
  l_is_laid : Loc K mg "is_laid" p_is_laid s_is_laid
  l_value_behind : Loc K mg "value_behind" p_value_behind s_value_behind
  l_lets_ledger : Loc K mg "lets_ledger" p_lets_ledger s_lets_ledger
  l_law_tape : Loc K mg "_law_tape" p_law_tape s_law_tape
  l_law_draw : Loc K mg "_law_draw" p_law_draw s_law_draw
  l_law_number : Loc K mg "_law_number" p_law_number s_law_number
  l_law_cut : Loc K mg "_law_cut" p_law_cut s_law_cut
  l_law_after : Loc K mg "_law_after" p_law_after s_law_after
  l_law_is_number : Loc K mg "_law_is_number" p_law_is_number s_law_is_number
  l_law_is_rank : Loc K mg "_law_is_rank" p_law_is_rank s_law_is_rank
  l_law_is_ledger_row : Loc K mg "_law_is_ledger_row" p_law_is_ledger_row s_law_is_ledger_row
  l_law_laid : Loc K mg "_law_laid" p_law_laid s_law_laid
  l_law_lets : Loc K mg "_law_lets" p_law_lets s_law_lets
  l_law_come : Loc K mg "_law_come" p_law_come s_law_come
  l_law_many : Loc K mg "_law_many" p_law_many s_law_many
  l_law_ledger : Loc K mg "_law_ledger" p_law_ledger s_law_ledger
  l_law_odd : Loc K mg "_law_odd" p_law_odd s_law_odd
  l_law_bent : Loc K mg "_law_bent" p_law_bent s_law_bent
  l_law : Loc K mg "law" p_law s_law
  m_abs : mg "abs" = none
  m_all : mg "all" = none
  m_bool : mg "bool" = none
  m_enumerate : mg "enumerate" = none
  m_int : mg "int" = none
  m_isinstance : mg "isinstance" = none
  m_len : mg "len" = none
  m_list : mg "list" = none
  m_max : mg "max" = none
  m_min : mg "min" = none
  m_range : mg "range" = none
  m_reversed : mg "reversed" = none
  m_str : mg "str" = none
  m_tuple : mg "tuple" = none
  g_GREATEST : ∃ t, mg "GREATEST" = some (.int 1000000000 t)
  g_WORDS : ∃ a, mg "WORDS" = some (.ref a) ∧ KTup K a [.str "set", .str "add", .str "times"]
  g_MOST_RANK : ∃ t, mg "MOST_RANK" = some (.int 3 t)
theorem Env.pe_GREATEST {X : Cx} {pos : Pos} (T : Env X.K X.mg) (hg : Gl X "GREATEST" := by rfl) : PE X (.Name "GREATEST" pos) (tC (.int 1000000000)) := by
  obtain ⟨t, e⟩ := T.g_GREATEST
  exact pe_glob hg e ⟨_, rfl⟩ (by decide +kernel)
theorem Env.pe_WORDS {X : Cx} {pos : Pos} (T : Env X.K X.mg) (hg : Gl X "WORDS" := by rfl) : PE X (.Name "WORDS" pos) (tKT X.K [.str "set", .str "add", .str "times"]) := by
  obtain ⟨a, e, k⟩ := T.g_WORDS
  exact pe_ktup (pe_glob hg e rfl (by decide +kernel)) k
theorem Env.pe_MOST_RANK {X : Cx} {pos : Pos} (T : Env X.K X.mg) (hg : Gl X "MOST_RANK" := by rfl) : PE X (.Name "MOST_RANK" pos) (tC (.int 3)) := by
  obtain ⟨t, e⟩ := T.g_MOST_RANK
  exact pe_glob hg e ⟨_, rfl⟩ (by decide +kernel)
local macro_rules | `(tactic| walk_at "s") => `(tactic| first
  | ((with_reducible refine' w_var ?h ?q); (case h => exact rfl))
  | (with_reducible refine' w_c ?_)
  | (with_reducible refine' w_name ?_)
  | (with_reducible refine' w_op ?_)
  | (with_reducible refine' w_nil ?_)
  | (with_reducible refine' w_cons ?_)
  | (with_reducible refine' w_seq ?_)
  | (with_reducible refine' w_asg ?_)
  | (with_reducible refine' w_ret ?_)
  | (with_reducible refine' w_ifS ?_)
  | (with_reducible refine' w_call ?_)
  | (with_reducible refine' w_cb ?_)
  | (with_reducible refine' w_test ?_)
  | (with_reducible refine' w_B ?_)
  | (with_reducible refine' w_addI ?_)
  | (with_reducible refine' w_rI0 ?_)
  | (with_reducible refine' w_eqI ?_)
  | (with_reducible refine' w_eqS ?_)
  | (with_reducible refine' w_eqB ?_)
  | (with_reducible refine' w_neI ?_)
  | (with_reducible refine' w_neS ?_)
  | (with_reducible refine' w_neB ?_)
  | (with_reducible refine' w_bl ?_)
  | (with_reducible refine' w_and ?_)
  | (with_reducible refine' w_or ?_)
  | (with_reducible refine' w_not ?_)
  | (with_reducible refine' w_andV ?_)
  | (with_reducible refine' w_orV ?_)
  | (with_reducible refine' w_notV ?_)
  | (with_reducible refine' w_if ?_)
  | (with_reducible refine' w_isN ?_)
  | (with_reducible refine' w_notN ?_)
  | (with_reducible refine' w_tup ?_)
  | (with_reducible refine' w_lst ?_)
  | (with_reducible refine' w_un ?_)
  | (with_reducible refine' w_rU ?_)
  | (with_reducible refine' w_chain ?_)
  | (with_reducible refine' w_retN ?_)
  | (with_reducible refine' w_drop ?_)
  | (with_reducible refine' w_next ?_)
  | (with_reducible refine' w_sub' ?_)
  | (with_reducible refine' w_for ?_)
  | (with_reducible refine' w_sl ?_)
  | (with_reducible refine' w_part ?_)
  | (with_reducible refine' w_partI ?_)
  | (with_reducible refine' w_nopart ?_)
  | (with_reducible refine' w_bm ?_)
  | (with_reducible refine' w_bm0 ?_)
  | (with_reducible refine' w_lc ?_)
  | ((with_reducible refine' w_wipe ?h ?q); (case h => exact rfl))
  | (with_reducible refine' w_yes ?_)
  | (with_reducible refine' w_N ?_)
  | (with_reducible refine' w_gcons ?_)
  | (with_reducible refine' w_gnil ?_)
  | (with_reducible refine' w_isB ?_)
  | (with_reducible refine' w_nisB ?_)
  | (with_reducible refine' w_iRev ?_)
  | (with_reducible refine' w_iEnum ?_)
  | (with_reducible refine' w_iR1 ?_)
  | (with_reducible refine' w_max ?_)
  | (with_reducible refine' w_min ?_)
  | (with_reducible refine' w_abs ?_)
  | (with_reducible refine' w_intI ?_)
  | (with_reducible refine' w_intB ?_)
  | (with_reducible refine' w_pow9 ?_)
  | (with_reducible refine' w_pow18 ?_)
  | (with_reducible refine' w_pow6 ?_)
  | (with_reducible refine' w_pow59 ?_)
  | (with_reducible refine' w_iR2 ?_)
  | (with_reducible refine' w_iL ?_)
  | (with_reducible refine' w_iT ?_)
  | (with_reducible refine' is_non_int ?_)
  | (with_reducible refine' is_non_bool ?_)
  | (with_reducible refine' is_non_str ?_)
  | (with_reducible refine' is_non_tuple ?_)
  | (with_reducible refine' is_non_list ?_)
  | (with_reducible refine' is_non_dict ?_)
  | (with_reducible refine' is_bl_int ?_)
  | (with_reducible refine' is_bl_bool ?_)
  | (with_reducible refine' is_bl_str ?_)
  | (with_reducible refine' is_bl_tuple ?_)
  | (with_reducible refine' is_bl_list ?_)
  | (with_reducible refine' is_bl_dict ?_)
  | (with_reducible refine' is_int_int ?_)
  | (with_reducible refine' is_int_bool ?_)
  | (with_reducible refine' is_int_str ?_)
  | (with_reducible refine' is_int_tuple ?_)
  | (with_reducible refine' is_int_list ?_)
  | (with_reducible refine' is_int_dict ?_)
  | (with_reducible refine' is_str_int ?_)
  | (with_reducible refine' is_str_bool ?_)
  | (with_reducible refine' is_str_str ?_)
  | (with_reducible refine' is_str_tuple ?_)
  | (with_reducible refine' is_str_list ?_)
  | (with_reducible refine' is_str_dict ?_)
  | (with_reducible refine' w_inSign ?_)
  | (with_reducible refine' w_ninSign ?_)
  | (with_reducible refine' w_dnew ?_)
  | (with_reducible refine' w_iS ?_)
  | (with_reducible refine' w_iRevR ?_)
  | (with_reducible refine' iteT ?_)
  | (with_reducible refine' iteF ?_)
  | (with_reducible refine' iteNT ?_)
  | (with_reducible refine' iteNF ?_))
local macro_rules | `(tactic| walk_at "go") => `(tactic| repeat walk_at "s")

/-! ### the law's own draws: nothing is known of a number drawn but its bounds -/
/-- a tape: script, count, rest, place; all that stood at first stands -/
def Tape (K : PySem.W.Frag) (H0 H : Hp) (t : Addr) : Prop := (∃ (a : Addr) (ns : List Int) (n d p : Int), H t = some (.lst [.ref a, .int n, .int d, .int p]) ∧ SqL K H0 a (ns.map V.int) ∧ 0 ≤ p) ∧ Fr [] H0 H ∧ H0 t = none
section
variable {K : PySem.W.Frag} {H0 H H' : Hp} {t q : Addr}
theorem Tape.fr (T : Tape K H0 H t) (e : Fr [] H H') : Tape K H0 H' t := by
  obtain ⟨⟨a, ns, n, d, p, h1, h2, h3⟩, h4, h5⟩ := T
  exact ⟨⟨a, ns, n, d, p, e _ _ h1 (by simp), h2, h3⟩, h4.trans e, h5⟩
theorem Tape.new (T : Tape K H0 H t) {o : HO} (h : H q = none) : Tape K H0 (upd H q o) t := T.fr (Fr.new h)
theorem Tape.ne (T : Tape K H0 H t) (h : H q = none) : q ≠ t := by
  rintro rfl
  obtain ⟨⟨_, _, _, _, _, e, _⟩, _⟩ := T
  rw [h] at e
  cases e
theorem Tape.no (T : Tape K H0 H t) (h : H q = none) : H0 q = none := T.2.1.free h
/-- what is new changes -/
theorem Tape.mut (T : Tape K H0 H t) {o : HO} (nq : q ≠ t) (n0 : H0 q = none) : Tape K H0 (upd H q o) t := by
  obtain ⟨⟨a, zs, n, d, p, h1, h2, h4⟩, f, h5⟩ := T
  refine ⟨⟨a, zs, n, d, p, ?_, h2, h4⟩, fun b u e z => ?_, h5⟩
  · rw [upd_ne nq.symm]; exact h1
  · rw [upd_ne (by rintro rfl; rw [n0] at e; cases e)]
    exact f b u e z
theorem Tape.fr1 (T : Tape K H0 H t) (e : Fr [q] H H') (nq : q ≠ t) (n0 : H0 q = none) : Tape K H0 H' t := by
  obtain ⟨⟨a, zs, n, d, p, h1, h2, h4⟩, f, h5⟩ := T
  exact ⟨⟨a, zs, n, d, p, e _ _ h1 (by simpa using nq.symm), h2, h4⟩, Fr.drop1 n0 f e, h5⟩
theorem Tape.free1 (T : Tape K H0 H t) (f : Fr [t] H H') (h : H' q = none) (nq : q ≠ t) : H q = none := by
  cases e : H q with
  | none => rfl
  | some o =>
    have z := f q o e (by simpa using nq)
    rw [h] at z
    cases z
theorem Tape.tu (T : Tape K H0 H t) (f : Fr [t] H H') : Tu H H' := by
  obtain ⟨⟨a, zs, n, d, p, h1, _⟩, _⟩ := T
  exact f.tu1 h1
end
def sp_law_tape (K : PySem.W.Frag) : Sp := fun vs H Q _ => ∃ (a : Addr) (ns : List Int), vs = [.ref a] ∧ SqL K H a (ns.map V.int) ∧ ∀ t H', H t = none → Fr [] H H' → Tape K H H' t → Q (.ref t) H'
def sp_law_draw (K : PySem.W.Frag) : Sp := fun vs H Q _ => ∃ (t : Addr) (m : Int) (H0 : Hp), vs = [.ref t, .int m] ∧ Tape K H0 H t ∧ 0 < m ∧ m < 2 ^ 64 ∧ ∀ r H', 0 ≤ r → r < m → Fr [t] H H' → Tape K H0 H' t → Q (.int r) H'
section
variable {P : Program} {w : World} {K : PySem.W.Frag} {mg : Str → Option Value} {base : Heap}
theorem ok_law_tape (T : Env K mg) : Fx P w K mg base 1 "_law_tape" p_law_tape (sp_law_tape K) := by
  refine T.l_law_tape.ok sc_law_tape (fun vs H Q E h => ?_) (fun f cdv A outer s H vs Q E hr h => ?_)
  · obtain ⟨a, ns, rfl, _⟩ := h
    rfl
  · obtain ⟨a, ns, rfl, hS, k⟩ := h
    refine ⟨_, (pss_one (ps_ret (pe_lst (pa_cons (pv 0) (pa_cons pe_int (pa_cons pe_int (pa_cons pe_int pa_nil))))))), ?_⟩
    walk_at "go"
    refine ⟨by show 4 ≤ sizeLine; decide, fun t ht => ?_⟩
    exact k t _ ht (Fr.new ht) ⟨⟨a, ns, 0, 0, 0, upd_same, hS, Int.le_refl 0⟩, Fr.new ht, ht⟩
theorem ok_law_draw (T : Env K mg) : Fx P w K mg base 1 "_law_draw" p_law_draw (sp_law_draw K) := by
  refine T.l_law_draw.ok sc_law_draw (fun vs H Q E h => ?_) (fun f cdv A outer s H vs Q E hr h => ?_)
  · obtain ⟨t, m, _, rfl, _⟩ := h
    rfl
  · obtain ⟨t, m, H0, rfl, hT, m0, m64, k⟩ := h
    obtain ⟨⟨a, ns, n, d, p, ht, hS0, hp⟩, f0, n0⟩ := hT
    have hS : SqL K H a (ns.map V.int) := f0.seqL hS0 (by simp)
    have keep : ∀ H', Fr [t] H H' → Fr [] H0 H' := fun H' f b o e _ => f b o (f0 b o e (by simp)) (by
      intro z
      rw [List.mem_singleton.mp z, n0] at e
      cases e)
    refine ⟨_, (pss_cons (ps_set (i := 2) sc_law_draw.nd rfl (Or.inl rfl) (pe_ix (ix_U (K := K) rfl) (pv 0) pe_int (fun _ _ => rfl)))
      (pss_cons (ps_asg (pe_op (op_addU (K := K) rfl) (pe_ix (ix_U (K := K) rfl) (pv 0) pe_int (fun _ _ => rfl)) pe_int) (pg_sub (pv 0) pe_int set_list))
      (C8.pss_cut (ps_if (PW.pt (pw_and (pt_cmpR (op_eqU (K := K) rfl (u64 hr)) (pe_ix (ix_U (K := K) rfl) (pv 0) pe_int (fun _ _ => rfl)) pe_int (nomark _)) (pw_and1 (pt_cmpR op_lt (pe_ix (ix_U (K := K) rfl) (pv 0) pe_int (fun _ _ => rfl)) (pe_callB (call_lenU (K := K) rfl) (by rfl) T.m_len (by decide +kernel) (pa_cons (pv 2) pa_nil)) (nomark _))))) (pss_cons (ps_asg (pe_op op_fdivW (pe_callB call_absU (by rfl) T.m_abs (by decide +kernel) (pa_cons (pe_ix (ix_U (K := K) rfl) (pv 2) (pe_ix (ix_U (K := K) rfl) (pv 0) pe_int (fun _ _ => rfl)) (fun _ _ => rfl)) pa_nil)) (pe_op op_pow pe_int pe_int)) (pg_sub (pv 0) pe_int set_list))
      (pss_one (ps_asg (pe_op (op_addU (K := K) rfl) (pe_ix (ix_U (K := K) rfl) (pv 0) pe_int (fun _ _ => rfl)) pe_int) (pg_sub (pv 0) pe_int set_list)))) pss_nil)
      (pss_cons (ps_if (pt_cmpR op_gt (pe_ix (ix_U (K := K) rfl) (pv 0) pe_int (fun _ _ => rfl)) pe_int (nomark _)) (pss_cons (ps_set (i := 3) sc_law_draw.nd rfl (Or.inl rfl) (pe_op op_mod (pe_ix (ix_U (K := K) rfl) (pv 0) pe_int (fun _ _ => rfl)) (pv 1)))
      (pss_cons (ps_asg (pe_op op_fdivW (pe_ix (ix_U (K := K) rfl) (pv 0) pe_int (fun _ _ => rfl)) (pv 1)) (pg_sub (pv 0) pe_int set_list))
      (pss_one (ps_ret (pv 3))))) pss_nil)
      (pss_cons (ps_set (i := 4) sc_law_draw.nd rfl (Or.inl rfl) pe_int)
      (C8.pss_cut (ps_if (pt_cmpR op_gt (pe_callB (call_lenU (K := K) rfl) (by rfl) T.m_len (by decide +kernel) (pa_cons (pv 2) pa_nil)) pe_int (nomark _)) (pss_one (ps_set (i := 4) sc_law_draw.nd rfl (Or.inl rfl) (pe_ix (ix_U (K := K) rfl) (pv 2) (pe_op op_mod (pe_ix (ix_U (K := K) rfl) (pv 0) pe_int (fun _ _ => rfl)) (pe_callB (call_lenU (K := K) rfl) (by rfl) T.m_len (by decide +kernel) (pa_cons (pv 2) pa_nil))) (fun _ _ => rfl)))) pss_nil)
      (pss_cons (ps_set (i := 5) sc_law_draw.nd rfl (Or.inl rfl) (pe_op op_mod (pe_op (op_addU (K := K) rfl) (pe_op (op_addU (K := K) rfl) (pe_op op_mulU (pe_op op_mod (pv 4) pe_int) pe_int) (pe_op op_mulU (pe_ix (ix_U (K := K) rfl) (pv 0) pe_int (fun _ _ => rfl)) pe_int)) pe_int) pe_int))
      (pss_cons (ps_set (i := 5) sc_law_draw.nd rfl (Or.inl rfl) (pe_op op_mod (pe_op op_mulU (pv 5) (pe_op (op_addU (K := K) rfl) (pv 5) pe_int)) pe_int))
      (pss_one (ps_ret (pe_op op_mod (pe_op op_mod (pe_op op_mulU (pv 5) pe_int) pe_int) (pv 1)))))))))))), ?_⟩
    walk_at "go"
    refine w_ixL (SqL.of ht) rfl ?_
    walk_at "go"
    refine w_ixL (SqL.of ht) rfl ?_
    walk_at "go"
    refine w_setL ht rfl ?_
    generalize hH1 : upd H t _ = H1
    have f1 : Fr [t] H H1 := by rw [← hH1]; exact Fr.mut (by simp)
    have t1 : H1 t = some (.lst [.ref a, .int (n + 1), .int d, .int p]) := by rw [← hH1]; exact upd_same
    refine w_cut (fun σ' H' => σ' = [some (.ref t), some (.int m), some (.ref a), none, none, none] ∧ Fr [t] H H' ∧ ∃ d p, H' t = some (.lst [.ref a, .int (n + 1), .int d, .int p]) ∧ 0 ≤ p) ?_ ?_
    · walk_at "go"
      refine w_ixL (SqL.of t1) rfl ?_
      walk_at "go"
      have end0 : ∀ d p, 0 ≤ p → ∀ H', Fr [t] H H' → H' t = some (.lst [.ref a, .int (n + 1), .int d, .int p]) → ([some (.ref t), some (.int m), some (.ref a), none, none, none] : L2.St) = [some (.ref t), some (.int m), some (.ref a), none, none, none] ∧ Fr [t] H H' ∧ ∃ d p, H' t = some (.lst [.ref a, .int (n + 1), .int d, .int p]) ∧ 0 ≤ p :=
        fun d p hp H' f e => ⟨rfl, f, d, p, e, hp⟩
      refine ite_d (fun h0 => ?_) (fun h0 => ?_)
      · walk_at "go"
        refine w_ixL (SqL.of t1) rfl ?_
        walk_at "go"
        have hS1 : SqL K H1 a (ns.map V.int) := (keep _ f1).seqL hS0 (by simp)
        refine w_lenL hS1 ?_
        walk_at "go"
        refine ite_d (fun h1 => ?_) (fun h1 => ?_)
        · rw [List.length_map] at h1
          obtain ⟨z, hz, _⟩ := at_int hp h1
          walk_at "go"
          refine w_ixL (SqL.of t1) rfl ?_
          walk_at "go"
          refine w_ixL hS1 hz ?_
          walk_at "go"
          refine w_rI ⟨by decide, by decide +kernel⟩ ?_
          walk_at "go"
          refine w_setL t1 rfl ?_
          walk_at "go"
          refine w_ixL (SqL.of upd_same) rfl ?_
          walk_at "go"
          refine w_setL upd_same rfl ?_
          refine end0 _ (p + 1) (by omega) _ ?_ upd_same
          exact (f1.trans (Fr.mut (by simp))).trans (Fr.mut (by simp))
        · walk_at "go"
          exact end0 d p hp H1 f1 t1
      · walk_at "go"
        exact end0 d p hp H1 f1 t1
    · rintro σ' H2 ⟨rfl, f2, d, p, t2, hp⟩
      have hS2 : SqL K H2 a (ns.map V.int) := (keep _ f2).seqL hS0 (by simp)
      have fin : ∀ x, Q (.int (x % m)) H2 := fun x => k _ H2 (Int.emod_nonneg _ (by omega)) (Int.emod_lt_of_pos _ m0) f2 ⟨⟨a, ns, n + 1, d, p, t2, hS0, hp⟩, keep _ f2, n0⟩
      walk_at "go"
      refine w_ixL (SqL.of t2) rfl ?_
      walk_at "go"
      refine ite_d (fun h0 => ?_) (fun h0 => ?_)
      · walk_at "go"
        refine w_ixL (SqL.of t2) rfl ?_
        walk_at "go"
        refine w_rI m0 ?_
        walk_at "go"
        refine w_ixL (SqL.of t2) rfl ?_
        walk_at "go"
        refine w_rI (wide_div m0 (b := 64) (by omega) (by decide) (by decide)) ?_
        walk_at "go"
        refine w_setL t2 rfl ?_
        walk_at "go"
        have f3 : Fr [t] H (upd H2 t (.lst [.ref a, .int (n + 1), .int (d / m), .int p])) := f2.trans (Fr.mut (by simp))
        exact k _ _ (Int.emod_nonneg _ (by omega)) (Int.emod_lt_of_pos _ m0) f3 ⟨⟨a, ns, n + 1, d / m, p, upd_same, hS0, hp⟩, keep _ f3, n0⟩
      · walk_at "go"
        refine w_cut (fun σ' H' => H' = H2 ∧ ∃ z, σ' = [some (.ref t), some (.int m), some (.ref a), none, some (.int z), none]) ?_ ?_
        · walk_at "go"
          refine w_lenL hS2 ?_
          walk_at "go"
          refine ite_d (fun h1 => ?_) (fun h1 => ?_)
          · rw [List.length_map] at h1
            walk_at "go"
            refine w_ixL (SqL.of t2) rfl ?_
            walk_at "go"
            refine w_lenL hS2 ?_
            rw [List.length_map]
            refine w_rI h1 ?_
            obtain ⟨z, hz, _⟩ := at_int (ns := ns) (p := (n + 1) % (ns.length : Int)) (Int.emod_nonneg _ (by omega)) (Int.emod_lt_of_pos _ h1)
            refine w_ixL hS2 hz ?_
            walk_at "go"
            exact ⟨rfl, z, rfl⟩
          · walk_at "go"
            exact ⟨rfl, 0, rfl⟩
        · rintro σ' H' ⟨rfl, z, rfl⟩
          walk_at "go"
          refine w_rI (by show (0 : Int) < 2147483647; decide) ?_
          refine w_mulI (.inr (by decide)) ?_
          walk_at "go"
          refine w_ixL (SqL.of t2) rfl ?_
          walk_at "go"
          refine w_mulI (.inr (by decide)) ?_
          walk_at "go"
          refine w_rI (by show (0 : Int) < 2147483629; decide) ?_
          walk_at "go"
          have b1 : ∀ y : Int, 0 ≤ y % 2147483629 ∧ y % 2147483629 < 2147483629 := fun y => ⟨Int.emod_nonneg _ (by decide), Int.emod_lt_of_pos _ (by decide)⟩
          generalize he : (_ : Int) % 2147483629 = e
          have b2 : 0 ≤ e ∧ e < 2147483629 := by rw [← he]; exact b1 _
          refine w_mulI (.inl (by constructor <;> omega)) ?_
          walk_at "go"
          refine w_rI (by show (0 : Int) < 2147483587; decide) ?_
          walk_at "go"
          refine w_mulI (.inr (by decide)) ?_
          walk_at "go"
          refine w_rI (by show (0 : Int) < 2147483563; decide) ?_
          walk_at "go"
          refine w_rI m0 ?_
          exact fin _
end

/-! ### plain: cut, one change -/
def cutI (n : Int) : Int := if (if n < 1000000000 then n else 1000000000) > -1000000000 then (if n < 1000000000 then n else 1000000000) else -1000000000
def afterI (n : Int) (w : Str) (m : Int) : Int := if w = "set" then m else if w = "add" then cutI (n + m) else cutI (n * m)
theorem cutI_bd (n : Int) : -1000000000 ≤ cutI n ∧ cutI n ≤ 1000000000 := by
  unfold cutI
  repeat' split
  all_goals omega
theorem afterI_bd {n m : Int} {w : Str} (h : -1000000000 ≤ m ∧ m ≤ 1000000000) : -1000000000 ≤ afterI n w m ∧ afterI n w m ≤ 1000000000 := by
  unfold afterI
  split
  · exact h
  · split
    · exact cutI_bd _
    · exact cutI_bd _

/-- a change as a queue has it -/
structure Ch where
  rank : Int
  word : Str
  num : Int
  deriving DecidableEq
def Ch.d (c : Ch) : PyData := .tuple [.int c.rank, .str c.word, .int c.num]
def Ch.ok (c : Ch) : Prop := (-1000000000 ≤ c.num ∧ c.num ≤ 1000000000) ∧ PyData.strOk c.word = true
theorem Ch.lay {c : Ch} (h : c.ok) : c.d.canLay0 = true ∧ c.d.depth ≤ 1 := by
  constructor
  · simp [Ch.d, PyData.canLay0, PyData.canLayAll0, h.2]
  · simp [Ch.d, PyData.depth, PyData.depthAll]
theorem Ch.at {K : PySem.W.Frag} {H : Hp} {v : V} {c : Ch} (h : Dt K H v c.d) : ∃ p, v = .ref p ∧ SqT K H p [.int c.rank, .str c.word, .int c.num] := by
  obtain ⟨p, vs, rfl, s, a⟩ := h.tuple
  refine ⟨p, rfl, ?_⟩
  cases a with
  | cons a1 a2 =>
    cases a2 with
    | cons a2 a3 =>
      cases a3 with
      | cons a3 a4 =>
        cases a4
        cases a1.of_int
        cases a2.of_str
        cases a3.of_int
        exact s
theorem Ch.mk_at {K : PySem.W.Frag} {H : Hp} {p : Addr} (c : Ch) (h : SqT K H p [.int c.rank, .str c.word, .int c.num]) : Dt K H (.ref p) c.d := .tup h (.cons (.int _) (.cons (.str _) (.cons (.int _) .nil)))
theorem chs_shaped {cs : List Ch} (h : ∀ c ∈ cs, c.ok) : SeqAt.shaped (.list (cs.map Ch.d)) = true := shaped_list (n := 1) (by decide) fun d hd => by
  obtain ⟨c, hc, rfl⟩ := List.mem_map.mp hd
  exact Ch.lay (h c hc)
/-- the place of a change in a queue -/
theorem chs_at {K : PySem.W.Frag} {H : Hp} {vs : List V} {cs : List Ch} (a : DtAll K H vs (cs.map Ch.d)) {i : Nat} {x : V} (h : vs[i]? = some x) : ∃ c p, cs[i]? = some c ∧ x = .ref p ∧ SqT K H p [.int c.rank, .str c.word, .int c.num] := by
  obtain ⟨d, h1, h2⟩ := a.get h
  obtain ⟨c, h3, rfl⟩ := map_get h1
  obtain ⟨p, rfl, h4⟩ := Ch.at h2
  exact ⟨c, p, h3, rfl, h4⟩

/-- the value at a rank -/
def valI (b : Int) (cs : List Ch) (r : Int) : Int := cs.foldl (fun v c => if c.rank ≤ r then afterI v c.word c.num else v) b
theorem valI_take {b r : Int} {cs : List Ch} {i : Nat} {c : Ch} (h : cs[i]? = some c) : valI b (cs.take (i + 1)) r = if c.rank ≤ r then afterI (valI b (cs.take i) r) c.word c.num else valI b (cs.take i) r := take_fold h
theorem valI_all {b r : Int} {cs : List Ch} : valI b (cs.take cs.length) r = valI b cs r := by rw [List.take_length]

/-- a change behind folding by a rank -/
def seenI (r : Int) (c : Ch) : Ch := if c.rank ≤ r then ⟨0, c.word, c.num⟩ else c
def foldGo (b : Int) : List Ch → Int × List Ch
  | [] => (b, [])
  | c :: cs => if c.rank = 0 then foldGo (afterI b c.word c.num) cs else (b, c :: cs)
def foldI (b : Int) (cs : List Ch) (r : Int) : Int × List Ch := foldGo b (cs.map (seenI r))
theorem seenI_ok {r : Int} {c : Ch} (h : c.ok) : (seenI r c).ok := by
  unfold seenI
  split
  · exact h
  · exact h
theorem foldGo_ok {P : Ch → Prop} : ∀ {cs : List Ch} {b : Int}, (∀ c ∈ cs, P c) → ∀ c ∈ (foldGo b cs).2, P c
  | [], _, _ => by simp [foldGo]
  | c :: cs, b, h => by
    unfold foldGo
    split
    · exact foldGo_ok fun x hx => h x (List.mem_cons_of_mem _ hx)
    · exact h
theorem foldGo_len : ∀ {cs : List Ch} {b : Int}, (foldGo b cs).2.length ≤ cs.length
  | [], _ => Nat.le_refl _
  | c :: cs, b => by
    unfold foldGo
    split
    · exact Nat.le_trans foldGo_len (Nat.le_succ _)
    · exact Nat.le_refl _
theorem foldI_ok {b r : Int} {cs : List Ch} (h : ∀ c ∈ cs, c.ok) : ∀ c ∈ (foldI b cs r).2, c.ok := foldGo_ok fun c hc => by
  obtain ⟨x, hx, rfl⟩ := List.mem_map.mp hc
  exact seenI_ok (h x hx)
/-- one turn of the while -/
theorem foldGo_step {cs : List Ch} {i : Nat} {c : Ch} {b : Int} (h : cs[i]? = some c) (z : c.rank = 0) : foldGo b (cs.drop i) = foldGo (afterI b c.word c.num) (cs.drop (i + 1)) := by
  obtain ⟨hi, e⟩ := List.getElem?_eq_some_iff.mp h
  rw [List.drop_eq_getElem_cons hi, e]
  show (if c.rank = 0 then _ else _) = _
  rw [if_pos z]
theorem foldGo_stop {cs : List Ch} {i : Nat} {c : Ch} {b : Int} (h : cs[i]? = some c) (z : ¬ c.rank = 0) : foldGo b (cs.drop i) = (b, cs.drop i) := by
  obtain ⟨hi, e⟩ := List.getElem?_eq_some_iff.mp h
  rw [List.drop_eq_getElem_cons hi, e]
  show (if c.rank = 0 then _ else _) = _
  rw [if_neg z]
theorem foldGo_end {cs : List Ch} {i : Nat} {b : Int} (h : cs.length ≤ i) : foldGo b (cs.drop i) = (b, cs.drop i) := by
  rw [List.drop_eq_nil_of_le h]
  rfl

/-! ### folding keeps the values -/
def foldD (x : Int × List Ch) : PyData := .tuple [.int x.1, .list (x.2.map Ch.d)]
theorem foldD_shaped {x : Int × List Ch} (h : ∀ c ∈ x.2, c.ok) : SeqAt.shaped (foldD x) = true := by
  refine shaped_tuple (n := 2) (by decide) ?_
  intro d hd
  rcases List.mem_cons.mp hd with z | z
  · rw [z]; exact ⟨by simp [PyData.canLay0], by simp [PyData.depth]⟩
  · rw [List.mem_singleton.mp z]
    have := lay_list (n := 1) (ds := x.2.map Ch.d) fun d hd => by
      obtain ⟨c, hc, rfl⟩ := List.mem_map.mp hd
      exact Ch.lay (h c hc)
    exact ⟨by simp only [PyData.canLay0]; exact this.1, by simp only [PyData.depth]; omega⟩
theorem foldD_at {K : PySem.W.Frag} {H : Hp} {p l : Addr} {x : Int × List Ch} (h : H p = some (.tup [.int x.1, .ref l])) (hl : Lq K H l (x.2.map Ch.d)) : Dp K H (.ref p) (foldD x) := .tup (.inl (.inl h)) (.cons (.int _) (.cons hl.dp .nil))
theorem seenI_word (r : Int) (c : Ch) : (seenI r c).word = c.word ∧ (seenI r c).num = c.num := by unfold seenI; split <;> exact ⟨rfl, rfl⟩
theorem seenI_le {r k : Int} {c : Ch} (h0 : 0 ≤ k) : (seenI r c).rank ≤ k ↔ c.rank ≤ k ∨ c.rank ≤ r := by
  unfold seenI
  split
  · constructor
    · intro _; exact .inr ‹_›
    · intro _; exact h0
  · constructor
    · intro h; exact .inl h
    · rintro (h | h)
      · exact h
      · contradiction
theorem valI_congr {r r' : Int} {f : Ch → Ch} (hw : ∀ c, (f c).word = c.word ∧ (f c).num = c.num) : ∀ {cs : List Ch} {b : Int}, (∀ c ∈ cs, ((f c).rank ≤ r ↔ c.rank ≤ r')) → valI b (cs.map f) r = valI b cs r'
  | [], _, _ => rfl
  | c :: cs, b, h => by
    show valI (if (f c).rank ≤ r then afterI b (f c).word (f c).num else b) (cs.map f) r = valI (if c.rank ≤ r' then afterI b c.word c.num else b) cs r'
    have hc := h c List.mem_cons_self
    rw [(hw c).1, (hw c).2]
    by_cases z : c.rank ≤ r'
    · rw [if_pos z, if_pos (hc.mpr z)]
      exact valI_congr hw fun x hx => h x (List.mem_cons_of_mem _ hx)
    · rw [if_neg z, if_neg fun y => z (hc.mp y)]
      exact valI_congr hw fun x hx => h x (List.mem_cons_of_mem _ hx)
theorem valI_foldGo {r : Int} (h0 : 0 ≤ r) (L : List Ch) : ∀ (S : List Ch) (v : Int), valI (foldGo v S).1 ((foldGo v S).2 ++ L) r = valI v (S ++ L) r
  | [], v => rfl
  | c :: S, v => by
    unfold foldGo
    split
    · next z =>
      rw [valI_foldGo h0 L S]
      show _ = valI (if c.rank ≤ r then afterI v c.word c.num else v) (S ++ L) r
      rw [if_pos (by omega)]
    · rfl
theorem foldGo_twice {f : Ch → Ch} (hw : ∀ c, (f c).word = c.word ∧ (f c).num = c.num) (hz : ∀ c, c.rank = 0 → (f c).rank = 0) : ∀ (S : List Ch) (v : Int), foldGo (foldGo v S).1 ((foldGo v S).2.map f) = foldGo v (S.map f)
  | [], v => rfl
  | c :: S, v => by
    by_cases z : c.rank = 0
    · have e1 : foldGo v (c :: S) = foldGo (afterI v c.word c.num) S := by
        show (if c.rank = 0 then _ else _) = _
        rw [if_pos z]
      have e2 : foldGo v ((c :: S).map f) = foldGo (afterI v c.word c.num) (S.map f) := by
        rw [List.map_cons]
        show (if (f c).rank = 0 then foldGo (afterI v (f c).word (f c).num) (S.map f) else _) = _
        rw [if_pos (hz c z), (hw c).1, (hw c).2]
      rw [e1, e2, foldGo_twice hw hz S]
    · have e1 : foldGo v (c :: S) = (v, c :: S) := by
        show (if c.rank = 0 then _ else _) = _
        rw [if_neg z]
      rw [e1]
theorem seen_twice {r k : Int} (hr : 0 ≤ r) (hk : 0 ≤ k) (c : Ch) : seenI k (seenI r c) = seenI (if k > r then k else r) c := by
  unfold seenI
  by_cases h1 : c.rank ≤ r
  · rw [if_pos h1, if_pos (show (0 : Int) ≤ k from hk), if_pos (by split <;> omega)]
  · rw [if_neg h1]
    by_cases h2 : c.rank ≤ k
    · rw [if_pos h2, if_pos (by split <;> omega)]
    · rw [if_neg h2, if_neg (by split <;> omega)]
theorem max_swap (r k : Int) : (if k > r then k else r) = if r > k then r else k := by
  by_cases h : k > r
  · rw [if_pos h, if_neg (by omega)]
  · rw [if_neg h]
    by_cases h2 : r > k
    · rw [if_pos h2]
    · rw [if_neg h2]; omega
theorem foldI_twice {b r k : Int} {cs : List Ch} (hr : 0 ≤ r) (hk : 0 ≤ k) : foldI (foldI b cs r).1 (foldI b cs r).2 k = foldI b cs (if k > r then k else r) := by
  unfold foldI
  rw [foldGo_twice (f := seenI k) (seenI_word k) (fun c z => by unfold seenI; rw [if_pos (by omega)]), List.map_map]
  congr 1
  apply List.map_congr_left
  intro c _
  exact seen_twice hr hk c
theorem foldGo_first {P : Prop} : ∀ (S : List Ch) (v : Int) (c : Ch), (foldGo v S).2[0]? = some c → c.rank ≠ 0
  | [], v, c, h => by simp [foldGo] at h
  | d :: S, v, c, h => by
    unfold foldGo at h
    split at h
    · exact foldGo_first (P := P) S _ c h
    · next z =>
      simp at h
      subst h
      exact z
theorem foldGo_all : ∀ (S : List Ch) (v : Int), (∀ c ∈ S, c.rank = 0) → foldGo v S = (valI v S 3, [])
  | [], v, _ => rfl
  | c :: S, v, h => by
    have z := h c List.mem_cons_self
    show (if c.rank = 0 then foldGo (afterI v c.word c.num) S else (v, c :: S)) = (valI (if c.rank ≤ 3 then afterI v c.word c.num else v) S 3, [])
    rw [if_pos z, if_pos (by omega), foldGo_all S _ fun x hx => h x (List.mem_cons_of_mem _ hx)]
theorem foldI_three {b : Int} {cs : List Ch} (h : ∀ c ∈ cs, 0 ≤ c.rank ∧ c.rank ≤ 3) : foldI b cs 3 = (valI b cs 3, []) := by
  unfold foldI
  rw [foldGo_all]
  · rw [valI_congr (r := 3) (r' := 3) (f := seenI 3) (seenI_word 3)]
    intro c hc
    rw [seenI_le (by decide)]
    omega
  · intro c hc
    obtain ⟨x, hx, rfl⟩ := List.mem_map.mp hc
    unfold seenI
    rw [if_pos (h x hx).2]
theorem valI_fold {b r k : Int} {cs : List Ch} (hk : 0 ≤ k) : valI (foldI b cs r).1 (foldI b cs r).2 k = valI b cs (if r > k then r else k) := by
  have h := valI_foldGo hk [] (cs.map (seenI r)) b
  rw [List.append_nil, List.append_nil] at h
  unfold foldI
  rw [h, valI_congr (r := k) (r' := if r > k then r else k) (f := seenI r) (seenI_word r)]
  intro c _
  rw [seenI_le hk]
  split <;> omega

/-! ### ledgers -/
inductive Row where
  | come (c : Ch)
  | laid (r v : Int)
  deriving DecidableEq
def Row.d : Row → PyData
  | .come c => .tuple [.str "come", .int c.rank, .str c.word, .int c.num]
  | .laid r v => .tuple [.str "laid", .int r, .int v]
def Row.deed : Row → PyData
  | .come c => .tuple [.str "come", .int c.rank, .str c.word, .int c.num]
  | .laid r _ => .tuple [.str "lay", .int r]
def isWord (w : Str) : Prop := w = "set" ∨ w = "add" ∨ w = "times"
def Row.ok : Row → Prop
  | .come c => c.ok ∧ (1 ≤ c.rank ∧ c.rank ≤ 3) ∧ isWord c.word
  | .laid r v => (1 ≤ r ∧ r ≤ 3) ∧ -1000000000 ≤ v ∧ v ≤ 1000000000
theorem Row.lay {x : Row} (h : x.ok) : x.d.canLay0 = true ∧ x.d.depth ≤ 1 := by
  have h1 : PyData.strOk "come" = true := by decide +kernel
  have h2 : PyData.strOk "laid" = true := by decide +kernel
  cases x with
  | come c =>
    obtain ⟨⟨_, h3⟩, _⟩ := h
    constructor
    · simp [Row.d, PyData.canLay0, PyData.canLayAll0, h1, h3]
    · simp [Row.d, PyData.depth, PyData.depthAll]
  | laid r v =>
    constructor
    · simp [Row.d, PyData.canLay0, PyData.canLayAll0, h2]
    · simp [Row.d, PyData.depth, PyData.depthAll]
theorem rows_shaped {xs : List Row} (h : ∀ x ∈ xs, x.ok) : SeqAt.shaped (.list (xs.map Row.d)) = true := shaped_list (n := 1) (by decide) fun d hd => by
  obtain ⟨c, hc, rfl⟩ := List.mem_map.mp hd
  exact Row.lay (h c hc)
theorem Row.deedLay {x : Row} (h : x.ok) : x.deed.canLay0 = true ∧ x.deed.depth ≤ 1 := by
  have h1 : PyData.strOk "come" = true := by decide +kernel
  have h2 : PyData.strOk "lay" = true := by decide +kernel
  cases x with
  | come c =>
    obtain ⟨⟨_, h3⟩, _⟩ := h
    constructor
    · simp [Row.deed, PyData.canLay0, PyData.canLayAll0, h1, h3]
    · simp [Row.deed, PyData.depth, PyData.depthAll]
  | laid r v =>
    constructor
    · simp [Row.deed, PyData.canLay0, PyData.canLayAll0, h2]
    · simp [Row.deed, PyData.depth, PyData.depthAll]
theorem deeds_shaped {xs : List Row} (h : ∀ x ∈ xs, x.ok) : SeqAt.shaped (.list (xs.map Row.deed)) = true := shaped_list (n := 1) (by decide) fun d hd => by
  obtain ⟨c, hc, rfl⟩ := List.mem_map.mp hd
  exact Row.deedLay (h c hc)
section
variable {K : PySem.W.Frag} {H : Hp} {v : V}
theorem dt4 {a b c d : PyData} (h : Dt K H v (.tuple [a, b, c, d])) : ∃ p x y z u, v = .ref p ∧ SqT K H p [x, y, z, u] ∧ Dt K H x a ∧ Dt K H y b ∧ Dt K H z c ∧ Dt K H u d := by
  obtain ⟨p, vs, rfl, s, e⟩ := h.tuple
  cases e with
  | cons e1 e2 =>
    cases e2 with
    | cons e2 e3 =>
      cases e3 with
      | cons e3 e4 =>
        cases e4 with
        | cons e4 e5 =>
          cases e5
          exact ⟨p, _, _, _, _, rfl, s, e1, e2, e3, e4⟩
theorem dt3 {a b c : PyData} (h : Dt K H v (.tuple [a, b, c])) : ∃ p x y z, v = .ref p ∧ SqT K H p [x, y, z] ∧ Dt K H x a ∧ Dt K H y b ∧ Dt K H z c := by
  obtain ⟨p, vs, rfl, s, e⟩ := h.tuple
  cases e with
  | cons e1 e2 =>
    cases e2 with
    | cons e2 e3 =>
      cases e3 with
      | cons e3 e4 =>
        cases e4
        exact ⟨p, _, _, _, rfl, s, e1, e2, e3⟩
theorem dt2 {a b : PyData} (h : Dt K H v (.tuple [a, b])) : ∃ p x y, v = .ref p ∧ SqT K H p [x, y] ∧ Dt K H x a ∧ Dt K H y b := by
  obtain ⟨p, vs, rfl, s, e⟩ := h.tuple
  cases e with
  | cons e1 e2 =>
    cases e2 with
    | cons e2 e3 =>
      cases e3
      exact ⟨p, _, _, rfl, s, e1, e2⟩
theorem Row.at_come {c : Ch} (h : Dt K H v (Row.come c).d) : ∃ p, v = .ref p ∧ SqT K H p [.str "come", .int c.rank, .str c.word, .int c.num] := by
  obtain ⟨p, x, y, z, u, rfl, s, a, b, c, d⟩ := dt4 h
  cases a.of_str
  cases b.of_int
  cases c.of_str
  cases d.of_int
  exact ⟨p, rfl, s⟩
theorem Row.at_laid {r n : Int} (h : Dt K H v (Row.laid r n).d) : ∃ p, v = .ref p ∧ SqT K H p [.str "laid", .int r, .int n] := by
  obtain ⟨p, x, y, z, rfl, s, a, b, c⟩ := dt3 h
  cases a.of_str
  cases b.of_int
  cases c.of_int
  exact ⟨p, rfl, s⟩
theorem Row.at_lay {r n : Int} (h : Dt K H v (Row.laid r n).deed) : ∃ p, v = .ref p ∧ SqT K H p [.str "lay", .int r] := by
  obtain ⟨p, x, y, rfl, s, a, b⟩ := dt2 h
  cases a.of_str
  cases b.of_int
  exact ⟨p, rfl, s⟩
end
/-- the greatest rank laid -/
def grt : List Row → Int
  | [] => 0
  | .come _ :: xs => grt xs
  | .laid r _ :: xs => if r > grt xs then r else grt xs
theorem grt_nonneg : ∀ xs : List Row, 0 ≤ grt xs
  | [] => Int.le_refl 0
  | .come _ :: xs => grt_nonneg xs
  | .laid r _ :: xs => by
    have := grt_nonneg xs
    unfold grt
    split <;> omega
/-- the value behind rows -/
def valS : Int → List Row → Int
  | b, [] => b
  | b, .come c :: xs => valS (if c.rank ≤ grt xs then afterI b c.word c.num else b) xs
  | b, .laid _ _ :: xs => valS b xs
/-- .. seen from a rank laid behind -/
def valG (k : Int) : Int → List Row → Int
  | b, [] => b
  | b, .come c :: xs => valG k (if c.rank ≤ k ∨ c.rank ≤ grt xs then afterI b c.word c.num else b) xs
  | b, .laid _ _ :: xs => valG k b xs
theorem grt_laid (r v : Int) (h : 0 ≤ r) : ∀ xs : List Row, grt (xs ++ [.laid r v]) = if r > grt xs then r else grt xs
  | [] => by
    show (if r > 0 then r else 0) = if r > 0 then r else 0
    rfl
  | .come _ :: xs => grt_laid r v h xs
  | .laid q _ :: xs => by
    show (if q > grt (xs ++ [.laid r v]) then q else grt (xs ++ [.laid r v])) = if r > (if q > grt xs then q else grt xs) then r else (if q > grt xs then q else grt xs)
    rw [grt_laid r v h xs]
    repeat' split
    all_goals omega
theorem grt_come (c : Ch) : ∀ xs : List Row, grt (xs ++ [.come c]) = grt xs
  | [] => rfl
  | .come _ :: xs => grt_come c xs
  | .laid q _ :: xs => by
    show (if q > grt (xs ++ [.come c]) then q else grt (xs ++ [.come c])) = if q > grt xs then q else grt xs
    rw [grt_come c xs]
theorem ite_same {α : Type} {p q : Prop} [Decidable p] [Decidable q] (h : p ↔ q) (a b : α) : (if p then a else b) = if q then a else b := by
  by_cases z : p
  · rw [if_pos z, if_pos (h.mp z)]
  · rw [if_neg z, if_neg fun y => z (h.mpr y)]
theorem valS_laid (r v : Int) (h : 0 ≤ r) : ∀ (xs : List Row) (b : Int), valS b (xs ++ [.laid r v]) = valG r b xs
  | [], b => rfl
  | .come c :: xs, b => by
    show valS (if c.rank ≤ grt (xs ++ [.laid r v]) then afterI b c.word c.num else b) (xs ++ [.laid r v]) = valG r (if c.rank ≤ r ∨ c.rank ≤ grt xs then afterI b c.word c.num else b) xs
    rw [valS_laid r v h xs, grt_laid r v h xs]
    congr 1
    apply ite_same
    split <;> omega
  | .laid _ _ :: xs, b => valS_laid r v h xs b
def effStep (q : List Ch) : Row → List Ch
  | .come c => q ++ [c]
  | .laid r _ => q.map (seenI r)
/-- the changes with the ranks that they have behind rows -/
def eff (xs : List Row) : List Ch := xs.foldl effStep []
theorem valG_come (k : Int) (h : 0 ≤ k) (c : Ch) : ∀ (xs : List Row) (b : Int), valG k b (xs ++ [.come c]) = if c.rank ≤ k then afterI (valG k b xs) c.word c.num else valG k b xs
  | [], b => by
    show (if c.rank ≤ k ∨ c.rank ≤ 0 then afterI b c.word c.num else b) = _
    exact ite_same (by omega) _ _
  | .come e :: xs, b => by
    show valG k (if e.rank ≤ k ∨ e.rank ≤ grt (xs ++ [.come c]) then _ else b) (xs ++ [.come c]) = _
    rw [valG_come k h c xs, grt_come]
    rfl
  | .laid _ _ :: xs, b => valG_come k h c xs b
theorem valG_laid (k r v : Int) (h : 0 ≤ k) (hr : 0 ≤ r) : ∀ (xs : List Row) (b : Int), valG k b (xs ++ [.laid r v]) = valG (if r > k then r else k) b xs
  | [], b => rfl
  | .come e :: xs, b => by
    show valG k (if e.rank ≤ k ∨ e.rank ≤ grt (xs ++ [.laid r v]) then afterI b e.word e.num else b) (xs ++ [.laid r v]) = valG (if r > k then r else k) (if e.rank ≤ (if r > k then r else k) ∨ e.rank ≤ grt xs then afterI b e.word e.num else b) xs
    rw [valG_laid k r v h hr xs, grt_laid r v hr]
    congr 1
    apply ite_same
    repeat' split
    all_goals omega
  | .laid _ _ :: xs, b => valG_laid k r v h hr xs b
theorem eff_valG (b : Int) : ∀ (n : Nat) (xs : List Row) (k : Int), xs.length = n → 0 ≤ k → (∀ x ∈ xs, x.ok) → valI b (eff xs) k = valG k b xs
  | 0, xs, k, hl, _, _ => by
    rw [List.length_eq_zero_iff.mp hl]
    rfl
  | n + 1, xs, k, hl, hk, ok => by
    have ne : xs ≠ [] := by
      intro z
      rw [z] at hl
      cases hl
    have e : xs = xs.dropLast ++ [xs.getLast ne] := (List.dropLast_concat_getLast ne).symm
    generalize xs.dropLast = ys at e
    generalize xs.getLast ne = y at e
    subst e
    have hy : ys.length = n := by
      rw [List.length_append] at hl
      exact Nat.succ.inj hl
    have oky : ∀ x ∈ ys, x.ok := fun x hx => ok x (List.mem_append_left _ hx)
    have okl := ok y (List.mem_append_right _ List.mem_cons_self)
    cases y with
    | come c =>
      rw [valG_come k hk c, ← eff_valG b n ys k hy hk oky]
      have e : eff (ys ++ [.come c]) = eff ys ++ [c] := by unfold eff; rw [List.foldl_append]; rfl
      rw [e]
      unfold valI
      rw [List.foldl_append]
      rfl
    | laid r v =>
      have hr : 0 ≤ r := by have := okl.1.1; omega
      rw [valG_laid k r v hk hr]
      have e : eff (ys ++ [.laid r v]) = (eff ys).map (seenI r) := by unfold eff; rw [List.foldl_append]; rfl
      rw [e, valI_congr (r := k) (r' := if r > k then r else k) (f := seenI r) (seenI_word r)]
      · exact eff_valG b n ys _ hy (by split <;> omega) oky
      · intro c _
        rw [seenI_le hk]
        split <;> omega
theorem valS_eff {first r v : Int} {xs : List Row} (hr : 0 ≤ r) (ok : ∀ x ∈ xs, x.ok) : valS first (xs ++ [.laid r v]) = valI first (eff xs) r := by
  rw [valS_laid r v hr, eff_valG first _ xs r rfl hr ok]
theorem valS_bd : ∀ (xs : List Row) (b : Int), (-1000000000 ≤ b ∧ b ≤ 1000000000) → (∀ x ∈ xs, x.ok) → -1000000000 ≤ valS b xs ∧ valS b xs ≤ 1000000000
  | [], b, h, _ => h
  | .come c :: xs, b, h, ok => by
    refine valS_bd xs _ ?_ fun x hx => ok x (List.mem_cons_of_mem _ hx)
    split
    · exact afterI_bd (ok _ List.mem_cons_self).1.1
    · exact h
  | .laid _ _ :: xs, b, h, ok => valS_bd xs b h fun x hx => ok x (List.mem_cons_of_mem _ hx)
/-- each laid tells the value there -/
def Right (first : Int) (xs : List Row) : Prop := ∀ (i : Nat) r v, xs[i]? = some (.laid r v) → v = valS first (xs.take i ++ [.laid r 0])
theorem valS_any {first r v u : Int} (hr : 0 ≤ r) (xs : List Row) : valS first (xs ++ [.laid r v]) = valS first (xs ++ [.laid r u]) := by
  rw [valS_laid r v hr, valS_laid r u hr]
theorem Right.nil {first : Int} : Right first [] := fun i r v h => by simp at h
theorem Right.snoc {first : Int} {xs : List Row} {x : Row} (h : Right first xs) (hx : ∀ r v, x = .laid r v → v = valS first (xs ++ [.laid r 0])) : Right first (xs ++ [x]) := by
  intro i r v e
  by_cases hi : i < xs.length
  · rw [List.getElem?_append_left hi] at e
    rw [List.take_append_of_le_length (by omega)]
    exact h i r v e
  · by_cases hi2 : i = xs.length
    · subst hi2
      rw [List.getElem?_append_right (Nat.le_refl _), Nat.sub_self] at e
      rw [List.take_left]
      exact hx r v (Option.some.inj e)
    · rw [List.getElem?_eq_none (by rw [List.length_append]; show xs.length + 1 ≤ i; omega)] at e
      cases e

section
variable {P : Program} {w : World} {K : PySem.W.Frag} {mg : Str → Option Value} {base : Heap}
/-- a small number, or one of six -/
def sp_law_number (K : PySem.W.Frag) : Sp := fun vs H Q _ => ∃ (t : Addr) (H0 : Hp), vs = [.ref t] ∧ Tape K H0 H t ∧ ∀ r H', -1000000000 ≤ r ∧ r ≤ 1000000000 → Fr [t] H H' → Tape K H0 H' t → Q (.int r) H'
theorem ok_law_number (T : Env K mg) : Fx P w K mg base 2 "_law_number" p_law_number (sp_law_number K) := by
  refine T.l_law_number.ok sc_law_number (fun vs H Q E h => ?_) (fun f cdv A outer s H vs Q E hr h => ?_)
  · obtain ⟨t, _, rfl, _⟩ := h
    rfl
  · obtain ⟨t, H0, rfl, hT, k⟩ := h
    refine ⟨_, (pss_cons (ps_if (pt_cmpR op_gt (pe_fx (ok_law_draw T) hr (by decide) (pa_cons (pv 0) (pa_cons pe_int pa_nil))) pe_int (nomark _)) (pss_one (ps_ret (pe_op op_sub (pe_fx (ok_law_draw T) hr (by decide) (pa_cons (pv 0) (pa_cons pe_int pa_nil))) pe_int))) pss_nil)
      (pss_one (ps_ret (pe_ix (ix_U (K := K) rfl) (pe_lst (pa_cons (pe_op op_pow pe_int pe_int) (pa_cons (pe_un un_neg (pe_op op_pow pe_int pe_int)) (pa_cons pe_int (pa_cons (pe_un un_neg pe_int) (pa_cons pe_int (pa_cons pe_int pa_nil))))))) (pe_fx (ok_law_draw T) hr (by decide) (pa_cons (pv 0) (pa_cons pe_int pa_nil))) (fun _ _ => rfl))))), ?_⟩
    walk_at "go"
    refine ⟨t, 8, H0, rfl, hT, by decide, by decide, fun r H1 r0 r1 f1 T1 => ?_⟩
    walk_at "go"
    refine ite_d (fun h0 => ?_) (fun h0 => ?_)
    · walk_at "go"
      refine ⟨t, 9, H0, rfl, T1, by decide, by decide, fun r2 H2 r20 r21 f2 T2 => ?_⟩
      walk_at "go"
      exact k _ _ (by omega) (f1.trans f2) T2
    · walk_at "go"
      refine ⟨by show 6 ≤ sizeLine; decide, fun l hl => ?_⟩
      walk_at "go"
      refine ⟨t, 6, H0, rfl, T1.new hl, by decide, by decide, fun r2 H2 r20 r21 f2 T2 => ?_⟩
      have e2 : H2 l = some (.lst (([1000000000, -1000000000, 999983, -70001, 31623, 40000] : List Int).map V.int)) := f2 _ _ upd_same (by simpa using T1.ne hl)
      obtain ⟨z, hz, hb⟩ := at_all (ns := [1000000000, -1000000000, 999983, -70001, 31623, 40000]) (P := fun r => -1000000000 ≤ r ∧ r ≤ 1000000000) (by decide) r20 r21
      refine w_ixL (SqL.of e2) hz ?_
      exact k _ _ hb ((f1.trans (Fr.new hl)).trans f2) T2

def sp_law_cut : Sp := fun vs H Q _ => ∃ n, vs = [.int n] ∧ Q (.int (cutI n)) H
theorem ok_law_cut (T : Env K mg) : Fx P w K mg base 1 "_law_cut" p_law_cut sp_law_cut := by
  refine T.l_law_cut.ok sc_law_cut (fun vs H Q E h => ?_) (fun f cdv A outer s H vs Q E hr h => ?_)
  · obtain ⟨n, rfl, _⟩ := h
    rfl
  · obtain ⟨n, rfl, k⟩ := h
    refine ⟨_, (pss_one (ps_ret (pe_callB (call_maxU rfl) (by rfl) T.m_max (by decide +kernel) (pa_cons (pe_un un_neg (pe_op op_pow pe_int pe_int)) (pa_cons (pe_callB (call_minU rfl) (by rfl) T.m_min (by decide +kernel) (pa_cons (pe_op op_pow pe_int pe_int) (pa_cons (pv 0) pa_nil))) pa_nil))))), ?_⟩
    walk_at "go"
    exact k


def sp_law_after : Sp := fun vs H Q _ => ∃ n w m, vs = [.int n, .str w, .int m] ∧ (-1000000000 ≤ m ∧ m ≤ 1000000000) ∧ Q (.int (afterI n w m)) H
theorem ok_law_after (T : Env K mg) : Fx P w K mg base 2 "_law_after" p_law_after sp_law_after := by
  refine T.l_law_after.ok sc_law_after (fun vs H Q E h => ?_) (fun f cdv A outer s H vs Q E hr h => ?_)
  · obtain ⟨n, w, m, rfl, _⟩ := h
    rfl
  · obtain ⟨n, w, m, rfl, hm, k⟩ := h
    refine ⟨_, (pss_cons (ps_if (pt_cmpR (op_eqU (K := K) rfl (u64 hr)) (pv 1) pe_str (nomark _)) (pss_one (ps_ret (pv 2))) pss_nil)
      (pss_cons (ps_if (pt_cmpR (op_eqU (K := K) rfl (u64 hr)) (pv 1) pe_str (nomark _)) (pss_one (ps_ret (pe_fx (ok_law_cut T) hr (by decide) (pa_cons (pe_op (op_addU (K := K) rfl) (pv 0) (pv 2)) pa_nil)))) pss_nil)
      (pss_one (ps_ret (pe_fx (ok_law_cut T) hr (by decide) (pa_cons (pe_op op_mulU (pv 0) (pv 2)) pa_nil)))))), ?_⟩
    unfold afterI at k
    walk_at "go"
    refine ite_d (fun h0 => ?_) (fun h0 => ?_)
    · walk_at "go"
      rw [if_pos h0] at k
      exact k
    · rw [if_neg h0] at k
      walk_at "go"
      refine ite_d (fun h1 => ?_) (fun h1 => ?_)
      · rw [if_pos h1] at k
        walk_at "go"
        exact ⟨_, rfl, k⟩
      · rw [if_neg h1] at k
        walk_at "go"
        refine w_mulI (.inr (by constructor <;> omega)) ?_
        walk_at "go"
        exact ⟨_, rfl, k⟩


end

section
variable {P : Program} {w : World} {K : PySem.W.Frag} {mg : Str → Option Value} {base : Heap}
def gr1 (x : Row) : Bool := match x with | .laid _ _ => true | .come _ => false
def grR (x : Row) : Int := match x with | .laid r _ => r | .come _ => 0
theorem grt_max : ∀ (xs : List Row) (m : Int), m ∈ 0 :: (xs.filter gr1).map grR → (∀ y ∈ 0 :: (xs.filter gr1).map grR, y ≤ m) → m = grt xs := by
  have a : ∀ (xs : List Row), grt xs ∈ 0 :: (xs.filter gr1).map grR ∧ ∀ y ∈ 0 :: (xs.filter gr1).map grR, y ≤ grt xs := by
    intro xs
    induction xs with
    | nil => exact ⟨List.mem_cons_self, by simp [grt]⟩
    | cons x xs ih =>
      cases x with
      | come c => exact ih
      | laid r v =>
        have e : ((Row.laid r v :: xs).filter gr1).map grR = r :: (xs.filter gr1).map grR := rfl
        rw [e]
        obtain ⟨h1, h2⟩ := ih
        show (if r > grt xs then r else grt xs) ∈ _ ∧ ∀ y ∈ _, y ≤ (if r > grt xs then r else grt xs)
        constructor
        · split
          · simp
          · rcases List.mem_cons.mp h1 with z | z
            · rw [z]; simp
            · simp [z]
        · intro y hy
          rcases List.mem_cons.mp hy with z | z
          · have := h2 y (by rw [z]; exact List.mem_cons_self)
            split <;> omega
          · rcases List.mem_cons.mp z with z | z
            · subst z; split <;> omega
            · have := h2 y (List.mem_cons_of_mem _ z)
              split <;> omega
  intro xs m h1 h2
  have := a xs
  have q1 := this.2 m h1
  have q2 := h2 _ this.1
  omega
def sp_law_laid (K : PySem.W.Frag) : Sp := fun vs H Q _ => ∃ b q xs, vs = [.int b, .ref q] ∧ Lq K H q (xs.map Row.d) ∧ (∀ x ∈ xs, Row.ok x) ∧ xs.length ≤ 1000 ∧ ∀ H', Fr [] H H' → Q (.int (valS b xs)) H'
theorem ok_law_laid (T : Env K mg) : Fx P w K mg base 3 "_law_laid" p_law_laid (sp_law_laid K) := by
  refine T.l_law_laid.ok sc_law_laid (fun vs H Q E h => ?_) (fun f cdv A outer s H vs Q E hr h => ?_)
  · obtain ⟨b, q, xs, rfl, _⟩ := h
    rfl
  · obtain ⟨b, q, xs, rfl, L, ok, lx, k⟩ := h
    refine ⟨_, (pss_cons (ps_set (i := 2) sc_law_laid.nd rfl (Or.inl rfl) (pv 0))
      (pss_cons (ps_for PassesOwn.never rfl (pi_range1 rfl T.m_range (pa_cons (pe_callB (call_lenU (K := K) rfl) (by rfl) T.m_len (by decide +kernel) (pa_cons (pv 1) pa_nil)) pa_nil)) (pg_name (i := 3) sc_law_laid.nd rfl (Or.inl rfl)) (pss_one (ps_if (pt_cmpR (op_eqU (K := K) rfl (u64 hr)) (pe_ix (ix_U (K := K) rfl) (pe_ix (ix_U (K := K) rfl) (pv 1) (pv 3) (fun _ _ => rfl)) pe_int (fun _ _ => rfl)) pe_str (nomark _)) (pss_cons (ps_set (i := 4) sc_law_laid.nd rfl (Or.inl rfl) (pe_callB (call_maxL (K := K) rfl rfl) (by rfl) T.m_max (by decide +kernel) (pa_cons (pe_op (op_addU (K := K) rfl) (pe_lst (pa_cons pe_int pa_nil)) (pe_lc (own := [("_law_row", 5)]) (g := (gName 5)) rfl sc_law_laid.nd (pi_listU (K := K) rfl (pe_slice (sl_U (K := K) rfl) (pv 1) (po_some (pe_op (op_addU (K := K) rfl) (pv 3) pe_int)) po_none)) (blkOk_by (N := N_law_laid) (sc := defScope s_law_laid) (by decide +kernel)) (fun _ _ _ _ _ => (pg_name (i := 5) sc_law_laid.nd rfl (Or.inl rfl))) (fun _ _ _ _ _ => (pts_one (pt_cmpR (op_eqU (K := K) rfl (u64 hr)) (pe_ix (ix_U (K := K) rfl) (pv 5) pe_int (fun _ _ => rfl)) pe_str (nomark _)))) (fun _ _ _ _ _ => (pe_ix (ix_U (K := K) rfl) (pv 5) pe_int (fun _ _ => rfl))))) pa_nil)))
      (pss_one (ps_if (pt_cmpR op_le (pe_ix (ix_U (K := K) rfl) (pe_ix (ix_U (K := K) rfl) (pv 1) (pv 3) (fun _ _ => rfl)) pe_int (fun _ _ => rfl)) (pv 4) (nomark _)) (pss_one (ps_set (i := 2) sc_law_laid.nd rfl (Or.inl rfl) (pe_fx (ok_law_after T) hr (by decide) (pa_cons (pv 2) (pa_cons (pe_ix (ix_U (K := K) rfl) (pe_ix (ix_U (K := K) rfl) (pv 1) (pv 3) (fun _ _ => rfl)) pe_int (fun _ _ => rfl)) (pa_cons (pe_ix (ix_U (K := K) rfl) (pe_ix (ix_U (K := K) rfl) (pv 1) (pv 3) (fun _ _ => rfl)) pe_int (fun _ _ => rfl)) pa_nil)))))) pss_nil))) pss_nil)))
      (pss_one (ps_ret (pv 2))))), ?_⟩
    walk_at "go"
    refine L.len ?_
    rw [List.length_map]
    refine F_R1 xs.length (by omega) (by omega) (by omega) (fun i σ H' => Fr [] H H' ∧ ∃ v m x y, σ = [some (.int b), some (.ref q), some (.int v), x, m, y] ∧ valS v (xs.drop i) = valS b xs) ⟨Fr.refl, b, _, _, _, rfl, rfl⟩ ?_ ?_
    · rintro i σ H' hi ⟨f', v, m, x0, y0, rfl, hv⟩
      have hx : xs[i]? = some xs[i] := List.getElem?_eq_getElem hi
      have okx := ok _ (List.getElem_mem hi)
      rw [List.drop_eq_getElem_cons hi] at hv
      generalize xs[i] = x at hx okx hv
      have L' := L.fr0 f'
      have hd : (xs.map Row.d)[(i : Int).toNat]? = some x.d := by rw [Int.toNat_natCast, List.getElem?_map, hx]; rfl
      have at_ : ∀ {H2 : Hp} {Q2 : VK}, Fr [] H' H2 → (∀ u, Dt K H2 u x.d → Q2 u H2) → rIx K (.ref q) (.int i) H2 Q2 := by
        intro H2 Q2 f2 q2
        refine (L'.fr0 f2).at (P := fun _ => True) (fun _ _ => trivial) (by omega) (by rw [List.length_map]; omega) fun u d du _ e => ?_
        rw [hd] at e
        cases e
        exact q2 u du
      walk_at "go"
      refine at_ Fr.refl fun u du => ?_
      cases x with
      | laid r n =>
        obtain ⟨p, rfl, hp⟩ := Row.at_laid du
        refine w_ixT hp rfl ?_
        walk_at "go"
        refine ite_d (fun h0 => absurd h0 (by decide +kernel)) (fun _ => ?_)
        walk_at "go"
        exact ⟨f', v, _, _, _, rfl, hv⟩
      | come c =>
        obtain ⟨p, rfl, hp⟩ := Row.at_come du
        refine w_ixT hp rfl ?_
        walk_at "go"
        refine ite_d (fun _ => ?_) (fun h0 => absurd rfl h0)
        walk_at "go"
        refine mkL (K := K) (.cons (.int 0) .nil) fun l0 H2 _ g2 L2 => ?_
        walk_at "go"
        refine (L'.fr0 g2).slice fun l1 H3 nl1 g3 L3 => ?_
        rw [show ((i : Int) + 1) = ((i + 1 : Nat) : Int) by omega, cutA_drop, ← List.map_drop] at L3
        obtain ⟨us, hus, dus⟩ := L3
        refine LCF (dS := Row.d) (cs := xs.drop (i + 1)) gr1 (fun x => .int (grR x)) hus dus (by rw [List.length_drop]; omega) (fun _ => rfl) ?_ ?_ ?_
        · intro y u2 H4 my f4 du2 QB kb
          cases y with
          | laid r n =>
            obtain ⟨p2, rfl, hp2⟩ := Row.at_laid du2
            walk_at "go"
            refine w_ixT hp2 rfl ?_
            walk_at "go"
            rw [show decide (("laid" : Str) = "laid") = true from decide_eq_true rfl]
            exact kb H4 Fr.refl
          | come c2 =>
            obtain ⟨p2, rfl, hp2⟩ := Row.at_come du2
            walk_at "go"
            refine w_ixT hp2 rfl ?_
            walk_at "go"
            rw [show decide (("come" : Str) = "laid") = false by decide +kernel]
            exact kb H4 Fr.refl
        · intro y u2 H4 my f4 du2 hy Q' kq
          cases y with
          | laid r n =>
            obtain ⟨p2, rfl, hp2⟩ := Row.at_laid du2
            walk_at "go"
            refine w_ixT hp2 rfl ?_
            exact kq _ _ Fr.refl (.int r)
          | come c2 => cases hy
        · intro D H4 hD f4 L4
          walk_at "go"
          refine (L2.fr0 (g3.trans f4)).cat L4 (by
            rw [List.length_map]
            have := List.length_filter_le gr1 (xs.drop (i + 1))
            rw [List.length_drop] at this
            show 1 + _ ≤ _
            omega) fun l5 H5 nl5 g5 L5 => ?_
          have e5 : H5 l5 = some (.lst ((0 :: ((xs.drop (i + 1)).filter gr1).map grR).map V.int)) := Lq.ints (by
            rw [List.map_cons, List.map_map]
            exact L5)
          refine ⟨l5, _, rfl, SqL.of e5, by simp, fun m hm1 hm2 => ?_⟩
          have em := grt_max _ m hm1 hm2
          subst em
          have f25 := ((g2.trans g3).trans f4).trans g5
          walk_at "go"
          refine at_ f25 fun u2 du2 => ?_
          obtain ⟨p2, rfl, hp2⟩ := Row.at_come du2
          refine w_ixT hp2 rfl ?_
          walk_at "go"
          refine ite_d (fun h1 => ?_) (fun h1 => ?_)
          · walk_at "go"
            refine at_ f25 fun u3 du3 => ?_
            obtain ⟨p3, rfl, hp3⟩ := Row.at_come du3
            refine w_ixT hp3 rfl ?_
            walk_at "go"
            refine at_ f25 fun u4 du4 => ?_
            obtain ⟨p4, rfl, hp4⟩ := Row.at_come du4
            refine w_ixT hp4 rfl ?_
            walk_at "go"
            refine ⟨_, _, _, rfl, okx.1.1, ?_⟩
            refine ⟨f'.trans f25, _, _, _, _, rfl, ?_⟩
            rw [← hv]
            show _ = valS (if c.rank ≤ grt (xs.drop (i + 1)) then _ else v) _
            rw [if_pos h1]
          · walk_at "go"
            refine ⟨f'.trans f25, _, _, _, _, rfl, ?_⟩
            rw [← hv]
            show _ = valS (if c.rank ≤ grt (xs.drop (i + 1)) then _ else v) _
            rw [if_neg h1]
    · rintro σ H' ⟨f', v, m, x0, y0, rfl, hv⟩
      rw [List.drop_length] at hv
      walk_at "go"
      have hv : v = valS b xs := hv
      rw [hv]
      exact k H' f'
end

/-! ### whole numbers, numbers, of any plain thing -/
def isWholeD : PyData → Bool
  | .int _ => true
  | _ => false
def isNumD : PyData → Bool
  | .int i => decide (-1000000000 ≤ i) && decide (i ≤ 1000000000)
  | _ => false
def isRankD : PyData → Bool
  | .int i => decide (1 ≤ i) && decide (i ≤ 3)
  | _ => false
section
variable {P : Program} {w : World} {K : PySem.W.Frag} {mg : Str → Option Value} {base : Heap}

def sp_is_whole (K : PySem.W.Frag) : Sp := fun vs H Q _ => ∃ v d, vs = [v] ∧ Dg K H v d ∧ Q (.bl (isWholeD d)) H
theorem ok_is_whole (T : Env K mg) : Fx P w K mg base 1 "is_whole" p_is_whole (sp_is_whole K) := by
  refine T.l_is_whole.ok sc_is_whole (fun vs H Q E h => ?_) (fun f cdv A outer s H vs Q E hr h => ?_)
  · obtain ⟨v, d, rfl, _⟩ := h
    rfl
  · obtain ⟨v, d, rfl, D, k⟩ := h
    refine ⟨_, (pss_one (ps_ret (pe_and (pe_callB (call_isiU (K := K) rfl) (by rfl) T.m_isinstance (by decide +kernel) (pa_cons (pv 0) (pa_cons (pe_bltn (v := .ty "int") (u := .type "int") rfl T.m_int (by decide +kernel) rfl) pa_nil))) (pe_one (pe_not (pe_callB (call_isiU (K := K) rfl) (by rfl) T.m_isinstance (by decide +kernel) (pa_cons (pv 0) (pa_cons (pe_bltn (v := .ty "bool") (u := .type "bool") rfl T.m_bool (by decide +kernel) rfl) pa_nil)))))))), ?_⟩
    walk_at "go"
    cases D with
    | non => walk_at "go"; exact k
    | bl b => walk_at "go"; exact k
    | int i => walk_at "go"; exact k
    | str x => walk_at "go"; exact k
    | tup s _ => refine isT_int s ?_; walk_at "go"; exact k
    | lst s _ => refine isL_int s ?_; walk_at "go"; exact k
    | dct s => refine isD_int s ?_; walk_at "go"; exact k


def sp_is_number (K : PySem.W.Frag) : Sp := fun vs H Q _ => ∃ v d, vs = [v] ∧ Dg K H v d ∧ Q (.bl (isNumD d)) H
theorem ok_is_number (T : Env K mg) : Fx P w K mg base 2 "is_number" p_is_number (sp_is_number K) := by
  refine T.l_is_number.ok sc_is_number (fun vs H Q E h => ?_) (fun f cdv A outer s H vs Q E hr h => ?_)
  · obtain ⟨v, d, rfl, _⟩ := h
    rfl
  · obtain ⟨v, d, rfl, D, k⟩ := h
    refine ⟨_, (pss_one (ps_ret (pe_and (pe_fx (ok_is_whole T) hr (by decide) (pa_cons (pv 0) pa_nil)) (pe_one (pe_chain op_le op_le (pe_op op_sub pe_int T.pe_GREATEST) (pv 0) T.pe_GREATEST))))), ?_⟩
    walk_at "go"
    refine ⟨v, d, rfl, D, ?_⟩
    cases D with
    | int i =>
      have k : Q (.bl (decide (-1000000000 ≤ i) && decide (i ≤ 1000000000))) H := k
      rw [show isWholeD (.int i) = true from rfl]
      walk_at "go"
      refine ite_d (fun h0 => ?_) (fun h0 => ?_)
      · rw [decide_eq_true (by omega : (-1000000000 : Int) ≤ i), Bool.true_and] at k
        walk_at "go"
        exact k
      · rw [decide_eq_false (by omega : ¬ (-1000000000 : Int) ≤ i), Bool.false_and] at k
        exact k
    | non => walk_at "go"; exact k
    | bl b => walk_at "go"; exact k
    | str x => walk_at "go"; exact k
    | tup s _ => walk_at "go"; exact k
    | lst s _ => walk_at "go"; exact k
    | dct s => walk_at "go"; exact k


def sp_law_is_number (K : PySem.W.Frag) : Sp := fun vs H Q _ => ∃ v d, vs = [v] ∧ Dg K H v d ∧ Q (.bl (isNumD d)) H
theorem ok_law_is_number (T : Env K mg) : Fx P w K mg base 1 "_law_is_number" p_law_is_number (sp_law_is_number K) := by
  refine T.l_law_is_number.ok sc_law_is_number (fun vs H Q E h => ?_) (fun f cdv A outer s H vs Q E hr h => ?_)
  · obtain ⟨v, d, rfl, _⟩ := h
    rfl
  · obtain ⟨v, d, rfl, D, k⟩ := h
    refine ⟨_, (pss_one (ps_ret (pe_and (pe_callB (call_isiU (K := K) rfl) (by rfl) T.m_isinstance (by decide +kernel) (pa_cons (pv 0) (pa_cons (pe_bltn (v := .ty "int") (u := .type "int") rfl T.m_int (by decide +kernel) rfl) pa_nil))) (pe_and (pe_not (pe_callB (call_isiU (K := K) rfl) (by rfl) T.m_isinstance (by decide +kernel) (pa_cons (pv 0) (pa_cons (pe_bltn (v := .ty "bool") (u := .type "bool") rfl T.m_bool (by decide +kernel) rfl) pa_nil)))) (pe_one (pe_chain op_le op_le (pe_un un_neg (pe_op op_pow pe_int pe_int)) (pv 0) (pe_op op_pow pe_int pe_int))))))), ?_⟩
    walk_at "go"
    cases D with
    | int i =>
      have k : Q (.bl (decide (-1000000000 ≤ i) && decide (i ≤ 1000000000))) H := k
      walk_at "go"
      refine ite_d (fun h0 => ?_) (fun h0 => ?_)
      · rw [decide_eq_true h0, Bool.true_and] at k
        walk_at "go"
        exact k
      · rw [decide_eq_false h0, Bool.false_and] at k
        exact k
    | non => walk_at "go"; exact k
    | bl b => walk_at "go"; exact k
    | str x => walk_at "go"; exact k
    | tup s _ => refine isT_int s ?_; walk_at "go"; exact k
    | lst s _ => refine isL_int s ?_; walk_at "go"; exact k
    | dct s => refine isD_int s ?_; walk_at "go"; exact k


def sp_is_rank (K : PySem.W.Frag) : Sp := fun vs H Q _ => ∃ v d, vs = [v] ∧ Dg K H v d ∧ Q (.bl (isRankD d)) H
theorem ok_is_rank (T : Env K mg) : Fx P w K mg base 3 "is_rank" p_is_rank (sp_is_rank K) := by
  refine T.l_is_rank.ok sc_is_rank (fun vs H Q E h => ?_) (fun f cdv A outer s H vs Q E hr h => ?_)
  · obtain ⟨v, d, rfl, _⟩ := h
    rfl
  · obtain ⟨v, d, rfl, D, k⟩ := h
    refine ⟨_, (pss_one (ps_ret (pe_and (pe_fx (ok_is_number T) hr (by decide) (pa_cons (pv 0) pa_nil)) (pe_one (pe_chain op_le op_le pe_int (pv 0) T.pe_MOST_RANK))))), ?_⟩
    walk_at "go"
    refine ⟨v, d, rfl, D, ?_⟩
    cases D with
    | int i =>
      have k : Q (.bl (decide (1 ≤ i) && decide (i ≤ 3))) H := k
      have en : isNumD (.int i) = (decide (-1000000000 ≤ i) && decide (i ≤ 1000000000)) := rfl
      rw [en]
      walk_at "go"
      refine ite_b (fun h0 => ?_) (fun h0 => ?_)
      · walk_at "go"
        refine ite_d (fun h1 => ?_) (fun h1 => ?_)
        · rw [decide_eq_true h1, Bool.true_and] at k
          walk_at "go"
          exact k
        · rw [decide_eq_false h1, Bool.false_and] at k
          exact k
      · have z : (decide (1 ≤ i) && decide (i ≤ 3)) = false := by
          cases e : (decide (1 ≤ i) && decide (i ≤ 3)) with
          | false => rfl
          | true =>
            simp only [Bool.and_eq_true, decide_eq_true_eq] at e
            simp only [Bool.and_eq_false_iff, decide_eq_false_iff_not] at h0
            omega
        rw [z] at k
        exact k
    | non => walk_at "go"; exact k
    | bl b => walk_at "go"; exact k
    | str x => walk_at "go"; exact k
    | tup s _ => walk_at "go"; exact k
    | lst s _ => walk_at "go"; exact k
    | dct s => walk_at "go"; exact k


def sp_law_is_rank (K : PySem.W.Frag) : Sp := fun vs H Q _ => ∃ v d, vs = [v] ∧ Dg K H v d ∧ Q (.bl (isRankD d)) H
theorem ok_law_is_rank (T : Env K mg) : Fx P w K mg base 2 "_law_is_rank" p_law_is_rank (sp_law_is_rank K) := by
  refine T.l_law_is_rank.ok sc_law_is_rank (fun vs H Q E h => ?_) (fun f cdv A outer s H vs Q E hr h => ?_)
  · obtain ⟨v, d, rfl, _⟩ := h
    rfl
  · obtain ⟨v, d, rfl, D, k⟩ := h
    refine ⟨_, (pss_one (ps_ret (pe_and (pe_fx (ok_law_is_number T) hr (by decide) (pa_cons (pv 0) pa_nil)) (pe_one (pe_chain op_le op_le pe_int (pv 0) pe_int))))), ?_⟩
    walk_at "go"
    refine ⟨v, d, rfl, D, ?_⟩
    cases D with
    | int i =>
      have k : Q (.bl (decide (1 ≤ i) && decide (i ≤ 3))) H := k
      have en : isNumD (.int i) = (decide (-1000000000 ≤ i) && decide (i ≤ 1000000000)) := rfl
      rw [en]
      walk_at "go"
      refine ite_b (fun h0 => ?_) (fun h0 => ?_)
      · walk_at "go"
        refine ite_d (fun h1 => ?_) (fun h1 => ?_)
        · rw [decide_eq_true h1, Bool.true_and] at k
          walk_at "go"
          exact k
        · rw [decide_eq_false h1, Bool.false_and] at k
          exact k
      · have z : (decide (1 ≤ i) && decide (i ≤ 3)) = false := by
          cases e : (decide (1 ≤ i) && decide (i ≤ 3)) with
          | false => rfl
          | true =>
            simp only [Bool.and_eq_true, decide_eq_true_eq] at e
            simp only [Bool.and_eq_false_iff, decide_eq_false_iff_not] at h0
            omega
        rw [z] at k
        exact k
    | non => walk_at "go"; exact k
    | bl b => walk_at "go"; exact k
    | str x => walk_at "go"; exact k
    | tup s _ => walk_at "go"; exact k
    | lst s _ => walk_at "go"; exact k
    | dct s => walk_at "go"; exact k

end

section
variable {P : Program} {w : World} {K : PySem.W.Frag} {mg : Str → Option Value} {base : Heap}
def sp_cut : Sp := fun vs H Q _ => ∃ n, vs = [.int n] ∧ Q (.int (cutI n)) H
theorem ok_cut (T : Env K mg) : Fx P w K mg base 1 "cut" p_cut sp_cut := by
  refine T.l_cut.ok sc_cut (fun vs H Q E h => ?_) (fun f cdv A outer s H vs Q E hr h => ?_)
  · obtain ⟨n, rfl, _⟩ := h
    rfl
  · obtain ⟨n, rfl, k⟩ := h
    refine ⟨_, (pss_one (ps_ret (pe_callB (call_maxU rfl) (by rfl) T.m_max (by decide +kernel) (pa_cons (pe_op op_sub pe_int T.pe_GREATEST) (pa_cons (pe_callB (call_minU rfl) (by rfl) T.m_min (by decide +kernel) (pa_cons T.pe_GREATEST (pa_cons (pv 0) pa_nil))) pa_nil))))), ?_⟩
    walk_at "go"
    exact k
/-- a change, told by its word and number -/
def sp_done_on (K : PySem.W.Frag) : Sp := fun vs H Q _ => ∃ n c r w m, vs = [.int n, .ref c] ∧ SqT K H c [r, .str w, .int m] ∧ (-1000000000 ≤ m ∧ m ≤ 1000000000) ∧ Q (.int (afterI n w m)) H
theorem ok_done_on (T : Env K mg) : Fx P w K mg base 2 "done_on" p_done_on (sp_done_on K) := by
  refine T.l_done_on.ok sc_done_on (fun vs H Q E h => ?_) (fun f cdv A outer s H vs Q E hr h => ?_)
  · obtain ⟨n, c, r, w, m, rfl, _⟩ := h
    rfl
  · obtain ⟨n, c, r, w, m, rfl, hc, hm, k⟩ := h
    refine ⟨_, (pss_cons (ps_if (pt_cmpR (op_eqU (K := K) rfl (u64 hr)) (pe_ix (ix_U (K := K) rfl) (pv 1) pe_int (fun _ _ => rfl)) pe_str (nomark _)) (pss_one (ps_ret (pe_ix (ix_U (K := K) rfl) (pv 1) pe_int (fun _ _ => rfl)))) pss_nil)
      (pss_cons (ps_if (pt_cmpR (op_eqU (K := K) rfl (u64 hr)) (pe_ix (ix_U (K := K) rfl) (pv 1) pe_int (fun _ _ => rfl)) pe_str (nomark _)) (pss_one (ps_ret (pe_fx (ok_cut T) hr (by decide) (pa_cons (pe_op (op_addU (K := K) rfl) (pv 0) (pe_ix (ix_U (K := K) rfl) (pv 1) pe_int (fun _ _ => rfl))) pa_nil)))) pss_nil)
      (pss_one (ps_ret (pe_fx (ok_cut T) hr (by decide) (pa_cons (pe_op op_mulU (pv 0) (pe_ix (ix_U (K := K) rfl) (pv 1) pe_int (fun _ _ => rfl))) pa_nil)))))), ?_⟩
    unfold afterI at k
    walk_at "go"
    refine w_ixT hc rfl ?_
    walk_at "go"
    refine ite_d (fun h0 => ?_) (fun h0 => ?_)
    · walk_at "go"
      rw [if_pos h0] at k
      exact w_ixT hc rfl k
    · rw [if_neg h0] at k
      walk_at "go"
      refine w_ixT hc rfl ?_
      walk_at "go"
      refine ite_d (fun h1 => ?_) (fun h1 => ?_)
      · rw [if_pos h1] at k
        walk_at "go"
        refine w_ixT hc rfl ?_
        walk_at "go"
        exact ⟨_, rfl, k⟩
      · rw [if_neg h1] at k
        walk_at "go"
        refine w_ixT hc rfl ?_
        refine w_mulI (.inr (by constructor <;> omega)) ?_
        walk_at "go"
        exact ⟨_, rfl, k⟩
end

section
variable {P : Program} {w : World} {K : PySem.W.Frag} {mg : Str → Option Value} {base : Heap}
/-- the changes seen behind rows -/
def seenOf : List Row → List Ch
  | [] => []
  | .come c :: xs => if c.rank ≤ grt xs then c :: seenOf xs else seenOf xs
  | .laid _ _ :: xs => seenOf xs
theorem seenOf_len : ∀ xs : List Row, (seenOf xs).length ≤ xs.length
  | [] => Nat.le_refl _
  | .come c :: xs => by
    have := seenOf_len xs
    unfold seenOf
    split
    · exact Nat.succ_le_succ this
    · exact Nat.le_succ_of_le this
  | .laid _ _ :: xs => Nat.le_succ_of_le (seenOf_len xs)
theorem seenOf_mem : ∀ {xs : List Row} {c : Ch}, c ∈ seenOf xs → Row.come c ∈ xs
  | .come e :: xs, c, h => by
    unfold seenOf at h
    split at h
    · rcases List.mem_cons.mp h with z | z
      · rw [z]; exact List.mem_cons_self
      · exact List.mem_cons_of_mem _ (seenOf_mem z)
    · exact List.mem_cons_of_mem _ (seenOf_mem h)
  | .laid _ _ :: xs, c, h => List.mem_cons_of_mem _ (seenOf_mem (xs := xs) h)
theorem valS_seen : ∀ (xs : List Row) (b : Int), valS b xs = (seenOf xs).foldl (fun v c => afterI v c.word c.num) b
  | [], b => rfl
  | .come c :: xs, b => by
    show valS (if c.rank ≤ grt xs then _ else b) xs = (if c.rank ≤ grt xs then c :: seenOf xs else seenOf xs).foldl _ b
    rw [valS_seen xs]
    split <;> rfl
  | .laid _ _ :: xs, b => valS_seen xs b
def sp_value_behind (K : PySem.W.Frag) : Sp := fun vs H Q _ => ∃ b q xs, vs = [.int b, .ref q] ∧ Lq K H q (xs.map Row.d) ∧ (∀ x ∈ xs, Row.ok x) ∧ xs.length ≤ 1000 ∧ ∀ H', Fr [] H H' → Q (.int (valS b xs)) H'
theorem ok_value_behind (T : Env K mg) : Fx P w K mg base 3 "value_behind" p_value_behind (sp_value_behind K) := by
  refine T.l_value_behind.ok sc_value_behind (fun vs H Q E h => ?_) (fun f cdv A outer s H vs Q E hr h => ?_)
  · obtain ⟨b, q, xs, rfl, _⟩ := h
    rfl
  · obtain ⟨b, q, xs, rfl, L, ok, lx, k⟩ := h
    refine ⟨_, (pss_cons (ps_set (i := 2) sc_value_behind.nd rfl (Or.inl rfl) pe_int)
      (pss_cons (ps_set (i := 3) sc_value_behind.nd rfl (Or.inl rfl) (pe_lst pa_nil))
      (pss_cons (ps_for PassesOwn.never rfl (pi_revU (K := K) rfl (by rfl) T.m_reversed (pv 1)) (pg_name (i := 4) sc_value_behind.nd rfl (Or.inl rfl)) (pss_one (ps_if (pt_cmpR (op_eqU (K := K) rfl (u64 hr)) (pe_ix (ix_U (K := K) rfl) (pv 4) pe_int (fun _ _ => rfl)) pe_str (nomark _)) (pss_one (ps_set (i := 2) sc_value_behind.nd rfl (Or.inl rfl) (pe_callB (call_maxU rfl) (by rfl) T.m_max (by decide +kernel) (pa_cons (pv 2) (pa_cons (pe_ix (ix_U (K := K) rfl) (pv 4) pe_int (fun _ _ => rfl)) pa_nil))))) (pss_one (ps_if (pt_cmpR op_le (pe_ix (ix_U (K := K) rfl) (pv 4) pe_int (fun _ _ => rfl)) (pv 2) (nomark _)) (pss_one (ps_expr (pe_bm PySem.F.plainAttrs_list PySem.F.slot_list_append PySem.F.type_list_append mt_append (pv 3) (pa_cons (pv 4) pa_nil)))) pss_nil)))))
      (pss_cons (ps_set (i := 5) sc_value_behind.nd rfl (Or.inl rfl) (pv 0))
      (pss_cons (ps_for PassesOwn.never rfl (pi_revU (K := K) rfl (by rfl) T.m_reversed (pv 3)) (pg_name (i := 4) sc_value_behind.nd rfl (Or.inl rfl)) (pss_one (ps_set (i := 5) sc_value_behind.nd rfl (Or.inl rfl) (pe_fx (ok_done_on T) hr (by decide) (pa_cons (pv 5) (pa_cons (pe_slice (sl_U (K := K) rfl) (pv 4) (po_some pe_int) po_none) pa_nil))))))
      (pss_one (ps_ret (pv 5)))))))), ?_⟩
    walk_at "go"
    refine mkL (K := K) .nil fun sl H1 nsl g1 L1 => ?_
    walk_at "go"
    refine (L.fr0 g1).walkRev (fun i σ H' => Fr [] H H' ∧ ∃ (v5 v6 : Option V), σ = [some (.int b), some (.ref q), some (.int (grt (xs.drop (xs.length - i)))), some (.ref sl), v5, v6] ∧ Lq K H' sl ((seenOf (xs.drop (xs.length - i))).reverse.map fun c => (Row.come c).d)) ?_ (fun i σ H' h => L.fr0 h.1) ?_ ?_
    · rw [Nat.sub_zero, List.drop_length]
      exact ⟨g1, _, _, rfl, L1⟩
    · rintro i u d σ H' hi hd du ⟨f', v5, v6, rfl, L'⟩
      rw [List.length_map] at hi hd
      obtain ⟨x, hx, rfl⟩ := map_get hd
      have okx := ok x (List.mem_of_getElem? hx)
      have ed : xs.drop (xs.length - (i + 1)) = x :: xs.drop (xs.length - i) := by
        obtain ⟨hj, e⟩ := List.getElem?_eq_some_iff.mp hx
        rw [show xs.length - (i + 1) = xs.length - 1 - i by omega, List.drop_eq_getElem_cons hj, e, show xs.length - 1 - i + 1 = xs.length - i by omega]
      have ls := seenOf_len (xs.drop (xs.length - i))
      rw [List.length_drop] at ls
      rw [ed]
      generalize xs.drop (xs.length - i) = ys at L' ls ⊢
      cases x with
      | laid r n =>
        obtain ⟨p, rfl, hp⟩ := Row.at_laid du
        walk_at "go"
        refine w_ixT hp rfl ?_
        walk_at "go"
        refine ite_d (fun _ => ?_) (fun h0 => absurd rfl h0)
        walk_at "go"
        refine w_ixT hp rfl ?_
        walk_at "go"
        exact ⟨f', _, _, rfl, L'⟩
      | come c =>
        obtain ⟨p, rfl, hp⟩ := Row.at_come du
        walk_at "go"
        refine w_ixT hp rfl ?_
        walk_at "go"
        refine ite_d (fun h0 => absurd h0 (by decide +kernel)) (fun _ => ?_)
        walk_at "go"
        refine w_ixT hp rfl ?_
        walk_at "go"
        refine ite_d (fun h1 => ?_) (fun h1 => ?_)
        · walk_at "go"
          refine ⟨L'.ty, ?_⟩
          walk_at "go"
          refine L'.app du (by rw [List.length_map, List.length_reverse]; omega) fun H2 f2 tu2 L2 => ?_
          have e2 : seenOf (.come c :: ys) = c :: seenOf ys := if_pos h1
          refine ⟨Fr.drop1 nsl f' f2, _, _, rfl, ?_⟩
          rw [e2, List.reverse_cons, List.map_append]
          exact L2
        · walk_at "go"
          have e2 : seenOf (.come c :: ys) = seenOf ys := if_neg h1
          refine ⟨f', _, _, rfl, ?_⟩
          rw [e2]
          exact L'
    · rintro σ H' ⟨f', v5, v6, rfl, L'⟩
      rw [List.length_map, Nat.sub_self, List.drop_zero] at L' ⊢
      have ls := seenOf_len xs
      walk_at "go"
      refine L'.walkRev (fun i σ H2 => Fr [] H H2 ∧ Fr [] H' H2 ∧ ∃ (v : Int) (v2 v5 : Option V), σ = [some (.int b), some (.ref q), v2, some (.ref sl), v5, some (.int v)] ∧ v = ((seenOf xs).take i).foldl (fun v c => afterI v c.word c.num) b) ⟨f', Fr.refl, b, _, _, rfl, rfl⟩ (fun i σ H' h => L'.fr0 h.2.1) ?_ ?_
      · rintro i u d σ H2 hi hd du ⟨f2, f3, v, v2, v5, rfl, hv⟩
        rw [List.length_map, List.length_reverse] at hi hd
        obtain ⟨c, hc, rfl⟩ := map_get hd
        rw [List.getElem?_reverse (by omega)] at hc
        have hc : (seenOf xs)[i]? = some c := by
          rw [← hc]
          congr 1
          omega
        have okc := ok _ (seenOf_mem (List.mem_of_getElem? hc))
        have step := take_fold (f := fun v (c : Ch) => afterI v c.word c.num) (b := b) hc
        rw [← hv] at step
        walk_at "go"
        refine Dt.slice du fun p3 H3 g3 d3 => ?_
        rw [show (some (1 : Int)) = some ((1 : Nat) : Int) from rfl, cutA_drop] at d3
        obtain ⟨p4, e4, hp4⟩ := Ch.at (c := c) d3
        cases e4
        walk_at "go"
        refine ⟨v, p3, _, c.word, c.num, rfl, hp4, okc.1.1, ?_⟩
        exact ⟨f2.trans g3, f3.trans g3, _, _, _, rfl, step.symm⟩
      · rintro σ H2 ⟨f2, f3, v, v2, v5, rfl, hv⟩
        rw [List.length_map, List.length_reverse, List.take_length, ← valS_seen] at hv
        walk_at "go"
        rw [hv]
        exact k H2 f2
end

section
variable {P : Program} {w : World} {K : PySem.W.Frag} {mg : Str → Option Value} {base : Heap}
def rowFits (b : Int) (xs : List Row) (i : Nat) : Bool := match xs[i]? with
  | some (.laid r v) => decide (v = valS b (xs.take i ++ [.laid r 0]))
  | _ => true
def letsB (b : Int) (xs : List Row) : Bool := (List.range xs.length).all (rowFits b xs)
theorem letsB_right {b : Int} {xs : List Row} : letsB b xs = true ↔ Right b xs := by
  unfold letsB
  rw [List.all_eq_true]
  constructor
  · intro h i r v e
    have hi := (List.getElem?_eq_some_iff.mp e).1
    have := h i (List.mem_range.mpr hi)
    unfold rowFits at this
    rw [e] at this
    exact of_decide_eq_true this
  · intro h i hi
    unfold rowFits
    cases e : xs[i]? with
    | none => rfl
    | some x =>
      cases x with
      | come c => rfl
      | laid r v => exact decide_eq_true (h i r v e)
theorem letsB_no {b : Int} {xs : List Row} {i : Nat} (hi : i < xs.length) (h : rowFits b xs i = false) : letsB b xs = false := by
  cases e : letsB b xs with
  | false => rfl
  | true =>
    have := List.all_eq_true.mp e i (List.mem_range.mpr hi)
    rw [h] at this
    cases this
theorem letsB_yes {b : Int} {xs : List Row} (h : ∀ i, i < xs.length → rowFits b xs i = true) : letsB b xs = true := List.all_eq_true.mpr fun i hi => h i (List.mem_range.mp hi)
theorem valS_here {b r v : Int} {xs : List Row} {i : Nat} (hr : 0 ≤ r) (h : xs[i]? = some (.laid r v)) : valS b (xs.take (i + 1)) = valS b (xs.take i ++ [.laid r 0]) := by
  rw [List.take_add_one, h]
  exact valS_any hr _
end

/-! ### ledgers' rows of any kind -/
section
variable {K : PySem.W.Frag} {H : Hp}
mutual
theorem Dg.dp : ∀ {v : V} {d : PyData}, Dg K H v d → d.canLay0 = true → Dp K H v d
  | _, _, .non, _ => .non
  | _, _, .bl b, _ => .bl b
  | _, _, .int i, _ => .int i
  | _, _, .str x, _ => .str x
  | _, _, .tup s a, h => .tup s (DgAll.dp a h)
  | _, _, .lst s a, h => .lst s (DgAll.dp a h)
  | _, _, .dct _, h => by cases h
theorem DgAll.dp : ∀ {vs : List V} {ds : List PyData}, DgAll K H vs ds → PyData.canLayAll0 ds = true → DpAll K H vs ds
  | _, _, .nil, _ => .nil
  | _, _, .cons a b, h => by
    have z := Bool.and_eq_true_iff.mp h
    exact .cons (Dg.dp a z.1) (DgAll.dp b z.2)
end
end
def isStrB (z : Str) : PyData → Bool
  | .str y => decide (y = z)
  | _ => false
def isWordB : PyData → Bool
  | .str w => decide (w = "set") || decide (w = "add") || decide (w = "times")
  | _ => false
theorem inV_words (x : Str) : inV (.str x) [.str "set", .str "add", .str "times"] = isWordB (.str x) := by
  have e : ∀ a : Str, eqV (.str a) (.str x) = decide (x = a) := fun a => by
    show (a == x) = _
    rw [Bool.eq_iff_iff, beq_iff_eq, decide_eq_true_eq]
    exact eq_comm
  show (eqV (.str "set") (.str x) || (eqV (.str "add") (.str x) || (eqV (.str "times") (.str x) || false))) = (decide (x = "set") || decide (x = "add") || decide (x = "times"))
  rw [e, e, e, Bool.or_false, Bool.or_assoc]
/-- a part that may be compared -/
def Fine (d : PyData) : Prop := (∃ es, d = .dict es) ∨ SeqAt.shaped d = true
def isComeD : PyData → Bool
  | .tuple [a, b, c, e] => isStrB "come" a && isRankD b && isWordB c && isNumD e
  | _ => false
def isLaidD : PyData → Bool
  | .tuple [a, b, c] => isStrB "laid" a && isRankD b && isNumD c
  | _ => false
/-- a thing whose parts may be compared -/
def FineT (d : PyData) : Prop := ∀ es, d = .tuple es → ∀ e ∈ es, Fine e
theorem isRankD_int {d : PyData} (h : isRankD d = true) : ∃ i, d = .int i ∧ 1 ≤ i ∧ i ≤ 3 := by
  cases d with
  | int i =>
    have z : (decide (1 ≤ i) && decide (i ≤ 3)) = true := h
    simp only [Bool.and_eq_true, decide_eq_true_eq] at z
    exact ⟨i, rfl, z⟩
  | _ => cases h
theorem isNumD_int {d : PyData} (h : isNumD d = true) : ∃ i, d = .int i ∧ -1000000000 ≤ i ∧ i ≤ 1000000000 := by
  cases d with
  | int i =>
    have z : (decide (-1000000000 ≤ i) && decide (i ≤ 1000000000)) = true := h
    simp only [Bool.and_eq_true, decide_eq_true_eq] at z
    exact ⟨i, rfl, z⟩
  | _ => cases h
theorem isStrB_str {z : Str} {d : PyData} (h : isStrB z d = true) : d = .str z := by
  cases d with
  | str y => rw [of_decide_eq_true h]
  | _ => cases h
theorem isWordB_str {d : PyData} (h : isWordB d = true) : ∃ w, d = .str w ∧ isWord w ∧ PyData.strOk w = true := by
  cases d with
  | str w =>
    have z : (decide (w = "set") || decide (w = "add") || decide (w = "times")) = true := h
    simp only [Bool.or_eq_true, decide_eq_true_eq] at z
    rcases z with (z | z) | z
    · exact ⟨w, rfl, .inl z, by rw [z]; decide +kernel⟩
    · exact ⟨w, rfl, .inr (.inl z), by rw [z]; decide +kernel⟩
    · exact ⟨w, rfl, .inr (.inr z), by rw [z]; decide +kernel⟩
  | _ => cases h
theorem isComeD_row {d : PyData} (h : isComeD d = true) : ∃ c, d = (Row.come c).d ∧ (Row.come c).ok := by
  unfold isComeD at h
  split at h
  · rename_i a b c e
    simp only [Bool.and_eq_true] at h
    obtain ⟨⟨⟨h1, h2⟩, h3⟩, h4⟩ := h
    obtain ⟨r, rfl, hr⟩ := isRankD_int h2
    obtain ⟨w, rfl, hw, ow⟩ := isWordB_str h3
    obtain ⟨n, rfl, hn⟩ := isNumD_int h4
    rw [isStrB_str h1]
    exact ⟨⟨r, w, n⟩, rfl, ⟨hn, ow⟩, hr, hw⟩
  · cases h
theorem isLaidD_row {d : PyData} (h : isLaidD d = true) : ∃ r n, d = (Row.laid r n).d ∧ (Row.laid r n).ok := by
  unfold isLaidD at h
  split at h
  · rename_i a b c
    simp only [Bool.and_eq_true] at h
    obtain ⟨⟨h1, h2⟩, h3⟩ := h
    obtain ⟨r, rfl, hr⟩ := isRankD_int h2
    obtain ⟨n, rfl, hn⟩ := isNumD_int h3
    rw [isStrB_str h1]
    exact ⟨r, n, rfl, hr, hn⟩
  · cases h
section
variable {K : PySem.W.Frag} {H : Hp} {Q : VK}
theorem Dg.neStr {v : V} {d : PyData} {z : Str} (D : Dg K H v d) (f : Fine d) (oz : PyData.strOk z = true) (q : Q (.bl (!isStrB z d)) H) : rNeU K v (.str z) H Q := by
  rcases f with ⟨es, rfl⟩ | f
  · cases D with
    | dct s => exact w_neDS s q
  · have hl := SeqAt.canLay_of_shaped f
    have sz : SeqAt.shaped (.str z) = true := lay_shaped ⟨oz, Nat.zero_le _⟩
    cases D with
    | str x => exact w_neS q
    | dct s => cases hl
    | non => exact w_neD .non (.str z) f sz q
    | bl b => exact w_neD (.bl b) (.str z) f sz q
    | int i => exact w_neD (.int i) (.str z) f sz q
    | tup s a => exact w_neD (.tup s (DgAll.dp a hl)) (.str z) f sz q
    | lst s a => exact w_neD (.lst s (DgAll.dp a hl)) (.str z) f sz q
/-- four, three parts -/
theorem DgAll.len4 {vs : List V} {es : List PyData} (a : DgAll K H vs es) (h : es.length = 4) : ∃ v1 v2 v3 v4 d1 d2 d3 d4, vs = [v1, v2, v3, v4] ∧ es = [d1, d2, d3, d4] ∧ Dg K H v1 d1 ∧ Dg K H v2 d2 ∧ Dg K H v3 d3 ∧ Dg K H v4 d4 := by
  cases a with
  | nil => cases h
  | cons a1 a =>
  cases a with
  | nil => cases h
  | cons a2 a =>
  cases a with
  | nil => cases h
  | cons a3 a =>
  cases a with
  | nil => cases h
  | cons a4 a =>
  cases a with
  | nil => exact ⟨_, _, _, _, _, _, _, _, rfl, rfl, a1, a2, a3, a4⟩
  | cons a5 a => simp at h
theorem DgAll.len3 {vs : List V} {es : List PyData} (a : DgAll K H vs es) (h : es.length = 3) : ∃ v1 v2 v3 d1 d2 d3, vs = [v1, v2, v3] ∧ es = [d1, d2, d3] ∧ Dg K H v1 d1 ∧ Dg K H v2 d2 ∧ Dg K H v3 d3 := by
  cases a with
  | nil => cases h
  | cons a1 a =>
  cases a with
  | nil => cases h
  | cons a2 a =>
  cases a with
  | nil => cases h
  | cons a3 a =>
  cases a with
  | nil => exact ⟨_, _, _, _, _, _, rfl, rfl, a1, a2, a3⟩
  | cons a4 a => simp at h
/-- isinstance(x, str) -/
theorem Dg.isStr {v : V} {d : PyData} (D : Dg K H v d) (q : Q (.bl (match d with | .str _ => true | _ => false)) H) : rIsi K [v, .ty "str"] H Q := by
  cases D with
  | non => exact is_non_str q
  | bl b => exact is_bl_str q
  | int i => exact is_int_str q
  | str x => exact is_str_str q
  | tup s _ => exact isT_str s q
  | lst s _ => exact isL_str s q
  | dct s => exact isD_str s q
end
section
variable {P : Program} {w : World} {K : PySem.W.Frag} {mg : Str → Option Value} {base : Heap}
def sp_is_come (K : PySem.W.Frag) : Sp := fun vs H Q _ => ∃ v d, vs = [v] ∧ Dg K H v d ∧ FineT d ∧ Q (.bl (isComeD d)) H
theorem ok_is_come (T : Env K mg) : Fx P w K mg base 4 "is_come" p_is_come (sp_is_come K) := by
  refine T.l_is_come.ok sc_is_come (fun vs H Q E h => ?_) (fun f cdv A outer s H vs Q E hr h => ?_)
  · obtain ⟨v, d, rfl, _⟩ := h
    rfl
  · obtain ⟨v, d, rfl, D, fd, k⟩ := h
    refine ⟨_, (pss_cons (ps_if (PW.pt (pw_or (pt_not (pt_val (pe_callB (call_isiU (K := K) rfl) (by rfl) T.m_isinstance (by decide +kernel) (pa_cons (pv 0) (pa_cons (pe_bltn (v := .ty "tuple") (u := .type "tuple") rfl T.m_tuple (by decide +kernel) rfl) pa_nil))))) (pw_or (pt_cmpR (op_neU (K := K) rfl (u64 hr)) (pe_callB (call_lenU (K := K) rfl) (by rfl) T.m_len (by decide +kernel) (pa_cons (pv 0) pa_nil)) pe_int (nomark _)) (pw_or1 (pt_cmpR (op_neU (K := K) rfl (u64 hr)) (pe_ix (ix_U (K := K) rfl) (pv 0) pe_int (fun _ _ => rfl)) pe_str (nomark _)))))) (pss_one (ps_ret pe_bl)) pss_nil)
      (pss_one (ps_ret (pe_and (pe_fx (ok_is_rank T) hr (by decide) (pa_cons (pe_ix (ix_U (K := K) rfl) (pv 0) pe_int (fun _ _ => rfl)) pa_nil)) (pe_and (pe_callB (call_isiU (K := K) rfl) (by rfl) T.m_isinstance (by decide +kernel) (pa_cons (pe_ix (ix_U (K := K) rfl) (pv 0) pe_int (fun _ _ => rfl)) (pa_cons (pe_bltn (v := .ty "str") (u := .type "str") rfl T.m_str (by decide +kernel) rfl) pa_nil))) (pe_and (pe_cmpR (op_inU (K := K) rfl (u65 hr)) (pe_ix (ix_U (K := K) rfl) (pv 0) pe_int (fun _ _ => rfl)) T.pe_WORDS (by rfl)) (pe_one (pe_fx (ok_is_number T) hr (by decide) (pa_cons (pe_ix (ix_U (K := K) rfl) (pv 0) pe_int (fun _ _ => rfl)) pa_nil))))))))), ?_⟩
    walk_at "go"
    cases D with
    | non => walk_at "go"; exact k
    | bl b => walk_at "go"; exact k
    | int i => walk_at "go"; exact k
    | str x => walk_at "go"; exact k
    | lst s _ => refine isL_tuple s ?_; walk_at "go"; exact k
    | dct s => refine isD_tuple s ?_; walk_at "go"; exact k
    | tup s a =>
      rename_i p vs es
      refine isT_tuple s ?_
      walk_at "go"
      refine w_lenT s ?_
      rw [a.length]
      walk_at "go"
      refine ite_nd (fun h0 => ?_) (fun h0 => ?_)
      · have z : isComeD (.tuple es) = false := by
          unfold isComeD
          split
          · rename_i e
            cases e
            exact absurd rfl h0
          · rfl
        rw [z] at k
        walk_at "go"
        exact k
      · obtain ⟨v1, v2, v3, v4, d1, d2, d3, d4, rfl, rfl, a1, a2, a3, a4⟩ := DgAll.len4 a (by omega)
        have k : Q (.bl (isStrB "come" d1 && isRankD d2 && isWordB d3 && isNumD d4)) H := k
        walk_at "go"
        refine w_ixT s rfl ?_
        walk_at "go"
        refine Dg.neStr a1 (fd _ rfl d1 (by simp)) (by decide +kernel) ?_
        cases e1 : isStrB "come" d1 with
        | false =>
          rw [e1] at k
          walk_at "go"
          exact k
        | true =>
          rw [e1] at k
          walk_at "go"
          refine w_ixT s rfl ?_
          walk_at "go"
          refine ⟨_, _, rfl, a2, ?_⟩
          cases e2 : isRankD d2 with
          | false =>
            rw [e2] at k
            walk_at "go"
            exact k
          | true =>
            rw [e2] at k
            walk_at "go"
            refine w_ixT s rfl ?_
            walk_at "go"
            refine Dg.isStr a3 ?_
            cases a3 with
            | str x =>
              walk_at "go"
              refine w_ixT s rfl ?_
              walk_at "go"
              intro b kb
              refine w_inT (kb _) rfl rfl ?_
              have ex : inV (.str x) [.str "set", .str "add", .str "times"] = isWordB (.str x) := by
                exact inV_words x
              rw [ex]
              cases e3 : isWordB (.str x) with
              | false =>
                rw [e3] at k
                walk_at "go"
                exact k
              | true =>
                rw [e3] at k
                walk_at "go"
                refine w_ixT s rfl ?_
                walk_at "go"
                refine ⟨_, _, rfl, a4, ?_⟩
                walk_at "go"
                exact k
            | non => walk_at "go"; exact k
            | bl b => walk_at "go"; exact k
            | int i => walk_at "go"; exact k
            | tup s _ => walk_at "go"; exact k
            | lst s _ => walk_at "go"; exact k
            | dct s => walk_at "go"; exact k
def sp_is_laid (K : PySem.W.Frag) : Sp := fun vs H Q _ => ∃ v d, vs = [v] ∧ Dg K H v d ∧ FineT d ∧ Q (.bl (isLaidD d)) H
theorem ok_is_laid (T : Env K mg) : Fx P w K mg base 4 "is_laid" p_is_laid (sp_is_laid K) := by
  refine T.l_is_laid.ok sc_is_laid (fun vs H Q E h => ?_) (fun f cdv A outer s H vs Q E hr h => ?_)
  · obtain ⟨v, d, rfl, _⟩ := h
    rfl
  · obtain ⟨v, d, rfl, D, fd, k⟩ := h
    refine ⟨_, (pss_cons (ps_if (PW.pt (pw_or (pt_not (pt_val (pe_callB (call_isiU (K := K) rfl) (by rfl) T.m_isinstance (by decide +kernel) (pa_cons (pv 0) (pa_cons (pe_bltn (v := .ty "tuple") (u := .type "tuple") rfl T.m_tuple (by decide +kernel) rfl) pa_nil))))) (pw_or (pt_cmpR (op_neU (K := K) rfl (u64 hr)) (pe_callB (call_lenU (K := K) rfl) (by rfl) T.m_len (by decide +kernel) (pa_cons (pv 0) pa_nil)) pe_int (nomark _)) (pw_or1 (pt_cmpR (op_neU (K := K) rfl (u64 hr)) (pe_ix (ix_U (K := K) rfl) (pv 0) pe_int (fun _ _ => rfl)) pe_str (nomark _)))))) (pss_one (ps_ret pe_bl)) pss_nil)
      (pss_one (ps_ret (pe_and (pe_fx (ok_is_rank T) hr (by decide) (pa_cons (pe_ix (ix_U (K := K) rfl) (pv 0) pe_int (fun _ _ => rfl)) pa_nil)) (pe_one (pe_fx (ok_is_number T) hr (by decide) (pa_cons (pe_ix (ix_U (K := K) rfl) (pv 0) pe_int (fun _ _ => rfl)) pa_nil))))))), ?_⟩
    walk_at "go"
    cases D with
    | non => walk_at "go"; exact k
    | bl b => walk_at "go"; exact k
    | int i => walk_at "go"; exact k
    | str x => walk_at "go"; exact k
    | lst s _ => refine isL_tuple s ?_; walk_at "go"; exact k
    | dct s => refine isD_tuple s ?_; walk_at "go"; exact k
    | tup s a =>
      rename_i p vs es
      refine isT_tuple s ?_
      walk_at "go"
      refine w_lenT s ?_
      rw [a.length]
      walk_at "go"
      refine ite_nd (fun h0 => ?_) (fun h0 => ?_)
      · have z : isLaidD (.tuple es) = false := by
          unfold isLaidD
          split
          · rename_i e
            cases e
            exact absurd rfl h0
          · rfl
        rw [z] at k
        walk_at "go"
        exact k
      · obtain ⟨v1, v2, v3, d1, d2, d3, rfl, rfl, a1, a2, a3⟩ := DgAll.len3 a (by omega)
        have k : Q (.bl (isStrB "laid" d1 && isRankD d2 && isNumD d3)) H := k
        walk_at "go"
        refine w_ixT s rfl ?_
        walk_at "go"
        refine Dg.neStr a1 (fd _ rfl d1 (by simp)) (by decide +kernel) ?_
        cases e1 : isStrB "laid" d1 with
        | false =>
          rw [e1] at k
          walk_at "go"
          exact k
        | true =>
          rw [e1] at k
          walk_at "go"
          refine w_ixT s rfl ?_
          walk_at "go"
          refine ⟨_, _, rfl, a2, ?_⟩
          cases e2 : isRankD d2 with
          | false =>
            rw [e2] at k
            walk_at "go"
            exact k
          | true =>
            rw [e2] at k
            walk_at "go"
            refine w_ixT s rfl ?_
            walk_at "go"
            refine ⟨_, _, rfl, a3, ?_⟩
            walk_at "go"
            exact k
end
/-- a ledger that is let by -/
def LetsP (b : Int) (d : PyData) : Prop := ∃ xs : List Row, d = .list (xs.map Row.d) ∧ (∀ x ∈ xs, x.ok) ∧ letsB b xs = true
theorem Row.d_inj {x y : Row} (h : x.d = y.d) : x = y := by
  cases x with
  | come c =>
    cases y with
    | come e =>
      have z := h
      simp only [Row.d, PyData.tuple.injEq, List.cons.injEq, PyData.int.injEq, PyData.str.injEq] at z
      obtain ⟨_, h1, h2, h3, _⟩ := z
      cases c; cases e
      simp only at h1 h2 h3
      subst h1 h2 h3
      rfl
    | laid r v => simp [Row.d] at h
  | laid r v =>
    cases y with
    | come e => simp [Row.d] at h
    | laid r' v' =>
      simp only [Row.d, PyData.tuple.injEq, List.cons.injEq, PyData.int.injEq] at h
      obtain ⟨_, h1, h2, _⟩ := h
      subst h1 h2
      rfl
theorem rows_inj : ∀ {xs ys : List Row}, xs.map Row.d = ys.map Row.d → xs = ys
  | [], [], _ => rfl
  | [], _ :: _, h => by cases h
  | _ :: _, [], h => by cases h
  | x :: xs, y :: ys, h => by
    obtain ⟨h1, h2⟩ := List.cons.inj h
    rw [Row.d_inj h1, rows_inj h2]
mutual
def tupd : PyData → Bool
  | .none | .bool _ | .int _ | .str _ => true
  | .tuple es => tupdAll es
  | .list _ | .dict _ => false
def tupdAll : List PyData → Bool
  | [] => true
  | d :: r => tupd d && tupdAll r
end
section
variable {K : PySem.W.Frag} {H : Hp}
mutual
theorem Dg.dt : ∀ {v : V} {d : PyData}, Dg K H v d → tupd d = true → Dt K H v d
  | _, _, .non, _ => .non
  | _, _, .bl b, _ => .bl b
  | _, _, .int i, _ => .int i
  | _, _, .str x, _ => .str x
  | _, _, .tup s a, h => .tup s (DgAll.dt a h)
  | _, _, .lst _ _, h => by cases h
  | _, _, .dct _, h => by cases h
theorem DgAll.dt : ∀ {vs : List V} {ds : List PyData}, DgAll K H vs ds → tupdAll ds = true → DtAll K H vs ds
  | _, _, .nil, _ => .nil
  | _, _, .cons a b, h => by
    have z := Bool.and_eq_true_iff.mp h
    exact .cons (Dg.dt a z.1) (DgAll.dt b z.2)
end
theorem DgAll.take : ∀ {vs : List V} {ds : List PyData} (n : Nat), DgAll K H vs ds → DgAll K H (vs.take n) (ds.take n)
  | _, _, 0, _ => by simpa using DgAll.nil
  | _, _, _ + 1, .nil => by simpa using DgAll.nil
  | _, _, n + 1, .cons a b => by simpa using DgAll.cons a (DgAll.take n b)
theorem DgAll.drop : ∀ {vs : List V} {ds : List PyData} (n : Nat), DgAll K H vs ds → DgAll K H (vs.drop n) (ds.drop n)
  | _, _, 0, h => by simpa using h
  | _, _, _ + 1, .nil => by simpa using DgAll.nil
  | _, _, n + 1, .cons a b => by simpa using DgAll.drop n b
theorem DgAll.append : ∀ {vs us : List V} {ds es : List PyData}, DgAll K H vs ds → DgAll K H us es → DgAll K H (vs ++ us) (ds ++ es)
  | _, _, _, _, .nil, h => h
  | _, _, _, _, .cons a b, h => .cons a (DgAll.append b h)
theorem DgAll.cut {vs : List V} {ds : List PyData} (h : DgAll K H vs ds) (lo hi : Option Int) : DgAll K H (cutV vs lo hi) (cutA ds lo hi) := by
  unfold cutV cutA
  rw [DgAll.length h]
  exact DgAll.take _ (DgAll.drop _ h)
theorem DgAll.at : ∀ {vs : List V} {ds : List PyData} {i : Nat} {d : PyData}, DgAll K H vs ds → ds[i]? = some d → ∃ v, vs[i]? = some v ∧ Dg K H v d
  | _, _, i, _, .nil, h => by simp at h
  | _, _, 0, d, .cons a b, h => by
    simp at h
    subst h
    exact ⟨_, rfl, a⟩
  | _, _, i + 1, d, .cons a b, h => by
    obtain ⟨v, h1, h2⟩ := DgAll.at (i := i) b (by simpa using h)
    exact ⟨v, by simpa using h1, h2⟩
theorem Dg.walkEnum {l : Addr} {vs : List V} {ds : List PyData} {σ : L2.St} {nx b c : L2.St → Hp → Prop} {rt : VK} {g : TG} {tb : TS} (s : SqL K H l vs) (a : DgAll K H vs ds) (Pv : Nat → L2.St → Hp → Prop) (h0 : Pv 0 σ H) (hl : ∀ i σ H', Pv i σ H' → Fr [] H H')
    (hs : ∀ i t v d σ H' H2, ds[i]? = some d → Dg K H2 v d → Fr [] H' H2 → Pv i σ H' → SqT K H2 t [.int i, v] → g (.ref t) σ H2 fun σ2 H3 => tb ⟨Pv (i + 1), rt, nx, Pv (i + 1)⟩ σ2 H3) (hd : ∀ σ H', Pv ds.length σ H' → nx σ H') :
    ∃ a xs, [V.ref l] = [.ref a] ∧ SqL K H a xs ∧ FOR (Ite K a) g tb ⟨nx, rt, b, c⟩ σ H := by
  refine ⟨l, vs, rfl, s, fun i m σ H => m = ds.length - i ∧ i ≤ ds.length ∧ Pv i σ H, ⟨_, rfl, Nat.zero_le _, h0⟩, ?_⟩
  rintro i m σ' H' ⟨rfl, hi, p⟩
  have f := hl i σ' H' p
  have s' := f.seqL s (by simp)
  have a' := a.fr f
  by_cases hlt : i < ds.length
  · obtain ⟨v, hv, dv⟩ := DgAll.at a' (List.getElem?_eq_getElem hlt)
    refine .inr ⟨⟨vs, v, s', hv⟩, Pv (i + 1), fun σ2 H2 p' => ⟨ds.length - (i + 1), by omega, rfl, hlt, p'⟩, fun x H2 y => ?_⟩
    obtain ⟨t, z, e1, ht, e2, y⟩ := y
    subst e1 e2
    have ex : z = v := Option.some.inj ((y vs s').symm.trans hv)
    subst ex
    exact hs i t z _ σ' H' _ (List.getElem?_eq_getElem hlt) (dv.fr (Fr.new ht)) (Fr.new ht) p (.inl (.inl upd_same))
  · have z : i = ds.length := by omega
    subst z
    exact .inl ⟨⟨vs, s', by rw [a'.length]; exact Nat.le_refl _⟩, hd σ' H' p⟩
end
theorem Row.tupd (x : Row) : tupd x.d = true := by cases x <;> rfl
theorem rows_tupd : ∀ xs : List Row, tupdAll (xs.map Row.d) = true
  | [] => rfl
  | x :: xs => by
    rw [List.map_cons]
    show (LW.tupd x.d && tupdAll _) = true
    rw [Row.tupd x, rows_tupd xs]
    rfl
theorem rowFits_left {b : Int} {xs ys : List Row} {i : Nat} (h : i < xs.length) : rowFits b (xs ++ ys) i = rowFits b xs i := by
  unfold rowFits
  rw [List.getElem?_append_left h, List.take_append_of_le_length (Nat.le_of_lt h)]
theorem letsB_come {b : Int} {xs : List Row} {c : Ch} (h : letsB b xs = true) : letsB b (xs ++ [Row.come c]) = true := by
  refine letsB_yes fun i hi => ?_
  rw [List.length_append, List.length_singleton] at hi
  by_cases z : i < xs.length
  · rw [rowFits_left z]
    exact List.all_eq_true.mp h i (List.mem_range.mpr z)
  · have e : i = xs.length := by omega
    subst e
    unfold rowFits
    rw [List.getElem?_append_right (Nat.le_refl _), Nat.sub_self]
    rfl
theorem letsB_laid {b r n : Int} {xs : List Row} (hr : 0 ≤ r) (h : letsB b xs = true) : letsB b (xs ++ [Row.laid r n]) = true ↔ valS b (xs ++ [Row.laid r n]) = n := by
  have g : (xs ++ [Row.laid r n])[xs.length]? = some (.laid r n) := by
    rw [List.getElem?_append_right (Nat.le_refl _), Nat.sub_self]
    rfl
  have e := valS_here (b := b) hr g
  rw [List.take_of_length_le (by rw [List.length_append]; exact Nat.le_refl _), List.take_append_of_le_length (Nat.le_refl _), List.take_length] at e
  have f : rowFits b (xs ++ [Row.laid r n]) xs.length = decide (n = valS b (xs ++ [Row.laid r n])) := by
    unfold rowFits
    rw [g]
    show decide (n = valS b ((xs ++ [Row.laid r n]).take xs.length ++ [.laid r 0])) = _
    rw [List.take_append_of_le_length (Nat.le_refl _), List.take_length, e]
  constructor
  · intro z
    have y := List.all_eq_true.mp z xs.length (List.mem_range.mpr (by rw [List.length_append, List.length_singleton]; omega))
    rw [f] at y
    exact (of_decide_eq_true y).symm
  · intro z
    refine letsB_yes fun i hi => ?_
    rw [List.length_append, List.length_singleton] at hi
    by_cases y : i < xs.length
    · rw [rowFits_left y]
      exact List.all_eq_true.mp h i (List.mem_range.mpr y)
    · have e : i = xs.length := by omega
      subst e
      rw [f]
      exact decide_eq_true z.symm
theorem Row.judged {x : Row} (h : x.ok) : isComeD x.d = true ∨ isLaidD x.d = true := by
  cases x with
  | come c =>
    left
    obtain ⟨⟨b1, _⟩, rk, wd⟩ := h
    show (decide (("come" : Str) = "come") && (decide (1 ≤ c.rank) && decide (c.rank ≤ 3)) && (decide (c.word = "set") || decide (c.word = "add") || decide (c.word = "times")) && (decide (-1000000000 ≤ c.num) && decide (c.num ≤ 1000000000))) = true
    have w2 : (decide (c.word = "set") || decide (c.word = "add") || decide (c.word = "times")) = true := by
      simp only [Bool.or_eq_true, decide_eq_true_eq]
      rcases wd with z | z | z
      · exact .inl (.inl z)
      · exact .inl (.inr z)
      · exact .inr z
    rw [w2, decide_eq_true rk.1, decide_eq_true rk.2, decide_eq_true b1.1, decide_eq_true b1.2, decide_eq_true rfl]
    rfl
  | laid r n =>
    right
    obtain ⟨rk, b1⟩ := h
    show (decide (("laid" : Str) = "laid") && (decide (1 ≤ r) && decide (r ≤ 3)) && (decide (-1000000000 ≤ n) && decide (n ≤ 1000000000))) = true
    rw [decide_eq_true rk.1, decide_eq_true rk.2, decide_eq_true b1.1, decide_eq_true b1.2, decide_eq_true rfl]
    rfl
theorem letsB_take {b : Int} {xs : List Row} {n : Nat} (h : letsB b xs = true) : letsB b (xs.take n) = true := by
  refine letsB_yes fun i hi => ?_
  have hi2 : i < xs.length := by rw [List.length_take] at hi; omega
  have z := List.all_eq_true.mp h i (List.mem_range.mpr hi2)
  have hn : i < n := by rw [List.length_take] at hi; omega
  unfold rowFits at z ⊢
  rw [List.getElem?_take_of_lt hn, List.take_take, Nat.min_eq_left (by omega)]
  exact z
section
variable {P : Program} {w : World} {K : PySem.W.Frag} {mg : Str → Option Value} {base : Heap}
def FineL (d : PyData) : Prop := ∀ ds, d = .list ds → ds.length ≤ 1000 ∧ ∀ e ∈ ds, FineT e
def sp_lets_ledger (K : PySem.W.Frag) : Sp := fun vs H Q _ => ∃ b v d, vs = [.int b, v] ∧ Dg K H v d ∧ FineL d ∧ ∀ H' k, Fr [] H H' → (k = true ↔ LetsP b d) → Q (.bl k) H'
theorem ok_lets_ledger (T : Env K mg) : Fx P w K mg base 5 "lets_ledger" p_lets_ledger (sp_lets_ledger K) := by
  refine T.l_lets_ledger.ok sc_lets_ledger (fun vs H Q E h => ?_) (fun f cdv A outer s H vs Q E hr h => ?_)
  · obtain ⟨b, v, d, rfl, _⟩ := h
    rfl
  · obtain ⟨b, v, d, rfl, D, fd, k⟩ := h
    refine ⟨_, (pss_cons (ps_if (pt_not (pt_val (pe_callB (call_isiU (K := K) rfl) (by rfl) T.m_isinstance (by decide +kernel) (pa_cons (pv 1) (pa_cons (pe_bltn (v := .ty "list") (u := .type "list") rfl T.m_list (by decide +kernel) rfl) pa_nil))))) (pss_one (ps_ret pe_bl)) pss_nil)
      (pss_cons (ps_for PassesOwn.never rfl (pi_enumU (K := K) rfl (by rfl) T.m_enumerate (pa_cons (pv 1) pa_nil)) (pg_tupU (K := K) (n := 2) rfl rfl (pgs_cons (pg_name (i := 2) sc_lets_ledger.nd rfl (Or.inl rfl)) (pgs_cons (pg_name (i := 3) sc_lets_ledger.nd rfl (Or.inl rfl)) pgs_nil))) (pss_one (ps_if (pt_val (pe_fx (ok_is_laid T) hr (by decide) (pa_cons (pv 3) pa_nil))) (pss_one (ps_if (pt_cmpR (op_neU (K := K) rfl (u64 hr)) (pe_fx (ok_value_behind T) hr (by decide) (pa_cons (pv 0) (pa_cons (pe_slice (sl_U (K := K) rfl) (pv 1) po_none (po_some (pe_op (op_addU (K := K) rfl) (pv 2) pe_int))) pa_nil))) (pe_ix (ix_U (K := K) rfl) (pv 3) pe_int (fun _ _ => rfl)) (nomark _)) (pss_one (ps_ret pe_bl)) pss_nil)) (pss_one (ps_if (pt_not (pt_val (pe_fx (ok_is_come T) hr (by decide) (pa_cons (pv 3) pa_nil)))) (pss_one (ps_ret pe_bl)) pss_nil)))))
      (pss_one (ps_ret pe_bl)))), ?_⟩
    have no : ∀ {d : PyData}, (∀ ds, d ≠ .list ds) → (false = true ↔ LetsP b d) := fun h => ⟨fun z => (by cases z), fun ⟨xs, e, _⟩ => absurd e (h _)⟩
    walk_at "go"
    cases D with
    | non => walk_at "go"; exact k H false Fr.refl (no (fun _ h => by cases h))
    | bl b => walk_at "go"; exact k H false Fr.refl (no (fun _ h => by cases h))
    | int i => walk_at "go"; exact k H false Fr.refl (no (fun _ h => by cases h))
    | str x => walk_at "go"; exact k H false Fr.refl (no (fun _ h => by cases h))
    | tup s _ => refine isT_list s ?_; walk_at "go"; exact k H false Fr.refl (no (fun _ h => by cases h))
    | dct s => refine isD_list s ?_; walk_at "go"; exact k H false Fr.refl (no (fun _ h => by cases h))
    | lst s a =>
      rename_i p vs ds
      obtain ⟨ld, fe⟩ := fd ds rfl
      refine isL_list s ?_
      walk_at "go"
      refine Dg.walkEnum s a (fun i σ H' => Fr [] H H' ∧ ∃ (xs : List Row) (v2 v3 : Option V), σ = [some (.int b), some (.ref p), v2, v3] ∧ ds.take i = xs.map Row.d ∧ (∀ x ∈ xs, x.ok) ∧ letsB b xs = true) ⟨Fr.refl, [], _, _, rfl, rfl, by simp, rfl⟩ (fun i σ H' h => h.1) ?_ ?_
      · rintro i t u d σ H' H2 hd du g2 ⟨f', xs, v2, v3, rfl, ex, ox, lx⟩ ht
        have ft : FineT d := fe d (List.mem_of_getElem? hd)
        have lxs : xs.length = i := by
          have z := congrArg List.length ex
          rw [List.length_take, List.length_map] at z
          have := (List.getElem?_eq_some_iff.mp hd).1
          omega
        have etk : ds.take (i + 1) = xs.map Row.d ++ [d] := by rw [List.take_add_one, ex, hd]; rfl
        -- what a ledger let by says of the first rows
        have first : ∀ ys : List Row, ds = ys.map Row.d → ∃ x, d = x.d ∧ ys.take (i + 1) = xs ++ [x] := by
          intro ys e
          have z : ds.take (i + 1) = (ys.take (i + 1)).map Row.d := by rw [e, List.map_take]
          rw [etk] at z
          obtain ⟨x, hx, rfl⟩ := map_get (f := Row.d) (xs := ys) (i := i) (y := d) (by rw [← e]; exact hd)
          refine ⟨x, rfl, rows_inj (xs := ys.take (i + 1)) (ys := xs ++ [x]) ?_⟩
          rw [← z, List.map_append]
          rfl
        refine w_gtup ht rfl ?_
        walk_at "go"
        refine ⟨u, d, rfl, du, ft, ?_⟩
        cases el : isLaidD d with
        | true =>
          obtain ⟨r, n, rfl, okr⟩ := isLaidD_row el
          have hr0 : 0 ≤ r := by have := okr.1.1; omega
          obtain ⟨p3, rfl, hp3⟩ := Row.at_laid (Dg.dt du (Row.tupd _))
          have s2 := (f'.trans g2).seqL s (by simp)
          have a2 := a.fr (f'.trans g2)
          walk_at "go"
          refine w_slL s2 fun l3 nl3 => ?_
          rw [show ((i : Int) + 1) = ((i + 1 : Nat) : Int) by omega, cut_take]
          have g3 : Fr [] H2 (upd H2 l3 (.lst (vs.take (i + 1)))) := Fr.new nl3
          have e3 : upd H2 l3 (.lst (vs.take (i + 1))) l3 = some (.lst (vs.take (i + 1))) := upd_same
          generalize upd H2 l3 (.lst (vs.take (i + 1))) = H3 at g3 e3
          have etk2 : ds.take (i + 1) = (xs ++ [Row.laid r n]).map Row.d := by rw [etk, List.map_append]; rfl
          have L3 : Lq K H3 l3 ((xs ++ [Row.laid r n]).map Row.d) := ⟨_, e3, by
            have z := DgAll.take (i + 1) (a2.fr g3)
            rw [etk2] at z
            exact DgAll.dt z (rows_tupd _)⟩
          walk_at "go"
          have okxs : ∀ x ∈ xs ++ [Row.laid r n], x.ok := fun x hx => by
            rcases List.mem_append.mp hx with z | z
            · exact ox x z
            · rw [List.mem_singleton.mp z]; exact okr
          have fit : letsB b (xs ++ [Row.laid r n]) = true ↔ valS b (xs ++ [Row.laid r n]) = n := letsB_laid hr0 lx
          have li := (List.getElem?_eq_some_iff.mp hd).1
          refine ⟨b, l3, xs ++ [Row.laid r n], rfl, L3, okxs, by rw [List.length_append, lxs]; show i + 1 ≤ 1000; omega, fun H4 g4 => ?_⟩
          walk_at "go"
          refine w_ixT ((g3.trans g4).tu.seqT hp3) rfl ?_
          walk_at "go"
          refine ite_nd (fun h0 => ?_) (fun h0 => ?_)
          · walk_at "go"
            refine k H4 false ((f'.trans g2).trans (g3.trans g4)) ⟨fun z => (by cases z), fun ⟨ys, e, oy, ly⟩ => ?_⟩
            obtain ⟨x, ex', etk'⟩ := first ys (by injection e)
            have z := letsB_take (n := i + 1) ly
            rw [etk', ← Row.d_inj ex'] at z
            exact absurd (fit.mp z) h0
          · walk_at "go"
            exact ⟨(f'.trans g2).trans (g3.trans g4), _, _, _, rfl, etk2, okxs, fit.mpr h0⟩
        | false =>
          walk_at "go"
          refine ⟨u, d, rfl, du, ft, ?_⟩
          cases ec : isComeD d with
          | true =>
            obtain ⟨c, rfl, okc⟩ := isComeD_row ec
            walk_at "go"
            refine ⟨f'.trans g2, xs ++ [Row.come c], _, _, rfl, by rw [etk, List.map_append]; rfl, fun x hx => ?_, ?_⟩
            · rcases List.mem_append.mp hx with z | z
              · exact ox x z
              · rw [List.mem_singleton.mp z]; exact okc
            · exact letsB_come lx
          | false =>
            walk_at "go"
            refine k H2 false (f'.trans g2) ⟨fun z => (by cases z), fun ⟨ys, e, oy, ly⟩ => ?_⟩
            obtain ⟨x, ex', etk'⟩ := first ys (by injection e)
            have mx : x ∈ ys := List.mem_of_mem_take (i := i + 1) (by rw [etk']; simp)
            have okx := oy x mx
            subst ex'
            rcases Row.judged okx with z | z
            · rw [z] at ec; cases ec
            · rw [z] at el; cases el
      · rintro σ H' ⟨f', xs, v2, v3, rfl, ex, ox, lx⟩
        rw [List.take_length] at ex
        walk_at "go"
        exact k H' true f' ⟨fun _ => ⟨xs, by rw [ex], ox, lx⟩, fun _ => rfl⟩
end


section
variable {P : Program} {w : World} {K : PySem.W.Frag} {mg : Str → Option Value} {base : Heap}
def sp_law_come (K : PySem.W.Frag) : Sp := fun vs H Q _ => ∃ (t : Addr) (H0 : Hp), vs = [.ref t] ∧ Tape K H0 H t ∧ ∀ p H' c, Fr [t] H H' → Tape K H0 H' t → Dt K H' (.ref p) (Row.come c).d → (Row.come c).ok → Q (.ref p) H'
theorem ok_law_come (T : Env K mg) : Fx P w K mg base 3 "_law_come" p_law_come (sp_law_come K) := by
  refine T.l_law_come.ok sc_law_come (fun vs H Q E h => ?_) (fun f cdv A outer s H vs Q E hr h => ?_)
  · obtain ⟨t, _, rfl, _⟩ := h
    rfl
  · obtain ⟨t, H0, rfl, T0, k⟩ := h
    refine ⟨_, (pss_cons (ps_set (i := 1) sc_law_come.nd rfl (Or.inl rfl) (pe_ix (ix_U (K := K) rfl) (pe_lst (pa_cons pe_str (pa_cons pe_str (pa_cons pe_str (pa_cons pe_str pa_nil))))) (pe_fx (ok_law_draw T) hr (by decide) (pa_cons (pv 0) (pa_cons pe_int pa_nil))) (fun _ _ => rfl)))
      (pss_one (ps_ret (pe_tup (pa_cons pe_str (pa_cons (pe_op (op_addU (K := K) rfl) pe_int (pe_fx (ok_law_draw T) hr (by decide) (pa_cons (pv 0) (pa_cons pe_int pa_nil)))) (pa_cons (pv 1) (pa_cons (pe_fx (ok_law_number T) hr (by decide) (pa_cons (pv 0) pa_nil)) pa_nil)))))))), ?_⟩
    walk_at "go"
    refine mkS (ns := ["set", "add", "add", "times"]) rfl fun l H1 nl g1 e1 => ?_
    walk_at "go"
    refine ⟨t, 4, H0, rfl, T0.fr g1, by decide, by decide, fun r2 H2 a2 b2 f2 T2 => ?_⟩
    have e2 := f2 _ _ e1 (by simpa using T0.ne nl)
    obtain ⟨wd, hwd, swd⟩ := at_str (ns := ["set", "add", "add", "times"]) (P := fun z => PyData.strOk z = true ∧ isWord z) (by
      intro z hz
      simp only [List.mem_cons, List.not_mem_nil, or_false] at hz
      rcases hz with rfl | rfl | rfl | rfl
      · exact ⟨by decide +kernel, .inl rfl⟩
      · exact ⟨by decide +kernel, .inr (.inl rfl)⟩
      · exact ⟨by decide +kernel, .inr (.inl rfl)⟩
      · exact ⟨by decide +kernel, .inr (.inr rfl)⟩) a2 b2
    refine w_ixL (SqL.of e2) hwd ?_
    walk_at "go"
    refine ⟨t, 3, H0, rfl, T2, by decide, by decide, fun r3 H3 a3 b3 f3 T3 => ?_⟩
    walk_at "go"
    refine ⟨t, H0, rfl, T3, fun m H4 bm f4 T4 => ?_⟩
    walk_at "go"
    refine mkT (K := K) (.cons (.str "come") (.cons (.int (1 + r3)) (.cons (.str wd) (.cons (.int m) .nil)))) fun p H5 np g5 d5 => ?_
    exact k p H5 ⟨1 + r3, wd, m⟩ ((((g1.mono (by simp)).trans f2).trans f3).trans f4 |>.trans (g5.mono (by simp))) (T4.fr g5) d5 ⟨⟨bm, swd.1⟩, ⟨by show 1 ≤ 1 + r3; omega, by show 1 + r3 ≤ 3; omega⟩, swd.2⟩
def sp_law_many (K : PySem.W.Frag) : Sp := fun vs H Q _ => ∃ (t : Addr) (H0 : Hp), vs = [.ref t] ∧ Tape K H0 H t ∧ ∀ n H', 0 ≤ n → n ≤ 48 → Fr [t] H H' → Tape K H0 H' t → Q (.int n) H'
theorem ok_law_many (T : Env K mg) : Fx P w K mg base 2 "_law_many" p_law_many (sp_law_many K) := by
  refine T.l_law_many.ok sc_law_many (fun vs H Q E h => ?_) (fun f cdv A outer s H vs Q E hr h => ?_)
  · obtain ⟨t, _, rfl, _⟩ := h
    rfl
  · obtain ⟨t, H0, rfl, T0, k⟩ := h
    refine ⟨_, (pss_one (ps_ret (pe_ix (ix_U (K := K) rfl) (pe_lst (pa_cons (pe_fx (ok_law_draw T) hr (by decide) (pa_cons (pv 0) (pa_cons pe_int pa_nil))) (pa_cons (pe_fx (ok_law_draw T) hr (by decide) (pa_cons (pv 0) (pa_cons pe_int pa_nil))) (pa_cons (pe_fx (ok_law_draw T) hr (by decide) (pa_cons (pv 0) (pa_cons pe_int pa_nil))) (pa_cons (pe_fx (ok_law_draw T) hr (by decide) (pa_cons (pv 0) (pa_cons pe_int pa_nil))) pa_nil))))) (pe_fx (ok_law_draw T) hr (by decide) (pa_cons (pv 0) (pa_cons pe_int pa_nil))) (fun _ _ => rfl)))), ?_⟩
    walk_at "go"
    refine ⟨t, 3, H0, rfl, T0, by decide, by decide, fun r1 H1 a1 b1 f1 T1 => ?_⟩
    walk_at "go"
    refine ⟨t, 12, H0, rfl, T1, by decide, by decide, fun r2 H2 a2 b2 f2 T2 => ?_⟩
    walk_at "go"
    refine ⟨t, 24, H0, rfl, T2, by decide, by decide, fun r3 H3 a3 b3 f3 T3 => ?_⟩
    walk_at "go"
    refine ⟨t, 49, H0, rfl, T3, by decide, by decide, fun r4 H4 a4 b4 f4 T4 => ?_⟩
    walk_at "go"
    refine mkI (ns := [r1, r2, r3, r4]) rfl fun l H5 nl g5 e5 => ?_
    walk_at "go"
    refine ⟨t, 4, H0, rfl, T4.fr g5, by decide, by decide, fun r6 H6 a6 b6 f6 T6 => ?_⟩
    have e6 := f6 _ _ e5 (by simpa using T4.ne nl)
    obtain ⟨n, hn, hb⟩ := at_all (ns := [r1, r2, r3, r4]) (P := fun r => 0 ≤ r ∧ r ≤ 48) (by
      intro z hz
      simp only [List.mem_cons, List.not_mem_nil, or_false] at hz
      rcases hz with rfl | rfl | rfl | rfl <;> omega) a6 b6
    refine w_ixL (SqL.of e6) hn ?_
    exact k n H6 hb.1 hb.2 (((((f1.trans f2).trans f3).trans f4).trans (g5.mono (by simp))).trans f6) T6

def sp_law_ledger (K : PySem.W.Frag) : Sp := fun vs H Q _ => ∃ (t : Addr) (b : Int) (H0 : Hp), vs = [.ref t, .int b] ∧ Tape K H0 H t ∧ (-1000000000 ≤ b ∧ b ≤ 1000000000) ∧
  ∀ q H' (xs : List Row), H q = none → Fr [t] H H' → Tape K H0 H' t → Lq K H' q (xs.map Row.d) → (∀ x ∈ xs, x.ok) → xs.length ≤ 48 → Right b xs → Q (.ref q) H'
theorem ok_law_ledger (T : Env K mg) : Fx P w K mg base 4 "_law_ledger" p_law_ledger (sp_law_ledger K) := by
  refine T.l_law_ledger.ok sc_law_ledger (fun vs H Q E h => ?_) (fun f cdv A outer s H vs Q E hr h => ?_)
  · obtain ⟨t, b, _, rfl, _⟩ := h
    rfl
  · obtain ⟨t, b, H0, rfl, T0, bb, k⟩ := h
    refine ⟨_, (pss_cons (ps_set (i := 2) sc_law_ledger.nd rfl (Or.inl rfl) (pe_lst pa_nil))
      (pss_cons (ps_for PassesOwn.never rfl (pi_range1 rfl T.m_range (pa_cons (pe_fx (ok_law_many T) hr (by decide) (pa_cons (pv 0) pa_nil)) pa_nil)) (pg_name (i := 3) sc_law_ledger.nd rfl (Or.inl rfl)) (pss_one (ps_if (pt_cmpR op_gt (pe_fx (ok_law_draw T) hr (by decide) (pa_cons (pv 0) (pa_cons pe_int pa_nil))) pe_int (nomark _)) (pss_one (ps_expr (pe_bm PySem.F.plainAttrs_list PySem.F.slot_list_append PySem.F.type_list_append mt_append (pv 2) (pa_cons (pe_fx (ok_law_come T) hr (by decide) (pa_cons (pv 0) pa_nil)) pa_nil)))) (pss_cons (ps_set (i := 4) sc_law_ledger.nd rfl (Or.inl rfl) (pe_op (op_addU (K := K) rfl) pe_int (pe_fx (ok_law_draw T) hr (by decide) (pa_cons (pv 0) (pa_cons pe_int pa_nil)))))
      (pss_one (ps_expr (pe_bm PySem.F.plainAttrs_list PySem.F.slot_list_append PySem.F.type_list_append mt_append (pv 2) (pa_cons (pe_tup (pa_cons pe_str (pa_cons (pv 4) (pa_cons (pe_fx (ok_law_laid T) hr (by decide) (pa_cons (pv 1) (pa_cons (pe_op (op_addU (K := K) rfl) (pv 2) (pe_lst (pa_cons (pe_tup (pa_cons pe_str (pa_cons (pv 4) (pa_cons pe_int pa_nil)))) pa_nil))) pa_nil))) pa_nil)))) pa_nil))))))))
      (pss_one (ps_ret (pv 2))))), ?_⟩
    walk_at "go"
    refine mkL (K := K) .nil fun q H1 nq g1 L1 => ?_
    have nqt : q ≠ t := T0.ne nq
    have q0 : H0 q = none := T0.no nq
    walk_at "go"
    refine ⟨t, H0, rfl, T0.fr g1, fun n H2 n0 n48 f2 T2 => ?_⟩
    have L2 := L1.fr f2 (by simpa using nqt) ((T0.fr g1).tu f2)
    refine F_R1 n.toNat rfl (by omega) (by omega) (fun i σ H' => Fr [t] H H' ∧ Tape K H0 H' t ∧ ∃ (xs : List Row) (v3 v4 : Option V), σ = [some (.ref t), some (.int b), some (.ref q), v3, v4] ∧ Lq K H' q (xs.map Row.d) ∧ (∀ x ∈ xs, x.ok) ∧ xs.length = i ∧ Right b xs) ?_ ?_ ?_
    · exact ⟨(g1.mono (by simp)).trans f2, T2, [], _, _, rfl, L2, by simp, rfl, Right.nil⟩
    · rintro i σ H' hi ⟨f', T', xs, v3, v4, rfl, L', ok, lx, rt⟩
      walk_at "go"
      refine ⟨t, 3, H0, rfl, T', by decide, by decide, fun r3 H3 a3 b3 f3 T3 => ?_⟩
      have L3 := L'.fr f3 (by simpa using nqt) (T'.tu f3)
      have f03 := f'.trans f3
      walk_at "go"
      refine ite_d (fun h0 => ?_) (fun h0 => ?_)
      · walk_at "go"
        refine ⟨L3.ty, ?_⟩
        walk_at "go"
        refine ⟨t, H0, rfl, T3, fun p H4 c f4 T4 d4 okc => ?_⟩
        have L4 := L3.fr f4 (by simpa using nqt) (T3.tu f4)
        walk_at "go"
        refine L4.app d4 (by rw [List.length_map]; omega) fun H5 f5 tu5 L5 => ?_
        refine ⟨Fr.drop1 nq (f03.trans f4) f5, T4.fr1 f5 nqt q0, xs ++ [.come c], _, _, rfl, by rw [List.map_append]; exact L5, ?_, by simp [lx], rt.snoc (fun r v e => by cases e)⟩
        intro x hx
        rcases List.mem_append.mp hx with z | z
        · exact ok x z
        · rw [List.mem_singleton.mp z]; exact okc
      · walk_at "go"
        refine ⟨t, 3, H0, rfl, T3, by decide, by decide, fun r4 H4 a4 b4 f4 T4 => ?_⟩
        have L4 := L3.fr f4 (by simpa using nqt) (T3.tu f4)
        have f04 := f03.trans f4
        walk_at "go"
        refine ⟨L4.ty, ?_⟩
        walk_at "go"
        refine mkT (K := K) (.cons (.str "laid") (.cons (.int (1 + r4)) (.cons (.int 0) .nil))) fun p5 H5 np5 g5 d5 => ?_
        walk_at "go"
        refine mkL (.cons d5 .nil) fun l6 H6 nl6 g6 L6 => ?_
        walk_at "go"
        refine (L4.fr0 (g5.trans g6)).cat L6 (by rw [List.length_map]; show _ + 1 ≤ _; omega) fun l7 H7 nl7 g7 L7 => ?_
        walk_at "go"
        have okr : (Row.laid (1 + r4) 0).ok := ⟨⟨by omega, by omega⟩, by decide, by decide⟩
        have ok7 : ∀ x ∈ xs ++ [.laid (1 + r4) 0], Row.ok x := by
          intro x hx
          rcases List.mem_append.mp hx with z | z
          · exact ok x z
          · rw [List.mem_singleton.mp z]; exact okr
        refine ⟨b, l7, xs ++ [.laid (1 + r4) 0], rfl, by rw [List.map_append]; exact L7, ok7, by rw [List.length_append]; show _ + 1 ≤ _; omega, fun H8 g8 => ?_⟩
        have bv := valS_bd (xs ++ [.laid (1 + r4) 0]) b bb ok7
        walk_at "go"
        refine mkT (K := K) (.cons (.str "laid") (.cons (.int (1 + r4)) (.cons (.int (valS b (xs ++ [.laid (1 + r4) 0]))) .nil))) fun p9 H9 np9 g9 d9 => ?_
        walk_at "go"
        have f49 := (((g5.trans g6).trans g7).trans g8).trans g9
        refine (L4.fr0 f49).app d9 (by rw [List.length_map]; omega) fun H10 f10 tu10 L10 => ?_
        refine ⟨Fr.drop1 nq (f04.trans (f49.mono (by simp))) f10, (T4.fr f49).fr1 f10 nqt q0, xs ++ [.laid (1 + r4) (valS b (xs ++ [.laid (1 + r4) 0]))], _, _, rfl, by rw [List.map_append]; exact L10, ?_, by simp [lx], rt.snoc (fun r v e => by
          injection e with e1 e2
          subst e1
          exact e2.symm)⟩
        intro x hx
        rcases List.mem_append.mp hx with z | z
        · exact ok x z
        · rw [List.mem_singleton.mp z]; exact ⟨⟨by omega, by omega⟩, bv⟩
    · rintro σ H' ⟨f', T', xs, v3, v4, rfl, L', ok, lx, rt⟩
      walk_at "go"
      exact k q H' xs nq f' T' L' ok (by omega) rt

end

section
variable {P : Program} {w : World} {K : PySem.W.Frag} {mg : Str → Option Value} {base : Heap}
theorem inV_34 (n : Nat) : inV (.int n) [.int 3, .int 4] = (decide (n = 3) || decide (n = 4)) := by
  show ((3 : Int) == (n : Int) || ((4 : Int) == (n : Int) || false)) = _
  rw [Bool.or_false]
  congr 1
  · rw [Bool.eq_iff_iff, beq_iff_eq, decide_eq_true_eq]; omega
  · rw [Bool.eq_iff_iff, beq_iff_eq, decide_eq_true_eq]; omega
theorem notLaid4 {a b c e : PyData} : isLaidD (.tuple [a, b, c, e]) = false := rfl
theorem notCome3 {a b c : PyData} : isComeD (.tuple [a, b, c]) = false := rfl
def sp_law_is_ledger_row (K : PySem.W.Frag) : Sp := fun vs H Q _ => ∃ v d, vs = [v] ∧ Dg K H v d ∧ FineT d ∧ ∀ H', Fr [] H H' → Q (.bl (isComeD d || isLaidD d)) H'
theorem ok_law_is_ledger_row (T : Env K mg) : Fx P w K mg base 3 "_law_is_ledger_row" p_law_is_ledger_row (sp_law_is_ledger_row K) := by
  refine T.l_law_is_ledger_row.ok sc_law_is_ledger_row (fun vs H Q E h => ?_) (fun f cdv A outer s H vs Q E hr h => ?_)
  · obtain ⟨v, d, rfl, _⟩ := h
    rfl
  · obtain ⟨v, d, rfl, D, fd, k⟩ := h
    refine ⟨_, (pss_cons (ps_if (PW.pt (pw_or (pt_not (pt_val (pe_callB (call_isiU (K := K) rfl) (by rfl) T.m_isinstance (by decide +kernel) (pa_cons (pv 0) (pa_cons (pe_bltn (v := .ty "tuple") (u := .type "tuple") rfl T.m_tuple (by decide +kernel) rfl) pa_nil))))) (pw_or (pt_cmpR (op_ninU (K := K) rfl (u65 hr)) (pe_callB (call_lenU (K := K) rfl) (by rfl) T.m_len (by decide +kernel) (pa_cons (pv 0) pa_nil)) (pe_tup (pa_cons pe_int (pa_cons pe_int pa_nil))) (by rfl)) (pw_or1 (pt_not (pt_val (pe_callB (call_isiU (K := K) rfl) (by rfl) T.m_isinstance (by decide +kernel) (pa_cons (pe_ix (ix_U (K := K) rfl) (pv 0) pe_int (fun _ _ => rfl)) (pa_cons (pe_bltn (v := .ty "str") (u := .type "str") rfl T.m_str (by decide +kernel) rfl) pa_nil))))))))) (pss_one (ps_ret pe_bl)) pss_nil)
      (pss_cons (ps_if (pt_not (pt_val (pe_fx (ok_law_is_rank T) hr (by decide) (pa_cons (pe_ix (ix_U (K := K) rfl) (pv 0) pe_int (fun _ _ => rfl)) pa_nil)))) (pss_one (ps_ret pe_bl)) pss_nil)
      (pss_cons (ps_if (pt_cmpR (op_eqU (K := K) rfl (u64 hr)) (pe_callB (call_lenU (K := K) rfl) (by rfl) T.m_len (by decide +kernel) (pa_cons (pv 0) pa_nil)) pe_int (nomark _)) (pss_one (ps_ret (pe_and (pe_cmpR (op_eqU (K := K) rfl (u64 hr)) (pe_ix (ix_U (K := K) rfl) (pv 0) pe_int (fun _ _ => rfl)) pe_str (nomark _)) (pe_one (pe_fx (ok_law_is_number T) hr (by decide) (pa_cons (pe_ix (ix_U (K := K) rfl) (pv 0) pe_int (fun _ _ => rfl)) pa_nil)))))) pss_nil)
      (pss_cons (ps_if (PW.pt (pw_or (pt_cmpR (op_neU (K := K) rfl (u64 hr)) (pe_ix (ix_U (K := K) rfl) (pv 0) pe_int (fun _ _ => rfl)) pe_str (nomark _)) (pw_or (pt_not (pt_val (pe_callB (call_isiU (K := K) rfl) (by rfl) T.m_isinstance (by decide +kernel) (pa_cons (pe_ix (ix_U (K := K) rfl) (pv 0) pe_int (fun _ _ => rfl)) (pa_cons (pe_bltn (v := .ty "str") (u := .type "str") rfl T.m_str (by decide +kernel) rfl) pa_nil))))) (pw_or1 (pt_cmpR (op_ninU (K := K) rfl (u65 hr)) (pe_ix (ix_U (K := K) rfl) (pv 0) pe_int (fun _ _ => rfl)) (pe_tup (pa_cons pe_str (pa_cons pe_str (pa_cons pe_str pa_nil)))) (by rfl)))))) (pss_one (ps_ret pe_bl)) pss_nil)
      (pss_one (ps_ret (pe_fx (ok_law_is_number T) hr (by decide) (pa_cons (pe_ix (ix_U (K := K) rfl) (pv 0) pe_int (fun _ _ => rfl)) pa_nil)))))))), ?_⟩
    walk_at "go"
    cases D with
    | non => walk_at "go"; exact k H Fr.refl
    | bl b => walk_at "go"; exact k H Fr.refl
    | int i => walk_at "go"; exact k H Fr.refl
    | str x => walk_at "go"; exact k H Fr.refl
    | lst s _ => refine isL_tuple s ?_; walk_at "go"; exact k H Fr.refl
    | dct s => refine isD_tuple s ?_; walk_at "go"; exact k H Fr.refl
    | tup s a =>
      rename_i p vs es
      refine isT_tuple s ?_
      walk_at "go"
      refine w_lenT s ?_
      rw [a.length]
      walk_at "go"
      refine mkT (K := K) (.cons (.int 3) (.cons (.int 4) .nil)) fun p1 H1 np1 g1 d1 => ?_
      obtain ⟨p2, x2, y2, e2, hp2, dx2, dy2⟩ := dt2 d1
      cases e2
      cases dx2.of_int
      cases dy2.of_int
      refine w_ninT hp2 rfl rfl ?_
      rw [inV_34]
      have s1 := g1.seqT s (by simp)
      have a1 := a.fr g1
      clear a s
      by_cases h3 : es.length = 3
      · obtain ⟨v1, v2, v3, d1', d2, d3, rfl, rfl, b1, b2, b3⟩ := DgAll.len3 a1 h3
        rw [show (!(decide (([d1', d2, d3] : List PyData).length = 3) || decide (([d1', d2, d3] : List PyData).length = 4))) = false from rfl]
        walk_at "go"
        refine w_ixT s1 rfl ?_
        walk_at "go"
        refine Dg.isStr b1 ?_
        have k : ∀ H', Fr [] H H' → Q (.bl (false || (isStrB "laid" d1' && isRankD d2 && isNumD d3))) H' := k
        cases b1 with
        | str x =>
          walk_at "go"
          refine w_ixT s1 rfl ?_
          walk_at "go"
          refine ⟨_, _, rfl, b2, ?_⟩
          cases e2 : isRankD d2 with
          | false =>
            rw [e2, Bool.and_false, Bool.false_and] at k
            walk_at "go"
            exact k _ g1
          | true =>
            rw [e2, Bool.and_true, Bool.false_or] at k
            walk_at "go"
            refine w_lenT s1 ?_
            walk_at "go"
            refine ite_d (fun _ => ?_) (fun z => absurd rfl z)
            walk_at "go"
            refine w_ixT s1 rfl ?_
            walk_at "go"
            have k : ∀ H', Fr [] H H' → Q (.bl (decide (x = "laid") && isNumD d3)) H' := k
            refine ite_d (fun h0 => ?_) (fun h0 => ?_)
            · rw [decide_eq_true h0, Bool.true_and] at k
              walk_at "go"
              refine w_ixT s1 rfl ?_
              walk_at "go"
              refine ⟨_, _, rfl, b3, ?_⟩
              walk_at "go"
              exact k _ g1
            · rw [decide_eq_false h0, Bool.false_and] at k
              exact k _ g1
        | non => walk_at "go"; exact k _ g1
        | bl b => walk_at "go"; exact k _ g1
        | int i => walk_at "go"; exact k _ g1
        | tup s _ => walk_at "go"; exact k _ g1
        | lst s _ => walk_at "go"; exact k _ g1
        | dct s => walk_at "go"; exact k _ g1
      · by_cases h4 : es.length = 4
        · obtain ⟨v1, v2, v3, v4, d1', d2, d3, d4, rfl, rfl, b1, b2, b3, b4⟩ := DgAll.len4 a1 h4
          rw [show (!(decide (([d1', d2, d3, d4] : List PyData).length = 3) || decide (([d1', d2, d3, d4] : List PyData).length = 4))) = false from rfl]
          walk_at "go"
          refine w_ixT s1 rfl ?_
          walk_at "go"
          refine Dg.isStr b1 ?_
          have k : ∀ H', Fr [] H H' → Q (.bl ((isStrB "come" d1' && isRankD d2 && isWordB d3 && isNumD d4) || false)) H' := k
          cases b1 with
          | str x =>
            walk_at "go"
            refine w_ixT s1 rfl ?_
            walk_at "go"
            refine ⟨_, _, rfl, b2, ?_⟩
            cases e2 : isRankD d2 with
            | false =>
              rw [e2, Bool.and_false, Bool.false_and, Bool.false_and] at k
              walk_at "go"
              exact k _ g1
            | true =>
              rw [e2, Bool.and_true, Bool.or_false] at k
              have k : ∀ H', Fr [] H H' → Q (.bl (decide (x = "come") && isWordB d3 && isNumD d4)) H' := k
              walk_at "go"
              refine w_lenT s1 ?_
              walk_at "go"
              refine ite_d (fun z => absurd z (by show ¬ ((4 : Nat) : Int) = 3; decide)) (fun _ => ?_)
              walk_at "go"
              refine w_ixT s1 rfl ?_
              walk_at "go"
              refine ite_nd (fun h0 => ?_) (fun h0 => ?_)
              · rw [decide_eq_false h0, Bool.false_and, Bool.false_and] at k
                walk_at "go"
                exact k _ g1
              · rw [decide_eq_true h0, Bool.true_and] at k
                walk_at "go"
                refine w_ixT s1 rfl ?_
                walk_at "go"
                refine Dg.isStr b3 ?_
                cases b3 with
                | str y =>
                  walk_at "go"
                  refine w_ixT s1 rfl ?_
                  walk_at "go"
                  refine mkT (K := K) (.cons (.str "set") (.cons (.str "add") (.cons (.str "times") .nil))) fun p3 H3 np3 g3 d3 => ?_
                  obtain ⟨p4, x4, y4, z4, e4, hp4, dx4, dy4, dz4⟩ := dt3 d3
                  cases e4
                  cases dx4.of_str
                  cases dy4.of_str
                  cases dz4.of_str
                  refine w_ninT hp4 rfl rfl ?_
                  rw [inV_words]
                  cases e3 : isWordB (.str y) with
                  | false =>
                    rw [e3] at k
                    walk_at "go"
                    exact k _ (g1.trans g3)
                  | true =>
                    rw [e3, Bool.true_and] at k
                    walk_at "go"
                    refine w_ixT (g3.tu.seqT s1) rfl ?_
                    walk_at "go"
                    refine ⟨_, _, rfl, b4.fr g3, ?_⟩
                    walk_at "go"
                    exact k _ (g1.trans g3)
                | non => walk_at "go"; exact k _ g1
                | bl b => walk_at "go"; exact k _ g1
                | int i => walk_at "go"; exact k _ g1
                | tup s _ => walk_at "go"; exact k _ g1
                | lst s _ => walk_at "go"; exact k _ g1
                | dct s => walk_at "go"; exact k _ g1
          | non => walk_at "go"; exact k _ g1
          | bl b => walk_at "go"; exact k _ g1
          | int i => walk_at "go"; exact k _ g1
          | tup s _ => walk_at "go"; exact k _ g1
          | lst s _ => walk_at "go"; exact k _ g1
          | dct s => walk_at "go"; exact k _ g1
        · rw [decide_eq_false h3, decide_eq_false h4]
          have z : (isComeD (.tuple es) || isLaidD (.tuple es)) = false := by
            unfold isComeD isLaidD
            split
            · rename_i e
              cases e
              exact absurd rfl h4
            · split
              · rename_i e
                cases e
                exact absurd rfl h3
              · rfl
          rw [z] at k
          walk_at "go"
          exact k _ g1
end

section
variable {K : PySem.W.Frag}
theorem LCB {q : Addr} {H : Hp} {vs : List V} {ds : List PyData} {j : Nat} {ws : List Nat} {σ : L2.St} {te : TE} {Q : VK} (s : SqL K H q vs) (a : DgAll K H vs ds) (ld : ds.length ≤ 100000) (f : PyData → Bool)
    (hw : ∀ x, wipe ((wipe σ ws).set j (some x)) ws = wipe σ ws)
    (he : ∀ d x H', d ∈ ds → Fr [] H H' → Dg K H' x d → ∀ Q : VK, (∀ H2, Fr [] H' H2 → Q (.bl (f d)) H2) → te ((wipe σ ws).set j (some x)) H' Q)
    (k : ∀ D H', H D = none → Fr [] H H' → Lq K H' D ((ds.map f).map PyData.bool) → Q (.ref D) H') :
    ∃ a', V.ref q = .ref a' ∧ (∃ ys, SqL K H a' ys) ∧ ∀ D, H D = none → LC (Itl K a') (gName j) tYes te ws σ D Q (upd H D (.lst [])) := by
  have lu := DgAll.length a
  refine LC_L s fun D hD => LC_by (a := q) (xs := vs) (fun i H' => Fr [] H H' ∧ Lq K H' D (((ds.take i).map f).map PyData.bool)) ⟨Fr.new hD, [], upd_same, .nil⟩ (fun i H' _ h => h.1.seqL s (by simp)) ?_ ?_
  · rintro i x H' hx ⟨f', ys, hys, dys⟩
    obtain ⟨d, h1, h2⟩ := DgAll.get (a.fr f') hx
    have hi : i < vs.length := (List.getElem?_eq_some_iff.mp hx).1
    have ly : ys.length ≤ i := by
      rw [dys.length, List.length_map, List.length_map, List.length_take]
      omega
    refine ⟨hw x, w_yes (iteT ?_)⟩
    refine he d x H' (List.mem_of_getElem? h1) f' h2 _ fun H2 f2 => ?_
    have e3 := f2 _ _ hys (by simp)
    refine ⟨ys, e3, Nat.lt_of_le_of_lt (show ys.length ≤ 100000 by omega) (by decide), Fr.new_mut hD ((f'.trans f2).mono (by simp) |>.trans (Fr.mut (by simp))), _, upd_same, ?_⟩
    rw [List.take_add_one, h1, List.map_append, List.map_append]
    exact ((dys.mono f2.tu).append (.cons (.bl _) .nil)).mono (Tu.mut e3)
  · rintro H' ⟨f', L⟩
    rw [lu, List.take_length] at L
    exact k D H' hD f' L
end
theorem rows_of : ∀ {ds : List PyData}, (∀ d ∈ ds, (isComeD d || isLaidD d) = true) → ∃ xs : List Row, ds = xs.map Row.d ∧ ∀ x ∈ xs, x.ok
  | [], _ => ⟨[], rfl, by simp⟩
  | d :: r, h => by
    obtain ⟨xs, e, o⟩ := rows_of (ds := r) fun x hx => h x (by simp [hx])
    have z := h d (by simp)
    have one : ∃ x : Row, d = x.d ∧ x.ok := by
      cases e1 : isComeD d with
      | true =>
        obtain ⟨c, e2, o2⟩ := isComeD_row e1
        exact ⟨_, e2, o2⟩
      | false =>
        rw [e1, Bool.false_or] at z
        obtain ⟨r', n, e2, o2⟩ := isLaidD_row z
        exact ⟨_, e2, o2⟩
    obtain ⟨x, e2, o2⟩ := one
    exact ⟨x :: xs, by rw [List.map_cons, ← e2, ← e], fun y hy => by
      rcases List.mem_cons.mp hy with rfl | hy
      · exact o2
      · exact o y hy⟩
section
variable {P : Program} {w : World} {K : PySem.W.Frag} {mg : Str → Option Value} {base : Heap}
def sp_law_lets (K : PySem.W.Frag) : Sp := fun vs H Q _ => ∃ b v d, vs = [.int b, v] ∧ Dg K H v d ∧ FineL d ∧ ∀ H' k, Fr [] H H' → (k = true ↔ LetsP b d) → Q (.bl k) H'
theorem ok_law_lets (T : Env K mg) : Fx P w K mg base 4 "_law_lets" p_law_lets (sp_law_lets K) := by
  refine T.l_law_lets.ok sc_law_lets (fun vs H Q E h => ?_) (fun f cdv A outer s H vs Q E hr h => ?_)
  · obtain ⟨b, v, d, rfl, _⟩ := h
    rfl
  · obtain ⟨b, v, d, rfl, D, fd, k⟩ := h
    refine ⟨_, (pss_cons (ps_if (PW.pt (pw_or (pt_not (pt_val (pe_callB (call_isiU (K := K) rfl) (by rfl) T.m_isinstance (by decide +kernel) (pa_cons (pv 1) (pa_cons (pe_bltn (v := .ty "list") (u := .type "list") rfl T.m_list (by decide +kernel) rfl) pa_nil))))) (pw_or1 (pt_not (pt_val (pe_callB (call_allU (K := K) rfl rfl) (by rfl) T.m_all (by decide +kernel) (pa_cons (pe_lc (own := [("_law_row", 3)]) (g := (gName 3)) (tt := tYes) rfl sc_law_lets.nd (pi_listU (K := K) rfl (pv 1)) (blkOk_by (N := N_law_lets) (sc := defScope s_law_lets) (by decide +kernel)) (fun _ _ _ _ _ => (pg_name (i := 3) sc_law_lets.nd rfl (Or.inl rfl))) (fun _ _ _ _ _ => pts_nil) (fun _ _ _ _ _ => (pe_fx (ok_law_is_ledger_row T) hr (by decide) (pa_cons (pv 3) pa_nil)))) pa_nil))))))) (pss_one (ps_ret pe_bl)) pss_nil)
      (pss_cons (ps_for PassesOwn.never rfl (pi_range1 rfl T.m_range (pa_cons (pe_callB (call_lenU (K := K) rfl) (by rfl) T.m_len (by decide +kernel) (pa_cons (pv 1) pa_nil)) pa_nil)) (pg_name (i := 2) sc_law_lets.nd rfl (Or.inl rfl)) (pss_one (ps_if (PW.pt (pw_and (pt_cmpR (op_eqU (K := K) rfl (u64 hr)) (pe_ix (ix_U (K := K) rfl) (pe_ix (ix_U (K := K) rfl) (pv 1) (pv 2) (fun _ _ => rfl)) pe_int (fun _ _ => rfl)) pe_str (nomark _)) (pw_and1 (pt_cmpR (op_neU (K := K) rfl (u64 hr)) (pe_ix (ix_U (K := K) rfl) (pe_ix (ix_U (K := K) rfl) (pv 1) (pv 2) (fun _ _ => rfl)) pe_int (fun _ _ => rfl)) (pe_fx (ok_law_laid T) hr (by decide) (pa_cons (pv 0) (pa_cons (pe_slice (sl_U (K := K) rfl) (pv 1) po_none (po_some (pe_op (op_addU (K := K) rfl) (pv 2) pe_int))) pa_nil))) (nomark _))))) (pss_one (ps_ret pe_bl)) pss_nil)))
      (pss_one (ps_ret pe_bl)))), ?_⟩
    have no : ∀ {d : PyData}, (∀ ds, d ≠ .list ds) → (false = true ↔ LetsP b d) := fun h => ⟨fun z => (by cases z), fun ⟨xs, e, _⟩ => absurd e (h _)⟩
    walk_at "go"
    cases D with
    | non => walk_at "go"; exact k H false Fr.refl (no (fun _ h => by cases h))
    | bl b => walk_at "go"; exact k H false Fr.refl (no (fun _ h => by cases h))
    | int i => walk_at "go"; exact k H false Fr.refl (no (fun _ h => by cases h))
    | str x => walk_at "go"; exact k H false Fr.refl (no (fun _ h => by cases h))
    | tup s _ => refine isT_list s ?_; walk_at "go"; exact k H false Fr.refl (no (fun _ h => by cases h))
    | dct s => refine isD_list s ?_; walk_at "go"; exact k H false Fr.refl (no (fun _ h => by cases h))
    | lst s a =>
      rename_i q vs ds
      obtain ⟨ld, fe⟩ := fd ds rfl
      refine isL_list s ?_
      walk_at "go"
      refine LCB s a (by omega) (fun d => isComeD d || isLaidD d) (fun _ => rfl) ?_ fun D H1 nD f1 L1 => ?_
      · intro d x H' hd f' dx Q' kq
        walk_at "go"
        refine ⟨x, d, rfl, dx, fe d hd, fun H5 g5 => ?_⟩
        exact kq _ g5
      · walk_at "go"
        refine L1.allB ?_
        cases eall : (ds.map fun d => isComeD d || isLaidD d).all id with
        | false =>
          walk_at "go"
          refine k H1 false f1 ⟨fun z => (by cases z), fun ⟨ys, e, oy, _⟩ => ?_⟩
          have e' : ds = ys.map Row.d := by injection e
          rw [List.all_map, List.all_eq_false] at eall
          obtain ⟨d, hd, hn⟩ := eall
          rw [e'] at hd
          obtain ⟨y, hy, rfl⟩ := List.mem_map.mp hd
          rcases Row.judged (oy y hy) with z | z
          · exact absurd (show (isComeD y.d || isLaidD y.d) = true by rw [z]; rfl) hn
          · exact absurd (show (isComeD y.d || isLaidD y.d) = true by rw [z, Bool.or_true]) hn
        | true =>
          rw [List.all_map, List.all_eq_true] at eall
          obtain ⟨xs, rfl, ok⟩ := rows_of (ds := ds) eall
          have lx : xs.length ≤ 1000 := by rw [List.length_map] at ld; exact ld
          have fin : ∀ (H' : Hp) (c : Bool), Fr [] H H' → letsB b xs = c → Q (.bl c) H' := fun H' c f' e => k H' c f' ⟨fun z => ⟨xs, rfl, ok, by rw [e]; exact z⟩, fun ⟨ys, e2, _, l2⟩ => by
            rw [← e, rows_inj (xs := xs) (ys := ys) (by injection e2)]
            exact l2⟩
          walk_at "go"
          have s1 := f1.seqL s (by simp)
          have da : DtAll K H vs (xs.map Row.d) := DgAll.dt a (rows_tupd xs)
          refine w_lenL s1 ?_
          rw [da.length, List.length_map]
          refine F_R1 xs.length (by omega) (by omega) (by omega) (fun i σ H' => Fr [] H H' ∧ (∀ j, j < i → rowFits b xs j = true) ∧ ∃ (v2 v3 : Option V), σ = [some (.int b), some (.ref q), v2, v3]) ⟨f1, by intro j hj; omega, _, _, rfl⟩ ?_ ?_
          · rintro i σ H' hi ⟨f', fits, v2, v3, rfl⟩
            have hx : xs[i]? = some xs[i] := List.getElem?_eq_getElem hi
            have okx := ok _ (List.getElem_mem hi)
            generalize xs[i] = x at hx okx
            have s' := f'.seqL s (by simp)
            have d' := da.mono f'.tu
            have hd : (xs.map Row.d)[i]? = some x.d := by rw [List.getElem?_map, hx]; rfl
            have at_ : ∀ {H2 : Hp} {Q2 : VK}, Fr [] H' H2 → (∀ u, Dt K H2 u x.d → Q2 u H2) → rIx K (.ref q) (.int i) H2 Q2 := by
              intro H2 Q2 f2 q2
              obtain ⟨u, hu, du⟩ := (d'.mono f2.tu).get' hd
              exact w_ixL (f2.seqL s' (by simp)) (atI_nat hu) (q2 u du)
            walk_at "go"
            refine at_ Fr.refl fun u du => ?_
            cases x with
            | come c =>
              obtain ⟨p, rfl, hp⟩ := Row.at_come du
              have fit : rowFits b xs i = true := by
                unfold rowFits
                rw [hx]
              walk_at "go"
              refine w_ixT hp rfl ?_
              walk_at "go"
              refine ite_d (fun h0 => absurd h0 (by decide +kernel)) (fun _ => ?_)
              walk_at "go"
              exact ⟨f', fun j hj => by
                by_cases z : j = i
                · rw [z]; exact fit
                · exact fits j (by omega), _, _, rfl⟩
            | laid r n =>
              obtain ⟨p, rfl, hp⟩ := Row.at_laid du
              have hr0 : 0 ≤ r := by have := okx.1.1; omega
              have fit : rowFits b xs i = decide (n = valS b (xs.take i ++ [Row.laid r 0])) := by
                unfold rowFits
                rw [hx]
              walk_at "go"
              refine w_ixT hp rfl ?_
              walk_at "go"
              refine ite_d (fun _ => ?_) (fun h0 => absurd rfl h0)
              walk_at "go"
              refine at_ Fr.refl fun u2 du2 => ?_
              obtain ⟨p2, rfl, hp2⟩ := Row.at_laid du2
              walk_at "go"
              refine w_ixT hp2 rfl ?_
              walk_at "go"
              refine w_slL s' fun l3 nl3 => ?_
              rw [show ((i : Int) + 1) = ((i + 1 : Nat) : Int) by omega, cut_take]
              have g3 : Fr [] H' (upd H' l3 (.lst (vs.take (i + 1)))) := Fr.new nl3
              have e3 : upd H' l3 (.lst (vs.take (i + 1))) l3 = some (.lst (vs.take (i + 1))) := upd_same
              generalize upd H' l3 (.lst (vs.take (i + 1))) = H3 at g3 e3
              have L3 : Lq K H3 l3 ((xs.take (i + 1)).map Row.d) := ⟨_, e3, by rw [List.map_take]; exact (d'.mono g3.tu).take (i + 1)⟩
              walk_at "go"
              refine ⟨b, l3, xs.take (i + 1), rfl, L3, fun y hy => ok y (List.mem_of_mem_take hy), by rw [List.length_take]; omega, fun H4 g4 => ?_⟩
              rw [valS_here hr0 hx]
              walk_at "go"
              refine ite_nd (fun h0 => ?_) (fun h0 => ?_)
              · rw [decide_eq_false h0] at fit
                walk_at "go"
                exact fin H4 false (f'.trans (g3.trans g4)) (letsB_no hi fit)
              · rw [decide_eq_true h0] at fit
                walk_at "go"
                exact ⟨f'.trans (g3.trans g4), fun j hj => by
                  by_cases z : j = i
                  · rw [z]; exact fit
                  · exact fits j (by omega), _, _, rfl⟩
          · rintro σ H' ⟨f', fits, v2, v3, rfl⟩
            walk_at "go"
            exact fin H' true f' (letsB_yes fits)
end

theorem strOk_ofString (s : String) : PyData.strOk (PySem.Str.ofString s) = true := by
  rw [PySem.Str.ofString_eq_toList]
  refine strOk_mem.mpr fun c hc => ?_
  rw [List.toList_toArray] at hc
  obtain ⟨ch, _, rfl⟩ := List.mem_map.mp hc
  have z := ch.valid
  show ch.val.toNat < 0x110000
  rcases z with z | z
  · exact Nat.lt_of_lt_of_le z (by decide)
  · exact z.2
theorem fine_of {d : PyData} {n : Nat} (h : d.canLay0 = true ∧ d.depth ≤ n) (hn : n ≤ 64) : Fine d := .inr (lay_shaped ⟨h.1, Nat.le_trans h.2 hn⟩)
section
variable {P : Program} {w : World} {K : PySem.W.Frag} {mg : Str → Option Value} {base : Heap}
/-- what a row's part is -/
def PartOf (v : V) : Prop := (∃ i : Int, v = .int i ∧ -2000000000 ≤ i ∧ i ≤ 2000000000) ∨ ∃ x, v = .str x
def sp_law_odd (K : PySem.W.Frag) : Sp := fun vs H Q _ => ∃ (t : Addr) (v : V) (H0 : Hp), vs = [.ref t, v] ∧ Tape K H0 H t ∧ PartOf v ∧ ∀ u d H', Fr [t] H H' → Tape K H0 H' t → Dg K H' u d → Fine d → Q u H'
theorem ok_law_odd (T : Env K mg) : Fx P w K mg base 2 "_law_odd" p_law_odd (sp_law_odd K) := by
  refine T.l_law_odd.ok sc_law_odd (fun vs H Q E h => ?_) (fun f cdv A outer s H vs Q E hr h => ?_)
  · obtain ⟨t, v, _, rfl, _⟩ := h
    rfl
  · obtain ⟨t, v, H0, rfl, T0, hpv, k⟩ := h
    refine ⟨_, (pss_cons (ps_set (i := 2) sc_law_odd.nd rfl (Or.inl rfl) (pe_lst (pa_cons pe_bl (pa_cons pe_bl (pa_cons pe_non (pa_cons pe_str (pa_cons pe_str (pa_cons pe_str (pa_cons pe_int (pa_cons pe_int (pa_cons (pe_op (op_addU (K := K) rfl) (pe_op op_pow pe_int pe_int) pe_int) (pa_cons (pe_op op_sub (pe_un un_neg (pe_op op_pow pe_int pe_int)) pe_int) (pa_cons (pe_tup (pa_cons pe_int pa_nil)) (pa_cons (pe_lst (pa_cons pe_int pa_nil)) (pa_cons pe_dnewK (pa_cons pe_str pa_nil))))))))))))))))
      (pss_cons (ps_if (PW.pt (pw_and (pt_val (pe_callB (call_isiU (K := K) rfl) (by rfl) T.m_isinstance (by decide +kernel) (pa_cons (pv 1) (pa_cons (pe_bltn (v := .ty "int") (u := .type "int") rfl T.m_int (by decide +kernel) rfl) pa_nil)))) (pw_and1 (pt_cmpR (op_eqU (K := K) rfl (u64 hr)) (pe_fx (ok_law_draw T) hr (by decide) (pa_cons (pv 0) (pa_cons pe_int pa_nil))) pe_int (nomark _))))) (pss_one (ps_ret (pe_ix (ix_U (K := K) rfl) (pe_lst (pa_cons (pe_cmpR (op_eqU (K := K) rfl (u64 hr)) (pv 1) pe_int (nomark _)) (pa_cons (pe_callTy call_str_int (by rfl) T.m_str (by decide +kernel) (pa_cons (pv 1) pa_nil)) (pa_cons (pe_tup (pa_cons (pv 1) pa_nil)) (pa_cons (pe_op (op_addU (K := K) rfl) (pv 1) pe_int) pa_nil))))) (pe_fx (ok_law_draw T) hr (by decide) (pa_cons (pv 0) (pa_cons pe_int pa_nil))) (fun _ _ => rfl)))) pss_nil)
      (pss_one (ps_ret (pe_ix (ix_U (K := K) rfl) (pv 2) (pe_fx (ok_law_draw T) hr (by decide) (pa_cons (pv 0) (pa_cons pe_int pa_nil))) (fun _ _ => rfl)))))), ?_⟩
    walk_at "go"
    refine mkT (K := K) (.cons (.int 1) .nil) fun p1 H1 n1 f1 d1 => ?_
    walk_at "go"
    refine mkL (K := K) (.cons (.int 1) .nil) fun p2 H2 n2 f2 L2' => ?_
    walk_at "go"
    refine mkD fun p3 H3 n3 f3 e3 => ?_
    walk_at "go"
    refine ⟨by exact Nat.le_of_ble_eq_true rfl, fun p4 n4 => ?_⟩
    generalize e4 : upd H3 p4 _ = H4
    have f4 : Fr [] H3 H4 := by rw [← e4]; exact Fr.new n4
    have e4 : H4 p4 = some (.lst [.bl true, .bl false, .non, .str "1", .str "set ", .str "Set", .int 0, .int 4, .int 1000000001, .int (-1000000001), .ref p1, .ref p2, .ref p3, .str "come"]) := by rw [← e4]; exact upd_same
    have T1 := T0.fr f1
    have T2 := T1.fr f2
    have T3 := T2.fr f3
    have T4 := T3.fr f4
    have f04 : Fr [] H H4 := ((f1.trans f2).trans f3).trans f4
    -- the end: one of fourteen
    have last : ∀ H5, Fr [t] H4 H5 → Tape K H0 H5 t → ∀ r, 0 ≤ r → r < 14 → ∀ H6, Fr [t] H5 H6 → Tape K H0 H6 t → rIx K (.ref p4) (.int r) H6 Q := by
      intro H5 f5 T5 r a b H6 f6 T6
      have f46 := f5.trans f6
      have tu := T4.tu f46
      have e6 := f46 _ _ e4 (by simpa using T3.ne n4)
      have c1 := (d1.mono ((f2.trans f3).trans f4).tu).mono tu
      have c2 := (L2'.fr0 (f3.trans f4)).fr f46 (by simpa using T1.ne n2) tu
      have c3 := f46 _ _ (f4 _ _ e3 (by simp)) (by simpa using T2.ne n3)
      have kk : ∀ u d, Dg K H6 u d → Fine d → Q u H6 := fun u d => k u d H6 ((f04.mono (by simp)).trans f46) T6
      have ks : ∀ s : Str, PyData.strOk s = true → Fine (.str s) := fun s h => fine_of (n := 0) ⟨h, Nat.le_refl _⟩ (by decide)
      have ki : ∀ i : Int, Fine (.int i) := fun i => fine_of (n := 0) ⟨rfl, Nat.le_refl _⟩ (by decide)
      rcases (by omega : r = 0 ∨ r = 1 ∨ r = 2 ∨ r = 3 ∨ r = 4 ∨ r = 5 ∨ r = 6 ∨ r = 7 ∨ r = 8 ∨ r = 9 ∨ r = 10 ∨ r = 11 ∨ r = 12 ∨ r = 13) with rfl | rfl | rfl | rfl | rfl | rfl | rfl | rfl | rfl | rfl | rfl | rfl | rfl | rfl
      · exact w_ixL (SqL.of e6) rfl (kk _ _ (.bl _) (fine_of (n := 0) ⟨rfl, Nat.le_refl _⟩ (by decide)))
      · exact w_ixL (SqL.of e6) rfl (kk _ _ (.bl _) (fine_of (n := 0) ⟨rfl, Nat.le_refl _⟩ (by decide)))
      · exact w_ixL (SqL.of e6) rfl (kk _ _ .non (fine_of (n := 0) ⟨rfl, Nat.le_refl _⟩ (by decide)))
      · exact w_ixL (SqL.of e6) rfl (kk _ _ (.str _) (ks _ (by decide +kernel)))
      · exact w_ixL (SqL.of e6) rfl (kk _ _ (.str _) (ks _ (by decide +kernel)))
      · exact w_ixL (SqL.of e6) rfl (kk _ _ (.str _) (ks _ (by decide +kernel)))
      · exact w_ixL (SqL.of e6) rfl (kk _ _ (.int _) (ki _))
      · exact w_ixL (SqL.of e6) rfl (kk _ _ (.int _) (ki _))
      · exact w_ixL (SqL.of e6) rfl (kk _ _ (.int _) (ki _))
      · exact w_ixL (SqL.of e6) rfl (kk _ _ (.int _) (ki _))
      · exact w_ixL (SqL.of e6) rfl (kk _ _ c1.dg (fine_of (n := 1) ⟨rfl, by decide⟩ (by decide)))
      · exact w_ixL (SqL.of e6) rfl (kk _ _ c2.dg (fine_of (n := 1) ⟨rfl, by decide⟩ (by decide)))
      · exact w_ixL (SqL.of e6) rfl (kk _ _ (.dct (es := []) c3) (.inl ⟨_, rfl⟩))
      · exact w_ixL (SqL.of e6) rfl (kk _ _ (.str _) (ks _ (by decide +kernel)))
    walk_at "go"
    have fourteen : ∀ H5, Fr [t] H4 H5 → Tape K H0 H5 t → sp_law_draw K [.ref t, .int 14] H5 (fun y H2 => rIx K (.ref p4) y H2 Q) E0 := by
      intro H5 f5 T5
      exact ⟨t, 14, H0, rfl, T5, by decide, by decide, fun r6 H6 a6 b6 f6 T6 => last H5 f5 T5 r6 a6 b6 H6 f6 T6⟩
    rcases hpv with ⟨i, rfl, b1, b2⟩ | ⟨x, rfl⟩
    · walk_at "go"
      refine ⟨t, 2, H0, rfl, T4, by decide, by decide, fun r5 H5 a5 b5 f5 T5 => ?_⟩
      walk_at "go"
      refine ite_d (fun h0 => ?_) (fun h0 => ?_)
      · walk_at "go"
        refine ⟨i, rfl, ?_, ?_⟩
        · refine Nat.lt_of_le_of_lt (m := 64) ?_ (by decide)
          by_cases z : i.natAbs = 0
          · rw [z]; decide
          · exact Nat.le_of_lt ((Nat.log2_lt z).mpr (Nat.lt_of_le_of_lt (show i.natAbs ≤ 2000000000 by omega) (by decide)))
        walk_at "go"
        refine mkT (K := K) (.cons (.int i) .nil) fun p6 H6 n6 f6 d6 => ?_
        have T6 := T5.fr f6
        walk_at "go"
        refine mkL (K := K) (.cons (.bl _) (.cons (.str _) (.cons d6 (.cons (.int (i + 4)) .nil)))) fun l7 H7 n7 f7 L7 => ?_
        have T7 := T6.fr f7
        walk_at "go"
        refine ⟨t, 4, H0, rfl, T7, by decide, by decide, fun r8 H8 a8 b8 f8 T8 => ?_⟩
        have L8 := L7.fr f8 (by simpa using T6.ne n7) (T7.tu f8)
        walk_at "go"
        refine L8.at (P := Fine) (by
          intro d hd
          simp only [List.mem_cons, List.not_mem_nil, or_false] at hd
          rcases hd with rfl | rfl | rfl | rfl
          · exact fine_of (n := 0) ⟨rfl, Nat.le_refl _⟩ (by decide)
          · exact fine_of (n := 0) ⟨strOk_ofString _, Nat.le_refl _⟩ (by decide)
          · exact fine_of (n := 1) ⟨rfl, by exact Nat.le_refl _⟩ (by decide)
          · exact fine_of (n := 0) ⟨rfl, Nat.le_refl _⟩ (by decide)) a8 (by simpa using b8) fun u d du fd _ => ?_
        exact k u d H8 (((f04.mono (by simp)).trans f5).trans (((f6.trans f7).mono (by simp)).trans f8)) T8 du.dg fd
      · walk_at "go"
        exact fourteen H5 f5 T5
    · walk_at "go"
      exact fourteen H4 Fr.refl T4
end

def Row.es : Row → List PyData
  | .come c => [.str "come", .int c.rank, .str c.word, .int c.num]
  | .laid r v => [.str "laid", .int r, .int v]
theorem Row.d_es (x : Row) : x.d = .tuple x.es := by cases x <;> rfl
theorem Row.es_part {x : Row} (o : x.ok) : ∀ e ∈ x.es, Fine e ∧ ∀ (K : PySem.W.Frag) H v, Dt K H v e → PartOf v := by
  have fi : ∀ i : Int, Fine (.int i) := fun i => fine_of (n := 0) ⟨rfl, Nat.le_refl _⟩ (by decide)
  have fs : ∀ s : Str, PyData.strOk s = true → Fine (.str s) := fun s h => fine_of (n := 0) ⟨h, Nat.le_refl _⟩ (by decide)
  have pi : ∀ i : Int, -2000000000 ≤ i → i ≤ 2000000000 → ∀ (K : PySem.W.Frag) H v, Dt K H v (.int i) → PartOf v := fun i a b K H v d => .inl ⟨i, d.of_int, a, b⟩
  have ps : ∀ s : Str, ∀ (K : PySem.W.Frag) H v, Dt K H v (.str s) → PartOf v := fun s K H v d => .inr ⟨s, d.of_str⟩
  intro e he
  cases x with
  | come c =>
    obtain ⟨⟨b1, b2⟩, rk, wd⟩ := o
    simp only [Row.es, List.mem_cons, List.not_mem_nil, or_false] at he
    rcases he with rfl | rfl | rfl | rfl
    · exact ⟨fs _ (by decide +kernel), ps _⟩
    · exact ⟨fi _, pi _ (by omega) (by omega)⟩
    · exact ⟨fs _ b2, ps _⟩
    · exact ⟨fi _, pi _ (by omega) (by omega)⟩
  | laid r n =>
    obtain ⟨rk, b1⟩ := o
    simp only [Row.es, List.mem_cons, List.not_mem_nil, or_false] at he
    rcases he with rfl | rfl | rfl
    · exact ⟨fs _ (by decide +kernel), ps _⟩
    · exact ⟨fi _, pi _ (by omega) (by omega)⟩
    · exact ⟨fi _, pi _ (by omega) (by omega)⟩
theorem Row.es_len (x : Row) : 3 ≤ x.es.length ∧ x.es.length ≤ 4 := by cases x <;> exact ⟨by exact Nat.le_of_ble_eq_true rfl, by exact Nat.le_of_ble_eq_true rfl⟩
section
variable {K : PySem.W.Frag} {H : Hp}
theorem Dg.tuple {v : V} {ds : List PyData} (h : Dg K H v (.tuple ds)) : ∃ p vs, v = .ref p ∧ SqT K H p vs ∧ DgAll K H vs ds := by
  cases h with
  | tup s a => exact ⟨_, _, rfl, s, a⟩
theorem Dg.cat {v u : V} {ds es : List PyData} {Q : VK} (h : Dg K H v (.tuple ds)) (h' : Dg K H u (.tuple es)) (n : ds.length + es.length ≤ 1000) (q : ∀ p H', Fr [] H H' → Dg K H' (.ref p) (.tuple (ds ++ es)) → Q (.ref p) H') : rAddU K v u H Q := by
  obtain ⟨p, vs, rfl, s, a⟩ := Dg.tuple h
  obtain ⟨p', us, rfl, s', a'⟩ := Dg.tuple h'
  refine .inr (.inl ⟨p, p', vs, us, rfl, rfl, s, s', Nat.le_trans (show _ ≤ 1000 by rw [DgAll.length a, DgAll.length a']; exact n) (by decide), fun z => ?_, fun _ z => ?_, fun _ _ r hr => ?_⟩)
  · subst z
    cases a
    exact q p' H Fr.refl h'
  · subst z
    cases a'
    refine q p H Fr.refl ?_
    rw [List.append_nil]
    exact h
  · exact q r _ (Fr.new hr) (.tup (.inl (.inl upd_same)) (DgAll.fr (Fr.new hr) (DgAll.append a a')))
theorem mkTg {xs : List V} {ds : List PyData} {Q : VK} (d : DgAll K H xs ds) (q : ∀ p H', H p = none → Fr [] H H' → Dg K H' (.ref p) (.tuple ds) → Q (.ref p) H') (n : xs.length ≤ 1000 := by exact Nat.le_of_ble_eq_true rfl) : MkT xs Q H :=
  ⟨Nat.le_trans n (by decide), fun p hp => q p _ hp (Fr.new hp) (.tup (.inl (.inl upd_same)) (DgAll.fr (Fr.new hp) d))⟩
end
section
variable {P : Program} {w : World} {K : PySem.W.Frag} {mg : Str → Option Value} {base : Heap}
def sp_law_bent (K : PySem.W.Frag) : Sp := fun vs H Q _ => ∃ (t : Addr) (v : V) (x : Row) (H0 : Hp), vs = [.ref t, v] ∧ Tape K H0 H t ∧ Dt K H v x.d ∧ x.ok ∧ ∀ u d H', Fr [t] H H' → Tape K H0 H' t → Dg K H' u d → FineT d → Q u H'
theorem ok_law_bent (T : Env K mg) : Fx P w K mg base 3 "_law_bent" p_law_bent (sp_law_bent K) := by
  refine T.l_law_bent.ok sc_law_bent (fun vs H Q E h => ?_) (fun f cdv A outer s H vs Q E hr h => ?_)
  · obtain ⟨t, v, x, _, rfl, _⟩ := h
    rfl
  · obtain ⟨t, v, x, H0, rfl, T0, dx, ox, k⟩ := h
    have part := Row.es_part ox
    have elen := Row.es_len x
    rw [Row.d_es] at dx
    generalize x.es = es at dx part elen
    obtain ⟨p, vs, rfl, s0, a0⟩ := dx.tuple
    refine ⟨_, (pss_cons (ps_set (i := 2) sc_law_bent.nd rfl (Or.inl rfl) (pe_fx (ok_law_draw T) hr (by decide) (pa_cons (pv 0) (pa_cons (pe_callB (call_lenU (K := K) rfl) (by rfl) T.m_len (by decide +kernel) (pa_cons (pv 1) pa_nil)) pa_nil))))
      (pss_cons (ps_set (i := 3) sc_law_bent.nd rfl (Or.inl rfl) (pe_fx (ok_law_draw T) hr (by decide) (pa_cons (pv 0) (pa_cons pe_int pa_nil))))
      (pss_cons (ps_if (pt_cmpR (op_eqU (K := K) rfl (u64 hr)) (pv 3) pe_int (nomark _)) (pss_one (ps_ret (pe_callTy (call_listU (K := K) rfl) (by rfl) T.m_list (by decide +kernel) (pa_cons (pv 1) pa_nil)))) pss_nil)
      (pss_cons (ps_if (pt_cmpR (op_eqU (K := K) rfl (u64 hr)) (pv 3) pe_int (nomark _)) (pss_one (ps_ret (pe_op (op_addU (K := K) rfl) (pe_slice (sl_U (K := K) rfl) (pv 1) po_none (po_some (pv 2))) (pe_slice (sl_U (K := K) rfl) (pv 1) (po_some (pe_op (op_addU (K := K) rfl) (pv 2) pe_int)) po_none)))) pss_nil)
      (pss_cons (ps_if (pt_cmpR (op_eqU (K := K) rfl (u64 hr)) (pv 3) pe_int (nomark _)) (pss_one (ps_ret (pe_op (op_addU (K := K) rfl) (pe_op (op_addU (K := K) rfl) (pe_slice (sl_U (K := K) rfl) (pv 1) po_none (po_some (pv 2))) (pe_tup (pa_cons (pe_fx (ok_law_odd T) hr (by decide) (pa_cons (pv 0) (pa_cons (pe_ix (ix_U (K := K) rfl) (pv 1) (pv 2) (fun _ _ => rfl)) pa_nil))) pa_nil))) (pe_slice (sl_U (K := K) rfl) (pv 1) (po_some (pv 2)) po_none)))) pss_nil)
      (pss_one (ps_ret (pe_op (op_addU (K := K) rfl) (pe_op (op_addU (K := K) rfl) (pe_slice (sl_U (K := K) rfl) (pv 1) po_none (po_some (pv 2))) (pe_tup (pa_cons (pe_fx (ok_law_odd T) hr (by decide) (pa_cons (pv 0) (pa_cons (pe_ix (ix_U (K := K) rfl) (pv 1) (pv 2) (fun _ _ => rfl)) pa_nil))) pa_nil))) (pe_slice (sl_U (K := K) rfl) (pv 1) (po_some (pe_op (op_addU (K := K) rfl) (pv 2) pe_int)) po_none))))))))), ?_⟩
    walk_at "go"
    refine w_lenT s0 ?_
    rw [a0.length]
    walk_at "go"
    refine ⟨t, es.length, H0, rfl, T0, by omega, by omega, fun at' H1 b1 c1 f1 T1 => ?_⟩
    walk_at "go"
    refine ⟨t, 6, H0, rfl, T1, by decide, by decide, fun way H2 b2 c2 f2 T2 => ?_⟩
    have d2 := (dx.mono (T0.tu f1)).mono (T1.tu f2)
    have f02 := f1.trans f2
    have hat : es[at'.toNat]? = some (es[at'.toNat]'(by omega)) := List.getElem?_eq_getElem (by omega)
    generalize es[at'.toNat]'(by omega) = eat at hat
    have ha : at' = ((at'.toNat : Nat) : Int) := by omega
    have peat := part eat (List.mem_of_getElem? hat)
    walk_at "go"
    refine ite_d (fun h0 => ?_) (fun h0 => ?_)
    · walk_at "go"
      obtain ⟨p', vs', e', s2, a2⟩ := d2.tuple
      cases e'
      refine w_listT s2 fun l nl => ?_
      have g3 : Fr [] H2 (upd H2 l (.lst vs')) := Fr.new nl
      exact k _ (.list es) _ (f02.trans (g3.mono (by simp))) (T2.fr g3) (.lst (SqL.of upd_same) (DgAll.fr g3 a2.dg)) (fun _ e => by cases e)
    · walk_at "go"
      refine ite_d (fun h1 => ?_) (fun h1 => ?_)
      · walk_at "go"
        refine d2.slice fun p3 H3 f3 d3 => ?_
        walk_at "go"
        refine (d2.mono f3.tu).slice fun p4 H4 f4 d4 => ?_
        have l1 := cutA_len (xs := es) (lo := none) (hi := some at')
        have l2 := cutA_len (xs := es) (lo := some (at' + 1)) (hi := none)
        refine (d3.mono f4.tu).cat d4 (by omega) fun p5 H5 f5 d5 => ?_
        have f25 := (f3.trans f4).trans f5
        refine k _ _ H5 (f02.trans (f25.mono (by simp))) (T2.fr f25) d5.dg (fun es' e d hd => ?_)
        cases e
        rcases List.mem_append.mp hd with z | z
        · exact (part d (cutA_mem z)).1
        · exact (part d (cutA_mem z)).1
      · have tail : ∀ (lo : Option Int) H4 (u3 : V), Fr [t] H H4 → Tape K H0 H4 t → Dt K H4 (.ref p) (.tuple es) → (∃ d3, Dg K H4 u3 (.tuple d3) ∧ d3.length ≤ 5 ∧ ∀ e ∈ d3, Fine e) → rSlU K (.ref p) lo none H4 fun y H5 => rAddU K u3 y H5 Q := by
          intro lo H4 u3 f4 T4 d4 ⟨d3, g3, l3, fd⟩
          refine d4.slice fun p5 H5 f5 d5 => ?_
          have l2 := cutA_len (xs := es) (lo := lo) (hi := none)
          refine Dg.cat (g3.fr f5) d5.dg (by omega) fun p6 H6 f6 d6 => ?_
          have f46 := f5.trans f6
          refine k _ _ H6 (f4.trans (f46.mono (by simp))) (T4.fr f46) d6 (fun es' e d hd => ?_)
          cases e
          rcases List.mem_append.mp hd with z | z
          · exact fd d z
          · exact (part d (cutA_mem z)).1
        have l1 := cutA_len (xs := es) (lo := none) (hi := some at')
        walk_at "go"
        refine ite_d (fun h2 => ?_) (fun h2 => ?_)
        all_goals
          walk_at "go"
          refine d2.slice fun p3 H3 f3 d3 => ?_
          walk_at "go"
          refine Dt.ix at'.toNat (d2.mono f3.tu) hat (fun u du => ?_) ha
          walk_at "go"
          refine ⟨t, u, H0, rfl, T2.fr f3, peat.2 K _ _ du, fun o od H4 f4 T4 go fo => ?_⟩
          have tu4 := (T2.fr f3).tu f4
          walk_at "go"
          refine mkTg (K := K) (.cons go .nil) fun p5 H5 n5 f5 d5 => ?_
          walk_at "go"
          refine Dg.cat ((d3.mono tu4).mono f5.tu).dg d5 (by show _ + 1 ≤ 1000; omega) fun p6 H6 f6 d6 => ?_
          have f36 : Fr [t] H3 H6 := f4.trans ((f5.trans f6).mono (by simp))
          walk_at "go"
          refine tail _ H6 _ ((f02.trans (f3.mono (by simp))).trans f36) (T4.fr (f5.trans f6)) ((d2.mono f3.tu).mono (tu4.trans (f5.trans f6).tu)) ⟨_, d6, by rw [List.length_append]; show _ + 1 ≤ 5; omega, fun e he => ?_⟩
          rcases List.mem_append.mp he with z | z
          · exact (part e (cutA_mem z)).1
          · rw [List.mem_singleton.mp z]; exact fo
end

def sp_law (K : PySem.W.Frag) : Sp := fun vs H Q _ => ∃ (a : Addr) (ns : List Int), vs = [.ref a] ∧ SqL K H a (ns.map V.int) ∧ ns.length ≤ 63 ∧ ∀ H', Q (.bl true) H'

section
variable {P : Program} {w : World} {K : PySem.W.Frag} {mg : Str → Option Value} {base : Heap}
theorem w_pairs {σ : L2.St} {H : Hp} {tk tv : TE} {r : List (TE × TE)} {Q : List (V × V) → Hp → Prop} (q : tk σ H fun x H1 => tv σ H1 fun y H2 => tPairs r σ H2 fun ps H3 => Q ((x, y) :: ps) H3) : tPairs ((tk, tv) :: r) σ H Q := q
theorem w_pnil {σ : L2.St} {H : Hp} {Q : List (V × V) → Hp → Prop} (q : Q [] H) : tPairs [] σ H Q := q
theorem w_disp {σ : L2.St} {H : Hp} {trs : List (TE × TE)} {Q : VK} (q : ∀ p, H p = none → tPairs trs σ (upd H p (.dK [])) fun ps H2 => H2 p = some (.dK []) ∧ ∃ kvs : List (Key × V), ps = kvs.map (fun kv => (kV kv.1, kv.2)) ∧ kvs.length ≤ 15 ∧ Q (.ref p) (upd H2 p (.dK (mergeK [] kvs)))) : tDisp trs σ H Q := q
theorem notLets {b : Int} {e : PyData} (h : ∀ x : Row, e ≠ x.d) : ¬ LetsP b (.list [e]) := fun ⟨xs, ex, _⟩ => by
  have z : [e] = xs.map Row.d := by injection ex
  cases xs with
  | nil => cases z
  | cons x r => exact h x (List.cons.inj z).1
theorem notLetsN {b : Int} {d : PyData} (h : ∀ ds, d ≠ .list ds) : ¬ LetsP b d := fun ⟨xs, ex, _⟩ => h _ ex
theorem Lq.setLast {H : Hp} {l : Addr} {ds : List PyData} {d0 d : PyData} {y : V} {Q : Hp → Prop} (h : Lq K H l (ds ++ [d0])) (hy : Dt K H y d) (q : ∀ H', Fr [l] H H' → Tu H H' → Lq K H' l (ds ++ [d]) → Q H') : rSetL (.ref l) (.int (-1)) y H Q := by
  obtain ⟨vs, e, a⟩ := h
  have lv := a.length
  rw [List.length_append, List.length_singleton] at lv
  have ej : ixN vs.length (-1) = some ds.length := by
    unfold ixN
    rw [if_neg (by decide), if_pos (by omega)]
    congr 1
    omega
  refine w_setL e ej (q _ (Fr.mut (by simp)) (Tu.mut e) ⟨_, upd_same, ?_⟩)
  have z : vs.set ds.length y = vs.take ds.length ++ [y] := by
    rw [List.set_eq_take_append_cons_drop, if_pos (by omega), List.drop_eq_nil_of_le (by omega)]
  rw [z]
  have t := a.take ds.length
  rw [List.take_append_of_le_length (Nat.le_refl _), List.take_length] at t
  exact (t.append (.cons hy .nil)).mono (Tu.mut e)
theorem ok_law (T : Env K mg) {f : Addr} {fd : FuncData} (F : Fun K "law" "law" s_law f fd) : FnOk P w K mg base CX0 6 f fd p_law (sp_law K) := by
  refine F.ok sc_law (fun vs H Q E h => ?_) (fun cdv A outer s H vs Q E hr h => ?_)
  · obtain ⟨a, ns, rfl, _⟩ := h
    rfl
  · obtain ⟨a, ns, rfl, hS, hl, k⟩ := h
    refine ⟨_, (pss_cons (ps_set (i := 1) sc_law.nd rfl (Or.inl rfl) (pe_fx (ok_law_tape T) hr (by decide) (pa_cons (pv 0) pa_nil)))
      (pss_cons (ps_set (i := 2) sc_law.nd rfl (Or.inl rfl) (pe_fx (ok_law_number T) hr (by decide) (pa_cons (pv 1) pa_nil)))
      (pss_cons (ps_set (i := 3) sc_law.nd rfl (Or.inl rfl) (pe_op (op_addU (K := K) rfl) (pe_fx (ok_law_ledger T) hr (by decide) (pa_cons (pv 1) (pa_cons (pv 2) pa_nil))) (pe_lst (pa_cons (pe_tup (pa_cons pe_str (pa_cons pe_int (pa_cons pe_str (pa_cons pe_int pa_nil))))) (pa_cons (pe_tup (pa_cons pe_str (pa_cons pe_int (pa_cons pe_int pa_nil)))) pa_nil)))))
      (pss_cons (ps_asg (pe_tup (pa_cons pe_str (pa_cons pe_int (pa_cons (pe_fx (ok_law_laid T) hr (by decide) (pa_cons (pv 2) (pa_cons (pv 3) pa_nil))) pa_nil)))) (pg_sub (pv 3) (pe_un un_neg pe_int) set_list))
      (pss_cons (ps_for PassesOwn.never rfl (pi_range1 rfl T.m_range (pa_cons pe_int pa_nil)) (pg_name (i := 4) sc_law.nd rfl (Or.inl rfl)) (pss_cons (ps_set (i := 5) sc_law.nd rfl (Or.inl rfl) (pe_fx (ok_law_draw T) hr (by decide) (pa_cons (pv 1) (pa_cons (pe_callB (call_lenU (K := K) rfl) (by rfl) T.m_len (by decide +kernel) (pa_cons (pv 3) pa_nil)) pa_nil))))
      (pss_cons (ps_set (i := 6) sc_law.nd rfl (Or.inl rfl) (pe_op (op_addU (K := K) rfl) (pe_op (op_addU (K := K) rfl) (pe_slice (sl_U (K := K) rfl) (pv 3) po_none (po_some (pv 5))) (pe_lst (pa_cons (pe_fx (ok_law_bent T) hr (by decide) (pa_cons (pv 1) (pa_cons (pe_ix (ix_U (K := K) rfl) (pv 3) (pv 5) (fun _ _ => rfl)) pa_nil))) pa_nil))) (pe_slice (sl_U (K := K) rfl) (pv 3) (po_some (pe_op (op_addU (K := K) rfl) (pv 5) pe_int)) po_none)))
      (pss_cons (ps_set (i := 7) sc_law.nd rfl (Or.inl rfl) (pe_fx (ok_lets_ledger T) hr (by decide) (pa_cons (pv 2) (pa_cons (pv 6) pa_nil))))
      (pss_one (ps_if (PW.pt (pw_or (pt_not (pt_val (pe_callB (call_isiU (K := K) rfl) (by rfl) T.m_isinstance (by decide +kernel) (pa_cons (pv 7) (pa_cons (pe_bltn (v := .ty "bool") (u := .type "bool") rfl T.m_bool (by decide +kernel) rfl) pa_nil))))) (pw_or1 (pt_cmpR (op_neU (K := K) rfl (u64 hr)) (pv 7) (pe_fx (ok_law_lets T) hr (by decide) (pa_cons (pv 2) (pa_cons (pv 6) pa_nil))) (nomark _))))) (pss_one (ps_ret pe_bl)) pss_nil))))))
      (pss_cons (ps_set (i := 8) sc_law.nd rfl (Or.inl rfl) (pe_lst (pa_cons pe_non (pa_cons pe_bl (pa_cons pe_int (pa_cons pe_str (pa_cons pe_str (pa_cons (pe_tup pa_nil) (pa_cons pe_dnewK (pa_cons (pe_lst (pa_cons (pe_tup pa_nil) pa_nil)) (pa_cons (pe_lst (pa_cons (pe_lst pa_nil) pa_nil)) (pa_cons (pe_lst (pa_cons pe_non pa_nil)) (pa_cons (pe_lst (pa_cons (pe_tup (pa_cons pe_str pa_nil)) pa_nil)) (pa_cons (pe_lst (pa_cons pe_str pa_nil)) (pa_cons (pe_callTy (call_tupleU (K := K) rfl) (by rfl) T.m_tuple (by decide +kernel) (pa_cons (pv 3) pa_nil)) (pa_cons (pe_disp (pps_cons pe_int (pe_ix (ix_U (K := K) rfl) (pv 3) pe_int (fun _ _ => rfl)) pps_nil) (by rfl) (by rfl) (by exact List.cons_ne_nil _ _) (by exact Nat.le_of_ble_eq_true rfl)) pa_nil))))))))))))))))
      (pss_cons (ps_for PassesOwn.never rfl (pi_listU (K := K) rfl (pv 8)) (pg_name (i := 9) sc_law.nd rfl (Or.inl rfl)) (pss_one (ps_if (pt_cmpR op_nisB (pe_fx (ok_lets_ledger T) hr (by decide) (pa_cons (pv 2) (pa_cons (pv 9) pa_nil))) pe_bl (nomark _)) (pss_one (ps_ret pe_bl)) pss_nil)))
      (pss_cons (ps_set (i := 10) sc_law.nd rfl (Or.inl rfl) (pe_lst (pa_cons (pe_tup (pa_cons pe_str (pa_cons pe_int (pa_cons pe_str (pa_cons pe_int pa_nil))))) (pa_cons (pe_tup (pa_cons pe_str (pa_cons pe_int (pa_cons pe_bl pa_nil)))) pa_nil))))
      (pss_one (ps_ret (pe_and (pe_cmpR op_isB (pe_fx (ok_lets_ledger T) hr (by decide) (pa_cons (pv 2) (pa_cons (pv 10) pa_nil))) pe_bl (nomark _)) (pe_one (pe_cmpR op_isB (pe_fx (ok_lets_ledger T) hr (by decide) (pa_cons (pv 2) (pa_cons (pe_slice (sl_U (K := K) rfl) (pv 10) po_none (po_some pe_int)) pa_nil))) pe_bl (nomark _)))))))))))))), ?_⟩
    walk_at "go"
    refine ⟨a, ns, rfl, hS, fun t H1 ht f1 T1 => ?_⟩
    walk_at "go"
    refine ⟨t, H, rfl, T1, fun b H2 bb f2 T2 => ?_⟩
    walk_at "go"
    refine ⟨t, b, H, rfl, T2, bb, fun q3 H3 xs nq3 f3 T3 L3 ok lx rt => ?_⟩
    walk_at "go"
    refine mkT (K := K) (.cons (.str "come") (.cons (.int 1) (.cons (.str "add") (.cons (.int 1) .nil)))) fun p4 H4 n4 f4 d4 => ?_
    walk_at "go"
    refine mkT (K := K) (.cons (.str "laid") (.cons (.int 3) (.cons (.int 0) .nil))) fun p5 H5 n5 f5 d5 => ?_
    walk_at "go"
    refine mkL (K := K) (.cons (d4.mono f5.tu) (.cons d5 .nil)) fun l6 H6 n6 f6 L6 => ?_
    have f36 := (f4.trans f5).trans f6
    have T6 := T3.fr f36
    walk_at "go"
    refine (L3.fr0 f36).cat L6 (by rw [List.length_map]; show xs.length + 2 ≤ 100000; omega) fun q7 H7 n7 f7 L7 => ?_
    have T7 := T6.fr f7
    have nq := T6.ne n7
    have nq0 := T6.no n7
    walk_at "go"
    have e7 : xs.map Row.d ++ [PyData.tuple [.str "come", .int 1, .str "add", .int 1], .tuple [.str "laid", .int 3, .int 0]] = (xs ++ [Row.come ⟨1, "add", 1⟩, Row.laid 3 0]).map Row.d := by rw [List.map_append]; rfl
    rw [e7] at L7
    have ok7 : ∀ x ∈ xs ++ [Row.come ⟨1, "add", 1⟩, Row.laid 3 0], x.ok := fun x hx => by
      rcases List.mem_append.mp hx with z | z
      · exact ok x z
      · simp only [List.mem_cons, List.not_mem_nil, or_false] at z
        rcases z with rfl | rfl
        · exact ⟨⟨by decide, by decide +kernel⟩, by decide, .inr (.inl rfl)⟩
        · exact ⟨by decide, by decide⟩
    refine ⟨b, q7, _, rfl, L7, ok7, by rw [List.length_append]; show xs.length + 2 ≤ 1000; omega, fun H8 f8 => ?_⟩
    have bd := valS_bd _ b bb ok7
    generalize valS b (xs ++ [Row.come ⟨1, "add", 1⟩, Row.laid 3 0]) = val at bd
    walk_at "go"
    refine mkT (K := K) (.cons (.str "laid") (.cons (.int 3) (.cons (.int val) .nil))) fun p9 H9 n9 f9 d9 => ?_
    have L9 := (L7.fr0 f8).fr0 f9
    rw [show xs ++ [Row.come ⟨1, "add", 1⟩, Row.laid 3 0] = (xs ++ [Row.come ⟨1, "add", 1⟩]) ++ [Row.laid 3 0] by simp, List.map_append] at L9
    walk_at "go"
    refine Lq.setLast L9 d9 fun H10 f10 tu10 L10 => ?_
    have T9 := (T7.fr f8).fr f9
    have T10 := T9.fr1 f10 nq nq0
    have ok10 : ∀ x ∈ xs ++ [Row.come ⟨1, "add", 1⟩] ++ [Row.laid 3 val], x.ok := fun x hx => by
      rcases List.mem_append.mp hx with z | z
      · exact ok7 x (by
          rcases List.mem_append.mp z with y | y
          · exact List.mem_append_left _ y
          · exact List.mem_append_right _ (by rw [List.mem_singleton.mp y]; simp))
      · rw [List.mem_singleton.mp z]
        exact ⟨by decide, bd⟩
    have L10 : Lq K H10 q7 ((xs ++ [Row.come ⟨1, "add", 1⟩] ++ [Row.laid 3 val]).map Row.d) := by rw [List.map_append]; exact L10
    have l10 : (xs ++ [Row.come ⟨1, "add", 1⟩] ++ [Row.laid 3 val]).length ≤ 50 := by rw [List.length_append, List.length_append]; show xs.length + 1 + 1 ≤ 50; omega
    have p10 : 0 < (xs ++ [Row.come ⟨1, "add", 1⟩] ++ [Row.laid 3 val]).length := by rw [List.length_append]; show 0 < _ + 1; omega
    generalize xs ++ [Row.come ⟨1, "add", 1⟩] ++ [Row.laid 3 val] = ys at ok10 L10 l10 p10
    have fineR : ∀ y : Row, y.ok → FineT y.d := fun y o es e d hd => by
      rw [Row.d_es] at e
      cases e
      exact (Row.es_part o d hd).1
    have fineY : ∀ d ∈ ys.map Row.d, FineT d := fun d hd => by
      obtain ⟨y, hy, rfl⟩ := List.mem_map.mp hd
      exact fineR y (ok10 y hy)
    walk_at "go"
    refine F_R1 14 rfl (by decide) (by decide) (fun i σ H' => Tape K H H' t ∧ Lq K H' q7 (ys.map Row.d) ∧ ∃ (v4 v5 v6 v7 v8 v9 v10 : Option V), σ = [some (.ref a), some (.ref t), some (.int b), some (.ref q7), v4, v5, v6, v7, v8, v9, v10]) ⟨T10, L10, _, _, _, _, _, _, _, rfl⟩ ?_ ?_
    · rintro i σ H11 hi ⟨T11, L11, v4, v5, v6, v7, v8, v9, v10, rfl⟩
      walk_at "go"
      refine L11.len ?_
      rw [List.length_map]
      walk_at "go"
      refine ⟨t, _, H, rfl, T11, by omega, by omega, fun r12 H12 a12 b12 f12 T12 => ?_⟩
      have L12 := L11.fr f12 (by simpa using nq) (T11.tu f12)
      walk_at "go"
      refine L12.slice fun l13 H13 n13 f13 L13 => ?_
      have T13 := T12.fr f13
      have L12b := L12.fr0 f13
      obtain ⟨y, hy⟩ : ∃ y, ys[r12.toNat]? = some y := ⟨_, List.getElem?_eq_getElem (by omega)⟩
      walk_at "go"
      refine L12b.ix r12.toNat (by rw [List.getElem?_map, hy]; rfl) (fun u du => ?_) (by omega)
      walk_at "go"
      refine ⟨t, u, y, H, rfl, T13, du, ok10 y (List.mem_of_getElem? hy), fun o od H14 f14 T14 go fo => ?_⟩
      have L14 := L12b.fr f14 (by simpa using nq) (T13.tu f14)
      have L13b := L13.fr f14 (by simpa using T12.ne n13) (T13.tu f14)
      walk_at "go"
      refine mkG (K := K) (.cons go .nil) fun l15 H15 vs15 n15 f15 e15 g15 => ?_
      obtain ⟨vs13, e13, g13⟩ := L13b.fr0 f15
      have c1 := cutA_len (xs := ys.map Row.d) (lo := none) (hi := some r12)
      have c2 := cutA_len (xs := ys.map Row.d) (lo := some (r12 + 1)) (hi := none)
      rw [List.length_map] at c1 c2
      have lv13 := g13.length
      have lv15 := DgAll.length g15
      rw [List.length_singleton] at lv15
      refine w_addL e13 e15 (by omega) fun l16 n16 => ?_
      have f16 : Fr [] H15 (upd H15 l16 (.lst (vs13 ++ vs15))) := Fr.new n16
      have e16 : upd H15 l16 (.lst (vs13 ++ vs15)) l16 = some (.lst (vs13 ++ vs15)) := upd_same
      generalize upd H15 l16 (.lst (vs13 ++ vs15)) = H16 at f16 e16
      have g16 := DgAll.append (DgAll.fr f16 g13.dg) (DgAll.fr f16 g15)
      have f1416 := f15.trans f16
      walk_at "go"
      refine (L14.fr0 f1416).slice fun l17 H17 n17 f17 L17 => ?_
      obtain ⟨vs17, e17, g17⟩ := L17
      have lv17 := g17.length
      refine w_addL (f17 _ _ e16 (by simp)) e17 (by rw [List.length_append]; omega) fun l18 n18 => ?_
      have f18 : Fr [] H17 (upd H17 l18 (.lst (vs13 ++ vs15 ++ vs17))) := Fr.new n18
      have e18 : upd H17 l18 (.lst (vs13 ++ vs15 ++ vs17)) l18 = some (.lst (vs13 ++ vs15 ++ vs17)) := upd_same
      generalize upd H17 l18 (.lst (vs13 ++ vs15 ++ vs17)) = H18 at f18 e18
      have g18 := DgAll.append (DgAll.fr (f17.trans f18) g16) (DgAll.fr f18 g17.dg)
      have D18 : Dg K H18 (.ref l18) (.list (cutA (ys.map Row.d) none (some r12) ++ [od] ++ cutA (ys.map Row.d) (some (r12 + 1)) none)) := .lst (SqL.of e18) g18
      have fl : FineL (.list (cutA (ys.map Row.d) none (some r12) ++ [od] ++ cutA (ys.map Row.d) (some (r12 + 1)) none)) := fun ds e => by
        cases e
        refine ⟨by rw [List.length_append, List.length_append, List.length_singleton]; omega, fun d hd => ?_⟩
        rcases List.mem_append.mp hd with z | z
        · rcases List.mem_append.mp z with z | z
          · exact fineY d (cutA_mem z)
          · rw [List.mem_singleton.mp z]; exact fo
        · exact fineY d (cutA_mem z)
      have f1418 := (f1416.trans f17).trans f18
      walk_at "go"
      refine ⟨b, _, _, rfl, D18, fl, fun H19 k1 f19 i1 => ?_⟩
      walk_at "go"
      refine ⟨b, _, _, rfl, D18.fr f19, fl, fun H20 k2 f20 i2 => ?_⟩
      have ek : k1 = k2 := Bool.eq_iff_iff.mpr (i1.trans i2.symm)
      subst ek
      walk_at "go"
      rw [show (!decide (k1 = k1)) = false by simp]
      walk_at "go"
      have fe := (f1418.trans f19).trans f20
      exact ⟨T14.fr fe, L14.fr0 fe, _, _, _, _, _, _, _, rfl⟩
    · rintro σ H11 ⟨T11, L11, v4, v5, v6, v7, v8, v9, v10, rfl⟩
      walk_at "go"
      refine mkT (K := K) .nil fun p20 H20 n20 f20 d20 => ?_
      walk_at "go"
      refine mkD fun p21 H21 n21 f21 e21 => ?_
      walk_at "go"
      refine mkT (K := K) .nil fun p22 H22 n22 f22 d22 => ?_
      walk_at "go"
      refine mkL (K := K) (.cons d22 .nil) fun p23 H23 n23 f23 L23 => ?_
      walk_at "go"
      refine mkL (K := K) .nil fun p24 H24 n24 f24 L24 => ?_
      walk_at "go"
      refine mkG (K := K) (.cons L24.dg .nil) fun p25 H25 vs25 n25 f25 e25 g25 => ?_
      walk_at "go"
      refine mkL (K := K) (.cons .non .nil) fun p26 H26 n26 f26 L26 => ?_
      walk_at "go"
      refine mkT (K := K) (.cons (.str "laid") .nil) fun p27 H27 n27 f27 d27 => ?_
      walk_at "go"
      refine mkL (K := K) (.cons d27 .nil) fun p28 H28 n28 f28 L28 => ?_
      walk_at "go"
      refine mkL (K := K) (.cons (.str "come") .nil) fun p29 H29 n29 f29 L29 => ?_
      have f2829 := f28.trans f29
      have f2529 := ((f26.trans f27).trans f28).trans f29
      have f2329 := (f24.trans f25).trans f2529
      have f2129 := (f22.trans f23).trans f2329
      have L29' := ((L11.fr0 f20).fr0 f21).fr0 f2129
      walk_at "go"
      refine L29'.tuple fun p30 H30 f30 d30 => ?_
      walk_at "go"
      refine w_disp fun p31 n31 => w_pairs ?_
      have f31 : Fr [] H30 (upd H30 p31 (.dK [])) := Fr.new n31
      have e31 : upd H30 p31 (.dK []) p31 = some (.dK []) := upd_same
      generalize upd H30 p31 (.dK []) = H31 at f31 e31
      obtain ⟨y0, hy0⟩ : ∃ y, ys[0]? = some y := ⟨_, List.getElem?_eq_getElem p10⟩
      walk_at "go"
      refine ((L29'.fr0 f30).fr0 f31).ix 0 (by rw [List.getElem?_map, hy0]; rfl) fun u32 du32 => w_pnil ?_
      refine ⟨e31, [((Sum.inl 0 : Key), u32)], rfl, by exact Nat.le_of_ble_eq_true rfl, ?_⟩
      have f32 : Fr [] H30 (upd H31 p31 (.dK (mergeK [] [((Sum.inl 0 : Key), u32)]))) := Fr.drop1 n31 f31 (Fr.mut (by simp))
      have e32 : upd H31 p31 (.dK (mergeK [] [((Sum.inl 0 : Key), u32)])) p31 = some (.dK (mergeK [] [((Sum.inl 0 : Key), u32)])) := upd_same
      generalize upd H31 p31 (.dK (mergeK [] [((Sum.inl 0 : Key), u32)])) = H32 at f32 e32
      walk_at "go"
      have f3032 := f30.trans f32
      have fz := f2129.trans f3032
      refine mkG (K := K) (ds := [.none, .bool true, .int 0, .str "", .str "come", .tuple [], .dict [], .list [.tuple []], .list [.list []], .list [.none], .list [.tuple [.str "laid"]], .list [.str "come"], .tuple (ys.map Row.d), .dict []])
        (.cons .non (.cons (.bl _) (.cons (.int _) (.cons (.str _) (.cons (.str _) (.cons (d20.dg.fr (f21.trans fz)) (.cons (Dg.dct (fz _ _ e21 (by simp))) (.cons (L23.dg.fr (f2329.trans f3032)) (.cons (Dg.fr (f2529.trans f3032) (.lst (SqL.of e25) g25)) (.cons (L26.dg.fr (((f27.trans f28).trans f29).trans f3032)) (.cons (L28.dg.fr (f29.trans f3032)) (.cons (L29.dg.fr f3032) (.cons (d30.dg.fr f32) (.cons (Dg.dct e32) .nil)))))))))))))) fun p33 H33 vs33 n33 f33 e33 g33 => ?_
      walk_at "go"
      have ol : ∀ d ∈ ([.none, .bool true, .int 0, .str "", .str "come", .tuple [], .dict [], .list [.tuple []], .list [.list []], .list [.none], .list [.tuple [.str "laid"]], .list [.str "come"], .tuple (ys.map Row.d), .dict []] : List PyData), ¬ LetsP b d ∧ FineL d := by
        have f1 : ∀ e : PyData, (∀ es, e = .tuple es → ∀ d ∈ es, Fine d) → FineL (.list [e]) := fun e h ds eq => by
          cases eq
          exact ⟨by exact Nat.le_of_ble_eq_true rfl, fun d hd => by rw [List.mem_singleton.mp hd]; exact h⟩
        have f0 : ∀ d : PyData, (∀ ds, d ≠ .list ds) → FineL d := fun d h ds e => absurd e (h ds)
        intro d hd
        simp only [List.mem_cons, List.not_mem_nil, or_false] at hd
        rcases hd with rfl | rfl | rfl | rfl | rfl | rfl | rfl | rfl | rfl | rfl | rfl | rfl | rfl | rfl
        · exact ⟨notLetsN (fun _ h => by cases h), f0 _ (fun _ h => by cases h)⟩
        · exact ⟨notLetsN (fun _ h => by cases h), f0 _ (fun _ h => by cases h)⟩
        · exact ⟨notLetsN (fun _ h => by cases h), f0 _ (fun _ h => by cases h)⟩
        · exact ⟨notLetsN (fun _ h => by cases h), f0 _ (fun _ h => by cases h)⟩
        · exact ⟨notLetsN (fun _ h => by cases h), f0 _ (fun _ h => by cases h)⟩
        · exact ⟨notLetsN (fun _ h => by cases h), f0 _ (fun _ h => by cases h)⟩
        · exact ⟨notLetsN (fun _ h => by cases h), f0 _ (fun _ h => by cases h)⟩
        · exact ⟨notLets (fun x h => by cases x <;> cases h), f1 _ (fun es e d hd => by cases e; simp at hd)⟩
        · exact ⟨notLets (fun x h => by cases x <;> cases h), f1 _ (fun es e => by cases e)⟩
        · exact ⟨notLets (fun x h => by cases x <;> cases h), f1 _ (fun es e => by cases e)⟩
        · exact ⟨notLets (fun x h => by cases x <;> cases h), f1 _ (fun es e d hd => by
            cases e
            rw [List.mem_singleton.mp hd]
            exact fine_of (n := 0) ⟨by show PyData.strOk "laid" = true; decide +kernel, Nat.le_refl _⟩ (by decide))⟩
        · exact ⟨notLets (fun x h => by cases x <;> cases h), f1 _ (fun es e => by cases e)⟩
        · exact ⟨notLetsN (fun _ h => by cases h), f0 _ (fun _ h => by cases h)⟩
        · exact ⟨notLetsN (fun _ h => by cases h), f0 _ (fun _ h => by cases h)⟩
      have lv := DgAll.length g33
      refine F_L (SqL.of e33) (fun i σ H' => Fr [] H33 H' ∧ ∃ (v4 v5 v6 v7 v9 v10 : Option V), σ = [some (.ref a), some (.ref t), some (.int b), some (.ref q7), v4, v5, v6, v7, some (.ref p33), v9, v10]) ⟨Fr.refl, _, _, _, _, _, _, rfl⟩ (fun i σ H' _ h => h.1.seqL (SqL.of e33) (by simp)) ?_ ?_
      · rintro i x σ H34 hx ⟨f34, v4, v5, v6, v7, v9, v10, rfl⟩
        obtain ⟨d, hd, gd⟩ := DgAll.get (DgAll.fr f34 g33) hx
        obtain ⟨nl, fl⟩ := ol d (List.mem_of_getElem? hd)
        walk_at "go"
        refine ⟨b, x, d, rfl, gd, fl, fun H35 k1 f35 i1 => ?_⟩
        have ek : k1 = false := by
          cases k1 with
          | false => rfl
          | true => exact absurd (i1.mp rfl) nl
        subst ek
        walk_at "go"
        rw [show (!decide (false = false)) = false from rfl]
        walk_at "go"
        exact ⟨f34.trans f35, _, _, _, _, _, _, rfl⟩
      · rintro σ H34 ⟨f34, v4, v5, v6, v7, v9, v10, rfl⟩
        walk_at "go"
        refine mkT (K := K) (.cons (.str "come") (.cons (.int 1) (.cons (.str "set") (.cons (.int 1) .nil)))) fun p35 H35 n35 f35 d35 => ?_
        walk_at "go"
        refine mkT (K := K) (.cons (.str "laid") (.cons (.int 1) (.cons (.bl true) .nil))) fun p36 H36 n36 f36 d36 => ?_
        walk_at "go"
        refine mkL (K := K) (.cons (d35.mono f36.tu) (.cons d36 .nil)) fun l37 H37 n37 f37 L37 => ?_
        have okc : (Row.come ⟨1, "set", 1⟩).ok := ⟨⟨by decide, by decide +kernel⟩, by decide, .inl rfl⟩
        have fc : FineT (Row.come ⟨1, "set", 1⟩).d := fineR _ okc
        have fs : PyData.strOk "laid" = true := by decide +kernel
        have ft : FineT (.tuple [.str "laid", .int 1, .bool true]) := fun es e d hd => by
          cases e
          simp only [List.mem_cons, List.not_mem_nil, or_false] at hd
          rcases hd with rfl | rfl | rfl
          · exact fine_of (n := 0) ⟨fs, Nat.le_refl _⟩ (by decide)
          · exact fine_of (n := 0) ⟨rfl, Nat.le_refl _⟩ (by decide)
          · exact fine_of (n := 0) ⟨rfl, Nat.le_refl _⟩ (by decide)
        walk_at "go"
        refine ⟨b, _, _, rfl, L37.dg, fun ds e => ?_, fun H38 k1 f38 i1 => ?_⟩
        · cases e
          refine ⟨by exact Nat.le_of_ble_eq_true rfl, fun d hd => ?_⟩
          simp only [List.mem_cons, List.not_mem_nil, or_false] at hd
          rcases hd with rfl | rfl
          · exact fc
          · exact ft
        have ek : k1 = false := by
          cases k1 with
          | false => rfl
          | true =>
            obtain ⟨xs', ex, _⟩ := i1.mp rfl
            have z : ([.tuple [.str "come", .int 1, .str "set", .int 1], .tuple [.str "laid", .int 1, .bool true]] : List PyData) = xs'.map Row.d := by injection ex
            rcases xs' with _ | ⟨x1, _ | ⟨x2, r⟩⟩
            · cases z
            · have y := (List.cons.inj z).2
              cases y
            · have y := (List.cons.inj (List.cons.inj z).2).1
              cases x2 <;> cases y
        subst ek
        walk_at "go"
        rw [show decide (false = false) = true from rfl]
        walk_at "go"
        refine (L37.fr0 f38).slice fun l39 H39 n39 f39 L39 => ?_
        rw [show (some (1 : Int)) = some ((1 : Nat) : Int) from rfl, cutA_take] at L39
        walk_at "go"
        refine ⟨b, _, _, rfl, L39.dg, fun ds e => ?_, fun H40 k1 f40 i1 => ?_⟩
        · cases e
          refine ⟨by exact Nat.le_of_ble_eq_true rfl, fun d hd => ?_⟩
          rw [List.mem_singleton.mp hd]
          exact fc
        have ek : k1 = true := i1.mpr ⟨[Row.come ⟨1, "set", 1⟩], rfl, fun x hx => by rw [List.mem_singleton.mp hx]; exact okc, rfl⟩
        subst ek
        walk_at "go"
        exact k _
end
section
variable {w : World} {K : PySem.W.Frag} {h : Heap} {mg : Str → Option Value}
theorem mk_is_whole (X : K.In h) (G : h.Ns mainGlobals mg) {f : Addr} {od an : Option Addr} {sl : Array (Option Value)} {oc kV dc pm cd ct : Value} (a : PySem.W.nsIn K mainGlobals "is_whole" = some (some (.ref f))) (l : K.lookup f = some ⟨oc, od, .func (PySem.W.fnOf "is_whole" "is_whole" (defArgs s_is_whole) (defBody s_is_whole) (defScope s_is_whole) .none kV dc pm an cd ct), sl⟩) (c : PySem.W.codeIn K cd "is_whole" = true) (k : PySem.W.keepIn K (.ref f) = true) : Loc K mg "is_whole" p_is_whole s_is_whole :=
  have F := fun_mk (st := s_is_whole) l c k
  ⟨f, _, F, PySem.W.mg_of X G a, F.binds (ps := p_is_whole) fun _ _ _ _ _ _ us hl => match us, hl with | [_], _ => rfl⟩
theorem mk_is_number (X : K.In h) (G : h.Ns mainGlobals mg) {f : Addr} {od an : Option Addr} {sl : Array (Option Value)} {oc kV dc pm cd ct : Value} (a : PySem.W.nsIn K mainGlobals "is_number" = some (some (.ref f))) (l : K.lookup f = some ⟨oc, od, .func (PySem.W.fnOf "is_number" "is_number" (defArgs s_is_number) (defBody s_is_number) (defScope s_is_number) .none kV dc pm an cd ct), sl⟩) (c : PySem.W.codeIn K cd "is_number" = true) (k : PySem.W.keepIn K (.ref f) = true) : Loc K mg "is_number" p_is_number s_is_number :=
  have F := fun_mk (st := s_is_number) l c k
  ⟨f, _, F, PySem.W.mg_of X G a, F.binds (ps := p_is_number) fun _ _ _ _ _ _ us hl => match us, hl with | [_], _ => rfl⟩
theorem mk_cut (X : K.In h) (G : h.Ns mainGlobals mg) {f : Addr} {od an : Option Addr} {sl : Array (Option Value)} {oc kV dc pm cd ct : Value} (a : PySem.W.nsIn K mainGlobals "cut" = some (some (.ref f))) (l : K.lookup f = some ⟨oc, od, .func (PySem.W.fnOf "cut" "cut" (defArgs s_cut) (defBody s_cut) (defScope s_cut) .none kV dc pm an cd ct), sl⟩) (c : PySem.W.codeIn K cd "cut" = true) (k : PySem.W.keepIn K (.ref f) = true) : Loc K mg "cut" p_cut s_cut :=
  have F := fun_mk (st := s_cut) l c k
  ⟨f, _, F, PySem.W.mg_of X G a, F.binds (ps := p_cut) fun _ _ _ _ _ _ us hl => match us, hl with | [_], _ => rfl⟩
theorem mk_done_on (X : K.In h) (G : h.Ns mainGlobals mg) {f : Addr} {od an : Option Addr} {sl : Array (Option Value)} {oc kV dc pm cd ct : Value} (a : PySem.W.nsIn K mainGlobals "done_on" = some (some (.ref f))) (l : K.lookup f = some ⟨oc, od, .func (PySem.W.fnOf "done_on" "done_on" (defArgs s_done_on) (defBody s_done_on) (defScope s_done_on) .none kV dc pm an cd ct), sl⟩) (c : PySem.W.codeIn K cd "done_on" = true) (k : PySem.W.keepIn K (.ref f) = true) : Loc K mg "done_on" p_done_on s_done_on :=
  have F := fun_mk (st := s_done_on) l c k
  ⟨f, _, F, PySem.W.mg_of X G a, F.binds (ps := p_done_on) fun _ _ _ _ _ _ us hl => match us, hl with | [_, _], _ => rfl⟩
theorem mk_is_rank (X : K.In h) (G : h.Ns mainGlobals mg) {f : Addr} {od an : Option Addr} {sl : Array (Option Value)} {oc kV dc pm cd ct : Value} (a : PySem.W.nsIn K mainGlobals "is_rank" = some (some (.ref f))) (l : K.lookup f = some ⟨oc, od, .func (PySem.W.fnOf "is_rank" "is_rank" (defArgs s_is_rank) (defBody s_is_rank) (defScope s_is_rank) .none kV dc pm an cd ct), sl⟩) (c : PySem.W.codeIn K cd "is_rank" = true) (k : PySem.W.keepIn K (.ref f) = true) : Loc K mg "is_rank" p_is_rank s_is_rank :=
  have F := fun_mk (st := s_is_rank) l c k
  ⟨f, _, F, PySem.W.mg_of X G a, F.binds (ps := p_is_rank) fun _ _ _ _ _ _ us hl => match us, hl with | [_], _ => rfl⟩
theorem mk_is_come (X : K.In h) (G : h.Ns mainGlobals mg) {f : Addr} {od an : Option Addr} {sl : Array (Option Value)} {oc kV dc pm cd ct : Value} (a : PySem.W.nsIn K mainGlobals "is_come" = some (some (.ref f))) (l : K.lookup f = some ⟨oc, od, .func (PySem.W.fnOf "is_come" "is_come" (defArgs s_is_come) (defBody s_is_come) (defScope s_is_come) .none kV dc pm an cd ct), sl⟩) (c : PySem.W.codeIn K cd "is_come" = true) (k : PySem.W.keepIn K (.ref f) = true) : Loc K mg "is_come" p_is_come s_is_come :=
  have F := fun_mk (st := s_is_come) l c k
  ⟨f, _, F, PySem.W.mg_of X G a, F.binds (ps := p_is_come) fun _ _ _ _ _ _ us hl => match us, hl with | [_], _ => rfl⟩
theorem mk_is_laid (X : K.In h) (G : h.Ns mainGlobals mg) {f : Addr} {od an : Option Addr} {sl : Array (Option Value)} {oc kV dc pm cd ct : Value} (a : PySem.W.nsIn K mainGlobals "is_laid" = some (some (.ref f))) (l : K.lookup f = some ⟨oc, od, .func (PySem.W.fnOf "is_laid" "is_laid" (defArgs s_is_laid) (defBody s_is_laid) (defScope s_is_laid) .none kV dc pm an cd ct), sl⟩) (c : PySem.W.codeIn K cd "is_laid" = true) (k : PySem.W.keepIn K (.ref f) = true) : Loc K mg "is_laid" p_is_laid s_is_laid :=
  have F := fun_mk (st := s_is_laid) l c k
  ⟨f, _, F, PySem.W.mg_of X G a, F.binds (ps := p_is_laid) fun _ _ _ _ _ _ us hl => match us, hl with | [_], _ => rfl⟩
theorem mk_value_behind (X : K.In h) (G : h.Ns mainGlobals mg) {f : Addr} {od an : Option Addr} {sl : Array (Option Value)} {oc kV dc pm cd ct : Value} (a : PySem.W.nsIn K mainGlobals "value_behind" = some (some (.ref f))) (l : K.lookup f = some ⟨oc, od, .func (PySem.W.fnOf "value_behind" "value_behind" (defArgs s_value_behind) (defBody s_value_behind) (defScope s_value_behind) .none kV dc pm an cd ct), sl⟩) (c : PySem.W.codeIn K cd "value_behind" = true) (k : PySem.W.keepIn K (.ref f) = true) : Loc K mg "value_behind" p_value_behind s_value_behind :=
  have F := fun_mk (st := s_value_behind) l c k
  ⟨f, _, F, PySem.W.mg_of X G a, F.binds (ps := p_value_behind) fun _ _ _ _ _ _ us hl => match us, hl with | [_, _], _ => rfl⟩
theorem mk_lets_ledger (X : K.In h) (G : h.Ns mainGlobals mg) {f : Addr} {od an : Option Addr} {sl : Array (Option Value)} {oc kV dc pm cd ct : Value} (a : PySem.W.nsIn K mainGlobals "lets_ledger" = some (some (.ref f))) (l : K.lookup f = some ⟨oc, od, .func (PySem.W.fnOf "lets_ledger" "lets_ledger" (defArgs s_lets_ledger) (defBody s_lets_ledger) (defScope s_lets_ledger) .none kV dc pm an cd ct), sl⟩) (c : PySem.W.codeIn K cd "lets_ledger" = true) (k : PySem.W.keepIn K (.ref f) = true) : Loc K mg "lets_ledger" p_lets_ledger s_lets_ledger :=
  have F := fun_mk (st := s_lets_ledger) l c k
  ⟨f, _, F, PySem.W.mg_of X G a, F.binds (ps := p_lets_ledger) fun _ _ _ _ _ _ us hl => match us, hl with | [_, _], _ => rfl⟩
theorem mk_law_tape (X : K.In h) (G : h.Ns mainGlobals mg) {f : Addr} {od an : Option Addr} {sl : Array (Option Value)} {oc kV dc pm cd ct : Value} (a : PySem.W.nsIn K mainGlobals "_law_tape" = some (some (.ref f))) (l : K.lookup f = some ⟨oc, od, .func (PySem.W.fnOf "_law_tape" "_law_tape" (defArgs s_law_tape) (defBody s_law_tape) (defScope s_law_tape) .none kV dc pm an cd ct), sl⟩) (c : PySem.W.codeIn K cd "_law_tape" = true) (k : PySem.W.keepIn K (.ref f) = true) : Loc K mg "_law_tape" p_law_tape s_law_tape :=
  have F := fun_mk (st := s_law_tape) l c k
  ⟨f, _, F, PySem.W.mg_of X G a, F.binds (ps := p_law_tape) fun _ _ _ _ _ _ us hl => match us, hl with | [_], _ => rfl⟩
theorem mk_law_draw (X : K.In h) (G : h.Ns mainGlobals mg) {f : Addr} {od an : Option Addr} {sl : Array (Option Value)} {oc kV dc pm cd ct : Value} (a : PySem.W.nsIn K mainGlobals "_law_draw" = some (some (.ref f))) (l : K.lookup f = some ⟨oc, od, .func (PySem.W.fnOf "_law_draw" "_law_draw" (defArgs s_law_draw) (defBody s_law_draw) (defScope s_law_draw) .none kV dc pm an cd ct), sl⟩) (c : PySem.W.codeIn K cd "_law_draw" = true) (k : PySem.W.keepIn K (.ref f) = true) : Loc K mg "_law_draw" p_law_draw s_law_draw :=
  have F := fun_mk (st := s_law_draw) l c k
  ⟨f, _, F, PySem.W.mg_of X G a, F.binds (ps := p_law_draw) fun _ _ _ _ _ _ us hl => match us, hl with | [_, _], _ => rfl⟩
theorem mk_law_number (X : K.In h) (G : h.Ns mainGlobals mg) {f : Addr} {od an : Option Addr} {sl : Array (Option Value)} {oc kV dc pm cd ct : Value} (a : PySem.W.nsIn K mainGlobals "_law_number" = some (some (.ref f))) (l : K.lookup f = some ⟨oc, od, .func (PySem.W.fnOf "_law_number" "_law_number" (defArgs s_law_number) (defBody s_law_number) (defScope s_law_number) .none kV dc pm an cd ct), sl⟩) (c : PySem.W.codeIn K cd "_law_number" = true) (k : PySem.W.keepIn K (.ref f) = true) : Loc K mg "_law_number" p_law_number s_law_number :=
  have F := fun_mk (st := s_law_number) l c k
  ⟨f, _, F, PySem.W.mg_of X G a, F.binds (ps := p_law_number) fun _ _ _ _ _ _ us hl => match us, hl with | [_], _ => rfl⟩
theorem mk_law_cut (X : K.In h) (G : h.Ns mainGlobals mg) {f : Addr} {od an : Option Addr} {sl : Array (Option Value)} {oc kV dc pm cd ct : Value} (a : PySem.W.nsIn K mainGlobals "_law_cut" = some (some (.ref f))) (l : K.lookup f = some ⟨oc, od, .func (PySem.W.fnOf "_law_cut" "_law_cut" (defArgs s_law_cut) (defBody s_law_cut) (defScope s_law_cut) .none kV dc pm an cd ct), sl⟩) (c : PySem.W.codeIn K cd "_law_cut" = true) (k : PySem.W.keepIn K (.ref f) = true) : Loc K mg "_law_cut" p_law_cut s_law_cut :=
  have F := fun_mk (st := s_law_cut) l c k
  ⟨f, _, F, PySem.W.mg_of X G a, F.binds (ps := p_law_cut) fun _ _ _ _ _ _ us hl => match us, hl with | [_], _ => rfl⟩
theorem mk_law_after (X : K.In h) (G : h.Ns mainGlobals mg) {f : Addr} {od an : Option Addr} {sl : Array (Option Value)} {oc kV dc pm cd ct : Value} (a : PySem.W.nsIn K mainGlobals "_law_after" = some (some (.ref f))) (l : K.lookup f = some ⟨oc, od, .func (PySem.W.fnOf "_law_after" "_law_after" (defArgs s_law_after) (defBody s_law_after) (defScope s_law_after) .none kV dc pm an cd ct), sl⟩) (c : PySem.W.codeIn K cd "_law_after" = true) (k : PySem.W.keepIn K (.ref f) = true) : Loc K mg "_law_after" p_law_after s_law_after :=
  have F := fun_mk (st := s_law_after) l c k
  ⟨f, _, F, PySem.W.mg_of X G a, F.binds (ps := p_law_after) fun _ _ _ _ _ _ us hl => match us, hl with | [_, _, _], _ => rfl⟩
theorem mk_law_is_number (X : K.In h) (G : h.Ns mainGlobals mg) {f : Addr} {od an : Option Addr} {sl : Array (Option Value)} {oc kV dc pm cd ct : Value} (a : PySem.W.nsIn K mainGlobals "_law_is_number" = some (some (.ref f))) (l : K.lookup f = some ⟨oc, od, .func (PySem.W.fnOf "_law_is_number" "_law_is_number" (defArgs s_law_is_number) (defBody s_law_is_number) (defScope s_law_is_number) .none kV dc pm an cd ct), sl⟩) (c : PySem.W.codeIn K cd "_law_is_number" = true) (k : PySem.W.keepIn K (.ref f) = true) : Loc K mg "_law_is_number" p_law_is_number s_law_is_number :=
  have F := fun_mk (st := s_law_is_number) l c k
  ⟨f, _, F, PySem.W.mg_of X G a, F.binds (ps := p_law_is_number) fun _ _ _ _ _ _ us hl => match us, hl with | [_], _ => rfl⟩
theorem mk_law_is_rank (X : K.In h) (G : h.Ns mainGlobals mg) {f : Addr} {od an : Option Addr} {sl : Array (Option Value)} {oc kV dc pm cd ct : Value} (a : PySem.W.nsIn K mainGlobals "_law_is_rank" = some (some (.ref f))) (l : K.lookup f = some ⟨oc, od, .func (PySem.W.fnOf "_law_is_rank" "_law_is_rank" (defArgs s_law_is_rank) (defBody s_law_is_rank) (defScope s_law_is_rank) .none kV dc pm an cd ct), sl⟩) (c : PySem.W.codeIn K cd "_law_is_rank" = true) (k : PySem.W.keepIn K (.ref f) = true) : Loc K mg "_law_is_rank" p_law_is_rank s_law_is_rank :=
  have F := fun_mk (st := s_law_is_rank) l c k
  ⟨f, _, F, PySem.W.mg_of X G a, F.binds (ps := p_law_is_rank) fun _ _ _ _ _ _ us hl => match us, hl with | [_], _ => rfl⟩
theorem mk_law_is_ledger_row (X : K.In h) (G : h.Ns mainGlobals mg) {f : Addr} {od an : Option Addr} {sl : Array (Option Value)} {oc kV dc pm cd ct : Value} (a : PySem.W.nsIn K mainGlobals "_law_is_ledger_row" = some (some (.ref f))) (l : K.lookup f = some ⟨oc, od, .func (PySem.W.fnOf "_law_is_ledger_row" "_law_is_ledger_row" (defArgs s_law_is_ledger_row) (defBody s_law_is_ledger_row) (defScope s_law_is_ledger_row) .none kV dc pm an cd ct), sl⟩) (c : PySem.W.codeIn K cd "_law_is_ledger_row" = true) (k : PySem.W.keepIn K (.ref f) = true) : Loc K mg "_law_is_ledger_row" p_law_is_ledger_row s_law_is_ledger_row :=
  have F := fun_mk (st := s_law_is_ledger_row) l c k
  ⟨f, _, F, PySem.W.mg_of X G a, F.binds (ps := p_law_is_ledger_row) fun _ _ _ _ _ _ us hl => match us, hl with | [_], _ => rfl⟩
theorem mk_law_laid (X : K.In h) (G : h.Ns mainGlobals mg) {f : Addr} {od an : Option Addr} {sl : Array (Option Value)} {oc kV dc pm cd ct : Value} (a : PySem.W.nsIn K mainGlobals "_law_laid" = some (some (.ref f))) (l : K.lookup f = some ⟨oc, od, .func (PySem.W.fnOf "_law_laid" "_law_laid" (defArgs s_law_laid) (defBody s_law_laid) (defScope s_law_laid) .none kV dc pm an cd ct), sl⟩) (c : PySem.W.codeIn K cd "_law_laid" = true) (k : PySem.W.keepIn K (.ref f) = true) : Loc K mg "_law_laid" p_law_laid s_law_laid :=
  have F := fun_mk (st := s_law_laid) l c k
  ⟨f, _, F, PySem.W.mg_of X G a, F.binds (ps := p_law_laid) fun _ _ _ _ _ _ us hl => match us, hl with | [_, _], _ => rfl⟩
theorem mk_law_lets (X : K.In h) (G : h.Ns mainGlobals mg) {f : Addr} {od an : Option Addr} {sl : Array (Option Value)} {oc kV dc pm cd ct : Value} (a : PySem.W.nsIn K mainGlobals "_law_lets" = some (some (.ref f))) (l : K.lookup f = some ⟨oc, od, .func (PySem.W.fnOf "_law_lets" "_law_lets" (defArgs s_law_lets) (defBody s_law_lets) (defScope s_law_lets) .none kV dc pm an cd ct), sl⟩) (c : PySem.W.codeIn K cd "_law_lets" = true) (k : PySem.W.keepIn K (.ref f) = true) : Loc K mg "_law_lets" p_law_lets s_law_lets :=
  have F := fun_mk (st := s_law_lets) l c k
  ⟨f, _, F, PySem.W.mg_of X G a, F.binds (ps := p_law_lets) fun _ _ _ _ _ _ us hl => match us, hl with | [_, _], _ => rfl⟩
theorem mk_law_come (X : K.In h) (G : h.Ns mainGlobals mg) {f : Addr} {od an : Option Addr} {sl : Array (Option Value)} {oc kV dc pm cd ct : Value} (a : PySem.W.nsIn K mainGlobals "_law_come" = some (some (.ref f))) (l : K.lookup f = some ⟨oc, od, .func (PySem.W.fnOf "_law_come" "_law_come" (defArgs s_law_come) (defBody s_law_come) (defScope s_law_come) .none kV dc pm an cd ct), sl⟩) (c : PySem.W.codeIn K cd "_law_come" = true) (k : PySem.W.keepIn K (.ref f) = true) : Loc K mg "_law_come" p_law_come s_law_come :=
  have F := fun_mk (st := s_law_come) l c k
  ⟨f, _, F, PySem.W.mg_of X G a, F.binds (ps := p_law_come) fun _ _ _ _ _ _ us hl => match us, hl with | [_], _ => rfl⟩
theorem mk_law_many (X : K.In h) (G : h.Ns mainGlobals mg) {f : Addr} {od an : Option Addr} {sl : Array (Option Value)} {oc kV dc pm cd ct : Value} (a : PySem.W.nsIn K mainGlobals "_law_many" = some (some (.ref f))) (l : K.lookup f = some ⟨oc, od, .func (PySem.W.fnOf "_law_many" "_law_many" (defArgs s_law_many) (defBody s_law_many) (defScope s_law_many) .none kV dc pm an cd ct), sl⟩) (c : PySem.W.codeIn K cd "_law_many" = true) (k : PySem.W.keepIn K (.ref f) = true) : Loc K mg "_law_many" p_law_many s_law_many :=
  have F := fun_mk (st := s_law_many) l c k
  ⟨f, _, F, PySem.W.mg_of X G a, F.binds (ps := p_law_many) fun _ _ _ _ _ _ us hl => match us, hl with | [_], _ => rfl⟩
theorem mk_law_ledger (X : K.In h) (G : h.Ns mainGlobals mg) {f : Addr} {od an : Option Addr} {sl : Array (Option Value)} {oc kV dc pm cd ct : Value} (a : PySem.W.nsIn K mainGlobals "_law_ledger" = some (some (.ref f))) (l : K.lookup f = some ⟨oc, od, .func (PySem.W.fnOf "_law_ledger" "_law_ledger" (defArgs s_law_ledger) (defBody s_law_ledger) (defScope s_law_ledger) .none kV dc pm an cd ct), sl⟩) (c : PySem.W.codeIn K cd "_law_ledger" = true) (k : PySem.W.keepIn K (.ref f) = true) : Loc K mg "_law_ledger" p_law_ledger s_law_ledger :=
  have F := fun_mk (st := s_law_ledger) l c k
  ⟨f, _, F, PySem.W.mg_of X G a, F.binds (ps := p_law_ledger) fun _ _ _ _ _ _ us hl => match us, hl with | [_, _], _ => rfl⟩
theorem mk_law_odd (X : K.In h) (G : h.Ns mainGlobals mg) {f : Addr} {od an : Option Addr} {sl : Array (Option Value)} {oc kV dc pm cd ct : Value} (a : PySem.W.nsIn K mainGlobals "_law_odd" = some (some (.ref f))) (l : K.lookup f = some ⟨oc, od, .func (PySem.W.fnOf "_law_odd" "_law_odd" (defArgs s_law_odd) (defBody s_law_odd) (defScope s_law_odd) .none kV dc pm an cd ct), sl⟩) (c : PySem.W.codeIn K cd "_law_odd" = true) (k : PySem.W.keepIn K (.ref f) = true) : Loc K mg "_law_odd" p_law_odd s_law_odd :=
  have F := fun_mk (st := s_law_odd) l c k
  ⟨f, _, F, PySem.W.mg_of X G a, F.binds (ps := p_law_odd) fun _ _ _ _ _ _ us hl => match us, hl with | [_, _], _ => rfl⟩
theorem mk_law_bent (X : K.In h) (G : h.Ns mainGlobals mg) {f : Addr} {od an : Option Addr} {sl : Array (Option Value)} {oc kV dc pm cd ct : Value} (a : PySem.W.nsIn K mainGlobals "_law_bent" = some (some (.ref f))) (l : K.lookup f = some ⟨oc, od, .func (PySem.W.fnOf "_law_bent" "_law_bent" (defArgs s_law_bent) (defBody s_law_bent) (defScope s_law_bent) .none kV dc pm an cd ct), sl⟩) (c : PySem.W.codeIn K cd "_law_bent" = true) (k : PySem.W.keepIn K (.ref f) = true) : Loc K mg "_law_bent" p_law_bent s_law_bent :=
  have F := fun_mk (st := s_law_bent) l c k
  ⟨f, _, F, PySem.W.mg_of X G a, F.binds (ps := p_law_bent) fun _ _ _ _ _ _ us hl => match us, hl with | [_, _], _ => rfl⟩
theorem mk_law (X : K.In h) (G : h.Ns mainGlobals mg) {f : Addr} {od an : Option Addr} {sl : Array (Option Value)} {oc kV dc pm cd ct : Value} (a : PySem.W.nsIn K mainGlobals "law" = some (some (.ref f))) (l : K.lookup f = some ⟨oc, od, .func (PySem.W.fnOf "law" "law" (defArgs s_law) (defBody s_law) (defScope s_law) .none kV dc pm an cd ct), sl⟩) (c : PySem.W.codeIn K cd "law" = true) (k : PySem.W.keepIn K (.ref f) = true) : Loc K mg "law" p_law s_law :=
  have F := fun_mk (st := s_law) l c k
  ⟨f, _, F, PySem.W.mg_of X G a, F.binds (ps := p_law) fun _ _ _ _ _ _ us hl => match us, hl with | [_], _ => rfl⟩
theorem all_env (X : K.In h) (G : h.Ns mainGlobals mg)
    {f0 : Addr} {od0 an0 : Option Addr} {sl0 : Array (Option Value)} {oc0 kV0 dc0 pm0 cd0 ct0 : Value}
    (a0 : PySem.W.nsIn K mainGlobals "is_whole" = some (some (.ref f0))) (l0 : K.lookup f0 = some ⟨oc0, od0, .func (PySem.W.fnOf "is_whole" "is_whole" (defArgs s_is_whole) (defBody s_is_whole) (defScope s_is_whole) .none kV0 dc0 pm0 an0 cd0 ct0), sl0⟩) (c0 : PySem.W.codeIn K cd0 "is_whole" = true) (k0 : PySem.W.keepIn K (.ref f0) = true)
    {f1 : Addr} {od1 an1 : Option Addr} {sl1 : Array (Option Value)} {oc1 kV1 dc1 pm1 cd1 ct1 : Value}
    (a1 : PySem.W.nsIn K mainGlobals "is_number" = some (some (.ref f1))) (l1 : K.lookup f1 = some ⟨oc1, od1, .func (PySem.W.fnOf "is_number" "is_number" (defArgs s_is_number) (defBody s_is_number) (defScope s_is_number) .none kV1 dc1 pm1 an1 cd1 ct1), sl1⟩) (c1 : PySem.W.codeIn K cd1 "is_number" = true) (k1 : PySem.W.keepIn K (.ref f1) = true)
    {f2 : Addr} {od2 an2 : Option Addr} {sl2 : Array (Option Value)} {oc2 kV2 dc2 pm2 cd2 ct2 : Value}
    (a2 : PySem.W.nsIn K mainGlobals "cut" = some (some (.ref f2))) (l2 : K.lookup f2 = some ⟨oc2, od2, .func (PySem.W.fnOf "cut" "cut" (defArgs s_cut) (defBody s_cut) (defScope s_cut) .none kV2 dc2 pm2 an2 cd2 ct2), sl2⟩) (c2 : PySem.W.codeIn K cd2 "cut" = true) (k2 : PySem.W.keepIn K (.ref f2) = true)
    {f3 : Addr} {od3 an3 : Option Addr} {sl3 : Array (Option Value)} {oc3 kV3 dc3 pm3 cd3 ct3 : Value}
    (a3 : PySem.W.nsIn K mainGlobals "done_on" = some (some (.ref f3))) (l3 : K.lookup f3 = some ⟨oc3, od3, .func (PySem.W.fnOf "done_on" "done_on" (defArgs s_done_on) (defBody s_done_on) (defScope s_done_on) .none kV3 dc3 pm3 an3 cd3 ct3), sl3⟩) (c3 : PySem.W.codeIn K cd3 "done_on" = true) (k3 : PySem.W.keepIn K (.ref f3) = true)
    {f4 : Addr} {od4 an4 : Option Addr} {sl4 : Array (Option Value)} {oc4 kV4 dc4 pm4 cd4 ct4 : Value}
    (a4 : PySem.W.nsIn K mainGlobals "is_rank" = some (some (.ref f4))) (l4 : K.lookup f4 = some ⟨oc4, od4, .func (PySem.W.fnOf "is_rank" "is_rank" (defArgs s_is_rank) (defBody s_is_rank) (defScope s_is_rank) .none kV4 dc4 pm4 an4 cd4 ct4), sl4⟩) (c4 : PySem.W.codeIn K cd4 "is_rank" = true) (k4 : PySem.W.keepIn K (.ref f4) = true)
    {f5 : Addr} {od5 an5 : Option Addr} {sl5 : Array (Option Value)} {oc5 kV5 dc5 pm5 cd5 ct5 : Value}
    (a5 : PySem.W.nsIn K mainGlobals "is_come" = some (some (.ref f5))) (l5 : K.lookup f5 = some ⟨oc5, od5, .func (PySem.W.fnOf "is_come" "is_come" (defArgs s_is_come) (defBody s_is_come) (defScope s_is_come) .none kV5 dc5 pm5 an5 cd5 ct5), sl5⟩) (c5 : PySem.W.codeIn K cd5 "is_come" = true) (k5 : PySem.W.keepIn K (.ref f5) = true)
    {f6 : Addr} {od6 an6 : Option Addr} {sl6 : Array (Option Value)} {oc6 kV6 dc6 pm6 cd6 ct6 : Value}
    (a6 : PySem.W.nsIn K mainGlobals "is_laid" = some (some (.ref f6))) (l6 : K.lookup f6 = some ⟨oc6, od6, .func (PySem.W.fnOf "is_laid" "is_laid" (defArgs s_is_laid) (defBody s_is_laid) (defScope s_is_laid) .none kV6 dc6 pm6 an6 cd6 ct6), sl6⟩) (c6 : PySem.W.codeIn K cd6 "is_laid" = true) (k6 : PySem.W.keepIn K (.ref f6) = true)
    {f7 : Addr} {od7 an7 : Option Addr} {sl7 : Array (Option Value)} {oc7 kV7 dc7 pm7 cd7 ct7 : Value}
    (a7 : PySem.W.nsIn K mainGlobals "value_behind" = some (some (.ref f7))) (l7 : K.lookup f7 = some ⟨oc7, od7, .func (PySem.W.fnOf "value_behind" "value_behind" (defArgs s_value_behind) (defBody s_value_behind) (defScope s_value_behind) .none kV7 dc7 pm7 an7 cd7 ct7), sl7⟩) (c7 : PySem.W.codeIn K cd7 "value_behind" = true) (k7 : PySem.W.keepIn K (.ref f7) = true)
    {f8 : Addr} {od8 an8 : Option Addr} {sl8 : Array (Option Value)} {oc8 kV8 dc8 pm8 cd8 ct8 : Value}
    (a8 : PySem.W.nsIn K mainGlobals "lets_ledger" = some (some (.ref f8))) (l8 : K.lookup f8 = some ⟨oc8, od8, .func (PySem.W.fnOf "lets_ledger" "lets_ledger" (defArgs s_lets_ledger) (defBody s_lets_ledger) (defScope s_lets_ledger) .none kV8 dc8 pm8 an8 cd8 ct8), sl8⟩) (c8 : PySem.W.codeIn K cd8 "lets_ledger" = true) (k8 : PySem.W.keepIn K (.ref f8) = true)
    {f9 : Addr} {od9 an9 : Option Addr} {sl9 : Array (Option Value)} {oc9 kV9 dc9 pm9 cd9 ct9 : Value}
    (a9 : PySem.W.nsIn K mainGlobals "_law_tape" = some (some (.ref f9))) (l9 : K.lookup f9 = some ⟨oc9, od9, .func (PySem.W.fnOf "_law_tape" "_law_tape" (defArgs s_law_tape) (defBody s_law_tape) (defScope s_law_tape) .none kV9 dc9 pm9 an9 cd9 ct9), sl9⟩) (c9 : PySem.W.codeIn K cd9 "_law_tape" = true) (k9 : PySem.W.keepIn K (.ref f9) = true)
    {f10 : Addr} {od10 an10 : Option Addr} {sl10 : Array (Option Value)} {oc10 kV10 dc10 pm10 cd10 ct10 : Value}
    (a10 : PySem.W.nsIn K mainGlobals "_law_draw" = some (some (.ref f10))) (l10 : K.lookup f10 = some ⟨oc10, od10, .func (PySem.W.fnOf "_law_draw" "_law_draw" (defArgs s_law_draw) (defBody s_law_draw) (defScope s_law_draw) .none kV10 dc10 pm10 an10 cd10 ct10), sl10⟩) (c10 : PySem.W.codeIn K cd10 "_law_draw" = true) (k10 : PySem.W.keepIn K (.ref f10) = true)
    {f11 : Addr} {od11 an11 : Option Addr} {sl11 : Array (Option Value)} {oc11 kV11 dc11 pm11 cd11 ct11 : Value}
    (a11 : PySem.W.nsIn K mainGlobals "_law_number" = some (some (.ref f11))) (l11 : K.lookup f11 = some ⟨oc11, od11, .func (PySem.W.fnOf "_law_number" "_law_number" (defArgs s_law_number) (defBody s_law_number) (defScope s_law_number) .none kV11 dc11 pm11 an11 cd11 ct11), sl11⟩) (c11 : PySem.W.codeIn K cd11 "_law_number" = true) (k11 : PySem.W.keepIn K (.ref f11) = true)
    {f12 : Addr} {od12 an12 : Option Addr} {sl12 : Array (Option Value)} {oc12 kV12 dc12 pm12 cd12 ct12 : Value}
    (a12 : PySem.W.nsIn K mainGlobals "_law_cut" = some (some (.ref f12))) (l12 : K.lookup f12 = some ⟨oc12, od12, .func (PySem.W.fnOf "_law_cut" "_law_cut" (defArgs s_law_cut) (defBody s_law_cut) (defScope s_law_cut) .none kV12 dc12 pm12 an12 cd12 ct12), sl12⟩) (c12 : PySem.W.codeIn K cd12 "_law_cut" = true) (k12 : PySem.W.keepIn K (.ref f12) = true)
    {f13 : Addr} {od13 an13 : Option Addr} {sl13 : Array (Option Value)} {oc13 kV13 dc13 pm13 cd13 ct13 : Value}
    (a13 : PySem.W.nsIn K mainGlobals "_law_after" = some (some (.ref f13))) (l13 : K.lookup f13 = some ⟨oc13, od13, .func (PySem.W.fnOf "_law_after" "_law_after" (defArgs s_law_after) (defBody s_law_after) (defScope s_law_after) .none kV13 dc13 pm13 an13 cd13 ct13), sl13⟩) (c13 : PySem.W.codeIn K cd13 "_law_after" = true) (k13 : PySem.W.keepIn K (.ref f13) = true)
    {f14 : Addr} {od14 an14 : Option Addr} {sl14 : Array (Option Value)} {oc14 kV14 dc14 pm14 cd14 ct14 : Value}
    (a14 : PySem.W.nsIn K mainGlobals "_law_is_number" = some (some (.ref f14))) (l14 : K.lookup f14 = some ⟨oc14, od14, .func (PySem.W.fnOf "_law_is_number" "_law_is_number" (defArgs s_law_is_number) (defBody s_law_is_number) (defScope s_law_is_number) .none kV14 dc14 pm14 an14 cd14 ct14), sl14⟩) (c14 : PySem.W.codeIn K cd14 "_law_is_number" = true) (k14 : PySem.W.keepIn K (.ref f14) = true)
    {f15 : Addr} {od15 an15 : Option Addr} {sl15 : Array (Option Value)} {oc15 kV15 dc15 pm15 cd15 ct15 : Value}
    (a15 : PySem.W.nsIn K mainGlobals "_law_is_rank" = some (some (.ref f15))) (l15 : K.lookup f15 = some ⟨oc15, od15, .func (PySem.W.fnOf "_law_is_rank" "_law_is_rank" (defArgs s_law_is_rank) (defBody s_law_is_rank) (defScope s_law_is_rank) .none kV15 dc15 pm15 an15 cd15 ct15), sl15⟩) (c15 : PySem.W.codeIn K cd15 "_law_is_rank" = true) (k15 : PySem.W.keepIn K (.ref f15) = true)
    {f16 : Addr} {od16 an16 : Option Addr} {sl16 : Array (Option Value)} {oc16 kV16 dc16 pm16 cd16 ct16 : Value}
    (a16 : PySem.W.nsIn K mainGlobals "_law_is_ledger_row" = some (some (.ref f16))) (l16 : K.lookup f16 = some ⟨oc16, od16, .func (PySem.W.fnOf "_law_is_ledger_row" "_law_is_ledger_row" (defArgs s_law_is_ledger_row) (defBody s_law_is_ledger_row) (defScope s_law_is_ledger_row) .none kV16 dc16 pm16 an16 cd16 ct16), sl16⟩) (c16 : PySem.W.codeIn K cd16 "_law_is_ledger_row" = true) (k16 : PySem.W.keepIn K (.ref f16) = true)
    {f17 : Addr} {od17 an17 : Option Addr} {sl17 : Array (Option Value)} {oc17 kV17 dc17 pm17 cd17 ct17 : Value}
    (a17 : PySem.W.nsIn K mainGlobals "_law_laid" = some (some (.ref f17))) (l17 : K.lookup f17 = some ⟨oc17, od17, .func (PySem.W.fnOf "_law_laid" "_law_laid" (defArgs s_law_laid) (defBody s_law_laid) (defScope s_law_laid) .none kV17 dc17 pm17 an17 cd17 ct17), sl17⟩) (c17 : PySem.W.codeIn K cd17 "_law_laid" = true) (k17 : PySem.W.keepIn K (.ref f17) = true)
    {f18 : Addr} {od18 an18 : Option Addr} {sl18 : Array (Option Value)} {oc18 kV18 dc18 pm18 cd18 ct18 : Value}
    (a18 : PySem.W.nsIn K mainGlobals "_law_lets" = some (some (.ref f18))) (l18 : K.lookup f18 = some ⟨oc18, od18, .func (PySem.W.fnOf "_law_lets" "_law_lets" (defArgs s_law_lets) (defBody s_law_lets) (defScope s_law_lets) .none kV18 dc18 pm18 an18 cd18 ct18), sl18⟩) (c18 : PySem.W.codeIn K cd18 "_law_lets" = true) (k18 : PySem.W.keepIn K (.ref f18) = true)
    {f19 : Addr} {od19 an19 : Option Addr} {sl19 : Array (Option Value)} {oc19 kV19 dc19 pm19 cd19 ct19 : Value}
    (a19 : PySem.W.nsIn K mainGlobals "_law_come" = some (some (.ref f19))) (l19 : K.lookup f19 = some ⟨oc19, od19, .func (PySem.W.fnOf "_law_come" "_law_come" (defArgs s_law_come) (defBody s_law_come) (defScope s_law_come) .none kV19 dc19 pm19 an19 cd19 ct19), sl19⟩) (c19 : PySem.W.codeIn K cd19 "_law_come" = true) (k19 : PySem.W.keepIn K (.ref f19) = true)
    {f20 : Addr} {od20 an20 : Option Addr} {sl20 : Array (Option Value)} {oc20 kV20 dc20 pm20 cd20 ct20 : Value}
    (a20 : PySem.W.nsIn K mainGlobals "_law_many" = some (some (.ref f20))) (l20 : K.lookup f20 = some ⟨oc20, od20, .func (PySem.W.fnOf "_law_many" "_law_many" (defArgs s_law_many) (defBody s_law_many) (defScope s_law_many) .none kV20 dc20 pm20 an20 cd20 ct20), sl20⟩) (c20 : PySem.W.codeIn K cd20 "_law_many" = true) (k20 : PySem.W.keepIn K (.ref f20) = true)
    {f21 : Addr} {od21 an21 : Option Addr} {sl21 : Array (Option Value)} {oc21 kV21 dc21 pm21 cd21 ct21 : Value}
    (a21 : PySem.W.nsIn K mainGlobals "_law_ledger" = some (some (.ref f21))) (l21 : K.lookup f21 = some ⟨oc21, od21, .func (PySem.W.fnOf "_law_ledger" "_law_ledger" (defArgs s_law_ledger) (defBody s_law_ledger) (defScope s_law_ledger) .none kV21 dc21 pm21 an21 cd21 ct21), sl21⟩) (c21 : PySem.W.codeIn K cd21 "_law_ledger" = true) (k21 : PySem.W.keepIn K (.ref f21) = true)
    {f22 : Addr} {od22 an22 : Option Addr} {sl22 : Array (Option Value)} {oc22 kV22 dc22 pm22 cd22 ct22 : Value}
    (a22 : PySem.W.nsIn K mainGlobals "_law_odd" = some (some (.ref f22))) (l22 : K.lookup f22 = some ⟨oc22, od22, .func (PySem.W.fnOf "_law_odd" "_law_odd" (defArgs s_law_odd) (defBody s_law_odd) (defScope s_law_odd) .none kV22 dc22 pm22 an22 cd22 ct22), sl22⟩) (c22 : PySem.W.codeIn K cd22 "_law_odd" = true) (k22 : PySem.W.keepIn K (.ref f22) = true)
    {f23 : Addr} {od23 an23 : Option Addr} {sl23 : Array (Option Value)} {oc23 kV23 dc23 pm23 cd23 ct23 : Value}
    (a23 : PySem.W.nsIn K mainGlobals "_law_bent" = some (some (.ref f23))) (l23 : K.lookup f23 = some ⟨oc23, od23, .func (PySem.W.fnOf "_law_bent" "_law_bent" (defArgs s_law_bent) (defBody s_law_bent) (defScope s_law_bent) .none kV23 dc23 pm23 an23 cd23 ct23), sl23⟩) (c23 : PySem.W.codeIn K cd23 "_law_bent" = true) (k23 : PySem.W.keepIn K (.ref f23) = true)
    {f24 : Addr} {od24 an24 : Option Addr} {sl24 : Array (Option Value)} {oc24 kV24 dc24 pm24 cd24 ct24 : Value}
    (a24 : PySem.W.nsIn K mainGlobals "law" = some (some (.ref f24))) (l24 : K.lookup f24 = some ⟨oc24, od24, .func (PySem.W.fnOf "law" "law" (defArgs s_law) (defBody s_law) (defScope s_law) .none kV24 dc24 pm24 an24 cd24 ct24), sl24⟩) (c24 : PySem.W.codeIn K cd24 "law" = true) (k24 : PySem.W.keepIn K (.ref f24) = true)
    (z_abs : PySem.W.nsIn K mainGlobals "abs" = some none)
    (z_all : PySem.W.nsIn K mainGlobals "all" = some none)
    (z_bool : PySem.W.nsIn K mainGlobals "bool" = some none)
    (z_enumerate : PySem.W.nsIn K mainGlobals "enumerate" = some none)
    (z_int : PySem.W.nsIn K mainGlobals "int" = some none)
    (z_isinstance : PySem.W.nsIn K mainGlobals "isinstance" = some none)
    (z_len : PySem.W.nsIn K mainGlobals "len" = some none)
    (z_list : PySem.W.nsIn K mainGlobals "list" = some none)
    (z_max : PySem.W.nsIn K mainGlobals "max" = some none)
    (z_min : PySem.W.nsIn K mainGlobals "min" = some none)
    (z_range : PySem.W.nsIn K mainGlobals "range" = some none)
    (z_reversed : PySem.W.nsIn K mainGlobals "reversed" = some none)
    (z_str : PySem.W.nsIn K mainGlobals "str" = some none)
    (z_tuple : PySem.W.nsIn K mainGlobals "tuple" = some none)
    {t_GREATEST : Tok} (g_GREATEST : PySem.W.nsIn K mainGlobals "GREATEST" = some (some (.int 1000000000 t_GREATEST)))
    {q_WORDS : Addr} {t0_WORDS t1_WORDS t2_WORDS : Tok} {od_WORDS : Option Addr} {n_WORDS : Nat} {sl_WORDS : Array (Option Value)} (g_WORDS : PySem.W.nsIn K mainGlobals "WORDS" = some (some (.ref q_WORDS))) (h_WORDS : K.lookup q_WORDS = some ⟨.type "tuple", od_WORDS, .seq #[.str "set" t0_WORDS, .str "add" t1_WORDS, .str "times" t2_WORDS] n_WORDS, sl_WORDS⟩)
    {t_MOST_RANK : Tok} (g_MOST_RANK : PySem.W.nsIn K mainGlobals "MOST_RANK" = some (some (.int 3 t_MOST_RANK))) : Env K mg :=
  { l_is_whole := mk_is_whole X G a0 l0 c0 k0,
    l_is_number := mk_is_number X G a1 l1 c1 k1,
    l_cut := mk_cut X G a2 l2 c2 k2,
    l_done_on := mk_done_on X G a3 l3 c3 k3,
    l_is_rank := mk_is_rank X G a4 l4 c4 k4,
    l_is_come := mk_is_come X G a5 l5 c5 k5,
    l_is_laid := mk_is_laid X G a6 l6 c6 k6,
    l_value_behind := mk_value_behind X G a7 l7 c7 k7,
    l_lets_ledger := mk_lets_ledger X G a8 l8 c8 k8,
    l_law_tape := mk_law_tape X G a9 l9 c9 k9,
    l_law_draw := mk_law_draw X G a10 l10 c10 k10,
    l_law_number := mk_law_number X G a11 l11 c11 k11,
    l_law_cut := mk_law_cut X G a12 l12 c12 k12,
    l_law_after := mk_law_after X G a13 l13 c13 k13,
    l_law_is_number := mk_law_is_number X G a14 l14 c14 k14,
    l_law_is_rank := mk_law_is_rank X G a15 l15 c15 k15,
    l_law_is_ledger_row := mk_law_is_ledger_row X G a16 l16 c16 k16,
    l_law_laid := mk_law_laid X G a17 l17 c17 k17,
    l_law_lets := mk_law_lets X G a18 l18 c18 k18,
    l_law_come := mk_law_come X G a19 l19 c19 k19,
    l_law_many := mk_law_many X G a20 l20 c20 k20,
    l_law_ledger := mk_law_ledger X G a21 l21 c21 k21,
    l_law_odd := mk_law_odd X G a22 l22 c22 k22,
    l_law_bent := mk_law_bent X G a23 l23 c23 k23,
    l_law := mk_law X G a24 l24 c24 k24,
    m_abs := PySem.W.mg_none_of X G z_abs,
    m_all := PySem.W.mg_none_of X G z_all,
    m_bool := PySem.W.mg_none_of X G z_bool,
    m_enumerate := PySem.W.mg_none_of X G z_enumerate,
    m_int := PySem.W.mg_none_of X G z_int,
    m_isinstance := PySem.W.mg_none_of X G z_isinstance,
    m_len := PySem.W.mg_none_of X G z_len,
    m_list := PySem.W.mg_none_of X G z_list,
    m_max := PySem.W.mg_none_of X G z_max,
    m_min := PySem.W.mg_none_of X G z_min,
    m_range := PySem.W.mg_none_of X G z_range,
    m_reversed := PySem.W.mg_none_of X G z_reversed,
    m_str := PySem.W.mg_none_of X G z_str,
    m_tuple := PySem.W.mg_none_of X G z_tuple,
    g_GREATEST := ⟨_, PySem.W.mg_of X G g_GREATEST⟩,
    g_WORDS := ⟨_, PySem.W.mg_of X G g_WORDS, ktup_of h_WORDS (vs_str (vs_str (vs_str vs_nil)))⟩,
    g_MOST_RANK := ⟨_, PySem.W.mg_of X G g_MOST_RANK⟩ }
theorem walk {l : PySem.W.OpenLaw} {q : Program} {loose : List Str} {XP : (Str → Option Value) → Heap → Prop} {YP : World → Heap → Prop} {d : DefRec} {K : Params → PySem.W.Frag} (hn : l.most = some 63) (hdf : d.params.defaults = [])
    (hY : ∀ (w : World) (h : Heap), YP w h → (K w.params).In h) (hd : d.name = "law")
    (F : ∀ (w : World) (mg : Str → Option Value) (h : Heap), (K w.params).In h → h.Ns mainGlobals mg → Env (K w.params) mg) :
    PySem.W.WalkO q loose XP YP l.row.toRowW d [] (fun f vs => PySem.call f vs) :=
  L2.walk_of (n := 63) (k := 6) (x := "_law_script") (CX := fun _ => CX0) (sp := fun w => sp_law (K w.params)) hn (by decide) hdf ⟨rfl, by decide, by decide⟩ hY (fun w mg fa h KX G hmg => by
    have T := F w mg h KX G
    obtain ⟨f, fd, F1, m, b⟩ := T.l_law.ex
    rw [hd] at hmg
    have e := hmg.symm.trans m
    cases e
    refine ⟨fd, fun s v => ?_, fun base _ _ => ?_⟩
    · obtain ⟨oc, od, kV, doc, pm, an, cdv, ct, osl, rfl, lk, hcd⟩ := F1.ex
      exact .of_eq rfl
    · exact ok_law T F1) (fun _ _ a ns hl _ hS => ⟨a, ns, rfl, hS, hl, fun _ => rfl⟩) fun _ _ _ _ _ z => z
end
end LW
open PySem PySem.W PyProof.Rows
set_option maxRecDepth 100000 in
set_option maxHeartbeats 0 in
theorem PySem.Challenge.cw_viewwood_k61_what_is_no_ledger_holds : PySem.Challenge.rw_viewwood_k61_what_is_no_ledger.Holds := by
  w_on; o_law; k_head; (case hw => w_witness2)
  k_fill
  refine LW.walk (l := PySem.Challenge.rw_viewwood_k61_what_is_no_ledger) rfl rfl (fun w h Y => PySem.W.kIn_of Y) rfl ?F
  case F =>
    intro w mg h KX G
    refine' LW.all_env KX G ?a0 ?l0 ?c0 ?k0 ?a1 ?l1 ?c1 ?k1 ?a2 ?l2 ?c2 ?k2 ?a3 ?l3 ?c3 ?k3 ?a4 ?l4 ?c4 ?k4 ?a5 ?l5 ?c5 ?k5 ?a6 ?l6 ?c6 ?k6 ?a7 ?l7 ?c7 ?k7 ?a8 ?l8 ?c8 ?k8 ?a9 ?l9 ?c9 ?k9 ?a10 ?l10 ?c10 ?k10 ?a11 ?l11 ?c11 ?k11 ?a12 ?l12 ?c12 ?k12 ?a13 ?l13 ?c13 ?k13 ?a14 ?l14 ?c14 ?k14 ?a15 ?l15 ?c15 ?k15 ?a16 ?l16 ?c16 ?k16 ?a17 ?l17 ?c17 ?k17 ?a18 ?l18 ?c18 ?k18 ?a19 ?l19 ?c19 ?k19 ?a20 ?l20 ?c20 ?k20 ?a21 ?l21 ?c21 ?k21 ?a22 ?l22 ?c22 ?k22 ?a23 ?l23 ?c23 ?k23 ?a24 ?l24 ?c24 ?k24 ?z_abs ?z_all ?z_bool ?z_enumerate ?z_int ?z_isinstance ?z_len ?z_list ?z_max ?z_min ?z_range ?z_reversed ?z_str ?z_tuple ?g_GREATEST ?g_WORDS ?h_WORDS ?g_MOST_RANK
    (case a0 => k_is)
    (case l0 => k_is)
    (case c0 => k_is)
    (case k0 => k_is)
    (case a1 => k_is)
    (case l1 => k_is)
    (case c1 => k_is)
    (case k1 => k_is)
    (case a2 => k_is)
    (case l2 => k_is)
    (case c2 => k_is)
    (case k2 => k_is)
    (case a3 => k_is)
    (case l3 => k_is)
    (case c3 => k_is)
    (case k3 => k_is)
    (case a4 => k_is)
    (case l4 => k_is)
    (case c4 => k_is)
    (case k4 => k_is)
    (case a5 => k_is)
    (case l5 => k_is)
    (case c5 => k_is)
    (case k5 => k_is)
    (case a6 => k_is)
    (case l6 => k_is)
    (case c6 => k_is)
    (case k6 => k_is)
    (case a7 => k_is)
    (case l7 => k_is)
    (case c7 => k_is)
    (case k7 => k_is)
    (case a8 => k_is)
    (case l8 => k_is)
    (case c8 => k_is)
    (case k8 => k_is)
    (case a9 => k_is)
    (case l9 => k_is)
    (case c9 => k_is)
    (case k9 => k_is)
    (case a10 => k_is)
    (case l10 => k_is)
    (case c10 => k_is)
    (case k10 => k_is)
    (case a11 => k_is)
    (case l11 => k_is)
    (case c11 => k_is)
    (case k11 => k_is)
    (case a12 => k_is)
    (case l12 => k_is)
    (case c12 => k_is)
    (case k12 => k_is)
    (case a13 => k_is)
    (case l13 => k_is)
    (case c13 => k_is)
    (case k13 => k_is)
    (case a14 => k_is)
    (case l14 => k_is)
    (case c14 => k_is)
    (case k14 => k_is)
    (case a15 => k_is)
    (case l15 => k_is)
    (case c15 => k_is)
    (case k15 => k_is)
    (case a16 => k_is)
    (case l16 => k_is)
    (case c16 => k_is)
    (case k16 => k_is)
    (case a17 => k_is)
    (case l17 => k_is)
    (case c17 => k_is)
    (case k17 => k_is)
    (case a18 => k_is)
    (case l18 => k_is)
    (case c18 => k_is)
    (case k18 => k_is)
    (case a19 => k_is)
    (case l19 => k_is)
    (case c19 => k_is)
    (case k19 => k_is)
    (case a20 => k_is)
    (case l20 => k_is)
    (case c20 => k_is)
    (case k20 => k_is)
    (case a21 => k_is)
    (case l21 => k_is)
    (case c21 => k_is)
    (case k21 => k_is)
    (case a22 => k_is)
    (case l22 => k_is)
    (case c22 => k_is)
    (case k22 => k_is)
    (case a23 => k_is)
    (case l23 => k_is)
    (case c23 => k_is)
    (case k23 => k_is)
    (case a24 => k_is)
    (case l24 => k_is)
    (case c24 => k_is)
    (case k24 => k_is)
    (case z_abs => k_is)
    (case z_all => k_is)
    (case z_bool => k_is)
    (case z_enumerate => k_is)
    (case z_int => k_is)
    (case z_isinstance => k_is)
    (case z_len => k_is)
    (case z_list => k_is)
    (case z_max => k_is)
    (case z_min => k_is)
    (case z_range => k_is)
    (case z_reversed => k_is)
    (case z_str => k_is)
    (case z_tuple => k_is)
    (case g_GREATEST => k_is)
    (case g_WORDS => k_is)
    (case h_WORDS => k_is)
    (case g_MOST_RANK => k_is)

