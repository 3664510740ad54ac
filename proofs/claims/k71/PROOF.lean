import PyProof.Rows.All
import Wide.All
import OpenK.AllK
import Wide.FinOn
import HandS.ForMost
import HandS.Wide
import HandS.IsInst
import HandS.TupAny
import HandS.Codes
import HandS.Deep
import HandS.Rev
import HandS.TupLe
import PyProof.NeKinds
import PyProof.FactsAll.dict_1
import PyProof.FactsAll.dict_2
import HandS.More
import HandS.Walk
import HandS.RevRange
import HandS.Conv
import HandS.DictTup
import HandS.ReCall
import HandS.Iter
import KE.KDictKeyed
import KE.KDictLaw
import KE.KDictWalk
import PyProof.DictRoadsH
import PySem.Challenge.RW_viewwood_k71_what_stands
set_option Elab.async false
set_option linter.all false
set_option maxRecDepth 100000
/-! a dict against a text: == is false, != true -/
namespace U
open PySem PySem.SeqAt
open PySem.AutoSeq1 (wpAny_loadPart')
open PySem.MeetsSeq PySem.MeetsSeq2 PySem.MeetsSeq3
theorem dict_ne_declines_str (l : Addr) (o : Obj) (b : Str) (u : Tok) (hc : o.cls = .type "dict") (es : Array DictEntry) (ep : Nat) (hd : o.data = .dict es ep) :
    Meets (Builtin.«dict.__ne__» ⟨[.ref l, .str b u], []⟩) (fun _ R s => s.heap.get? l = some o ∧ R (.ok (.ret .notImplemented)) s) :=
  .of_wp fun prog w A R s h => by
    obtain ⟨hp, g, d, tk, os⟩ := s; obtain ⟨hl, h⟩ := h; have f1 := F.sub_str_dict
    obtain ⟨cls, dd, data, sl⟩ := o
    simp only at hc hd
    subst hc hd
    wp_walk using wpAny_loadPart' hl, wpAny_load hl
    exact ⟨_, rfl, h⟩
theorem str_ne_declines_dict (b : Str) (u : Tok) (l : Addr) (o : Obj) (hc : o.cls = .type "dict") (es : Array DictEntry) (ep : Nat) (hd : o.data = .dict es ep) :
    Meets (Builtin.«str.__ne__» ⟨[.str b u, .ref l], []⟩) (fun _ R s => s.heap.get? l = some o ∧ R (.ok (.ret .notImplemented)) s) :=
  .of_wp fun prog w A R s h => by
    obtain ⟨hp, g, d, tk, os⟩ := s; obtain ⟨hl, h⟩ := h
    obtain ⟨cls, dd, data, sl⟩ := o
    simp only at hc hd
    subst hc hd
    wp_walk using wpAny_loadPart' hl, wpAny_load hl
    exact ⟨_, rfl, h⟩
section
variable {A : Around} {s : Shared}
theorem rcNe_dict_str {l : Addr} {o : Obj} {es : Array DictEntry} {ep : Nat} (b : Str) (u : Tok) (ho : s.heap.get? l = some o) (hc : o.cls = .type "dict") (hd : o.data = .dict es ep) (hu : A.units < cLine) : RcNeAt A s (.ref l) (.str b u) true := fun prog w E Q h =>
  rc_ne_decline_or (k := false) ⟨_, ho, hc⟩ (typeIs_str s b u) (by decide) F.sub_str_dict F.slot_dict_ne F.slot_str_ne_refl
    (fun _ hq => call_meets F.slot_dict_ne ⟨_, ho, hc⟩ F.entry_dict_ne (F.args_dict_ne_2 _ _) (dict_ne_declines_str l o b u hc es ep hd) ⟨ho, hq⟩)
    (fun _ hq => call_meets F.slot_str_ne_refl (typeIs_str s b u) F.entry_str_ne (F.args_str_ne_2 _ _) (str_ne_declines_dict b u l o hc es ep hd) ⟨ho, hq⟩)
    (fun _ hq => wpAny_of_eq (rfl : isSame (.ref l) (.str b u) = pure false) hq) (.inr hu) h
end
theorem dict_eq_declines_str (l : Addr) (o : Obj) (b : Str) (u : Tok) (hc : o.cls = .type "dict") (es : Array DictEntry) (ep : Nat) (hd : o.data = .dict es ep) :
    Meets (Builtin.«dict.__eq__» ⟨[.ref l, .str b u], []⟩) (fun _ R s => s.heap.get? l = some o ∧ R (.ok (.ret .notImplemented)) s) :=
  .of_wp fun prog w A R s h => by
    obtain ⟨hp, g, d, tk, os⟩ := s; obtain ⟨hl, h⟩ := h; have f1 := F.sub_str_dict
    obtain ⟨cls, dd, data, sl⟩ := o
    simp only at hc hd
    subst hc hd
    wp_walk using wpAny_loadPart' hl, wpAny_load hl
    exact ⟨_, rfl, h⟩
theorem str_eq_declines_dict (b : Str) (u : Tok) (l : Addr) (o : Obj) (hc : o.cls = .type "dict") (es : Array DictEntry) (ep : Nat) (hd : o.data = .dict es ep) :
    Meets (Builtin.«str.__eq__» ⟨[.str b u, .ref l], []⟩) (fun _ R s => s.heap.get? l = some o ∧ R (.ok (.ret .notImplemented)) s) :=
  .of_wp fun prog w A R s h => by
    obtain ⟨hp, g, d, tk, os⟩ := s; obtain ⟨hl, h⟩ := h
    obtain ⟨cls, dd, data, sl⟩ := o
    simp only at hc hd
    subst hc hd
    wp_walk using wpAny_loadPart' hl, wpAny_load hl
    exact ⟨_, rfl, h⟩
section
variable {A : Around} {s : Shared}
theorem rcEq_dict_str {l : Addr} {o : Obj} {es : Array DictEntry} {ep : Nat} (b : Str) (u : Tok) (ho : s.heap.get? l = some o) (hc : o.cls = .type "dict") (hd : o.data = .dict es ep) (hu : A.units < cLine) : RcAt A s (.ref l) (.str b u) false := fun prog w E Q h =>
  rc_eq_decline_or (k := false) ⟨_, ho, hc⟩ (typeIs_str s b u) (by decide) F.sub_str_dict F.slot_dict_eq F.slot_str_eq_refl
    (fun _ hq => call_meets F.slot_dict_eq ⟨_, ho, hc⟩ F.entry_dict_eq (F.args_dict_eq_2 _ _) (dict_eq_declines_str l o b u hc es ep hd) ⟨ho, hq⟩)
    (fun _ hq => call_meets F.slot_str_eq_refl (typeIs_str s b u) F.entry_str_eq (F.args_str_eq_2 _ _) (str_eq_declines_dict b u l o hc es ep hd) ⟨ho, hq⟩)
    (fun _ hq => wpAny_of_eq (rfl : isSame (.ref l) (.str b u) = pure false) hq) (.inr hu) h
end
end U
namespace U
open PySem PySem.Spec PyProof.Rows L2
def rNeDS : R2 := fun x y H Q => ∃ p kvs z, x = .ref p ∧ H p = some (.dK kvs) ∧ y = .str z ∧ Q (.bl true) H
theorem op_neDS {X : Cx} (hu : X.A.units + 64 < cLine) : OpR X (compareOp .NotEq) rNeDS := by
  intro pins s σ H x y v u Q I rx ry h
  obtain ⟨p, kvs, z, rfl, hp, rfl, q⟩ := h
  obtain ⟨t, rfl⟩ := ry
  cases rx
  obtain ⟨_, _, _, _, o, es, ep, ho, hex, hd, _⟩ := I.hok p _ hp
  exact rcNe_dict_str z t ho hex.1 hd (by omega) _ _ _ _ ⟨.bl true, H, I, rfl, q⟩
def rEqDS : R2 := fun x y H Q => ∃ p kvs z, x = .ref p ∧ H p = some (.dK kvs) ∧ y = .str z ∧ Q (.bl false) H
theorem op_eqDS {X : Cx} (hu : X.A.units + 64 < cLine) : OpR X (compareOp .Eq) rEqDS := by
  intro pins s σ H x y v u Q I rx ry h
  obtain ⟨p, kvs, z, rfl, hp, rfl, q⟩ := h
  obtain ⟨t, rfl⟩ := ry
  cases rx
  obtain ⟨_, _, _, _, o, es, ep, ho, hex, hd, _⟩ := I.hok p _ hp
  exact rcEq_dict_str z t ho hex.1 hd (by omega) _ _ _ _ ⟨.bl false, H, I, rfl, q⟩
end U

/-! Uni: one rule for each construct whatever its values are, and short steps of readings. -/
namespace U
open PySem PySem.Spec PyProof.Rows L2
/-! ### a def that stands in the text, with its promise -/
structure Loc (K : PySem.W.Frag) (mg : Str → Option Value) (x : Str) (ps : List Str) (st : Stmt) : Prop where
  ex : ∃ f fd, Fun K x x st f fd ∧ mg x = some (.ref f) ∧ Binds K fd ps []
structure Fx (P : Program) (w : World) (K : PySem.W.Frag) (mg : Str → Option Value) (base : Heap) (k : Nat) (x : Str) (ps : List Str) (sp : Sp) : Prop where
  ex : ∃ f fd, FnOk P w K mg base CX0 k f fd ps sp ∧ mg x = some (.ref f) ∧ PySem.W.keepIn K (.ref f) = true ∧ Binds K fd ps []
theorem Fx.mono {P : Program} {w : World} {K : PySem.W.Frag} {mg : Str → Option Value} {base : Heap} {j k : Nat} {x : Str} {ps : List Str} {sp : Sp} (F : Fx P w K mg base j x ps sp) (h : j ≤ k) : Fx P w K mg base k x ps sp := by
  obtain ⟨f, fd, a, b, c, d⟩ := F.ex
  exact ⟨f, fd, a.mono h, b, c, d⟩
theorem Loc.ok {P : Program} {w : World} {K : PySem.W.Frag} {mg : Str → Option Value} {base : Heap} {x : Str} {st : Stmt} {N ps : List Str} {k : Nat} {sp : Sp} (L : Loc K mg x ps st) (S : FnScope N ps (defScope st)) (len : ∀ vs H Q E, sp vs H Q E → vs.length = ps.length)
    (hbody : ∀ (f : Addr) (cdv : Value) (A : Around) (outer : List Env) (s : Shared) (H : Hp) (vs : List V) (Q : VK) (E : XK), Room k (A.deeper (envOfC x (defScope st) s.heap.objs.size f cdv)) → sp vs H Q E →
      ∃ t, PSs (cxOf CX0 P w K mg base N x (defScope st) f cdv A outer s H E).nox (defBody st) t ∧ t ⟨fun _ H' => Q .non H', Q, fun _ _ => False, fun _ _ => False⟩ (start N vs) H) : Fx P w K mg base (k + 1) x ps sp := by
  obtain ⟨f, fd, F, m, b⟩ := L.ex
  exact ⟨f, fd, F.ok S len fun cdv A outer s H vs Q E hr h => hbody f cdv A outer s H vs Q E hr h, m, F.kp, b⟩
theorem pe_fx {X : Cx} {k j : Nat} {x : Str} {ps : List Str} {sp : Sp} {e : Expr} {es : List Expr} {t : TA} {p pos : Pos} (G : Fx X.prog X.w X.K X.mg X.base k x ps sp) (hr : Room j X.A) (hkj : k ≤ j) (ha : PA X (e :: es) t) (hg : Gl X x := by rfl)
    (hdb : (x == ("__debug__" : Str)) = false := by decide +kernel)
    (he : starEach (e :: es) X.env = (false, eval e X.env) :: starEach es X.env := by rfl) (hpl : (backTo pos (starEach es X.env)).any (·.1) = false := by rfl) : PE X (.Call (.Name x p) (e :: es) [] pos) (tCall sp [] E0 t) := by
  obtain ⟨f, fd, a, b, c, d⟩ := G.ex
  exact pe_call a (hr.mono hkj) hg b c d .nil pass0 ha (hdb := hdb) (he := he) (hpl := hpl)

/-! ### a constant tuple of the top -/
def KTup (K : PySem.W.Frag) (a : Addr) (xs : List V) : Prop := ∀ H, SqT K H a xs
def tKT (K : PySem.W.Frag) (xs : List V) : TE := fun _ H Q => ∀ a, KTup K a xs → Q (.ref a) H
theorem pe_ktup {X : Cx} {e : Expr} {a : Addr} {xs : List V} (h : PE X e (tC (.ref a))) (k : KTup X.K a xs) : PE X e (tKT X.K xs) := ⟨fun pins s σ H Q I q => h.run pins s σ H Q I (q a k)⟩
theorem ktup_of {K : PySem.W.Frag} {a : Addr} {xs : List V} {od : Option Addr} {its : Array Value} {n : Nat} {sl : Array (Option Value)} (h : K.lookup a = some ⟨.type "tuple", od, .seq its n, sl⟩) (v : Vals xs its.toList) (z : its.size ≤ 1000 := by exact Nat.le_of_ble_eq_true rfl) : KTup K a xs := fun _ =>
  .inr ⟨_, its, n, h, rfl, rfl, Nat.le_trans z (by decide), v⟩
theorem vs_nil : Vals [] [] := .nil
theorem vs_str {x : Str} {t : Tok} {xs : List V} {us : List Value} (h : Vals xs us) : Vals (.str x :: xs) (.str x t :: us) := .cons ⟨t, rfl⟩ h
theorem vs_int {x : Int} {t : Tok} {xs : List V} {us : List Value} (h : Vals xs us) : Vals (.int x :: xs) (.int x t :: us) := .cons ⟨t, rfl⟩ h
/-! ### one rule a construct -/
section
variable {X : Cx}
abbrev r2or (r r' : R2) : R2 := fun x y H Q => r x y H Q ∨ r' x y H Q
def rStrCat : R2 := fun x y H Q => ∃ i j, x = .str i ∧ y = .str j ∧ i.length + j.length ≤ sizeLine ∧ Q (.str (i ++ j)) H
def rAddU (K : PySem.W.Frag) : R2 := r2or (r2or (rI0 fun i j => .int (i + j)) rStrCat) (r2or (rCatA K) rCat)
theorem op_addU {K} (hK : X.K = K) : OpR X (binaryOp .Add) (rAddU K) := by subst hK; exact (op_add.or op_add_str).or (op_catA.or op_cat)
def rMaxU : List V → Hp → VK → Prop := fun xs H Q => ∃ i j, xs = [.int i, .int j] ∧ Q (.int (if j > i then j else i)) H
def rMinU : List V → Hp → VK → Prop := fun xs H Q => ∃ i j, xs = [.int i, .int j] ∧ Q (.int (if j < i then j else i)) H
def rAbsU : List V → Hp → VK → Prop := fun xs H Q => ∃ i, xs = [.int i] ∧ Q (.int (if i < 0 then -i else i)) H
def rIntU : List V → Hp → VK → Prop := fun xs H Q => (∃ i, xs = [.int i] ∧ Q (.int i) H) ∨ ∃ k, xs = [.bl k] ∧ Q (.int (if k then 1 else 0)) H
theorem call_maxU (hc : X.calm = true) : CallR X (.builtin "max") rMaxU := call_max2 hc
theorem call_minU (hc : X.calm = true) : CallR X (.builtin "min") rMinU := call_min2 hc
theorem call_absU : CallR X (.builtin "abs") rAbsU := call_abs
theorem call_intU : CallR X (.type "int") rIntU := call_int1
def rLenU (K : PySem.W.Frag) : List V → Hp → VK → Prop := fun xs H Q => (∃ p ys, xs = [.ref p] ∧ (SqL K H p ys ∨ SqT K H p ys) ∧ Q (.int ys.length) H) ∨ (∃ z, xs = [.str z] ∧ z.length ≤ sizeLine ∧ Q (.int z.length) H)
theorem call_lenU {K} (hK : X.K = K) : CallR X (.builtin "len") (rLenU K) := by subst hK; exact call_len_seq.or call_len_str
theorem call_isiU {K} (hK : X.K = K) : CallR X (.builtin "isinstance") (rIsi K) := by subst hK; exact call_isi
theorem ix_U {K} (hK : X.K = K) : IxR X (rIx K) := by subst hK; exact ix_seq
theorem call_allU {K} (hK : X.K = K) (hc : X.calm = true) : CallR X (.builtin "all") (rAll K) := by subst hK; exact cr_all hc
theorem call_anyU {K} (hK : X.K = K) (hc : X.calm = true) : CallR X (.builtin "any") (rAny K) := by subst hK; exact cr_any hc
theorem call_sumU {K} (hK : X.K = K) (hc : X.calm = true) : CallR X (.builtin "sum") (rSum K) := by subst hK; exact cr_sum hc
def rListU (K : PySem.W.Frag) : List V → Hp → VK → Prop := fun xs H Q => ∃ p ys, xs = [.ref p] ∧ (SqL K H p ys ∨ SqT K H p ys) ∧ ∀ l, H l = none → Q (.ref l) (upd H l (.lst ys))
theorem call_listU {K} (hK : X.K = K) : CallR X (.type "list") (rListU K) := by subst hK; exact call_list_of
def rTupleU (K : PySem.W.Frag) : List V → Hp → VK → Prop := fun xs H Q => ∃ p ys, xs = [.ref p] ∧ ((SqL K H p ys ∧ ∀ l, H l = none → Q (.ref l) (upd H l (.tup ys))) ∨ (SqT K H p ys ∧ Q (.ref p) H))
theorem call_tupleU {K} (hK : X.K = K) : CallR X (.type "tuple") (rTupleU K) := by subst hK; exact call_tuple_of
theorem pg_tupU {K} {es : List Expr} {k : Nat} {t : TGs} {n : Nat} {pos : Pos} (hK : X.K = K) (hc : X.calm = true) (h : PGs X es t)
    (hn : (assignEach es X.env).length = n := by rfl) (hst : (assignEach es X.env).findIdx? (·.1) = none := by rfl) : PG X (.Tuple es k pos) (gTup K n t) := by subst hK; exact pg_tup hc h hn hst
theorem pi_listU {K} {tg l : Expr} {tl : TE} (hK : X.K = K) (hl : PE X l tl) : PI X tg l (iList K tl) := by subst hK; exact pi_list hl
theorem pi_tupU {K} {tg l : Expr} {tl : TE} (hK : X.K = K) (hl : PE X l tl) : PI X tg l (iTup K tl) := by subst hK; exact pi_tup hl
def rMulU : R2 := r2or (r2or (rI CMul fun i j => .int (i * j)) (rI CMulW fun i j => .int (i * j))) rRep
theorem op_mulU : OpR X (binaryOp .Mult) rMulU := (op_mul.or op_mulW).or op_rep
def rSignIn : R2 := fun x y H Q => ∃ (c : Nat) (z : Str), x = .str ⟨#[c]⟩ ∧ y = .str z ∧ Q (.bl (decide (c ∈ z.cps.toList))) H
def rSignNin : R2 := fun x y H Q => ∃ (c : Nat) (z : Str), x = .str ⟨#[c]⟩ ∧ y = .str z ∧ Q (.bl (!decide (c ∈ z.cps.toList))) H
def rInU (K : PySem.W.Frag) : R2 := r2or (r2or (rIn K false) (rInD K)) rSignIn
def rNinU (K : PySem.W.Frag) : R2 := r2or (r2or (rIn K true) (rNotInD K)) rSignNin
theorem op_inU {K} (hK : X.K = K) (hu : X.A.units + 65 < cLine) : OpR X (compareOp .In) (rInU K) := by subst hK; exact (op_in_seq.or (op_inD hu)).or op_in_sign
theorem op_ninU {K} (hK : X.K = K) (hu : X.A.units + 65 < cLine) : OpR X (compareOp .NotIn) (rNinU K) := by subst hK; exact (op_notIn_seq.or (op_notInD hu)).or op_notIn_sign
def rMaxL (K : PySem.W.Frag) : List V → Hp → VK → Prop := rMax K
theorem call_maxL {K} (hK : X.K = K) (hc : X.calm = true) : CallR X (.builtin "max") (rMaxL K) := by subst hK; exact cr_max hc
def rMinL (K : PySem.W.Frag) : List V → Hp → VK → Prop := rMin K
theorem call_minL {K} (hK : X.K = K) (hc : X.calm = true) : CallR X (.builtin "min") (rMinL K) := by subst hK; exact cr_min hc
def rIsB : R2 := fun x y H Q => ∃ a b, x = .bl a ∧ y = .bl b ∧ Q (.bl (decide (a = b))) H
def rNisB : R2 := fun x y H Q => ∃ a b, x = .bl a ∧ y = .bl b ∧ Q (.bl (!decide (a = b))) H
theorem op_isB : OpR X (compareOp .Is) rIsB := op_is_bl
theorem op_nisB : OpR X (compareOp .IsNot) rNisB := op_isnot_bl
def iRevU (K : PySem.W.Frag) (te : TE) : TI := RT.iRevA K te
theorem pi_revU {K} {tg e : Expr} {te : TE} {p pos : Pos} (hK : X.K = K) (hg : Gl X "reversed") (hm : X.mg "reversed" = none) (he : PE X e te) (hs : starEach [e] X.env = (false, eval e X.env) :: starEach [] X.env := by rfl) : PI X tg (.Call (.Name "reversed" p) [e] [] pos) (iRevU K te) := by
  subst hK; exact RT.pi_revA hg hm he hs
def iEnumU (K : PySem.W.Frag) (ta : TA) : TI := iEnum K ta
theorem pi_enumU {K} {e : Expr} {ta : TA} {p pos tpos : Pos} {elts : List Expr} {kk : Nat} (hK : X.K = K) (hg : Gl X "enumerate") (hm : X.mg "enumerate" = none) (ha : PA X [e] ta) (hs : starEach [e] X.env = [(false, eval e X.env)] := by rfl) :
    PI X (.Tuple elts kk tpos) (.Call (.Name "enumerate" p) [e] [] pos) (iEnumU K ta) := by subst hK; exact pi_enum hg hm ha hs
/-- a slice -/
def rSlU (K : PySem.W.Frag) : V → Option Int → Option Int → Hp → VK → Prop := fun x lo hi H Q => (rSlL K x lo hi H Q ∨ rSlA K x lo hi H Q) ∨ rSlS x lo hi H Q
theorem sl_U {K} (hK : X.K = K) : SlR X (rSlU K) := by subst hK; exact (sl_list.or sl_tupA).or sl_str
def rEqU (K : PySem.W.Frag) : R2 := r2or (r2or rEq (rEqD K)) rEqDS
theorem op_eqU {K} (hK : X.K = K) (hu : X.A.units + 64 < cLine) : OpR X (compareOp .Eq) (rEqU K) := by subst hK; exact (op_eq.or (op_eqD hu)).or (op_eqDS hu)
def rNeU (K : PySem.W.Frag) : R2 := r2or (r2or rNe (rNeD K)) rNeDS
theorem op_neU {K} (hK : X.K = K) (hu : X.A.units + 64 < cLine) : OpR X (compareOp .NotEq) (rNeU K) := by subst hK; exact (op_ne.or (op_neD hu)).or (op_neDS hu)
end
theorem u65 {A : Around} {k : Nat} (hr : Room k A) : A.units + 65 < cLine := by have := hr.un; omega
theorem u64 {A : Around} {k : Nat} (hr : Room k A) : A.units + 64 < cLine := hr.units
section
variable {K : PySem.W.Frag} {H : Hp} {Q : VK} {i j : Int}
theorem w_addI (q : Q (.int (i + j)) H) : rAddU K (.int i) (.int j) H Q := .inl (.inl ⟨i, j, rfl, rfl, q⟩)
theorem w_addS {a b : Str} (h : a.length + b.length ≤ sizeLine) (q : Q (.str (a ++ b)) H) : rAddU K (.str a) (.str b) H Q := .inl (.inr ⟨a, b, rfl, rfl, h, q⟩)
theorem w_addL {l b : Addr} {xs zs : List V} (h1 : H l = some (.lst xs)) (h2 : H b = some (.lst zs)) (hl : xs.length + zs.length ≤ 1000000) (q : ∀ p, H p = none → Q (.ref p) (upd H p (.lst (xs ++ zs)))) : rAddU K (.ref l) (.ref b) H Q := .inr (.inr ⟨l, b, xs, zs, rfl, rfl, h1, h2, Nat.le_trans hl (by decide), q⟩)
theorem w_sub (q : Q (.int (i - j)) H) : rI0 (fun i j => .int (i - j)) (.int i) (.int j) H Q := ⟨i, j, rfl, rfl, q⟩
theorem w_rI0 {g : Int → Int → V} (q : Q (g i j) H) : rI0 g (.int i) (.int j) H Q := ⟨i, j, rfl, rfl, q⟩
theorem w_rI {C : Int → Int → Prop} {g : Int → Int → V} (c : C i j) (q : Q (g i j) H) : rI C g (.int i) (.int j) H Q := ⟨i, j, rfl, rfl, c, q⟩
theorem w_mulI (c : (-(2 ^ 64) < i ∧ i < 2 ^ 64) ∨ (-(2 ^ 64) < j ∧ j < 2 ^ 64)) (q : Q (.int (i * j)) H) : rMulU (.int i) (.int j) H Q := .inl (.inl ⟨i, j, rfl, rfl, c, q⟩)
theorem w_max (q : Q (.int (if j > i then j else i)) H) : rMaxU [.int i, .int j] H Q := ⟨i, j, rfl, q⟩
theorem w_min (q : Q (.int (if j < i then j else i)) H) : rMinU [.int i, .int j] H Q := ⟨i, j, rfl, q⟩
theorem w_abs (q : Q (.int (if i < 0 then -i else i)) H) : rAbsU [.int i] H Q := ⟨i, rfl, q⟩
theorem w_intI (q : Q (.int i) H) : rIntU [.int i] H Q := .inl ⟨i, rfl, q⟩
theorem w_intB {k : Bool} (q : Q (.int (if k then 1 else 0)) H) : rIntU [.bl k] H Q := .inr ⟨k, rfl, q⟩
theorem w_pow9 (q : Q (.int 1000000000) H) : rI CPow (fun i j => .int (i ^ j.toNat)) (.int 10) (.int 9) H Q := ⟨10, 9, rfl, rfl, ⟨by decide, by decide, by decide⟩, q⟩
theorem w_pow18 (q : Q (.int 1000000000000000000) H) : rI CPow (fun i j => .int (i ^ j.toNat)) (.int 10) (.int 18) H Q := ⟨10, 18, rfl, rfl, ⟨by decide, by decide, by decide⟩, q⟩
theorem w_pow6 (q : Q (.int 1000000) H) : rI CPow (fun i j => .int (i ^ j.toNat)) (.int 10) (.int 6) H Q := ⟨10, 6, rfl, rfl, ⟨by decide, by decide, by decide⟩, q⟩
theorem w_pow59 (q : Q (.int 100000000000000000000000000000000000000000000000000000000000) H) : rI CPow (fun i j => .int (i ^ j.toNat)) (.int 10) (.int 59) H Q := ⟨10, 59, rfl, rfl, ⟨by decide, by decide, by decide⟩, q⟩
theorem w_slL {p : Addr} {xs : List V} {lo hi : Option Int} (h : SqL K H p xs) (q : ∀ l, H l = none → Q (.ref l) (upd H l (.lst (cutV xs lo hi)))) : rSlU K (.ref p) lo hi H Q := .inl (.inl ⟨p, xs, rfl, h, q⟩)
theorem w_part {σ : L2.St} {te : TE} {Q : Option Int → Hp → Prop} (q : te σ H fun x H1 => ∃ i, x = .int i ∧ Q (some i) H1) : tPart te σ H Q := q
theorem w_partI {P : Int → Prop} (q : P i) : ∃ k, V.int i = .int k ∧ P k := ⟨i, rfl, q⟩
theorem w_nopart {σ : L2.St} {Q : Option Int → Hp → Prop} (q : Q none H) : tNoPart σ H Q := q
theorem w_sl {σ : L2.St} {r : V → Option Int → Option Int → Hp → VK → Prop} {te : TE} {tl th : TO} (q : te σ H fun x H1 => tl σ H1 fun l H2 => th σ H2 fun u H3 => r x l u H3 Q) : tSl r te tl th σ H Q := q
theorem w_listL {p : Addr} {ys : List V} (h : SqL K H p ys) (q : ∀ l, H l = none → Q (.ref l) (upd H l (.lst ys))) : rListU K [.ref p] H Q := ⟨p, ys, rfl, .inl h, q⟩
theorem w_listT {p : Addr} {ys : List V} (h : SqT K H p ys) (q : ∀ l, H l = none → Q (.ref l) (upd H l (.lst ys))) : rListU K [.ref p] H Q := ⟨p, ys, rfl, .inr h, q⟩
theorem w_tupleL {p : Addr} {ys : List V} (h : SqL K H p ys) (q : ∀ l, H l = none → Q (.ref l) (upd H l (.tup ys))) : rTupleU K [.ref p] H Q := ⟨p, ys, rfl, .inl ⟨h, q⟩⟩
theorem w_isB {a b : Bool} (q : Q (.bl (decide (a = b))) H) : rIsB (.bl a) (.bl b) H Q := ⟨a, b, rfl, rfl, q⟩
theorem w_nisB {a b : Bool} (q : Q (.bl (!decide (a = b))) H) : rNisB (.bl a) (.bl b) H Q := ⟨a, b, rfl, rfl, q⟩
theorem w_inT {x : V} {p : Addr} {xs : List V} (h : SqT K H p xs) (hx : flatV x = true) (ha : xs.all flatV = true) (q : Q (.bl (inV x xs)) H) : rInU K x (.ref p) H Q := .inl (.inl ⟨p, xs, rfl, .inr h, hx, ha, q⟩)
theorem w_inL {x : V} {p : Addr} {xs : List V} (h : SqL K H p xs) (hx : flatV x = true) (ha : xs.all flatV = true) (q : Q (.bl (inV x xs)) H) : rInU K x (.ref p) H Q := .inl (.inl ⟨p, xs, rfl, .inl h, hx, ha, q⟩)
theorem w_ninT {x : V} {p : Addr} {xs : List V} (h : SqT K H p xs) (hx : flatV x = true) (ha : xs.all flatV = true) (q : Q (.bl (!inV x xs)) H) : rNinU K x (.ref p) H Q := .inl (.inl ⟨p, xs, rfl, .inr h, hx, ha, q⟩)
theorem w_ninL {x : V} {p : Addr} {xs : List V} (h : SqL K H p xs) (hx : flatV x = true) (ha : xs.all flatV = true) (q : Q (.bl (!inV x xs)) H) : rNinU K x (.ref p) H Q := .inl (.inl ⟨p, xs, rfl, .inl h, hx, ha, q⟩)
theorem w_lenL {p : Addr} {ys : List V} (h : SqL K H p ys) (q : Q (.int ys.length) H) : rLenU K [.ref p] H Q := .inl ⟨p, ys, rfl, .inl h, q⟩
theorem w_lenT {p : Addr} {ys : List V} (h : SqT K H p ys) (q : Q (.int ys.length) H) : rLenU K [.ref p] H Q := .inl ⟨p, ys, rfl, .inr h, q⟩
theorem w_lenS {z : Str} (h : z.length ≤ sizeLine) (q : Q (.int z.length) H) : rLenU K [.str z] H Q := .inr ⟨z, rfl, h, q⟩
theorem w_ixL {p : Addr} {xs : List V} {v : V} (h : SqL K H p xs) (e : atI xs i = some v) (q : Q v H) : rIx K (.ref p) (.int i) H Q := .inl ⟨p, xs, i, v, rfl, rfl, h, e, q⟩
theorem w_ixT {p : Addr} {xs : List V} {v : V} (h : SqT K H p xs) (e : atI xs i = some v) (q : Q v H) : rIx K (.ref p) (.int i) H Q := .inr (.inl ⟨p, xs, i, v, rfl, rfl, h, e, q⟩)
theorem w_setL {p : Addr} {xs : List V} {v : V} {j : Nat} {Q : Hp → Prop} (h : H p = some (.lst xs)) (e : ixN xs.length i = some j) (q : Q (upd H p (.lst (xs.set j v)))) : rSetL (.ref p) (.int i) v H Q := ⟨p, xs, i, j, rfl, rfl, h, e, q⟩
theorem w_isi {x : V} {n : String} {t : Value} {b : Bool} (ty : TyX K H x t) (e : PySem.W.kitOne K t (.type n) = some b) (q : Q (.bl b) H) : rIsi K [x, .ty n] H Q := ⟨x, .ty n, t, .type n, b, rfl, .ty n, ty, e, q⟩
/-! isinstance of plain values -/
theorem ty_T {a : Addr} {xs : List V} (h : SqT K H a xs) : TyX K H (.ref a) (.type "tuple") := by
  rcases h with (h | ⟨o, h⟩) | ⟨o, its, n, h, hc, _⟩
  · exact .base (.tup h)
  · exact .fTuple h
  · exact .kTuple h hc
theorem ty_L {a : Addr} {xs : List V} (h : SqL K H a xs) : TyX K H (.ref a) (.type "list") := by
  rcases h with (h | ⟨o, h⟩) | ⟨o, its, n, h, hc, _⟩
  · exact .base (.lst h)
  · exact .base (.frz h)
  · exact .kList h hc
theorem isD_int {a : Addr} {kvs : List (Key × V)} (h : H a = some (.dK kvs)) (q : Q (.bl false) H) : rIsi K [.ref a, .ty "int"] H Q := w_isi (.base (.dK h)) (kit_ty (by decide +kernel)) q
theorem isD_bool {a : Addr} {kvs : List (Key × V)} (h : H a = some (.dK kvs)) (q : Q (.bl false) H) : rIsi K [.ref a, .ty "bool"] H Q := w_isi (.base (.dK h)) (kit_ty (by decide +kernel)) q
theorem isD_str {a : Addr} {kvs : List (Key × V)} (h : H a = some (.dK kvs)) (q : Q (.bl false) H) : rIsi K [.ref a, .ty "str"] H Q := w_isi (.base (.dK h)) (kit_ty (by decide +kernel)) q
theorem isD_tuple {a : Addr} {kvs : List (Key × V)} (h : H a = some (.dK kvs)) (q : Q (.bl false) H) : rIsi K [.ref a, .ty "tuple"] H Q := w_isi (.base (.dK h)) (kit_ty (by decide +kernel)) q
theorem isD_list {a : Addr} {kvs : List (Key × V)} (h : H a = some (.dK kvs)) (q : Q (.bl false) H) : rIsi K [.ref a, .ty "list"] H Q := w_isi (.base (.dK h)) (kit_ty (by decide +kernel)) q
theorem isD_dict {a : Addr} {kvs : List (Key × V)} (h : H a = some (.dK kvs)) (q : Q (.bl true) H) : rIsi K [.ref a, .ty "dict"] H Q := w_isi (.base (.dK h)) (kit_ty (by decide +kernel)) q
theorem isT_int {a : Addr} {xs : List V} (h : SqT K H a xs) (q : Q (.bl false) H) : rIsi K [.ref a, .ty "int"] H Q := w_isi (ty_T h) (kit_ty (by decide +kernel)) q
theorem isT_bool {a : Addr} {xs : List V} (h : SqT K H a xs) (q : Q (.bl false) H) : rIsi K [.ref a, .ty "bool"] H Q := w_isi (ty_T h) (kit_ty (by decide +kernel)) q
theorem isT_str {a : Addr} {xs : List V} (h : SqT K H a xs) (q : Q (.bl false) H) : rIsi K [.ref a, .ty "str"] H Q := w_isi (ty_T h) (kit_ty (by decide +kernel)) q
theorem isT_tuple {a : Addr} {xs : List V} (h : SqT K H a xs) (q : Q (.bl true) H) : rIsi K [.ref a, .ty "tuple"] H Q := w_isi (ty_T h) (kit_ty (by decide +kernel)) q
theorem isT_list {a : Addr} {xs : List V} (h : SqT K H a xs) (q : Q (.bl false) H) : rIsi K [.ref a, .ty "list"] H Q := w_isi (ty_T h) (kit_ty (by decide +kernel)) q
theorem isT_dict {a : Addr} {xs : List V} (h : SqT K H a xs) (q : Q (.bl false) H) : rIsi K [.ref a, .ty "dict"] H Q := w_isi (ty_T h) (kit_ty (by decide +kernel)) q
theorem isL_int {a : Addr} {xs : List V} (h : SqL K H a xs) (q : Q (.bl false) H) : rIsi K [.ref a, .ty "int"] H Q := w_isi (ty_L h) (kit_ty (by decide +kernel)) q
theorem isL_bool {a : Addr} {xs : List V} (h : SqL K H a xs) (q : Q (.bl false) H) : rIsi K [.ref a, .ty "bool"] H Q := w_isi (ty_L h) (kit_ty (by decide +kernel)) q
theorem isL_str {a : Addr} {xs : List V} (h : SqL K H a xs) (q : Q (.bl false) H) : rIsi K [.ref a, .ty "str"] H Q := w_isi (ty_L h) (kit_ty (by decide +kernel)) q
theorem isL_tuple {a : Addr} {xs : List V} (h : SqL K H a xs) (q : Q (.bl false) H) : rIsi K [.ref a, .ty "tuple"] H Q := w_isi (ty_L h) (kit_ty (by decide +kernel)) q
theorem isL_list {a : Addr} {xs : List V} (h : SqL K H a xs) (q : Q (.bl true) H) : rIsi K [.ref a, .ty "list"] H Q := w_isi (ty_L h) (kit_ty (by decide +kernel)) q
theorem isL_dict {a : Addr} {xs : List V} (h : SqL K H a xs) (q : Q (.bl false) H) : rIsi K [.ref a, .ty "dict"] H Q := w_isi (ty_L h) (kit_ty (by decide +kernel)) q
theorem is_non_int (q : Q (.bl false) H) : rIsi K [.non, .ty "int"] H Q := w_isi (.base .non) (kit_ty (by decide +kernel)) q
theorem is_non_bool (q : Q (.bl false) H) : rIsi K [.non, .ty "bool"] H Q := w_isi (.base .non) (kit_ty (by decide +kernel)) q
theorem is_non_str (q : Q (.bl false) H) : rIsi K [.non, .ty "str"] H Q := w_isi (.base .non) (kit_ty (by decide +kernel)) q
theorem is_non_tuple (q : Q (.bl false) H) : rIsi K [.non, .ty "tuple"] H Q := w_isi (.base .non) (kit_ty (by decide +kernel)) q
theorem is_non_list (q : Q (.bl false) H) : rIsi K [.non, .ty "list"] H Q := w_isi (.base .non) (kit_ty (by decide +kernel)) q
theorem is_non_dict (q : Q (.bl false) H) : rIsi K [.non, .ty "dict"] H Q := w_isi (.base .non) (kit_ty (by decide +kernel)) q
theorem is_bl_int {u : Bool} (q : Q (.bl true) H) : rIsi K [(.bl u), .ty "int"] H Q := w_isi (.base (.bl _)) (kit_ty (by decide +kernel)) q
theorem is_bl_bool {u : Bool} (q : Q (.bl true) H) : rIsi K [(.bl u), .ty "bool"] H Q := w_isi (.base (.bl _)) (kit_ty (by decide +kernel)) q
theorem is_bl_str {u : Bool} (q : Q (.bl false) H) : rIsi K [(.bl u), .ty "str"] H Q := w_isi (.base (.bl _)) (kit_ty (by decide +kernel)) q
theorem is_bl_tuple {u : Bool} (q : Q (.bl false) H) : rIsi K [(.bl u), .ty "tuple"] H Q := w_isi (.base (.bl _)) (kit_ty (by decide +kernel)) q
theorem is_bl_list {u : Bool} (q : Q (.bl false) H) : rIsi K [(.bl u), .ty "list"] H Q := w_isi (.base (.bl _)) (kit_ty (by decide +kernel)) q
theorem is_bl_dict {u : Bool} (q : Q (.bl false) H) : rIsi K [(.bl u), .ty "dict"] H Q := w_isi (.base (.bl _)) (kit_ty (by decide +kernel)) q
theorem is_int_int {u : Int} (q : Q (.bl true) H) : rIsi K [(.int u), .ty "int"] H Q := w_isi (.base (.int _)) (kit_ty (by decide +kernel)) q
theorem is_int_bool {u : Int} (q : Q (.bl false) H) : rIsi K [(.int u), .ty "bool"] H Q := w_isi (.base (.int _)) (kit_ty (by decide +kernel)) q
theorem is_int_str {u : Int} (q : Q (.bl false) H) : rIsi K [(.int u), .ty "str"] H Q := w_isi (.base (.int _)) (kit_ty (by decide +kernel)) q
theorem is_int_tuple {u : Int} (q : Q (.bl false) H) : rIsi K [(.int u), .ty "tuple"] H Q := w_isi (.base (.int _)) (kit_ty (by decide +kernel)) q
theorem is_int_list {u : Int} (q : Q (.bl false) H) : rIsi K [(.int u), .ty "list"] H Q := w_isi (.base (.int _)) (kit_ty (by decide +kernel)) q
theorem is_int_dict {u : Int} (q : Q (.bl false) H) : rIsi K [(.int u), .ty "dict"] H Q := w_isi (.base (.int _)) (kit_ty (by decide +kernel)) q
theorem is_str_int {u : Str} (q : Q (.bl false) H) : rIsi K [(.str u), .ty "int"] H Q := w_isi (.base (.str _)) (kit_ty (by decide +kernel)) q
theorem is_str_bool {u : Str} (q : Q (.bl false) H) : rIsi K [(.str u), .ty "bool"] H Q := w_isi (.base (.str _)) (kit_ty (by decide +kernel)) q
theorem is_str_str {u : Str} (q : Q (.bl true) H) : rIsi K [(.str u), .ty "str"] H Q := w_isi (.base (.str _)) (kit_ty (by decide +kernel)) q
theorem is_str_tuple {u : Str} (q : Q (.bl false) H) : rIsi K [(.str u), .ty "tuple"] H Q := w_isi (.base (.str _)) (kit_ty (by decide +kernel)) q
theorem is_str_list {u : Str} (q : Q (.bl false) H) : rIsi K [(.str u), .ty "list"] H Q := w_isi (.base (.str _)) (kit_ty (by decide +kernel)) q
theorem is_str_dict {u : Str} (q : Q (.bl false) H) : rIsi K [(.str u), .ty "dict"] H Q := w_isi (.base (.str _)) (kit_ty (by decide +kernel)) q
theorem w_rU {g : Int → V} (q : Q (g i) H) : rU g (.int i) H Q := ⟨i, rfl, q⟩
theorem dec_int {a b : Int} : decide (V.int a = V.int b) = decide (a = b) := by
  by_cases h : a = b
  · subst h; simp
  · rw [decide_eq_false h, decide_eq_false fun e => h (V.int.inj e)]
theorem dec_str {a b : Str} : decide (V.str a = V.str b) = decide (a = b) := by
  by_cases h : a = b
  · subst h; simp
  · rw [decide_eq_false h, decide_eq_false fun e => h (V.str.inj e)]
theorem dec_bl {a b : Bool} : decide (V.bl a = V.bl b) = decide (a = b) := by
  by_cases h : a = b
  · subst h; simp
  · rw [decide_eq_false h, decide_eq_false fun e => h (V.bl.inj e)]
theorem w_eqI (q : Q (.bl (decide (i = j))) H) : rEqU K (.int i) (.int j) H Q := .inl (.inl ⟨rfl, by rw [dec_int]; exact q⟩)
theorem w_eqS {a b : Str} (q : Q (.bl (decide (a = b))) H) : rEqU K (.str a) (.str b) H Q := .inl (.inl ⟨rfl, by rw [dec_str]; exact q⟩)
theorem w_eqB {a b : Bool} (q : Q (.bl (decide (a = b))) H) : rEqU K (.bl a) (.bl b) H Q := .inl (.inl ⟨rfl, by rw [dec_bl]; exact q⟩)
theorem w_neI (q : Q (.bl (!decide (i = j))) H) : rNeU K (.int i) (.int j) H Q := .inl (.inl ⟨rfl, by rw [dec_int]; exact q⟩)
theorem w_neS {a b : Str} (q : Q (.bl (!decide (a = b))) H) : rNeU K (.str a) (.str b) H Q := .inl (.inl ⟨rfl, by rw [dec_str]; exact q⟩)
theorem w_neB {a b : Bool} (q : Q (.bl (!decide (a = b))) H) : rNeU K (.bl a) (.bl b) H Q := .inl (.inl ⟨rfl, by rw [dec_bl]; exact q⟩)
theorem w_eqDS {p : Addr} {kvs : List (Key × V)} {z : Str} (h : H p = some (.dK kvs)) (q : Q (.bl false) H) : rEqU K (.ref p) (.str z) H Q := .inr ⟨p, kvs, z, rfl, h, rfl, q⟩
theorem w_neDS {p : Addr} {kvs : List (Key × V)} {z : Str} (h : H p = some (.dK kvs)) (q : Q (.bl true) H) : rNeU K (.ref p) (.str z) H Q := .inr ⟨p, kvs, z, rfl, h, rfl, q⟩
theorem w_eqD {x y : V} {d e : PyData} (hx : Dp K H x d) (hy : Dp K H y e) (sx : SeqAt.shaped d = true) (sy : SeqAt.shaped e = true) (q : Q (.bl (PyData.eqv d e)) H) : rEqU K x y H Q := .inl (.inr ⟨d, e, hx, hy, sx, sy, q⟩)
theorem w_neD {x y : V} {d e : PyData} (hx : Dp K H x d) (hy : Dp K H y e) (sx : SeqAt.shaped d = true) (sy : SeqAt.shaped e = true) (q : Q (.bl (!PyData.eqv d e)) H) : rNeU K x y H Q := .inl (.inr ⟨d, e, hx, hy, sx, sy, q⟩)
end
/-- a new tuple, a new list -/
def MkT (xs : List V) (Q : VK) (H : Hp) : Prop := xs.length ≤ sizeLine ∧ ∀ p, H p = none → Q (.ref p) (upd H p (.tup xs))
def MkL (xs : List V) (Q : VK) (H : Hp) : Prop := xs.length ≤ sizeLine ∧ ∀ p, H p = none → Q (.ref p) (upd H p (.lst xs))
/-! ### steps of a reading -/
section
variable {K : PySem.W.Frag} {σ : L2.St} {H : Hp} {Q : VK} {QB : Bool → Hp → Prop} {QA : List V → Hp → Prop} {ta tb tc : TE} {t u : TT} {v : V} {i : Nat} {r r' : R2}
theorem w_var (h : σ[i]? = some (some v)) (q : Q v H) : tVar i σ H Q := ⟨v, h, q⟩
theorem w_c (q : Q v H) : tC v σ H Q := q
theorem w_op (q : ta σ H fun x H1 => tb σ H1 fun y H2 => r x y H2 Q) : tOp r ta tb σ H Q := q
theorem w_un {r : V → Hp → VK → Prop} (q : ta σ H fun x H1 => r x H1 Q) : tUn r ta σ H Q := q
theorem w_chain (q : ta σ H fun x H1 => tb σ H1 fun y H2 => r x y H2 fun z H3 => ∃ k, z = .bl k ∧ (if k = true then tc σ H3 fun w' H4 => r' y w' H4 Q else Q (.bl false) H3)) : tChain r r' ta tb tc σ H Q := q
theorem w_bl {b : Bool} {P : Bool → Prop} (q : P b) : ∃ k, V.bl b = .bl k ∧ P k := ⟨b, rfl, q⟩
theorem w_test (q : ta σ H fun x H' => ∃ k, x = .bl k ∧ QB k H') : tTest ta σ H QB := q
theorem w_B (q : ta σ H fun x H' => ∃ k, x = .bl k ∧ QB k H') : tB ta σ H QB := q
theorem w_and (q : t σ H fun c H1 => if c = true then u σ H1 QB else QB false H1) : tAnd t u σ H QB := q
theorem w_or (q : t σ H fun c H1 => if c = true then QB true H1 else u σ H1 QB) : tOr t u σ H QB := q
theorem w_not (q : t σ H fun c H1 => QB (!c) H1) : tNot t σ H QB := q
theorem w_andV (q : ta σ H fun x H1 => ∃ c, x = .bl c ∧ if c = true then tb σ H1 Q else Q (.bl false) H1) : tAndV ta tb σ H Q := q
theorem w_orV (q : ta σ H fun x H1 => ∃ c, x = .bl c ∧ if c = true then Q (.bl true) H1 else tb σ H1 Q) : tOrV ta tb σ H Q := q
theorem w_notV (q : ta σ H fun x H1 => ∃ c, x = .bl c ∧ Q (.bl (!c)) H1) : tNotV ta σ H Q := q
theorem w_if (q : t σ H fun c H1 => if c = true then ta σ H1 Q else tb σ H1 Q) : tIf t ta tb σ H Q := q
theorem w_isN (q : ta σ H fun x H1 => Q (.bl (decide (x = .non))) H1) : tIsN ta σ H Q := q
theorem w_notN (q : ta σ H fun x H1 => Q (.bl (!decide (x = .non))) H1) : tNotN ta σ H Q := q
theorem w_nil (q : QA [] H) : tNil σ H QA := q
theorem w_cons {tr : TA} (q : ta σ H fun x H1 => tr σ H1 fun xs H2 => QA (x :: xs) H2) : tCons ta tr σ H QA := q
theorem w_tup {tr : TA} (q : tr σ H fun xs H1 => MkT xs Q H1) : tTup tr σ H Q := q
theorem w_lst {tr : TA} (q : tr σ H fun xs H1 => MkL xs Q H1) : tLst tr σ H Q := q
theorem w_call {sp : Sp} {dvs : List V} {E : XK} {tr : TA} (q : tr σ H fun vs H1 => sp (vs ++ dvs) H1 Q E) : tCall sp dvs E tr σ H Q := q
theorem w_cb {rc : List V → Hp → VK → Prop} {tr : TA} (q : tr σ H fun vs H1 => rc vs H1 Q) : tCB rc tr σ H Q := q
theorem w_bm {T : String} {rm : V → List V → Hp → VK → Prop} {tr : TA} (q : ta σ H fun x H1 => tyV K T x H1 ∧ tr σ H1 fun xs H2 => rm x xs H2 Q) : tBM K T rm ta tr σ H Q := q
theorem w_bm0 {T : String} {rm : V → List V → Hp → VK → Prop} (q : ta σ H fun x H1 => tyV K T x H1 ∧ rm x [] H1 Q) : tBM0 K T rm ta σ H Q := q
end
section
variable {σ : L2.St} {H : Hp} {n b c : L2.St → Hp → Prop} {r : VK} {t u : TS} {te : TE} {tt : TT} {g : TG} {v : V} {i : Nat}
theorem w_cut (M : L2.St → Hp → Prop) (h1 : t ⟨M, r, b, c⟩ σ H) (h2 : ∀ σ' H', M σ' H' → u ⟨n, r, b, c⟩ σ' H') : C8.tCut t u ⟨n, r, b, c⟩ σ H := ⟨M, h1, h2⟩
theorem w_sub' {Q : L2.St → Hp → Prop} {to ti : TE} {ts : TSet} (q : to σ H fun o H1 => ti σ H1 fun i H2 => ts o i v H2 fun H3 => Q σ H3) : gSub to ti ts v σ H Q := q
theorem w_seq (q : t ⟨u ⟨n, r, b, c⟩, r, b, c⟩ σ H) : tSeq t u ⟨n, r, b, c⟩ σ H := q
theorem w_asg (q : te σ H fun x H1 => g x σ H1 n) : tAsg te g ⟨n, r, b, c⟩ σ H := q
theorem w_name {Q : L2.St → Hp → Prop} (q : Q (σ.set i (some v)) H) : gName i v σ H Q := q
theorem w_gcons {t1 : TG} {u1 : TGs} {vs : List V} {Q : L2.St → Hp → Prop} (q : t1 v σ H fun σ' H' => u1 vs σ' H' Q) : gCons t1 u1 (v :: vs) σ H Q := ⟨v, vs, rfl, q⟩
theorem w_gnil {Q : L2.St → Hp → Prop} (q : Q σ H) : gNil [] σ H Q := ⟨rfl, q⟩
theorem w_gtup {K : PySem.W.Frag} {t1 : TGs} {p : Addr} {xs : List V} {m : Nat} {Q : L2.St → Hp → Prop} (h : SqT K H p xs) (hl : xs.length = m) (q : t1 xs σ H Q) : gTup K m t1 (.ref p) σ H Q := ⟨p, xs, rfl, h, hl, q⟩
theorem w_ret (q : te σ H r) : tRet te ⟨n, r, b, c⟩ σ H := q
theorem w_retN (q : r .non H) : tRetN ⟨n, r, b, c⟩ σ H := q
theorem w_drop (q : te σ H fun _ H1 => n σ H1) : tDrop te ⟨n, r, b, c⟩ σ H := q
theorem w_ifS (q : tt σ H fun k H1 => if k = true then t ⟨n, r, b, c⟩ σ H1 else u ⟨n, r, b, c⟩ σ H1) : tIfS tt t u ⟨n, r, b, c⟩ σ H := q
theorem w_next (q : n σ H) : tNext ⟨n, r, b, c⟩ σ H := q
theorem w_break (q : b σ H) : tBreak ⟨n, r, b, c⟩ σ H := q
theorem w_cont (q : c σ H) : tCont ⟨n, r, b, c⟩ σ H := q
end
/-! ### loops -/
/-- the turns of a for over J -/
def FOR (J : It) (g : TG) (tb : TS) (D : Ends) (σ : L2.St) (H1 : Hp) : Prop :=
  ∃ W : Nat → Nat → L2.St → Hp → Prop, (∃ m, W 0 m σ H1) ∧
    ∀ i m σ H, W i m σ H → (J.stop i H ∧ D.nx σ H) ∨ (J.go i H ∧
      ∃ N : L2.St → Hp → Prop, (∀ σ' H', N σ' H' → ∃ m', m' < m ∧ W (i + 1) m' σ' H') ∧
        ∀ x H', J.yld i H x H' → g x σ H' fun σ2 H2 => tb { D with nx := N, ct := N, bk := D.nx } σ2 H2)
section
variable {K : PySem.W.Frag} {σ : L2.St} {H : Hp} {nx b c : L2.St → Hp → Prop} {rt : VK} {g : TG} {tb : TS} {D : Ends}
theorem w_for {wi : TI} (q : wi σ H fun J H1 => FOR J g tb D σ H1) : tFor wi g tb D σ H := q
theorem w_iR1 {ta : TA} {R : It → Hp → Prop} (q : ta σ H fun vs H1 => ∃ j : Int, vs = [.int j] ∧ -(2 ^ 62) ≤ j ∧ j < 2 ^ 62 ∧ R (Itr 0 j.toNat) H1) : iRng1 ta σ H R := q
theorem w_iR2 {ta : TA} {R : It → Hp → Prop} (q : ta σ H fun vs H1 => ∃ i j : Int, vs = [.int i, .int j] ∧ (-(2 ^ 62) ≤ i ∧ i < 2 ^ 62 ∧ -(2 ^ 62) ≤ j ∧ j < 2 ^ 62) ∧ R (Itr i (j - i).toNat) H1) : iRng2 ta σ H R := q
theorem w_iRev {te : TE} {R : It → Hp → Prop} (q : te σ H fun v H1 => ∃ (a : Addr) (xs : List V), v = .ref a ∧ ((SqL K H1 a xs ∧ R (Itv K a xs.length) H1) ∨ (SqT K H1 a xs ∧ R (RT.ItvT K a xs.length) H1))) : iRevU K te σ H R := q
theorem w_iEnum {ta : TA} {R : It → Hp → Prop} (q : ta σ H fun vs H1 => ∃ a xs, vs = [.ref a] ∧ SqL K H1 a xs ∧ R (Ite K a) H1) : iEnumU K ta σ H R := q
theorem w_iL {tl : TE} {R : It → Hp → Prop} (q : tl σ H fun x H1 => ∃ a, x = .ref a ∧ (∃ xs, SqL K H1 a xs) ∧ R (Itl K a) H1) : iList K tl σ H R := q
theorem w_iT {tl : TE} {R : It → Hp → Prop} (q : tl σ H fun x H1 => ∃ a, x = .ref a ∧ (∃ xs, SqT K H1 a xs) ∧ R (Itt K a) H1) : iTup K tl σ H R := q
theorem F_R1 {j : Int} (n : Nat) (hn : j.toNat = n) (h1 : -(2 ^ 62) ≤ j) (h2 : j < 2 ^ 62) (Pv : Nat → L2.St → Hp → Prop) (h0 : Pv 0 σ H)
    (hs : ∀ i σ H, i < n → Pv i σ H → g (.int i) σ H fun σ2 H2 => tb ⟨Pv (i + 1), rt, nx, Pv (i + 1)⟩ σ2 H2) (hd : ∀ σ H, Pv n σ H → nx σ H) :
    ∃ j' : Int, [V.int j] = [.int j'] ∧ -(2 ^ 62) ≤ j' ∧ j' < 2 ^ 62 ∧ FOR (Itr 0 j'.toNat) g tb ⟨nx, rt, b, c⟩ σ H := by
  subst hn
  refine ⟨j, rfl, h1, h2, ?_⟩
  exact for_range (D := ⟨nx, rt, b, c⟩) Pv h0 (fun i σ H hi p => by rw [Int.zero_add]; exact hs i σ H hi p) hd
theorem F_L {a : Addr} {xs : List V} (h : SqL K H a xs) (Pv : Nat → L2.St → Hp → Prop) (h0 : Pv 0 σ H) (hl : ∀ i σ H, i ≤ xs.length → Pv i σ H → SqL K H a xs)
    (hs : ∀ i x σ H, xs[i]? = some x → Pv i σ H → g x σ H fun σ2 H2 => tb ⟨Pv (i + 1), rt, nx, Pv (i + 1)⟩ σ2 H2) (hd : ∀ σ H, Pv xs.length σ H → nx σ H) :
    ∃ a', V.ref a = .ref a' ∧ (∃ ys, SqL K H a' ys) ∧ FOR (Itl K a') g tb ⟨nx, rt, b, c⟩ σ H :=
  ⟨a, rfl, ⟨xs, h⟩, for_list (D := ⟨nx, rt, b, c⟩) Pv h0 hl hs hd⟩
theorem F_T {a : Addr} {xs : List V} (h : SqT K H a xs) (Pv : Nat → L2.St → Hp → Prop) (h0 : Pv 0 σ H) (hl : ∀ i σ H, i ≤ xs.length → Pv i σ H → SqT K H a xs)
    (hs : ∀ i x σ H, xs[i]? = some x → Pv i σ H → g x σ H fun σ2 H2 => tb ⟨Pv (i + 1), rt, nx, Pv (i + 1)⟩ σ2 H2) (hd : ∀ σ H, Pv xs.length σ H → nx σ H) :
    ∃ a', V.ref a = .ref a' ∧ (∃ ys, SqT K H a' ys) ∧ FOR (Itt K a') g tb ⟨nx, rt, b, c⟩ σ H :=
  ⟨a, rfl, ⟨xs, h⟩, for_tup (D := ⟨nx, rt, b, c⟩) Pv h0 hl hs hd⟩
/-- a while by an invariant with a measure -/
theorem w_while {tt : TT} (W : Nat → L2.St → Hp → Prop) (m0 : Nat) (h0 : W m0 σ H)
    (hs : ∀ m σ' H', W m σ' H' → tt σ' H' fun k H1 => if k = true then tb ⟨fun σ2 H2 => ∃ m', m' < m ∧ W m' σ2 H2, rt, nx, fun σ2 H2 => ∃ m', m' < m ∧ W m' σ2 H2⟩ σ' H1 else nx σ' H1)
    (mono : ∀ σ H (Q Q' : Bool → Hp → Prop), (∀ k H1, Q k H1 → Q' k H1) → tt σ H Q → tt σ H Q') : tWhile tt tb ⟨nx, rt, b, c⟩ σ H := by
  refine ⟨W, ⟨m0, h0⟩, fun m σ' H' w => mono σ' H' _ _ (fun k H1 q => ?_) (hs m σ' H' w)⟩
  cases k with
  | true => exact ⟨_, fun _ _ z => z, q⟩
  | false => exact q
/-- .. the measure's step told at the test's end -/
theorem w_whileN {tt : TT} (W : Nat → L2.St → Hp → Prop) (m0 : Nat) (h0 : W m0 σ H)
    (hs : ∀ m σ' H', W m σ' H' → tt σ' H' fun k H1 => if k = true then ∃ N : L2.St → Hp → Prop, (∀ σ2 H2, N σ2 H2 → ∃ m', m' < m ∧ W m' σ2 H2) ∧ tb ⟨N, rt, nx, N⟩ σ' H1 else nx σ' H1) : tWhile tt tb ⟨nx, rt, b, c⟩ σ H := ⟨W, ⟨m0, h0⟩, hs⟩
theorem w_N {m : Nat} {W : Nat → L2.St → Hp → Prop} (q : tb ⟨fun σ2 H2 => ∃ m', m' < m ∧ W m' σ2 H2, rt, nx, fun σ2 H2 => ∃ m', m' < m ∧ W m' σ2 H2⟩ σ H) : ∃ N : L2.St → Hp → Prop, (∀ σ2 H2, N σ2 H2 → ∃ m', m' < m ∧ W m' σ2 H2) ∧ tb ⟨N, rt, nx, N⟩ σ H := ⟨_, fun _ _ z => z, q⟩
/-- the turns of a comprehension over J -/
def LC (J : It) (g : TG) (tt : TT) (te : TE) (vs : List Nat) (σ : L2.St) (D : Addr) (Q : VK) (H1 : Hp) : Prop :=
  ∃ W : Nat → Nat → Hp → Prop, (∃ m, W 0 m H1) ∧ ∀ i m H, W i m H → (J.stop i H ∧ Q (.ref D) H) ∨ (J.go i H ∧
    ∃ Nx : Hp → Prop, (∀ H', Nx H' → ∃ m', m' < m ∧ W (i + 1) m' H') ∧ ∀ x H', J.yld i H x H' → g x (wipe σ vs) H' fun σ2 H2 => wipe σ2 vs = wipe σ vs ∧
      tt σ2 H2 fun k H3 => if k = true then te σ2 H3 fun y H4 => ∃ acc, H4 D = some (.lst acc) ∧ acc.length < sizeLine ∧ Nx (upd H4 D (.lst (acc ++ [y]))) else Nx H3)
theorem w_lc {wi : TI} {tt : TT} {te : TE} {vs : List Nat} {Q : VK} (q : wi σ H fun J H1 => ∀ D, H1 D = none → LC J g tt te vs σ D Q (upd H1 D (.lst []))) : tLc wi g tt te vs σ H Q := q
theorem LC_L {a : Addr} {xs : List V} {tt : TT} {te : TE} {vs : List Nat} {Q : VK} (h : SqL K H a xs) (q : ∀ D, H D = none → LC (Itl K a) g tt te vs σ D Q (upd H D (.lst []))) :
    ∃ a', V.ref a = .ref a' ∧ (∃ ys, SqL K H a' ys) ∧ ∀ D, H D = none → LC (Itl K a') g tt te vs σ D Q (upd H D (.lst [])) := ⟨a, rfl, ⟨xs, h⟩, q⟩
theorem LC_T {a : Addr} {xs : List V} {tt : TT} {te : TE} {vs : List Nat} {Q : VK} (h : SqT K H a xs) (q : ∀ D, H D = none → LC (Itt K a) g tt te vs σ D Q (upd H D (.lst []))) :
    ∃ a', V.ref a = .ref a' ∧ (∃ ys, SqT K H a' ys) ∧ ∀ D, H D = none → LC (Itt K a') g tt te vs σ D Q (upd H D (.lst [])) := ⟨a, rfl, ⟨xs, h⟩, q⟩
theorem LC_by {a D : Addr} {xs : List V} {tt : TT} {te : TE} {vs : List Nat} {Q : VK} (Pv : Nat → Hp → Prop) (h0 : Pv 0 (upd H D (.lst []))) (hl : ∀ i H, i ≤ xs.length → Pv i H → SqL K H a xs)
    (hs : ∀ i x H, xs[i]? = some x → Pv i H → g x (wipe σ vs) H fun σ2 H2 => wipe σ2 vs = wipe σ vs ∧ tt σ2 H2 fun k H3 =>
      if k = true then te σ2 H3 fun y H4 => ∃ acc, H4 D = some (.lst acc) ∧ acc.length < sizeLine ∧ Pv (i + 1) (upd H4 D (.lst (acc ++ [y]))) else Pv (i + 1) H3)
    (hd : ∀ H, Pv xs.length H → Q (.ref D) H) : LC (Itl K a) g tt te vs σ D Q (upd H D (.lst [])) := lc_list (xs := xs) Pv h0 hl hs hd
theorem LC_R1 {j : Int} {tt : TT} {te : TE} {vs : List Nat} {Q : VK} (n : Nat) (hn : j.toNat = n) (h1 : -(2 ^ 62) ≤ j) (h2 : j < 2 ^ 62)
    (q : ∀ D, H D = none → ∃ Pv : Nat → Hp → Prop, Pv 0 (upd H D (.lst [])) ∧ (∀ (i : Nat) H', i < n → Pv i H' → g (.int i) (wipe σ vs) H' fun σ2 H2 => wipe σ2 vs = wipe σ vs ∧ tt σ2 H2 fun k H3 =>
      if k = true then te σ2 H3 fun y H4 => ∃ acc, H4 D = some (.lst acc) ∧ acc.length < sizeLine ∧ Pv (i + 1) (upd H4 D (.lst (acc ++ [y]))) else Pv (i + 1) H3) ∧ ∀ H', Pv n H' → Q (.ref D) H') :
    ∃ j' : Int, [V.int j] = [.int j'] ∧ -(2 ^ 62) ≤ j' ∧ j' < 2 ^ 62 ∧ ∀ D, H D = none → LC (Itr 0 j'.toNat) g tt te vs σ D Q (upd H D (.lst [])) := by
  subst hn
  refine ⟨j, rfl, h1, h2, fun D hD => ?_⟩
  obtain ⟨Pv, p0, ps, pd⟩ := q D hD
  exact lc_range Pv p0 (fun i H hi p => by rw [Int.zero_add]; exact ps i H hi p) pd
theorem w_wipe {σ1 σ2 : L2.St} {vs : List Nat} {B : Prop} (h : wipe σ2 vs = wipe σ1 vs) (q : B) : wipe σ2 vs = wipe σ1 vs ∧ B := ⟨h, q⟩
theorem w_yes {Q : Bool → Hp → Prop} (q : Q true H) : tYes σ H Q := q
end
/-- a test's outcome, as a proposition -/
theorem ite_d {c : Prop} [Decidable c] {A B : Prop} (h1 : c → A) (h2 : ¬ c → B) : if decide c = true then A else B := by
  by_cases h : c
  · rw [if_pos (decide_eq_true h)]; exact h1 h
  · rw [if_neg (by rw [decide_eq_false h]; decide)]; exact h2 h
theorem ite_nd {c : Prop} [Decidable c] {A B : Prop} (h1 : ¬ c → A) (h2 : c → B) : if (!decide c) = true then A else B := by
  by_cases h : c
  · rw [if_neg (by rw [decide_eq_true h]; decide)]; exact h2 h
  · rw [if_pos (by rw [decide_eq_false h]; decide)]; exact h1 h
theorem iteNT {A B : Prop} (h : B) : if (!true) = true then A else B := h
theorem iteNF {A B : Prop} (h : A) : if (!false) = true then A else B := h
theorem ite_b {k : Bool} {A B : Prop} (h1 : k = true → A) (h2 : k = false → B) : if k = true then A else B := by
  cases k
  · exact h2 rfl
  · exact h1 rfl
/-! ### heaps -/
/-- all that was tracked, but for S, is as it was -/
def Fr (S : List Addr) (H H' : Hp) : Prop := ∀ a o, H a = some o → a ∉ S → H' a = some o
theorem Fr.refl {S : List Addr} {H : Hp} : Fr S H H := fun _ _ h _ => h
theorem Fr.trans {S : List Addr} {H H1 H2 : Hp} (a : Fr S H H1) (b : Fr S H1 H2) : Fr S H H2 := fun x o h n => b x o (a x o h n) n
theorem Fr.new {S : List Addr} {H : Hp} {p : Addr} {o : HO} (h : H p = none) : Fr S H (upd H p o) := fun a u e _ => by
  rw [upd_ne (ne_of_none e h)]
  exact e
theorem Fr.mut {S : List Addr} {H : Hp} {p : Addr} {o : HO} (h : p ∈ S) : Fr S H (upd H p o) := fun a u e n => by
  rw [upd_ne (by rintro rfl; exact n h)]
  exact e
theorem Fr.mono {S S' : List Addr} {H H' : Hp} (a : Fr S H H') (h : ∀ x ∈ S, x ∈ S') : Fr S' H H' := fun x o e n => a x o e fun z => n (h x z)
theorem Fr.free {H H' : Hp} (e : Fr [] H H') {l : Addr} (h : H' l = none) : H l = none := by
  cases q : H l with
  | none => rfl
  | some o =>
    rw [e l o q (by simp)] at h
    cases h
/-- what is new may change -/
theorem Fr.new_mut {S : List Addr} {H H' : Hp} {p : Addr} (hp : H p = none) (a : Fr (p :: S) H H') : Fr S H H' := fun x o e n => a x o e (by
  intro z
  rcases List.mem_cons.mp z with z | z
  · subst z; rw [hp] at e; cases e
  · exact n z)
theorem Fr.seqL {S : List Addr} {K : PySem.W.Frag} {H H' : Hp} {a : Addr} {xs : List V} (e : Fr S H H') (h : SqL K H a xs) (n : a ∉ S) : SqL K H' a xs := by
  rcases h with (h | ⟨o, h⟩) | h
  · exact .inl (.inl (e _ _ h n))
  · exact .inl (.inr ⟨o, e _ _ h n⟩)
  · exact .inr h
theorem Fr.seqT {S : List Addr} {K : PySem.W.Frag} {H H' : Hp} {a : Addr} {xs : List V} (e : Fr S H H') (h : SqT K H a xs) (n : a ∉ S) : SqT K H' a xs := by
  rcases h with (h | ⟨o, h⟩) | h
  · exact .inl (.inl (e _ _ h n))
  · exact .inl (.inr ⟨o, e _ _ h n⟩)
  · exact .inr h
/-- an open place of a list of ints all of which hold P -/
theorem at_all {ns : List Int} {P : Int → Prop} (hP : ∀ z ∈ ns, P z) {p : Int} (h0 : 0 ≤ p) (h : p < ns.length) : ∃ z, atI (ns.map V.int) p = some (.int z) ∧ P z := by
  have hk : p.toNat < ns.length := by omega
  have ek : p = ((p.toNat : Nat) : Int) := by omega
  have key : atI (ns.map V.int) ((p.toNat : Nat) : Int) = some (.int ns[p.toNat]) := atI_nat (by rw [List.getElem?_map, List.getElem?_eq_getElem hk] <;> rfl)
  rw [← ek] at key
  exact ⟨_, key, hP _ (List.getElem_mem hk)⟩
theorem at_str {ns : List Str} {P : Str → Prop} (hP : ∀ z ∈ ns, P z) {p : Int} (h0 : 0 ≤ p) (h : p < ns.length) : ∃ z, atI (ns.map V.str) p = some (.str z) ∧ P z := by
  have hk : p.toNat < ns.length := by omega
  have ek : p = ((p.toNat : Nat) : Int) := by omega
  have key : atI (ns.map V.str) ((p.toNat : Nat) : Int) = some (.str ns[p.toNat]) := atI_nat (by rw [List.getElem?_map, List.getElem?_eq_getElem hk] <;> rfl)
  rw [← ek] at key
  exact ⟨_, key, hP _ (List.getElem_mem hk)⟩
theorem at_int {ns : List Int} {p : Int} (h0 : 0 ≤ p) (h : p < ns.length) : ∃ z, atI (ns.map V.int) p = some (.int z) ∧ ns[p.toNat]? = some z := by
  have hk : p.toNat < ns.length := by omega
  have ek : p = ((p.toNat : Nat) : Int) := by omega
  have key : atI (ns.map V.int) ((p.toNat : Nat) : Int) = some (.int ns[p.toNat]) := atI_nat (by rw [List.getElem?_map, List.getElem?_eq_getElem hk] <;> rfl)
  rw [← ek] at key
  exact ⟨_, key, List.getElem?_eq_getElem hk⟩
end U

namespace U
open PySem PySem.Spec PyProof.Rows L2
/-! ### data of tuples all the way down: nothing changes it -/
mutual
inductive Dt (K : PySem.W.Frag) (H : Hp) : V → PyData → Prop
  | non : Dt K H .non .none
  | bl (b : Bool) : Dt K H (.bl b) (.bool b)
  | int (i : Int) : Dt K H (.int i) (.int i)
  | str (x : Str) : Dt K H (.str x) (.str x)
  | tup {p : Addr} {vs : List V} {es : List PyData} : SqT K H p vs → DtAll K H vs es → Dt K H (.ref p) (.tuple es)
inductive DtAll (K : PySem.W.Frag) (H : Hp) : List V → List PyData → Prop
  | nil : DtAll K H [] []
  | cons {v : V} {vs : List V} {e : PyData} {es : List PyData} : Dt K H v e → DtAll K H vs es → DtAll K H (v :: vs) (e :: es)
end
/-- tuples stand -/
def Tu (H H' : Hp) : Prop := ∀ a xs, (H a = some (.tup xs) → H' a = some (.tup xs)) ∧ ∀ o, H a = some (.frz o (.tup xs)) → H' a = some (.frz o (.tup xs))
theorem Tu.refl {H : Hp} : Tu H H := fun _ _ => ⟨id, fun _ => id⟩
theorem Tu.trans {H H1 H2 : Hp} (a : Tu H H1) (b : Tu H1 H2) : Tu H H2 := fun x xs => ⟨fun h => (b x xs).1 ((a x xs).1 h), fun o h => (b x xs).2 o ((a x xs).2 o h)⟩
theorem Fr.tu {H H' : Hp} (f : Fr [] H H') : Tu H H' := fun a xs => ⟨fun h => f a _ h (by simp), fun o h => f a _ h (by simp)⟩
theorem Fr.tu1 {H H' : Hp} {t : Addr} {xs : List V} (f : Fr [t] H H') (h : H t = some (.lst xs)) : Tu H H' := fun a ys =>
  ⟨fun e => f a _ e (by intro z; rw [List.mem_singleton.mp z, h] at e; cases e), fun o e => f a _ e (by intro z; rw [List.mem_singleton.mp z, h] at e; cases e)⟩
theorem Tu.mut {H : Hp} {q : Addr} {xs : List V} {o : HO} (h : H q = some (.lst xs)) : Tu H (upd H q o) := fun a ys =>
  ⟨fun e => by rw [upd_ne (by rintro rfl; rw [h] at e; cases e)]; exact e, fun o e => by rw [upd_ne (by rintro rfl; rw [h] at e; cases e)]; exact e⟩
theorem Tu.new {H : Hp} {q : Addr} {o : HO} (h : H q = none) : Tu H (upd H q o) := (Fr.new h).tu
theorem Tu.seqT {K : PySem.W.Frag} {H H' : Hp} {a : Addr} {xs : List V} (e : Tu H H') (h : SqT K H a xs) : SqT K H' a xs := by
  rcases h with (h | ⟨o, h⟩) | h
  · exact .inl (.inl ((e a xs).1 h))
  · exact .inl (.inr ⟨o, (e a xs).2 o h⟩)
  · exact .inr h
section
variable {K : PySem.W.Frag} {H H' : Hp}
mutual
theorem Dt.mono (f : Tu H H') : ∀ {v : V} {d : PyData}, Dt K H v d → Dt K H' v d
  | _, _, .non => .non
  | _, _, .bl b => .bl b
  | _, _, .int i => .int i
  | _, _, .str x => .str x
  | _, _, .tup s a => .tup (f.seqT s) (DtAll.mono f a)
theorem DtAll.mono (f : Tu H H') : ∀ {vs : List V} {ds : List PyData}, DtAll K H vs ds → DtAll K H' vs ds
  | _, _, .nil => .nil
  | _, _, .cons a b => .cons (Dt.mono f a) (DtAll.mono f b)
end
mutual
theorem Dt.dp : ∀ {v : V} {d : PyData}, Dt K H v d → Dp K H v d
  | _, _, .non => .non
  | _, _, .bl b => .bl b
  | _, _, .int i => .int i
  | _, _, .str x => .str x
  | _, _, .tup s a => .tup s (DtAll.dp a)
theorem DtAll.dp : ∀ {vs : List V} {ds : List PyData}, DtAll K H vs ds → DpAll K H vs ds
  | _, _, .nil => .nil
  | _, _, .cons a b => .cons (Dt.dp a) (DtAll.dp b)
end
theorem DtAll.length : ∀ {vs : List V} {ds : List PyData}, DtAll K H vs ds → vs.length = ds.length
  | _, _, .nil => rfl
  | _, _, .cons _ b => by rw [List.length_cons, List.length_cons, DtAll.length b]
theorem DtAll.append : ∀ {vs us : List V} {ds es : List PyData}, DtAll K H vs ds → DtAll K H us es → DtAll K H (vs ++ us) (ds ++ es)
  | _, _, _, _, .nil, h => h
  | _, _, _, _, .cons a b, h => .cons a (DtAll.append b h)
theorem DtAll.take : ∀ {vs : List V} {ds : List PyData} (n : Nat), DtAll K H vs ds → DtAll K H (vs.take n) (ds.take n)
  | _, _, 0, _ => .nil
  | _, _, _ + 1, .nil => .nil
  | _, _, n + 1, .cons a b => .cons a (DtAll.take n b)
theorem DtAll.drop : ∀ {vs : List V} {ds : List PyData} (n : Nat), DtAll K H vs ds → DtAll K H (vs.drop n) (ds.drop n)
  | _, _, 0, h => h
  | _, _, _ + 1, .nil => .nil
  | _, _, n + 1, .cons a b => DtAll.drop n b
theorem DtAll.get : ∀ {vs : List V} {ds : List PyData} {i : Nat} {v : V}, DtAll K H vs ds → vs[i]? = some v → ∃ d, ds[i]? = some d ∧ Dt K H v d
  | _, _, i, _, .nil, h => by simp at h
  | _, _, 0, v, .cons a b, h => by
    simp at h
    subst h
    exact ⟨_, rfl, a⟩
  | _, _, i + 1, v, .cons a b, h => by
    obtain ⟨d, h1, h2⟩ := DtAll.get (i := i) b (by simpa using h)
    exact ⟨d, by simpa using h1, h2⟩
theorem DtAll.get' {vs : List V} {ds : List PyData} {i : Nat} {d : PyData} (h : DtAll K H vs ds) (e : ds[i]? = some d) : ∃ v, vs[i]? = some v ∧ Dt K H v d := by
  have hi := (List.getElem?_eq_some_iff.mp e).1
  rw [← h.length] at hi
  obtain ⟨d', h1, h2⟩ := h.get (List.getElem?_eq_getElem hi)
  rw [e] at h1
  cases h1
  exact ⟨_, List.getElem?_eq_getElem hi, h2⟩
theorem Dt.tuple {v : V} {ds : List PyData} (h : Dt K H v (.tuple ds)) : ∃ p vs, v = .ref p ∧ SqT K H p vs ∧ DtAll K H vs ds := by
  cases h with
  | tup s a => exact ⟨_, _, rfl, s, a⟩
theorem Dt.of_int {v : V} {i : Int} (h : Dt K H v (.int i)) : v = .int i := by cases h; rfl
theorem Dt.of_str {v : V} {x : Str} (h : Dt K H v (.str x)) : v = .str x := by cases h; rfl
theorem Dt.of_bl {v : V} {b : Bool} (h : Dt K H v (.bool b)) : v = .bl b := by cases h; rfl
theorem Dt.of_non {v : V} (h : Dt K H v .none) : v = .non := by cases h; rfl
theorem DtAll.ints : ∀ (ns : List Int), DtAll K H (ns.map V.int) (ns.map PyData.int)
  | [] => .nil
  | n :: r => .cons (.int n) (DtAll.ints r)
end
/-! ### a list of such -/
def Lq (K : PySem.W.Frag) (H : Hp) (q : Addr) (ds : List PyData) : Prop := ∃ vs, H q = some (.lst vs) ∧ DtAll K H vs ds
section
variable {K : PySem.W.Frag} {H H' : Hp} {q : Addr} {ds : List PyData}
theorem Lq.fr {S : List Addr} (h : Lq K H q ds) (f : Fr S H H') (n : q ∉ S) (t : Tu H H') : Lq K H' q ds := by
  obtain ⟨vs, e, a⟩ := h
  exact ⟨vs, f _ _ e n, a.mono t⟩
theorem Lq.fr0 (h : Lq K H q ds) (f : Fr [] H H') : Lq K H' q ds := h.fr f (by simp) f.tu
theorem Lq.dp (h : Lq K H q ds) : Dp K H (.ref q) (.list ds) := by
  obtain ⟨vs, e, a⟩ := h
  exact .lst (SqL.of e) a.dp
theorem lay_list {n : Nat} (h : ∀ d ∈ ds, d.canLay0 = true ∧ d.depth ≤ n) : PyData.canLayAll0 ds = true ∧ PyData.depthAll ds ≤ n := by
  induction ds with
  | nil => exact ⟨by simp [PyData.canLayAll0], by simp [PyData.depthAll]⟩
  | cons d r ih =>
    have h1 := h d List.mem_cons_self
    have h2 := ih fun x hx => h x (List.mem_cons_of_mem _ hx)
    constructor
    · simp [PyData.canLayAll0, h1.1, h2.1]
    · simp only [PyData.depthAll]
      exact Nat.max_le.mpr ⟨h1.2, h2.2⟩
theorem shaped_list {n : Nat} (hn : n < 64) (h : ∀ d ∈ ds, d.canLay0 = true ∧ d.depth ≤ n) : SeqAt.shaped (.list ds) = true := by
  have k := lay_list h
  unfold SeqAt.shaped
  rw [Bool.and_eq_true]
  refine ⟨by simp only [PyData.canLay0]; exact k.1, decide_eq_true ?_⟩
  simp only [PyData.depth]
  omega
theorem shaped_tuple {n : Nat} (hn : n < 64) (h : ∀ d ∈ ds, d.canLay0 = true ∧ d.depth ≤ n) : SeqAt.shaped (.tuple ds) = true := by
  have k := lay_list h
  unfold SeqAt.shaped
  rw [Bool.and_eq_true]
  refine ⟨by simp only [PyData.canLay0]; exact k.1, decide_eq_true ?_⟩
  simp only [PyData.depth]
  omega
theorem lay_shaped {d : PyData} (h : d.canLay0 = true ∧ d.depth ≤ 64) : SeqAt.shaped d = true := by
  unfold SeqAt.shaped
  rw [Bool.and_eq_true]
  exact ⟨h.1, decide_eq_true h.2⟩
theorem shaped_refl {d : PyData} (h : SeqAt.shaped d = true) : PyData.eqv d d = true := SeqAt.eqv_refl d (SeqAt.canLay_of_shaped h)
theorem w_eqR {Q : VK} {x y : V} {d : PyData} (hx : Dp K H x d) (hy : Dp K H y d) (s : SeqAt.shaped d = true) (q : Q (.bl true) H) : rEqU K x y H Q := w_eqD hx hy s s (by rw [shaped_refl s]; exact q)
theorem w_neR {Q : VK} {x y : V} {d : PyData} (hx : Dp K H x d) (hy : Dp K H y d) (s : SeqAt.shaped d = true) (q : Q (.bl false) H) : rNeU K x y H Q := w_neD hx hy s s (by rw [shaped_refl s]; exact q)
theorem w_app {l : Addr} {xs : List V} {y : V} {Q : VK} (h : H l = some (.lst xs)) (n : xs.length ≤ 1000000) (q : Q .non (upd H l (.lst (xs ++ [y])))) : tyV K "list" (.ref l) H ∧ rAppend (.ref l) [y] H Q :=
  ⟨.inl ⟨rfl, _, SqL.of h⟩, l, xs, y, rfl, rfl, h, Nat.lt_of_le_of_lt n (by decide), q⟩
end
theorem cut_take {xs : List V} (n : Nat) : cutV xs none (some (n : Int)) = xs.take n := by
  unfold cutV
  rw [HT.sIx_none, HT.sIx_nat, List.drop_zero, Nat.sub_zero]
  by_cases h : n ≤ xs.length
  · rw [Nat.min_eq_left h]
  · rw [Nat.min_eq_right (by omega), List.take_length, List.take_of_length_le (by omega)]
theorem cut_drop {xs : List V} (n : Nat) : cutV xs (some (n : Int)) none = xs.drop n := by
  unfold cutV
  rw [HT.sIx_none, HT.sIx_nat]
  by_cases h : n ≤ xs.length
  · rw [Nat.min_eq_left h, List.take_of_length_le (by rw [List.length_drop]; omega)]
  · rw [Nat.min_eq_right (by omega), Nat.sub_self, List.take_zero, List.drop_eq_nil_of_le (by omega)]
/-- == with an empty list -/
theorem w_eqNil {Q : VK} {K : PySem.W.Frag} {H : Hp} {x e : Addr} {ds : List PyData} (hx : Dp K H (.ref x) (.list ds)) (he : H e = some (.lst [])) (s : SeqAt.shaped (.list ds) = true) (q : Q (.bl ds.isEmpty) H) : rEqU K (.ref x) (.ref e) H Q :=
  w_eqD hx (.lst (SqL.of he) .nil) s (by decide) (by
    cases ds with
    | nil => exact q
    | cons d r => exact q)
theorem w_neNil {Q : VK} {K : PySem.W.Frag} {H : Hp} {x e : Addr} {ds : List PyData} (hx : Dp K H (.ref x) (.list ds)) (he : H e = some (.lst [])) (s : SeqAt.shaped (.list ds) = true) (q : Q (.bl (!ds.isEmpty)) H) : rNeU K (.ref x) (.ref e) H Q :=
  w_neD hx (.lst (SqL.of he) .nil) s (by decide) (by
    cases ds with
    | nil => exact q
    | cons d r => exact q)
theorem take_fold {α β : Type} {f : β → α → β} {b : β} {xs : List α} {i : Nat} {x : α} (h : xs[i]? = some x) : (xs.take (i + 1)).foldl f b = f ((xs.take i).foldl f b) x := by
  rw [List.take_add_one, h, List.foldl_append]
  rfl
theorem take_map {α β : Type} {f : α → β} {xs : List α} {i : Nat} {x : α} (h : xs[i]? = some x) : (xs.take (i + 1)).map f = (xs.take i).map f ++ [f x] := by
  rw [List.take_add_one, h, List.map_append]
  rfl
theorem take_filt {α : Type} {f : α → Bool} {xs : List α} {i : Nat} {x : α} (h : xs[i]? = some x) : (xs.take (i + 1)).filter f = (xs.take i).filter f ++ (if f x then [x] else []) := by
  rw [List.take_add_one, h, List.filter_append]
  show _ ++ List.filter f [x] = _
  rw [List.filter_cons, List.filter_nil]
/-! ### any plain data (a dict: that it is one) -/
mutual
inductive Dg (K : PySem.W.Frag) (H : Hp) : V → PyData → Prop
  | non : Dg K H .non .none
  | bl (b : Bool) : Dg K H (.bl b) (.bool b)
  | int (i : Int) : Dg K H (.int i) (.int i)
  | str (x : Str) : Dg K H (.str x) (.str x)
  | tup {p : Addr} {vs : List V} {es : List PyData} : SqT K H p vs → DgAll K H vs es → Dg K H (.ref p) (.tuple es)
  | lst {p : Addr} {vs : List V} {es : List PyData} : SqL K H p vs → DgAll K H vs es → Dg K H (.ref p) (.list es)
  | dct {p : Addr} {kvs : List (Key × V)} {es : List (PyData × PyData)} : H p = some (.dK kvs) → Dg K H (.ref p) (.dict es)
inductive DgAll (K : PySem.W.Frag) (H : Hp) : List V → List PyData → Prop
  | nil : DgAll K H [] []
  | cons {v : V} {vs : List V} {e : PyData} {es : List PyData} : Dg K H v e → DgAll K H vs es → DgAll K H (v :: vs) (e :: es)
end
section
variable {K : PySem.W.Frag} {H H' : Hp}
mutual
theorem Dg.fr (f : Fr [] H H') : ∀ {v : V} {d : PyData}, Dg K H v d → Dg K H' v d
  | _, _, .non => .non
  | _, _, .bl b => .bl b
  | _, _, .int i => .int i
  | _, _, .str x => .str x
  | _, _, .tup s a => .tup (f.seqT s (by simp)) (DgAll.fr f a)
  | _, _, .lst s a => .lst (f.seqL s (by simp)) (DgAll.fr f a)
  | _, _, .dct h => .dct (f _ _ h (by simp))
theorem DgAll.fr (f : Fr [] H H') : ∀ {vs : List V} {ds : List PyData}, DgAll K H vs ds → DgAll K H' vs ds
  | _, _, .nil => .nil
  | _, _, .cons a b => .cons (Dg.fr f a) (DgAll.fr f b)
end
mutual
theorem Dt.dg : ∀ {v : V} {d : PyData}, Dt K H v d → Dg K H v d
  | _, _, .non => .non
  | _, _, .bl b => .bl b
  | _, _, .int i => .int i
  | _, _, .str x => .str x
  | _, _, .tup s a => .tup s (DtAll.dg a)
theorem DtAll.dg : ∀ {vs : List V} {ds : List PyData}, DtAll K H vs ds → DgAll K H vs ds
  | _, _, .nil => .nil
  | _, _, .cons a b => .cons (Dt.dg a) (DtAll.dg b)
end
theorem DgAll.length : ∀ {vs : List V} {ds : List PyData}, DgAll K H vs ds → vs.length = ds.length
  | _, _, .nil => rfl
  | _, _, .cons _ b => by rw [List.length_cons, List.length_cons, DgAll.length b]
theorem DgAll.get : ∀ {vs : List V} {ds : List PyData} {i : Nat} {v : V}, DgAll K H vs ds → vs[i]? = some v → ∃ d, ds[i]? = some d ∧ Dg K H v d
  | _, _, i, _, .nil, h => by simp at h
  | _, _, 0, v, .cons a b, h => by
    simp at h
    subst h
    exact ⟨_, rfl, a⟩
  | _, _, i + 1, v, .cons a b, h => by
    obtain ⟨d, h1, h2⟩ := DgAll.get (i := i) b (by simpa using h)
    exact ⟨d, by simpa using h1, h2⟩
end
theorem Lq.dg {K : PySem.W.Frag} {H : Hp} {l : Addr} {ds : List PyData} (h : Lq K H l ds) : Dg K H (.ref l) (.list ds) := by
  obtain ⟨vs, e, a⟩ := h
  exact .lst (SqL.of e) a.dg
/-! ### displays, append: what is known of them behind -/
theorem mkT {K : PySem.W.Frag} {H : Hp} {xs : List V} {ds : List PyData} {Q : VK} (d : DtAll K H xs ds) (q : ∀ p H', H p = none → Fr [] H H' → Dt K H' (.ref p) (.tuple ds) → Q (.ref p) H') (n : xs.length ≤ 1000 := by exact Nat.le_of_ble_eq_true rfl) : MkT xs Q H :=
  ⟨Nat.le_trans n (by decide), fun p hp => q p _ hp (Fr.new hp) (.tup (.inl (.inl upd_same)) (d.mono (Tu.new hp)))⟩
theorem mkL {K : PySem.W.Frag} {H : Hp} {xs : List V} {ds : List PyData} {Q : VK} (d : DtAll K H xs ds) (q : ∀ p H', H p = none → Fr [] H H' → Lq K H' p ds → Q (.ref p) H') (n : xs.length ≤ 1000 := by exact Nat.le_of_ble_eq_true rfl) : MkL xs Q H :=
  ⟨Nat.le_trans n (by decide), fun p hp => q p _ hp (Fr.new hp) ⟨xs, upd_same, d.mono (Tu.new hp)⟩⟩
/-- a list of ints, of texts -/
theorem mkI {H : Hp} {ns : List Int} {xs : List V} {Q : VK} (e : xs = ns.map V.int) (q : ∀ p H', H p = none → Fr [] H H' → H' p = some (.lst (ns.map V.int)) → Q (.ref p) H') (n : xs.length ≤ 1000 := by exact Nat.le_of_ble_eq_true rfl) : MkL xs Q H :=
  ⟨Nat.le_trans n (by decide), fun p hp => q p _ hp (Fr.new hp) (by rw [upd_same, e])⟩
theorem mkS {H : Hp} {ns : List Str} {xs : List V} {Q : VK} (e : xs = ns.map V.str) (q : ∀ p H', H p = none → Fr [] H H' → H' p = some (.lst (ns.map V.str)) → Q (.ref p) H') (n : xs.length ≤ 1000 := by exact Nat.le_of_ble_eq_true rfl) : MkL xs Q H :=
  ⟨Nat.le_trans n (by decide), fun p hp => q p _ hp (Fr.new hp) (by rw [upd_same, e])⟩
theorem Lq.ty {K : PySem.W.Frag} {H : Hp} {l : Addr} {ds : List PyData} (h : Lq K H l ds) : tyV K "list" (.ref l) H := by
  obtain ⟨vs, e, _⟩ := h
  exact .inl ⟨rfl, _, SqL.of e⟩
theorem Lq.app {K : PySem.W.Frag} {H : Hp} {l : Addr} {ds : List PyData} {y : V} {d : PyData} {Q : VK} (h : Lq K H l ds) (hy : Dt K H y d) (n : ds.length ≤ 100000) (q : ∀ H', Fr [l] H H' → Tu H H' → Lq K H' l (ds ++ [d]) → Q .non H') : rAppend (.ref l) [y] H Q := by
  obtain ⟨vs, e, a⟩ := h
  refine ⟨l, vs, y, rfl, rfl, e, Nat.lt_of_le_of_lt (show vs.length ≤ 100000 by rw [a.length]; exact n) (by decide), ?_⟩
  exact q _ (Fr.mut (by simp)) (Tu.mut e) ⟨_, upd_same, (a.append (.cons hy .nil)).mono (Tu.mut e)⟩
theorem Lq.copy {K : PySem.W.Frag} {H : Hp} {l : Addr} {ds : List PyData} {Q : VK} (h : Lq K H l ds) (q : ∀ p H', H p = none → Fr [] H H' → Lq K H' p ds → Q (.ref p) H') : rListU K [.ref l] H Q := by
  obtain ⟨vs, e, a⟩ := h
  exact w_listL (SqL.of e) fun p hp => q p _ hp (Fr.new hp) ⟨vs, upd_same, a.mono (Tu.new hp)⟩
theorem Lq.isList {K : PySem.W.Frag} {H : Hp} {l : Addr} {ds : List PyData} {Q : VK} (h : Lq K H l ds) (q : Q (.bl true) H) : rIsi K [.ref l, .ty "list"] H Q := by
  obtain ⟨vs, e, a⟩ := h
  exact isL_list (SqL.of e) q
theorem Lq.len {K : PySem.W.Frag} {H : Hp} {l : Addr} {ds : List PyData} {Q : VK} (h : Lq K H l ds) (q : Q (.int ds.length) H) : rLenU K [.ref l] H Q := by
  obtain ⟨vs, e, a⟩ := h
  rw [← a.length] at q
  exact w_lenL (SqL.of e) q
theorem DtAll.rev {K : PySem.W.Frag} {H : Hp} : ∀ {vs : List V} {ds : List PyData}, DtAll K H vs ds → DtAll K H vs.reverse ds.reverse
  | _, _, .nil => .nil
  | _, _, .cons a b => by
    rw [List.reverse_cons, List.reverse_cons]
    exact (DtAll.rev b).append (.cons a .nil)
theorem Lq.reverse {K : PySem.W.Frag} {H : Hp} {l : Addr} {ds : List PyData} {Q : VK} (h : Lq K H l ds) (q : ∀ H', Fr [l] H H' → Tu H H' → Lq K H' l ds.reverse → Q .non H') : rReverse (.ref l) [] H Q := by
  obtain ⟨vs, e, a⟩ := h
  exact ⟨l, vs, rfl, rfl, e, q _ (Fr.mut (by simp)) (Tu.mut e) ⟨_, upd_same, (a.rev).mono (Tu.mut e)⟩⟩
/-! ### slices, sums -/
def cutA {α : Type} (xs : List α) (lo hi : Option Int) : List α := (xs.drop (HT.sIx xs.length 0 lo)).take (HT.sIx xs.length xs.length hi - HT.sIx xs.length 0 lo)
theorem cutA_take {α : Type} {xs : List α} (n : Nat) : cutA xs none (some (n : Int)) = xs.take n := by
  unfold cutA
  rw [HT.sIx_none, HT.sIx_nat, List.drop_zero, Nat.sub_zero]
  by_cases h : n ≤ xs.length
  · rw [Nat.min_eq_left h]
  · rw [Nat.min_eq_right (by omega), List.take_length, List.take_of_length_le (by omega)]
theorem cutA_drop {α : Type} {xs : List α} (n : Nat) : cutA xs (some (n : Int)) none = xs.drop n := by
  unfold cutA
  rw [HT.sIx_none, HT.sIx_nat]
  by_cases h : n ≤ xs.length
  · rw [Nat.min_eq_left h, List.take_of_length_le (by rw [List.length_drop]; omega)]
  · rw [Nat.min_eq_right (by omega), Nat.sub_self, List.take_zero, List.drop_eq_nil_of_le (by omega)]
theorem cutA_mem {α : Type} {xs : List α} {lo hi : Option Int} {x : α} (h : x ∈ cutA xs lo hi) : x ∈ xs := List.mem_of_mem_drop (List.mem_of_mem_take h)
theorem cutA_map {α β : Type} {f : α → β} {xs : List α} {lo hi : Option Int} : cutA (xs.map f) lo hi = (cutA xs lo hi).map f := by
  unfold cutA
  rw [List.length_map, ← List.map_drop, ← List.map_take]
theorem cutA_len {α : Type} {xs : List α} {lo hi : Option Int} : (cutA xs lo hi).length ≤ xs.length := by
  unfold cutA
  rw [List.length_take, List.length_drop]
  omega
theorem DtAll.cut {K : PySem.W.Frag} {H : Hp} {vs : List V} {ds : List PyData} (h : DtAll K H vs ds) (lo hi : Option Int) : DtAll K H (cutV vs lo hi) (cutA ds lo hi) := by
  unfold cutV cutA
  rw [h.length]
  exact (h.drop _).take _
theorem Lq.slice {K : PySem.W.Frag} {H : Hp} {l : Addr} {ds : List PyData} {lo hi : Option Int} {Q : VK} (h : Lq K H l ds) (q : ∀ p H', H p = none → Fr [] H H' → Lq K H' p (cutA ds lo hi) → Q (.ref p) H') : rSlU K (.ref l) lo hi H Q := by
  obtain ⟨vs, e, a⟩ := h
  exact w_slL (SqL.of e) fun p hp => q p _ hp (Fr.new hp) ⟨_, upd_same, (a.cut lo hi).mono (Tu.new hp)⟩
theorem cutA_full {α : Type} {xs : List α} {lo hi : Option Int} (h : HT.sIx xs.length 0 lo = 0 ∧ HT.sIx xs.length xs.length hi = xs.length) : cutA xs lo hi = xs := by
  unfold cutA
  rw [h.1, h.2, List.drop_zero, Nat.sub_zero, List.take_length]
theorem Dt.slice {K : PySem.W.Frag} {H : Hp} {v : V} {ds : List PyData} {lo hi : Option Int} {Q : VK} (h : Dt K H v (.tuple ds)) (q : ∀ p H', Fr [] H H' → Dt K H' (.ref p) (.tuple (cutA ds lo hi)) → Q (.ref p) H') : rSlU K v lo hi H Q := by
  obtain ⟨p, vs, rfl, s, a⟩ := h.tuple
  refine .inl (.inr ⟨p, vs, rfl, s, fun z => ?_, fun _ p' hp => ?_⟩)
  · rw [a.length] at z
    refine q p H Fr.refl ?_
    rw [cutA_full z]
    exact h
  · exact q p' _ (Fr.new hp) (.tup (.inl (.inl upd_same)) ((a.cut lo hi).mono (Tu.new hp)))
theorem Dt.cat {K : PySem.W.Frag} {H : Hp} {v u : V} {ds es : List PyData} {Q : VK} (h : Dt K H v (.tuple ds)) (h' : Dt K H u (.tuple es)) (n : ds.length + es.length ≤ 1000) (q : ∀ p H', Fr [] H H' → Dt K H' (.ref p) (.tuple (ds ++ es)) → Q (.ref p) H') : rAddU K v u H Q := by
  obtain ⟨p, vs, rfl, s, a⟩ := h.tuple
  obtain ⟨p', us, rfl, s', a'⟩ := h'.tuple
  refine .inr (.inl ⟨p, p', vs, us, rfl, rfl, s, s', Nat.le_trans (show _ ≤ 1000 by rw [a.length, a'.length]; exact n) (by decide), fun z => ?_, fun _ z => ?_, fun _ _ r hr => ?_⟩)
  · subst z
    cases a
    exact q p' H Fr.refl h'
  · subst z
    cases a'
    refine q p H Fr.refl ?_
    rw [List.append_nil]
    exact h
  · exact q r _ (Fr.new hr) (.tup (.inl (.inl upd_same)) ((a.append a').mono (Tu.new hr)))
theorem Lq.cat {K : PySem.W.Frag} {H : Hp} {l m : Addr} {ds es : List PyData} {Q : VK} (h : Lq K H l ds) (h' : Lq K H m es) (n : ds.length + es.length ≤ 100000) (q : ∀ p H', H p = none → Fr [] H H' → Lq K H' p (ds ++ es) → Q (.ref p) H') : rAddU K (.ref l) (.ref m) H Q := by
  obtain ⟨vs, e, a⟩ := h
  obtain ⟨us, e', a'⟩ := h'
  exact w_addL e e' (by rw [a.length, a'.length]; omega) fun p hp => q p _ hp (Fr.new hp) ⟨_, upd_same, (a.append a').mono (Tu.new hp)⟩
theorem Lq.allB {K : PySem.W.Frag} {H : Hp} {l : Addr} {bs : List Bool} {Q : VK} (h : Lq K H l (bs.map PyData.bool)) (q : Q (.bl (bs.all id)) H) : rAll K [.ref l] H Q := by
  obtain ⟨vs, e, a⟩ := h
  have z : vs = bs.map V.bl := by
    clear e q
    induction bs generalizing vs with
    | nil => cases a; rfl
    | cons b r ih =>
      cases a with
      | cons a1 a2 => rw [a1.of_bl, ih _ a2]; rfl
  exact ⟨l, bs, rfl, SqL.of (by rw [e, z]), q⟩
theorem Lq.ints {K : PySem.W.Frag} {H : Hp} {l : Addr} {ns : List Int} (h : Lq K H l (ns.map PyData.int)) : H l = some (.lst (ns.map V.int)) := by
  obtain ⟨vs, e, a⟩ := h
  have z : vs = ns.map V.int := by
    clear e
    induction ns generalizing vs with
    | nil => cases a; rfl
    | cons b r ih =>
      cases a with
      | cons a1 a2 => rw [a1.of_int, ih _ a2]; rfl
  rw [e, z]
/-- what changed is new -/
theorem Fr.drop1 {S : List Addr} {H H1 H2 : Hp} {p : Addr} (hp : H p = none) (a : Fr S H H1) (b : Fr [p] H1 H2) : Fr S H H2 := fun x o e n => b x o (a x o e n) (by
  intro z
  rw [List.mem_singleton.mp z, hp] at e
  cases e)
/-- a comprehension with a test over a list of data: what is kept is the data's own filter -/
theorem LCF {K : PySem.W.Frag} {α : Type} {q : Addr} {H : Hp} {us : List V} {cs : List α} {dS : α → PyData} {j : Nat} {ws : List Nat} {σ : L2.St} {tt : TT} {te : TE} {Q : VK} (f : α → Bool) (g : α → PyData)
    (hq : H q = some (.lst us)) (hd : DtAll K H us (cs.map dS)) (lc : cs.length ≤ 100000) (hw : ∀ x, wipe ((wipe σ ws).set j (some x)) ws = wipe σ ws)
    (ht : ∀ c x H', c ∈ cs → Fr [] H H' → Dt K H' x (dS c) → ∀ QB : Bool → Hp → Prop, (∀ H2, Fr [] H' H2 → QB (f c) H2) → tt ((wipe σ ws).set j (some x)) H' QB)
    (he : ∀ c x H', c ∈ cs → Fr [] H H' → Dt K H' x (dS c) → f c = true → ∀ Q : VK, (∀ y H2, Fr [] H' H2 → Dt K H2 y (g c) → Q y H2) → te ((wipe σ ws).set j (some x)) H' Q)
    (k : ∀ D H', H D = none → Fr [] H H' → Lq K H' D ((cs.filter f).map g) → Q (.ref D) H') :
    ∃ a', V.ref q = .ref a' ∧ (∃ ys, SqL K H a' ys) ∧ ∀ D, H D = none → LC (Itl K a') (gName j) tt te ws σ D Q (upd H D (.lst [])) := by
  have lu : us.length = cs.length := by rw [hd.length, List.length_map]
  refine LC_L (SqL.of hq) fun D hD => LC_by (a := q) (xs := us) (fun i H' => Fr [] H H' ∧ Lq K H' D (((cs.take i).filter f).map g)) ⟨Fr.new hD, [], upd_same, .nil⟩ (fun i H' _ h => SqL.of (h.1 _ _ hq (by simp))) ?_ ?_
  · rintro i x H' hx ⟨f', ys, hys, dys⟩
    obtain ⟨d, h1, h2⟩ := (hd.mono f'.tu).get hx
    obtain ⟨c, h3, rfl⟩ := (by
      rw [List.getElem?_map] at h1
      cases e : cs[i]? with
      | none => rw [e] at h1; cases h1
      | some x => rw [e] at h1; exact ⟨x, rfl, Option.some.inj h1⟩ : ∃ c, cs[i]? = some c ∧ dS c = d)
    have mc := List.mem_of_getElem? h3
    have hi : i < us.length := (List.getElem?_eq_some_iff.mp hx).1
    have ly : ys.length ≤ i := by
      rw [dys.length, List.length_map]
      refine Nat.le_trans (List.length_filter_le _ _) ?_
      rw [List.length_take]
      omega
    refine ⟨hw x, ht c x H' mc f' h2 _ fun H2 f2 => ?_⟩
    cases hf : f c with
    | false =>
      rw [if_neg Bool.false_ne_true]
      refine ⟨f'.trans f2, ?_⟩
      rw [take_filt h3, hf]
      show Lq K H2 D ((List.filter f (cs.take i) ++ []).map g)
      rw [List.append_nil]
      exact Lq.fr0 ⟨ys, hys, dys⟩ f2
    | true =>
      rw [if_pos rfl]
      refine he c x H2 mc (f'.trans f2) (h2.mono f2.tu) hf _ fun y H3 f3 dy => ?_
      have f23 := f2.trans f3
      have e3 := f23 _ _ hys (by simp)
      refine ⟨ys, e3, Nat.lt_of_le_of_lt (show ys.length ≤ 100000 by omega) (by decide), Fr.new_mut hD ((f'.trans f23).mono (by simp) |>.trans (Fr.mut (by simp))), _, upd_same, ?_⟩
      rw [take_filt h3, hf, List.map_append]
      exact ((dys.mono f23.tu).append (.cons dy .nil)).mono (Tu.mut e3)
  · rintro H' ⟨f', L⟩
    rw [lu, List.take_length] at L
    exact k D H' hD f' L
theorem Lq.at {K : PySem.W.Frag} {H : Hp} {l : Addr} {ds : List PyData} {P : PyData → Prop} (h : Lq K H l ds) (hP : ∀ d ∈ ds, P d) {i : Int} (h0 : 0 ≤ i) (h1 : i < ds.length) {Q : VK} (q : ∀ v d, Dt K H v d → P d → ds[i.toNat]? = some d → Q v H) : rIx K (.ref l) (.int i) H Q := by
  obtain ⟨vs, e, a⟩ := h
  have ek : i = ((i.toNat : Nat) : Int) := by omega
  have hk : i.toNat < ds.length := by omega
  obtain ⟨v, hv, dv⟩ := a.get' (List.getElem?_eq_getElem hk)
  refine w_ixL (SqL.of e) ?_ (q v _ dv (hP _ (List.getElem_mem hk)) (List.getElem?_eq_getElem hk))
  rw [ek]
  exact atI_nat hv
/-- the last -/
theorem Lq.last {K : PySem.W.Frag} {H : Hp} {l : Addr} {ds : List PyData} {d : PyData} {Q : VK} (h : Lq K H l (ds ++ [d])) (q : ∀ v, Dt K H v d → Q v H) : rIx K (.ref l) (.int (-1)) H Q := by
  obtain ⟨vs, e, a⟩ := h
  have hl := a.length
  rw [List.length_append] at hl
  have hl : vs.length = ds.length + 1 := hl
  obtain ⟨v, hv, dv⟩ := a.get' (i := ds.length) (d := d) (by rw [List.getElem?_append_right (Nat.le_refl _), Nat.sub_self]; rfl)
  refine w_ixL (SqL.of e) ?_ (q v dv)
  unfold atI ixN
  rw [if_neg (by decide), if_pos (by omega)]
  show vs[((-1 : Int) + vs.length).toNat]? = some v
  rw [show ((-1 : Int) + vs.length).toNat = ds.length by omega]
  exact hv
/-- a for over such a list -/
theorem Lq.walk {K : PySem.W.Frag} {H : Hp} {l : Addr} {ds : List PyData} {σ : L2.St} {nx b c : L2.St → Hp → Prop} {rt : VK} {g : TG} {tb : TS} (h : Lq K H l ds) (Pv : Nat → L2.St → Hp → Prop) (h0 : Pv 0 σ H) (hl : ∀ i σ H', Pv i σ H' → Lq K H' l ds)
    (hs : ∀ i v d σ H', ds[i]? = some d → Dt K H' v d → Pv i σ H' → g v σ H' fun σ2 H2 => tb ⟨Pv (i + 1), rt, nx, Pv (i + 1)⟩ σ2 H2) (hd : ∀ σ H', Pv ds.length σ H' → nx σ H') :
    ∃ a', V.ref l = .ref a' ∧ (∃ ys, SqL K H a' ys) ∧ FOR (Itl K a') g tb ⟨nx, rt, b, c⟩ σ H := by
  obtain ⟨vs, e, a⟩ := id h
  refine ⟨l, rfl, ⟨vs, SqL.of e⟩, fun i m σ H => m = ds.length - i ∧ i ≤ ds.length ∧ Pv i σ H, ⟨_, rfl, Nat.zero_le _, h0⟩, ?_⟩
  rintro i m σ' H' ⟨rfl, hi, p⟩
  obtain ⟨us, eu, au⟩ := hl i σ' H' p
  by_cases hlt : i < ds.length
  · obtain ⟨v, hv, dv⟩ := au.get' (List.getElem?_eq_getElem hlt)
    refine .inr ⟨⟨us, v, SqL.of eu, hv⟩, Pv (i + 1), fun σ2 H2 p' => ⟨ds.length - (i + 1), by omega, rfl, hlt, p'⟩, fun x H2 y => ?_⟩
    obtain ⟨z, y⟩ := y
    subst z
    have ex : x = v := Option.some.inj ((y us (SqL.of eu)).symm.trans hv)
    subst ex
    exact hs i x _ σ' _ (List.getElem?_eq_getElem hlt) dv p
  · have z : i = ds.length := by omega
    subst z
    exact .inl ⟨⟨us, SqL.of eu, by rw [au.length]; exact Nat.le_refl _⟩, hd σ' H' p⟩
/-- .. backwards -/
theorem Lq.walkRev {K : PySem.W.Frag} {H : Hp} {l : Addr} {ds : List PyData} {σ : L2.St} {nx b c : L2.St → Hp → Prop} {rt : VK} {g : TG} {tb : TS} (h : Lq K H l ds) (Pv : Nat → L2.St → Hp → Prop) (h0 : Pv 0 σ H) (hl : ∀ i σ H', Pv i σ H' → Lq K H' l ds)
    (hs : ∀ i v d σ H', i < ds.length → ds[ds.length - 1 - i]? = some d → Dt K H' v d → Pv i σ H' → g v σ H' fun σ2 H2 => tb ⟨Pv (i + 1), rt, nx, Pv (i + 1)⟩ σ2 H2) (hd : ∀ σ H', Pv ds.length σ H' → nx σ H') :
    ∃ (a : Addr) (xs : List V), V.ref l = .ref a ∧ ((SqL K H a xs ∧ FOR (Itv K a xs.length) g tb ⟨nx, rt, b, c⟩ σ H) ∨ (SqT K H a xs ∧ FOR (RT.ItvT K a xs.length) g tb ⟨nx, rt, b, c⟩ σ H)) := by
  obtain ⟨vs, e, a⟩ := id h
  have lv := a.length
  refine ⟨l, vs, rfl, .inl ⟨SqL.of e, fun i m σ H => m = ds.length - i ∧ i ≤ ds.length ∧ Pv i σ H, ⟨_, rfl, Nat.zero_le _, h0⟩, ?_⟩⟩
  rintro i m σ' H' ⟨rfl, hi, p⟩
  obtain ⟨us, eu, au⟩ := hl i σ' H' p
  by_cases hlt : i < ds.length
  · have hj : ds.length - 1 - i < ds.length := by omega
    obtain ⟨v, hv, dv⟩ := au.get' (List.getElem?_eq_getElem hj)
    refine .inr ⟨⟨by omega, us, v, SqL.of eu, by rw [lv]; exact hv⟩, Pv (i + 1), fun σ2 H2 p' => ⟨ds.length - (i + 1), by omega, rfl, hlt, p'⟩, fun x H2 y => ?_⟩
    obtain ⟨z, y⟩ := y
    subst z
    have y2 := y us (SqL.of eu)
    rw [lv] at y2
    have ex : x = v := Option.some.inj (y2.symm.trans hv)
    subst ex
    exact hs i x _ σ' _ hlt (List.getElem?_eq_getElem hj) dv p
  · have z : i = ds.length := by omega
    subst z
    exact .inl ⟨by show vs.length ≤ _; omega, hd σ' H' p⟩
/-- .. with its number -/
theorem Lq.walkEnum {K : PySem.W.Frag} {H : Hp} {l : Addr} {ds : List PyData} {σ : L2.St} {nx b c : L2.St → Hp → Prop} {rt : VK} {g : TG} {tb : TS} (h : Lq K H l ds) (Pv : Nat → L2.St → Hp → Prop) (h0 : Pv 0 σ H) (hl : ∀ i σ H', Pv i σ H' → Lq K H' l ds)
    (hs : ∀ i t v d σ H' H2, ds[i]? = some d → Dt K H2 v d → Fr [] H' H2 → Pv i σ H' → SqT K H2 t [.int i, v] → g (.ref t) σ H2 fun σ2 H3 => tb ⟨Pv (i + 1), rt, nx, Pv (i + 1)⟩ σ2 H3) (hd : ∀ σ H', Pv ds.length σ H' → nx σ H') :
    ∃ a xs, [V.ref l] = [.ref a] ∧ SqL K H a xs ∧ FOR (Ite K a) g tb ⟨nx, rt, b, c⟩ σ H := by
  obtain ⟨vs, e, a⟩ := id h
  refine ⟨l, vs, rfl, SqL.of e, fun i m σ H => m = ds.length - i ∧ i ≤ ds.length ∧ Pv i σ H, ⟨_, rfl, Nat.zero_le _, h0⟩, ?_⟩
  rintro i m σ' H' ⟨rfl, hi, p⟩
  obtain ⟨us, eu, au⟩ := hl i σ' H' p
  by_cases hlt : i < ds.length
  · obtain ⟨v, hv, dv⟩ := au.get' (List.getElem?_eq_getElem hlt)
    refine .inr ⟨⟨us, v, SqL.of eu, hv⟩, Pv (i + 1), fun σ2 H2 p' => ⟨ds.length - (i + 1), by omega, rfl, hlt, p'⟩, fun x H2 y => ?_⟩
    obtain ⟨t, z, e1, ht, e2, y⟩ := y
    subst e1 e2
    have ex : z = v := Option.some.inj ((y us (SqL.of eu)).symm.trans hv)
    subst ex
    exact hs i t z _ σ' H' _ (List.getElem?_eq_getElem hlt) (dv.mono (Tu.new ht)) (Fr.new ht) p (.inl (.inl upd_same))
  · have z : i = ds.length := by omega
    subst z
    exact .inl ⟨⟨us, SqL.of eu, by rw [au.length]; exact Nat.le_refl _⟩, hd σ' H' p⟩
theorem map_get {α β : Type} {f : α → β} {xs : List α} {i : Nat} {y : β} (h : (xs.map f)[i]? = some y) : ∃ x, xs[i]? = some x ∧ f x = y := by
  rw [List.getElem?_map] at h
  cases e : xs[i]? with
  | none => rw [e] at h; cases h
  | some x => rw [e] at h; exact ⟨x, rfl, Option.some.inj h⟩
end U

namespace U
open PySem PySem.Spec PyProof.Rows L2
/-! ### texts: a sign, a part, sign by sign -/
section
variable {K : PySem.W.Frag} {H : Hp} {Q : VK} {i j : Int}
theorem w_ixS {z : Str} {c : Nat} (h : z.length ≤ sizeLine) (e : atI z.cps.toList i = some c) (q : Q (.str ⟨#[c]⟩) H) : rIx K (.str z) (.int i) H Q := .inr (.inr ⟨z, i, c, rfl, rfl, h, e, q⟩)
theorem w_inSign {c : Nat} {z : Str} (q : Q (.bl (decide (c ∈ z.cps.toList))) H) : rInU K (.str ⟨#[c]⟩) (.str z) H Q := .inr ⟨c, z, rfl, rfl, q⟩
theorem w_ninSign {c : Nat} {z : Str} (q : Q (.bl (!decide (c ∈ z.cps.toList))) H) : rNinU K (.str ⟨#[c]⟩) (.str z) H Q := .inr ⟨c, z, rfl, rfl, q⟩
theorem w_slS {z : Str} {lo hi : Option Int} (h : z.length ≤ sizeLine) (q : Q (.str (cutS z lo hi)) H) : rSlU K (.str z) lo hi H Q := .inr ⟨z, rfl, h, q⟩
def MkD (Q : VK) (H : Hp) : Prop := ∀ p, H p = none → Q (.ref p) (upd H p (.dK []))
theorem w_dnew {σ : L2.St} (q : MkD Q H) : tDNewK σ H Q := q
theorem w_iS {σ : L2.St} {te : TE} {R : It → Hp → Prop} (q : te σ H fun v H1 => ∃ x, v = .str x ∧ R (Its x) H1) : iStr te σ H R := q
theorem at_sign {z : Str} {p : Int} (h0 : 0 ≤ p) (h : p < z.length) : ∃ c, atI z.cps.toList p = some c ∧ c ∈ z.cps.toList := by
  have h1 : p.toNat < z.cps.toList.length := by
    rw [Array.length_toList]
    have : z.length = z.cps.size := rfl
    omega
  have ek : p = ((p.toNat : Nat) : Int) := by omega
  have key : atI z.cps.toList ((p.toNat : Nat) : Int) = some z.cps.toList[p.toNat] := atI_nat (List.getElem?_eq_getElem h1)
  rw [← ek] at key
  exact ⟨_, key, List.getElem_mem h1⟩
end
/-- a text of at most n signs, each of them one -/
def TxOk (n : Nat) (x : Str) : Prop := x.length ≤ n ∧ PyData.strOk x = true
theorem strOk_mem {x : Str} : PyData.strOk x = true ↔ ∀ c ∈ x.cps.toList, c < 0x110000 := by
  unfold PyData.strOk
  rw [← Array.all_toList, List.all_eq_true]
  constructor
  · intro h c hc; simpa using h c hc
  · intro h c hc; simpa using h c hc
theorem TxOk.mono {n m : Nat} {x : Str} (h : TxOk n x) (l : n ≤ m) : TxOk m x := ⟨Nat.le_trans h.1 l, h.2⟩
theorem TxOk.cat {n m : Nat} {a b : Str} (ha : TxOk n a) (hb : TxOk m b) : TxOk (n + m) (a ++ b) := by
  refine ⟨?_, strOk_mem.mpr fun c hc => ?_⟩
  · have e : (a ++ b).length = a.length + b.length := by
      show (a ++ b).cps.size = a.cps.size + b.cps.size
      rw [PySem.Str.cps_append, Array.size_append]
    have := ha.1
    have := hb.1
    omega
  · rw [PySem.Str.cps_append, Array.toList_append] at hc
    rcases List.mem_append.mp hc with h | h
    · exact strOk_mem.mp ha.2 c h
    · exact strOk_mem.mp hb.2 c h
theorem TxOk.cut {n : Nat} {a : Str} {lo hi : Option Int} (ha : TxOk n a) : TxOk n (cutS a lo hi) := by
  refine ⟨Nat.le_trans (cutS_length a lo hi) ha.1, strOk_mem.mpr fun c hc => ?_⟩
  unfold cutS at hc
  rw [List.toList_toArray] at hc
  exact strOk_mem.mp ha.2 c (List.mem_of_mem_drop (List.mem_of_mem_take hc))
theorem TxOk.sign {n : Nat} {a : Str} {c : Nat} (ha : TxOk n a) (h : c ∈ a.cps.toList) : TxOk 1 ⟨#[c]⟩ := by
  refine ⟨Nat.le_refl _, strOk_mem.mpr fun d hd => ?_⟩
  rw [List.mem_singleton.mp hd]
  exact strOk_mem.mp ha.2 c h
/-- a comprehension over a text, sign by sign -/
theorem LCS {K : PySem.W.Frag} {x : Str} {H : Hp} {j : Nat} {ws : List Nat} {σ : L2.St} {tt : TT} {te : TE} {Q : VK} (f : Nat → Bool) (g : Nat → PyData) (lx : x.length ≤ 100000)
    (hw : ∀ v, wipe ((wipe σ ws).set j (some v)) ws = wipe σ ws)
    (ht : ∀ c H', Fr [] H H' → ∀ QB : Bool → Hp → Prop, QB (f c) H' → tt ((wipe σ ws).set j (some (.str ⟨#[c]⟩))) H' QB)
    (he : ∀ c H', Fr [] H H' → f c = true → ∀ Q : VK, (∀ y, Dt K H' y (g c) → Q y H') → te ((wipe σ ws).set j (some (.str ⟨#[c]⟩))) H' Q)
    (k : ∀ D H', H D = none → Fr [] H H' → Lq K H' D ((x.cps.toList.filter f).map g) → Q (.ref D) H') :
    ∃ x', V.str x = .str x' ∧ ∀ D, H D = none → LC (Its x') (gName j) tt te ws σ D Q (upd H D (.lst [])) := by
  refine ⟨x, rfl, fun D hD => ?_⟩
  refine lc_it (walk_str (z := x)) (fun i H' => Fr [] H H' ∧ Lq K H' D (((x.cps.toList.take i).filter f).map g)) ⟨Fr.new hD, [], upd_same, .nil⟩ (fun _ _ _ _ => trivial) ?_ ?_
  · rintro i v H1 H' hi ⟨f', ys, hys, dys⟩ ⟨rfl, c, hc, rfl⟩
    have hcl : x.cps.toList[i]? = some c := by rw [Array.getElem?_toList]; exact hc
    have ly : ys.length ≤ i := by
      rw [dys.length, List.length_map]
      refine Nat.le_trans (List.length_filter_le _ _) ?_
      rw [List.length_take]
      omega
    have lz : x.cps.size ≤ 100000 := lx
    refine ⟨hw _, ht c H' f' _ ?_⟩
    cases hf : f c with
    | false =>
      rw [if_neg Bool.false_ne_true]
      refine ⟨f', ?_⟩
      rw [take_filt hcl, hf]
      show Lq K H' D ((List.filter f (x.cps.toList.take i) ++ []).map g)
      rw [List.append_nil]
      exact ⟨ys, hys, dys⟩
    | true =>
      rw [if_pos rfl]
      refine he c H' f' hf _ fun y dy => ?_
      refine ⟨ys, hys, Nat.lt_of_le_of_lt (show ys.length ≤ 100000 by omega) (by decide), Fr.new_mut hD ((f'.mono (by simp)).trans (Fr.mut (by simp))), _, upd_same, ?_⟩
      rw [take_filt hcl, hf, List.map_append]
      exact (dys.append (.cons dy .nil)).mono (Tu.mut hys)
  · rintro H' ⟨f', L⟩
    have e : List.take x.cps.size x.cps.toList = x.cps.toList := by
      rw [← Array.length_toList, List.take_length]
    rw [e] at L
    exact k D H' hD f' L
/-- a new list of any data -/
theorem mkG {K : PySem.W.Frag} {H : Hp} {xs : List V} {ds : List PyData} {Q : VK} (d : DgAll K H xs ds) (q : ∀ p H' vs, H p = none → Fr [] H H' → H' p = some (.lst vs) → DgAll K H' vs ds → Q (.ref p) H') (n : xs.length ≤ 1000 := by exact Nat.le_of_ble_eq_true rfl) : MkL xs Q H :=
  ⟨Nat.le_trans n (by decide), fun p hp => q p _ xs hp (Fr.new hp) upd_same (d.fr (Fr.new hp))⟩
theorem mkD {H : Hp} {Q : VK} (q : ∀ p H', H p = none → Fr [] H H' → H' p = some (.dK []) → Q (.ref p) H') : MkD Q H := fun p hp => q p _ hp (Fr.new hp) upd_same
end U

namespace U
open PySem PySem.Spec PyProof.Rows L2
/-! ### a for over a tuple of data, comprehensions with any target and test -/
section
variable {K : PySem.W.Frag}
theorem Dt.walk {H : Hp} {v : V} {ds : List PyData} {σ : L2.St} {nx b c : L2.St → Hp → Prop} {rt : VK} {g : TG} {tb : TS} (h : Dt K H v (.tuple ds)) (Pv : Nat → L2.St → Hp → Prop) (h0 : Pv 0 σ H) (hl : ∀ i σ H', Pv i σ H' → Tu H H')
    (hs : ∀ i u d σ H', ds[i]? = some d → Dt K H' u d → Pv i σ H' → g u σ H' fun σ2 H2 => tb ⟨Pv (i + 1), rt, nx, Pv (i + 1)⟩ σ2 H2) (hd : ∀ σ H', Pv ds.length σ H' → nx σ H') :
    ∃ a, v = .ref a ∧ (∃ xs, SqT K H a xs) ∧ FOR (Itt K a) g tb ⟨nx, rt, b, c⟩ σ H := by
  obtain ⟨a, vs, rfl, s, av⟩ := h.tuple
  have e := av.length
  refine ⟨a, rfl, ⟨vs, s⟩, for_tup (D := ⟨nx, rt, b, c⟩) (xs := vs) Pv h0 (fun i σ H' _ p => (hl i σ H' p).seqT s) (fun i x σ H' hx p => ?_) (fun σ H' p => hd σ H' (by rw [← e]; exact p))⟩
  obtain ⟨d, h1, h2⟩ := (av.mono (hl i σ H' p)).get hx
  exact hs i x d σ H' h1 h2 p
theorem LCX_L {α : Type} {q : Addr} {H : Hp} {cs : List α} {dS : α → PyData} {ws : List Nat} {σ : L2.St} {tg : TG} {tt : TT} {te : TE} {Q : VK} (f : α → Bool) (g : α → PyData)
    (h : Lq K H q (cs.map dS)) (lc : cs.length ≤ 100000)
    (hs : ∀ (c : α) (x : V) (H' : Hp) (KEEP : VK) (DROP : Hp → Prop), c ∈ cs → Fr [] H H' → Dt K H' x (dS c) → (f c = true → ∀ y H4, Fr [] H' H4 → Dt K H4 y (g c) → KEEP y H4) → (f c = false → ∀ H4, Fr [] H' H4 → DROP H4) →
      tg x (wipe σ ws) H' fun σ2 H2 => wipe σ2 ws = wipe σ ws ∧ tt σ2 H2 fun k H3 => if k = true then te σ2 H3 KEEP else DROP H3)
    (k : ∀ D H', H D = none → Fr [] H H' → Lq K H' D ((cs.filter f).map g) → Q (.ref D) H') :
    ∃ a', V.ref q = .ref a' ∧ (∃ ys, SqL K H a' ys) ∧ ∀ D, H D = none → LC (Itl K a') tg tt te ws σ D Q (upd H D (.lst [])) := by
  obtain ⟨us, hq, hd⟩ := h
  have lu : us.length = cs.length := by rw [hd.length, List.length_map]
  refine LC_L (SqL.of hq) fun D hD => LC_by (a := q) (xs := us) (fun i H' => Fr [] H H' ∧ Lq K H' D (((cs.take i).filter f).map g)) ⟨Fr.new hD, [], upd_same, .nil⟩ (fun i H' _ h => SqL.of (h.1 _ _ hq (by simp))) ?_ ?_
  · rintro i x H' hx ⟨f', ys, hys, dys⟩
    obtain ⟨d, h1, h2⟩ := (hd.mono f'.tu).get hx
    obtain ⟨c, h3, rfl⟩ := map_get h1
    have hi : i < us.length := (List.getElem?_eq_some_iff.mp hx).1
    have ly : ys.length ≤ i := by
      rw [dys.length, List.length_map]
      refine Nat.le_trans (List.length_filter_le _ _) ?_
      rw [List.length_take]
      omega
    refine hs c x H' _ _ (List.mem_of_getElem? h3) f' h2 (fun hf y H4 f4 dy => ?_) (fun hf H4 f4 => ?_)
    · have e3 := f4 _ _ hys (by simp)
      refine ⟨ys, e3, Nat.lt_of_le_of_lt (show ys.length ≤ 100000 by omega) (by decide), Fr.new_mut hD ((f'.trans f4).mono (by simp) |>.trans (Fr.mut (by simp))), _, upd_same, ?_⟩
      rw [take_filt h3, hf, List.map_append]
      exact ((dys.mono f4.tu).append (.cons dy .nil)).mono (Tu.mut e3)
    · refine ⟨f'.trans f4, ?_⟩
      rw [take_filt h3, hf]
      show Lq K H4 D ((List.filter f (cs.take i) ++ []).map g)
      rw [List.append_nil]
      exact Lq.fr0 ⟨ys, hys, dys⟩ f4
  · rintro H' ⟨f', L⟩
    rw [lu, List.take_length] at L
    exact k D H' hD f' L
theorem LCX_T {α : Type} {v : V} {H : Hp} {cs : List α} {dS : α → PyData} {ws : List Nat} {σ : L2.St} {tg : TG} {tt : TT} {te : TE} {Q : VK} (f : α → Bool) (g : α → PyData)
    (h : Dt K H v (.tuple (cs.map dS))) (lc : cs.length ≤ 100000)
    (hs : ∀ (c : α) (x : V) (H' : Hp) (KEEP : VK) (DROP : Hp → Prop), c ∈ cs → Fr [] H H' → Dt K H' x (dS c) → (f c = true → ∀ y H4, Fr [] H' H4 → Dt K H4 y (g c) → KEEP y H4) → (f c = false → ∀ H4, Fr [] H' H4 → DROP H4) →
      tg x (wipe σ ws) H' fun σ2 H2 => wipe σ2 ws = wipe σ ws ∧ tt σ2 H2 fun k H3 => if k = true then te σ2 H3 KEEP else DROP H3)
    (k : ∀ D H', H D = none → Fr [] H H' → Lq K H' D ((cs.filter f).map g) → Q (.ref D) H') :
    ∃ a', v = .ref a' ∧ (∃ ys, SqT K H a' ys) ∧ ∀ D, H D = none → LC (Itt K a') tg tt te ws σ D Q (upd H D (.lst [])) := by
  obtain ⟨q, us, rfl, hq, hd⟩ := h.tuple
  have lu : us.length = cs.length := by rw [hd.length, List.length_map]
  refine LC_T hq fun D hD => ?_
  refine lc_it (walk_tup (K := K) (a := q) (xs := us)) (fun i H' => Fr [] H H' ∧ Lq K H' D (((cs.take i).filter f).map g)) ⟨Fr.new hD, [], upd_same, .nil⟩ (fun i H' _ h => h.1.seqT hq (by simp)) ?_ ?_
  · rintro i x H0' H' hi ⟨f', ys, hys, dys⟩ ⟨rfl, hx⟩
    obtain ⟨d, h1, h2⟩ := (hd.mono f'.tu).get hx
    obtain ⟨c, h3, rfl⟩ := map_get h1
    have ly : ys.length ≤ i := by
      rw [dys.length, List.length_map]
      refine Nat.le_trans (List.length_filter_le _ _) ?_
      rw [List.length_take]
      omega
    refine hs c x _ _ _ (List.mem_of_getElem? h3) f' h2 (fun hf y H4 f4 dy => ?_) (fun hf H4 f4 => ?_)
    · have e3 := f4 _ _ hys (by simp)
      refine ⟨ys, e3, Nat.lt_of_le_of_lt (show ys.length ≤ 100000 by omega) (by decide), Fr.new_mut hD ((f'.trans f4).mono (by simp) |>.trans (Fr.mut (by simp))), _, upd_same, ?_⟩
      rw [take_filt h3, hf, List.map_append]
      exact ((dys.mono f4.tu).append (.cons dy .nil)).mono (Tu.mut e3)
    · refine ⟨f'.trans f4, ?_⟩
      rw [take_filt h3, hf]
      show Lq K H4 D ((List.filter f (cs.take i) ++ []).map g)
      rw [List.append_nil]
      exact Lq.fr0 ⟨ys, hys, dys⟩ f4
  · rintro H' ⟨f', L⟩
    rw [lu, List.take_length] at L
    exact k D H' hD f' L
/-- extend by a list of data -/
theorem Lq.extend {H : Hp} {l m : Addr} {ds es : List PyData} {Q : VK} (h : Lq K H l ds) (h' : Lq K H m es) (n : ds.length + es.length ≤ 100000) (q : ∀ H', Fr [l] H H' → Tu H H' → Lq K H' l (ds ++ es) → Q .non H') : rExtend (.ref l) [.ref m] H Q := by
  obtain ⟨vs, e, a⟩ := h
  obtain ⟨us, e', a'⟩ := h'
  refine ⟨l, m, vs, us, rfl, rfl, e, e', Nat.le_trans (show _ ≤ 100000 by rw [a.length, a'.length]; exact n) (by decide), ?_⟩
  exact q _ (Fr.mut (by simp)) (Tu.mut e) ⟨_, upd_same, (a.append a').mono (Tu.mut e)⟩
/-- tuple(list) -/
theorem Lq.tuple {H : Hp} {l : Addr} {ds : List PyData} {Q : VK} (h : Lq K H l ds) (q : ∀ p H', Fr [] H H' → Dt K H' (.ref p) (.tuple ds) → Q (.ref p) H') : rTupleU K [.ref l] H Q := by
  obtain ⟨vs, e, a⟩ := h
  exact w_tupleL (SqL.of e) fun p hp => q p _ (Fr.new hp) (.tup (.inl (.inl upd_same)) (a.mono (Tu.new hp)))
/-- a part of a tuple, the first of a list -/
theorem Dt.ix {H : Hp} {v : V} {ds : List PyData} {d : PyData} {i : Int} {Q : VK} (n : Nat) (h : Dt K H v (.tuple ds)) (e : ds[n]? = some d) (q : ∀ u, Dt K H u d → Q u H) (hi : i = (n : Int) := by rfl) : rIx K v (.int i) H Q := by
  obtain ⟨p, vs, rfl, s, a⟩ := h.tuple
  obtain ⟨u, hu, du⟩ := a.get' e
  subst hi
  exact w_ixT s (atI_nat hu) (q u du)
theorem Lq.ix {H : Hp} {l : Addr} {ds : List PyData} {d : PyData} {i : Int} {Q : VK} (n : Nat) (h : Lq K H l ds) (e : ds[n]? = some d) (q : ∀ u, Dt K H u d → Q u H) (hi : i = (n : Int) := by rfl) : rIx K (.ref l) (.int i) H Q := by
  obtain ⟨vs, s, a⟩ := h
  obtain ⟨u, hu, du⟩ := a.get' e
  subst hi
  exact w_ixL (SqL.of s) (atI_nat hu) (q u du)
theorem Lq.nin {H : Hp} {l : Addr} {x : V} {ds : List PyData} {d : PyData} {Q : VK} (h : Lq K H l ds) (hx : Dt K H x d) (sd : SeqAt.shaped d = true) (sl : SeqAt.shaped (.list ds) = true) (q : Q (.bl (!ds.any fun z => PyData.eqv z d)) H) : rNinU K x (.ref l) H Q := .inl (.inr ⟨d, ds, hx.dp, h.dp, sd, sl, q⟩)
theorem Lq.isin {H : Hp} {l : Addr} {x : V} {ds : List PyData} {d : PyData} {Q : VK} (h : Lq K H l ds) (hx : Dt K H x d) (sd : SeqAt.shaped d = true) (sl : SeqAt.shaped (.list ds) = true) (q : Q (.bl (ds.any fun z => PyData.eqv z d)) H) : rInU K x (.ref l) H Q := .inl (.inr ⟨d, ds, hx.dp, h.dp, sd, sl, q⟩)
theorem Dt.isTuple {H : Hp} {v : V} {ds : List PyData} {Q : VK} (h : Dt K H v (.tuple ds)) (q : Q (.bl true) H) : rIsi K [v, .ty "tuple"] H Q := by
  obtain ⟨p, vs, rfl, s, a⟩ := h.tuple
  exact isT_tuple s q
theorem w_iRevR {σ : L2.St} {H : Hp} {te : TE} {R : It → Hp → Prop} (q : te σ H fun x H1 => ∃ n, x = .int n ∧ (-(2 ^ 62) ≤ (0 : Int) ∧ (0 : Int) < 2 ^ 62 ∧ -(2 ^ 62) ≤ n ∧ n < 2 ^ 62 ∧ R (Itc (0 + (((n - 0).toNat : Nat) : Int) - 1) (-1) (n - 0).toNat) H1)) : iRevR (tRg1 te) σ H R := q
theorem F_RevR {σ : L2.St} {H : Hp} {nx b c : L2.St → Hp → Prop} {rt : VK} {g : TG} {tb : TS} (n : Nat) (hn : n ≤ 100000) (Pv : Nat → L2.St → Hp → Prop) (h0 : Pv 0 σ H)
    (hs : ∀ i σ H, i < n → Pv i σ H → g (.int ((n - 1 - i : Nat) : Int)) σ H fun σ2 H2 => tb ⟨Pv (i + 1), rt, nx, Pv (i + 1)⟩ σ2 H2) (hd : ∀ σ H, Pv n σ H → nx σ H) :
    -(2 ^ 62) ≤ (0 : Int) ∧ (0 : Int) < 2 ^ 62 ∧ -(2 ^ 62) ≤ (n : Int) ∧ (n : Int) < 2 ^ 62 ∧ FOR (Itc (0 + ((((n : Int) - 0).toNat : Nat) : Int) - 1) (-1) ((n : Int) - 0).toNat) g tb ⟨nx, rt, b, c⟩ σ H := by
  refine ⟨by decide, by decide, by omega, by omega, ?_⟩
  have e : ((n : Int) - 0).toNat = n := by omega
  rw [e]
  refine for_it (D := ⟨nx, rt, b, c⟩) (walk_rangeC (lo := 0 + (n : Int) - 1) (c := -1) (n := n)) Pv h0 (fun _ _ _ _ _ => trivial) (fun i x σ H H' hi p y => ?_) (fun σ H p => hd σ H p)
  obtain ⟨rfl, rfl⟩ := y
  have z := hs i σ H' hi p
  rw [show ((n - 1 - i : Nat) : Int) = 0 + (n : Int) - 1 + ((i : Nat) : Int) * -1 by omega] at z
  exact z
def rIns : V → List V → Hp → VK → Prop := fun x vs H Q => ∃ (l : Addr) (xs : List V) (i : Int) (y : V), x = .ref l ∧ vs = [.int i, y] ∧ H l = some (.lst xs) ∧ xs.length < sizeLine ∧ 0 ≤ i ∧ i < 2 ^ 63 ∧ Q .non (upd H l (.lst (xs.take i.toNat ++ [y] ++ xs.drop i.toNat)))
theorem mt_insU {X : Cx} : MtR X "list.insert" rIns := mt_insert
theorem Lq.insert {H : Hp} {l : Addr} {ds : List PyData} {i : Int} {y : V} {d : PyData} {Q : VK} (h : Lq K H l ds) (hy : Dt K H y d) (n : ds.length ≤ 100000) (h0 : 0 ≤ i) (h1 : i < 2 ^ 63) (q : ∀ H', Fr [l] H H' → Tu H H' → Lq K H' l (ds.take i.toNat ++ [d] ++ ds.drop i.toNat) → Q .non H') : rIns (.ref l) [.int i, y] H Q := by
  obtain ⟨vs, e, a⟩ := h
  refine ⟨l, vs, i, y, rfl, rfl, e, Nat.lt_of_le_of_lt (show vs.length ≤ 100000 by rw [a.length]; exact n) (by decide), h0, h1, ?_⟩
  exact q _ (Fr.mut (by simp)) (Tu.mut e) ⟨_, upd_same, (((a.take _).append (.cons hy .nil)).append (a.drop _)).mono (Tu.mut e)⟩
end
end U

/-! dicts whose keys are tuples of data, nested -/
namespace U
open PySem PySem.Spec PyProof.Rows L2
mutual
/-- data as a key of the library -/
def nk : PyData → NestedKey
  | .none => .none
  | .bool b => .num (if b then 1 else 0)
  | .int i => .num i
  | .str x => .text x
  | .tuple ds => .tup (nkAll ds)
  | _ => .none
def nkAll : List PyData → List NestedKey
  | [] => []
  | d :: r => nk d :: nkAll r
end
mutual
/-- data that is a key, no truths in it -/
def kd : PyData → Bool
  | .none => true
  | .int _ => true
  | .str _ => true
  | .tuple ds => kdAll ds
  | _ => false
def kdAll : List PyData → Bool
  | [] => true
  | d :: r => kd d && kdAll r
end
mutual
theorem nk_depth : ∀ d : PyData, kd d = true → NestedKey.depth (nk d) ≤ d.depth
  | .none, _ => by simp [nk, NestedKey.depth]
  | .int _, _ => by simp [nk, NestedKey.depth]
  | .str _, _ => by simp [nk, NestedKey.depth]
  | .tuple ds, h => by
    have := nkAll_depth ds (by simpa [kd] using h)
    simp only [nk, NestedKey.depth, PyData.depth]
    omega
theorem nkAll_depth : ∀ ds : List PyData, kdAll ds = true → NestedKey.depthAll (nkAll ds) ≤ PyData.depthAll ds
  | [], _ => by simp [nkAll, NestedKey.depthAll]
  | d :: r, h => by
    simp only [kdAll, Bool.and_eq_true] at h
    have h1 := nk_depth d h.1
    have h2 := nkAll_depth r h.2
    simp only [nkAll, NestedKey.depthAll, PyData.depthAll]
    omega
end
mutual
theorem nk_inj : ∀ a b : PyData, kd a = true → kd b = true → nk a = nk b → a = b
  | .none, b, _, hb, h => by cases b <;> simp [nk, kd] at h hb ⊢
  | .int i, b, _, hb, h => by cases b <;> simp [nk, kd] at h hb ⊢; exact h
  | .str x, b, _, hb, h => by cases b <;> simp [nk, kd] at h hb ⊢; exact h
  | .tuple ds, b, ha, hb, h => by
    cases b <;> simp [nk, kd] at h hb ha ⊢
    exact nkAll_inj ds _ ha hb h
theorem nkAll_inj : ∀ a b : List PyData, kdAll a = true → kdAll b = true → nkAll a = nkAll b → a = b
  | [], b, _, _, h => by cases b <;> simp [nkAll] at h ⊢
  | d :: r, b, ha, hb, h => by
    cases b with
    | nil => simp [nkAll] at h
    | cons e t =>
      simp only [kdAll, Bool.and_eq_true] at ha hb
      simp only [nkAll, List.cons.injEq] at h
      rw [nk_inj d e ha.1 hb.1 h.1, nkAll_inj r t ha.2 hb.2 h.2]
end
mutual
theorem nested_of {h : Heap} : ∀ {u : Value} {d : PyData} {as : List Addr}, Reads h u d as → kd d = true → NestedIs h (nk d) u
  | _, _, _, .none, _ => .none
  | _, _, _, .bool b, k => by simp [kd] at k
  | _, _, _, .int i t, _ => .int i t
  | _, _, _, .str x t, _ => .text x t
  | _, _, _, .list _ _ _ _, k => by simp [kd] at k
  | _, _, _, .tuple g c e a, k => .tup g c e (nestedAll_of a (by simpa [kd] using k))
  | _, _, _, .dict _ _ _ _ _, k => by simp [kd] at k
theorem nestedAll_of {h : Heap} : ∀ {us : List Value} {ds : List PyData} {as : List Addr}, ReadsAll h us ds as → kdAll ds = true → NestedAll h (nkAll ds) us
  | _, _, _, .nil, _ => .nil
  | _, _, _, .cons a b, k => by
    simp only [kdAll, Bool.and_eq_true] at k
    exact .cons (nested_of a k.1) (nestedAll_of b k.2)
end
/-- keys told as data -/
structure KeyD {α : Type} (dS : α → PyData) : Prop where
  kd : ∀ a, kd (dS a) = true
  dp : ∀ a, (dS a).depth ≤ 8
  inj : ∀ a b, dS a = dS b → a = b
theorem KeyD.nk {α : Type} {dS : α → PyData} (D : KeyD dS) {a b : α} (h : nk (dS a) = nk (dS b)) : a = b := D.inj a b (nk_inj _ _ (D.kd a) (D.kd b) h)
section
variable {α : Type} [DecidableEq α]
def atN (kvs : List (α × V)) (a : α) : Option V := (kvs.find? fun kv => decide (kv.1 = a)).map (·.2)
def putN (kvs : List (α × V)) (a : α) (v : V) : List (α × V) := if (atN kvs a).isSome then kvs.map (fun kv => if kv.1 = a then (kv.1, v) else kv) else kvs ++ [(a, v)]
def dropN (kvs : List (α × V)) (a : α) : List (α × V) := kvs.filter fun kv => decide (kv.1 ≠ a)
end
def atO (d : Addr) (o : Obj) : HO := .ext fun h => h.get? d = some o
/-- an entry and what stands in the heap -/
def RkN {α : Type} (K : PySem.W.Frag) (H : Hp) (dS : α → PyData) (kv : α × V) (x : NestedKey × Addr × Value) : Prop := Dt K H (.ref x.2.1) (dS kv.1) ∧ x.1 = nk (dS kv.1) ∧ RelV kv.2 x.2.2
structure DNx {α : Type} (P : Program) (w : World) (K : PySem.W.Frag) (dS : α → PyData) (H : Hp) (d : Addr) (kvs : List (α × V)) (xs : List (NestedKey × Addr × Value)) (o : Obj) : Prop where
  there : H d = some (atO d o)
  nosys : (d == sysModules) = false
  exact : o.ExactDict
  data : ∃ es ep, o.data = .dict es ep ∧ es.toList = xs.map (entryOfKey (nestedKind P w))
  keys : Paired (RkN K H dS) kvs xs
  nodup : (xs.map (·.1)).Nodup
/-- at d a dict of kvs, in order -/
def DN {α : Type} (P : Program) (w : World) (K : PySem.W.Frag) (dS : α → PyData) (H : Hp) (d : Addr) (kvs : List (α × V)) : Prop := (kvs = [] ∧ H d = some (.dK [])) ∨ ∃ xs o, DNx P w K dS H d kvs xs o
section
variable {α : Type} {P : Program} {w : World} {K : PySem.W.Frag} {dS : α → PyData} {H H' : Hp} {d : Addr} {kvs : List (α × V)}
theorem Paired.imp {α β : Type} {F G : α → β → Prop} (h : ∀ a b, F a b → G a b) : ∀ {xs : List α} {ys : List β}, Paired F xs ys → Paired G xs ys
  | _, _, .nil => .nil
  | _, _, .cons a b => .cons (h _ _ a) (Paired.imp h b)
theorem RkN.mono (t : Tu H H') {kv : α × V} {x : NestedKey × Addr × Value} (h : RkN K H dS kv x) : RkN K H' dS kv x := ⟨h.1.mono t, h.2.1, h.2.2⟩
theorem DN.fr {S : List Addr} (h : DN P w K dS H d kvs) (f : Fr S H H') (n : d ∉ S) (t : Tu H H') : DN P w K dS H' d kvs := by
  rcases h with ⟨rfl, e⟩ | ⟨xs, o, D⟩
  · exact .inl ⟨rfl, f _ _ e n⟩
  · exact .inr ⟨xs, o, f _ _ D.there n, D.nosys, D.exact, D.data, Paired.imp (fun _ _ => RkN.mono t) D.keys, D.nodup⟩
theorem DN.fr0 (h : DN P w K dS H d kvs) (f : Fr [] H H') : DN P w K dS H' d kvs := h.fr f (by simp) f.tu
theorem Tu.dn (h : DN P w K dS H d kvs) (o : HO) : Tu H (upd H d o) := fun a ys => by
  have e : H d = some (.dK []) ∨ ∃ o, H d = some (atO d o) := by
    rcases h with ⟨_, e⟩ | ⟨xs, o, D⟩
    · exact .inl e
    · exact .inr ⟨_, D.there⟩
  refine ⟨fun z => ?_, fun o' z => ?_⟩ <;>
  · rw [upd_ne (by
      rintro rfl
      rcases e with e | ⟨_, e⟩ <;> rw [z] at e <;> cases e)]
    exact z
end
section
variable {α : Type} {X : Cx} {pins : List (Addr × Obj)} {σ : L2.St} {H : Hp} {s : Shared} {dS : α → PyData} {d a : Addr} {kvs : List (α × V)} {k : α}
theorem KeyD.is (D : KeyD dS) (I : Inv X pins σ H s) (h : Dt X.K H (.ref a) (dS k)) : (nestedKind X.prog X.w).is s.heap (U.nk (dS k)) a := by
  obtain ⟨as, r⟩ := Dp.reads I (dS k) (.ref a) (.ref a) h.dp rfl
  exact ⟨nested_of r (D.kd k), Nat.le_trans (nk_depth _ (D.kd k)) (D.dp k)⟩
theorem Paired.right {α β : Type} {F : α → β → Prop} : ∀ {xs : List α} {ys : List β}, Paired F xs ys → ∀ y ∈ ys, ∃ x, F x y
  | _, _, .nil, y, h => by simp at h
  | _, _, .cons a b, y, h => by
    rcases List.mem_cons.mp h with rfl | h
    · exact ⟨_, a⟩
    · exact Paired.right b y h
theorem DN.heap (D : KeyD dS) (I : Inv X pins σ H s) (h : DN X.prog X.w X.K dS H d kvs) : ∃ xs, s.heap.DictOfH (nestedKind X.prog X.w) d xs ∧ Paired (RkN X.K H dS) kvs xs ∧ (d == sysModules) = false ∧ Mut (H d) := by
  rcases h with ⟨rfl, e⟩ | ⟨xs, o, N⟩
  · obtain ⟨_, n, vs, kv, o, es, ep, ho, hex, hd, _, pr, _⟩ := I.hok d _ e
    cases kv
    have z : es.toList = [] := by
      generalize es.toList = l at pr
      cases pr
      rfl
    exact ⟨[], ⟨o, es, ep, ho, hex, hd, by rw [z]; rfl, by simp, by simp⟩, .nil, n, by rw [e]; trivial⟩
  · obtain ⟨ho, _⟩ := I.hok d _ N.there
    obtain ⟨es, ep, hd, ht⟩ := N.data
    refine ⟨xs, ⟨o, es, ep, ho, N.exact, hd, ht, ?_, N.nodup⟩, N.keys, N.nosys, by rw [N.there]; trivial⟩
    intro x hx
    obtain ⟨kv, r⟩ := Paired.right N.keys x hx
    rw [r.2.1]
    exact D.is I r.1
end
section
variable {α : Type} [DecidableEq α] {K : PySem.W.Frag} {H : Hp} {dS : α → PyData}
theorem at_paired (D : KeyD dS) (k : α) : ∀ {kvs : List (α × V)} {xs : List (NestedKey × Addr × Value)}, Paired (RkN K H dS) kvs xs → (atN kvs k = none ∧ atKey xs (nk (dS k)) = none) ∨ ∃ v p u, atN kvs k = some v ∧ atKey xs (nk (dS k)) = some (p, u) ∧ RelV v u
  | _, _, .nil => .inl ⟨rfl, rfl⟩
  | _, _, .cons (a := kv) (b := x) r b => by
    unfold atN atKey
    rw [List.find?_cons, List.find?_cons]
    by_cases h : kv.1 = k
    · have h2 : x.1 = nk (dS k) := by rw [r.2.1, h]
      rw [decide_eq_true h, decide_eq_true h2]
      exact .inr ⟨kv.2, x.2.1, x.2.2, rfl, rfl, r.2.2⟩
    · have h2 : ¬ x.1 = nk (dS k) := fun z => h (D.nk (r.2.1.symm.trans z))
      rw [decide_eq_false h, decide_eq_false h2]
      exact at_paired D k b
theorem atN_isSome (D : KeyD dS) (k : α) {kvs : List (α × V)} {xs : List (NestedKey × Addr × Value)} (h : Paired (RkN K H dS) kvs xs) : (atKey xs (nk (dS k))).isSome = (atN kvs k).isSome := by
  rcases at_paired D k h with ⟨e, f⟩ | ⟨v, p, u, e, f, _⟩ <;> rw [e, f] <;> rfl
theorem Paired.snoc {α β : Type} {F : α → β → Prop} {x : α} {y : β} (h : F x y) : ∀ {xs : List α} {ys : List β}, Paired F xs ys → Paired F (xs ++ [x]) (ys ++ [y])
  | _, _, .nil => .cons h .nil
  | _, _, .cons a b => .cons a (Paired.snoc h b)
theorem put_map (D : KeyD dS) (k : α) {v : V} {u : Value} (rv : RelV v u) : ∀ {kvs : List (α × V)} {xs : List (NestedKey × Addr × Value)}, Paired (RkN K H dS) kvs xs → Paired (RkN K H dS) (kvs.map (fun kv => if kv.1 = k then (kv.1, v) else kv)) (xs.map (putAt (nk (dS k)) u))
  | _, _, .nil => .nil
  | _, _, .cons (a := kv) (b := x) r b => by
    refine .cons ?_ (put_map D k rv b)
    show RkN K H dS (if kv.1 = k then (kv.1, v) else kv) (if x.1 = nk (dS k) then (x.1, x.2.1, u) else x)
    by_cases h : kv.1 = k
    · have h2 : x.1 = nk (dS k) := by rw [r.2.1, h]
      rw [if_pos h, if_pos h2]
      exact ⟨r.1, r.2.1, rv⟩
    · have h2 : ¬ x.1 = nk (dS k) := fun z => h (D.nk (r.2.1.symm.trans z))
      rw [if_neg h, if_neg h2]
      exact r
theorem put_paired (D : KeyD dS) {k : α} {a : Addr} {v : V} {u : Value} (hk : Dt K H (.ref a) (dS k)) (rv : RelV v u) {kvs : List (α × V)} {xs : List (NestedKey × Addr × Value)} (h : Paired (RkN K H dS) kvs xs) : Paired (RkN K H dS) (putN kvs k v) (storedH xs (nk (dS k)) a u) := by
  unfold putN storedH
  rw [atN_isSome D k h]
  by_cases e : (atN kvs k).isSome = true
  · rw [if_pos e, if_pos e]
    exact put_map D k rv h
  · rw [if_neg e, if_neg e]
    exact Paired.snoc ⟨hk, rfl, rv⟩ h
theorem drop_paired (D : KeyD dS) {k : α} : ∀ {kvs : List (α × V)} {xs : List (NestedKey × Addr × Value)}, Paired (RkN K H dS) kvs xs → Paired (RkN K H dS) (dropN kvs k) (withoutH xs (nk (dS k)))
  | _, _, .nil => .nil
  | _, _, .cons (a := kv) (b := x) r b => by
    unfold dropN withoutH
    rw [List.filter_cons, List.filter_cons]
    by_cases h : kv.1 = k
    · have h2 : x.1 = nk (dS k) := by rw [r.2.1, h]
      rw [if_neg (by simpa using h), if_neg (by simpa using h2)]
      exact drop_paired D b
    · have h2 : ¬ x.1 = nk (dS k) := fun z => h (D.nk (r.2.1.symm.trans z))
      rw [if_pos (by simpa using h), if_pos (by simpa using h2)]
      exact .cons r (drop_paired D b)
end
/-! ### rules -/
section
variable {α : Type} [DecidableEq α] {X : Cx} {P : Program} {w : World} {K : PySem.W.Frag} {dS : α → PyData}
theorem Paired.len {α β : Type} {F : α → β → Prop} : ∀ {xs : List α} {ys : List β}, Paired F xs ys → xs.length = ys.length
  | _, _, .nil => rfl
  | _, _, .cons _ b => by rw [List.length_cons, List.length_cons, Paired.len b]
theorem valueAt_pairs (k : NestedKey) : ∀ xs : List (NestedKey × Addr × Value), (valueAt (pairsH xs) k).isSome = (atKey xs k).isSome
  | [] => rfl
  | x :: r => by
    have ih := valueAt_pairs k r
    unfold valueAt atKey pairsH at *
    rw [List.map_cons, List.find?_cons, List.find?_cons]
    by_cases h : x.1 = k
    · rw [decide_eq_true h]
      rfl
    · rw [decide_eq_false h]
      exact ih
def rInN (P : Program) (w : World) (K : PySem.W.Frag) (dS : α → PyData) : R2 := fun x y H Q => ∃ (d a : Addr) (kvs : List (α × V)) (k : α), x = .ref a ∧ y = .ref d ∧ DN P w K dS H d kvs ∧ Dt K H (.ref a) (dS k) ∧ Q (.bl (atN kvs k).isSome) H
def rNinN (P : Program) (w : World) (K : PySem.W.Frag) (dS : α → PyData) : R2 := fun x y H Q => ∃ (d a : Addr) (kvs : List (α × V)) (k : α), x = .ref a ∧ y = .ref d ∧ DN P w K dS H d kvs ∧ Dt K H (.ref a) (dS k) ∧ Q (.bl (!(atN kvs k).isSome)) H
theorem roomN {A : Around} (hu : A.units + 65 < cLine) : (nestedKind P w).room A.in1 := by
  show A.units + 1 + 8 < cLine
  omega
theorem op_inN (D : KeyD dS) (hu : X.A.units + 65 < cLine) : OpR X (compareOp .In) (rInN X.prog X.w X.K dS) := by
  intro pins s σ H x y v u Q I rx ry h
  obtain ⟨d, a, kvs, k, rfl, rfl, hd, hk, q⟩ := h
  cases rx
  cases ry
  obtain ⟨xs, hD, pr, ns, _⟩ := hd.heap D I
  refine wpAny_in_heap (roomN hu) (D.is I hk) ns hD ?_
  exact ⟨_, H, I.tok _, by rw [atN_isSome D k pr]; rfl, q⟩
theorem op_ninN (D : KeyD dS) (hu : X.A.units + 65 < cLine) : OpR X (compareOp .NotIn) (rNinN X.prog X.w X.K dS) := by
  intro pins s σ H x y v u Q I rx ry h
  obtain ⟨d, a, kvs, k, rfl, rfl, hd, hk, q⟩ := h
  cases rx
  cases ry
  obtain ⟨xs, hD, pr, ns, _⟩ := hd.heap D I
  refine notIn_keyed (knd := nestedKind X.prog X.w) (roomN hu) (D.is I hk) ns ⟨xs, hD, rfl⟩ ?_
  exact ⟨_, H, I.tok _, by rw [valueAt_pairs, atN_isSome D k pr]; rfl, q⟩
def rIxN (P : Program) (w : World) (K : PySem.W.Frag) (dS : α → PyData) : R2 := fun x y H Q => ∃ (d a : Addr) (kvs : List (α × V)) (k : α) (v : V), x = .ref d ∧ y = .ref a ∧ DN P w K dS H d kvs ∧ Dt K H (.ref a) (dS k) ∧ atN kvs k = some v ∧ Q v H
theorem ix_N (D : KeyD dS) (hu : X.A.units + 65 < cLine) : IxR X (rIxN X.prog X.w X.K dS) := by
  intro value slice pins s σ H x y v u Q I rx ry h hs
  obtain ⟨d, a, kvs, k, z, rfl, rfl, hd, hk, hv, q⟩ := h
  cases rx
  cases ry
  obtain ⟨xs, hD, pr, ns, _⟩ := hd.heap D I
  obtain ⟨o, es, ep, ho, hex, _⟩ := id hD
  rcases at_paired D k pr with ⟨e, f⟩ | ⟨v', p, u, e, f, r⟩
  · rw [hv] at e; cases e
  · rw [hv] at e
    cases e
    refine subscriptTail_builtinR (x := u) ⟨o, ho, hex.1⟩ F.slot_dict_getitem.lookup ?_ hs
    refine wpAny_getItem_heap (roomN hu) (D.is I hk) hD f ?_
    exact ⟨rfl, _, H, I.tok _, r, q⟩
def rSetN (P : Program) (w : World) (K : PySem.W.Frag) (dS : α → PyData) : TSet := fun o i v H Q => ∃ (d a : Addr) (kvs : List (α × V)) (k : α), o = .ref d ∧ i = .ref a ∧ DN P w K dS H d kvs ∧ Dt K H (.ref a) (dS k) ∧ kvs.length ≤ 100000 ∧ ∀ H', Fr [d] H H' → Tu H H' → DN P w K dS H' d (putN kvs k v) → Q H'
/-- behind a change -/
theorem DN.write {pins : List (Addr × Obj)} {σ : L2.St} {H : Hp} {s : Shared} {h' : Heap} {d : Addr} {kvs kvs' : List (α × V)} {xs' : List (NestedKey × Addr × Value)} {t' : Nat} (I : Inv X pins σ H s) (hd : DN X.prog X.w X.K dS H d kvs) (ns : (d == sysModules) = false) (m : Mut (H d)) (hD : h'.DictOfH (nestedKind X.prog X.w) d xs') (sb : Heap.SameBut d s.heap h') (pr : Paired (RkN X.K H dS) kvs' xs') :
    ∃ H', Inv X pins σ H' { s with heap := h', toks := t' } ∧ Fr [d] H H' ∧ Tu H H' ∧ DN X.prog X.w X.K dS H' d kvs' := by
  obtain ⟨o, es, ep, ho, hex, hda, hl, hi, hn⟩ := hD
  have t := Tu.dn hd (atO d o)
  refine ⟨upd H d (atO d o), I.write m (.inl rfl) (fun b u hb hu => ?_) ⟨o, ho⟩ ⟨ho, ⟨o, ho⟩, fun h1 h2 e f => f _ e⟩, Fr.mut (by simp), t, .inr ⟨xs', o, upd_same, ns, hex, ⟨es, ep, hda, hl⟩, Paired.imp (fun _ _ => RkN.mono t) pr, hn⟩⟩
  rw [sb.2 b hb]
  exact hu
theorem set_N (D : KeyD dS) (hu : X.A.units + 65 < cLine) : PSet X (rSetN X.prog X.w X.K dS) := by
  intro pins s σ H o i v ov iv u Q I ro ri rv h
  obtain ⟨d, a, kvs, k, rfl, rfl, hd, hk, n, q⟩ := h
  cases ro
  cases ri
  obtain ⟨xs, hD, pr, ns, m⟩ := hd.heap D I
  refine wpAny_setItem_heap (roomN hu) (D.is I hk) hD (fun h' hD' sb => ?_) (by rw [← Paired.len pr]; exact Nat.le_trans n (by decide))
  obtain ⟨H', I', f, t, d'⟩ := DN.write I hd ns m hD' sb (put_paired D hk rv pr)
  exact ⟨H', I', q H' f t d'⟩
def dictN (P : Program) (w : World) (K : PySem.W.Frag) (dS : α → PyData) : V → Hp → Prop := fun x H => ∃ (d : Addr) (kvs : List (α × V)), x = .ref d ∧ DN P w K dS H d kvs
theorem ty_N (D : KeyD dS) : TyOk X "dict" (dictN X.prog X.w X.K dS) := by
  intro pins σ H s x v I rx h
  obtain ⟨d, kvs, rfl, hd⟩ := h
  cases rx
  obtain ⟨xs, ⟨o, es, ep, ho, hex, _⟩, _⟩ := hd.heap D I
  refine ⟨⟨o, ho, hex.1⟩, fun a e => ?_⟩
  cases e
  exact ⟨o, ho, hex.2.1⟩
def rPopN (P : Program) (w : World) (K : PySem.W.Frag) (dS : α → PyData) : V → List V → Hp → VK → Prop := fun x vs H Q => ∃ (d a : Addr) (kvs : List (α × V)) (k : α) (v : V), x = .ref d ∧ vs = [.ref a] ∧ DN P w K dS H d kvs ∧ Dt K H (.ref a) (dS k) ∧ kvs.length ≤ 100000 ∧ atN kvs k = some v ∧ ∀ H', Fr [d] H H' → Tu H H' → DN P w K dS H' d (dropN kvs k) → Q v H'
theorem mt_popN (D : KeyD dS) (hu : X.A.units + 65 < cLine) : MtR X "dict.pop" (rPopN X.prog X.w X.K dS) := by
  intro pins s σ H x vs v us Q I rx rvs h
  obtain ⟨d, a, kvs, k, z, rfl, rfl, hd, hk, n, hv, q⟩ := h
  cases rx
  obtain ⟨_, _, ra, rn, rfl⟩ : ∃ u us', RelV (.ref a) u ∧ Vals [] us' ∧ us = u :: us' := by
    cases rvs with
    | cons r t => exact ⟨_, _, r, t, rfl⟩
  cases ra
  cases rn
  obtain ⟨xs, hD, pr, ns, m⟩ := hd.heap D I
  obtain ⟨o, es, ep, ho, hex, _⟩ := id hD
  rcases at_paired D k pr with ⟨e, f⟩ | ⟨v', p, u, e, f, r⟩
  · rw [hv] at e; cases e
  · rw [hv] at e
    cases e
    refine call_meetsIn F.slot_dict_pop ⟨o, ho, hex.1⟩ F.entry_dict_pop (F.args_dict_pop_2 _ _) (meetsH_dict_pop (nestedKind X.prog X.w) d a ns [] (.inl rfl)) ?_
    refine ⟨roomN hu, nk (dS k), xs, D.is I hk, hD, by rw [← Paired.len pr]; exact Nat.le_trans n (by decide), fun p' e' h' hD' sb => ?_, fun e' => ?_⟩
    · rw [f] at e'
      cases e'
      obtain ⟨H', I', f', t, d'⟩ := DN.write I hd ns m hD' sb (drop_paired D pr)
      exact ⟨_, H', I', r, q H' f' t d'⟩
    · rw [f] at e'
      cases e'
theorem get_size {h : Heap} {u : Obj} (e : h.get? h.objs.size = some u) : False := by
  unfold Heap.get? at e
  rw [Array.getElem?_eq_none (Nat.le_refl _)] at e
  cases e
theorem Paired.get {α β : Type} {F : α → β → Prop} : ∀ {xs : List α} {ys : List β}, Paired F xs ys → ∀ {i : Nat} {y : β}, ys[i]? = some y → ∃ x, xs[i]? = some x ∧ F x y
  | _, _, .nil, i, y, h => by simp at h
  | _, _, .cons a b, 0, y, h => by
    simp at h
    subst h
    exact ⟨_, rfl, a⟩
  | _, _, .cons a b, i + 1, y, h => by
    obtain ⟨x, h1, h2⟩ := Paired.get b (i := i) (by simpa using h)
    exact ⟨x, by simpa using h1, h2⟩
def rItemsN (P : Program) (w : World) (K : PySem.W.Frag) (dS : α → PyData) : V → List V → Hp → VK → Prop := fun x vs H Q => ∃ (d : Addr) (kvs : List (α × V)), x = .ref d ∧ vs = [] ∧ DN P w K dS H d kvs ∧ ∀ p, H p = none → Q (.ref p) (upd H p (DX.itemsO p d))
theorem mt_itemsN (D : KeyD dS) : MtR X "dict.items" (rItemsN X.prog X.w X.K dS) := by
  intro pins s σ H x vs v us Q I rx rvs h
  obtain ⟨d, kvs, rfl, rfl, hd, q⟩ := h
  cases rx
  cases rvs
  obtain ⟨xs, ⟨o, es, ep, ho, hex, hda, _⟩, _, ns, _⟩ := hd.heap D I
  refine call_meetsIn F.slot_dict_items ⟨o, ho, hex.1⟩ F.entry_dict_items (F.args_dict_items_1 _) (meets_dict_items_raw d ns) ⟨⟨es, ep, o, ho, hex, hda⟩, ?_⟩
  have hp := I.fresh
  have hg : Heap.get? (Heap.push s.heap { cls := Value.type "dict_items", data := Data.fields #[Value.ref d] }) s.heap.objs.size = some { cls := Value.type "dict_items", data := Data.fields #[Value.ref d] } := Heap.get?_push_size _ rfl
  refine ⟨.ref _, _, I.laid (a := s.heap.objs.size) (o := DX.itemsO s.heap.objs.size d) (fun b u hb => ?_) (Nat.le_refl _) (DX.itemsO_ok hg), rfl, q _ hp⟩
  rw [Heap.get?_push_ne]
  · exact hb
  · rintro rfl
    exact get_size hb
/-- the turns over its items -/
def ItN (d : Addr) (o : Obj) (ks : List (Addr × V)) : It where
  go i H := H d = some (atO d o) ∧ i < ks.length
  yld i H x H' := ∃ T b v, ks[i]? = some (b, v) ∧ x = .ref T ∧ H T = none ∧ H' = upd H T (.tup [.ref b, v])
  stop i H := H d = some (atO d o) ∧ i = ks.length
theorem turn_itemsN {elts : List Expr} {kk : Nat} {tpos : Pos} {d it : Addr} {o : Obj} {es : Array DictEntry} {ep : Nat} {ks : List (Addr × V)} (hex : o.ExactDict) (hda : o.data = .dict es ep) (hk : Paired (fun (k : Addr × V) (e : DictEntry) => e.key = .ref k.1 ∧ RelV k.2 e.val) ks es.toList) :
    Turn P w K (.Tuple elts kk tpos) (ItN d o ks) [it] it fun i h => ∃ ok ov, IsItemIter h it d i es.size ep ok ov where
  mem := by simp
  obj := fun i h t b hb => by
    obtain ⟨ok, ov, e⟩ := t
    rw [List.mem_singleton.mp hb]
    exact ⟨_, e, fun v z => by cases z⟩
  keep := fun i h h' t k => by
    obtain ⟨ok, ov, e⟩ := t
    exact ⟨ok, ov, k it (by simp) _ e⟩
  item := by
    rintro X rfl rfl rfl hc i pins s σ H E I fp t ⟨hd, hi⟩
    obtain ⟨ho, _⟩ := I.hok d _ hd
    have hne : d ≠ it := by
      rintro rfl
      rw [(fp d (by simp)).1] at hd
      cases hd
    have wk := WalksT.rawItems (prog := X.prog) (w := X.w) (A := X.A) (I.ok.hd hc) it d hne es ep
    have sz : ks.length = es.size := by rw [Paired.len hk, Array.length_toList]
    refine wk.item i s _ E (by omega) ⟨t, o, ho, hex, hda⟩ fun T vals h' tk pt hT tup mid kp => ⟨_, rfl, ?_⟩
    obtain ⟨hi2, rfl⟩ := pt
    have hTn := wk.apart i T h' mid
    refine wk.go elts kk tpos i T _ _ E mid fun h2 st kp2 => ?_
    have hb : ∃ b v, ks[i]? = some (b, v) ∧ es[i].key = .ref b ∧ RelV v es[i].val := by
      obtain ⟨x, h1, h2, h3⟩ := Paired.get hk (i := i) (y := es[i]) (by rw [Array.getElem?_toList, Array.getElem?_eq_getElem hi2])
      exact ⟨x.1, x.2, h1, h2, h3⟩
    obtain ⟨b, v, hks, hkey, hv⟩ := hb
    obtain ⟨ob, hob, hc1, n, hc2⟩ := tup
    have hob2 := kp2 T ob hTn hob
    refine ⟨.ref T, upd H T (.tup [.ref b, v]), I.turnedNew (ch := [it]) (fun a u ha hu => kp2 a u ha (kp a u ha hu)) fp hT ⟨by exact Nat.le_of_ble_eq_true rfl, [es[i].key, es[i].val], .cons (by rw [hkey]; rfl) (.cons hv .nil), ob, hob2, hc1, n, hc2⟩, rfl, ⟨T, b, v, hks, rfl, ?_, rfl⟩, st.1, fun b' hb' => ?_⟩
    · exact HOk.fresh I.hok hT
    · rw [List.mem_singleton.mp hb', upd_ne (by rintro rfl; exact hTn (by simp))]
      exact (fp it (by simp)).1
  done := by
    rintro X rfl rfl rfl hc i pins s σ H E I fp t ⟨hd, hi⟩
    obtain ⟨ho, _⟩ := I.hok d _ hd
    have hne : d ≠ it := by
      rintro rfl
      rw [(fp d (by simp)).1] at hd
      cases hd
    have wk := WalksT.rawItems (prog := X.prog) (w := X.w) (A := X.A) (I.ok.hd hc) it d hne es ep
    have sz : ks.length = es.size := by rw [Paired.len hk, Array.length_toList]
    rw [hi, sz] at t
    exact wk.done s _ E ⟨t, o, ho, hex, hda⟩ fun h' tk kp => ⟨rfl, I.turnedL (ch := [it]) kp fp⟩
  self := by
    have z := (turn_items (P := P) (w := w) (K := K) (d := d) (o := o) (kvs := List.replicate es.size (Sum.inl 0, V.non)) (elts := elts) (kk := kk) (tpos := tpos) it hda).self
    rw [List.length_replicate] at z
    exact z
/-- what is asked of the dict and of what follows -/
def ITEMS (P : Program) (w : World) (K : PySem.W.Frag) (dS : α → PyData) (R : It → Hp → Prop) (x : V) (H1 : Hp) : Prop := dictN P w K dS x H1 ∧ rItemsN P w K dS x [] H1 fun v H' => ∃ (p d : Addr) (kvs : List (α × V)), v = .ref p ∧ H' p = some (DX.itemsO p d) ∧ DN P w K dS H' d kvs ∧
  ∀ H2 o ks, Fr [d] H' H2 → Tu H' H2 → H2 d = some (atO d o) → Paired (fun (kv : α × V) (k : Addr × V) => Dt K H2 (.ref k.1) (dS kv.1) ∧ k.2 = kv.2) kvs ks → R (ItN d o ks) H2
theorem ITEMS.of {R : It → Hp → Prop} {H1 : Hp} {d : Addr} {kvs : List (α × V)} (hd : DN P w K dS H1 d kvs) (k : ∀ H2 o ks, Fr [d] H1 H2 → Tu H1 H2 → H2 d = some (atO d o) → Paired (fun (kv : α × V) (k : Addr × V) => Dt K H2 (.ref k.1) (dS kv.1) ∧ k.2 = kv.2) kvs ks → R (ItN d o ks) H2) : ITEMS P w K dS R (.ref d) H1 :=
  ⟨⟨d, kvs, rfl, hd⟩, d, kvs, rfl, rfl, hd, fun p hp => ⟨p, d, kvs, rfl, upd_same, hd.fr0 (Fr.new hp), fun H2 o ks f t h1 h2 => k H2 o ks (Fr.trans (Fr.new hp) f) ((Tu.new hp).trans t) h1 h2⟩⟩
def iItemsN (P : Program) (w : World) (K : PySem.W.Frag) (dS : α → PyData) (te : TE) : TI := fun σ H R => te σ H fun x H1 => ITEMS P w K dS R x H1
theorem w_iItemsN {σ : L2.St} {H : Hp} {te : TE} {R : It → Hp → Prop} (q : te σ H fun x H1 => ITEMS P w K dS R x H1) : iItemsN P w K dS te σ H R := q
theorem ks_of {K : PySem.W.Frag} {H : Hp} : ∀ {kvs : List (α × V)} {xs : List (NestedKey × Addr × Value)}, Paired (RkN K H dS) kvs xs → ∃ ks : List (Addr × V), Paired (fun (kv : α × V) (k : Addr × V) => Dt K H (.ref k.1) (dS kv.1) ∧ k.2 = kv.2) kvs ks ∧ Paired (fun (k : Addr × V) (e : DictEntry) => e.key = .ref k.1 ∧ RelV k.2 e.val) ks (xs.map (entryOfKey (nestedKind P w)))
  | _, _, .nil => ⟨[], .nil, .nil⟩
  | _, _, .cons (a := kv) (b := x) r b => by
    obtain ⟨ks, h1, h2⟩ := ks_of b
    exact ⟨(x.2.1, kv.2) :: ks, .cons ⟨r.1, rfl⟩ h1, .cons ⟨rfl, r.2.2⟩ h2⟩
theorem pi_itemsN {e : Expr} {te : TE} {apos cpos : Pos} {elts : List Expr} {kk : Nat} {tpos : Pos} (D : KeyD dS) (hP : X.prog = P) (hw : X.w = w) (hK : X.K = K) (he : PE X e te) (hb : attributeBase e "items" X.env (eval e X.env) = eval e X.env := by rfl) (hl : (apos.endLine == cpos.line) = true := by rfl) :
    PI X (.Tuple elts kk tpos) (.Call (.Attribute e "items" apos) [] [] cpos) (iItemsN P w K dS te) := by
  subst hP hw hK
  have P1 : PE X (.Call (.Attribute e "items" apos) [] [] cpos) (tMG0 (dictN X.prog X.w X.K dS) (rItemsN X.prog X.w X.K dS) te) := pe_mG0 (ty_N D) F.plainAttrs_dict F.slot_dict_items F.type_dict_items (mt_itemsN D) he hb hl
  refine ⟨fun pins s σ H R I q => ?_⟩
  refine wpAny_mono (P1.run pins s σ H _ I q) ?_ fun _ _ z => z
  · rintro v s1 ⟨v', H1, I1, rv, p, d, kvs, rfl, hp, hd, k⟩
    cases rv
    have hv : Heap.IsItemsView s1.heap p d := (I1.hok p _ hp).1
    obtain ⟨xs, ⟨o, es, ep, ho, hex, hda, hl, hi, hn⟩, pr, ns, m⟩ := hd.heap D I1
    have raw : Heap.DictRaw s1.heap d es ep := ⟨o, ho, hex, hda⟩
    refine wpAny_pyIter_items_raw hv raw ?_
    have t := Tu.dn hd (atO d o)
    have I2 : Inv X pins σ (upd H1 d (atO d o)) { s1 with toks := s1.toks } := I1.write m (.inl rfl) (fun b u hb hu => hu) ⟨o, ho⟩ ⟨ho, ⟨o, ho⟩, fun h1 h2 e f => f _ e⟩
    obtain ⟨ks, k1, k2⟩ := ks_of (P := X.prog) (w := X.w) (Paired.imp (fun _ _ => RkN.mono t) pr)
    rw [← hl] at k2
    have hfr : (upd H1 d (atO d o)) s1.heap.objs.size = none := by
      have := I2.fresh
      exact this
    refine ⟨s1.heap.objs.size, [s1.heap.objs.size], _, ItN d o ks, upd H1 d (atO d o), rfl, I2.turnedL (ch := []) (fun b u _ hb => ?_) (fun b hb => by simp at hb), turn_itemsN (es := es) (ep := ep) hex hda k2, ⟨_, _, Heap.get?_push_size _ rfl⟩, fun b hb => ?_, k _ o ks (Fr.mut (by simp)) t upd_same k1⟩
    · rw [Heap.get?_push_ne]
      · exact hb
      · rintro rfl
        exact get_size hb
    · rw [List.mem_singleton.mp hb]
      exact I2.fpOk (Nat.le_refl _) hfr
end
/-- a comprehension over items -/
theorem LC_N {α : Type} {K : PySem.W.Frag} {dS : α → PyData} {d D : Addr} {o : Obj} {kvs : List (α × V)} {ks : List (Addr × V)} {H : Hp} {ws : List Nat} {σ : L2.St} {tg : TG} {tt : TT} {te : TE} {Q : VK} (f : α × V → Bool) (g : α × V → PyData)
    (hd : H d = some (atO d o)) (hk : Paired (fun (kv : α × V) (k : Addr × V) => Dt K H (.ref k.1) (dS kv.1) ∧ k.2 = kv.2) kvs ks) (lc : kvs.length ≤ 100000) (hD : H D = none)
    (hs : ∀ (kv : α × V) (b T : Addr) (H' : Hp) (KEEP : VK) (DROP : Hp → Prop), kv ∈ kvs → Fr [] H H' → SqT K H' T [.ref b, kv.2] → Dt K H' (.ref b) (dS kv.1) → (f kv = true → ∀ y H4, Fr [] H' H4 → Dt K H4 y (g kv) → KEEP y H4) → (f kv = false → ∀ H4, Fr [] H' H4 → DROP H4) →
      tg (.ref T) (wipe σ ws) H' fun σ2 H2 => wipe σ2 ws = wipe σ ws ∧ tt σ2 H2 fun k H3 => if k = true then te σ2 H3 KEEP else DROP H3)
    (k : ∀ D H', H D = none → Fr [] H H' → Lq K H' D ((kvs.filter f).map g) → Q (.ref D) H') :
    LC (ItN d o ks) tg tt te ws σ D Q (upd H D (.lst [])) := by
  have lk : kvs.length = ks.length := Paired.len hk
  refine ⟨fun i m H' => m = ks.length - i ∧ i ≤ ks.length ∧ Fr [] H H' ∧ Lq K H' D (((kvs.take i).filter f).map g), ⟨_, rfl, Nat.zero_le _, Fr.new hD, [], upd_same, .nil⟩, ?_⟩
  rintro i m H' ⟨rfl, hi, f', L⟩
  have hd' := f' _ _ hd (by simp)
  by_cases hlt : i < ks.length
  · refine .inr ⟨⟨hd', hlt⟩, fun H2 => Fr [] H H2 ∧ Lq K H2 D (((kvs.take (i + 1)).filter f).map g), fun H2 z => ⟨ks.length - (i + 1), by omega, rfl, hlt, z⟩, fun x H2 y => ?_⟩
    obtain ⟨T, b, v, hks, rfl, hT, rfl⟩ := y
    obtain ⟨kv, hkv, hb, hv⟩ := Paired.get hk hks
    have hv : v = kv.2 := hv
    subst hv
    have fT : Fr [] H' (upd H' T (.tup [.ref b, kv.2])) := Fr.new hT
    have L2 := L.fr0 fT
    obtain ⟨ys, hys, dys⟩ := L2
    have ly : ys.length ≤ i := by
      rw [dys.length, List.length_map]
      refine Nat.le_trans (List.length_filter_le _ _) ?_
      rw [List.length_take]
      omega
    refine hs kv b T _ _ _ (List.mem_of_getElem? hkv) (f'.trans fT) (.inl (.inl upd_same)) (hb.mono (f'.trans fT).tu) (fun hf y H4 f4 dy => ?_) (fun hf H4 f4 => ?_)
    · have e3 := f4 _ _ hys (by simp)
      refine ⟨ys, e3, Nat.lt_of_le_of_lt (show ys.length ≤ 100000 by omega) (by decide), Fr.new_mut hD (((f'.trans fT).trans f4).mono (by simp) |>.trans (Fr.mut (by simp))), _, upd_same, ?_⟩
      rw [take_filt hkv, hf, List.map_append]
      exact ((dys.mono f4.tu).append (.cons dy .nil)).mono (Tu.mut e3)
    · refine ⟨(f'.trans fT).trans f4, ?_⟩
      rw [take_filt hkv, hf]
      show Lq K H4 D ((List.filter f (kvs.take i) ++ []).map g)
      rw [List.append_nil]
      exact Lq.fr0 ⟨ys, hys, dys⟩ f4
  · have z : i = ks.length := by omega
    subst z
    refine .inl ⟨⟨hd', rfl⟩, ?_⟩
    rw [← lk, List.take_length] at L
    exact k D H' hD f' L
/-! ### the same, told for the places where one stands -/
section
variable {α : Type} [DecidableEq α] {X : Cx} {P : Program} {w : World} {K : PySem.W.Frag} {dS : α → PyData}
theorem op_inNU (D : KeyD dS) (hP : X.prog = P) (hw : X.w = w) (hK : X.K = K) (hu : X.A.units + 65 < cLine) : OpR X (compareOp .In) (rInN P w K dS) := by subst hP hw hK; exact op_inN D hu
theorem op_ninNU (D : KeyD dS) (hP : X.prog = P) (hw : X.w = w) (hK : X.K = K) (hu : X.A.units + 65 < cLine) : OpR X (compareOp .NotIn) (rNinN P w K dS) := by subst hP hw hK; exact op_ninN D hu
theorem ix_NU (D : KeyD dS) (hP : X.prog = P) (hw : X.w = w) (hK : X.K = K) (hu : X.A.units + 65 < cLine) : IxR X (rIxN P w K dS) := by subst hP hw hK; exact ix_N D hu
theorem set_NU (D : KeyD dS) (hP : X.prog = P) (hw : X.w = w) (hK : X.K = K) (hu : X.A.units + 65 < cLine) : PSet X (rSetN P w K dS) := by subst hP hw hK; exact set_N D hu
theorem ty_NU (D : KeyD dS) (hP : X.prog = P) (hw : X.w = w) (hK : X.K = K) : TyOk X "dict" (dictN P w K dS) := by subst hP hw hK; exact ty_N D
theorem mt_popNU (D : KeyD dS) (hP : X.prog = P) (hw : X.w = w) (hK : X.K = K) (hu : X.A.units + 65 < cLine) : MtR X "dict.pop" (rPopN P w K dS) := by subst hP hw hK; exact mt_popN D hu
variable {H : Hp} {Q : VK} {a d : Addr} {kvs : List (α × V)} {k : α}
theorem w_inN (hd : DN P w K dS H d kvs) (hk : Dt K H (.ref a) (dS k)) (q : Q (.bl (atN kvs k).isSome) H) : rInN P w K dS (.ref a) (.ref d) H Q := ⟨d, a, kvs, k, rfl, rfl, hd, hk, q⟩
theorem w_ninN (hd : DN P w K dS H d kvs) (hk : Dt K H (.ref a) (dS k)) (q : Q (.bl (!(atN kvs k).isSome)) H) : rNinN P w K dS (.ref a) (.ref d) H Q := ⟨d, a, kvs, k, rfl, rfl, hd, hk, q⟩
theorem w_ixN {v : V} (hd : DN P w K dS H d kvs) (hk : Dt K H (.ref a) (dS k)) (hv : atN kvs k = some v) (q : Q v H) : rIxN P w K dS (.ref d) (.ref a) H Q := ⟨d, a, kvs, k, v, rfl, rfl, hd, hk, hv, q⟩
theorem w_setN {v : V} {Q : Hp → Prop} (hd : DN P w K dS H d kvs) (hk : Dt K H (.ref a) (dS k)) (n : kvs.length ≤ 100000) (q : ∀ H', Fr [d] H H' → Tu H H' → DN P w K dS H' d (putN kvs k v) → Q H') : rSetN P w K dS (.ref d) (.ref a) v H Q := ⟨d, a, kvs, k, rfl, rfl, hd, hk, n, q⟩
theorem w_popN {v : V} (hd : DN P w K dS H d kvs) (hk : Dt K H (.ref a) (dS k)) (n : kvs.length ≤ 100000) (hv : atN kvs k = some v) (q : ∀ H', Fr [d] H H' → Tu H H' → DN P w K dS H' d (dropN kvs k) → Q v H') : rPopN P w K dS (.ref d) [.ref a] H Q := ⟨d, a, kvs, k, v, rfl, rfl, hd, hk, n, hv, q⟩
theorem DN.dict (hd : DN P w K dS H d kvs) : dictN P w K dS (.ref d) H := ⟨d, kvs, rfl, hd⟩
theorem w_mG {σ : L2.St} {ty : V → Hp → Prop} {rm : V → List V → Hp → VK → Prop} {ta : TE} {tr : TA} (q : ta σ H fun x H1 => ty x H1 ∧ tr σ H1 fun xs H2 => rm x xs H2 Q) : tMG ty rm ta tr σ H Q := q
end
/-! ### isinstance(x, (a, b)) -/
section
variable {K : PySem.W.Frag} {H : Hp} {Q : VK}
theorem kit_two {t a b : String} {r s : Bool} (h1 : kitB t a = some r) (h2 : kitB t b = some s) : PySem.W.kitAny K (.type t) [.type a, .type b] = some (r || s) := by
  have e1 := kit_ty (K := K) h1
  have e2 := kit_ty (K := K) h2
  simp only [PySem.W.kitAny, e1, e2]
  cases r <;> cases s <;> rfl
theorem call_isiTU {X : Cx} (hK : X.K = K) : CallR X (.builtin "isinstance") (rIsiT K) := by subst hK; exact call_isiT
theorem w_isiT {x : V} {tp : Addr} {t a b : String} {r s : Bool} (h : H tp = some (.tup [.ty a, .ty b])) (ty : TyX K H x (.type t)) (h1 : kitB t a = some r) (h2 : kitB t b = some s) (q : Q (.bl (r || s)) H) : rIsiT K [x, .ref tp] H Q :=
  ⟨x, tp, [.ty a, .ty b], .type t, [.type a, .type b], r || s, rfl, h, .cons (.ty a) (.cons (.ty b) .nil), ty, kit_two h1 h2, q⟩
/-- the type's name of plain data -/
def tyn : PyData → String
  | .none => "NoneType"
  | .bool _ => "bool"
  | .int _ => "int"
  | .str _ => "str"
  | .tuple _ => "tuple"
  | .list _ => "list"
  | _ => "dict"
theorem Dg.ty {v : V} {d : PyData} (h : Dg K H v d) : TyX K H v (.type (tyn d)) := by
  cases h with
  | non => exact .base .non
  | bl b => exact .base (.bl _)
  | int i => exact .base (.int _)
  | str x => exact .base (.str _)
  | tup s _ => exact ty_T s
  | lst s _ => exact ty_L s
  | dct h => exact .base (.dK h)
end
end U

set_option maxHeartbeats 4000000









namespace LW
open PySem PySem.Spec PyProof.Rows L2 U
def topS (i : Nat) : Stmt := PySem.Challenge.pw_viewwood_k71_what_stands.main.body.getD i (.Pass ⟨0, 0, 0, 0⟩)
abbrev s_stands_behind : Stmt := topS 1
abbrev N_stands_behind : List Str := ["log", "now", "word", "path", "part", "name", "number", "key"]
abbrev p_stands_behind : List Str := ["log"]
theorem sc_stands_behind : FnScope N_stands_behind p_stands_behind (defScope s_stands_behind) := ⟨rfl, rfl, rfl, by decide +kernel, rfl, by decide +kernel, by decide +kernel⟩
abbrev s_standing : Stmt := topS 2
abbrev N_standing : List Str := ["log", "key", "number"]
abbrev p_standing : List Str := ["log"]
theorem sc_standing : FnScope N_standing p_standing (defScope s_standing) := ⟨rfl, rfl, rfl, by decide +kernel, rfl, by decide +kernel, by decide +kernel⟩
abbrev s_law_tape : Stmt := topS 4
abbrev N_law_tape : List Str := ["_law_script"]
abbrev p_law_tape : List Str := ["_law_script"]
theorem sc_law_tape : FnScope N_law_tape p_law_tape (defScope s_law_tape) := ⟨rfl, rfl, rfl, by decide +kernel, rfl, by decide +kernel, by decide +kernel⟩
abbrev s_law_draw : Stmt := topS 5
abbrev N_law_draw : List Str := ["_law_tape_here", "_law_many", "_law_script", "_law_digit", "_law_cell", "_law_mixed"]
abbrev p_law_draw : List Str := ["_law_tape_here", "_law_many"]
theorem sc_law_draw : FnScope N_law_draw p_law_draw (defScope s_law_draw) := ⟨rfl, rfl, rfl, by decide +kernel, rfl, by decide +kernel, by decide +kernel⟩
abbrev s_law_number : Stmt := topS 6
abbrev N_law_number : List Str := ["_law_tape_here"]
abbrev p_law_number : List Str := ["_law_tape_here"]
theorem sc_law_number : FnScope N_law_number p_law_number (defScope s_law_number) := ⟨rfl, rfl, rfl, by decide +kernel, rfl, by decide +kernel, by decide +kernel⟩
abbrev s_law_same : Stmt := topS 7
abbrev N_law_same : List Str := ["_law_found", "_law_due", "_law_kinds", "_law_k"]
abbrev p_law_same : List Str := ["_law_found", "_law_due"]
theorem sc_law_same : FnScope N_law_same p_law_same (defScope s_law_same) := ⟨rfl, rfl, rfl, by decide +kernel, rfl, by decide +kernel, by decide +kernel⟩
abbrev s_law_stands : Stmt := topS 8
abbrev N_law_stands : List Str := ["_law_log_here", "_law_now", "_law_word", "_law_path", "_law_part", "_law_name", "_law_number_here", "_law_same_here", "_law_one"]
abbrev p_law_stands : List Str := ["_law_log_here"]
theorem sc_law_stands : FnScope N_law_stands p_law_stands (defScope s_law_stands) := ⟨rfl, rfl, rfl, by decide +kernel, rfl, by decide +kernel, by decide +kernel⟩
abbrev s_law_work : Stmt := topS 9
abbrev N_law_work : List Str := ["_law_tape_here", "_law_key", "_law_path", "_law_part"]
abbrev p_law_work : List Str := ["_law_tape_here"]
theorem sc_law_work : FnScope N_law_work p_law_work (defScope s_law_work) := ⟨rfl, rfl, rfl, by decide +kernel, rfl, by decide +kernel, by decide +kernel⟩
abbrev s_law_log : Stmt := topS 10
abbrev N_law_log : List Str := ["_law_tape_here", "_law_log_here", "_law_pool", "_law_k", "_law_work_here", "_law_same_here", "_law_one"]
abbrev p_law_log : List Str := ["_law_tape_here"]
theorem sc_law_log : FnScope N_law_log p_law_log (defScope s_law_log) := ⟨rfl, rfl, rfl, by decide +kernel, rfl, by decide +kernel, by decide +kernel⟩
abbrev s_law : Stmt := topS 11
abbrev N_law : List Str := ["_law_script", "_law_tape_here", "_law_log_here", "_law_many", "_law_handed", "_law_again", "_law_found"]
abbrev p_law : List Str := ["_law_script"]
theorem sc_law : FnScope N_law p_law (defScope s_law) := ⟨rfl, rfl, rfl, by decide +kernel, rfl, by decide +kernel, by decide +kernel⟩
/-- what the top has left -/
structure Env (K : PySem.W.Frag) (mg : Str → Option Value) : Prop where
  l_stands_behind : Loc K mg "stands_behind" p_stands_behind s_stands_behind
  l_standing : Loc K mg "standing" p_standing s_standing
  l_law_tape : Loc K mg "_law_tape" p_law_tape s_law_tape
  l_law_draw : Loc K mg "_law_draw" p_law_draw s_law_draw
  l_law_number : Loc K mg "_law_number" p_law_number s_law_number
  l_law_same : Loc K mg "_law_same" p_law_same s_law_same
  l_law_stands : Loc K mg "_law_stands" p_law_stands s_law_stands
  l_law_work : Loc K mg "_law_work" p_law_work s_law_work
  l_law_log : Loc K mg "_law_log" p_law_log s_law_log
  l_law : Loc K mg "law" p_law s_law
  m_abs : mg "abs" = none
  m_all : mg "all" = none
  m_bool : mg "bool" = none
  m_int : mg "int" = none
  m_isinstance : mg "isinstance" = none
  m_len : mg "len" = none
  m_list : mg "list" = none
  m_range : mg "range" = none
  m_str : mg "str" = none
  m_tuple : mg "tuple" = none
local macro_rules | `(tactic| walk_at "s") => `(tactic| first
  | ((with_reducible refine' w_var ?h ?q); (case h => exact rfl))
  | (with_reducible refine' w_c ?_)
  | (with_reducible refine' w_name ?_)
  | (with_reducible refine' w_op ?_)
  | (with_reducible refine' w_nil ?_)
  | (with_reducible refine' w_cons ?_)
  | (with_reducible refine' w_seq ?_)
  | (with_reducible refine' w_asg ?_)
  | (with_reducible refine' w_ret ?_)
  | (with_reducible refine' w_ifS ?_)
  | (with_reducible refine' w_call ?_)
  | (with_reducible refine' w_cb ?_)
  | (with_reducible refine' w_test ?_)
  | (with_reducible refine' w_B ?_)
  | (with_reducible refine' w_addI ?_)
  | (with_reducible refine' w_rI0 ?_)
  | (with_reducible refine' w_eqI ?_)
  | (with_reducible refine' w_eqS ?_)
  | (with_reducible refine' w_eqB ?_)
  | (with_reducible refine' w_neI ?_)
  | (with_reducible refine' w_neS ?_)
  | (with_reducible refine' w_neB ?_)
  | (with_reducible refine' w_bl ?_)
  | (with_reducible refine' w_and ?_)
  | (with_reducible refine' w_or ?_)
  | (with_reducible refine' w_not ?_)
  | (with_reducible refine' w_andV ?_)
  | (with_reducible refine' w_orV ?_)
  | (with_reducible refine' w_notV ?_)
  | (with_reducible refine' w_if ?_)
  | (with_reducible refine' w_isN ?_)
  | (with_reducible refine' w_notN ?_)
  | (with_reducible refine' w_tup ?_)
  | (with_reducible refine' w_lst ?_)
  | (with_reducible refine' w_un ?_)
  | (with_reducible refine' w_rU ?_)
  | (with_reducible refine' w_chain ?_)
  | (with_reducible refine' w_retN ?_)
  | (with_reducible refine' w_drop ?_)
  | (with_reducible refine' w_next ?_)
  | (with_reducible refine' w_sub' ?_)
  | (with_reducible refine' w_for ?_)
  | (with_reducible refine' w_sl ?_)
  | (with_reducible refine' w_part ?_)
  | (with_reducible refine' w_partI ?_)
  | (with_reducible refine' w_nopart ?_)
  | (with_reducible refine' w_bm ?_)
  | (with_reducible refine' w_bm0 ?_)
  | (with_reducible refine' w_lc ?_)
  | ((with_reducible refine' w_wipe ?h ?q); (case h => exact rfl))
  | (with_reducible refine' w_yes ?_)
  | (with_reducible refine' w_N ?_)
  | (with_reducible refine' w_gcons ?_)
  | (with_reducible refine' w_gnil ?_)
  | (with_reducible refine' w_isB ?_)
  | (with_reducible refine' w_nisB ?_)
  | (with_reducible refine' w_iRev ?_)
  | (with_reducible refine' w_iEnum ?_)
  | (with_reducible refine' w_iR1 ?_)
  | (with_reducible refine' w_max ?_)
  | (with_reducible refine' w_min ?_)
  | (with_reducible refine' w_abs ?_)
  | (with_reducible refine' w_intI ?_)
  | (with_reducible refine' w_intB ?_)
  | (with_reducible refine' w_pow9 ?_)
  | (with_reducible refine' w_pow18 ?_)
  | (with_reducible refine' w_pow6 ?_)
  | (with_reducible refine' w_pow59 ?_)
  | (with_reducible refine' w_iR2 ?_)
  | (with_reducible refine' w_iL ?_)
  | (with_reducible refine' w_iT ?_)
  | (with_reducible refine' is_non_int ?_)
  | (with_reducible refine' is_non_bool ?_)
  | (with_reducible refine' is_non_str ?_)
  | (with_reducible refine' is_non_tuple ?_)
  | (with_reducible refine' is_non_list ?_)
  | (with_reducible refine' is_non_dict ?_)
  | (with_reducible refine' is_bl_int ?_)
  | (with_reducible refine' is_bl_bool ?_)
  | (with_reducible refine' is_bl_str ?_)
  | (with_reducible refine' is_bl_tuple ?_)
  | (with_reducible refine' is_bl_list ?_)
  | (with_reducible refine' is_bl_dict ?_)
  | (with_reducible refine' is_int_int ?_)
  | (with_reducible refine' is_int_bool ?_)
  | (with_reducible refine' is_int_str ?_)
  | (with_reducible refine' is_int_tuple ?_)
  | (with_reducible refine' is_int_list ?_)
  | (with_reducible refine' is_int_dict ?_)
  | (with_reducible refine' is_str_int ?_)
  | (with_reducible refine' is_str_bool ?_)
  | (with_reducible refine' is_str_str ?_)
  | (with_reducible refine' is_str_tuple ?_)
  | (with_reducible refine' is_str_list ?_)
  | (with_reducible refine' is_str_dict ?_)
  | (with_reducible refine' w_inSign ?_)
  | (with_reducible refine' w_ninSign ?_)
  | (with_reducible refine' w_mG ?_)
  | (with_reducible refine' w_iItemsN ?_)
  | (with_reducible refine' w_dnew ?_)
  | (with_reducible refine' w_iS ?_)
  | (with_reducible refine' w_iRevR ?_)
  | (with_reducible refine' iteT ?_)
  | (with_reducible refine' iteF ?_)
  | (with_reducible refine' iteNT ?_)
  | (with_reducible refine' iteNF ?_))
local macro_rules | `(tactic| walk_at "go") => `(tactic| repeat walk_at "s")

/-! ### the law's own walk over two things: of things alike it tells True -/
theorem w_isiFF {K : PySem.W.Frag} {H : Hp} {Q : VK} {x : V} {tp : Addr} {t a b : String} (h : H tp = some (.tup [.ty a, .ty b])) (ty : TyX K H x (.type t)) (h1 : kitB t a = some false) (h2 : kitB t b = some false) (q : Q (.bl false) H) : rIsiT K [x, .ref tp] H Q := w_isiT h ty h1 h2 q
theorem w_isiTF {K : PySem.W.Frag} {H : Hp} {Q : VK} {x : V} {tp : Addr} {t a b : String} (h : H tp = some (.tup [.ty a, .ty b])) (ty : TyX K H x (.type t)) (h1 : kitB t a = some true) (h2 : kitB t b = some false) (q : Q (.bl true) H) : rIsiT K [x, .ref tp] H Q := w_isiT h ty h1 h2 q
theorem w_isiFT {K : PySem.W.Frag} {H : Hp} {Q : VK} {x : V} {tp : Addr} {t a b : String} (h : H tp = some (.tup [.ty a, .ty b])) (ty : TyX K H x (.type t)) (h1 : kitB t a = some false) (h2 : kitB t b = some true) (q : Q (.bl true) H) : rIsiT K [x, .ref tp] H Q := w_isiT h ty h1 h2 q
/-- plain data, n deep -/
def pl : Nat → PyData → Bool
  | 0, _ => false
  | _ + 1, .none => true
  | _ + 1, .bool _ => true
  | _ + 1, .int _ => true
  | _ + 1, .str _ => true
  | n + 1, .tuple ds => decide (ds.length ≤ 100000) && ds.all (pl n)
  | n + 1, .list ds => decide (ds.length ≤ 100000) && ds.all (pl n)
  | _ + 1, _ => false
section
variable {P : Program} {w : World} {K : PySem.W.Frag} {mg : Str → Option Value} {base : Heap}
def sp_law_same (K : PySem.W.Frag) (n : Nat) : Sp := fun vs H Q _ => ∃ (v u : V) (d : PyData), vs = [v, u] ∧ (pl n d = true ∧ n ≤ 900) ∧ Dg K H v d ∧ Dg K H u d ∧ ∀ H', Fr [] H H' → Q (.bl true) H'
theorem ok_law_same (T : Env K mg) : ∀ n, Fx P w K mg base (1 + n) "_law_same" p_law_same (sp_law_same K n)
  | 0 => T.l_law_same.ok (k := 1 - 1) sc_law_same (fun vs H Q E h => by
      obtain ⟨v, u, _, _, h, _⟩ := h
      exact absurd h.1 (by simp [pl])) (fun f cdv A outer s H vs Q E hr h => by
      obtain ⟨v, u, _, _, h, _⟩ := h
      exact absurd h.1 (by simp [pl]))
  | n + 1 => by
    have IH := ok_law_same T n
    refine T.l_law_same.ok sc_law_same (fun vs H Q E h => ?_) (fun f cdv A outer s H vs Q E hr h => ?_)
    · obtain ⟨v, u, d, rfl, _⟩ := h
      rfl
    · obtain ⟨v, u, d, rfl, pd, dv, du, k⟩ := h
      refine ⟨_, (pss_cons (ps_if (pt_val (pe_callB (call_isiTU (K := K) rfl) (by rfl) T.m_isinstance (by decide +kernel) (pa_cons (pv 1) (pa_cons (pe_tup (pa_cons (pe_bltn (v := .ty "tuple") (u := .type "tuple") rfl T.m_tuple (by decide +kernel) rfl) (pa_cons (pe_bltn (v := .ty "list") (u := .type "list") rfl T.m_list (by decide +kernel) rfl) pa_nil))) pa_nil)))) (pss_cons (ps_set (i := 2) sc_law_same.nd rfl (Or.inl rfl) (pe_lst (pa_cons (pe_cmpR (op_eqU (K := K) rfl (u64 hr)) (pe_callB (call_isiU (K := K) rfl) (by rfl) T.m_isinstance (by decide +kernel) (pa_cons (pv 0) (pa_cons (pe_bltn (v := .ty "tuple") (u := .type "tuple") rfl T.m_tuple (by decide +kernel) rfl) pa_nil))) (pe_callB (call_isiU (K := K) rfl) (by rfl) T.m_isinstance (by decide +kernel) (pa_cons (pv 1) (pa_cons (pe_bltn (v := .ty "tuple") (u := .type "tuple") rfl T.m_tuple (by decide +kernel) rfl) pa_nil))) (nomark _)) (pa_cons (pe_cmpR (op_eqU (K := K) rfl (u64 hr)) (pe_callB (call_isiU (K := K) rfl) (by rfl) T.m_isinstance (by decide +kernel) (pa_cons (pv 0) (pa_cons (pe_bltn (v := .ty "list") (u := .type "list") rfl T.m_list (by decide +kernel) rfl) pa_nil))) (pe_callB (call_isiU (K := K) rfl) (by rfl) T.m_isinstance (by decide +kernel) (pa_cons (pv 1) (pa_cons (pe_bltn (v := .ty "list") (u := .type "list") rfl T.m_list (by decide +kernel) rfl) pa_nil))) (nomark _)) pa_nil))))
      (pss_cons (ps_if (PW.pt (pw_or (pt_cmpR (op_neU (K := K) rfl (u64 hr)) (pv 2) (pe_lst (pa_cons pe_bl (pa_cons pe_bl pa_nil))) (nomark _)) (pw_or1 (pt_cmpR (op_neU (K := K) rfl (u64 hr)) (pe_callB (call_lenU (K := K) rfl) (by rfl) T.m_len (by decide +kernel) (pa_cons (pv 0) pa_nil)) (pe_callB (call_lenU (K := K) rfl) (by rfl) T.m_len (by decide +kernel) (pa_cons (pv 1) pa_nil)) (nomark _))))) (pss_one (ps_ret pe_bl)) pss_nil)
      (pss_one (ps_ret (pe_callB (call_allU (K := K) rfl rfl) (by rfl) T.m_all (by decide +kernel) (pa_cons (pe_lc (own := [("_law_k", 3)]) (g := (gName 3)) (tt := tYes) rfl sc_law_same.nd (pi_range1 rfl T.m_range (pa_cons (pe_callB (call_lenU (K := K) rfl) (by rfl) T.m_len (by decide +kernel) (pa_cons (pv 1) pa_nil)) pa_nil)) (blkOk_by (N := N_law_same) (sc := defScope s_law_same) (by decide +kernel)) (fun _ _ _ _ _ => (pg_name (i := 3) sc_law_same.nd rfl (Or.inl rfl))) (fun _ _ _ _ _ => pts_nil) (fun _ _ _ _ _ => (pe_fx (IH) hr (Nat.le_refl _) (pa_cons (pe_ix (ix_U (K := K) rfl) (pv 0) (pv 3) (fun _ _ => rfl)) (pa_cons (pe_ix (ix_U (K := K) rfl) (pv 1) (pv 3) (fun _ _ => rfl)) pa_nil))))) pa_nil)))))) pss_nil)
      (pss_cons (ps_if (pt_cmp (pc_isN (pv 1))) (pss_one (ps_ret (pe_cmp (pc_isN (pv 0))))) pss_nil)
      (pss_cons (ps_if (pt_val (pe_callB (call_isiU (K := K) rfl) (by rfl) T.m_isinstance (by decide +kernel) (pa_cons (pv 1) (pa_cons (pe_bltn (v := .ty "str") (u := .type "str") rfl T.m_str (by decide +kernel) rfl) pa_nil)))) (pss_one (ps_ret (pe_and (pe_callB (call_isiU (K := K) rfl) (by rfl) T.m_isinstance (by decide +kernel) (pa_cons (pv 0) (pa_cons (pe_bltn (v := .ty "str") (u := .type "str") rfl T.m_str (by decide +kernel) rfl) pa_nil))) (pe_one (pe_cmpR (op_eqU (K := K) rfl (u64 hr)) (pv 0) (pv 1) (nomark _)))))) pss_nil)
      (pss_one (ps_ret (pe_and (pe_cmpR (op_eqU (K := K) rfl (u64 hr)) (pe_callB (call_isiU (K := K) rfl) (by rfl) T.m_isinstance (by decide +kernel) (pa_cons (pv 0) (pa_cons (pe_bltn (v := .ty "bool") (u := .type "bool") rfl T.m_bool (by decide +kernel) rfl) pa_nil))) (pe_callB (call_isiU (K := K) rfl) (by rfl) T.m_isinstance (by decide +kernel) (pa_cons (pv 1) (pa_cons (pe_bltn (v := .ty "bool") (u := .type "bool") rfl T.m_bool (by decide +kernel) rfl) pa_nil))) (nomark _)) (pe_and (pe_callB (call_isiU (K := K) rfl) (by rfl) T.m_isinstance (by decide +kernel) (pa_cons (pv 0) (pa_cons (pe_bltn (v := .ty "int") (u := .type "int") rfl T.m_int (by decide +kernel) rfl) pa_nil))) (pe_one (pe_cmpR (op_eqU (K := K) rfl (u64 hr)) (pv 0) (pv 1) (nomark _)))))))))), ?_⟩
      walk_at "go"
      refine ⟨by exact Nat.le_of_ble_eq_true rfl, fun tp ntp => ?_⟩
      have f1 : Fr [] H (upd H tp (.tup [.ty "tuple", .ty "list"])) := Fr.new ntp
      have e1 : upd H tp (.tup [.ty "tuple", .ty "list"]) tp = some (.tup [.ty "tuple", .ty "list"]) := upd_same
      replace dv := dv.fr f1
      replace du := du.fr f1
      replace k : ∀ H', Fr [] (upd H tp (.tup [.ty "tuple", .ty "list"])) H' → Q (.bl true) H' := fun H' f => k H' (f1.trans f)
      generalize upd H tp (.tup [.ty "tuple", .ty "list"]) = H1 at e1 dv du k
      walk_at "go"
      cases d with
      | none =>
        cases dv; cases du
        refine w_isiFF e1 (.base .non) (by decide +kernel) (by decide +kernel) ?_
        walk_at "go"
        refine ite_d (fun _ => ?_) fun h => (h rfl).elim
        walk_at "go"
        exact k _ Fr.refl
      | bool b =>
        cases dv; cases du
        refine w_isiFF e1 (.base (.bl _)) (by decide +kernel) (by decide +kernel) ?_
        walk_at "go"
        refine ite_d (fun h => nomatch h) fun _ => ?_
        walk_at "go"
        rw [decide_eq_true rfl]
        walk_at "go"
        rw [decide_eq_true rfl]
        exact k _ Fr.refl
      | int b =>
        cases dv; cases du
        refine w_isiFF e1 (.base (.int _)) (by decide +kernel) (by decide +kernel) ?_
        walk_at "go"
        refine ite_d (fun h => nomatch h) fun _ => ?_
        walk_at "go"
        rw [decide_eq_true rfl]
        walk_at "go"
        rw [decide_eq_true rfl]
        exact k _ Fr.refl
      | str b =>
        cases dv; cases du
        refine w_isiFF e1 (.base (.str _)) (by decide +kernel) (by decide +kernel) ?_
        walk_at "go"
        refine ite_d (fun h => nomatch h) fun _ => ?_
        walk_at "go"
        rw [decide_eq_true rfl]
        exact k _ Fr.refl
      | tuple ds =>
        have hp : ds.length ≤ 100000 ∧ ∀ d ∈ ds, pl n d = true := by
          have := pd.1
          simp only [pl, Bool.and_eq_true, decide_eq_true_eq, List.all_eq_true] at this
          exact this
        cases dv with
        | tup sv av =>
        cases du with
        | tup su au =>
        rename_i pv' vs pu' us
        have lv := av.length
        have lu := au.length
        refine w_isiTF e1 (ty_T su) (by decide +kernel) (by decide +kernel) ?_
        walk_at "go"
        refine isT_tuple sv ?_
        walk_at "go"
        refine isT_tuple su ?_
        walk_at "go"
        refine isT_list sv ?_
        walk_at "go"
        refine isT_list su ?_
        walk_at "go"
        refine mkL (K := K) (ds := [.bool true, .bool true]) (.cons (by exact .bl true) (.cons (by exact .bl true) .nil)) fun q2 H2 n2 f2 L2 => ?_
        walk_at "go"
        refine mkL (K := K) (ds := [.bool true, .bool true]) (.cons (by exact .bl true) (.cons (by exact .bl true) .nil)) fun q3 H3 n3 f3 L3 => ?_
        have f13 := f2.trans f3
        refine w_neR (L2.fr0 f3).dp L3.dp (by decide) ?_
        walk_at "go"
        refine w_lenT (f13.seqT sv (by simp)) ?_
        walk_at "go"
        refine w_lenT (f13.seqT su (by simp)) ?_
        walk_at "go"
        rw [lv, lu, decide_eq_true rfl]
        walk_at "go"
        refine w_lenT (f13.seqT su (by simp)) ?_
        walk_at "go"
        rw [lu]
        refine LC_R1 ds.length (by omega) (by omega) (by omega) fun D nD => ⟨fun i H' => Fr [] H3 H' ∧ Lq K H' D ((List.replicate i true).map PyData.bool), ⟨Fr.new nD, [], upd_same, .nil⟩, ?_, ?_⟩
        · rintro i H' hi ⟨f4, L4⟩
          have f14 := f13.trans f4
          obtain ⟨d, hd⟩ : ∃ d, ds[i]? = some d := ⟨_, List.getElem?_eq_getElem hi⟩
          obtain ⟨x, hx, dx⟩ : ∃ x, vs[i]? = some x ∧ Dg K H' x d := by
            have hi' : i < vs.length := by omega
            obtain ⟨d', h1, h2⟩ := (av.fr f14).get (List.getElem?_eq_getElem hi')
            rw [hd] at h1
            cases h1
            exact ⟨_, List.getElem?_eq_getElem hi', h2⟩
          obtain ⟨y, hy, dy⟩ : ∃ x, us[i]? = some x ∧ Dg K H' x d := by
            have hi' : i < us.length := by omega
            obtain ⟨d', h1, h2⟩ := (au.fr f14).get (List.getElem?_eq_getElem hi')
            rw [hd] at h1
            cases h1
            exact ⟨_, List.getElem?_eq_getElem hi', h2⟩
          walk_at "go"
          refine w_ixT (f14.seqT sv (by simp)) (atI_nat hx) ?_
          walk_at "go"
          refine w_ixT (f14.seqT su (by simp)) (atI_nat hy) ?_
          walk_at "go"
          refine ⟨x, y, d, rfl, ⟨hp.2 d (List.mem_of_getElem? hd), by omega⟩, dx, dy, fun H5 f5 => ?_⟩
          obtain ⟨acc, ha, da⟩ := L4.fr0 f5
          refine ⟨acc, ha, Nat.lt_of_le_of_lt (show acc.length ≤ 100000 by rw [da.length, List.length_map, List.length_replicate]; omega) (by decide), Fr.drop1 nD (f4.trans f5) (Fr.mut (by simp)), _, upd_same, ?_⟩
          rw [List.replicate_succ', List.map_append]
          exact (da.append (.cons (.bl true) .nil)).mono (Tu.mut ha)
        · rintro H' ⟨f4, L4⟩
          walk_at "go"
          refine L4.allB ?_
          rw [List.all_eq_true.mpr fun b hb => by rw [(List.mem_replicate.mp hb).2]; rfl]
          exact k H' (f13.trans f4)
      | list ds =>
        have hp : ds.length ≤ 100000 ∧ ∀ d ∈ ds, pl n d = true := by
          have := pd.1
          simp only [pl, Bool.and_eq_true, decide_eq_true_eq, List.all_eq_true] at this
          exact this
        cases dv with
        | lst sv av =>
        cases du with
        | lst su au =>
        rename_i pv' vs pu' us
        have lv := av.length
        have lu := au.length
        refine w_isiFT e1 (ty_L su) (by decide +kernel) (by decide +kernel) ?_
        walk_at "go"
        refine isL_tuple sv ?_
        walk_at "go"
        refine isL_tuple su ?_
        walk_at "go"
        refine isL_list sv ?_
        walk_at "go"
        refine isL_list su ?_
        walk_at "go"
        refine mkL (K := K) (ds := [.bool true, .bool true]) (.cons (by exact .bl true) (.cons (by exact .bl true) .nil)) fun q2 H2 n2 f2 L2 => ?_
        walk_at "go"
        refine mkL (K := K) (ds := [.bool true, .bool true]) (.cons (by exact .bl true) (.cons (by exact .bl true) .nil)) fun q3 H3 n3 f3 L3 => ?_
        have f13 := f2.trans f3
        refine w_neR (L2.fr0 f3).dp L3.dp (by decide) ?_
        walk_at "go"
        refine w_lenL (f13.seqL sv (by simp)) ?_
        walk_at "go"
        refine w_lenL (f13.seqL su (by simp)) ?_
        walk_at "go"
        rw [lv, lu, decide_eq_true rfl]
        walk_at "go"
        refine w_lenL (f13.seqL su (by simp)) ?_
        walk_at "go"
        rw [lu]
        refine LC_R1 ds.length (by omega) (by omega) (by omega) fun D nD => ⟨fun i H' => Fr [] H3 H' ∧ Lq K H' D ((List.replicate i true).map PyData.bool), ⟨Fr.new nD, [], upd_same, .nil⟩, ?_, ?_⟩
        · rintro i H' hi ⟨f4, L4⟩
          have f14 := f13.trans f4
          obtain ⟨d, hd⟩ : ∃ d, ds[i]? = some d := ⟨_, List.getElem?_eq_getElem hi⟩
          obtain ⟨x, hx, dx⟩ : ∃ x, vs[i]? = some x ∧ Dg K H' x d := by
            have hi' : i < vs.length := by omega
            obtain ⟨d', h1, h2⟩ := (av.fr f14).get (List.getElem?_eq_getElem hi')
            rw [hd] at h1
            cases h1
            exact ⟨_, List.getElem?_eq_getElem hi', h2⟩
          obtain ⟨y, hy, dy⟩ : ∃ x, us[i]? = some x ∧ Dg K H' x d := by
            have hi' : i < us.length := by omega
            obtain ⟨d', h1, h2⟩ := (au.fr f14).get (List.getElem?_eq_getElem hi')
            rw [hd] at h1
            cases h1
            exact ⟨_, List.getElem?_eq_getElem hi', h2⟩
          walk_at "go"
          refine w_ixL (f14.seqL sv (by simp)) (atI_nat hx) ?_
          walk_at "go"
          refine w_ixL (f14.seqL su (by simp)) (atI_nat hy) ?_
          walk_at "go"
          refine ⟨x, y, d, rfl, ⟨hp.2 d (List.mem_of_getElem? hd), by omega⟩, dx, dy, fun H5 f5 => ?_⟩
          obtain ⟨acc, ha, da⟩ := L4.fr0 f5
          refine ⟨acc, ha, Nat.lt_of_le_of_lt (show acc.length ≤ 100000 by rw [da.length, List.length_map, List.length_replicate]; omega) (by decide), Fr.drop1 nD (f4.trans f5) (Fr.mut (by simp)), _, upd_same, ?_⟩
          rw [List.replicate_succ', List.map_append]
          exact (da.append (.cons (.bl true) .nil)).mono (Tu.mut ha)
        · rintro H' ⟨f4, L4⟩
          walk_at "go"
          refine L4.allB ?_
          rw [List.all_eq_true.mpr fun b hb => by rw [(List.mem_replicate.mp hb).2]; rfl]
          exact k H' (f13.trans f4)
      | _ => exact absurd pd.1 (by simp [pl])
end

/-! ### the law's own draws: nothing is known of a number drawn but its bounds -/
/-- a tape: script, count, rest, place; all that stood at first stands -/
def Tape (K : PySem.W.Frag) (H0 H : Hp) (t : Addr) : Prop := (∃ (a : Addr) (ns : List Int) (n d p : Int), H t = some (.lst [.ref a, .int n, .int d, .int p]) ∧ SqL K H0 a (ns.map V.int) ∧ 0 ≤ p) ∧ Fr [] H0 H ∧ H0 t = none
section
variable {K : PySem.W.Frag} {H0 H H' : Hp} {t q : Addr}
theorem Tape.fr (T : Tape K H0 H t) (e : Fr [] H H') : Tape K H0 H' t := by
  obtain ⟨⟨a, ns, n, d, p, h1, h2, h3⟩, h4, h5⟩ := T
  exact ⟨⟨a, ns, n, d, p, e _ _ h1 (by simp), h2, h3⟩, h4.trans e, h5⟩
theorem Tape.new (T : Tape K H0 H t) {o : HO} (h : H q = none) : Tape K H0 (upd H q o) t := T.fr (Fr.new h)
theorem Tape.ne (T : Tape K H0 H t) (h : H q = none) : q ≠ t := by
  rintro rfl
  obtain ⟨⟨_, _, _, _, _, e, _⟩, _⟩ := T
  rw [h] at e
  cases e
theorem Tape.no (T : Tape K H0 H t) (h : H q = none) : H0 q = none := T.2.1.free h
/-- what is new changes -/
theorem Tape.mut (T : Tape K H0 H t) {o : HO} (nq : q ≠ t) (n0 : H0 q = none) : Tape K H0 (upd H q o) t := by
  obtain ⟨⟨a, zs, n, d, p, h1, h2, h4⟩, f, h5⟩ := T
  refine ⟨⟨a, zs, n, d, p, ?_, h2, h4⟩, fun b u e z => ?_, h5⟩
  · rw [upd_ne nq.symm]; exact h1
  · rw [upd_ne (by rintro rfl; rw [n0] at e; cases e)]
    exact f b u e z
theorem Tape.fr1 (T : Tape K H0 H t) (e : Fr [q] H H') (nq : q ≠ t) (n0 : H0 q = none) : Tape K H0 H' t := by
  obtain ⟨⟨a, zs, n, d, p, h1, h2, h4⟩, f, h5⟩ := T
  exact ⟨⟨a, zs, n, d, p, e _ _ h1 (by simpa using nq.symm), h2, h4⟩, Fr.drop1 n0 f e, h5⟩
theorem Tape.free1 (T : Tape K H0 H t) (f : Fr [t] H H') (h : H' q = none) (nq : q ≠ t) : H q = none := by
  cases e : H q with
  | none => rfl
  | some o =>
    have z := f q o e (by simpa using nq)
    rw [h] at z
    cases z
theorem Tape.tu (T : Tape K H0 H t) (f : Fr [t] H H') : Tu H H' := by
  obtain ⟨⟨a, zs, n, d, p, h1, _⟩, _⟩ := T
  exact f.tu1 h1
end
def sp_law_tape (K : PySem.W.Frag) : Sp := fun vs H Q _ => ∃ (a : Addr) (ns : List Int), vs = [.ref a] ∧ SqL K H a (ns.map V.int) ∧ ∀ t H', H t = none → Fr [] H H' → Tape K H H' t → Q (.ref t) H'
def sp_law_draw (K : PySem.W.Frag) : Sp := fun vs H Q _ => ∃ (t : Addr) (m : Int) (H0 : Hp), vs = [.ref t, .int m] ∧ Tape K H0 H t ∧ 0 < m ∧ m < 2 ^ 64 ∧ ∀ r H', 0 ≤ r → r < m → Fr [t] H H' → Tape K H0 H' t → Q (.int r) H'
section
variable {P : Program} {w : World} {K : PySem.W.Frag} {mg : Str → Option Value} {base : Heap}
theorem ok_law_tape (T : Env K mg) : Fx P w K mg base 1 "_law_tape" p_law_tape (sp_law_tape K) := by
  refine T.l_law_tape.ok sc_law_tape (fun vs H Q E h => ?_) (fun f cdv A outer s H vs Q E hr h => ?_)
  · obtain ⟨a, ns, rfl, _⟩ := h
    rfl
  · obtain ⟨a, ns, rfl, hS, k⟩ := h
    refine ⟨_, (pss_one (ps_ret (pe_lst (pa_cons (pv 0) (pa_cons pe_int (pa_cons pe_int (pa_cons pe_int pa_nil))))))), ?_⟩
    walk_at "go"
    refine ⟨by show 4 ≤ sizeLine; decide, fun t ht => ?_⟩
    exact k t _ ht (Fr.new ht) ⟨⟨a, ns, 0, 0, 0, upd_same, hS, Int.le_refl 0⟩, Fr.new ht, ht⟩
theorem ok_law_draw (T : Env K mg) : Fx P w K mg base 1 "_law_draw" p_law_draw (sp_law_draw K) := by
  refine T.l_law_draw.ok sc_law_draw (fun vs H Q E h => ?_) (fun f cdv A outer s H vs Q E hr h => ?_)
  · obtain ⟨t, m, _, rfl, _⟩ := h
    rfl
  · obtain ⟨t, m, H0, rfl, hT, m0, m64, k⟩ := h
    obtain ⟨⟨a, ns, n, d, p, ht, hS0, hp⟩, f0, n0⟩ := hT
    have hS : SqL K H a (ns.map V.int) := f0.seqL hS0 (by simp)
    have keep : ∀ H', Fr [t] H H' → Fr [] H0 H' := fun H' f b o e _ => f b o (f0 b o e (by simp)) (by
      intro z
      rw [List.mem_singleton.mp z, n0] at e
      cases e)
    refine ⟨_, (pss_cons (ps_set (i := 2) sc_law_draw.nd rfl (Or.inl rfl) (pe_ix (ix_U (K := K) rfl) (pv 0) pe_int (fun _ _ => rfl)))
      (pss_cons (ps_asg (pe_op (op_addU (K := K) rfl) (pe_ix (ix_U (K := K) rfl) (pv 0) pe_int (fun _ _ => rfl)) pe_int) (pg_sub (pv 0) pe_int set_list))
      (C8.pss_cut (ps_if (PW.pt (pw_and (pt_cmpR (op_eqU (K := K) rfl (u64 hr)) (pe_ix (ix_U (K := K) rfl) (pv 0) pe_int (fun _ _ => rfl)) pe_int (nomark _)) (pw_and1 (pt_cmpR op_lt (pe_ix (ix_U (K := K) rfl) (pv 0) pe_int (fun _ _ => rfl)) (pe_callB (call_lenU (K := K) rfl) (by rfl) T.m_len (by decide +kernel) (pa_cons (pv 2) pa_nil)) (nomark _))))) (pss_cons (ps_asg (pe_op op_fdivW (pe_callB call_absU (by rfl) T.m_abs (by decide +kernel) (pa_cons (pe_ix (ix_U (K := K) rfl) (pv 2) (pe_ix (ix_U (K := K) rfl) (pv 0) pe_int (fun _ _ => rfl)) (fun _ _ => rfl)) pa_nil)) (pe_op op_pow pe_int pe_int)) (pg_sub (pv 0) pe_int set_list))
      (pss_one (ps_asg (pe_op (op_addU (K := K) rfl) (pe_ix (ix_U (K := K) rfl) (pv 0) pe_int (fun _ _ => rfl)) pe_int) (pg_sub (pv 0) pe_int set_list)))) pss_nil)
      (pss_cons (ps_if (pt_cmpR op_gt (pe_ix (ix_U (K := K) rfl) (pv 0) pe_int (fun _ _ => rfl)) pe_int (nomark _)) (pss_cons (ps_set (i := 3) sc_law_draw.nd rfl (Or.inl rfl) (pe_op op_mod (pe_ix (ix_U (K := K) rfl) (pv 0) pe_int (fun _ _ => rfl)) (pv 1)))
      (pss_cons (ps_asg (pe_op op_fdivW (pe_ix (ix_U (K := K) rfl) (pv 0) pe_int (fun _ _ => rfl)) (pv 1)) (pg_sub (pv 0) pe_int set_list))
      (pss_one (ps_ret (pv 3))))) pss_nil)
      (pss_cons (ps_set (i := 4) sc_law_draw.nd rfl (Or.inl rfl) pe_int)
      (C8.pss_cut (ps_if (pt_cmpR op_gt (pe_callB (call_lenU (K := K) rfl) (by rfl) T.m_len (by decide +kernel) (pa_cons (pv 2) pa_nil)) pe_int (nomark _)) (pss_one (ps_set (i := 4) sc_law_draw.nd rfl (Or.inl rfl) (pe_ix (ix_U (K := K) rfl) (pv 2) (pe_op op_mod (pe_ix (ix_U (K := K) rfl) (pv 0) pe_int (fun _ _ => rfl)) (pe_callB (call_lenU (K := K) rfl) (by rfl) T.m_len (by decide +kernel) (pa_cons (pv 2) pa_nil))) (fun _ _ => rfl)))) pss_nil)
      (pss_cons (ps_set (i := 5) sc_law_draw.nd rfl (Or.inl rfl) (pe_op op_mod (pe_op (op_addU (K := K) rfl) (pe_op (op_addU (K := K) rfl) (pe_op op_mulU (pe_op op_mod (pv 4) pe_int) pe_int) (pe_op op_mulU (pe_ix (ix_U (K := K) rfl) (pv 0) pe_int (fun _ _ => rfl)) pe_int)) pe_int) pe_int))
      (pss_cons (ps_set (i := 5) sc_law_draw.nd rfl (Or.inl rfl) (pe_op op_mod (pe_op op_mulU (pv 5) (pe_op (op_addU (K := K) rfl) (pv 5) pe_int)) pe_int))
      (pss_one (ps_ret (pe_op op_mod (pe_op op_mod (pe_op op_mulU (pv 5) pe_int) pe_int) (pv 1)))))))))))), ?_⟩
    walk_at "go"
    refine w_ixL (SqL.of ht) rfl ?_
    walk_at "go"
    refine w_ixL (SqL.of ht) rfl ?_
    walk_at "go"
    refine w_setL ht rfl ?_
    generalize hH1 : upd H t _ = H1
    have f1 : Fr [t] H H1 := by rw [← hH1]; exact Fr.mut (by simp)
    have t1 : H1 t = some (.lst [.ref a, .int (n + 1), .int d, .int p]) := by rw [← hH1]; exact upd_same
    refine w_cut (fun σ' H' => σ' = [some (.ref t), some (.int m), some (.ref a), none, none, none] ∧ Fr [t] H H' ∧ ∃ d p, H' t = some (.lst [.ref a, .int (n + 1), .int d, .int p]) ∧ 0 ≤ p) ?_ ?_
    · walk_at "go"
      refine w_ixL (SqL.of t1) rfl ?_
      walk_at "go"
      have end0 : ∀ d p, 0 ≤ p → ∀ H', Fr [t] H H' → H' t = some (.lst [.ref a, .int (n + 1), .int d, .int p]) → ([some (.ref t), some (.int m), some (.ref a), none, none, none] : L2.St) = [some (.ref t), some (.int m), some (.ref a), none, none, none] ∧ Fr [t] H H' ∧ ∃ d p, H' t = some (.lst [.ref a, .int (n + 1), .int d, .int p]) ∧ 0 ≤ p :=
        fun d p hp H' f e => ⟨rfl, f, d, p, e, hp⟩
      refine ite_d (fun h0 => ?_) (fun h0 => ?_)
      · walk_at "go"
        refine w_ixL (SqL.of t1) rfl ?_
        walk_at "go"
        have hS1 : SqL K H1 a (ns.map V.int) := (keep _ f1).seqL hS0 (by simp)
        refine w_lenL hS1 ?_
        walk_at "go"
        refine ite_d (fun h1 => ?_) (fun h1 => ?_)
        · rw [List.length_map] at h1
          obtain ⟨z, hz, _⟩ := at_int hp h1
          walk_at "go"
          refine w_ixL (SqL.of t1) rfl ?_
          walk_at "go"
          refine w_ixL hS1 hz ?_
          walk_at "go"
          refine w_rI ⟨by decide, by decide +kernel⟩ ?_
          walk_at "go"
          refine w_setL t1 rfl ?_
          walk_at "go"
          refine w_ixL (SqL.of upd_same) rfl ?_
          walk_at "go"
          refine w_setL upd_same rfl ?_
          refine end0 _ (p + 1) (by omega) _ ?_ upd_same
          exact (f1.trans (Fr.mut (by simp))).trans (Fr.mut (by simp))
        · walk_at "go"
          exact end0 d p hp H1 f1 t1
      · walk_at "go"
        exact end0 d p hp H1 f1 t1
    · rintro σ' H2 ⟨rfl, f2, d, p, t2, hp⟩
      have hS2 : SqL K H2 a (ns.map V.int) := (keep _ f2).seqL hS0 (by simp)
      have fin : ∀ x, Q (.int (x % m)) H2 := fun x => k _ H2 (Int.emod_nonneg _ (by omega)) (Int.emod_lt_of_pos _ m0) f2 ⟨⟨a, ns, n + 1, d, p, t2, hS0, hp⟩, keep _ f2, n0⟩
      walk_at "go"
      refine w_ixL (SqL.of t2) rfl ?_
      walk_at "go"
      refine ite_d (fun h0 => ?_) (fun h0 => ?_)
      · walk_at "go"
        refine w_ixL (SqL.of t2) rfl ?_
        walk_at "go"
        refine w_rI m0 ?_
        walk_at "go"
        refine w_ixL (SqL.of t2) rfl ?_
        walk_at "go"
        refine w_rI (wide_div m0 (b := 64) (by omega) (by decide) (by decide)) ?_
        walk_at "go"
        refine w_setL t2 rfl ?_
        walk_at "go"
        have f3 : Fr [t] H (upd H2 t (.lst [.ref a, .int (n + 1), .int (d / m), .int p])) := f2.trans (Fr.mut (by simp))
        exact k _ _ (Int.emod_nonneg _ (by omega)) (Int.emod_lt_of_pos _ m0) f3 ⟨⟨a, ns, n + 1, d / m, p, upd_same, hS0, hp⟩, keep _ f3, n0⟩
      · walk_at "go"
        refine w_cut (fun σ' H' => H' = H2 ∧ ∃ z, σ' = [some (.ref t), some (.int m), some (.ref a), none, some (.int z), none]) ?_ ?_
        · walk_at "go"
          refine w_lenL hS2 ?_
          walk_at "go"
          refine ite_d (fun h1 => ?_) (fun h1 => ?_)
          · rw [List.length_map] at h1
            walk_at "go"
            refine w_ixL (SqL.of t2) rfl ?_
            walk_at "go"
            refine w_lenL hS2 ?_
            rw [List.length_map]
            refine w_rI h1 ?_
            obtain ⟨z, hz, _⟩ := at_int (ns := ns) (p := (n + 1) % (ns.length : Int)) (Int.emod_nonneg _ (by omega)) (Int.emod_lt_of_pos _ h1)
            refine w_ixL hS2 hz ?_
            walk_at "go"
            exact ⟨rfl, z, rfl⟩
          · walk_at "go"
            exact ⟨rfl, 0, rfl⟩
        · rintro σ' H' ⟨rfl, z, rfl⟩
          walk_at "go"
          refine w_rI (by show (0 : Int) < 2147483647; decide) ?_
          refine w_mulI (.inr (by decide)) ?_
          walk_at "go"
          refine w_ixL (SqL.of t2) rfl ?_
          walk_at "go"
          refine w_mulI (.inr (by decide)) ?_
          walk_at "go"
          refine w_rI (by show (0 : Int) < 2147483629; decide) ?_
          walk_at "go"
          have b1 : ∀ y : Int, 0 ≤ y % 2147483629 ∧ y % 2147483629 < 2147483629 := fun y => ⟨Int.emod_nonneg _ (by decide), Int.emod_lt_of_pos _ (by decide)⟩
          generalize he : (_ : Int) % 2147483629 = e
          have b2 : 0 ≤ e ∧ e < 2147483629 := by rw [← he]; exact b1 _
          refine w_mulI (.inl (by constructor <;> omega)) ?_
          walk_at "go"
          refine w_rI (by show (0 : Int) < 2147483587; decide) ?_
          walk_at "go"
          refine w_mulI (.inr (by decide)) ?_
          walk_at "go"
          refine w_rI (by show (0 : Int) < 2147483563; decide) ?_
          walk_at "go"
          refine w_rI m0 ?_
          exact fin _
end

/-! ### comprehensions that draw -/
section
variable {K : PySem.W.Frag} {H0 H : Hp} {t : Addr}
theorem LC_tape {m : Int} {j : Nat} {ws : List Nat} {σ : L2.St} {te : TE} {Q : VK} (n : Nat) (P : PyData → Prop) (T : Tape K H0 H t) (hn : m.toNat = n) (h1 : -(2 ^ 62) ≤ m) (h2 : m < 2 ^ 62) (ln : n ≤ 100000)
    (hw : ∀ v, wipe ((wipe σ ws).set j (some v)) ws = wipe σ ws)
    (he : ∀ (i : Nat) H', i < n → Tape K H0 H' t → Fr [t] H H' → ∀ Q : VK, (∀ y d H2, Fr [t] H' H2 → Tape K H0 H2 t → Dt K H2 y d → P d → Q y H2) → te ((wipe σ ws).set j (some (.int i))) H' Q)
    (k : ∀ D H' ds, H D = none → Fr [t] H H' → Tape K H0 H' t → Lq K H' D ds → ds.length = n → (∀ d ∈ ds, P d) → Q (.ref D) H') :
    ∃ j' : Int, [V.int m] = [.int j'] ∧ -(2 ^ 62) ≤ j' ∧ j' < 2 ^ 62 ∧ ∀ D, H D = none → LC (Itr 0 j'.toNat) (gName j) tYes te ws σ D Q (upd H D (.lst [])) := by
  refine LC_R1 n hn h1 h2 fun D hD => ⟨fun i H' => Fr [t] H H' ∧ Tape K H0 H' t ∧ ∃ ds, Lq K H' D ds ∧ ds.length = i ∧ ∀ d ∈ ds, P d, ⟨Fr.new hD, T.new hD, [], ⟨[], upd_same, .nil⟩, rfl, by simp⟩, ?_, ?_⟩
  · rintro i H' hi ⟨f', T', ds, L, ld, pd⟩
    refine ⟨hw _, ?_⟩
    refine w_yes (iteT ?_)
    have nD := T.ne hD
    refine he i H' hi T' f' _ fun y d H2 f2 T2 dy py => ?_
    have L2' := L.fr f2 (by simpa using nD) (T'.tu f2)
    obtain ⟨ys, hys, dys⟩ := L2'
    refine ⟨ys, hys, Nat.lt_of_le_of_lt (show ys.length ≤ 100000 by rw [dys.length]; omega) (by decide), Fr.drop1 hD (f'.trans f2) (Fr.mut (by simp)), T2.mut nD (T.no hD), ds ++ [d], ⟨_, upd_same, (dys.append (.cons dy .nil)).mono (Tu.mut hys)⟩, by simp [ld], ?_⟩
    intro z hz
    rcases List.mem_append.mp hz with a | a
    · exact pd z a
    · rw [List.mem_singleton.mp a]; exact py
  · rintro H' ⟨f', T', ds, L, ld, pd⟩
    exact k D H' ds hD f' T' L ld pd
theorem _root_.U.Fr.free1' {H H' : Hp} {t a : Addr} (f : Fr [t] H H') (h : H' a = none) (n : a ≠ t) : H a = none := by
  cases e : H a with
  | none => rfl
  | some o =>
    have z := f a o e (by simpa using n)
    rw [h] at z
    cases z
end

def Good (n : Nat) (d : PyData) : Prop := d.canLay0 = true ∧ d.depth ≤ n
/-! ### logs of works, as data -/
def spD (s : Option Int × Int) : PyData := .tuple [(match s.1 with | some k => .int k | none => .none), .int s.2]
structure Wkey where
  path : List (Option Int × Int)
  part : Str
  name : Str
  deriving DecidableEq
def Wkey.ds (k : Wkey) : List PyData := [.tuple (k.path.map spD), .str k.part, .str k.name]
def Wkey.d (k : Wkey) : PyData := .tuple k.ds
def Wkey.ok (k : Wkey) : Prop := PyData.strOk k.part = true ∧ PyData.strOk k.name = true ∧ k.path.length ≤ 1000
theorem kd_sp : ∀ p : List (Option Int × Int), kdAll (p.map spD) = true
  | [] => rfl
  | (none, n) :: r => by
    rw [List.map_cons, kdAll, kd_sp r]
    rfl
  | (some k, n) :: r => by
    rw [List.map_cons, kdAll, kd_sp r]
    rfl
theorem dp_sp : ∀ p : List (Option Int × Int), PyData.depthAll (p.map spD) ≤ 1
  | [] => by simp [PyData.depthAll]
  | (none, n) :: r => by
    have := dp_sp r
    simp only [List.map_cons, PyData.depthAll, spD, PyData.depth]
    omega
  | (some k, n) :: r => by
    have := dp_sp r
    simp only [List.map_cons, PyData.depthAll, spD, PyData.depth]
    omega
theorem lay_sp : ∀ p : List (Option Int × Int), PyData.canLayAll0 (p.map spD) = true
  | [] => rfl
  | (none, n) :: r => by
    simp only [List.map_cons, PyData.canLayAll0, spD, PyData.canLay0, lay_sp r]
    rfl
  | (some k, n) :: r => by
    simp only [List.map_cons, PyData.canLayAll0, spD, PyData.canLay0, lay_sp r]
    rfl
theorem spD_inj {a b : Option Int × Int} (h : spD a = spD b) : a = b := by
  obtain ⟨a1, a2⟩ := a
  obtain ⟨b1, b2⟩ := b
  cases a1 <;> cases b1 <;> simp [spD] at h ⊢ <;> exact h
theorem spDs_inj : ∀ {a b : List (Option Int × Int)}, a.map spD = b.map spD → a = b
  | [], [], _ => rfl
  | [], _ :: _, h => by simp at h
  | _ :: _, [], h => by simp at h
  | x :: xs, y :: ys, h => by
    rw [List.map_cons, List.map_cons, List.cons.injEq] at h
    rw [spD_inj h.1, spDs_inj h.2]
theorem kdW : KeyD Wkey.d where
  kd k := by
    show kdAll k.ds = true
    unfold Wkey.ds
    simp only [kdAll, kd, kd_sp]
    rfl
  dp k := by
    have := dp_sp k.path
    unfold Wkey.d Wkey.ds
    simp only [PyData.depth, PyData.depthAll]
    omega
  inj a b h := by
    obtain ⟨p, x, y⟩ := a
    obtain ⟨q, z, w⟩ := b
    simp only [Wkey.d, Wkey.ds, PyData.tuple.injEq, List.cons.injEq, PyData.str.injEq, and_true] at h
    obtain ⟨h1, rfl, rfl⟩ := h
    rw [spDs_inj h1]
/-- a work that stands -/
def stD (s : Wkey × Int) : PyData := .tuple (s.1.ds ++ [.int s.2])
structure LRow where
  on : Bool
  k : Wkey
  n : Int
def LRow.word (r : LRow) : Str := if r.on then "do" else "undo"
def LRow.d (r : LRow) : PyData := .tuple [.str r.word, .tuple (r.k.path.map spD), .str r.k.part, .str r.k.name, .int r.n]
def stepL (now : List (Wkey × Int)) (r : LRow) : Option (List (Wkey × Int)) :=
  match now.find? (fun s => decide (s.1 = r.k)), r.on with
  | none, true => some (now ++ [(r.k, r.n)])
  | some s, false => if s.2 = r.n then some (now.filter fun s => decide (s.1 ≠ r.k)) else none
  | _, _ => none
def playL (rs : List LRow) : Option (List (Wkey × Int)) := rs.foldl (fun o r => o.bind fun now => stepL now r) (some [])
theorem playL_take {rs : List LRow} {i : Nat} {r : LRow} (h : rs[i]? = some r) : playL (rs.take (i + 1)) = (playL (rs.take i)).bind fun now => stepL now r := take_fold h
theorem play_none : ∀ rs : List LRow, rs.foldl (fun o r => o.bind fun now => stepL now r) none = none
  | [] => rfl
  | r :: t => play_none t
theorem playL_none {rs : List LRow} {i : Nat} (h : playL (rs.take i) = none) : playL rs = none := by
  rw [← List.take_append_drop i rs]
  unfold playL at *
  rw [List.foldl_append, h, play_none]
theorem playL_snoc (rs : List LRow) (r : LRow) : playL (rs ++ [r]) = (playL rs).bind fun now => stepL now r := by
  unfold playL
  rw [List.foldl_append]
  rfl
/-- no work stands twice -/
def Once (now : List (Wkey × Int)) : Prop := (now.map (·.1)).Nodup
theorem find_none {now : List (Wkey × Int)} {k : Wkey} (h : now.find? (fun s => decide (s.1 = k)) = none) : ∀ s ∈ now, s.1 ≠ k := fun s hs e => by
  have := List.find?_eq_none.mp h s hs
  simp [e] at this
theorem find_some {now : List (Wkey × Int)} {k : Wkey} {s : Wkey × Int} (h : now.find? (fun s => decide (s.1 = k)) = some s) : s ∈ now ∧ s.1 = k :=
  ⟨List.mem_of_find?_eq_some h, by simpa using List.find?_some h⟩
theorem step_once {now now' : List (Wkey × Int)} {r : LRow} (o : Once now) (h : stepL now r = some now') : Once now' ∧ now'.length ≤ now.length + 1 := by
  unfold stepL at h
  cases e : now.find? (fun s => decide (s.1 = r.k)) with
  | none =>
    rw [e] at h
    cases hr : r.on with
    | false => rw [hr] at h; cases h
    | true =>
      rw [hr] at h
      cases h
      refine ⟨?_, by simp⟩
      unfold Once
      rw [List.map_append, List.nodup_append]
      refine ⟨o, by simp, ?_⟩
      intro x hx y hy
      obtain ⟨s, hs, rfl⟩ := List.mem_map.mp hx
      simp at hy
      rw [hy]
      exact find_none e s hs
  | some s =>
    rw [e] at h
    cases hr : r.on with
    | true => rw [hr] at h; cases h
    | false =>
      rw [hr] at h
      simp only at h
      split at h
      · cases h
        refine ⟨?_, Nat.le_trans (List.length_filter_le _ _) (by omega)⟩
        exact List.Sublist.nodup (List.Sublist.map _ List.filter_sublist) o
      · cases h
theorem play_once : ∀ {rs : List LRow} {now : List (Wkey × Int)}, playL rs = some now → Once now ∧ now.length ≤ rs.length := by
  intro rs
  induction h : rs.length generalizing rs with
  | zero =>
    intro now e
    rw [List.length_eq_zero_iff.mp h] at e
    cases e
    exact ⟨List.Pairwise.nil, by simp⟩
  | succ n ih =>
    intro now e
    obtain ⟨t, r, rfl⟩ : ∃ t r, rs = t ++ [r] := by
      refine ⟨rs.dropLast, rs.getLast (by rintro rfl; simp at h), (List.dropLast_concat_getLast _).symm⟩
    rw [playL_snoc] at e
    cases e1 : playL t with
    | none => rw [e1] at e; cases e
    | some now1 =>
      rw [e1] at e
      obtain ⟨o, l⟩ := ih (by simpa using h) e1
      obtain ⟨o2, l2⟩ := step_once o e
      refine ⟨o2, ?_⟩
      simp at h
      omega
/-- what stands, as a dict's entries -/
def kvsOf (now : List (Wkey × Int)) : List (Wkey × V) := now.map fun s => (s.1, .int s.2)
theorem at_now (k : Wkey) : ∀ now : List (Wkey × Int), atN (kvsOf now) k = (now.find? fun s => decide (s.1 = k)).map fun s => V.int s.2
  | [] => rfl
  | s :: r => by
    have ih := at_now k r
    unfold atN kvsOf at *
    rw [List.map_cons, List.find?_cons, List.find?_cons]
    by_cases h : s.1 = k
    · rw [decide_eq_true h]
      rfl
    · rw [decide_eq_false h]
      exact ih
theorem put_now {now : List (Wkey × Int)} {k : Wkey} {n : Int} (h : now.find? (fun s => decide (s.1 = k)) = none) : putN (kvsOf now) k (.int n) = kvsOf (now ++ [(k, n)]) := by
  unfold putN
  rw [at_now, h]
  unfold kvsOf
  rw [List.map_append]
  rfl
theorem drop_now {now : List (Wkey × Int)} {k : Wkey} : dropN (kvsOf now) k = kvsOf (now.filter fun s => decide (s.1 ≠ k)) := by
  unfold dropN kvsOf
  rw [List.filter_map]
  rfl

theorem play_ok {P : Wkey → Prop} : ∀ {rs : List LRow} {now : List (Wkey × Int)}, (∀ r ∈ rs, P r.k) → playL rs = some now → ∀ s ∈ now, P s.1 := by
  intro rs
  induction h : rs.length generalizing rs with
  | zero =>
    intro now _ e
    rw [List.length_eq_zero_iff.mp h] at e
    cases e
    intro s hs
    simp at hs
  | succ n ih =>
    intro now hr e
    obtain ⟨t, r, rfl⟩ : ∃ t r, rs = t ++ [r] := by
      refine ⟨rs.dropLast, rs.getLast (by rintro rfl; simp at h), (List.dropLast_concat_getLast _).symm⟩
    rw [playL_snoc] at e
    cases e1 : playL t with
    | none => rw [e1] at e; cases e
    | some now1 =>
      rw [e1] at e
      have o := ih (by simpa using h) (fun r hr' => hr r (by simp [hr'])) e1
      have e : stepL now1 r = some now := e
      unfold stepL at e
      cases ef : now1.find? (fun s => decide (s.1 = r.k)) with
      | none =>
        rw [ef] at e
        cases hon : r.on with
        | false => rw [hon] at e; cases e
        | true =>
          rw [hon] at e
          cases e
          intro s hs
          rcases List.mem_append.mp hs with hs | hs
          · exact o s hs
          · rw [List.mem_singleton.mp hs]
            exact hr r (by simp)
      | some s0 =>
        rw [ef] at e
        cases hon : r.on with
        | true => rw [hon] at e; cases e
        | false =>
          rw [hon] at e
          simp only at e
          split at e
          · cases e
            intro s hs
            exact o s (List.mem_filter.mp hs).1
          · cases e
theorem playL_some {rs : List LRow} {now : List (Wkey × Int)} (h : playL rs = some now) (i : Nat) : ∃ now', playL (rs.take i) = some now' := by
  cases e : playL (rs.take i) with
  | some n => exact ⟨n, rfl⟩
  | none => rw [playL_none e] at h; cases h
theorem same_none {now : List (Wkey × Int)} {k : Wkey} (h : now.find? (fun s => decide (s.1 = k)) = none) : now.filter (fun s => decide (s.1 = k)) = [] := by
  rw [List.filter_eq_nil_iff]
  intro s hs
  simpa using find_none h s hs
theorem same_some {k : Wkey} {s : Wkey × Int} : ∀ {now : List (Wkey × Int)}, Once now → now.find? (fun s => decide (s.1 = k)) = some s → now.filter (fun s => decide (s.1 = k)) = [s]
  | [], _, h => by simp at h
  | x :: r, o, h => by
    unfold Once at o
    rw [List.map_cons, List.nodup_cons] at o
    rw [List.find?_cons] at h
    by_cases e : x.1 = k
    · rw [decide_eq_true e] at h
      cases h
      rw [List.filter_cons, if_pos (by simpa using e)]
      congr 1
      rw [List.filter_eq_nil_iff]
      intro z hz
      simp only [decide_eq_true_eq]
      intro e2
      exact o.1 (List.mem_map.mpr ⟨z, hz, e2.trans e.symm⟩)
    · rw [decide_eq_false e] at h
      rw [List.filter_cons, if_neg (by simpa using e)]
      exact same_some o.2 h
/-- who stands under k is s -/
theorem once_eq {now : List (Wkey × Int)} {s z : Wkey × Int} (o : Once now) (hs : s ∈ now) (hz : z ∈ now) (e : z.1 = s.1) : z = s := by
  induction now with
  | nil => simp at hs
  | cons x r ih =>
    unfold Once at o
    rw [List.map_cons, List.nodup_cons] at o
    rcases List.mem_cons.mp hs with rfl | hs
    · rcases List.mem_cons.mp hz with rfl | hz
      · rfl
      · exact absurd (List.mem_map.mpr ⟨z, hz, e⟩) o.1
    · rcases List.mem_cons.mp hz with rfl | hz
      · have m : z.1 ∈ r.map (·.1) := List.mem_map.mpr ⟨s, by assumption, e.symm⟩
        exact absurd m o.1
      · exact ih o.2 hs hz
mutual
theorem eqv_inj : ∀ a b : PyData, kd a = true → kd b = true → PyData.eqv a b = true → a = b
  | .none, b, _, hb, h => by cases b <;> simp [PyData.eqv, kd] at h hb ⊢
  | .int i, b, _, hb, h => by cases b <;> simp [PyData.eqv, kd] at h hb ⊢; exact h
  | .str x, b, _, hb, h => by cases b <;> simp [PyData.eqv, kd] at h hb ⊢; exact h
  | .tuple ds, b, ha, hb, h => by
    cases b <;> simp [PyData.eqv, kd] at h hb ha ⊢
    exact eqvAll_inj ds _ ha hb h
theorem eqvAll_inj : ∀ a b : List PyData, kdAll a = true → kdAll b = true → PyData.eqvAll a b = true → a = b
  | [], b, _, _, h => by cases b <;> simp [PyData.eqvAll] at h ⊢
  | d :: r, b, ha, hb, h => by
    cases b with
    | nil => simp [PyData.eqvAll] at h
    | cons e t =>
      simp only [kdAll, Bool.and_eq_true] at ha hb
      simp only [PyData.eqvAll, Bool.and_eq_true] at h
      rw [eqv_inj d e ha.1 hb.1 h.1, eqvAll_inj r t ha.2 hb.2 h.2]
end
theorem Wkey.good {k : Wkey} (o : k.ok) : Good 3 k.d := by
  have h1 := lay_sp k.path
  have h2 := dp_sp k.path
  constructor
  · show ((PyData.canLayAll0 (k.path.map spD)) && (PyData.strOk k.part && (PyData.strOk k.name && true))) = true
    rw [h1, o.1, o.2.1]
    rfl
  · show max (PyData.depthAll (k.path.map spD) + 1) (max 0 (max 0 0)) + 1 ≤ 3
    omega
theorem stD_good {s : Wkey × Int} (o : s.1.ok) : Good 3 (stD s) := by
  have h1 := lay_sp s.1.path
  have h2 := dp_sp s.1.path
  constructor
  · show ((PyData.canLayAll0 (s.1.path.map spD)) && (PyData.strOk s.1.part && (PyData.strOk s.1.name && (true && true)))) = true
    rw [h1, o.1, o.2.1]
    rfl
  · show max (PyData.depthAll (s.1.path.map spD) + 1) (max 0 (max 0 (max 0 0))) + 1 ≤ 3
    omega
theorem good_shaped {n : Nat} {d : PyData} (h : Good n d) (hn : n ≤ 64) : SeqAt.shaped d = true := lay_shaped ⟨h.1, Nat.le_trans h.2 hn⟩
theorem eqv_key {a b : Wkey} (ha : a.ok) : PyData.eqv a.d b.d = decide (a = b) := by
  by_cases h : a = b
  · subst h
    rw [decide_eq_true rfl]
    exact shaped_refl (good_shaped (Wkey.good ha) (by decide))
  · rw [decide_eq_false h]
    cases e : PyData.eqv a.d b.d with
    | false => rfl
    | true => exact absurd (kdW.inj _ _ (eqv_inj _ _ (kdW.kd a) (kdW.kd b) e)) h
theorem kd_st (s : Wkey × Int) : kd (stD s) = true := by
  show kdAll [.tuple (s.1.path.map spD), .str s.1.part, .str s.1.name, .int s.2] = true
  simp only [kdAll, kd, kd_sp]
  rfl
theorem stD_inj {a b : Wkey × Int} (h : stD a = stD b) : a = b := by
  obtain ⟨⟨p, x, y⟩, m⟩ := a
  obtain ⟨⟨q, z, w⟩, n⟩ := b
  simp only [stD, Wkey.ds, List.cons_append, List.nil_append, PyData.tuple.injEq, List.cons.injEq, PyData.str.injEq, PyData.int.injEq, and_true] at h
  obtain ⟨h1, rfl, rfl, rfl⟩ := h
  rw [spDs_inj h1]
theorem eqv_st {a b : Wkey × Int} (ha : a.1.ok) : PyData.eqv (stD a) (stD b) = decide (a = b) := by
  by_cases h : a = b
  · subst h
    rw [decide_eq_true rfl]
    exact shaped_refl (good_shaped (stD_good ha) (by decide))
  · rw [decide_eq_false h]
    cases e : PyData.eqv (stD a) (stD b) with
    | false => rfl
    | true => exact absurd (stD_inj (eqv_inj _ _ (kd_st a) (kd_st b) e)) h

section
variable {P : Program} {w : World} {K : PySem.W.Frag} {mg : Str → Option Value} {base : Heap}
theorem row_parts {H : Hp} {v : V} {r : LRow} (h : Dt K H v r.d) : ∃ (a : Addr) (pv : V), v = .ref a ∧ SqT K H a [.str r.word, pv, .str r.k.part, .str r.k.name, .int r.n] ∧ Dt K H pv (.tuple (r.k.path.map spD)) := by
  obtain ⟨a, us, rfl, s, av⟩ := h.tuple
  cases av with
  | cons d1 av =>
  cases av with
  | cons d2 av =>
  cases av with
  | cons d3 av =>
  cases av with
  | cons d4 av =>
  cases av with
  | cons d5 av =>
  cases av
  cases d1; cases d3; cases d4; cases d5
  exact ⟨a, _, rfl, s, d2⟩
def sp_stands_behind (P : Program) (w : World) (K : PySem.W.Frag) : Sp := fun vs H Q _ => ∃ (l : Addr) (rows : List LRow), vs = [.ref l] ∧ Lq K H l (rows.map LRow.d) ∧ rows.length ≤ 1000 ∧ (playL rows = none → ∀ H', Fr [] H H' → Q .non H') ∧
  ∀ now, playL rows = some now → ∀ d H', H d = none → Fr [] H H' → DN P w K Wkey.d H' d (kvsOf now) → Q (.ref d) H'
theorem ok_stands_behind (T : Env K mg) : Fx P w K mg base 1 "stands_behind" p_stands_behind (sp_stands_behind P w K) := by
  refine T.l_stands_behind.ok sc_stands_behind (fun vs H Q E h => ?_) (fun f cdv A outer s H vs Q E hr h => ?_)
  · obtain ⟨l, rows, rfl, _⟩ := h
    rfl
  · obtain ⟨l, rows, rfl, L, lr, kn, ks⟩ := h
    refine ⟨_, (pss_cons (ps_set (i := 1) sc_stands_behind.nd rfl (Or.inl rfl) pe_dnewK)
      (pss_cons (ps_for PassesOwn.never rfl (pi_listU (K := K) rfl (pv 0)) (pg_tupU (K := K) (n := 5) rfl rfl (pgs_cons (pg_name (i := 2) sc_stands_behind.nd rfl (Or.inl rfl)) (pgs_cons (pg_name (i := 3) sc_stands_behind.nd rfl (Or.inl rfl)) (pgs_cons (pg_name (i := 4) sc_stands_behind.nd rfl (Or.inl rfl)) (pgs_cons (pg_name (i := 5) sc_stands_behind.nd rfl (Or.inl rfl)) (pgs_cons (pg_name (i := 6) sc_stands_behind.nd rfl (Or.inl rfl)) pgs_nil)))))) (pss_cons (ps_set (i := 7) sc_stands_behind.nd rfl (Or.inl rfl) (pe_tup (pa_cons (pv 3) (pa_cons (pv 4) (pa_cons (pv 5) pa_nil)))))
      (pss_one (ps_if (pt_cmpR (op_eqU (K := K) rfl (u64 hr)) (pv 2) pe_str (nomark _)) (pss_cons (ps_if (pt_cmpR (op_inNU (P := P) (w := w) (K := K) kdW rfl rfl rfl (u65 hr)) (pv 7) (pv 1) (by rfl)) (pss_one (ps_ret pe_non)) pss_nil)
      (pss_one (ps_asg (pv 6) (pg_sub (pv 1) (pv 7) (set_NU (P := P) (w := w) (K := K) kdW rfl rfl rfl (u65 hr)))))) (pss_cons (ps_if (PW.pt (pw_or (pt_cmpR (op_ninNU (P := P) (w := w) (K := K) kdW rfl rfl rfl (u65 hr)) (pv 7) (pv 1) (by rfl)) (pw_or1 (pt_cmpR (op_neU (K := K) rfl (u64 hr)) (pe_ix (ix_NU (P := P) (w := w) (K := K) kdW rfl rfl rfl (u65 hr)) (pv 1) (pv 7) (fun _ _ => rfl)) (pv 6) (nomark _))))) (pss_one (ps_ret pe_non)) pss_nil)
      (pss_one (ps_expr (pe_mG (ty_NU (P := P) (w := w) (K := K) kdW rfl rfl rfl) PySem.F.plainAttrs_dict PySem.F.slot_dict_pop PySem.F.type_dict_pop (mt_popNU (P := P) (w := w) (K := K) kdW rfl rfl rfl (u65 hr)) (pv 1) (pa_cons (pv 7) pa_nil)))))))))
      (pss_one (ps_ret (pv 1))))), ?_⟩
    walk_at "go"
    refine mkD fun d H1 n1 f1 e1 => ?_
    have nl : l ≠ d := by
      obtain ⟨_, e, _⟩ := L
      rintro rfl
      rw [n1] at e
      cases e
    walk_at "go"
    refine (L.fr0 f1).walk (fun i σ H' => Fr [] H H' ∧ Lq K H' l (rows.map LRow.d) ∧ ∃ (now : List (Wkey × Int)) (v2 v3 v4 v5 v6 v7 : Option V), σ = [some (.ref l), some (.ref d), v2, v3, v4, v5, v6, v7] ∧ playL (rows.take i) = some now ∧ DN P w K Wkey.d H' d (kvsOf now)) ?_ ?_ ?_ ?_
    · exact ⟨f1, L.fr0 f1, [], _, _, _, _, _, _, rfl, rfl, .inl ⟨rfl, e1⟩⟩
    · rintro i σ H' ⟨_, z, _⟩
      exact z
    · rintro i v dd σ H2 hi dv ⟨f2, L2', now, v2, v3, v4, v5, v6, v7, rfl, pn, dn⟩
      obtain ⟨r, hr', rfl⟩ := map_get hi
      obtain ⟨a, pv', rfl, sa, dp⟩ := row_parts dv
      obtain ⟨on, ln⟩ := play_once pn
      have ln' : (kvsOf now).length ≤ 100000 := by
        unfold kvsOf
        rw [List.length_map]
        rw [List.length_take] at ln
        omega
      have stp := playL_take hr'
      rw [pn] at stp
      replace stp : playL (rows.take (i + 1)) = stepL now r := stp
      refine w_gtup sa rfl ?_
      walk_at "go"
      refine mkT (K := K) (.cons dp (.cons (.str _) (.cons (.str _) .nil))) fun p3 H3 n3 f3 d3 => ?_
      have f23 := f2.trans f3
      have dn3 := dn.fr0 f3
      have L3 := L2'.fr0 f3
      have d3 : Dt K H3 (.ref p3) (Wkey.d r.k) := d3
      walk_at "go"
      refine ite_d (fun hw => ?_) (fun hw => ?_)
      · have ron : r.on = true := by
          cases h : r.on with
          | true => rfl
          | false => unfold LRow.word at hw; rw [h] at hw; exact absurd hw (by decide)
        walk_at "go"
        refine w_inN dn3 d3 ?_
        rw [at_now, Option.isSome_map]
        walk_at "go"
        cases hf : now.find? (fun s => decide (s.1 = r.k)) with
        | some s =>
          walk_at "go"
          refine kn ?_ H3 f23
          refine playL_none (i := i + 1) ?_
          rw [stp]
          unfold stepL
          rw [hf, ron]
        | none =>
          refine iteF ?_
          walk_at "go"
          refine w_setN dn3 d3 ln' fun H4 f4 t4 dn4 => ?_
          walk_at "go"
          refine ⟨Fr.drop1 n1 f23 f4, L3.fr f4 (by simpa using nl) t4, now ++ [(r.k, r.n)], _, _, _, _, _, _, rfl, ?_, ?_⟩
          · rw [stp]
            unfold stepL
            rw [hf, ron]
          · rw [← put_now hf]
            exact dn4
      · have ron : r.on = false := by
          cases h : r.on with
          | false => rfl
          | true => unfold LRow.word at hw; rw [h] at hw; exact absurd rfl hw
        walk_at "go"
        refine w_ninN dn3 d3 ?_
        rw [at_now, Option.isSome_map]
        walk_at "go"
        cases hf : now.find? (fun s => decide (s.1 = r.k)) with
        | none =>
          refine iteNF ?_
          walk_at "go"
          refine kn ?_ H3 f23
          refine playL_none (i := i + 1) ?_
          rw [stp]
          unfold stepL
          rw [hf, ron]
        | some s =>
          refine iteNT ?_
          walk_at "go"
          have ha : atN (kvsOf now) r.k = some (.int s.2) := by rw [at_now, hf]; rfl
          refine w_ixN dn3 d3 ha ?_
          walk_at "go"
          refine ite_nd (fun hn => ?_) (fun hn => ?_)
          · walk_at "go"
            refine kn ?_ H3 f23
            refine playL_none (i := i + 1) ?_
            rw [stp]
            unfold stepL
            rw [hf, ron]
            exact if_neg hn
          · walk_at "go"
            refine ⟨dn3.dict, ?_⟩
            walk_at "go"
            refine w_popN dn3 d3 ln' ha fun H4 f4 t4 dn4 => ?_
            refine ⟨Fr.drop1 n1 f23 f4, L3.fr f4 (by simpa using nl) t4, now.filter (fun s => decide (s.1 ≠ r.k)), _, _, _, _, _, _, rfl, ?_, ?_⟩
            · rw [stp]
              unfold stepL
              rw [hf, ron]
              exact if_pos hn
            · rw [← drop_now]
              exact dn4
    · rintro σ H2 ⟨f2, L2', now, v2, v3, v4, v5, v6, v7, rfl, pn, dn⟩
      rw [List.length_map, List.take_length] at pn
      walk_at "go"
      exact ks now pn d H2 n1 f2 dn
def gK (kv : Wkey × V) : PyData := match kv.2 with
  | .int n => .tuple (kv.1.ds ++ [.int n])
  | _ => .none
def sp_standing (K : PySem.W.Frag) : Sp := fun vs H Q _ => ∃ (l : Addr) (rows : List LRow) (now : List (Wkey × Int)), vs = [.ref l] ∧ Lq K H l (rows.map LRow.d) ∧ rows.length ≤ 1000 ∧ playL rows = some now ∧
  ∀ q H', H q = none → Fr [] H H' → Lq K H' q (now.map stD) → Q (.ref q) H'
theorem ok_standing (T : Env K mg) : Fx P w K mg base 2 "standing" p_standing (sp_standing K) := by
  refine T.l_standing.ok sc_standing (fun vs H Q E h => ?_) (fun f cdv A outer s H vs Q E hr h => ?_)
  · obtain ⟨l, rows, _, rfl, _⟩ := h
    rfl
  · obtain ⟨l, rows, now, rfl, L, lr, pn, k⟩ := h
    refine ⟨_, (pss_one (ps_ret (pe_lc (own := [("key", 1), ("number", 2)]) (g := (gTup K 2 (gCons (gName 1) (gCons (gName 2) gNil)))) (tt := tYes) rfl sc_standing.nd (pi_itemsN (P := P) (w := w) (K := K) kdW rfl rfl rfl (pe_fx (ok_stands_behind T) hr (by decide) (pa_cons (pv 0) pa_nil))) (blkOk_by (N := N_standing) (sc := defScope s_standing) (by decide +kernel)) (fun _ _ _ _ _ => (pg_tupU (K := K) (n := 2) rfl rfl (pgs_cons (pg_name (i := 1) sc_standing.nd rfl (Or.inl rfl)) (pgs_cons (pg_name (i := 2) sc_standing.nd rfl (Or.inl rfl)) pgs_nil)))) (fun _ _ _ _ _ => pts_nil) (fun _ _ _ _ _ => (pe_op (op_addU (K := K) rfl) (pv 1) (pe_tup (pa_cons (pv 2) pa_nil))))))), ?_⟩
    walk_at "go"
    refine ⟨l, rows, rfl, L, lr, (fun h => by rw [pn] at h; cases h), fun now' pn' d H1 n1 f1 dn => ?_⟩
    rw [pn] at pn'
    cases pn'
    have ln : (kvsOf now).length ≤ 100000 := by
      have := (play_once pn).2
      unfold kvsOf
      rw [List.length_map]
      omega
    refine ITEMS.of dn fun H2 o ks f2 t2 hd hk => fun D nD => ?_
    refine LC_N (K := K) (fun _ => true) gK hd hk ln nD (fun kv b T' H3 KEEP DROP hkv f3 sT db keep _ => ?_) fun q H3 n3 f3 L3 => ?_
    · unfold kvsOf at hkv
      obtain ⟨s, hs, rfl⟩ := List.mem_map.mp hkv
      refine w_gtup sT rfl ?_
      walk_at "go"
      refine mkT (K := K) (.cons (.int _) .nil) fun p4 H4 n4 f4 d4 => ?_
      walk_at "go"
      refine (db.mono f4.tu).cat d4 (by show s.1.ds.length + 1 ≤ 1000; exact Nat.le_of_ble_eq_true rfl) fun p5 H5 f5 d5 => ?_
      exact keep rfl _ _ (f4.trans f5) d5
    · have f02 : Fr [] H H2 := Fr.drop1 n1 f1 f2
      refine k q H3 (f02.free n3) (f02.trans f3) ?_
      rw [List.filter_eq_self.mpr (fun _ _ => rfl)] at L3
      unfold kvsOf at L3
      rw [List.map_map] at L3
      exact L3
end


section
variable {P : Program} {w : World} {K : PySem.W.Frag} {mg : Str → Option Value} {base : Heap}
/-- a small number, or one of six -/
def sp_law_number (K : PySem.W.Frag) : Sp := fun vs H Q _ => ∃ (t : Addr) (H0 : Hp), vs = [.ref t] ∧ Tape K H0 H t ∧ ∀ r H', -1000000000 ≤ r ∧ r ≤ 1000000000 → Fr [t] H H' → Tape K H0 H' t → Q (.int r) H'
theorem ok_law_number (T : Env K mg) : Fx P w K mg base 2 "_law_number" p_law_number (sp_law_number K) := by
  refine T.l_law_number.ok sc_law_number (fun vs H Q E h => ?_) (fun f cdv A outer s H vs Q E hr h => ?_)
  · obtain ⟨t, _, rfl, _⟩ := h
    rfl
  · obtain ⟨t, H0, rfl, hT, k⟩ := h
    refine ⟨_, (pss_cons (ps_if (pt_cmpR op_gt (pe_fx (ok_law_draw T) hr (by decide) (pa_cons (pv 0) (pa_cons pe_int pa_nil))) pe_int (nomark _)) (pss_one (ps_ret (pe_op op_sub (pe_fx (ok_law_draw T) hr (by decide) (pa_cons (pv 0) (pa_cons pe_int pa_nil))) pe_int))) pss_nil)
      (pss_one (ps_ret (pe_ix (ix_U (K := K) rfl) (pe_lst (pa_cons (pe_op op_pow pe_int pe_int) (pa_cons (pe_un un_neg (pe_op op_pow pe_int pe_int)) (pa_cons pe_int (pa_cons (pe_un un_neg pe_int) (pa_cons pe_int (pa_cons pe_int pa_nil))))))) (pe_fx (ok_law_draw T) hr (by decide) (pa_cons (pv 0) (pa_cons pe_int pa_nil))) (fun _ _ => rfl))))), ?_⟩
    walk_at "go"
    refine ⟨t, 8, H0, rfl, hT, by decide, by decide, fun r H1 r0 r1 f1 T1 => ?_⟩
    walk_at "go"
    refine ite_d (fun h0 => ?_) (fun h0 => ?_)
    · walk_at "go"
      refine ⟨t, 9, H0, rfl, T1, by decide, by decide, fun r2 H2 r20 r21 f2 T2 => ?_⟩
      walk_at "go"
      exact k _ _ (by omega) (f1.trans f2) T2
    · walk_at "go"
      refine ⟨by show 6 ≤ sizeLine; decide, fun l hl => ?_⟩
      walk_at "go"
      refine ⟨t, 6, H0, rfl, T1.new hl, by decide, by decide, fun r2 H2 r20 r21 f2 T2 => ?_⟩
      have e2 : H2 l = some (.lst (([1000000000, -1000000000, 999983, -70001, 31623, 40000] : List Int).map V.int)) := f2 _ _ upd_same (by simpa using T1.ne hl)
      obtain ⟨z, hz, hb⟩ := at_all (ns := [1000000000, -1000000000, 999983, -70001, 31623, 40000]) (P := fun r => -1000000000 ≤ r ∧ r ≤ 1000000000) (by decide) r20 r21
      refine w_ixL (SqL.of e2) hz ?_
      exact k _ _ hb ((f1.trans (Fr.new hl)).trans f2) T2

end

section
variable {P : Program} {w : World} {K : PySem.W.Frag} {mg : Str → Option Value} {base : Heap}
def sp_law_work (K : PySem.W.Frag) : Sp := fun vs H Q _ => ∃ (t : Addr) (H0 : Hp), vs = [.ref t] ∧ Tape K H0 H t ∧ ∀ p (s : Wkey × Int) H', s.1.ok → Fr [t] H H' → Tape K H0 H' t → Dt K H' (.ref p) (stD s) → Q (.ref p) H'
theorem ok_law_work (T : Env K mg) : Fx P w K mg base 3 "_law_work" p_law_work (sp_law_work K) := by
  refine T.l_law_work.ok sc_law_work (fun vs H Q E h => ?_) (fun f cdv A outer s H vs Q E hr h => ?_)
  · obtain ⟨t, _, rfl, _⟩ := h
    rfl
  · obtain ⟨t, H0, rfl, hT, k⟩ := h
    refine ⟨_, (pss_cons (ps_set (i := 1) sc_law_work.nd rfl (Or.inl rfl) (pe_ix (ix_U (K := K) rfl) (pe_lst (pa_cons pe_non (pa_cons pe_int (pa_cons pe_int (pa_cons (pe_un un_neg pe_int) pa_nil))))) (pe_fx (ok_law_draw T) hr (by decide) (pa_cons (pv 0) (pa_cons pe_int pa_nil))) (fun _ _ => rfl)))
      (pss_cons (ps_set (i := 2) sc_law_work.nd rfl (Or.inl rfl) (pe_ix (ix_U (K := K) rfl) (pe_lst (pa_cons (pe_tup pa_nil) (pa_cons (pe_tup (pa_cons (pe_tup (pa_cons (pv 1) (pa_cons pe_int pa_nil))) pa_nil)) (pa_cons (pe_tup (pa_cons (pe_tup (pa_cons pe_non (pa_cons pe_int pa_nil))) (pa_cons (pe_tup (pa_cons (pv 1) (pa_cons pe_int pa_nil))) pa_nil))) (pa_cons (pe_tup (pa_cons (pe_tup (pa_cons (pv 1) (pa_cons pe_int pa_nil))) pa_nil)) pa_nil))))) (pe_fx (ok_law_draw T) hr (by decide) (pa_cons (pv 0) (pa_cons pe_int pa_nil))) (fun _ _ => rfl)))
      (pss_cons (ps_set (i := 3) sc_law_work.nd rfl (Or.inl rfl) (pe_ix (ix_U (K := K) rfl) (pe_lst (pa_cons pe_str (pa_cons pe_str (pa_cons pe_str pa_nil)))) (pe_fx (ok_law_draw T) hr (by decide) (pa_cons (pv 0) (pa_cons pe_int pa_nil))) (fun _ _ => rfl)))
      (pss_one (ps_ret (pe_tup (pa_cons (pv 2) (pa_cons (pv 3) (pa_cons (pe_ix (ix_U (K := K) rfl) (pe_lst (pa_cons pe_str (pa_cons pe_str (pa_cons pe_str pa_nil)))) (pe_fx (ok_law_draw T) hr (by decide) (pa_cons (pv 0) (pa_cons pe_int pa_nil))) (fun _ _ => rfl)) (pa_cons (pe_fx (ok_law_number T) hr (by decide) (pa_cons (pv 0) pa_nil)) pa_nil)))))))))), ?_⟩
    walk_at "go"
    refine mkL (K := K) (ds := [.none, .int 0, .int 1, .int (-3)]) (.cons .non (.cons (.int _) (.cons (.int _) (.cons (.int _) .nil)))) fun q1 H1 n1 f1 L1 => ?_
    have T1 := hT.fr f1
    have m1 := hT.ne n1
    walk_at "go"
    refine ⟨t, 4, H0, rfl, T1, by decide, by decide, fun r2 H2 a2 b2 f2 T2 => ?_⟩
    refine (L1.fr f2 (by simpa using m1) (T1.tu f2)).at (P := fun d => ∃ o : Option Int, d = (match o with | some k => PyData.int k | none => PyData.none)) (fun d hd => ?_) a2 b2 fun kv dk dkv hk _ => ?_
    · simp only [List.mem_cons, List.mem_nil_iff, or_false] at hd
      rcases hd with rfl | rfl | rfl | rfl
      · exact ⟨none, rfl⟩
      · exact ⟨some 0, rfl⟩
      · exact ⟨some 1, rfl⟩
      · exact ⟨some (-3), rfl⟩
    obtain ⟨o, rfl⟩ := hk
    walk_at "go"
    have f02 : Fr [t] H H2 := Fr.trans (f1.mono (by simp)) f2
    refine mkT (K := K) .nil fun p3 H3 n3 f3 d3 => ?_
    walk_at "go"
    refine mkT (K := K) (.cons (dkv.mono f3.tu) (.cons (.int 0) .nil)) fun p4 H4 n4 f4 d4 => ?_
    walk_at "go"
    refine mkT (K := K) (.cons d4 .nil) fun p5 H5 n5 f5 d5 => ?_
    walk_at "go"
    refine mkT (K := K) (.cons .non (.cons (.int 0) .nil)) fun p6 H6 n6 f6 d6 => ?_
    walk_at "go"
    refine mkT (K := K) (.cons (dkv.mono (((f3.trans f4).trans f5).trans f6).tu) (.cons (.int 1) .nil)) fun p7 H7 n7 f7 d7 => ?_
    walk_at "go"
    refine mkT (K := K) (.cons (d6.mono f7.tu) (.cons d7 .nil)) fun p8 H8 n8 f8 d8 => ?_
    walk_at "go"
    have f28 := ((((f3.trans f4).trans f5).trans f6).trans f7).trans f8
    refine mkT (K := K) (.cons (dkv.mono f28.tu) (.cons (.int 1) .nil)) fun p9 H9 n9 f9 d9 => ?_
    walk_at "go"
    refine mkT (K := K) (.cons d9 .nil) fun p10 H10 n10 f10 d10 => ?_
    walk_at "go"
    have f910 := f9.trans f10
    have f38 := ((((f4.trans f5).trans f6).trans f7).trans f8).trans f910
    have f58 := ((f6.trans f7).trans f8).trans f910
    refine mkL (K := K) (.cons (d3.mono f38.tu) (.cons (d5.mono f58.tu) (.cons (d8.mono f910.tu) (.cons d10 .nil)))) fun q11 H11 n11 f11 L11 => ?_
    have f211 := (f28.trans f910).trans f11
    have T11 := T2.fr f211
    have m11 := (T2.fr (f28.trans f910)).ne n11
    walk_at "go"
    refine ⟨t, 4, H0, rfl, T11, by decide, by decide, fun r12 H12 a12 b12 f12 T12 => ?_⟩
    refine (L11.fr f12 (by simpa using m11) (T11.tu f12)).at (P := fun d => ∃ p : List (Option Int × Int), p.length ≤ 1000 ∧ d = .tuple (p.map spD)) (fun d hd => ?_) a12 b12 fun pv' dp dpv hp _ => ?_
    · simp only [List.mem_cons, List.mem_nil_iff, or_false] at hd
      rcases hd with rfl | rfl | rfl | rfl
      · exact ⟨[], by decide, rfl⟩
      · exact ⟨[(o, 0)], by exact Nat.le_of_ble_eq_true rfl, rfl⟩
      · exact ⟨[(none, 0), (o, 1)], by exact Nat.le_of_ble_eq_true rfl, rfl⟩
      · exact ⟨[(o, 1)], by exact Nat.le_of_ble_eq_true rfl, rfl⟩
    obtain ⟨p, lp, rfl⟩ := hp
    have f012 : Fr [t] H H12 := f02.trans ((f211.mono (by simp)).trans f12)
    walk_at "go"
    refine mkL (K := K) (ds := [.str "a", .str "ab", .str "abcdefgh"]) (.cons (.str _) (.cons (.str _) (.cons (.str _) .nil))) fun q13 H13 n13 f13 L13 => ?_
    have T13 := T12.fr f13
    have m13 := T12.ne n13
    walk_at "go"
    refine ⟨t, 3, H0, rfl, T13, by decide, by decide, fun r14 H14 a14 b14 f14 T14 => ?_⟩
    refine (L13.fr f14 (by simpa using m13) (T13.tu f14)).at (P := fun d => ∃ x : Str, d = .str x ∧ PyData.strOk x = true) (fun d hd => ?_) a14 b14 fun xv dx dxv hx _ => ?_
    · simp only [List.mem_cons, List.mem_nil_iff, or_false] at hd
      rcases hd with rfl | rfl | rfl <;> exact ⟨_, rfl, by decide +kernel⟩
    obtain ⟨x, rfl, ox⟩ := hx
    cases dxv
    have f014 : Fr [t] H H14 := f012.trans ((f13.mono (by simp)).trans f14)
    have dp14 := dpv.mono (f13.tu.trans (T13.tu f14))
    walk_at "go"
    refine mkL (K := K) (ds := [.str "a", .str "w", .str "ab"]) (.cons (.str _) (.cons (.str _) (.cons (.str _) .nil))) fun q15 H15 n15 f15 L15 => ?_
    have T15 := T14.fr f15
    have m15 := T14.ne n15
    walk_at "go"
    refine ⟨t, 3, H0, rfl, T15, by decide, by decide, fun r16 H16 a16 b16 f16 T16 => ?_⟩
    refine (L15.fr f16 (by simpa using m15) (T15.tu f16)).at (P := fun d => ∃ x : Str, d = .str x ∧ PyData.strOk x = true) (fun d hd => ?_) a16 b16 fun yv dy dyv hy _ => ?_
    · simp only [List.mem_cons, List.mem_nil_iff, or_false] at hd
      rcases hd with rfl | rfl | rfl <;> exact ⟨_, rfl, by decide +kernel⟩
    obtain ⟨y, rfl, oy⟩ := hy
    cases dyv
    have f016 : Fr [t] H H16 := f014.trans ((f15.mono (by simp)).trans f16)
    have dp16 := dp14.mono (f15.tu.trans (T15.tu f16))
    walk_at "go"
    refine ⟨t, H0, rfl, T16, fun n H17 bn f17 T17 => ?_⟩
    walk_at "go"
    refine mkT (K := K) (.cons (dp16.mono (T16.tu f17)) (.cons (.str x) (.cons (.str y) (.cons (.int n) .nil)))) fun p18 H18 n18 f18 d18 => ?_
    exact k p18 (⟨p, x, y⟩, n) H18 ⟨ox, oy, lp⟩ ((f016.trans f17).trans (f18.mono (by simp))) (T17.fr f18) d18
def sp_law_stands (K : PySem.W.Frag) : Sp := fun vs H Q _ => ∃ (l : Addr) (rows : List LRow), vs = [.ref l] ∧ Lq K H l (rows.map LRow.d) ∧ rows.length ≤ 1000 ∧ (∀ r ∈ rows, r.k.ok) ∧ (playL rows = none → ∀ H', Fr [] H H' → Q .non H') ∧
  ∀ now, playL rows = some now → ∀ q H', H q = none → Fr [] H H' → Lq K H' q (now.map stD) → Q (.ref q) H'
theorem _root_.U.Lq.nil {K : PySem.W.Frag} {H : Hp} {q : Addr} (h : Lq K H q []) : H q = some (.lst []) := by
  obtain ⟨vs, e, a⟩ := h
  cases a
  exact e
theorem st_shaped {now : List (Wkey × Int)} (h : ∀ s ∈ now, s.1.ok) : SeqAt.shaped (.list (now.map stD)) = true := shaped_list (n := 3) (by decide) fun d hd => by
  obtain ⟨s, hs, rfl⟩ := List.mem_map.mp hd
  exact stD_good (h s hs)
theorem ok_law_stands (T : Env K mg) : Fx P w K mg base 1 "_law_stands" p_law_stands (sp_law_stands K) := by
  refine T.l_law_stands.ok sc_law_stands (fun vs H Q E h => ?_) (fun f cdv A outer s H vs Q E hr h => ?_)
  · obtain ⟨l, rows, rfl, _⟩ := h
    rfl
  · obtain ⟨l, rows, rfl, L, lr, okr, kn, ks⟩ := h
    refine ⟨_, (pss_cons (ps_set (i := 1) sc_law_stands.nd rfl (Or.inl rfl) (pe_lst pa_nil))
      (pss_cons (ps_for PassesOwn.never rfl (pi_listU (K := K) rfl (pv 0)) (pg_tupU (K := K) (n := 5) rfl rfl (pgs_cons (pg_name (i := 2) sc_law_stands.nd rfl (Or.inl rfl)) (pgs_cons (pg_name (i := 3) sc_law_stands.nd rfl (Or.inr rfl)) (pgs_cons (pg_name (i := 4) sc_law_stands.nd rfl (Or.inr rfl)) (pgs_cons (pg_name (i := 5) sc_law_stands.nd rfl (Or.inr rfl)) (pgs_cons (pg_name (i := 6) sc_law_stands.nd rfl (Or.inl rfl)) pgs_nil)))))) (pss_cons (ps_set (i := 7) sc_law_stands.nd rfl (Or.inr rfl) (pe_lc (own := [("_law_one", 8)]) (g := (gName 8)) rfl sc_law_stands.nd (pi_listU (K := K) rfl (pv 1)) (blkOk_by (N := N_law_stands) (sc := defScope s_law_stands) (by decide +kernel)) (fun _ _ _ _ _ => (pg_name (i := 8) sc_law_stands.nd rfl (Or.inl rfl))) (fun _ _ _ _ _ => (pts_one (pt_cmpR (op_eqU (K := K) rfl (u64 hr)) (pe_slice (sl_U (K := K) rfl) (pv 8) po_none (po_some pe_int)) (pe_tup (pa_cons (pv 3) (pa_cons (pv 4) (pa_cons (pv 5) pa_nil)))) (nomark _)))) (fun _ _ _ _ _ => (pv 8))))
      (pss_cons (ps_if (PW.pt (pw_or (PW.pt (pw_and (pt_cmpR (op_eqU (K := K) rfl (u64 hr)) (pv 2) pe_str (nomark _)) (pw_and1 (pt_cmpR (op_neU (K := K) rfl (u64 hr)) (pv 7) (pe_lst pa_nil) (nomark _))))) (pw_or1 (PW.pt (pw_and (pt_cmpR (op_eqU (K := K) rfl (u64 hr)) (pv 2) pe_str (nomark _)) (pw_and1 (pt_cmpR (op_neU (K := K) rfl (u64 hr)) (pv 7) (pe_lst (pa_cons (pe_tup (pa_cons (pv 3) (pa_cons (pv 4) (pa_cons (pv 5) (pa_cons (pv 6) pa_nil))))) pa_nil)) (nomark _)))))))) (pss_one (ps_ret pe_non)) pss_nil)
      (pss_cons (ps_setLc (i := 1) (own := [("_law_one", 8)]) (g := (gName 8)) rfl sc_law_stands.nd rfl rfl (sw_true rfl rfl rfl (by decide +kernel)) (pi_listU (K := K) rfl (pv 1)) (blkOk_by (N := N_law_stands) (sc := defScope s_law_stands) (by decide +kernel)) (fun _ _ _ _ _ => (pg_name (i := 8) sc_law_stands.nd rfl (Or.inl rfl))) (fun _ _ _ _ _ => (pts_one (pt_cmpR (op_ninU (K := K) rfl (u65 hr)) (pv 8) (pv 7) (by rfl)))) (fun _ _ _ _ _ => (pv 8)))
      (pss_one (ps_if (pt_cmpR (op_eqU (K := K) rfl (u64 hr)) (pv 2) pe_str (nomark _)) (pss_one (ps_expr (pe_bm PySem.F.plainAttrs_list PySem.F.slot_list_append PySem.F.type_list_append mt_append (pv 1) (pa_cons (pe_tup (pa_cons (pv 3) (pa_cons (pv 4) (pa_cons (pv 5) (pa_cons (pv 6) pa_nil))))) pa_nil)))) pss_nil))))))
      (pss_one (ps_ret (pv 1))))), ?_⟩
    walk_at "go"
    refine mkL (K := K) .nil fun q1 H1 n1 f1 L1 => ?_
    walk_at "go"
    refine (L.fr0 f1).walk (fun i σ H' => Fr [] H H' ∧ Lq K H' l (rows.map LRow.d) ∧ ∃ (q : Addr) (now : List (Wkey × Int)) (v2 v3 v4 v5 v6 v7 v8 : Option V), σ = [some (.ref l), some (.ref q), v2, v3, v4, v5, v6, v7, v8] ∧ H q = none ∧ playL (rows.take i) = some now ∧ Lq K H' q (now.map stD)) ?_ ?_ ?_ ?_
    · exact ⟨f1, L.fr0 f1, q1, [], _, _, _, _, _, _, _, rfl, n1, rfl, L1⟩
    · rintro i σ H' ⟨_, z, _⟩
      exact z
    · rintro i v dd σ H2 hi dv ⟨f2, L2', q, now, v2, v3, v4, v5, v6, v7, v8, rfl, nq, pn, Lq2⟩
      obtain ⟨r, hr', rfl⟩ := map_get hi
      have okk := okr r (List.mem_of_getElem? hr')
      obtain ⟨a, pv', rfl, sa, dp⟩ := row_parts dv
      obtain ⟨on, ln⟩ := play_once pn
      have okn : ∀ s ∈ now, s.1.ok := play_ok (fun r hr => okr r (List.mem_of_mem_take hr)) pn
      have ln' : now.length ≤ 1000 := by
        rw [List.length_take] at ln
        omega
      have stp := playL_take hr'
      rw [pn] at stp
      replace stp : playL (rows.take (i + 1)) = stepL now r := stp
      refine w_gtup sa rfl ?_
      walk_at "go"
      refine LCX_L (K := K) (cs := now) (dS := stD) (fun s => decide (s.1 = r.k)) stD Lq2 (by omega) ?_ fun q3 H3 n3 f3 L3 => ?_
      · intro c x H' KEEP DROP hc f' dx keep drop
        walk_at "go"
        have dx' : Dt K H' x (.tuple (c.1.ds ++ [.int c.2])) := dx
        refine dx'.slice fun p4 H4 f4 d4 => ?_
        walk_at "go"
        refine mkT (K := K) (.cons (dp.mono (f'.trans f4).tu) (.cons (.str r.k.part) (.cons (.str r.k.name) .nil))) fun p5 H5 n5 f5 d5 => ?_
        have d4 : Dt K H4 (.ref p4) c.1.d := d4
        have d5 : Dt K H5 (.ref p5) r.k.d := d5
        refine w_eqD (d4.mono f5.tu).dp d5.dp (good_shaped (Wkey.good (okn c hc)) (by decide)) (good_shaped (Wkey.good okk) (by decide)) ?_
        rw [eqv_key (okn c hc)]
        walk_at "go"
        refine ite_d (fun h => ?_) (fun h => ?_)
        · walk_at "go"
          exact keep (decide_eq_true h) _ _ (f4.trans f5) (dx.mono (f4.trans f5).tu)
        · exact drop (decide_eq_false h) _ (f4.trans f5)
      have f23 := f2.trans f3
      have Lq3 := Lq2.fr0 f3
      have L2_3 := L2'.fr0 f3
      walk_at "go"
      cases hon : r.on with
      | true =>
        have ew : r.word = "do" := by unfold LRow.word; rw [hon]; rfl
        rw [ew]
        cases hf : now.find? (fun s => decide (s.1 = r.k)) with
        | some s =>
          rw [same_some on hf] at L3
          have L3 : Lq K H3 q3 [stD s] := L3
          walk_at "go"
          refine ite_d (fun _ => ?_) (fun h => absurd rfl h)
          walk_at "go"
          refine mkL (K := K) .nil fun q4 H4 n4 f4 L4 => ?_
          have oks := okn s (find_some hf).1
          refine w_neNil (L3.fr0 f4).dp L4.nil (st_shaped (now := [s]) (by simpa using oks)) ?_
          walk_at "go"
          refine iteT ?_
          walk_at "go"
          refine kn ?_ H4 (f23.trans f4)
          refine playL_none (i := i + 1) ?_
          rw [stp]
          unfold stepL
          rw [hf, hon]
        | none =>
          rw [same_none hf] at L3
          have L3 : Lq K H3 q3 [] := L3
          walk_at "go"
          refine ite_d (fun _ => ?_) (fun h => absurd rfl h)
          walk_at "go"
          refine mkL (K := K) .nil fun q4 H4 n4 f4 L4 => ?_
          refine w_neNil (L3.fr0 f4).dp L4.nil (by decide) ?_
          walk_at "go"
          refine iteF ?_
          walk_at "go"
          refine ite_d (fun h => absurd h (by decide)) (fun _ => ?_)
          walk_at "go"
          refine LCX_L (K := K) (cs := now) (dS := stD) (fun _ => true) stD (Lq3.fr0 f4) (by omega) ?_ fun q5 H5 n5 f5 L5 => ?_
          · intro c x H' KEEP DROP hc f' dx keep drop
            walk_at "go"
            refine ((L3.fr0 f4).fr0 f').nin dx (good_shaped (stD_good (okn c hc)) (by decide)) (by decide) ?_
            walk_at "go"
            refine iteT ?_
            walk_at "go"
            exact keep rfl _ _ Fr.refl dx
          · rw [List.filter_eq_self.mpr (fun _ _ => rfl)] at L5
            have f35 := f4.trans f5
            walk_at "go"
            refine ite_d (fun _ => ?_) (fun h => absurd rfl h)
            walk_at "go"
            refine ⟨L5.ty, ?_⟩
            walk_at "go"
            refine mkT (K := K) (.cons ((dp.mono f3.tu).mono f35.tu) (.cons (.str r.k.part) (.cons (.str r.k.name) (.cons (.int r.n) .nil)))) fun p6 H6 n6 f6 d6 => ?_
            have d6 : Dt K H6 (.ref p6) (stD (r.k, r.n)) := d6
            walk_at "go"
            refine (L5.fr0 f6).app d6 (by rw [List.length_map]; omega) fun H7 f7 t7 L7 => ?_
            have f06 := (f23.trans f35).trans f6
            have n5' : H q5 = none := (f23.trans f4).free n5
            have nl : l ≠ q5 := by
              obtain ⟨_, e, _⟩ := L
              rintro rfl
              rw [n5'] at e
              cases e
            refine ⟨Fr.drop1 n5' f06 f7, ((L2_3.fr0 f35).fr0 f6).fr f7 (by simpa using nl) t7, q5, now ++ [(r.k, r.n)], _, _, _, _, _, _, _, rfl, n5', ?_, ?_⟩
            · rw [stp]
              unfold stepL
              rw [hf, hon]
            · rw [List.map_append]
              exact L7
      | false =>
        have ew : r.word = "undo" := by unfold LRow.word; rw [hon]; rfl
        rw [ew]
        cases hf : now.find? (fun s => decide (s.1 = r.k)) with
        | none =>
          rw [same_none hf] at L3
          have L3 : Lq K H3 q3 [] := L3
          walk_at "go"
          refine ite_d (fun h => absurd h (by decide)) (fun _ => ?_)
          walk_at "go"
          refine ite_d (fun _ => ?_) (fun h => absurd rfl h)
          walk_at "go"
          refine mkT (K := K) (.cons (dp.mono f3.tu) (.cons (.str r.k.part) (.cons (.str r.k.name) (.cons (.int r.n) .nil)))) fun p4 H4 n4 f4 d4 => ?_
          have d4 : Dt K H4 (.ref p4) (stD (r.k, r.n)) := d4
          walk_at "go"
          refine mkL (K := K) (.cons d4 .nil) fun q5 H5 n5 f5 L5 => ?_
          have f35 := f4.trans f5
          refine w_neD (L3.fr0 f35).dp L5.dp (by decide) (st_shaped (now := [(r.k, r.n)]) (by simpa using okk)) ?_
          walk_at "go"
          refine iteT ?_
          walk_at "go"
          refine kn ?_ H5 (f23.trans f35)
          refine playL_none (i := i + 1) ?_
          rw [stp]
          unfold stepL
          rw [hf, hon]
        | some s =>
          rw [same_some on hf] at L3
          have L3 : Lq K H3 q3 [stD s] := L3
          obtain ⟨ms, ek⟩ := find_some hf
          have oks := okn s ms
          walk_at "go"
          refine ite_d (fun h => absurd h (by decide)) (fun _ => ?_)
          walk_at "go"
          refine ite_d (fun _ => ?_) (fun h => absurd rfl h)
          walk_at "go"
          refine mkT (K := K) (.cons (dp.mono f3.tu) (.cons (.str r.k.part) (.cons (.str r.k.name) (.cons (.int r.n) .nil)))) fun p4 H4 n4 f4 d4 => ?_
          have d4 : Dt K H4 (.ref p4) (stD (r.k, r.n)) := d4
          walk_at "go"
          refine mkL (K := K) (.cons d4 .nil) fun q5 H5 n5 f5 L5 => ?_
          have f35 := f4.trans f5
          refine w_neD (L3.fr0 f35).dp L5.dp (st_shaped (now := [s]) (by simpa using oks)) (st_shaped (now := [(r.k, r.n)]) (by simpa using okk)) ?_
          have ev : PyData.eqv (.list [stD s]) (.list [stD (r.k, r.n)]) = decide (s.2 = r.n) := by
            show (PyData.eqv (stD s) (stD (r.k, r.n)) && true) = _
            rw [eqv_st oks, Bool.and_true]
            obtain ⟨sk, sn⟩ := s
            have ek : sk = r.k := ek
            subst ek
            by_cases e : sn = r.n
            · subst e
              rw [decide_eq_true rfl, decide_eq_true rfl]
            · rw [decide_eq_false (by simpa using e), decide_eq_false e]
          rw [ev]
          walk_at "go"
          refine ite_nd (fun hn => ?_) (fun hn => ?_)
          · walk_at "go"
            refine kn ?_ H5 (f23.trans f35)
            refine playL_none (i := i + 1) ?_
            rw [stp]
            unfold stepL
            rw [hf, hon]
            exact if_neg hn
          · walk_at "go"
            refine LCX_L (K := K) (cs := now) (dS := stD) (fun c => decide (c.1 ≠ r.k)) stD (Lq3.fr0 f35) (by omega) ?_ fun q6 H6 n6 f6 L6 => ?_
            · intro c x H' KEEP DROP hc f' dx keep drop
              walk_at "go"
              refine ((L3.fr0 f35).fr0 f').nin dx (good_shaped (stD_good (okn c hc)) (by decide)) (st_shaped (now := [s]) (by simpa using oks)) ?_
              have e2 : (!([stD s].any fun z => PyData.eqv z (stD c))) = decide (c.1 ≠ r.k) := by
                rw [List.any_cons, List.any_nil, Bool.or_false, eqv_st oks]
                by_cases e : c.1 = r.k
                · have : c = s := once_eq on ms hc (e.trans ek.symm)
                  rw [decide_eq_true this.symm, decide_eq_false (by simpa using e)]
                  rfl
                · rw [decide_eq_false (by rintro rfl; exact e ek), decide_eq_true e]
                  rfl
              rw [e2]
              walk_at "go"
              refine ite_d (fun h => ?_) (fun h => ?_)
              · walk_at "go"
                exact keep (decide_eq_true h) _ _ Fr.refl dx
              · exact drop (decide_eq_false h) _ Fr.refl
            · walk_at "go"
              refine ite_d (fun h => absurd h (by decide)) (fun _ => ?_)
              walk_at "go"
              have f06 := (f23.trans f35).trans f6
              have n6' : H q6 = none := (f23.trans f35).free n6
              refine ⟨f06, (L2_3.fr0 f35).fr0 f6, q6, now.filter (fun s => decide (s.1 ≠ r.k)), _, _, _, _, _, _, _, rfl, n6', ?_, L6⟩
              rw [stp]
              unfold stepL
              rw [hf, hon]
              exact if_pos hn
    · rintro σ H2 ⟨f2, L2', q, now, v2, v3, v4, v5, v6, v7, v8, rfl, nq, pn, Lq2⟩
      rw [List.length_map, List.take_length] at pn
      walk_at "go"
      exact ks now pn q H2 nq f2 Lq2
def sp_law_log (K : PySem.W.Frag) : Sp := fun vs H Q _ => ∃ (t : Addr) (H0 : Hp), vs = [.ref t] ∧ Tape K H0 H t ∧ ∀ q (rows : List LRow) now H', H q = none → Fr [t] H H' → Tape K H0 H' t → Lq K H' q (rows.map LRow.d) → rows.length ≤ 40 → playL rows = some now → (∀ r ∈ rows, r.k.ok) → Q (.ref q) H'
theorem ok_law_log (T : Env K mg) : Fx P w K mg base 4 "_law_log" p_law_log (sp_law_log K) := by
  refine T.l_law_log.ok sc_law_log (fun vs H Q E h => ?_) (fun f cdv A outer s H vs Q E hr h => ?_)
  · obtain ⟨t, _, rfl, _⟩ := h
    rfl
  · obtain ⟨t, H0, rfl, hT, k⟩ := h
    refine ⟨_, (pss_cons (ps_set (i := 1) sc_law_log.nd rfl (Or.inl rfl) (pe_lst pa_nil))
      (pss_cons (ps_setLc (i := 2) (own := [("_law_k", 3)]) (g := (gName 3)) (tt := tYes) rfl sc_law_log.nd rfl rfl (sw_true rfl rfl rfl (by decide +kernel)) (pi_range1 rfl T.m_range (pa_cons (pe_op (op_addU (K := K) rfl) pe_int (pe_fx (ok_law_draw T) hr (by decide) (pa_cons (pv 0) (pa_cons pe_int pa_nil)))) pa_nil)) (blkOk_by (N := N_law_log) (sc := defScope s_law_log) (by decide +kernel)) (fun _ _ _ _ _ => (pg_name (i := 3) sc_law_log.nd rfl (Or.inl rfl))) (fun _ _ _ _ _ => pts_nil) (fun _ _ _ _ _ => (pe_fx (ok_law_work T) hr (by decide) (pa_cons (pv 0) pa_nil))))
      (pss_cons (ps_for PassesOwn.never rfl (pi_range1 rfl T.m_range (pa_cons (pe_ix (ix_U (K := K) rfl) (pe_lst (pa_cons (pe_fx (ok_law_draw T) hr (by decide) (pa_cons (pv 0) (pa_cons pe_int pa_nil))) (pa_cons (pe_fx (ok_law_draw T) hr (by decide) (pa_cons (pv 0) (pa_cons pe_int pa_nil))) (pa_cons (pe_fx (ok_law_draw T) hr (by decide) (pa_cons (pv 0) (pa_cons pe_int pa_nil))) pa_nil)))) (pe_fx (ok_law_draw T) hr (by decide) (pa_cons (pv 0) (pa_cons pe_int pa_nil))) (fun _ _ => rfl)) pa_nil)) (pg_name (i := 3) sc_law_log.nd rfl (Or.inl rfl)) (pss_cons (ps_set (i := 4) sc_law_log.nd rfl (Or.inr rfl) (pe_ix (ix_U (K := K) rfl) (pv 2) (pe_fx (ok_law_draw T) hr (by decide) (pa_cons (pv 0) (pa_cons (pe_callB (call_lenU (K := K) rfl) (by rfl) T.m_len (by decide +kernel) (pa_cons (pv 2) pa_nil)) pa_nil))) (fun _ _ => rfl)))
      (pss_cons (ps_setLc (i := 5) (own := [("_law_one", 6)]) (g := (gName 6)) rfl sc_law_log.nd rfl rfl (sw_true rfl rfl rfl (by decide +kernel)) (pi_listU (K := K) rfl (pe_fx (ok_law_stands T) hr (by decide) (pa_cons (pv 1) pa_nil))) (blkOk_by (N := N_law_log) (sc := defScope s_law_log) (by decide +kernel)) (fun _ _ _ _ _ => (pg_name (i := 6) sc_law_log.nd rfl (Or.inl rfl))) (fun _ _ _ _ _ => (pts_one (pt_cmpR (op_eqU (K := K) rfl (u64 hr)) (pe_slice (sl_U (K := K) rfl) (pv 6) po_none (po_some pe_int)) (pe_slice (sl_U (K := K) rfl) (pv 4) po_none (po_some pe_int)) (nomark _)))) (fun _ _ _ _ _ => (pv 6)))
      (pss_one (ps_if (pt_cmpR (op_eqU (K := K) rfl (u64 hr)) (pv 5) (pe_lst pa_nil) (nomark _)) (pss_one (ps_expr (pe_bm PySem.F.plainAttrs_list PySem.F.slot_list_append PySem.F.type_list_append mt_append (pv 1) (pa_cons (pe_op (op_addU (K := K) rfl) (pe_op (op_addU (K := K) rfl) (pe_tup (pa_cons pe_str pa_nil)) (pe_slice (sl_U (K := K) rfl) (pv 4) po_none (po_some pe_int))) (pe_tup (pa_cons (pe_ix (ix_U (K := K) rfl) (pe_lst (pa_cons (pe_ix (ix_U (K := K) rfl) (pv 4) pe_int (fun _ _ => rfl)) (pa_cons (pe_fx (ok_law_number T) hr (by decide) (pa_cons (pv 0) pa_nil)) pa_nil))) (pe_fx (ok_law_draw T) hr (by decide) (pa_cons (pv 0) (pa_cons pe_int pa_nil))) (fun _ _ => rfl)) pa_nil))) pa_nil)))) (pss_one (ps_expr (pe_bm PySem.F.plainAttrs_list PySem.F.slot_list_append PySem.F.type_list_append mt_append (pv 1) (pa_cons (pe_op (op_addU (K := K) rfl) (pe_tup (pa_cons pe_str pa_nil)) (pe_ix (ix_U (K := K) rfl) (pv 5) pe_int (fun _ _ => rfl))) pa_nil)))))))))
      (pss_one (ps_ret (pv 1)))))), ?_⟩
    walk_at "go"
    refine mkL (K := K) .nil fun q1 H1 n1 f1 L1 => ?_
    have T1 := hT.fr f1
    have m1 := hT.ne n1
    walk_at "go"
    refine ⟨t, 6, H0, rfl, T1, by decide, by decide, fun r2 H2 a2 b2 f2 T2 => ?_⟩
    walk_at "go"
    refine LC_tape (1 + r2).toNat (fun d => ∃ s : Wkey × Int, s.1.ok ∧ d = stD s) T2 (by omega) (by omega) (by omega) (by omega) (fun _ => rfl) (fun i H' hi T' f' QQ kk => ?_) fun q3 H3 ds n3 f3 T3 L3 l3 p3 => ?_
    · walk_at "go"
      refine ⟨t, H0, rfl, T', fun p s H4 os f4 T4 d4 => ?_⟩
      exact kk _ _ _ f4 T4 d4 ⟨s, os, rfl⟩
    have L1_3 := ((L1.fr f2 (by simpa using m1) (T1.tu f2)).fr f3 (by simpa using m1) (T2.tu f3))
    have m3 := T2.ne n3
    have n3' : H q3 = none := (hT.free1 (Fr.trans (f1.mono (by simp)) f2) n3 m3)
    have f03 : Fr [t] H H3 := (Fr.trans (f1.mono (by simp)) f2).trans f3
    have n31 : q3 ≠ q1 := by
      rintro rfl
      obtain ⟨_, e, _⟩ := L1.fr f2 (by simpa using m1) (T1.tu f2)
      rw [n3] at e
      cases e
    walk_at "go"
    refine ⟨t, 4, H0, rfl, T3, by decide, by decide, fun r4 H4 a4 b4 f4 T4 => ?_⟩
    walk_at "go"
    refine ⟨t, 16, H0, rfl, T4, by decide, by decide, fun r5 H5 a5 b5 f5 T5 => ?_⟩
    walk_at "go"
    refine ⟨t, 40, H0, rfl, T5, by decide, by decide, fun r6 H6 a6 b6 f6 T6 => ?_⟩
    walk_at "go"
    refine mkI (ns := [r4, r5, r6]) rfl fun q7 H7 n7 f7 e7 => ?_
    have T7 := T6.fr f7
    have m7 := T6.ne n7
    walk_at "go"
    refine ⟨t, 3, H0, rfl, T7, by decide, by decide, fun r8 H8 a8 b8 f8 T8 => ?_⟩
    obtain ⟨z, hz, bz⟩ := at_all (ns := [r4, r5, r6]) (P := fun r => 0 ≤ r ∧ r ≤ 39) (by simp; omega) a8 b8
    have e8 := f8 _ _ e7 (by simpa using m7)
    refine w_ixL (SqL.of e8) hz ?_
    have f38 : Fr [t] H3 H8 := ((f4.trans f5).trans f6).trans ((f7.mono (by simp)).trans f8)
    have t38 : Tu H3 H8 := ((T3.tu f4).trans ((T4.tu f5).trans (T5.tu f6))).trans (f7.tu.trans (T7.tu f8))
    have f08 := f03.trans f38
    walk_at "go"
    refine F_R1 z.toNat rfl (by omega) (by omega) (fun i σ H' => Fr [t] H H' ∧ Tape K H0 H' t ∧ Lq K H' q3 ds ∧ ∃ (rows : List LRow) (now : List (Wkey × Int)) (v3 v4 v5 v6 : Option V), σ = [some (.ref t), some (.ref q1), some (.ref q3), v3, v4, v5, v6] ∧ Lq K H' q1 (rows.map LRow.d) ∧ rows.length = i ∧ playL rows = some now ∧ ∀ r ∈ rows, r.k.ok) ⟨f08, T8, L3.fr f38 (by simpa using m3) t38, [], [], _, _, _, _, rfl, L1_3.fr f38 (by simpa using m1) t38, rfl, rfl, by simp⟩ ?_ ?_
    · rintro i σ Ha hi ⟨fa, Ta, La, rows, now, v3, v4, v5, v6, rfl, Lr, lr, pn, okr⟩
      obtain ⟨on, ln⟩ := play_once pn
      have okn := play_ok (P := Wkey.ok) okr pn
      walk_at "go"
      refine La.len ?_
      rw [l3]
      walk_at "go"
      refine ⟨t, _, H0, rfl, Ta, by omega, by omega, fun rb Hb ab bb fb Tb => ?_⟩
      refine (La.fr fb (by simpa using m3) (Ta.tu fb)).at p3 ab (by omega) fun v d dv hd _ => ?_
      obtain ⟨s, oks, rfl⟩ := hd
      have Lrb := Lr.fr fb (by simpa using m1) (Ta.tu fb)
      have Lab := La.fr fb (by simpa using m3) (Ta.tu fb)
      walk_at "go"
      refine ⟨q1, rows, rfl, Lrb, by omega, okr, (fun h => by rw [pn] at h; cases h), fun now' pn' qc Hc nc fc Lc => ?_⟩
      rw [pn] at pn'
      cases pn'
      refine LCX_L (K := K) (cs := now) (dS := stD) (fun c => decide (c.1 = s.1)) stD Lc (by omega) ?_ fun qd Hd nd fd Ld => ?_
      · intro c x H' KEEP DROP hc f' dx keep drop
        walk_at "go"
        have dx' : Dt K H' x (.tuple (c.1.ds ++ [.int c.2])) := dx
        refine dx'.slice fun p4 H4 f4 d4 => ?_
        walk_at "go"
        have dv' : Dt K H4 v (.tuple (s.1.ds ++ [.int s.2])) := dv.mono ((fc.trans f').trans f4).tu
        refine dv'.slice fun p5 H5 f5 d5 => ?_
        have d4 : Dt K H4 (.ref p4) c.1.d := d4
        have d5 : Dt K H5 (.ref p5) s.1.d := d5
        refine w_eqD (d4.mono f5.tu).dp d5.dp (good_shaped (Wkey.good (okn c hc)) (by decide)) (good_shaped (Wkey.good oks) (by decide)) ?_
        rw [eqv_key (okn c hc)]
        walk_at "go"
        refine ite_d (fun h => ?_) (fun h => ?_)
        · walk_at "go"
          exact keep (decide_eq_true h) _ _ (f4.trans f5) (dx.mono (f4.trans f5).tu)
        · exact drop (decide_eq_false h) _ (f4.trans f5)
      have fbd := fc.trans fd
      have Td := Tb.fr fbd
      walk_at "go"
      refine mkL (K := K) .nil fun qe He ne fe Le => ?_
      have Te := Td.fr fe
      have fbe := fbd.trans fe
      cases hf : now.find? (fun c => decide (c.1 = s.1)) with
      | none =>
        rw [same_none hf] at Ld
        have Ld : Lq K Hd qd [] := Ld
        refine w_eqNil (Ld.fr0 fe).dp Le.nil (by decide) ?_
        walk_at "go"
        refine iteT ?_
        walk_at "go"
        have Lre := Lrb.fr0 fbe
        refine ⟨Lre.ty, ?_⟩
        walk_at "go"
        refine mkT (K := K) (.cons (.str "do") .nil) fun pf Hf nf ff df => ?_
        walk_at "go"
        have dvf : Dt K Hf v (.tuple (s.1.ds ++ [.int s.2])) := dv.mono (fbe.trans ff).tu
        refine dvf.slice fun pg Hg fg dg => ?_
        have dg : Dt K Hg (.ref pg) (.tuple s.1.ds) := dg
        refine (df.mono fg.tu).cat dg (by exact Nat.le_of_ble_eq_true rfl) fun ph Hh fh dh => ?_
        have feh := (ff.trans fg).trans fh
        have Th := Te.fr feh
        walk_at "go"
        refine Dt.ix 3 (dvf.mono (fg.trans fh).tu) rfl fun uv du => ?_
        cases du
        walk_at "go"
        refine ⟨t, H0, rfl, Th, fun nn Hi bn fi Ti => ?_⟩
        walk_at "go"
        refine mkI (ns := [s.2, nn]) rfl fun qj Hj nj fj ej => ?_
        have Tj := Ti.fr fj
        have mj := Ti.ne nj
        walk_at "go"
        refine ⟨t, 2, H0, rfl, Tj, by decide, by decide, fun rk Hk ak bk fk Tk => ?_⟩
        obtain ⟨z2, hz2, _⟩ := at_all (ns := [s.2, nn]) (P := fun _ => True) (by simp) ak bk
        refine w_ixL (SqL.of (fk _ _ ej (by simpa using mj))) hz2 ?_
        have fhk : Fr [t] Hh Hk := fi.trans ((fj.mono (by simp)).trans fk)
        have thk : Tu Hh Hk := (Th.tu fi).trans (fj.tu.trans (Tj.tu fk))
        walk_at "go"
        refine mkT (K := K) (.cons (.int z2) .nil) fun pl' Hl nl fl dl => ?_
        walk_at "go"
        refine (dh.mono (thk.trans fl.tu)).cat dl (by exact Nat.le_of_ble_eq_true rfl) fun pm Hm fm dm => ?_
        have dm : Dt K Hm (.ref pm) (LRow.d ⟨true, s.1, z2⟩) := dm
        have flm := fl.trans fm
        have fem : Fr [t] He Hm := (feh.mono (by simp)).trans (fhk.trans (flm.mono (by simp)))
        have tem : Tu He Hm := feh.tu.trans (thk.trans flm.tu)
        have fam : Fr [t] H Hm := (fa.trans fb).trans ((fbe.mono (by simp)).trans fem)
        have Tm := Tk.fr flm
        have Lrm := Lre.fr fem (by simpa using m1) tem
        have Lam := (Lab.fr0 fbe).fr fem (by simpa using m3) tem
        walk_at "go"
        refine Lrm.app dm (by rw [List.length_map]; omega) fun Hn fn tn Ln => ?_
        refine ⟨Fr.drop1 n1 fam fn, Tm.fr1 fn m1 (hT.no n1), Lam.fr fn (by simpa using n31) tn, rows ++ [⟨true, s.1, z2⟩], now ++ [(s.1, z2)], _, _, _, _, rfl, ?_, by simp [lr], ?_, ?_⟩
        · rw [List.map_append]
          exact Ln
        · rw [playL_snoc, pn]
          show stepL now _ = _
          unfold stepL
          rw [hf]
        · intro r hr
          rcases List.mem_append.mp hr with hr | hr
          · exact okr r hr
          · rw [List.mem_singleton.mp hr]
            exact oks
      | some sx =>
        rw [same_some on hf] at Ld
        have Ld : Lq K Hd qd [stD sx] := Ld
        obtain ⟨msx, ek⟩ := find_some hf
        have oksx := okn sx msx
        refine w_eqNil (Ld.fr0 fe).dp Le.nil (st_shaped (now := [sx]) (by simpa using oksx)) ?_
        walk_at "go"
        refine iteF ?_
        walk_at "go"
        have Lre := Lrb.fr0 fbe
        refine ⟨Lre.ty, ?_⟩
        walk_at "go"
        refine mkT (K := K) (.cons (.str "undo") .nil) fun pf Hf nf ff df => ?_
        walk_at "go"
        refine ((Ld.fr0 fe).fr0 ff).ix 0 rfl fun uv du => ?_
        have du : Dt K Hf uv (.tuple (sx.1.ds ++ [.int sx.2])) := du
        refine df.cat du (by exact Nat.le_of_ble_eq_true rfl) fun pm Hm fm dm => ?_
        have dm : Dt K Hm (.ref pm) (LRow.d ⟨false, sx.1, sx.2⟩) := dm
        have fem := ff.trans fm
        have fam : Fr [t] H Hm := (fa.trans fb).trans ((fbe.trans fem).mono (by simp))
        have Tm := Te.fr fem
        have Lrm := Lre.fr0 fem
        have Lam := (Lab.fr0 fbe).fr0 fem
        walk_at "go"
        refine Lrm.app dm (by rw [List.length_map]; omega) fun Hn fn tn Ln => ?_
        have hf2 : now.find? (fun c => decide (c.1 = sx.1)) = some sx := by rw [ek]; exact hf
        refine ⟨Fr.drop1 n1 fam fn, Tm.fr1 fn m1 (hT.no n1), Lam.fr fn (by simpa using n31) tn, rows ++ [⟨false, sx.1, sx.2⟩], now.filter (fun c => decide (c.1 ≠ sx.1)), _, _, _, _, rfl, ?_, by simp [lr], ?_, ?_⟩
        · rw [List.map_append]
          exact Ln
        · rw [playL_snoc, pn]
          show stepL now _ = _
          unfold stepL
          rw [hf2]
          exact if_pos rfl
        · intro r hr
          rcases List.mem_append.mp hr with hr | hr
          · exact okr r hr
          · rw [List.mem_singleton.mp hr]
            exact oksx
    · rintro σ Ha ⟨fa, Ta, La, rows, now, v3, v4, v5, v6, rfl, Lr, lr, pn, okr⟩
      walk_at "go"
      exact k q1 rows now Ha n1 fa Ta Lr (by omega) pn okr
end

def sp_law (K : PySem.W.Frag) : Sp := fun vs H Q _ => ∃ (a : Addr) (ns : List Int), vs = [.ref a] ∧ SqL K H a (ns.map V.int) ∧ ns.length ≤ 63 ∧ ∀ H', Q (.bl true) H'

theorem pl_path {p : List (Option Int × Int)} (h : p.length ≤ 1000) : pl 4 (.tuple (p.map spD)) = true := by
  simp only [pl, Bool.and_eq_true, decide_eq_true_eq, List.all_eq_true, List.length_map]
  refine ⟨by omega, fun d hd => ?_⟩
  obtain ⟨⟨k, n⟩, _, rfl⟩ := List.mem_map.mp hd
  cases k <;> simp [spD, pl]
theorem pl_st {s : Wkey × Int} (h : s.1.ok) : pl 5 (stD s) = true := by
  have := pl_path h.2.2
  show (decide (4 ≤ 100000) && ([PyData.tuple (s.1.path.map spD), .str s.1.part, .str s.1.name, .int s.2]).all (pl 4)) = true
  simp only [List.all_cons, this, List.all_nil]
  simp [pl]
theorem pl_row {r : LRow} (h : r.k.ok) : pl 5 r.d = true := by
  have := pl_path h.2.2
  show (decide (5 ≤ 100000) && ([.str r.word, PyData.tuple (r.k.path.map spD), .str r.k.part, .str r.k.name, .int r.n]).all (pl 4)) = true
  simp only [List.all_cons, this, List.all_nil]
  simp [pl]
section
variable {P : Program} {w : World} {K : PySem.W.Frag} {mg : Str → Option Value} {base : Heap}
theorem ok_law (T : Env K mg) {f : Addr} {fd : FuncData} (F : Fun K "law" "law" s_law f fd) : FnOk P w K mg base CX0 8 f fd p_law (sp_law K) := by
  refine F.ok sc_law (fun vs H Q E h => ?_) (fun cdv A outer s H vs Q E hr h => ?_)
  · obtain ⟨a, ns, rfl, _⟩ := h
    rfl
  · obtain ⟨a, ns, rfl, hS, hl, k⟩ := h
    refine ⟨_, (pss_cons (ps_set (i := 1) sc_law.nd rfl (Or.inl rfl) (pe_fx (ok_law_tape T) hr (by decide) (pa_cons (pv 0) pa_nil)))
      (pss_cons (ps_set (i := 2) sc_law.nd rfl (Or.inl rfl) (pe_fx (ok_law_log T) hr (by decide) (pa_cons (pv 1) pa_nil)))
      (pss_cons (ps_for PassesOwn.never rfl (pi_range1 rfl T.m_range (pa_cons (pe_op (op_addU (K := K) rfl) (pe_callB (call_lenU (K := K) rfl) (by rfl) T.m_len (by decide +kernel) (pa_cons (pv 2) pa_nil)) pe_int) pa_nil)) (pg_name (i := 3) sc_law.nd rfl (Or.inl rfl)) (pss_cons (ps_set (i := 4) sc_law.nd rfl (Or.inl rfl) (pe_slice (sl_U (K := K) rfl) (pv 2) po_none (po_some (pv 3))))
      (pss_one (ps_for PassesOwn.never rfl (pi_range1 rfl T.m_range (pa_cons pe_int pa_nil)) (pg_name (i := 5) sc_law.nd rfl (Or.inl rfl)) (pss_cons (ps_set (i := 6) sc_law.nd rfl (Or.inl rfl) (pe_fx (ok_standing T) hr (by decide) (pa_cons (pv 4) pa_nil)))
      (pss_cons (ps_if (PW.pt (pw_or (pt_not (pt_val (pe_fx (ok_law_same T 6) hr (by decide) (pa_cons (pv 6) (pa_cons (pe_fx (ok_law_stands T) hr (by decide) (pa_cons (pe_slice (sl_U (K := K) rfl) (pv 2) po_none (po_some (pv 3))) pa_nil)) pa_nil))))) (pw_or1 (pt_not (pt_val (pe_fx (ok_law_same T 6) hr (by decide) (pa_cons (pv 4) (pa_cons (pe_slice (sl_U (K := K) rfl) (pv 2) po_none (po_some (pv 3))) pa_nil)))))))) (pss_one (ps_ret pe_bl)) pss_nil)
      (pss_one (ps_expr (pe_bm PySem.F.plainAttrs_list PySem.F.slot_list_append PySem.F.type_list_append mt_append (pv 6) (pa_cons (pe_tup (pa_cons (pe_tup pa_nil) (pa_cons pe_str (pa_cons pe_str (pa_cons pe_int pa_nil))))) pa_nil))))))))))
      (pss_one (ps_ret pe_bl))))), ?_⟩
    walk_at "go"
    refine ⟨a, ns, rfl, hS, fun t H1 ht f1 T1 => ?_⟩
    walk_at "go"
    refine ⟨t, H, rfl, T1, fun q rows now H2 nq f2 T2 L2 lr pn okr => ?_⟩
    walk_at "go"
    refine L2.len ?_
    rw [List.length_map]
    walk_at "go"
    refine F_R1 (rows.length + 1) (by omega) (by omega) (by omega) (fun i σ H' => Lq K H' q (rows.map LRow.d) ∧ ∃ (v3 v4 v5 v6 : Option V), σ = [some (.ref a), some (.ref t), some (.ref q), v3, v4, v5, v6]) ⟨L2, _, _, _, _, rfl⟩ ?_ ?_
    · rintro i σ Ha hi ⟨La, v3, v4, v5, v6, rfl⟩
      obtain ⟨now', pn'⟩ := playL_some pn i
      have okt : ∀ r ∈ rows.take i, r.k.ok := fun r hr => okr r (List.mem_of_mem_take hr)
      have okn := play_ok (P := Wkey.ok) okt pn'
      have ln := (play_once pn').2
      have lt : (rows.take i).length ≤ 40 := by rw [List.length_take]; omega
      have cutr : cutA (rows.map LRow.d) none (some (i : Int)) = (rows.take i).map LRow.d := by rw [cutA_take, List.map_take]
      walk_at "go"
      refine La.slice fun p Hb nb fb Lb => ?_
      rw [cutr] at Lb
      walk_at "go"
      refine F_R1 2 rfl (by decide) (by decide) (fun j σ H' => Lq K H' q (rows.map LRow.d) ∧ Lq K H' p ((rows.take i).map LRow.d) ∧ ∃ (v5 v6 : Option V), σ = [some (.ref a), some (.ref t), some (.ref q), some (.int i), some (.ref p), v5, v6]) ⟨La.fr0 fb, Lb, _, _, rfl⟩ ?_ ?_
      · rintro j σ Hc hj ⟨Lc, Lp, v5, v6, rfl⟩
        walk_at "go"
        refine ⟨p, rows.take i, now', rfl, Lp, by omega, pn', fun qf Hd nd fd Ld => ?_⟩
        walk_at "go"
        refine (Lc.fr0 fd).slice fun p2 He ne fe Le => ?_
        rw [cutr] at Le
        walk_at "go"
        refine ⟨p2, rows.take i, rfl, Le, by omega, okt, (fun h => by rw [pn'] at h; cases h), fun now2 pn2 q2 Hf nf ff Lf => ?_⟩
        rw [pn'] at pn2
        cases pn2
        have fdf := fe.trans ff
        refine ⟨_, _, _, rfl, ⟨?_, by decide⟩, (Ld.fr0 fdf).dg, Lf.dg, fun Hg fg => ?_⟩
        · simp only [pl, Bool.and_eq_true, decide_eq_true_eq, List.all_eq_true, List.length_map]
          refine ⟨by omega, fun d hd => ?_⟩
          obtain ⟨s, hs, rfl⟩ := List.mem_map.mp hd
          exact pl_st (okn s hs)
        have fdg := fdf.trans fg
        have fcg := fd.trans fdg
        walk_at "go"
        refine (Lc.fr0 fcg).slice fun p3 Hh nh fh Lh => ?_
        rw [cutr] at Lh
        walk_at "go"
        refine ⟨_, _, _, rfl, ⟨?_, by decide⟩, ((Lp.fr0 fcg).fr0 fh).dg, Lh.dg, fun Hi fi => ?_⟩
        · simp only [pl, Bool.and_eq_true, decide_eq_true_eq, List.all_eq_true, List.length_map]
          refine ⟨by omega, fun d hd => ?_⟩
          obtain ⟨s, hs, rfl⟩ := List.mem_map.mp hd
          exact pl_row (okt s hs)
        have fhi := fh.trans fi
        walk_at "go"
        have Ldi := (Ld.fr0 fdg).fr0 fhi
        refine ⟨Ldi.ty, ?_⟩
        walk_at "go"
        refine mkT (K := K) .nil fun p4 Hj nj fj dj => ?_
        walk_at "go"
        refine mkT (K := K) (.cons dj (.cons (.str "a") (.cons (.str "a") (.cons (.int 0) .nil)))) fun p5 Hk nk fk dk => ?_
        have fck := ((fcg.trans fhi).trans fj).trans fk
        walk_at "go"
        refine ((Ldi.fr0 fj).fr0 fk).app dk (by rw [List.length_map]; omega) fun Hl fl tl Ll => ?_
        have nq' : ∀ {x : Addr} {ds : List PyData}, Lq K Hc x ds → x ∉ [qf] := fun h => by
          obtain ⟨_, e, _⟩ := h
          intro z
          rw [List.mem_singleton.mp z, nd] at e
          cases e
        exact ⟨(Lc.fr0 fck).fr fl (nq' Lc) tl, (Lp.fr0 fck).fr fl (nq' Lp) tl, _, _, rfl⟩
      · rintro σ Hc ⟨Lc, Lp, v5, v6, rfl⟩
        walk_at "go"
        exact ⟨Lc, _, _, _, _, rfl⟩
    · rintro σ Ha ⟨La, v3, v4, v5, v6, rfl⟩
      walk_at "go"
      exact k _
end
section
variable {w : World} {K : PySem.W.Frag} {h : Heap} {mg : Str → Option Value}
theorem mk_stands_behind (X : K.In h) (G : h.Ns mainGlobals mg) {f : Addr} {od an : Option Addr} {sl : Array (Option Value)} {oc kV dc pm cd ct : Value} (a : PySem.W.nsIn K mainGlobals "stands_behind" = some (some (.ref f))) (l : K.lookup f = some ⟨oc, od, .func (PySem.W.fnOf "stands_behind" "stands_behind" (defArgs s_stands_behind) (defBody s_stands_behind) (defScope s_stands_behind) .none kV dc pm an cd ct), sl⟩) (c : PySem.W.codeIn K cd "stands_behind" = true) (k : PySem.W.keepIn K (.ref f) = true) : Loc K mg "stands_behind" p_stands_behind s_stands_behind :=
  have F := fun_mk (st := s_stands_behind) l c k
  ⟨f, _, F, PySem.W.mg_of X G a, F.binds (ps := p_stands_behind) fun _ _ _ _ _ _ us hl => match us, hl with | [_], _ => rfl⟩
theorem mk_standing (X : K.In h) (G : h.Ns mainGlobals mg) {f : Addr} {od an : Option Addr} {sl : Array (Option Value)} {oc kV dc pm cd ct : Value} (a : PySem.W.nsIn K mainGlobals "standing" = some (some (.ref f))) (l : K.lookup f = some ⟨oc, od, .func (PySem.W.fnOf "standing" "standing" (defArgs s_standing) (defBody s_standing) (defScope s_standing) .none kV dc pm an cd ct), sl⟩) (c : PySem.W.codeIn K cd "standing" = true) (k : PySem.W.keepIn K (.ref f) = true) : Loc K mg "standing" p_standing s_standing :=
  have F := fun_mk (st := s_standing) l c k
  ⟨f, _, F, PySem.W.mg_of X G a, F.binds (ps := p_standing) fun _ _ _ _ _ _ us hl => match us, hl with | [_], _ => rfl⟩
theorem mk_law_tape (X : K.In h) (G : h.Ns mainGlobals mg) {f : Addr} {od an : Option Addr} {sl : Array (Option Value)} {oc kV dc pm cd ct : Value} (a : PySem.W.nsIn K mainGlobals "_law_tape" = some (some (.ref f))) (l : K.lookup f = some ⟨oc, od, .func (PySem.W.fnOf "_law_tape" "_law_tape" (defArgs s_law_tape) (defBody s_law_tape) (defScope s_law_tape) .none kV dc pm an cd ct), sl⟩) (c : PySem.W.codeIn K cd "_law_tape" = true) (k : PySem.W.keepIn K (.ref f) = true) : Loc K mg "_law_tape" p_law_tape s_law_tape :=
  have F := fun_mk (st := s_law_tape) l c k
  ⟨f, _, F, PySem.W.mg_of X G a, F.binds (ps := p_law_tape) fun _ _ _ _ _ _ us hl => match us, hl with | [_], _ => rfl⟩
theorem mk_law_draw (X : K.In h) (G : h.Ns mainGlobals mg) {f : Addr} {od an : Option Addr} {sl : Array (Option Value)} {oc kV dc pm cd ct : Value} (a : PySem.W.nsIn K mainGlobals "_law_draw" = some (some (.ref f))) (l : K.lookup f = some ⟨oc, od, .func (PySem.W.fnOf "_law_draw" "_law_draw" (defArgs s_law_draw) (defBody s_law_draw) (defScope s_law_draw) .none kV dc pm an cd ct), sl⟩) (c : PySem.W.codeIn K cd "_law_draw" = true) (k : PySem.W.keepIn K (.ref f) = true) : Loc K mg "_law_draw" p_law_draw s_law_draw :=
  have F := fun_mk (st := s_law_draw) l c k
  ⟨f, _, F, PySem.W.mg_of X G a, F.binds (ps := p_law_draw) fun _ _ _ _ _ _ us hl => match us, hl with | [_, _], _ => rfl⟩
theorem mk_law_number (X : K.In h) (G : h.Ns mainGlobals mg) {f : Addr} {od an : Option Addr} {sl : Array (Option Value)} {oc kV dc pm cd ct : Value} (a : PySem.W.nsIn K mainGlobals "_law_number" = some (some (.ref f))) (l : K.lookup f = some ⟨oc, od, .func (PySem.W.fnOf "_law_number" "_law_number" (defArgs s_law_number) (defBody s_law_number) (defScope s_law_number) .none kV dc pm an cd ct), sl⟩) (c : PySem.W.codeIn K cd "_law_number" = true) (k : PySem.W.keepIn K (.ref f) = true) : Loc K mg "_law_number" p_law_number s_law_number :=
  have F := fun_mk (st := s_law_number) l c k
  ⟨f, _, F, PySem.W.mg_of X G a, F.binds (ps := p_law_number) fun _ _ _ _ _ _ us hl => match us, hl with | [_], _ => rfl⟩
theorem mk_law_same (X : K.In h) (G : h.Ns mainGlobals mg) {f : Addr} {od an : Option Addr} {sl : Array (Option Value)} {oc kV dc pm cd ct : Value} (a : PySem.W.nsIn K mainGlobals "_law_same" = some (some (.ref f))) (l : K.lookup f = some ⟨oc, od, .func (PySem.W.fnOf "_law_same" "_law_same" (defArgs s_law_same) (defBody s_law_same) (defScope s_law_same) .none kV dc pm an cd ct), sl⟩) (c : PySem.W.codeIn K cd "_law_same" = true) (k : PySem.W.keepIn K (.ref f) = true) : Loc K mg "_law_same" p_law_same s_law_same :=
  have F := fun_mk (st := s_law_same) l c k
  ⟨f, _, F, PySem.W.mg_of X G a, F.binds (ps := p_law_same) fun _ _ _ _ _ _ us hl => match us, hl with | [_, _], _ => rfl⟩
theorem mk_law_stands (X : K.In h) (G : h.Ns mainGlobals mg) {f : Addr} {od an : Option Addr} {sl : Array (Option Value)} {oc kV dc pm cd ct : Value} (a : PySem.W.nsIn K mainGlobals "_law_stands" = some (some (.ref f))) (l : K.lookup f = some ⟨oc, od, .func (PySem.W.fnOf "_law_stands" "_law_stands" (defArgs s_law_stands) (defBody s_law_stands) (defScope s_law_stands) .none kV dc pm an cd ct), sl⟩) (c : PySem.W.codeIn K cd "_law_stands" = true) (k : PySem.W.keepIn K (.ref f) = true) : Loc K mg "_law_stands" p_law_stands s_law_stands :=
  have F := fun_mk (st := s_law_stands) l c k
  ⟨f, _, F, PySem.W.mg_of X G a, F.binds (ps := p_law_stands) fun _ _ _ _ _ _ us hl => match us, hl with | [_], _ => rfl⟩
theorem mk_law_work (X : K.In h) (G : h.Ns mainGlobals mg) {f : Addr} {od an : Option Addr} {sl : Array (Option Value)} {oc kV dc pm cd ct : Value} (a : PySem.W.nsIn K mainGlobals "_law_work" = some (some (.ref f))) (l : K.lookup f = some ⟨oc, od, .func (PySem.W.fnOf "_law_work" "_law_work" (defArgs s_law_work) (defBody s_law_work) (defScope s_law_work) .none kV dc pm an cd ct), sl⟩) (c : PySem.W.codeIn K cd "_law_work" = true) (k : PySem.W.keepIn K (.ref f) = true) : Loc K mg "_law_work" p_law_work s_law_work :=
  have F := fun_mk (st := s_law_work) l c k
  ⟨f, _, F, PySem.W.mg_of X G a, F.binds (ps := p_law_work) fun _ _ _ _ _ _ us hl => match us, hl with | [_], _ => rfl⟩
theorem mk_law_log (X : K.In h) (G : h.Ns mainGlobals mg) {f : Addr} {od an : Option Addr} {sl : Array (Option Value)} {oc kV dc pm cd ct : Value} (a : PySem.W.nsIn K mainGlobals "_law_log" = some (some (.ref f))) (l : K.lookup f = some ⟨oc, od, .func (PySem.W.fnOf "_law_log" "_law_log" (defArgs s_law_log) (defBody s_law_log) (defScope s_law_log) .none kV dc pm an cd ct), sl⟩) (c : PySem.W.codeIn K cd "_law_log" = true) (k : PySem.W.keepIn K (.ref f) = true) : Loc K mg "_law_log" p_law_log s_law_log :=
  have F := fun_mk (st := s_law_log) l c k
  ⟨f, _, F, PySem.W.mg_of X G a, F.binds (ps := p_law_log) fun _ _ _ _ _ _ us hl => match us, hl with | [_], _ => rfl⟩
theorem mk_law (X : K.In h) (G : h.Ns mainGlobals mg) {f : Addr} {od an : Option Addr} {sl : Array (Option Value)} {oc kV dc pm cd ct : Value} (a : PySem.W.nsIn K mainGlobals "law" = some (some (.ref f))) (l : K.lookup f = some ⟨oc, od, .func (PySem.W.fnOf "law" "law" (defArgs s_law) (defBody s_law) (defScope s_law) .none kV dc pm an cd ct), sl⟩) (c : PySem.W.codeIn K cd "law" = true) (k : PySem.W.keepIn K (.ref f) = true) : Loc K mg "law" p_law s_law :=
  have F := fun_mk (st := s_law) l c k
  ⟨f, _, F, PySem.W.mg_of X G a, F.binds (ps := p_law) fun _ _ _ _ _ _ us hl => match us, hl with | [_], _ => rfl⟩
theorem all_env (X : K.In h) (G : h.Ns mainGlobals mg)
    {f0 : Addr} {od0 an0 : Option Addr} {sl0 : Array (Option Value)} {oc0 kV0 dc0 pm0 cd0 ct0 : Value}
    (a0 : PySem.W.nsIn K mainGlobals "stands_behind" = some (some (.ref f0))) (l0 : K.lookup f0 = some ⟨oc0, od0, .func (PySem.W.fnOf "stands_behind" "stands_behind" (defArgs s_stands_behind) (defBody s_stands_behind) (defScope s_stands_behind) .none kV0 dc0 pm0 an0 cd0 ct0), sl0⟩) (c0 : PySem.W.codeIn K cd0 "stands_behind" = true) (k0 : PySem.W.keepIn K (.ref f0) = true)
    {f1 : Addr} {od1 an1 : Option Addr} {sl1 : Array (Option Value)} {oc1 kV1 dc1 pm1 cd1 ct1 : Value}
    (a1 : PySem.W.nsIn K mainGlobals "standing" = some (some (.ref f1))) (l1 : K.lookup f1 = some ⟨oc1, od1, .func (PySem.W.fnOf "standing" "standing" (defArgs s_standing) (defBody s_standing) (defScope s_standing) .none kV1 dc1 pm1 an1 cd1 ct1), sl1⟩) (c1 : PySem.W.codeIn K cd1 "standing" = true) (k1 : PySem.W.keepIn K (.ref f1) = true)
    {f2 : Addr} {od2 an2 : Option Addr} {sl2 : Array (Option Value)} {oc2 kV2 dc2 pm2 cd2 ct2 : Value}
    (a2 : PySem.W.nsIn K mainGlobals "_law_tape" = some (some (.ref f2))) (l2 : K.lookup f2 = some ⟨oc2, od2, .func (PySem.W.fnOf "_law_tape" "_law_tape" (defArgs s_law_tape) (defBody s_law_tape) (defScope s_law_tape) .none kV2 dc2 pm2 an2 cd2 ct2), sl2⟩) (c2 : PySem.W.codeIn K cd2 "_law_tape" = true) (k2 : PySem.W.keepIn K (.ref f2) = true)
    {f3 : Addr} {od3 an3 : Option Addr} {sl3 : Array (Option Value)} {oc3 kV3 dc3 pm3 cd3 ct3 : Value}
    (a3 : PySem.W.nsIn K mainGlobals "_law_draw" = some (some (.ref f3))) (l3 : K.lookup f3 = some ⟨oc3, od3, .func (PySem.W.fnOf "_law_draw" "_law_draw" (defArgs s_law_draw) (defBody s_law_draw) (defScope s_law_draw) .none kV3 dc3 pm3 an3 cd3 ct3), sl3⟩) (c3 : PySem.W.codeIn K cd3 "_law_draw" = true) (k3 : PySem.W.keepIn K (.ref f3) = true)
    {f4 : Addr} {od4 an4 : Option Addr} {sl4 : Array (Option Value)} {oc4 kV4 dc4 pm4 cd4 ct4 : Value}
    (a4 : PySem.W.nsIn K mainGlobals "_law_number" = some (some (.ref f4))) (l4 : K.lookup f4 = some ⟨oc4, od4, .func (PySem.W.fnOf "_law_number" "_law_number" (defArgs s_law_number) (defBody s_law_number) (defScope s_law_number) .none kV4 dc4 pm4 an4 cd4 ct4), sl4⟩) (c4 : PySem.W.codeIn K cd4 "_law_number" = true) (k4 : PySem.W.keepIn K (.ref f4) = true)
    {f5 : Addr} {od5 an5 : Option Addr} {sl5 : Array (Option Value)} {oc5 kV5 dc5 pm5 cd5 ct5 : Value}
    (a5 : PySem.W.nsIn K mainGlobals "_law_same" = some (some (.ref f5))) (l5 : K.lookup f5 = some ⟨oc5, od5, .func (PySem.W.fnOf "_law_same" "_law_same" (defArgs s_law_same) (defBody s_law_same) (defScope s_law_same) .none kV5 dc5 pm5 an5 cd5 ct5), sl5⟩) (c5 : PySem.W.codeIn K cd5 "_law_same" = true) (k5 : PySem.W.keepIn K (.ref f5) = true)
    {f6 : Addr} {od6 an6 : Option Addr} {sl6 : Array (Option Value)} {oc6 kV6 dc6 pm6 cd6 ct6 : Value}
    (a6 : PySem.W.nsIn K mainGlobals "_law_stands" = some (some (.ref f6))) (l6 : K.lookup f6 = some ⟨oc6, od6, .func (PySem.W.fnOf "_law_stands" "_law_stands" (defArgs s_law_stands) (defBody s_law_stands) (defScope s_law_stands) .none kV6 dc6 pm6 an6 cd6 ct6), sl6⟩) (c6 : PySem.W.codeIn K cd6 "_law_stands" = true) (k6 : PySem.W.keepIn K (.ref f6) = true)
    {f7 : Addr} {od7 an7 : Option Addr} {sl7 : Array (Option Value)} {oc7 kV7 dc7 pm7 cd7 ct7 : Value}
    (a7 : PySem.W.nsIn K mainGlobals "_law_work" = some (some (.ref f7))) (l7 : K.lookup f7 = some ⟨oc7, od7, .func (PySem.W.fnOf "_law_work" "_law_work" (defArgs s_law_work) (defBody s_law_work) (defScope s_law_work) .none kV7 dc7 pm7 an7 cd7 ct7), sl7⟩) (c7 : PySem.W.codeIn K cd7 "_law_work" = true) (k7 : PySem.W.keepIn K (.ref f7) = true)
    {f8 : Addr} {od8 an8 : Option Addr} {sl8 : Array (Option Value)} {oc8 kV8 dc8 pm8 cd8 ct8 : Value}
    (a8 : PySem.W.nsIn K mainGlobals "_law_log" = some (some (.ref f8))) (l8 : K.lookup f8 = some ⟨oc8, od8, .func (PySem.W.fnOf "_law_log" "_law_log" (defArgs s_law_log) (defBody s_law_log) (defScope s_law_log) .none kV8 dc8 pm8 an8 cd8 ct8), sl8⟩) (c8 : PySem.W.codeIn K cd8 "_law_log" = true) (k8 : PySem.W.keepIn K (.ref f8) = true)
    {f9 : Addr} {od9 an9 : Option Addr} {sl9 : Array (Option Value)} {oc9 kV9 dc9 pm9 cd9 ct9 : Value}
    (a9 : PySem.W.nsIn K mainGlobals "law" = some (some (.ref f9))) (l9 : K.lookup f9 = some ⟨oc9, od9, .func (PySem.W.fnOf "law" "law" (defArgs s_law) (defBody s_law) (defScope s_law) .none kV9 dc9 pm9 an9 cd9 ct9), sl9⟩) (c9 : PySem.W.codeIn K cd9 "law" = true) (k9 : PySem.W.keepIn K (.ref f9) = true)
    (z_abs : PySem.W.nsIn K mainGlobals "abs" = some none)
    (z_all : PySem.W.nsIn K mainGlobals "all" = some none)
    (z_bool : PySem.W.nsIn K mainGlobals "bool" = some none)
    (z_int : PySem.W.nsIn K mainGlobals "int" = some none)
    (z_isinstance : PySem.W.nsIn K mainGlobals "isinstance" = some none)
    (z_len : PySem.W.nsIn K mainGlobals "len" = some none)
    (z_list : PySem.W.nsIn K mainGlobals "list" = some none)
    (z_range : PySem.W.nsIn K mainGlobals "range" = some none)
    (z_str : PySem.W.nsIn K mainGlobals "str" = some none)
    (z_tuple : PySem.W.nsIn K mainGlobals "tuple" = some none) : Env K mg :=
  { l_stands_behind := mk_stands_behind X G a0 l0 c0 k0,
    l_standing := mk_standing X G a1 l1 c1 k1,
    l_law_tape := mk_law_tape X G a2 l2 c2 k2,
    l_law_draw := mk_law_draw X G a3 l3 c3 k3,
    l_law_number := mk_law_number X G a4 l4 c4 k4,
    l_law_same := mk_law_same X G a5 l5 c5 k5,
    l_law_stands := mk_law_stands X G a6 l6 c6 k6,
    l_law_work := mk_law_work X G a7 l7 c7 k7,
    l_law_log := mk_law_log X G a8 l8 c8 k8,
    l_law := mk_law X G a9 l9 c9 k9,
    m_abs := PySem.W.mg_none_of X G z_abs,
    m_all := PySem.W.mg_none_of X G z_all,
    m_bool := PySem.W.mg_none_of X G z_bool,
    m_int := PySem.W.mg_none_of X G z_int,
    m_isinstance := PySem.W.mg_none_of X G z_isinstance,
    m_len := PySem.W.mg_none_of X G z_len,
    m_list := PySem.W.mg_none_of X G z_list,
    m_range := PySem.W.mg_none_of X G z_range,
    m_str := PySem.W.mg_none_of X G z_str,
    m_tuple := PySem.W.mg_none_of X G z_tuple }
theorem walk {l : PySem.W.OpenLaw} {q : Program} {loose : List Str} {XP : (Str → Option Value) → Heap → Prop} {YP : World → Heap → Prop} {d : DefRec} {K : Params → PySem.W.Frag} (hn : l.most = some 63) (hdf : d.params.defaults = [])
    (hY : ∀ (w : World) (h : Heap), YP w h → (K w.params).In h) (hd : d.name = "law")
    (F : ∀ (w : World) (mg : Str → Option Value) (h : Heap), (K w.params).In h → h.Ns mainGlobals mg → Env (K w.params) mg) :
    PySem.W.WalkO q loose XP YP l.row.toRowW d [] (fun f vs => PySem.call f vs) :=
  L2.walk_of (n := 63) (k := 8) (x := "_law_script") (CX := fun _ => CX0) (sp := fun w => sp_law (K w.params)) hn (by decide) hdf ⟨rfl, by decide, by decide⟩ hY (fun w mg fa h KX G hmg => by
    have T := F w mg h KX G
    obtain ⟨f, fd, F1, m, b⟩ := T.l_law.ex
    rw [hd] at hmg
    have e := hmg.symm.trans m
    cases e
    refine ⟨fd, fun s v => ?_, fun base _ _ => ?_⟩
    · obtain ⟨oc, od, kV, doc, pm, an, cdv, ct, osl, rfl, lk, hcd⟩ := F1.ex
      exact .of_eq rfl
    · exact ok_law T F1) (fun _ _ a ns hl _ hS => ⟨a, ns, rfl, hS, hl, fun _ => rfl⟩) fun _ _ _ _ _ z => z
end
end LW
open PySem PySem.W PyProof.Rows
set_option maxRecDepth 100000 in
set_option maxHeartbeats 0 in
theorem PySem.Challenge.cw_viewwood_k71_what_stands_holds : PySem.Challenge.rw_viewwood_k71_what_stands.Holds := by
  w_on; o_law; k_head; (case hw => w_witness2)
  k_fill
  refine LW.walk (l := PySem.Challenge.rw_viewwood_k71_what_stands) rfl rfl (fun w h Y => PySem.W.kIn_of Y) rfl ?F
  case F =>
    intro w mg h KX G
    refine' LW.all_env KX G ?a0 ?l0 ?c0 ?k0 ?a1 ?l1 ?c1 ?k1 ?a2 ?l2 ?c2 ?k2 ?a3 ?l3 ?c3 ?k3 ?a4 ?l4 ?c4 ?k4 ?a5 ?l5 ?c5 ?k5 ?a6 ?l6 ?c6 ?k6 ?a7 ?l7 ?c7 ?k7 ?a8 ?l8 ?c8 ?k8 ?a9 ?l9 ?c9 ?k9 ?z_abs ?z_all ?z_bool ?z_int ?z_isinstance ?z_len ?z_list ?z_range ?z_str ?z_tuple
    (case a0 => k_is)
    (case l0 => k_is)
    (case c0 => k_is)
    (case k0 => k_is)
    (case a1 => k_is)
    (case l1 => k_is)
    (case c1 => k_is)
    (case k1 => k_is)
    (case a2 => k_is)
    (case l2 => k_is)
    (case c2 => k_is)
    (case k2 => k_is)
    (case a3 => k_is)
    (case l3 => k_is)
    (case c3 => k_is)
    (case k3 => k_is)
    (case a4 => k_is)
    (case l4 => k_is)
    (case c4 => k_is)
    (case k4 => k_is)
    (case a5 => k_is)
    (case l5 => k_is)
    (case c5 => k_is)
    (case k5 => k_is)
    (case a6 => k_is)
    (case l6 => k_is)
    (case c6 => k_is)
    (case k6 => k_is)
    (case a7 => k_is)
    (case l7 => k_is)
    (case c7 => k_is)
    (case k7 => k_is)
    (case a8 => k_is)
    (case l8 => k_is)
    (case c8 => k_is)
    (case k8 => k_is)
    (case a9 => k_is)
    (case l9 => k_is)
    (case c9 => k_is)
    (case k9 => k_is)
    (case z_abs => k_is)
    (case z_all => k_is)
    (case z_bool => k_is)
    (case z_int => k_is)
    (case z_isinstance => k_is)
    (case z_len => k_is)
    (case z_list => k_is)
    (case z_range => k_is)
    (case z_str => k_is)
    (case z_tuple => k_is)

