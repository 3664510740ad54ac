import PyProof.Rows.All
import Wide.All
import OpenK.AllK
import Wide.FinOn
import HandS.ForMost
import HandS.Wide
import HandS.IsInst
import HandS.TupAny
import HandS.Codes
import HandS.Deep
import HandS.Rev
import HandS.TupLe
import PyProof.NeKinds
import PyProof.FactsAll.dict_1
import PyProof.FactsAll.dict_2
import HandS.More
import HandS.Walk
import HandS.RevRange
import HandS.Conv
import HandS.DictTup
import HandS.ReCall
import HandS.Iter
import KE.KDictKeyed
import KE.KDictLaw
import KE.KDictWalk
import PyProof.DictRoadsH
import PyProof.Rows.RegStrCode
import KE.SortData
import KE.KDictSum
import KE.KDictCopyH
import KE.KDictPairs
import PySem.Challenge.RW_viewwood_k19_parts_in_rows
set_option Elab.async false
set_option linter.all false
set_option maxRecDepth 100000
/-! a dict against a text: == is false, != true -/
namespace U
open PySem PySem.SeqAt
open PySem.AutoSeq1 (wpAny_loadPart')
open PySem.MeetsSeq PySem.MeetsSeq2 PySem.MeetsSeq3
theorem dict_ne_declines_str (l : Addr) (o : Obj) (b : Str) (u : Tok) (hc : o.cls = .type "dict") (es : Array DictEntry) (ep : Nat) (hd : o.data = .dict es ep) :
    Meets (Builtin.«dict.__ne__» ⟨[.ref l, .str b u], []⟩) (fun _ R s => s.heap.get? l = some o ∧ R (.ok (.ret .notImplemented)) s) :=
  .of_wp fun prog w A R s h => by
    obtain ⟨hp, g, d, tk, os⟩ := s; obtain ⟨hl, h⟩ := h; have f1 := F.sub_str_dict
    obtain ⟨cls, dd, data, sl⟩ := o
    simp only at hc hd
    subst hc hd
    wp_walk using wpAny_loadPart' hl, wpAny_load hl
    exact ⟨_, rfl, h⟩
theorem str_ne_declines_dict (b : Str) (u : Tok) (l : Addr) (o : Obj) (hc : o.cls = .type "dict") (es : Array DictEntry) (ep : Nat) (hd : o.data = .dict es ep) :
    Meets (Builtin.«str.__ne__» ⟨[.str b u, .ref l], []⟩) (fun _ R s => s.heap.get? l = some o ∧ R (.ok (.ret .notImplemented)) s) :=
  .of_wp fun prog w A R s h => by
    obtain ⟨hp, g, d, tk, os⟩ := s; obtain ⟨hl, h⟩ := h
    obtain ⟨cls, dd, data, sl⟩ := o
    simp only at hc hd
    subst hc hd
    wp_walk using wpAny_loadPart' hl, wpAny_load hl
    exact ⟨_, rfl, h⟩
section
variable {A : Around} {s : Shared}
theorem rcNe_dict_str {l : Addr} {o : Obj} {es : Array DictEntry} {ep : Nat} (b : Str) (u : Tok) (ho : s.heap.get? l = some o) (hc : o.cls = .type "dict") (hd : o.data = .dict es ep) (hu : A.units < cLine) : RcNeAt A s (.ref l) (.str b u) true := fun prog w E Q h =>
  rc_ne_decline_or (k := false) ⟨_, ho, hc⟩ (typeIs_str s b u) (by decide) F.sub_str_dict F.slot_dict_ne F.slot_str_ne_refl
    (fun _ hq => call_meets F.slot_dict_ne ⟨_, ho, hc⟩ F.entry_dict_ne (F.args_dict_ne_2 _ _) (dict_ne_declines_str l o b u hc es ep hd) ⟨ho, hq⟩)
    (fun _ hq => call_meets F.slot_str_ne_refl (typeIs_str s b u) F.entry_str_ne (F.args_str_ne_2 _ _) (str_ne_declines_dict b u l o hc es ep hd) ⟨ho, hq⟩)
    (fun _ hq => wpAny_of_eq (rfl : isSame (.ref l) (.str b u) = pure false) hq) (.inr hu) h
end
theorem dict_eq_declines_str (l : Addr) (o : Obj) (b : Str) (u : Tok) (hc : o.cls = .type "dict") (es : Array DictEntry) (ep : Nat) (hd : o.data = .dict es ep) :
    Meets (Builtin.«dict.__eq__» ⟨[.ref l, .str b u], []⟩) (fun _ R s => s.heap.get? l = some o ∧ R (.ok (.ret .notImplemented)) s) :=
  .of_wp fun prog w A R s h => by
    obtain ⟨hp, g, d, tk, os⟩ := s; obtain ⟨hl, h⟩ := h; have f1 := F.sub_str_dict
    obtain ⟨cls, dd, data, sl⟩ := o
    simp only at hc hd
    subst hc hd
    wp_walk using wpAny_loadPart' hl, wpAny_load hl
    exact ⟨_, rfl, h⟩
theorem str_eq_declines_dict (b : Str) (u : Tok) (l : Addr) (o : Obj) (hc : o.cls = .type "dict") (es : Array DictEntry) (ep : Nat) (hd : o.data = .dict es ep) :
    Meets (Builtin.«str.__eq__» ⟨[.str b u, .ref l], []⟩) (fun _ R s => s.heap.get? l = some o ∧ R (.ok (.ret .notImplemented)) s) :=
  .of_wp fun prog w A R s h => by
    obtain ⟨hp, g, d, tk, os⟩ := s; obtain ⟨hl, h⟩ := h
    obtain ⟨cls, dd, data, sl⟩ := o
    simp only at hc hd
    subst hc hd
    wp_walk using wpAny_loadPart' hl, wpAny_load hl
    exact ⟨_, rfl, h⟩
section
variable {A : Around} {s : Shared}
theorem rcEq_dict_str {l : Addr} {o : Obj} {es : Array DictEntry} {ep : Nat} (b : Str) (u : Tok) (ho : s.heap.get? l = some o) (hc : o.cls = .type "dict") (hd : o.data = .dict es ep) (hu : A.units < cLine) : RcAt A s (.ref l) (.str b u) false := fun prog w E Q h =>
  rc_eq_decline_or (k := false) ⟨_, ho, hc⟩ (typeIs_str s b u) (by decide) F.sub_str_dict F.slot_dict_eq F.slot_str_eq_refl
    (fun _ hq => call_meets F.slot_dict_eq ⟨_, ho, hc⟩ F.entry_dict_eq (F.args_dict_eq_2 _ _) (dict_eq_declines_str l o b u hc es ep hd) ⟨ho, hq⟩)
    (fun _ hq => call_meets F.slot_str_eq_refl (typeIs_str s b u) F.entry_str_eq (F.args_str_eq_2 _ _) (str_eq_declines_dict b u l o hc es ep hd) ⟨ho, hq⟩)
    (fun _ hq => wpAny_of_eq (rfl : isSame (.ref l) (.str b u) = pure false) hq) (.inr hu) h
end
end U
namespace U
open PySem PySem.Spec PyProof.Rows L2
def rNeDS : R2 := fun x y H Q => ∃ p kvs z, x = .ref p ∧ H p = some (.dK kvs) ∧ y = .str z ∧ Q (.bl true) H
theorem op_neDS {X : Cx} (hu : X.A.units + 64 < cLine) : OpR X (compareOp .NotEq) rNeDS := by
  intro pins s σ H x y v u Q I rx ry h
  obtain ⟨p, kvs, z, rfl, hp, rfl, q⟩ := h
  obtain ⟨t, rfl⟩ := ry
  cases rx
  obtain ⟨_, _, _, _, o, es, ep, ho, hex, hd, _⟩ := I.hok p _ hp
  exact rcNe_dict_str z t ho hex.1 hd (by omega) _ _ _ _ ⟨.bl true, H, I, rfl, q⟩
def rEqDS : R2 := fun x y H Q => ∃ p kvs z, x = .ref p ∧ H p = some (.dK kvs) ∧ y = .str z ∧ Q (.bl false) H
theorem op_eqDS {X : Cx} (hu : X.A.units + 64 < cLine) : OpR X (compareOp .Eq) rEqDS := by
  intro pins s σ H x y v u Q I rx ry h
  obtain ⟨p, kvs, z, rfl, hp, rfl, q⟩ := h
  obtain ⟨t, rfl⟩ := ry
  cases rx
  obtain ⟨_, _, _, _, o, es, ep, ho, hex, hd, _⟩ := I.hok p _ hp
  exact rcEq_dict_str z t ho hex.1 hd (by omega) _ _ _ _ ⟨.bl false, H, I, rfl, q⟩
end U

/-! Uni: one rule for each construct whatever its values are, and short steps of readings. -/
namespace U
open PySem PySem.Spec PyProof.Rows L2
/-! ### a def that stands in the text, with its promise -/
structure Loc (K : PySem.W.Frag) (mg : Str → Option Value) (x : Str) (ps : List Str) (st : Stmt) : Prop where
  ex : ∃ f fd, Fun K x x st f fd ∧ mg x = some (.ref f) ∧ Binds K fd ps []
structure Fx (P : Program) (w : World) (K : PySem.W.Frag) (mg : Str → Option Value) (base : Heap) (k : Nat) (x : Str) (ps : List Str) (sp : Sp) : Prop where
  ex : ∃ f fd, FnOk P w K mg base CX0 k f fd ps sp ∧ mg x = some (.ref f) ∧ PySem.W.keepIn K (.ref f) = true ∧ Binds K fd ps []
theorem Fx.mono {P : Program} {w : World} {K : PySem.W.Frag} {mg : Str → Option Value} {base : Heap} {j k : Nat} {x : Str} {ps : List Str} {sp : Sp} (F : Fx P w K mg base j x ps sp) (h : j ≤ k) : Fx P w K mg base k x ps sp := by
  obtain ⟨f, fd, a, b, c, d⟩ := F.ex
  exact ⟨f, fd, a.mono h, b, c, d⟩
theorem Loc.ok {P : Program} {w : World} {K : PySem.W.Frag} {mg : Str → Option Value} {base : Heap} {x : Str} {st : Stmt} {N ps : List Str} {k : Nat} {sp : Sp} (L : Loc K mg x ps st) (S : FnScope N ps (defScope st)) (len : ∀ vs H Q E, sp vs H Q E → vs.length = ps.length)
    (hbody : ∀ (f : Addr) (cdv : Value) (A : Around) (outer : List Env) (s : Shared) (H : Hp) (vs : List V) (Q : VK) (E : XK), Room k (A.deeper (envOfC x (defScope st) s.heap.objs.size f cdv)) → sp vs H Q E →
      ∃ t, PSs (cxOf CX0 P w K mg base N x (defScope st) f cdv A outer s H E).nox (defBody st) t ∧ t ⟨fun _ H' => Q .non H', Q, fun _ _ => False, fun _ _ => False⟩ (start N vs) H) : Fx P w K mg base (k + 1) x ps sp := by
  obtain ⟨f, fd, F, m, b⟩ := L.ex
  exact ⟨f, fd, F.ok S len fun cdv A outer s H vs Q E hr h => hbody f cdv A outer s H vs Q E hr h, m, F.kp, b⟩
theorem pe_fx {X : Cx} {k j : Nat} {x : Str} {ps : List Str} {sp : Sp} {e : Expr} {es : List Expr} {t : TA} {p pos : Pos} (G : Fx X.prog X.w X.K X.mg X.base k x ps sp) (hr : Room j X.A) (hkj : k ≤ j) (ha : PA X (e :: es) t) (hg : Gl X x := by rfl)
    (hdb : (x == ("__debug__" : Str)) = false := by decide +kernel)
    (he : starEach (e :: es) X.env = (false, eval e X.env) :: starEach es X.env := by rfl) (hpl : (backTo pos (starEach es X.env)).any (·.1) = false := by rfl) : PE X (.Call (.Name x p) (e :: es) [] pos) (tCall sp [] E0 t) := by
  obtain ⟨f, fd, a, b, c, d⟩ := G.ex
  exact pe_call a (hr.mono hkj) hg b c d .nil pass0 ha (hdb := hdb) (he := he) (hpl := hpl)

/-! ### a constant tuple of the top -/
def KTup (K : PySem.W.Frag) (a : Addr) (xs : List V) : Prop := ∀ H, SqT K H a xs
def tKT (K : PySem.W.Frag) (xs : List V) : TE := fun _ H Q => ∀ a, KTup K a xs → Q (.ref a) H
theorem pe_ktup {X : Cx} {e : Expr} {a : Addr} {xs : List V} (h : PE X e (tC (.ref a))) (k : KTup X.K a xs) : PE X e (tKT X.K xs) := ⟨fun pins s σ H Q I q => h.run pins s σ H Q I (q a k)⟩
theorem ktup_of {K : PySem.W.Frag} {a : Addr} {xs : List V} {od : Option Addr} {its : Array Value} {n : Nat} {sl : Array (Option Value)} (h : K.lookup a = some ⟨.type "tuple", od, .seq its n, sl⟩) (v : Vals xs its.toList) (z : its.size ≤ 1000 := by exact Nat.le_of_ble_eq_true rfl) : KTup K a xs := fun _ =>
  .inr ⟨_, its, n, h, rfl, rfl, Nat.le_trans z (by decide), v⟩
theorem vs_nil : Vals [] [] := .nil
theorem vs_str {x : Str} {t : Tok} {xs : List V} {us : List Value} (h : Vals xs us) : Vals (.str x :: xs) (.str x t :: us) := .cons ⟨t, rfl⟩ h
theorem vs_int {x : Int} {t : Tok} {xs : List V} {us : List Value} (h : Vals xs us) : Vals (.int x :: xs) (.int x t :: us) := .cons ⟨t, rfl⟩ h
/-! ### one rule a construct -/
section
variable {X : Cx}
abbrev r2or (r r' : R2) : R2 := fun x y H Q => r x y H Q ∨ r' x y H Q
def rStrCat : R2 := fun x y H Q => ∃ i j, x = .str i ∧ y = .str j ∧ i.length + j.length ≤ sizeLine ∧ Q (.str (i ++ j)) H
def rAddU (K : PySem.W.Frag) : R2 := r2or (r2or (rI0 fun i j => .int (i + j)) rStrCat) (r2or (rCatA K) rCat)
theorem op_addU {K} (hK : X.K = K) : OpR X (binaryOp .Add) (rAddU K) := by subst hK; exact (op_add.or op_add_str).or (op_catA.or op_cat)
def rMaxU : List V → Hp → VK → Prop := fun xs H Q => ∃ i j, xs = [.int i, .int j] ∧ Q (.int (if j > i then j else i)) H
def rMinU : List V → Hp → VK → Prop := fun xs H Q => ∃ i j, xs = [.int i, .int j] ∧ Q (.int (if j < i then j else i)) H
def rAbsU : List V → Hp → VK → Prop := fun xs H Q => ∃ i, xs = [.int i] ∧ Q (.int (if i < 0 then -i else i)) H
def rIntU : List V → Hp → VK → Prop := fun xs H Q => (∃ i, xs = [.int i] ∧ Q (.int i) H) ∨ ∃ k, xs = [.bl k] ∧ Q (.int (if k then 1 else 0)) H
theorem call_maxU (hc : X.calm = true) : CallR X (.builtin "max") rMaxU := call_max2 hc
theorem call_minU (hc : X.calm = true) : CallR X (.builtin "min") rMinU := call_min2 hc
theorem call_absU : CallR X (.builtin "abs") rAbsU := call_abs
theorem call_intU : CallR X (.type "int") rIntU := call_int1
def rLenU (K : PySem.W.Frag) : List V → Hp → VK → Prop := fun xs H Q => (∃ p ys, xs = [.ref p] ∧ (SqL K H p ys ∨ SqT K H p ys) ∧ Q (.int ys.length) H) ∨ (∃ z, xs = [.str z] ∧ z.length ≤ sizeLine ∧ Q (.int z.length) H)
theorem call_lenU {K} (hK : X.K = K) : CallR X (.builtin "len") (rLenU K) := by subst hK; exact call_len_seq.or call_len_str
theorem call_isiU {K} (hK : X.K = K) : CallR X (.builtin "isinstance") (rIsi K) := by subst hK; exact call_isi
theorem ix_U {K} (hK : X.K = K) : IxR X (rIx K) := by subst hK; exact ix_seq
theorem call_allU {K} (hK : X.K = K) (hc : X.calm = true) : CallR X (.builtin "all") (rAll K) := by subst hK; exact cr_all hc
theorem call_anyU {K} (hK : X.K = K) (hc : X.calm = true) : CallR X (.builtin "any") (rAny K) := by subst hK; exact cr_any hc
theorem call_sumU {K} (hK : X.K = K) (hc : X.calm = true) : CallR X (.builtin "sum") (rSum K) := by subst hK; exact cr_sum hc
def rListU (K : PySem.W.Frag) : List V → Hp → VK → Prop := fun xs H Q => ∃ p ys, xs = [.ref p] ∧ (SqL K H p ys ∨ SqT K H p ys) ∧ ∀ l, H l = none → Q (.ref l) (upd H l (.lst ys))
theorem call_listU {K} (hK : X.K = K) : CallR X (.type "list") (rListU K) := by subst hK; exact call_list_of
def rTupleU (K : PySem.W.Frag) : List V → Hp → VK → Prop := fun xs H Q => ∃ p ys, xs = [.ref p] ∧ ((SqL K H p ys ∧ ∀ l, H l = none → Q (.ref l) (upd H l (.tup ys))) ∨ (SqT K H p ys ∧ Q (.ref p) H))
theorem call_tupleU {K} (hK : X.K = K) : CallR X (.type "tuple") (rTupleU K) := by subst hK; exact call_tuple_of
theorem pg_tupU {K} {es : List Expr} {k : Nat} {t : TGs} {n : Nat} {pos : Pos} (hK : X.K = K) (hc : X.calm = true) (h : PGs X es t)
    (hn : (assignEach es X.env).length = n := by rfl) (hst : (assignEach es X.env).findIdx? (·.1) = none := by rfl) : PG X (.Tuple es k pos) (gTup K n t) := by subst hK; exact pg_tup hc h hn hst
theorem pi_listU {K} {tg l : Expr} {tl : TE} (hK : X.K = K) (hl : PE X l tl) : PI X tg l (iList K tl) := by subst hK; exact pi_list hl
theorem pi_tupU {K} {tg l : Expr} {tl : TE} (hK : X.K = K) (hl : PE X l tl) : PI X tg l (iTup K tl) := by subst hK; exact pi_tup hl
def rMulU : R2 := r2or (r2or (rI CMul fun i j => .int (i * j)) (rI CMulW fun i j => .int (i * j))) rRep
theorem op_mulU : OpR X (binaryOp .Mult) rMulU := (op_mul.or op_mulW).or op_rep
def rSignIn : R2 := fun x y H Q => ∃ (c : Nat) (z : Str), x = .str ⟨#[c]⟩ ∧ y = .str z ∧ Q (.bl (decide (c ∈ z.cps.toList))) H
def rSignNin : R2 := fun x y H Q => ∃ (c : Nat) (z : Str), x = .str ⟨#[c]⟩ ∧ y = .str z ∧ Q (.bl (!decide (c ∈ z.cps.toList))) H
def rInU (K : PySem.W.Frag) : R2 := r2or (r2or (rIn K false) (rInD K)) rSignIn
def rNinU (K : PySem.W.Frag) : R2 := r2or (r2or (rIn K true) (rNotInD K)) rSignNin
theorem op_inU {K} (hK : X.K = K) (hu : X.A.units + 65 < cLine) : OpR X (compareOp .In) (rInU K) := by subst hK; exact (op_in_seq.or (op_inD hu)).or op_in_sign
theorem op_ninU {K} (hK : X.K = K) (hu : X.A.units + 65 < cLine) : OpR X (compareOp .NotIn) (rNinU K) := by subst hK; exact (op_notIn_seq.or (op_notInD hu)).or op_notIn_sign
def rMaxL (K : PySem.W.Frag) : List V → Hp → VK → Prop := rMax K
theorem call_maxL {K} (hK : X.K = K) (hc : X.calm = true) : CallR X (.builtin "max") (rMaxL K) := by subst hK; exact cr_max hc
def rMinL (K : PySem.W.Frag) : List V → Hp → VK → Prop := rMin K
theorem call_minL {K} (hK : X.K = K) (hc : X.calm = true) : CallR X (.builtin "min") (rMinL K) := by subst hK; exact cr_min hc
def rIsB : R2 := fun x y H Q => ∃ a b, x = .bl a ∧ y = .bl b ∧ Q (.bl (decide (a = b))) H
def rNisB : R2 := fun x y H Q => ∃ a b, x = .bl a ∧ y = .bl b ∧ Q (.bl (!decide (a = b))) H
theorem op_isB : OpR X (compareOp .Is) rIsB := op_is_bl
theorem op_nisB : OpR X (compareOp .IsNot) rNisB := op_isnot_bl
def iRevU (K : PySem.W.Frag) (te : TE) : TI := RT.iRevA K te
theorem pi_revU {K} {tg e : Expr} {te : TE} {p pos : Pos} (hK : X.K = K) (hg : Gl X "reversed") (hm : X.mg "reversed" = none) (he : PE X e te) (hs : starEach [e] X.env = (false, eval e X.env) :: starEach [] X.env := by rfl) : PI X tg (.Call (.Name "reversed" p) [e] [] pos) (iRevU K te) := by
  subst hK; exact RT.pi_revA hg hm he hs
def iEnumU (K : PySem.W.Frag) (ta : TA) : TI := iEnum K ta
theorem pi_enumU {K} {e : Expr} {ta : TA} {p pos tpos : Pos} {elts : List Expr} {kk : Nat} (hK : X.K = K) (hg : Gl X "enumerate") (hm : X.mg "enumerate" = none) (ha : PA X [e] ta) (hs : starEach [e] X.env = [(false, eval e X.env)] := by rfl) :
    PI X (.Tuple elts kk tpos) (.Call (.Name "enumerate" p) [e] [] pos) (iEnumU K ta) := by subst hK; exact pi_enum hg hm ha hs
/-- a slice -/
def rSlU (K : PySem.W.Frag) : V → Option Int → Option Int → Hp → VK → Prop := fun x lo hi H Q => (rSlL K x lo hi H Q ∨ rSlA K x lo hi H Q) ∨ rSlS x lo hi H Q
theorem sl_U {K} (hK : X.K = K) : SlR X (rSlU K) := by subst hK; exact (sl_list.or sl_tupA).or sl_str
def rEqU (K : PySem.W.Frag) : R2 := r2or (r2or rEq (rEqD K)) rEqDS
theorem op_eqU {K} (hK : X.K = K) (hu : X.A.units + 64 < cLine) : OpR X (compareOp .Eq) (rEqU K) := by subst hK; exact (op_eq.or (op_eqD hu)).or (op_eqDS hu)
def rNeU (K : PySem.W.Frag) : R2 := r2or (r2or rNe (rNeD K)) rNeDS
theorem op_neU {K} (hK : X.K = K) (hu : X.A.units + 64 < cLine) : OpR X (compareOp .NotEq) (rNeU K) := by subst hK; exact (op_ne.or (op_neD hu)).or (op_neDS hu)
end
theorem u65 {A : Around} {k : Nat} (hr : Room k A) : A.units + 65 < cLine := by have := hr.un; omega
theorem u64 {A : Around} {k : Nat} (hr : Room k A) : A.units + 64 < cLine := hr.units
section
variable {K : PySem.W.Frag} {H : Hp} {Q : VK} {i j : Int}
theorem w_addI (q : Q (.int (i + j)) H) : rAddU K (.int i) (.int j) H Q := .inl (.inl ⟨i, j, rfl, rfl, q⟩)
theorem w_addS {a b : Str} (h : a.length + b.length ≤ sizeLine) (q : Q (.str (a ++ b)) H) : rAddU K (.str a) (.str b) H Q := .inl (.inr ⟨a, b, rfl, rfl, h, q⟩)
theorem w_addL {l b : Addr} {xs zs : List V} (h1 : H l = some (.lst xs)) (h2 : H b = some (.lst zs)) (hl : xs.length + zs.length ≤ 1000000) (q : ∀ p, H p = none → Q (.ref p) (upd H p (.lst (xs ++ zs)))) : rAddU K (.ref l) (.ref b) H Q := .inr (.inr ⟨l, b, xs, zs, rfl, rfl, h1, h2, Nat.le_trans hl (by decide), q⟩)
theorem w_sub (q : Q (.int (i - j)) H) : rI0 (fun i j => .int (i - j)) (.int i) (.int j) H Q := ⟨i, j, rfl, rfl, q⟩
theorem w_rI0 {g : Int → Int → V} (q : Q (g i j) H) : rI0 g (.int i) (.int j) H Q := ⟨i, j, rfl, rfl, q⟩
theorem w_rI {C : Int → Int → Prop} {g : Int → Int → V} (c : C i j) (q : Q (g i j) H) : rI C g (.int i) (.int j) H Q := ⟨i, j, rfl, rfl, c, q⟩
theorem w_mulI (c : (-(2 ^ 64) < i ∧ i < 2 ^ 64) ∨ (-(2 ^ 64) < j ∧ j < 2 ^ 64)) (q : Q (.int (i * j)) H) : rMulU (.int i) (.int j) H Q := .inl (.inl ⟨i, j, rfl, rfl, c, q⟩)
theorem w_max (q : Q (.int (if j > i then j else i)) H) : rMaxU [.int i, .int j] H Q := ⟨i, j, rfl, q⟩
theorem w_min (q : Q (.int (if j < i then j else i)) H) : rMinU [.int i, .int j] H Q := ⟨i, j, rfl, q⟩
theorem w_abs (q : Q (.int (if i < 0 then -i else i)) H) : rAbsU [.int i] H Q := ⟨i, rfl, q⟩
theorem w_intI (q : Q (.int i) H) : rIntU [.int i] H Q := .inl ⟨i, rfl, q⟩
theorem w_intB {k : Bool} (q : Q (.int (if k then 1 else 0)) H) : rIntU [.bl k] H Q := .inr ⟨k, rfl, q⟩
theorem w_pow9 (q : Q (.int 1000000000) H) : rI CPow (fun i j => .int (i ^ j.toNat)) (.int 10) (.int 9) H Q := ⟨10, 9, rfl, rfl, ⟨by decide, by decide, by decide⟩, q⟩
theorem w_pow18 (q : Q (.int 1000000000000000000) H) : rI CPow (fun i j => .int (i ^ j.toNat)) (.int 10) (.int 18) H Q := ⟨10, 18, rfl, rfl, ⟨by decide, by decide, by decide⟩, q⟩
theorem w_pow6 (q : Q (.int 1000000) H) : rI CPow (fun i j => .int (i ^ j.toNat)) (.int 10) (.int 6) H Q := ⟨10, 6, rfl, rfl, ⟨by decide, by decide, by decide⟩, q⟩
theorem w_pow59 (q : Q (.int 100000000000000000000000000000000000000000000000000000000000) H) : rI CPow (fun i j => .int (i ^ j.toNat)) (.int 10) (.int 59) H Q := ⟨10, 59, rfl, rfl, ⟨by decide, by decide, by decide⟩, q⟩
theorem w_slL {p : Addr} {xs : List V} {lo hi : Option Int} (h : SqL K H p xs) (q : ∀ l, H l = none → Q (.ref l) (upd H l (.lst (cutV xs lo hi)))) : rSlU K (.ref p) lo hi H Q := .inl (.inl ⟨p, xs, rfl, h, q⟩)
theorem w_part {σ : L2.St} {te : TE} {Q : Option Int → Hp → Prop} (q : te σ H fun x H1 => ∃ i, x = .int i ∧ Q (some i) H1) : tPart te σ H Q := q
theorem w_partI {P : Int → Prop} (q : P i) : ∃ k, V.int i = .int k ∧ P k := ⟨i, rfl, q⟩
theorem w_nopart {σ : L2.St} {Q : Option Int → Hp → Prop} (q : Q none H) : tNoPart σ H Q := q
theorem w_sl {σ : L2.St} {r : V → Option Int → Option Int → Hp → VK → Prop} {te : TE} {tl th : TO} (q : te σ H fun x H1 => tl σ H1 fun l H2 => th σ H2 fun u H3 => r x l u H3 Q) : tSl r te tl th σ H Q := q
theorem w_listL {p : Addr} {ys : List V} (h : SqL K H p ys) (q : ∀ l, H l = none → Q (.ref l) (upd H l (.lst ys))) : rListU K [.ref p] H Q := ⟨p, ys, rfl, .inl h, q⟩
theorem w_listT {p : Addr} {ys : List V} (h : SqT K H p ys) (q : ∀ l, H l = none → Q (.ref l) (upd H l (.lst ys))) : rListU K [.ref p] H Q := ⟨p, ys, rfl, .inr h, q⟩
theorem w_tupleL {p : Addr} {ys : List V} (h : SqL K H p ys) (q : ∀ l, H l = none → Q (.ref l) (upd H l (.tup ys))) : rTupleU K [.ref p] H Q := ⟨p, ys, rfl, .inl ⟨h, q⟩⟩
theorem w_isB {a b : Bool} (q : Q (.bl (decide (a = b))) H) : rIsB (.bl a) (.bl b) H Q := ⟨a, b, rfl, rfl, q⟩
theorem w_nisB {a b : Bool} (q : Q (.bl (!decide (a = b))) H) : rNisB (.bl a) (.bl b) H Q := ⟨a, b, rfl, rfl, q⟩
theorem w_inT {x : V} {p : Addr} {xs : List V} (h : SqT K H p xs) (hx : flatV x = true) (ha : xs.all flatV = true) (q : Q (.bl (inV x xs)) H) : rInU K x (.ref p) H Q := .inl (.inl ⟨p, xs, rfl, .inr h, hx, ha, q⟩)
theorem w_inL {x : V} {p : Addr} {xs : List V} (h : SqL K H p xs) (hx : flatV x = true) (ha : xs.all flatV = true) (q : Q (.bl (inV x xs)) H) : rInU K x (.ref p) H Q := .inl (.inl ⟨p, xs, rfl, .inl h, hx, ha, q⟩)
theorem w_ninT {x : V} {p : Addr} {xs : List V} (h : SqT K H p xs) (hx : flatV x = true) (ha : xs.all flatV = true) (q : Q (.bl (!inV x xs)) H) : rNinU K x (.ref p) H Q := .inl (.inl ⟨p, xs, rfl, .inr h, hx, ha, q⟩)
theorem w_ninL {x : V} {p : Addr} {xs : List V} (h : SqL K H p xs) (hx : flatV x = true) (ha : xs.all flatV = true) (q : Q (.bl (!inV x xs)) H) : rNinU K x (.ref p) H Q := .inl (.inl ⟨p, xs, rfl, .inl h, hx, ha, q⟩)
theorem w_lenL {p : Addr} {ys : List V} (h : SqL K H p ys) (q : Q (.int ys.length) H) : rLenU K [.ref p] H Q := .inl ⟨p, ys, rfl, .inl h, q⟩
theorem w_lenT {p : Addr} {ys : List V} (h : SqT K H p ys) (q : Q (.int ys.length) H) : rLenU K [.ref p] H Q := .inl ⟨p, ys, rfl, .inr h, q⟩
theorem w_lenS {z : Str} (h : z.length ≤ sizeLine) (q : Q (.int z.length) H) : rLenU K [.str z] H Q := .inr ⟨z, rfl, h, q⟩
theorem w_ixL {p : Addr} {xs : List V} {v : V} (h : SqL K H p xs) (e : atI xs i = some v) (q : Q v H) : rIx K (.ref p) (.int i) H Q := .inl ⟨p, xs, i, v, rfl, rfl, h, e, q⟩
theorem w_ixT {p : Addr} {xs : List V} {v : V} (h : SqT K H p xs) (e : atI xs i = some v) (q : Q v H) : rIx K (.ref p) (.int i) H Q := .inr (.inl ⟨p, xs, i, v, rfl, rfl, h, e, q⟩)
theorem w_setL {p : Addr} {xs : List V} {v : V} {j : Nat} {Q : Hp → Prop} (h : H p = some (.lst xs)) (e : ixN xs.length i = some j) (q : Q (upd H p (.lst (xs.set j v)))) : rSetL (.ref p) (.int i) v H Q := ⟨p, xs, i, j, rfl, rfl, h, e, q⟩
theorem w_isi {x : V} {n : String} {t : Value} {b : Bool} (ty : TyX K H x t) (e : PySem.W.kitOne K t (.type n) = some b) (q : Q (.bl b) H) : rIsi K [x, .ty n] H Q := ⟨x, .ty n, t, .type n, b, rfl, .ty n, ty, e, q⟩
/-! isinstance of plain values -/
theorem ty_T {a : Addr} {xs : List V} (h : SqT K H a xs) : TyX K H (.ref a) (.type "tuple") := by
  rcases h with (h | ⟨o, h⟩) | ⟨o, its, n, h, hc, _⟩
  · exact .base (.tup h)
  · exact .fTuple h
  · exact .kTuple h hc
theorem ty_L {a : Addr} {xs : List V} (h : SqL K H a xs) : TyX K H (.ref a) (.type "list") := by
  rcases h with (h | ⟨o, h⟩) | ⟨o, its, n, h, hc, _⟩
  · exact .base (.lst h)
  · exact .base (.frz h)
  · exact .kList h hc
theorem isD_int {a : Addr} {kvs : List (Key × V)} (h : H a = some (.dK kvs)) (q : Q (.bl false) H) : rIsi K [.ref a, .ty "int"] H Q := w_isi (.base (.dK h)) (kit_ty (by decide +kernel)) q
theorem isD_bool {a : Addr} {kvs : List (Key × V)} (h : H a = some (.dK kvs)) (q : Q (.bl false) H) : rIsi K [.ref a, .ty "bool"] H Q := w_isi (.base (.dK h)) (kit_ty (by decide +kernel)) q
theorem isD_str {a : Addr} {kvs : List (Key × V)} (h : H a = some (.dK kvs)) (q : Q (.bl false) H) : rIsi K [.ref a, .ty "str"] H Q := w_isi (.base (.dK h)) (kit_ty (by decide +kernel)) q
theorem isD_tuple {a : Addr} {kvs : List (Key × V)} (h : H a = some (.dK kvs)) (q : Q (.bl false) H) : rIsi K [.ref a, .ty "tuple"] H Q := w_isi (.base (.dK h)) (kit_ty (by decide +kernel)) q
theorem isD_list {a : Addr} {kvs : List (Key × V)} (h : H a = some (.dK kvs)) (q : Q (.bl false) H) : rIsi K [.ref a, .ty "list"] H Q := w_isi (.base (.dK h)) (kit_ty (by decide +kernel)) q
theorem isD_dict {a : Addr} {kvs : List (Key × V)} (h : H a = some (.dK kvs)) (q : Q (.bl true) H) : rIsi K [.ref a, .ty "dict"] H Q := w_isi (.base (.dK h)) (kit_ty (by decide +kernel)) q
theorem isT_int {a : Addr} {xs : List V} (h : SqT K H a xs) (q : Q (.bl false) H) : rIsi K [.ref a, .ty "int"] H Q := w_isi (ty_T h) (kit_ty (by decide +kernel)) q
theorem isT_bool {a : Addr} {xs : List V} (h : SqT K H a xs) (q : Q (.bl false) H) : rIsi K [.ref a, .ty "bool"] H Q := w_isi (ty_T h) (kit_ty (by decide +kernel)) q
theorem isT_str {a : Addr} {xs : List V} (h : SqT K H a xs) (q : Q (.bl false) H) : rIsi K [.ref a, .ty "str"] H Q := w_isi (ty_T h) (kit_ty (by decide +kernel)) q
theorem isT_tuple {a : Addr} {xs : List V} (h : SqT K H a xs) (q : Q (.bl true) H) : rIsi K [.ref a, .ty "tuple"] H Q := w_isi (ty_T h) (kit_ty (by decide +kernel)) q
theorem isT_list {a : Addr} {xs : List V} (h : SqT K H a xs) (q : Q (.bl false) H) : rIsi K [.ref a, .ty "list"] H Q := w_isi (ty_T h) (kit_ty (by decide +kernel)) q
theorem isT_dict {a : Addr} {xs : List V} (h : SqT K H a xs) (q : Q (.bl false) H) : rIsi K [.ref a, .ty "dict"] H Q := w_isi (ty_T h) (kit_ty (by decide +kernel)) q
theorem isL_int {a : Addr} {xs : List V} (h : SqL K H a xs) (q : Q (.bl false) H) : rIsi K [.ref a, .ty "int"] H Q := w_isi (ty_L h) (kit_ty (by decide +kernel)) q
theorem isL_bool {a : Addr} {xs : List V} (h : SqL K H a xs) (q : Q (.bl false) H) : rIsi K [.ref a, .ty "bool"] H Q := w_isi (ty_L h) (kit_ty (by decide +kernel)) q
theorem isL_str {a : Addr} {xs : List V} (h : SqL K H a xs) (q : Q (.bl false) H) : rIsi K [.ref a, .ty "str"] H Q := w_isi (ty_L h) (kit_ty (by decide +kernel)) q
theorem isL_tuple {a : Addr} {xs : List V} (h : SqL K H a xs) (q : Q (.bl false) H) : rIsi K [.ref a, .ty "tuple"] H Q := w_isi (ty_L h) (kit_ty (by decide +kernel)) q
theorem isL_list {a : Addr} {xs : List V} (h : SqL K H a xs) (q : Q (.bl true) H) : rIsi K [.ref a, .ty "list"] H Q := w_isi (ty_L h) (kit_ty (by decide +kernel)) q
theorem isL_dict {a : Addr} {xs : List V} (h : SqL K H a xs) (q : Q (.bl false) H) : rIsi K [.ref a, .ty "dict"] H Q := w_isi (ty_L h) (kit_ty (by decide +kernel)) q
theorem is_non_int (q : Q (.bl false) H) : rIsi K [.non, .ty "int"] H Q := w_isi (.base .non) (kit_ty (by decide +kernel)) q
theorem is_non_bool (q : Q (.bl false) H) : rIsi K [.non, .ty "bool"] H Q := w_isi (.base .non) (kit_ty (by decide +kernel)) q
theorem is_non_str (q : Q (.bl false) H) : rIsi K [.non, .ty "str"] H Q := w_isi (.base .non) (kit_ty (by decide +kernel)) q
theorem is_non_tuple (q : Q (.bl false) H) : rIsi K [.non, .ty "tuple"] H Q := w_isi (.base .non) (kit_ty (by decide +kernel)) q
theorem is_non_list (q : Q (.bl false) H) : rIsi K [.non, .ty "list"] H Q := w_isi (.base .non) (kit_ty (by decide +kernel)) q
theorem is_non_dict (q : Q (.bl false) H) : rIsi K [.non, .ty "dict"] H Q := w_isi (.base .non) (kit_ty (by decide +kernel)) q
theorem is_bl_int {u : Bool} (q : Q (.bl true) H) : rIsi K [(.bl u), .ty "int"] H Q := w_isi (.base (.bl _)) (kit_ty (by decide +kernel)) q
theorem is_bl_bool {u : Bool} (q : Q (.bl true) H) : rIsi K [(.bl u), .ty "bool"] H Q := w_isi (.base (.bl _)) (kit_ty (by decide +kernel)) q
theorem is_bl_str {u : Bool} (q : Q (.bl false) H) : rIsi K [(.bl u), .ty "str"] H Q := w_isi (.base (.bl _)) (kit_ty (by decide +kernel)) q
theorem is_bl_tuple {u : Bool} (q : Q (.bl false) H) : rIsi K [(.bl u), .ty "tuple"] H Q := w_isi (.base (.bl _)) (kit_ty (by decide +kernel)) q
theorem is_bl_list {u : Bool} (q : Q (.bl false) H) : rIsi K [(.bl u), .ty "list"] H Q := w_isi (.base (.bl _)) (kit_ty (by decide +kernel)) q
theorem is_bl_dict {u : Bool} (q : Q (.bl false) H) : rIsi K [(.bl u), .ty "dict"] H Q := w_isi (.base (.bl _)) (kit_ty (by decide +kernel)) q
theorem is_int_int {u : Int} (q : Q (.bl true) H) : rIsi K [(.int u), .ty "int"] H Q := w_isi (.base (.int _)) (kit_ty (by decide +kernel)) q
theorem is_int_bool {u : Int} (q : Q (.bl false) H) : rIsi K [(.int u), .ty "bool"] H Q := w_isi (.base (.int _)) (kit_ty (by decide +kernel)) q
theorem is_int_str {u : Int} (q : Q (.bl false) H) : rIsi K [(.int u), .ty "str"] H Q := w_isi (.base (.int _)) (kit_ty (by decide +kernel)) q
theorem is_int_tuple {u : Int} (q : Q (.bl false) H) : rIsi K [(.int u), .ty "tuple"] H Q := w_isi (.base (.int _)) (kit_ty (by decide +kernel)) q
theorem is_int_list {u : Int} (q : Q (.bl false) H) : rIsi K [(.int u), .ty "list"] H Q := w_isi (.base (.int _)) (kit_ty (by decide +kernel)) q
theorem is_int_dict {u : Int} (q : Q (.bl false) H) : rIsi K [(.int u), .ty "dict"] H Q := w_isi (.base (.int _)) (kit_ty (by decide +kernel)) q
theorem is_str_int {u : Str} (q : Q (.bl false) H) : rIsi K [(.str u), .ty "int"] H Q := w_isi (.base (.str _)) (kit_ty (by decide +kernel)) q
theorem is_str_bool {u : Str} (q : Q (.bl false) H) : rIsi K [(.str u), .ty "bool"] H Q := w_isi (.base (.str _)) (kit_ty (by decide +kernel)) q
theorem is_str_str {u : Str} (q : Q (.bl true) H) : rIsi K [(.str u), .ty "str"] H Q := w_isi (.base (.str _)) (kit_ty (by decide +kernel)) q
theorem is_str_tuple {u : Str} (q : Q (.bl false) H) : rIsi K [(.str u), .ty "tuple"] H Q := w_isi (.base (.str _)) (kit_ty (by decide +kernel)) q
theorem is_str_list {u : Str} (q : Q (.bl false) H) : rIsi K [(.str u), .ty "list"] H Q := w_isi (.base (.str _)) (kit_ty (by decide +kernel)) q
theorem is_str_dict {u : Str} (q : Q (.bl false) H) : rIsi K [(.str u), .ty "dict"] H Q := w_isi (.base (.str _)) (kit_ty (by decide +kernel)) q
theorem w_rU {g : Int → V} (q : Q (g i) H) : rU g (.int i) H Q := ⟨i, rfl, q⟩
theorem dec_int {a b : Int} : decide (V.int a = V.int b) = decide (a = b) := by
  by_cases h : a = b
  · subst h; simp
  · rw [decide_eq_false h, decide_eq_false fun e => h (V.int.inj e)]
theorem dec_str {a b : Str} : decide (V.str a = V.str b) = decide (a = b) := by
  by_cases h : a = b
  · subst h; simp
  · rw [decide_eq_false h, decide_eq_false fun e => h (V.str.inj e)]
theorem dec_bl {a b : Bool} : decide (V.bl a = V.bl b) = decide (a = b) := by
  by_cases h : a = b
  · subst h; simp
  · rw [decide_eq_false h, decide_eq_false fun e => h (V.bl.inj e)]
theorem w_eqI (q : Q (.bl (decide (i = j))) H) : rEqU K (.int i) (.int j) H Q := .inl (.inl ⟨rfl, by rw [dec_int]; exact q⟩)
theorem w_eqS {a b : Str} (q : Q (.bl (decide (a = b))) H) : rEqU K (.str a) (.str b) H Q := .inl (.inl ⟨rfl, by rw [dec_str]; exact q⟩)
theorem w_eqB {a b : Bool} (q : Q (.bl (decide (a = b))) H) : rEqU K (.bl a) (.bl b) H Q := .inl (.inl ⟨rfl, by rw [dec_bl]; exact q⟩)
theorem w_neI (q : Q (.bl (!decide (i = j))) H) : rNeU K (.int i) (.int j) H Q := .inl (.inl ⟨rfl, by rw [dec_int]; exact q⟩)
theorem w_neS {a b : Str} (q : Q (.bl (!decide (a = b))) H) : rNeU K (.str a) (.str b) H Q := .inl (.inl ⟨rfl, by rw [dec_str]; exact q⟩)
theorem w_neB {a b : Bool} (q : Q (.bl (!decide (a = b))) H) : rNeU K (.bl a) (.bl b) H Q := .inl (.inl ⟨rfl, by rw [dec_bl]; exact q⟩)
theorem w_eqDS {p : Addr} {kvs : List (Key × V)} {z : Str} (h : H p = some (.dK kvs)) (q : Q (.bl false) H) : rEqU K (.ref p) (.str z) H Q := .inr ⟨p, kvs, z, rfl, h, rfl, q⟩
theorem w_neDS {p : Addr} {kvs : List (Key × V)} {z : Str} (h : H p = some (.dK kvs)) (q : Q (.bl true) H) : rNeU K (.ref p) (.str z) H Q := .inr ⟨p, kvs, z, rfl, h, rfl, q⟩
theorem w_eqD {x y : V} {d e : PyData} (hx : Dp K H x d) (hy : Dp K H y e) (sx : SeqAt.shaped d = true) (sy : SeqAt.shaped e = true) (q : Q (.bl (PyData.eqv d e)) H) : rEqU K x y H Q := .inl (.inr ⟨d, e, hx, hy, sx, sy, q⟩)
theorem w_neD {x y : V} {d e : PyData} (hx : Dp K H x d) (hy : Dp K H y e) (sx : SeqAt.shaped d = true) (sy : SeqAt.shaped e = true) (q : Q (.bl (!PyData.eqv d e)) H) : rNeU K x y H Q := .inl (.inr ⟨d, e, hx, hy, sx, sy, q⟩)
end
/-- a new tuple, a new list -/
def MkT (xs : List V) (Q : VK) (H : Hp) : Prop := xs.length ≤ sizeLine ∧ ∀ p, H p = none → Q (.ref p) (upd H p (.tup xs))
def MkL (xs : List V) (Q : VK) (H : Hp) : Prop := xs.length ≤ sizeLine ∧ ∀ p, H p = none → Q (.ref p) (upd H p (.lst xs))
/-! ### steps of a reading -/
section
variable {K : PySem.W.Frag} {σ : L2.St} {H : Hp} {Q : VK} {QB : Bool → Hp → Prop} {QA : List V → Hp → Prop} {ta tb tc : TE} {t u : TT} {v : V} {i : Nat} {r r' : R2}
theorem w_var (h : σ[i]? = some (some v)) (q : Q v H) : tVar i σ H Q := ⟨v, h, q⟩
theorem w_c (q : Q v H) : tC v σ H Q := q
theorem w_op (q : ta σ H fun x H1 => tb σ H1 fun y H2 => r x y H2 Q) : tOp r ta tb σ H Q := q
theorem w_un {r : V → Hp → VK → Prop} (q : ta σ H fun x H1 => r x H1 Q) : tUn r ta σ H Q := q
theorem w_chain (q : ta σ H fun x H1 => tb σ H1 fun y H2 => r x y H2 fun z H3 => ∃ k, z = .bl k ∧ (if k = true then tc σ H3 fun w' H4 => r' y w' H4 Q else Q (.bl false) H3)) : tChain r r' ta tb tc σ H Q := q
theorem w_bl {b : Bool} {P : Bool → Prop} (q : P b) : ∃ k, V.bl b = .bl k ∧ P k := ⟨b, rfl, q⟩
theorem w_test (q : ta σ H fun x H' => ∃ k, x = .bl k ∧ QB k H') : tTest ta σ H QB := q
theorem w_B (q : ta σ H fun x H' => ∃ k, x = .bl k ∧ QB k H') : tB ta σ H QB := q
theorem w_and (q : t σ H fun c H1 => if c = true then u σ H1 QB else QB false H1) : tAnd t u σ H QB := q
theorem w_or (q : t σ H fun c H1 => if c = true then QB true H1 else u σ H1 QB) : tOr t u σ H QB := q
theorem w_not (q : t σ H fun c H1 => QB (!c) H1) : tNot t σ H QB := q
theorem w_andV (q : ta σ H fun x H1 => ∃ c, x = .bl c ∧ if c = true then tb σ H1 Q else Q (.bl false) H1) : tAndV ta tb σ H Q := q
theorem w_orV (q : ta σ H fun x H1 => ∃ c, x = .bl c ∧ if c = true then Q (.bl true) H1 else tb σ H1 Q) : tOrV ta tb σ H Q := q
theorem w_notV (q : ta σ H fun x H1 => ∃ c, x = .bl c ∧ Q (.bl (!c)) H1) : tNotV ta σ H Q := q
theorem w_if (q : t σ H fun c H1 => if c = true then ta σ H1 Q else tb σ H1 Q) : tIf t ta tb σ H Q := q
theorem w_isN (q : ta σ H fun x H1 => Q (.bl (decide (x = .non))) H1) : tIsN ta σ H Q := q
theorem w_notN (q : ta σ H fun x H1 => Q (.bl (!decide (x = .non))) H1) : tNotN ta σ H Q := q
theorem w_nil (q : QA [] H) : tNil σ H QA := q
theorem w_cons {tr : TA} (q : ta σ H fun x H1 => tr σ H1 fun xs H2 => QA (x :: xs) H2) : tCons ta tr σ H QA := q
theorem w_tup {tr : TA} (q : tr σ H fun xs H1 => MkT xs Q H1) : tTup tr σ H Q := q
theorem w_lst {tr : TA} (q : tr σ H fun xs H1 => MkL xs Q H1) : tLst tr σ H Q := q
theorem w_call {sp : Sp} {dvs : List V} {E : XK} {tr : TA} (q : tr σ H fun vs H1 => sp (vs ++ dvs) H1 Q E) : tCall sp dvs E tr σ H Q := q
theorem w_cb {rc : List V → Hp → VK → Prop} {tr : TA} (q : tr σ H fun vs H1 => rc vs H1 Q) : tCB rc tr σ H Q := q
theorem w_bm {T : String} {rm : V → List V → Hp → VK → Prop} {tr : TA} (q : ta σ H fun x H1 => tyV K T x H1 ∧ tr σ H1 fun xs H2 => rm x xs H2 Q) : tBM K T rm ta tr σ H Q := q
theorem w_bm0 {T : String} {rm : V → List V → Hp → VK → Prop} (q : ta σ H fun x H1 => tyV K T x H1 ∧ rm x [] H1 Q) : tBM0 K T rm ta σ H Q := q
end
section
variable {σ : L2.St} {H : Hp} {n b c : L2.St → Hp → Prop} {r : VK} {t u : TS} {te : TE} {tt : TT} {g : TG} {v : V} {i : Nat}
theorem w_cut (M : L2.St → Hp → Prop) (h1 : t ⟨M, r, b, c⟩ σ H) (h2 : ∀ σ' H', M σ' H' → u ⟨n, r, b, c⟩ σ' H') : C8.tCut t u ⟨n, r, b, c⟩ σ H := ⟨M, h1, h2⟩
theorem w_sub' {Q : L2.St → Hp → Prop} {to ti : TE} {ts : TSet} (q : to σ H fun o H1 => ti σ H1 fun i H2 => ts o i v H2 fun H3 => Q σ H3) : gSub to ti ts v σ H Q := q
theorem w_seq (q : t ⟨u ⟨n, r, b, c⟩, r, b, c⟩ σ H) : tSeq t u ⟨n, r, b, c⟩ σ H := q
theorem w_asg (q : te σ H fun x H1 => g x σ H1 n) : tAsg te g ⟨n, r, b, c⟩ σ H := q
theorem w_name {Q : L2.St → Hp → Prop} (q : Q (σ.set i (some v)) H) : gName i v σ H Q := q
theorem w_gcons {t1 : TG} {u1 : TGs} {vs : List V} {Q : L2.St → Hp → Prop} (q : t1 v σ H fun σ' H' => u1 vs σ' H' Q) : gCons t1 u1 (v :: vs) σ H Q := ⟨v, vs, rfl, q⟩
theorem w_gnil {Q : L2.St → Hp → Prop} (q : Q σ H) : gNil [] σ H Q := ⟨rfl, q⟩
theorem w_gtup {K : PySem.W.Frag} {t1 : TGs} {p : Addr} {xs : List V} {m : Nat} {Q : L2.St → Hp → Prop} (h : SqT K H p xs) (hl : xs.length = m) (q : t1 xs σ H Q) : gTup K m t1 (.ref p) σ H Q := ⟨p, xs, rfl, h, hl, q⟩
theorem w_ret (q : te σ H r) : tRet te ⟨n, r, b, c⟩ σ H := q
theorem w_retN (q : r .non H) : tRetN ⟨n, r, b, c⟩ σ H := q
theorem w_drop (q : te σ H fun _ H1 => n σ H1) : tDrop te ⟨n, r, b, c⟩ σ H := q
theorem w_ifS (q : tt σ H fun k H1 => if k = true then t ⟨n, r, b, c⟩ σ H1 else u ⟨n, r, b, c⟩ σ H1) : tIfS tt t u ⟨n, r, b, c⟩ σ H := q
theorem w_next (q : n σ H) : tNext ⟨n, r, b, c⟩ σ H := q
theorem w_break (q : b σ H) : tBreak ⟨n, r, b, c⟩ σ H := q
theorem w_cont (q : c σ H) : tCont ⟨n, r, b, c⟩ σ H := q
end
/-! ### loops -/
/-- the turns of a for over J -/
def FOR (J : It) (g : TG) (tb : TS) (D : Ends) (σ : L2.St) (H1 : Hp) : Prop :=
  ∃ W : Nat → Nat → L2.St → Hp → Prop, (∃ m, W 0 m σ H1) ∧
    ∀ i m σ H, W i m σ H → (J.stop i H ∧ D.nx σ H) ∨ (J.go i H ∧
      ∃ N : L2.St → Hp → Prop, (∀ σ' H', N σ' H' → ∃ m', m' < m ∧ W (i + 1) m' σ' H') ∧
        ∀ x H', J.yld i H x H' → g x σ H' fun σ2 H2 => tb { D with nx := N, ct := N, bk := D.nx } σ2 H2)
section
variable {K : PySem.W.Frag} {σ : L2.St} {H : Hp} {nx b c : L2.St → Hp → Prop} {rt : VK} {g : TG} {tb : TS} {D : Ends}
theorem w_for {wi : TI} (q : wi σ H fun J H1 => FOR J g tb D σ H1) : tFor wi g tb D σ H := q
theorem w_iR1 {ta : TA} {R : It → Hp → Prop} (q : ta σ H fun vs H1 => ∃ j : Int, vs = [.int j] ∧ -(2 ^ 62) ≤ j ∧ j < 2 ^ 62 ∧ R (Itr 0 j.toNat) H1) : iRng1 ta σ H R := q
theorem w_iR2 {ta : TA} {R : It → Hp → Prop} (q : ta σ H fun vs H1 => ∃ i j : Int, vs = [.int i, .int j] ∧ (-(2 ^ 62) ≤ i ∧ i < 2 ^ 62 ∧ -(2 ^ 62) ≤ j ∧ j < 2 ^ 62) ∧ R (Itr i (j - i).toNat) H1) : iRng2 ta σ H R := q
theorem w_iRev {te : TE} {R : It → Hp → Prop} (q : te σ H fun v H1 => ∃ (a : Addr) (xs : List V), v = .ref a ∧ ((SqL K H1 a xs ∧ R (Itv K a xs.length) H1) ∨ (SqT K H1 a xs ∧ R (RT.ItvT K a xs.length) H1))) : iRevU K te σ H R := q
theorem w_iEnum {ta : TA} {R : It → Hp → Prop} (q : ta σ H fun vs H1 => ∃ a xs, vs = [.ref a] ∧ SqL K H1 a xs ∧ R (Ite K a) H1) : iEnumU K ta σ H R := q
theorem w_iL {tl : TE} {R : It → Hp → Prop} (q : tl σ H fun x H1 => ∃ a, x = .ref a ∧ (∃ xs, SqL K H1 a xs) ∧ R (Itl K a) H1) : iList K tl σ H R := q
theorem w_iT {tl : TE} {R : It → Hp → Prop} (q : tl σ H fun x H1 => ∃ a, x = .ref a ∧ (∃ xs, SqT K H1 a xs) ∧ R (Itt K a) H1) : iTup K tl σ H R := q
theorem F_R1 {j : Int} (n : Nat) (hn : j.toNat = n) (h1 : -(2 ^ 62) ≤ j) (h2 : j < 2 ^ 62) (Pv : Nat → L2.St → Hp → Prop) (h0 : Pv 0 σ H)
    (hs : ∀ i σ H, i < n → Pv i σ H → g (.int i) σ H fun σ2 H2 => tb ⟨Pv (i + 1), rt, nx, Pv (i + 1)⟩ σ2 H2) (hd : ∀ σ H, Pv n σ H → nx σ H) :
    ∃ j' : Int, [V.int j] = [.int j'] ∧ -(2 ^ 62) ≤ j' ∧ j' < 2 ^ 62 ∧ FOR (Itr 0 j'.toNat) g tb ⟨nx, rt, b, c⟩ σ H := by
  subst hn
  refine ⟨j, rfl, h1, h2, ?_⟩
  exact for_range (D := ⟨nx, rt, b, c⟩) Pv h0 (fun i σ H hi p => by rw [Int.zero_add]; exact hs i σ H hi p) hd
theorem F_L {a : Addr} {xs : List V} (h : SqL K H a xs) (Pv : Nat → L2.St → Hp → Prop) (h0 : Pv 0 σ H) (hl : ∀ i σ H, i ≤ xs.length → Pv i σ H → SqL K H a xs)
    (hs : ∀ i x σ H, xs[i]? = some x → Pv i σ H → g x σ H fun σ2 H2 => tb ⟨Pv (i + 1), rt, nx, Pv (i + 1)⟩ σ2 H2) (hd : ∀ σ H, Pv xs.length σ H → nx σ H) :
    ∃ a', V.ref a = .ref a' ∧ (∃ ys, SqL K H a' ys) ∧ FOR (Itl K a') g tb ⟨nx, rt, b, c⟩ σ H :=
  ⟨a, rfl, ⟨xs, h⟩, for_list (D := ⟨nx, rt, b, c⟩) Pv h0 hl hs hd⟩
theorem F_T {a : Addr} {xs : List V} (h : SqT K H a xs) (Pv : Nat → L2.St → Hp → Prop) (h0 : Pv 0 σ H) (hl : ∀ i σ H, i ≤ xs.length → Pv i σ H → SqT K H a xs)
    (hs : ∀ i x σ H, xs[i]? = some x → Pv i σ H → g x σ H fun σ2 H2 => tb ⟨Pv (i + 1), rt, nx, Pv (i + 1)⟩ σ2 H2) (hd : ∀ σ H, Pv xs.length σ H → nx σ H) :
    ∃ a', V.ref a = .ref a' ∧ (∃ ys, SqT K H a' ys) ∧ FOR (Itt K a') g tb ⟨nx, rt, b, c⟩ σ H :=
  ⟨a, rfl, ⟨xs, h⟩, for_tup (D := ⟨nx, rt, b, c⟩) Pv h0 hl hs hd⟩
/-- a while by an invariant with a measure -/
theorem w_while {tt : TT} (W : Nat → L2.St → Hp → Prop) (m0 : Nat) (h0 : W m0 σ H)
    (hs : ∀ m σ' H', W m σ' H' → tt σ' H' fun k H1 => if k = true then tb ⟨fun σ2 H2 => ∃ m', m' < m ∧ W m' σ2 H2, rt, nx, fun σ2 H2 => ∃ m', m' < m ∧ W m' σ2 H2⟩ σ' H1 else nx σ' H1)
    (mono : ∀ σ H (Q Q' : Bool → Hp → Prop), (∀ k H1, Q k H1 → Q' k H1) → tt σ H Q → tt σ H Q') : tWhile tt tb ⟨nx, rt, b, c⟩ σ H := by
  refine ⟨W, ⟨m0, h0⟩, fun m σ' H' w => mono σ' H' _ _ (fun k H1 q => ?_) (hs m σ' H' w)⟩
  cases k with
  | true => exact ⟨_, fun _ _ z => z, q⟩
  | false => exact q
/-- .. the measure's step told at the test's end -/
theorem w_whileN {tt : TT} (W : Nat → L2.St → Hp → Prop) (m0 : Nat) (h0 : W m0 σ H)
    (hs : ∀ m σ' H', W m σ' H' → tt σ' H' fun k H1 => if k = true then ∃ N : L2.St → Hp → Prop, (∀ σ2 H2, N σ2 H2 → ∃ m', m' < m ∧ W m' σ2 H2) ∧ tb ⟨N, rt, nx, N⟩ σ' H1 else nx σ' H1) : tWhile tt tb ⟨nx, rt, b, c⟩ σ H := ⟨W, ⟨m0, h0⟩, hs⟩
theorem w_N {m : Nat} {W : Nat → L2.St → Hp → Prop} (q : tb ⟨fun σ2 H2 => ∃ m', m' < m ∧ W m' σ2 H2, rt, nx, fun σ2 H2 => ∃ m', m' < m ∧ W m' σ2 H2⟩ σ H) : ∃ N : L2.St → Hp → Prop, (∀ σ2 H2, N σ2 H2 → ∃ m', m' < m ∧ W m' σ2 H2) ∧ tb ⟨N, rt, nx, N⟩ σ H := ⟨_, fun _ _ z => z, q⟩
/-- the turns of a comprehension over J -/
def LC (J : It) (g : TG) (tt : TT) (te : TE) (vs : List Nat) (σ : L2.St) (D : Addr) (Q : VK) (H1 : Hp) : Prop :=
  ∃ W : Nat → Nat → Hp → Prop, (∃ m, W 0 m H1) ∧ ∀ i m H, W i m H → (J.stop i H ∧ Q (.ref D) H) ∨ (J.go i H ∧
    ∃ Nx : Hp → Prop, (∀ H', Nx H' → ∃ m', m' < m ∧ W (i + 1) m' H') ∧ ∀ x H', J.yld i H x H' → g x (wipe σ vs) H' fun σ2 H2 => wipe σ2 vs = wipe σ vs ∧
      tt σ2 H2 fun k H3 => if k = true then te σ2 H3 fun y H4 => ∃ acc, H4 D = some (.lst acc) ∧ acc.length < sizeLine ∧ Nx (upd H4 D (.lst (acc ++ [y]))) else Nx H3)
theorem w_lc {wi : TI} {tt : TT} {te : TE} {vs : List Nat} {Q : VK} (q : wi σ H fun J H1 => ∀ D, H1 D = none → LC J g tt te vs σ D Q (upd H1 D (.lst []))) : tLc wi g tt te vs σ H Q := q
theorem LC_L {a : Addr} {xs : List V} {tt : TT} {te : TE} {vs : List Nat} {Q : VK} (h : SqL K H a xs) (q : ∀ D, H D = none → LC (Itl K a) g tt te vs σ D Q (upd H D (.lst []))) :
    ∃ a', V.ref a = .ref a' ∧ (∃ ys, SqL K H a' ys) ∧ ∀ D, H D = none → LC (Itl K a') g tt te vs σ D Q (upd H D (.lst [])) := ⟨a, rfl, ⟨xs, h⟩, q⟩
theorem LC_T {a : Addr} {xs : List V} {tt : TT} {te : TE} {vs : List Nat} {Q : VK} (h : SqT K H a xs) (q : ∀ D, H D = none → LC (Itt K a) g tt te vs σ D Q (upd H D (.lst []))) :
    ∃ a', V.ref a = .ref a' ∧ (∃ ys, SqT K H a' ys) ∧ ∀ D, H D = none → LC (Itt K a') g tt te vs σ D Q (upd H D (.lst [])) := ⟨a, rfl, ⟨xs, h⟩, q⟩
theorem LC_by {a D : Addr} {xs : List V} {tt : TT} {te : TE} {vs : List Nat} {Q : VK} (Pv : Nat → Hp → Prop) (h0 : Pv 0 (upd H D (.lst []))) (hl : ∀ i H, i ≤ xs.length → Pv i H → SqL K H a xs)
    (hs : ∀ i x H, xs[i]? = some x → Pv i H → g x (wipe σ vs) H fun σ2 H2 => wipe σ2 vs = wipe σ vs ∧ tt σ2 H2 fun k H3 =>
      if k = true then te σ2 H3 fun y H4 => ∃ acc, H4 D = some (.lst acc) ∧ acc.length < sizeLine ∧ Pv (i + 1) (upd H4 D (.lst (acc ++ [y]))) else Pv (i + 1) H3)
    (hd : ∀ H, Pv xs.length H → Q (.ref D) H) : LC (Itl K a) g tt te vs σ D Q (upd H D (.lst [])) := lc_list (xs := xs) Pv h0 hl hs hd
theorem LC_R1 {j : Int} {tt : TT} {te : TE} {vs : List Nat} {Q : VK} (n : Nat) (hn : j.toNat = n) (h1 : -(2 ^ 62) ≤ j) (h2 : j < 2 ^ 62)
    (q : ∀ D, H D = none → ∃ Pv : Nat → Hp → Prop, Pv 0 (upd H D (.lst [])) ∧ (∀ (i : Nat) H', i < n → Pv i H' → g (.int i) (wipe σ vs) H' fun σ2 H2 => wipe σ2 vs = wipe σ vs ∧ tt σ2 H2 fun k H3 =>
      if k = true then te σ2 H3 fun y H4 => ∃ acc, H4 D = some (.lst acc) ∧ acc.length < sizeLine ∧ Pv (i + 1) (upd H4 D (.lst (acc ++ [y]))) else Pv (i + 1) H3) ∧ ∀ H', Pv n H' → Q (.ref D) H') :
    ∃ j' : Int, [V.int j] = [.int j'] ∧ -(2 ^ 62) ≤ j' ∧ j' < 2 ^ 62 ∧ ∀ D, H D = none → LC (Itr 0 j'.toNat) g tt te vs σ D Q (upd H D (.lst [])) := by
  subst hn
  refine ⟨j, rfl, h1, h2, fun D hD => ?_⟩
  obtain ⟨Pv, p0, ps, pd⟩ := q D hD
  exact lc_range Pv p0 (fun i H hi p => by rw [Int.zero_add]; exact ps i H hi p) pd
theorem w_wipe {σ1 σ2 : L2.St} {vs : List Nat} {B : Prop} (h : wipe σ2 vs = wipe σ1 vs) (q : B) : wipe σ2 vs = wipe σ1 vs ∧ B := ⟨h, q⟩
theorem w_yes {Q : Bool → Hp → Prop} (q : Q true H) : tYes σ H Q := q
end
/-- a test's outcome, as a proposition -/
theorem ite_d {c : Prop} [Decidable c] {A B : Prop} (h1 : c → A) (h2 : ¬ c → B) : if decide c = true then A else B := by
  by_cases h : c
  · rw [if_pos (decide_eq_true h)]; exact h1 h
  · rw [if_neg (by rw [decide_eq_false h]; decide)]; exact h2 h
theorem ite_nd {c : Prop} [Decidable c] {A B : Prop} (h1 : ¬ c → A) (h2 : c → B) : if (!decide c) = true then A else B := by
  by_cases h : c
  · rw [if_neg (by rw [decide_eq_true h]; decide)]; exact h2 h
  · rw [if_pos (by rw [decide_eq_false h]; decide)]; exact h1 h
theorem iteNT {A B : Prop} (h : B) : if (!true) = true then A else B := h
theorem iteNF {A B : Prop} (h : A) : if (!false) = true then A else B := h
theorem ite_b {k : Bool} {A B : Prop} (h1 : k = true → A) (h2 : k = false → B) : if k = true then A else B := by
  cases k
  · exact h2 rfl
  · exact h1 rfl
/-! ### heaps -/
/-- all that was tracked, but for S, is as it was -/
def Fr (S : List Addr) (H H' : Hp) : Prop := ∀ a o, H a = some o → a ∉ S → H' a = some o
theorem Fr.refl {S : List Addr} {H : Hp} : Fr S H H := fun _ _ h _ => h
theorem Fr.trans {S : List Addr} {H H1 H2 : Hp} (a : Fr S H H1) (b : Fr S H1 H2) : Fr S H H2 := fun x o h n => b x o (a x o h n) n
theorem Fr.new {S : List Addr} {H : Hp} {p : Addr} {o : HO} (h : H p = none) : Fr S H (upd H p o) := fun a u e _ => by
  rw [upd_ne (ne_of_none e h)]
  exact e
theorem Fr.mut {S : List Addr} {H : Hp} {p : Addr} {o : HO} (h : p ∈ S) : Fr S H (upd H p o) := fun a u e n => by
  rw [upd_ne (by rintro rfl; exact n h)]
  exact e
theorem Fr.mono {S S' : List Addr} {H H' : Hp} (a : Fr S H H') (h : ∀ x ∈ S, x ∈ S') : Fr S' H H' := fun x o e n => a x o e fun z => n (h x z)
theorem Fr.free {H H' : Hp} (e : Fr [] H H') {l : Addr} (h : H' l = none) : H l = none := by
  cases q : H l with
  | none => rfl
  | some o =>
    rw [e l o q (by simp)] at h
    cases h
/-- what is new may change -/
theorem Fr.new_mut {S : List Addr} {H H' : Hp} {p : Addr} (hp : H p = none) (a : Fr (p :: S) H H') : Fr S H H' := fun x o e n => a x o e (by
  intro z
  rcases List.mem_cons.mp z with z | z
  · subst z; rw [hp] at e; cases e
  · exact n z)
theorem Fr.seqL {S : List Addr} {K : PySem.W.Frag} {H H' : Hp} {a : Addr} {xs : List V} (e : Fr S H H') (h : SqL K H a xs) (n : a ∉ S) : SqL K H' a xs := by
  rcases h with (h | ⟨o, h⟩) | h
  · exact .inl (.inl (e _ _ h n))
  · exact .inl (.inr ⟨o, e _ _ h n⟩)
  · exact .inr h
theorem Fr.seqT {S : List Addr} {K : PySem.W.Frag} {H H' : Hp} {a : Addr} {xs : List V} (e : Fr S H H') (h : SqT K H a xs) (n : a ∉ S) : SqT K H' a xs := by
  rcases h with (h | ⟨o, h⟩) | h
  · exact .inl (.inl (e _ _ h n))
  · exact .inl (.inr ⟨o, e _ _ h n⟩)
  · exact .inr h
/-- an open place of a list of ints all of which hold P -/
theorem at_all {ns : List Int} {P : Int → Prop} (hP : ∀ z ∈ ns, P z) {p : Int} (h0 : 0 ≤ p) (h : p < ns.length) : ∃ z, atI (ns.map V.int) p = some (.int z) ∧ P z := by
  have hk : p.toNat < ns.length := by omega
  have ek : p = ((p.toNat : Nat) : Int) := by omega
  have key : atI (ns.map V.int) ((p.toNat : Nat) : Int) = some (.int ns[p.toNat]) := atI_nat (by rw [List.getElem?_map, List.getElem?_eq_getElem hk] <;> rfl)
  rw [← ek] at key
  exact ⟨_, key, hP _ (List.getElem_mem hk)⟩
theorem at_str {ns : List Str} {P : Str → Prop} (hP : ∀ z ∈ ns, P z) {p : Int} (h0 : 0 ≤ p) (h : p < ns.length) : ∃ z, atI (ns.map V.str) p = some (.str z) ∧ P z := by
  have hk : p.toNat < ns.length := by omega
  have ek : p = ((p.toNat : Nat) : Int) := by omega
  have key : atI (ns.map V.str) ((p.toNat : Nat) : Int) = some (.str ns[p.toNat]) := atI_nat (by rw [List.getElem?_map, List.getElem?_eq_getElem hk] <;> rfl)
  rw [← ek] at key
  exact ⟨_, key, hP _ (List.getElem_mem hk)⟩
theorem at_int {ns : List Int} {p : Int} (h0 : 0 ≤ p) (h : p < ns.length) : ∃ z, atI (ns.map V.int) p = some (.int z) ∧ ns[p.toNat]? = some z := by
  have hk : p.toNat < ns.length := by omega
  have ek : p = ((p.toNat : Nat) : Int) := by omega
  have key : atI (ns.map V.int) ((p.toNat : Nat) : Int) = some (.int ns[p.toNat]) := atI_nat (by rw [List.getElem?_map, List.getElem?_eq_getElem hk] <;> rfl)
  rw [← ek] at key
  exact ⟨_, key, List.getElem?_eq_getElem hk⟩
end U

namespace U
open PySem PySem.Spec PyProof.Rows L2
/-! ### data of tuples all the way down: nothing changes it -/
mutual
inductive Dt (K : PySem.W.Frag) (H : Hp) : V → PyData → Prop
  | non : Dt K H .non .none
  | bl (b : Bool) : Dt K H (.bl b) (.bool b)
  | int (i : Int) : Dt K H (.int i) (.int i)
  | str (x : Str) : Dt K H (.str x) (.str x)
  | tup {p : Addr} {vs : List V} {es : List PyData} : SqT K H p vs → DtAll K H vs es → Dt K H (.ref p) (.tuple es)
inductive DtAll (K : PySem.W.Frag) (H : Hp) : List V → List PyData → Prop
  | nil : DtAll K H [] []
  | cons {v : V} {vs : List V} {e : PyData} {es : List PyData} : Dt K H v e → DtAll K H vs es → DtAll K H (v :: vs) (e :: es)
end
/-- tuples stand -/
def Tu (H H' : Hp) : Prop := ∀ a xs, (H a = some (.tup xs) → H' a = some (.tup xs)) ∧ ∀ o, H a = some (.frz o (.tup xs)) → H' a = some (.frz o (.tup xs))
theorem Tu.refl {H : Hp} : Tu H H := fun _ _ => ⟨id, fun _ => id⟩
theorem Tu.trans {H H1 H2 : Hp} (a : Tu H H1) (b : Tu H1 H2) : Tu H H2 := fun x xs => ⟨fun h => (b x xs).1 ((a x xs).1 h), fun o h => (b x xs).2 o ((a x xs).2 o h)⟩
theorem Fr.tu {H H' : Hp} (f : Fr [] H H') : Tu H H' := fun a xs => ⟨fun h => f a _ h (by simp), fun o h => f a _ h (by simp)⟩
theorem Fr.tu1 {H H' : Hp} {t : Addr} {xs : List V} (f : Fr [t] H H') (h : H t = some (.lst xs)) : Tu H H' := fun a ys =>
  ⟨fun e => f a _ e (by intro z; rw [List.mem_singleton.mp z, h] at e; cases e), fun o e => f a _ e (by intro z; rw [List.mem_singleton.mp z, h] at e; cases e)⟩
theorem Tu.mut {H : Hp} {q : Addr} {xs : List V} {o : HO} (h : H q = some (.lst xs)) : Tu H (upd H q o) := fun a ys =>
  ⟨fun e => by rw [upd_ne (by rintro rfl; rw [h] at e; cases e)]; exact e, fun o e => by rw [upd_ne (by rintro rfl; rw [h] at e; cases e)]; exact e⟩
theorem Tu.new {H : Hp} {q : Addr} {o : HO} (h : H q = none) : Tu H (upd H q o) := (Fr.new h).tu
theorem Tu.seqT {K : PySem.W.Frag} {H H' : Hp} {a : Addr} {xs : List V} (e : Tu H H') (h : SqT K H a xs) : SqT K H' a xs := by
  rcases h with (h | ⟨o, h⟩) | h
  · exact .inl (.inl ((e a xs).1 h))
  · exact .inl (.inr ⟨o, (e a xs).2 o h⟩)
  · exact .inr h
section
variable {K : PySem.W.Frag} {H H' : Hp}
mutual
theorem Dt.mono (f : Tu H H') : ∀ {v : V} {d : PyData}, Dt K H v d → Dt K H' v d
  | _, _, .non => .non
  | _, _, .bl b => .bl b
  | _, _, .int i => .int i
  | _, _, .str x => .str x
  | _, _, .tup s a => .tup (f.seqT s) (DtAll.mono f a)
theorem DtAll.mono (f : Tu H H') : ∀ {vs : List V} {ds : List PyData}, DtAll K H vs ds → DtAll K H' vs ds
  | _, _, .nil => .nil
  | _, _, .cons a b => .cons (Dt.mono f a) (DtAll.mono f b)
end
mutual
theorem Dt.dp : ∀ {v : V} {d : PyData}, Dt K H v d → Dp K H v d
  | _, _, .non => .non
  | _, _, .bl b => .bl b
  | _, _, .int i => .int i
  | _, _, .str x => .str x
  | _, _, .tup s a => .tup s (DtAll.dp a)
theorem DtAll.dp : ∀ {vs : List V} {ds : List PyData}, DtAll K H vs ds → DpAll K H vs ds
  | _, _, .nil => .nil
  | _, _, .cons a b => .cons (Dt.dp a) (DtAll.dp b)
end
theorem DtAll.length : ∀ {vs : List V} {ds : List PyData}, DtAll K H vs ds → vs.length = ds.length
  | _, _, .nil => rfl
  | _, _, .cons _ b => by rw [List.length_cons, List.length_cons, DtAll.length b]
theorem DtAll.append : ∀ {vs us : List V} {ds es : List PyData}, DtAll K H vs ds → DtAll K H us es → DtAll K H (vs ++ us) (ds ++ es)
  | _, _, _, _, .nil, h => h
  | _, _, _, _, .cons a b, h => .cons a (DtAll.append b h)
theorem DtAll.take : ∀ {vs : List V} {ds : List PyData} (n : Nat), DtAll K H vs ds → DtAll K H (vs.take n) (ds.take n)
  | _, _, 0, _ => .nil
  | _, _, _ + 1, .nil => .nil
  | _, _, n + 1, .cons a b => .cons a (DtAll.take n b)
theorem DtAll.drop : ∀ {vs : List V} {ds : List PyData} (n : Nat), DtAll K H vs ds → DtAll K H (vs.drop n) (ds.drop n)
  | _, _, 0, h => h
  | _, _, _ + 1, .nil => .nil
  | _, _, n + 1, .cons a b => DtAll.drop n b
theorem DtAll.get : ∀ {vs : List V} {ds : List PyData} {i : Nat} {v : V}, DtAll K H vs ds → vs[i]? = some v → ∃ d, ds[i]? = some d ∧ Dt K H v d
  | _, _, i, _, .nil, h => by simp at h
  | _, _, 0, v, .cons a b, h => by
    simp at h
    subst h
    exact ⟨_, rfl, a⟩
  | _, _, i + 1, v, .cons a b, h => by
    obtain ⟨d, h1, h2⟩ := DtAll.get (i := i) b (by simpa using h)
    exact ⟨d, by simpa using h1, h2⟩
theorem DtAll.get' {vs : List V} {ds : List PyData} {i : Nat} {d : PyData} (h : DtAll K H vs ds) (e : ds[i]? = some d) : ∃ v, vs[i]? = some v ∧ Dt K H v d := by
  have hi := (List.getElem?_eq_some_iff.mp e).1
  rw [← h.length] at hi
  obtain ⟨d', h1, h2⟩ := h.get (List.getElem?_eq_getElem hi)
  rw [e] at h1
  cases h1
  exact ⟨_, List.getElem?_eq_getElem hi, h2⟩
theorem Dt.tuple {v : V} {ds : List PyData} (h : Dt K H v (.tuple ds)) : ∃ p vs, v = .ref p ∧ SqT K H p vs ∧ DtAll K H vs ds := by
  cases h with
  | tup s a => exact ⟨_, _, rfl, s, a⟩
theorem Dt.of_int {v : V} {i : Int} (h : Dt K H v (.int i)) : v = .int i := by cases h; rfl
theorem Dt.of_str {v : V} {x : Str} (h : Dt K H v (.str x)) : v = .str x := by cases h; rfl
theorem Dt.of_bl {v : V} {b : Bool} (h : Dt K H v (.bool b)) : v = .bl b := by cases h; rfl
theorem Dt.of_non {v : V} (h : Dt K H v .none) : v = .non := by cases h; rfl
theorem DtAll.ints : ∀ (ns : List Int), DtAll K H (ns.map V.int) (ns.map PyData.int)
  | [] => .nil
  | n :: r => .cons (.int n) (DtAll.ints r)
end
/-! ### a list of such -/
def Lq (K : PySem.W.Frag) (H : Hp) (q : Addr) (ds : List PyData) : Prop := ∃ vs, H q = some (.lst vs) ∧ DtAll K H vs ds
section
variable {K : PySem.W.Frag} {H H' : Hp} {q : Addr} {ds : List PyData}
theorem Lq.fr {S : List Addr} (h : Lq K H q ds) (f : Fr S H H') (n : q ∉ S) (t : Tu H H') : Lq K H' q ds := by
  obtain ⟨vs, e, a⟩ := h
  exact ⟨vs, f _ _ e n, a.mono t⟩
theorem Lq.fr0 (h : Lq K H q ds) (f : Fr [] H H') : Lq K H' q ds := h.fr f (by simp) f.tu
theorem Lq.dp (h : Lq K H q ds) : Dp K H (.ref q) (.list ds) := by
  obtain ⟨vs, e, a⟩ := h
  exact .lst (SqL.of e) a.dp
theorem lay_list {n : Nat} (h : ∀ d ∈ ds, d.canLay0 = true ∧ d.depth ≤ n) : PyData.canLayAll0 ds = true ∧ PyData.depthAll ds ≤ n := by
  induction ds with
  | nil => exact ⟨by simp [PyData.canLayAll0], by simp [PyData.depthAll]⟩
  | cons d r ih =>
    have h1 := h d List.mem_cons_self
    have h2 := ih fun x hx => h x (List.mem_cons_of_mem _ hx)
    constructor
    · simp [PyData.canLayAll0, h1.1, h2.1]
    · simp only [PyData.depthAll]
      exact Nat.max_le.mpr ⟨h1.2, h2.2⟩
theorem shaped_list {n : Nat} (hn : n < 64) (h : ∀ d ∈ ds, d.canLay0 = true ∧ d.depth ≤ n) : SeqAt.shaped (.list ds) = true := by
  have k := lay_list h
  unfold SeqAt.shaped
  rw [Bool.and_eq_true]
  refine ⟨by simp only [PyData.canLay0]; exact k.1, decide_eq_true ?_⟩
  simp only [PyData.depth]
  omega
theorem shaped_tuple {n : Nat} (hn : n < 64) (h : ∀ d ∈ ds, d.canLay0 = true ∧ d.depth ≤ n) : SeqAt.shaped (.tuple ds) = true := by
  have k := lay_list h
  unfold SeqAt.shaped
  rw [Bool.and_eq_true]
  refine ⟨by simp only [PyData.canLay0]; exact k.1, decide_eq_true ?_⟩
  simp only [PyData.depth]
  omega
theorem lay_shaped {d : PyData} (h : d.canLay0 = true ∧ d.depth ≤ 64) : SeqAt.shaped d = true := by
  unfold SeqAt.shaped
  rw [Bool.and_eq_true]
  exact ⟨h.1, decide_eq_true h.2⟩
theorem shaped_refl {d : PyData} (h : SeqAt.shaped d = true) : PyData.eqv d d = true := SeqAt.eqv_refl d (SeqAt.canLay_of_shaped h)
theorem w_eqR {Q : VK} {x y : V} {d : PyData} (hx : Dp K H x d) (hy : Dp K H y d) (s : SeqAt.shaped d = true) (q : Q (.bl true) H) : rEqU K x y H Q := w_eqD hx hy s s (by rw [shaped_refl s]; exact q)
theorem w_neR {Q : VK} {x y : V} {d : PyData} (hx : Dp K H x d) (hy : Dp K H y d) (s : SeqAt.shaped d = true) (q : Q (.bl false) H) : rNeU K x y H Q := w_neD hx hy s s (by rw [shaped_refl s]; exact q)
theorem w_app {l : Addr} {xs : List V} {y : V} {Q : VK} (h : H l = some (.lst xs)) (n : xs.length ≤ 1000000) (q : Q .non (upd H l (.lst (xs ++ [y])))) : tyV K "list" (.ref l) H ∧ rAppend (.ref l) [y] H Q :=
  ⟨.inl ⟨rfl, _, SqL.of h⟩, l, xs, y, rfl, rfl, h, Nat.lt_of_le_of_lt n (by decide), q⟩
end
theorem cut_take {xs : List V} (n : Nat) : cutV xs none (some (n : Int)) = xs.take n := by
  unfold cutV
  rw [HT.sIx_none, HT.sIx_nat, List.drop_zero, Nat.sub_zero]
  by_cases h : n ≤ xs.length
  · rw [Nat.min_eq_left h]
  · rw [Nat.min_eq_right (by omega), List.take_length, List.take_of_length_le (by omega)]
theorem cut_drop {xs : List V} (n : Nat) : cutV xs (some (n : Int)) none = xs.drop n := by
  unfold cutV
  rw [HT.sIx_none, HT.sIx_nat]
  by_cases h : n ≤ xs.length
  · rw [Nat.min_eq_left h, List.take_of_length_le (by rw [List.length_drop]; omega)]
  · rw [Nat.min_eq_right (by omega), Nat.sub_self, List.take_zero, List.drop_eq_nil_of_le (by omega)]
/-- == with an empty list -/
theorem w_eqNil {Q : VK} {K : PySem.W.Frag} {H : Hp} {x e : Addr} {ds : List PyData} (hx : Dp K H (.ref x) (.list ds)) (he : H e = some (.lst [])) (s : SeqAt.shaped (.list ds) = true) (q : Q (.bl ds.isEmpty) H) : rEqU K (.ref x) (.ref e) H Q :=
  w_eqD hx (.lst (SqL.of he) .nil) s (by decide) (by
    cases ds with
    | nil => exact q
    | cons d r => exact q)
theorem w_neNil {Q : VK} {K : PySem.W.Frag} {H : Hp} {x e : Addr} {ds : List PyData} (hx : Dp K H (.ref x) (.list ds)) (he : H e = some (.lst [])) (s : SeqAt.shaped (.list ds) = true) (q : Q (.bl (!ds.isEmpty)) H) : rNeU K (.ref x) (.ref e) H Q :=
  w_neD hx (.lst (SqL.of he) .nil) s (by decide) (by
    cases ds with
    | nil => exact q
    | cons d r => exact q)
theorem take_fold {α β : Type} {f : β → α → β} {b : β} {xs : List α} {i : Nat} {x : α} (h : xs[i]? = some x) : (xs.take (i + 1)).foldl f b = f ((xs.take i).foldl f b) x := by
  rw [List.take_add_one, h, List.foldl_append]
  rfl
theorem take_map {α β : Type} {f : α → β} {xs : List α} {i : Nat} {x : α} (h : xs[i]? = some x) : (xs.take (i + 1)).map f = (xs.take i).map f ++ [f x] := by
  rw [List.take_add_one, h, List.map_append]
  rfl
theorem take_filt {α : Type} {f : α → Bool} {xs : List α} {i : Nat} {x : α} (h : xs[i]? = some x) : (xs.take (i + 1)).filter f = (xs.take i).filter f ++ (if f x then [x] else []) := by
  rw [List.take_add_one, h, List.filter_append]
  show _ ++ List.filter f [x] = _
  rw [List.filter_cons, List.filter_nil]
/-! ### any plain data (a dict: that it is one) -/
mutual
inductive Dg (K : PySem.W.Frag) (H : Hp) : V → PyData → Prop
  | non : Dg K H .non .none
  | bl (b : Bool) : Dg K H (.bl b) (.bool b)
  | int (i : Int) : Dg K H (.int i) (.int i)
  | str (x : Str) : Dg K H (.str x) (.str x)
  | tup {p : Addr} {vs : List V} {es : List PyData} : SqT K H p vs → DgAll K H vs es → Dg K H (.ref p) (.tuple es)
  | lst {p : Addr} {vs : List V} {es : List PyData} : SqL K H p vs → DgAll K H vs es → Dg K H (.ref p) (.list es)
  | dct {p : Addr} {kvs : List (Key × V)} {es : List (PyData × PyData)} : H p = some (.dK kvs) → Dg K H (.ref p) (.dict es)
inductive DgAll (K : PySem.W.Frag) (H : Hp) : List V → List PyData → Prop
  | nil : DgAll K H [] []
  | cons {v : V} {vs : List V} {e : PyData} {es : List PyData} : Dg K H v e → DgAll K H vs es → DgAll K H (v :: vs) (e :: es)
end
section
variable {K : PySem.W.Frag} {H H' : Hp}
mutual
theorem Dg.fr (f : Fr [] H H') : ∀ {v : V} {d : PyData}, Dg K H v d → Dg K H' v d
  | _, _, .non => .non
  | _, _, .bl b => .bl b
  | _, _, .int i => .int i
  | _, _, .str x => .str x
  | _, _, .tup s a => .tup (f.seqT s (by simp)) (DgAll.fr f a)
  | _, _, .lst s a => .lst (f.seqL s (by simp)) (DgAll.fr f a)
  | _, _, .dct h => .dct (f _ _ h (by simp))
theorem DgAll.fr (f : Fr [] H H') : ∀ {vs : List V} {ds : List PyData}, DgAll K H vs ds → DgAll K H' vs ds
  | _, _, .nil => .nil
  | _, _, .cons a b => .cons (Dg.fr f a) (DgAll.fr f b)
end
mutual
theorem Dt.dg : ∀ {v : V} {d : PyData}, Dt K H v d → Dg K H v d
  | _, _, .non => .non
  | _, _, .bl b => .bl b
  | _, _, .int i => .int i
  | _, _, .str x => .str x
  | _, _, .tup s a => .tup s (DtAll.dg a)
theorem DtAll.dg : ∀ {vs : List V} {ds : List PyData}, DtAll K H vs ds → DgAll K H vs ds
  | _, _, .nil => .nil
  | _, _, .cons a b => .cons (Dt.dg a) (DtAll.dg b)
end
theorem DgAll.length : ∀ {vs : List V} {ds : List PyData}, DgAll K H vs ds → vs.length = ds.length
  | _, _, .nil => rfl
  | _, _, .cons _ b => by rw [List.length_cons, List.length_cons, DgAll.length b]
theorem DgAll.get : ∀ {vs : List V} {ds : List PyData} {i : Nat} {v : V}, DgAll K H vs ds → vs[i]? = some v → ∃ d, ds[i]? = some d ∧ Dg K H v d
  | _, _, i, _, .nil, h => by simp at h
  | _, _, 0, v, .cons a b, h => by
    simp at h
    subst h
    exact ⟨_, rfl, a⟩
  | _, _, i + 1, v, .cons a b, h => by
    obtain ⟨d, h1, h2⟩ := DgAll.get (i := i) b (by simpa using h)
    exact ⟨d, by simpa using h1, h2⟩
end
theorem Lq.dg {K : PySem.W.Frag} {H : Hp} {l : Addr} {ds : List PyData} (h : Lq K H l ds) : Dg K H (.ref l) (.list ds) := by
  obtain ⟨vs, e, a⟩ := h
  exact .lst (SqL.of e) a.dg
/-! ### displays, append: what is known of them behind -/
theorem mkT {K : PySem.W.Frag} {H : Hp} {xs : List V} {ds : List PyData} {Q : VK} (d : DtAll K H xs ds) (q : ∀ p H', H p = none → Fr [] H H' → Dt K H' (.ref p) (.tuple ds) → Q (.ref p) H') (n : xs.length ≤ 1000 := by exact Nat.le_of_ble_eq_true rfl) : MkT xs Q H :=
  ⟨Nat.le_trans n (by decide), fun p hp => q p _ hp (Fr.new hp) (.tup (.inl (.inl upd_same)) (d.mono (Tu.new hp)))⟩
theorem mkL {K : PySem.W.Frag} {H : Hp} {xs : List V} {ds : List PyData} {Q : VK} (d : DtAll K H xs ds) (q : ∀ p H', H p = none → Fr [] H H' → Lq K H' p ds → Q (.ref p) H') (n : xs.length ≤ 1000 := by exact Nat.le_of_ble_eq_true rfl) : MkL xs Q H :=
  ⟨Nat.le_trans n (by decide), fun p hp => q p _ hp (Fr.new hp) ⟨xs, upd_same, d.mono (Tu.new hp)⟩⟩
/-- a list of ints, of texts -/
theorem mkI {H : Hp} {ns : List Int} {xs : List V} {Q : VK} (e : xs = ns.map V.int) (q : ∀ p H', H p = none → Fr [] H H' → H' p = some (.lst (ns.map V.int)) → Q (.ref p) H') (n : xs.length ≤ 1000 := by exact Nat.le_of_ble_eq_true rfl) : MkL xs Q H :=
  ⟨Nat.le_trans n (by decide), fun p hp => q p _ hp (Fr.new hp) (by rw [upd_same, e])⟩
theorem mkS {H : Hp} {ns : List Str} {xs : List V} {Q : VK} (e : xs = ns.map V.str) (q : ∀ p H', H p = none → Fr [] H H' → H' p = some (.lst (ns.map V.str)) → Q (.ref p) H') (n : xs.length ≤ 1000 := by exact Nat.le_of_ble_eq_true rfl) : MkL xs Q H :=
  ⟨Nat.le_trans n (by decide), fun p hp => q p _ hp (Fr.new hp) (by rw [upd_same, e])⟩
theorem Lq.ty {K : PySem.W.Frag} {H : Hp} {l : Addr} {ds : List PyData} (h : Lq K H l ds) : tyV K "list" (.ref l) H := by
  obtain ⟨vs, e, _⟩ := h
  exact .inl ⟨rfl, _, SqL.of e⟩
theorem Lq.app {K : PySem.W.Frag} {H : Hp} {l : Addr} {ds : List PyData} {y : V} {d : PyData} {Q : VK} (h : Lq K H l ds) (hy : Dt K H y d) (n : ds.length ≤ 100000) (q : ∀ H', Fr [l] H H' → Tu H H' → Lq K H' l (ds ++ [d]) → Q .non H') : rAppend (.ref l) [y] H Q := by
  obtain ⟨vs, e, a⟩ := h
  refine ⟨l, vs, y, rfl, rfl, e, Nat.lt_of_le_of_lt (show vs.length ≤ 100000 by rw [a.length]; exact n) (by decide), ?_⟩
  exact q _ (Fr.mut (by simp)) (Tu.mut e) ⟨_, upd_same, (a.append (.cons hy .nil)).mono (Tu.mut e)⟩
theorem Lq.copy {K : PySem.W.Frag} {H : Hp} {l : Addr} {ds : List PyData} {Q : VK} (h : Lq K H l ds) (q : ∀ p H', H p = none → Fr [] H H' → Lq K H' p ds → Q (.ref p) H') : rListU K [.ref l] H Q := by
  obtain ⟨vs, e, a⟩ := h
  exact w_listL (SqL.of e) fun p hp => q p _ hp (Fr.new hp) ⟨vs, upd_same, a.mono (Tu.new hp)⟩
theorem Lq.isList {K : PySem.W.Frag} {H : Hp} {l : Addr} {ds : List PyData} {Q : VK} (h : Lq K H l ds) (q : Q (.bl true) H) : rIsi K [.ref l, .ty "list"] H Q := by
  obtain ⟨vs, e, a⟩ := h
  exact isL_list (SqL.of e) q
theorem Lq.len {K : PySem.W.Frag} {H : Hp} {l : Addr} {ds : List PyData} {Q : VK} (h : Lq K H l ds) (q : Q (.int ds.length) H) : rLenU K [.ref l] H Q := by
  obtain ⟨vs, e, a⟩ := h
  rw [← a.length] at q
  exact w_lenL (SqL.of e) q
theorem DtAll.rev {K : PySem.W.Frag} {H : Hp} : ∀ {vs : List V} {ds : List PyData}, DtAll K H vs ds → DtAll K H vs.reverse ds.reverse
  | _, _, .nil => .nil
  | _, _, .cons a b => by
    rw [List.reverse_cons, List.reverse_cons]
    exact (DtAll.rev b).append (.cons a .nil)
theorem Lq.reverse {K : PySem.W.Frag} {H : Hp} {l : Addr} {ds : List PyData} {Q : VK} (h : Lq K H l ds) (q : ∀ H', Fr [l] H H' → Tu H H' → Lq K H' l ds.reverse → Q .non H') : rReverse (.ref l) [] H Q := by
  obtain ⟨vs, e, a⟩ := h
  exact ⟨l, vs, rfl, rfl, e, q _ (Fr.mut (by simp)) (Tu.mut e) ⟨_, upd_same, (a.rev).mono (Tu.mut e)⟩⟩
/-! ### slices, sums -/
def cutA {α : Type} (xs : List α) (lo hi : Option Int) : List α := (xs.drop (HT.sIx xs.length 0 lo)).take (HT.sIx xs.length xs.length hi - HT.sIx xs.length 0 lo)
theorem cutA_take {α : Type} {xs : List α} (n : Nat) : cutA xs none (some (n : Int)) = xs.take n := by
  unfold cutA
  rw [HT.sIx_none, HT.sIx_nat, List.drop_zero, Nat.sub_zero]
  by_cases h : n ≤ xs.length
  · rw [Nat.min_eq_left h]
  · rw [Nat.min_eq_right (by omega), List.take_length, List.take_of_length_le (by omega)]
theorem cutA_drop {α : Type} {xs : List α} (n : Nat) : cutA xs (some (n : Int)) none = xs.drop n := by
  unfold cutA
  rw [HT.sIx_none, HT.sIx_nat]
  by_cases h : n ≤ xs.length
  · rw [Nat.min_eq_left h, List.take_of_length_le (by rw [List.length_drop]; omega)]
  · rw [Nat.min_eq_right (by omega), Nat.sub_self, List.take_zero, List.drop_eq_nil_of_le (by omega)]
theorem cutA_mem {α : Type} {xs : List α} {lo hi : Option Int} {x : α} (h : x ∈ cutA xs lo hi) : x ∈ xs := List.mem_of_mem_drop (List.mem_of_mem_take h)
theorem cutA_map {α β : Type} {f : α → β} {xs : List α} {lo hi : Option Int} : cutA (xs.map f) lo hi = (cutA xs lo hi).map f := by
  unfold cutA
  rw [List.length_map, ← List.map_drop, ← List.map_take]
theorem cutA_len {α : Type} {xs : List α} {lo hi : Option Int} : (cutA xs lo hi).length ≤ xs.length := by
  unfold cutA
  rw [List.length_take, List.length_drop]
  omega
theorem DtAll.cut {K : PySem.W.Frag} {H : Hp} {vs : List V} {ds : List PyData} (h : DtAll K H vs ds) (lo hi : Option Int) : DtAll K H (cutV vs lo hi) (cutA ds lo hi) := by
  unfold cutV cutA
  rw [h.length]
  exact (h.drop _).take _
theorem Lq.slice {K : PySem.W.Frag} {H : Hp} {l : Addr} {ds : List PyData} {lo hi : Option Int} {Q : VK} (h : Lq K H l ds) (q : ∀ p H', H p = none → Fr [] H H' → Lq K H' p (cutA ds lo hi) → Q (.ref p) H') : rSlU K (.ref l) lo hi H Q := by
  obtain ⟨vs, e, a⟩ := h
  exact w_slL (SqL.of e) fun p hp => q p _ hp (Fr.new hp) ⟨_, upd_same, (a.cut lo hi).mono (Tu.new hp)⟩
theorem cutA_full {α : Type} {xs : List α} {lo hi : Option Int} (h : HT.sIx xs.length 0 lo = 0 ∧ HT.sIx xs.length xs.length hi = xs.length) : cutA xs lo hi = xs := by
  unfold cutA
  rw [h.1, h.2, List.drop_zero, Nat.sub_zero, List.take_length]
theorem Dt.slice {K : PySem.W.Frag} {H : Hp} {v : V} {ds : List PyData} {lo hi : Option Int} {Q : VK} (h : Dt K H v (.tuple ds)) (q : ∀ p H', Fr [] H H' → Dt K H' (.ref p) (.tuple (cutA ds lo hi)) → Q (.ref p) H') : rSlU K v lo hi H Q := by
  obtain ⟨p, vs, rfl, s, a⟩ := h.tuple
  refine .inl (.inr ⟨p, vs, rfl, s, fun z => ?_, fun _ p' hp => ?_⟩)
  · rw [a.length] at z
    refine q p H Fr.refl ?_
    rw [cutA_full z]
    exact h
  · exact q p' _ (Fr.new hp) (.tup (.inl (.inl upd_same)) ((a.cut lo hi).mono (Tu.new hp)))
theorem Dt.cat {K : PySem.W.Frag} {H : Hp} {v u : V} {ds es : List PyData} {Q : VK} (h : Dt K H v (.tuple ds)) (h' : Dt K H u (.tuple es)) (n : ds.length + es.length ≤ 1000) (q : ∀ p H', Fr [] H H' → Dt K H' (.ref p) (.tuple (ds ++ es)) → Q (.ref p) H') : rAddU K v u H Q := by
  obtain ⟨p, vs, rfl, s, a⟩ := h.tuple
  obtain ⟨p', us, rfl, s', a'⟩ := h'.tuple
  refine .inr (.inl ⟨p, p', vs, us, rfl, rfl, s, s', Nat.le_trans (show _ ≤ 1000 by rw [a.length, a'.length]; exact n) (by decide), fun z => ?_, fun _ z => ?_, fun _ _ r hr => ?_⟩)
  · subst z
    cases a
    exact q p' H Fr.refl h'
  · subst z
    cases a'
    refine q p H Fr.refl ?_
    rw [List.append_nil]
    exact h
  · exact q r _ (Fr.new hr) (.tup (.inl (.inl upd_same)) ((a.append a').mono (Tu.new hr)))
theorem Lq.cat {K : PySem.W.Frag} {H : Hp} {l m : Addr} {ds es : List PyData} {Q : VK} (h : Lq K H l ds) (h' : Lq K H m es) (n : ds.length + es.length ≤ 100000) (q : ∀ p H', H p = none → Fr [] H H' → Lq K H' p (ds ++ es) → Q (.ref p) H') : rAddU K (.ref l) (.ref m) H Q := by
  obtain ⟨vs, e, a⟩ := h
  obtain ⟨us, e', a'⟩ := h'
  exact w_addL e e' (by rw [a.length, a'.length]; omega) fun p hp => q p _ hp (Fr.new hp) ⟨_, upd_same, (a.append a').mono (Tu.new hp)⟩
theorem Lq.allB {K : PySem.W.Frag} {H : Hp} {l : Addr} {bs : List Bool} {Q : VK} (h : Lq K H l (bs.map PyData.bool)) (q : Q (.bl (bs.all id)) H) : rAll K [.ref l] H Q := by
  obtain ⟨vs, e, a⟩ := h
  have z : vs = bs.map V.bl := by
    clear e q
    induction bs generalizing vs with
    | nil => cases a; rfl
    | cons b r ih =>
      cases a with
      | cons a1 a2 => rw [a1.of_bl, ih _ a2]; rfl
  exact ⟨l, bs, rfl, SqL.of (by rw [e, z]), q⟩
theorem Lq.ints {K : PySem.W.Frag} {H : Hp} {l : Addr} {ns : List Int} (h : Lq K H l (ns.map PyData.int)) : H l = some (.lst (ns.map V.int)) := by
  obtain ⟨vs, e, a⟩ := h
  have z : vs = ns.map V.int := by
    clear e
    induction ns generalizing vs with
    | nil => cases a; rfl
    | cons b r ih =>
      cases a with
      | cons a1 a2 => rw [a1.of_int, ih _ a2]; rfl
  rw [e, z]
/-- what changed is new -/
theorem Fr.drop1 {S : List Addr} {H H1 H2 : Hp} {p : Addr} (hp : H p = none) (a : Fr S H H1) (b : Fr [p] H1 H2) : Fr S H H2 := fun x o e n => b x o (a x o e n) (by
  intro z
  rw [List.mem_singleton.mp z, hp] at e
  cases e)
/-- a comprehension with a test over a list of data: what is kept is the data's own filter -/
theorem LCF {K : PySem.W.Frag} {α : Type} {q : Addr} {H : Hp} {us : List V} {cs : List α} {dS : α → PyData} {j : Nat} {ws : List Nat} {σ : L2.St} {tt : TT} {te : TE} {Q : VK} (f : α → Bool) (g : α → PyData)
    (hq : H q = some (.lst us)) (hd : DtAll K H us (cs.map dS)) (lc : cs.length ≤ 100000) (hw : ∀ x, wipe ((wipe σ ws).set j (some x)) ws = wipe σ ws)
    (ht : ∀ c x H', c ∈ cs → Fr [] H H' → Dt K H' x (dS c) → ∀ QB : Bool → Hp → Prop, (∀ H2, Fr [] H' H2 → QB (f c) H2) → tt ((wipe σ ws).set j (some x)) H' QB)
    (he : ∀ c x H', c ∈ cs → Fr [] H H' → Dt K H' x (dS c) → f c = true → ∀ Q : VK, (∀ y H2, Fr [] H' H2 → Dt K H2 y (g c) → Q y H2) → te ((wipe σ ws).set j (some x)) H' Q)
    (k : ∀ D H', H D = none → Fr [] H H' → Lq K H' D ((cs.filter f).map g) → Q (.ref D) H') :
    ∃ a', V.ref q = .ref a' ∧ (∃ ys, SqL K H a' ys) ∧ ∀ D, H D = none → LC (Itl K a') (gName j) tt te ws σ D Q (upd H D (.lst [])) := by
  have lu : us.length = cs.length := by rw [hd.length, List.length_map]
  refine LC_L (SqL.of hq) fun D hD => LC_by (a := q) (xs := us) (fun i H' => Fr [] H H' ∧ Lq K H' D (((cs.take i).filter f).map g)) ⟨Fr.new hD, [], upd_same, .nil⟩ (fun i H' _ h => SqL.of (h.1 _ _ hq (by simp))) ?_ ?_
  · rintro i x H' hx ⟨f', ys, hys, dys⟩
    obtain ⟨d, h1, h2⟩ := (hd.mono f'.tu).get hx
    obtain ⟨c, h3, rfl⟩ := (by
      rw [List.getElem?_map] at h1
      cases e : cs[i]? with
      | none => rw [e] at h1; cases h1
      | some x => rw [e] at h1; exact ⟨x, rfl, Option.some.inj h1⟩ : ∃ c, cs[i]? = some c ∧ dS c = d)
    have mc := List.mem_of_getElem? h3
    have hi : i < us.length := (List.getElem?_eq_some_iff.mp hx).1
    have ly : ys.length ≤ i := by
      rw [dys.length, List.length_map]
      refine Nat.le_trans (List.length_filter_le _ _) ?_
      rw [List.length_take]
      omega
    refine ⟨hw x, ht c x H' mc f' h2 _ fun H2 f2 => ?_⟩
    cases hf : f c with
    | false =>
      rw [if_neg Bool.false_ne_true]
      refine ⟨f'.trans f2, ?_⟩
      rw [take_filt h3, hf]
      show Lq K H2 D ((List.filter f (cs.take i) ++ []).map g)
      rw [List.append_nil]
      exact Lq.fr0 ⟨ys, hys, dys⟩ f2
    | true =>
      rw [if_pos rfl]
      refine he c x H2 mc (f'.trans f2) (h2.mono f2.tu) hf _ fun y H3 f3 dy => ?_
      have f23 := f2.trans f3
      have e3 := f23 _ _ hys (by simp)
      refine ⟨ys, e3, Nat.lt_of_le_of_lt (show ys.length ≤ 100000 by omega) (by decide), Fr.new_mut hD ((f'.trans f23).mono (by simp) |>.trans (Fr.mut (by simp))), _, upd_same, ?_⟩
      rw [take_filt h3, hf, List.map_append]
      exact ((dys.mono f23.tu).append (.cons dy .nil)).mono (Tu.mut e3)
  · rintro H' ⟨f', L⟩
    rw [lu, List.take_length] at L
    exact k D H' hD f' L
theorem Lq.at {K : PySem.W.Frag} {H : Hp} {l : Addr} {ds : List PyData} {P : PyData → Prop} (h : Lq K H l ds) (hP : ∀ d ∈ ds, P d) {i : Int} (h0 : 0 ≤ i) (h1 : i < ds.length) {Q : VK} (q : ∀ v d, Dt K H v d → P d → ds[i.toNat]? = some d → Q v H) : rIx K (.ref l) (.int i) H Q := by
  obtain ⟨vs, e, a⟩ := h
  have ek : i = ((i.toNat : Nat) : Int) := by omega
  have hk : i.toNat < ds.length := by omega
  obtain ⟨v, hv, dv⟩ := a.get' (List.getElem?_eq_getElem hk)
  refine w_ixL (SqL.of e) ?_ (q v _ dv (hP _ (List.getElem_mem hk)) (List.getElem?_eq_getElem hk))
  rw [ek]
  exact atI_nat hv
/-- the last -/
theorem Lq.last {K : PySem.W.Frag} {H : Hp} {l : Addr} {ds : List PyData} {d : PyData} {Q : VK} (h : Lq K H l (ds ++ [d])) (q : ∀ v, Dt K H v d → Q v H) : rIx K (.ref l) (.int (-1)) H Q := by
  obtain ⟨vs, e, a⟩ := h
  have hl := a.length
  rw [List.length_append] at hl
  have hl : vs.length = ds.length + 1 := hl
  obtain ⟨v, hv, dv⟩ := a.get' (i := ds.length) (d := d) (by rw [List.getElem?_append_right (Nat.le_refl _), Nat.sub_self]; rfl)
  refine w_ixL (SqL.of e) ?_ (q v dv)
  unfold atI ixN
  rw [if_neg (by decide), if_pos (by omega)]
  show vs[((-1 : Int) + vs.length).toNat]? = some v
  rw [show ((-1 : Int) + vs.length).toNat = ds.length by omega]
  exact hv
/-- a for over such a list -/
theorem Lq.walk {K : PySem.W.Frag} {H : Hp} {l : Addr} {ds : List PyData} {σ : L2.St} {nx b c : L2.St → Hp → Prop} {rt : VK} {g : TG} {tb : TS} (h : Lq K H l ds) (Pv : Nat → L2.St → Hp → Prop) (h0 : Pv 0 σ H) (hl : ∀ i σ H', Pv i σ H' → Lq K H' l ds)
    (hs : ∀ i v d σ H', ds[i]? = some d → Dt K H' v d → Pv i σ H' → g v σ H' fun σ2 H2 => tb ⟨Pv (i + 1), rt, nx, Pv (i + 1)⟩ σ2 H2) (hd : ∀ σ H', Pv ds.length σ H' → nx σ H') :
    ∃ a', V.ref l = .ref a' ∧ (∃ ys, SqL K H a' ys) ∧ FOR (Itl K a') g tb ⟨nx, rt, b, c⟩ σ H := by
  obtain ⟨vs, e, a⟩ := id h
  refine ⟨l, rfl, ⟨vs, SqL.of e⟩, fun i m σ H => m = ds.length - i ∧ i ≤ ds.length ∧ Pv i σ H, ⟨_, rfl, Nat.zero_le _, h0⟩, ?_⟩
  rintro i m σ' H' ⟨rfl, hi, p⟩
  obtain ⟨us, eu, au⟩ := hl i σ' H' p
  by_cases hlt : i < ds.length
  · obtain ⟨v, hv, dv⟩ := au.get' (List.getElem?_eq_getElem hlt)
    refine .inr ⟨⟨us, v, SqL.of eu, hv⟩, Pv (i + 1), fun σ2 H2 p' => ⟨ds.length - (i + 1), by omega, rfl, hlt, p'⟩, fun x H2 y => ?_⟩
    obtain ⟨z, y⟩ := y
    subst z
    have ex : x = v := Option.some.inj ((y us (SqL.of eu)).symm.trans hv)
    subst ex
    exact hs i x _ σ' _ (List.getElem?_eq_getElem hlt) dv p
  · have z : i = ds.length := by omega
    subst z
    exact .inl ⟨⟨us, SqL.of eu, by rw [au.length]; exact Nat.le_refl _⟩, hd σ' H' p⟩
/-- .. backwards -/
theorem Lq.walkRev {K : PySem.W.Frag} {H : Hp} {l : Addr} {ds : List PyData} {σ : L2.St} {nx b c : L2.St → Hp → Prop} {rt : VK} {g : TG} {tb : TS} (h : Lq K H l ds) (Pv : Nat → L2.St → Hp → Prop) (h0 : Pv 0 σ H) (hl : ∀ i σ H', Pv i σ H' → Lq K H' l ds)
    (hs : ∀ i v d σ H', i < ds.length → ds[ds.length - 1 - i]? = some d → Dt K H' v d → Pv i σ H' → g v σ H' fun σ2 H2 => tb ⟨Pv (i + 1), rt, nx, Pv (i + 1)⟩ σ2 H2) (hd : ∀ σ H', Pv ds.length σ H' → nx σ H') :
    ∃ (a : Addr) (xs : List V), V.ref l = .ref a ∧ ((SqL K H a xs ∧ FOR (Itv K a xs.length) g tb ⟨nx, rt, b, c⟩ σ H) ∨ (SqT K H a xs ∧ FOR (RT.ItvT K a xs.length) g tb ⟨nx, rt, b, c⟩ σ H)) := by
  obtain ⟨vs, e, a⟩ := id h
  have lv := a.length
  refine ⟨l, vs, rfl, .inl ⟨SqL.of e, fun i m σ H => m = ds.length - i ∧ i ≤ ds.length ∧ Pv i σ H, ⟨_, rfl, Nat.zero_le _, h0⟩, ?_⟩⟩
  rintro i m σ' H' ⟨rfl, hi, p⟩
  obtain ⟨us, eu, au⟩ := hl i σ' H' p
  by_cases hlt : i < ds.length
  · have hj : ds.length - 1 - i < ds.length := by omega
    obtain ⟨v, hv, dv⟩ := au.get' (List.getElem?_eq_getElem hj)
    refine .inr ⟨⟨by omega, us, v, SqL.of eu, by rw [lv]; exact hv⟩, Pv (i + 1), fun σ2 H2 p' => ⟨ds.length - (i + 1), by omega, rfl, hlt, p'⟩, fun x H2 y => ?_⟩
    obtain ⟨z, y⟩ := y
    subst z
    have y2 := y us (SqL.of eu)
    rw [lv] at y2
    have ex : x = v := Option.some.inj (y2.symm.trans hv)
    subst ex
    exact hs i x _ σ' _ hlt (List.getElem?_eq_getElem hj) dv p
  · have z : i = ds.length := by omega
    subst z
    exact .inl ⟨by show vs.length ≤ _; omega, hd σ' H' p⟩
/-- .. with its number -/
theorem Lq.walkEnum {K : PySem.W.Frag} {H : Hp} {l : Addr} {ds : List PyData} {σ : L2.St} {nx b c : L2.St → Hp → Prop} {rt : VK} {g : TG} {tb : TS} (h : Lq K H l ds) (Pv : Nat → L2.St → Hp → Prop) (h0 : Pv 0 σ H) (hl : ∀ i σ H', Pv i σ H' → Lq K H' l ds)
    (hs : ∀ i t v d σ H' H2, ds[i]? = some d → Dt K H2 v d → Fr [] H' H2 → Pv i σ H' → SqT K H2 t [.int i, v] → g (.ref t) σ H2 fun σ2 H3 => tb ⟨Pv (i + 1), rt, nx, Pv (i + 1)⟩ σ2 H3) (hd : ∀ σ H', Pv ds.length σ H' → nx σ H') :
    ∃ a xs, [V.ref l] = [.ref a] ∧ SqL K H a xs ∧ FOR (Ite K a) g tb ⟨nx, rt, b, c⟩ σ H := by
  obtain ⟨vs, e, a⟩ := id h
  refine ⟨l, vs, rfl, SqL.of e, fun i m σ H => m = ds.length - i ∧ i ≤ ds.length ∧ Pv i σ H, ⟨_, rfl, Nat.zero_le _, h0⟩, ?_⟩
  rintro i m σ' H' ⟨rfl, hi, p⟩
  obtain ⟨us, eu, au⟩ := hl i σ' H' p
  by_cases hlt : i < ds.length
  · obtain ⟨v, hv, dv⟩ := au.get' (List.getElem?_eq_getElem hlt)
    refine .inr ⟨⟨us, v, SqL.of eu, hv⟩, Pv (i + 1), fun σ2 H2 p' => ⟨ds.length - (i + 1), by omega, rfl, hlt, p'⟩, fun x H2 y => ?_⟩
    obtain ⟨t, z, e1, ht, e2, y⟩ := y
    subst e1 e2
    have ex : z = v := Option.some.inj ((y us (SqL.of eu)).symm.trans hv)
    subst ex
    exact hs i t z _ σ' H' _ (List.getElem?_eq_getElem hlt) (dv.mono (Tu.new ht)) (Fr.new ht) p (.inl (.inl upd_same))
  · have z : i = ds.length := by omega
    subst z
    exact .inl ⟨⟨us, SqL.of eu, by rw [au.length]; exact Nat.le_refl _⟩, hd σ' H' p⟩
theorem map_get {α β : Type} {f : α → β} {xs : List α} {i : Nat} {y : β} (h : (xs.map f)[i]? = some y) : ∃ x, xs[i]? = some x ∧ f x = y := by
  rw [List.getElem?_map] at h
  cases e : xs[i]? with
  | none => rw [e] at h; cases h
  | some x => rw [e] at h; exact ⟨x, rfl, Option.some.inj h⟩
end U

namespace U
open PySem PySem.Spec PyProof.Rows L2
/-! ### texts: a sign, a part, sign by sign -/
section
variable {K : PySem.W.Frag} {H : Hp} {Q : VK} {i j : Int}
theorem w_ixS {z : Str} {c : Nat} (h : z.length ≤ sizeLine) (e : atI z.cps.toList i = some c) (q : Q (.str ⟨#[c]⟩) H) : rIx K (.str z) (.int i) H Q := .inr (.inr ⟨z, i, c, rfl, rfl, h, e, q⟩)
theorem w_inSign {c : Nat} {z : Str} (q : Q (.bl (decide (c ∈ z.cps.toList))) H) : rInU K (.str ⟨#[c]⟩) (.str z) H Q := .inr ⟨c, z, rfl, rfl, q⟩
theorem w_ninSign {c : Nat} {z : Str} (q : Q (.bl (!decide (c ∈ z.cps.toList))) H) : rNinU K (.str ⟨#[c]⟩) (.str z) H Q := .inr ⟨c, z, rfl, rfl, q⟩
theorem w_slS {z : Str} {lo hi : Option Int} (h : z.length ≤ sizeLine) (q : Q (.str (cutS z lo hi)) H) : rSlU K (.str z) lo hi H Q := .inr ⟨z, rfl, h, q⟩
def MkD (Q : VK) (H : Hp) : Prop := ∀ p, H p = none → Q (.ref p) (upd H p (.dK []))
theorem w_dnew {σ : L2.St} (q : MkD Q H) : tDNewK σ H Q := q
theorem w_iS {σ : L2.St} {te : TE} {R : It → Hp → Prop} (q : te σ H fun v H1 => ∃ x, v = .str x ∧ R (Its x) H1) : iStr te σ H R := q
theorem at_sign {z : Str} {p : Int} (h0 : 0 ≤ p) (h : p < z.length) : ∃ c, atI z.cps.toList p = some c ∧ c ∈ z.cps.toList := by
  have h1 : p.toNat < z.cps.toList.length := by
    rw [Array.length_toList]
    have : z.length = z.cps.size := rfl
    omega
  have ek : p = ((p.toNat : Nat) : Int) := by omega
  have key : atI z.cps.toList ((p.toNat : Nat) : Int) = some z.cps.toList[p.toNat] := atI_nat (List.getElem?_eq_getElem h1)
  rw [← ek] at key
  exact ⟨_, key, List.getElem_mem h1⟩
end
/-- a text of at most n signs, each of them one -/
def TxOk (n : Nat) (x : Str) : Prop := x.length ≤ n ∧ PyData.strOk x = true
theorem strOk_mem {x : Str} : PyData.strOk x = true ↔ ∀ c ∈ x.cps.toList, c < 0x110000 := by
  unfold PyData.strOk
  rw [← Array.all_toList, List.all_eq_true]
  constructor
  · intro h c hc; simpa using h c hc
  · intro h c hc; simpa using h c hc
theorem TxOk.mono {n m : Nat} {x : Str} (h : TxOk n x) (l : n ≤ m) : TxOk m x := ⟨Nat.le_trans h.1 l, h.2⟩
theorem TxOk.cat {n m : Nat} {a b : Str} (ha : TxOk n a) (hb : TxOk m b) : TxOk (n + m) (a ++ b) := by
  refine ⟨?_, strOk_mem.mpr fun c hc => ?_⟩
  · have e : (a ++ b).length = a.length + b.length := by
      show (a ++ b).cps.size = a.cps.size + b.cps.size
      rw [PySem.Str.cps_append, Array.size_append]
    have := ha.1
    have := hb.1
    omega
  · rw [PySem.Str.cps_append, Array.toList_append] at hc
    rcases List.mem_append.mp hc with h | h
    · exact strOk_mem.mp ha.2 c h
    · exact strOk_mem.mp hb.2 c h
theorem TxOk.cut {n : Nat} {a : Str} {lo hi : Option Int} (ha : TxOk n a) : TxOk n (cutS a lo hi) := by
  refine ⟨Nat.le_trans (cutS_length a lo hi) ha.1, strOk_mem.mpr fun c hc => ?_⟩
  unfold cutS at hc
  rw [List.toList_toArray] at hc
  exact strOk_mem.mp ha.2 c (List.mem_of_mem_drop (List.mem_of_mem_take hc))
theorem TxOk.sign {n : Nat} {a : Str} {c : Nat} (ha : TxOk n a) (h : c ∈ a.cps.toList) : TxOk 1 ⟨#[c]⟩ := by
  refine ⟨Nat.le_refl _, strOk_mem.mpr fun d hd => ?_⟩
  rw [List.mem_singleton.mp hd]
  exact strOk_mem.mp ha.2 c h
/-- a comprehension over a text, sign by sign -/
theorem LCS {K : PySem.W.Frag} {x : Str} {H : Hp} {j : Nat} {ws : List Nat} {σ : L2.St} {tt : TT} {te : TE} {Q : VK} (f : Nat → Bool) (g : Nat → PyData) (lx : x.length ≤ 100000)
    (hw : ∀ v, wipe ((wipe σ ws).set j (some v)) ws = wipe σ ws)
    (ht : ∀ c H', Fr [] H H' → ∀ QB : Bool → Hp → Prop, QB (f c) H' → tt ((wipe σ ws).set j (some (.str ⟨#[c]⟩))) H' QB)
    (he : ∀ c H', Fr [] H H' → f c = true → ∀ Q : VK, (∀ y, Dt K H' y (g c) → Q y H') → te ((wipe σ ws).set j (some (.str ⟨#[c]⟩))) H' Q)
    (k : ∀ D H', H D = none → Fr [] H H' → Lq K H' D ((x.cps.toList.filter f).map g) → Q (.ref D) H') :
    ∃ x', V.str x = .str x' ∧ ∀ D, H D = none → LC (Its x') (gName j) tt te ws σ D Q (upd H D (.lst [])) := by
  refine ⟨x, rfl, fun D hD => ?_⟩
  refine lc_it (walk_str (z := x)) (fun i H' => Fr [] H H' ∧ Lq K H' D (((x.cps.toList.take i).filter f).map g)) ⟨Fr.new hD, [], upd_same, .nil⟩ (fun _ _ _ _ => trivial) ?_ ?_
  · rintro i v H1 H' hi ⟨f', ys, hys, dys⟩ ⟨rfl, c, hc, rfl⟩
    have hcl : x.cps.toList[i]? = some c := by rw [Array.getElem?_toList]; exact hc
    have ly : ys.length ≤ i := by
      rw [dys.length, List.length_map]
      refine Nat.le_trans (List.length_filter_le _ _) ?_
      rw [List.length_take]
      omega
    have lz : x.cps.size ≤ 100000 := lx
    refine ⟨hw _, ht c H' f' _ ?_⟩
    cases hf : f c with
    | false =>
      rw [if_neg Bool.false_ne_true]
      refine ⟨f', ?_⟩
      rw [take_filt hcl, hf]
      show Lq K H' D ((List.filter f (x.cps.toList.take i) ++ []).map g)
      rw [List.append_nil]
      exact ⟨ys, hys, dys⟩
    | true =>
      rw [if_pos rfl]
      refine he c H' f' hf _ fun y dy => ?_
      refine ⟨ys, hys, Nat.lt_of_le_of_lt (show ys.length ≤ 100000 by omega) (by decide), Fr.new_mut hD ((f'.mono (by simp)).trans (Fr.mut (by simp))), _, upd_same, ?_⟩
      rw [take_filt hcl, hf, List.map_append]
      exact (dys.append (.cons dy .nil)).mono (Tu.mut hys)
  · rintro H' ⟨f', L⟩
    have e : List.take x.cps.size x.cps.toList = x.cps.toList := by
      rw [← Array.length_toList, List.take_length]
    rw [e] at L
    exact k D H' hD f' L
/-- a new list of any data -/
theorem mkG {K : PySem.W.Frag} {H : Hp} {xs : List V} {ds : List PyData} {Q : VK} (d : DgAll K H xs ds) (q : ∀ p H' vs, H p = none → Fr [] H H' → H' p = some (.lst vs) → DgAll K H' vs ds → Q (.ref p) H') (n : xs.length ≤ 1000 := by exact Nat.le_of_ble_eq_true rfl) : MkL xs Q H :=
  ⟨Nat.le_trans n (by decide), fun p hp => q p _ xs hp (Fr.new hp) upd_same (d.fr (Fr.new hp))⟩
theorem mkD {H : Hp} {Q : VK} (q : ∀ p H', H p = none → Fr [] H H' → H' p = some (.dK []) → Q (.ref p) H') : MkD Q H := fun p hp => q p _ hp (Fr.new hp) upd_same
end U

namespace U
open PySem PySem.Spec PyProof.Rows L2
/-! ### a for over a tuple of data, comprehensions with any target and test -/
section
variable {K : PySem.W.Frag}
theorem Dt.walk {H : Hp} {v : V} {ds : List PyData} {σ : L2.St} {nx b c : L2.St → Hp → Prop} {rt : VK} {g : TG} {tb : TS} (h : Dt K H v (.tuple ds)) (Pv : Nat → L2.St → Hp → Prop) (h0 : Pv 0 σ H) (hl : ∀ i σ H', Pv i σ H' → Tu H H')
    (hs : ∀ i u d σ H', ds[i]? = some d → Dt K H' u d → Pv i σ H' → g u σ H' fun σ2 H2 => tb ⟨Pv (i + 1), rt, nx, Pv (i + 1)⟩ σ2 H2) (hd : ∀ σ H', Pv ds.length σ H' → nx σ H') :
    ∃ a, v = .ref a ∧ (∃ xs, SqT K H a xs) ∧ FOR (Itt K a) g tb ⟨nx, rt, b, c⟩ σ H := by
  obtain ⟨a, vs, rfl, s, av⟩ := h.tuple
  have e := av.length
  refine ⟨a, rfl, ⟨vs, s⟩, for_tup (D := ⟨nx, rt, b, c⟩) (xs := vs) Pv h0 (fun i σ H' _ p => (hl i σ H' p).seqT s) (fun i x σ H' hx p => ?_) (fun σ H' p => hd σ H' (by rw [← e]; exact p))⟩
  obtain ⟨d, h1, h2⟩ := (av.mono (hl i σ H' p)).get hx
  exact hs i x d σ H' h1 h2 p
theorem LCX_L {α : Type} {q : Addr} {H : Hp} {cs : List α} {dS : α → PyData} {ws : List Nat} {σ : L2.St} {tg : TG} {tt : TT} {te : TE} {Q : VK} (f : α → Bool) (g : α → PyData)
    (h : Lq K H q (cs.map dS)) (lc : cs.length ≤ 100000)
    (hs : ∀ (c : α) (x : V) (H' : Hp) (KEEP : VK) (DROP : Hp → Prop), c ∈ cs → Fr [] H H' → Dt K H' x (dS c) → (f c = true → ∀ y H4, Fr [] H' H4 → Dt K H4 y (g c) → KEEP y H4) → (f c = false → ∀ H4, Fr [] H' H4 → DROP H4) →
      tg x (wipe σ ws) H' fun σ2 H2 => wipe σ2 ws = wipe σ ws ∧ tt σ2 H2 fun k H3 => if k = true then te σ2 H3 KEEP else DROP H3)
    (k : ∀ D H', H D = none → Fr [] H H' → Lq K H' D ((cs.filter f).map g) → Q (.ref D) H') :
    ∃ a', V.ref q = .ref a' ∧ (∃ ys, SqL K H a' ys) ∧ ∀ D, H D = none → LC (Itl K a') tg tt te ws σ D Q (upd H D (.lst [])) := by
  obtain ⟨us, hq, hd⟩ := h
  have lu : us.length = cs.length := by rw [hd.length, List.length_map]
  refine LC_L (SqL.of hq) fun D hD => LC_by (a := q) (xs := us) (fun i H' => Fr [] H H' ∧ Lq K H' D (((cs.take i).filter f).map g)) ⟨Fr.new hD, [], upd_same, .nil⟩ (fun i H' _ h => SqL.of (h.1 _ _ hq (by simp))) ?_ ?_
  · rintro i x H' hx ⟨f', ys, hys, dys⟩
    obtain ⟨d, h1, h2⟩ := (hd.mono f'.tu).get hx
    obtain ⟨c, h3, rfl⟩ := map_get h1
    have hi : i < us.length := (List.getElem?_eq_some_iff.mp hx).1
    have ly : ys.length ≤ i := by
      rw [dys.length, List.length_map]
      refine Nat.le_trans (List.length_filter_le _ _) ?_
      rw [List.length_take]
      omega
    refine hs c x H' _ _ (List.mem_of_getElem? h3) f' h2 (fun hf y H4 f4 dy => ?_) (fun hf H4 f4 => ?_)
    · have e3 := f4 _ _ hys (by simp)
      refine ⟨ys, e3, Nat.lt_of_le_of_lt (show ys.length ≤ 100000 by omega) (by decide), Fr.new_mut hD ((f'.trans f4).mono (by simp) |>.trans (Fr.mut (by simp))), _, upd_same, ?_⟩
      rw [take_filt h3, hf, List.map_append]
      exact ((dys.mono f4.tu).append (.cons dy .nil)).mono (Tu.mut e3)
    · refine ⟨f'.trans f4, ?_⟩
      rw [take_filt h3, hf]
      show Lq K H4 D ((List.filter f (cs.take i) ++ []).map g)
      rw [List.append_nil]
      exact Lq.fr0 ⟨ys, hys, dys⟩ f4
  · rintro H' ⟨f', L⟩
    rw [lu, List.take_length] at L
    exact k D H' hD f' L
theorem LCX_T {α : Type} {v : V} {H : Hp} {cs : List α} {dS : α → PyData} {ws : List Nat} {σ : L2.St} {tg : TG} {tt : TT} {te : TE} {Q : VK} (f : α → Bool) (g : α → PyData)
    (h : Dt K H v (.tuple (cs.map dS))) (lc : cs.length ≤ 100000)
    (hs : ∀ (c : α) (x : V) (H' : Hp) (KEEP : VK) (DROP : Hp → Prop), c ∈ cs → Fr [] H H' → Dt K H' x (dS c) → (f c = true → ∀ y H4, Fr [] H' H4 → Dt K H4 y (g c) → KEEP y H4) → (f c = false → ∀ H4, Fr [] H' H4 → DROP H4) →
      tg x (wipe σ ws) H' fun σ2 H2 => wipe σ2 ws = wipe σ ws ∧ tt σ2 H2 fun k H3 => if k = true then te σ2 H3 KEEP else DROP H3)
    (k : ∀ D H', H D = none → Fr [] H H' → Lq K H' D ((cs.filter f).map g) → Q (.ref D) H') :
    ∃ a', v = .ref a' ∧ (∃ ys, SqT K H a' ys) ∧ ∀ D, H D = none → LC (Itt K a') tg tt te ws σ D Q (upd H D (.lst [])) := by
  obtain ⟨q, us, rfl, hq, hd⟩ := h.tuple
  have lu : us.length = cs.length := by rw [hd.length, List.length_map]
  refine LC_T hq fun D hD => ?_
  refine lc_it (walk_tup (K := K) (a := q) (xs := us)) (fun i H' => Fr [] H H' ∧ Lq K H' D (((cs.take i).filter f).map g)) ⟨Fr.new hD, [], upd_same, .nil⟩ (fun i H' _ h => h.1.seqT hq (by simp)) ?_ ?_
  · rintro i x H0' H' hi ⟨f', ys, hys, dys⟩ ⟨rfl, hx⟩
    obtain ⟨d, h1, h2⟩ := (hd.mono f'.tu).get hx
    obtain ⟨c, h3, rfl⟩ := map_get h1
    have ly : ys.length ≤ i := by
      rw [dys.length, List.length_map]
      refine Nat.le_trans (List.length_filter_le _ _) ?_
      rw [List.length_take]
      omega
    refine hs c x _ _ _ (List.mem_of_getElem? h3) f' h2 (fun hf y H4 f4 dy => ?_) (fun hf H4 f4 => ?_)
    · have e3 := f4 _ _ hys (by simp)
      refine ⟨ys, e3, Nat.lt_of_le_of_lt (show ys.length ≤ 100000 by omega) (by decide), Fr.new_mut hD ((f'.trans f4).mono (by simp) |>.trans (Fr.mut (by simp))), _, upd_same, ?_⟩
      rw [take_filt h3, hf, List.map_append]
      exact ((dys.mono f4.tu).append (.cons dy .nil)).mono (Tu.mut e3)
    · refine ⟨f'.trans f4, ?_⟩
      rw [take_filt h3, hf]
      show Lq K H4 D ((List.filter f (cs.take i) ++ []).map g)
      rw [List.append_nil]
      exact Lq.fr0 ⟨ys, hys, dys⟩ f4
  · rintro H' ⟨f', L⟩
    rw [lu, List.take_length] at L
    exact k D H' hD f' L
/-- extend by a list of data -/
theorem Lq.extend {H : Hp} {l m : Addr} {ds es : List PyData} {Q : VK} (h : Lq K H l ds) (h' : Lq K H m es) (n : ds.length + es.length ≤ 100000) (q : ∀ H', Fr [l] H H' → Tu H H' → Lq K H' l (ds ++ es) → Q .non H') : rExtend (.ref l) [.ref m] H Q := by
  obtain ⟨vs, e, a⟩ := h
  obtain ⟨us, e', a'⟩ := h'
  refine ⟨l, m, vs, us, rfl, rfl, e, e', Nat.le_trans (show _ ≤ 100000 by rw [a.length, a'.length]; exact n) (by decide), ?_⟩
  exact q _ (Fr.mut (by simp)) (Tu.mut e) ⟨_, upd_same, (a.append a').mono (Tu.mut e)⟩
/-- tuple(list) -/
theorem Lq.tuple {H : Hp} {l : Addr} {ds : List PyData} {Q : VK} (h : Lq K H l ds) (q : ∀ p H', Fr [] H H' → Dt K H' (.ref p) (.tuple ds) → Q (.ref p) H') : rTupleU K [.ref l] H Q := by
  obtain ⟨vs, e, a⟩ := h
  exact w_tupleL (SqL.of e) fun p hp => q p _ (Fr.new hp) (.tup (.inl (.inl upd_same)) (a.mono (Tu.new hp)))
/-- a part of a tuple, the first of a list -/
theorem Dt.ix {H : Hp} {v : V} {ds : List PyData} {d : PyData} {i : Int} {Q : VK} (n : Nat) (h : Dt K H v (.tuple ds)) (e : ds[n]? = some d) (q : ∀ u, Dt K H u d → Q u H) (hi : i = (n : Int) := by rfl) : rIx K v (.int i) H Q := by
  obtain ⟨p, vs, rfl, s, a⟩ := h.tuple
  obtain ⟨u, hu, du⟩ := a.get' e
  subst hi
  exact w_ixT s (atI_nat hu) (q u du)
theorem Lq.ix {H : Hp} {l : Addr} {ds : List PyData} {d : PyData} {i : Int} {Q : VK} (n : Nat) (h : Lq K H l ds) (e : ds[n]? = some d) (q : ∀ u, Dt K H u d → Q u H) (hi : i = (n : Int) := by rfl) : rIx K (.ref l) (.int i) H Q := by
  obtain ⟨vs, s, a⟩ := h
  obtain ⟨u, hu, du⟩ := a.get' e
  subst hi
  exact w_ixL (SqL.of s) (atI_nat hu) (q u du)
theorem Lq.nin {H : Hp} {l : Addr} {x : V} {ds : List PyData} {d : PyData} {Q : VK} (h : Lq K H l ds) (hx : Dt K H x d) (sd : SeqAt.shaped d = true) (sl : SeqAt.shaped (.list ds) = true) (q : Q (.bl (!ds.any fun z => PyData.eqv z d)) H) : rNinU K x (.ref l) H Q := .inl (.inr ⟨d, ds, hx.dp, h.dp, sd, sl, q⟩)
theorem Lq.isin {H : Hp} {l : Addr} {x : V} {ds : List PyData} {d : PyData} {Q : VK} (h : Lq K H l ds) (hx : Dt K H x d) (sd : SeqAt.shaped d = true) (sl : SeqAt.shaped (.list ds) = true) (q : Q (.bl (ds.any fun z => PyData.eqv z d)) H) : rInU K x (.ref l) H Q := .inl (.inr ⟨d, ds, hx.dp, h.dp, sd, sl, q⟩)
theorem Dt.isTuple {H : Hp} {v : V} {ds : List PyData} {Q : VK} (h : Dt K H v (.tuple ds)) (q : Q (.bl true) H) : rIsi K [v, .ty "tuple"] H Q := by
  obtain ⟨p, vs, rfl, s, a⟩ := h.tuple
  exact isT_tuple s q
theorem w_iRevR {σ : L2.St} {H : Hp} {te : TE} {R : It → Hp → Prop} (q : te σ H fun x H1 => ∃ n, x = .int n ∧ (-(2 ^ 62) ≤ (0 : Int) ∧ (0 : Int) < 2 ^ 62 ∧ -(2 ^ 62) ≤ n ∧ n < 2 ^ 62 ∧ R (Itc (0 + (((n - 0).toNat : Nat) : Int) - 1) (-1) (n - 0).toNat) H1)) : iRevR (tRg1 te) σ H R := q
theorem F_RevR {σ : L2.St} {H : Hp} {nx b c : L2.St → Hp → Prop} {rt : VK} {g : TG} {tb : TS} (n : Nat) (hn : n ≤ 100000) (Pv : Nat → L2.St → Hp → Prop) (h0 : Pv 0 σ H)
    (hs : ∀ i σ H, i < n → Pv i σ H → g (.int ((n - 1 - i : Nat) : Int)) σ H fun σ2 H2 => tb ⟨Pv (i + 1), rt, nx, Pv (i + 1)⟩ σ2 H2) (hd : ∀ σ H, Pv n σ H → nx σ H) :
    -(2 ^ 62) ≤ (0 : Int) ∧ (0 : Int) < 2 ^ 62 ∧ -(2 ^ 62) ≤ (n : Int) ∧ (n : Int) < 2 ^ 62 ∧ FOR (Itc (0 + ((((n : Int) - 0).toNat : Nat) : Int) - 1) (-1) ((n : Int) - 0).toNat) g tb ⟨nx, rt, b, c⟩ σ H := by
  refine ⟨by decide, by decide, by omega, by omega, ?_⟩
  have e : ((n : Int) - 0).toNat = n := by omega
  rw [e]
  refine for_it (D := ⟨nx, rt, b, c⟩) (walk_rangeC (lo := 0 + (n : Int) - 1) (c := -1) (n := n)) Pv h0 (fun _ _ _ _ _ => trivial) (fun i x σ H H' hi p y => ?_) (fun σ H p => hd σ H p)
  obtain ⟨rfl, rfl⟩ := y
  have z := hs i σ H' hi p
  rw [show ((n - 1 - i : Nat) : Int) = 0 + (n : Int) - 1 + ((i : Nat) : Int) * -1 by omega] at z
  exact z
def rIns : V → List V → Hp → VK → Prop := fun x vs H Q => ∃ (l : Addr) (xs : List V) (i : Int) (y : V), x = .ref l ∧ vs = [.int i, y] ∧ H l = some (.lst xs) ∧ xs.length < sizeLine ∧ 0 ≤ i ∧ i < 2 ^ 63 ∧ Q .non (upd H l (.lst (xs.take i.toNat ++ [y] ++ xs.drop i.toNat)))
theorem mt_insU {X : Cx} : MtR X "list.insert" rIns := mt_insert
theorem Lq.insert {H : Hp} {l : Addr} {ds : List PyData} {i : Int} {y : V} {d : PyData} {Q : VK} (h : Lq K H l ds) (hy : Dt K H y d) (n : ds.length ≤ 100000) (h0 : 0 ≤ i) (h1 : i < 2 ^ 63) (q : ∀ H', Fr [l] H H' → Tu H H' → Lq K H' l (ds.take i.toNat ++ [d] ++ ds.drop i.toNat) → Q .non H') : rIns (.ref l) [.int i, y] H Q := by
  obtain ⟨vs, e, a⟩ := h
  refine ⟨l, vs, i, y, rfl, rfl, e, Nat.lt_of_le_of_lt (show vs.length ≤ 100000 by rw [a.length]; exact n) (by decide), h0, h1, ?_⟩
  exact q _ (Fr.mut (by simp)) (Tu.mut e) ⟨_, upd_same, (((a.take _).append (.cons hy .nil)).append (a.drop _)).mono (Tu.mut e)⟩
end
end U

/-! dicts whose keys are tuples of data, nested -/
namespace U
open PySem PySem.Spec PyProof.Rows L2
mutual
/-- data as a key of the library -/
def nk : PyData → NestedKey
  | .none => .none
  | .bool b => .num (if b then 1 else 0)
  | .int i => .num i
  | .str x => .text x
  | .tuple ds => .tup (nkAll ds)
  | _ => .none
def nkAll : List PyData → List NestedKey
  | [] => []
  | d :: r => nk d :: nkAll r
end
mutual
/-- data that is a key, no truths in it -/
def kd : PyData → Bool
  | .none => true
  | .int _ => true
  | .str _ => true
  | .tuple ds => kdAll ds
  | _ => false
def kdAll : List PyData → Bool
  | [] => true
  | d :: r => kd d && kdAll r
end
mutual
theorem nk_depth : ∀ d : PyData, kd d = true → NestedKey.depth (nk d) ≤ d.depth
  | .none, _ => by simp [nk, NestedKey.depth]
  | .int _, _ => by simp [nk, NestedKey.depth]
  | .str _, _ => by simp [nk, NestedKey.depth]
  | .tuple ds, h => by
    have := nkAll_depth ds (by simpa [kd] using h)
    simp only [nk, NestedKey.depth, PyData.depth]
    omega
theorem nkAll_depth : ∀ ds : List PyData, kdAll ds = true → NestedKey.depthAll (nkAll ds) ≤ PyData.depthAll ds
  | [], _ => by simp [nkAll, NestedKey.depthAll]
  | d :: r, h => by
    simp only [kdAll, Bool.and_eq_true] at h
    have h1 := nk_depth d h.1
    have h2 := nkAll_depth r h.2
    simp only [nkAll, NestedKey.depthAll, PyData.depthAll]
    omega
end
mutual
theorem nk_inj : ∀ a b : PyData, kd a = true → kd b = true → nk a = nk b → a = b
  | .none, b, _, hb, h => by cases b <;> simp [nk, kd] at h hb ⊢
  | .int i, b, _, hb, h => by cases b <;> simp [nk, kd] at h hb ⊢; exact h
  | .str x, b, _, hb, h => by cases b <;> simp [nk, kd] at h hb ⊢; exact h
  | .tuple ds, b, ha, hb, h => by
    cases b <;> simp [nk, kd] at h hb ha ⊢
    exact nkAll_inj ds _ ha hb h
theorem nkAll_inj : ∀ a b : List PyData, kdAll a = true → kdAll b = true → nkAll a = nkAll b → a = b
  | [], b, _, _, h => by cases b <;> simp [nkAll] at h ⊢
  | d :: r, b, ha, hb, h => by
    cases b with
    | nil => simp [nkAll] at h
    | cons e t =>
      simp only [kdAll, Bool.and_eq_true] at ha hb
      simp only [nkAll, List.cons.injEq] at h
      rw [nk_inj d e ha.1 hb.1 h.1, nkAll_inj r t ha.2 hb.2 h.2]
end
mutual
theorem nested_of {h : Heap} : ∀ {u : Value} {d : PyData} {as : List Addr}, Reads h u d as → kd d = true → NestedIs h (nk d) u
  | _, _, _, .none, _ => .none
  | _, _, _, .bool b, k => by simp [kd] at k
  | _, _, _, .int i t, _ => .int i t
  | _, _, _, .str x t, _ => .text x t
  | _, _, _, .list _ _ _ _, k => by simp [kd] at k
  | _, _, _, .tuple g c e a, k => .tup g c e (nestedAll_of a (by simpa [kd] using k))
  | _, _, _, .dict _ _ _ _ _, k => by simp [kd] at k
theorem nestedAll_of {h : Heap} : ∀ {us : List Value} {ds : List PyData} {as : List Addr}, ReadsAll h us ds as → kdAll ds = true → NestedAll h (nkAll ds) us
  | _, _, _, .nil, _ => .nil
  | _, _, _, .cons a b, k => by
    simp only [kdAll, Bool.and_eq_true] at k
    exact .cons (nested_of a k.1) (nestedAll_of b k.2)
end
/-- keys told as data -/
structure KeyD {α : Type} (dS : α → PyData) : Prop where
  kd : ∀ a, kd (dS a) = true
  dp : ∀ a, (dS a).depth ≤ 8
  inj : ∀ a b, dS a = dS b → a = b
theorem KeyD.nk {α : Type} {dS : α → PyData} (D : KeyD dS) {a b : α} (h : nk (dS a) = nk (dS b)) : a = b := D.inj a b (nk_inj _ _ (D.kd a) (D.kd b) h)
section
variable {α : Type} [DecidableEq α]
def atN (kvs : List (α × V)) (a : α) : Option V := (kvs.find? fun kv => decide (kv.1 = a)).map (·.2)
def putN (kvs : List (α × V)) (a : α) (v : V) : List (α × V) := if (atN kvs a).isSome then kvs.map (fun kv => if kv.1 = a then (kv.1, v) else kv) else kvs ++ [(a, v)]
def dropN (kvs : List (α × V)) (a : α) : List (α × V) := kvs.filter fun kv => decide (kv.1 ≠ a)
end
def atO (d : Addr) (o : Obj) : HO := .ext fun h => h.get? d = some o
/-- an entry and what stands in the heap -/
def RkN {α : Type} (K : PySem.W.Frag) (H : Hp) (dS : α → PyData) (kv : α × V) (x : NestedKey × Addr × Value) : Prop := Dt K H (.ref x.2.1) (dS kv.1) ∧ x.1 = nk (dS kv.1) ∧ RelV kv.2 x.2.2
structure DNx {α : Type} (P : Program) (w : World) (K : PySem.W.Frag) (dS : α → PyData) (H : Hp) (d : Addr) (kvs : List (α × V)) (xs : List (NestedKey × Addr × Value)) (o : Obj) : Prop where
  there : H d = some (atO d o)
  nosys : (d == sysModules) = false
  exact : o.ExactDict
  data : ∃ es ep, o.data = .dict es ep ∧ es.toList = xs.map (entryOfKey (nestedKind P w))
  keys : Paired (RkN K H dS) kvs xs
  nodup : (xs.map (·.1)).Nodup
/-- at d a dict of kvs, in order -/
def DN {α : Type} (P : Program) (w : World) (K : PySem.W.Frag) (dS : α → PyData) (H : Hp) (d : Addr) (kvs : List (α × V)) : Prop := (kvs = [] ∧ H d = some (.dK [])) ∨ ∃ xs o, DNx P w K dS H d kvs xs o
section
variable {α : Type} {P : Program} {w : World} {K : PySem.W.Frag} {dS : α → PyData} {H H' : Hp} {d : Addr} {kvs : List (α × V)}
theorem Paired.imp {α β : Type} {F G : α → β → Prop} (h : ∀ a b, F a b → G a b) : ∀ {xs : List α} {ys : List β}, Paired F xs ys → Paired G xs ys
  | _, _, .nil => .nil
  | _, _, .cons a b => .cons (h _ _ a) (Paired.imp h b)
theorem RkN.mono (t : Tu H H') {kv : α × V} {x : NestedKey × Addr × Value} (h : RkN K H dS kv x) : RkN K H' dS kv x := ⟨h.1.mono t, h.2.1, h.2.2⟩
theorem DN.fr {S : List Addr} (h : DN P w K dS H d kvs) (f : Fr S H H') (n : d ∉ S) (t : Tu H H') : DN P w K dS H' d kvs := by
  rcases h with ⟨rfl, e⟩ | ⟨xs, o, D⟩
  · exact .inl ⟨rfl, f _ _ e n⟩
  · exact .inr ⟨xs, o, f _ _ D.there n, D.nosys, D.exact, D.data, Paired.imp (fun _ _ => RkN.mono t) D.keys, D.nodup⟩
theorem DN.fr0 (h : DN P w K dS H d kvs) (f : Fr [] H H') : DN P w K dS H' d kvs := h.fr f (by simp) f.tu
theorem Tu.dn (h : DN P w K dS H d kvs) (o : HO) : Tu H (upd H d o) := fun a ys => by
  have e : H d = some (.dK []) ∨ ∃ o, H d = some (atO d o) := by
    rcases h with ⟨_, e⟩ | ⟨xs, o, D⟩
    · exact .inl e
    · exact .inr ⟨_, D.there⟩
  refine ⟨fun z => ?_, fun o' z => ?_⟩ <;>
  · rw [upd_ne (by
      rintro rfl
      rcases e with e | ⟨_, e⟩ <;> rw [z] at e <;> cases e)]
    exact z
end
section
variable {α : Type} {X : Cx} {pins : List (Addr × Obj)} {σ : L2.St} {H : Hp} {s : Shared} {dS : α → PyData} {d a : Addr} {kvs : List (α × V)} {k : α}
theorem KeyD.is (D : KeyD dS) (I : Inv X pins σ H s) (h : Dt X.K H (.ref a) (dS k)) : (nestedKind X.prog X.w).is s.heap (U.nk (dS k)) a := by
  obtain ⟨as, r⟩ := Dp.reads I (dS k) (.ref a) (.ref a) h.dp rfl
  exact ⟨nested_of r (D.kd k), Nat.le_trans (nk_depth _ (D.kd k)) (D.dp k)⟩
theorem Paired.right {α β : Type} {F : α → β → Prop} : ∀ {xs : List α} {ys : List β}, Paired F xs ys → ∀ y ∈ ys, ∃ x, F x y
  | _, _, .nil, y, h => by simp at h
  | _, _, .cons a b, y, h => by
    rcases List.mem_cons.mp h with rfl | h
    · exact ⟨_, a⟩
    · exact Paired.right b y h
theorem DN.heap (D : KeyD dS) (I : Inv X pins σ H s) (h : DN X.prog X.w X.K dS H d kvs) : ∃ xs, s.heap.DictOfH (nestedKind X.prog X.w) d xs ∧ Paired (RkN X.K H dS) kvs xs ∧ (d == sysModules) = false ∧ Mut (H d) := by
  rcases h with ⟨rfl, e⟩ | ⟨xs, o, N⟩
  · obtain ⟨_, n, vs, kv, o, es, ep, ho, hex, hd, _, pr, _⟩ := I.hok d _ e
    cases kv
    have z : es.toList = [] := by
      generalize es.toList = l at pr
      cases pr
      rfl
    exact ⟨[], ⟨o, es, ep, ho, hex, hd, by rw [z]; rfl, by simp, by simp⟩, .nil, n, by rw [e]; trivial⟩
  · obtain ⟨ho, _⟩ := I.hok d _ N.there
    obtain ⟨es, ep, hd, ht⟩ := N.data
    refine ⟨xs, ⟨o, es, ep, ho, N.exact, hd, ht, ?_, N.nodup⟩, N.keys, N.nosys, by rw [N.there]; trivial⟩
    intro x hx
    obtain ⟨kv, r⟩ := Paired.right N.keys x hx
    rw [r.2.1]
    exact D.is I r.1
end
section
variable {α : Type} [DecidableEq α] {K : PySem.W.Frag} {H : Hp} {dS : α → PyData}
theorem at_paired (D : KeyD dS) (k : α) : ∀ {kvs : List (α × V)} {xs : List (NestedKey × Addr × Value)}, Paired (RkN K H dS) kvs xs → (atN kvs k = none ∧ atKey xs (nk (dS k)) = none) ∨ ∃ v p u, atN kvs k = some v ∧ atKey xs (nk (dS k)) = some (p, u) ∧ RelV v u
  | _, _, .nil => .inl ⟨rfl, rfl⟩
  | _, _, .cons (a := kv) (b := x) r b => by
    unfold atN atKey
    rw [List.find?_cons, List.find?_cons]
    by_cases h : kv.1 = k
    · have h2 : x.1 = nk (dS k) := by rw [r.2.1, h]
      rw [decide_eq_true h, decide_eq_true h2]
      exact .inr ⟨kv.2, x.2.1, x.2.2, rfl, rfl, r.2.2⟩
    · have h2 : ¬ x.1 = nk (dS k) := fun z => h (D.nk (r.2.1.symm.trans z))
      rw [decide_eq_false h, decide_eq_false h2]
      exact at_paired D k b
theorem atN_isSome (D : KeyD dS) (k : α) {kvs : List (α × V)} {xs : List (NestedKey × Addr × Value)} (h : Paired (RkN K H dS) kvs xs) : (atKey xs (nk (dS k))).isSome = (atN kvs k).isSome := by
  rcases at_paired D k h with ⟨e, f⟩ | ⟨v, p, u, e, f, _⟩ <;> rw [e, f] <;> rfl
theorem Paired.snoc {α β : Type} {F : α → β → Prop} {x : α} {y : β} (h : F x y) : ∀ {xs : List α} {ys : List β}, Paired F xs ys → Paired F (xs ++ [x]) (ys ++ [y])
  | _, _, .nil => .cons h .nil
  | _, _, .cons a b => .cons a (Paired.snoc h b)
theorem put_map (D : KeyD dS) (k : α) {v : V} {u : Value} (rv : RelV v u) : ∀ {kvs : List (α × V)} {xs : List (NestedKey × Addr × Value)}, Paired (RkN K H dS) kvs xs → Paired (RkN K H dS) (kvs.map (fun kv => if kv.1 = k then (kv.1, v) else kv)) (xs.map (putAt (nk (dS k)) u))
  | _, _, .nil => .nil
  | _, _, .cons (a := kv) (b := x) r b => by
    refine .cons ?_ (put_map D k rv b)
    show RkN K H dS (if kv.1 = k then (kv.1, v) else kv) (if x.1 = nk (dS k) then (x.1, x.2.1, u) else x)
    by_cases h : kv.1 = k
    · have h2 : x.1 = nk (dS k) := by rw [r.2.1, h]
      rw [if_pos h, if_pos h2]
      exact ⟨r.1, r.2.1, rv⟩
    · have h2 : ¬ x.1 = nk (dS k) := fun z => h (D.nk (r.2.1.symm.trans z))
      rw [if_neg h, if_neg h2]
      exact r
theorem put_paired (D : KeyD dS) {k : α} {a : Addr} {v : V} {u : Value} (hk : Dt K H (.ref a) (dS k)) (rv : RelV v u) {kvs : List (α × V)} {xs : List (NestedKey × Addr × Value)} (h : Paired (RkN K H dS) kvs xs) : Paired (RkN K H dS) (putN kvs k v) (storedH xs (nk (dS k)) a u) := by
  unfold putN storedH
  rw [atN_isSome D k h]
  by_cases e : (atN kvs k).isSome = true
  · rw [if_pos e, if_pos e]
    exact put_map D k rv h
  · rw [if_neg e, if_neg e]
    exact Paired.snoc ⟨hk, rfl, rv⟩ h
theorem drop_paired (D : KeyD dS) {k : α} : ∀ {kvs : List (α × V)} {xs : List (NestedKey × Addr × Value)}, Paired (RkN K H dS) kvs xs → Paired (RkN K H dS) (dropN kvs k) (withoutH xs (nk (dS k)))
  | _, _, .nil => .nil
  | _, _, .cons (a := kv) (b := x) r b => by
    unfold dropN withoutH
    rw [List.filter_cons, List.filter_cons]
    by_cases h : kv.1 = k
    · have h2 : x.1 = nk (dS k) := by rw [r.2.1, h]
      rw [if_neg (by simpa using h), if_neg (by simpa using h2)]
      exact drop_paired D b
    · have h2 : ¬ x.1 = nk (dS k) := fun z => h (D.nk (r.2.1.symm.trans z))
      rw [if_pos (by simpa using h), if_pos (by simpa using h2)]
      exact .cons r (drop_paired D b)
end
/-! ### rules -/
section
variable {α : Type} [DecidableEq α] {X : Cx} {P : Program} {w : World} {K : PySem.W.Frag} {dS : α → PyData}
theorem Paired.len {α β : Type} {F : α → β → Prop} : ∀ {xs : List α} {ys : List β}, Paired F xs ys → xs.length = ys.length
  | _, _, .nil => rfl
  | _, _, .cons _ b => by rw [List.length_cons, List.length_cons, Paired.len b]
theorem valueAt_pairs (k : NestedKey) : ∀ xs : List (NestedKey × Addr × Value), (valueAt (pairsH xs) k).isSome = (atKey xs k).isSome
  | [] => rfl
  | x :: r => by
    have ih := valueAt_pairs k r
    unfold valueAt atKey pairsH at *
    rw [List.map_cons, List.find?_cons, List.find?_cons]
    by_cases h : x.1 = k
    · rw [decide_eq_true h]
      rfl
    · rw [decide_eq_false h]
      exact ih
def rInN (P : Program) (w : World) (K : PySem.W.Frag) (dS : α → PyData) : R2 := fun x y H Q => ∃ (d a : Addr) (kvs : List (α × V)) (k : α), x = .ref a ∧ y = .ref d ∧ DN P w K dS H d kvs ∧ Dt K H (.ref a) (dS k) ∧ Q (.bl (atN kvs k).isSome) H
def rNinN (P : Program) (w : World) (K : PySem.W.Frag) (dS : α → PyData) : R2 := fun x y H Q => ∃ (d a : Addr) (kvs : List (α × V)) (k : α), x = .ref a ∧ y = .ref d ∧ DN P w K dS H d kvs ∧ Dt K H (.ref a) (dS k) ∧ Q (.bl (!(atN kvs k).isSome)) H
theorem roomN {A : Around} (hu : A.units + 65 < cLine) : (nestedKind P w).room A.in1 := by
  show A.units + 1 + 8 < cLine
  omega
theorem op_inN (D : KeyD dS) (hu : X.A.units + 65 < cLine) : OpR X (compareOp .In) (rInN X.prog X.w X.K dS) := by
  intro pins s σ H x y v u Q I rx ry h
  obtain ⟨d, a, kvs, k, rfl, rfl, hd, hk, q⟩ := h
  cases rx
  cases ry
  obtain ⟨xs, hD, pr, ns, _⟩ := hd.heap D I
  refine wpAny_in_heap (roomN hu) (D.is I hk) ns hD ?_
  exact ⟨_, H, I.tok _, by rw [atN_isSome D k pr]; rfl, q⟩
theorem op_ninN (D : KeyD dS) (hu : X.A.units + 65 < cLine) : OpR X (compareOp .NotIn) (rNinN X.prog X.w X.K dS) := by
  intro pins s σ H x y v u Q I rx ry h
  obtain ⟨d, a, kvs, k, rfl, rfl, hd, hk, q⟩ := h
  cases rx
  cases ry
  obtain ⟨xs, hD, pr, ns, _⟩ := hd.heap D I
  refine notIn_keyed (knd := nestedKind X.prog X.w) (roomN hu) (D.is I hk) ns ⟨xs, hD, rfl⟩ ?_
  exact ⟨_, H, I.tok _, by rw [valueAt_pairs, atN_isSome D k pr]; rfl, q⟩
def rIxN (P : Program) (w : World) (K : PySem.W.Frag) (dS : α → PyData) : R2 := fun x y H Q => ∃ (d a : Addr) (kvs : List (α × V)) (k : α) (v : V), x = .ref d ∧ y = .ref a ∧ DN P w K dS H d kvs ∧ Dt K H (.ref a) (dS k) ∧ atN kvs k = some v ∧ Q v H
theorem ix_N (D : KeyD dS) (hu : X.A.units + 65 < cLine) : IxR X (rIxN X.prog X.w X.K dS) := by
  intro value slice pins s σ H x y v u Q I rx ry h hs
  obtain ⟨d, a, kvs, k, z, rfl, rfl, hd, hk, hv, q⟩ := h
  cases rx
  cases ry
  obtain ⟨xs, hD, pr, ns, _⟩ := hd.heap D I
  obtain ⟨o, es, ep, ho, hex, _⟩ := id hD
  rcases at_paired D k pr with ⟨e, f⟩ | ⟨v', p, u, e, f, r⟩
  · rw [hv] at e; cases e
  · rw [hv] at e
    cases e
    refine subscriptTail_builtinR (x := u) ⟨o, ho, hex.1⟩ F.slot_dict_getitem.lookup ?_ hs
    refine wpAny_getItem_heap (roomN hu) (D.is I hk) hD f ?_
    exact ⟨rfl, _, H, I.tok _, r, q⟩
def rSetN (P : Program) (w : World) (K : PySem.W.Frag) (dS : α → PyData) : TSet := fun o i v H Q => ∃ (d a : Addr) (kvs : List (α × V)) (k : α), o = .ref d ∧ i = .ref a ∧ DN P w K dS H d kvs ∧ Dt K H (.ref a) (dS k) ∧ kvs.length ≤ 100000 ∧ ∀ H', Fr [d] H H' → Tu H H' → DN P w K dS H' d (putN kvs k v) → Q H'
/-- behind a change -/
theorem DN.write {pins : List (Addr × Obj)} {σ : L2.St} {H : Hp} {s : Shared} {h' : Heap} {d : Addr} {kvs kvs' : List (α × V)} {xs' : List (NestedKey × Addr × Value)} {t' : Nat} (I : Inv X pins σ H s) (hd : DN X.prog X.w X.K dS H d kvs) (ns : (d == sysModules) = false) (m : Mut (H d)) (hD : h'.DictOfH (nestedKind X.prog X.w) d xs') (sb : Heap.SameBut d s.heap h') (pr : Paired (RkN X.K H dS) kvs' xs') :
    ∃ H', Inv X pins σ H' { s with heap := h', toks := t' } ∧ Fr [d] H H' ∧ Tu H H' ∧ DN X.prog X.w X.K dS H' d kvs' := by
  obtain ⟨o, es, ep, ho, hex, hda, hl, hi, hn⟩ := hD
  have t := Tu.dn hd (atO d o)
  refine ⟨upd H d (atO d o), I.write m (.inl rfl) (fun b u hb hu => ?_) ⟨o, ho⟩ ⟨ho, ⟨o, ho⟩, fun h1 h2 e f => f _ e⟩, Fr.mut (by simp), t, .inr ⟨xs', o, upd_same, ns, hex, ⟨es, ep, hda, hl⟩, Paired.imp (fun _ _ => RkN.mono t) pr, hn⟩⟩
  rw [sb.2 b hb]
  exact hu
theorem set_N (D : KeyD dS) (hu : X.A.units + 65 < cLine) : PSet X (rSetN X.prog X.w X.K dS) := by
  intro pins s σ H o i v ov iv u Q I ro ri rv h
  obtain ⟨d, a, kvs, k, rfl, rfl, hd, hk, n, q⟩ := h
  cases ro
  cases ri
  obtain ⟨xs, hD, pr, ns, m⟩ := hd.heap D I
  refine wpAny_setItem_heap (roomN hu) (D.is I hk) hD (fun h' hD' sb => ?_) (by rw [← Paired.len pr]; exact Nat.le_trans n (by decide))
  obtain ⟨H', I', f, t, d'⟩ := DN.write I hd ns m hD' sb (put_paired D hk rv pr)
  exact ⟨H', I', q H' f t d'⟩
def dictN (P : Program) (w : World) (K : PySem.W.Frag) (dS : α → PyData) : V → Hp → Prop := fun x H => ∃ (d : Addr) (kvs : List (α × V)), x = .ref d ∧ DN P w K dS H d kvs
theorem ty_N (D : KeyD dS) : TyOk X "dict" (dictN X.prog X.w X.K dS) := by
  intro pins σ H s x v I rx h
  obtain ⟨d, kvs, rfl, hd⟩ := h
  cases rx
  obtain ⟨xs, ⟨o, es, ep, ho, hex, _⟩, _⟩ := hd.heap D I
  refine ⟨⟨o, ho, hex.1⟩, fun a e => ?_⟩
  cases e
  exact ⟨o, ho, hex.2.1⟩
def rPopN (P : Program) (w : World) (K : PySem.W.Frag) (dS : α → PyData) : V → List V → Hp → VK → Prop := fun x vs H Q => ∃ (d a : Addr) (kvs : List (α × V)) (k : α) (v : V), x = .ref d ∧ vs = [.ref a] ∧ DN P w K dS H d kvs ∧ Dt K H (.ref a) (dS k) ∧ kvs.length ≤ 100000 ∧ atN kvs k = some v ∧ ∀ H', Fr [d] H H' → Tu H H' → DN P w K dS H' d (dropN kvs k) → Q v H'
theorem mt_popN (D : KeyD dS) (hu : X.A.units + 65 < cLine) : MtR X "dict.pop" (rPopN X.prog X.w X.K dS) := by
  intro pins s σ H x vs v us Q I rx rvs h
  obtain ⟨d, a, kvs, k, z, rfl, rfl, hd, hk, n, hv, q⟩ := h
  cases rx
  obtain ⟨_, _, ra, rn, rfl⟩ : ∃ u us', RelV (.ref a) u ∧ Vals [] us' ∧ us = u :: us' := by
    cases rvs with
    | cons r t => exact ⟨_, _, r, t, rfl⟩
  cases ra
  cases rn
  obtain ⟨xs, hD, pr, ns, m⟩ := hd.heap D I
  obtain ⟨o, es, ep, ho, hex, _⟩ := id hD
  rcases at_paired D k pr with ⟨e, f⟩ | ⟨v', p, u, e, f, r⟩
  · rw [hv] at e; cases e
  · rw [hv] at e
    cases e
    refine call_meetsIn F.slot_dict_pop ⟨o, ho, hex.1⟩ F.entry_dict_pop (F.args_dict_pop_2 _ _) (meetsH_dict_pop (nestedKind X.prog X.w) d a ns [] (.inl rfl)) ?_
    refine ⟨roomN hu, nk (dS k), xs, D.is I hk, hD, by rw [← Paired.len pr]; exact Nat.le_trans n (by decide), fun p' e' h' hD' sb => ?_, fun e' => ?_⟩
    · rw [f] at e'
      cases e'
      obtain ⟨H', I', f', t, d'⟩ := DN.write I hd ns m hD' sb (drop_paired D pr)
      exact ⟨_, H', I', r, q H' f' t d'⟩
    · rw [f] at e'
      cases e'
theorem get_size {h : Heap} {u : Obj} (e : h.get? h.objs.size = some u) : False := by
  unfold Heap.get? at e
  rw [Array.getElem?_eq_none (Nat.le_refl _)] at e
  cases e
theorem Paired.get {α β : Type} {F : α → β → Prop} : ∀ {xs : List α} {ys : List β}, Paired F xs ys → ∀ {i : Nat} {y : β}, ys[i]? = some y → ∃ x, xs[i]? = some x ∧ F x y
  | _, _, .nil, i, y, h => by simp at h
  | _, _, .cons a b, 0, y, h => by
    simp at h
    subst h
    exact ⟨_, rfl, a⟩
  | _, _, .cons a b, i + 1, y, h => by
    obtain ⟨x, h1, h2⟩ := Paired.get b (i := i) (by simpa using h)
    exact ⟨x, by simpa using h1, h2⟩
def rItemsN (P : Program) (w : World) (K : PySem.W.Frag) (dS : α → PyData) : V → List V → Hp → VK → Prop := fun x vs H Q => ∃ (d : Addr) (kvs : List (α × V)), x = .ref d ∧ vs = [] ∧ DN P w K dS H d kvs ∧ ∀ p, H p = none → Q (.ref p) (upd H p (DX.itemsO p d))
theorem mt_itemsN (D : KeyD dS) : MtR X "dict.items" (rItemsN X.prog X.w X.K dS) := by
  intro pins s σ H x vs v us Q I rx rvs h
  obtain ⟨d, kvs, rfl, rfl, hd, q⟩ := h
  cases rx
  cases rvs
  obtain ⟨xs, ⟨o, es, ep, ho, hex, hda, _⟩, _, ns, _⟩ := hd.heap D I
  refine call_meetsIn F.slot_dict_items ⟨o, ho, hex.1⟩ F.entry_dict_items (F.args_dict_items_1 _) (meets_dict_items_raw d ns) ⟨⟨es, ep, o, ho, hex, hda⟩, ?_⟩
  have hp := I.fresh
  have hg : Heap.get? (Heap.push s.heap { cls := Value.type "dict_items", data := Data.fields #[Value.ref d] }) s.heap.objs.size = some { cls := Value.type "dict_items", data := Data.fields #[Value.ref d] } := Heap.get?_push_size _ rfl
  refine ⟨.ref _, _, I.laid (a := s.heap.objs.size) (o := DX.itemsO s.heap.objs.size d) (fun b u hb => ?_) (Nat.le_refl _) (DX.itemsO_ok hg), rfl, q _ hp⟩
  rw [Heap.get?_push_ne]
  · exact hb
  · rintro rfl
    exact get_size hb
/-- the turns over its items -/
def ItN (d : Addr) (o : Obj) (ks : List (Addr × V)) : It where
  go i H := H d = some (atO d o) ∧ i < ks.length
  yld i H x H' := ∃ T b v, ks[i]? = some (b, v) ∧ x = .ref T ∧ H T = none ∧ H' = upd H T (.tup [.ref b, v])
  stop i H := H d = some (atO d o) ∧ i = ks.length
theorem turn_itemsN {elts : List Expr} {kk : Nat} {tpos : Pos} {d it : Addr} {o : Obj} {es : Array DictEntry} {ep : Nat} {ks : List (Addr × V)} (hex : o.ExactDict) (hda : o.data = .dict es ep) (hk : Paired (fun (k : Addr × V) (e : DictEntry) => e.key = .ref k.1 ∧ RelV k.2 e.val) ks es.toList) :
    Turn P w K (.Tuple elts kk tpos) (ItN d o ks) [it] it fun i h => ∃ ok ov, IsItemIter h it d i es.size ep ok ov where
  mem := by simp
  obj := fun i h t b hb => by
    obtain ⟨ok, ov, e⟩ := t
    rw [List.mem_singleton.mp hb]
    exact ⟨_, e, fun v z => by cases z⟩
  keep := fun i h h' t k => by
    obtain ⟨ok, ov, e⟩ := t
    exact ⟨ok, ov, k it (by simp) _ e⟩
  item := by
    rintro X rfl rfl rfl hc i pins s σ H E I fp t ⟨hd, hi⟩
    obtain ⟨ho, _⟩ := I.hok d _ hd
    have hne : d ≠ it := by
      rintro rfl
      rw [(fp d (by simp)).1] at hd
      cases hd
    have wk := WalksT.rawItems (prog := X.prog) (w := X.w) (A := X.A) (I.ok.hd hc) it d hne es ep
    have sz : ks.length = es.size := by rw [Paired.len hk, Array.length_toList]
    refine wk.item i s _ E (by omega) ⟨t, o, ho, hex, hda⟩ fun T vals h' tk pt hT tup mid kp => ⟨_, rfl, ?_⟩
    obtain ⟨hi2, rfl⟩ := pt
    have hTn := wk.apart i T h' mid
    refine wk.go elts kk tpos i T _ _ E mid fun h2 st kp2 => ?_
    have hb : ∃ b v, ks[i]? = some (b, v) ∧ es[i].key = .ref b ∧ RelV v es[i].val := by
      obtain ⟨x, h1, h2, h3⟩ := Paired.get hk (i := i) (y := es[i]) (by rw [Array.getElem?_toList, Array.getElem?_eq_getElem hi2])
      exact ⟨x.1, x.2, h1, h2, h3⟩
    obtain ⟨b, v, hks, hkey, hv⟩ := hb
    obtain ⟨ob, hob, hc1, n, hc2⟩ := tup
    have hob2 := kp2 T ob hTn hob
    refine ⟨.ref T, upd H T (.tup [.ref b, v]), I.turnedNew (ch := [it]) (fun a u ha hu => kp2 a u ha (kp a u ha hu)) fp hT ⟨by exact Nat.le_of_ble_eq_true rfl, [es[i].key, es[i].val], .cons (by rw [hkey]; rfl) (.cons hv .nil), ob, hob2, hc1, n, hc2⟩, rfl, ⟨T, b, v, hks, rfl, ?_, rfl⟩, st.1, fun b' hb' => ?_⟩
    · exact HOk.fresh I.hok hT
    · rw [List.mem_singleton.mp hb', upd_ne (by rintro rfl; exact hTn (by simp))]
      exact (fp it (by simp)).1
  done := by
    rintro X rfl rfl rfl hc i pins s σ H E I fp t ⟨hd, hi⟩
    obtain ⟨ho, _⟩ := I.hok d _ hd
    have hne : d ≠ it := by
      rintro rfl
      rw [(fp d (by simp)).1] at hd
      cases hd
    have wk := WalksT.rawItems (prog := X.prog) (w := X.w) (A := X.A) (I.ok.hd hc) it d hne es ep
    have sz : ks.length = es.size := by rw [Paired.len hk, Array.length_toList]
    rw [hi, sz] at t
    exact wk.done s _ E ⟨t, o, ho, hex, hda⟩ fun h' tk kp => ⟨rfl, I.turnedL (ch := [it]) kp fp⟩
  self := by
    have z := (turn_items (P := P) (w := w) (K := K) (d := d) (o := o) (kvs := List.replicate es.size (Sum.inl 0, V.non)) (elts := elts) (kk := kk) (tpos := tpos) it hda).self
    rw [List.length_replicate] at z
    exact z
/-- what is asked of the dict and of what follows -/
def ITEMS (P : Program) (w : World) (K : PySem.W.Frag) (dS : α → PyData) (R : It → Hp → Prop) (x : V) (H1 : Hp) : Prop := dictN P w K dS x H1 ∧ rItemsN P w K dS x [] H1 fun v H' => ∃ (p d : Addr) (kvs : List (α × V)), v = .ref p ∧ H' p = some (DX.itemsO p d) ∧ DN P w K dS H' d kvs ∧
  ∀ H2 o ks, Fr [d] H' H2 → Tu H' H2 → H2 d = some (atO d o) → Paired (fun (kv : α × V) (k : Addr × V) => Dt K H2 (.ref k.1) (dS kv.1) ∧ k.2 = kv.2) kvs ks → R (ItN d o ks) H2
theorem ITEMS.of {R : It → Hp → Prop} {H1 : Hp} {d : Addr} {kvs : List (α × V)} (hd : DN P w K dS H1 d kvs) (k : ∀ H2 o ks, Fr [d] H1 H2 → Tu H1 H2 → H2 d = some (atO d o) → Paired (fun (kv : α × V) (k : Addr × V) => Dt K H2 (.ref k.1) (dS kv.1) ∧ k.2 = kv.2) kvs ks → R (ItN d o ks) H2) : ITEMS P w K dS R (.ref d) H1 :=
  ⟨⟨d, kvs, rfl, hd⟩, d, kvs, rfl, rfl, hd, fun p hp => ⟨p, d, kvs, rfl, upd_same, hd.fr0 (Fr.new hp), fun H2 o ks f t h1 h2 => k H2 o ks (Fr.trans (Fr.new hp) f) ((Tu.new hp).trans t) h1 h2⟩⟩
def iItemsN (P : Program) (w : World) (K : PySem.W.Frag) (dS : α → PyData) (te : TE) : TI := fun σ H R => te σ H fun x H1 => ITEMS P w K dS R x H1
theorem w_iItemsN {σ : L2.St} {H : Hp} {te : TE} {R : It → Hp → Prop} (q : te σ H fun x H1 => ITEMS P w K dS R x H1) : iItemsN P w K dS te σ H R := q
theorem ks_of {K : PySem.W.Frag} {H : Hp} : ∀ {kvs : List (α × V)} {xs : List (NestedKey × Addr × Value)}, Paired (RkN K H dS) kvs xs → ∃ ks : List (Addr × V), Paired (fun (kv : α × V) (k : Addr × V) => Dt K H (.ref k.1) (dS kv.1) ∧ k.2 = kv.2) kvs ks ∧ Paired (fun (k : Addr × V) (e : DictEntry) => e.key = .ref k.1 ∧ RelV k.2 e.val) ks (xs.map (entryOfKey (nestedKind P w)))
  | _, _, .nil => ⟨[], .nil, .nil⟩
  | _, _, .cons (a := kv) (b := x) r b => by
    obtain ⟨ks, h1, h2⟩ := ks_of b
    exact ⟨(x.2.1, kv.2) :: ks, .cons ⟨r.1, rfl⟩ h1, .cons ⟨rfl, r.2.2⟩ h2⟩
theorem pi_itemsN {e : Expr} {te : TE} {apos cpos : Pos} {elts : List Expr} {kk : Nat} {tpos : Pos} (D : KeyD dS) (hP : X.prog = P) (hw : X.w = w) (hK : X.K = K) (he : PE X e te) (hb : attributeBase e "items" X.env (eval e X.env) = eval e X.env := by rfl) (hl : (apos.endLine == cpos.line) = true := by rfl) :
    PI X (.Tuple elts kk tpos) (.Call (.Attribute e "items" apos) [] [] cpos) (iItemsN P w K dS te) := by
  subst hP hw hK
  have P1 : PE X (.Call (.Attribute e "items" apos) [] [] cpos) (tMG0 (dictN X.prog X.w X.K dS) (rItemsN X.prog X.w X.K dS) te) := pe_mG0 (ty_N D) F.plainAttrs_dict F.slot_dict_items F.type_dict_items (mt_itemsN D) he hb hl
  refine ⟨fun pins s σ H R I q => ?_⟩
  refine wpAny_mono (P1.run pins s σ H _ I q) ?_ fun _ _ z => z
  · rintro v s1 ⟨v', H1, I1, rv, p, d, kvs, rfl, hp, hd, k⟩
    cases rv
    have hv : Heap.IsItemsView s1.heap p d := (I1.hok p _ hp).1
    obtain ⟨xs, ⟨o, es, ep, ho, hex, hda, hl, hi, hn⟩, pr, ns, m⟩ := hd.heap D I1
    have raw : Heap.DictRaw s1.heap d es ep := ⟨o, ho, hex, hda⟩
    refine wpAny_pyIter_items_raw hv raw ?_
    have t := Tu.dn hd (atO d o)
    have I2 : Inv X pins σ (upd H1 d (atO d o)) { s1 with toks := s1.toks } := I1.write m (.inl rfl) (fun b u hb hu => hu) ⟨o, ho⟩ ⟨ho, ⟨o, ho⟩, fun h1 h2 e f => f _ e⟩
    obtain ⟨ks, k1, k2⟩ := ks_of (P := X.prog) (w := X.w) (Paired.imp (fun _ _ => RkN.mono t) pr)
    rw [← hl] at k2
    have hfr : (upd H1 d (atO d o)) s1.heap.objs.size = none := by
      have := I2.fresh
      exact this
    refine ⟨s1.heap.objs.size, [s1.heap.objs.size], _, ItN d o ks, upd H1 d (atO d o), rfl, I2.turnedL (ch := []) (fun b u _ hb => ?_) (fun b hb => by simp at hb), turn_itemsN (es := es) (ep := ep) hex hda k2, ⟨_, _, Heap.get?_push_size _ rfl⟩, fun b hb => ?_, k _ o ks (Fr.mut (by simp)) t upd_same k1⟩
    · rw [Heap.get?_push_ne]
      · exact hb
      · rintro rfl
        exact get_size hb
    · rw [List.mem_singleton.mp hb]
      exact I2.fpOk (Nat.le_refl _) hfr
end
/-- a comprehension over items -/
theorem LC_N {α : Type} {K : PySem.W.Frag} {dS : α → PyData} {d D : Addr} {o : Obj} {kvs : List (α × V)} {ks : List (Addr × V)} {H : Hp} {ws : List Nat} {σ : L2.St} {tg : TG} {tt : TT} {te : TE} {Q : VK} (f : α × V → Bool) (g : α × V → PyData)
    (hd : H d = some (atO d o)) (hk : Paired (fun (kv : α × V) (k : Addr × V) => Dt K H (.ref k.1) (dS kv.1) ∧ k.2 = kv.2) kvs ks) (lc : kvs.length ≤ 100000) (hD : H D = none)
    (hs : ∀ (kv : α × V) (b T : Addr) (H' : Hp) (KEEP : VK) (DROP : Hp → Prop), kv ∈ kvs → Fr [] H H' → SqT K H' T [.ref b, kv.2] → Dt K H' (.ref b) (dS kv.1) → (f kv = true → ∀ y H4, Fr [] H' H4 → Dt K H4 y (g kv) → KEEP y H4) → (f kv = false → ∀ H4, Fr [] H' H4 → DROP H4) →
      tg (.ref T) (wipe σ ws) H' fun σ2 H2 => wipe σ2 ws = wipe σ ws ∧ tt σ2 H2 fun k H3 => if k = true then te σ2 H3 KEEP else DROP H3)
    (k : ∀ D H', H D = none → Fr [] H H' → Lq K H' D ((kvs.filter f).map g) → Q (.ref D) H') :
    LC (ItN d o ks) tg tt te ws σ D Q (upd H D (.lst [])) := by
  have lk : kvs.length = ks.length := Paired.len hk
  refine ⟨fun i m H' => m = ks.length - i ∧ i ≤ ks.length ∧ Fr [] H H' ∧ Lq K H' D (((kvs.take i).filter f).map g), ⟨_, rfl, Nat.zero_le _, Fr.new hD, [], upd_same, .nil⟩, ?_⟩
  rintro i m H' ⟨rfl, hi, f', L⟩
  have hd' := f' _ _ hd (by simp)
  by_cases hlt : i < ks.length
  · refine .inr ⟨⟨hd', hlt⟩, fun H2 => Fr [] H H2 ∧ Lq K H2 D (((kvs.take (i + 1)).filter f).map g), fun H2 z => ⟨ks.length - (i + 1), by omega, rfl, hlt, z⟩, fun x H2 y => ?_⟩
    obtain ⟨T, b, v, hks, rfl, hT, rfl⟩ := y
    obtain ⟨kv, hkv, hb, hv⟩ := Paired.get hk hks
    have hv : v = kv.2 := hv
    subst hv
    have fT : Fr [] H' (upd H' T (.tup [.ref b, kv.2])) := Fr.new hT
    have L2 := L.fr0 fT
    obtain ⟨ys, hys, dys⟩ := L2
    have ly : ys.length ≤ i := by
      rw [dys.length, List.length_map]
      refine Nat.le_trans (List.length_filter_le _ _) ?_
      rw [List.length_take]
      omega
    refine hs kv b T _ _ _ (List.mem_of_getElem? hkv) (f'.trans fT) (.inl (.inl upd_same)) (hb.mono (f'.trans fT).tu) (fun hf y H4 f4 dy => ?_) (fun hf H4 f4 => ?_)
    · have e3 := f4 _ _ hys (by simp)
      refine ⟨ys, e3, Nat.lt_of_le_of_lt (show ys.length ≤ 100000 by omega) (by decide), Fr.new_mut hD (((f'.trans fT).trans f4).mono (by simp) |>.trans (Fr.mut (by simp))), _, upd_same, ?_⟩
      rw [take_filt hkv, hf, List.map_append]
      exact ((dys.mono f4.tu).append (.cons dy .nil)).mono (Tu.mut e3)
    · refine ⟨(f'.trans fT).trans f4, ?_⟩
      rw [take_filt hkv, hf]
      show Lq K H4 D ((List.filter f (kvs.take i) ++ []).map g)
      rw [List.append_nil]
      exact Lq.fr0 ⟨ys, hys, dys⟩ f4
  · have z : i = ks.length := by omega
    subst z
    refine .inl ⟨⟨hd', rfl⟩, ?_⟩
    rw [← lk, List.take_length] at L
    exact k D H' hD f' L
/-! ### the same, told for the places where one stands -/
section
variable {α : Type} [DecidableEq α] {X : Cx} {P : Program} {w : World} {K : PySem.W.Frag} {dS : α → PyData}
theorem op_inNU (D : KeyD dS) (hP : X.prog = P) (hw : X.w = w) (hK : X.K = K) (hu : X.A.units + 65 < cLine) : OpR X (compareOp .In) (rInN P w K dS) := by subst hP hw hK; exact op_inN D hu
theorem op_ninNU (D : KeyD dS) (hP : X.prog = P) (hw : X.w = w) (hK : X.K = K) (hu : X.A.units + 65 < cLine) : OpR X (compareOp .NotIn) (rNinN P w K dS) := by subst hP hw hK; exact op_ninN D hu
theorem ix_NU (D : KeyD dS) (hP : X.prog = P) (hw : X.w = w) (hK : X.K = K) (hu : X.A.units + 65 < cLine) : IxR X (rIxN P w K dS) := by subst hP hw hK; exact ix_N D hu
theorem set_NU (D : KeyD dS) (hP : X.prog = P) (hw : X.w = w) (hK : X.K = K) (hu : X.A.units + 65 < cLine) : PSet X (rSetN P w K dS) := by subst hP hw hK; exact set_N D hu
theorem ty_NU (D : KeyD dS) (hP : X.prog = P) (hw : X.w = w) (hK : X.K = K) : TyOk X "dict" (dictN P w K dS) := by subst hP hw hK; exact ty_N D
theorem mt_popNU (D : KeyD dS) (hP : X.prog = P) (hw : X.w = w) (hK : X.K = K) (hu : X.A.units + 65 < cLine) : MtR X "dict.pop" (rPopN P w K dS) := by subst hP hw hK; exact mt_popN D hu
variable {H : Hp} {Q : VK} {a d : Addr} {kvs : List (α × V)} {k : α}
theorem w_inN (hd : DN P w K dS H d kvs) (hk : Dt K H (.ref a) (dS k)) (q : Q (.bl (atN kvs k).isSome) H) : rInN P w K dS (.ref a) (.ref d) H Q := ⟨d, a, kvs, k, rfl, rfl, hd, hk, q⟩
theorem w_ninN (hd : DN P w K dS H d kvs) (hk : Dt K H (.ref a) (dS k)) (q : Q (.bl (!(atN kvs k).isSome)) H) : rNinN P w K dS (.ref a) (.ref d) H Q := ⟨d, a, kvs, k, rfl, rfl, hd, hk, q⟩
theorem w_ixN {v : V} (hd : DN P w K dS H d kvs) (hk : Dt K H (.ref a) (dS k)) (hv : atN kvs k = some v) (q : Q v H) : rIxN P w K dS (.ref d) (.ref a) H Q := ⟨d, a, kvs, k, v, rfl, rfl, hd, hk, hv, q⟩
theorem w_setN {v : V} {Q : Hp → Prop} (hd : DN P w K dS H d kvs) (hk : Dt K H (.ref a) (dS k)) (n : kvs.length ≤ 100000) (q : ∀ H', Fr [d] H H' → Tu H H' → DN P w K dS H' d (putN kvs k v) → Q H') : rSetN P w K dS (.ref d) (.ref a) v H Q := ⟨d, a, kvs, k, rfl, rfl, hd, hk, n, q⟩
theorem w_popN {v : V} (hd : DN P w K dS H d kvs) (hk : Dt K H (.ref a) (dS k)) (n : kvs.length ≤ 100000) (hv : atN kvs k = some v) (q : ∀ H', Fr [d] H H' → Tu H H' → DN P w K dS H' d (dropN kvs k) → Q v H') : rPopN P w K dS (.ref d) [.ref a] H Q := ⟨d, a, kvs, k, v, rfl, rfl, hd, hk, n, hv, q⟩
theorem DN.dict (hd : DN P w K dS H d kvs) : dictN P w K dS (.ref d) H := ⟨d, kvs, rfl, hd⟩
theorem w_mG {σ : L2.St} {ty : V → Hp → Prop} {rm : V → List V → Hp → VK → Prop} {ta : TE} {tr : TA} (q : ta σ H fun x H1 => ty x H1 ∧ tr σ H1 fun xs H2 => rm x xs H2 Q) : tMG ty rm ta tr σ H Q := q
end
/-! ### isinstance(x, (a, b)) -/
section
variable {K : PySem.W.Frag} {H : Hp} {Q : VK}
theorem kit_two {t a b : String} {r s : Bool} (h1 : kitB t a = some r) (h2 : kitB t b = some s) : PySem.W.kitAny K (.type t) [.type a, .type b] = some (r || s) := by
  have e1 := kit_ty (K := K) h1
  have e2 := kit_ty (K := K) h2
  simp only [PySem.W.kitAny, e1, e2]
  cases r <;> cases s <;> rfl
theorem call_isiTU {X : Cx} (hK : X.K = K) : CallR X (.builtin "isinstance") (rIsiT K) := by subst hK; exact call_isiT
theorem w_isiT {x : V} {tp : Addr} {t a b : String} {r s : Bool} (h : H tp = some (.tup [.ty a, .ty b])) (ty : TyX K H x (.type t)) (h1 : kitB t a = some r) (h2 : kitB t b = some s) (q : Q (.bl (r || s)) H) : rIsiT K [x, .ref tp] H Q :=
  ⟨x, tp, [.ty a, .ty b], .type t, [.type a, .type b], r || s, rfl, h, .cons (.ty a) (.cons (.ty b) .nil), ty, kit_two h1 h2, q⟩
/-- the type's name of plain data -/
def tyn : PyData → String
  | .none => "NoneType"
  | .bool _ => "bool"
  | .int _ => "int"
  | .str _ => "str"
  | .tuple _ => "tuple"
  | .list _ => "list"
  | _ => "dict"
theorem Dg.ty {v : V} {d : PyData} (h : Dg K H v d) : TyX K H v (.type (tyn d)) := by
  cases h with
  | non => exact .base .non
  | bl b => exact .base (.bl _)
  | int i => exact .base (.int _)
  | str x => exact .base (.str _)
  | tup s _ => exact ty_T s
  | lst s _ => exact ty_L s
  | dct h => exact .base (.dK h)
end
end U

/-! any plain data, away from one list that changes (the tape) -/
namespace U
open PySem PySem.Spec PyProof.Rows L2
section
variable {K : PySem.W.Frag} {H H' : Hp}
mutual
theorem Dg.dp : ∀ {v : V} {d : PyData}, Dg K H v d → d.canLay0 = true → Dp K H v d
  | _, _, .non, _ => .non
  | _, _, .bl b, _ => .bl b
  | _, _, .int i, _ => .int i
  | _, _, .str x, _ => .str x
  | _, _, .tup s a, h => .tup s (DgAll.dp a h)
  | _, _, .lst s a, h => .lst s (DgAll.dp a h)
  | _, _, .dct _, h => by cases h
theorem DgAll.dp : ∀ {vs : List V} {ds : List PyData}, DgAll K H vs ds → PyData.canLayAll0 ds = true → DpAll K H vs ds
  | _, _, .nil, _ => .nil
  | _, _, .cons a b, h => by
    have z := Bool.and_eq_true_iff.mp h
    exact .cons (Dg.dp a z.1) (DgAll.dp b z.2)
end
theorem DgAll.take : ∀ {vs : List V} {ds : List PyData} (n : Nat), DgAll K H vs ds → DgAll K H (vs.take n) (ds.take n)
  | _, _, 0, _ => by simpa using DgAll.nil
  | _, _, _ + 1, .nil => by simpa using DgAll.nil
  | _, _, n + 1, .cons a b => by simpa using DgAll.cons a (DgAll.take n b)
theorem DgAll.drop : ∀ {vs : List V} {ds : List PyData} (n : Nat), DgAll K H vs ds → DgAll K H (vs.drop n) (ds.drop n)
  | _, _, 0, h => by simpa using h
  | _, _, _ + 1, .nil => by simpa using DgAll.nil
  | _, _, n + 1, .cons a b => by simpa using DgAll.drop n b
theorem DgAll.append : ∀ {vs us : List V} {ds es : List PyData}, DgAll K H vs ds → DgAll K H us es → DgAll K H (vs ++ us) (ds ++ es)
  | _, _, _, _, .nil, h => h
  | _, _, _, _, .cons a b, h => .cons a (DgAll.append b h)
theorem DgAll.cut {vs : List V} {ds : List PyData} (h : DgAll K H vs ds) (lo hi : Option Int) : DgAll K H (cutV vs lo hi) (cutA ds lo hi) := by
  unfold cutV cutA
  rw [DgAll.length h]
  exact DgAll.take _ (DgAll.drop _ h)
theorem DgAll.at : ∀ {vs : List V} {ds : List PyData} {i : Nat} {d : PyData}, DgAll K H vs ds → ds[i]? = some d → ∃ v, vs[i]? = some v ∧ Dg K H v d
  | _, _, i, _, .nil, h => by simp at h
  | _, _, 0, d, .cons a b, h => by
    simp at h
    subst h
    exact ⟨_, rfl, a⟩
  | _, _, i + 1, d, .cons a b, h => by
    obtain ⟨v, h1, h2⟩ := DgAll.at (i := i) b (by simpa using h)
    exact ⟨v, by simpa using h1, h2⟩
theorem Dg.tuple {v : V} {ds : List PyData} (h : Dg K H v (.tuple ds)) : ∃ p vs, v = .ref p ∧ SqT K H p vs ∧ DgAll K H vs ds := by
  cases h with
  | tup s a => exact ⟨_, _, rfl, s, a⟩
theorem Dg.list {v : V} {ds : List PyData} (h : Dg K H v (.list ds)) : ∃ p vs, v = .ref p ∧ SqL K H p vs ∧ DgAll K H vs ds := by
  cases h with
  | lst s a => exact ⟨_, _, rfl, s, a⟩
theorem Dg.isi {v : V} {d : PyData} {n : String} {b : Bool} {Q : VK} (h : Dg K H v d) (e : kitB (tyn d) n = some b) (q : Q (.bl b) H) : rIsi K [v, .ty n] H Q := w_isi h.ty (kit_ty e) q
end
/-- what is a tuple, list, whole number or truth, truth, text -/
def isTup : PyData → Bool | .tuple _ => true | _ => false
def isLst : PyData → Bool | .list _ => true | _ => false
def isInt : PyData → Bool | .int _ => true | .bool _ => true | _ => false
def isBool : PyData → Bool | .bool _ => true | _ => false
def isStr : PyData → Bool | .str _ => true | _ => false
section
variable {K : PySem.W.Frag} {H : Hp} {v : V} {d : PyData} {Q : VK}
theorem Dg.isTup (h : Dg K H v d) (q : Q (.bl (isTup d)) H) : rIsi K [v, .ty "tuple"] H Q := by
  cases h with
  | non => exact Dg.isi (d := .none) (by constructor <;> assumption) (by exact (by decide +kernel : kitB "NoneType" "tuple" = some false)) q
  | bl b => exact Dg.isi (d := .bool b) (by constructor <;> assumption) (by exact (by decide +kernel : kitB "bool" "tuple" = some false)) q
  | int i => exact Dg.isi (d := .int i) (by constructor <;> assumption) (by exact (by decide +kernel : kitB "int" "tuple" = some false)) q
  | str x => exact Dg.isi (d := .str x) (by constructor <;> assumption) (by exact (by decide +kernel : kitB "str" "tuple" = some false)) q
  | tup _ _ => exact Dg.isi (d := .tuple _) (by constructor <;> assumption) (by exact (by decide +kernel : kitB "tuple" "tuple" = some true)) q
  | lst _ _ => exact Dg.isi (d := .list _) (by constructor <;> assumption) (by exact (by decide +kernel : kitB "list" "tuple" = some false)) q
  | dct _ => exact Dg.isi (d := .dict []) (by constructor <;> assumption) (by exact (by decide +kernel : kitB "dict" "tuple" = some false)) q
theorem Dg.isLst (h : Dg K H v d) (q : Q (.bl (isLst d)) H) : rIsi K [v, .ty "list"] H Q := by
  cases h with
  | non => exact Dg.isi (d := .none) (by constructor <;> assumption) (by exact (by decide +kernel : kitB "NoneType" "list" = some false)) q
  | bl b => exact Dg.isi (d := .bool b) (by constructor <;> assumption) (by exact (by decide +kernel : kitB "bool" "list" = some false)) q
  | int i => exact Dg.isi (d := .int i) (by constructor <;> assumption) (by exact (by decide +kernel : kitB "int" "list" = some false)) q
  | str x => exact Dg.isi (d := .str x) (by constructor <;> assumption) (by exact (by decide +kernel : kitB "str" "list" = some false)) q
  | tup _ _ => exact Dg.isi (d := .tuple _) (by constructor <;> assumption) (by exact (by decide +kernel : kitB "tuple" "list" = some false)) q
  | lst _ _ => exact Dg.isi (d := .list _) (by constructor <;> assumption) (by exact (by decide +kernel : kitB "list" "list" = some true)) q
  | dct _ => exact Dg.isi (d := .dict []) (by constructor <;> assumption) (by exact (by decide +kernel : kitB "dict" "list" = some false)) q
theorem Dg.isInt (h : Dg K H v d) (q : Q (.bl (isInt d)) H) : rIsi K [v, .ty "int"] H Q := by
  cases h with
  | non => exact Dg.isi (d := .none) (by constructor <;> assumption) (by exact (by decide +kernel : kitB "NoneType" "int" = some false)) q
  | bl b => exact Dg.isi (d := .bool b) (by constructor <;> assumption) (by exact (by decide +kernel : kitB "bool" "int" = some true)) q
  | int i => exact Dg.isi (d := .int i) (by constructor <;> assumption) (by exact (by decide +kernel : kitB "int" "int" = some true)) q
  | str x => exact Dg.isi (d := .str x) (by constructor <;> assumption) (by exact (by decide +kernel : kitB "str" "int" = some false)) q
  | tup _ _ => exact Dg.isi (d := .tuple _) (by constructor <;> assumption) (by exact (by decide +kernel : kitB "tuple" "int" = some false)) q
  | lst _ _ => exact Dg.isi (d := .list _) (by constructor <;> assumption) (by exact (by decide +kernel : kitB "list" "int" = some false)) q
  | dct _ => exact Dg.isi (d := .dict []) (by constructor <;> assumption) (by exact (by decide +kernel : kitB "dict" "int" = some false)) q
theorem Dg.isBool (h : Dg K H v d) (q : Q (.bl (isBool d)) H) : rIsi K [v, .ty "bool"] H Q := by
  cases h with
  | non => exact Dg.isi (d := .none) (by constructor <;> assumption) (by exact (by decide +kernel : kitB "NoneType" "bool" = some false)) q
  | bl b => exact Dg.isi (d := .bool b) (by constructor <;> assumption) (by exact (by decide +kernel : kitB "bool" "bool" = some true)) q
  | int i => exact Dg.isi (d := .int i) (by constructor <;> assumption) (by exact (by decide +kernel : kitB "int" "bool" = some false)) q
  | str x => exact Dg.isi (d := .str x) (by constructor <;> assumption) (by exact (by decide +kernel : kitB "str" "bool" = some false)) q
  | tup _ _ => exact Dg.isi (d := .tuple _) (by constructor <;> assumption) (by exact (by decide +kernel : kitB "tuple" "bool" = some false)) q
  | lst _ _ => exact Dg.isi (d := .list _) (by constructor <;> assumption) (by exact (by decide +kernel : kitB "list" "bool" = some false)) q
  | dct _ => exact Dg.isi (d := .dict []) (by constructor <;> assumption) (by exact (by decide +kernel : kitB "dict" "bool" = some false)) q
theorem Dg.isStr (h : Dg K H v d) (q : Q (.bl (isStr d)) H) : rIsi K [v, .ty "str"] H Q := by
  cases h with
  | non => exact Dg.isi (d := .none) (by constructor <;> assumption) (by exact (by decide +kernel : kitB "NoneType" "str" = some false)) q
  | bl b => exact Dg.isi (d := .bool b) (by constructor <;> assumption) (by exact (by decide +kernel : kitB "bool" "str" = some false)) q
  | int i => exact Dg.isi (d := .int i) (by constructor <;> assumption) (by exact (by decide +kernel : kitB "int" "str" = some false)) q
  | str x => exact Dg.isi (d := .str x) (by constructor <;> assumption) (by exact (by decide +kernel : kitB "str" "str" = some true)) q
  | tup _ _ => exact Dg.isi (d := .tuple _) (by constructor <;> assumption) (by exact (by decide +kernel : kitB "tuple" "str" = some false)) q
  | lst _ _ => exact Dg.isi (d := .list _) (by constructor <;> assumption) (by exact (by decide +kernel : kitB "list" "str" = some false)) q
  | dct _ => exact Dg.isi (d := .dict []) (by constructor <;> assumption) (by exact (by decide +kernel : kitB "dict" "str" = some false)) q
/-- text or no text, against a text -/
def Fine (d : PyData) : Prop := (∃ es, d = .dict es) ∨ SeqAt.shaped d = true
def isStrB (z : Str) : PyData → Bool
  | .str y => decide (y = z)
  | _ => false
theorem Dg.neStr {z : Str} (D : Dg K H v d) (f : Fine d) (oz : PyData.strOk z = true) (q : Q (.bl (!isStrB z d)) H) : rNeU K v (.str z) H Q := by
  rcases f with ⟨es, rfl⟩ | f
  · cases D with
    | dct s => exact w_neDS s q
  · have hl := SeqAt.canLay_of_shaped f
    have sz : SeqAt.shaped (.str z) = true := lay_shaped ⟨oz, Nat.zero_le _⟩
    cases D with
    | str x => exact w_neS q
    | dct s => cases hl
    | non => exact w_neD .non (.str z) f sz q
    | bl b => exact w_neD (.bl b) (.str z) f sz q
    | int i => exact w_neD (.int i) (.str z) f sz q
    | tup s a => exact w_neD (.tup s (DgAll.dp a hl)) (.str z) f sz q
    | lst s a => exact w_neD (.lst s (DgAll.dp a hl)) (.str z) f sz q
theorem Dg.eqStr {z : Str} (D : Dg K H v d) (f : Fine d) (oz : PyData.strOk z = true) (q : Q (.bl (isStrB z d)) H) : rEqU K v (.str z) H Q := by
  rcases f with ⟨es, rfl⟩ | f
  · cases D with
    | dct s => exact w_eqDS s q
  · have hl := SeqAt.canLay_of_shaped f
    have sz : SeqAt.shaped (.str z) = true := lay_shaped ⟨oz, Nat.zero_le _⟩
    cases D with
    | str x => exact w_eqS q
    | dct s => cases hl
    | non => exact w_eqD .non (.str z) f sz q
    | bl b => exact w_eqD (.bl b) (.str z) f sz q
    | int i => exact w_eqD (.int i) (.str z) f sz q
    | tup s a => exact w_eqD (.tup s (DgAll.dp a hl)) (.str z) f sz q
    | lst s a => exact w_eqD (.lst s (DgAll.dp a hl)) (.str z) f sz q
end
/-! ### the heap without t -/
def wo (H : Hp) (t : Addr) : Hp := fun a => if a = t then none else H a
section
variable {K : PySem.W.Frag} {H H' : Hp} {t : Addr}
theorem wo_fr : Fr [] (wo H t) H := fun a o e _ => by
  unfold wo at e
  by_cases h : a = t
  · rw [if_pos h] at e; cases e
  · rw [if_neg h] at e; exact e
theorem Fr.wo (f : Fr [t] H H') : Fr [] (wo H t) (wo H' t) := fun a o e _ => by
  unfold U.wo at *
  by_cases h : a = t
  · rw [if_pos h] at e; cases e
  · rw [if_neg h] at e
    rw [if_neg h]
    exact f a o e (by simpa using h)
theorem wo_upd {p : Addr} {o : HO} (n : p ≠ t) : wo (upd H p o) t = upd (wo H t) p o := by
  funext a
  unfold wo
  by_cases h : a = t
  · subst h
    rw [if_pos rfl, upd_ne n.symm, if_pos rfl]
  · rw [if_neg h]
    by_cases e : a = p
    · subst e
      rw [upd_same, upd_same]
    · rw [upd_ne e, upd_ne e, if_neg h]
theorem wo_at {p : Addr} (n : p ≠ t) : wo H t p = H p := by unfold wo; rw [if_neg n]
theorem wo_tu {xs : List V} (h : H t = some (.lst xs)) : Tu H (wo H t) := fun a ys =>
  ⟨fun e => by rw [wo_at (by rintro rfl; rw [h] at e; cases e)]; exact e, fun o e => by rw [wo_at (by rintro rfl; rw [h] at e; cases e)]; exact e⟩
/-- data away from t -/
def Dx (K : PySem.W.Frag) (H : Hp) (t : Addr) (v : V) (d : PyData) : Prop := Dg K (wo H t) v d
theorem Dx.dg {v : V} {d : PyData} (h : Dx K H t v d) : Dg K H v d := Dg.fr wo_fr h
theorem Dx.fr {v : V} {d : PyData} (h : Dx K H t v d) (f : Fr [t] H H') : Dx K H' t v d := Dg.fr f.wo h
theorem Fr.to1 (f : Fr [] H H') : Fr [t] H H' := f.mono (by simp)
theorem Dx.fr0 {v : V} {d : PyData} (h : Dx K H t v d) (f : Fr [] H H') : Dx K H' t v d := h.fr f.to1
theorem Dt.dx {v : V} {d : PyData} {xs : List V} (ht : H t = some (.lst xs)) (h : Dt K H v d) : Dx K H t v d := (h.mono (wo_tu ht)).dg
def DxAll (K : PySem.W.Frag) (H : Hp) (t : Addr) (vs : List V) (ds : List PyData) : Prop := DgAll K (wo H t) vs ds
theorem DxAll.dg {vs : List V} {ds : List PyData} (h : DxAll K H t vs ds) : DgAll K H vs ds := DgAll.fr wo_fr h
theorem DxAll.fr {vs : List V} {ds : List PyData} (h : DxAll K H t vs ds) (f : Fr [t] H H') : DxAll K H' t vs ds := DgAll.fr f.wo h
theorem mkTx {xs : List V} {ds : List PyData} {Q : VK} (ht : ∃ o, H t = some o) (d : DgAll K (wo H t) xs ds) (q : ∀ p H', H p = none → Fr [] H H' → Dx K H' t (.ref p) (.tuple ds) → Q (.ref p) H') (n : xs.length ≤ 1000 := by exact Nat.le_of_ble_eq_true rfl) : MkT xs Q H :=
  ⟨Nat.le_trans n (by decide), fun p hp => q p _ hp (Fr.new hp) (by
    have np : p ≠ t := by
      rintro rfl
      obtain ⟨o, e⟩ := ht
      rw [hp] at e
      cases e
    unfold Dx
    rw [wo_upd np]
    exact .tup (.inl (.inl upd_same)) (DgAll.fr (Fr.new (by rw [wo_at np]; exact hp)) d))⟩
/-- a list of such, that may change -/
def Lx (K : PySem.W.Frag) (H : Hp) (t q : Addr) (ds : List PyData) : Prop := ∃ vs, H q = some (.lst vs) ∧ q ≠ t ∧ DgAll K (wo H t) vs ds
theorem Lx.fr {q : Addr} {ds : List PyData} (h : Lx K H t q ds) (f : Fr [t] H H') : Lx K H' t q ds := by
  obtain ⟨vs, e, n, a⟩ := h
  exact ⟨vs, f _ _ e (by simpa using n), n, DgAll.fr f.wo a⟩
theorem Lx.fr0 {q : Addr} {ds : List PyData} (h : Lx K H t q ds) (f : Fr [] H H') : Lx K H' t q ds := h.fr f.to1
theorem Lx.dx {q : Addr} {ds : List PyData} (h : Lx K H t q ds) : Dx K H t (.ref q) (.list ds) := by
  obtain ⟨vs, e, n, a⟩ := h
  exact .lst (.inl (.inl (by rw [wo_at n]; exact e))) a
theorem Lq.lx {q : Addr} {ds : List PyData} {xs : List V} (ht : H t = some (.lst xs)) (n : q ≠ t) (h : Lq K H q ds) : Lx K H t q ds := by
  obtain ⟨vs, e, a⟩ := h
  exact ⟨vs, e, n, (a.mono (wo_tu ht)).dg⟩
theorem lx_new {p : Addr} {vs : List V} {ds : List PyData} (ht : ∃ o, H t = some o) (hp : H p = none) (a : DgAll K (wo H t) vs ds) : Lx K (upd H p (.lst vs)) t p ds := by
  have np : p ≠ t := by
    rintro rfl
    obtain ⟨o, e⟩ := ht
    rw [hp] at e
    cases e
  refine ⟨vs, upd_same, np, ?_⟩
  rw [wo_upd np]
  exact DgAll.fr (Fr.new (by rw [wo_at np]; exact hp)) a
theorem mkLx {xs : List V} {ds : List PyData} {Q : VK} (ht : ∃ o, H t = some o) (d : DgAll K (wo H t) xs ds) (q : ∀ p H', H p = none → Fr [] H H' → Lx K H' t p ds → Q (.ref p) H') (n : xs.length ≤ 1000 := by exact Nat.le_of_ble_eq_true rfl) : MkL xs Q H :=
  ⟨Nat.le_trans n (by decide), fun p hp => q p _ hp (Fr.new hp) (lx_new ht hp d)⟩
theorem Lx.len {q : Addr} {ds : List PyData} {Q : VK} (h : Lx K H t q ds) (k : Q (.int ds.length) H) : rLenU K [.ref q] H Q := by
  obtain ⟨vs, e, _, a⟩ := h
  rw [← DgAll.length a] at k
  exact w_lenL (SqL.of e) k
theorem Lx.slice {q : Addr} {ds : List PyData} {lo hi : Option Int} {Q : VK} (ht : ∃ o, H t = some o) (h : Lx K H t q ds) (k : ∀ p H', H p = none → Fr [] H H' → Lx K H' t p (cutA ds lo hi) → Q (.ref p) H') : rSlU K (.ref q) lo hi H Q := by
  obtain ⟨vs, e, _, a⟩ := h
  exact w_slL (SqL.of e) fun p hp => k p _ hp (Fr.new hp) (lx_new ht hp (DgAll.cut a lo hi))
theorem Lx.cat {q r : Addr} {ds es : List PyData} {Q : VK} (ht : ∃ o, H t = some o) (h : Lx K H t q ds) (h' : Lx K H t r es) (n : ds.length + es.length ≤ 100000) (k : ∀ p H', H p = none → Fr [] H H' → Lx K H' t p (ds ++ es) → Q (.ref p) H') : rAddU K (.ref q) (.ref r) H Q := by
  obtain ⟨vs, e, _, a⟩ := h
  obtain ⟨us, e', _, a'⟩ := h'
  exact w_addL e e' (by rw [DgAll.length a, DgAll.length a']; omega) fun p hp => k p _ hp (Fr.new hp) (lx_new ht hp (DgAll.append a a'))
theorem Lx.at {q : Addr} {ds : List PyData} {i : Int} {Q : VK} (h : Lx K H t q ds) (h0 : 0 ≤ i) (h1 : i < ds.length) (k : ∀ v d, Dx K H t v d → ds[i.toNat]? = some d → Q v H) : rIx K (.ref q) (.int i) H Q := by
  obtain ⟨vs, e, _, a⟩ := h
  have ek : i = ((i.toNat : Nat) : Int) := by omega
  have hk : i.toNat < ds.length := by omega
  obtain ⟨v, hv, dv⟩ := DgAll.at a (List.getElem?_eq_getElem hk)
  refine w_ixL (SqL.of e) ?_ (k v _ dv (List.getElem?_eq_getElem hk))
  rw [ek]
  exact atI_nat hv
theorem Lx.list {q : Addr} {ds : List PyData} {Q : VK} (ht : ∃ o, H t = some o) (h : Lx K H t q ds) (k : ∀ p H', H p = none → Fr [] H H' → Lx K H' t p ds → Q (.ref p) H') : rListU K [.ref q] H Q := by
  obtain ⟨vs, e, _, a⟩ := h
  exact w_listL (SqL.of e) fun p hp => k p _ hp (Fr.new hp) (lx_new ht hp a)
/-! tuples -/
theorem sqT_wo {p : Addr} {vs : List V} (s : SqT K (wo H t) p vs) : SqT K H p vs := wo_fr.seqT s (by simp)
theorem Dx.tuple {v : V} {ds : List PyData} (h : Dx K H t v (.tuple ds)) : ∃ p vs, v = .ref p ∧ SqT K H p vs ∧ DgAll K (wo H t) vs ds := by
  obtain ⟨p, vs, e, s, a⟩ := Dg.tuple h
  exact ⟨p, vs, e, sqT_wo s, a⟩
theorem tx_new {p : Addr} {vs : List V} {ds : List PyData} (ht : ∃ o, H t = some o) (hp : H p = none) (a : DgAll K (wo H t) vs ds) : Dx K (upd H p (.tup vs)) t (.ref p) (.tuple ds) := by
  have np : p ≠ t := by
    rintro rfl
    obtain ⟨o, e⟩ := ht
    rw [hp] at e
    cases e
  unfold Dx
  rw [wo_upd np]
  exact .tup (.inl (.inl upd_same)) (DgAll.fr (Fr.new (by rw [wo_at np]; exact hp)) a)
theorem Dx.slice {v : V} {ds : List PyData} {lo hi : Option Int} {Q : VK} (ht : ∃ o, H t = some o) (h : Dx K H t v (.tuple ds)) (q : ∀ p H', Fr [] H H' → Dx K H' t (.ref p) (.tuple (cutA ds lo hi)) → Q (.ref p) H') : rSlU K v lo hi H Q := by
  obtain ⟨p, vs, rfl, s, a⟩ := h.tuple
  refine .inl (.inr ⟨p, vs, rfl, s, fun z => ?_, fun _ p' hp => ?_⟩)
  · rw [DgAll.length a] at z
    refine q p H Fr.refl ?_
    rw [cutA_full z]
    exact h
  · exact q p' _ (Fr.new hp) (tx_new ht hp (DgAll.cut a lo hi))
theorem Dx.cat {v u : V} {ds es : List PyData} {Q : VK} (ht : ∃ o, H t = some o) (h : Dx K H t v (.tuple ds)) (h' : Dx K H t u (.tuple es)) (n : ds.length + es.length ≤ 1000) (q : ∀ p H', Fr [] H H' → Dx K H' t (.ref p) (.tuple (ds ++ es)) → Q (.ref p) H') : rAddU K v u H Q := by
  obtain ⟨p, vs, rfl, s, a⟩ := h.tuple
  obtain ⟨p', us, rfl, s', a'⟩ := h'.tuple
  refine .inr (.inl ⟨p, p', vs, us, rfl, rfl, s, s', Nat.le_trans (show _ ≤ 1000 by rw [DgAll.length a, DgAll.length a']; exact n) (by decide), fun z => ?_, fun _ z => ?_, fun _ _ r hr => ?_⟩)
  · subst z
    cases a
    exact q p' H Fr.refl h'
  · subst z
    cases a'
    refine q p H Fr.refl ?_
    rw [List.append_nil]
    exact h
  · exact q r _ (Fr.new hr) (tx_new ht hr (DgAll.append a a'))
theorem Dx.ix {v : V} {ds : List PyData} {i : Int} {Q : VK} (h : Dx K H t v (.tuple ds)) (h0 : 0 ≤ i) (h1 : i < ds.length) (k : ∀ u d, Dx K H t u d → ds[i.toNat]? = some d → Q u H) : rIx K v (.int i) H Q := by
  obtain ⟨p, vs, rfl, s, a⟩ := h.tuple
  have ek : i = ((i.toNat : Nat) : Int) := by omega
  have hk : i.toNat < ds.length := by omega
  obtain ⟨u, hu, du⟩ := DgAll.at a (List.getElem?_eq_getElem hk)
  refine w_ixT s ?_ (k u _ du (List.getElem?_eq_getElem hk))
  rw [ek]
  exact atI_nat hu
theorem Dx.len {v : V} {ds : List PyData} {Q : VK} (h : Dx K H t v (.tuple ds)) (k : Q (.int ds.length) H) : rLenU K [v] H Q := by
  obtain ⟨p, vs, rfl, s, a⟩ := h.tuple
  rw [← DgAll.length a] at k
  exact w_lenT s k
theorem Dx.list {v : V} {ds : List PyData} {Q : VK} (ht : ∃ o, H t = some o) (h : Dx K H t v (.tuple ds)) (k : ∀ p H', H p = none → Fr [] H H' → Lx K H' t p ds → Q (.ref p) H') : rListU K [v] H Q := by
  obtain ⟨p, vs, rfl, s, a⟩ := h.tuple
  exact w_listT s fun p hp => k p _ hp (Fr.new hp) (lx_new ht hp a)
theorem Lx.tuple' {q : Addr} {ds : List PyData} {Q : VK} (ht : ∃ o, H t = some o) (h : Lx K H t q ds) (k : ∀ p H', Fr [] H H' → Dx K H' t (.ref p) (.tuple ds) → Q (.ref p) H') : rTupleU K [.ref q] H Q := by
  obtain ⟨vs, e, _, a⟩ := h
  exact w_tupleL (SqL.of e) fun p hp => k p _ (Fr.new hp) (tx_new ht hp a)
end
/-- an empty dict away from t -/
theorem dx_dict {K : PySem.W.Frag} {H : Hp} {t p : Addr} {kvs : List (Key × V)} {es : List (PyData × PyData)} (h : H p = some (.dK kvs)) (n : p ≠ t) : Dx K H t (.ref p) (.dict es) := .dct (by rw [wo_at n]; exact h)
/-! ### str of a truth, lists of other lengths -/
section
variable {X : Cx}
def rStrU : List V → Hp → VK → Prop := fun xs H Q => (∃ i, xs = [.int i] ∧ i.natAbs.log2 < 1920 ∧ Q (.str (toString i)) H) ∨ ∃ b : Bool, xs = [.bl b] ∧ Q (.str (if b then "True" else "False")) H
theorem call_str_bl : CallR X (.type "str") (fun xs H Q => ∃ b : Bool, xs = [.bl b] ∧ Q (.str (if b then "True" else "False")) H) := by
  intro pins s σ H xs us Q I rx h
  obtain ⟨b, rfl, q⟩ := h
  cases rx with
  | cons r t =>
  cases t
  cases r
  exact P.str_of_bool ⟨.str (if b then "True" else "False"), H, I.tok _, ⟨_, rfl⟩, q⟩
theorem call_strU : CallR X (.type "str") rStrU := call_str_int.or call_str_bl
def rNeLen : R2 := fun x y H Q => ∃ l m xs ys, x = .ref l ∧ y = .ref m ∧ H l = some (.lst xs) ∧ H m = some (.lst ys) ∧ xs.length ≠ ys.length ∧ Q (.bl true) H
theorem op_neLen (hu : X.A.units + 64 < cLine) : OpR X (compareOp .NotEq) rNeLen := by
  intro pins s σ H x y v u Q I rx ry h
  obtain ⟨l, m, xs, ys, rfl, rfl, hl, hm, n, q⟩ := h
  cases rx
  cases ry
  obtain ⟨_, its, c, v1, g1⟩ := I.hok l _ hl
  obtain ⟨_, its2, c2, v2, g2⟩ := I.hok m _ hm
  refine SeqAt.RcNeAt.lists_lengths ⟨_, g1, rfl, _, rfl⟩ ⟨_, g2, rfl, _, rfl⟩ ?_ (by omega) _ _ _ _ ⟨.bl true, H, I, rfl, q⟩
  rw [List.size_toArray, List.size_toArray, ← Paired.len v1, ← Paired.len v2]
  simpa using n
def rNeUL (K : PySem.W.Frag) : R2 := r2or (rNeU K) rNeLen
theorem op_neUL {K} (hK : X.K = K) (hu : X.A.units + 64 < cLine) : OpR X (compareOp .NotEq) (rNeUL K) := (op_neU hK hu).or (op_neLen hu)
end
/-! ### comprehensions of truths over any data -/
section
variable {K : PySem.W.Frag}
theorem LCB {q : Addr} {H : Hp} {vs : List V} {ds : List PyData} {j : Nat} {ws : List Nat} {σ : L2.St} {te : TE} {Q : VK} (s : SqL K H q vs) (a : DgAll K H vs ds) (ld : ds.length ≤ 100000) (f : PyData → Bool)
    (hw : ∀ x, wipe ((wipe σ ws).set j (some x)) ws = wipe σ ws)
    (he : ∀ d x H', d ∈ ds → Fr [] H H' → Dg K H' x d → ∀ Q : VK, (∀ H2, Fr [] H' H2 → Q (.bl (f d)) H2) → te ((wipe σ ws).set j (some x)) H' Q)
    (k : ∀ D H', H D = none → Fr [] H H' → Lq K H' D ((ds.map f).map PyData.bool) → Q (.ref D) H') :
    ∃ a', V.ref q = .ref a' ∧ (∃ ys, SqL K H a' ys) ∧ ∀ D, H D = none → LC (Itl K a') (gName j) tYes te ws σ D Q (upd H D (.lst [])) := by
  have lu := DgAll.length a
  refine LC_L s fun D hD => LC_by (a := q) (xs := vs) (fun i H' => Fr [] H H' ∧ Lq K H' D (((ds.take i).map f).map PyData.bool)) ⟨Fr.new hD, [], upd_same, .nil⟩ (fun i H' _ h => h.1.seqL s (by simp)) ?_ ?_
  · rintro i x H' hx ⟨f', ys, hys, dys⟩
    obtain ⟨d, h1, h2⟩ := DgAll.get (a.fr f') hx
    have hi : i < vs.length := (List.getElem?_eq_some_iff.mp hx).1
    have ly : ys.length ≤ i := by
      rw [dys.length, List.length_map, List.length_map, List.length_take]
      omega
    refine ⟨hw x, w_yes (iteT ?_)⟩
    refine he d x H' (List.mem_of_getElem? h1) f' h2 _ fun H2 f2 => ?_
    have e3 := f2 _ _ hys (by simp)
    refine ⟨ys, e3, Nat.lt_of_le_of_lt (show ys.length ≤ 100000 by omega) (by decide), Fr.new_mut hD ((f'.trans f2).mono (by simp) |>.trans (Fr.mut (by simp))), _, upd_same, ?_⟩
    rw [List.take_add_one, h1, List.map_append, List.map_append]
    exact ((dys.mono f2.tu).append (.cons (.bl _) .nil)).mono (Tu.mut e3)
  · rintro H' ⟨f', L⟩
    rw [lu, List.take_length] at L
    exact k D H' hD f' L
theorem LCBT {q : Addr} {H : Hp} {vs : List V} {ds : List PyData} {j : Nat} {ws : List Nat} {σ : L2.St} {te : TE} {Q : VK} (s : SqT K H q vs) (a : DgAll K H vs ds) (ld : ds.length ≤ 100000) (f : PyData → Bool)
    (hw : ∀ x, wipe ((wipe σ ws).set j (some x)) ws = wipe σ ws)
    (he : ∀ d x H', d ∈ ds → Fr [] H H' → Dg K H' x d → ∀ Q : VK, (∀ H2, Fr [] H' H2 → Q (.bl (f d)) H2) → te ((wipe σ ws).set j (some x)) H' Q)
    (k : ∀ D H', H D = none → Fr [] H H' → Lq K H' D ((ds.map f).map PyData.bool) → Q (.ref D) H') :
    ∃ a', V.ref q = .ref a' ∧ (∃ ys, SqT K H a' ys) ∧ ∀ D, H D = none → LC (Itt K a') (gName j) tYes te ws σ D Q (upd H D (.lst [])) := by
  have lu := DgAll.length a
  refine LC_T s fun D hD => ?_
  refine lc_it (walk_tup (K := K) (a := q) (xs := vs)) (fun i H' => Fr [] H H' ∧ Lq K H' D (((ds.take i).map f).map PyData.bool)) ⟨Fr.new hD, [], upd_same, .nil⟩ (fun i H' _ h => h.1.seqT s (by simp)) ?_ ?_
  · rintro i x H0' H' hi ⟨f', ys, hys, dys⟩ ⟨rfl, hx⟩
    obtain ⟨d, h1, h2⟩ := DgAll.get (a.fr f') hx
    have ly : ys.length ≤ i := by
      rw [dys.length, List.length_map, List.length_map, List.length_take]
      omega
    refine ⟨hw x, w_yes (iteT ?_)⟩
    refine he d x _ (List.mem_of_getElem? h1) f' h2 _ fun H2 f2 => ?_
    have e3 := f2 _ _ hys (by simp)
    refine ⟨ys, e3, Nat.lt_of_le_of_lt (show ys.length ≤ 100000 by omega) (by decide), Fr.new_mut hD ((f'.trans f2).mono (by simp) |>.trans (Fr.mut (by simp))), _, upd_same, ?_⟩
    rw [List.take_add_one, h1, List.map_append, List.map_append]
    exact ((dys.mono f2.tu).append (.cons (.bl _) .nil)).mono (Tu.mut e3)
  · rintro H' ⟨f', L⟩
    rw [lu, List.take_length] at L
    exact k D H' hD f' L
end
end U

/-! sorted(a dict), sorted(its items), sorted(a list), of data -/
namespace U
open PySem PySem.Spec PyProof.Rows L2
mutual
/-- tuples all the way down -/
def kdb : PyData → Bool
  | .none => true
  | .bool _ => true
  | .int _ => true
  | .str _ => true
  | .tuple ds => kdbAll ds
  | _ => false
def kdbAll : List PyData → Bool
  | [] => true
  | d :: r => kdb d && kdbAll r
end
mutual
theorem Dt.kdb {K : PySem.W.Frag} {H : Hp} : ∀ {v : V} {d : PyData}, Dt K H v d → U.kdb d = true
  | _, _, .non => rfl
  | _, _, .bl _ => rfl
  | _, _, .int _ => rfl
  | _, _, .str _ => rfl
  | _, _, .tup _ a => by rw [U.kdb]; exact DtAll.kdb a
theorem DtAll.kdb {K : PySem.W.Frag} {H : Hp} : ∀ {vs : List V} {ds : List PyData}, DtAll K H vs ds → kdbAll ds = true
  | _, _, .nil => rfl
  | _, _, .cons a b => by rw [kdbAll, Dt.kdb a, DtAll.kdb b]; rfl
end
mutual
theorem reads_nil {h : Heap} : ∀ {u : Value} {d : PyData} {as : List Addr}, Reads h u d as → kdb d = true → as = []
  | _, _, _, .none, _ => rfl
  | _, _, _, .bool b, _ => rfl
  | _, _, _, .int i t, _ => rfl
  | _, _, _, .str x t, _ => rfl
  | _, _, _, .list _ _ _ _, k => by simp [kdb] at k
  | _, _, _, .tuple g c e a, k => readsAll_nil a (by simpa [kdb] using k)
  | _, _, _, .dict _ _ _ _ _, k => by simp [kdb] at k
theorem readsAll_nil {h : Heap} : ∀ {us : List Value} {ds : List PyData} {as : List Addr}, ReadsAll h us ds as → kdbAll ds = true → as = []
  | _, _, _, .nil, _ => rfl
  | _, _, _, .cons a b, k => by
    simp only [kdbAll, Bool.and_eq_true] at k
    rw [reads_nil a k.1, readsAll_nil b k.2]
    rfl
end
theorem each_of {α β : Type} {F : α → β → Prop} : ∀ {xs : List α} {ys : List β}, Paired F xs ys → PySem.W.EachIs F xs ys
  | _, _, .nil => .nil
  | _, _, .cons a b => .cons a (each_of b)
theorem of_each {α β : Type} {F : α → β → Prop} : ∀ {xs : List α} {ys : List β}, PySem.W.EachIs F xs ys → Paired F xs ys
  | _, _, .nil => .nil
  | _, _, .cons a b => .cons a (of_each b)
/-- a value in the heap and its data -/
def IsD (K : PySem.W.Frag) (H : Hp) {β : Type} (enc : β → PyData) (u : Value) (b : β) : Prop := ∃ v, RelV v u ∧ Dt K H v (enc b)
theorem vals_of {K : PySem.W.Frag} {H : Hp} {β : Type} {enc : β → PyData} : ∀ {us : List Value} {bs : List β}, Paired (IsD K H enc) us bs → ∃ ys, Vals ys us ∧ DtAll K H ys (bs.map enc)
  | _, _, .nil => ⟨[], .nil, .nil⟩
  | _, _, .cons ⟨v, r, d⟩ b => by
    obtain ⟨ys, h1, h2⟩ := vals_of b
    exact ⟨v :: ys, .cons r h1, .cons d h2⟩
section
variable {X : Cx} {pins : List (Addr × Obj)} {σ : L2.St} {H : Hp} {s : Shared}
theorem get_lt {h : Heap} {b : Addr} {o : Obj} (e : h.get? b = some o) : b < h.objs.size := by
  by_cases n : b < h.objs.size
  · exact n
  · exfalso
    unfold Heap.get? at e
    rw [Array.getElem?_eq_none (Nat.le_of_not_lt n)] at e
    cases e
/-- the sort of a list that was just made, all that stood stands -/
theorem sort_new {β : Type} {bs : List β} {enc : β → PyData} {us : List Value} {h' : Heap} {tk : Nat} {A : Around} {Q : Value → Shared → Prop} {E : Value → Shared → Prop} (I : Inv X pins σ H s)
    (old : ∀ (b : Addr) (o : Obj), s.heap.get? b = some o → h'.get? b = some o) (grow : s.heap.objs.size ≤ h'.objs.size)
    (h : Paired (IsD X.K H enc) us bs) (al : PySem.W.AllAlike (bs.map enc)) (so : PySem.W.Sortable (bs.map enc)) (n : bs.length ≤ 100000)
    (hu : A.units + 65 < cLine) (dp : ∀ b ∈ bs, (enc b).depth ≤ 10)
    (q : ∀ (p : Addr) (s' : Shared) (H' : Hp), H p = none → Fr [] H H' → Inv X pins σ H' s' → Lq X.K H' p ((bs.mergeSort (PySem.W.dataLe false enc)).map enc) → Q (.ref p) s') :
    wpAny (model X.prog X.w) A (call (.builtin "list.sort") [.ref h'.objs.size]) (fun _ s' => Q (.ref h'.objs.size) s') E { s with heap := h'.push { cls := .type "list", data := .seq us.toArray }, toks := tk } := by
  have hg : (h'.push { cls := .type "list", data := .seq us.toArray }).get? h'.objs.size = some (seqObj "list" us.toArray 0) := Heap.get?_push_size _ rfl
  have hp : H h'.objs.size = none := HOk.fresh I.hok grow
  have lsz : ∀ (b : Addr) (o : Obj), s.heap.get? b = some o → b ≠ h'.objs.size ∧ b < (h'.push { cls := Value.type "list", data := .seq us.toArray }).objs.size := fun b o hb => by
    have := get_lt (old b o hb)
    refine ⟨Nat.ne_of_lt this, ?_⟩
    show b < (h'.objs.push _).size
    rw [Array.size_push]
    exact Nat.lt_succ_of_lt this
  obtain ⟨xs, vx, dx⟩ := vals_of h
  have lx : xs.length = bs.length := by
    rw [Paired.len vx, Paired.len h]
  have I1 : Inv X pins σ (upd H h'.objs.size (.lst xs)) { s with heap := h'.push { cls := .type "list", data := .seq us.toArray }, toks := tk } := I.laid (fun b o hb => by
    rw [Heap.get?_push_ne _ _ _ (lsz b o hb).1]
    exact old b o hb) grow ⟨by rw [lx]; exact Nat.le_trans n (by decide), us, 0, vx, hg⟩
  refine PySem.W.list_sort_data (n := 0) (R := IsD X.K H enc) (bs := bs) (enc := enc) (vs := us) hg (each_of h) (each_of (Paired.imp (fun u b z => ?_) h)) al so (Nat.le_trans n (by decide)) (fun b hb => by have := dp b hb; omega) fun out lo eo => ?_
  · obtain ⟨v, rv, d⟩ := z
    obtain ⟨as, r⟩ := Dp.reads I1 (enc b) v u (d.mono (Tu.new hp)).dp rv
    exact ⟨as, r, by rw [reads_nil r d.kdb]; simp⟩
  · obtain ⟨ys, vy, dy⟩ := vals_of (of_each eo)
    obtain ⟨e, he⟩ := sortedHeap_at (out := out.toArray) hg
    refine q h'.objs.size _ (upd H h'.objs.size (.lst ys)) hp (Fr.new hp) (I.laid (fun b o hb => ?_) grow ⟨?_, out, e, vy, he⟩) ⟨ys, upd_same, dy.mono (Tu.new hp)⟩
    · obtain ⟨n1, n2⟩ := lsz b o hb
      rw [sortedHeap_old n1 n2, Heap.get?_push_ne _ _ _ n1]
      exact old b o hb
    · have : ys.length = out.length := Paired.len vy
      rw [this, lo]
      exact Nat.le_trans n (by decide)
end
section
variable {α : Type} [DecidableEq α] {X : Cx} {P : Program} {w : World} {K : PySem.W.Frag} {dS : α → PyData}
/-- data in a row that can be sorted: tuples, none of them empty, alike place by place -/
def Sorty (ds : List PyData) : Prop := PySem.W.AllAlike ds ∧ PySem.W.Sortable ds
def rSortKN (P : Program) (w : World) (K : PySem.W.Frag) (dS : α → PyData) : List V → Hp → VK → Prop := fun xs H Q => ∃ (d : Addr) (kvs : List (α × V)), xs = [.ref d] ∧ DN P w K dS H d kvs ∧ kvs.length ≤ 100000 ∧ Sorty ((kvs.map (·.1)).map dS) ∧
  ∀ p H', H p = none → Fr [] H H' → Lq K H' p (((kvs.map (·.1)).mergeSort (PySem.W.dataLe false dS)).map dS) → Q (.ref p) H'
theorem Paired.flip {α β : Type} {F : α → β → Prop} : ∀ {xs : List α} {ys : List β}, Paired F xs ys → Paired (fun y x => F x y) ys xs
  | _, _, .nil => .nil
  | _, _, .cons a b => .cons a (Paired.flip b)
theorem paired_at {α β : Type} {F : α → β → Prop} : ∀ {xs : List α} {ys : List β}, xs.length = ys.length → (∀ (i : Nat) (x : α) (y : β), xs[i]? = some x → ys[i]? = some y → F x y) → Paired F xs ys
  | [], [], _, _ => .nil
  | [], _ :: _, h, _ => by simp at h
  | _ :: _, [], h, _ => by simp at h
  | x :: xs, y :: ys, h, k => .cons (k 0 x y rfl rfl) (paired_at (by simpa using h) fun i a b ha hb => k (i + 1) a b (by simpa using ha) (by simpa using hb))
theorem Paired.at {α β : Type} {F : α → β → Prop} : ∀ {xs : List α} {ys : List β}, Paired F xs ys → ∀ {i : Nat} {x : α}, xs[i]? = some x → ∃ y, ys[i]? = some y ∧ F x y
  | _, _, h, i, x, hx => Paired.get (Paired.flip h) hx
theorem call_sortedKN (D : KeyD dS) (hc : X.calm = true) (hu : X.A.units + 70 < cLine) : CallR X (.builtin "sorted") (rSortKN X.prog X.w X.K dS) := by
  intro pins s σ H xs us Q I rx h
  obtain ⟨d, kvs, rfl, hd, n, so, q⟩ := h
  cases rx with
  | cons r t =>
  cases t
  cases r
  obtain ⟨ks, ⟨o, es, ep, ho, hex, hda, hl, hi, hn⟩, pr, ns, m⟩ := hd.heap D I
  have sz : es.size = kvs.length := by rw [← Array.length_toList, hl, List.length_map, Paired.len pr]
  refine Calls.call_function_entry kind_sorted plain_sorted entry_sorted (args_sorted1 _) ?_
  show wpAny _ _ (do
    let vs ← collect (.ref d)
    let l ← newList vs
    let _ ← holding [l] (call (.builtin "list.sort") [l] [])
    ret l) _ _ _
  refine wpAny_bind (PySem.W.kdu_collect (KdlSrc.rawDict (prog := X.prog) (w := X.w) (es := es) (ep := ep) ns) (I.ok.hd hc) ⟨o, ho, hex, hda⟩ (by rw [sz]; exact Nat.le_trans n (by decide)) fun h' tk acc old its => ?_)
  have la : acc.size = kvs.length := its.1.trans sz
  have hk : Paired (IsD X.K H dS) acc.toList (kvs.map (·.1)) := by
    refine paired_at (by rw [Array.length_toList, List.length_map, la]) fun i x y hx hy => ?_
    rw [Array.getElem?_toList] at hx
    obtain ⟨hi', rfl⟩ := its.2 i x hx
    rw [List.getElem?_map] at hy
    cases ek : kvs[i]? with
    | none => rw [ek] at hy; cases hy
    | some kv =>
      rw [ek] at hy
      cases hy
      obtain ⟨e, he, rk⟩ := Paired.at pr ek
      have h3 : es.toList[i]? = some (entryOfKey (nestedKind X.prog X.w) e) := by rw [hl, List.getElem?_map, he]; rfl
      rw [Array.getElem?_toList, Array.getElem?_eq_getElem hi'] at h3
      rw [Option.some.inj h3]
      exact ⟨.ref e.2.1, rfl, rk.1⟩
  have I2 := I.turnedL (ch := []) (t' := tk) (fun b o _ hb => old b o hb) (fun b hb => by simp at hb)
  refine wpAny_bind (wpAny_newList ?_ (by rw [Array.length_toList, la]; exact Nat.le_trans n (by decide)))
  refine wpAny_bind (wpAny_holding ?_)
  have hu' : X.A.in1.units + 65 < cLine := by
    show X.A.units + 1 + 65 < cLine
    omega
  refine sort_new (bs := kvs.map (·.1)) (enc := dS) (us := acc.toList) (Q := fun v s' => wpAny (model X.prog X.w) X.A.in1 (ret v) _ _ s') I2 (fun _ _ z => z) (Nat.le_refl _) hk so.1 so.2 (by rw [List.length_map]; exact n) hu' (fun b _ => Nat.le_trans (D.dp b) (by decide)) fun p s' H' np f' I' L' => ?_
  exact wpAny_of_eq rfl ⟨_, rfl, .ref p, H', I', rfl, q p H' np f' L'⟩
theorem call_sortedKNU (D : KeyD dS) (hP : X.prog = P) (hw : X.w = w) (hK : X.K = K) (hc : X.calm = true) (hu : X.A.units + 70 < cLine) : CallR X (.builtin "sorted") (rSortKN P w K dS) := by subst hP hw hK; exact call_sortedKN D hc hu
/-- sorted(a list of data) -/
def rSortL (K : PySem.W.Frag) : List V → Hp → VK → Prop := fun xs H Q => ∃ (l : Addr) (ds : List PyData), xs = [.ref l] ∧ Lq K H l ds ∧ ds.length ≤ 100000 ∧ Sorty ds ∧ (∀ d ∈ ds, d.depth ≤ 10) ∧
  ∀ p H', H p = none → Fr [] H H' → Lq K H' p (ds.mergeSort (PySem.W.dataLe false id)) → Q (.ref p) H'
/-- d.get(k, x) -/
def rGetN (P : Program) (w : World) (K : PySem.W.Frag) (dS : α → PyData) : V → List V → Hp → VK → Prop := fun x vs H Q => ∃ (d a : Addr) (kvs : List (α × V)) (k : α) (z : V), x = .ref d ∧ vs = [.ref a, z] ∧ DN P w K dS H d kvs ∧ Dt K H (.ref a) (dS k) ∧ Q ((atN kvs k).getD z) H
theorem mt_getN (D : KeyD dS) (hu : X.A.units + 65 < cLine) : MtR X "dict.get" (rGetN X.prog X.w X.K dS) := by
  intro pins s σ H x vs v us Q I rx rvs h
  obtain ⟨d, a, kvs, k, z, rfl, rfl, hd, hk, q⟩ := h
  cases rx
  cases rvs with
  | cons ra rvs =>
  cases rvs with
  | cons rz rvs =>
  cases rvs
  cases ra
  obtain ⟨xs, hD, pr, ns, m⟩ := hd.heap D I
  obtain ⟨o, es, ep, ho, hex, _⟩ := id hD
  refine call_meetsIn F.slot_dict_get ⟨o, ho, hex.1⟩ F.entry_dict_get (F.args_dict_get_3 _ _ _) (meetsH_dict_get_default (nestedKind X.prog X.w) d a ns _) ?_
  refine ⟨roomN hu, U.nk (dS k), xs, D.is I hk, hD, ?_⟩
  rcases at_paired D k pr with ⟨e, f⟩ | ⟨v', p, u, e, f, r⟩
  · rw [f]
    rw [e] at q
    exact ⟨z, H, I.tok _, rz, q⟩
  · rw [f]
    rw [e] at q
    exact ⟨v', H, I.tok _, r, q⟩
theorem mt_getNU (D : KeyD dS) (hP : X.prog = P) (hw : X.w = w) (hK : X.K = K) (hu : X.A.units + 65 < cLine) : MtR X "dict.get" (rGetN P w K dS) := by subst hP hw hK; exact mt_getN D hu
theorem w_getN {H : Hp} {Q : VK} {a d : Addr} {kvs : List (α × V)} {k : α} {z : V} (hd : DN P w K dS H d kvs) (hk : Dt K H (.ref a) (dS k)) (q : Q ((atN kvs k).getD z) H) : rGetN P w K dS (.ref d) [.ref a, z] H Q := ⟨d, a, kvs, k, z, rfl, rfl, hd, hk, q⟩
end
theorem u1 {A : Around} {k : Nat} (hr : Room k A) : A.units + 1 < cLine := by have := hr.un; omega
theorem w_dget {σ : L2.St} {H : Hp} {td ty : TE} {Q : VK} (q : td σ H fun x H1 => ty σ H1 fun y H2 => ∃ a v, x = V.ref a ∧ DGet H2 a y (some v) ∧ Q v H2) : tDGet td ty σ H Q := q
theorem pi_zipU {X : Cx} {K} {e e2 : Expr} {ta : TA} {p pos tpos : Pos} {elts : List Expr} {kk : Nat} (hK : X.K = K) (hg : Gl X "zip") (hm : X.mg "zip" = none) (ha : PA X [e, e2] ta)
    (h1 : starEach [e, e2] X.env = (false, eval e X.env) :: starEach [e2] X.env := by rfl) (h2 : ((backTo pos (starEach [e2] X.env)).any fun x => x.1) = false := by rfl) :
    PI X (.Tuple elts kk tpos) (.Call (.Name "zip" p) [e, e2] [] pos) (iZip K ta) := by subst hK; exact pi_zip hg hm ha h1 h2
theorem w_iZip {K} {σ : L2.St} {H : Hp} {ta : TA} {R : It → Hp → Prop} (q : ta σ H fun vs H1 => ∃ a b xs ys, vs = [V.ref a, V.ref b] ∧ SqL K H1 a xs ∧ SqL K H1 b ys ∧ R (Itz K a b) H1) : iZip K ta σ H R := q
end U

/-! dicts keyed by nested tuples: setdefault, walks over keys and values -/
namespace U
open PySem PySem.Spec PyProof.Rows L2
section
variable {α : Type} [DecidableEq α] {X : Cx} {P : Program} {w : World} {K : PySem.W.Frag} {dS : α → PyData}
def rSetdN (P : Program) (w : World) (K : PySem.W.Frag) (dS : α → PyData) : V → List V → Hp → VK → Prop := fun x vs H Q => ∃ (d a : Addr) (kvs : List (α × V)) (k : α) (y : V), x = .ref d ∧ vs = [.ref a, y] ∧ DN P w K dS H d kvs ∧ Dt K H (.ref a) (dS k) ∧ kvs.length ≤ 100000 ∧
  (∀ v, atN kvs k = some v → Q v H) ∧ (atN kvs k = none → ∀ H', Fr [d] H H' → Tu H H' → DN P w K dS H' d (putN kvs k y) → Q y H')
theorem mt_setdN (D : KeyD dS) (hu : X.A.units + 65 < cLine) : MtR X "dict.setdefault" (rSetdN X.prog X.w X.K dS) := by
  intro pins s σ H x vs v us Q I rx rvs h
  obtain ⟨d, a, kvs, k, y, rfl, rfl, hd, hk, n, q1, q2⟩ := h
  cases rx
  obtain ⟨_, u, ra, ry, rfl⟩ : ∃ u u', RelV (.ref a) u ∧ RelV y u' ∧ us = [u, u'] := by
    cases rvs with
    | cons r t =>
      cases t with
      | cons r2 t2 =>
        cases t2
        exact ⟨_, _, r, r2, rfl⟩
  cases ra
  obtain ⟨xs, hD, pr, ns, m⟩ := hd.heap D I
  obtain ⟨o, es, ep, ho, hex, _⟩ := id hD
  refine call_meetsIn F.slot_dict_setdefault ⟨o, ho, hex.1⟩ F.entry_dict_setdefault (F.args_dict_setdefault_3 _ _ _) (meetsH_dict_setdefault (nestedKind X.prog X.w) d a ns u) ?_
  refine ⟨roomN hu, nk (dS k), xs, D.is I hk, hD, by rw [← Paired.len pr]; exact Nat.le_trans n (by decide), fun p hp => ?_, fun hn h' hD' sb => ?_⟩
  · rcases at_paired D k pr with ⟨e, f⟩ | ⟨v', p', u', e, f, r⟩
    · rw [f] at hp; cases hp
    · rw [f] at hp
      cases hp
      exact ⟨v', H, I.tok _, r, q1 v' e⟩
  · rcases at_paired D k pr with ⟨e, f⟩ | ⟨v', p', u', e, f, r⟩
    · obtain ⟨H', I', f', t, d'⟩ := DN.write I hd ns m hD' sb (put_paired D hk ry pr)
      exact ⟨y, H', I', ry, q2 e H' f' t d'⟩
    · rw [f] at hn; cases hn
theorem mt_setdNU (D : KeyD dS) (hP : X.prog = P) (hw : X.w = w) (hK : X.K = K) (hu : X.A.units + 65 < cLine) : MtR X "dict.setdefault" (rSetdN P w K dS) := by subst hP hw hK; exact mt_setdN D hu
theorem w_setdN {H : Hp} {Q : VK} {a d : Addr} {kvs : List (α × V)} {k : α} {y : V} (hd : DN P w K dS H d kvs) (hk : Dt K H (.ref a) (dS k)) (n : kvs.length ≤ 100000) (q1 : ∀ v, atN kvs k = some v → Q v H) (q2 : atN kvs k = none → ∀ H', Fr [d] H H' → Tu H H' → DN P w K dS H' d (putN kvs k y) → Q y H') : rSetdN P w K dS (.ref d) [.ref a, y] H Q := ⟨d, a, kvs, k, y, rfl, rfl, hd, hk, n, q1, q2⟩
/-! ### values -/
def valsO (p d : Addr) : HO := .ext fun h => h.IsValuesView p d
theorem valsO_ok {H : Hp} {h : Heap} {p d : Addr} (e : h.get? p = some { cls := .type "dict_values", data := .fields #[.ref d] }) : ObjOk P w H h p (valsO p d) :=
  ⟨⟨_, e, rfl, rfl⟩, ⟨_, e⟩, fun h1 h2 x k => let ⟨o, ho, r⟩ := x; ⟨o, k o ho, r⟩⟩
def rValsN (P : Program) (w : World) (K : PySem.W.Frag) (dS : α → PyData) : V → List V → Hp → VK → Prop := fun x vs H Q => ∃ (d : Addr) (kvs : List (α × V)), x = .ref d ∧ vs = [] ∧ DN P w K dS H d kvs ∧ ∀ p, H p = none → Q (.ref p) (upd H p (valsO p d))
theorem mt_valsN (D : KeyD dS) : MtR X "dict.values" (rValsN X.prog X.w X.K dS) := by
  intro pins s σ H x vs v us Q I rx rvs h
  obtain ⟨d, kvs, rfl, rfl, hd, q⟩ := h
  cases rx
  cases rvs
  obtain ⟨xs, ⟨o, es, ep, ho, hex, hda, _⟩, _, ns, _⟩ := hd.heap D I
  refine call_meetsIn F.slot_dict_values ⟨o, ho, hex.1⟩ F.entry_dict_values (F.args_dict_values_1 _) (meets_dict_values_raw d ns) ⟨⟨es, ep, o, ho, hex, hda⟩, ?_⟩
  have hp := I.fresh
  have hg : Heap.get? (Heap.push s.heap { cls := Value.type "dict_values", data := Data.fields #[Value.ref d] }) s.heap.objs.size = some { cls := Value.type "dict_values", data := Data.fields #[Value.ref d] } := Heap.get?_push_size _ rfl
  refine ⟨.ref _, _, I.laid (a := s.heap.objs.size) (o := valsO s.heap.objs.size d) (fun b u hb => ?_) (Nat.le_refl _) (valsO_ok hg), rfl, q _ hp⟩
  rw [Heap.get?_push_ne]
  · exact hb
  · rintro rfl
    exact get_size hb
/-- the turns over its values -/
def ItV (d : Addr) (o : Obj) (vs : List V) : It where
  go i H := H d = some (atO d o) ∧ i < vs.length
  yld i H x H' := H' = H ∧ vs[i]? = some x
  stop i H := H d = some (atO d o) ∧ i = vs.length
theorem turn_valsN {tg : Expr} {d it : Addr} {o : Obj} {es : Array DictEntry} {ep : Nat} {vs : List V} (hex : o.ExactDict) (hda : o.data = .dict es ep) (hk : Paired (fun (v : V) (e : DictEntry) => RelV v e.val) vs es.toList) :
    Turn P w K tg (ItV d o vs) [it] it fun i h => h.IsValIter it d i es.size ep where
  mem := by simp
  obj := fun i h st b hb => by
    have e : b = it := by simpa using hb
    subst e
    obtain ⟨oi, e, c, dd⟩ := st
    exact ⟨oi, e, fun v z => by rw [dd] at z; cases z⟩
  keep := fun i h h' st k => st.at fun oi e => k it (by simp) oi e
  item := by
    rintro X rfl rfl rfl hc i pins s σ H E I hf st ⟨hd, hi⟩
    obtain ⟨ho, _⟩ := I.hok d _ hd
    obtain ⟨f0, f1, f2, f3, f4, f5⟩ := hf it (by simp)
    have raw : Heap.DictRaw s.heap d es ep := ⟨o, ho, hex, hda⟩
    have sz : vs.length = es.size := by rw [Paired.len hk, Array.length_toList]
    have hi2 : i < es.size := by omega
    obtain ⟨v, hv, rv⟩ := Paired.get hk (i := i) (y := es[i]) (by rw [Array.getElem?_toList, Array.getElem?_eq_getElem hi2])
    refine wpAny_pyNext_values_item_raw st raw hi2 fun h' st' sb => ?_
    have I1 : Inv X pins σ H { s with heap := h' } := I.turned (t' := s.toks) (fun b ob hb e => (sb.2 b hb).trans e) f0 f1 f3 f4 f5
    obtain ⟨oi, e, c, dd⟩ := id st'
    exact ⟨es[i].val, rfl, go_of (s := { s with heap := h' }) e c dd (by decide) ⟨v, H, I1, rv, ⟨rfl, hv⟩, st', fun b hb => (hf b hb).1⟩⟩
  done := by
    rintro X rfl rfl rfl hc i pins s σ H E I hf st ⟨hd, hi⟩
    obtain ⟨ho, _⟩ := I.hok d _ hd
    obtain ⟨f0, f1, f2, f3, f4, f5⟩ := hf it (by simp)
    have raw : Heap.DictRaw s.heap d es ep := ⟨o, ho, hex, hda⟩
    have sz : vs.length = es.size := by rw [Paired.len hk, Array.length_toList]
    exact wpAny_pyNext_values_end_raw (I.ok.hd hc) st raw (by omega) fun h' eb => ⟨rfl, I.turned (t' := s.toks) (fun b ob hb e => eb b ob hb e) f0 f1 f3 f4 f5⟩
  self := fun A i s Q E st h => wpAny_pyIter_valiter st h
theorem walk_valsN {d : Addr} {o : Obj} {vs : List V} : Walk (ItV d o vs) vs.length (fun H => H d = some (atO d o)) (fun i H x H' => H' = H ∧ vs[i]? = some x) :=
  ⟨fun _ _ hi q => ⟨q, hi⟩, fun _ q => ⟨q, rfl⟩, fun _ _ _ _ _ _ y => y⟩
def VALS (P : Program) (w : World) (K : PySem.W.Frag) (dS : α → PyData) (R : It → Hp → Prop) (x : V) (H1 : Hp) : Prop := dictN P w K dS x H1 ∧ rValsN P w K dS x [] H1 fun v H' => ∃ (p d : Addr) (kvs : List (α × V)), v = .ref p ∧ H' p = some (valsO p d) ∧ DN P w K dS H' d kvs ∧
  ∀ H2 o, Fr [d] H' H2 → Tu H' H2 → H2 d = some (atO d o) → R (ItV d o (kvs.map (·.2))) H2
theorem VALS.of {R : It → Hp → Prop} {H1 : Hp} {d : Addr} {kvs : List (α × V)} (hd : DN P w K dS H1 d kvs) (k : ∀ H2 o, Fr [d] H1 H2 → Tu H1 H2 → H2 d = some (atO d o) → R (ItV d o (kvs.map (·.2))) H2) : VALS P w K dS R (.ref d) H1 :=
  ⟨⟨d, kvs, rfl, hd⟩, d, kvs, rfl, rfl, hd, fun p hp => ⟨p, d, kvs, rfl, upd_same, hd.fr0 (Fr.new hp), fun H2 o f t h1 => k H2 o (Fr.trans (Fr.new hp) f) ((Tu.new hp).trans t) h1⟩⟩
def iValsN (P : Program) (w : World) (K : PySem.W.Frag) (dS : α → PyData) (te : TE) : TI := fun σ H R => te σ H fun x H1 => VALS P w K dS R x H1
theorem w_iValsN {σ : L2.St} {H : Hp} {te : TE} {R : It → Hp → Prop} (q : te σ H fun x H1 => VALS P w K dS R x H1) : iValsN P w K dS te σ H R := q
theorem valsN_of {H : Hp} : ∀ {kvs : List (α × V)} {xs : List (NestedKey × Addr × Value)}, Paired (RkN K H dS) kvs xs → Paired (fun (v : V) (e : DictEntry) => RelV v e.val) (kvs.map (·.2)) (xs.map (entryOfKey (nestedKind P w)))
  | _, _, .nil => .nil
  | _, _, .cons r b => .cons r.2.2 (valsN_of b)
theorem pi_valsN {e tg : Expr} {te : TE} {apos cpos : Pos} (D : KeyD dS) (hP : X.prog = P) (hw : X.w = w) (hK : X.K = K) (he : PE X e te) (hb : attributeBase e "values" X.env (eval e X.env) = eval e X.env := by rfl) (hl : (apos.endLine == cpos.line) = true := by rfl) :
    PI X tg (.Call (.Attribute e "values" apos) [] [] cpos) (iValsN P w K dS te) := by
  subst hP hw hK
  have P1 : PE X (.Call (.Attribute e "values" apos) [] [] cpos) (tMG0 (dictN X.prog X.w X.K dS) (rValsN X.prog X.w X.K dS) te) := pe_mG0 (ty_N D) F.plainAttrs_dict F.slot_dict_values F.type_dict_values (mt_valsN D) he hb hl
  refine ⟨fun pins s σ H R I q => ?_⟩
  refine wpAny_mono (P1.run pins s σ H _ I q) ?_ fun _ _ z => z
  · rintro v s1 ⟨v', H1, I1, rv, p, d, kvs, rfl, hp, hd, k⟩
    cases rv
    have hv : Heap.IsValuesView s1.heap p d := (I1.hok p _ hp).1
    obtain ⟨xs, ⟨o, es, ep, ho, hex, hda, hl, hi, hn⟩, pr, ns, m⟩ := hd.heap D I1
    have raw : Heap.DictRaw s1.heap d es ep := ⟨o, ho, hex, hda⟩
    refine wpAny_pyIter_values_raw hv raw ?_
    have t := Tu.dn hd (atO d o)
    have I2 : Inv X pins σ (upd H1 d (atO d o)) { s1 with toks := s1.toks } := I1.write m (.inl rfl) (fun b u hb hu => hu) ⟨o, ho⟩ ⟨ho, ⟨o, ho⟩, fun h1 h2 e f => f _ e⟩
    have k2 := valsN_of (P := X.prog) (w := X.w) pr
    rw [← hl] at k2
    have hfr : (upd H1 d (atO d o)) s1.heap.objs.size = none := I2.fresh
    refine ⟨s1.heap.objs.size, [s1.heap.objs.size], _, ItV d o (kvs.map (·.2)), upd H1 d (atO d o), rfl, I2.turnedL (ch := []) (fun b u _ hb => ?_) (fun b hb => by simp at hb), turn_valsN (es := es) (ep := ep) hex hda k2, ⟨_, Heap.get?_push_size _ rfl, rfl, rfl⟩, fun b hb => ?_, k _ o (Fr.mut (by simp)) t upd_same⟩
    · rw [Heap.get?_push_ne]
      · exact hb
      · rintro rfl
        exact get_size hb
    · rw [List.mem_singleton.mp hb]
      exact I2.fpOk (Nat.le_refl _) hfr
end
end U

/-! plain tuples, dict(a tuple of pairs), dicts keyed by None, numbers, texts; sorted(a list), sorted(items) -/
namespace U
open PySem PySem.Spec PyProof.Rows L2
/-! ### tuples of which it is known that they bear nothing else -/
def tfz (us : List Value) : Obj := { cls := .type "tuple", data := .seq us.toArray }
def PTup (H : Hp) (a : Addr) (xs : List V) : Prop := ∃ us, H a = some (.frz (tfz us) (.tup xs))
theorem PTup.sq {K : PySem.W.Frag} {H : Hp} {a : Addr} {xs : List V} (h : PTup H a xs) : SqT K H a xs := by
  obtain ⟨us, e⟩ := h
  exact .inl (.inr ⟨_, e⟩)
theorem PTup.fr {S : List Addr} {H H' : Hp} {a : Addr} {xs : List V} (h : PTup H a xs) (f : Fr S H H') (n : a ∉ S) : PTup H' a xs := by
  obtain ⟨us, e⟩ := h
  exact ⟨us, f _ _ e n⟩
section
variable {X : Cx}
def MkTP (xs : List V) (Q : VK) : Hp → Prop := fun H => xs.length ≤ sizeLine ∧ ∀ (p : Addr) (us : List Value), H p = none → Q (.ref p) (upd H p (.frz (tfz us) (.tup xs)))
def tTupP (ta : TA) : TE := fun σ H Q => ta σ H fun xs H1 => MkTP xs Q H1
theorem pe_tupP {es : List Expr} {t : TA} {x1 : Nat} {pos : Pos} (h : PA X es t) : PE X (.Tuple es x1 pos) (tTupP t) := by
  refine ⟨fun pins s σ H Q I hq => ?_⟩
  refine wpAny_Tuple_spliced (thn (h.run pos pins s σ H _ I hq) fun us s1 ⟨xs, H1, I1, r, z, q⟩ => ⟨by rw [← r.length]; exact z, ?_⟩)
  have hf : H1 s1.heap.objs.size = none := I1.hok.fresh (Nat.le_refl _)
  refine ⟨.ref s1.heap.objs.size, upd H1 s1.heap.objs.size (.frz (tfz us) (.tup xs)), I1.laid (t' := s1.toks) (fun b u e => Heap.get?_push_of_some _ e) (Nat.le_refl _) ?_, rfl, q _ us hf⟩
  exact ⟨Heap.get?_push_size _ rfl, z, us, r, ⟨_, Heap.get?_push_size _ rfl, rfl, _, rfl⟩⟩
theorem w_tupP {σ : L2.St} {H : Hp} {ta : TA} {Q : VK} (q : ta σ H fun xs H1 => MkTP xs Q H1) : tTupP ta σ H Q := q
def rTupleP (K : PySem.W.Frag) : List V → Hp → VK → Prop := fun xs H Q => ∃ p ys, xs = [.ref p] ∧ SqL K H p ys ∧ ∀ (l : Addr) (us : List Value), H l = none → Q (.ref l) (upd H l (.frz (tfz us) (.tup ys)))
theorem call_tupleP : CallR X (.type "tuple") (rTupleP X.K) := by
  intro pins s σ H xs us Q I r h
  obtain ⟨p, ys, rfl, hq, q⟩ := h
  obtain ⟨u, rfl, rx⟩ := vals1 r
  cases rx
  obtain ⟨its, r', pl, hz⟩ := I.list hq
  have hlen := r'.length
  refine call_tuple_list pl.isList (fun h' kp => ?_) (by simp only [List.size_toArray] <;> omega)
  have I1 : Inv X pins σ H { s with heap := h' } := I.kept (t' := s.toks) kp
  have I2 : Inv X pins σ (upd H h'.objs.size (.frz (tfz its) (.tup ys))) { s with heap := h'.push { cls := .type "tuple", data := .seq its.toArray } } :=
    I1.laid (t' := s.toks) (fun b o e => Heap.get?_push_of_some _ e) (Nat.le_refl _) (show ObjOk X.prog X.w _ _ _ (.frz (tfz its) (.tup ys)) from ⟨Heap.get?_push_size _ rfl, hz, its, r', IsTup.new _ _⟩)
  exact ⟨.ref h'.objs.size, _, I2, rfl, q _ its (I1.hok.fresh (Nat.le_refl _))⟩
theorem call_tuplePU {K} (hK : X.K = K) : CallR X (.type "tuple") (rTupleP K) := by subst hK; exact call_tupleP
/-! ### dict(a tuple of pairs) -/
theorem pv_of {h : Heap} : ∀ {prs : List (Key × Value)} {ps : List Addr}, prs.length = ps.length → (∀ (j : Nat) (q : Key × Value), prs[j]? = some q → ∃ (b : Addr) (u : Value), ps[j]? = some b ∧ IsTup h b #[u, q.2] ∧ keyIs q.1 u = true) →
    ∃ pv : List (Value × Value), pv.length = prs.length ∧ ∀ (j : Nat) (k v : Value), pv[j]? = some (k, v) → ∃ (b : Addr) (q : Key × Value), ps[j]? = some b ∧ prs[j]? = some q ∧ v = q.2 ∧ IsTup h b #[k, v] ∧ keyIs q.1 k = true
  | [], [], _, _ => ⟨[], rfl, fun j k v h => by simp at h⟩
  | [], _ :: _, l, _ => by simp at l
  | _ :: _, [], l, _ => by simp at l
  | q :: prs, b :: ps, l, hp => by
    obtain ⟨pv, l2, h2⟩ := pv_of (prs := prs) (ps := ps) (by simpa using l) fun j q' e => by
      obtain ⟨b', u, e1, e2⟩ := hp (j + 1) q' (by simpa using e)
      exact ⟨b', u, by simpa using e1, e2⟩
    obtain ⟨b0, u, e1, e2, e3⟩ := hp 0 q rfl
    have : b = b0 := by simpa using e1
    subst this
    refine ⟨(u, q.2) :: pv, by rw [List.length_cons, List.length_cons, l2], fun j k v hj => ?_⟩
    cases j with
    | zero =>
      have hj : (u, q.2) = (k, v) := by simpa using hj
      cases hj
      exact ⟨b, q, rfl, rfl, rfl, e2, e3⟩
    | succ j =>
      obtain ⟨b', q', r1, r2, r3⟩ := h2 j k v (by simpa using hj)
      exact ⟨b', q', by simpa using r1, by simpa using r2, r3⟩
def rDictT (K : PySem.W.Frag) : List V → Hp → VK → Prop := fun xs H Q => ∃ (a : Addr) (ps : List Addr) (kvs : List (Key × V)), xs = [.ref a] ∧ PTup H a (ps.map V.ref) ∧ Paired (fun p kv => SqT K H p [kV kv.1, kv.2]) ps kvs ∧
    ∀ p, H p = none → Q (.ref p) (upd H p (.dK (mergeK [] kvs)))
theorem call_dictT (hcalm : X.calm = true) : CallR X (.type "dict") (rDictT X.K) := by
  intro pins s σ H xs us Q I r q
  obtain ⟨a, ps, kvs, ex, ⟨us0, hq⟩, hp, q⟩ := q
  subst ex
  obtain ⟨u, eu, rx⟩ := vals1 r
  subst eu
  cases rx
  obtain ⟨ho, hz, its, rv, ot, hot, hct, nt, hdt⟩ := (show ObjOk X.prog X.w H s.heap a (.frz (tfz us0) (.tup (ps.map V.ref))) from I.hok a _ hq)
  rw [ho] at hot
  cases hot
  have ei := refs_at rv
  subst ei
  rw [List.length_map] at hz
  obtain ⟨prs, rel, hl, hpr⟩ := pairs_of I hp
  have eits : us0.toArray = (ps.map Value.ref).toArray := by
    have z : Data.seq us0.toArray 0 = Data.seq (ps.map Value.ref).toArray nt := hdt
    injection z
  obtain ⟨pv, lpv, hpv⟩ := pv_of hl hpr
  have ok : PlainSeq "tuple" s.heap a (ps.map Value.ref).toArray ∧ PairItems s.heap (ps.map Value.ref).toArray (fun j => ps.getD j 0) pv := by
    refine ⟨⟨_, 0, ho, rfl, rfl, by rw [← eits]; rfl⟩, by rw [List.size_toArray, List.length_map]; omega, fun j k v hj => ?_⟩
    obtain ⟨b, q', e1, e2, e3, ⟨o, h1, h2, n, h3⟩, _⟩ := hpv j k v hj
    have gb : ps.getD j 0 = b := by rw [List.getD_eq_getElem?_getD, e1]; rfl
    refine ⟨?_, .inl ?_⟩
    · show (ps.map Value.ref).toArray[j]? = some (.ref (ps.getD j 0))
      rw [gb, List.getElem?_toArray, List.getElem?_map, e1]
      rfl
    · show s.heap.IsTuple (ps.getD j 0) #[k, v]
      rw [gb]
      exact ⟨o, h1, h2, n, h3⟩
  refine PySem.call_dict_pairs (knd := mixKind X.prog X.w) (kvs := prs) (PairArg.tuple (prog := X.prog) (w := X.w) a _ _ pv) (I.ok.hd hcalm) ok ⟨by omega, fun i key v hk => ?_⟩ (by rw [lpv, hl]; exact hz) fun h' tk hd' k => ?_
  · obtain ⟨b, q', e1, e2, e3, _, e5⟩ := hpv i key v hk
    exact ⟨q'.1, by rw [e2, e3], e5⟩
  · have hm : (s.heap.objs.size == sysModules) = false := beq_eq_false_iff_ne.mpr (Nat.ne_of_gt I.big)
    have hlen : (mergeK [] kvs).length ≤ sizeLine := by
      refine Nat.le_trans (length_mergeK kvs []) ?_
      rw [List.length_nil, Nat.zero_add, rel.length, hl]
      exact hz
    exact ⟨.ref s.heap.objs.size, upd H s.heap.objs.size (.dK (mergeK [] kvs)), I.laid (t' := tk) (fun b o e => k b o (by simp) e) (Nat.le_refl _) (show ObjOk X.prog X.w _ _ _ (.dK (mergeK [] kvs)) from ⟨hlen, hm, merged [] prs, KV.merge rel .nil, hd'⟩), rfl, q _ (I.hok.fresh (Nat.le_refl _))⟩
end
/-! ### sorted(a list of data) -/
section
variable {X : Cx}
theorem paired_isD {K : PySem.W.Frag} {H : Hp} : ∀ {vs : List V} {us : List Value} {ds : List PyData}, Vals vs us → DtAll K H vs ds → Paired (IsD K H id) us ds
  | _, _, _, .nil, .nil => .nil
  | _, _, _, .cons r t, .cons a b => .cons ⟨_, r, a⟩ (paired_isD t b)
theorem call_sortL (hu : X.A.units + 70 < cLine) : CallR X (.builtin "sorted") (rSortL X.K) := by
  intro pins s σ H xs us Q I rx h
  obtain ⟨l, ds, rfl, L, n, so, dp, q⟩ := h
  cases rx with
  | cons r t =>
  cases t
  cases r
  obtain ⟨vs, el, dl⟩ := L
  obtain ⟨its, rv, pl, hz⟩ := I.list (SqL.of el)
  have pe := paired_isD rv dl
  refine PySem.W.sorted_data (vs := its) (bs := ds) (enc := id) (R := IsD X.K H id) pl.isList (each_of pe) (each_of (Paired.imp (fun u b z => ?_) pe)) (by rw [List.map_id]; exact so.1) (by rw [List.map_id]; exact so.2) (Nat.le_trans n (by decide)) (fun b hb => ?_) fun out lo eo => ?_
  · obtain ⟨v, rv', d⟩ := z
    obtain ⟨as, r⟩ := Dp.reads I b v u d.dp rv'
    exact ⟨as, r⟩
  · have := dp b hb
    show X.A.units + 2 + b.depth < cLine
    omega
  · obtain ⟨ys, vy, dy⟩ := vals_of (of_each eo)
    obtain ⟨e, he⟩ := sortedAll_at s.heap its out.toArray
    have hp : H (s.heap.objs.size + 1) = none := HOk.fresh I.hok (Nat.le_succ _)
    rw [List.map_id] at dy
    refine ⟨.ref (s.heap.objs.size + 1), upd H (s.heap.objs.size + 1) (.lst ys), I.laid (t' := s.toks) (fun b o hb => sortedAll_old hb) (Nat.le_succ _) ⟨?_, out, e, vy, he⟩, rfl, q _ _ hp (Fr.new hp) ⟨ys, upd_same, dy.mono (Tu.new hp)⟩⟩
    have : ys.length = out.length := Paired.len vy
    rw [this, lo]
    exact Nat.le_trans n (by decide)
theorem call_sortLU {K} (hK : X.K = K) (hu : X.A.units + 70 < cLine) : CallR X (.builtin "sorted") (rSortL K) := by subst hK; exact call_sortL hu
theorem w_sortL {K} {H : Hp} {Q : VK} {l : Addr} {ds : List PyData} (L : Lq K H l ds) (n : ds.length ≤ 100000) (so : Sorty ds) (dp : ∀ d ∈ ds, d.depth ≤ 10) (q : ∀ p H', H p = none → Fr [] H H' → Lq K H' p (ds.mergeSort (PySem.W.dataLe false id)) → Q (.ref p) H') : rSortL K [.ref l] H Q := ⟨l, ds, rfl, L, n, so, dp, q⟩
end
/-! ### sorted(d.items()), d keyed by texts and numbers, its values numbers -/
section
variable {X : Cx} {pins : List (Addr × Obj)} {σ : L2.St} {H : Hp} {s : Shared}
/-- many new things at once -/
def plus (H G : Hp) : Hp := fun a => match G a with
  | some o => some o
  | none => H a
theorem plus_new {G : Hp} {a : Addr} {o : HO} (h : G a = some o) : plus H G a = some o := by unfold plus; rw [h]
theorem plus_old {G : Hp} {a : Addr} (h : G a = none) : plus H G a = H a := by unfold plus; rw [h]
theorem Inv.lays {G : Hp} {h' : Heap} {t' : Nat} (I : Inv X pins σ H s) (k : ∀ b u, s.heap.get? b = some u → h'.get? b = some u) (far : ∀ a o, G a = some o → s.heap.objs.size ≤ a) (new : ∀ a o, G a = some o → ObjOk X.prog X.w (plus H G) h' a o) :
    Inv X pins σ (plus H G) { s with heap := h', toks := t' } := by
  have gn : ∀ {b u}, s.heap.get? b = some u → G b = none := fun {b u} q => by
    cases e : G b with
    | none => rfl
    | some o => exact absurd (far b o e) (Nat.not_le_of_lt (get_lt q))
  have hn : ∀ {b o}, H b = some o → G b = none := fun {b o} q => by
    cases e : G b with
    | none => rfl
    | some o' =>
      have := HOk.fresh I.hok (far b o' e)
      rw [q] at this
      cases this
  refine I.un (t' := t') ⟨fun b u q _ _ _ => k b u q, fun b u q _ _ _ => ⟨u.slots, k b u q⟩, fun b u q n _ => by rw [plus_old (gn q)]; exact n, fun b u q _ => ⟨u, k b u q⟩, fun b xs q => by rw [plus_old (hn q)]; exact q, fun b u xs q => by rw [plus_old (hn q)]; exact q, fun b ps q => ⟨#[], by rw [plus_old (hn q), q]; simp⟩⟩ fun b u e => ?_
  cases eg : G b with
  | some o =>
    rw [plus_new eg] at e
    cases e
    exact new b _ eg
  | none =>
    rw [plus_old eg] at e
    exact (I.hok b u e).stay (fun c v _ q => k c v q) (fun c q => by rw [plus_old (hn q)]; exact q) fun c xs q => by rw [plus_old (hn q)]; exact q
def keyD : Key → PyData
  | .inl i => .int i
  | .inr x => .str x
def pairD (kv : Key × V) : PyData := .tuple [keyD kv.1, match kv.2 with | .int n => .int n | _ => .none]
def rItemsK : V → List V → Hp → VK → Prop := fun x xs H Q => ∃ (a : Addr) (kvs : List (Key × V)), x = .ref a ∧ xs = [] ∧ H a = some (.dK kvs) ∧ ∀ p, H p = none → Q (.ref p) (upd H p (DX.itemsO p a))
theorem mt_itemsK : MtR X "dict.items" rItemsK := by
  intro pins s σ H x xs v us Q I rx rxs h
  obtain ⟨a, kvs, rfl, rfl, ha, q⟩ := h
  cases rx
  cases rxs
  obtain ⟨z, hd, vs, rel, o, es, ep, ho, hx, hdat, _⟩ := dk_of I.hok ha
  refine DT.callItems (es := es) (ep := ep) hd ⟨o, ho, hx, hdat⟩ ?_
  have hf : H s.heap.objs.size = none := I.hok.fresh (Nat.le_refl _)
  exact ⟨.ref s.heap.objs.size, upd H s.heap.objs.size (DX.itemsO s.heap.objs.size a), I.laid (t' := s.toks) (fun b u e => Heap.get?_push_of_some _ e) (Nat.le_refl _) (DX.itemsO_ok (Heap.get?_push_size _ rfl)), rfl, q _ hf⟩
theorem at_es {P : Program} {w : World} : ∀ {es : List DictEntry} {vs : List (Key × Value)} {kvs : List (Key × V)}, Pairs (mixKind P w) es vs → KV kvs vs → ∀ {j : Nat} {e : DictEntry}, es[j]? = some e → ∃ kv, kvs[j]? = some kv ∧ RelV (kV kv.1) e.key ∧ RelV kv.2 e.val
  | _, _, _, .nil, _, j, e, h => by simp at h
  | _, _, _, .cons hk hv t, @Paired.cons _ _ _ kv _ _ _ r t2, 0, e, h => by
    cases (show _ = e by simpa using h)
    obtain ⟨r1, r2⟩ := r
    refine ⟨kv, rfl, ?_, ?_⟩
    · rw [r1]; exact relV_key hk
    · rw [hv]; exact r2
  | _, _, _, .cons hk hv t, .cons r t2, j + 1, e, h => by
    obtain ⟨kv, h1, h2⟩ := at_es t t2 (j := j) (e := e) (by simpa using h)
    exact ⟨kv, by simpa using h1, h2⟩
def AllInt (kvs : List (Key × V)) : Prop := ∀ kv ∈ kvs, ∃ n : Int, kv.2 = .int n
def rSortItK (K : PySem.W.Frag) : List V → Hp → VK → Prop := fun vs H Q => ∃ (p a : Addr) (kvs : List (Key × V)), vs = [.ref p] ∧ H p = some (DX.itemsO p a) ∧ H a = some (.dK kvs) ∧ kvs.length ≤ 100000 ∧ AllInt kvs ∧ Sorty (kvs.map pairD) ∧
  ∀ p' H', H p' = none → Fr [] H H' → Lq K H' p' ((kvs.map pairD).mergeSort (PySem.W.dataLe false id)) → Q (.ref p') H'
theorem call_sortItK (hc : X.calm = true) (hu : X.A.units + 70 < cLine) : CallR X (.builtin "sorted") (rSortItK X.K) := by
  intro pins s σ H xs us Q I r h
  obtain ⟨p, a, kvs, rfl, hp, ha, n, ai, so, q⟩ := h
  obtain rfl := Vals.ref1 r
  have view : s.heap.IsItemsView p a := (show ObjOk X.prog X.w H s.heap p (DX.itemsO p a) from I.hok p _ hp).1
  obtain ⟨z, hd, vs, rel, o, es, ep, ho, hx, hdat, hks, hpr, hn⟩ := dk_of I.hok ha
  have l1 : kvs.length = vs.length := Paired.length rel
  have l2 : es.size = vs.length := by rw [← Array.length_toList]; exact hpr.length
  refine DT.sortedI (es := es) (ep := ep) (I.ok.hd hc) view ⟨o, ho, hx, hdat⟩ (by omega) fun h' tk as hk hlt hl hG => ?_
  have I1 : Inv X pins σ H { s with heap := h', toks := tk } := I.kept (t' := tk) hk
  have nd : as.Nodup := List.Pairwise.imp (fun h => Nat.ne_of_lt h) hG.rise
  obtain ⟨H2, I2, gr, qt⟩ := DX.takeT (P := fun b vs => ∃ (j : Nat) (kv : Key × V), as[j]? = some b ∧ kvs[j]? = some kv ∧ vs = [kV kv.1, kv.2]) I as H I1 nd fun b hb => by
    obtain ⟨j, hj⟩ := List.mem_iff_getElem?.mp hb
    obtain ⟨e, he, hg⟩ := hG.pairs j b hj
    obtain ⟨kv, hkv, r1, r2⟩ := at_es hpr rel (j := j) (e := e) (by rw [Array.getElem?_toList]; exact he)
    have hbl : s.heap.objs.size ≤ b := Nat.le_of_lt (hG.above b hb)
    exact ⟨hbl, I.hok.fresh hbl, [kV kv.1, kv.2], ⟨j, kv, hj, hkv, rfl⟩, fun H3 => ⟨(by rw [sizeLine_eq]; show 2 ≤ 16777216; omega), [e.key, e.val], .cons r1 (.cons r2 .nil), ⟨_, hg, rfl, 0, rfl⟩⟩⟩
  refine sort_new (s := { s with heap := h', toks := tk }) (bs := kvs.map pairD) (enc := id) (us := as.map Value.ref) I2 (fun b o e => e) (Nat.le_refl _) (paired_at (by rw [List.length_map, List.length_map]; omega) fun i u d hu' hd' => ?_) (by rw [List.map_id]; exact so.1) (by rw [List.map_id]; exact so.2) (by rw [List.length_map]; exact n) (by show X.A.units + 1 + 65 < cLine; omega) (fun d hd' => ?_) fun p' s' H' hp' fr I' L => ?_
  · rw [List.getElem?_map] at hu' hd'
    obtain ⟨b, hb, rfl⟩ := Option.map_eq_some_iff.mp hu'
    obtain ⟨kv, hkv, rfl⟩ := Option.map_eq_some_iff.mp hd'
    obtain ⟨ws, ⟨j, kv', hj, hkv', rfl⟩, hH⟩ := qt b (List.mem_of_getElem? hb)
    have eij : i = j := (List.getElem?_inj (List.getElem?_eq_some_iff.mp hb).1 nd).mp (hb.trans hj.symm)
    subst eij
    rw [hkv] at hkv'
    cases hkv'
    refine ⟨.ref b, rfl, ?_⟩
    obtain ⟨m, hm⟩ := ai kv (List.mem_of_getElem? hkv)
    obtain ⟨k, v⟩ := kv
    cases hm
    refine Dt.tup (.inl (.inl hH)) (.cons ?_ (.cons (.int _) .nil))
    cases k with
    | inl i => exact .int i
    | inr x => exact .str x
  · obtain ⟨kv, hkv, rfl⟩ := List.mem_map.mp hd'
    obtain ⟨m, hm⟩ := ai kv hkv
    obtain ⟨k, v⟩ := kv
    cases hm
    cases k <;> simp [pairD, keyD, PyData.depth, PyData.depthAll]
  · rw [List.map_id] at L
    refine ⟨.ref p', H', I', rfl, q p' H' ?_ (fun b o e n' => fr b o (gr b o e) n') L⟩
    cases e : H p' with
    | none => rfl
    | some o =>
      rw [gr _ _ e] at hp'
      cases hp'
end
theorem call_sortItKU {X : Cx} {K} (hK : X.K = K) (hc : X.calm = true) (hu : X.A.units + 70 < cLine) : CallR X (.builtin "sorted") (rSortItK K) := by subst hK; exact call_sortItK hc hu
theorem call_dictTU {X : Cx} {K} (hK : X.K = K) (hcalm : X.calm = true) : CallR X (.type "dict") (rDictT K) := by subst hK; exact call_dictT hcalm
theorem ne_free {H : Hp} {a b : Addr} (h : H a ≠ none) (h' : H b = none) : a ≠ b := by
  rintro rfl
  exact h h'
theorem Fr.tuK {H H' : Hp} {d : Addr} {kvs : List (Key × V)} (f : Fr [d] H H') (h : H d = some (.dK kvs)) : Tu H H' := fun a ys =>
  ⟨fun e => f _ _ e (by rintro z; rw [List.mem_singleton.mp z, h] at e; cases e), fun o e => f _ _ e (by rintro z; rw [List.mem_singleton.mp z, h] at e; cases e)⟩
/-! ### a dict's keys in a comprehension: the dict is held as it is -/
section
variable {X : Cx}
def tFrz (td : TE) : TE := fun σ H Q => td σ H fun x H1 => ∃ (d : Addr) (kvs : List (Key × V)), x = .ref d ∧ H1 d = some (.dK kvs) ∧ ∀ o, Q x (upd H1 d (.frz o (.dK kvs)))
theorem pe_frz {e : Expr} {td : TE} (h : PE X e td) : PE X e (tFrz td) := by
  refine ⟨fun pins s σ H Q I hq => ?_⟩
  refine thn (h.run pins s σ H _ I hq) fun u s1 ⟨x, H1, I1, rx, d, kvs, ex, hd, q⟩ => ?_
  obtain ⟨od, I2⟩ := I1.lock hd True.intro
  exact ⟨x, _, I2, rx, q od⟩
theorem w_frz {σ : L2.St} {H : Hp} {td : TE} {Q : VK} (q : td σ H fun x H1 => ∃ (d : Addr) (kvs : List (Key × V)), x = .ref d ∧ H1 d = some (.dK kvs) ∧ ∀ o, Q x (upd H1 d (.frz o (.dK kvs)))) : tFrz td σ H Q := q
theorem LCX_K {K : PySem.W.Frag} {d : Addr} {o : Obj} {H : Hp} {kvs : List (Key × V)} {ws : List Nat} {σ : L2.St} {tg : TG} {tt : TT} {te : TE} {Q : VK} (g : Key × V → PyData)
    (hd : H d = some (.frz o (.dK kvs))) (lc : kvs.length ≤ 100000)
    (hs : ∀ (kv : Key × V) (H' : Hp) (KEEP : VK) (DROP : Hp → Prop), kv ∈ kvs → Fr [] H H' → (∀ y H4, Fr [] H' H4 → Dt K H4 y (g kv) → KEEP y H4) →
      tg (kV kv.1) (wipe σ ws) H' fun σ2 H2 => wipe σ2 ws = wipe σ ws ∧ tt σ2 H2 fun k H3 => if k = true then te σ2 H3 KEEP else DROP H3)
    (k : ∀ D H', H D = none → Fr [] H H' → Lq K H' D (kvs.map g) → Q (.ref D) H') :
    ∀ D, H D = none → LC (Itk d o kvs) tg tt te ws σ D Q (upd H D (.lst [])) := by
  intro D hD
  refine lc_it (walk_keys (d := d) (o := o) (kvs := kvs)) (fun i H' => Fr [] H H' ∧ Lq K H' D ((kvs.take i).map g)) ⟨Fr.new hD, [], upd_same, .nil⟩ (fun i H' _ h => h.1 _ _ hd (by simp)) ?_ ?_
  · rintro i x H0' H' hi ⟨f', ys, hys, dys⟩ ⟨rfl, kk, vv, hx, rfl⟩
    have hi' : i < kvs.length := (List.getElem?_eq_some_iff.mp hx).1
    have ly : ys.length ≤ i := by
      rw [dys.length, List.length_map, List.length_take]
      omega
    refine hs (kk, vv) _ _ _ (List.mem_of_getElem? hx) f' (fun y H4 f4 dy => ?_)
    have e3 := f4 _ _ hys (by simp)
    refine ⟨ys, e3, Nat.lt_of_le_of_lt (show ys.length ≤ 100000 by omega) (by decide), Fr.new_mut hD ((f'.trans f4).mono (by simp) |>.trans (Fr.mut (by simp))), _, upd_same, ?_⟩
    rw [List.take_add_one, hx, List.map_append]
    exact ((dys.mono f4.tu).append (.cons dy .nil)).mono (Tu.mut e3)
  · rintro H' ⟨f', L⟩
    rw [List.take_length] at L
    exact k D H' hD f' L
end
/-! ### dicts keyed by None, numbers, texts -/
def lfV : Leaf → V
  | .none => .non
  | .num i => .int i
  | .text x => .str x
theorem lf_is {P : Program} {w : World} {k : Leaf} {u : Value} (r : RelV (lfV k) u) : (leafKind P w).is k u = true := by
  cases k with
  | none =>
    cases (show u = Value.none from r)
    rfl
  | num i =>
    obtain ⟨t, e⟩ := (show ∃ t, u = Value.int i t from r)
    subst e
    exact decide_eq_true rfl
  | text x =>
    obtain ⟨t, e⟩ := (show ∃ t, u = Value.str x t from r)
    subst e
    show (x == x) = true
    simp
def LfO (P : Program) (w : World) (d : Addr) (kvs : List (Leaf × V)) : HO := .ext fun h => kvs.length ≤ sizeLine ∧ (d == sysModules) = false ∧ ∃ vs, KV kvs vs ∧ h.DictOf (leafKind P w) d vs
def DL (P : Program) (w : World) (H : Hp) (d : Addr) (kvs : List (Leaf × V)) : Prop := (kvs = [] ∧ H d = some (.dK [])) ∨ H d = some (LfO P w d kvs)
section
variable {X : Cx} {pins : List (Addr × Obj)} {σ : L2.St} {H : Hp} {s : Shared} {d : Addr} {kvs : List (Leaf × V)}
theorem DL.fr {P : Program} {w : World} {H H' : Hp} {S : List Addr} (h : DL P w H d kvs) (f : Fr S H H') (n : d ∉ S) : DL P w H' d kvs := by
  rcases h with ⟨e, h⟩ | h
  · exact .inl ⟨e, f _ _ h n⟩
  · exact .inr (f _ _ h n)
theorem DL.heap (I : Inv X pins σ H s) (h : DL X.prog X.w H d kvs) : kvs.length ≤ sizeLine ∧ (d == sysModules) = false ∧ (∃ vs, KV kvs vs ∧ s.heap.DictOf (leafKind X.prog X.w) d vs) ∧ Mut (H d) := by
  rcases h with ⟨rfl, e⟩ | e
  · obtain ⟨z, n, vs, rel, o, es, ep, ho, hx, hdat, hks, hpr, hn⟩ := dk_of I.hok e
    have rel' : KV ([] : List (Leaf × V)) ([] : List (Leaf × Value)) := .nil
    have ev : vs = [] := by
      have := KV.length rel
      exact List.eq_nil_of_length_eq_zero this.symm
    subst ev
    have ee : es.toList = [] := List.eq_nil_of_length_eq_zero hpr.length
    refine ⟨Nat.zero_le _, n, ⟨[], rel', o, es, ep, ho, hx, hdat, fun x hx' => ?_, by rw [ee]; exact .nil, .nil⟩, by rw [e]; exact True.intro⟩
    have : x ∈ es.toList := Array.mem_toList_iff.mpr hx'
    rw [ee] at this
    cases this
  · obtain ⟨z, n, k⟩ := (I.hok d _ e).1
    exact ⟨z, n, k, by rw [e]; exact True.intro⟩
theorem lfo_ok {P : Program} {w : World} {H : Hp} {h : Heap} (hz : kvs.length ≤ sizeLine) (hsm : (d == sysModules) = false) {vs : List (Leaf × Value)} (r : KV kvs vs) (x : h.DictOf (leafKind P w) d vs) : ObjOk P w H h d (LfO P w d kvs) := by
  refine ⟨⟨hz, hsm, vs, r, x⟩, ?_, fun h1 h2 q st => ?_⟩
  · obtain ⟨o, es, ep, ho, _⟩ := x
    exact ⟨o, ho⟩
  · obtain ⟨z1, z2, vs', r', o, es, ep, ho, x'⟩ := q
    exact ⟨z1, z2, vs', r', o, es, ep, st _ ho, x'⟩
def rIxL (P : Program) (w : World) : R2 := fun x y H Q => ∃ (d : Addr) (kvs : List (Leaf × V)) (k : Leaf) (v : V), x = .ref d ∧ y = lfV k ∧ DL P w H d kvs ∧ valV kvs k = some v ∧ Q v H
theorem ix_L : IxR X (rIxL X.prog X.w) := by
  intro value slice pins s σ H x y v u Q I rx ry h hs
  obtain ⟨d, kvs, k, z, rfl, rfl, hd, hv, q⟩ := h
  cases rx
  obtain ⟨_, ns, ⟨vs, rel, dd⟩, _⟩ := hd.heap I
  obtain ⟨o, es, ep, ho, hex, _⟩ := id dd
  obtain ⟨w', hw, rw'⟩ := RelO.some_of (v := z) (o := valueAt vs k) (by rw [← hv]; exact rel.val k)
  refine subscriptTail_builtinR (x := w') ⟨o, ho, hex.1⟩ F.slot_dict_getitem.lookup ?_ hs
  exact wpAny_getItem_of (lf_is ry) dd.mapOf hw ⟨rfl, _, H, I.tok _, rw', q⟩
theorem ix_LU {P : Program} {w : World} (hP : X.prog = P) (hw : X.w = w) : IxR X (rIxL P w) := by subst hP hw; exact ix_L
theorem w_ixLf {P : Program} {w : World} {H : Hp} {Q : VK} {y v : V} {k : Leaf} (hd : DL P w H d kvs) (ey : y = lfV k) (hv : valV kvs k = some v) (q : Q v H) : rIxL P w (.ref d) y H Q := ⟨d, kvs, k, v, rfl, ey, hd, hv, q⟩
def rGetL (P : Program) (w : World) : V → List V → Hp → VK → Prop := fun x vs H Q => ∃ (d : Addr) (kvs : List (Leaf × V)) (k : Leaf) (y z : V), x = .ref d ∧ vs = [y, z] ∧ y = lfV k ∧ DL P w H d kvs ∧ Q ((valV kvs k).getD z) H
theorem mt_getL : MtR X "dict.get" (rGetL X.prog X.w) := by
  intro pins s σ H x vs v us Q I rx rvs h
  obtain ⟨d, kvs, k, y, z, rfl, rfl, rfl, hd, q⟩ := h
  cases rx
  obtain ⟨u1, u2, rfl, r1, r2⟩ := vals2 rvs
  obtain ⟨_, ns, ⟨xs, rel, dd⟩, _⟩ := hd.heap I
  refine call_meetsIn F.slot_dict_get dd.typeIs F.entry_dict_get (F.args_dict_get_3 _ _ _) (meets_dict_get_default (leafKind X.prog X.w) d (lf_is r1) ns u2) ⟨_, dd.mapOf, ?_⟩
  have r := rel.val k
  cases e : valV kvs k with
  | none =>
    rw [e] at r q
    rw [RelO.none_of r]
    exact ⟨z, H, I.tok _, r2, q⟩
  | some v0 =>
    rw [e] at r q
    obtain ⟨w', hw, rw'⟩ := RelO.some_of r
    rw [hw]
    exact ⟨v0, H, I.tok _, rw', q⟩
theorem mt_getLU {P : Program} {w : World} (hP : X.prog = P) (hw : X.w = w) : MtR X "dict.get" (rGetL P w) := by subst hP hw; exact mt_getL
theorem w_getL {P : Program} {w : World} {H : Hp} {Q : VK} {y z : V} {k : Leaf} (hd : DL P w H d kvs) (ey : y = lfV k) (q : Q ((valV kvs k).getD z) H) : rGetL P w (.ref d) [y, z] H Q := ⟨d, kvs, k, y, z, rfl, rfl, ey, hd, q⟩
def rSetL (P : Program) (w : World) : TSet := fun o i v H Q => ∃ (d : Addr) (kvs : List (Leaf × V)) (k : Leaf), o = .ref d ∧ i = lfV k ∧ DL P w H d kvs ∧ kvs.length ≤ 100000 ∧ ∀ H', Fr [d] H H' → Tu H H' → DL P w H' d (putK kvs k v) → Q H'
theorem DL.not_tup {P : Program} {w : World} (h : DL P w H d kvs) (o : HO) : Tu H (upd H d o) := fun a ys => by
  have n1 : ∀ ys, H d ≠ some (.tup ys) := fun ys e => by
    rcases h with ⟨_, h⟩ | h <;> rw [e] at h <;> cases h
  have n2 : ∀ o ys, H d ≠ some (.frz o (.tup ys)) := fun o ys e => by
    rcases h with ⟨_, h⟩ | h <;> rw [e] at h <;> cases h
  refine ⟨fun z => ?_, fun o' z => ?_⟩ <;>
  · rw [upd_ne (by
      rintro rfl
      first | exact n1 _ z | exact n2 _ _ z)]
    exact z
theorem set_L : PSet X (rSetL X.prog X.w) := by
  intro pins s σ H o i v ov iv u Q I ro ri rv h
  obtain ⟨d, kvs, k, rfl, rfl, hd, n, q⟩ := h
  cases ro
  obtain ⟨z, ns, ⟨vs, rel, dd⟩, m⟩ := hd.heap I
  refine wpAny_setItem_pairs (lf_is ri) dd (fun h' dd' sb => ?_) (by rw [← rel.length]; exact z)
  have rel' := rel.put k rv
  have hl : (putK kvs k v).length ≤ sizeLine := by
    have h1 : (putK kvs k v).length ≤ kvs.length + 1 := by
      unfold putK
      split
      · rw [List.length_map]; omega
      · rw [List.length_append]; exact Nat.le_refl _
    exact Nat.le_trans h1 (Nat.le_trans (show kvs.length + 1 ≤ 100001 by omega) (show 100001 ≤ sizeLine by decide))
  obtain ⟨o', es, ep, ho, hr⟩ := id dd'
  refine ⟨_, d_write I (ob := LfO X.prog X.w d (putK kvs k v)) m sb ⟨o', ho⟩ (lfo_ok hl ns rel' dd'), q _ (Fr.mut (by simp)) (hd.not_tup _) (.inr upd_same)⟩
theorem set_LU {P : Program} {w : World} (hP : X.prog = P) (hw : X.w = w) : PSet X (rSetL P w) := by subst hP hw; exact set_L
theorem w_setLf {P : Program} {w : World} {v y : V} {k : Leaf} {Q : Hp → Prop} (hd : DL P w H d kvs) (ey : y = lfV k) (n : kvs.length ≤ 100000) (q : ∀ H', Fr [d] H H' → Tu H H' → DL P w H' d (putK kvs k v) → Q H') : rSetL P w (.ref d) y v H Q := ⟨d, kvs, k, rfl, ey, hd, n, q⟩
def dictLf (P : Program) (w : World) : V → Hp → Prop := fun x H => ∃ (d : Addr) (kvs : List (Leaf × V)), x = .ref d ∧ DL P w H d kvs
theorem ty_L' : TyOk X "dict" (dictLf X.prog X.w) := by
  intro pins σ H s x v I rx h
  obtain ⟨d, kvs, rfl, hd⟩ := h
  cases rx
  obtain ⟨_, _, ⟨vs, _, o, es, ep, ho, hex, _⟩, _⟩ := hd.heap I
  refine ⟨⟨o, ho, hex.1⟩, fun a e => ?_⟩
  cases e
  exact ⟨o, ho, hex.2.1⟩
theorem ty_LU {P : Program} {w : World} (hP : X.prog = P) (hw : X.w = w) : TyOk X "dict" (dictLf P w) := by subst hP hw; exact ty_L'
theorem DL.dict {P : Program} {w : World} (hd : DL P w H d kvs) : dictLf P w (.ref d) H := ⟨d, kvs, rfl, hd⟩
end
end U

set_option maxHeartbeats 4000000

























namespace LW
open PySem PySem.Spec PyProof.Rows L2 U
def topS (i : Nat) : Stmt := PySem.Challenge.pw_viewwood_k19_parts_in_rows.main.body.getD i (.Pass ⟨0, 0, 0, 0⟩)
abbrev s_laid_over : Stmt := topS 1
abbrev N_laid_over : List Str := ["downs", "more", "found", "name", "number"]
abbrev p_laid_over : List Str := ["downs", "more"]
theorem sc_laid_over : FnScope N_laid_over p_laid_over (defScope s_laid_over) := ⟨rfl, rfl, rfl, by decide +kernel, rfl, by decide +kernel, by decide +kernel⟩
abbrev s_gather : Stmt := topS 2
abbrev N_gather : List Str := ["row", "spots", "downs", "found", "want", "here"]
abbrev p_gather : List Str := ["row", "spots", "downs", "found"]
theorem sc_gather : FnScope N_gather p_gather (defScope s_gather) := ⟨rfl, rfl, rfl, by decide +kernel, rfl, by decide +kernel, by decide +kernel⟩
abbrev s_parts_in : Stmt := topS 3
abbrev N_parts_in : List Str := ["row", "found"]
abbrev p_parts_in : List Str := ["row"]
theorem sc_parts_in : FnScope N_parts_in p_parts_in (defScope s_parts_in) := ⟨rfl, rfl, rfl, by decide +kernel, rfl, by decide +kernel, by decide +kernel⟩
abbrev s_law_tape : Stmt := topS 5
abbrev N_law_tape : List Str := ["_law_script"]
abbrev p_law_tape : List Str := ["_law_script"]
theorem sc_law_tape : FnScope N_law_tape p_law_tape (defScope s_law_tape) := ⟨rfl, rfl, rfl, by decide +kernel, rfl, by decide +kernel, by decide +kernel⟩
abbrev s_law_draw : Stmt := topS 6
abbrev N_law_draw : List Str := ["_law_tape_here", "_law_many", "_law_script", "_law_digit", "_law_cell", "_law_mixed"]
abbrev p_law_draw : List Str := ["_law_tape_here", "_law_many"]
theorem sc_law_draw : FnScope N_law_draw p_law_draw (defScope s_law_draw) := ⟨rfl, rfl, rfl, by decide +kernel, rfl, by decide +kernel, by decide +kernel⟩
abbrev s_law_names : Stmt := topS 7
abbrev N_law_names : List Str := ["_law_tape_here", "_law_many", "_law_pool", "_law_start", "_law_stride", "_law_k"]
abbrev p_law_names : List Str := ["_law_tape_here", "_law_many"]
theorem sc_law_names : FnScope N_law_names p_law_names (defScope s_law_names) := ⟨rfl, rfl, rfl, by decide +kernel, rfl, by decide +kernel, by decide +kernel⟩
abbrev s_law_number : Stmt := topS 8
abbrev N_law_number : List Str := ["_law_tape_here"]
abbrev p_law_number : List Str := ["_law_tape_here"]
theorem sc_law_number : FnScope N_law_number p_law_number (defScope s_law_number) := ⟨rfl, rfl, rfl, by decide +kernel, rfl, by decide +kernel, by decide +kernel⟩
abbrev s_law_over : Stmt := topS 9
abbrev N_law_over : List Str := ["_law_downs", "_law_more", "_law_found", "_law_name", "_law_number_here"]
abbrev p_law_over : List Str := ["_law_downs", "_law_more"]
theorem sc_law_over : FnScope N_law_over p_law_over (defScope s_law_over) := ⟨rfl, rfl, rfl, by decide +kernel, rfl, by decide +kernel, by decide +kernel⟩
abbrev s_law_parts : Stmt := topS 10
abbrev N_law_parts : List Str := ["_law_row", "_law_spots", "_law_downs", "_law_found", "_law_want", "_law_here"]
abbrev p_law_parts : List Str := ["_law_row", "_law_spots", "_law_downs"]
theorem sc_law_parts : FnScope N_law_parts p_law_parts (defScope s_law_parts) := ⟨rfl, rfl, rfl, by decide +kernel, rfl, by decide +kernel, by decide +kernel⟩
abbrev s_law_kind : Stmt := topS 11
abbrev N_law_kind : List Str := ["_law_thing", "_law_kinds", "_law_names_here", "_law_k"]
abbrev p_law_kind : List Str := ["_law_thing"]
theorem sc_law_kind : FnScope N_law_kind p_law_kind (defScope s_law_kind) := ⟨rfl, rfl, rfl, by decide +kernel, rfl, by decide +kernel, by decide +kernel⟩
abbrev s_law_alike : Stmt := topS 12
abbrev N_law_alike : List Str := ["_law_one", "_law_other", "_law_kind_here", "_law_k"]
abbrev p_law_alike : List Str := ["_law_one", "_law_other"]
theorem sc_law_alike : FnScope N_law_alike p_law_alike (defScope s_law_alike) := ⟨rfl, rfl, rfl, by decide +kernel, rfl, by decide +kernel, by decide +kernel⟩
abbrev s_law_numbered : Stmt := topS 13
abbrev N_law_numbered : List Str := ["_law_tape_here", "_law_names_here", "_law_name"]
abbrev p_law_numbered : List Str := ["_law_tape_here"]
theorem sc_law_numbered : FnScope N_law_numbered p_law_numbered (defScope s_law_numbered) := ⟨rfl, rfl, rfl, by decide +kernel, rfl, by decide +kernel, by decide +kernel⟩
abbrev s_law_wants : Stmt := topS 14
abbrev N_law_wants : List Str := ["_law_tape_here", "_law_deep", "_law_row", "_law_counts", "_law_k", "_law_key", "_law_spot", "_law_way", "_law_inner", "_law_name"]
abbrev p_law_wants : List Str := ["_law_tape_here", "_law_deep"]
theorem sc_law_wants : FnScope N_law_wants p_law_wants (defScope s_law_wants) := ⟨rfl, rfl, rfl, by decide +kernel, rfl, by decide +kernel, by decide +kernel⟩
abbrev s_law : Stmt := topS 15
abbrev N_law : List Str := ["_law_script", "_law_tape_here", "_law_rows", "_law_row", "_law_found"]
abbrev p_law : List Str := ["_law_script"]
theorem sc_law : FnScope N_law p_law (defScope s_law) := ⟨rfl, rfl, rfl, by decide +kernel, rfl, by decide +kernel, by decide +kernel⟩
/-- what the top has left -/
structure Env (K : PySem.W.Frag) (mg : Str → Option Value) : Prop where
  l_laid_over : Loc K mg "laid_over" p_laid_over s_laid_over
  l_gather : Loc K mg "gather" p_gather s_gather
  l_parts_in : Loc K mg "parts_in" p_parts_in s_parts_in
  l_law_tape : Loc K mg "_law_tape" p_law_tape s_law_tape
  l_law_draw : Loc K mg "_law_draw" p_law_draw s_law_draw
  l_law_names : Loc K mg "_law_names" p_law_names s_law_names
  l_law_number : Loc K mg "_law_number" p_law_number s_law_number
  l_law_over : Loc K mg "_law_over" p_law_over s_law_over
  l_law_parts : Loc K mg "_law_parts" p_law_parts s_law_parts
  l_law_kind : Loc K mg "_law_kind" p_law_kind s_law_kind
  l_law_alike : Loc K mg "_law_alike" p_law_alike s_law_alike
  l_law_numbered : Loc K mg "_law_numbered" p_law_numbered s_law_numbered
  l_law_wants : Loc K mg "_law_wants" p_law_wants s_law_wants
  l_law : Loc K mg "law" p_law s_law
  m_abs : mg "abs" = none
  m_all : mg "all" = none
  m_bool : mg "bool" = none
  m_dict : mg "dict" = none
  m_int : mg "int" = none
  m_isinstance : mg "isinstance" = none
  m_len : mg "len" = none
  m_list : mg "list" = none
  m_range : mg "range" = none
  m_sorted : mg "sorted" = none
  m_str : mg "str" = none
  m_tuple : mg "tuple" = none
local macro_rules | `(tactic| walk_at "s") => `(tactic| first
  | ((with_reducible refine' w_var ?h ?q); (case h => exact rfl))
  | (with_reducible refine' w_c ?_)
  | (with_reducible refine' w_name ?_)
  | (with_reducible refine' w_op ?_)
  | (with_reducible refine' w_nil ?_)
  | (with_reducible refine' w_cons ?_)
  | (with_reducible refine' w_seq ?_)
  | (with_reducible refine' w_asg ?_)
  | (with_reducible refine' w_ret ?_)
  | (with_reducible refine' w_ifS ?_)
  | (with_reducible refine' w_call ?_)
  | (with_reducible refine' w_cb ?_)
  | (with_reducible refine' w_test ?_)
  | (with_reducible refine' w_B ?_)
  | (with_reducible refine' w_addI ?_)
  | (with_reducible refine' w_rI0 ?_)
  | (with_reducible refine' w_eqI ?_)
  | (with_reducible refine' w_eqS ?_)
  | (with_reducible refine' w_eqB ?_)
  | (with_reducible refine' w_neI ?_)
  | (with_reducible refine' w_neS ?_)
  | (with_reducible refine' w_neB ?_)
  | (with_reducible refine' w_bl ?_)
  | (with_reducible refine' w_and ?_)
  | (with_reducible refine' w_or ?_)
  | (with_reducible refine' w_not ?_)
  | (with_reducible refine' w_andV ?_)
  | (with_reducible refine' w_orV ?_)
  | (with_reducible refine' w_notV ?_)
  | (with_reducible refine' w_if ?_)
  | (with_reducible refine' w_isN ?_)
  | (with_reducible refine' w_notN ?_)
  | (with_reducible refine' w_tup ?_)
  | (with_reducible refine' w_lst ?_)
  | (with_reducible refine' w_un ?_)
  | (with_reducible refine' w_rU ?_)
  | (with_reducible refine' w_chain ?_)
  | (with_reducible refine' w_retN ?_)
  | (with_reducible refine' w_drop ?_)
  | (with_reducible refine' w_next ?_)
  | (with_reducible refine' w_sub' ?_)
  | (with_reducible refine' w_for ?_)
  | (with_reducible refine' w_sl ?_)
  | (with_reducible refine' w_part ?_)
  | (with_reducible refine' w_partI ?_)
  | (with_reducible refine' w_nopart ?_)
  | (with_reducible refine' w_bm ?_)
  | (with_reducible refine' w_bm0 ?_)
  | (with_reducible refine' w_lc ?_)
  | ((with_reducible refine' w_wipe ?h ?q); (case h => exact rfl))
  | (with_reducible refine' w_yes ?_)
  | (with_reducible refine' w_N ?_)
  | (with_reducible refine' w_gcons ?_)
  | (with_reducible refine' w_gnil ?_)
  | (with_reducible refine' w_isB ?_)
  | (with_reducible refine' w_nisB ?_)
  | (with_reducible refine' w_iRev ?_)
  | (with_reducible refine' w_iEnum ?_)
  | (with_reducible refine' w_iR1 ?_)
  | (with_reducible refine' w_max ?_)
  | (with_reducible refine' w_min ?_)
  | (with_reducible refine' w_abs ?_)
  | (with_reducible refine' w_intI ?_)
  | (with_reducible refine' w_intB ?_)
  | (with_reducible refine' w_pow9 ?_)
  | (with_reducible refine' w_pow18 ?_)
  | (with_reducible refine' w_pow6 ?_)
  | (with_reducible refine' w_pow59 ?_)
  | (with_reducible refine' w_iR2 ?_)
  | (with_reducible refine' w_iL ?_)
  | (with_reducible refine' w_iT ?_)
  | (with_reducible refine' is_non_int ?_)
  | (with_reducible refine' is_non_bool ?_)
  | (with_reducible refine' is_non_str ?_)
  | (with_reducible refine' is_non_tuple ?_)
  | (with_reducible refine' is_non_list ?_)
  | (with_reducible refine' is_non_dict ?_)
  | (with_reducible refine' is_bl_int ?_)
  | (with_reducible refine' is_bl_bool ?_)
  | (with_reducible refine' is_bl_str ?_)
  | (with_reducible refine' is_bl_tuple ?_)
  | (with_reducible refine' is_bl_list ?_)
  | (with_reducible refine' is_bl_dict ?_)
  | (with_reducible refine' is_int_int ?_)
  | (with_reducible refine' is_int_bool ?_)
  | (with_reducible refine' is_int_str ?_)
  | (with_reducible refine' is_int_tuple ?_)
  | (with_reducible refine' is_int_list ?_)
  | (with_reducible refine' is_int_dict ?_)
  | (with_reducible refine' is_str_int ?_)
  | (with_reducible refine' is_str_bool ?_)
  | (with_reducible refine' is_str_str ?_)
  | (with_reducible refine' is_str_tuple ?_)
  | (with_reducible refine' is_str_list ?_)
  | (with_reducible refine' is_str_dict ?_)
  | (with_reducible refine' w_inSign ?_)
  | (with_reducible refine' w_ninSign ?_)
  | (with_reducible refine' w_mG ?_)
  | (with_reducible refine' w_dget ?_)
  | (with_reducible refine' w_iZip ?_)
  | (with_reducible refine' w_iItemsN ?_)
  | (with_reducible refine' w_iValsN ?_)
  | (with_reducible refine' w_dnew ?_)
  | (with_reducible refine' w_iS ?_)
  | (with_reducible refine' w_iRevR ?_)
  | (with_reducible refine' iteT ?_)
  | (with_reducible refine' iteF ?_)
  | (with_reducible refine' iteNT ?_)
  | (with_reducible refine' iteNF ?_))
local macro_rules | `(tactic| walk_at "go") => `(tactic| repeat walk_at "s")

/-! ### the law's own draws: nothing is known of a number drawn but its bounds -/
/-- a tape: script, count, rest, place; all that stood at first stands -/
def Tape (K : PySem.W.Frag) (H0 H : Hp) (t : Addr) : Prop := (∃ (a : Addr) (ns : List Int) (n d p : Int), H t = some (.lst [.ref a, .int n, .int d, .int p]) ∧ SqL K H0 a (ns.map V.int) ∧ 0 ≤ p) ∧ Fr [] H0 H ∧ H0 t = none
section
variable {K : PySem.W.Frag} {H0 H H' : Hp} {t q : Addr}
theorem Tape.fr (T : Tape K H0 H t) (e : Fr [] H H') : Tape K H0 H' t := by
  obtain ⟨⟨a, ns, n, d, p, h1, h2, h3⟩, h4, h5⟩ := T
  exact ⟨⟨a, ns, n, d, p, e _ _ h1 (by simp), h2, h3⟩, h4.trans e, h5⟩
theorem Tape.new (T : Tape K H0 H t) {o : HO} (h : H q = none) : Tape K H0 (upd H q o) t := T.fr (Fr.new h)
theorem Tape.ne (T : Tape K H0 H t) (h : H q = none) : q ≠ t := by
  rintro rfl
  obtain ⟨⟨_, _, _, _, _, e, _⟩, _⟩ := T
  rw [h] at e
  cases e
theorem Tape.no (T : Tape K H0 H t) (h : H q = none) : H0 q = none := T.2.1.free h
/-- what is new changes -/
theorem Tape.mut (T : Tape K H0 H t) {o : HO} (nq : q ≠ t) (n0 : H0 q = none) : Tape K H0 (upd H q o) t := by
  obtain ⟨⟨a, zs, n, d, p, h1, h2, h4⟩, f, h5⟩ := T
  refine ⟨⟨a, zs, n, d, p, ?_, h2, h4⟩, fun b u e z => ?_, h5⟩
  · rw [upd_ne nq.symm]; exact h1
  · rw [upd_ne (by rintro rfl; rw [n0] at e; cases e)]
    exact f b u e z
theorem Tape.fr1 (T : Tape K H0 H t) (e : Fr [q] H H') (nq : q ≠ t) (n0 : H0 q = none) : Tape K H0 H' t := by
  obtain ⟨⟨a, zs, n, d, p, h1, h2, h4⟩, f, h5⟩ := T
  exact ⟨⟨a, zs, n, d, p, e _ _ h1 (by simpa using nq.symm), h2, h4⟩, Fr.drop1 n0 f e, h5⟩
theorem Tape.free1 (T : Tape K H0 H t) (f : Fr [t] H H') (h : H' q = none) (nq : q ≠ t) : H q = none := by
  cases e : H q with
  | none => rfl
  | some o =>
    have z := f q o e (by simpa using nq)
    rw [h] at z
    cases z
theorem Tape.tu (T : Tape K H0 H t) (f : Fr [t] H H') : Tu H H' := by
  obtain ⟨⟨a, zs, n, d, p, h1, _⟩, _⟩ := T
  exact f.tu1 h1
end
def sp_law_tape (K : PySem.W.Frag) : Sp := fun vs H Q _ => ∃ (a : Addr) (ns : List Int), vs = [.ref a] ∧ SqL K H a (ns.map V.int) ∧ ∀ t H', H t = none → Fr [] H H' → Tape K H H' t → Q (.ref t) H'
def sp_law_draw (K : PySem.W.Frag) : Sp := fun vs H Q _ => ∃ (t : Addr) (m : Int) (H0 : Hp), vs = [.ref t, .int m] ∧ Tape K H0 H t ∧ 0 < m ∧ m < 2 ^ 64 ∧ ∀ r H', 0 ≤ r → r < m → Fr [t] H H' → Tape K H0 H' t → Q (.int r) H'
section
variable {P : Program} {w : World} {K : PySem.W.Frag} {mg : Str → Option Value} {base : Heap}
theorem ok_law_tape (T : Env K mg) : Fx P w K mg base 1 "_law_tape" p_law_tape (sp_law_tape K) := by
  refine T.l_law_tape.ok sc_law_tape (fun vs H Q E h => ?_) (fun f cdv A outer s H vs Q E hr h => ?_)
  · obtain ⟨a, ns, rfl, _⟩ := h
    rfl
  · obtain ⟨a, ns, rfl, hS, k⟩ := h
    refine ⟨_, (pss_one (ps_ret (pe_lst (pa_cons (pv 0) (pa_cons pe_int (pa_cons pe_int (pa_cons pe_int pa_nil))))))), ?_⟩
    walk_at "go"
    refine ⟨by show 4 ≤ sizeLine; decide, fun t ht => ?_⟩
    exact k t _ ht (Fr.new ht) ⟨⟨a, ns, 0, 0, 0, upd_same, hS, Int.le_refl 0⟩, Fr.new ht, ht⟩
theorem ok_law_draw (T : Env K mg) : Fx P w K mg base 1 "_law_draw" p_law_draw (sp_law_draw K) := by
  refine T.l_law_draw.ok sc_law_draw (fun vs H Q E h => ?_) (fun f cdv A outer s H vs Q E hr h => ?_)
  · obtain ⟨t, m, _, rfl, _⟩ := h
    rfl
  · obtain ⟨t, m, H0, rfl, hT, m0, m64, k⟩ := h
    obtain ⟨⟨a, ns, n, d, p, ht, hS0, hp⟩, f0, n0⟩ := hT
    have hS : SqL K H a (ns.map V.int) := f0.seqL hS0 (by simp)
    have keep : ∀ H', Fr [t] H H' → Fr [] H0 H' := fun H' f b o e _ => f b o (f0 b o e (by simp)) (by
      intro z
      rw [List.mem_singleton.mp z, n0] at e
      cases e)
    refine ⟨_, (pss_cons (ps_set (i := 2) sc_law_draw.nd rfl (Or.inl rfl) (pe_ix (ix_U (K := K) rfl) (pv 0) pe_int (fun _ _ => rfl)))
      (pss_cons (ps_asg (pe_op (op_addU (K := K) rfl) (pe_ix (ix_U (K := K) rfl) (pv 0) pe_int (fun _ _ => rfl)) pe_int) (pg_sub (pv 0) pe_int set_list))
      (C8.pss_cut (ps_if (PW.pt (pw_and (pt_cmpR (op_eqU (K := K) rfl (u64 hr)) (pe_ix (ix_U (K := K) rfl) (pv 0) pe_int (fun _ _ => rfl)) pe_int (nomark _)) (pw_and1 (pt_cmpR op_lt (pe_ix (ix_U (K := K) rfl) (pv 0) pe_int (fun _ _ => rfl)) (pe_callB (call_lenU (K := K) rfl) (by rfl) T.m_len (by decide +kernel) (pa_cons (pv 2) pa_nil)) (nomark _))))) (pss_cons (ps_asg (pe_op op_fdivW (pe_callB call_absU (by rfl) T.m_abs (by decide +kernel) (pa_cons (pe_ix (ix_U (K := K) rfl) (pv 2) (pe_ix (ix_U (K := K) rfl) (pv 0) pe_int (fun _ _ => rfl)) (fun _ _ => rfl)) pa_nil)) (pe_op op_pow pe_int pe_int)) (pg_sub (pv 0) pe_int set_list))
      (pss_one (ps_asg (pe_op (op_addU (K := K) rfl) (pe_ix (ix_U (K := K) rfl) (pv 0) pe_int (fun _ _ => rfl)) pe_int) (pg_sub (pv 0) pe_int set_list)))) pss_nil)
      (pss_cons (ps_if (pt_cmpR op_gt (pe_ix (ix_U (K := K) rfl) (pv 0) pe_int (fun _ _ => rfl)) pe_int (nomark _)) (pss_cons (ps_set (i := 3) sc_law_draw.nd rfl (Or.inl rfl) (pe_op op_mod (pe_ix (ix_U (K := K) rfl) (pv 0) pe_int (fun _ _ => rfl)) (pv 1)))
      (pss_cons (ps_asg (pe_op op_fdivW (pe_ix (ix_U (K := K) rfl) (pv 0) pe_int (fun _ _ => rfl)) (pv 1)) (pg_sub (pv 0) pe_int set_list))
      (pss_one (ps_ret (pv 3))))) pss_nil)
      (pss_cons (ps_set (i := 4) sc_law_draw.nd rfl (Or.inl rfl) pe_int)
      (C8.pss_cut (ps_if (pt_cmpR op_gt (pe_callB (call_lenU (K := K) rfl) (by rfl) T.m_len (by decide +kernel) (pa_cons (pv 2) pa_nil)) pe_int (nomark _)) (pss_one (ps_set (i := 4) sc_law_draw.nd rfl (Or.inl rfl) (pe_ix (ix_U (K := K) rfl) (pv 2) (pe_op op_mod (pe_ix (ix_U (K := K) rfl) (pv 0) pe_int (fun _ _ => rfl)) (pe_callB (call_lenU (K := K) rfl) (by rfl) T.m_len (by decide +kernel) (pa_cons (pv 2) pa_nil))) (fun _ _ => rfl)))) pss_nil)
      (pss_cons (ps_set (i := 5) sc_law_draw.nd rfl (Or.inl rfl) (pe_op op_mod (pe_op (op_addU (K := K) rfl) (pe_op (op_addU (K := K) rfl) (pe_op op_mulU (pe_op op_mod (pv 4) pe_int) pe_int) (pe_op op_mulU (pe_ix (ix_U (K := K) rfl) (pv 0) pe_int (fun _ _ => rfl)) pe_int)) pe_int) pe_int))
      (pss_cons (ps_set (i := 5) sc_law_draw.nd rfl (Or.inl rfl) (pe_op op_mod (pe_op op_mulU (pv 5) (pe_op (op_addU (K := K) rfl) (pv 5) pe_int)) pe_int))
      (pss_one (ps_ret (pe_op op_mod (pe_op op_mod (pe_op op_mulU (pv 5) pe_int) pe_int) (pv 1)))))))))))), ?_⟩
    walk_at "go"
    refine w_ixL (SqL.of ht) rfl ?_
    walk_at "go"
    refine w_ixL (SqL.of ht) rfl ?_
    walk_at "go"
    refine w_setL ht rfl ?_
    generalize hH1 : upd H t _ = H1
    have f1 : Fr [t] H H1 := by rw [← hH1]; exact Fr.mut (by simp)
    have t1 : H1 t = some (.lst [.ref a, .int (n + 1), .int d, .int p]) := by rw [← hH1]; exact upd_same
    refine w_cut (fun σ' H' => σ' = [some (.ref t), some (.int m), some (.ref a), none, none, none] ∧ Fr [t] H H' ∧ ∃ d p, H' t = some (.lst [.ref a, .int (n + 1), .int d, .int p]) ∧ 0 ≤ p) ?_ ?_
    · walk_at "go"
      refine w_ixL (SqL.of t1) rfl ?_
      walk_at "go"
      have end0 : ∀ d p, 0 ≤ p → ∀ H', Fr [t] H H' → H' t = some (.lst [.ref a, .int (n + 1), .int d, .int p]) → ([some (.ref t), some (.int m), some (.ref a), none, none, none] : L2.St) = [some (.ref t), some (.int m), some (.ref a), none, none, none] ∧ Fr [t] H H' ∧ ∃ d p, H' t = some (.lst [.ref a, .int (n + 1), .int d, .int p]) ∧ 0 ≤ p :=
        fun d p hp H' f e => ⟨rfl, f, d, p, e, hp⟩
      refine ite_d (fun h0 => ?_) (fun h0 => ?_)
      · walk_at "go"
        refine w_ixL (SqL.of t1) rfl ?_
        walk_at "go"
        have hS1 : SqL K H1 a (ns.map V.int) := (keep _ f1).seqL hS0 (by simp)
        refine w_lenL hS1 ?_
        walk_at "go"
        refine ite_d (fun h1 => ?_) (fun h1 => ?_)
        · rw [List.length_map] at h1
          obtain ⟨z, hz, _⟩ := at_int hp h1
          walk_at "go"
          refine w_ixL (SqL.of t1) rfl ?_
          walk_at "go"
          refine w_ixL hS1 hz ?_
          walk_at "go"
          refine w_rI ⟨by decide, by decide +kernel⟩ ?_
          walk_at "go"
          refine w_setL t1 rfl ?_
          walk_at "go"
          refine w_ixL (SqL.of upd_same) rfl ?_
          walk_at "go"
          refine w_setL upd_same rfl ?_
          refine end0 _ (p + 1) (by omega) _ ?_ upd_same
          exact (f1.trans (Fr.mut (by simp))).trans (Fr.mut (by simp))
        · walk_at "go"
          exact end0 d p hp H1 f1 t1
      · walk_at "go"
        exact end0 d p hp H1 f1 t1
    · rintro σ' H2 ⟨rfl, f2, d, p, t2, hp⟩
      have hS2 : SqL K H2 a (ns.map V.int) := (keep _ f2).seqL hS0 (by simp)
      have fin : ∀ x, Q (.int (x % m)) H2 := fun x => k _ H2 (Int.emod_nonneg _ (by omega)) (Int.emod_lt_of_pos _ m0) f2 ⟨⟨a, ns, n + 1, d, p, t2, hS0, hp⟩, keep _ f2, n0⟩
      walk_at "go"
      refine w_ixL (SqL.of t2) rfl ?_
      walk_at "go"
      refine ite_d (fun h0 => ?_) (fun h0 => ?_)
      · walk_at "go"
        refine w_ixL (SqL.of t2) rfl ?_
        walk_at "go"
        refine w_rI m0 ?_
        walk_at "go"
        refine w_ixL (SqL.of t2) rfl ?_
        walk_at "go"
        refine w_rI (wide_div m0 (b := 64) (by omega) (by decide) (by decide)) ?_
        walk_at "go"
        refine w_setL t2 rfl ?_
        walk_at "go"
        have f3 : Fr [t] H (upd H2 t (.lst [.ref a, .int (n + 1), .int (d / m), .int p])) := f2.trans (Fr.mut (by simp))
        exact k _ _ (Int.emod_nonneg _ (by omega)) (Int.emod_lt_of_pos _ m0) f3 ⟨⟨a, ns, n + 1, d / m, p, upd_same, hS0, hp⟩, keep _ f3, n0⟩
      · walk_at "go"
        refine w_cut (fun σ' H' => H' = H2 ∧ ∃ z, σ' = [some (.ref t), some (.int m), some (.ref a), none, some (.int z), none]) ?_ ?_
        · walk_at "go"
          refine w_lenL hS2 ?_
          walk_at "go"
          refine ite_d (fun h1 => ?_) (fun h1 => ?_)
          · rw [List.length_map] at h1
            walk_at "go"
            refine w_ixL (SqL.of t2) rfl ?_
            walk_at "go"
            refine w_lenL hS2 ?_
            rw [List.length_map]
            refine w_rI h1 ?_
            obtain ⟨z, hz, _⟩ := at_int (ns := ns) (p := (n + 1) % (ns.length : Int)) (Int.emod_nonneg _ (by omega)) (Int.emod_lt_of_pos _ h1)
            refine w_ixL hS2 hz ?_
            walk_at "go"
            exact ⟨rfl, z, rfl⟩
          · walk_at "go"
            exact ⟨rfl, 0, rfl⟩
        · rintro σ' H' ⟨rfl, z, rfl⟩
          walk_at "go"
          refine w_rI (by show (0 : Int) < 2147483647; decide) ?_
          refine w_mulI (.inr (by decide)) ?_
          walk_at "go"
          refine w_ixL (SqL.of t2) rfl ?_
          walk_at "go"
          refine w_mulI (.inr (by decide)) ?_
          walk_at "go"
          refine w_rI (by show (0 : Int) < 2147483629; decide) ?_
          walk_at "go"
          have b1 : ∀ y : Int, 0 ≤ y % 2147483629 ∧ y % 2147483629 < 2147483629 := fun y => ⟨Int.emod_nonneg _ (by decide), Int.emod_lt_of_pos _ (by decide)⟩
          generalize he : (_ : Int) % 2147483629 = e
          have b2 : 0 ≤ e ∧ e < 2147483629 := by rw [← he]; exact b1 _
          refine w_mulI (.inl (by constructor <;> omega)) ?_
          walk_at "go"
          refine w_rI (by show (0 : Int) < 2147483587; decide) ?_
          walk_at "go"
          refine w_mulI (.inr (by decide)) ?_
          walk_at "go"
          refine w_rI (by show (0 : Int) < 2147483563; decide) ?_
          walk_at "go"
          refine w_rI m0 ?_
          exact fin _
end

/-! ### comprehensions that draw -/
section
variable {K : PySem.W.Frag} {H0 H : Hp} {t : Addr}
theorem LC_tape {m : Int} {j : Nat} {ws : List Nat} {σ : L2.St} {te : TE} {Q : VK} (n : Nat) (P : PyData → Prop) (T : Tape K H0 H t) (hn : m.toNat = n) (h1 : -(2 ^ 62) ≤ m) (h2 : m < 2 ^ 62) (ln : n ≤ 100000)
    (hw : ∀ v, wipe ((wipe σ ws).set j (some v)) ws = wipe σ ws)
    (he : ∀ (i : Nat) H', i < n → Tape K H0 H' t → Fr [t] H H' → ∀ Q : VK, (∀ y d H2, Fr [t] H' H2 → Tape K H0 H2 t → Dt K H2 y d → P d → Q y H2) → te ((wipe σ ws).set j (some (.int i))) H' Q)
    (k : ∀ D H' ds, H D = none → Fr [t] H H' → Tape K H0 H' t → Lq K H' D ds → ds.length = n → (∀ d ∈ ds, P d) → Q (.ref D) H') :
    ∃ j' : Int, [V.int m] = [.int j'] ∧ -(2 ^ 62) ≤ j' ∧ j' < 2 ^ 62 ∧ ∀ D, H D = none → LC (Itr 0 j'.toNat) (gName j) tYes te ws σ D Q (upd H D (.lst [])) := by
  refine LC_R1 n hn h1 h2 fun D hD => ⟨fun i H' => Fr [t] H H' ∧ Tape K H0 H' t ∧ ∃ ds, Lq K H' D ds ∧ ds.length = i ∧ ∀ d ∈ ds, P d, ⟨Fr.new hD, T.new hD, [], ⟨[], upd_same, .nil⟩, rfl, by simp⟩, ?_, ?_⟩
  · rintro i H' hi ⟨f', T', ds, L, ld, pd⟩
    refine ⟨hw _, ?_⟩
    refine w_yes (iteT ?_)
    have nD := T.ne hD
    refine he i H' hi T' f' _ fun y d H2 f2 T2 dy py => ?_
    have L2' := L.fr f2 (by simpa using nD) (T'.tu f2)
    obtain ⟨ys, hys, dys⟩ := L2'
    refine ⟨ys, hys, Nat.lt_of_le_of_lt (show ys.length ≤ 100000 by rw [dys.length]; omega) (by decide), Fr.drop1 hD (f'.trans f2) (Fr.mut (by simp)), T2.mut nD (T.no hD), ds ++ [d], ⟨_, upd_same, (dys.append (.cons dy .nil)).mono (Tu.mut hys)⟩, by simp [ld], ?_⟩
    intro z hz
    rcases List.mem_append.mp hz with a | a
    · exact pd z a
    · rw [List.mem_singleton.mp a]; exact py
  · rintro H' ⟨f', T', ds, L, ld, pd⟩
    exact k D H' ds hD f' T' L ld pd
theorem _root_.U.Fr.free1' {H H' : Hp} {t a : Addr} (f : Fr [t] H H') (h : H' a = none) (n : a ≠ t) : H a = none := by
  cases e : H a with
  | none => rfl
  | some o =>
    have z := f a o e (by simpa using n)
    rw [h] at z
    cases z
end

def Good (n : Nat) (d : PyData) : Prop := d.canLay0 = true ∧ d.depth ≤ n
theorem u70 {A : Around} {k : Nat} (hr : Room k A) : A.units + 70 < cLine := by have := hr.un; omega
/-- plain data, n deep -/
def pl : Nat → PyData → Bool
  | 0, _ => false
  | _ + 1, .none => true
  | _ + 1, .bool _ => true
  | _ + 1, .int _ => true
  | _ + 1, .str _ => true
  | n + 1, .tuple ds => decide (ds.length ≤ 100000) && ds.all (pl n)
  | n + 1, .list ds => decide (ds.length ≤ 100000) && ds.all (pl n)
  | _ + 1, _ => false

/-! ### the law's own walk over two things of one worth: kinds and worth are alike -/
section
variable {P : Program} {w : World} {K : PySem.W.Frag} {mg : Str → Option Value} {base : Heap}
def knd : PyData → Str
  | .none => "none"
  | .bool _ => "truth"
  | .int _ => "number"
  | .str _ => "text"
  | .tuple _ => "tuple"
  | .list _ => "list"
  | _ => "other"
def sp_law_kind (K : PySem.W.Frag) : Sp := fun vs H Q _ => ∃ (v : V) (d : PyData), vs = [v] ∧ pl 1000 d = true ∧ Dg K H v d ∧ ∀ H', Fr [] H H' → Q (.str (knd d)) H'
/-- of four kinds the one at j: the names of those that hold -/
def upto (j i : Nat) : List PyData := if i ≤ j then [] else [.str (["number", "text", "tuple", "list"].getD j "")]
theorem ok_law_kind (T : Env K mg) : Fx P w K mg base 1 "_law_kind" p_law_kind (sp_law_kind K) := by
  refine T.l_law_kind.ok sc_law_kind (fun vs H Q E h => ?_) (fun f cdv A outer s H vs Q E hr h => ?_)
  · obtain ⟨v, d, rfl, _⟩ := h
    rfl
  · obtain ⟨v, d, rfl, pd, dv, k⟩ := h
    refine ⟨_, (pss_cons (ps_if (pt_cmp (pc_isN (pv 0))) (pss_one (ps_ret pe_str)) pss_nil)
      (pss_cons (ps_if (pt_val (pe_callB (call_isiU (K := K) rfl) (by rfl) T.m_isinstance (by decide +kernel) (pa_cons (pv 0) (pa_cons (pe_bltn (v := .ty "bool") (u := .type "bool") rfl T.m_bool (by decide +kernel) rfl) pa_nil)))) (pss_one (ps_ret pe_str)) pss_nil)
      (pss_cons (ps_set (i := 1) sc_law_kind.nd rfl (Or.inr rfl) (pe_lst (pa_cons (pe_callB (call_isiU (K := K) rfl) (by rfl) T.m_isinstance (by decide +kernel) (pa_cons (pv 0) (pa_cons (pe_bltn (v := .ty "int") (u := .type "int") rfl T.m_int (by decide +kernel) rfl) pa_nil))) (pa_cons (pe_callB (call_isiU (K := K) rfl) (by rfl) T.m_isinstance (by decide +kernel) (pa_cons (pv 0) (pa_cons (pe_bltn (v := .ty "str") (u := .type "str") rfl T.m_str (by decide +kernel) rfl) pa_nil))) (pa_cons (pe_callB (call_isiU (K := K) rfl) (by rfl) T.m_isinstance (by decide +kernel) (pa_cons (pv 0) (pa_cons (pe_bltn (v := .ty "tuple") (u := .type "tuple") rfl T.m_tuple (by decide +kernel) rfl) pa_nil))) (pa_cons (pe_callB (call_isiU (K := K) rfl) (by rfl) T.m_isinstance (by decide +kernel) (pa_cons (pv 0) (pa_cons (pe_bltn (v := .ty "list") (u := .type "list") rfl T.m_list (by decide +kernel) rfl) pa_nil))) pa_nil))))))
      (pss_cons (ps_set (i := 2) sc_law_kind.nd rfl (Or.inr rfl) (pe_lst (pa_cons pe_str (pa_cons pe_str (pa_cons pe_str (pa_cons pe_str pa_nil))))))
      (pss_one (ps_ret (pe_ix (ix_U (K := K) rfl) (pe_op (op_addU (K := K) rfl) (pe_lc (own := [("_law_k", 3)]) (g := (gName 3)) rfl sc_law_kind.nd (pi_range1 rfl T.m_range (pa_cons pe_int pa_nil)) (blkOk_by (N := N_law_kind) (sc := defScope s_law_kind) (by decide +kernel)) (fun _ _ _ _ _ => (pg_name (i := 3) sc_law_kind.nd rfl (Or.inl rfl))) (fun _ _ _ _ _ => (pts_one (pt_val (pe_ix (ix_U (K := K) rfl) (pv 1) (pv 3) (fun _ _ => rfl))))) (fun _ _ _ _ _ => (pe_ix (ix_U (K := K) rfl) (pv 2) (pv 3) (fun _ _ => rfl)))) (pe_lst (pa_cons pe_str pa_nil))) pe_int (fun _ _ => rfl)))))))), ?_⟩
    walk_at "go"
    cases d with
    | none =>
      cases dv
      refine ite_d (fun _ => ?_) fun h => (h rfl).elim
      walk_at "go"
      exact k _ Fr.refl
    | bool b =>
      cases dv
      refine ite_d (fun h => nomatch h) fun _ => ?_
      walk_at "go"
      exact k _ Fr.refl
    | int b =>
      cases dv
      refine ite_d (fun h => nomatch h) fun _ => ?_
      walk_at "go"
      refine ⟨by exact Nat.le_of_ble_eq_true rfl, fun q1 n1 => ?_⟩
      have f1 : Fr [] H (upd H q1 (.lst [.bl true, .bl false, .bl false, .bl false])) := Fr.new n1
      have e1 : upd H q1 (.lst [.bl true, .bl false, .bl false, .bl false]) q1 = some (.lst [.bl true, .bl false, .bl false, .bl false]) := upd_same
      generalize upd H q1 (.lst [.bl true, .bl false, .bl false, .bl false]) = H1 at f1 e1
      walk_at "go"
      refine ⟨by exact Nat.le_of_ble_eq_true rfl, fun q2 n2 => ?_⟩
      have f2 : Fr [] H1 (upd H1 q2 (.lst [.str "number", .str "text", .str "tuple", .str "list"])) := Fr.new n2
      have e2 : upd H1 q2 (.lst [.str "number", .str "text", .str "tuple", .str "list"]) q2 = some (.lst [.str "number", .str "text", .str "tuple", .str "list"]) := upd_same
      generalize upd H1 q2 (.lst [.str "number", .str "text", .str "tuple", .str "list"]) = H2 at f2 e2
      replace e1 := f2 _ _ e1 (by simp)
      walk_at "go"
      refine LC_R1 4 rfl (by decide) (by decide) fun D nD => ⟨fun i H' => Fr [] H2 H' ∧ Lq K H' D (upto 0 i), ⟨Fr.new nD, [], upd_same, .nil⟩, ?_, ?_⟩
      · rintro i H' hi ⟨f4, L4⟩
        have e1 := f4 _ _ e1 (by simp)
        have e2 := f4 _ _ e2 (by simp)
        rcases (by omega : i = 0 ∨ i = 1 ∨ i = 2 ∨ i = 3) with rfl | rfl | rfl | rfl
        · walk_at "go"
          refine w_ixL (SqL.of e1) rfl ?_
          walk_at "go"
          refine w_ixL (SqL.of e2) rfl ?_
          obtain ⟨acc, ha, da⟩ := L4
          obtain rfl : acc = [] := List.eq_nil_of_length_eq_zero da.length
          exact ⟨[], ha, by decide, Fr.drop1 nD f4 (Fr.mut (by simp)), [.str "number"], upd_same, .cons (.str _) .nil⟩
        · walk_at "go"
          refine w_ixL (SqL.of e1) rfl ?_
          walk_at "go"
          exact ⟨f4, L4⟩
        · walk_at "go"
          refine w_ixL (SqL.of e1) rfl ?_
          walk_at "go"
          exact ⟨f4, L4⟩
        · walk_at "go"
          refine w_ixL (SqL.of e1) rfl ?_
          walk_at "go"
          exact ⟨f4, L4⟩
      · rintro H' ⟨f4, acc, ha, da⟩
        obtain rfl : acc = [.str "number"] := by
          cases da with
          | cons d1 d2 => cases d1; cases d2; rfl
        walk_at "go"
        refine ⟨by exact Nat.le_of_ble_eq_true rfl, fun q3 n3 => ?_⟩
        walk_at "go"
        refine w_addL (Fr.new (S := []) n3 _ _ ha (by simp)) upd_same (by decide) fun q4 n4 => ?_
        walk_at "go"
        refine w_ixL (SqL.of upd_same) rfl ?_
        exact k _ ((f1.trans (f2.trans f4)).trans ((Fr.new n3).trans (Fr.new n4)))
    | str b =>
      cases dv
      refine ite_d (fun h => nomatch h) fun _ => ?_
      walk_at "go"
      refine ⟨by exact Nat.le_of_ble_eq_true rfl, fun q1 n1 => ?_⟩
      have f1 : Fr [] H (upd H q1 (.lst [.bl false, .bl true, .bl false, .bl false])) := Fr.new n1
      have e1 : upd H q1 (.lst [.bl false, .bl true, .bl false, .bl false]) q1 = some (.lst [.bl false, .bl true, .bl false, .bl false]) := upd_same
      generalize upd H q1 (.lst [.bl false, .bl true, .bl false, .bl false]) = H1 at f1 e1
      walk_at "go"
      refine ⟨by exact Nat.le_of_ble_eq_true rfl, fun q2 n2 => ?_⟩
      have f2 : Fr [] H1 (upd H1 q2 (.lst [.str "number", .str "text", .str "tuple", .str "list"])) := Fr.new n2
      have e2 : upd H1 q2 (.lst [.str "number", .str "text", .str "tuple", .str "list"]) q2 = some (.lst [.str "number", .str "text", .str "tuple", .str "list"]) := upd_same
      generalize upd H1 q2 (.lst [.str "number", .str "text", .str "tuple", .str "list"]) = H2 at f2 e2
      replace e1 := f2 _ _ e1 (by simp)
      walk_at "go"
      refine LC_R1 4 rfl (by decide) (by decide) fun D nD => ⟨fun i H' => Fr [] H2 H' ∧ Lq K H' D (upto 1 i), ⟨Fr.new nD, [], upd_same, .nil⟩, ?_, ?_⟩
      · rintro i H' hi ⟨f4, L4⟩
        have e1 := f4 _ _ e1 (by simp)
        have e2 := f4 _ _ e2 (by simp)
        rcases (by omega : i = 0 ∨ i = 1 ∨ i = 2 ∨ i = 3) with rfl | rfl | rfl | rfl
        · walk_at "go"
          refine w_ixL (SqL.of e1) rfl ?_
          walk_at "go"
          exact ⟨f4, L4⟩
        · walk_at "go"
          refine w_ixL (SqL.of e1) rfl ?_
          walk_at "go"
          refine w_ixL (SqL.of e2) rfl ?_
          obtain ⟨acc, ha, da⟩ := L4
          obtain rfl : acc = [] := List.eq_nil_of_length_eq_zero da.length
          exact ⟨[], ha, by decide, Fr.drop1 nD f4 (Fr.mut (by simp)), [.str "text"], upd_same, .cons (.str _) .nil⟩
        · walk_at "go"
          refine w_ixL (SqL.of e1) rfl ?_
          walk_at "go"
          exact ⟨f4, L4⟩
        · walk_at "go"
          refine w_ixL (SqL.of e1) rfl ?_
          walk_at "go"
          exact ⟨f4, L4⟩
      · rintro H' ⟨f4, acc, ha, da⟩
        obtain rfl : acc = [.str "text"] := by
          cases da with
          | cons d1 d2 => cases d1; cases d2; rfl
        walk_at "go"
        refine ⟨by exact Nat.le_of_ble_eq_true rfl, fun q3 n3 => ?_⟩
        walk_at "go"
        refine w_addL (Fr.new (S := []) n3 _ _ ha (by simp)) upd_same (by decide) fun q4 n4 => ?_
        walk_at "go"
        refine w_ixL (SqL.of upd_same) rfl ?_
        exact k _ ((f1.trans (f2.trans f4)).trans ((Fr.new n3).trans (Fr.new n4)))
    | tuple ds =>
      cases dv with
      | tup sv av =>
      refine ite_d (fun h => nomatch h) fun _ => ?_
      walk_at "go"
      refine isT_bool sv ?_
      walk_at "go"
      refine isT_int sv ?_
      walk_at "go"
      refine isT_str sv ?_
      walk_at "go"
      refine isT_tuple sv ?_
      walk_at "go"
      refine isT_list sv ?_
      walk_at "go"
      refine ⟨by exact Nat.le_of_ble_eq_true rfl, fun q1 n1 => ?_⟩
      have f1 : Fr [] H (upd H q1 (.lst [.bl false, .bl false, .bl true, .bl false])) := Fr.new n1
      have e1 : upd H q1 (.lst [.bl false, .bl false, .bl true, .bl false]) q1 = some (.lst [.bl false, .bl false, .bl true, .bl false]) := upd_same
      generalize upd H q1 (.lst [.bl false, .bl false, .bl true, .bl false]) = H1 at f1 e1
      walk_at "go"
      refine ⟨by exact Nat.le_of_ble_eq_true rfl, fun q2 n2 => ?_⟩
      have f2 : Fr [] H1 (upd H1 q2 (.lst [.str "number", .str "text", .str "tuple", .str "list"])) := Fr.new n2
      have e2 : upd H1 q2 (.lst [.str "number", .str "text", .str "tuple", .str "list"]) q2 = some (.lst [.str "number", .str "text", .str "tuple", .str "list"]) := upd_same
      generalize upd H1 q2 (.lst [.str "number", .str "text", .str "tuple", .str "list"]) = H2 at f2 e2
      replace e1 := f2 _ _ e1 (by simp)
      walk_at "go"
      refine LC_R1 4 rfl (by decide) (by decide) fun D nD => ⟨fun i H' => Fr [] H2 H' ∧ Lq K H' D (upto 2 i), ⟨Fr.new nD, [], upd_same, .nil⟩, ?_, ?_⟩
      · rintro i H' hi ⟨f4, L4⟩
        have e1 := f4 _ _ e1 (by simp)
        have e2 := f4 _ _ e2 (by simp)
        rcases (by omega : i = 0 ∨ i = 1 ∨ i = 2 ∨ i = 3) with rfl | rfl | rfl | rfl
        · walk_at "go"
          refine w_ixL (SqL.of e1) rfl ?_
          walk_at "go"
          exact ⟨f4, L4⟩
        · walk_at "go"
          refine w_ixL (SqL.of e1) rfl ?_
          walk_at "go"
          exact ⟨f4, L4⟩
        · walk_at "go"
          refine w_ixL (SqL.of e1) rfl ?_
          walk_at "go"
          refine w_ixL (SqL.of e2) rfl ?_
          obtain ⟨acc, ha, da⟩ := L4
          obtain rfl : acc = [] := List.eq_nil_of_length_eq_zero da.length
          exact ⟨[], ha, by decide, Fr.drop1 nD f4 (Fr.mut (by simp)), [.str "tuple"], upd_same, .cons (.str _) .nil⟩
        · walk_at "go"
          refine w_ixL (SqL.of e1) rfl ?_
          walk_at "go"
          exact ⟨f4, L4⟩
      · rintro H' ⟨f4, acc, ha, da⟩
        obtain rfl : acc = [.str "tuple"] := by
          cases da with
          | cons d1 d2 => cases d1; cases d2; rfl
        walk_at "go"
        refine ⟨by exact Nat.le_of_ble_eq_true rfl, fun q3 n3 => ?_⟩
        walk_at "go"
        refine w_addL (Fr.new (S := []) n3 _ _ ha (by simp)) upd_same (by decide) fun q4 n4 => ?_
        walk_at "go"
        refine w_ixL (SqL.of upd_same) rfl ?_
        exact k _ ((f1.trans (f2.trans f4)).trans ((Fr.new n3).trans (Fr.new n4)))
    | list ds =>
      cases dv with
      | lst sv av =>
      refine ite_d (fun h => nomatch h) fun _ => ?_
      walk_at "go"
      refine isL_bool sv ?_
      walk_at "go"
      refine isL_int sv ?_
      walk_at "go"
      refine isL_str sv ?_
      walk_at "go"
      refine isL_tuple sv ?_
      walk_at "go"
      refine isL_list sv ?_
      walk_at "go"
      refine ⟨by exact Nat.le_of_ble_eq_true rfl, fun q1 n1 => ?_⟩
      have f1 : Fr [] H (upd H q1 (.lst [.bl false, .bl false, .bl false, .bl true])) := Fr.new n1
      have e1 : upd H q1 (.lst [.bl false, .bl false, .bl false, .bl true]) q1 = some (.lst [.bl false, .bl false, .bl false, .bl true]) := upd_same
      generalize upd H q1 (.lst [.bl false, .bl false, .bl false, .bl true]) = H1 at f1 e1
      walk_at "go"
      refine ⟨by exact Nat.le_of_ble_eq_true rfl, fun q2 n2 => ?_⟩
      have f2 : Fr [] H1 (upd H1 q2 (.lst [.str "number", .str "text", .str "tuple", .str "list"])) := Fr.new n2
      have e2 : upd H1 q2 (.lst [.str "number", .str "text", .str "tuple", .str "list"]) q2 = some (.lst [.str "number", .str "text", .str "tuple", .str "list"]) := upd_same
      generalize upd H1 q2 (.lst [.str "number", .str "text", .str "tuple", .str "list"]) = H2 at f2 e2
      replace e1 := f2 _ _ e1 (by simp)
      walk_at "go"
      refine LC_R1 4 rfl (by decide) (by decide) fun D nD => ⟨fun i H' => Fr [] H2 H' ∧ Lq K H' D (upto 3 i), ⟨Fr.new nD, [], upd_same, .nil⟩, ?_, ?_⟩
      · rintro i H' hi ⟨f4, L4⟩
        have e1 := f4 _ _ e1 (by simp)
        have e2 := f4 _ _ e2 (by simp)
        rcases (by omega : i = 0 ∨ i = 1 ∨ i = 2 ∨ i = 3) with rfl | rfl | rfl | rfl
        · walk_at "go"
          refine w_ixL (SqL.of e1) rfl ?_
          walk_at "go"
          exact ⟨f4, L4⟩
        · walk_at "go"
          refine w_ixL (SqL.of e1) rfl ?_
          walk_at "go"
          exact ⟨f4, L4⟩
        · walk_at "go"
          refine w_ixL (SqL.of e1) rfl ?_
          walk_at "go"
          exact ⟨f4, L4⟩
        · walk_at "go"
          refine w_ixL (SqL.of e1) rfl ?_
          walk_at "go"
          refine w_ixL (SqL.of e2) rfl ?_
          obtain ⟨acc, ha, da⟩ := L4
          obtain rfl : acc = [] := List.eq_nil_of_length_eq_zero da.length
          exact ⟨[], ha, by decide, Fr.drop1 nD f4 (Fr.mut (by simp)), [.str "list"], upd_same, .cons (.str _) .nil⟩
      · rintro H' ⟨f4, acc, ha, da⟩
        obtain rfl : acc = [.str "list"] := by
          cases da with
          | cons d1 d2 => cases d1; cases d2; rfl
        walk_at "go"
        refine ⟨by exact Nat.le_of_ble_eq_true rfl, fun q3 n3 => ?_⟩
        walk_at "go"
        refine w_addL (Fr.new (S := []) n3 _ _ ha (by simp)) upd_same (by decide) fun q4 n4 => ?_
        walk_at "go"
        refine w_ixL (SqL.of upd_same) rfl ?_
        exact k _ ((f1.trans (f2.trans f4)).trans ((Fr.new n3).trans (Fr.new n4)))
    | _ => simp [pl] at pd
def sp_law_alike (K : PySem.W.Frag) (n : Nat) : Sp := fun vs H Q _ => ∃ (v u : V) (d : PyData), vs = [v, u] ∧ (pl n d = true ∧ n ≤ 900) ∧ Dg K H v d ∧ Dg K H u d ∧ ∀ H', Fr [] H H' → Q (.bl true) H'
theorem pl_mono : ∀ {n m : Nat} {d : PyData}, n ≤ m → pl n d = true → pl m d = true := by
  intro n
  induction n with
  | zero => intro m d _ h; simp [pl] at h
  | succ n ih =>
    intro m d hm h
    obtain ⟨m', rfl⟩ : ∃ m', m = m' + 1 := ⟨m - 1, by omega⟩
    cases d with
    | tuple ds =>
      simp only [pl, Bool.and_eq_true, List.all_eq_true, decide_eq_true_eq] at h ⊢
      exact ⟨h.1, fun x hx => ih (by omega) (h.2 x hx)⟩
    | list ds =>
      simp only [pl, Bool.and_eq_true, List.all_eq_true, decide_eq_true_eq] at h ⊢
      exact ⟨h.1, fun x hx => ih (by omega) (h.2 x hx)⟩
    | _ => first | rfl | simp [pl] at h
theorem ok_law_alike (T : Env K mg) : ∀ n, Fx P w K mg base (2 + n) "_law_alike" p_law_alike (sp_law_alike K n)
  | 0 => T.l_law_alike.ok (k := 2 - 1) sc_law_alike (fun vs H Q E h => by
      obtain ⟨v, u, _, _, h, _⟩ := h
      exact absurd h.1 (by simp [pl])) (fun f cdv A outer s H vs Q E hr h => by
      obtain ⟨v, u, _, _, h, _⟩ := h
      exact absurd h.1 (by simp [pl]))
  | n + 1 => by
    have IH := ok_law_alike T n
    refine T.l_law_alike.ok sc_law_alike (fun vs H Q E h => ?_) (fun f cdv A outer s H vs Q E hr h => ?_)
    · obtain ⟨v, u, d, rfl, _⟩ := h
      rfl
    · obtain ⟨v, u, d, rfl, pd, dv, du, k⟩ := h
      refine ⟨_, (pss_cons (ps_set (i := 2) sc_law_alike.nd rfl (Or.inl rfl) (pe_fx (ok_law_kind (P := P) (w := w) T) hr (Nat.le_trans (m := 2) (by decide) (Nat.le_add_right 2 _)) (pa_cons (pv 0) pa_nil)))
      (pss_cons (ps_if (pt_cmpR (op_neU (K := K) rfl (u64 hr)) (pv 2) (pe_fx (ok_law_kind (P := P) (w := w) T) hr (Nat.le_trans (m := 2) (by decide) (Nat.le_add_right 2 _)) (pa_cons (pv 1) pa_nil)) (nomark _)) (pss_one (ps_ret pe_bl)) pss_nil)
      (pss_cons (ps_if (PW.pt (pw_or (pt_cmpR (op_eqU (K := K) rfl (u64 hr)) (pv 2) pe_str (nomark _)) (pw_or1 (pt_cmpR (op_eqU (K := K) rfl (u64 hr)) (pv 2) pe_str (nomark _))))) (pss_one (ps_ret (pe_and (pe_cmpR (op_eqU (K := K) rfl (u64 hr)) (pe_callB (call_lenU (K := K) rfl) (by rfl) T.m_len (by decide +kernel) (pa_cons (pv 0) pa_nil)) (pe_callB (call_lenU (K := K) rfl) (by rfl) T.m_len (by decide +kernel) (pa_cons (pv 1) pa_nil)) (nomark _)) (pe_one (pe_callB (call_allU (K := K) rfl rfl) (by rfl) T.m_all (by decide +kernel) (pa_cons (pe_lc (own := [("_law_k", 3)]) (g := (gName 3)) (tt := tYes) rfl sc_law_alike.nd (pi_range1 rfl T.m_range (pa_cons (pe_callB (call_lenU (K := K) rfl) (by rfl) T.m_len (by decide +kernel) (pa_cons (pv 0) pa_nil)) pa_nil)) (blkOk_by (N := N_law_alike) (sc := defScope s_law_alike) (by decide +kernel)) (fun _ _ _ _ _ => (pg_name (i := 3) sc_law_alike.nd rfl (Or.inl rfl))) (fun _ _ _ _ _ => pts_nil) (fun _ _ _ _ _ => (pe_fx (IH) hr (Nat.le_refl _) (pa_cons (pe_ix (ix_U (K := K) rfl) (pv 0) (pv 3) (fun _ _ => rfl)) (pa_cons (pe_ix (ix_U (K := K) rfl) (pv 1) (pv 3) (fun _ _ => rfl)) pa_nil))))) pa_nil)))))) pss_nil)
      (pss_one (ps_ret (pe_cmpR (op_eqU (K := K) rfl (u64 hr)) (pv 0) (pv 1) (nomark _))))))), ?_⟩
      walk_at "go"
      refine ⟨v, d, rfl, pl_mono (by omega) pd.1, dv, fun H1 f1 => ?_⟩
      replace dv := dv.fr f1
      replace du := du.fr f1
      walk_at "go"
      refine ⟨u, d, rfl, pl_mono (by omega) pd.1, du, fun H2 f2 => ?_⟩
      replace dv := dv.fr f2
      replace du := du.fr f2
      replace k : ∀ H', Fr [] H2 H' → Q (.bl true) H' := fun H' f => k H' ((f1.trans f2).trans f)
      walk_at "go"
      rw [decide_eq_true rfl]
      walk_at "go"
      cases d with
      | none =>
        cases dv; cases du
        refine ite_d (fun h => absurd (show ("none" : Str) = "tuple" from h) (by decide)) fun _ => ?_
        walk_at "go"
        refine ite_d (fun h => absurd (show ("none" : Str) = "list" from h) (by decide)) fun _ => ?_
        walk_at "go"
        refine w_eqR (K := K) (d := .none) (Dt.dp .non) (Dt.dp .non) (by decide) ?_
        exact k _ Fr.refl
      | bool b =>
        cases dv; cases du
        refine ite_d (fun h => absurd (show ("truth" : Str) = "tuple" from h) (by decide)) fun _ => ?_
        walk_at "go"
        refine ite_d (fun h => absurd (show ("truth" : Str) = "list" from h) (by decide)) fun _ => ?_
        walk_at "go"
        rw [decide_eq_true rfl]
        exact k _ Fr.refl
      | int b =>
        cases dv; cases du
        refine ite_d (fun h => absurd (show ("number" : Str) = "tuple" from h) (by decide)) fun _ => ?_
        walk_at "go"
        refine ite_d (fun h => absurd (show ("number" : Str) = "list" from h) (by decide)) fun _ => ?_
        walk_at "go"
        rw [decide_eq_true rfl]
        exact k _ Fr.refl
      | str b =>
        cases dv; cases du
        refine ite_d (fun h => absurd (show ("text" : Str) = "tuple" from h) (by decide)) fun _ => ?_
        walk_at "go"
        refine ite_d (fun h => absurd (show ("text" : Str) = "list" from h) (by decide)) fun _ => ?_
        walk_at "go"
        rw [decide_eq_true rfl]
        exact k _ Fr.refl
      | tuple ds =>
        have hp : ds.length ≤ 100000 ∧ ∀ d ∈ ds, pl n d = true := by
          have := pd.1
          simp only [pl, Bool.and_eq_true, decide_eq_true_eq, List.all_eq_true] at this
          exact this
        cases dv with
        | tup sv av =>
        cases du with
        | tup su au =>
        rename_i pv' vs pu' us
        have lv := av.length
        have lu := au.length
        refine ite_d (fun _ => ?_) fun h => (h rfl).elim
        walk_at "go"
        refine w_lenT sv ?_
        walk_at "go"
        refine w_lenT su ?_
        walk_at "go"
        rw [lv, lu, decide_eq_true rfl]
        walk_at "go"
        refine w_lenT sv ?_
        walk_at "go"
        rw [lv]
        refine LC_R1 ds.length (by omega) (by omega) (by omega) fun D nD => ⟨fun i H' => Fr [] H2 H' ∧ Lq K H' D ((List.replicate i true).map PyData.bool), ⟨Fr.new nD, [], upd_same, .nil⟩, ?_, ?_⟩
        · rintro i H' hi ⟨f4, L4⟩
          obtain ⟨d, hd⟩ : ∃ d, ds[i]? = some d := ⟨_, List.getElem?_eq_getElem hi⟩
          obtain ⟨x, hx, dx⟩ : ∃ x, vs[i]? = some x ∧ Dg K H' x d := by
            have hi' : i < vs.length := by omega
            obtain ⟨d', h1, h2⟩ := (av.fr f4).get (List.getElem?_eq_getElem hi')
            rw [hd] at h1
            cases h1
            exact ⟨_, List.getElem?_eq_getElem hi', h2⟩
          obtain ⟨y, hy, dy⟩ : ∃ x, us[i]? = some x ∧ Dg K H' x d := by
            have hi' : i < us.length := by omega
            obtain ⟨d', h1, h2⟩ := (au.fr f4).get (List.getElem?_eq_getElem hi')
            rw [hd] at h1
            cases h1
            exact ⟨_, List.getElem?_eq_getElem hi', h2⟩
          walk_at "go"
          refine w_ixT (f4.seqT sv (by simp)) (atI_nat hx) ?_
          walk_at "go"
          refine w_ixT (f4.seqT su (by simp)) (atI_nat hy) ?_
          walk_at "go"
          refine ⟨x, y, d, rfl, ⟨hp.2 d (List.mem_of_getElem? hd), by omega⟩, dx, dy, fun H5 f5 => ?_⟩
          obtain ⟨acc, ha, da⟩ := L4.fr0 f5
          refine ⟨acc, ha, Nat.lt_of_le_of_lt (show acc.length ≤ 100000 by rw [da.length, List.length_map, List.length_replicate]; omega) (by decide), Fr.drop1 nD (f4.trans f5) (Fr.mut (by simp)), _, upd_same, ?_⟩
          rw [List.replicate_succ', List.map_append]
          exact (da.append (.cons (.bl true) .nil)).mono (Tu.mut ha)
        · rintro H' ⟨f4, L4⟩
          walk_at "go"
          refine L4.allB ?_
          rw [List.all_eq_true.mpr fun b hb => by rw [(List.mem_replicate.mp hb).2]; rfl]
          exact k H' f4
      | list ds =>
        have hp : ds.length ≤ 100000 ∧ ∀ d ∈ ds, pl n d = true := by
          have := pd.1
          simp only [pl, Bool.and_eq_true, decide_eq_true_eq, List.all_eq_true] at this
          exact this
        cases dv with
        | lst sv av =>
        cases du with
        | lst su au =>
        rename_i pv' vs pu' us
        have lv := av.length
        have lu := au.length
        refine ite_d (fun h => absurd (show ("list" : Str) = "tuple" from h) (by decide)) fun _ => ?_
        walk_at "go"
        refine ite_d (fun _ => ?_) fun h => (h rfl).elim
        walk_at "go"
        refine w_lenL sv ?_
        walk_at "go"
        refine w_lenL su ?_
        walk_at "go"
        rw [lv, lu, decide_eq_true rfl]
        walk_at "go"
        refine w_lenL sv ?_
        walk_at "go"
        rw [lv]
        refine LC_R1 ds.length (by omega) (by omega) (by omega) fun D nD => ⟨fun i H' => Fr [] H2 H' ∧ Lq K H' D ((List.replicate i true).map PyData.bool), ⟨Fr.new nD, [], upd_same, .nil⟩, ?_, ?_⟩
        · rintro i H' hi ⟨f4, L4⟩
          obtain ⟨d, hd⟩ : ∃ d, ds[i]? = some d := ⟨_, List.getElem?_eq_getElem hi⟩
          obtain ⟨x, hx, dx⟩ : ∃ x, vs[i]? = some x ∧ Dg K H' x d := by
            have hi' : i < vs.length := by omega
            obtain ⟨d', h1, h2⟩ := (av.fr f4).get (List.getElem?_eq_getElem hi')
            rw [hd] at h1
            cases h1
            exact ⟨_, List.getElem?_eq_getElem hi', h2⟩
          obtain ⟨y, hy, dy⟩ : ∃ x, us[i]? = some x ∧ Dg K H' x d := by
            have hi' : i < us.length := by omega
            obtain ⟨d', h1, h2⟩ := (au.fr f4).get (List.getElem?_eq_getElem hi')
            rw [hd] at h1
            cases h1
            exact ⟨_, List.getElem?_eq_getElem hi', h2⟩
          walk_at "go"
          refine w_ixL (f4.seqL sv (by simp)) (atI_nat hx) ?_
          walk_at "go"
          refine w_ixL (f4.seqL su (by simp)) (atI_nat hy) ?_
          walk_at "go"
          refine ⟨x, y, d, rfl, ⟨hp.2 d (List.mem_of_getElem? hd), by omega⟩, dx, dy, fun H5 f5 => ?_⟩
          obtain ⟨acc, ha, da⟩ := L4.fr0 f5
          refine ⟨acc, ha, Nat.lt_of_le_of_lt (show acc.length ≤ 100000 by rw [da.length, List.length_map, List.length_replicate]; omega) (by decide), Fr.drop1 nD (f4.trans f5) (Fr.mut (by simp)), _, upd_same, ?_⟩
          rw [List.replicate_succ', List.map_append]
          exact (da.append (.cons (.bl true) .nil)).mono (Tu.mut ha)
        · rintro H' ⟨f4, L4⟩
          walk_at "go"
          refine L4.allB ?_
          rw [List.all_eq_true.mpr fun b hb => by rw [(List.mem_replicate.mp hb).2]; rfl]
          exact k H' f4
      | _ => simp [pl] at pd
end

/-! ### rows of wants as data -/
/-- a want: a part, a give with a row within, a plain with a row within -/
inductive Wt where
  | part (spot : PyData) (name : Str) (gives : List (Str × Int))
  | give (spot : PyData) (name : Str) (n : Int) (inner : List Wt)
  | plain (spot : PyData) (name : Str) (gives : List (Str × Int)) (inner : List Wt)
def siD (p : Str × Int) : PyData := .tuple [.str p.1, .int p.2]
def gvD (g : List (Str × Int)) : PyData := .tuple (g.map siD)
mutual
def wtD : Wt → PyData
  | .part s nm g => .tuple [.str "part", s, .str nm, gvD g]
  | .give s nm n inner => .tuple [.str "give", s, .str nm, .int n, .tuple (wtsD inner)]
  | .plain s nm g inner => .tuple [.str "plain", s, .str nm, gvD g, .tuple [], .tuple (wtsD inner)]
def wtsD : List Wt → List PyData
  | [] => []
  | w :: r => wtD w :: wtsD r
end
theorem wtsD_map : ∀ ws : List Wt, wtsD ws = ws.map wtD
  | [] => by simp [wtsD]
  | w :: r => by rw [wtsD, wtsD_map r, List.map_cons]
mutual
def wtok : Nat → Wt → Prop
  | _, .part s _ g => pl 3 s = true ∧ g.length ≤ 4
  | 0, _ => False
  | n + 1, .give s _ _ inner => pl 3 s = true ∧ inner.length ≤ 4 ∧ wtoks n inner
  | n + 1, .plain s _ _ inner => pl 3 s = true ∧ inner.length ≤ 4 ∧ wtoks n inner
def wtoks : Nat → List Wt → Prop
  | _, [] => True
  | n, w :: r => wtok n w ∧ wtoks n r
end
theorem wtoks_all : ∀ {n : Nat} {ws : List Wt}, wtoks n ws ↔ ∀ w ∈ ws, wtok n w
  | n, [] => by simp [wtoks]
  | n, w :: r => by
    rw [wtoks, wtoks_all (n := n) (ws := r)]
    simp
/-- numbers laid over: by name, sorted -/
def put1 (l : List (Str × Int)) (nm : Str) (n : Int) : List (Str × Int) := if (l.any fun p => decide (p.1 = nm)) = true then l.map (fun p => if p.1 = nm then (p.1, n) else p) else l ++ [(nm, n)]
def siLe (a b : Str × Int) : Bool := PySem.W.dataLe false id (siD a) (siD b)
def puts (l ms : List (Str × Int)) : List (Str × Int) := ms.foldl (fun acc p => put1 acc p.1 p.2) l
def laid (dn ms : List (Str × Int)) : List (Str × Int) := (puts (puts [] dn) ms).mergeSort siLe
def over (dn : List (Str × Int)) (nm : Str) (n : Int) : List (Str × Int) := laid dn [(nm, n)]
def emb (p : Str × Int) : Key × V := (.inr p.1, .int p.2)
theorem emb_put (l : List (Str × Int)) (nm : Str) (n : Int) : putK (l.map emb) (.inr nm) (.int n) = (put1 l nm n).map emb := by
  have e : ∀ p : Str × Int, decide ((emb p).1 = (Sum.inr nm : Key)) = decide (p.1 = nm) := fun p => by
    by_cases h : p.1 = nm
    · rw [decide_eq_true h]
      exact decide_eq_true (by show (Sum.inr p.1 : Key) = Sum.inr nm; rw [h])
    · rw [decide_eq_false h]
      exact decide_eq_false fun z => h (by injection z)
  unfold putK put1
  rw [List.any_map]
  have e2 : ((fun kv : Key × V => decide (kv.1 = (Sum.inr nm : Key))) ∘ emb) = fun p : Str × Int => decide (p.1 = nm) := funext e
  rw [e2]
  by_cases h : (l.any fun p => decide (p.1 = nm)) = true
  · rw [if_pos h, if_pos h, List.map_map, List.map_map]
    refine List.map_congr_left fun p _ => ?_
    by_cases hp : p.1 = nm
    · show (if (emb p).1 = Sum.inr nm then ((emb p).1, V.int n) else emb p) = emb (if p.1 = nm then (p.1, n) else p)
      rw [if_pos hp, if_pos (by show (Sum.inr p.1 : Key) = Sum.inr nm; rw [hp])]
      rfl
    · show (if (emb p).1 = Sum.inr nm then ((emb p).1, V.int n) else emb p) = emb (if p.1 = nm then (p.1, n) else p)
      rw [if_neg hp, if_neg fun z => hp (by injection z)]
  · rw [if_neg h, if_neg h, List.map_append]
    rfl
theorem emb_puts : ∀ (ms l : List (Str × Int)), mergeK (l.map emb) (ms.map emb) = (puts l ms).map emb
  | [], l => rfl
  | p :: ms, l => by
    show mergeK (putK (l.map emb) (.inr p.1) (.int p.2)) (ms.map emb) = (puts (put1 l p.1 p.2) ms).map emb
    rw [emb_put, emb_puts ms]
theorem put1_len (l : List (Str × Int)) (nm : Str) (n : Int) : (put1 l nm n).length ≤ l.length + 1 := by
  unfold put1
  split
  · rw [List.length_map]; omega
  · rw [List.length_append]; exact Nat.le_refl _
theorem puts_len : ∀ (ms l : List (Str × Int)), (puts l ms).length ≤ l.length + ms.length
  | [], l => Nat.le_refl _
  | p :: ms, l => by
    have h1 := puts_len ms (put1 l p.1 p.2)
    have h2 := put1_len l p.1 p.2
    show (puts (put1 l p.1 p.2) ms).length ≤ _
    rw [List.length_cons]
    omega
theorem laid_len (dn ms : List (Str × Int)) : (laid dn ms).length ≤ dn.length + ms.length := by
  have h1 := puts_len dn []
  have h2 := puts_len ms (puts [] dn)
  unfold laid
  rw [List.length_mergeSort]
  rw [List.length_nil] at h1
  omega
theorem si_sort (l : List (Str × Int)) : (l.map siD).mergeSort (PySem.W.dataLe false id) = (l.mergeSort siLe).map siD := (List.map_mergeSort (f := siD) (r := siLe) (s := PySem.W.dataLe false id) fun _ _ _ _ => rfl).symm
theorem si_sorty (l : List (Str × Int)) : Sorty (l.map siD) := by
  refine ⟨fun d hd d' hd' => ?_, .inl fun d hd => ?_⟩
  · obtain ⟨a, _, rfl⟩ := List.mem_map.mp hd
    obtain ⟨b, _, rfl⟩ := List.mem_map.mp hd'
    rfl
  · obtain ⟨a, _, rfl⟩ := List.mem_map.mp hd
    exact ⟨_, _, rfl⟩
theorem puts_take {ms l : List (Str × Int)} {i : Nat} {p : Str × Int} (h : ms[i]? = some p) : put1 (puts l (ms.take i)) p.1 p.2 = puts l (ms.take (i + 1)) := by
  unfold puts
  rw [List.take_add_one, h, List.foldl_append]
  rfl
mutual
def prtsW : Wt → List PyData → List (Str × Int) → List PyData
  | .part s nm g, sp, dn => [.tuple [.tuple (sp ++ [s]), .str nm, gvD g, gvD dn]]
  | .give s nm n inner, sp, dn => prts inner (sp ++ [s]) (over dn nm n)
  | .plain s _ _ inner, sp, dn => prts inner (sp ++ [s]) dn
def prts : List Wt → List PyData → List (Str × Int) → List PyData
  | [], _, _ => []
  | w :: r, sp, dn => prtsW w sp dn ++ prts r sp dn
end
theorem prts_app : ∀ (a b : List Wt) (sp : List PyData) (dn : List (Str × Int)), prts (a ++ b) sp dn = prts a sp dn ++ prts b sp dn
  | [], b, sp, dn => by simp [prts]
  | w :: r, b, sp, dn => by
    rw [List.cons_append, prts, prts, prts_app r b sp dn, List.append_assoc]

theorem w_dput {td ty tv : TE} {D} {σ : L2.St} {H : Hp} (q : tv σ H fun v H1 => td σ H1 fun x H2 => ty σ H2 fun y H3 => ∃ a H4, x = .ref a ∧ DPut H3 a y v H4 ∧ D.nx σ H4) : sDPut td ty tv D σ H := q
/-! ### what is handed down: a plain tuple of pairs of a text and a number -/
section
variable {P : Program} {w : World} {K : PySem.W.Frag} {mg : Str → Option Value} {base : Heap}
def PrsAt (K : PySem.W.Frag) (H : Hp) (ps : List Addr) (dn : List (Str × Int)) : Prop := Paired (fun p (kv : Str × Int) => SqT K H p [.str kv.1, .int kv.2]) ps dn
def Dn (K : PySem.W.Frag) (H : Hp) (v : V) (dn : List (Str × Int)) : Prop := ∃ (a : Addr) (ps : List Addr), v = .ref a ∧ PTup H a (ps.map V.ref) ∧ PrsAt K H ps dn
theorem PrsAt.mono {H H' : Hp} (t : Tu H H') {ps : List Addr} {dn : List (Str × Int)} (h : PrsAt K H ps dn) : PrsAt K H' ps dn := Paired.imp (fun _ _ z => t.seqT z) h
theorem PTup.tu {H H' : Hp} {a : Addr} {xs : List V} (h : PTup H a xs) (t : Tu H H') : PTup H' a xs := by
  obtain ⟨us, e⟩ := h
  exact ⟨us, (t _ _).2 _ e⟩
theorem Dn.mono {H H' : Hp} (t : Tu H H') {v : V} {dn : List (Str × Int)} (h : Dn K H v dn) : Dn K H' v dn := by
  obtain ⟨a, ps, e, p, q⟩ := h
  exact ⟨a, ps, e, PTup.tu p t, q.mono t⟩
theorem Dn.fr0 {H H' : Hp} (f : Fr [] H H') {v : V} {dn : List (Str × Int)} (h : Dn K H v dn) : Dn K H' v dn := h.mono f.tu
theorem prs_dt {H : Hp} : ∀ {ps : List Addr} {dn : List (Str × Int)}, PrsAt K H ps dn → DtAll K H (ps.map V.ref) (dn.map siD)
  | _, _, .nil => .nil
  | _, _, .cons a b => .cons (.tup a (.cons (.str _) (.cons (.int _) .nil))) (prs_dt b)
theorem prs_of {H : Hp} : ∀ {dn : List (Str × Int)} {vs : List V}, DtAll K H vs (dn.map siD) → ∃ ps, vs = ps.map V.ref ∧ PrsAt K H ps dn
  | [], _, .nil => ⟨[], rfl, .nil⟩
  | p :: dn, _, .cons (vs := vs) a b => by
    obtain ⟨ps, rfl, r⟩ := prs_of (dn := dn) b
    obtain ⟨q, us, rfl, s, av⟩ := a.tuple
    cases av with
    | cons d1 av =>
    cases av with
    | cons d2 av =>
    cases av
    cases d1; cases d2
    exact ⟨q :: ps, rfl, .cons s r⟩
theorem Dn.dt {H : Hp} {v : V} {dn : List (Str × Int)} (h : Dn K H v dn) : Dt K H v (gvD dn) := by
  obtain ⟨a, ps, rfl, p, q⟩ := h
  exact .tup p.sq (prs_dt q)
theorem Dn.nil {H : Hp} {a : Addr} (h : PTup H a []) : Dn K H (.ref a) [] := ⟨a, [], rfl, h, .nil⟩
theorem w_tupleDn {H : Hp} {l : Addr} {dn : List (Str × Int)} {Q : VK} (L : Lq K H l (dn.map siD)) (q : ∀ p H', H p = none → Fr [] H H' → Dn K H' (.ref p) dn → Q (.ref p) H') : rTupleP K [.ref l] H Q := by
  obtain ⟨vs, e, a⟩ := L
  obtain ⟨ps, rfl, r⟩ := prs_of a
  exact ⟨l, _, rfl, SqL.of e, fun p us hp => q p _ hp (Fr.new hp) ⟨p, ps, rfl, ⟨us, upd_same⟩, r.mono (Fr.new hp).tu⟩⟩
theorem prs_emb {H : Hp} : ∀ {ps : List Addr} {dn : List (Str × Int)}, PrsAt K H ps dn → Paired (fun p (kv : Key × V) => SqT K H p [kV kv.1, kv.2]) ps (dn.map emb)
  | _, _, .nil => .nil
  | _, _, .cons a b => .cons a (prs_emb b)
theorem w_dictDn {H : Hp} {v : V} {dn : List (Str × Int)} {Q : VK} (h : Dn K H v dn) (q : ∀ p H', H p = none → Fr [] H H' → H' p = some (.dK ((puts [] dn).map emb)) → Q (.ref p) H') : rDictT K [v] H Q := by
  obtain ⟨a, ps, rfl, p, r⟩ := h
  refine ⟨a, ps, dn.map emb, rfl, p, prs_emb r, fun p' hp => ?_⟩
  have e : mergeK [] (dn.map emb) = (puts [] dn).map emb := emb_puts dn []
  rw [e]
  exact q p' _ hp (Fr.new hp) upd_same
theorem w_sortItDn {H : Hp} {p a : Addr} {l : List (Str × Int)} {Q : VK} (hp : H p = some (DX.itemsO p a)) (ha : H a = some (.dK (l.map emb))) (n : l.length ≤ 100000)
    (q : ∀ p' H', H p' = none → Fr [] H H' → Lq K H' p' ((l.mergeSort siLe).map siD) → Q (.ref p') H') : rSortItK K [.ref p] H Q := by
  have e : (l.map emb).map U.pairD = l.map siD := by
    rw [List.map_map]
    rfl
  refine ⟨p, a, l.map emb, rfl, hp, ha, by rw [List.length_map]; exact n, fun kv hkv => ?_, by rw [e]; exact si_sorty l, ?_⟩
  · obtain ⟨x, _, rfl⟩ := List.mem_map.mp hkv
    exact ⟨x.2, rfl⟩
  · rw [e, si_sort]
    exact q

def sp_laid_over (K : PySem.W.Frag) : Sp := fun vs H Q _ => ∃ (v : V) (q : Addr) (dn ms : List (Str × Int)), vs = [v, .ref q] ∧ Dn K H v dn ∧ Lq K H q (ms.map siD) ∧ dn.length + ms.length ≤ 90000 ∧ ∀ p H', H p = none → Fr [] H H' → Dn K H' (.ref p) (laid dn ms) → Q (.ref p) H'
theorem ok_laid_over (T : Env K mg) : Fx P w K mg base 1 "laid_over" p_laid_over (sp_laid_over K) := by
  refine T.l_laid_over.ok sc_laid_over (fun vs H Q E h => ?_) (fun f cdv A outer s H vs Q E hr h => ?_)
  · obtain ⟨v, q, _, _, rfl, _⟩ := h
    rfl
  · obtain ⟨v, q, dn, ms, rfl, D0, L0, ln, k⟩ := h
    refine ⟨_, (pss_cons (ps_set (i := 2) sc_laid_over.nd rfl (Or.inl rfl) (pe_callTy (call_dictTU (K := K) rfl rfl) (by rfl) T.m_dict (by decide +kernel) (pa_cons (pv 0) pa_nil)))
      (pss_cons (ps_for PassesOwn.never rfl (pi_listU (K := K) rfl (pv 1)) (pg_tupU (K := K) (n := 2) rfl rfl (pgs_cons (pg_name (i := 3) sc_laid_over.nd rfl (Or.inl rfl)) (pgs_cons (pg_name (i := 4) sc_laid_over.nd rfl (Or.inl rfl)) pgs_nil))) (pss_one (ps_dput (u1 hr) (pv 2) (pv 3) (pv 4) rfl)))
      (pss_one (ps_ret (pe_callTy (call_tuplePU (K := K) rfl) (by rfl) T.m_tuple (by decide +kernel) (pa_cons (pe_callB (call_sortItKU (K := K) rfl rfl (u70 hr)) (by rfl) T.m_sorted (by decide +kernel) (pa_cons (pe_bm0 PySem.F.plainAttrs_dict PySem.F.slot_dict_items PySem.F.type_dict_items mt_itemsK (pv 2)) pa_nil)) pa_nil)))))), ?_⟩
    walk_at "go"
    refine w_dictDn D0 fun d H1 n1 f1 e1 => ?_
    have L1 := L0.fr0 f1
    walk_at "go"
    refine L1.walk (fun i σ H' => Fr [] H H' ∧ ∃ v3 v4, σ = [some v, some (.ref q), some (.ref d), v3, v4] ∧ H' d = some (.dK ((puts (puts [] dn) (ms.take i)).map emb))) ?_ ?_ ?_ ?_
    · exact ⟨f1, _, _, rfl, e1⟩
    · rintro i σ H' ⟨f2, _⟩
      exact L0.fr0 f2
    · rintro i x dd σ H2 hi dx ⟨f2, v3, v4, rfl, e2⟩
      obtain ⟨m, hm, rfl⟩ := map_get hi
      obtain ⟨q2, us, rfl, s2, av⟩ := dx.tuple
      cases av with
      | cons d1 av =>
      cases av with
      | cons d2 av =>
      cases av
      cases d1; cases d2
      have li := (List.getElem?_eq_some_iff.mp hm).1
      refine ⟨q2, _, rfl, s2, rfl, ?_⟩
      walk_at "go"
      refine w_dput ?_
      walk_at "go"
      refine ⟨d, _, rfl, DPut.k (k := .inr m.1) e2 ?_, ?_⟩
      · rw [List.length_map]
        have h1 := puts_len dn []
        have h2 := puts_len (ms.take i) (puts [] dn)
        rw [List.length_take] at h2
        rw [List.length_nil] at h1
        exact Nat.lt_of_le_of_lt (show _ ≤ 100000 by omega) (by decide)
      · rw [emb_put, puts_take hm]
        exact ⟨Fr.new_mut n1 (f2.mono (by simp) |>.trans (Fr.mut (by simp))), _, _, rfl, upd_same⟩
    · rintro σ H2 ⟨f2, v3, v4, rfl, e2⟩
      rw [List.length_map, List.take_length] at e2
      walk_at "go"
      refine ⟨.inr (.inr (.inl ⟨rfl, .inl ⟨_, e2⟩⟩)), d, _, rfl, rfl, e2, fun p hp => ?_⟩
      have e3 := Fr.new (S := []) (o := DX.itemsO p d) hp _ _ e2 (by simp)
      walk_at "go"
      refine w_sortItDn upd_same e3 ?_ fun p4 H4 n4 f4 L4 => ?_
      · have h1 := puts_len dn []
        have h2 := puts_len ms (puts [] dn)
        rw [List.length_nil] at h1
        omega
      walk_at "go"
      refine w_tupleDn L4 fun p5 H5 n5 f5 D5 => ?_
      have f := ((f2.trans (Fr.new hp)).trans f4).trans f5
      exact k p5 H5 (((f2.trans (Fr.new hp)).trans f4).free n5) f D5

end


/-! ### the parts in a row: the program's walk, and the law's -/
section
variable {P : Program} {w : World} {K : PySem.W.Frag} {mg : Str → Option Value} {base : Heap}
theorem w_iKeys {σ : L2.St} {H : Hp} {td : TE} {R : It → Hp → Prop} (q : td σ H fun x H1 => ∃ d o, x = .ref d ∧ ((∃ kvs, H1 d = some (.frz o (.dK kvs)) ∧ R (Itk d o kvs) H1) ∨ ∃ kvs, H1 d = some (.frz o (.dT kvs)) ∧ R (Itkt d o kvs) H1)) : iKeys td σ H R := q
theorem valV_emb {l : List (Str × Int)} {kv : Key × V} (h : kv ∈ l.map emb) : ∃ nm n, kv = (.inr nm, .int n) := by
  obtain ⟨p, _, rfl⟩ := List.mem_map.mp h
  exact ⟨p.1, p.2, rfl⟩
theorem put1_nodup {l : List (Str × Int)} {nm : Str} {n : Int} (h : (l.map (·.1)).Nodup) : ((put1 l nm n).map (·.1)).Nodup := by
  unfold put1
  by_cases c : (l.any fun p => decide (p.1 = nm)) = true
  · rw [if_pos c, List.map_map]
    have : (l.map ((·.1) ∘ fun p => if p.1 = nm then (p.1, n) else p)) = l.map (·.1) := List.map_congr_left fun p _ => by
      show (if p.1 = nm then (p.1, n) else p).1 = p.1
      split <;> rfl
    rw [this]
    exact h
  · rw [if_neg c, List.map_append]
    refine List.nodup_append.mpr ⟨h, by simp, fun a ha b hb => ?_⟩
    obtain ⟨p, hp, rfl⟩ := List.mem_map.mp ha
    have eb : b = nm := by simpa using hb
    rintro rfl
    exact c (List.any_eq_true.mpr ⟨p, hp, decide_eq_true eb⟩)
theorem puts_nodup : ∀ (ms l : List (Str × Int)), (l.map (·.1)).Nodup → ((puts l ms).map (·.1)).Nodup
  | [], l, h => h
  | p :: ms, l, h => puts_nodup ms (put1 l p.1 p.2) (put1_nodup h)
theorem valV_at : ∀ {l : List (Str × Int)}, (l.map (·.1)).Nodup → ∀ {p : Str × Int}, p ∈ l → valV (l.map emb) (.inr p.1) = some (.int p.2)
  | [], _, p, h => by simp at h
  | a :: l, nd, p, h => by
    rw [List.map_cons, List.nodup_cons] at nd
    by_cases e : a = p
    · subst e
      rw [List.map_cons, valV_pos (by rfl)]
      rfl
    · have hp : p ∈ l := by
        rcases List.mem_cons.mp h with z | z
        · exact absurd z.symm e
        · exact z
      rw [List.map_cons, valV_neg (fun z => nd.1 (by
        have : a.1 = p.1 := by injection z
        rw [this]
        exact List.mem_map_of_mem hp))]
      exact valV_at nd.2 hp
def sp_law_over (K : PySem.W.Frag) : Sp := fun vs H Q _ => ∃ (v m : V) (dn ms : List (Str × Int)), vs = [v, m] ∧ Dn K H v dn ∧ Dt K H m (.tuple (ms.map siD)) ∧ dn.length + ms.length ≤ 90000 ∧ ∀ p H', H p = none → Fr [] H H' → Dn K H' (.ref p) (laid dn ms) → Q (.ref p) H'
theorem ok_law_over (T : Env K mg) : Fx P w K mg base 1 "_law_over" p_law_over (sp_law_over K) := by
  refine T.l_law_over.ok sc_law_over (fun vs H Q E h => ?_) (fun f cdv A outer s H vs Q E hr h => ?_)
  · obtain ⟨v, m, _, _, rfl, _⟩ := h
    rfl
  · obtain ⟨v, m, dn, ms, rfl, D0, M0, ln, k⟩ := h
    refine ⟨_, (pss_cons (ps_set (i := 2) sc_law_over.nd rfl (Or.inr rfl) (pe_callTy (call_dictTU (K := K) rfl rfl) (by rfl) T.m_dict (by decide +kernel) (pa_cons (pv 0) pa_nil)))
      (pss_cons (ps_for PassesOwn.never rfl (pi_tupU (K := K) rfl (pv 1)) (pg_tupU (K := K) (n := 2) rfl rfl (pgs_cons (pg_name (i := 3) sc_law_over.nd rfl (Or.inl rfl)) (pgs_cons (pg_name (i := 4) sc_law_over.nd rfl (Or.inl rfl)) pgs_nil))) (pss_one (ps_dput (u1 hr) (pv 2) (pv 3) (pv 4) rfl)))
      (pss_one (ps_ret (pe_callTy (call_tuplePU (K := K) rfl) (by rfl) T.m_tuple (by decide +kernel) (pa_cons (pe_callB (call_sortLU (K := K) rfl (u70 hr)) (by rfl) T.m_sorted (by decide +kernel) (pa_cons (pe_lc (own := [("_law_name", 3)]) (g := (gName 3)) (tt := tYes) rfl sc_law_over.nd (pi_keys (pe_frz (pv 2))) (blkOk_by (N := N_law_over) (sc := defScope s_law_over) (by decide +kernel)) (fun _ _ _ _ _ => (pg_name (i := 3) sc_law_over.nd rfl (Or.inl rfl))) (fun _ _ _ _ _ => pts_nil) (fun _ _ _ _ _ => (pe_tup (pa_cons (pv 3) (pa_cons (pe_dget (u1 hr) (pv 2) (pv 3) (fun _ _ => rfl)) pa_nil))))) pa_nil)) pa_nil)))))), ?_⟩
    walk_at "go"
    refine w_dictDn D0 fun d H1 n1 f1 e1 => ?_
    have M1 := M0.mono f1.tu
    have h1 := puts_len dn []
    have h2 := puts_len ms (puts [] dn)
    rw [List.length_nil] at h1
    walk_at "go"
    refine M1.walk (fun i σ H' => Fr [] H H' ∧ ∃ v3 v4, σ = [some v, some m, some (.ref d), v3, v4] ∧ H' d = some (.dK ((puts (puts [] dn) (ms.take i)).map emb)) ∧ Tu H1 H') ?_ ?_ ?_ ?_
    · exact ⟨f1, _, _, rfl, e1, Tu.refl⟩
    · rintro i σ H' ⟨f2, _, _, _, _, t⟩
      exact t
    · rintro i x dd σ H2 hi dx ⟨f2, v3, v4, rfl, e2, t2⟩
      obtain ⟨m, hm, rfl⟩ := map_get hi
      obtain ⟨q2, us, rfl, s2, av⟩ := dx.tuple
      cases av with
      | cons d1 av =>
      cases av with
      | cons d2 av =>
      cases av
      cases d1; cases d2
      have li := (List.getElem?_eq_some_iff.mp hm).1
      refine ⟨q2, _, rfl, s2, rfl, ?_⟩
      walk_at "go"
      refine w_dput ?_
      walk_at "go"
      refine ⟨d, _, rfl, DPut.k (k := .inr m.1) e2 ?_, ?_⟩
      · rw [List.length_map]
        have h2 := puts_len (ms.take i) (puts [] dn)
        rw [List.length_take] at h2
        exact Nat.lt_of_le_of_lt (show _ ≤ 100000 by omega) (by decide)
      · rw [emb_put, puts_take hm]
        have f3 : Fr [d] H2 (upd H2 d (.dK ((puts (puts [] dn) (ms.take (i + 1))).map emb))) := Fr.mut (by simp)
        exact ⟨Fr.drop1 n1 f2 f3, _, _, rfl, upd_same, t2.trans (Fr.tuK f3 e2)⟩
    · rintro σ H2 ⟨f2, v3, v4, rfl, e2, t2⟩
      rw [List.length_map, List.take_length] at e2
      have nd := puts_nodup ms _ (puts_nodup dn [] .nil)
      obtain ⟨l, el⟩ : ∃ l, puts (puts [] dn) ms = l := ⟨_, rfl⟩
      have ela : laid dn ms = l.mergeSort siLe := by unfold laid; rw [el]
      rw [el] at e2 nd h2
      rw [ela] at k
      walk_at "go"
      refine w_iKeys (w_frz ?_)
      walk_at "go"
      refine ⟨d, _, rfl, e2, fun o => ?_⟩
      have f3 : Fr [] H (upd H2 d (.frz o (.dK (l.map emb)))) := Fr.drop1 n1 f2 (Fr.mut (by simp))
      have e3 : upd H2 d (.frz o (.dK (l.map emb))) d = some (.frz o (.dK (l.map emb))) := upd_same
      generalize upd H2 d (.frz o (.dK (l.map emb))) = H3 at f3 e3
      have ll : (l.map emb).length ≤ 100000 := by rw [List.length_map]; omega
      refine ⟨d, o, rfl, .inl ⟨l.map emb, e3, LCX_K (K := K) U.pairD e3 ll ?_ ?_⟩⟩
      · intro kv H4 KEEP DROP hkv f4 kp
        obtain ⟨p, hp, rfl⟩ := List.mem_map.mp hkv
        walk_at "go"
        refine ⟨d, .int p.2, rfl, .inl ⟨_, .inr p.1, .inr ⟨o, f4 _ _ e3 (by simp)⟩, rfl, (valV_at nd hp).symm⟩, ?_⟩
        walk_at "go"
        refine mkT (K := K) (.cons (.str _) (.cons (.int _) .nil)) fun p5 H5 n5 f5 d5 => ?_
        exact kp _ _ f5 d5
      · intro D H4 nD f4 L4
        have e5 : (l.map emb).map U.pairD = l.map siD := by
          rw [List.map_map]
          rfl
        rw [e5] at L4
        walk_at "go"
        refine w_sortL L4 (by rw [List.length_map] at ll ⊢; exact ll) (si_sorty l) (fun x hx => ?_) fun p5 H5 n5 f5 L5 => ?_
        · obtain ⟨y, _, rfl⟩ := List.mem_map.mp hx
          simp [siD, PyData.depth, PyData.depthAll]
        rw [si_sort] at L5
        walk_at "go"
        refine w_tupleDn L5 fun p6 H6 n6 f6 D6 => ?_
        have f := ((f3.trans f4).trans f5).trans f6
        exact k p6 H6 (((f3.trans f4).trans f5).free n6) f D6
theorem prts_take {ws : List Wt} {i : Nat} {x : Wt} {sp : List PyData} {dn : List (Str × Int)} (h : ws[i]? = some x) : prts (ws.take (i + 1)) sp dn = prts (ws.take i) sp dn ++ prtsW x sp dn := by
  rw [List.take_add_one, h, prts_app]
  show _ ++ (prtsW x sp dn ++ []) = _
  rw [List.append_nil]
mutual
theorem prtsW_len : ∀ {n : Nat} {x : Wt} {sp : List PyData} {dn : List (Str × Int)}, wtok n x → (prtsW x sp dn).length ≤ 4 ^ n
  | n, .part s nm g, sp, dn, _ => by
    rw [prtsW]
    exact Nat.one_le_pow _ _ (by decide)
  | 0, .give .., _, _, h => by simp [wtok] at h
  | 0, .plain .., _, _, h => by simp [wtok] at h
  | n + 1, .give s nm m inner, sp, dn, h => by
    rw [wtok] at h
    rw [prtsW]
    have := prts_len (ws := inner) (sp := sp ++ [s]) (dn := over dn nm m) h.2.2
    have h2 := Nat.mul_le_mul_right (4 ^ n) h.2.1
    rw [Nat.pow_succ]
    omega
  | n + 1, .plain s nm m inner, sp, dn, h => by
    rw [wtok] at h
    rw [prtsW]
    have := prts_len (ws := inner) (sp := sp ++ [s]) (dn := dn) h.2.2
    have h2 := Nat.mul_le_mul_right (4 ^ n) h.2.1
    rw [Nat.pow_succ]
    omega
theorem prts_len : ∀ {n : Nat} {ws : List Wt} {sp : List PyData} {dn : List (Str × Int)}, wtoks n ws → (prts ws sp dn).length ≤ ws.length * 4 ^ n
  | n, [], sp, dn, _ => by rw [prts]; exact Nat.zero_le _
  | n, x :: r, sp, dn, h => by
    rw [wtoks] at h
    rw [prts, List.length_append, List.length_cons, Nat.succ_mul]
    have h1 := prtsW_len (sp := sp) (dn := dn) h.1
    have h2 := prts_len (sp := sp) (dn := dn) h.2
    omega
end
theorem row_len {m : Nat} {ws : List Wt} {sp : List PyData} {dn : List (Str × Int)} (h : wtoks m ws) (hl : ws.length ≤ 4) (hm : m ≤ 3) : (prts ws sp dn).length ≤ 256 := by
  have h1 := prts_len (sp := sp) (dn := dn) h
  have h2 : 4 ^ m ≤ 64 := Nat.pow_le_pow_right (n := 4) (i := m) (j := 3) (by decide) hm
  have h3 : ws.length * 4 ^ m ≤ 4 * 64 := Nat.mul_le_mul hl h2
  omega
theorem wt_at {n : Nat} {ws : List Wt} (h : wtoks n ws) {i : Nat} {x : Wt} (hx : ws[i]? = some x) : wtok n x := wtoks_all.mp h x (List.mem_of_getElem? hx)
theorem over_len {dn : List (Str × Int)} {nm : Str} {n : Int} : (over dn nm n).length ≤ dn.length + 1 := laid_len dn [(nm, n)]

def sp_gather (K : PySem.W.Frag) (n : Nat) : Sp := fun vs H Q _ => ∃ (r s v : V) (q : Addr) (m : Nat) (ws : List Wt) (sp : List PyData) (dn : List (Str × Int)) (acc : List PyData), vs = [r, s, v, .ref q] ∧ (m < n ∧ m ≤ 3) ∧ (wtoks m ws ∧ ws.length ≤ 4) ∧ Dt K H r (.tuple (wtsD ws)) ∧ Dt K H s (.tuple sp) ∧ sp.length + n ≤ 100 ∧ Dn K H v dn ∧ dn.length + n ≤ 100 ∧ Lq K H q acc ∧ acc.length + n * 300 ≤ 50000 ∧
  ∀ H', Fr [q] H H' → Tu H H' → Lq K H' q (acc ++ prts ws sp dn) → Q .non H'
theorem ok_gather (T : Env K mg) : ∀ n, Fx P w K mg base (2 + n) "gather" p_gather (sp_gather K n)
  | 0 => T.l_gather.ok (k := 2 - 1) sc_gather (fun vs H Q E h => by
      obtain ⟨_, _, _, _, _, _, _, _, _, _, h, _⟩ := h
      exact absurd h.1 (by omega)) (fun f cdv A outer s H vs Q E hr h => by
      obtain ⟨_, _, _, _, _, _, _, _, _, _, h, _⟩ := h
      exact absurd h.1 (by omega))
  | n + 1 => by
    have IH := ok_gather T n
    refine T.l_gather.ok sc_gather (fun vs H Q E h => ?_) (fun f cdv A outer s H vs Q E hr h => ?_)
    · obtain ⟨_, _, _, _, _, _, _, _, _, rfl, _⟩ := h
      rfl
    · obtain ⟨r, s', v, q, m, ws, sp, dn, acc, rfl, ⟨hm, hm3⟩, ⟨wk, lw⟩, R0, S0, ls, D0, ld, L0, la, k⟩ := h
      refine ⟨_, (pss_one (ps_for PassesOwn.never rfl (pi_tupU (K := K) rfl (pv 0)) (pg_name (i := 4) sc_gather.nd rfl (Or.inl rfl)) (pss_cons (ps_set (i := 5) sc_gather.nd rfl (Or.inl rfl) (pe_op (op_addU (K := K) rfl) (pv 1) (pe_tup (pa_cons (pe_ix (ix_U (K := K) rfl) (pv 4) pe_int (fun _ _ => rfl)) pa_nil))))
      (pss_one (ps_if (pt_cmpR (op_eqU (K := K) rfl (u64 hr)) (pe_ix (ix_U (K := K) rfl) (pv 4) pe_int (fun _ _ => rfl)) pe_str (nomark _)) (pss_one (ps_expr (pe_bm PySem.F.plainAttrs_list PySem.F.slot_list_append PySem.F.type_list_append mt_append (pv 3) (pa_cons (pe_tup (pa_cons (pv 5) (pa_cons (pe_ix (ix_U (K := K) rfl) (pv 4) pe_int (fun _ _ => rfl)) (pa_cons (pe_ix (ix_U (K := K) rfl) (pv 4) pe_int (fun _ _ => rfl)) (pa_cons (pv 2) pa_nil))))) pa_nil)))) (pss_one (ps_if (pt_cmpR (op_eqU (K := K) rfl (u64 hr)) (pe_ix (ix_U (K := K) rfl) (pv 4) pe_int (fun _ _ => rfl)) pe_str (nomark _)) (pss_one (ps_expr (pe_fx (IH) hr (Nat.le_refl _) (pa_cons (pe_ix (ix_U (K := K) rfl) (pv 4) pe_int (fun _ _ => rfl)) (pa_cons (pv 5) (pa_cons (pe_fx (ok_laid_over (P := P) (w := w) T) hr (Nat.le_trans (m := 2) (by decide) (Nat.le_add_right 2 _)) (pa_cons (pv 2) (pa_cons (pe_lst (pa_cons (pe_tup (pa_cons (pe_ix (ix_U (K := K) rfl) (pv 4) pe_int (fun _ _ => rfl)) (pa_cons (pe_ix (ix_U (K := K) rfl) (pv 4) pe_int (fun _ _ => rfl)) pa_nil))) pa_nil)) pa_nil))) (pa_cons (pv 3) pa_nil))))))) (pss_one (ps_expr (pe_fx (IH) hr (Nat.le_refl _) (pa_cons (pe_ix (ix_U (K := K) rfl) (pv 4) pe_int (fun _ _ => rfl)) (pa_cons (pv 5) (pa_cons (pv 2) (pa_cons (pv 3) pa_nil)))))))))))))), ?_⟩
      walk_at "go"
      refine R0.walk (fun i σ H' => Fr [q] H H' ∧ Tu H H' ∧ Lq K H' q (acc ++ prts (ws.take i) sp dn) ∧ ∃ v4 v5, σ = [some r, some s', some v, some (.ref q), v4, v5]) ?_ ?_ ?_ ?_
      · exact ⟨Fr.refl, Tu.refl, by rw [List.take_zero, prts, List.append_nil]; exact L0, _, _, rfl⟩
      · rintro i σ H' ⟨_, t, _⟩
        exact t
      · rintro i x dd σ H1 hi dx ⟨f1, t1, L1, v4, v5, rfl⟩
        rw [wtsD_map] at hi
        obtain ⟨wt, hwt, rfl⟩ := map_get hi
        have ok := wt_at wk hwt
        have la1 : (acc ++ prts (ws.take i) sp dn).length ≤ acc.length + 256 := by
          have := row_len (m := m) (ws := ws.take i) (sp := sp) (dn := dn) (wtoks_all.mpr fun x hx => wtoks_all.mp wk x (List.mem_of_mem_take hx)) (by rw [List.length_take]; omega) hm3
          rw [List.length_append]
          omega
        have S1 := S0.mono t1
        have D1 := D0.mono t1
        have nx := prts_take (sp := sp) (dn := dn) hwt
        cases wt with
        | part sd nm g =>
          rw [wtD] at dx
          obtain ⟨q2, us, rfl, s2, av⟩ := dx.tuple
          cases av with
          | cons d1 av =>
          cases av with
          | cons d2 av =>
          cases av with
          | cons d3 av =>
          cases av with
          | cons d4 av =>
          cases av
          cases d1; cases d3
          walk_at "go"
          refine w_ixT s2 rfl ?_
          walk_at "go"
          refine mkT (K := K) (.cons d2 .nil) fun p3 H3 n3 f3 dp3 => ?_
          refine Dt.cat (S1.mono f3.tu) dp3 (by show sp.length + 1 ≤ 1000; omega) fun p4 H4 f4 dp4 => ?_
          have f14 := f3.trans f4
          walk_at "go"
          refine w_ixT (f14.seqT s2 (by simp)) rfl ?_
          walk_at "go"
          refine ite_d (fun _ => ?_) fun h => (h rfl).elim
          walk_at "go"
          refine ⟨(L1.fr0 f14).ty, ?_⟩
          walk_at "go"
          refine w_ixT (f14.seqT s2 (by simp)) rfl ?_
          walk_at "go"
          refine w_ixT (f14.seqT s2 (by simp)) rfl ?_
          walk_at "go"
          refine mkT (K := K) (.cons dp4 (.cons (.str nm) (.cons (d4.mono f14.tu) (.cons (D1.fr0 f14).dt .nil)))) fun p5 H5 n5 f5 dp5 => ?_
          walk_at "go"
          refine ((L1.fr0 f14).fr0 f5).app dp5 (by omega) fun H6 f6 t6 L6 => ?_
          have f15 := f14.trans f5
          refine ⟨(f1.trans f15.to1).trans f6, (t1.trans f15.tu).trans t6, ?_, _, _, rfl⟩
          rw [nx, ← List.append_assoc, prtsW]
          exact L6
        | give sd nm n' inner =>
          rw [wtD] at dx
          obtain ⟨q2, us, rfl, s2, av⟩ := dx.tuple
          cases av with
          | cons d1 av =>
          cases av with
          | cons d2 av =>
          cases av with
          | cons d3 av =>
          cases av with
          | cons d4 av =>
          cases av with
          | cons d5 av =>
          cases av
          cases d1; cases d3; cases d4
          cases m with
          | zero => simp [wtok] at ok
          | succ m =>
          rw [wtok] at ok
          walk_at "go"
          refine w_ixT s2 rfl ?_
          walk_at "go"
          refine mkT (K := K) (.cons d2 .nil) fun p3 H3 n3 f3 dp3 => ?_
          refine Dt.cat (S1.mono f3.tu) dp3 (by show sp.length + 1 ≤ 1000; omega) fun p4 H4 f4 dp4 => ?_
          have f14 := f3.trans f4
          walk_at "go"
          refine w_ixT (f14.seqT s2 (by simp)) rfl ?_
          walk_at "go"
          refine ite_d (fun h => absurd h (by decide)) fun _ => ?_
          walk_at "go"
          refine w_ixT (f14.seqT s2 (by simp)) rfl ?_
          walk_at "go"
          refine ite_d (fun _ => ?_) fun h => (h rfl).elim
          walk_at "go"
          refine w_ixT (f14.seqT s2 (by simp)) rfl ?_
          walk_at "go"
          refine w_ixT (f14.seqT s2 (by simp)) rfl ?_
          walk_at "go"
          refine w_ixT (f14.seqT s2 (by simp)) rfl ?_
          walk_at "go"
          refine mkT (K := K) (.cons (.str nm) (.cons (.int n') .nil)) fun p5 H5 n5 f5 dp5 => ?_
          walk_at "go"
          refine mkL (K := K) (.cons dp5 .nil) fun p6 H6 n6 f6 L6 => ?_
          have f16 := (f14.trans f5).trans f6
          walk_at "go"
          refine ⟨v, p6, dn, [(nm, n')], rfl, D1.fr0 f16, L6, by show dn.length + 1 ≤ 90000; omega, fun p7 H7 n7 f7 D7 => ?_⟩
          have f17 := f16.trans f7
          walk_at "go"
          refine ⟨_, _, _, q, m, inner, sp ++ [sd], over dn nm n', _, rfl, ⟨by omega, by omega⟩, ⟨ok.2.2, ok.2.1⟩, d5.mono f17.tu, dp4.mono ((f5.trans f6).trans f7).tu, by rw [List.length_append, List.length_singleton]; omega, D7, by have := over_len (dn := dn) (nm := nm) (n := n'); omega, L1.fr0 f17, by omega, fun H8 f8 t8 L8 => ?_⟩
          walk_at "go"
          refine ⟨(f1.trans f17.to1).trans f8, (t1.trans f17.tu).trans t8, ?_, _, _, rfl⟩
          rw [nx, ← List.append_assoc, prtsW]
          exact L8
        | plain sd nm g inner =>
          rw [wtD] at dx
          obtain ⟨q2, us, rfl, s2, av⟩ := dx.tuple
          cases av with
          | cons d1 av =>
          cases av with
          | cons d2 av =>
          cases av with
          | cons d3 av =>
          cases av with
          | cons d4 av =>
          cases av with
          | cons d5 av =>
          cases av with
          | cons d6 av =>
          cases av
          cases d1; cases d3
          cases m with
          | zero => simp [wtok] at ok
          | succ m =>
          rw [wtok] at ok
          walk_at "go"
          refine w_ixT s2 rfl ?_
          walk_at "go"
          refine mkT (K := K) (.cons d2 .nil) fun p3 H3 n3 f3 dp3 => ?_
          refine Dt.cat (S1.mono f3.tu) dp3 (by show sp.length + 1 ≤ 1000; omega) fun p4 H4 f4 dp4 => ?_
          have f14 := f3.trans f4
          walk_at "go"
          refine w_ixT (f14.seqT s2 (by simp)) rfl ?_
          walk_at "go"
          refine ite_d (fun h => absurd h (by decide)) fun _ => ?_
          walk_at "go"
          refine w_ixT (f14.seqT s2 (by simp)) rfl ?_
          walk_at "go"
          refine ite_d (fun h => absurd h (by decide)) fun _ => ?_
          walk_at "go"
          refine w_ixT (f14.seqT s2 (by simp)) rfl ?_
          walk_at "go"
          refine ⟨_, _, _, q, m, inner, sp ++ [sd], dn, _, rfl, ⟨by omega, by omega⟩, ⟨ok.2.2, ok.2.1⟩, d6.mono f14.tu, dp4, by rw [List.length_append, List.length_singleton]; omega, D1.fr0 f14, by omega, L1.fr0 f14, by omega, fun H8 f8 t8 L8 => ?_⟩
          walk_at "go"
          refine ⟨(f1.trans f14.to1).trans f8, (t1.trans f14.tu).trans t8, ?_, _, _, rfl⟩
          rw [nx, ← List.append_assoc, prtsW]
          exact L8
      · rintro σ H1 ⟨f1, t1, L1, v4, v5, rfl⟩
        rw [wtsD_map, List.length_map, List.take_length] at L1
        walk_at "go"
        exact k H1 f1 t1 L1

end

section
variable {P : Program} {w : World} {K : PySem.W.Frag} {mg : Str → Option Value} {base : Heap}
/-- an empty plain tuple -/
theorem mkNilP {H : Hp} {Q : VK} (q : ∀ p H', H p = none → Fr [] H H' → Dn K H' (.ref p) [] → Q (.ref p) H') : MkTP [] Q H := ⟨Nat.zero_le _, fun p us hp => q p _ hp (Fr.new hp) (Dn.nil ⟨us, upd_same⟩)⟩

def sp_parts_in (K : PySem.W.Frag) : Sp := fun vs H Q _ => ∃ (r : V) (m : Nat) (ws : List Wt), vs = [r] ∧ m ≤ 3 ∧ (wtoks m ws ∧ ws.length ≤ 4) ∧ Dt K H r (.tuple (wtsD ws)) ∧ ∀ p H', H p = none → Fr [] H H' → Lq K H' p (prts ws [] []) → Q (.ref p) H'
theorem ok_parts_in (T : Env K mg) : Fx P w K mg base 7 "parts_in" p_parts_in (sp_parts_in K) := by
  refine T.l_parts_in.ok sc_parts_in (fun vs H Q E h => ?_) (fun f cdv A outer s H vs Q E hr h => ?_)
  · obtain ⟨_, _, _, rfl, _⟩ := h
    rfl
  · obtain ⟨r, m, ws, rfl, hm, hw, R0, k⟩ := h
    refine ⟨_, (pss_cons (ps_set (i := 1) sc_parts_in.nd rfl (Or.inl rfl) (pe_lst pa_nil))
      (pss_cons (ps_expr (pe_fx (ok_gather (P := P) (w := w) T 4) hr (by decide) (pa_cons (pv 0) (pa_cons (pe_tupP pa_nil) (pa_cons (pe_tupP pa_nil) (pa_cons (pv 1) pa_nil))))))
      (pss_one (ps_ret (pv 1))))), ?_⟩
    walk_at "go"
    refine mkL (K := K) .nil fun q H1 n1 f1 L1 => ?_
    walk_at "go"
    refine w_tupP ?_
    walk_at "go"
    refine mkNilP (K := K) fun p2 H2 n2 f2 D2 => ?_
    walk_at "go"
    refine w_tupP ?_
    walk_at "go"
    refine mkNilP (K := K) fun p3 H3 n3 f3 D3 => ?_
    walk_at "go"
    have f23 := f2.trans f3
    refine ⟨r, _, _, q, m, ws, [], [], [], rfl, ⟨by omega, hm⟩, hw, R0.mono (f1.trans f23).tu, (D2.fr0 f3).dt, by decide, D3, by decide, L1.fr0 f23, by decide, fun H4 f4 t4 L4 => ?_⟩
    walk_at "go"
    exact k q H4 n1 (Fr.drop1 n1 (f1.trans f23) f4) L4

def sp_law_parts (K : PySem.W.Frag) (n : Nat) : Sp := fun vs H Q _ => ∃ (r s v : V) (m : Nat) (ws : List Wt) (sp : List PyData) (dn : List (Str × Int)), vs = [r, s, v] ∧ (m < n ∧ m ≤ 3) ∧ (wtoks m ws ∧ ws.length ≤ 4) ∧ Dt K H r (.tuple (wtsD ws)) ∧ Dt K H s (.tuple sp) ∧ sp.length + n ≤ 100 ∧ Dn K H v dn ∧ dn.length + n ≤ 100 ∧
  ∀ p H', H p = none → Fr [] H H' → Lq K H' p (prts ws sp dn) → Q (.ref p) H'
theorem ok_law_parts (T : Env K mg) : ∀ n, Fx P w K mg base (2 + n) "_law_parts" p_law_parts (sp_law_parts K n)
  | 0 => T.l_law_parts.ok (k := 2 - 1) sc_law_parts (fun vs H Q E h => by
      obtain ⟨_, _, _, _, _, _, _, _, h, _⟩ := h
      exact absurd h.1 (by omega)) (fun f cdv A outer s H vs Q E hr h => by
      obtain ⟨_, _, _, _, _, _, _, _, h, _⟩ := h
      exact absurd h.1 (by omega))
  | n + 1 => by
    have IH := ok_law_parts T n
    refine T.l_law_parts.ok sc_law_parts (fun vs H Q E h => ?_) (fun f cdv A outer s H vs Q E hr h => ?_)
    · obtain ⟨_, _, _, _, _, _, _, rfl, _⟩ := h
      rfl
    · obtain ⟨r, s', v, m, ws, sp, dn, rfl, ⟨hm, hm3⟩, ⟨wk, lw⟩, R0, S0, ls, D0, ld, k⟩ := h
      refine ⟨_, (pss_cons (ps_set (i := 3) sc_law_parts.nd rfl (Or.inl rfl) (pe_lst pa_nil))
      (pss_cons (ps_for PassesOwn.never rfl (pi_tupU (K := K) rfl (pv 0)) (pg_name (i := 4) sc_law_parts.nd rfl (Or.inl rfl)) (pss_cons (ps_set (i := 5) sc_law_parts.nd rfl (Or.inl rfl) (pe_op (op_addU (K := K) rfl) (pv 1) (pe_tup (pa_cons (pe_ix (ix_U (K := K) rfl) (pv 4) pe_int (fun _ _ => rfl)) pa_nil))))
      (pss_cons (ps_if (pt_cmpR (op_eqU (K := K) rfl (u64 hr)) (pe_ix (ix_U (K := K) rfl) (pv 4) pe_int (fun _ _ => rfl)) pe_str (nomark _)) (pss_one (ps_expr (pe_bm PySem.F.plainAttrs_list PySem.F.slot_list_append PySem.F.type_list_append mt_append (pv 3) (pa_cons (pe_tup (pa_cons (pv 5) (pa_cons (pe_ix (ix_U (K := K) rfl) (pv 4) pe_int (fun _ _ => rfl)) (pa_cons (pe_ix (ix_U (K := K) rfl) (pv 4) pe_int (fun _ _ => rfl)) (pa_cons (pv 2) pa_nil))))) pa_nil)))) pss_nil)
      (pss_cons (ps_if (pt_cmpR (op_eqU (K := K) rfl (u64 hr)) (pe_ix (ix_U (K := K) rfl) (pv 4) pe_int (fun _ _ => rfl)) pe_str (nomark _)) (pss_one (ps_set (i := 3) sc_law_parts.nd rfl (Or.inl rfl) (pe_op (op_addU (K := K) rfl) (pv 3) (pe_fx (IH) hr (Nat.le_refl _) (pa_cons (pe_ix (ix_U (K := K) rfl) (pv 4) pe_int (fun _ _ => rfl)) (pa_cons (pv 5) (pa_cons (pe_fx (ok_law_over (P := P) (w := w) T) hr (Nat.le_trans (m := 2) (by decide) (Nat.le_add_right 2 _)) (pa_cons (pv 2) (pa_cons (pe_tup (pa_cons (pe_tup (pa_cons (pe_ix (ix_U (K := K) rfl) (pv 4) pe_int (fun _ _ => rfl)) (pa_cons (pe_ix (ix_U (K := K) rfl) (pv 4) pe_int (fun _ _ => rfl)) pa_nil))) pa_nil)) pa_nil))) pa_nil))))))) pss_nil)
      (pss_one (ps_if (pt_cmpR (op_eqU (K := K) rfl (u64 hr)) (pe_ix (ix_U (K := K) rfl) (pv 4) pe_int (fun _ _ => rfl)) pe_str (nomark _)) (pss_one (ps_set (i := 3) sc_law_parts.nd rfl (Or.inl rfl) (pe_op (op_addU (K := K) rfl) (pv 3) (pe_fx (IH) hr (Nat.le_refl _) (pa_cons (pe_ix (ix_U (K := K) rfl) (pv 4) pe_int (fun _ _ => rfl)) (pa_cons (pv 5) (pa_cons (pv 2) pa_nil))))))) pss_nil))))))
      (pss_one (ps_ret (pv 3))))), ?_⟩
      walk_at "go"
      refine mkL (K := K) .nil fun q0 H0 n0 f0 L0 => ?_
      walk_at "go"
      refine (R0.mono f0.tu).walk (fun i σ H' => Fr [] H H' ∧ Tu H0 H' ∧ ∃ q v4 v5, σ = [some r, some s', some v, some (.ref q), v4, v5] ∧ H q = none ∧ Lq K H' q (prts (ws.take i) sp dn)) ?_ ?_ ?_ ?_
      · exact ⟨f0, Tu.refl, q0, _, _, rfl, n0, by rw [List.take_zero, prts]; exact L0⟩
      · rintro i σ H' ⟨_, t, _⟩
        exact t
      · rintro i x dd σ H1 hi dx ⟨f1, t1, q, v4, v5, rfl, nq, L1⟩
        rw [wtsD_map] at hi
        obtain ⟨wt, hwt, rfl⟩ := map_get hi
        have ok := wt_at wk hwt
        have la1 : (prts (ws.take i) sp dn).length ≤ 256 := row_len (m := m) (ws := ws.take i) (sp := sp) (dn := dn) (wtoks_all.mpr fun x hx => wtoks_all.mp wk x (List.mem_of_mem_take hx)) (by rw [List.length_take]; omega) hm3
        have t01 := f1.tu
        have S1 := S0.mono t01
        have D1 := D0.mono t01
        have nx := prts_take (sp := sp) (dn := dn) hwt
        cases wt with
        | part sd nm g =>
          rw [wtD] at dx
          obtain ⟨q2, us, rfl, s2, av⟩ := dx.tuple
          cases av with
          | cons d1 av =>
          cases av with
          | cons d2 av =>
          cases av with
          | cons d3 av =>
          cases av with
          | cons d4 av =>
          cases av
          cases d1; cases d3
          walk_at "go"
          refine w_ixT s2 rfl ?_
          walk_at "go"
          refine mkT (K := K) (.cons d2 .nil) fun p3 H3 n3 f3 dp3 => ?_
          refine Dt.cat (S1.mono f3.tu) dp3 (by show sp.length + 1 ≤ 1000; omega) fun p4 H4 f4 dp4 => ?_
          have f14 := f3.trans f4
          walk_at "go"
          refine w_ixT (f14.seqT s2 (by simp)) rfl ?_
          walk_at "go"
          refine ite_d (fun _ => ?_) fun h => (h rfl).elim
          walk_at "go"
          refine ⟨(L1.fr0 f14).ty, ?_⟩
          walk_at "go"
          refine w_ixT (f14.seqT s2 (by simp)) rfl ?_
          walk_at "go"
          refine w_ixT (f14.seqT s2 (by simp)) rfl ?_
          walk_at "go"
          refine mkT (K := K) (.cons dp4 (.cons (.str nm) (.cons (d4.mono f14.tu) (.cons (D1.fr0 f14).dt .nil)))) fun p5 H5 n5 f5 dp5 => ?_
          walk_at "go"
          refine ((L1.fr0 f14).fr0 f5).app dp5 (by omega) fun H6 f6 t6 L6 => ?_
          have f15 := f14.trans f5
          have s6 := t6.seqT (f15.seqT s2 (by simp))
          walk_at "go"
          refine w_ixT s6 rfl ?_
          walk_at "go"
          refine ite_d (fun h => absurd h (by decide)) fun _ => ?_
          walk_at "go"
          refine w_ixT s6 rfl ?_
          walk_at "go"
          refine ite_d (fun h => absurd h (by decide)) fun _ => ?_
          walk_at "go"
          refine ⟨Fr.drop1 nq (f1.trans f15) f6, (t1.trans f15.tu).trans t6, q, _, _, rfl, nq, ?_⟩
          rw [nx, prtsW]
          exact L6
        | give sd nm n' inner =>
          rw [wtD] at dx
          obtain ⟨q2, us, rfl, s2, av⟩ := dx.tuple
          cases av with
          | cons d1 av =>
          cases av with
          | cons d2 av =>
          cases av with
          | cons d3 av =>
          cases av with
          | cons d4 av =>
          cases av with
          | cons d5 av =>
          cases av
          cases d1; cases d3; cases d4
          cases m with
          | zero => simp [wtok] at ok
          | succ m =>
          rw [wtok] at ok
          walk_at "go"
          refine w_ixT s2 rfl ?_
          walk_at "go"
          refine mkT (K := K) (.cons d2 .nil) fun p3 H3 n3 f3 dp3 => ?_
          refine Dt.cat (S1.mono f3.tu) dp3 (by show sp.length + 1 ≤ 1000; omega) fun p4 H4 f4 dp4 => ?_
          have f14 := f3.trans f4
          walk_at "go"
          refine w_ixT (f14.seqT s2 (by simp)) rfl ?_
          walk_at "go"
          refine ite_d (fun h => absurd h (by decide)) fun _ => ?_
          walk_at "go"
          refine w_ixT (f14.seqT s2 (by simp)) rfl ?_
          walk_at "go"
          refine ite_d (fun _ => ?_) fun h => (h rfl).elim
          walk_at "go"
          refine w_ixT (f14.seqT s2 (by simp)) rfl ?_
          walk_at "go"
          refine w_ixT (f14.seqT s2 (by simp)) rfl ?_
          walk_at "go"
          refine w_ixT (f14.seqT s2 (by simp)) rfl ?_
          walk_at "go"
          refine mkT (K := K) (.cons (.str nm) (.cons (.int n') .nil)) fun p5 H5 n5 f5 dp5 => ?_
          walk_at "go"
          refine mkT (K := K) (.cons dp5 .nil) fun p6 H6 n6 f6 dp6 => ?_
          have f16 := (f14.trans f5).trans f6
          walk_at "go"
          refine ⟨v, _, dn, [(nm, n')], rfl, D1.fr0 f16, dp6, by show dn.length + 1 ≤ 90000; omega, fun p7 H7 n7 f7 D7 => ?_⟩
          have f17 := f16.trans f7
          walk_at "go"
          refine ⟨_, _, _, m, inner, sp ++ [sd], over dn nm n', rfl, ⟨by omega, by omega⟩, ⟨ok.2.2, ok.2.1⟩, d5.mono f17.tu, dp4.mono ((f5.trans f6).trans f7).tu, by rw [List.length_append, List.length_singleton]; omega, D7, by have := over_len (dn := dn) (nm := nm) (n := n'); omega, fun p8 H8 n8 f8 L8 => ?_⟩
          have li : (prts inner (sp ++ [sd]) (over dn nm n')).length ≤ 256 := row_len ok.2.2 ok.2.1 (by omega)
          walk_at "go"
          refine ((L1.fr0 f17).fr0 f8).cat L8 (by omega) fun p9 H9 n9 f9 L9 => ?_
          have f19 := (f17.trans f8).trans f9
          walk_at "go"
          refine w_ixT (f19.seqT s2 (by simp)) rfl ?_
          walk_at "go"
          refine ite_d (fun h => absurd h (by decide)) fun _ => ?_
          walk_at "go"
          refine ⟨f1.trans f19, t1.trans f19.tu, p9, _, _, rfl, ((f1.trans f17).trans f8).free n9, ?_⟩
          rw [nx, prtsW]
          exact L9
        | plain sd nm g inner =>
          rw [wtD] at dx
          obtain ⟨q2, us, rfl, s2, av⟩ := dx.tuple
          cases av with
          | cons d1 av =>
          cases av with
          | cons d2 av =>
          cases av with
          | cons d3 av =>
          cases av with
          | cons d4 av =>
          cases av with
          | cons d5 av =>
          cases av with
          | cons d6 av =>
          cases av
          cases d1; cases d3
          cases m with
          | zero => simp [wtok] at ok
          | succ m =>
          rw [wtok] at ok
          walk_at "go"
          refine w_ixT s2 rfl ?_
          walk_at "go"
          refine mkT (K := K) (.cons d2 .nil) fun p3 H3 n3 f3 dp3 => ?_
          refine Dt.cat (S1.mono f3.tu) dp3 (by show sp.length + 1 ≤ 1000; omega) fun p4 H4 f4 dp4 => ?_
          have f14 := f3.trans f4
          walk_at "go"
          refine w_ixT (f14.seqT s2 (by simp)) rfl ?_
          walk_at "go"
          refine ite_d (fun h => absurd h (by decide)) fun _ => ?_
          walk_at "go"
          refine w_ixT (f14.seqT s2 (by simp)) rfl ?_
          walk_at "go"
          refine ite_d (fun h => absurd h (by decide)) fun _ => ?_
          walk_at "go"
          refine w_ixT (f14.seqT s2 (by simp)) rfl ?_
          walk_at "go"
          refine ite_d (fun _ => ?_) fun h => (h rfl).elim
          walk_at "go"
          refine w_ixT (f14.seqT s2 (by simp)) rfl ?_
          walk_at "go"
          refine ⟨_, _, _, m, inner, sp ++ [sd], dn, rfl, ⟨by omega, by omega⟩, ⟨ok.2.2, ok.2.1⟩, d6.mono f14.tu, dp4, by rw [List.length_append, List.length_singleton]; omega, D1.fr0 f14, by omega, fun p8 H8 n8 f8 L8 => ?_⟩
          have li : (prts inner (sp ++ [sd]) dn).length ≤ 256 := row_len ok.2.2 ok.2.1 (by omega)
          walk_at "go"
          refine ((L1.fr0 f14).fr0 f8).cat L8 (by omega) fun p9 H9 n9 f9 L9 => ?_
          have f19 := (f14.trans f8).trans f9
          walk_at "go"
          refine ⟨f1.trans f19, t1.trans f19.tu, p9, _, _, rfl, ((f1.trans f14).trans f8).free n9, ?_⟩
          rw [nx, prtsW]
          exact L9
      · rintro σ H1 ⟨f1, t1, q, v4, v5, rfl, nq, L1⟩
        rw [wtsD_map, List.length_map, List.take_length] at L1
        walk_at "go"
        exact k q H1 nq f1 L1
end

section
variable {P : Program} {w : World} {K : PySem.W.Frag} {mg : Str → Option Value} {base : Heap}
/-- a comprehension over texts that draws -/
theorem LC_strs {H0 H : Hp} {t q : Addr} {ns : List Str} {ws : List Nat} {σ : L2.St} {tg : TG} {tt : TT} {te : TE} {Q : VK} (R : Str → PyData → Prop)
    (h : Lq K H q (ns.map .str)) (T : Tape K H0 H t) (nq : q ≠ t) (ln : ns.length ≤ 1000)
    (hs : ∀ (c : Str) (H' : Hp) (KEEP : VK) (DROP : Hp → Prop), Tape K H0 H' t → Fr [t] H H' → (∀ y d H2, Fr [t] H' H2 → Tape K H0 H2 t → Dt K H2 y d → R c d → KEEP y H2) →
      tg (.str c) (wipe σ ws) H' fun σ2 H2 => wipe σ2 ws = wipe σ ws ∧ tt σ2 H2 fun k H3 => if k = true then te σ2 H3 KEEP else DROP H3)
    (k : ∀ D H' ds, H D = none → Fr [t] H H' → Tape K H0 H' t → Lq K H' D ds → Paired R ns ds → Q (.ref D) H') :
    ∃ a', V.ref q = .ref a' ∧ (∃ ys, SqL K H a' ys) ∧ ∀ D, H D = none → LC (Itl K a') tg tt te ws σ D Q (upd H D (.lst [])) := by
  have hq : H q = some (.lst (ns.map V.str)) := by
    obtain ⟨vs, e, a⟩ := h
    have : ∀ {vs : List V} {ns : List Str}, DtAll K H vs (ns.map .str) → vs = ns.map V.str := by
      intro vs ns
      induction ns generalizing vs with
      | nil => intro a; cases a; rfl
      | cons n r ih =>
        intro a
        cases a with
        | cons a b =>
        cases a
        rw [List.map_cons, ih b]
    rw [e, this a]
  refine LC_L (SqL.of hq) fun D hD => LC_by (a := q) (xs := ns.map V.str) (fun i H' => Fr [t] H H' ∧ Tape K H0 H' t ∧ ∃ ds, Lq K H' D ds ∧ Paired R (ns.take i) ds) ⟨(Fr.new hD), T.new hD, [], ⟨[], upd_same, .nil⟩, .nil⟩ (fun i H' _ h => SqL.of (h.1 _ _ hq (by simpa using nq))) ?_ ?_
  · rintro i x H' hx ⟨f', T', ds, L, pr⟩
    rw [List.getElem?_map] at hx
    obtain ⟨c, hc, rfl⟩ := Option.map_eq_some_iff.mp hx
    have nD := T.ne hD
    have ld : ds.length ≤ ns.length := by
      have := Paired.len pr
      rw [List.length_take] at this
      omega
    refine hs c H' _ _ T' f' (fun y d H2 f2 T2 dy r => ?_)
    obtain ⟨ys, hys, dys⟩ := L.fr f2 (by simpa using nD) (T'.tu f2)
    refine ⟨ys, hys, Nat.lt_of_le_of_lt (show ys.length ≤ 100000 by rw [dys.length]; omega) (by decide), Fr.drop1 hD (f'.trans f2) (Fr.mut (by simp)), T2.mut nD (T.no hD), ds ++ [d], ⟨_, upd_same, (dys.append (.cons dy .nil)).mono (Tu.mut hys)⟩, ?_⟩
    rw [List.take_add_one, hc]
    exact Paired.snoc pr r
  · rintro H' ⟨f', T', ds, L, pr⟩
    rw [List.length_map, List.take_length] at pr
    exact k D H' ds hD f' T' L pr
def sp_law_number (K : PySem.W.Frag) : Sp := fun vs H Q _ => ∃ (t : Addr) (H0 : Hp), vs = [.ref t] ∧ Tape K H0 H t ∧ ∀ r H', Fr [t] H H' → Tape K H0 H' t → Q (.int r) H'
theorem ok_law_number (T : Env K mg) : Fx P w K mg base 2 "_law_number" p_law_number (sp_law_number K) := by
  refine T.l_law_number.ok sc_law_number (fun vs H Q E h => ?_) (fun f cdv A outer s H vs Q E hr h => ?_)
  · obtain ⟨t, _, rfl, _⟩ := h
    rfl
  · obtain ⟨t, H0, rfl, hT, k⟩ := h
    refine ⟨_, (pss_cons (ps_if (pt_cmpR op_gt (pe_fx (ok_law_draw (P := P) (w := w) T) hr (by decide) (pa_cons (pv 0) (pa_cons pe_int pa_nil))) pe_int (nomark _)) (pss_one (ps_ret (pe_op op_sub (pe_fx (ok_law_draw (P := P) (w := w) T) hr (by decide) (pa_cons (pv 0) (pa_cons pe_int pa_nil))) pe_int))) pss_nil)
      (pss_one (ps_ret (pe_ix (ix_U (K := K) rfl) (pe_lst (pa_cons (pe_op op_pow pe_int pe_int) (pa_cons (pe_un un_neg (pe_op op_pow pe_int pe_int)) (pa_cons pe_int (pa_cons (pe_un un_neg pe_int) pa_nil))))) (pe_fx (ok_law_draw (P := P) (w := w) T) hr (by decide) (pa_cons (pv 0) (pa_cons pe_int pa_nil))) (fun _ _ => rfl))))), ?_⟩
    walk_at "go"
    refine ⟨t, 8, H0, rfl, hT, by decide, by decide, fun r H1 r0 r1 f1 T1 => ?_⟩
    walk_at "go"
    refine ite_d (fun h0 => ?_) (fun h0 => ?_)
    · walk_at "go"
      refine ⟨t, 9, H0, rfl, T1, by decide, by decide, fun r2 H2 r20 r21 f2 T2 => ?_⟩
      walk_at "go"
      exact k _ _ (f1.trans f2) T2
    · walk_at "go"
      refine ⟨by show 4 ≤ sizeLine; decide, fun l hl => ?_⟩
      walk_at "go"
      refine ⟨t, 4, H0, rfl, T1.new hl, by decide, by decide, fun r2 H2 r20 r21 f2 T2 => ?_⟩
      have e2 : H2 l = some (.lst (([1000000000, -1000000000, 999983, -70001] : List Int).map V.int)) := f2 _ _ upd_same (by simpa using T1.ne hl)
      obtain ⟨z, hz, hb⟩ := at_all (ns := [1000000000, -1000000000, 999983, -70001]) (P := fun r => True) (fun _ _ => True.intro) r20 r21
      refine w_ixL (SqL.of e2) hz ?_
      exact k _ _ ((f1.trans (Fr.new hl)).trans f2) T2
def sp_law_names (K : PySem.W.Frag) : Sp := fun vs H Q _ => ∃ (t : Addr) (m : Nat) (H0 : Hp), vs = [.ref t, .int m] ∧ m ≤ 12 ∧ Tape K H0 H t ∧ ∀ p (ns : List Str) H', H p = none → ns.length = m → Fr [t] H H' → Tape K H0 H' t → Lq K H' p (ns.map .str) → Q (.ref p) H'
theorem ok_law_names (T : Env K mg) : Fx P w K mg base 2 "_law_names" p_law_names (sp_law_names K) := by
  refine T.l_law_names.ok sc_law_names (fun vs H Q E h => ?_) (fun f cdv A outer s H vs Q E hr h => ?_)
  · obtain ⟨t, _, _, rfl, _⟩ := h
    rfl
  · obtain ⟨t, m, H0, rfl, hm, T0, k⟩ := h
    refine ⟨_, (pss_cons (ps_set (i := 2) sc_law_names.nd rfl (Or.inr rfl) (pe_lst (pa_cons pe_str (pa_cons pe_str (pa_cons pe_str (pa_cons pe_str (pa_cons pe_str (pa_cons pe_str (pa_cons pe_str (pa_cons pe_str (pa_cons pe_str (pa_cons pe_str (pa_cons pe_str (pa_cons pe_str pa_nil))))))))))))))
      (pss_cons (ps_set (i := 3) sc_law_names.nd rfl (Or.inr rfl) (pe_fx (ok_law_draw (P := P) (w := w) T) hr (by decide) (pa_cons (pv 0) (pa_cons pe_int pa_nil))))
      (pss_cons (ps_set (i := 4) sc_law_names.nd rfl (Or.inr rfl) (pe_ix (ix_U (K := K) rfl) (pe_lst (pa_cons pe_int (pa_cons pe_int (pa_cons pe_int (pa_cons pe_int pa_nil))))) (pe_fx (ok_law_draw (P := P) (w := w) T) hr (by decide) (pa_cons (pv 0) (pa_cons pe_int pa_nil))) (fun _ _ => rfl)))
      (pss_one (ps_ret (pe_lc (own := [("_law_k", 5)]) (g := (gName 5)) (tt := tYes) rfl sc_law_names.nd (pi_range1 rfl T.m_range (pa_cons (pv 1) pa_nil)) (blkOk_by (N := N_law_names) (sc := defScope s_law_names) (by decide +kernel)) (fun _ _ _ _ _ => (pg_name (i := 5) sc_law_names.nd rfl (Or.inl rfl))) (fun _ _ _ _ _ => pts_nil) (fun _ _ _ _ _ => (pe_ix (ix_U (K := K) rfl) (pv 2) (pe_op op_mod (pe_op (op_addU (K := K) rfl) (pv 3) (pe_op op_mulU (pv 4) (pv 5))) pe_int) (fun _ _ => rfl))))))))), ?_⟩
    walk_at "go"
    refine ⟨by show 12 ≤ sizeLine; decide, fun l hl => ?_⟩
    have nl : l ≠ t := T0.ne hl
    walk_at "go"
    refine ⟨t, 12, H0, rfl, T0.new hl, by decide, by decide, fun r2 H2 r20 r21 f2 T2 => ?_⟩
    walk_at "go"
    refine ⟨by show 4 ≤ sizeLine; decide, fun l3 hl3 => ?_⟩
    walk_at "go"
    refine ⟨t, 4, H0, rfl, T2.new hl3, by decide, by decide, fun r4 H4 r40 r41 f4 T4 => ?_⟩
    have e4 : H4 l3 = some (.lst (([1, 5, 7, 11] : List Int).map V.int)) := f4 _ _ upd_same (by simpa using T2.ne hl3)
    obtain ⟨z, hz, hb⟩ := at_all (ns := [1, 5, 7, 11]) (P := fun r => 0 ≤ r ∧ r ≤ 11) (by decide) r40 r41
    refine w_ixL (SqL.of e4) hz ?_
    walk_at "go"
    have f14 := (f2.trans (Fr.new hl3)).trans f4
    have el : H4 l = some (.lst (([("a" : Str), "ab", "abc", "b", "ba", "box", "end", "give", "part", "plain", "turn", "abcdefgh"] : List Str).map V.str)) := f14 _ _ upd_same (by simpa using nl)
    refine LC_R1 m rfl (by omega) (by omega) fun D nD => ⟨fun i H' => Fr [] H4 H' ∧ ∃ ns : List Str, ns.length = i ∧ Lq K H' D (ns.map .str), ⟨Fr.new nD, [], rfl, [], upd_same, .nil⟩, ?_, ?_⟩
    · rintro i H' hi ⟨f5, ns, ln, L5⟩
      walk_at "go"
      refine w_mulI (.inr (by omega)) ?_
      walk_at "go"
      refine w_rI (by show (0 : Int) < 12; decide) ?_
      obtain ⟨c, hc, _⟩ := at_str (ns := [("a" : Str), "ab", "abc", "b", "ba", "box", "end", "give", "part", "plain", "turn", "abcdefgh"]) (P := fun _ => True) (fun _ _ => True.intro) (p := (r2 + z * (i : Int)) % 12) (Int.emod_nonneg _ (by decide)) (Int.emod_lt_of_pos _ (by decide))
      refine w_ixL (SqL.of (f5 _ _ el (by simp))) hc ?_
      obtain ⟨ys, hys, dys⟩ := L5
      refine ⟨ys, hys, Nat.lt_of_le_of_lt (show ys.length ≤ 100000 by rw [dys.length, List.length_map]; omega) (by decide), Fr.drop1 nD f5 (Fr.mut (by simp)), ns ++ [c], by rw [List.length_append, List.length_singleton, ln], _, upd_same, ?_⟩
      rw [List.map_append]
      exact (dys.append (.cons (.str c) .nil)).mono (Tu.mut hys)
    · rintro H' ⟨f5, ns, ln, L5⟩
      walk_at "go"
      have fa : Fr [t] H H4 := (Fr.new hl).to1.trans f14
      exact k D ns H' (fa.free1' nD (T4.ne nD)) ln (fa.trans f5.to1) (T4.fr f5) L5
theorem si_of {ns : List Str} : ∀ {ds : List PyData}, Paired (fun (c : Str) (d : PyData) => ∃ n : Int, d = siD (c, n)) ns ds → ∃ g : List (Str × Int), ds = g.map siD ∧ g.length = ns.length := by
  induction ns with
  | nil => intro ds h; cases h; exact ⟨[], rfl, rfl⟩
  | cons n r ih =>
    intro ds h
    cases h with
    | cons a b =>
      obtain ⟨m, rfl⟩ := a
      obtain ⟨g, rfl, lg⟩ := ih b
      exact ⟨(n, m) :: g, rfl, by rw [List.length_cons, List.length_cons, lg]⟩
def sp_law_numbered (K : PySem.W.Frag) : Sp := fun vs H Q _ => ∃ (t : Addr) (H0 : Hp), vs = [.ref t] ∧ Tape K H0 H t ∧ ∀ v (g : List (Str × Int)) H', g.length ≤ 4 → Fr [t] H H' → Tape K H0 H' t → Dt K H' v (gvD g) → Q v H'
theorem ok_law_numbered (T : Env K mg) : Fx P w K mg base 3 "_law_numbered" p_law_numbered (sp_law_numbered K) := by
  refine T.l_law_numbered.ok sc_law_numbered (fun vs H Q E h => ?_) (fun f cdv A outer s H vs Q E hr h => ?_)
  · obtain ⟨t, _, rfl, _⟩ := h
    rfl
  · obtain ⟨t, H0, rfl, T0, k⟩ := h
    refine ⟨_, (pss_cons (ps_set (i := 1) sc_law_numbered.nd rfl (Or.inl rfl) (pe_slice (sl_U (K := K) rfl) (pe_lst (pa_cons pe_str (pa_cons pe_str (pa_cons pe_str pa_nil)))) po_none (po_some (pe_fx (ok_law_draw (P := P) (w := w) T) hr (by decide) (pa_cons (pv 0) (pa_cons pe_int pa_nil))))))
      (pss_one (ps_ret (pe_callTy (call_tupleU (K := K) rfl) (by rfl) T.m_tuple (by decide +kernel) (pa_cons (pe_lc (own := [("_law_name", 2)]) (g := (gName 2)) (tt := tYes) rfl sc_law_numbered.nd (pi_listU (K := K) rfl (pv 1)) (blkOk_by (N := N_law_numbered) (sc := defScope s_law_numbered) (by decide +kernel)) (fun _ _ _ _ _ => (pg_name (i := 2) sc_law_numbered.nd rfl (Or.inl rfl))) (fun _ _ _ _ _ => pts_nil) (fun _ _ _ _ _ => (pe_tup (pa_cons (pv 2) (pa_cons (pe_fx (ok_law_number (P := P) (w := w) T) hr (by decide) (pa_cons (pv 0) pa_nil)) pa_nil))))) pa_nil))))), ?_⟩
    walk_at "go"
    refine mkL (K := K) (.cons (.str _) (.cons (.str _) (.cons (.str _) .nil))) fun q1 H1 n1 f1 L1 => ?_
    have L1 : Lq K H1 q1 (([("a" : Str), "ab", "b"] : List Str).map .str) := L1
    walk_at "go"
    refine ⟨t, 4, H0, rfl, T0.fr f1, by decide, by decide, fun r2 H2 r20 r21 f2 T2 => ?_⟩
    have L2 := L1.fr f2 (by simpa using T0.ne n1) ((T0.fr f1).tu f2)
    walk_at "go"
    refine L2.slice fun q3 H3 n3 f3 L3 => ?_
    obtain ⟨n, rfl⟩ : ∃ n : Nat, r2 = (n : Int) := ⟨r2.toNat, by omega⟩
    rw [cutA_take, ← List.map_take] at L3
    have ln : (List.take n [("a" : Str), "ab", "b"]).length ≤ 3 := by rw [List.length_take]; exact Nat.min_le_right _ _
    generalize List.take n [("a" : Str), "ab", "b"] = ns at L3 ln
    have T3 := T2.fr f3
    walk_at "go"
    refine LC_strs (fun (c : Str) (d : PyData) => ∃ n : Int, d = siD (c, n)) L3 T3 (T2.ne n3) (by omega) ?_ ?_
    · intro c H4 KEEP DROP T4 f4 kp
      walk_at "go"
      refine ⟨t, H0, rfl, T4, fun r5 H5 f5 T5 => ?_⟩
      walk_at "go"
      refine mkT (K := K) (.cons (.str c) (.cons (.int r5) .nil)) fun p6 H6 n6 f6 d6 => ?_
      exact kp _ _ _ (f5.trans f6.to1) (T5.fr f6) d6 ⟨r5, rfl⟩
    · intro D H4 ds nD f4 T4 L4 pr
      obtain ⟨g, rfl, lg⟩ := si_of pr
      walk_at "go"
      refine L4.tuple fun p5 H5 f5 d5 => ?_
      exact k _ g _ (by omega) ((((f1.to1.trans f2).trans f3.to1).trans f4).trans f5.to1) (T4.fr f5) d5
end

def sp_law (K : PySem.W.Frag) : Sp := fun vs H Q _ => ∃ (a : Addr) (ns : List Int), vs = [.ref a] ∧ SqL K H a (ns.map V.int) ∧ ns.length ≤ 63 ∧ ∀ H', Q (.bl true) H'

section
variable {P : Program} {w : World} {K : PySem.W.Frag} {mg : Str → Option Value} {base : Heap}
theorem pl_tuple' {n : Nat} {ds : List PyData} (l : ds.length ≤ 100000) (h : ∀ d ∈ ds, pl n d = true) : pl (n + 1) (.tuple ds) = true := by
  simp only [pl, Bool.and_eq_true, decide_eq_true_eq, List.all_eq_true]
  exact ⟨l, h⟩
theorem pl_gvD {n : Nat} {g : List (Str × Int)} (h : g.length ≤ 1000) : pl (n + 3) (gvD g) = true := by
  refine pl_tuple' (by rw [List.length_map]; omega) fun d hd => ?_
  obtain ⟨x, _, rfl⟩ := List.mem_map.mp hd
  exact pl_tuple' (by exact Nat.le_of_ble_eq_true rfl) fun d hd => by
    simp only [List.mem_cons, List.not_mem_nil, or_false] at hd
    rcases hd with rfl | rfl <;> rfl
mutual
theorem prtsW_pl : ∀ {n : Nat} {x : Wt} {sp : List PyData} {dn : List (Str × Int)}, wtok n x → (∀ s ∈ sp, pl 3 s = true) → sp.length + n ≤ 50 → dn.length + n ≤ 50 → ∀ d ∈ prtsW x sp dn, pl 5 d = true
  | n, .part s nm g, sp, dn, h, hs, ls, ld, d, hd => by
    have h' : pl 3 s = true ∧ g.length ≤ 4 := by
      cases n <;> simpa [wtok] using h
    rw [prtsW] at hd
    rw [List.mem_singleton.mp hd]
    refine pl_tuple' (by exact Nat.le_of_ble_eq_true rfl) fun d hd => ?_
    simp only [List.mem_cons, List.not_mem_nil, or_false] at hd
    rcases hd with rfl | rfl | rfl | rfl
    · refine pl_tuple' (by rw [List.length_append, List.length_singleton]; omega) fun d hd => ?_
      rcases List.mem_append.mp hd with z | z
      · exact hs d z
      · rw [List.mem_singleton.mp z]; exact h'.1
    · rfl
    · exact pl_gvD (by omega)
    · exact pl_gvD (by omega)
  | 0, .give .., _, _, h, _, _, _, _, _ => by simp [wtok] at h
  | 0, .plain .., _, _, h, _, _, _, _, _ => by simp [wtok] at h
  | n + 1, .give s nm m inner, sp, dn, h, hs, ls, ld, d, hd => by
    rw [wtok] at h
    rw [prtsW] at hd
    exact prts_pl h.2.2 (fun x hx => by
      rcases List.mem_append.mp hx with z | z
      · exact hs x z
      · rw [List.mem_singleton.mp z]; exact h.1) (by rw [List.length_append, List.length_singleton]; omega) (by have := over_len (dn := dn) (nm := nm) (n := m); omega) d hd
  | n + 1, .plain s nm m inner, sp, dn, h, hs, ls, ld, d, hd => by
    rw [wtok] at h
    rw [prtsW] at hd
    exact prts_pl h.2.2 (fun x hx => by
      rcases List.mem_append.mp hx with z | z
      · exact hs x z
      · rw [List.mem_singleton.mp z]; exact h.1) (by rw [List.length_append, List.length_singleton]; omega) (by omega) d hd
theorem prts_pl : ∀ {n : Nat} {ws : List Wt} {sp : List PyData} {dn : List (Str × Int)}, wtoks n ws → (∀ s ∈ sp, pl 3 s = true) → sp.length + n ≤ 50 → dn.length + n ≤ 50 → ∀ d ∈ prts ws sp dn, pl 5 d = true
  | n, [], sp, dn, _, _, _, _, d, hd => by rw [prts] at hd; simp at hd
  | n, x :: r, sp, dn, h, hs, ls, ld, d, hd => by
    rw [wtoks] at h
    rw [prts] at hd
    rcases List.mem_append.mp hd with z | z
    · exact prtsW_pl h.1 hs ls ld d z
    · exact prts_pl h.2 hs ls ld d z
end
def lfD : Leaf → PyData
  | .none => .none
  | .num i => .int i
  | .text x => .str x
theorem lf_dt {K : PySem.W.Frag} {H : Hp} (k : Leaf) : Dt K H (lfV k) (lfD k) := by
  cases k with
  | none => exact .non
  | num i => exact .int i
  | text x => exact .str x
theorem wtsD_app (a b : List Wt) : wtsD (a ++ b) = wtsD a ++ wtsD b := by rw [wtsD_map, wtsD_map, wtsD_map, List.map_append]
theorem wtsD_len (a : List Wt) : (wtsD a).length = a.length := by rw [wtsD_map, List.length_map]
def sp_law_wants (P : Program) (w : World) (K : PySem.W.Frag) (n : Nat) : Sp := fun vs H Q _ => ∃ (t : Addr) (m : Nat) (H0 : Hp), vs = [.ref t, .int m] ∧ (m < n ∧ m ≤ 2) ∧ Tape K H0 H t ∧
  ∀ v ws H', wtoks (m + 1) ws ∧ ws.length ≤ 4 → Fr [t] H H' → Tape K H0 H' t → Dt K H' v (.tuple (wtsD ws)) → Q v H'
theorem ok_law_wants (T : Env K mg) : ∀ n, Fx P w K mg base (4 + n) "_law_wants" p_law_wants (sp_law_wants P w K n)
  | 0 => T.l_law_wants.ok (k := 4 - 1) sc_law_wants (fun vs H Q E h => by
      obtain ⟨_, _, _, _, h, _⟩ := h
      exact absurd h.1 (by omega)) (fun f cdv A outer s H vs Q E hr h => by
      obtain ⟨_, _, _, _, h, _⟩ := h
      exact absurd h.1 (by omega))
  | n + 1 => by
    have IH := ok_law_wants T n
    refine T.l_law_wants.ok sc_law_wants (fun vs H Q E h => ?_) (fun f cdv A outer s H vs Q E hr h => ?_)
    · obtain ⟨_, _, _, rfl, _⟩ := h
      rfl
    · obtain ⟨t, m, H0, rfl, ⟨hm, hm2⟩, T0, k⟩ := h
      refine ⟨_, (pss_cons (ps_set (i := 2) sc_law_wants.nd rfl (Or.inl rfl) (pe_lst pa_nil))
      (pss_cons (ps_set (i := 3) sc_law_wants.nd rfl (Or.inl rfl) pe_dnewK)
      (pss_cons (ps_for PassesOwn.never rfl (pi_range1 rfl T.m_range (pa_cons (pe_fx (ok_law_draw (P := P) (w := w) T) hr (Nat.le_trans (m := 4) (by decide) (Nat.le_add_right 4 _)) (pa_cons (pv 0) (pa_cons pe_int pa_nil))) pa_nil)) (pg_name (i := 4) sc_law_wants.nd rfl (Or.inl rfl)) (pss_cons (ps_set (i := 5) sc_law_wants.nd rfl (Or.inl rfl) (pe_ix (ix_U (K := K) rfl) (pe_lst (pa_cons pe_non (pa_cons (pe_fx (ok_law_number (P := P) (w := w) T) hr (Nat.le_trans (m := 4) (by decide) (Nat.le_add_right 4 _)) (pa_cons (pv 0) pa_nil)) pa_nil))) (pe_fx (ok_law_draw (P := P) (w := w) T) hr (Nat.le_trans (m := 4) (by decide) (Nat.le_add_right 4 _)) (pa_cons (pv 0) (pa_cons pe_int pa_nil))) (fun _ _ => rfl)))
      (pss_cons (ps_asg (pe_op (op_addU (K := K) rfl) (pe_mG (ty_LU (P := P) (w := w) rfl rfl) PySem.F.plainAttrs_dict PySem.F.slot_dict_get PySem.F.type_dict_get (mt_getLU (P := P) (w := w) rfl rfl) (pv 3) (pa_cons (pv 5) (pa_cons pe_int pa_nil))) pe_int) (pg_sub (pv 3) (pv 5) (set_LU (P := P) (w := w) rfl rfl)))
      (pss_cons (ps_set (i := 6) sc_law_wants.nd rfl (Or.inl rfl) (pe_tup (pa_cons (pv 5) (pa_cons (pe_op op_sub (pe_ix (ix_LU (P := P) (w := w) rfl rfl) (pv 3) (pv 5) (fun _ _ => rfl)) pe_int) pa_nil))))
      (pss_cons (ps_set (i := 7) sc_law_wants.nd rfl (Or.inl rfl) (pe_fx (ok_law_draw (P := P) (w := w) T) hr (Nat.le_trans (m := 4) (by decide) (Nat.le_add_right 4 _)) (pa_cons (pv 0) (pa_cons pe_int pa_nil))))
      (pss_cons (ps_set (i := 8) sc_law_wants.nd rfl (Or.inl rfl) (pe_tup pa_nil))
      (C8.pss_cut (ps_if (PW.pt (pw_and (pt_cmpR op_gt (pv 7) pe_int (nomark _)) (pw_and1 (pt_cmpR op_gt (pv 1) pe_int (nomark _))))) (pss_one (ps_set (i := 8) sc_law_wants.nd rfl (Or.inl rfl) (pe_fx (IH) hr (Nat.le_refl _) (pa_cons (pv 0) (pa_cons (pe_op op_sub (pv 1) pe_int) pa_nil))))) pss_nil)
      (pss_cons (ps_set (i := 9) sc_law_wants.nd rfl (Or.inl rfl) (pe_ix (ix_U (K := K) rfl) (pe_fx (ok_law_names (P := P) (w := w) T) hr (Nat.le_trans (m := 4) (by decide) (Nat.le_add_right 4 _)) (pa_cons (pv 0) (pa_cons pe_int pa_nil))) pe_int (fun _ _ => rfl)))
      (pss_one (ps_if (pt_cmpR op_lt (pv 7) pe_int (nomark _)) (pss_one (ps_expr (pe_bm PySem.F.plainAttrs_list PySem.F.slot_list_append PySem.F.type_list_append mt_append (pv 2) (pa_cons (pe_tup (pa_cons pe_str (pa_cons (pv 6) (pa_cons (pv 9) (pa_cons (pe_fx (ok_law_numbered (P := P) (w := w) T) hr (Nat.le_trans (m := 4) (by decide) (Nat.le_add_right 4 _)) (pa_cons (pv 0) pa_nil)) pa_nil))))) pa_nil)))) (pss_one (ps_if (pt_cmpR (op_eqU (K := K) rfl (u64 hr)) (pv 7) pe_int (nomark _)) (pss_one (ps_expr (pe_bm PySem.F.plainAttrs_list PySem.F.slot_list_append PySem.F.type_list_append mt_append (pv 2) (pa_cons (pe_tup (pa_cons pe_str (pa_cons (pv 6) (pa_cons (pe_ix (ix_U (K := K) rfl) (pe_lst (pa_cons pe_str (pa_cons pe_str (pa_cons pe_str pa_nil)))) (pe_fx (ok_law_draw (P := P) (w := w) T) hr (Nat.le_trans (m := 4) (by decide) (Nat.le_add_right 4 _)) (pa_cons (pv 0) (pa_cons pe_int pa_nil))) (fun _ _ => rfl)) (pa_cons (pe_fx (ok_law_number (P := P) (w := w) T) hr (Nat.le_trans (m := 4) (by decide) (Nat.le_add_right 4 _)) (pa_cons (pv 0) pa_nil)) (pa_cons (pv 8) pa_nil)))))) pa_nil)))) (pss_one (ps_expr (pe_bm PySem.F.plainAttrs_list PySem.F.slot_list_append PySem.F.type_list_append mt_append (pv 2) (pa_cons (pe_tup (pa_cons pe_str (pa_cons (pv 6) (pa_cons (pv 9) (pa_cons (pe_fx (ok_law_numbered (P := P) (w := w) T) hr (Nat.le_trans (m := 4) (by decide) (Nat.le_add_right 4 _)) (pa_cons (pv 0) pa_nil)) (pa_cons (pe_tup pa_nil) (pa_cons (pv 8) pa_nil))))))) pa_nil))))))))))))))))
      (pss_one (ps_ret (pe_callTy (call_tupleU (K := K) rfl) (by rfl) T.m_tuple (by decide +kernel) (pa_cons (pv 2) pa_nil))))))), ?_⟩
      walk_at "go"
      refine mkL (K := K) .nil fun q H1 n1 f1 L1 => ?_
      have T1 := T0.fr f1
      have nqt : q ≠ t := T0.ne n1
      walk_at "go"
      refine mkD fun d H2 n2 f2 e2 => ?_
      have T2 := T1.fr f2
      have ndt : d ≠ t := T1.ne n2
      have ndq : d ≠ q := (ne_free (by obtain ⟨vs, e, _⟩ := L1; rw [e]; simp) n2).symm
      have nd0 : H d = none := f1.free n2
      walk_at "go"
      refine ⟨t, 5, H0, rfl, T2, by decide, by decide, fun r3 H3 a3 b3 f3 T3 => ?_⟩
      have t3 := T2.tu f3
      obtain ⟨i3, rfl⟩ : ∃ i : Nat, r3 = (i : Int) := ⟨r3.toNat, by omega⟩
      walk_at "go"
      refine F_R1 i3 rfl (by omega) (by omega) (fun i σ H' => Fr [t] H H' ∧ Tape K H0 H' t ∧ ∃ (ws : List Wt) (kvs : List (Leaf × V)) (v4 v5 v6 v7 v8 v9 : Option V), σ = [some (.ref t), some (.int m), some (.ref q), some (.ref d), v4, v5, v6, v7, v8, v9] ∧
        Lq K H' q (wtsD ws) ∧ (ws.length = i ∧ wtoks (m + 1) ws) ∧ DL P w H' d kvs ∧ (kvs.length ≤ i ∧ ∀ k v, valV kvs k = some v → ∃ c : Int, v = .int c)) ?_ ?_ ?_
      · refine ⟨(f1.trans f2).to1.trans f3, T3, [], [], _, _, _, _, _, _, rfl, ?_, ⟨rfl, by simp [wtoks]⟩, (DL.fr (.inl ⟨rfl, e2⟩) f3 (by simpa using ndt)), Nat.zero_le _, fun k v h => by simp [valV] at h⟩
        rw [wtsD]
        exact (L1.fr0 f2).fr f3 (by simpa using nqt) t3
      · rintro i σ H4 hi ⟨f4, T4, ws, kvs, v4, v5, v6, v7, v8, v9, rfl, L4, ⟨lw, wk⟩, DL4, lk, ik⟩
        have nq0 : H q = none := n1
        have nd0' : H d = none := nd0
        walk_at "go"
        refine ⟨t, H0, rfl, T4, fun r5 H5 f5 T5 => ?_⟩
        walk_at "go"
        refine ⟨by exact Nat.le_of_ble_eq_true rfl, fun l6 n6 => ?_⟩
        have f6 : Fr [] H5 (upd H5 l6 (.lst [.non, .int r5])) := Fr.new n6
        have e6 : upd H5 l6 (.lst [.non, .int r5]) l6 = some (.lst [.non, .int r5]) := upd_same
        generalize upd H5 l6 (.lst [.non, .int r5]) = H6 at f6 e6
        have T6 := T5.fr f6
        walk_at "go"
        refine ⟨t, 2, H0, rfl, T6, by decide, by decide, fun r7 H7 a7 b7 f7 T7 => ?_⟩
        obtain ⟨kk, hkk, pk⟩ : ∃ kk : Leaf, atI [.non, .int r5] r7 = some (lfV kk) ∧ pl 1 (lfD kk) = true := by
          have : r7 = 0 ∨ r7 = 1 := by omega
          rcases this with rfl | rfl
          · exact ⟨.none, rfl, rfl⟩
          · exact ⟨.num r5, rfl, rfl⟩
        refine w_ixL (SqL.of (f7 _ _ e6 (by simpa using T5.ne n6))) hkk ?_
        have f47 : Fr [t] H4 H7 := (f5.trans f6.to1).trans f7
        have t47 : Tu H4 H7 := ((T4.tu f5).trans f6.tu).trans (T6.tu f7)
        have L7 := L4.fr f47 (by simpa using nqt) t47
        have DL7 := DL4.fr f47 (by simpa using ndt)
        have dq7 : d ≠ q := ndq
        walk_at "go"
        refine ⟨DL7.dict, ?_⟩
        walk_at "go"
        refine w_getL DL7 rfl ?_
        obtain ⟨c, hc⟩ : ∃ c : Int, (valV kvs kk).getD (.int 0) = .int c := by
          cases e : valV kvs kk with
          | none => exact ⟨0, rfl⟩
          | some v =>
            obtain ⟨c, rfl⟩ := ik kk v e
            exact ⟨c, rfl⟩
        rw [hc]
        walk_at "go"
        refine w_setLf DL7 rfl (by omega) fun H8 f8 t8 DL8 => ?_
        have L8 := L7.fr f8 (by simpa using dq7.symm) t8
        have T8 := T7.fr1 f8 ndt (T1.no n2)
        have f48 : Fr [t] H H8 := Fr.drop1 nd0 (f4.trans f47) f8
        have ik8 : ∀ k v, valV (putK kvs kk (.int (c + 1))) k = some v → ∃ c : Int, v = .int c := fun k v h => by
          rw [valV_put] at h
          by_cases e : k = kk
          · rw [if_pos e] at h
            exact ⟨_, (Option.some.inj h).symm⟩
          · rw [if_neg e] at h
            exact ik k v h
        have lk8 : (putK kvs kk (.int (c + 1))).length ≤ i + 1 := by
          have : (putK kvs kk (.int (c + 1))).length ≤ kvs.length + 1 := by
            unfold putK
            split
            · rw [List.length_map]; omega
            · rw [List.length_append]; exact Nat.le_refl _
          omega
        walk_at "go"
        refine w_ixLf DL8 rfl (by rw [valV_put, if_pos rfl]) ?_
        walk_at "go"
        refine mkT (K := K) (.cons (lf_dt kk) (.cons (.int _) .nil)) fun p9 H9 n9 f9 d9 => ?_
        obtain ⟨sd, esd, psd⟩ : ∃ sd, PyData.tuple [lfD kk, .int (c + 1 - 1)] = sd ∧ pl 3 sd = true := by
          refine ⟨_, rfl, pl_tuple' (by exact Nat.le_of_ble_eq_true rfl) fun d hd => ?_⟩
          simp only [List.mem_cons, List.not_mem_nil, or_false] at hd
          rcases hd with rfl | rfl
          · exact pl_mono (by decide) pk
          · rfl
        rw [esd] at d9
        generalize putK kvs kk (.int (c + 1)) = kvs8 at DL8 ik8 lk8
        have T9 := T8.fr f9
        have L9 := L8.fr0 f9
        have DL9 := DL8.fr f9 (by simp)
        have f49 := f48.trans f9.to1
        walk_at "go"
        refine ⟨t, 4, H0, rfl, T9, by decide, by decide, fun way H10 a10 b10 f10 T10 => ?_⟩
        have t10 := T9.tu f10
        have L10 := L9.fr f10 (by simpa using nqt) t10
        have DL10 := DL9.fr f10 (by simpa using ndt)
        have d10 := d9.mono t10
        walk_at "go"
        refine mkT (K := K) .nil fun p11 H11 n11 f11 d11 => ?_
        have T11 := T10.fr f11
        walk_at "go"
        refine w_cut (fun σ' H' => ∃ (vi : V) (inner : List Wt), σ' = [some (.ref t), some (.int m), some (.ref q), some (.ref d), some (.int i), some (lfV kk), some (.ref p9), some (.int way), some vi, v9] ∧ Fr [t] H H' ∧ Tape K H0 H' t ∧ Lq K H' q (wtsD ws) ∧ DL P w H' d kvs8 ∧ Dt K H' (.ref p9) sd ∧ Dt K H' vi (.tuple (wtsD inner)) ∧ wtoks m inner ∧ inner.length ≤ 4) ?_ ?_
        · have none : ∃ (vi : V) (inner : List Wt), ([some (.ref t), some (.int m), some (.ref q), some (.ref d), some (.int i), some (lfV kk), some (.ref p9), some (.int way), some (.ref p11), v9] : L2.St) = [some (.ref t), some (.int m), some (.ref q), some (.ref d), some (.int i), some (lfV kk), some (.ref p9), some (.int way), some vi, v9] ∧ Fr [t] H H11 ∧ Tape K H0 H11 t ∧ Lq K H11 q (wtsD ws) ∧ DL P w H11 d kvs8 ∧ Dt K H11 (.ref p9) sd ∧ Dt K H11 vi (.tuple (wtsD inner)) ∧ wtoks m inner ∧ inner.length ≤ 4 :=
            ⟨.ref p11, [], rfl, (f49.trans f10).trans f11.to1, T11, L10.fr0 f11, DL10.fr f11 (by simp), d10.mono f11.tu, by rw [wtsD_map]; exact d11, by simp [wtoks], by decide⟩
          walk_at "go"
          refine ite_d (fun h1 => ?_) fun h1 => ?_
          · walk_at "go"
            refine ite_d (fun h2 => ?_) fun h2 => ?_
            · walk_at "go"
              obtain ⟨m', rfl⟩ : ∃ m', m = m' + 1 := ⟨m - 1, by omega⟩
              refine ⟨t, m', H0, by simp, ⟨by omega, by omega⟩, T11, fun vi inner H12 ok12 f12 T12 d12 => ?_⟩
              have t12 := T11.tu f12
              walk_at "go"
              exact ⟨vi, inner, rfl, ((f49.trans f10).trans f11.to1).trans f12, T12, (L10.fr0 f11).fr f12 (by simpa using nqt) t12, (DL10.fr f11 (by simp)).fr f12 (by simpa using ndt), (d10.mono f11.tu).mono t12, d12, ok12.1, ok12.2⟩
            · walk_at "go"
              exact none
          · walk_at "go"
            exact none
        · rintro σ' H12 ⟨vi, inner, rfl, f12, T12, L12, DL12, d12, dv12, wki, lwi⟩
          walk_at "go"
          refine ⟨t, 1, H0, by rfl, by decide, T12, fun p13 ns H13 n13 ln13 f13 T13 L13 => ?_⟩
          obtain ⟨nm, rfl⟩ : ∃ nm, ns = [nm] := by
            match ns, ln13 with
            | [nm], _ => exact ⟨nm, rfl⟩
          have t13 := T12.tu f13
          have e13 : H13 p13 = some (.lst [.str nm]) := by
            obtain ⟨vs, e, av⟩ := L13
            cases av with
            | cons x y =>
              cases x; cases y
              exact e
          refine w_ixL (SqL.of e13) rfl ?_
          have L13q := L12.fr f13 (by simpa using nqt) t13
          have DL13 := DL12.fr f13 (by simpa using ndt)
          have d13 := d12.mono t13
          have dv13 := dv12.mono t13
          have f13' := f12.trans f13
          have fin : ∀ (x : Wt) H14 H15, wtok (m + 1) x → Fr [t] H H14 → Tape K H0 H14 t → Lq K H14 q (wtsD ws) → DL P w H14 d kvs8 → Fr [q] H14 H15 → Tu H14 H15 → Lq K H15 q (wtsD ws ++ [wtD x]) →
              Fr [t] H H15 ∧ Tape K H0 H15 t ∧ ∃ (ws : List Wt) (kvs : List (Leaf × V)) (u4 u5 u6 u7 u8 u9 : Option V), ([some (.ref t), some (.int m), some (.ref q), some (.ref d), some (.int i), some (lfV kk), some (.ref p9), some (.int way), some vi, some (.str nm)] : L2.St) = [some (.ref t), some (.int m), some (.ref q), some (.ref d), u4, u5, u6, u7, u8, u9] ∧
                Lq K H15 q (wtsD ws) ∧ (ws.length = i + 1 ∧ wtoks (m + 1) ws) ∧ DL P w H15 d kvs ∧ (kvs.length ≤ i + 1 ∧ ∀ k v, valV kvs k = some v → ∃ c : Int, v = .int c) := fun x H14 H15 okx f14 T14 L14 DL14 f15 t15 L15 => by
            refine ⟨Fr.drop1 n1 f14 f15, T14.fr1 f15 nqt (T0.no n1), ws ++ [x], kvs8, _, _, _, _, _, _, rfl, ?_, ⟨by rw [List.length_append, List.length_singleton, lw], ?_⟩, DL14.fr f15 (by simpa using ndq), lk8, ik8⟩
            · rw [wtsD_app, wtsD_map [x]]
              exact L15
            · rw [wtoks_all]
              intro y hy
              rcases List.mem_append.mp hy with z | z
              · exact wtoks_all.mp wk y z
              · rw [List.mem_singleton.mp z]; exact okx
          walk_at "go"
          refine ite_d (fun h1 => ?_) fun h1 => ?_
          · walk_at "go"
            refine ⟨L13q.ty, ?_⟩
            walk_at "go"
            refine ⟨t, H0, rfl, T13, fun vg g H14 lg f14 T14 dg => ?_⟩
            have t14 := T13.tu f14
            walk_at "go"
            refine mkT (K := K) (.cons (.str "part") (.cons (d13.mono t14) (.cons (.str nm) (.cons dg .nil)))) fun p15 H15 n15 f15 d15 => ?_
            walk_at "go"
            have L15 := (L13q.fr f14 (by simpa using nqt) t14).fr0 f15
            refine L15.app (d := wtD (.part sd nm g)) (by rw [wtD]; exact d15) (by rw [wtsD_len]; omega) fun H16 f16 t16 L16 => ?_
            exact fin (.part sd nm g) H15 H16 ⟨psd, lg⟩ ((f13'.trans f14).trans f15.to1) (T14.fr f15) L15 ((DL13.fr f14 (by simpa using ndt)).fr f15 (by simp)) f16 t16 L16
          · walk_at "go"
            refine ite_d (fun h2 => ?_) fun h2 => ?_
            · walk_at "go"
              refine ⟨L13q.ty, ?_⟩
              walk_at "go"
              refine ⟨by exact Nat.le_of_ble_eq_true rfl, fun l14 n14 => ?_⟩
              walk_at "go"
              refine ⟨t, 3, H0, rfl, T13.new n14, by decide, by decide, fun r15 H15 a15 b15 f15 T15 => ?_⟩
              have e15 : H15 l14 = some (.lst (([("a" : Str), "ab", "b"] : List Str).map V.str)) := f15 _ _ upd_same (by simpa using T13.ne n14)
              obtain ⟨gn, hgn, _⟩ := at_str (ns := [("a" : Str), "ab", "b"]) (P := fun _ => True) (fun _ _ => True.intro) a15 b15
              refine w_ixL (SqL.of e15) hgn ?_
              walk_at "go"
              refine ⟨t, H0, rfl, T15, fun num H16 f16 T16 => ?_⟩
              have f1316 : Fr [t] H13 H16 := ((Fr.new n14).to1.trans f15).trans f16
              have t1316 := T13.tu f1316
              walk_at "go"
              refine mkT (K := K) (.cons (.str "give") (.cons (d13.mono t1316) (.cons (.str gn) (.cons (.int num) (.cons (dv13.mono t1316) .nil))))) fun p17 H17 n17 f17 d17 => ?_
              walk_at "go"
              have L17 := (L13q.fr f1316 (by simpa using nqt) t1316).fr0 f17
              refine L17.app (d := wtD (.give sd gn num inner)) (by rw [wtD]; exact d17) (by rw [wtsD_len]; omega) fun H18 f18 t18 L18 => ?_
              exact fin (.give sd gn num inner) H17 H18 ⟨psd, lwi, wki⟩ ((f13'.trans f1316).trans f17.to1) (T16.fr f17) L17 ((DL13.fr f1316 (by simpa using ndt)).fr f17 (by simp)) f18 t18 L18
            · walk_at "go"
              refine ⟨L13q.ty, ?_⟩
              walk_at "go"
              refine ⟨t, H0, rfl, T13, fun vg g H14 lg f14 T14 dg => ?_⟩
              have t14 := T13.tu f14
              walk_at "go"
              refine mkT (K := K) .nil fun p15 H15 n15 f15 d15 => ?_
              have t1315 := t14.trans f15.tu
              walk_at "go"
              refine mkT (K := K) (.cons (.str "plain") (.cons (d13.mono t1315) (.cons (.str nm) (.cons (dg.mono f15.tu) (.cons d15 (.cons (dv13.mono t1315) .nil)))))) fun p17 H17 n17 f17 d17 => ?_
              walk_at "go"
              have L17 := ((L13q.fr f14 (by simpa using nqt) t14).fr0 f15).fr0 f17
              refine L17.app (d := wtD (.plain sd nm g inner)) (by rw [wtD]; exact d17) (by rw [wtsD_len]; omega) fun H18 f18 t18 L18 => ?_
              exact fin (.plain sd nm g inner) H17 H18 ⟨psd, lwi, wki⟩ (((f13'.trans f14).trans f15.to1).trans f17.to1) ((T14.fr f15).fr f17) L17 (((DL13.fr f14 (by simpa using ndt)).fr f15 (by simp)).fr f17 (by simp)) f18 t18 L18
      · rintro σ H4 ⟨f4, T4, ws, kvs, v4, v5, v6, v7, v8, v9, rfl, L4, ⟨lw, wk⟩, DL4, lk, ik⟩
        walk_at "go"
        refine L4.tuple fun p5 H5 f5 d5 => ?_
        exact k _ ws H5 ⟨wk, by omega⟩ (f4.trans f5.to1) (T4.fr f5) d5
theorem ok_law (T : Env K mg) {f : Addr} {fd : FuncData} (F : Fun K "law" "law" s_law f fd) : FnOk P w K mg base CX0 15 f fd p_law (sp_law K) := by
  refine F.ok sc_law (fun vs H Q E h => ?_) (fun cdv A outer s H vs Q E hr h => ?_)
  · obtain ⟨a, ns, rfl, _⟩ := h
    rfl
  · obtain ⟨a, ns, rfl, hS, hl, k⟩ := h
    refine ⟨_, (pss_cons (ps_set (i := 1) sc_law.nd rfl (Or.inl rfl) (pe_fx (ok_law_tape (P := P) (w := w) T) hr (by decide) (pa_cons (pv 0) pa_nil)))
      (pss_cons (ps_set (i := 2) sc_law.nd rfl (Or.inl rfl) (pe_lst (pa_cons (pe_fx (ok_law_wants (P := P) (w := w) T 4) hr (by decide) (pa_cons (pv 1) (pa_cons pe_int pa_nil))) (pa_cons (pe_fx (ok_law_wants (P := P) (w := w) T 4) hr (by decide) (pa_cons (pv 1) (pa_cons pe_int pa_nil))) pa_nil))))
      (pss_cons (ps_for PassesOwn.never rfl (pi_listU (K := K) rfl (pe_lst (pa_cons (pe_ix (ix_U (K := K) rfl) (pv 2) pe_int (fun _ _ => rfl)) (pa_cons (pe_ix (ix_U (K := K) rfl) (pv 2) pe_int (fun _ _ => rfl)) (pa_cons (pe_ix (ix_U (K := K) rfl) (pv 2) pe_int (fun _ _ => rfl)) (pa_cons (pe_ix (ix_U (K := K) rfl) (pv 2) pe_int (fun _ _ => rfl)) (pa_cons (pe_tup pa_nil) pa_nil))))))) (pg_name (i := 3) sc_law.nd rfl (Or.inl rfl)) (pss_cons (ps_set (i := 4) sc_law.nd rfl (Or.inl rfl) (pe_fx (ok_parts_in (P := P) (w := w) T) hr (by decide) (pa_cons (pv 3) pa_nil)))
      (pss_cons (ps_if (pt_not (pt_val (pe_fx (ok_law_alike (P := P) (w := w) T 12) hr (by decide) (pa_cons (pv 4) (pa_cons (pe_fx (ok_law_parts (P := P) (w := w) T 4) hr (by decide) (pa_cons (pv 3) (pa_cons (pe_tupP pa_nil) (pa_cons (pe_tupP pa_nil) pa_nil)))) pa_nil))))) (pss_one (ps_ret pe_bl)) pss_nil)
      (pss_one (ps_expr (pe_bm PySem.F.plainAttrs_list PySem.F.slot_list_append PySem.F.type_list_append mt_append (pv 4) (pa_cons pe_int pa_nil)))))))
      (pss_one (ps_ret pe_bl))))), ?_⟩
    walk_at "go"
    refine ⟨a, ns, rfl, hS, fun t H1 ht f1 T1 => ?_⟩
    walk_at "go"
    refine ⟨t, 2, H, rfl, ⟨by decide, by decide⟩, T1, fun v1 w1 H2 ok1 f2 T2 D1 => ?_⟩
    walk_at "go"
    refine ⟨t, 2, H, rfl, ⟨by decide, by decide⟩, T2, fun v2 w2 H3 ok2 f3 T3 D2 => ?_⟩
    have D1 := D1.mono (T2.tu f3)
    walk_at "go"
    refine ⟨by exact Nat.le_of_ble_eq_true rfl, fun q4 n4 => ?_⟩
    have f4 : Fr [] H3 (upd H3 q4 (.lst [v1, v2])) := Fr.new n4
    have e4 : upd H3 q4 (.lst [v1, v2]) q4 = some (.lst [v1, v2]) := upd_same
    generalize upd H3 q4 (.lst [v1, v2]) = H4 at f4 e4
    have D1 := D1.mono f4.tu
    have D2 := D2.mono f4.tu
    walk_at "go"
    refine w_ixL (SqL.of e4) rfl ?_
    walk_at "go"
    refine w_ixL (SqL.of e4) rfl ?_
    walk_at "go"
    refine w_ixL (SqL.of e4) rfl ?_
    walk_at "go"
    refine w_ixL (SqL.of e4) rfl ?_
    walk_at "go"
    refine mkT (K := K) .nil fun p5 H5 n5 f5 D5 => ?_
    walk_at "go"
    refine mkL (K := K) (ds := ([w1, w2, w1, w2, []] : List (List Wt)).map fun ws => .tuple (wtsD ws)) (.cons (D1.mono f5.tu) (.cons (D2.mono f5.tu) (.cons (D1.mono f5.tu) (.cons (D2.mono f5.tu) (.cons (by show Dt K H5 _ (.tuple (wtsD [])); rw [wtsD_map]; exact D5) .nil))))) fun q6 H6 n6 f6 L6 => ?_
    walk_at "go"
    refine L6.walk (fun i σ H' => Fr [] H6 H' ∧ ∃ v3 v4, σ = [some (.ref a), some (.ref t), some (.ref q4), v3, v4]) ?_ ?_ ?_ ?_
    · exact ⟨Fr.refl, _, _, rfl⟩
    · rintro i σ H' ⟨f7, _⟩
      exact L6.fr0 f7
    · rintro i x dd σ H7 hi dx ⟨f7, v3, v4, rfl⟩
      obtain ⟨ws, hws, rfl⟩ := map_get hi
      have ok : wtoks 3 ws ∧ ws.length ≤ 4 := by
        have := List.mem_of_getElem? hws
        simp only [List.mem_cons, List.not_mem_nil, or_false] at this
        rcases this with rfl | rfl | rfl | rfl | rfl
        · exact ok1
        · exact ok2
        · exact ok1
        · exact ok2
        · exact ⟨by simp [wtoks], by decide⟩
      walk_at "go"
      refine ⟨x, 3, ws, rfl, by decide, ok, dx, fun p8 H8 n8 f8 L8 => ?_⟩
      walk_at "go"
      refine w_tupP ?_
      walk_at "go"
      refine mkNilP (K := K) fun p9 H9 n9 f9 D9 => ?_
      walk_at "go"
      refine w_tupP ?_
      walk_at "go"
      refine mkNilP (K := K) fun p10 H10 n10 f10 D10 => ?_
      have f810 := (f8.trans f9).trans f10
      walk_at "go"
      refine ⟨x, _, _, 3, ws, [], [], rfl, ⟨by decide, by decide⟩, ok, dx.mono f810.tu, (D9.fr0 f10).dt, by decide, D10, by decide, fun p11 H11 n11 f11 L11 => ?_⟩
      walk_at "go"
      have f911 := (f9.trans f10).trans f11
      have L8' := L8.fr0 f911
      have gl : ∀ {H p}, Lq K H p (prts ws [] []) → Dg K H (.ref p) (.list (prts ws [] [])) := fun {H p} L => by
        obtain ⟨vs, e, av⟩ := L
        exact .lst (SqL.of e) av.dg
      refine ⟨.ref p8, .ref p11, .list (prts ws [] []), rfl, ⟨?_, by decide⟩, gl L8', gl L11, fun H12 f12 => ?_⟩
      · refine pl_mono (n := 6) (by decide) ?_
        simp only [pl, Bool.and_eq_true, decide_eq_true_eq, List.all_eq_true]
        exact ⟨Nat.le_trans (row_len ok.1 ok.2 (by decide)) (by decide), fun d hd => prts_pl ok.1 (by simp) (by decide) (by decide) d hd⟩
      walk_at "go"
      have L12 := L8'.fr0 f12
      refine ⟨L12.ty, ?_⟩
      walk_at "go"
      refine L12.app (d := .int 0) (.int 0) (by have := row_len (sp := []) (dn := []) ok.1 ok.2 (by decide); omega) fun H13 f13 t13 L13 => ?_
      exact ⟨Fr.drop1 (f7.free n8) (((f7.trans f8).trans f911).trans f12) f13, _, _, rfl⟩
    · rintro σ H7 ⟨f7, v3, v4, rfl⟩
      walk_at "go"
      exact k _
end

section
variable {w : World} {K : PySem.W.Frag} {h : Heap} {mg : Str → Option Value}
theorem mk_laid_over (X : K.In h) (G : h.Ns mainGlobals mg) {f : Addr} {od an : Option Addr} {sl : Array (Option Value)} {oc kV dc pm cd ct : Value} (a : PySem.W.nsIn K mainGlobals "laid_over" = some (some (.ref f))) (l : K.lookup f = some ⟨oc, od, .func (PySem.W.fnOf "laid_over" "laid_over" (defArgs s_laid_over) (defBody s_laid_over) (defScope s_laid_over) .none kV dc pm an cd ct), sl⟩) (c : PySem.W.codeIn K cd "laid_over" = true) (k : PySem.W.keepIn K (.ref f) = true) : Loc K mg "laid_over" p_laid_over s_laid_over :=
  have F := fun_mk (st := s_laid_over) l c k
  ⟨f, _, F, PySem.W.mg_of X G a, F.binds (ps := p_laid_over) fun _ _ _ _ _ _ us hl => match us, hl with | [_, _], _ => rfl⟩
theorem mk_gather (X : K.In h) (G : h.Ns mainGlobals mg) {f : Addr} {od an : Option Addr} {sl : Array (Option Value)} {oc kV dc pm cd ct : Value} (a : PySem.W.nsIn K mainGlobals "gather" = some (some (.ref f))) (l : K.lookup f = some ⟨oc, od, .func (PySem.W.fnOf "gather" "gather" (defArgs s_gather) (defBody s_gather) (defScope s_gather) .none kV dc pm an cd ct), sl⟩) (c : PySem.W.codeIn K cd "gather" = true) (k : PySem.W.keepIn K (.ref f) = true) : Loc K mg "gather" p_gather s_gather :=
  have F := fun_mk (st := s_gather) l c k
  ⟨f, _, F, PySem.W.mg_of X G a, F.binds (ps := p_gather) fun _ _ _ _ _ _ us hl => match us, hl with | [_, _, _, _], _ => rfl⟩
theorem mk_parts_in (X : K.In h) (G : h.Ns mainGlobals mg) {f : Addr} {od an : Option Addr} {sl : Array (Option Value)} {oc kV dc pm cd ct : Value} (a : PySem.W.nsIn K mainGlobals "parts_in" = some (some (.ref f))) (l : K.lookup f = some ⟨oc, od, .func (PySem.W.fnOf "parts_in" "parts_in" (defArgs s_parts_in) (defBody s_parts_in) (defScope s_parts_in) .none kV dc pm an cd ct), sl⟩) (c : PySem.W.codeIn K cd "parts_in" = true) (k : PySem.W.keepIn K (.ref f) = true) : Loc K mg "parts_in" p_parts_in s_parts_in :=
  have F := fun_mk (st := s_parts_in) l c k
  ⟨f, _, F, PySem.W.mg_of X G a, F.binds (ps := p_parts_in) fun _ _ _ _ _ _ us hl => match us, hl with | [_], _ => rfl⟩
theorem mk_law_tape (X : K.In h) (G : h.Ns mainGlobals mg) {f : Addr} {od an : Option Addr} {sl : Array (Option Value)} {oc kV dc pm cd ct : Value} (a : PySem.W.nsIn K mainGlobals "_law_tape" = some (some (.ref f))) (l : K.lookup f = some ⟨oc, od, .func (PySem.W.fnOf "_law_tape" "_law_tape" (defArgs s_law_tape) (defBody s_law_tape) (defScope s_law_tape) .none kV dc pm an cd ct), sl⟩) (c : PySem.W.codeIn K cd "_law_tape" = true) (k : PySem.W.keepIn K (.ref f) = true) : Loc K mg "_law_tape" p_law_tape s_law_tape :=
  have F := fun_mk (st := s_law_tape) l c k
  ⟨f, _, F, PySem.W.mg_of X G a, F.binds (ps := p_law_tape) fun _ _ _ _ _ _ us hl => match us, hl with | [_], _ => rfl⟩
theorem mk_law_draw (X : K.In h) (G : h.Ns mainGlobals mg) {f : Addr} {od an : Option Addr} {sl : Array (Option Value)} {oc kV dc pm cd ct : Value} (a : PySem.W.nsIn K mainGlobals "_law_draw" = some (some (.ref f))) (l : K.lookup f = some ⟨oc, od, .func (PySem.W.fnOf "_law_draw" "_law_draw" (defArgs s_law_draw) (defBody s_law_draw) (defScope s_law_draw) .none kV dc pm an cd ct), sl⟩) (c : PySem.W.codeIn K cd "_law_draw" = true) (k : PySem.W.keepIn K (.ref f) = true) : Loc K mg "_law_draw" p_law_draw s_law_draw :=
  have F := fun_mk (st := s_law_draw) l c k
  ⟨f, _, F, PySem.W.mg_of X G a, F.binds (ps := p_law_draw) fun _ _ _ _ _ _ us hl => match us, hl with | [_, _], _ => rfl⟩
theorem mk_law_names (X : K.In h) (G : h.Ns mainGlobals mg) {f : Addr} {od an : Option Addr} {sl : Array (Option Value)} {oc kV dc pm cd ct : Value} (a : PySem.W.nsIn K mainGlobals "_law_names" = some (some (.ref f))) (l : K.lookup f = some ⟨oc, od, .func (PySem.W.fnOf "_law_names" "_law_names" (defArgs s_law_names) (defBody s_law_names) (defScope s_law_names) .none kV dc pm an cd ct), sl⟩) (c : PySem.W.codeIn K cd "_law_names" = true) (k : PySem.W.keepIn K (.ref f) = true) : Loc K mg "_law_names" p_law_names s_law_names :=
  have F := fun_mk (st := s_law_names) l c k
  ⟨f, _, F, PySem.W.mg_of X G a, F.binds (ps := p_law_names) fun _ _ _ _ _ _ us hl => match us, hl with | [_, _], _ => rfl⟩
theorem mk_law_number (X : K.In h) (G : h.Ns mainGlobals mg) {f : Addr} {od an : Option Addr} {sl : Array (Option Value)} {oc kV dc pm cd ct : Value} (a : PySem.W.nsIn K mainGlobals "_law_number" = some (some (.ref f))) (l : K.lookup f = some ⟨oc, od, .func (PySem.W.fnOf "_law_number" "_law_number" (defArgs s_law_number) (defBody s_law_number) (defScope s_law_number) .none kV dc pm an cd ct), sl⟩) (c : PySem.W.codeIn K cd "_law_number" = true) (k : PySem.W.keepIn K (.ref f) = true) : Loc K mg "_law_number" p_law_number s_law_number :=
  have F := fun_mk (st := s_law_number) l c k
  ⟨f, _, F, PySem.W.mg_of X G a, F.binds (ps := p_law_number) fun _ _ _ _ _ _ us hl => match us, hl with | [_], _ => rfl⟩
theorem mk_law_over (X : K.In h) (G : h.Ns mainGlobals mg) {f : Addr} {od an : Option Addr} {sl : Array (Option Value)} {oc kV dc pm cd ct : Value} (a : PySem.W.nsIn K mainGlobals "_law_over" = some (some (.ref f))) (l : K.lookup f = some ⟨oc, od, .func (PySem.W.fnOf "_law_over" "_law_over" (defArgs s_law_over) (defBody s_law_over) (defScope s_law_over) .none kV dc pm an cd ct), sl⟩) (c : PySem.W.codeIn K cd "_law_over" = true) (k : PySem.W.keepIn K (.ref f) = true) : Loc K mg "_law_over" p_law_over s_law_over :=
  have F := fun_mk (st := s_law_over) l c k
  ⟨f, _, F, PySem.W.mg_of X G a, F.binds (ps := p_law_over) fun _ _ _ _ _ _ us hl => match us, hl with | [_, _], _ => rfl⟩
theorem mk_law_parts (X : K.In h) (G : h.Ns mainGlobals mg) {f : Addr} {od an : Option Addr} {sl : Array (Option Value)} {oc kV dc pm cd ct : Value} (a : PySem.W.nsIn K mainGlobals "_law_parts" = some (some (.ref f))) (l : K.lookup f = some ⟨oc, od, .func (PySem.W.fnOf "_law_parts" "_law_parts" (defArgs s_law_parts) (defBody s_law_parts) (defScope s_law_parts) .none kV dc pm an cd ct), sl⟩) (c : PySem.W.codeIn K cd "_law_parts" = true) (k : PySem.W.keepIn K (.ref f) = true) : Loc K mg "_law_parts" p_law_parts s_law_parts :=
  have F := fun_mk (st := s_law_parts) l c k
  ⟨f, _, F, PySem.W.mg_of X G a, F.binds (ps := p_law_parts) fun _ _ _ _ _ _ us hl => match us, hl with | [_, _, _], _ => rfl⟩
theorem mk_law_kind (X : K.In h) (G : h.Ns mainGlobals mg) {f : Addr} {od an : Option Addr} {sl : Array (Option Value)} {oc kV dc pm cd ct : Value} (a : PySem.W.nsIn K mainGlobals "_law_kind" = some (some (.ref f))) (l : K.lookup f = some ⟨oc, od, .func (PySem.W.fnOf "_law_kind" "_law_kind" (defArgs s_law_kind) (defBody s_law_kind) (defScope s_law_kind) .none kV dc pm an cd ct), sl⟩) (c : PySem.W.codeIn K cd "_law_kind" = true) (k : PySem.W.keepIn K (.ref f) = true) : Loc K mg "_law_kind" p_law_kind s_law_kind :=
  have F := fun_mk (st := s_law_kind) l c k
  ⟨f, _, F, PySem.W.mg_of X G a, F.binds (ps := p_law_kind) fun _ _ _ _ _ _ us hl => match us, hl with | [_], _ => rfl⟩
theorem mk_law_alike (X : K.In h) (G : h.Ns mainGlobals mg) {f : Addr} {od an : Option Addr} {sl : Array (Option Value)} {oc kV dc pm cd ct : Value} (a : PySem.W.nsIn K mainGlobals "_law_alike" = some (some (.ref f))) (l : K.lookup f = some ⟨oc, od, .func (PySem.W.fnOf "_law_alike" "_law_alike" (defArgs s_law_alike) (defBody s_law_alike) (defScope s_law_alike) .none kV dc pm an cd ct), sl⟩) (c : PySem.W.codeIn K cd "_law_alike" = true) (k : PySem.W.keepIn K (.ref f) = true) : Loc K mg "_law_alike" p_law_alike s_law_alike :=
  have F := fun_mk (st := s_law_alike) l c k
  ⟨f, _, F, PySem.W.mg_of X G a, F.binds (ps := p_law_alike) fun _ _ _ _ _ _ us hl => match us, hl with | [_, _], _ => rfl⟩
theorem mk_law_numbered (X : K.In h) (G : h.Ns mainGlobals mg) {f : Addr} {od an : Option Addr} {sl : Array (Option Value)} {oc kV dc pm cd ct : Value} (a : PySem.W.nsIn K mainGlobals "_law_numbered" = some (some (.ref f))) (l : K.lookup f = some ⟨oc, od, .func (PySem.W.fnOf "_law_numbered" "_law_numbered" (defArgs s_law_numbered) (defBody s_law_numbered) (defScope s_law_numbered) .none kV dc pm an cd ct), sl⟩) (c : PySem.W.codeIn K cd "_law_numbered" = true) (k : PySem.W.keepIn K (.ref f) = true) : Loc K mg "_law_numbered" p_law_numbered s_law_numbered :=
  have F := fun_mk (st := s_law_numbered) l c k
  ⟨f, _, F, PySem.W.mg_of X G a, F.binds (ps := p_law_numbered) fun _ _ _ _ _ _ us hl => match us, hl with | [_], _ => rfl⟩
theorem mk_law_wants (X : K.In h) (G : h.Ns mainGlobals mg) {f : Addr} {od an : Option Addr} {sl : Array (Option Value)} {oc kV dc pm cd ct : Value} (a : PySem.W.nsIn K mainGlobals "_law_wants" = some (some (.ref f))) (l : K.lookup f = some ⟨oc, od, .func (PySem.W.fnOf "_law_wants" "_law_wants" (defArgs s_law_wants) (defBody s_law_wants) (defScope s_law_wants) .none kV dc pm an cd ct), sl⟩) (c : PySem.W.codeIn K cd "_law_wants" = true) (k : PySem.W.keepIn K (.ref f) = true) : Loc K mg "_law_wants" p_law_wants s_law_wants :=
  have F := fun_mk (st := s_law_wants) l c k
  ⟨f, _, F, PySem.W.mg_of X G a, F.binds (ps := p_law_wants) fun _ _ _ _ _ _ us hl => match us, hl with | [_, _], _ => rfl⟩
theorem mk_law (X : K.In h) (G : h.Ns mainGlobals mg) {f : Addr} {od an : Option Addr} {sl : Array (Option Value)} {oc kV dc pm cd ct : Value} (a : PySem.W.nsIn K mainGlobals "law" = some (some (.ref f))) (l : K.lookup f = some ⟨oc, od, .func (PySem.W.fnOf "law" "law" (defArgs s_law) (defBody s_law) (defScope s_law) .none kV dc pm an cd ct), sl⟩) (c : PySem.W.codeIn K cd "law" = true) (k : PySem.W.keepIn K (.ref f) = true) : Loc K mg "law" p_law s_law :=
  have F := fun_mk (st := s_law) l c k
  ⟨f, _, F, PySem.W.mg_of X G a, F.binds (ps := p_law) fun _ _ _ _ _ _ us hl => match us, hl with | [_], _ => rfl⟩
theorem all_env (X : K.In h) (G : h.Ns mainGlobals mg)
    {f0 : Addr} {od0 an0 : Option Addr} {sl0 : Array (Option Value)} {oc0 kV0 dc0 pm0 cd0 ct0 : Value}
    (a0 : PySem.W.nsIn K mainGlobals "laid_over" = some (some (.ref f0))) (l0 : K.lookup f0 = some ⟨oc0, od0, .func (PySem.W.fnOf "laid_over" "laid_over" (defArgs s_laid_over) (defBody s_laid_over) (defScope s_laid_over) .none kV0 dc0 pm0 an0 cd0 ct0), sl0⟩) (c0 : PySem.W.codeIn K cd0 "laid_over" = true) (k0 : PySem.W.keepIn K (.ref f0) = true)
    {f1 : Addr} {od1 an1 : Option Addr} {sl1 : Array (Option Value)} {oc1 kV1 dc1 pm1 cd1 ct1 : Value}
    (a1 : PySem.W.nsIn K mainGlobals "gather" = some (some (.ref f1))) (l1 : K.lookup f1 = some ⟨oc1, od1, .func (PySem.W.fnOf "gather" "gather" (defArgs s_gather) (defBody s_gather) (defScope s_gather) .none kV1 dc1 pm1 an1 cd1 ct1), sl1⟩) (c1 : PySem.W.codeIn K cd1 "gather" = true) (k1 : PySem.W.keepIn K (.ref f1) = true)
    {f2 : Addr} {od2 an2 : Option Addr} {sl2 : Array (Option Value)} {oc2 kV2 dc2 pm2 cd2 ct2 : Value}
    (a2 : PySem.W.nsIn K mainGlobals "parts_in" = some (some (.ref f2))) (l2 : K.lookup f2 = some ⟨oc2, od2, .func (PySem.W.fnOf "parts_in" "parts_in" (defArgs s_parts_in) (defBody s_parts_in) (defScope s_parts_in) .none kV2 dc2 pm2 an2 cd2 ct2), sl2⟩) (c2 : PySem.W.codeIn K cd2 "parts_in" = true) (k2 : PySem.W.keepIn K (.ref f2) = true)
    {f3 : Addr} {od3 an3 : Option Addr} {sl3 : Array (Option Value)} {oc3 kV3 dc3 pm3 cd3 ct3 : Value}
    (a3 : PySem.W.nsIn K mainGlobals "_law_tape" = some (some (.ref f3))) (l3 : K.lookup f3 = some ⟨oc3, od3, .func (PySem.W.fnOf "_law_tape" "_law_tape" (defArgs s_law_tape) (defBody s_law_tape) (defScope s_law_tape) .none kV3 dc3 pm3 an3 cd3 ct3), sl3⟩) (c3 : PySem.W.codeIn K cd3 "_law_tape" = true) (k3 : PySem.W.keepIn K (.ref f3) = true)
    {f4 : Addr} {od4 an4 : Option Addr} {sl4 : Array (Option Value)} {oc4 kV4 dc4 pm4 cd4 ct4 : Value}
    (a4 : PySem.W.nsIn K mainGlobals "_law_draw" = some (some (.ref f4))) (l4 : K.lookup f4 = some ⟨oc4, od4, .func (PySem.W.fnOf "_law_draw" "_law_draw" (defArgs s_law_draw) (defBody s_law_draw) (defScope s_law_draw) .none kV4 dc4 pm4 an4 cd4 ct4), sl4⟩) (c4 : PySem.W.codeIn K cd4 "_law_draw" = true) (k4 : PySem.W.keepIn K (.ref f4) = true)
    {f5 : Addr} {od5 an5 : Option Addr} {sl5 : Array (Option Value)} {oc5 kV5 dc5 pm5 cd5 ct5 : Value}
    (a5 : PySem.W.nsIn K mainGlobals "_law_names" = some (some (.ref f5))) (l5 : K.lookup f5 = some ⟨oc5, od5, .func (PySem.W.fnOf "_law_names" "_law_names" (defArgs s_law_names) (defBody s_law_names) (defScope s_law_names) .none kV5 dc5 pm5 an5 cd5 ct5), sl5⟩) (c5 : PySem.W.codeIn K cd5 "_law_names" = true) (k5 : PySem.W.keepIn K (.ref f5) = true)
    {f6 : Addr} {od6 an6 : Option Addr} {sl6 : Array (Option Value)} {oc6 kV6 dc6 pm6 cd6 ct6 : Value}
    (a6 : PySem.W.nsIn K mainGlobals "_law_number" = some (some (.ref f6))) (l6 : K.lookup f6 = some ⟨oc6, od6, .func (PySem.W.fnOf "_law_number" "_law_number" (defArgs s_law_number) (defBody s_law_number) (defScope s_law_number) .none kV6 dc6 pm6 an6 cd6 ct6), sl6⟩) (c6 : PySem.W.codeIn K cd6 "_law_number" = true) (k6 : PySem.W.keepIn K (.ref f6) = true)
    {f7 : Addr} {od7 an7 : Option Addr} {sl7 : Array (Option Value)} {oc7 kV7 dc7 pm7 cd7 ct7 : Value}
    (a7 : PySem.W.nsIn K mainGlobals "_law_over" = some (some (.ref f7))) (l7 : K.lookup f7 = some ⟨oc7, od7, .func (PySem.W.fnOf "_law_over" "_law_over" (defArgs s_law_over) (defBody s_law_over) (defScope s_law_over) .none kV7 dc7 pm7 an7 cd7 ct7), sl7⟩) (c7 : PySem.W.codeIn K cd7 "_law_over" = true) (k7 : PySem.W.keepIn K (.ref f7) = true)
    {f8 : Addr} {od8 an8 : Option Addr} {sl8 : Array (Option Value)} {oc8 kV8 dc8 pm8 cd8 ct8 : Value}
    (a8 : PySem.W.nsIn K mainGlobals "_law_parts" = some (some (.ref f8))) (l8 : K.lookup f8 = some ⟨oc8, od8, .func (PySem.W.fnOf "_law_parts" "_law_parts" (defArgs s_law_parts) (defBody s_law_parts) (defScope s_law_parts) .none kV8 dc8 pm8 an8 cd8 ct8), sl8⟩) (c8 : PySem.W.codeIn K cd8 "_law_parts" = true) (k8 : PySem.W.keepIn K (.ref f8) = true)
    {f9 : Addr} {od9 an9 : Option Addr} {sl9 : Array (Option Value)} {oc9 kV9 dc9 pm9 cd9 ct9 : Value}
    (a9 : PySem.W.nsIn K mainGlobals "_law_kind" = some (some (.ref f9))) (l9 : K.lookup f9 = some ⟨oc9, od9, .func (PySem.W.fnOf "_law_kind" "_law_kind" (defArgs s_law_kind) (defBody s_law_kind) (defScope s_law_kind) .none kV9 dc9 pm9 an9 cd9 ct9), sl9⟩) (c9 : PySem.W.codeIn K cd9 "_law_kind" = true) (k9 : PySem.W.keepIn K (.ref f9) = true)
    {f10 : Addr} {od10 an10 : Option Addr} {sl10 : Array (Option Value)} {oc10 kV10 dc10 pm10 cd10 ct10 : Value}
    (a10 : PySem.W.nsIn K mainGlobals "_law_alike" = some (some (.ref f10))) (l10 : K.lookup f10 = some ⟨oc10, od10, .func (PySem.W.fnOf "_law_alike" "_law_alike" (defArgs s_law_alike) (defBody s_law_alike) (defScope s_law_alike) .none kV10 dc10 pm10 an10 cd10 ct10), sl10⟩) (c10 : PySem.W.codeIn K cd10 "_law_alike" = true) (k10 : PySem.W.keepIn K (.ref f10) = true)
    {f11 : Addr} {od11 an11 : Option Addr} {sl11 : Array (Option Value)} {oc11 kV11 dc11 pm11 cd11 ct11 : Value}
    (a11 : PySem.W.nsIn K mainGlobals "_law_numbered" = some (some (.ref f11))) (l11 : K.lookup f11 = some ⟨oc11, od11, .func (PySem.W.fnOf "_law_numbered" "_law_numbered" (defArgs s_law_numbered) (defBody s_law_numbered) (defScope s_law_numbered) .none kV11 dc11 pm11 an11 cd11 ct11), sl11⟩) (c11 : PySem.W.codeIn K cd11 "_law_numbered" = true) (k11 : PySem.W.keepIn K (.ref f11) = true)
    {f12 : Addr} {od12 an12 : Option Addr} {sl12 : Array (Option Value)} {oc12 kV12 dc12 pm12 cd12 ct12 : Value}
    (a12 : PySem.W.nsIn K mainGlobals "_law_wants" = some (some (.ref f12))) (l12 : K.lookup f12 = some ⟨oc12, od12, .func (PySem.W.fnOf "_law_wants" "_law_wants" (defArgs s_law_wants) (defBody s_law_wants) (defScope s_law_wants) .none kV12 dc12 pm12 an12 cd12 ct12), sl12⟩) (c12 : PySem.W.codeIn K cd12 "_law_wants" = true) (k12 : PySem.W.keepIn K (.ref f12) = true)
    {f13 : Addr} {od13 an13 : Option Addr} {sl13 : Array (Option Value)} {oc13 kV13 dc13 pm13 cd13 ct13 : Value}
    (a13 : PySem.W.nsIn K mainGlobals "law" = some (some (.ref f13))) (l13 : K.lookup f13 = some ⟨oc13, od13, .func (PySem.W.fnOf "law" "law" (defArgs s_law) (defBody s_law) (defScope s_law) .none kV13 dc13 pm13 an13 cd13 ct13), sl13⟩) (c13 : PySem.W.codeIn K cd13 "law" = true) (k13 : PySem.W.keepIn K (.ref f13) = true)
    (z_abs : PySem.W.nsIn K mainGlobals "abs" = some none)
    (z_all : PySem.W.nsIn K mainGlobals "all" = some none)
    (z_bool : PySem.W.nsIn K mainGlobals "bool" = some none)
    (z_dict : PySem.W.nsIn K mainGlobals "dict" = some none)
    (z_int : PySem.W.nsIn K mainGlobals "int" = some none)
    (z_isinstance : PySem.W.nsIn K mainGlobals "isinstance" = some none)
    (z_len : PySem.W.nsIn K mainGlobals "len" = some none)
    (z_list : PySem.W.nsIn K mainGlobals "list" = some none)
    (z_range : PySem.W.nsIn K mainGlobals "range" = some none)
    (z_sorted : PySem.W.nsIn K mainGlobals "sorted" = some none)
    (z_str : PySem.W.nsIn K mainGlobals "str" = some none)
    (z_tuple : PySem.W.nsIn K mainGlobals "tuple" = some none) : Env K mg :=
  { l_laid_over := mk_laid_over X G a0 l0 c0 k0,
    l_gather := mk_gather X G a1 l1 c1 k1,
    l_parts_in := mk_parts_in X G a2 l2 c2 k2,
    l_law_tape := mk_law_tape X G a3 l3 c3 k3,
    l_law_draw := mk_law_draw X G a4 l4 c4 k4,
    l_law_names := mk_law_names X G a5 l5 c5 k5,
    l_law_number := mk_law_number X G a6 l6 c6 k6,
    l_law_over := mk_law_over X G a7 l7 c7 k7,
    l_law_parts := mk_law_parts X G a8 l8 c8 k8,
    l_law_kind := mk_law_kind X G a9 l9 c9 k9,
    l_law_alike := mk_law_alike X G a10 l10 c10 k10,
    l_law_numbered := mk_law_numbered X G a11 l11 c11 k11,
    l_law_wants := mk_law_wants X G a12 l12 c12 k12,
    l_law := mk_law X G a13 l13 c13 k13,
    m_abs := PySem.W.mg_none_of X G z_abs,
    m_all := PySem.W.mg_none_of X G z_all,
    m_bool := PySem.W.mg_none_of X G z_bool,
    m_dict := PySem.W.mg_none_of X G z_dict,
    m_int := PySem.W.mg_none_of X G z_int,
    m_isinstance := PySem.W.mg_none_of X G z_isinstance,
    m_len := PySem.W.mg_none_of X G z_len,
    m_list := PySem.W.mg_none_of X G z_list,
    m_range := PySem.W.mg_none_of X G z_range,
    m_sorted := PySem.W.mg_none_of X G z_sorted,
    m_str := PySem.W.mg_none_of X G z_str,
    m_tuple := PySem.W.mg_none_of X G z_tuple }
theorem walk {l : PySem.W.OpenLaw} {q : Program} {loose : List Str} {XP : (Str → Option Value) → Heap → Prop} {YP : World → Heap → Prop} {d : DefRec} {K : Params → PySem.W.Frag} (hn : l.most = some 63) (hdf : d.params.defaults = [])
    (hY : ∀ (w : World) (h : Heap), YP w h → (K w.params).In h) (hd : d.name = "law")
    (F : ∀ (w : World) (mg : Str → Option Value) (h : Heap), (K w.params).In h → h.Ns mainGlobals mg → Env (K w.params) mg) :
    PySem.W.WalkO q loose XP YP l.row.toRowW d [] (fun f vs => PySem.call f vs) :=
  L2.walk_of (n := 63) (k := 15) (x := "_law_script") (CX := fun _ => CX0) (sp := fun w => sp_law (K w.params)) hn (by decide) hdf ⟨rfl, by decide, by decide⟩ hY (fun w mg fa h KX G hmg => by
    have T := F w mg h KX G
    obtain ⟨f, fd, F1, m, b⟩ := T.l_law.ex
    rw [hd] at hmg
    have e := hmg.symm.trans m
    cases e
    refine ⟨fd, fun s v => ?_, fun base _ _ => ?_⟩
    · obtain ⟨oc, od, kV, doc, pm, an, cdv, ct, osl, rfl, lk, hcd⟩ := F1.ex
      exact .of_eq rfl
    · exact ok_law T F1) (fun _ _ a ns hl _ hS => ⟨a, ns, rfl, hS, hl, fun _ => rfl⟩) fun _ _ _ _ _ z => z
end
end LW
open PySem PySem.W PyProof.Rows
set_option maxRecDepth 100000 in
set_option maxHeartbeats 0 in
theorem PySem.Challenge.cw_viewwood_k19_parts_in_rows_holds : PySem.Challenge.rw_viewwood_k19_parts_in_rows.Holds := by
  w_on; o_law; k_head; (case hw => w_witness2)
  k_fill
  refine LW.walk (l := PySem.Challenge.rw_viewwood_k19_parts_in_rows) rfl rfl (fun w h Y => PySem.W.kIn_of Y) rfl ?F
  case F =>
    intro w mg h KX G
    refine' LW.all_env KX G ?a0 ?l0 ?c0 ?k0 ?a1 ?l1 ?c1 ?k1 ?a2 ?l2 ?c2 ?k2 ?a3 ?l3 ?c3 ?k3 ?a4 ?l4 ?c4 ?k4 ?a5 ?l5 ?c5 ?k5 ?a6 ?l6 ?c6 ?k6 ?a7 ?l7 ?c7 ?k7 ?a8 ?l8 ?c8 ?k8 ?a9 ?l9 ?c9 ?k9 ?a10 ?l10 ?c10 ?k10 ?a11 ?l11 ?c11 ?k11 ?a12 ?l12 ?c12 ?k12 ?a13 ?l13 ?c13 ?k13 ?z_abs ?z_all ?z_bool ?z_dict ?z_int ?z_isinstance ?z_len ?z_list ?z_range ?z_sorted ?z_str ?z_tuple
    (case a0 => k_is)
    (case l0 => k_is)
    (case c0 => k_is)
    (case k0 => k_is)
    (case a1 => k_is)
    (case l1 => k_is)
    (case c1 => k_is)
    (case k1 => k_is)
    (case a2 => k_is)
    (case l2 => k_is)
    (case c2 => k_is)
    (case k2 => k_is)
    (case a3 => k_is)
    (case l3 => k_is)
    (case c3 => k_is)
    (case k3 => k_is)
    (case a4 => k_is)
    (case l4 => k_is)
    (case c4 => k_is)
    (case k4 => k_is)
    (case a5 => k_is)
    (case l5 => k_is)
    (case c5 => k_is)
    (case k5 => k_is)
    (case a6 => k_is)
    (case l6 => k_is)
    (case c6 => k_is)
    (case k6 => k_is)
    (case a7 => k_is)
    (case l7 => k_is)
    (case c7 => k_is)
    (case k7 => k_is)
    (case a8 => k_is)
    (case l8 => k_is)
    (case c8 => k_is)
    (case k8 => k_is)
    (case a9 => k_is)
    (case l9 => k_is)
    (case c9 => k_is)
    (case k9 => k_is)
    (case a10 => k_is)
    (case l10 => k_is)
    (case c10 => k_is)
    (case k10 => k_is)
    (case a11 => k_is)
    (case l11 => k_is)
    (case c11 => k_is)
    (case k11 => k_is)
    (case a12 => k_is)
    (case l12 => k_is)
    (case c12 => k_is)
    (case k12 => k_is)
    (case a13 => k_is)
    (case l13 => k_is)
    (case c13 => k_is)
    (case k13 => k_is)
    (case z_abs => k_is)
    (case z_all => k_is)
    (case z_bool => k_is)
    (case z_dict => k_is)
    (case z_int => k_is)
    (case z_isinstance => k_is)
    (case z_len => k_is)
    (case z_list => k_is)
    (case z_range => k_is)
    (case z_sorted => k_is)
    (case z_str => k_is)
    (case z_tuple => k_is)

