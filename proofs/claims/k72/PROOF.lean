import PyProof.Rows.All
import Wide.All
import OpenK.AllK
import Wide.FinOn
import HandS.ForMost
import HandS.Wide
import HandS.IsInst
import HandS.TupAny
import HandS.Codes
import HandS.Deep
import HandS.Rev
import HandS.TupLe
import PyProof.NeKinds
import PyProof.FactsAll.dict_1
import PyProof.FactsAll.dict_2
import HandS.More
import HandS.Walk
import HandS.RevRange
import HandS.Conv
import HandS.DictTup
import HandS.ReCall
import HandS.Iter
import KE.KDictKeyed
import KE.KDictLaw
import KE.KDictWalk
import PyProof.DictRoadsH
import PyProof.Rows.RegStrCode
import KE.SortData
import KE.KDictSum
import KE.KDictCopyH
import PySem.Challenge.RW_viewwood_k72_whole_works_along_drawings
set_option Elab.async false
set_option linter.all false
set_option maxRecDepth 100000
/-! a dict against a text: == is false, != true -/
namespace U
open PySem PySem.SeqAt
open PySem.AutoSeq1 (wpAny_loadPart')
open PySem.MeetsSeq PySem.MeetsSeq2 PySem.MeetsSeq3
theorem dict_ne_declines_str (l : Addr) (o : Obj) (b : Str) (u : Tok) (hc : o.cls = .type "dict") (es : Array DictEntry) (ep : Nat) (hd : o.data = .dict es ep) :
    Meets (Builtin.«dict.__ne__» ⟨[.ref l, .str b u], []⟩) (fun _ R s => s.heap.get? l = some o ∧ R (.ok (.ret .notImplemented)) s) :=
  .of_wp fun prog w A R s h => by
    obtain ⟨hp, g, d, tk, os⟩ := s; obtain ⟨hl, h⟩ := h; have f1 := F.sub_str_dict
    obtain ⟨cls, dd, data, sl⟩ := o
    simp only at hc hd
    subst hc hd
    wp_walk using wpAny_loadPart' hl, wpAny_load hl
    exact ⟨_, rfl, h⟩
theorem str_ne_declines_dict (b : Str) (u : Tok) (l : Addr) (o : Obj) (hc : o.cls = .type "dict") (es : Array DictEntry) (ep : Nat) (hd : o.data = .dict es ep) :
    Meets (Builtin.«str.__ne__» ⟨[.str b u, .ref l], []⟩) (fun _ R s => s.heap.get? l = some o ∧ R (.ok (.ret .notImplemented)) s) :=
  .of_wp fun prog w A R s h => by
    obtain ⟨hp, g, d, tk, os⟩ := s; obtain ⟨hl, h⟩ := h
    obtain ⟨cls, dd, data, sl⟩ := o
    simp only at hc hd
    subst hc hd
    wp_walk using wpAny_loadPart' hl, wpAny_load hl
    exact ⟨_, rfl, h⟩
section
variable {A : Around} {s : Shared}
theorem rcNe_dict_str {l : Addr} {o : Obj} {es : Array DictEntry} {ep : Nat} (b : Str) (u : Tok) (ho : s.heap.get? l = some o) (hc : o.cls = .type "dict") (hd : o.data = .dict es ep) (hu : A.units < cLine) : RcNeAt A s (.ref l) (.str b u) true := fun prog w E Q h =>
  rc_ne_decline_or (k := false) ⟨_, ho, hc⟩ (typeIs_str s b u) (by decide) F.sub_str_dict F.slot_dict_ne F.slot_str_ne_refl
    (fun _ hq => call_meets F.slot_dict_ne ⟨_, ho, hc⟩ F.entry_dict_ne (F.args_dict_ne_2 _ _) (dict_ne_declines_str l o b u hc es ep hd) ⟨ho, hq⟩)
    (fun _ hq => call_meets F.slot_str_ne_refl (typeIs_str s b u) F.entry_str_ne (F.args_str_ne_2 _ _) (str_ne_declines_dict b u l o hc es ep hd) ⟨ho, hq⟩)
    (fun _ hq => wpAny_of_eq (rfl : isSame (.ref l) (.str b u) = pure false) hq) (.inr hu) h
end
theorem dict_eq_declines_str (l : Addr) (o : Obj) (b : Str) (u : Tok) (hc : o.cls = .type "dict") (es : Array DictEntry) (ep : Nat) (hd : o.data = .dict es ep) :
    Meets (Builtin.«dict.__eq__» ⟨[.ref l, .str b u], []⟩) (fun _ R s => s.heap.get? l = some o ∧ R (.ok (.ret .notImplemented)) s) :=
  .of_wp fun prog w A R s h => by
    obtain ⟨hp, g, d, tk, os⟩ := s; obtain ⟨hl, h⟩ := h; have f1 := F.sub_str_dict
    obtain ⟨cls, dd, data, sl⟩ := o
    simp only at hc hd
    subst hc hd
    wp_walk using wpAny_loadPart' hl, wpAny_load hl
    exact ⟨_, rfl, h⟩
theorem str_eq_declines_dict (b : Str) (u : Tok) (l : Addr) (o : Obj) (hc : o.cls = .type "dict") (es : Array DictEntry) (ep : Nat) (hd : o.data = .dict es ep) :
    Meets (Builtin.«str.__eq__» ⟨[.str b u, .ref l], []⟩) (fun _ R s => s.heap.get? l = some o ∧ R (.ok (.ret .notImplemented)) s) :=
  .of_wp fun prog w A R s h => by
    obtain ⟨hp, g, d, tk, os⟩ := s; obtain ⟨hl, h⟩ := h
    obtain ⟨cls, dd, data, sl⟩ := o
    simp only at hc hd
    subst hc hd
    wp_walk using wpAny_loadPart' hl, wpAny_load hl
    exact ⟨_, rfl, h⟩
section
variable {A : Around} {s : Shared}
theorem rcEq_dict_str {l : Addr} {o : Obj} {es : Array DictEntry} {ep : Nat} (b : Str) (u : Tok) (ho : s.heap.get? l = some o) (hc : o.cls = .type "dict") (hd : o.data = .dict es ep) (hu : A.units < cLine) : RcAt A s (.ref l) (.str b u) false := fun prog w E Q h =>
  rc_eq_decline_or (k := false) ⟨_, ho, hc⟩ (typeIs_str s b u) (by decide) F.sub_str_dict F.slot_dict_eq F.slot_str_eq_refl
    (fun _ hq => call_meets F.slot_dict_eq ⟨_, ho, hc⟩ F.entry_dict_eq (F.args_dict_eq_2 _ _) (dict_eq_declines_str l o b u hc es ep hd) ⟨ho, hq⟩)
    (fun _ hq => call_meets F.slot_str_eq_refl (typeIs_str s b u) F.entry_str_eq (F.args_str_eq_2 _ _) (str_eq_declines_dict b u l o hc es ep hd) ⟨ho, hq⟩)
    (fun _ hq => wpAny_of_eq (rfl : isSame (.ref l) (.str b u) = pure false) hq) (.inr hu) h
end
end U
namespace U
open PySem PySem.Spec PyProof.Rows L2
def rNeDS : R2 := fun x y H Q => ∃ p kvs z, x = .ref p ∧ H p = some (.dK kvs) ∧ y = .str z ∧ Q (.bl true) H
theorem op_neDS {X : Cx} (hu : X.A.units + 64 < cLine) : OpR X (compareOp .NotEq) rNeDS := by
  intro pins s σ H x y v u Q I rx ry h
  obtain ⟨p, kvs, z, rfl, hp, rfl, q⟩ := h
  obtain ⟨t, rfl⟩ := ry
  cases rx
  obtain ⟨_, _, _, _, o, es, ep, ho, hex, hd, _⟩ := I.hok p _ hp
  exact rcNe_dict_str z t ho hex.1 hd (by omega) _ _ _ _ ⟨.bl true, H, I, rfl, q⟩
def rEqDS : R2 := fun x y H Q => ∃ p kvs z, x = .ref p ∧ H p = some (.dK kvs) ∧ y = .str z ∧ Q (.bl false) H
theorem op_eqDS {X : Cx} (hu : X.A.units + 64 < cLine) : OpR X (compareOp .Eq) rEqDS := by
  intro pins s σ H x y v u Q I rx ry h
  obtain ⟨p, kvs, z, rfl, hp, rfl, q⟩ := h
  obtain ⟨t, rfl⟩ := ry
  cases rx
  obtain ⟨_, _, _, _, o, es, ep, ho, hex, hd, _⟩ := I.hok p _ hp
  exact rcEq_dict_str z t ho hex.1 hd (by omega) _ _ _ _ ⟨.bl false, H, I, rfl, q⟩
end U

/-! Uni: one rule for each construct whatever its values are, and short steps of readings. -/
namespace U
open PySem PySem.Spec PyProof.Rows L2
/-! ### a def that stands in the text, with its promise -/
structure Loc (K : PySem.W.Frag) (mg : Str → Option Value) (x : Str) (ps : List Str) (st : Stmt) : Prop where
  ex : ∃ f fd, Fun K x x st f fd ∧ mg x = some (.ref f) ∧ Binds K fd ps []
structure Fx (P : Program) (w : World) (K : PySem.W.Frag) (mg : Str → Option Value) (base : Heap) (k : Nat) (x : Str) (ps : List Str) (sp : Sp) : Prop where
  ex : ∃ f fd, FnOk P w K mg base CX0 k f fd ps sp ∧ mg x = some (.ref f) ∧ PySem.W.keepIn K (.ref f) = true ∧ Binds K fd ps []
theorem Fx.mono {P : Program} {w : World} {K : PySem.W.Frag} {mg : Str → Option Value} {base : Heap} {j k : Nat} {x : Str} {ps : List Str} {sp : Sp} (F : Fx P w K mg base j x ps sp) (h : j ≤ k) : Fx P w K mg base k x ps sp := by
  obtain ⟨f, fd, a, b, c, d⟩ := F.ex
  exact ⟨f, fd, a.mono h, b, c, d⟩
theorem Loc.ok {P : Program} {w : World} {K : PySem.W.Frag} {mg : Str → Option Value} {base : Heap} {x : Str} {st : Stmt} {N ps : List Str} {k : Nat} {sp : Sp} (L : Loc K mg x ps st) (S : FnScope N ps (defScope st)) (len : ∀ vs H Q E, sp vs H Q E → vs.length = ps.length)
    (hbody : ∀ (f : Addr) (cdv : Value) (A : Around) (outer : List Env) (s : Shared) (H : Hp) (vs : List V) (Q : VK) (E : XK), Room k (A.deeper (envOfC x (defScope st) s.heap.objs.size f cdv)) → sp vs H Q E →
      ∃ t, PSs (cxOf CX0 P w K mg base N x (defScope st) f cdv A outer s H E).nox (defBody st) t ∧ t ⟨fun _ H' => Q .non H', Q, fun _ _ => False, fun _ _ => False⟩ (start N vs) H) : Fx P w K mg base (k + 1) x ps sp := by
  obtain ⟨f, fd, F, m, b⟩ := L.ex
  exact ⟨f, fd, F.ok S len fun cdv A outer s H vs Q E hr h => hbody f cdv A outer s H vs Q E hr h, m, F.kp, b⟩
theorem pe_fx {X : Cx} {k j : Nat} {x : Str} {ps : List Str} {sp : Sp} {e : Expr} {es : List Expr} {t : TA} {p pos : Pos} (G : Fx X.prog X.w X.K X.mg X.base k x ps sp) (hr : Room j X.A) (hkj : k ≤ j) (ha : PA X (e :: es) t) (hg : Gl X x := by rfl)
    (hdb : (x == ("__debug__" : Str)) = false := by decide +kernel)
    (he : starEach (e :: es) X.env = (false, eval e X.env) :: starEach es X.env := by rfl) (hpl : (backTo pos (starEach es X.env)).any (·.1) = false := by rfl) : PE X (.Call (.Name x p) (e :: es) [] pos) (tCall sp [] E0 t) := by
  obtain ⟨f, fd, a, b, c, d⟩ := G.ex
  exact pe_call a (hr.mono hkj) hg b c d .nil pass0 ha (hdb := hdb) (he := he) (hpl := hpl)

/-! ### a constant tuple of the top -/
def KTup (K : PySem.W.Frag) (a : Addr) (xs : List V) : Prop := ∀ H, SqT K H a xs
def tKT (K : PySem.W.Frag) (xs : List V) : TE := fun _ H Q => ∀ a, KTup K a xs → Q (.ref a) H
theorem pe_ktup {X : Cx} {e : Expr} {a : Addr} {xs : List V} (h : PE X e (tC (.ref a))) (k : KTup X.K a xs) : PE X e (tKT X.K xs) := ⟨fun pins s σ H Q I q => h.run pins s σ H Q I (q a k)⟩
theorem ktup_of {K : PySem.W.Frag} {a : Addr} {xs : List V} {od : Option Addr} {its : Array Value} {n : Nat} {sl : Array (Option Value)} (h : K.lookup a = some ⟨.type "tuple", od, .seq its n, sl⟩) (v : Vals xs its.toList) (z : its.size ≤ 1000 := by exact Nat.le_of_ble_eq_true rfl) : KTup K a xs := fun _ =>
  .inr ⟨_, its, n, h, rfl, rfl, Nat.le_trans z (by decide), v⟩
theorem vs_nil : Vals [] [] := .nil
theorem vs_str {x : Str} {t : Tok} {xs : List V} {us : List Value} (h : Vals xs us) : Vals (.str x :: xs) (.str x t :: us) := .cons ⟨t, rfl⟩ h
theorem vs_int {x : Int} {t : Tok} {xs : List V} {us : List Value} (h : Vals xs us) : Vals (.int x :: xs) (.int x t :: us) := .cons ⟨t, rfl⟩ h
/-! ### one rule a construct -/
section
variable {X : Cx}
abbrev r2or (r r' : R2) : R2 := fun x y H Q => r x y H Q ∨ r' x y H Q
def rStrCat : R2 := fun x y H Q => ∃ i j, x = .str i ∧ y = .str j ∧ i.length + j.length ≤ sizeLine ∧ Q (.str (i ++ j)) H
def rAddU (K : PySem.W.Frag) : R2 := r2or (r2or (rI0 fun i j => .int (i + j)) rStrCat) (r2or (rCatA K) rCat)
theorem op_addU {K} (hK : X.K = K) : OpR X (binaryOp .Add) (rAddU K) := by subst hK; exact (op_add.or op_add_str).or (op_catA.or op_cat)
def rMaxU : List V → Hp → VK → Prop := fun xs H Q => ∃ i j, xs = [.int i, .int j] ∧ Q (.int (if j > i then j else i)) H
def rMinU : List V → Hp → VK → Prop := fun xs H Q => ∃ i j, xs = [.int i, .int j] ∧ Q (.int (if j < i then j else i)) H
def rAbsU : List V → Hp → VK → Prop := fun xs H Q => ∃ i, xs = [.int i] ∧ Q (.int (if i < 0 then -i else i)) H
def rIntU : List V → Hp → VK → Prop := fun xs H Q => (∃ i, xs = [.int i] ∧ Q (.int i) H) ∨ ∃ k, xs = [.bl k] ∧ Q (.int (if k then 1 else 0)) H
theorem call_maxU (hc : X.calm = true) : CallR X (.builtin "max") rMaxU := call_max2 hc
theorem call_minU (hc : X.calm = true) : CallR X (.builtin "min") rMinU := call_min2 hc
theorem call_absU : CallR X (.builtin "abs") rAbsU := call_abs
theorem call_intU : CallR X (.type "int") rIntU := call_int1
def rLenU (K : PySem.W.Frag) : List V → Hp → VK → Prop := fun xs H Q => (∃ p ys, xs = [.ref p] ∧ (SqL K H p ys ∨ SqT K H p ys) ∧ Q (.int ys.length) H) ∨ (∃ z, xs = [.str z] ∧ z.length ≤ sizeLine ∧ Q (.int z.length) H)
theorem call_lenU {K} (hK : X.K = K) : CallR X (.builtin "len") (rLenU K) := by subst hK; exact call_len_seq.or call_len_str
theorem call_isiU {K} (hK : X.K = K) : CallR X (.builtin "isinstance") (rIsi K) := by subst hK; exact call_isi
theorem ix_U {K} (hK : X.K = K) : IxR X (rIx K) := by subst hK; exact ix_seq
theorem call_allU {K} (hK : X.K = K) (hc : X.calm = true) : CallR X (.builtin "all") (rAll K) := by subst hK; exact cr_all hc
theorem call_anyU {K} (hK : X.K = K) (hc : X.calm = true) : CallR X (.builtin "any") (rAny K) := by subst hK; exact cr_any hc
theorem call_sumU {K} (hK : X.K = K) (hc : X.calm = true) : CallR X (.builtin "sum") (rSum K) := by subst hK; exact cr_sum hc
def rListU (K : PySem.W.Frag) : List V → Hp → VK → Prop := fun xs H Q => ∃ p ys, xs = [.ref p] ∧ (SqL K H p ys ∨ SqT K H p ys) ∧ ∀ l, H l = none → Q (.ref l) (upd H l (.lst ys))
theorem call_listU {K} (hK : X.K = K) : CallR X (.type "list") (rListU K) := by subst hK; exact call_list_of
def rTupleU (K : PySem.W.Frag) : List V → Hp → VK → Prop := fun xs H Q => ∃ p ys, xs = [.ref p] ∧ ((SqL K H p ys ∧ ∀ l, H l = none → Q (.ref l) (upd H l (.tup ys))) ∨ (SqT K H p ys ∧ Q (.ref p) H))
theorem call_tupleU {K} (hK : X.K = K) : CallR X (.type "tuple") (rTupleU K) := by subst hK; exact call_tuple_of
theorem pg_tupU {K} {es : List Expr} {k : Nat} {t : TGs} {n : Nat} {pos : Pos} (hK : X.K = K) (hc : X.calm = true) (h : PGs X es t)
    (hn : (assignEach es X.env).length = n := by rfl) (hst : (assignEach es X.env).findIdx? (·.1) = none := by rfl) : PG X (.Tuple es k pos) (gTup K n t) := by subst hK; exact pg_tup hc h hn hst
theorem pi_listU {K} {tg l : Expr} {tl : TE} (hK : X.K = K) (hl : PE X l tl) : PI X tg l (iList K tl) := by subst hK; exact pi_list hl
theorem pi_tupU {K} {tg l : Expr} {tl : TE} (hK : X.K = K) (hl : PE X l tl) : PI X tg l (iTup K tl) := by subst hK; exact pi_tup hl
def rMulU : R2 := r2or (r2or (rI CMul fun i j => .int (i * j)) (rI CMulW fun i j => .int (i * j))) rRep
theorem op_mulU : OpR X (binaryOp .Mult) rMulU := (op_mul.or op_mulW).or op_rep
def rSignIn : R2 := fun x y H Q => ∃ (c : Nat) (z : Str), x = .str ⟨#[c]⟩ ∧ y = .str z ∧ Q (.bl (decide (c ∈ z.cps.toList))) H
def rSignNin : R2 := fun x y H Q => ∃ (c : Nat) (z : Str), x = .str ⟨#[c]⟩ ∧ y = .str z ∧ Q (.bl (!decide (c ∈ z.cps.toList))) H
def rInU (K : PySem.W.Frag) : R2 := r2or (r2or (rIn K false) (rInD K)) rSignIn
def rNinU (K : PySem.W.Frag) : R2 := r2or (r2or (rIn K true) (rNotInD K)) rSignNin
theorem op_inU {K} (hK : X.K = K) (hu : X.A.units + 65 < cLine) : OpR X (compareOp .In) (rInU K) := by subst hK; exact (op_in_seq.or (op_inD hu)).or op_in_sign
theorem op_ninU {K} (hK : X.K = K) (hu : X.A.units + 65 < cLine) : OpR X (compareOp .NotIn) (rNinU K) := by subst hK; exact (op_notIn_seq.or (op_notInD hu)).or op_notIn_sign
def rMaxL (K : PySem.W.Frag) : List V → Hp → VK → Prop := rMax K
theorem call_maxL {K} (hK : X.K = K) (hc : X.calm = true) : CallR X (.builtin "max") (rMaxL K) := by subst hK; exact cr_max hc
def rMinL (K : PySem.W.Frag) : List V → Hp → VK → Prop := rMin K
theorem call_minL {K} (hK : X.K = K) (hc : X.calm = true) : CallR X (.builtin "min") (rMinL K) := by subst hK; exact cr_min hc
def rIsB : R2 := fun x y H Q => ∃ a b, x = .bl a ∧ y = .bl b ∧ Q (.bl (decide (a = b))) H
def rNisB : R2 := fun x y H Q => ∃ a b, x = .bl a ∧ y = .bl b ∧ Q (.bl (!decide (a = b))) H
theorem op_isB : OpR X (compareOp .Is) rIsB := op_is_bl
theorem op_nisB : OpR X (compareOp .IsNot) rNisB := op_isnot_bl
def iRevU (K : PySem.W.Frag) (te : TE) : TI := RT.iRevA K te
theorem pi_revU {K} {tg e : Expr} {te : TE} {p pos : Pos} (hK : X.K = K) (hg : Gl X "reversed") (hm : X.mg "reversed" = none) (he : PE X e te) (hs : starEach [e] X.env = (false, eval e X.env) :: starEach [] X.env := by rfl) : PI X tg (.Call (.Name "reversed" p) [e] [] pos) (iRevU K te) := by
  subst hK; exact RT.pi_revA hg hm he hs
def iEnumU (K : PySem.W.Frag) (ta : TA) : TI := iEnum K ta
theorem pi_enumU {K} {e : Expr} {ta : TA} {p pos tpos : Pos} {elts : List Expr} {kk : Nat} (hK : X.K = K) (hg : Gl X "enumerate") (hm : X.mg "enumerate" = none) (ha : PA X [e] ta) (hs : starEach [e] X.env = [(false, eval e X.env)] := by rfl) :
    PI X (.Tuple elts kk tpos) (.Call (.Name "enumerate" p) [e] [] pos) (iEnumU K ta) := by subst hK; exact pi_enum hg hm ha hs
/-- a slice -/
def rSlU (K : PySem.W.Frag) : V → Option Int → Option Int → Hp → VK → Prop := fun x lo hi H Q => (rSlL K x lo hi H Q ∨ rSlA K x lo hi H Q) ∨ rSlS x lo hi H Q
theorem sl_U {K} (hK : X.K = K) : SlR X (rSlU K) := by subst hK; exact (sl_list.or sl_tupA).or sl_str
def rEqU (K : PySem.W.Frag) : R2 := r2or (r2or rEq (rEqD K)) rEqDS
theorem op_eqU {K} (hK : X.K = K) (hu : X.A.units + 64 < cLine) : OpR X (compareOp .Eq) (rEqU K) := by subst hK; exact (op_eq.or (op_eqD hu)).or (op_eqDS hu)
def rNeU (K : PySem.W.Frag) : R2 := r2or (r2or rNe (rNeD K)) rNeDS
theorem op_neU {K} (hK : X.K = K) (hu : X.A.units + 64 < cLine) : OpR X (compareOp .NotEq) (rNeU K) := by subst hK; exact (op_ne.or (op_neD hu)).or (op_neDS hu)
end
theorem u65 {A : Around} {k : Nat} (hr : Room k A) : A.units + 65 < cLine := by have := hr.un; omega
theorem u64 {A : Around} {k : Nat} (hr : Room k A) : A.units + 64 < cLine := hr.units
section
variable {K : PySem.W.Frag} {H : Hp} {Q : VK} {i j : Int}
theorem w_addI (q : Q (.int (i + j)) H) : rAddU K (.int i) (.int j) H Q := .inl (.inl ⟨i, j, rfl, rfl, q⟩)
theorem w_addS {a b : Str} (h : a.length + b.length ≤ sizeLine) (q : Q (.str (a ++ b)) H) : rAddU K (.str a) (.str b) H Q := .inl (.inr ⟨a, b, rfl, rfl, h, q⟩)
theorem w_addL {l b : Addr} {xs zs : List V} (h1 : H l = some (.lst xs)) (h2 : H b = some (.lst zs)) (hl : xs.length + zs.length ≤ 1000000) (q : ∀ p, H p = none → Q (.ref p) (upd H p (.lst (xs ++ zs)))) : rAddU K (.ref l) (.ref b) H Q := .inr (.inr ⟨l, b, xs, zs, rfl, rfl, h1, h2, Nat.le_trans hl (by decide), q⟩)
theorem w_sub (q : Q (.int (i - j)) H) : rI0 (fun i j => .int (i - j)) (.int i) (.int j) H Q := ⟨i, j, rfl, rfl, q⟩
theorem w_rI0 {g : Int → Int → V} (q : Q (g i j) H) : rI0 g (.int i) (.int j) H Q := ⟨i, j, rfl, rfl, q⟩
theorem w_rI {C : Int → Int → Prop} {g : Int → Int → V} (c : C i j) (q : Q (g i j) H) : rI C g (.int i) (.int j) H Q := ⟨i, j, rfl, rfl, c, q⟩
theorem w_mulI (c : (-(2 ^ 64) < i ∧ i < 2 ^ 64) ∨ (-(2 ^ 64) < j ∧ j < 2 ^ 64)) (q : Q (.int (i * j)) H) : rMulU (.int i) (.int j) H Q := .inl (.inl ⟨i, j, rfl, rfl, c, q⟩)
theorem w_max (q : Q (.int (if j > i then j else i)) H) : rMaxU [.int i, .int j] H Q := ⟨i, j, rfl, q⟩
theorem w_min (q : Q (.int (if j < i then j else i)) H) : rMinU [.int i, .int j] H Q := ⟨i, j, rfl, q⟩
theorem w_abs (q : Q (.int (if i < 0 then -i else i)) H) : rAbsU [.int i] H Q := ⟨i, rfl, q⟩
theorem w_intI (q : Q (.int i) H) : rIntU [.int i] H Q := .inl ⟨i, rfl, q⟩
theorem w_intB {k : Bool} (q : Q (.int (if k then 1 else 0)) H) : rIntU [.bl k] H Q := .inr ⟨k, rfl, q⟩
theorem w_pow9 (q : Q (.int 1000000000) H) : rI CPow (fun i j => .int (i ^ j.toNat)) (.int 10) (.int 9) H Q := ⟨10, 9, rfl, rfl, ⟨by decide, by decide, by decide⟩, q⟩
theorem w_pow18 (q : Q (.int 1000000000000000000) H) : rI CPow (fun i j => .int (i ^ j.toNat)) (.int 10) (.int 18) H Q := ⟨10, 18, rfl, rfl, ⟨by decide, by decide, by decide⟩, q⟩
theorem w_pow6 (q : Q (.int 1000000) H) : rI CPow (fun i j => .int (i ^ j.toNat)) (.int 10) (.int 6) H Q := ⟨10, 6, rfl, rfl, ⟨by decide, by decide, by decide⟩, q⟩
theorem w_pow59 (q : Q (.int 100000000000000000000000000000000000000000000000000000000000) H) : rI CPow (fun i j => .int (i ^ j.toNat)) (.int 10) (.int 59) H Q := ⟨10, 59, rfl, rfl, ⟨by decide, by decide, by decide⟩, q⟩
theorem w_slL {p : Addr} {xs : List V} {lo hi : Option Int} (h : SqL K H p xs) (q : ∀ l, H l = none → Q (.ref l) (upd H l (.lst (cutV xs lo hi)))) : rSlU K (.ref p) lo hi H Q := .inl (.inl ⟨p, xs, rfl, h, q⟩)
theorem w_part {σ : L2.St} {te : TE} {Q : Option Int → Hp → Prop} (q : te σ H fun x H1 => ∃ i, x = .int i ∧ Q (some i) H1) : tPart te σ H Q := q
theorem w_partI {P : Int → Prop} (q : P i) : ∃ k, V.int i = .int k ∧ P k := ⟨i, rfl, q⟩
theorem w_nopart {σ : L2.St} {Q : Option Int → Hp → Prop} (q : Q none H) : tNoPart σ H Q := q
theorem w_sl {σ : L2.St} {r : V → Option Int → Option Int → Hp → VK → Prop} {te : TE} {tl th : TO} (q : te σ H fun x H1 => tl σ H1 fun l H2 => th σ H2 fun u H3 => r x l u H3 Q) : tSl r te tl th σ H Q := q
theorem w_listL {p : Addr} {ys : List V} (h : SqL K H p ys) (q : ∀ l, H l = none → Q (.ref l) (upd H l (.lst ys))) : rListU K [.ref p] H Q := ⟨p, ys, rfl, .inl h, q⟩
theorem w_listT {p : Addr} {ys : List V} (h : SqT K H p ys) (q : ∀ l, H l = none → Q (.ref l) (upd H l (.lst ys))) : rListU K [.ref p] H Q := ⟨p, ys, rfl, .inr h, q⟩
theorem w_tupleL {p : Addr} {ys : List V} (h : SqL K H p ys) (q : ∀ l, H l = none → Q (.ref l) (upd H l (.tup ys))) : rTupleU K [.ref p] H Q := ⟨p, ys, rfl, .inl ⟨h, q⟩⟩
theorem w_isB {a b : Bool} (q : Q (.bl (decide (a = b))) H) : rIsB (.bl a) (.bl b) H Q := ⟨a, b, rfl, rfl, q⟩
theorem w_nisB {a b : Bool} (q : Q (.bl (!decide (a = b))) H) : rNisB (.bl a) (.bl b) H Q := ⟨a, b, rfl, rfl, q⟩
theorem w_inT {x : V} {p : Addr} {xs : List V} (h : SqT K H p xs) (hx : flatV x = true) (ha : xs.all flatV = true) (q : Q (.bl (inV x xs)) H) : rInU K x (.ref p) H Q := .inl (.inl ⟨p, xs, rfl, .inr h, hx, ha, q⟩)
theorem w_inL {x : V} {p : Addr} {xs : List V} (h : SqL K H p xs) (hx : flatV x = true) (ha : xs.all flatV = true) (q : Q (.bl (inV x xs)) H) : rInU K x (.ref p) H Q := .inl (.inl ⟨p, xs, rfl, .inl h, hx, ha, q⟩)
theorem w_ninT {x : V} {p : Addr} {xs : List V} (h : SqT K H p xs) (hx : flatV x = true) (ha : xs.all flatV = true) (q : Q (.bl (!inV x xs)) H) : rNinU K x (.ref p) H Q := .inl (.inl ⟨p, xs, rfl, .inr h, hx, ha, q⟩)
theorem w_ninL {x : V} {p : Addr} {xs : List V} (h : SqL K H p xs) (hx : flatV x = true) (ha : xs.all flatV = true) (q : Q (.bl (!inV x xs)) H) : rNinU K x (.ref p) H Q := .inl (.inl ⟨p, xs, rfl, .inl h, hx, ha, q⟩)
theorem w_lenL {p : Addr} {ys : List V} (h : SqL K H p ys) (q : Q (.int ys.length) H) : rLenU K [.ref p] H Q := .inl ⟨p, ys, rfl, .inl h, q⟩
theorem w_lenT {p : Addr} {ys : List V} (h : SqT K H p ys) (q : Q (.int ys.length) H) : rLenU K [.ref p] H Q := .inl ⟨p, ys, rfl, .inr h, q⟩
theorem w_lenS {z : Str} (h : z.length ≤ sizeLine) (q : Q (.int z.length) H) : rLenU K [.str z] H Q := .inr ⟨z, rfl, h, q⟩
theorem w_ixL {p : Addr} {xs : List V} {v : V} (h : SqL K H p xs) (e : atI xs i = some v) (q : Q v H) : rIx K (.ref p) (.int i) H Q := .inl ⟨p, xs, i, v, rfl, rfl, h, e, q⟩
theorem w_ixT {p : Addr} {xs : List V} {v : V} (h : SqT K H p xs) (e : atI xs i = some v) (q : Q v H) : rIx K (.ref p) (.int i) H Q := .inr (.inl ⟨p, xs, i, v, rfl, rfl, h, e, q⟩)
theorem w_setL {p : Addr} {xs : List V} {v : V} {j : Nat} {Q : Hp → Prop} (h : H p = some (.lst xs)) (e : ixN xs.length i = some j) (q : Q (upd H p (.lst (xs.set j v)))) : rSetL (.ref p) (.int i) v H Q := ⟨p, xs, i, j, rfl, rfl, h, e, q⟩
theorem w_isi {x : V} {n : String} {t : Value} {b : Bool} (ty : TyX K H x t) (e : PySem.W.kitOne K t (.type n) = some b) (q : Q (.bl b) H) : rIsi K [x, .ty n] H Q := ⟨x, .ty n, t, .type n, b, rfl, .ty n, ty, e, q⟩
/-! isinstance of plain values -/
theorem ty_T {a : Addr} {xs : List V} (h : SqT K H a xs) : TyX K H (.ref a) (.type "tuple") := by
  rcases h with (h | ⟨o, h⟩) | ⟨o, its, n, h, hc, _⟩
  · exact .base (.tup h)
  · exact .fTuple h
  · exact .kTuple h hc
theorem ty_L {a : Addr} {xs : List V} (h : SqL K H a xs) : TyX K H (.ref a) (.type "list") := by
  rcases h with (h | ⟨o, h⟩) | ⟨o, its, n, h, hc, _⟩
  · exact .base (.lst h)
  · exact .base (.frz h)
  · exact .kList h hc
theorem isD_int {a : Addr} {kvs : List (Key × V)} (h : H a = some (.dK kvs)) (q : Q (.bl false) H) : rIsi K [.ref a, .ty "int"] H Q := w_isi (.base (.dK h)) (kit_ty (by decide +kernel)) q
theorem isD_bool {a : Addr} {kvs : List (Key × V)} (h : H a = some (.dK kvs)) (q : Q (.bl false) H) : rIsi K [.ref a, .ty "bool"] H Q := w_isi (.base (.dK h)) (kit_ty (by decide +kernel)) q
theorem isD_str {a : Addr} {kvs : List (Key × V)} (h : H a = some (.dK kvs)) (q : Q (.bl false) H) : rIsi K [.ref a, .ty "str"] H Q := w_isi (.base (.dK h)) (kit_ty (by decide +kernel)) q
theorem isD_tuple {a : Addr} {kvs : List (Key × V)} (h : H a = some (.dK kvs)) (q : Q (.bl false) H) : rIsi K [.ref a, .ty "tuple"] H Q := w_isi (.base (.dK h)) (kit_ty (by decide +kernel)) q
theorem isD_list {a : Addr} {kvs : List (Key × V)} (h : H a = some (.dK kvs)) (q : Q (.bl false) H) : rIsi K [.ref a, .ty "list"] H Q := w_isi (.base (.dK h)) (kit_ty (by decide +kernel)) q
theorem isD_dict {a : Addr} {kvs : List (Key × V)} (h : H a = some (.dK kvs)) (q : Q (.bl true) H) : rIsi K [.ref a, .ty "dict"] H Q := w_isi (.base (.dK h)) (kit_ty (by decide +kernel)) q
theorem isT_int {a : Addr} {xs : List V} (h : SqT K H a xs) (q : Q (.bl false) H) : rIsi K [.ref a, .ty "int"] H Q := w_isi (ty_T h) (kit_ty (by decide +kernel)) q
theorem isT_bool {a : Addr} {xs : List V} (h : SqT K H a xs) (q : Q (.bl false) H) : rIsi K [.ref a, .ty "bool"] H Q := w_isi (ty_T h) (kit_ty (by decide +kernel)) q
theorem isT_str {a : Addr} {xs : List V} (h : SqT K H a xs) (q : Q (.bl false) H) : rIsi K [.ref a, .ty "str"] H Q := w_isi (ty_T h) (kit_ty (by decide +kernel)) q
theorem isT_tuple {a : Addr} {xs : List V} (h : SqT K H a xs) (q : Q (.bl true) H) : rIsi K [.ref a, .ty "tuple"] H Q := w_isi (ty_T h) (kit_ty (by decide +kernel)) q
theorem isT_list {a : Addr} {xs : List V} (h : SqT K H a xs) (q : Q (.bl false) H) : rIsi K [.ref a, .ty "list"] H Q := w_isi (ty_T h) (kit_ty (by decide +kernel)) q
theorem isT_dict {a : Addr} {xs : List V} (h : SqT K H a xs) (q : Q (.bl false) H) : rIsi K [.ref a, .ty "dict"] H Q := w_isi (ty_T h) (kit_ty (by decide +kernel)) q
theorem isL_int {a : Addr} {xs : List V} (h : SqL K H a xs) (q : Q (.bl false) H) : rIsi K [.ref a, .ty "int"] H Q := w_isi (ty_L h) (kit_ty (by decide +kernel)) q
theorem isL_bool {a : Addr} {xs : List V} (h : SqL K H a xs) (q : Q (.bl false) H) : rIsi K [.ref a, .ty "bool"] H Q := w_isi (ty_L h) (kit_ty (by decide +kernel)) q
theorem isL_str {a : Addr} {xs : List V} (h : SqL K H a xs) (q : Q (.bl false) H) : rIsi K [.ref a, .ty "str"] H Q := w_isi (ty_L h) (kit_ty (by decide +kernel)) q
theorem isL_tuple {a : Addr} {xs : List V} (h : SqL K H a xs) (q : Q (.bl false) H) : rIsi K [.ref a, .ty "tuple"] H Q := w_isi (ty_L h) (kit_ty (by decide +kernel)) q
theorem isL_list {a : Addr} {xs : List V} (h : SqL K H a xs) (q : Q (.bl true) H) : rIsi K [.ref a, .ty "list"] H Q := w_isi (ty_L h) (kit_ty (by decide +kernel)) q
theorem isL_dict {a : Addr} {xs : List V} (h : SqL K H a xs) (q : Q (.bl false) H) : rIsi K [.ref a, .ty "dict"] H Q := w_isi (ty_L h) (kit_ty (by decide +kernel)) q
theorem is_non_int (q : Q (.bl false) H) : rIsi K [.non, .ty "int"] H Q := w_isi (.base .non) (kit_ty (by decide +kernel)) q
theorem is_non_bool (q : Q (.bl false) H) : rIsi K [.non, .ty "bool"] H Q := w_isi (.base .non) (kit_ty (by decide +kernel)) q
theorem is_non_str (q : Q (.bl false) H) : rIsi K [.non, .ty "str"] H Q := w_isi (.base .non) (kit_ty (by decide +kernel)) q
theorem is_non_tuple (q : Q (.bl false) H) : rIsi K [.non, .ty "tuple"] H Q := w_isi (.base .non) (kit_ty (by decide +kernel)) q
theorem is_non_list (q : Q (.bl false) H) : rIsi K [.non, .ty "list"] H Q := w_isi (.base .non) (kit_ty (by decide +kernel)) q
theorem is_non_dict (q : Q (.bl false) H) : rIsi K [.non, .ty "dict"] H Q := w_isi (.base .non) (kit_ty (by decide +kernel)) q
theorem is_bl_int {u : Bool} (q : Q (.bl true) H) : rIsi K [(.bl u), .ty "int"] H Q := w_isi (.base (.bl _)) (kit_ty (by decide +kernel)) q
theorem is_bl_bool {u : Bool} (q : Q (.bl true) H) : rIsi K [(.bl u), .ty "bool"] H Q := w_isi (.base (.bl _)) (kit_ty (by decide +kernel)) q
theorem is_bl_str {u : Bool} (q : Q (.bl false) H) : rIsi K [(.bl u), .ty "str"] H Q := w_isi (.base (.bl _)) (kit_ty (by decide +kernel)) q
theorem is_bl_tuple {u : Bool} (q : Q (.bl false) H) : rIsi K [(.bl u), .ty "tuple"] H Q := w_isi (.base (.bl _)) (kit_ty (by decide +kernel)) q
theorem is_bl_list {u : Bool} (q : Q (.bl false) H) : rIsi K [(.bl u), .ty "list"] H Q := w_isi (.base (.bl _)) (kit_ty (by decide +kernel)) q
theorem is_bl_dict {u : Bool} (q : Q (.bl false) H) : rIsi K [(.bl u), .ty "dict"] H Q := w_isi (.base (.bl _)) (kit_ty (by decide +kernel)) q
theorem is_int_int {u : Int} (q : Q (.bl true) H) : rIsi K [(.int u), .ty "int"] H Q := w_isi (.base (.int _)) (kit_ty (by decide +kernel)) q
theorem is_int_bool {u : Int} (q : Q (.bl false) H) : rIsi K [(.int u), .ty "bool"] H Q := w_isi (.base (.int _)) (kit_ty (by decide +kernel)) q
theorem is_int_str {u : Int} (q : Q (.bl false) H) : rIsi K [(.int u), .ty "str"] H Q := w_isi (.base (.int _)) (kit_ty (by decide +kernel)) q
theorem is_int_tuple {u : Int} (q : Q (.bl false) H) : rIsi K [(.int u), .ty "tuple"] H Q := w_isi (.base (.int _)) (kit_ty (by decide +kernel)) q
theorem is_int_list {u : Int} (q : Q (.bl false) H) : rIsi K [(.int u), .ty "list"] H Q := w_isi (.base (.int _)) (kit_ty (by decide +kernel)) q
theorem is_int_dict {u : Int} (q : Q (.bl false) H) : rIsi K [(.int u), .ty "dict"] H Q := w_isi (.base (.int _)) (kit_ty (by decide +kernel)) q
theorem is_str_int {u : Str} (q : Q (.bl false) H) : rIsi K [(.str u), .ty "int"] H Q := w_isi (.base (.str _)) (kit_ty (by decide +kernel)) q
theorem is_str_bool {u : Str} (q : Q (.bl false) H) : rIsi K [(.str u), .ty "bool"] H Q := w_isi (.base (.str _)) (kit_ty (by decide +kernel)) q
theorem is_str_str {u : Str} (q : Q (.bl true) H) : rIsi K [(.str u), .ty "str"] H Q := w_isi (.base (.str _)) (kit_ty (by decide +kernel)) q
theorem is_str_tuple {u : Str} (q : Q (.bl false) H) : rIsi K [(.str u), .ty "tuple"] H Q := w_isi (.base (.str _)) (kit_ty (by decide +kernel)) q
theorem is_str_list {u : Str} (q : Q (.bl false) H) : rIsi K [(.str u), .ty "list"] H Q := w_isi (.base (.str _)) (kit_ty (by decide +kernel)) q
theorem is_str_dict {u : Str} (q : Q (.bl false) H) : rIsi K [(.str u), .ty "dict"] H Q := w_isi (.base (.str _)) (kit_ty (by decide +kernel)) q
theorem w_rU {g : Int → V} (q : Q (g i) H) : rU g (.int i) H Q := ⟨i, rfl, q⟩
theorem dec_int {a b : Int} : decide (V.int a = V.int b) = decide (a = b) := by
  by_cases h : a = b
  · subst h; simp
  · rw [decide_eq_false h, decide_eq_false fun e => h (V.int.inj e)]
theorem dec_str {a b : Str} : decide (V.str a = V.str b) = decide (a = b) := by
  by_cases h : a = b
  · subst h; simp
  · rw [decide_eq_false h, decide_eq_false fun e => h (V.str.inj e)]
theorem dec_bl {a b : Bool} : decide (V.bl a = V.bl b) = decide (a = b) := by
  by_cases h : a = b
  · subst h; simp
  · rw [decide_eq_false h, decide_eq_false fun e => h (V.bl.inj e)]
theorem w_eqI (q : Q (.bl (decide (i = j))) H) : rEqU K (.int i) (.int j) H Q := .inl (.inl ⟨rfl, by rw [dec_int]; exact q⟩)
theorem w_eqS {a b : Str} (q : Q (.bl (decide (a = b))) H) : rEqU K (.str a) (.str b) H Q := .inl (.inl ⟨rfl, by rw [dec_str]; exact q⟩)
theorem w_eqB {a b : Bool} (q : Q (.bl (decide (a = b))) H) : rEqU K (.bl a) (.bl b) H Q := .inl (.inl ⟨rfl, by rw [dec_bl]; exact q⟩)
theorem w_neI (q : Q (.bl (!decide (i = j))) H) : rNeU K (.int i) (.int j) H Q := .inl (.inl ⟨rfl, by rw [dec_int]; exact q⟩)
theorem w_neS {a b : Str} (q : Q (.bl (!decide (a = b))) H) : rNeU K (.str a) (.str b) H Q := .inl (.inl ⟨rfl, by rw [dec_str]; exact q⟩)
theorem w_neB {a b : Bool} (q : Q (.bl (!decide (a = b))) H) : rNeU K (.bl a) (.bl b) H Q := .inl (.inl ⟨rfl, by rw [dec_bl]; exact q⟩)
theorem w_eqDS {p : Addr} {kvs : List (Key × V)} {z : Str} (h : H p = some (.dK kvs)) (q : Q (.bl false) H) : rEqU K (.ref p) (.str z) H Q := .inr ⟨p, kvs, z, rfl, h, rfl, q⟩
theorem w_neDS {p : Addr} {kvs : List (Key × V)} {z : Str} (h : H p = some (.dK kvs)) (q : Q (.bl true) H) : rNeU K (.ref p) (.str z) H Q := .inr ⟨p, kvs, z, rfl, h, rfl, q⟩
theorem w_eqD {x y : V} {d e : PyData} (hx : Dp K H x d) (hy : Dp K H y e) (sx : SeqAt.shaped d = true) (sy : SeqAt.shaped e = true) (q : Q (.bl (PyData.eqv d e)) H) : rEqU K x y H Q := .inl (.inr ⟨d, e, hx, hy, sx, sy, q⟩)
theorem w_neD {x y : V} {d e : PyData} (hx : Dp K H x d) (hy : Dp K H y e) (sx : SeqAt.shaped d = true) (sy : SeqAt.shaped e = true) (q : Q (.bl (!PyData.eqv d e)) H) : rNeU K x y H Q := .inl (.inr ⟨d, e, hx, hy, sx, sy, q⟩)
end
/-- a new tuple, a new list -/
def MkT (xs : List V) (Q : VK) (H : Hp) : Prop := xs.length ≤ sizeLine ∧ ∀ p, H p = none → Q (.ref p) (upd H p (.tup xs))
def MkL (xs : List V) (Q : VK) (H : Hp) : Prop := xs.length ≤ sizeLine ∧ ∀ p, H p = none → Q (.ref p) (upd H p (.lst xs))
/-! ### steps of a reading -/
section
variable {K : PySem.W.Frag} {σ : L2.St} {H : Hp} {Q : VK} {QB : Bool → Hp → Prop} {QA : List V → Hp → Prop} {ta tb tc : TE} {t u : TT} {v : V} {i : Nat} {r r' : R2}
theorem w_var (h : σ[i]? = some (some v)) (q : Q v H) : tVar i σ H Q := ⟨v, h, q⟩
theorem w_c (q : Q v H) : tC v σ H Q := q
theorem w_op (q : ta σ H fun x H1 => tb σ H1 fun y H2 => r x y H2 Q) : tOp r ta tb σ H Q := q
theorem w_un {r : V → Hp → VK → Prop} (q : ta σ H fun x H1 => r x H1 Q) : tUn r ta σ H Q := q
theorem w_chain (q : ta σ H fun x H1 => tb σ H1 fun y H2 => r x y H2 fun z H3 => ∃ k, z = .bl k ∧ (if k = true then tc σ H3 fun w' H4 => r' y w' H4 Q else Q (.bl false) H3)) : tChain r r' ta tb tc σ H Q := q
theorem w_bl {b : Bool} {P : Bool → Prop} (q : P b) : ∃ k, V.bl b = .bl k ∧ P k := ⟨b, rfl, q⟩
theorem w_test (q : ta σ H fun x H' => ∃ k, x = .bl k ∧ QB k H') : tTest ta σ H QB := q
theorem w_B (q : ta σ H fun x H' => ∃ k, x = .bl k ∧ QB k H') : tB ta σ H QB := q
theorem w_and (q : t σ H fun c H1 => if c = true then u σ H1 QB else QB false H1) : tAnd t u σ H QB := q
theorem w_or (q : t σ H fun c H1 => if c = true then QB true H1 else u σ H1 QB) : tOr t u σ H QB := q
theorem w_not (q : t σ H fun c H1 => QB (!c) H1) : tNot t σ H QB := q
theorem w_andV (q : ta σ H fun x H1 => ∃ c, x = .bl c ∧ if c = true then tb σ H1 Q else Q (.bl false) H1) : tAndV ta tb σ H Q := q
theorem w_orV (q : ta σ H fun x H1 => ∃ c, x = .bl c ∧ if c = true then Q (.bl true) H1 else tb σ H1 Q) : tOrV ta tb σ H Q := q
theorem w_notV (q : ta σ H fun x H1 => ∃ c, x = .bl c ∧ Q (.bl (!c)) H1) : tNotV ta σ H Q := q
theorem w_if (q : t σ H fun c H1 => if c = true then ta σ H1 Q else tb σ H1 Q) : tIf t ta tb σ H Q := q
theorem w_isN (q : ta σ H fun x H1 => Q (.bl (decide (x = .non))) H1) : tIsN ta σ H Q := q
theorem w_notN (q : ta σ H fun x H1 => Q (.bl (!decide (x = .non))) H1) : tNotN ta σ H Q := q
theorem w_nil (q : QA [] H) : tNil σ H QA := q
theorem w_cons {tr : TA} (q : ta σ H fun x H1 => tr σ H1 fun xs H2 => QA (x :: xs) H2) : tCons ta tr σ H QA := q
theorem w_tup {tr : TA} (q : tr σ H fun xs H1 => MkT xs Q H1) : tTup tr σ H Q := q
theorem w_lst {tr : TA} (q : tr σ H fun xs H1 => MkL xs Q H1) : tLst tr σ H Q := q
theorem w_call {sp : Sp} {dvs : List V} {E : XK} {tr : TA} (q : tr σ H fun vs H1 => sp (vs ++ dvs) H1 Q E) : tCall sp dvs E tr σ H Q := q
theorem w_cb {rc : List V → Hp → VK → Prop} {tr : TA} (q : tr σ H fun vs H1 => rc vs H1 Q) : tCB rc tr σ H Q := q
theorem w_bm {T : String} {rm : V → List V → Hp → VK → Prop} {tr : TA} (q : ta σ H fun x H1 => tyV K T x H1 ∧ tr σ H1 fun xs H2 => rm x xs H2 Q) : tBM K T rm ta tr σ H Q := q
theorem w_bm0 {T : String} {rm : V → List V → Hp → VK → Prop} (q : ta σ H fun x H1 => tyV K T x H1 ∧ rm x [] H1 Q) : tBM0 K T rm ta σ H Q := q
end
section
variable {σ : L2.St} {H : Hp} {n b c : L2.St → Hp → Prop} {r : VK} {t u : TS} {te : TE} {tt : TT} {g : TG} {v : V} {i : Nat}
theorem w_cut (M : L2.St → Hp → Prop) (h1 : t ⟨M, r, b, c⟩ σ H) (h2 : ∀ σ' H', M σ' H' → u ⟨n, r, b, c⟩ σ' H') : C8.tCut t u ⟨n, r, b, c⟩ σ H := ⟨M, h1, h2⟩
theorem w_sub' {Q : L2.St → Hp → Prop} {to ti : TE} {ts : TSet} (q : to σ H fun o H1 => ti σ H1 fun i H2 => ts o i v H2 fun H3 => Q σ H3) : gSub to ti ts v σ H Q := q
theorem w_seq (q : t ⟨u ⟨n, r, b, c⟩, r, b, c⟩ σ H) : tSeq t u ⟨n, r, b, c⟩ σ H := q
theorem w_asg (q : te σ H fun x H1 => g x σ H1 n) : tAsg te g ⟨n, r, b, c⟩ σ H := q
theorem w_name {Q : L2.St → Hp → Prop} (q : Q (σ.set i (some v)) H) : gName i v σ H Q := q
theorem w_gcons {t1 : TG} {u1 : TGs} {vs : List V} {Q : L2.St → Hp → Prop} (q : t1 v σ H fun σ' H' => u1 vs σ' H' Q) : gCons t1 u1 (v :: vs) σ H Q := ⟨v, vs, rfl, q⟩
theorem w_gnil {Q : L2.St → Hp → Prop} (q : Q σ H) : gNil [] σ H Q := ⟨rfl, q⟩
theorem w_gtup {K : PySem.W.Frag} {t1 : TGs} {p : Addr} {xs : List V} {m : Nat} {Q : L2.St → Hp → Prop} (h : SqT K H p xs) (hl : xs.length = m) (q : t1 xs σ H Q) : gTup K m t1 (.ref p) σ H Q := ⟨p, xs, rfl, h, hl, q⟩
theorem w_ret (q : te σ H r) : tRet te ⟨n, r, b, c⟩ σ H := q
theorem w_retN (q : r .non H) : tRetN ⟨n, r, b, c⟩ σ H := q
theorem w_drop (q : te σ H fun _ H1 => n σ H1) : tDrop te ⟨n, r, b, c⟩ σ H := q
theorem w_ifS (q : tt σ H fun k H1 => if k = true then t ⟨n, r, b, c⟩ σ H1 else u ⟨n, r, b, c⟩ σ H1) : tIfS tt t u ⟨n, r, b, c⟩ σ H := q
theorem w_next (q : n σ H) : tNext ⟨n, r, b, c⟩ σ H := q
theorem w_break (q : b σ H) : tBreak ⟨n, r, b, c⟩ σ H := q
theorem w_cont (q : c σ H) : tCont ⟨n, r, b, c⟩ σ H := q
end
/-! ### loops -/
/-- the turns of a for over J -/
def FOR (J : It) (g : TG) (tb : TS) (D : Ends) (σ : L2.St) (H1 : Hp) : Prop :=
  ∃ W : Nat → Nat → L2.St → Hp → Prop, (∃ m, W 0 m σ H1) ∧
    ∀ i m σ H, W i m σ H → (J.stop i H ∧ D.nx σ H) ∨ (J.go i H ∧
      ∃ N : L2.St → Hp → Prop, (∀ σ' H', N σ' H' → ∃ m', m' < m ∧ W (i + 1) m' σ' H') ∧
        ∀ x H', J.yld i H x H' → g x σ H' fun σ2 H2 => tb { D with nx := N, ct := N, bk := D.nx } σ2 H2)
section
variable {K : PySem.W.Frag} {σ : L2.St} {H : Hp} {nx b c : L2.St → Hp → Prop} {rt : VK} {g : TG} {tb : TS} {D : Ends}
theorem w_for {wi : TI} (q : wi σ H fun J H1 => FOR J g tb D σ H1) : tFor wi g tb D σ H := q
theorem w_iR1 {ta : TA} {R : It → Hp → Prop} (q : ta σ H fun vs H1 => ∃ j : Int, vs = [.int j] ∧ -(2 ^ 62) ≤ j ∧ j < 2 ^ 62 ∧ R (Itr 0 j.toNat) H1) : iRng1 ta σ H R := q
theorem w_iR2 {ta : TA} {R : It → Hp → Prop} (q : ta σ H fun vs H1 => ∃ i j : Int, vs = [.int i, .int j] ∧ (-(2 ^ 62) ≤ i ∧ i < 2 ^ 62 ∧ -(2 ^ 62) ≤ j ∧ j < 2 ^ 62) ∧ R (Itr i (j - i).toNat) H1) : iRng2 ta σ H R := q
theorem w_iRev {te : TE} {R : It → Hp → Prop} (q : te σ H fun v H1 => ∃ (a : Addr) (xs : List V), v = .ref a ∧ ((SqL K H1 a xs ∧ R (Itv K a xs.length) H1) ∨ (SqT K H1 a xs ∧ R (RT.ItvT K a xs.length) H1))) : iRevU K te σ H R := q
theorem w_iEnum {ta : TA} {R : It → Hp → Prop} (q : ta σ H fun vs H1 => ∃ a xs, vs = [.ref a] ∧ SqL K H1 a xs ∧ R (Ite K a) H1) : iEnumU K ta σ H R := q
theorem w_iL {tl : TE} {R : It → Hp → Prop} (q : tl σ H fun x H1 => ∃ a, x = .ref a ∧ (∃ xs, SqL K H1 a xs) ∧ R (Itl K a) H1) : iList K tl σ H R := q
theorem w_iT {tl : TE} {R : It → Hp → Prop} (q : tl σ H fun x H1 => ∃ a, x = .ref a ∧ (∃ xs, SqT K H1 a xs) ∧ R (Itt K a) H1) : iTup K tl σ H R := q
theorem F_R1 {j : Int} (n : Nat) (hn : j.toNat = n) (h1 : -(2 ^ 62) ≤ j) (h2 : j < 2 ^ 62) (Pv : Nat → L2.St → Hp → Prop) (h0 : Pv 0 σ H)
    (hs : ∀ i σ H, i < n → Pv i σ H → g (.int i) σ H fun σ2 H2 => tb ⟨Pv (i + 1), rt, nx, Pv (i + 1)⟩ σ2 H2) (hd : ∀ σ H, Pv n σ H → nx σ H) :
    ∃ j' : Int, [V.int j] = [.int j'] ∧ -(2 ^ 62) ≤ j' ∧ j' < 2 ^ 62 ∧ FOR (Itr 0 j'.toNat) g tb ⟨nx, rt, b, c⟩ σ H := by
  subst hn
  refine ⟨j, rfl, h1, h2, ?_⟩
  exact for_range (D := ⟨nx, rt, b, c⟩) Pv h0 (fun i σ H hi p => by rw [Int.zero_add]; exact hs i σ H hi p) hd
theorem F_L {a : Addr} {xs : List V} (h : SqL K H a xs) (Pv : Nat → L2.St → Hp → Prop) (h0 : Pv 0 σ H) (hl : ∀ i σ H, i ≤ xs.length → Pv i σ H → SqL K H a xs)
    (hs : ∀ i x σ H, xs[i]? = some x → Pv i σ H → g x σ H fun σ2 H2 => tb ⟨Pv (i + 1), rt, nx, Pv (i + 1)⟩ σ2 H2) (hd : ∀ σ H, Pv xs.length σ H → nx σ H) :
    ∃ a', V.ref a = .ref a' ∧ (∃ ys, SqL K H a' ys) ∧ FOR (Itl K a') g tb ⟨nx, rt, b, c⟩ σ H :=
  ⟨a, rfl, ⟨xs, h⟩, for_list (D := ⟨nx, rt, b, c⟩) Pv h0 hl hs hd⟩
theorem F_T {a : Addr} {xs : List V} (h : SqT K H a xs) (Pv : Nat → L2.St → Hp → Prop) (h0 : Pv 0 σ H) (hl : ∀ i σ H, i ≤ xs.length → Pv i σ H → SqT K H a xs)
    (hs : ∀ i x σ H, xs[i]? = some x → Pv i σ H → g x σ H fun σ2 H2 => tb ⟨Pv (i + 1), rt, nx, Pv (i + 1)⟩ σ2 H2) (hd : ∀ σ H, Pv xs.length σ H → nx σ H) :
    ∃ a', V.ref a = .ref a' ∧ (∃ ys, SqT K H a' ys) ∧ FOR (Itt K a') g tb ⟨nx, rt, b, c⟩ σ H :=
  ⟨a, rfl, ⟨xs, h⟩, for_tup (D := ⟨nx, rt, b, c⟩) Pv h0 hl hs hd⟩
/-- a while by an invariant with a measure -/
theorem w_while {tt : TT} (W : Nat → L2.St → Hp → Prop) (m0 : Nat) (h0 : W m0 σ H)
    (hs : ∀ m σ' H', W m σ' H' → tt σ' H' fun k H1 => if k = true then tb ⟨fun σ2 H2 => ∃ m', m' < m ∧ W m' σ2 H2, rt, nx, fun σ2 H2 => ∃ m', m' < m ∧ W m' σ2 H2⟩ σ' H1 else nx σ' H1)
    (mono : ∀ σ H (Q Q' : Bool → Hp → Prop), (∀ k H1, Q k H1 → Q' k H1) → tt σ H Q → tt σ H Q') : tWhile tt tb ⟨nx, rt, b, c⟩ σ H := by
  refine ⟨W, ⟨m0, h0⟩, fun m σ' H' w => mono σ' H' _ _ (fun k H1 q => ?_) (hs m σ' H' w)⟩
  cases k with
  | true => exact ⟨_, fun _ _ z => z, q⟩
  | false => exact q
/-- .. the measure's step told at the test's end -/
theorem w_whileN {tt : TT} (W : Nat → L2.St → Hp → Prop) (m0 : Nat) (h0 : W m0 σ H)
    (hs : ∀ m σ' H', W m σ' H' → tt σ' H' fun k H1 => if k = true then ∃ N : L2.St → Hp → Prop, (∀ σ2 H2, N σ2 H2 → ∃ m', m' < m ∧ W m' σ2 H2) ∧ tb ⟨N, rt, nx, N⟩ σ' H1 else nx σ' H1) : tWhile tt tb ⟨nx, rt, b, c⟩ σ H := ⟨W, ⟨m0, h0⟩, hs⟩
theorem w_N {m : Nat} {W : Nat → L2.St → Hp → Prop} (q : tb ⟨fun σ2 H2 => ∃ m', m' < m ∧ W m' σ2 H2, rt, nx, fun σ2 H2 => ∃ m', m' < m ∧ W m' σ2 H2⟩ σ H) : ∃ N : L2.St → Hp → Prop, (∀ σ2 H2, N σ2 H2 → ∃ m', m' < m ∧ W m' σ2 H2) ∧ tb ⟨N, rt, nx, N⟩ σ H := ⟨_, fun _ _ z => z, q⟩
/-- the turns of a comprehension over J -/
def LC (J : It) (g : TG) (tt : TT) (te : TE) (vs : List Nat) (σ : L2.St) (D : Addr) (Q : VK) (H1 : Hp) : Prop :=
  ∃ W : Nat → Nat → Hp → Prop, (∃ m, W 0 m H1) ∧ ∀ i m H, W i m H → (J.stop i H ∧ Q (.ref D) H) ∨ (J.go i H ∧
    ∃ Nx : Hp → Prop, (∀ H', Nx H' → ∃ m', m' < m ∧ W (i + 1) m' H') ∧ ∀ x H', J.yld i H x H' → g x (wipe σ vs) H' fun σ2 H2 => wipe σ2 vs = wipe σ vs ∧
      tt σ2 H2 fun k H3 => if k = true then te σ2 H3 fun y H4 => ∃ acc, H4 D = some (.lst acc) ∧ acc.length < sizeLine ∧ Nx (upd H4 D (.lst (acc ++ [y]))) else Nx H3)
theorem w_lc {wi : TI} {tt : TT} {te : TE} {vs : List Nat} {Q : VK} (q : wi σ H fun J H1 => ∀ D, H1 D = none → LC J g tt te vs σ D Q (upd H1 D (.lst []))) : tLc wi g tt te vs σ H Q := q
theorem LC_L {a : Addr} {xs : List V} {tt : TT} {te : TE} {vs : List Nat} {Q : VK} (h : SqL K H a xs) (q : ∀ D, H D = none → LC (Itl K a) g tt te vs σ D Q (upd H D (.lst []))) :
    ∃ a', V.ref a = .ref a' ∧ (∃ ys, SqL K H a' ys) ∧ ∀ D, H D = none → LC (Itl K a') g tt te vs σ D Q (upd H D (.lst [])) := ⟨a, rfl, ⟨xs, h⟩, q⟩
theorem LC_T {a : Addr} {xs : List V} {tt : TT} {te : TE} {vs : List Nat} {Q : VK} (h : SqT K H a xs) (q : ∀ D, H D = none → LC (Itt K a) g tt te vs σ D Q (upd H D (.lst []))) :
    ∃ a', V.ref a = .ref a' ∧ (∃ ys, SqT K H a' ys) ∧ ∀ D, H D = none → LC (Itt K a') g tt te vs σ D Q (upd H D (.lst [])) := ⟨a, rfl, ⟨xs, h⟩, q⟩
theorem LC_by {a D : Addr} {xs : List V} {tt : TT} {te : TE} {vs : List Nat} {Q : VK} (Pv : Nat → Hp → Prop) (h0 : Pv 0 (upd H D (.lst []))) (hl : ∀ i H, i ≤ xs.length → Pv i H → SqL K H a xs)
    (hs : ∀ i x H, xs[i]? = some x → Pv i H → g x (wipe σ vs) H fun σ2 H2 => wipe σ2 vs = wipe σ vs ∧ tt σ2 H2 fun k H3 =>
      if k = true then te σ2 H3 fun y H4 => ∃ acc, H4 D = some (.lst acc) ∧ acc.length < sizeLine ∧ Pv (i + 1) (upd H4 D (.lst (acc ++ [y]))) else Pv (i + 1) H3)
    (hd : ∀ H, Pv xs.length H → Q (.ref D) H) : LC (Itl K a) g tt te vs σ D Q (upd H D (.lst [])) := lc_list (xs := xs) Pv h0 hl hs hd
theorem LC_R1 {j : Int} {tt : TT} {te : TE} {vs : List Nat} {Q : VK} (n : Nat) (hn : j.toNat = n) (h1 : -(2 ^ 62) ≤ j) (h2 : j < 2 ^ 62)
    (q : ∀ D, H D = none → ∃ Pv : Nat → Hp → Prop, Pv 0 (upd H D (.lst [])) ∧ (∀ (i : Nat) H', i < n → Pv i H' → g (.int i) (wipe σ vs) H' fun σ2 H2 => wipe σ2 vs = wipe σ vs ∧ tt σ2 H2 fun k H3 =>
      if k = true then te σ2 H3 fun y H4 => ∃ acc, H4 D = some (.lst acc) ∧ acc.length < sizeLine ∧ Pv (i + 1) (upd H4 D (.lst (acc ++ [y]))) else Pv (i + 1) H3) ∧ ∀ H', Pv n H' → Q (.ref D) H') :
    ∃ j' : Int, [V.int j] = [.int j'] ∧ -(2 ^ 62) ≤ j' ∧ j' < 2 ^ 62 ∧ ∀ D, H D = none → LC (Itr 0 j'.toNat) g tt te vs σ D Q (upd H D (.lst [])) := by
  subst hn
  refine ⟨j, rfl, h1, h2, fun D hD => ?_⟩
  obtain ⟨Pv, p0, ps, pd⟩ := q D hD
  exact lc_range Pv p0 (fun i H hi p => by rw [Int.zero_add]; exact ps i H hi p) pd
theorem w_wipe {σ1 σ2 : L2.St} {vs : List Nat} {B : Prop} (h : wipe σ2 vs = wipe σ1 vs) (q : B) : wipe σ2 vs = wipe σ1 vs ∧ B := ⟨h, q⟩
theorem w_yes {Q : Bool → Hp → Prop} (q : Q true H) : tYes σ H Q := q
end
/-- a test's outcome, as a proposition -/
theorem ite_d {c : Prop} [Decidable c] {A B : Prop} (h1 : c → A) (h2 : ¬ c → B) : if decide c = true then A else B := by
  by_cases h : c
  · rw [if_pos (decide_eq_true h)]; exact h1 h
  · rw [if_neg (by rw [decide_eq_false h]; decide)]; exact h2 h
theorem ite_nd {c : Prop} [Decidable c] {A B : Prop} (h1 : ¬ c → A) (h2 : c → B) : if (!decide c) = true then A else B := by
  by_cases h : c
  · rw [if_neg (by rw [decide_eq_true h]; decide)]; exact h2 h
  · rw [if_pos (by rw [decide_eq_false h]; decide)]; exact h1 h
theorem iteNT {A B : Prop} (h : B) : if (!true) = true then A else B := h
theorem iteNF {A B : Prop} (h : A) : if (!false) = true then A else B := h
theorem ite_b {k : Bool} {A B : Prop} (h1 : k = true → A) (h2 : k = false → B) : if k = true then A else B := by
  cases k
  · exact h2 rfl
  · exact h1 rfl
/-! ### heaps -/
/-- all that was tracked, but for S, is as it was -/
def Fr (S : List Addr) (H H' : Hp) : Prop := ∀ a o, H a = some o → a ∉ S → H' a = some o
theorem Fr.refl {S : List Addr} {H : Hp} : Fr S H H := fun _ _ h _ => h
theorem Fr.trans {S : List Addr} {H H1 H2 : Hp} (a : Fr S H H1) (b : Fr S H1 H2) : Fr S H H2 := fun x o h n => b x o (a x o h n) n
theorem Fr.new {S : List Addr} {H : Hp} {p : Addr} {o : HO} (h : H p = none) : Fr S H (upd H p o) := fun a u e _ => by
  rw [upd_ne (ne_of_none e h)]
  exact e
theorem Fr.mut {S : List Addr} {H : Hp} {p : Addr} {o : HO} (h : p ∈ S) : Fr S H (upd H p o) := fun a u e n => by
  rw [upd_ne (by rintro rfl; exact n h)]
  exact e
theorem Fr.mono {S S' : List Addr} {H H' : Hp} (a : Fr S H H') (h : ∀ x ∈ S, x ∈ S') : Fr S' H H' := fun x o e n => a x o e fun z => n (h x z)
theorem Fr.free {H H' : Hp} (e : Fr [] H H') {l : Addr} (h : H' l = none) : H l = none := by
  cases q : H l with
  | none => rfl
  | some o =>
    rw [e l o q (by simp)] at h
    cases h
/-- what is new may change -/
theorem Fr.new_mut {S : List Addr} {H H' : Hp} {p : Addr} (hp : H p = none) (a : Fr (p :: S) H H') : Fr S H H' := fun x o e n => a x o e (by
  intro z
  rcases List.mem_cons.mp z with z | z
  · subst z; rw [hp] at e; cases e
  · exact n z)
theorem Fr.seqL {S : List Addr} {K : PySem.W.Frag} {H H' : Hp} {a : Addr} {xs : List V} (e : Fr S H H') (h : SqL K H a xs) (n : a ∉ S) : SqL K H' a xs := by
  rcases h with (h | ⟨o, h⟩) | h
  · exact .inl (.inl (e _ _ h n))
  · exact .inl (.inr ⟨o, e _ _ h n⟩)
  · exact .inr h
theorem Fr.seqT {S : List Addr} {K : PySem.W.Frag} {H H' : Hp} {a : Addr} {xs : List V} (e : Fr S H H') (h : SqT K H a xs) (n : a ∉ S) : SqT K H' a xs := by
  rcases h with (h | ⟨o, h⟩) | h
  · exact .inl (.inl (e _ _ h n))
  · exact .inl (.inr ⟨o, e _ _ h n⟩)
  · exact .inr h
/-- an open place of a list of ints all of which hold P -/
theorem at_all {ns : List Int} {P : Int → Prop} (hP : ∀ z ∈ ns, P z) {p : Int} (h0 : 0 ≤ p) (h : p < ns.length) : ∃ z, atI (ns.map V.int) p = some (.int z) ∧ P z := by
  have hk : p.toNat < ns.length := by omega
  have ek : p = ((p.toNat : Nat) : Int) := by omega
  have key : atI (ns.map V.int) ((p.toNat : Nat) : Int) = some (.int ns[p.toNat]) := atI_nat (by rw [List.getElem?_map, List.getElem?_eq_getElem hk] <;> rfl)
  rw [← ek] at key
  exact ⟨_, key, hP _ (List.getElem_mem hk)⟩
theorem at_str {ns : List Str} {P : Str → Prop} (hP : ∀ z ∈ ns, P z) {p : Int} (h0 : 0 ≤ p) (h : p < ns.length) : ∃ z, atI (ns.map V.str) p = some (.str z) ∧ P z := by
  have hk : p.toNat < ns.length := by omega
  have ek : p = ((p.toNat : Nat) : Int) := by omega
  have key : atI (ns.map V.str) ((p.toNat : Nat) : Int) = some (.str ns[p.toNat]) := atI_nat (by rw [List.getElem?_map, List.getElem?_eq_getElem hk] <;> rfl)
  rw [← ek] at key
  exact ⟨_, key, hP _ (List.getElem_mem hk)⟩
theorem at_int {ns : List Int} {p : Int} (h0 : 0 ≤ p) (h : p < ns.length) : ∃ z, atI (ns.map V.int) p = some (.int z) ∧ ns[p.toNat]? = some z := by
  have hk : p.toNat < ns.length := by omega
  have ek : p = ((p.toNat : Nat) : Int) := by omega
  have key : atI (ns.map V.int) ((p.toNat : Nat) : Int) = some (.int ns[p.toNat]) := atI_nat (by rw [List.getElem?_map, List.getElem?_eq_getElem hk] <;> rfl)
  rw [← ek] at key
  exact ⟨_, key, List.getElem?_eq_getElem hk⟩
end U

namespace U
open PySem PySem.Spec PyProof.Rows L2
/-! ### data of tuples all the way down: nothing changes it -/
mutual
inductive Dt (K : PySem.W.Frag) (H : Hp) : V → PyData → Prop
  | non : Dt K H .non .none
  | bl (b : Bool) : Dt K H (.bl b) (.bool b)
  | int (i : Int) : Dt K H (.int i) (.int i)
  | str (x : Str) : Dt K H (.str x) (.str x)
  | tup {p : Addr} {vs : List V} {es : List PyData} : SqT K H p vs → DtAll K H vs es → Dt K H (.ref p) (.tuple es)
inductive DtAll (K : PySem.W.Frag) (H : Hp) : List V → List PyData → Prop
  | nil : DtAll K H [] []
  | cons {v : V} {vs : List V} {e : PyData} {es : List PyData} : Dt K H v e → DtAll K H vs es → DtAll K H (v :: vs) (e :: es)
end
/-- tuples stand -/
def Tu (H H' : Hp) : Prop := ∀ a xs, (H a = some (.tup xs) → H' a = some (.tup xs)) ∧ ∀ o, H a = some (.frz o (.tup xs)) → H' a = some (.frz o (.tup xs))
theorem Tu.refl {H : Hp} : Tu H H := fun _ _ => ⟨id, fun _ => id⟩
theorem Tu.trans {H H1 H2 : Hp} (a : Tu H H1) (b : Tu H1 H2) : Tu H H2 := fun x xs => ⟨fun h => (b x xs).1 ((a x xs).1 h), fun o h => (b x xs).2 o ((a x xs).2 o h)⟩
theorem Fr.tu {H H' : Hp} (f : Fr [] H H') : Tu H H' := fun a xs => ⟨fun h => f a _ h (by simp), fun o h => f a _ h (by simp)⟩
theorem Fr.tu1 {H H' : Hp} {t : Addr} {xs : List V} (f : Fr [t] H H') (h : H t = some (.lst xs)) : Tu H H' := fun a ys =>
  ⟨fun e => f a _ e (by intro z; rw [List.mem_singleton.mp z, h] at e; cases e), fun o e => f a _ e (by intro z; rw [List.mem_singleton.mp z, h] at e; cases e)⟩
theorem Tu.mut {H : Hp} {q : Addr} {xs : List V} {o : HO} (h : H q = some (.lst xs)) : Tu H (upd H q o) := fun a ys =>
  ⟨fun e => by rw [upd_ne (by rintro rfl; rw [h] at e; cases e)]; exact e, fun o e => by rw [upd_ne (by rintro rfl; rw [h] at e; cases e)]; exact e⟩
theorem Tu.new {H : Hp} {q : Addr} {o : HO} (h : H q = none) : Tu H (upd H q o) := (Fr.new h).tu
theorem Tu.seqT {K : PySem.W.Frag} {H H' : Hp} {a : Addr} {xs : List V} (e : Tu H H') (h : SqT K H a xs) : SqT K H' a xs := by
  rcases h with (h | ⟨o, h⟩) | h
  · exact .inl (.inl ((e a xs).1 h))
  · exact .inl (.inr ⟨o, (e a xs).2 o h⟩)
  · exact .inr h
section
variable {K : PySem.W.Frag} {H H' : Hp}
mutual
theorem Dt.mono (f : Tu H H') : ∀ {v : V} {d : PyData}, Dt K H v d → Dt K H' v d
  | _, _, .non => .non
  | _, _, .bl b => .bl b
  | _, _, .int i => .int i
  | _, _, .str x => .str x
  | _, _, .tup s a => .tup (f.seqT s) (DtAll.mono f a)
theorem DtAll.mono (f : Tu H H') : ∀ {vs : List V} {ds : List PyData}, DtAll K H vs ds → DtAll K H' vs ds
  | _, _, .nil => .nil
  | _, _, .cons a b => .cons (Dt.mono f a) (DtAll.mono f b)
end
mutual
theorem Dt.dp : ∀ {v : V} {d : PyData}, Dt K H v d → Dp K H v d
  | _, _, .non => .non
  | _, _, .bl b => .bl b
  | _, _, .int i => .int i
  | _, _, .str x => .str x
  | _, _, .tup s a => .tup s (DtAll.dp a)
theorem DtAll.dp : ∀ {vs : List V} {ds : List PyData}, DtAll K H vs ds → DpAll K H vs ds
  | _, _, .nil => .nil
  | _, _, .cons a b => .cons (Dt.dp a) (DtAll.dp b)
end
theorem DtAll.length : ∀ {vs : List V} {ds : List PyData}, DtAll K H vs ds → vs.length = ds.length
  | _, _, .nil => rfl
  | _, _, .cons _ b => by rw [List.length_cons, List.length_cons, DtAll.length b]
theorem DtAll.append : ∀ {vs us : List V} {ds es : List PyData}, DtAll K H vs ds → DtAll K H us es → DtAll K H (vs ++ us) (ds ++ es)
  | _, _, _, _, .nil, h => h
  | _, _, _, _, .cons a b, h => .cons a (DtAll.append b h)
theorem DtAll.take : ∀ {vs : List V} {ds : List PyData} (n : Nat), DtAll K H vs ds → DtAll K H (vs.take n) (ds.take n)
  | _, _, 0, _ => .nil
  | _, _, _ + 1, .nil => .nil
  | _, _, n + 1, .cons a b => .cons a (DtAll.take n b)
theorem DtAll.drop : ∀ {vs : List V} {ds : List PyData} (n : Nat), DtAll K H vs ds → DtAll K H (vs.drop n) (ds.drop n)
  | _, _, 0, h => h
  | _, _, _ + 1, .nil => .nil
  | _, _, n + 1, .cons a b => DtAll.drop n b
theorem DtAll.get : ∀ {vs : List V} {ds : List PyData} {i : Nat} {v : V}, DtAll K H vs ds → vs[i]? = some v → ∃ d, ds[i]? = some d ∧ Dt K H v d
  | _, _, i, _, .nil, h => by simp at h
  | _, _, 0, v, .cons a b, h => by
    simp at h
    subst h
    exact ⟨_, rfl, a⟩
  | _, _, i + 1, v, .cons a b, h => by
    obtain ⟨d, h1, h2⟩ := DtAll.get (i := i) b (by simpa using h)
    exact ⟨d, by simpa using h1, h2⟩
theorem DtAll.get' {vs : List V} {ds : List PyData} {i : Nat} {d : PyData} (h : DtAll K H vs ds) (e : ds[i]? = some d) : ∃ v, vs[i]? = some v ∧ Dt K H v d := by
  have hi := (List.getElem?_eq_some_iff.mp e).1
  rw [← h.length] at hi
  obtain ⟨d', h1, h2⟩ := h.get (List.getElem?_eq_getElem hi)
  rw [e] at h1
  cases h1
  exact ⟨_, List.getElem?_eq_getElem hi, h2⟩
theorem Dt.tuple {v : V} {ds : List PyData} (h : Dt K H v (.tuple ds)) : ∃ p vs, v = .ref p ∧ SqT K H p vs ∧ DtAll K H vs ds := by
  cases h with
  | tup s a => exact ⟨_, _, rfl, s, a⟩
theorem Dt.of_int {v : V} {i : Int} (h : Dt K H v (.int i)) : v = .int i := by cases h; rfl
theorem Dt.of_str {v : V} {x : Str} (h : Dt K H v (.str x)) : v = .str x := by cases h; rfl
theorem Dt.of_bl {v : V} {b : Bool} (h : Dt K H v (.bool b)) : v = .bl b := by cases h; rfl
theorem Dt.of_non {v : V} (h : Dt K H v .none) : v = .non := by cases h; rfl
theorem DtAll.ints : ∀ (ns : List Int), DtAll K H (ns.map V.int) (ns.map PyData.int)
  | [] => .nil
  | n :: r => .cons (.int n) (DtAll.ints r)
end
/-! ### a list of such -/
def Lq (K : PySem.W.Frag) (H : Hp) (q : Addr) (ds : List PyData) : Prop := ∃ vs, H q = some (.lst vs) ∧ DtAll K H vs ds
section
variable {K : PySem.W.Frag} {H H' : Hp} {q : Addr} {ds : List PyData}
theorem Lq.fr {S : List Addr} (h : Lq K H q ds) (f : Fr S H H') (n : q ∉ S) (t : Tu H H') : Lq K H' q ds := by
  obtain ⟨vs, e, a⟩ := h
  exact ⟨vs, f _ _ e n, a.mono t⟩
theorem Lq.fr0 (h : Lq K H q ds) (f : Fr [] H H') : Lq K H' q ds := h.fr f (by simp) f.tu
theorem Lq.dp (h : Lq K H q ds) : Dp K H (.ref q) (.list ds) := by
  obtain ⟨vs, e, a⟩ := h
  exact .lst (SqL.of e) a.dp
theorem lay_list {n : Nat} (h : ∀ d ∈ ds, d.canLay0 = true ∧ d.depth ≤ n) : PyData.canLayAll0 ds = true ∧ PyData.depthAll ds ≤ n := by
  induction ds with
  | nil => exact ⟨by simp [PyData.canLayAll0], by simp [PyData.depthAll]⟩
  | cons d r ih =>
    have h1 := h d List.mem_cons_self
    have h2 := ih fun x hx => h x (List.mem_cons_of_mem _ hx)
    constructor
    · simp [PyData.canLayAll0, h1.1, h2.1]
    · simp only [PyData.depthAll]
      exact Nat.max_le.mpr ⟨h1.2, h2.2⟩
theorem shaped_list {n : Nat} (hn : n < 64) (h : ∀ d ∈ ds, d.canLay0 = true ∧ d.depth ≤ n) : SeqAt.shaped (.list ds) = true := by
  have k := lay_list h
  unfold SeqAt.shaped
  rw [Bool.and_eq_true]
  refine ⟨by simp only [PyData.canLay0]; exact k.1, decide_eq_true ?_⟩
  simp only [PyData.depth]
  omega
theorem shaped_tuple {n : Nat} (hn : n < 64) (h : ∀ d ∈ ds, d.canLay0 = true ∧ d.depth ≤ n) : SeqAt.shaped (.tuple ds) = true := by
  have k := lay_list h
  unfold SeqAt.shaped
  rw [Bool.and_eq_true]
  refine ⟨by simp only [PyData.canLay0]; exact k.1, decide_eq_true ?_⟩
  simp only [PyData.depth]
  omega
theorem lay_shaped {d : PyData} (h : d.canLay0 = true ∧ d.depth ≤ 64) : SeqAt.shaped d = true := by
  unfold SeqAt.shaped
  rw [Bool.and_eq_true]
  exact ⟨h.1, decide_eq_true h.2⟩
theorem shaped_refl {d : PyData} (h : SeqAt.shaped d = true) : PyData.eqv d d = true := SeqAt.eqv_refl d (SeqAt.canLay_of_shaped h)
theorem w_eqR {Q : VK} {x y : V} {d : PyData} (hx : Dp K H x d) (hy : Dp K H y d) (s : SeqAt.shaped d = true) (q : Q (.bl true) H) : rEqU K x y H Q := w_eqD hx hy s s (by rw [shaped_refl s]; exact q)
theorem w_neR {Q : VK} {x y : V} {d : PyData} (hx : Dp K H x d) (hy : Dp K H y d) (s : SeqAt.shaped d = true) (q : Q (.bl false) H) : rNeU K x y H Q := w_neD hx hy s s (by rw [shaped_refl s]; exact q)
theorem w_app {l : Addr} {xs : List V} {y : V} {Q : VK} (h : H l = some (.lst xs)) (n : xs.length ≤ 1000000) (q : Q .non (upd H l (.lst (xs ++ [y])))) : tyV K "list" (.ref l) H ∧ rAppend (.ref l) [y] H Q :=
  ⟨.inl ⟨rfl, _, SqL.of h⟩, l, xs, y, rfl, rfl, h, Nat.lt_of_le_of_lt n (by decide), q⟩
end
theorem cut_take {xs : List V} (n : Nat) : cutV xs none (some (n : Int)) = xs.take n := by
  unfold cutV
  rw [HT.sIx_none, HT.sIx_nat, List.drop_zero, Nat.sub_zero]
  by_cases h : n ≤ xs.length
  · rw [Nat.min_eq_left h]
  · rw [Nat.min_eq_right (by omega), List.take_length, List.take_of_length_le (by omega)]
theorem cut_drop {xs : List V} (n : Nat) : cutV xs (some (n : Int)) none = xs.drop n := by
  unfold cutV
  rw [HT.sIx_none, HT.sIx_nat]
  by_cases h : n ≤ xs.length
  · rw [Nat.min_eq_left h, List.take_of_length_le (by rw [List.length_drop]; omega)]
  · rw [Nat.min_eq_right (by omega), Nat.sub_self, List.take_zero, List.drop_eq_nil_of_le (by omega)]
/-- == with an empty list -/
theorem w_eqNil {Q : VK} {K : PySem.W.Frag} {H : Hp} {x e : Addr} {ds : List PyData} (hx : Dp K H (.ref x) (.list ds)) (he : H e = some (.lst [])) (s : SeqAt.shaped (.list ds) = true) (q : Q (.bl ds.isEmpty) H) : rEqU K (.ref x) (.ref e) H Q :=
  w_eqD hx (.lst (SqL.of he) .nil) s (by decide) (by
    cases ds with
    | nil => exact q
    | cons d r => exact q)
theorem w_neNil {Q : VK} {K : PySem.W.Frag} {H : Hp} {x e : Addr} {ds : List PyData} (hx : Dp K H (.ref x) (.list ds)) (he : H e = some (.lst [])) (s : SeqAt.shaped (.list ds) = true) (q : Q (.bl (!ds.isEmpty)) H) : rNeU K (.ref x) (.ref e) H Q :=
  w_neD hx (.lst (SqL.of he) .nil) s (by decide) (by
    cases ds with
    | nil => exact q
    | cons d r => exact q)
theorem take_fold {α β : Type} {f : β → α → β} {b : β} {xs : List α} {i : Nat} {x : α} (h : xs[i]? = some x) : (xs.take (i + 1)).foldl f b = f ((xs.take i).foldl f b) x := by
  rw [List.take_add_one, h, List.foldl_append]
  rfl
theorem take_map {α β : Type} {f : α → β} {xs : List α} {i : Nat} {x : α} (h : xs[i]? = some x) : (xs.take (i + 1)).map f = (xs.take i).map f ++ [f x] := by
  rw [List.take_add_one, h, List.map_append]
  rfl
theorem take_filt {α : Type} {f : α → Bool} {xs : List α} {i : Nat} {x : α} (h : xs[i]? = some x) : (xs.take (i + 1)).filter f = (xs.take i).filter f ++ (if f x then [x] else []) := by
  rw [List.take_add_one, h, List.filter_append]
  show _ ++ List.filter f [x] = _
  rw [List.filter_cons, List.filter_nil]
/-! ### any plain data (a dict: that it is one) -/
mutual
inductive Dg (K : PySem.W.Frag) (H : Hp) : V → PyData → Prop
  | non : Dg K H .non .none
  | bl (b : Bool) : Dg K H (.bl b) (.bool b)
  | int (i : Int) : Dg K H (.int i) (.int i)
  | str (x : Str) : Dg K H (.str x) (.str x)
  | tup {p : Addr} {vs : List V} {es : List PyData} : SqT K H p vs → DgAll K H vs es → Dg K H (.ref p) (.tuple es)
  | lst {p : Addr} {vs : List V} {es : List PyData} : SqL K H p vs → DgAll K H vs es → Dg K H (.ref p) (.list es)
  | dct {p : Addr} {kvs : List (Key × V)} {es : List (PyData × PyData)} : H p = some (.dK kvs) → Dg K H (.ref p) (.dict es)
inductive DgAll (K : PySem.W.Frag) (H : Hp) : List V → List PyData → Prop
  | nil : DgAll K H [] []
  | cons {v : V} {vs : List V} {e : PyData} {es : List PyData} : Dg K H v e → DgAll K H vs es → DgAll K H (v :: vs) (e :: es)
end
section
variable {K : PySem.W.Frag} {H H' : Hp}
mutual
theorem Dg.fr (f : Fr [] H H') : ∀ {v : V} {d : PyData}, Dg K H v d → Dg K H' v d
  | _, _, .non => .non
  | _, _, .bl b => .bl b
  | _, _, .int i => .int i
  | _, _, .str x => .str x
  | _, _, .tup s a => .tup (f.seqT s (by simp)) (DgAll.fr f a)
  | _, _, .lst s a => .lst (f.seqL s (by simp)) (DgAll.fr f a)
  | _, _, .dct h => .dct (f _ _ h (by simp))
theorem DgAll.fr (f : Fr [] H H') : ∀ {vs : List V} {ds : List PyData}, DgAll K H vs ds → DgAll K H' vs ds
  | _, _, .nil => .nil
  | _, _, .cons a b => .cons (Dg.fr f a) (DgAll.fr f b)
end
mutual
theorem Dt.dg : ∀ {v : V} {d : PyData}, Dt K H v d → Dg K H v d
  | _, _, .non => .non
  | _, _, .bl b => .bl b
  | _, _, .int i => .int i
  | _, _, .str x => .str x
  | _, _, .tup s a => .tup s (DtAll.dg a)
theorem DtAll.dg : ∀ {vs : List V} {ds : List PyData}, DtAll K H vs ds → DgAll K H vs ds
  | _, _, .nil => .nil
  | _, _, .cons a b => .cons (Dt.dg a) (DtAll.dg b)
end
theorem DgAll.length : ∀ {vs : List V} {ds : List PyData}, DgAll K H vs ds → vs.length = ds.length
  | _, _, .nil => rfl
  | _, _, .cons _ b => by rw [List.length_cons, List.length_cons, DgAll.length b]
theorem DgAll.get : ∀ {vs : List V} {ds : List PyData} {i : Nat} {v : V}, DgAll K H vs ds → vs[i]? = some v → ∃ d, ds[i]? = some d ∧ Dg K H v d
  | _, _, i, _, .nil, h => by simp at h
  | _, _, 0, v, .cons a b, h => by
    simp at h
    subst h
    exact ⟨_, rfl, a⟩
  | _, _, i + 1, v, .cons a b, h => by
    obtain ⟨d, h1, h2⟩ := DgAll.get (i := i) b (by simpa using h)
    exact ⟨d, by simpa using h1, h2⟩
end
theorem Lq.dg {K : PySem.W.Frag} {H : Hp} {l : Addr} {ds : List PyData} (h : Lq K H l ds) : Dg K H (.ref l) (.list ds) := by
  obtain ⟨vs, e, a⟩ := h
  exact .lst (SqL.of e) a.dg
/-! ### displays, append: what is known of them behind -/
theorem mkT {K : PySem.W.Frag} {H : Hp} {xs : List V} {ds : List PyData} {Q : VK} (d : DtAll K H xs ds) (q : ∀ p H', H p = none → Fr [] H H' → Dt K H' (.ref p) (.tuple ds) → Q (.ref p) H') (n : xs.length ≤ 1000 := by exact Nat.le_of_ble_eq_true rfl) : MkT xs Q H :=
  ⟨Nat.le_trans n (by decide), fun p hp => q p _ hp (Fr.new hp) (.tup (.inl (.inl upd_same)) (d.mono (Tu.new hp)))⟩
theorem mkL {K : PySem.W.Frag} {H : Hp} {xs : List V} {ds : List PyData} {Q : VK} (d : DtAll K H xs ds) (q : ∀ p H', H p = none → Fr [] H H' → Lq K H' p ds → Q (.ref p) H') (n : xs.length ≤ 1000 := by exact Nat.le_of_ble_eq_true rfl) : MkL xs Q H :=
  ⟨Nat.le_trans n (by decide), fun p hp => q p _ hp (Fr.new hp) ⟨xs, upd_same, d.mono (Tu.new hp)⟩⟩
/-- a list of ints, of texts -/
theorem mkI {H : Hp} {ns : List Int} {xs : List V} {Q : VK} (e : xs = ns.map V.int) (q : ∀ p H', H p = none → Fr [] H H' → H' p = some (.lst (ns.map V.int)) → Q (.ref p) H') (n : xs.length ≤ 1000 := by exact Nat.le_of_ble_eq_true rfl) : MkL xs Q H :=
  ⟨Nat.le_trans n (by decide), fun p hp => q p _ hp (Fr.new hp) (by rw [upd_same, e])⟩
theorem mkS {H : Hp} {ns : List Str} {xs : List V} {Q : VK} (e : xs = ns.map V.str) (q : ∀ p H', H p = none → Fr [] H H' → H' p = some (.lst (ns.map V.str)) → Q (.ref p) H') (n : xs.length ≤ 1000 := by exact Nat.le_of_ble_eq_true rfl) : MkL xs Q H :=
  ⟨Nat.le_trans n (by decide), fun p hp => q p _ hp (Fr.new hp) (by rw [upd_same, e])⟩
theorem Lq.ty {K : PySem.W.Frag} {H : Hp} {l : Addr} {ds : List PyData} (h : Lq K H l ds) : tyV K "list" (.ref l) H := by
  obtain ⟨vs, e, _⟩ := h
  exact .inl ⟨rfl, _, SqL.of e⟩
theorem Lq.app {K : PySem.W.Frag} {H : Hp} {l : Addr} {ds : List PyData} {y : V} {d : PyData} {Q : VK} (h : Lq K H l ds) (hy : Dt K H y d) (n : ds.length ≤ 100000) (q : ∀ H', Fr [l] H H' → Tu H H' → Lq K H' l (ds ++ [d]) → Q .non H') : rAppend (.ref l) [y] H Q := by
  obtain ⟨vs, e, a⟩ := h
  refine ⟨l, vs, y, rfl, rfl, e, Nat.lt_of_le_of_lt (show vs.length ≤ 100000 by rw [a.length]; exact n) (by decide), ?_⟩
  exact q _ (Fr.mut (by simp)) (Tu.mut e) ⟨_, upd_same, (a.append (.cons hy .nil)).mono (Tu.mut e)⟩
theorem Lq.copy {K : PySem.W.Frag} {H : Hp} {l : Addr} {ds : List PyData} {Q : VK} (h : Lq K H l ds) (q : ∀ p H', H p = none → Fr [] H H' → Lq K H' p ds → Q (.ref p) H') : rListU K [.ref l] H Q := by
  obtain ⟨vs, e, a⟩ := h
  exact w_listL (SqL.of e) fun p hp => q p _ hp (Fr.new hp) ⟨vs, upd_same, a.mono (Tu.new hp)⟩
theorem Lq.isList {K : PySem.W.Frag} {H : Hp} {l : Addr} {ds : List PyData} {Q : VK} (h : Lq K H l ds) (q : Q (.bl true) H) : rIsi K [.ref l, .ty "list"] H Q := by
  obtain ⟨vs, e, a⟩ := h
  exact isL_list (SqL.of e) q
theorem Lq.len {K : PySem.W.Frag} {H : Hp} {l : Addr} {ds : List PyData} {Q : VK} (h : Lq K H l ds) (q : Q (.int ds.length) H) : rLenU K [.ref l] H Q := by
  obtain ⟨vs, e, a⟩ := h
  rw [← a.length] at q
  exact w_lenL (SqL.of e) q
theorem DtAll.rev {K : PySem.W.Frag} {H : Hp} : ∀ {vs : List V} {ds : List PyData}, DtAll K H vs ds → DtAll K H vs.reverse ds.reverse
  | _, _, .nil => .nil
  | _, _, .cons a b => by
    rw [List.reverse_cons, List.reverse_cons]
    exact (DtAll.rev b).append (.cons a .nil)
theorem Lq.reverse {K : PySem.W.Frag} {H : Hp} {l : Addr} {ds : List PyData} {Q : VK} (h : Lq K H l ds) (q : ∀ H', Fr [l] H H' → Tu H H' → Lq K H' l ds.reverse → Q .non H') : rReverse (.ref l) [] H Q := by
  obtain ⟨vs, e, a⟩ := h
  exact ⟨l, vs, rfl, rfl, e, q _ (Fr.mut (by simp)) (Tu.mut e) ⟨_, upd_same, (a.rev).mono (Tu.mut e)⟩⟩
/-! ### slices, sums -/
def cutA {α : Type} (xs : List α) (lo hi : Option Int) : List α := (xs.drop (HT.sIx xs.length 0 lo)).take (HT.sIx xs.length xs.length hi - HT.sIx xs.length 0 lo)
theorem cutA_take {α : Type} {xs : List α} (n : Nat) : cutA xs none (some (n : Int)) = xs.take n := by
  unfold cutA
  rw [HT.sIx_none, HT.sIx_nat, List.drop_zero, Nat.sub_zero]
  by_cases h : n ≤ xs.length
  · rw [Nat.min_eq_left h]
  · rw [Nat.min_eq_right (by omega), List.take_length, List.take_of_length_le (by omega)]
theorem cutA_drop {α : Type} {xs : List α} (n : Nat) : cutA xs (some (n : Int)) none = xs.drop n := by
  unfold cutA
  rw [HT.sIx_none, HT.sIx_nat]
  by_cases h : n ≤ xs.length
  · rw [Nat.min_eq_left h, List.take_of_length_le (by rw [List.length_drop]; omega)]
  · rw [Nat.min_eq_right (by omega), Nat.sub_self, List.take_zero, List.drop_eq_nil_of_le (by omega)]
theorem cutA_mem {α : Type} {xs : List α} {lo hi : Option Int} {x : α} (h : x ∈ cutA xs lo hi) : x ∈ xs := List.mem_of_mem_drop (List.mem_of_mem_take h)
theorem cutA_map {α β : Type} {f : α → β} {xs : List α} {lo hi : Option Int} : cutA (xs.map f) lo hi = (cutA xs lo hi).map f := by
  unfold cutA
  rw [List.length_map, ← List.map_drop, ← List.map_take]
theorem cutA_len {α : Type} {xs : List α} {lo hi : Option Int} : (cutA xs lo hi).length ≤ xs.length := by
  unfold cutA
  rw [List.length_take, List.length_drop]
  omega
theorem DtAll.cut {K : PySem.W.Frag} {H : Hp} {vs : List V} {ds : List PyData} (h : DtAll K H vs ds) (lo hi : Option Int) : DtAll K H (cutV vs lo hi) (cutA ds lo hi) := by
  unfold cutV cutA
  rw [h.length]
  exact (h.drop _).take _
theorem Lq.slice {K : PySem.W.Frag} {H : Hp} {l : Addr} {ds : List PyData} {lo hi : Option Int} {Q : VK} (h : Lq K H l ds) (q : ∀ p H', H p = none → Fr [] H H' → Lq K H' p (cutA ds lo hi) → Q (.ref p) H') : rSlU K (.ref l) lo hi H Q := by
  obtain ⟨vs, e, a⟩ := h
  exact w_slL (SqL.of e) fun p hp => q p _ hp (Fr.new hp) ⟨_, upd_same, (a.cut lo hi).mono (Tu.new hp)⟩
theorem cutA_full {α : Type} {xs : List α} {lo hi : Option Int} (h : HT.sIx xs.length 0 lo = 0 ∧ HT.sIx xs.length xs.length hi = xs.length) : cutA xs lo hi = xs := by
  unfold cutA
  rw [h.1, h.2, List.drop_zero, Nat.sub_zero, List.take_length]
theorem Dt.slice {K : PySem.W.Frag} {H : Hp} {v : V} {ds : List PyData} {lo hi : Option Int} {Q : VK} (h : Dt K H v (.tuple ds)) (q : ∀ p H', Fr [] H H' → Dt K H' (.ref p) (.tuple (cutA ds lo hi)) → Q (.ref p) H') : rSlU K v lo hi H Q := by
  obtain ⟨p, vs, rfl, s, a⟩ := h.tuple
  refine .inl (.inr ⟨p, vs, rfl, s, fun z => ?_, fun _ p' hp => ?_⟩)
  · rw [a.length] at z
    refine q p H Fr.refl ?_
    rw [cutA_full z]
    exact h
  · exact q p' _ (Fr.new hp) (.tup (.inl (.inl upd_same)) ((a.cut lo hi).mono (Tu.new hp)))
theorem Dt.cat {K : PySem.W.Frag} {H : Hp} {v u : V} {ds es : List PyData} {Q : VK} (h : Dt K H v (.tuple ds)) (h' : Dt K H u (.tuple es)) (n : ds.length + es.length ≤ 1000) (q : ∀ p H', Fr [] H H' → Dt K H' (.ref p) (.tuple (ds ++ es)) → Q (.ref p) H') : rAddU K v u H Q := by
  obtain ⟨p, vs, rfl, s, a⟩ := h.tuple
  obtain ⟨p', us, rfl, s', a'⟩ := h'.tuple
  refine .inr (.inl ⟨p, p', vs, us, rfl, rfl, s, s', Nat.le_trans (show _ ≤ 1000 by rw [a.length, a'.length]; exact n) (by decide), fun z => ?_, fun _ z => ?_, fun _ _ r hr => ?_⟩)
  · subst z
    cases a
    exact q p' H Fr.refl h'
  · subst z
    cases a'
    refine q p H Fr.refl ?_
    rw [List.append_nil]
    exact h
  · exact q r _ (Fr.new hr) (.tup (.inl (.inl upd_same)) ((a.append a').mono (Tu.new hr)))
theorem Lq.cat {K : PySem.W.Frag} {H : Hp} {l m : Addr} {ds es : List PyData} {Q : VK} (h : Lq K H l ds) (h' : Lq K H m es) (n : ds.length + es.length ≤ 100000) (q : ∀ p H', H p = none → Fr [] H H' → Lq K H' p (ds ++ es) → Q (.ref p) H') : rAddU K (.ref l) (.ref m) H Q := by
  obtain ⟨vs, e, a⟩ := h
  obtain ⟨us, e', a'⟩ := h'
  exact w_addL e e' (by rw [a.length, a'.length]; omega) fun p hp => q p _ hp (Fr.new hp) ⟨_, upd_same, (a.append a').mono (Tu.new hp)⟩
theorem Lq.allB {K : PySem.W.Frag} {H : Hp} {l : Addr} {bs : List Bool} {Q : VK} (h : Lq K H l (bs.map PyData.bool)) (q : Q (.bl (bs.all id)) H) : rAll K [.ref l] H Q := by
  obtain ⟨vs, e, a⟩ := h
  have z : vs = bs.map V.bl := by
    clear e q
    induction bs generalizing vs with
    | nil => cases a; rfl
    | cons b r ih =>
      cases a with
      | cons a1 a2 => rw [a1.of_bl, ih _ a2]; rfl
  exact ⟨l, bs, rfl, SqL.of (by rw [e, z]), q⟩
theorem Lq.ints {K : PySem.W.Frag} {H : Hp} {l : Addr} {ns : List Int} (h : Lq K H l (ns.map PyData.int)) : H l = some (.lst (ns.map V.int)) := by
  obtain ⟨vs, e, a⟩ := h
  have z : vs = ns.map V.int := by
    clear e
    induction ns generalizing vs with
    | nil => cases a; rfl
    | cons b r ih =>
      cases a with
      | cons a1 a2 => rw [a1.of_int, ih _ a2]; rfl
  rw [e, z]
/-- what changed is new -/
theorem Fr.drop1 {S : List Addr} {H H1 H2 : Hp} {p : Addr} (hp : H p = none) (a : Fr S H H1) (b : Fr [p] H1 H2) : Fr S H H2 := fun x o e n => b x o (a x o e n) (by
  intro z
  rw [List.mem_singleton.mp z, hp] at e
  cases e)
/-- a comprehension with a test over a list of data: what is kept is the data's own filter -/
theorem LCF {K : PySem.W.Frag} {α : Type} {q : Addr} {H : Hp} {us : List V} {cs : List α} {dS : α → PyData} {j : Nat} {ws : List Nat} {σ : L2.St} {tt : TT} {te : TE} {Q : VK} (f : α → Bool) (g : α → PyData)
    (hq : H q = some (.lst us)) (hd : DtAll K H us (cs.map dS)) (lc : cs.length ≤ 100000) (hw : ∀ x, wipe ((wipe σ ws).set j (some x)) ws = wipe σ ws)
    (ht : ∀ c x H', c ∈ cs → Fr [] H H' → Dt K H' x (dS c) → ∀ QB : Bool → Hp → Prop, (∀ H2, Fr [] H' H2 → QB (f c) H2) → tt ((wipe σ ws).set j (some x)) H' QB)
    (he : ∀ c x H', c ∈ cs → Fr [] H H' → Dt K H' x (dS c) → f c = true → ∀ Q : VK, (∀ y H2, Fr [] H' H2 → Dt K H2 y (g c) → Q y H2) → te ((wipe σ ws).set j (some x)) H' Q)
    (k : ∀ D H', H D = none → Fr [] H H' → Lq K H' D ((cs.filter f).map g) → Q (.ref D) H') :
    ∃ a', V.ref q = .ref a' ∧ (∃ ys, SqL K H a' ys) ∧ ∀ D, H D = none → LC (Itl K a') (gName j) tt te ws σ D Q (upd H D (.lst [])) := by
  have lu : us.length = cs.length := by rw [hd.length, List.length_map]
  refine LC_L (SqL.of hq) fun D hD => LC_by (a := q) (xs := us) (fun i H' => Fr [] H H' ∧ Lq K H' D (((cs.take i).filter f).map g)) ⟨Fr.new hD, [], upd_same, .nil⟩ (fun i H' _ h => SqL.of (h.1 _ _ hq (by simp))) ?_ ?_
  · rintro i x H' hx ⟨f', ys, hys, dys⟩
    obtain ⟨d, h1, h2⟩ := (hd.mono f'.tu).get hx
    obtain ⟨c, h3, rfl⟩ := (by
      rw [List.getElem?_map] at h1
      cases e : cs[i]? with
      | none => rw [e] at h1; cases h1
      | some x => rw [e] at h1; exact ⟨x, rfl, Option.some.inj h1⟩ : ∃ c, cs[i]? = some c ∧ dS c = d)
    have mc := List.mem_of_getElem? h3
    have hi : i < us.length := (List.getElem?_eq_some_iff.mp hx).1
    have ly : ys.length ≤ i := by
      rw [dys.length, List.length_map]
      refine Nat.le_trans (List.length_filter_le _ _) ?_
      rw [List.length_take]
      omega
    refine ⟨hw x, ht c x H' mc f' h2 _ fun H2 f2 => ?_⟩
    cases hf : f c with
    | false =>
      rw [if_neg Bool.false_ne_true]
      refine ⟨f'.trans f2, ?_⟩
      rw [take_filt h3, hf]
      show Lq K H2 D ((List.filter f (cs.take i) ++ []).map g)
      rw [List.append_nil]
      exact Lq.fr0 ⟨ys, hys, dys⟩ f2
    | true =>
      rw [if_pos rfl]
      refine he c x H2 mc (f'.trans f2) (h2.mono f2.tu) hf _ fun y H3 f3 dy => ?_
      have f23 := f2.trans f3
      have e3 := f23 _ _ hys (by simp)
      refine ⟨ys, e3, Nat.lt_of_le_of_lt (show ys.length ≤ 100000 by omega) (by decide), Fr.new_mut hD ((f'.trans f23).mono (by simp) |>.trans (Fr.mut (by simp))), _, upd_same, ?_⟩
      rw [take_filt h3, hf, List.map_append]
      exact ((dys.mono f23.tu).append (.cons dy .nil)).mono (Tu.mut e3)
  · rintro H' ⟨f', L⟩
    rw [lu, List.take_length] at L
    exact k D H' hD f' L
theorem Lq.at {K : PySem.W.Frag} {H : Hp} {l : Addr} {ds : List PyData} {P : PyData → Prop} (h : Lq K H l ds) (hP : ∀ d ∈ ds, P d) {i : Int} (h0 : 0 ≤ i) (h1 : i < ds.length) {Q : VK} (q : ∀ v d, Dt K H v d → P d → ds[i.toNat]? = some d → Q v H) : rIx K (.ref l) (.int i) H Q := by
  obtain ⟨vs, e, a⟩ := h
  have ek : i = ((i.toNat : Nat) : Int) := by omega
  have hk : i.toNat < ds.length := by omega
  obtain ⟨v, hv, dv⟩ := a.get' (List.getElem?_eq_getElem hk)
  refine w_ixL (SqL.of e) ?_ (q v _ dv (hP _ (List.getElem_mem hk)) (List.getElem?_eq_getElem hk))
  rw [ek]
  exact atI_nat hv
/-- the last -/
theorem Lq.last {K : PySem.W.Frag} {H : Hp} {l : Addr} {ds : List PyData} {d : PyData} {Q : VK} (h : Lq K H l (ds ++ [d])) (q : ∀ v, Dt K H v d → Q v H) : rIx K (.ref l) (.int (-1)) H Q := by
  obtain ⟨vs, e, a⟩ := h
  have hl := a.length
  rw [List.length_append] at hl
  have hl : vs.length = ds.length + 1 := hl
  obtain ⟨v, hv, dv⟩ := a.get' (i := ds.length) (d := d) (by rw [List.getElem?_append_right (Nat.le_refl _), Nat.sub_self]; rfl)
  refine w_ixL (SqL.of e) ?_ (q v dv)
  unfold atI ixN
  rw [if_neg (by decide), if_pos (by omega)]
  show vs[((-1 : Int) + vs.length).toNat]? = some v
  rw [show ((-1 : Int) + vs.length).toNat = ds.length by omega]
  exact hv
/-- a for over such a list -/
theorem Lq.walk {K : PySem.W.Frag} {H : Hp} {l : Addr} {ds : List PyData} {σ : L2.St} {nx b c : L2.St → Hp → Prop} {rt : VK} {g : TG} {tb : TS} (h : Lq K H l ds) (Pv : Nat → L2.St → Hp → Prop) (h0 : Pv 0 σ H) (hl : ∀ i σ H', Pv i σ H' → Lq K H' l ds)
    (hs : ∀ i v d σ H', ds[i]? = some d → Dt K H' v d → Pv i σ H' → g v σ H' fun σ2 H2 => tb ⟨Pv (i + 1), rt, nx, Pv (i + 1)⟩ σ2 H2) (hd : ∀ σ H', Pv ds.length σ H' → nx σ H') :
    ∃ a', V.ref l = .ref a' ∧ (∃ ys, SqL K H a' ys) ∧ FOR (Itl K a') g tb ⟨nx, rt, b, c⟩ σ H := by
  obtain ⟨vs, e, a⟩ := id h
  refine ⟨l, rfl, ⟨vs, SqL.of e⟩, fun i m σ H => m = ds.length - i ∧ i ≤ ds.length ∧ Pv i σ H, ⟨_, rfl, Nat.zero_le _, h0⟩, ?_⟩
  rintro i m σ' H' ⟨rfl, hi, p⟩
  obtain ⟨us, eu, au⟩ := hl i σ' H' p
  by_cases hlt : i < ds.length
  · obtain ⟨v, hv, dv⟩ := au.get' (List.getElem?_eq_getElem hlt)
    refine .inr ⟨⟨us, v, SqL.of eu, hv⟩, Pv (i + 1), fun σ2 H2 p' => ⟨ds.length - (i + 1), by omega, rfl, hlt, p'⟩, fun x H2 y => ?_⟩
    obtain ⟨z, y⟩ := y
    subst z
    have ex : x = v := Option.some.inj ((y us (SqL.of eu)).symm.trans hv)
    subst ex
    exact hs i x _ σ' _ (List.getElem?_eq_getElem hlt) dv p
  · have z : i = ds.length := by omega
    subst z
    exact .inl ⟨⟨us, SqL.of eu, by rw [au.length]; exact Nat.le_refl _⟩, hd σ' H' p⟩
/-- .. backwards -/
theorem Lq.walkRev {K : PySem.W.Frag} {H : Hp} {l : Addr} {ds : List PyData} {σ : L2.St} {nx b c : L2.St → Hp → Prop} {rt : VK} {g : TG} {tb : TS} (h : Lq K H l ds) (Pv : Nat → L2.St → Hp → Prop) (h0 : Pv 0 σ H) (hl : ∀ i σ H', Pv i σ H' → Lq K H' l ds)
    (hs : ∀ i v d σ H', i < ds.length → ds[ds.length - 1 - i]? = some d → Dt K H' v d → Pv i σ H' → g v σ H' fun σ2 H2 => tb ⟨Pv (i + 1), rt, nx, Pv (i + 1)⟩ σ2 H2) (hd : ∀ σ H', Pv ds.length σ H' → nx σ H') :
    ∃ (a : Addr) (xs : List V), V.ref l = .ref a ∧ ((SqL K H a xs ∧ FOR (Itv K a xs.length) g tb ⟨nx, rt, b, c⟩ σ H) ∨ (SqT K H a xs ∧ FOR (RT.ItvT K a xs.length) g tb ⟨nx, rt, b, c⟩ σ H)) := by
  obtain ⟨vs, e, a⟩ := id h
  have lv := a.length
  refine ⟨l, vs, rfl, .inl ⟨SqL.of e, fun i m σ H => m = ds.length - i ∧ i ≤ ds.length ∧ Pv i σ H, ⟨_, rfl, Nat.zero_le _, h0⟩, ?_⟩⟩
  rintro i m σ' H' ⟨rfl, hi, p⟩
  obtain ⟨us, eu, au⟩ := hl i σ' H' p
  by_cases hlt : i < ds.length
  · have hj : ds.length - 1 - i < ds.length := by omega
    obtain ⟨v, hv, dv⟩ := au.get' (List.getElem?_eq_getElem hj)
    refine .inr ⟨⟨by omega, us, v, SqL.of eu, by rw [lv]; exact hv⟩, Pv (i + 1), fun σ2 H2 p' => ⟨ds.length - (i + 1), by omega, rfl, hlt, p'⟩, fun x H2 y => ?_⟩
    obtain ⟨z, y⟩ := y
    subst z
    have y2 := y us (SqL.of eu)
    rw [lv] at y2
    have ex : x = v := Option.some.inj (y2.symm.trans hv)
    subst ex
    exact hs i x _ σ' _ hlt (List.getElem?_eq_getElem hj) dv p
  · have z : i = ds.length := by omega
    subst z
    exact .inl ⟨by show vs.length ≤ _; omega, hd σ' H' p⟩
/-- .. with its number -/
theorem Lq.walkEnum {K : PySem.W.Frag} {H : Hp} {l : Addr} {ds : List PyData} {σ : L2.St} {nx b c : L2.St → Hp → Prop} {rt : VK} {g : TG} {tb : TS} (h : Lq K H l ds) (Pv : Nat → L2.St → Hp → Prop) (h0 : Pv 0 σ H) (hl : ∀ i σ H', Pv i σ H' → Lq K H' l ds)
    (hs : ∀ i t v d σ H' H2, ds[i]? = some d → Dt K H2 v d → Fr [] H' H2 → Pv i σ H' → SqT K H2 t [.int i, v] → g (.ref t) σ H2 fun σ2 H3 => tb ⟨Pv (i + 1), rt, nx, Pv (i + 1)⟩ σ2 H3) (hd : ∀ σ H', Pv ds.length σ H' → nx σ H') :
    ∃ a xs, [V.ref l] = [.ref a] ∧ SqL K H a xs ∧ FOR (Ite K a) g tb ⟨nx, rt, b, c⟩ σ H := by
  obtain ⟨vs, e, a⟩ := id h
  refine ⟨l, vs, rfl, SqL.of e, fun i m σ H => m = ds.length - i ∧ i ≤ ds.length ∧ Pv i σ H, ⟨_, rfl, Nat.zero_le _, h0⟩, ?_⟩
  rintro i m σ' H' ⟨rfl, hi, p⟩
  obtain ⟨us, eu, au⟩ := hl i σ' H' p
  by_cases hlt : i < ds.length
  · obtain ⟨v, hv, dv⟩ := au.get' (List.getElem?_eq_getElem hlt)
    refine .inr ⟨⟨us, v, SqL.of eu, hv⟩, Pv (i + 1), fun σ2 H2 p' => ⟨ds.length - (i + 1), by omega, rfl, hlt, p'⟩, fun x H2 y => ?_⟩
    obtain ⟨t, z, e1, ht, e2, y⟩ := y
    subst e1 e2
    have ex : z = v := Option.some.inj ((y us (SqL.of eu)).symm.trans hv)
    subst ex
    exact hs i t z _ σ' H' _ (List.getElem?_eq_getElem hlt) (dv.mono (Tu.new ht)) (Fr.new ht) p (.inl (.inl upd_same))
  · have z : i = ds.length := by omega
    subst z
    exact .inl ⟨⟨us, SqL.of eu, by rw [au.length]; exact Nat.le_refl _⟩, hd σ' H' p⟩
theorem map_get {α β : Type} {f : α → β} {xs : List α} {i : Nat} {y : β} (h : (xs.map f)[i]? = some y) : ∃ x, xs[i]? = some x ∧ f x = y := by
  rw [List.getElem?_map] at h
  cases e : xs[i]? with
  | none => rw [e] at h; cases h
  | some x => rw [e] at h; exact ⟨x, rfl, Option.some.inj h⟩
end U

namespace U
open PySem PySem.Spec PyProof.Rows L2
/-! ### texts: a sign, a part, sign by sign -/
section
variable {K : PySem.W.Frag} {H : Hp} {Q : VK} {i j : Int}
theorem w_ixS {z : Str} {c : Nat} (h : z.length ≤ sizeLine) (e : atI z.cps.toList i = some c) (q : Q (.str ⟨#[c]⟩) H) : rIx K (.str z) (.int i) H Q := .inr (.inr ⟨z, i, c, rfl, rfl, h, e, q⟩)
theorem w_inSign {c : Nat} {z : Str} (q : Q (.bl (decide (c ∈ z.cps.toList))) H) : rInU K (.str ⟨#[c]⟩) (.str z) H Q := .inr ⟨c, z, rfl, rfl, q⟩
theorem w_ninSign {c : Nat} {z : Str} (q : Q (.bl (!decide (c ∈ z.cps.toList))) H) : rNinU K (.str ⟨#[c]⟩) (.str z) H Q := .inr ⟨c, z, rfl, rfl, q⟩
theorem w_slS {z : Str} {lo hi : Option Int} (h : z.length ≤ sizeLine) (q : Q (.str (cutS z lo hi)) H) : rSlU K (.str z) lo hi H Q := .inr ⟨z, rfl, h, q⟩
def MkD (Q : VK) (H : Hp) : Prop := ∀ p, H p = none → Q (.ref p) (upd H p (.dK []))
theorem w_dnew {σ : L2.St} (q : MkD Q H) : tDNewK σ H Q := q
theorem w_iS {σ : L2.St} {te : TE} {R : It → Hp → Prop} (q : te σ H fun v H1 => ∃ x, v = .str x ∧ R (Its x) H1) : iStr te σ H R := q
theorem at_sign {z : Str} {p : Int} (h0 : 0 ≤ p) (h : p < z.length) : ∃ c, atI z.cps.toList p = some c ∧ c ∈ z.cps.toList := by
  have h1 : p.toNat < z.cps.toList.length := by
    rw [Array.length_toList]
    have : z.length = z.cps.size := rfl
    omega
  have ek : p = ((p.toNat : Nat) : Int) := by omega
  have key : atI z.cps.toList ((p.toNat : Nat) : Int) = some z.cps.toList[p.toNat] := atI_nat (List.getElem?_eq_getElem h1)
  rw [← ek] at key
  exact ⟨_, key, List.getElem_mem h1⟩
end
/-- a text of at most n signs, each of them one -/
def TxOk (n : Nat) (x : Str) : Prop := x.length ≤ n ∧ PyData.strOk x = true
theorem strOk_mem {x : Str} : PyData.strOk x = true ↔ ∀ c ∈ x.cps.toList, c < 0x110000 := by
  unfold PyData.strOk
  rw [← Array.all_toList, List.all_eq_true]
  constructor
  · intro h c hc; simpa using h c hc
  · intro h c hc; simpa using h c hc
theorem TxOk.mono {n m : Nat} {x : Str} (h : TxOk n x) (l : n ≤ m) : TxOk m x := ⟨Nat.le_trans h.1 l, h.2⟩
theorem TxOk.cat {n m : Nat} {a b : Str} (ha : TxOk n a) (hb : TxOk m b) : TxOk (n + m) (a ++ b) := by
  refine ⟨?_, strOk_mem.mpr fun c hc => ?_⟩
  · have e : (a ++ b).length = a.length + b.length := by
      show (a ++ b).cps.size = a.cps.size + b.cps.size
      rw [PySem.Str.cps_append, Array.size_append]
    have := ha.1
    have := hb.1
    omega
  · rw [PySem.Str.cps_append, Array.toList_append] at hc
    rcases List.mem_append.mp hc with h | h
    · exact strOk_mem.mp ha.2 c h
    · exact strOk_mem.mp hb.2 c h
theorem TxOk.cut {n : Nat} {a : Str} {lo hi : Option Int} (ha : TxOk n a) : TxOk n (cutS a lo hi) := by
  refine ⟨Nat.le_trans (cutS_length a lo hi) ha.1, strOk_mem.mpr fun c hc => ?_⟩
  unfold cutS at hc
  rw [List.toList_toArray] at hc
  exact strOk_mem.mp ha.2 c (List.mem_of_mem_drop (List.mem_of_mem_take hc))
theorem TxOk.sign {n : Nat} {a : Str} {c : Nat} (ha : TxOk n a) (h : c ∈ a.cps.toList) : TxOk 1 ⟨#[c]⟩ := by
  refine ⟨Nat.le_refl _, strOk_mem.mpr fun d hd => ?_⟩
  rw [List.mem_singleton.mp hd]
  exact strOk_mem.mp ha.2 c h
/-- a comprehension over a text, sign by sign -/
theorem LCS {K : PySem.W.Frag} {x : Str} {H : Hp} {j : Nat} {ws : List Nat} {σ : L2.St} {tt : TT} {te : TE} {Q : VK} (f : Nat → Bool) (g : Nat → PyData) (lx : x.length ≤ 100000)
    (hw : ∀ v, wipe ((wipe σ ws).set j (some v)) ws = wipe σ ws)
    (ht : ∀ c H', Fr [] H H' → ∀ QB : Bool → Hp → Prop, QB (f c) H' → tt ((wipe σ ws).set j (some (.str ⟨#[c]⟩))) H' QB)
    (he : ∀ c H', Fr [] H H' → f c = true → ∀ Q : VK, (∀ y, Dt K H' y (g c) → Q y H') → te ((wipe σ ws).set j (some (.str ⟨#[c]⟩))) H' Q)
    (k : ∀ D H', H D = none → Fr [] H H' → Lq K H' D ((x.cps.toList.filter f).map g) → Q (.ref D) H') :
    ∃ x', V.str x = .str x' ∧ ∀ D, H D = none → LC (Its x') (gName j) tt te ws σ D Q (upd H D (.lst [])) := by
  refine ⟨x, rfl, fun D hD => ?_⟩
  refine lc_it (walk_str (z := x)) (fun i H' => Fr [] H H' ∧ Lq K H' D (((x.cps.toList.take i).filter f).map g)) ⟨Fr.new hD, [], upd_same, .nil⟩ (fun _ _ _ _ => trivial) ?_ ?_
  · rintro i v H1 H' hi ⟨f', ys, hys, dys⟩ ⟨rfl, c, hc, rfl⟩
    have hcl : x.cps.toList[i]? = some c := by rw [Array.getElem?_toList]; exact hc
    have ly : ys.length ≤ i := by
      rw [dys.length, List.length_map]
      refine Nat.le_trans (List.length_filter_le _ _) ?_
      rw [List.length_take]
      omega
    have lz : x.cps.size ≤ 100000 := lx
    refine ⟨hw _, ht c H' f' _ ?_⟩
    cases hf : f c with
    | false =>
      rw [if_neg Bool.false_ne_true]
      refine ⟨f', ?_⟩
      rw [take_filt hcl, hf]
      show Lq K H' D ((List.filter f (x.cps.toList.take i) ++ []).map g)
      rw [List.append_nil]
      exact ⟨ys, hys, dys⟩
    | true =>
      rw [if_pos rfl]
      refine he c H' f' hf _ fun y dy => ?_
      refine ⟨ys, hys, Nat.lt_of_le_of_lt (show ys.length ≤ 100000 by omega) (by decide), Fr.new_mut hD ((f'.mono (by simp)).trans (Fr.mut (by simp))), _, upd_same, ?_⟩
      rw [take_filt hcl, hf, List.map_append]
      exact (dys.append (.cons dy .nil)).mono (Tu.mut hys)
  · rintro H' ⟨f', L⟩
    have e : List.take x.cps.size x.cps.toList = x.cps.toList := by
      rw [← Array.length_toList, List.take_length]
    rw [e] at L
    exact k D H' hD f' L
/-- a new list of any data -/
theorem mkG {K : PySem.W.Frag} {H : Hp} {xs : List V} {ds : List PyData} {Q : VK} (d : DgAll K H xs ds) (q : ∀ p H' vs, H p = none → Fr [] H H' → H' p = some (.lst vs) → DgAll K H' vs ds → Q (.ref p) H') (n : xs.length ≤ 1000 := by exact Nat.le_of_ble_eq_true rfl) : MkL xs Q H :=
  ⟨Nat.le_trans n (by decide), fun p hp => q p _ xs hp (Fr.new hp) upd_same (d.fr (Fr.new hp))⟩
theorem mkD {H : Hp} {Q : VK} (q : ∀ p H', H p = none → Fr [] H H' → H' p = some (.dK []) → Q (.ref p) H') : MkD Q H := fun p hp => q p _ hp (Fr.new hp) upd_same
end U

namespace U
open PySem PySem.Spec PyProof.Rows L2
/-! ### a for over a tuple of data, comprehensions with any target and test -/
section
variable {K : PySem.W.Frag}
theorem Dt.walk {H : Hp} {v : V} {ds : List PyData} {σ : L2.St} {nx b c : L2.St → Hp → Prop} {rt : VK} {g : TG} {tb : TS} (h : Dt K H v (.tuple ds)) (Pv : Nat → L2.St → Hp → Prop) (h0 : Pv 0 σ H) (hl : ∀ i σ H', Pv i σ H' → Tu H H')
    (hs : ∀ i u d σ H', ds[i]? = some d → Dt K H' u d → Pv i σ H' → g u σ H' fun σ2 H2 => tb ⟨Pv (i + 1), rt, nx, Pv (i + 1)⟩ σ2 H2) (hd : ∀ σ H', Pv ds.length σ H' → nx σ H') :
    ∃ a, v = .ref a ∧ (∃ xs, SqT K H a xs) ∧ FOR (Itt K a) g tb ⟨nx, rt, b, c⟩ σ H := by
  obtain ⟨a, vs, rfl, s, av⟩ := h.tuple
  have e := av.length
  refine ⟨a, rfl, ⟨vs, s⟩, for_tup (D := ⟨nx, rt, b, c⟩) (xs := vs) Pv h0 (fun i σ H' _ p => (hl i σ H' p).seqT s) (fun i x σ H' hx p => ?_) (fun σ H' p => hd σ H' (by rw [← e]; exact p))⟩
  obtain ⟨d, h1, h2⟩ := (av.mono (hl i σ H' p)).get hx
  exact hs i x d σ H' h1 h2 p
theorem LCX_L {α : Type} {q : Addr} {H : Hp} {cs : List α} {dS : α → PyData} {ws : List Nat} {σ : L2.St} {tg : TG} {tt : TT} {te : TE} {Q : VK} (f : α → Bool) (g : α → PyData)
    (h : Lq K H q (cs.map dS)) (lc : cs.length ≤ 100000)
    (hs : ∀ (c : α) (x : V) (H' : Hp) (KEEP : VK) (DROP : Hp → Prop), c ∈ cs → Fr [] H H' → Dt K H' x (dS c) → (f c = true → ∀ y H4, Fr [] H' H4 → Dt K H4 y (g c) → KEEP y H4) → (f c = false → ∀ H4, Fr [] H' H4 → DROP H4) →
      tg x (wipe σ ws) H' fun σ2 H2 => wipe σ2 ws = wipe σ ws ∧ tt σ2 H2 fun k H3 => if k = true then te σ2 H3 KEEP else DROP H3)
    (k : ∀ D H', H D = none → Fr [] H H' → Lq K H' D ((cs.filter f).map g) → Q (.ref D) H') :
    ∃ a', V.ref q = .ref a' ∧ (∃ ys, SqL K H a' ys) ∧ ∀ D, H D = none → LC (Itl K a') tg tt te ws σ D Q (upd H D (.lst [])) := by
  obtain ⟨us, hq, hd⟩ := h
  have lu : us.length = cs.length := by rw [hd.length, List.length_map]
  refine LC_L (SqL.of hq) fun D hD => LC_by (a := q) (xs := us) (fun i H' => Fr [] H H' ∧ Lq K H' D (((cs.take i).filter f).map g)) ⟨Fr.new hD, [], upd_same, .nil⟩ (fun i H' _ h => SqL.of (h.1 _ _ hq (by simp))) ?_ ?_
  · rintro i x H' hx ⟨f', ys, hys, dys⟩
    obtain ⟨d, h1, h2⟩ := (hd.mono f'.tu).get hx
    obtain ⟨c, h3, rfl⟩ := map_get h1
    have hi : i < us.length := (List.getElem?_eq_some_iff.mp hx).1
    have ly : ys.length ≤ i := by
      rw [dys.length, List.length_map]
      refine Nat.le_trans (List.length_filter_le _ _) ?_
      rw [List.length_take]
      omega
    refine hs c x H' _ _ (List.mem_of_getElem? h3) f' h2 (fun hf y H4 f4 dy => ?_) (fun hf H4 f4 => ?_)
    · have e3 := f4 _ _ hys (by simp)
      refine ⟨ys, e3, Nat.lt_of_le_of_lt (show ys.length ≤ 100000 by omega) (by decide), Fr.new_mut hD ((f'.trans f4).mono (by simp) |>.trans (Fr.mut (by simp))), _, upd_same, ?_⟩
      rw [take_filt h3, hf, List.map_append]
      exact ((dys.mono f4.tu).append (.cons dy .nil)).mono (Tu.mut e3)
    · refine ⟨f'.trans f4, ?_⟩
      rw [take_filt h3, hf]
      show Lq K H4 D ((List.filter f (cs.take i) ++ []).map g)
      rw [List.append_nil]
      exact Lq.fr0 ⟨ys, hys, dys⟩ f4
  · rintro H' ⟨f', L⟩
    rw [lu, List.take_length] at L
    exact k D H' hD f' L
theorem LCX_T {α : Type} {v : V} {H : Hp} {cs : List α} {dS : α → PyData} {ws : List Nat} {σ : L2.St} {tg : TG} {tt : TT} {te : TE} {Q : VK} (f : α → Bool) (g : α → PyData)
    (h : Dt K H v (.tuple (cs.map dS))) (lc : cs.length ≤ 100000)
    (hs : ∀ (c : α) (x : V) (H' : Hp) (KEEP : VK) (DROP : Hp → Prop), c ∈ cs → Fr [] H H' → Dt K H' x (dS c) → (f c = true → ∀ y H4, Fr [] H' H4 → Dt K H4 y (g c) → KEEP y H4) → (f c = false → ∀ H4, Fr [] H' H4 → DROP H4) →
      tg x (wipe σ ws) H' fun σ2 H2 => wipe σ2 ws = wipe σ ws ∧ tt σ2 H2 fun k H3 => if k = true then te σ2 H3 KEEP else DROP H3)
    (k : ∀ D H', H D = none → Fr [] H H' → Lq K H' D ((cs.filter f).map g) → Q (.ref D) H') :
    ∃ a', v = .ref a' ∧ (∃ ys, SqT K H a' ys) ∧ ∀ D, H D = none → LC (Itt K a') tg tt te ws σ D Q (upd H D (.lst [])) := by
  obtain ⟨q, us, rfl, hq, hd⟩ := h.tuple
  have lu : us.length = cs.length := by rw [hd.length, List.length_map]
  refine LC_T hq fun D hD => ?_
  refine lc_it (walk_tup (K := K) (a := q) (xs := us)) (fun i H' => Fr [] H H' ∧ Lq K H' D (((cs.take i).filter f).map g)) ⟨Fr.new hD, [], upd_same, .nil⟩ (fun i H' _ h => h.1.seqT hq (by simp)) ?_ ?_
  · rintro i x H0' H' hi ⟨f', ys, hys, dys⟩ ⟨rfl, hx⟩
    obtain ⟨d, h1, h2⟩ := (hd.mono f'.tu).get hx
    obtain ⟨c, h3, rfl⟩ := map_get h1
    have ly : ys.length ≤ i := by
      rw [dys.length, List.length_map]
      refine Nat.le_trans (List.length_filter_le _ _) ?_
      rw [List.length_take]
      omega
    refine hs c x _ _ _ (List.mem_of_getElem? h3) f' h2 (fun hf y H4 f4 dy => ?_) (fun hf H4 f4 => ?_)
    · have e3 := f4 _ _ hys (by simp)
      refine ⟨ys, e3, Nat.lt_of_le_of_lt (show ys.length ≤ 100000 by omega) (by decide), Fr.new_mut hD ((f'.trans f4).mono (by simp) |>.trans (Fr.mut (by simp))), _, upd_same, ?_⟩
      rw [take_filt h3, hf, List.map_append]
      exact ((dys.mono f4.tu).append (.cons dy .nil)).mono (Tu.mut e3)
    · refine ⟨f'.trans f4, ?_⟩
      rw [take_filt h3, hf]
      show Lq K H4 D ((List.filter f (cs.take i) ++ []).map g)
      rw [List.append_nil]
      exact Lq.fr0 ⟨ys, hys, dys⟩ f4
  · rintro H' ⟨f', L⟩
    rw [lu, List.take_length] at L
    exact k D H' hD f' L
/-- extend by a list of data -/
theorem Lq.extend {H : Hp} {l m : Addr} {ds es : List PyData} {Q : VK} (h : Lq K H l ds) (h' : Lq K H m es) (n : ds.length + es.length ≤ 100000) (q : ∀ H', Fr [l] H H' → Tu H H' → Lq K H' l (ds ++ es) → Q .non H') : rExtend (.ref l) [.ref m] H Q := by
  obtain ⟨vs, e, a⟩ := h
  obtain ⟨us, e', a'⟩ := h'
  refine ⟨l, m, vs, us, rfl, rfl, e, e', Nat.le_trans (show _ ≤ 100000 by rw [a.length, a'.length]; exact n) (by decide), ?_⟩
  exact q _ (Fr.mut (by simp)) (Tu.mut e) ⟨_, upd_same, (a.append a').mono (Tu.mut e)⟩
/-- tuple(list) -/
theorem Lq.tuple {H : Hp} {l : Addr} {ds : List PyData} {Q : VK} (h : Lq K H l ds) (q : ∀ p H', Fr [] H H' → Dt K H' (.ref p) (.tuple ds) → Q (.ref p) H') : rTupleU K [.ref l] H Q := by
  obtain ⟨vs, e, a⟩ := h
  exact w_tupleL (SqL.of e) fun p hp => q p _ (Fr.new hp) (.tup (.inl (.inl upd_same)) (a.mono (Tu.new hp)))
/-- a part of a tuple, the first of a list -/
theorem Dt.ix {H : Hp} {v : V} {ds : List PyData} {d : PyData} {i : Int} {Q : VK} (n : Nat) (h : Dt K H v (.tuple ds)) (e : ds[n]? = some d) (q : ∀ u, Dt K H u d → Q u H) (hi : i = (n : Int) := by rfl) : rIx K v (.int i) H Q := by
  obtain ⟨p, vs, rfl, s, a⟩ := h.tuple
  obtain ⟨u, hu, du⟩ := a.get' e
  subst hi
  exact w_ixT s (atI_nat hu) (q u du)
theorem Lq.ix {H : Hp} {l : Addr} {ds : List PyData} {d : PyData} {i : Int} {Q : VK} (n : Nat) (h : Lq K H l ds) (e : ds[n]? = some d) (q : ∀ u, Dt K H u d → Q u H) (hi : i = (n : Int) := by rfl) : rIx K (.ref l) (.int i) H Q := by
  obtain ⟨vs, s, a⟩ := h
  obtain ⟨u, hu, du⟩ := a.get' e
  subst hi
  exact w_ixL (SqL.of s) (atI_nat hu) (q u du)
theorem Lq.nin {H : Hp} {l : Addr} {x : V} {ds : List PyData} {d : PyData} {Q : VK} (h : Lq K H l ds) (hx : Dt K H x d) (sd : SeqAt.shaped d = true) (sl : SeqAt.shaped (.list ds) = true) (q : Q (.bl (!ds.any fun z => PyData.eqv z d)) H) : rNinU K x (.ref l) H Q := .inl (.inr ⟨d, ds, hx.dp, h.dp, sd, sl, q⟩)
theorem Lq.isin {H : Hp} {l : Addr} {x : V} {ds : List PyData} {d : PyData} {Q : VK} (h : Lq K H l ds) (hx : Dt K H x d) (sd : SeqAt.shaped d = true) (sl : SeqAt.shaped (.list ds) = true) (q : Q (.bl (ds.any fun z => PyData.eqv z d)) H) : rInU K x (.ref l) H Q := .inl (.inr ⟨d, ds, hx.dp, h.dp, sd, sl, q⟩)
theorem Dt.isTuple {H : Hp} {v : V} {ds : List PyData} {Q : VK} (h : Dt K H v (.tuple ds)) (q : Q (.bl true) H) : rIsi K [v, .ty "tuple"] H Q := by
  obtain ⟨p, vs, rfl, s, a⟩ := h.tuple
  exact isT_tuple s q
theorem w_iRevR {σ : L2.St} {H : Hp} {te : TE} {R : It → Hp → Prop} (q : te σ H fun x H1 => ∃ n, x = .int n ∧ (-(2 ^ 62) ≤ (0 : Int) ∧ (0 : Int) < 2 ^ 62 ∧ -(2 ^ 62) ≤ n ∧ n < 2 ^ 62 ∧ R (Itc (0 + (((n - 0).toNat : Nat) : Int) - 1) (-1) (n - 0).toNat) H1)) : iRevR (tRg1 te) σ H R := q
theorem F_RevR {σ : L2.St} {H : Hp} {nx b c : L2.St → Hp → Prop} {rt : VK} {g : TG} {tb : TS} (n : Nat) (hn : n ≤ 100000) (Pv : Nat → L2.St → Hp → Prop) (h0 : Pv 0 σ H)
    (hs : ∀ i σ H, i < n → Pv i σ H → g (.int ((n - 1 - i : Nat) : Int)) σ H fun σ2 H2 => tb ⟨Pv (i + 1), rt, nx, Pv (i + 1)⟩ σ2 H2) (hd : ∀ σ H, Pv n σ H → nx σ H) :
    -(2 ^ 62) ≤ (0 : Int) ∧ (0 : Int) < 2 ^ 62 ∧ -(2 ^ 62) ≤ (n : Int) ∧ (n : Int) < 2 ^ 62 ∧ FOR (Itc (0 + ((((n : Int) - 0).toNat : Nat) : Int) - 1) (-1) ((n : Int) - 0).toNat) g tb ⟨nx, rt, b, c⟩ σ H := by
  refine ⟨by decide, by decide, by omega, by omega, ?_⟩
  have e : ((n : Int) - 0).toNat = n := by omega
  rw [e]
  refine for_it (D := ⟨nx, rt, b, c⟩) (walk_rangeC (lo := 0 + (n : Int) - 1) (c := -1) (n := n)) Pv h0 (fun _ _ _ _ _ => trivial) (fun i x σ H H' hi p y => ?_) (fun σ H p => hd σ H p)
  obtain ⟨rfl, rfl⟩ := y
  have z := hs i σ H' hi p
  rw [show ((n - 1 - i : Nat) : Int) = 0 + (n : Int) - 1 + ((i : Nat) : Int) * -1 by omega] at z
  exact z
def rIns : V → List V → Hp → VK → Prop := fun x vs H Q => ∃ (l : Addr) (xs : List V) (i : Int) (y : V), x = .ref l ∧ vs = [.int i, y] ∧ H l = some (.lst xs) ∧ xs.length < sizeLine ∧ 0 ≤ i ∧ i < 2 ^ 63 ∧ Q .non (upd H l (.lst (xs.take i.toNat ++ [y] ++ xs.drop i.toNat)))
theorem mt_insU {X : Cx} : MtR X "list.insert" rIns := mt_insert
theorem Lq.insert {H : Hp} {l : Addr} {ds : List PyData} {i : Int} {y : V} {d : PyData} {Q : VK} (h : Lq K H l ds) (hy : Dt K H y d) (n : ds.length ≤ 100000) (h0 : 0 ≤ i) (h1 : i < 2 ^ 63) (q : ∀ H', Fr [l] H H' → Tu H H' → Lq K H' l (ds.take i.toNat ++ [d] ++ ds.drop i.toNat) → Q .non H') : rIns (.ref l) [.int i, y] H Q := by
  obtain ⟨vs, e, a⟩ := h
  refine ⟨l, vs, i, y, rfl, rfl, e, Nat.lt_of_le_of_lt (show vs.length ≤ 100000 by rw [a.length]; exact n) (by decide), h0, h1, ?_⟩
  exact q _ (Fr.mut (by simp)) (Tu.mut e) ⟨_, upd_same, (((a.take _).append (.cons hy .nil)).append (a.drop _)).mono (Tu.mut e)⟩
end
end U

/-! dicts whose keys are tuples of data, nested -/
namespace U
open PySem PySem.Spec PyProof.Rows L2
mutual
/-- data as a key of the library -/
def nk : PyData → NestedKey
  | .none => .none
  | .bool b => .num (if b then 1 else 0)
  | .int i => .num i
  | .str x => .text x
  | .tuple ds => .tup (nkAll ds)
  | _ => .none
def nkAll : List PyData → List NestedKey
  | [] => []
  | d :: r => nk d :: nkAll r
end
mutual
/-- data that is a key, no truths in it -/
def kd : PyData → Bool
  | .none => true
  | .int _ => true
  | .str _ => true
  | .tuple ds => kdAll ds
  | _ => false
def kdAll : List PyData → Bool
  | [] => true
  | d :: r => kd d && kdAll r
end
mutual
theorem nk_depth : ∀ d : PyData, kd d = true → NestedKey.depth (nk d) ≤ d.depth
  | .none, _ => by simp [nk, NestedKey.depth]
  | .int _, _ => by simp [nk, NestedKey.depth]
  | .str _, _ => by simp [nk, NestedKey.depth]
  | .tuple ds, h => by
    have := nkAll_depth ds (by simpa [kd] using h)
    simp only [nk, NestedKey.depth, PyData.depth]
    omega
theorem nkAll_depth : ∀ ds : List PyData, kdAll ds = true → NestedKey.depthAll (nkAll ds) ≤ PyData.depthAll ds
  | [], _ => by simp [nkAll, NestedKey.depthAll]
  | d :: r, h => by
    simp only [kdAll, Bool.and_eq_true] at h
    have h1 := nk_depth d h.1
    have h2 := nkAll_depth r h.2
    simp only [nkAll, NestedKey.depthAll, PyData.depthAll]
    omega
end
mutual
theorem nk_inj : ∀ a b : PyData, kd a = true → kd b = true → nk a = nk b → a = b
  | .none, b, _, hb, h => by cases b <;> simp [nk, kd] at h hb ⊢
  | .int i, b, _, hb, h => by cases b <;> simp [nk, kd] at h hb ⊢; exact h
  | .str x, b, _, hb, h => by cases b <;> simp [nk, kd] at h hb ⊢; exact h
  | .tuple ds, b, ha, hb, h => by
    cases b <;> simp [nk, kd] at h hb ha ⊢
    exact nkAll_inj ds _ ha hb h
theorem nkAll_inj : ∀ a b : List PyData, kdAll a = true → kdAll b = true → nkAll a = nkAll b → a = b
  | [], b, _, _, h => by cases b <;> simp [nkAll] at h ⊢
  | d :: r, b, ha, hb, h => by
    cases b with
    | nil => simp [nkAll] at h
    | cons e t =>
      simp only [kdAll, Bool.and_eq_true] at ha hb
      simp only [nkAll, List.cons.injEq] at h
      rw [nk_inj d e ha.1 hb.1 h.1, nkAll_inj r t ha.2 hb.2 h.2]
end
mutual
theorem nested_of {h : Heap} : ∀ {u : Value} {d : PyData} {as : List Addr}, Reads h u d as → kd d = true → NestedIs h (nk d) u
  | _, _, _, .none, _ => .none
  | _, _, _, .bool b, k => by simp [kd] at k
  | _, _, _, .int i t, _ => .int i t
  | _, _, _, .str x t, _ => .text x t
  | _, _, _, .list _ _ _ _, k => by simp [kd] at k
  | _, _, _, .tuple g c e a, k => .tup g c e (nestedAll_of a (by simpa [kd] using k))
  | _, _, _, .dict _ _ _ _ _, k => by simp [kd] at k
theorem nestedAll_of {h : Heap} : ∀ {us : List Value} {ds : List PyData} {as : List Addr}, ReadsAll h us ds as → kdAll ds = true → NestedAll h (nkAll ds) us
  | _, _, _, .nil, _ => .nil
  | _, _, _, .cons a b, k => by
    simp only [kdAll, Bool.and_eq_true] at k
    exact .cons (nested_of a k.1) (nestedAll_of b k.2)
end
/-- keys told as data -/
structure KeyD {α : Type} (dS : α → PyData) : Prop where
  kd : ∀ a, kd (dS a) = true
  dp : ∀ a, (dS a).depth ≤ 8
  inj : ∀ a b, dS a = dS b → a = b
theorem KeyD.nk {α : Type} {dS : α → PyData} (D : KeyD dS) {a b : α} (h : nk (dS a) = nk (dS b)) : a = b := D.inj a b (nk_inj _ _ (D.kd a) (D.kd b) h)
section
variable {α : Type} [DecidableEq α]
def atN (kvs : List (α × V)) (a : α) : Option V := (kvs.find? fun kv => decide (kv.1 = a)).map (·.2)
def putN (kvs : List (α × V)) (a : α) (v : V) : List (α × V) := if (atN kvs a).isSome then kvs.map (fun kv => if kv.1 = a then (kv.1, v) else kv) else kvs ++ [(a, v)]
def dropN (kvs : List (α × V)) (a : α) : List (α × V) := kvs.filter fun kv => decide (kv.1 ≠ a)
end
def atO (d : Addr) (o : Obj) : HO := .ext fun h => h.get? d = some o
/-- an entry and what stands in the heap -/
def RkN {α : Type} (K : PySem.W.Frag) (H : Hp) (dS : α → PyData) (kv : α × V) (x : NestedKey × Addr × Value) : Prop := Dt K H (.ref x.2.1) (dS kv.1) ∧ x.1 = nk (dS kv.1) ∧ RelV kv.2 x.2.2
structure DNx {α : Type} (P : Program) (w : World) (K : PySem.W.Frag) (dS : α → PyData) (H : Hp) (d : Addr) (kvs : List (α × V)) (xs : List (NestedKey × Addr × Value)) (o : Obj) : Prop where
  there : H d = some (atO d o)
  nosys : (d == sysModules) = false
  exact : o.ExactDict
  data : ∃ es ep, o.data = .dict es ep ∧ es.toList = xs.map (entryOfKey (nestedKind P w))
  keys : Paired (RkN K H dS) kvs xs
  nodup : (xs.map (·.1)).Nodup
/-- at d a dict of kvs, in order -/
def DN {α : Type} (P : Program) (w : World) (K : PySem.W.Frag) (dS : α → PyData) (H : Hp) (d : Addr) (kvs : List (α × V)) : Prop := (kvs = [] ∧ H d = some (.dK [])) ∨ ∃ xs o, DNx P w K dS H d kvs xs o
section
variable {α : Type} {P : Program} {w : World} {K : PySem.W.Frag} {dS : α → PyData} {H H' : Hp} {d : Addr} {kvs : List (α × V)}
theorem Paired.imp {α β : Type} {F G : α → β → Prop} (h : ∀ a b, F a b → G a b) : ∀ {xs : List α} {ys : List β}, Paired F xs ys → Paired G xs ys
  | _, _, .nil => .nil
  | _, _, .cons a b => .cons (h _ _ a) (Paired.imp h b)
theorem RkN.mono (t : Tu H H') {kv : α × V} {x : NestedKey × Addr × Value} (h : RkN K H dS kv x) : RkN K H' dS kv x := ⟨h.1.mono t, h.2.1, h.2.2⟩
theorem DN.fr {S : List Addr} (h : DN P w K dS H d kvs) (f : Fr S H H') (n : d ∉ S) (t : Tu H H') : DN P w K dS H' d kvs := by
  rcases h with ⟨rfl, e⟩ | ⟨xs, o, D⟩
  · exact .inl ⟨rfl, f _ _ e n⟩
  · exact .inr ⟨xs, o, f _ _ D.there n, D.nosys, D.exact, D.data, Paired.imp (fun _ _ => RkN.mono t) D.keys, D.nodup⟩
theorem DN.fr0 (h : DN P w K dS H d kvs) (f : Fr [] H H') : DN P w K dS H' d kvs := h.fr f (by simp) f.tu
theorem Tu.dn (h : DN P w K dS H d kvs) (o : HO) : Tu H (upd H d o) := fun a ys => by
  have e : H d = some (.dK []) ∨ ∃ o, H d = some (atO d o) := by
    rcases h with ⟨_, e⟩ | ⟨xs, o, D⟩
    · exact .inl e
    · exact .inr ⟨_, D.there⟩
  refine ⟨fun z => ?_, fun o' z => ?_⟩ <;>
  · rw [upd_ne (by
      rintro rfl
      rcases e with e | ⟨_, e⟩ <;> rw [z] at e <;> cases e)]
    exact z
end
section
variable {α : Type} {X : Cx} {pins : List (Addr × Obj)} {σ : L2.St} {H : Hp} {s : Shared} {dS : α → PyData} {d a : Addr} {kvs : List (α × V)} {k : α}
theorem KeyD.is (D : KeyD dS) (I : Inv X pins σ H s) (h : Dt X.K H (.ref a) (dS k)) : (nestedKind X.prog X.w).is s.heap (U.nk (dS k)) a := by
  obtain ⟨as, r⟩ := Dp.reads I (dS k) (.ref a) (.ref a) h.dp rfl
  exact ⟨nested_of r (D.kd k), Nat.le_trans (nk_depth _ (D.kd k)) (D.dp k)⟩
theorem Paired.right {α β : Type} {F : α → β → Prop} : ∀ {xs : List α} {ys : List β}, Paired F xs ys → ∀ y ∈ ys, ∃ x, F x y
  | _, _, .nil, y, h => by simp at h
  | _, _, .cons a b, y, h => by
    rcases List.mem_cons.mp h with rfl | h
    · exact ⟨_, a⟩
    · exact Paired.right b y h
theorem DN.heap (D : KeyD dS) (I : Inv X pins σ H s) (h : DN X.prog X.w X.K dS H d kvs) : ∃ xs, s.heap.DictOfH (nestedKind X.prog X.w) d xs ∧ Paired (RkN X.K H dS) kvs xs ∧ (d == sysModules) = false ∧ Mut (H d) := by
  rcases h with ⟨rfl, e⟩ | ⟨xs, o, N⟩
  · obtain ⟨_, n, vs, kv, o, es, ep, ho, hex, hd, _, pr, _⟩ := I.hok d _ e
    cases kv
    have z : es.toList = [] := by
      generalize es.toList = l at pr
      cases pr
      rfl
    exact ⟨[], ⟨o, es, ep, ho, hex, hd, by rw [z]; rfl, by simp, by simp⟩, .nil, n, by rw [e]; trivial⟩
  · obtain ⟨ho, _⟩ := I.hok d _ N.there
    obtain ⟨es, ep, hd, ht⟩ := N.data
    refine ⟨xs, ⟨o, es, ep, ho, N.exact, hd, ht, ?_, N.nodup⟩, N.keys, N.nosys, by rw [N.there]; trivial⟩
    intro x hx
    obtain ⟨kv, r⟩ := Paired.right N.keys x hx
    rw [r.2.1]
    exact D.is I r.1
end
section
variable {α : Type} [DecidableEq α] {K : PySem.W.Frag} {H : Hp} {dS : α → PyData}
theorem at_paired (D : KeyD dS) (k : α) : ∀ {kvs : List (α × V)} {xs : List (NestedKey × Addr × Value)}, Paired (RkN K H dS) kvs xs → (atN kvs k = none ∧ atKey xs (nk (dS k)) = none) ∨ ∃ v p u, atN kvs k = some v ∧ atKey xs (nk (dS k)) = some (p, u) ∧ RelV v u
  | _, _, .nil => .inl ⟨rfl, rfl⟩
  | _, _, .cons (a := kv) (b := x) r b => by
    unfold atN atKey
    rw [List.find?_cons, List.find?_cons]
    by_cases h : kv.1 = k
    · have h2 : x.1 = nk (dS k) := by rw [r.2.1, h]
      rw [decide_eq_true h, decide_eq_true h2]
      exact .inr ⟨kv.2, x.2.1, x.2.2, rfl, rfl, r.2.2⟩
    · have h2 : ¬ x.1 = nk (dS k) := fun z => h (D.nk (r.2.1.symm.trans z))
      rw [decide_eq_false h, decide_eq_false h2]
      exact at_paired D k b
theorem atN_isSome (D : KeyD dS) (k : α) {kvs : List (α × V)} {xs : List (NestedKey × Addr × Value)} (h : Paired (RkN K H dS) kvs xs) : (atKey xs (nk (dS k))).isSome = (atN kvs k).isSome := by
  rcases at_paired D k h with ⟨e, f⟩ | ⟨v, p, u, e, f, _⟩ <;> rw [e, f] <;> rfl
theorem Paired.snoc {α β : Type} {F : α → β → Prop} {x : α} {y : β} (h : F x y) : ∀ {xs : List α} {ys : List β}, Paired F xs ys → Paired F (xs ++ [x]) (ys ++ [y])
  | _, _, .nil => .cons h .nil
  | _, _, .cons a b => .cons a (Paired.snoc h b)
theorem put_map (D : KeyD dS) (k : α) {v : V} {u : Value} (rv : RelV v u) : ∀ {kvs : List (α × V)} {xs : List (NestedKey × Addr × Value)}, Paired (RkN K H dS) kvs xs → Paired (RkN K H dS) (kvs.map (fun kv => if kv.1 = k then (kv.1, v) else kv)) (xs.map (putAt (nk (dS k)) u))
  | _, _, .nil => .nil
  | _, _, .cons (a := kv) (b := x) r b => by
    refine .cons ?_ (put_map D k rv b)
    show RkN K H dS (if kv.1 = k then (kv.1, v) else kv) (if x.1 = nk (dS k) then (x.1, x.2.1, u) else x)
    by_cases h : kv.1 = k
    · have h2 : x.1 = nk (dS k) := by rw [r.2.1, h]
      rw [if_pos h, if_pos h2]
      exact ⟨r.1, r.2.1, rv⟩
    · have h2 : ¬ x.1 = nk (dS k) := fun z => h (D.nk (r.2.1.symm.trans z))
      rw [if_neg h, if_neg h2]
      exact r
theorem put_paired (D : KeyD dS) {k : α} {a : Addr} {v : V} {u : Value} (hk : Dt K H (.ref a) (dS k)) (rv : RelV v u) {kvs : List (α × V)} {xs : List (NestedKey × Addr × Value)} (h : Paired (RkN K H dS) kvs xs) : Paired (RkN K H dS) (putN kvs k v) (storedH xs (nk (dS k)) a u) := by
  unfold putN storedH
  rw [atN_isSome D k h]
  by_cases e : (atN kvs k).isSome = true
  · rw [if_pos e, if_pos e]
    exact put_map D k rv h
  · rw [if_neg e, if_neg e]
    exact Paired.snoc ⟨hk, rfl, rv⟩ h
theorem drop_paired (D : KeyD dS) {k : α} : ∀ {kvs : List (α × V)} {xs : List (NestedKey × Addr × Value)}, Paired (RkN K H dS) kvs xs → Paired (RkN K H dS) (dropN kvs k) (withoutH xs (nk (dS k)))
  | _, _, .nil => .nil
  | _, _, .cons (a := kv) (b := x) r b => by
    unfold dropN withoutH
    rw [List.filter_cons, List.filter_cons]
    by_cases h : kv.1 = k
    · have h2 : x.1 = nk (dS k) := by rw [r.2.1, h]
      rw [if_neg (by simpa using h), if_neg (by simpa using h2)]
      exact drop_paired D b
    · have h2 : ¬ x.1 = nk (dS k) := fun z => h (D.nk (r.2.1.symm.trans z))
      rw [if_pos (by simpa using h), if_pos (by simpa using h2)]
      exact .cons r (drop_paired D b)
end
/-! ### rules -/
section
variable {α : Type} [DecidableEq α] {X : Cx} {P : Program} {w : World} {K : PySem.W.Frag} {dS : α → PyData}
theorem Paired.len {α β : Type} {F : α → β → Prop} : ∀ {xs : List α} {ys : List β}, Paired F xs ys → xs.length = ys.length
  | _, _, .nil => rfl
  | _, _, .cons _ b => by rw [List.length_cons, List.length_cons, Paired.len b]
theorem valueAt_pairs (k : NestedKey) : ∀ xs : List (NestedKey × Addr × Value), (valueAt (pairsH xs) k).isSome = (atKey xs k).isSome
  | [] => rfl
  | x :: r => by
    have ih := valueAt_pairs k r
    unfold valueAt atKey pairsH at *
    rw [List.map_cons, List.find?_cons, List.find?_cons]
    by_cases h : x.1 = k
    · rw [decide_eq_true h]
      rfl
    · rw [decide_eq_false h]
      exact ih
def rInN (P : Program) (w : World) (K : PySem.W.Frag) (dS : α → PyData) : R2 := fun x y H Q => ∃ (d a : Addr) (kvs : List (α × V)) (k : α), x = .ref a ∧ y = .ref d ∧ DN P w K dS H d kvs ∧ Dt K H (.ref a) (dS k) ∧ Q (.bl (atN kvs k).isSome) H
def rNinN (P : Program) (w : World) (K : PySem.W.Frag) (dS : α → PyData) : R2 := fun x y H Q => ∃ (d a : Addr) (kvs : List (α × V)) (k : α), x = .ref a ∧ y = .ref d ∧ DN P w K dS H d kvs ∧ Dt K H (.ref a) (dS k) ∧ Q (.bl (!(atN kvs k).isSome)) H
theorem roomN {A : Around} (hu : A.units + 65 < cLine) : (nestedKind P w).room A.in1 := by
  show A.units + 1 + 8 < cLine
  omega
theorem op_inN (D : KeyD dS) (hu : X.A.units + 65 < cLine) : OpR X (compareOp .In) (rInN X.prog X.w X.K dS) := by
  intro pins s σ H x y v u Q I rx ry h
  obtain ⟨d, a, kvs, k, rfl, rfl, hd, hk, q⟩ := h
  cases rx
  cases ry
  obtain ⟨xs, hD, pr, ns, _⟩ := hd.heap D I
  refine wpAny_in_heap (roomN hu) (D.is I hk) ns hD ?_
  exact ⟨_, H, I.tok _, by rw [atN_isSome D k pr]; rfl, q⟩
theorem op_ninN (D : KeyD dS) (hu : X.A.units + 65 < cLine) : OpR X (compareOp .NotIn) (rNinN X.prog X.w X.K dS) := by
  intro pins s σ H x y v u Q I rx ry h
  obtain ⟨d, a, kvs, k, rfl, rfl, hd, hk, q⟩ := h
  cases rx
  cases ry
  obtain ⟨xs, hD, pr, ns, _⟩ := hd.heap D I
  refine notIn_keyed (knd := nestedKind X.prog X.w) (roomN hu) (D.is I hk) ns ⟨xs, hD, rfl⟩ ?_
  exact ⟨_, H, I.tok _, by rw [valueAt_pairs, atN_isSome D k pr]; rfl, q⟩
def rIxN (P : Program) (w : World) (K : PySem.W.Frag) (dS : α → PyData) : R2 := fun x y H Q => ∃ (d a : Addr) (kvs : List (α × V)) (k : α) (v : V), x = .ref d ∧ y = .ref a ∧ DN P w K dS H d kvs ∧ Dt K H (.ref a) (dS k) ∧ atN kvs k = some v ∧ Q v H
theorem ix_N (D : KeyD dS) (hu : X.A.units + 65 < cLine) : IxR X (rIxN X.prog X.w X.K dS) := by
  intro value slice pins s σ H x y v u Q I rx ry h hs
  obtain ⟨d, a, kvs, k, z, rfl, rfl, hd, hk, hv, q⟩ := h
  cases rx
  cases ry
  obtain ⟨xs, hD, pr, ns, _⟩ := hd.heap D I
  obtain ⟨o, es, ep, ho, hex, _⟩ := id hD
  rcases at_paired D k pr with ⟨e, f⟩ | ⟨v', p, u, e, f, r⟩
  · rw [hv] at e; cases e
  · rw [hv] at e
    cases e
    refine subscriptTail_builtinR (x := u) ⟨o, ho, hex.1⟩ F.slot_dict_getitem.lookup ?_ hs
    refine wpAny_getItem_heap (roomN hu) (D.is I hk) hD f ?_
    exact ⟨rfl, _, H, I.tok _, r, q⟩
def rSetN (P : Program) (w : World) (K : PySem.W.Frag) (dS : α → PyData) : TSet := fun o i v H Q => ∃ (d a : Addr) (kvs : List (α × V)) (k : α), o = .ref d ∧ i = .ref a ∧ DN P w K dS H d kvs ∧ Dt K H (.ref a) (dS k) ∧ kvs.length ≤ 100000 ∧ ∀ H', Fr [d] H H' → Tu H H' → DN P w K dS H' d (putN kvs k v) → Q H'
/-- behind a change -/
theorem DN.write {pins : List (Addr × Obj)} {σ : L2.St} {H : Hp} {s : Shared} {h' : Heap} {d : Addr} {kvs kvs' : List (α × V)} {xs' : List (NestedKey × Addr × Value)} {t' : Nat} (I : Inv X pins σ H s) (hd : DN X.prog X.w X.K dS H d kvs) (ns : (d == sysModules) = false) (m : Mut (H d)) (hD : h'.DictOfH (nestedKind X.prog X.w) d xs') (sb : Heap.SameBut d s.heap h') (pr : Paired (RkN X.K H dS) kvs' xs') :
    ∃ H', Inv X pins σ H' { s with heap := h', toks := t' } ∧ Fr [d] H H' ∧ Tu H H' ∧ DN X.prog X.w X.K dS H' d kvs' := by
  obtain ⟨o, es, ep, ho, hex, hda, hl, hi, hn⟩ := hD
  have t := Tu.dn hd (atO d o)
  refine ⟨upd H d (atO d o), I.write m (.inl rfl) (fun b u hb hu => ?_) ⟨o, ho⟩ ⟨ho, ⟨o, ho⟩, fun h1 h2 e f => f _ e⟩, Fr.mut (by simp), t, .inr ⟨xs', o, upd_same, ns, hex, ⟨es, ep, hda, hl⟩, Paired.imp (fun _ _ => RkN.mono t) pr, hn⟩⟩
  rw [sb.2 b hb]
  exact hu
theorem set_N (D : KeyD dS) (hu : X.A.units + 65 < cLine) : PSet X (rSetN X.prog X.w X.K dS) := by
  intro pins s σ H o i v ov iv u Q I ro ri rv h
  obtain ⟨d, a, kvs, k, rfl, rfl, hd, hk, n, q⟩ := h
  cases ro
  cases ri
  obtain ⟨xs, hD, pr, ns, m⟩ := hd.heap D I
  refine wpAny_setItem_heap (roomN hu) (D.is I hk) hD (fun h' hD' sb => ?_) (by rw [← Paired.len pr]; exact Nat.le_trans n (by decide))
  obtain ⟨H', I', f, t, d'⟩ := DN.write I hd ns m hD' sb (put_paired D hk rv pr)
  exact ⟨H', I', q H' f t d'⟩
def dictN (P : Program) (w : World) (K : PySem.W.Frag) (dS : α → PyData) : V → Hp → Prop := fun x H => ∃ (d : Addr) (kvs : List (α × V)), x = .ref d ∧ DN P w K dS H d kvs
theorem ty_N (D : KeyD dS) : TyOk X "dict" (dictN X.prog X.w X.K dS) := by
  intro pins σ H s x v I rx h
  obtain ⟨d, kvs, rfl, hd⟩ := h
  cases rx
  obtain ⟨xs, ⟨o, es, ep, ho, hex, _⟩, _⟩ := hd.heap D I
  refine ⟨⟨o, ho, hex.1⟩, fun a e => ?_⟩
  cases e
  exact ⟨o, ho, hex.2.1⟩
def rPopN (P : Program) (w : World) (K : PySem.W.Frag) (dS : α → PyData) : V → List V → Hp → VK → Prop := fun x vs H Q => ∃ (d a : Addr) (kvs : List (α × V)) (k : α) (v : V), x = .ref d ∧ vs = [.ref a] ∧ DN P w K dS H d kvs ∧ Dt K H (.ref a) (dS k) ∧ kvs.length ≤ 100000 ∧ atN kvs k = some v ∧ ∀ H', Fr [d] H H' → Tu H H' → DN P w K dS H' d (dropN kvs k) → Q v H'
theorem mt_popN (D : KeyD dS) (hu : X.A.units + 65 < cLine) : MtR X "dict.pop" (rPopN X.prog X.w X.K dS) := by
  intro pins s σ H x vs v us Q I rx rvs h
  obtain ⟨d, a, kvs, k, z, rfl, rfl, hd, hk, n, hv, q⟩ := h
  cases rx
  obtain ⟨_, _, ra, rn, rfl⟩ : ∃ u us', RelV (.ref a) u ∧ Vals [] us' ∧ us = u :: us' := by
    cases rvs with
    | cons r t => exact ⟨_, _, r, t, rfl⟩
  cases ra
  cases rn
  obtain ⟨xs, hD, pr, ns, m⟩ := hd.heap D I
  obtain ⟨o, es, ep, ho, hex, _⟩ := id hD
  rcases at_paired D k pr with ⟨e, f⟩ | ⟨v', p, u, e, f, r⟩
  · rw [hv] at e; cases e
  · rw [hv] at e
    cases e
    refine call_meetsIn F.slot_dict_pop ⟨o, ho, hex.1⟩ F.entry_dict_pop (F.args_dict_pop_2 _ _) (meetsH_dict_pop (nestedKind X.prog X.w) d a ns [] (.inl rfl)) ?_
    refine ⟨roomN hu, nk (dS k), xs, D.is I hk, hD, by rw [← Paired.len pr]; exact Nat.le_trans n (by decide), fun p' e' h' hD' sb => ?_, fun e' => ?_⟩
    · rw [f] at e'
      cases e'
      obtain ⟨H', I', f', t, d'⟩ := DN.write I hd ns m hD' sb (drop_paired D pr)
      exact ⟨_, H', I', r, q H' f' t d'⟩
    · rw [f] at e'
      cases e'
theorem get_size {h : Heap} {u : Obj} (e : h.get? h.objs.size = some u) : False := by
  unfold Heap.get? at e
  rw [Array.getElem?_eq_none (Nat.le_refl _)] at e
  cases e
theorem Paired.get {α β : Type} {F : α → β → Prop} : ∀ {xs : List α} {ys : List β}, Paired F xs ys → ∀ {i : Nat} {y : β}, ys[i]? = some y → ∃ x, xs[i]? = some x ∧ F x y
  | _, _, .nil, i, y, h => by simp at h
  | _, _, .cons a b, 0, y, h => by
    simp at h
    subst h
    exact ⟨_, rfl, a⟩
  | _, _, .cons a b, i + 1, y, h => by
    obtain ⟨x, h1, h2⟩ := Paired.get b (i := i) (by simpa using h)
    exact ⟨x, by simpa using h1, h2⟩
def rItemsN (P : Program) (w : World) (K : PySem.W.Frag) (dS : α → PyData) : V → List V → Hp → VK → Prop := fun x vs H Q => ∃ (d : Addr) (kvs : List (α × V)), x = .ref d ∧ vs = [] ∧ DN P w K dS H d kvs ∧ ∀ p, H p = none → Q (.ref p) (upd H p (DX.itemsO p d))
theorem mt_itemsN (D : KeyD dS) : MtR X "dict.items" (rItemsN X.prog X.w X.K dS) := by
  intro pins s σ H x vs v us Q I rx rvs h
  obtain ⟨d, kvs, rfl, rfl, hd, q⟩ := h
  cases rx
  cases rvs
  obtain ⟨xs, ⟨o, es, ep, ho, hex, hda, _⟩, _, ns, _⟩ := hd.heap D I
  refine call_meetsIn F.slot_dict_items ⟨o, ho, hex.1⟩ F.entry_dict_items (F.args_dict_items_1 _) (meets_dict_items_raw d ns) ⟨⟨es, ep, o, ho, hex, hda⟩, ?_⟩
  have hp := I.fresh
  have hg : Heap.get? (Heap.push s.heap { cls := Value.type "dict_items", data := Data.fields #[Value.ref d] }) s.heap.objs.size = some { cls := Value.type "dict_items", data := Data.fields #[Value.ref d] } := Heap.get?_push_size _ rfl
  refine ⟨.ref _, _, I.laid (a := s.heap.objs.size) (o := DX.itemsO s.heap.objs.size d) (fun b u hb => ?_) (Nat.le_refl _) (DX.itemsO_ok hg), rfl, q _ hp⟩
  rw [Heap.get?_push_ne]
  · exact hb
  · rintro rfl
    exact get_size hb
/-- the turns over its items -/
def ItN (d : Addr) (o : Obj) (ks : List (Addr × V)) : It where
  go i H := H d = some (atO d o) ∧ i < ks.length
  yld i H x H' := ∃ T b v, ks[i]? = some (b, v) ∧ x = .ref T ∧ H T = none ∧ H' = upd H T (.tup [.ref b, v])
  stop i H := H d = some (atO d o) ∧ i = ks.length
theorem turn_itemsN {elts : List Expr} {kk : Nat} {tpos : Pos} {d it : Addr} {o : Obj} {es : Array DictEntry} {ep : Nat} {ks : List (Addr × V)} (hex : o.ExactDict) (hda : o.data = .dict es ep) (hk : Paired (fun (k : Addr × V) (e : DictEntry) => e.key = .ref k.1 ∧ RelV k.2 e.val) ks es.toList) :
    Turn P w K (.Tuple elts kk tpos) (ItN d o ks) [it] it fun i h => ∃ ok ov, IsItemIter h it d i es.size ep ok ov where
  mem := by simp
  obj := fun i h t b hb => by
    obtain ⟨ok, ov, e⟩ := t
    rw [List.mem_singleton.mp hb]
    exact ⟨_, e, fun v z => by cases z⟩
  keep := fun i h h' t k => by
    obtain ⟨ok, ov, e⟩ := t
    exact ⟨ok, ov, k it (by simp) _ e⟩
  item := by
    rintro X rfl rfl rfl hc i pins s σ H E I fp t ⟨hd, hi⟩
    obtain ⟨ho, _⟩ := I.hok d _ hd
    have hne : d ≠ it := by
      rintro rfl
      rw [(fp d (by simp)).1] at hd
      cases hd
    have wk := WalksT.rawItems (prog := X.prog) (w := X.w) (A := X.A) (I.ok.hd hc) it d hne es ep
    have sz : ks.length = es.size := by rw [Paired.len hk, Array.length_toList]
    refine wk.item i s _ E (by omega) ⟨t, o, ho, hex, hda⟩ fun T vals h' tk pt hT tup mid kp => ⟨_, rfl, ?_⟩
    obtain ⟨hi2, rfl⟩ := pt
    have hTn := wk.apart i T h' mid
    refine wk.go elts kk tpos i T _ _ E mid fun h2 st kp2 => ?_
    have hb : ∃ b v, ks[i]? = some (b, v) ∧ es[i].key = .ref b ∧ RelV v es[i].val := by
      obtain ⟨x, h1, h2, h3⟩ := Paired.get hk (i := i) (y := es[i]) (by rw [Array.getElem?_toList, Array.getElem?_eq_getElem hi2])
      exact ⟨x.1, x.2, h1, h2, h3⟩
    obtain ⟨b, v, hks, hkey, hv⟩ := hb
    obtain ⟨ob, hob, hc1, n, hc2⟩ := tup
    have hob2 := kp2 T ob hTn hob
    refine ⟨.ref T, upd H T (.tup [.ref b, v]), I.turnedNew (ch := [it]) (fun a u ha hu => kp2 a u ha (kp a u ha hu)) fp hT ⟨by exact Nat.le_of_ble_eq_true rfl, [es[i].key, es[i].val], .cons (by rw [hkey]; rfl) (.cons hv .nil), ob, hob2, hc1, n, hc2⟩, rfl, ⟨T, b, v, hks, rfl, ?_, rfl⟩, st.1, fun b' hb' => ?_⟩
    · exact HOk.fresh I.hok hT
    · rw [List.mem_singleton.mp hb', upd_ne (by rintro rfl; exact hTn (by simp))]
      exact (fp it (by simp)).1
  done := by
    rintro X rfl rfl rfl hc i pins s σ H E I fp t ⟨hd, hi⟩
    obtain ⟨ho, _⟩ := I.hok d _ hd
    have hne : d ≠ it := by
      rintro rfl
      rw [(fp d (by simp)).1] at hd
      cases hd
    have wk := WalksT.rawItems (prog := X.prog) (w := X.w) (A := X.A) (I.ok.hd hc) it d hne es ep
    have sz : ks.length = es.size := by rw [Paired.len hk, Array.length_toList]
    rw [hi, sz] at t
    exact wk.done s _ E ⟨t, o, ho, hex, hda⟩ fun h' tk kp => ⟨rfl, I.turnedL (ch := [it]) kp fp⟩
  self := by
    have z := (turn_items (P := P) (w := w) (K := K) (d := d) (o := o) (kvs := List.replicate es.size (Sum.inl 0, V.non)) (elts := elts) (kk := kk) (tpos := tpos) it hda).self
    rw [List.length_replicate] at z
    exact z
/-- what is asked of the dict and of what follows -/
def ITEMS (P : Program) (w : World) (K : PySem.W.Frag) (dS : α → PyData) (R : It → Hp → Prop) (x : V) (H1 : Hp) : Prop := dictN P w K dS x H1 ∧ rItemsN P w K dS x [] H1 fun v H' => ∃ (p d : Addr) (kvs : List (α × V)), v = .ref p ∧ H' p = some (DX.itemsO p d) ∧ DN P w K dS H' d kvs ∧
  ∀ H2 o ks, Fr [d] H' H2 → Tu H' H2 → H2 d = some (atO d o) → Paired (fun (kv : α × V) (k : Addr × V) => Dt K H2 (.ref k.1) (dS kv.1) ∧ k.2 = kv.2) kvs ks → R (ItN d o ks) H2
theorem ITEMS.of {R : It → Hp → Prop} {H1 : Hp} {d : Addr} {kvs : List (α × V)} (hd : DN P w K dS H1 d kvs) (k : ∀ H2 o ks, Fr [d] H1 H2 → Tu H1 H2 → H2 d = some (atO d o) → Paired (fun (kv : α × V) (k : Addr × V) => Dt K H2 (.ref k.1) (dS kv.1) ∧ k.2 = kv.2) kvs ks → R (ItN d o ks) H2) : ITEMS P w K dS R (.ref d) H1 :=
  ⟨⟨d, kvs, rfl, hd⟩, d, kvs, rfl, rfl, hd, fun p hp => ⟨p, d, kvs, rfl, upd_same, hd.fr0 (Fr.new hp), fun H2 o ks f t h1 h2 => k H2 o ks (Fr.trans (Fr.new hp) f) ((Tu.new hp).trans t) h1 h2⟩⟩
def iItemsN (P : Program) (w : World) (K : PySem.W.Frag) (dS : α → PyData) (te : TE) : TI := fun σ H R => te σ H fun x H1 => ITEMS P w K dS R x H1
theorem w_iItemsN {σ : L2.St} {H : Hp} {te : TE} {R : It → Hp → Prop} (q : te σ H fun x H1 => ITEMS P w K dS R x H1) : iItemsN P w K dS te σ H R := q
theorem ks_of {K : PySem.W.Frag} {H : Hp} : ∀ {kvs : List (α × V)} {xs : List (NestedKey × Addr × Value)}, Paired (RkN K H dS) kvs xs → ∃ ks : List (Addr × V), Paired (fun (kv : α × V) (k : Addr × V) => Dt K H (.ref k.1) (dS kv.1) ∧ k.2 = kv.2) kvs ks ∧ Paired (fun (k : Addr × V) (e : DictEntry) => e.key = .ref k.1 ∧ RelV k.2 e.val) ks (xs.map (entryOfKey (nestedKind P w)))
  | _, _, .nil => ⟨[], .nil, .nil⟩
  | _, _, .cons (a := kv) (b := x) r b => by
    obtain ⟨ks, h1, h2⟩ := ks_of b
    exact ⟨(x.2.1, kv.2) :: ks, .cons ⟨r.1, rfl⟩ h1, .cons ⟨rfl, r.2.2⟩ h2⟩
theorem pi_itemsN {e : Expr} {te : TE} {apos cpos : Pos} {elts : List Expr} {kk : Nat} {tpos : Pos} (D : KeyD dS) (hP : X.prog = P) (hw : X.w = w) (hK : X.K = K) (he : PE X e te) (hb : attributeBase e "items" X.env (eval e X.env) = eval e X.env := by rfl) (hl : (apos.endLine == cpos.line) = true := by rfl) :
    PI X (.Tuple elts kk tpos) (.Call (.Attribute e "items" apos) [] [] cpos) (iItemsN P w K dS te) := by
  subst hP hw hK
  have P1 : PE X (.Call (.Attribute e "items" apos) [] [] cpos) (tMG0 (dictN X.prog X.w X.K dS) (rItemsN X.prog X.w X.K dS) te) := pe_mG0 (ty_N D) F.plainAttrs_dict F.slot_dict_items F.type_dict_items (mt_itemsN D) he hb hl
  refine ⟨fun pins s σ H R I q => ?_⟩
  refine wpAny_mono (P1.run pins s σ H _ I q) ?_ fun _ _ z => z
  · rintro v s1 ⟨v', H1, I1, rv, p, d, kvs, rfl, hp, hd, k⟩
    cases rv
    have hv : Heap.IsItemsView s1.heap p d := (I1.hok p _ hp).1
    obtain ⟨xs, ⟨o, es, ep, ho, hex, hda, hl, hi, hn⟩, pr, ns, m⟩ := hd.heap D I1
    have raw : Heap.DictRaw s1.heap d es ep := ⟨o, ho, hex, hda⟩
    refine wpAny_pyIter_items_raw hv raw ?_
    have t := Tu.dn hd (atO d o)
    have I2 : Inv X pins σ (upd H1 d (atO d o)) { s1 with toks := s1.toks } := I1.write m (.inl rfl) (fun b u hb hu => hu) ⟨o, ho⟩ ⟨ho, ⟨o, ho⟩, fun h1 h2 e f => f _ e⟩
    obtain ⟨ks, k1, k2⟩ := ks_of (P := X.prog) (w := X.w) (Paired.imp (fun _ _ => RkN.mono t) pr)
    rw [← hl] at k2
    have hfr : (upd H1 d (atO d o)) s1.heap.objs.size = none := by
      have := I2.fresh
      exact this
    refine ⟨s1.heap.objs.size, [s1.heap.objs.size], _, ItN d o ks, upd H1 d (atO d o), rfl, I2.turnedL (ch := []) (fun b u _ hb => ?_) (fun b hb => by simp at hb), turn_itemsN (es := es) (ep := ep) hex hda k2, ⟨_, _, Heap.get?_push_size _ rfl⟩, fun b hb => ?_, k _ o ks (Fr.mut (by simp)) t upd_same k1⟩
    · rw [Heap.get?_push_ne]
      · exact hb
      · rintro rfl
        exact get_size hb
    · rw [List.mem_singleton.mp hb]
      exact I2.fpOk (Nat.le_refl _) hfr
end
/-- a comprehension over items -/
theorem LC_N {α : Type} {K : PySem.W.Frag} {dS : α → PyData} {d D : Addr} {o : Obj} {kvs : List (α × V)} {ks : List (Addr × V)} {H : Hp} {ws : List Nat} {σ : L2.St} {tg : TG} {tt : TT} {te : TE} {Q : VK} (f : α × V → Bool) (g : α × V → PyData)
    (hd : H d = some (atO d o)) (hk : Paired (fun (kv : α × V) (k : Addr × V) => Dt K H (.ref k.1) (dS kv.1) ∧ k.2 = kv.2) kvs ks) (lc : kvs.length ≤ 100000) (hD : H D = none)
    (hs : ∀ (kv : α × V) (b T : Addr) (H' : Hp) (KEEP : VK) (DROP : Hp → Prop), kv ∈ kvs → Fr [] H H' → SqT K H' T [.ref b, kv.2] → Dt K H' (.ref b) (dS kv.1) → (f kv = true → ∀ y H4, Fr [] H' H4 → Dt K H4 y (g kv) → KEEP y H4) → (f kv = false → ∀ H4, Fr [] H' H4 → DROP H4) →
      tg (.ref T) (wipe σ ws) H' fun σ2 H2 => wipe σ2 ws = wipe σ ws ∧ tt σ2 H2 fun k H3 => if k = true then te σ2 H3 KEEP else DROP H3)
    (k : ∀ D H', H D = none → Fr [] H H' → Lq K H' D ((kvs.filter f).map g) → Q (.ref D) H') :
    LC (ItN d o ks) tg tt te ws σ D Q (upd H D (.lst [])) := by
  have lk : kvs.length = ks.length := Paired.len hk
  refine ⟨fun i m H' => m = ks.length - i ∧ i ≤ ks.length ∧ Fr [] H H' ∧ Lq K H' D (((kvs.take i).filter f).map g), ⟨_, rfl, Nat.zero_le _, Fr.new hD, [], upd_same, .nil⟩, ?_⟩
  rintro i m H' ⟨rfl, hi, f', L⟩
  have hd' := f' _ _ hd (by simp)
  by_cases hlt : i < ks.length
  · refine .inr ⟨⟨hd', hlt⟩, fun H2 => Fr [] H H2 ∧ Lq K H2 D (((kvs.take (i + 1)).filter f).map g), fun H2 z => ⟨ks.length - (i + 1), by omega, rfl, hlt, z⟩, fun x H2 y => ?_⟩
    obtain ⟨T, b, v, hks, rfl, hT, rfl⟩ := y
    obtain ⟨kv, hkv, hb, hv⟩ := Paired.get hk hks
    have hv : v = kv.2 := hv
    subst hv
    have fT : Fr [] H' (upd H' T (.tup [.ref b, kv.2])) := Fr.new hT
    have L2 := L.fr0 fT
    obtain ⟨ys, hys, dys⟩ := L2
    have ly : ys.length ≤ i := by
      rw [dys.length, List.length_map]
      refine Nat.le_trans (List.length_filter_le _ _) ?_
      rw [List.length_take]
      omega
    refine hs kv b T _ _ _ (List.mem_of_getElem? hkv) (f'.trans fT) (.inl (.inl upd_same)) (hb.mono (f'.trans fT).tu) (fun hf y H4 f4 dy => ?_) (fun hf H4 f4 => ?_)
    · have e3 := f4 _ _ hys (by simp)
      refine ⟨ys, e3, Nat.lt_of_le_of_lt (show ys.length ≤ 100000 by omega) (by decide), Fr.new_mut hD (((f'.trans fT).trans f4).mono (by simp) |>.trans (Fr.mut (by simp))), _, upd_same, ?_⟩
      rw [take_filt hkv, hf, List.map_append]
      exact ((dys.mono f4.tu).append (.cons dy .nil)).mono (Tu.mut e3)
    · refine ⟨(f'.trans fT).trans f4, ?_⟩
      rw [take_filt hkv, hf]
      show Lq K H4 D ((List.filter f (kvs.take i) ++ []).map g)
      rw [List.append_nil]
      exact Lq.fr0 ⟨ys, hys, dys⟩ f4
  · have z : i = ks.length := by omega
    subst z
    refine .inl ⟨⟨hd', rfl⟩, ?_⟩
    rw [← lk, List.take_length] at L
    exact k D H' hD f' L
/-! ### the same, told for the places where one stands -/
section
variable {α : Type} [DecidableEq α] {X : Cx} {P : Program} {w : World} {K : PySem.W.Frag} {dS : α → PyData}
theorem op_inNU (D : KeyD dS) (hP : X.prog = P) (hw : X.w = w) (hK : X.K = K) (hu : X.A.units + 65 < cLine) : OpR X (compareOp .In) (rInN P w K dS) := by subst hP hw hK; exact op_inN D hu
theorem op_ninNU (D : KeyD dS) (hP : X.prog = P) (hw : X.w = w) (hK : X.K = K) (hu : X.A.units + 65 < cLine) : OpR X (compareOp .NotIn) (rNinN P w K dS) := by subst hP hw hK; exact op_ninN D hu
theorem ix_NU (D : KeyD dS) (hP : X.prog = P) (hw : X.w = w) (hK : X.K = K) (hu : X.A.units + 65 < cLine) : IxR X (rIxN P w K dS) := by subst hP hw hK; exact ix_N D hu
theorem set_NU (D : KeyD dS) (hP : X.prog = P) (hw : X.w = w) (hK : X.K = K) (hu : X.A.units + 65 < cLine) : PSet X (rSetN P w K dS) := by subst hP hw hK; exact set_N D hu
theorem ty_NU (D : KeyD dS) (hP : X.prog = P) (hw : X.w = w) (hK : X.K = K) : TyOk X "dict" (dictN P w K dS) := by subst hP hw hK; exact ty_N D
theorem mt_popNU (D : KeyD dS) (hP : X.prog = P) (hw : X.w = w) (hK : X.K = K) (hu : X.A.units + 65 < cLine) : MtR X "dict.pop" (rPopN P w K dS) := by subst hP hw hK; exact mt_popN D hu
variable {H : Hp} {Q : VK} {a d : Addr} {kvs : List (α × V)} {k : α}
theorem w_inN (hd : DN P w K dS H d kvs) (hk : Dt K H (.ref a) (dS k)) (q : Q (.bl (atN kvs k).isSome) H) : rInN P w K dS (.ref a) (.ref d) H Q := ⟨d, a, kvs, k, rfl, rfl, hd, hk, q⟩
theorem w_ninN (hd : DN P w K dS H d kvs) (hk : Dt K H (.ref a) (dS k)) (q : Q (.bl (!(atN kvs k).isSome)) H) : rNinN P w K dS (.ref a) (.ref d) H Q := ⟨d, a, kvs, k, rfl, rfl, hd, hk, q⟩
theorem w_ixN {v : V} (hd : DN P w K dS H d kvs) (hk : Dt K H (.ref a) (dS k)) (hv : atN kvs k = some v) (q : Q v H) : rIxN P w K dS (.ref d) (.ref a) H Q := ⟨d, a, kvs, k, v, rfl, rfl, hd, hk, hv, q⟩
theorem w_setN {v : V} {Q : Hp → Prop} (hd : DN P w K dS H d kvs) (hk : Dt K H (.ref a) (dS k)) (n : kvs.length ≤ 100000) (q : ∀ H', Fr [d] H H' → Tu H H' → DN P w K dS H' d (putN kvs k v) → Q H') : rSetN P w K dS (.ref d) (.ref a) v H Q := ⟨d, a, kvs, k, rfl, rfl, hd, hk, n, q⟩
theorem w_popN {v : V} (hd : DN P w K dS H d kvs) (hk : Dt K H (.ref a) (dS k)) (n : kvs.length ≤ 100000) (hv : atN kvs k = some v) (q : ∀ H', Fr [d] H H' → Tu H H' → DN P w K dS H' d (dropN kvs k) → Q v H') : rPopN P w K dS (.ref d) [.ref a] H Q := ⟨d, a, kvs, k, v, rfl, rfl, hd, hk, n, hv, q⟩
theorem DN.dict (hd : DN P w K dS H d kvs) : dictN P w K dS (.ref d) H := ⟨d, kvs, rfl, hd⟩
theorem w_mG {σ : L2.St} {ty : V → Hp → Prop} {rm : V → List V → Hp → VK → Prop} {ta : TE} {tr : TA} (q : ta σ H fun x H1 => ty x H1 ∧ tr σ H1 fun xs H2 => rm x xs H2 Q) : tMG ty rm ta tr σ H Q := q
end
/-! ### isinstance(x, (a, b)) -/
section
variable {K : PySem.W.Frag} {H : Hp} {Q : VK}
theorem kit_two {t a b : String} {r s : Bool} (h1 : kitB t a = some r) (h2 : kitB t b = some s) : PySem.W.kitAny K (.type t) [.type a, .type b] = some (r || s) := by
  have e1 := kit_ty (K := K) h1
  have e2 := kit_ty (K := K) h2
  simp only [PySem.W.kitAny, e1, e2]
  cases r <;> cases s <;> rfl
theorem call_isiTU {X : Cx} (hK : X.K = K) : CallR X (.builtin "isinstance") (rIsiT K) := by subst hK; exact call_isiT
theorem w_isiT {x : V} {tp : Addr} {t a b : String} {r s : Bool} (h : H tp = some (.tup [.ty a, .ty b])) (ty : TyX K H x (.type t)) (h1 : kitB t a = some r) (h2 : kitB t b = some s) (q : Q (.bl (r || s)) H) : rIsiT K [x, .ref tp] H Q :=
  ⟨x, tp, [.ty a, .ty b], .type t, [.type a, .type b], r || s, rfl, h, .cons (.ty a) (.cons (.ty b) .nil), ty, kit_two h1 h2, q⟩
/-- the type's name of plain data -/
def tyn : PyData → String
  | .none => "NoneType"
  | .bool _ => "bool"
  | .int _ => "int"
  | .str _ => "str"
  | .tuple _ => "tuple"
  | .list _ => "list"
  | _ => "dict"
theorem Dg.ty {v : V} {d : PyData} (h : Dg K H v d) : TyX K H v (.type (tyn d)) := by
  cases h with
  | non => exact .base .non
  | bl b => exact .base (.bl _)
  | int i => exact .base (.int _)
  | str x => exact .base (.str _)
  | tup s _ => exact ty_T s
  | lst s _ => exact ty_L s
  | dct h => exact .base (.dK h)
end
end U

/-! any plain data, away from one list that changes (the tape) -/
namespace U
open PySem PySem.Spec PyProof.Rows L2
section
variable {K : PySem.W.Frag} {H H' : Hp}
mutual
theorem Dg.dp : ∀ {v : V} {d : PyData}, Dg K H v d → d.canLay0 = true → Dp K H v d
  | _, _, .non, _ => .non
  | _, _, .bl b, _ => .bl b
  | _, _, .int i, _ => .int i
  | _, _, .str x, _ => .str x
  | _, _, .tup s a, h => .tup s (DgAll.dp a h)
  | _, _, .lst s a, h => .lst s (DgAll.dp a h)
  | _, _, .dct _, h => by cases h
theorem DgAll.dp : ∀ {vs : List V} {ds : List PyData}, DgAll K H vs ds → PyData.canLayAll0 ds = true → DpAll K H vs ds
  | _, _, .nil, _ => .nil
  | _, _, .cons a b, h => by
    have z := Bool.and_eq_true_iff.mp h
    exact .cons (Dg.dp a z.1) (DgAll.dp b z.2)
end
theorem DgAll.take : ∀ {vs : List V} {ds : List PyData} (n : Nat), DgAll K H vs ds → DgAll K H (vs.take n) (ds.take n)
  | _, _, 0, _ => by simpa using DgAll.nil
  | _, _, _ + 1, .nil => by simpa using DgAll.nil
  | _, _, n + 1, .cons a b => by simpa using DgAll.cons a (DgAll.take n b)
theorem DgAll.drop : ∀ {vs : List V} {ds : List PyData} (n : Nat), DgAll K H vs ds → DgAll K H (vs.drop n) (ds.drop n)
  | _, _, 0, h => by simpa using h
  | _, _, _ + 1, .nil => by simpa using DgAll.nil
  | _, _, n + 1, .cons a b => by simpa using DgAll.drop n b
theorem DgAll.append : ∀ {vs us : List V} {ds es : List PyData}, DgAll K H vs ds → DgAll K H us es → DgAll K H (vs ++ us) (ds ++ es)
  | _, _, _, _, .nil, h => h
  | _, _, _, _, .cons a b, h => .cons a (DgAll.append b h)
theorem DgAll.cut {vs : List V} {ds : List PyData} (h : DgAll K H vs ds) (lo hi : Option Int) : DgAll K H (cutV vs lo hi) (cutA ds lo hi) := by
  unfold cutV cutA
  rw [DgAll.length h]
  exact DgAll.take _ (DgAll.drop _ h)
theorem DgAll.at : ∀ {vs : List V} {ds : List PyData} {i : Nat} {d : PyData}, DgAll K H vs ds → ds[i]? = some d → ∃ v, vs[i]? = some v ∧ Dg K H v d
  | _, _, i, _, .nil, h => by simp at h
  | _, _, 0, d, .cons a b, h => by
    simp at h
    subst h
    exact ⟨_, rfl, a⟩
  | _, _, i + 1, d, .cons a b, h => by
    obtain ⟨v, h1, h2⟩ := DgAll.at (i := i) b (by simpa using h)
    exact ⟨v, by simpa using h1, h2⟩
theorem Dg.tuple {v : V} {ds : List PyData} (h : Dg K H v (.tuple ds)) : ∃ p vs, v = .ref p ∧ SqT K H p vs ∧ DgAll K H vs ds := by
  cases h with
  | tup s a => exact ⟨_, _, rfl, s, a⟩
theorem Dg.list {v : V} {ds : List PyData} (h : Dg K H v (.list ds)) : ∃ p vs, v = .ref p ∧ SqL K H p vs ∧ DgAll K H vs ds := by
  cases h with
  | lst s a => exact ⟨_, _, rfl, s, a⟩
theorem Dg.isi {v : V} {d : PyData} {n : String} {b : Bool} {Q : VK} (h : Dg K H v d) (e : kitB (tyn d) n = some b) (q : Q (.bl b) H) : rIsi K [v, .ty n] H Q := w_isi h.ty (kit_ty e) q
end
/-- what is a tuple, list, whole number or truth, truth, text -/
def isTup : PyData → Bool | .tuple _ => true | _ => false
def isLst : PyData → Bool | .list _ => true | _ => false
def isInt : PyData → Bool | .int _ => true | .bool _ => true | _ => false
def isBool : PyData → Bool | .bool _ => true | _ => false
def isStr : PyData → Bool | .str _ => true | _ => false
section
variable {K : PySem.W.Frag} {H : Hp} {v : V} {d : PyData} {Q : VK}
theorem Dg.isTup (h : Dg K H v d) (q : Q (.bl (isTup d)) H) : rIsi K [v, .ty "tuple"] H Q := by
  cases h with
  | non => exact Dg.isi (d := .none) (by constructor <;> assumption) (by exact (by decide +kernel : kitB "NoneType" "tuple" = some false)) q
  | bl b => exact Dg.isi (d := .bool b) (by constructor <;> assumption) (by exact (by decide +kernel : kitB "bool" "tuple" = some false)) q
  | int i => exact Dg.isi (d := .int i) (by constructor <;> assumption) (by exact (by decide +kernel : kitB "int" "tuple" = some false)) q
  | str x => exact Dg.isi (d := .str x) (by constructor <;> assumption) (by exact (by decide +kernel : kitB "str" "tuple" = some false)) q
  | tup _ _ => exact Dg.isi (d := .tuple _) (by constructor <;> assumption) (by exact (by decide +kernel : kitB "tuple" "tuple" = some true)) q
  | lst _ _ => exact Dg.isi (d := .list _) (by constructor <;> assumption) (by exact (by decide +kernel : kitB "list" "tuple" = some false)) q
  | dct _ => exact Dg.isi (d := .dict []) (by constructor <;> assumption) (by exact (by decide +kernel : kitB "dict" "tuple" = some false)) q
theorem Dg.isLst (h : Dg K H v d) (q : Q (.bl (isLst d)) H) : rIsi K [v, .ty "list"] H Q := by
  cases h with
  | non => exact Dg.isi (d := .none) (by constructor <;> assumption) (by exact (by decide +kernel : kitB "NoneType" "list" = some false)) q
  | bl b => exact Dg.isi (d := .bool b) (by constructor <;> assumption) (by exact (by decide +kernel : kitB "bool" "list" = some false)) q
  | int i => exact Dg.isi (d := .int i) (by constructor <;> assumption) (by exact (by decide +kernel : kitB "int" "list" = some false)) q
  | str x => exact Dg.isi (d := .str x) (by constructor <;> assumption) (by exact (by decide +kernel : kitB "str" "list" = some false)) q
  | tup _ _ => exact Dg.isi (d := .tuple _) (by constructor <;> assumption) (by exact (by decide +kernel : kitB "tuple" "list" = some false)) q
  | lst _ _ => exact Dg.isi (d := .list _) (by constructor <;> assumption) (by exact (by decide +kernel : kitB "list" "list" = some true)) q
  | dct _ => exact Dg.isi (d := .dict []) (by constructor <;> assumption) (by exact (by decide +kernel : kitB "dict" "list" = some false)) q
theorem Dg.isInt (h : Dg K H v d) (q : Q (.bl (isInt d)) H) : rIsi K [v, .ty "int"] H Q := by
  cases h with
  | non => exact Dg.isi (d := .none) (by constructor <;> assumption) (by exact (by decide +kernel : kitB "NoneType" "int" = some false)) q
  | bl b => exact Dg.isi (d := .bool b) (by constructor <;> assumption) (by exact (by decide +kernel : kitB "bool" "int" = some true)) q
  | int i => exact Dg.isi (d := .int i) (by constructor <;> assumption) (by exact (by decide +kernel : kitB "int" "int" = some true)) q
  | str x => exact Dg.isi (d := .str x) (by constructor <;> assumption) (by exact (by decide +kernel : kitB "str" "int" = some false)) q
  | tup _ _ => exact Dg.isi (d := .tuple _) (by constructor <;> assumption) (by exact (by decide +kernel : kitB "tuple" "int" = some false)) q
  | lst _ _ => exact Dg.isi (d := .list _) (by constructor <;> assumption) (by exact (by decide +kernel : kitB "list" "int" = some false)) q
  | dct _ => exact Dg.isi (d := .dict []) (by constructor <;> assumption) (by exact (by decide +kernel : kitB "dict" "int" = some false)) q
theorem Dg.isBool (h : Dg K H v d) (q : Q (.bl (isBool d)) H) : rIsi K [v, .ty "bool"] H Q := by
  cases h with
  | non => exact Dg.isi (d := .none) (by constructor <;> assumption) (by exact (by decide +kernel : kitB "NoneType" "bool" = some false)) q
  | bl b => exact Dg.isi (d := .bool b) (by constructor <;> assumption) (by exact (by decide +kernel : kitB "bool" "bool" = some true)) q
  | int i => exact Dg.isi (d := .int i) (by constructor <;> assumption) (by exact (by decide +kernel : kitB "int" "bool" = some false)) q
  | str x => exact Dg.isi (d := .str x) (by constructor <;> assumption) (by exact (by decide +kernel : kitB "str" "bool" = some false)) q
  | tup _ _ => exact Dg.isi (d := .tuple _) (by constructor <;> assumption) (by exact (by decide +kernel : kitB "tuple" "bool" = some false)) q
  | lst _ _ => exact Dg.isi (d := .list _) (by constructor <;> assumption) (by exact (by decide +kernel : kitB "list" "bool" = some false)) q
  | dct _ => exact Dg.isi (d := .dict []) (by constructor <;> assumption) (by exact (by decide +kernel : kitB "dict" "bool" = some false)) q
theorem Dg.isStr (h : Dg K H v d) (q : Q (.bl (isStr d)) H) : rIsi K [v, .ty "str"] H Q := by
  cases h with
  | non => exact Dg.isi (d := .none) (by constructor <;> assumption) (by exact (by decide +kernel : kitB "NoneType" "str" = some false)) q
  | bl b => exact Dg.isi (d := .bool b) (by constructor <;> assumption) (by exact (by decide +kernel : kitB "bool" "str" = some false)) q
  | int i => exact Dg.isi (d := .int i) (by constructor <;> assumption) (by exact (by decide +kernel : kitB "int" "str" = some false)) q
  | str x => exact Dg.isi (d := .str x) (by constructor <;> assumption) (by exact (by decide +kernel : kitB "str" "str" = some true)) q
  | tup _ _ => exact Dg.isi (d := .tuple _) (by constructor <;> assumption) (by exact (by decide +kernel : kitB "tuple" "str" = some false)) q
  | lst _ _ => exact Dg.isi (d := .list _) (by constructor <;> assumption) (by exact (by decide +kernel : kitB "list" "str" = some false)) q
  | dct _ => exact Dg.isi (d := .dict []) (by constructor <;> assumption) (by exact (by decide +kernel : kitB "dict" "str" = some false)) q
/-- text or no text, against a text -/
def Fine (d : PyData) : Prop := (∃ es, d = .dict es) ∨ SeqAt.shaped d = true
def isStrB (z : Str) : PyData → Bool
  | .str y => decide (y = z)
  | _ => false
theorem Dg.neStr {z : Str} (D : Dg K H v d) (f : Fine d) (oz : PyData.strOk z = true) (q : Q (.bl (!isStrB z d)) H) : rNeU K v (.str z) H Q := by
  rcases f with ⟨es, rfl⟩ | f
  · cases D with
    | dct s => exact w_neDS s q
  · have hl := SeqAt.canLay_of_shaped f
    have sz : SeqAt.shaped (.str z) = true := lay_shaped ⟨oz, Nat.zero_le _⟩
    cases D with
    | str x => exact w_neS q
    | dct s => cases hl
    | non => exact w_neD .non (.str z) f sz q
    | bl b => exact w_neD (.bl b) (.str z) f sz q
    | int i => exact w_neD (.int i) (.str z) f sz q
    | tup s a => exact w_neD (.tup s (DgAll.dp a hl)) (.str z) f sz q
    | lst s a => exact w_neD (.lst s (DgAll.dp a hl)) (.str z) f sz q
theorem Dg.eqStr {z : Str} (D : Dg K H v d) (f : Fine d) (oz : PyData.strOk z = true) (q : Q (.bl (isStrB z d)) H) : rEqU K v (.str z) H Q := by
  rcases f with ⟨es, rfl⟩ | f
  · cases D with
    | dct s => exact w_eqDS s q
  · have hl := SeqAt.canLay_of_shaped f
    have sz : SeqAt.shaped (.str z) = true := lay_shaped ⟨oz, Nat.zero_le _⟩
    cases D with
    | str x => exact w_eqS q
    | dct s => cases hl
    | non => exact w_eqD .non (.str z) f sz q
    | bl b => exact w_eqD (.bl b) (.str z) f sz q
    | int i => exact w_eqD (.int i) (.str z) f sz q
    | tup s a => exact w_eqD (.tup s (DgAll.dp a hl)) (.str z) f sz q
    | lst s a => exact w_eqD (.lst s (DgAll.dp a hl)) (.str z) f sz q
end
/-! ### the heap without t -/
def wo (H : Hp) (t : Addr) : Hp := fun a => if a = t then none else H a
section
variable {K : PySem.W.Frag} {H H' : Hp} {t : Addr}
theorem wo_fr : Fr [] (wo H t) H := fun a o e _ => by
  unfold wo at e
  by_cases h : a = t
  · rw [if_pos h] at e; cases e
  · rw [if_neg h] at e; exact e
theorem Fr.wo (f : Fr [t] H H') : Fr [] (wo H t) (wo H' t) := fun a o e _ => by
  unfold U.wo at *
  by_cases h : a = t
  · rw [if_pos h] at e; cases e
  · rw [if_neg h] at e
    rw [if_neg h]
    exact f a o e (by simpa using h)
theorem wo_upd {p : Addr} {o : HO} (n : p ≠ t) : wo (upd H p o) t = upd (wo H t) p o := by
  funext a
  unfold wo
  by_cases h : a = t
  · subst h
    rw [if_pos rfl, upd_ne n.symm, if_pos rfl]
  · rw [if_neg h]
    by_cases e : a = p
    · subst e
      rw [upd_same, upd_same]
    · rw [upd_ne e, upd_ne e, if_neg h]
theorem wo_at {p : Addr} (n : p ≠ t) : wo H t p = H p := by unfold wo; rw [if_neg n]
theorem wo_tu {xs : List V} (h : H t = some (.lst xs)) : Tu H (wo H t) := fun a ys =>
  ⟨fun e => by rw [wo_at (by rintro rfl; rw [h] at e; cases e)]; exact e, fun o e => by rw [wo_at (by rintro rfl; rw [h] at e; cases e)]; exact e⟩
/-- data away from t -/
def Dx (K : PySem.W.Frag) (H : Hp) (t : Addr) (v : V) (d : PyData) : Prop := Dg K (wo H t) v d
theorem Dx.dg {v : V} {d : PyData} (h : Dx K H t v d) : Dg K H v d := Dg.fr wo_fr h
theorem Dx.fr {v : V} {d : PyData} (h : Dx K H t v d) (f : Fr [t] H H') : Dx K H' t v d := Dg.fr f.wo h
theorem Fr.to1 (f : Fr [] H H') : Fr [t] H H' := f.mono (by simp)
theorem Dx.fr0 {v : V} {d : PyData} (h : Dx K H t v d) (f : Fr [] H H') : Dx K H' t v d := h.fr f.to1
theorem Dt.dx {v : V} {d : PyData} {xs : List V} (ht : H t = some (.lst xs)) (h : Dt K H v d) : Dx K H t v d := (h.mono (wo_tu ht)).dg
def DxAll (K : PySem.W.Frag) (H : Hp) (t : Addr) (vs : List V) (ds : List PyData) : Prop := DgAll K (wo H t) vs ds
theorem DxAll.dg {vs : List V} {ds : List PyData} (h : DxAll K H t vs ds) : DgAll K H vs ds := DgAll.fr wo_fr h
theorem DxAll.fr {vs : List V} {ds : List PyData} (h : DxAll K H t vs ds) (f : Fr [t] H H') : DxAll K H' t vs ds := DgAll.fr f.wo h
theorem mkTx {xs : List V} {ds : List PyData} {Q : VK} (ht : ∃ o, H t = some o) (d : DgAll K (wo H t) xs ds) (q : ∀ p H', H p = none → Fr [] H H' → Dx K H' t (.ref p) (.tuple ds) → Q (.ref p) H') (n : xs.length ≤ 1000 := by exact Nat.le_of_ble_eq_true rfl) : MkT xs Q H :=
  ⟨Nat.le_trans n (by decide), fun p hp => q p _ hp (Fr.new hp) (by
    have np : p ≠ t := by
      rintro rfl
      obtain ⟨o, e⟩ := ht
      rw [hp] at e
      cases e
    unfold Dx
    rw [wo_upd np]
    exact .tup (.inl (.inl upd_same)) (DgAll.fr (Fr.new (by rw [wo_at np]; exact hp)) d))⟩
/-- a list of such, that may change -/
def Lx (K : PySem.W.Frag) (H : Hp) (t q : Addr) (ds : List PyData) : Prop := ∃ vs, H q = some (.lst vs) ∧ q ≠ t ∧ DgAll K (wo H t) vs ds
theorem Lx.fr {q : Addr} {ds : List PyData} (h : Lx K H t q ds) (f : Fr [t] H H') : Lx K H' t q ds := by
  obtain ⟨vs, e, n, a⟩ := h
  exact ⟨vs, f _ _ e (by simpa using n), n, DgAll.fr f.wo a⟩
theorem Lx.fr0 {q : Addr} {ds : List PyData} (h : Lx K H t q ds) (f : Fr [] H H') : Lx K H' t q ds := h.fr f.to1
theorem Lx.dx {q : Addr} {ds : List PyData} (h : Lx K H t q ds) : Dx K H t (.ref q) (.list ds) := by
  obtain ⟨vs, e, n, a⟩ := h
  exact .lst (.inl (.inl (by rw [wo_at n]; exact e))) a
theorem Lq.lx {q : Addr} {ds : List PyData} {xs : List V} (ht : H t = some (.lst xs)) (n : q ≠ t) (h : Lq K H q ds) : Lx K H t q ds := by
  obtain ⟨vs, e, a⟩ := h
  exact ⟨vs, e, n, (a.mono (wo_tu ht)).dg⟩
theorem lx_new {p : Addr} {vs : List V} {ds : List PyData} (ht : ∃ o, H t = some o) (hp : H p = none) (a : DgAll K (wo H t) vs ds) : Lx K (upd H p (.lst vs)) t p ds := by
  have np : p ≠ t := by
    rintro rfl
    obtain ⟨o, e⟩ := ht
    rw [hp] at e
    cases e
  refine ⟨vs, upd_same, np, ?_⟩
  rw [wo_upd np]
  exact DgAll.fr (Fr.new (by rw [wo_at np]; exact hp)) a
theorem mkLx {xs : List V} {ds : List PyData} {Q : VK} (ht : ∃ o, H t = some o) (d : DgAll K (wo H t) xs ds) (q : ∀ p H', H p = none → Fr [] H H' → Lx K H' t p ds → Q (.ref p) H') (n : xs.length ≤ 1000 := by exact Nat.le_of_ble_eq_true rfl) : MkL xs Q H :=
  ⟨Nat.le_trans n (by decide), fun p hp => q p _ hp (Fr.new hp) (lx_new ht hp d)⟩
theorem Lx.len {q : Addr} {ds : List PyData} {Q : VK} (h : Lx K H t q ds) (k : Q (.int ds.length) H) : rLenU K [.ref q] H Q := by
  obtain ⟨vs, e, _, a⟩ := h
  rw [← DgAll.length a] at k
  exact w_lenL (SqL.of e) k
theorem Lx.slice {q : Addr} {ds : List PyData} {lo hi : Option Int} {Q : VK} (ht : ∃ o, H t = some o) (h : Lx K H t q ds) (k : ∀ p H', H p = none → Fr [] H H' → Lx K H' t p (cutA ds lo hi) → Q (.ref p) H') : rSlU K (.ref q) lo hi H Q := by
  obtain ⟨vs, e, _, a⟩ := h
  exact w_slL (SqL.of e) fun p hp => k p _ hp (Fr.new hp) (lx_new ht hp (DgAll.cut a lo hi))
theorem Lx.cat {q r : Addr} {ds es : List PyData} {Q : VK} (ht : ∃ o, H t = some o) (h : Lx K H t q ds) (h' : Lx K H t r es) (n : ds.length + es.length ≤ 100000) (k : ∀ p H', H p = none → Fr [] H H' → Lx K H' t p (ds ++ es) → Q (.ref p) H') : rAddU K (.ref q) (.ref r) H Q := by
  obtain ⟨vs, e, _, a⟩ := h
  obtain ⟨us, e', _, a'⟩ := h'
  exact w_addL e e' (by rw [DgAll.length a, DgAll.length a']; omega) fun p hp => k p _ hp (Fr.new hp) (lx_new ht hp (DgAll.append a a'))
theorem Lx.at {q : Addr} {ds : List PyData} {i : Int} {Q : VK} (h : Lx K H t q ds) (h0 : 0 ≤ i) (h1 : i < ds.length) (k : ∀ v d, Dx K H t v d → ds[i.toNat]? = some d → Q v H) : rIx K (.ref q) (.int i) H Q := by
  obtain ⟨vs, e, _, a⟩ := h
  have ek : i = ((i.toNat : Nat) : Int) := by omega
  have hk : i.toNat < ds.length := by omega
  obtain ⟨v, hv, dv⟩ := DgAll.at a (List.getElem?_eq_getElem hk)
  refine w_ixL (SqL.of e) ?_ (k v _ dv (List.getElem?_eq_getElem hk))
  rw [ek]
  exact atI_nat hv
theorem Lx.list {q : Addr} {ds : List PyData} {Q : VK} (ht : ∃ o, H t = some o) (h : Lx K H t q ds) (k : ∀ p H', H p = none → Fr [] H H' → Lx K H' t p ds → Q (.ref p) H') : rListU K [.ref q] H Q := by
  obtain ⟨vs, e, _, a⟩ := h
  exact w_listL (SqL.of e) fun p hp => k p _ hp (Fr.new hp) (lx_new ht hp a)
/-! tuples -/
theorem sqT_wo {p : Addr} {vs : List V} (s : SqT K (wo H t) p vs) : SqT K H p vs := wo_fr.seqT s (by simp)
theorem Dx.tuple {v : V} {ds : List PyData} (h : Dx K H t v (.tuple ds)) : ∃ p vs, v = .ref p ∧ SqT K H p vs ∧ DgAll K (wo H t) vs ds := by
  obtain ⟨p, vs, e, s, a⟩ := Dg.tuple h
  exact ⟨p, vs, e, sqT_wo s, a⟩
theorem tx_new {p : Addr} {vs : List V} {ds : List PyData} (ht : ∃ o, H t = some o) (hp : H p = none) (a : DgAll K (wo H t) vs ds) : Dx K (upd H p (.tup vs)) t (.ref p) (.tuple ds) := by
  have np : p ≠ t := by
    rintro rfl
    obtain ⟨o, e⟩ := ht
    rw [hp] at e
    cases e
  unfold Dx
  rw [wo_upd np]
  exact .tup (.inl (.inl upd_same)) (DgAll.fr (Fr.new (by rw [wo_at np]; exact hp)) a)
theorem Dx.slice {v : V} {ds : List PyData} {lo hi : Option Int} {Q : VK} (ht : ∃ o, H t = some o) (h : Dx K H t v (.tuple ds)) (q : ∀ p H', Fr [] H H' → Dx K H' t (.ref p) (.tuple (cutA ds lo hi)) → Q (.ref p) H') : rSlU K v lo hi H Q := by
  obtain ⟨p, vs, rfl, s, a⟩ := h.tuple
  refine .inl (.inr ⟨p, vs, rfl, s, fun z => ?_, fun _ p' hp => ?_⟩)
  · rw [DgAll.length a] at z
    refine q p H Fr.refl ?_
    rw [cutA_full z]
    exact h
  · exact q p' _ (Fr.new hp) (tx_new ht hp (DgAll.cut a lo hi))
theorem Dx.cat {v u : V} {ds es : List PyData} {Q : VK} (ht : ∃ o, H t = some o) (h : Dx K H t v (.tuple ds)) (h' : Dx K H t u (.tuple es)) (n : ds.length + es.length ≤ 1000) (q : ∀ p H', Fr [] H H' → Dx K H' t (.ref p) (.tuple (ds ++ es)) → Q (.ref p) H') : rAddU K v u H Q := by
  obtain ⟨p, vs, rfl, s, a⟩ := h.tuple
  obtain ⟨p', us, rfl, s', a'⟩ := h'.tuple
  refine .inr (.inl ⟨p, p', vs, us, rfl, rfl, s, s', Nat.le_trans (show _ ≤ 1000 by rw [DgAll.length a, DgAll.length a']; exact n) (by decide), fun z => ?_, fun _ z => ?_, fun _ _ r hr => ?_⟩)
  · subst z
    cases a
    exact q p' H Fr.refl h'
  · subst z
    cases a'
    refine q p H Fr.refl ?_
    rw [List.append_nil]
    exact h
  · exact q r _ (Fr.new hr) (tx_new ht hr (DgAll.append a a'))
theorem Dx.ix {v : V} {ds : List PyData} {i : Int} {Q : VK} (h : Dx K H t v (.tuple ds)) (h0 : 0 ≤ i) (h1 : i < ds.length) (k : ∀ u d, Dx K H t u d → ds[i.toNat]? = some d → Q u H) : rIx K v (.int i) H Q := by
  obtain ⟨p, vs, rfl, s, a⟩ := h.tuple
  have ek : i = ((i.toNat : Nat) : Int) := by omega
  have hk : i.toNat < ds.length := by omega
  obtain ⟨u, hu, du⟩ := DgAll.at a (List.getElem?_eq_getElem hk)
  refine w_ixT s ?_ (k u _ du (List.getElem?_eq_getElem hk))
  rw [ek]
  exact atI_nat hu
theorem Dx.len {v : V} {ds : List PyData} {Q : VK} (h : Dx K H t v (.tuple ds)) (k : Q (.int ds.length) H) : rLenU K [v] H Q := by
  obtain ⟨p, vs, rfl, s, a⟩ := h.tuple
  rw [← DgAll.length a] at k
  exact w_lenT s k
theorem Dx.list {v : V} {ds : List PyData} {Q : VK} (ht : ∃ o, H t = some o) (h : Dx K H t v (.tuple ds)) (k : ∀ p H', H p = none → Fr [] H H' → Lx K H' t p ds → Q (.ref p) H') : rListU K [v] H Q := by
  obtain ⟨p, vs, rfl, s, a⟩ := h.tuple
  exact w_listT s fun p hp => k p _ hp (Fr.new hp) (lx_new ht hp a)
theorem Lx.tuple' {q : Addr} {ds : List PyData} {Q : VK} (ht : ∃ o, H t = some o) (h : Lx K H t q ds) (k : ∀ p H', Fr [] H H' → Dx K H' t (.ref p) (.tuple ds) → Q (.ref p) H') : rTupleU K [.ref q] H Q := by
  obtain ⟨vs, e, _, a⟩ := h
  exact w_tupleL (SqL.of e) fun p hp => k p _ (Fr.new hp) (tx_new ht hp a)
end
/-- an empty dict away from t -/
theorem dx_dict {K : PySem.W.Frag} {H : Hp} {t p : Addr} {kvs : List (Key × V)} {es : List (PyData × PyData)} (h : H p = some (.dK kvs)) (n : p ≠ t) : Dx K H t (.ref p) (.dict es) := .dct (by rw [wo_at n]; exact h)
/-! ### str of a truth, lists of other lengths -/
section
variable {X : Cx}
def rStrU : List V → Hp → VK → Prop := fun xs H Q => (∃ i, xs = [.int i] ∧ i.natAbs.log2 < 1920 ∧ Q (.str (toString i)) H) ∨ ∃ b : Bool, xs = [.bl b] ∧ Q (.str (if b then "True" else "False")) H
theorem call_str_bl : CallR X (.type "str") (fun xs H Q => ∃ b : Bool, xs = [.bl b] ∧ Q (.str (if b then "True" else "False")) H) := by
  intro pins s σ H xs us Q I rx h
  obtain ⟨b, rfl, q⟩ := h
  cases rx with
  | cons r t =>
  cases t
  cases r
  exact P.str_of_bool ⟨.str (if b then "True" else "False"), H, I.tok _, ⟨_, rfl⟩, q⟩
theorem call_strU : CallR X (.type "str") rStrU := call_str_int.or call_str_bl
def rNeLen : R2 := fun x y H Q => ∃ l m xs ys, x = .ref l ∧ y = .ref m ∧ H l = some (.lst xs) ∧ H m = some (.lst ys) ∧ xs.length ≠ ys.length ∧ Q (.bl true) H
theorem op_neLen (hu : X.A.units + 64 < cLine) : OpR X (compareOp .NotEq) rNeLen := by
  intro pins s σ H x y v u Q I rx ry h
  obtain ⟨l, m, xs, ys, rfl, rfl, hl, hm, n, q⟩ := h
  cases rx
  cases ry
  obtain ⟨_, its, c, v1, g1⟩ := I.hok l _ hl
  obtain ⟨_, its2, c2, v2, g2⟩ := I.hok m _ hm
  refine SeqAt.RcNeAt.lists_lengths ⟨_, g1, rfl, _, rfl⟩ ⟨_, g2, rfl, _, rfl⟩ ?_ (by omega) _ _ _ _ ⟨.bl true, H, I, rfl, q⟩
  rw [List.size_toArray, List.size_toArray, ← Paired.len v1, ← Paired.len v2]
  simpa using n
def rNeUL (K : PySem.W.Frag) : R2 := r2or (rNeU K) rNeLen
theorem op_neUL {K} (hK : X.K = K) (hu : X.A.units + 64 < cLine) : OpR X (compareOp .NotEq) (rNeUL K) := (op_neU hK hu).or (op_neLen hu)
end
/-! ### comprehensions of truths over any data -/
section
variable {K : PySem.W.Frag}
theorem LCB {q : Addr} {H : Hp} {vs : List V} {ds : List PyData} {j : Nat} {ws : List Nat} {σ : L2.St} {te : TE} {Q : VK} (s : SqL K H q vs) (a : DgAll K H vs ds) (ld : ds.length ≤ 100000) (f : PyData → Bool)
    (hw : ∀ x, wipe ((wipe σ ws).set j (some x)) ws = wipe σ ws)
    (he : ∀ d x H', d ∈ ds → Fr [] H H' → Dg K H' x d → ∀ Q : VK, (∀ H2, Fr [] H' H2 → Q (.bl (f d)) H2) → te ((wipe σ ws).set j (some x)) H' Q)
    (k : ∀ D H', H D = none → Fr [] H H' → Lq K H' D ((ds.map f).map PyData.bool) → Q (.ref D) H') :
    ∃ a', V.ref q = .ref a' ∧ (∃ ys, SqL K H a' ys) ∧ ∀ D, H D = none → LC (Itl K a') (gName j) tYes te ws σ D Q (upd H D (.lst [])) := by
  have lu := DgAll.length a
  refine LC_L s fun D hD => LC_by (a := q) (xs := vs) (fun i H' => Fr [] H H' ∧ Lq K H' D (((ds.take i).map f).map PyData.bool)) ⟨Fr.new hD, [], upd_same, .nil⟩ (fun i H' _ h => h.1.seqL s (by simp)) ?_ ?_
  · rintro i x H' hx ⟨f', ys, hys, dys⟩
    obtain ⟨d, h1, h2⟩ := DgAll.get (a.fr f') hx
    have hi : i < vs.length := (List.getElem?_eq_some_iff.mp hx).1
    have ly : ys.length ≤ i := by
      rw [dys.length, List.length_map, List.length_map, List.length_take]
      omega
    refine ⟨hw x, w_yes (iteT ?_)⟩
    refine he d x H' (List.mem_of_getElem? h1) f' h2 _ fun H2 f2 => ?_
    have e3 := f2 _ _ hys (by simp)
    refine ⟨ys, e3, Nat.lt_of_le_of_lt (show ys.length ≤ 100000 by omega) (by decide), Fr.new_mut hD ((f'.trans f2).mono (by simp) |>.trans (Fr.mut (by simp))), _, upd_same, ?_⟩
    rw [List.take_add_one, h1, List.map_append, List.map_append]
    exact ((dys.mono f2.tu).append (.cons (.bl _) .nil)).mono (Tu.mut e3)
  · rintro H' ⟨f', L⟩
    rw [lu, List.take_length] at L
    exact k D H' hD f' L
theorem LCBT {q : Addr} {H : Hp} {vs : List V} {ds : List PyData} {j : Nat} {ws : List Nat} {σ : L2.St} {te : TE} {Q : VK} (s : SqT K H q vs) (a : DgAll K H vs ds) (ld : ds.length ≤ 100000) (f : PyData → Bool)
    (hw : ∀ x, wipe ((wipe σ ws).set j (some x)) ws = wipe σ ws)
    (he : ∀ d x H', d ∈ ds → Fr [] H H' → Dg K H' x d → ∀ Q : VK, (∀ H2, Fr [] H' H2 → Q (.bl (f d)) H2) → te ((wipe σ ws).set j (some x)) H' Q)
    (k : ∀ D H', H D = none → Fr [] H H' → Lq K H' D ((ds.map f).map PyData.bool) → Q (.ref D) H') :
    ∃ a', V.ref q = .ref a' ∧ (∃ ys, SqT K H a' ys) ∧ ∀ D, H D = none → LC (Itt K a') (gName j) tYes te ws σ D Q (upd H D (.lst [])) := by
  have lu := DgAll.length a
  refine LC_T s fun D hD => ?_
  refine lc_it (walk_tup (K := K) (a := q) (xs := vs)) (fun i H' => Fr [] H H' ∧ Lq K H' D (((ds.take i).map f).map PyData.bool)) ⟨Fr.new hD, [], upd_same, .nil⟩ (fun i H' _ h => h.1.seqT s (by simp)) ?_ ?_
  · rintro i x H0' H' hi ⟨f', ys, hys, dys⟩ ⟨rfl, hx⟩
    obtain ⟨d, h1, h2⟩ := DgAll.get (a.fr f') hx
    have ly : ys.length ≤ i := by
      rw [dys.length, List.length_map, List.length_map, List.length_take]
      omega
    refine ⟨hw x, w_yes (iteT ?_)⟩
    refine he d x _ (List.mem_of_getElem? h1) f' h2 _ fun H2 f2 => ?_
    have e3 := f2 _ _ hys (by simp)
    refine ⟨ys, e3, Nat.lt_of_le_of_lt (show ys.length ≤ 100000 by omega) (by decide), Fr.new_mut hD ((f'.trans f2).mono (by simp) |>.trans (Fr.mut (by simp))), _, upd_same, ?_⟩
    rw [List.take_add_one, h1, List.map_append, List.map_append]
    exact ((dys.mono f2.tu).append (.cons (.bl _) .nil)).mono (Tu.mut e3)
  · rintro H' ⟨f', L⟩
    rw [lu, List.take_length] at L
    exact k D H' hD f' L
end
end U

/-! sorted(a dict), sorted(its items), sorted(a list), of data -/
namespace U
open PySem PySem.Spec PyProof.Rows L2
mutual
/-- tuples all the way down -/
def kdb : PyData → Bool
  | .none => true
  | .bool _ => true
  | .int _ => true
  | .str _ => true
  | .tuple ds => kdbAll ds
  | _ => false
def kdbAll : List PyData → Bool
  | [] => true
  | d :: r => kdb d && kdbAll r
end
mutual
theorem Dt.kdb {K : PySem.W.Frag} {H : Hp} : ∀ {v : V} {d : PyData}, Dt K H v d → U.kdb d = true
  | _, _, .non => rfl
  | _, _, .bl _ => rfl
  | _, _, .int _ => rfl
  | _, _, .str _ => rfl
  | _, _, .tup _ a => by rw [U.kdb]; exact DtAll.kdb a
theorem DtAll.kdb {K : PySem.W.Frag} {H : Hp} : ∀ {vs : List V} {ds : List PyData}, DtAll K H vs ds → kdbAll ds = true
  | _, _, .nil => rfl
  | _, _, .cons a b => by rw [kdbAll, Dt.kdb a, DtAll.kdb b]; rfl
end
mutual
theorem reads_nil {h : Heap} : ∀ {u : Value} {d : PyData} {as : List Addr}, Reads h u d as → kdb d = true → as = []
  | _, _, _, .none, _ => rfl
  | _, _, _, .bool b, _ => rfl
  | _, _, _, .int i t, _ => rfl
  | _, _, _, .str x t, _ => rfl
  | _, _, _, .list _ _ _ _, k => by simp [kdb] at k
  | _, _, _, .tuple g c e a, k => readsAll_nil a (by simpa [kdb] using k)
  | _, _, _, .dict _ _ _ _ _, k => by simp [kdb] at k
theorem readsAll_nil {h : Heap} : ∀ {us : List Value} {ds : List PyData} {as : List Addr}, ReadsAll h us ds as → kdbAll ds = true → as = []
  | _, _, _, .nil, _ => rfl
  | _, _, _, .cons a b, k => by
    simp only [kdbAll, Bool.and_eq_true] at k
    rw [reads_nil a k.1, readsAll_nil b k.2]
    rfl
end
theorem each_of {α β : Type} {F : α → β → Prop} : ∀ {xs : List α} {ys : List β}, Paired F xs ys → PySem.W.EachIs F xs ys
  | _, _, .nil => .nil
  | _, _, .cons a b => .cons a (each_of b)
theorem of_each {α β : Type} {F : α → β → Prop} : ∀ {xs : List α} {ys : List β}, PySem.W.EachIs F xs ys → Paired F xs ys
  | _, _, .nil => .nil
  | _, _, .cons a b => .cons a (of_each b)
/-- a value in the heap and its data -/
def IsD (K : PySem.W.Frag) (H : Hp) {β : Type} (enc : β → PyData) (u : Value) (b : β) : Prop := ∃ v, RelV v u ∧ Dt K H v (enc b)
theorem vals_of {K : PySem.W.Frag} {H : Hp} {β : Type} {enc : β → PyData} : ∀ {us : List Value} {bs : List β}, Paired (IsD K H enc) us bs → ∃ ys, Vals ys us ∧ DtAll K H ys (bs.map enc)
  | _, _, .nil => ⟨[], .nil, .nil⟩
  | _, _, .cons ⟨v, r, d⟩ b => by
    obtain ⟨ys, h1, h2⟩ := vals_of b
    exact ⟨v :: ys, .cons r h1, .cons d h2⟩
section
variable {X : Cx} {pins : List (Addr × Obj)} {σ : L2.St} {H : Hp} {s : Shared}
theorem get_lt {h : Heap} {b : Addr} {o : Obj} (e : h.get? b = some o) : b < h.objs.size := by
  by_cases n : b < h.objs.size
  · exact n
  · exfalso
    unfold Heap.get? at e
    rw [Array.getElem?_eq_none (Nat.le_of_not_lt n)] at e
    cases e
/-- the sort of a list that was just made, all that stood stands -/
theorem sort_new {β : Type} {bs : List β} {enc : β → PyData} {us : List Value} {h' : Heap} {tk : Nat} {A : Around} {Q : Value → Shared → Prop} {E : Value → Shared → Prop} (I : Inv X pins σ H s)
    (old : ∀ (b : Addr) (o : Obj), s.heap.get? b = some o → h'.get? b = some o) (grow : s.heap.objs.size ≤ h'.objs.size)
    (h : Paired (IsD X.K H enc) us bs) (al : PySem.W.AllAlike (bs.map enc)) (so : PySem.W.Sortable (bs.map enc)) (n : bs.length ≤ 100000)
    (hu : A.units + 65 < cLine) (dp : ∀ b ∈ bs, (enc b).depth ≤ 10)
    (q : ∀ (p : Addr) (s' : Shared) (H' : Hp), H p = none → Fr [] H H' → Inv X pins σ H' s' → Lq X.K H' p ((bs.mergeSort (PySem.W.dataLe false enc)).map enc) → Q (.ref p) s') :
    wpAny (model X.prog X.w) A (call (.builtin "list.sort") [.ref h'.objs.size]) (fun _ s' => Q (.ref h'.objs.size) s') E { s with heap := h'.push { cls := .type "list", data := .seq us.toArray }, toks := tk } := by
  have hg : (h'.push { cls := .type "list", data := .seq us.toArray }).get? h'.objs.size = some (seqObj "list" us.toArray 0) := Heap.get?_push_size _ rfl
  have hp : H h'.objs.size = none := HOk.fresh I.hok grow
  have lsz : ∀ (b : Addr) (o : Obj), s.heap.get? b = some o → b ≠ h'.objs.size ∧ b < (h'.push { cls := Value.type "list", data := .seq us.toArray }).objs.size := fun b o hb => by
    have := get_lt (old b o hb)
    refine ⟨Nat.ne_of_lt this, ?_⟩
    show b < (h'.objs.push _).size
    rw [Array.size_push]
    exact Nat.lt_succ_of_lt this
  obtain ⟨xs, vx, dx⟩ := vals_of h
  have lx : xs.length = bs.length := by
    rw [Paired.len vx, Paired.len h]
  have I1 : Inv X pins σ (upd H h'.objs.size (.lst xs)) { s with heap := h'.push { cls := .type "list", data := .seq us.toArray }, toks := tk } := I.laid (fun b o hb => by
    rw [Heap.get?_push_ne _ _ _ (lsz b o hb).1]
    exact old b o hb) grow ⟨by rw [lx]; exact Nat.le_trans n (by decide), us, 0, vx, hg⟩
  refine PySem.W.list_sort_data (n := 0) (R := IsD X.K H enc) (bs := bs) (enc := enc) (vs := us) hg (each_of h) (each_of (Paired.imp (fun u b z => ?_) h)) al so (Nat.le_trans n (by decide)) (fun b hb => by have := dp b hb; omega) fun out lo eo => ?_
  · obtain ⟨v, rv, d⟩ := z
    obtain ⟨as, r⟩ := Dp.reads I1 (enc b) v u (d.mono (Tu.new hp)).dp rv
    exact ⟨as, r, by rw [reads_nil r d.kdb]; simp⟩
  · obtain ⟨ys, vy, dy⟩ := vals_of (of_each eo)
    obtain ⟨e, he⟩ := sortedHeap_at (out := out.toArray) hg
    refine q h'.objs.size _ (upd H h'.objs.size (.lst ys)) hp (Fr.new hp) (I.laid (fun b o hb => ?_) grow ⟨?_, out, e, vy, he⟩) ⟨ys, upd_same, dy.mono (Tu.new hp)⟩
    · obtain ⟨n1, n2⟩ := lsz b o hb
      rw [sortedHeap_old n1 n2, Heap.get?_push_ne _ _ _ n1]
      exact old b o hb
    · have : ys.length = out.length := Paired.len vy
      rw [this, lo]
      exact Nat.le_trans n (by decide)
end
section
variable {α : Type} [DecidableEq α] {X : Cx} {P : Program} {w : World} {K : PySem.W.Frag} {dS : α → PyData}
/-- data in a row that can be sorted: tuples, none of them empty, alike place by place -/
def Sorty (ds : List PyData) : Prop := PySem.W.AllAlike ds ∧ PySem.W.Sortable ds
def rSortKN (P : Program) (w : World) (K : PySem.W.Frag) (dS : α → PyData) : List V → Hp → VK → Prop := fun xs H Q => ∃ (d : Addr) (kvs : List (α × V)), xs = [.ref d] ∧ DN P w K dS H d kvs ∧ kvs.length ≤ 100000 ∧ Sorty ((kvs.map (·.1)).map dS) ∧
  ∀ p H', H p = none → Fr [] H H' → Lq K H' p (((kvs.map (·.1)).mergeSort (PySem.W.dataLe false dS)).map dS) → Q (.ref p) H'
theorem Paired.flip {α β : Type} {F : α → β → Prop} : ∀ {xs : List α} {ys : List β}, Paired F xs ys → Paired (fun y x => F x y) ys xs
  | _, _, .nil => .nil
  | _, _, .cons a b => .cons a (Paired.flip b)
theorem paired_at {α β : Type} {F : α → β → Prop} : ∀ {xs : List α} {ys : List β}, xs.length = ys.length → (∀ (i : Nat) (x : α) (y : β), xs[i]? = some x → ys[i]? = some y → F x y) → Paired F xs ys
  | [], [], _, _ => .nil
  | [], _ :: _, h, _ => by simp at h
  | _ :: _, [], h, _ => by simp at h
  | x :: xs, y :: ys, h, k => .cons (k 0 x y rfl rfl) (paired_at (by simpa using h) fun i a b ha hb => k (i + 1) a b (by simpa using ha) (by simpa using hb))
theorem Paired.at {α β : Type} {F : α → β → Prop} : ∀ {xs : List α} {ys : List β}, Paired F xs ys → ∀ {i : Nat} {x : α}, xs[i]? = some x → ∃ y, ys[i]? = some y ∧ F x y
  | _, _, h, i, x, hx => Paired.get (Paired.flip h) hx
theorem call_sortedKN (D : KeyD dS) (hc : X.calm = true) (hu : X.A.units + 70 < cLine) : CallR X (.builtin "sorted") (rSortKN X.prog X.w X.K dS) := by
  intro pins s σ H xs us Q I rx h
  obtain ⟨d, kvs, rfl, hd, n, so, q⟩ := h
  cases rx with
  | cons r t =>
  cases t
  cases r
  obtain ⟨ks, ⟨o, es, ep, ho, hex, hda, hl, hi, hn⟩, pr, ns, m⟩ := hd.heap D I
  have sz : es.size = kvs.length := by rw [← Array.length_toList, hl, List.length_map, Paired.len pr]
  refine Calls.call_function_entry kind_sorted plain_sorted entry_sorted (args_sorted1 _) ?_
  show wpAny _ _ (do
    let vs ← collect (.ref d)
    let l ← newList vs
    let _ ← holding [l] (call (.builtin "list.sort") [l] [])
    ret l) _ _ _
  refine wpAny_bind (PySem.W.kdu_collect (KdlSrc.rawDict (prog := X.prog) (w := X.w) (es := es) (ep := ep) ns) (I.ok.hd hc) ⟨o, ho, hex, hda⟩ (by rw [sz]; exact Nat.le_trans n (by decide)) fun h' tk acc old its => ?_)
  have la : acc.size = kvs.length := its.1.trans sz
  have hk : Paired (IsD X.K H dS) acc.toList (kvs.map (·.1)) := by
    refine paired_at (by rw [Array.length_toList, List.length_map, la]) fun i x y hx hy => ?_
    rw [Array.getElem?_toList] at hx
    obtain ⟨hi', rfl⟩ := its.2 i x hx
    rw [List.getElem?_map] at hy
    cases ek : kvs[i]? with
    | none => rw [ek] at hy; cases hy
    | some kv =>
      rw [ek] at hy
      cases hy
      obtain ⟨e, he, rk⟩ := Paired.at pr ek
      have h3 : es.toList[i]? = some (entryOfKey (nestedKind X.prog X.w) e) := by rw [hl, List.getElem?_map, he]; rfl
      rw [Array.getElem?_toList, Array.getElem?_eq_getElem hi'] at h3
      rw [Option.some.inj h3]
      exact ⟨.ref e.2.1, rfl, rk.1⟩
  have I2 := I.turnedL (ch := []) (t' := tk) (fun b o _ hb => old b o hb) (fun b hb => by simp at hb)
  refine wpAny_bind (wpAny_newList ?_ (by rw [Array.length_toList, la]; exact Nat.le_trans n (by decide)))
  refine wpAny_bind (wpAny_holding ?_)
  have hu' : X.A.in1.units + 65 < cLine := by
    show X.A.units + 1 + 65 < cLine
    omega
  refine sort_new (bs := kvs.map (·.1)) (enc := dS) (us := acc.toList) (Q := fun v s' => wpAny (model X.prog X.w) X.A.in1 (ret v) _ _ s') I2 (fun _ _ z => z) (Nat.le_refl _) hk so.1 so.2 (by rw [List.length_map]; exact n) hu' (fun b _ => Nat.le_trans (D.dp b) (by decide)) fun p s' H' np f' I' L' => ?_
  exact wpAny_of_eq rfl ⟨_, rfl, .ref p, H', I', rfl, q p H' np f' L'⟩
theorem call_sortedKNU (D : KeyD dS) (hP : X.prog = P) (hw : X.w = w) (hK : X.K = K) (hc : X.calm = true) (hu : X.A.units + 70 < cLine) : CallR X (.builtin "sorted") (rSortKN P w K dS) := by subst hP hw hK; exact call_sortedKN D hc hu
/-- sorted(a list of data) -/
def rSortL (K : PySem.W.Frag) : List V → Hp → VK → Prop := fun xs H Q => ∃ (l : Addr) (ds : List PyData), xs = [.ref l] ∧ Lq K H l ds ∧ ds.length ≤ 100000 ∧ Sorty ds ∧ (∀ d ∈ ds, d.depth ≤ 10) ∧
  ∀ p H', H p = none → Fr [] H H' → Lq K H' p (ds.mergeSort (PySem.W.dataLe false id)) → Q (.ref p) H'
/-- d.get(k, x) -/
def rGetN (P : Program) (w : World) (K : PySem.W.Frag) (dS : α → PyData) : V → List V → Hp → VK → Prop := fun x vs H Q => ∃ (d a : Addr) (kvs : List (α × V)) (k : α) (z : V), x = .ref d ∧ vs = [.ref a, z] ∧ DN P w K dS H d kvs ∧ Dt K H (.ref a) (dS k) ∧ Q ((atN kvs k).getD z) H
theorem mt_getN (D : KeyD dS) (hu : X.A.units + 65 < cLine) : MtR X "dict.get" (rGetN X.prog X.w X.K dS) := by
  intro pins s σ H x vs v us Q I rx rvs h
  obtain ⟨d, a, kvs, k, z, rfl, rfl, hd, hk, q⟩ := h
  cases rx
  cases rvs with
  | cons ra rvs =>
  cases rvs with
  | cons rz rvs =>
  cases rvs
  cases ra
  obtain ⟨xs, hD, pr, ns, m⟩ := hd.heap D I
  obtain ⟨o, es, ep, ho, hex, _⟩ := id hD
  refine call_meetsIn F.slot_dict_get ⟨o, ho, hex.1⟩ F.entry_dict_get (F.args_dict_get_3 _ _ _) (meetsH_dict_get_default (nestedKind X.prog X.w) d a ns _) ?_
  refine ⟨roomN hu, U.nk (dS k), xs, D.is I hk, hD, ?_⟩
  rcases at_paired D k pr with ⟨e, f⟩ | ⟨v', p, u, e, f, r⟩
  · rw [f]
    rw [e] at q
    exact ⟨z, H, I.tok _, rz, q⟩
  · rw [f]
    rw [e] at q
    exact ⟨v', H, I.tok _, r, q⟩
theorem mt_getNU (D : KeyD dS) (hP : X.prog = P) (hw : X.w = w) (hK : X.K = K) (hu : X.A.units + 65 < cLine) : MtR X "dict.get" (rGetN P w K dS) := by subst hP hw hK; exact mt_getN D hu
theorem w_getN {H : Hp} {Q : VK} {a d : Addr} {kvs : List (α × V)} {k : α} {z : V} (hd : DN P w K dS H d kvs) (hk : Dt K H (.ref a) (dS k)) (q : Q ((atN kvs k).getD z) H) : rGetN P w K dS (.ref d) [.ref a, z] H Q := ⟨d, a, kvs, k, z, rfl, rfl, hd, hk, q⟩
end
theorem u1 {A : Around} {k : Nat} (hr : Room k A) : A.units + 1 < cLine := by have := hr.un; omega
theorem w_dget {σ : L2.St} {H : Hp} {td ty : TE} {Q : VK} (q : td σ H fun x H1 => ty σ H1 fun y H2 => ∃ a v, x = V.ref a ∧ DGet H2 a y (some v) ∧ Q v H2) : tDGet td ty σ H Q := q
theorem pi_zipU {X : Cx} {K} {e e2 : Expr} {ta : TA} {p pos tpos : Pos} {elts : List Expr} {kk : Nat} (hK : X.K = K) (hg : Gl X "zip") (hm : X.mg "zip" = none) (ha : PA X [e, e2] ta)
    (h1 : starEach [e, e2] X.env = (false, eval e X.env) :: starEach [e2] X.env := by rfl) (h2 : ((backTo pos (starEach [e2] X.env)).any fun x => x.1) = false := by rfl) :
    PI X (.Tuple elts kk tpos) (.Call (.Name "zip" p) [e, e2] [] pos) (iZip K ta) := by subst hK; exact pi_zip hg hm ha h1 h2
theorem w_iZip {K} {σ : L2.St} {H : Hp} {ta : TA} {R : It → Hp → Prop} (q : ta σ H fun vs H1 => ∃ a b xs ys, vs = [V.ref a, V.ref b] ∧ SqL K H1 a xs ∧ SqL K H1 b ys ∧ R (Itz K a b) H1) : iZip K ta σ H R := q
end U

/-! dicts keyed by nested tuples: setdefault, walks over keys and values -/
namespace U
open PySem PySem.Spec PyProof.Rows L2
section
variable {α : Type} [DecidableEq α] {X : Cx} {P : Program} {w : World} {K : PySem.W.Frag} {dS : α → PyData}
def rSetdN (P : Program) (w : World) (K : PySem.W.Frag) (dS : α → PyData) : V → List V → Hp → VK → Prop := fun x vs H Q => ∃ (d a : Addr) (kvs : List (α × V)) (k : α) (y : V), x = .ref d ∧ vs = [.ref a, y] ∧ DN P w K dS H d kvs ∧ Dt K H (.ref a) (dS k) ∧ kvs.length ≤ 100000 ∧
  (∀ v, atN kvs k = some v → Q v H) ∧ (atN kvs k = none → ∀ H', Fr [d] H H' → Tu H H' → DN P w K dS H' d (putN kvs k y) → Q y H')
theorem mt_setdN (D : KeyD dS) (hu : X.A.units + 65 < cLine) : MtR X "dict.setdefault" (rSetdN X.prog X.w X.K dS) := by
  intro pins s σ H x vs v us Q I rx rvs h
  obtain ⟨d, a, kvs, k, y, rfl, rfl, hd, hk, n, q1, q2⟩ := h
  cases rx
  obtain ⟨_, u, ra, ry, rfl⟩ : ∃ u u', RelV (.ref a) u ∧ RelV y u' ∧ us = [u, u'] := by
    cases rvs with
    | cons r t =>
      cases t with
      | cons r2 t2 =>
        cases t2
        exact ⟨_, _, r, r2, rfl⟩
  cases ra
  obtain ⟨xs, hD, pr, ns, m⟩ := hd.heap D I
  obtain ⟨o, es, ep, ho, hex, _⟩ := id hD
  refine call_meetsIn F.slot_dict_setdefault ⟨o, ho, hex.1⟩ F.entry_dict_setdefault (F.args_dict_setdefault_3 _ _ _) (meetsH_dict_setdefault (nestedKind X.prog X.w) d a ns u) ?_
  refine ⟨roomN hu, nk (dS k), xs, D.is I hk, hD, by rw [← Paired.len pr]; exact Nat.le_trans n (by decide), fun p hp => ?_, fun hn h' hD' sb => ?_⟩
  · rcases at_paired D k pr with ⟨e, f⟩ | ⟨v', p', u', e, f, r⟩
    · rw [f] at hp; cases hp
    · rw [f] at hp
      cases hp
      exact ⟨v', H, I.tok _, r, q1 v' e⟩
  · rcases at_paired D k pr with ⟨e, f⟩ | ⟨v', p', u', e, f, r⟩
    · obtain ⟨H', I', f', t, d'⟩ := DN.write I hd ns m hD' sb (put_paired D hk ry pr)
      exact ⟨y, H', I', ry, q2 e H' f' t d'⟩
    · rw [f] at hn; cases hn
theorem mt_setdNU (D : KeyD dS) (hP : X.prog = P) (hw : X.w = w) (hK : X.K = K) (hu : X.A.units + 65 < cLine) : MtR X "dict.setdefault" (rSetdN P w K dS) := by subst hP hw hK; exact mt_setdN D hu
theorem w_setdN {H : Hp} {Q : VK} {a d : Addr} {kvs : List (α × V)} {k : α} {y : V} (hd : DN P w K dS H d kvs) (hk : Dt K H (.ref a) (dS k)) (n : kvs.length ≤ 100000) (q1 : ∀ v, atN kvs k = some v → Q v H) (q2 : atN kvs k = none → ∀ H', Fr [d] H H' → Tu H H' → DN P w K dS H' d (putN kvs k y) → Q y H') : rSetdN P w K dS (.ref d) [.ref a, y] H Q := ⟨d, a, kvs, k, y, rfl, rfl, hd, hk, n, q1, q2⟩
/-! ### values -/
def valsO (p d : Addr) : HO := .ext fun h => h.IsValuesView p d
theorem valsO_ok {H : Hp} {h : Heap} {p d : Addr} (e : h.get? p = some { cls := .type "dict_values", data := .fields #[.ref d] }) : ObjOk P w H h p (valsO p d) :=
  ⟨⟨_, e, rfl, rfl⟩, ⟨_, e⟩, fun h1 h2 x k => let ⟨o, ho, r⟩ := x; ⟨o, k o ho, r⟩⟩
def rValsN (P : Program) (w : World) (K : PySem.W.Frag) (dS : α → PyData) : V → List V → Hp → VK → Prop := fun x vs H Q => ∃ (d : Addr) (kvs : List (α × V)), x = .ref d ∧ vs = [] ∧ DN P w K dS H d kvs ∧ ∀ p, H p = none → Q (.ref p) (upd H p (valsO p d))
theorem mt_valsN (D : KeyD dS) : MtR X "dict.values" (rValsN X.prog X.w X.K dS) := by
  intro pins s σ H x vs v us Q I rx rvs h
  obtain ⟨d, kvs, rfl, rfl, hd, q⟩ := h
  cases rx
  cases rvs
  obtain ⟨xs, ⟨o, es, ep, ho, hex, hda, _⟩, _, ns, _⟩ := hd.heap D I
  refine call_meetsIn F.slot_dict_values ⟨o, ho, hex.1⟩ F.entry_dict_values (F.args_dict_values_1 _) (meets_dict_values_raw d ns) ⟨⟨es, ep, o, ho, hex, hda⟩, ?_⟩
  have hp := I.fresh
  have hg : Heap.get? (Heap.push s.heap { cls := Value.type "dict_values", data := Data.fields #[Value.ref d] }) s.heap.objs.size = some { cls := Value.type "dict_values", data := Data.fields #[Value.ref d] } := Heap.get?_push_size _ rfl
  refine ⟨.ref _, _, I.laid (a := s.heap.objs.size) (o := valsO s.heap.objs.size d) (fun b u hb => ?_) (Nat.le_refl _) (valsO_ok hg), rfl, q _ hp⟩
  rw [Heap.get?_push_ne]
  · exact hb
  · rintro rfl
    exact get_size hb
/-- the turns over its values -/
def ItV (d : Addr) (o : Obj) (vs : List V) : It where
  go i H := H d = some (atO d o) ∧ i < vs.length
  yld i H x H' := H' = H ∧ vs[i]? = some x
  stop i H := H d = some (atO d o) ∧ i = vs.length
theorem turn_valsN {tg : Expr} {d it : Addr} {o : Obj} {es : Array DictEntry} {ep : Nat} {vs : List V} (hex : o.ExactDict) (hda : o.data = .dict es ep) (hk : Paired (fun (v : V) (e : DictEntry) => RelV v e.val) vs es.toList) :
    Turn P w K tg (ItV d o vs) [it] it fun i h => h.IsValIter it d i es.size ep where
  mem := by simp
  obj := fun i h st b hb => by
    have e : b = it := by simpa using hb
    subst e
    obtain ⟨oi, e, c, dd⟩ := st
    exact ⟨oi, e, fun v z => by rw [dd] at z; cases z⟩
  keep := fun i h h' st k => st.at fun oi e => k it (by simp) oi e
  item := by
    rintro X rfl rfl rfl hc i pins s σ H E I hf st ⟨hd, hi⟩
    obtain ⟨ho, _⟩ := I.hok d _ hd
    obtain ⟨f0, f1, f2, f3, f4, f5⟩ := hf it (by simp)
    have raw : Heap.DictRaw s.heap d es ep := ⟨o, ho, hex, hda⟩
    have sz : vs.length = es.size := by rw [Paired.len hk, Array.length_toList]
    have hi2 : i < es.size := by omega
    obtain ⟨v, hv, rv⟩ := Paired.get hk (i := i) (y := es[i]) (by rw [Array.getElem?_toList, Array.getElem?_eq_getElem hi2])
    refine wpAny_pyNext_values_item_raw st raw hi2 fun h' st' sb => ?_
    have I1 : Inv X pins σ H { s with heap := h' } := I.turned (t' := s.toks) (fun b ob hb e => (sb.2 b hb).trans e) f0 f1 f3 f4 f5
    obtain ⟨oi, e, c, dd⟩ := id st'
    exact ⟨es[i].val, rfl, go_of (s := { s with heap := h' }) e c dd (by decide) ⟨v, H, I1, rv, ⟨rfl, hv⟩, st', fun b hb => (hf b hb).1⟩⟩
  done := by
    rintro X rfl rfl rfl hc i pins s σ H E I hf st ⟨hd, hi⟩
    obtain ⟨ho, _⟩ := I.hok d _ hd
    obtain ⟨f0, f1, f2, f3, f4, f5⟩ := hf it (by simp)
    have raw : Heap.DictRaw s.heap d es ep := ⟨o, ho, hex, hda⟩
    have sz : vs.length = es.size := by rw [Paired.len hk, Array.length_toList]
    exact wpAny_pyNext_values_end_raw (I.ok.hd hc) st raw (by omega) fun h' eb => ⟨rfl, I.turned (t' := s.toks) (fun b ob hb e => eb b ob hb e) f0 f1 f3 f4 f5⟩
  self := fun A i s Q E st h => wpAny_pyIter_valiter st h
theorem walk_valsN {d : Addr} {o : Obj} {vs : List V} : Walk (ItV d o vs) vs.length (fun H => H d = some (atO d o)) (fun i H x H' => H' = H ∧ vs[i]? = some x) :=
  ⟨fun _ _ hi q => ⟨q, hi⟩, fun _ q => ⟨q, rfl⟩, fun _ _ _ _ _ _ y => y⟩
def VALS (P : Program) (w : World) (K : PySem.W.Frag) (dS : α → PyData) (R : It → Hp → Prop) (x : V) (H1 : Hp) : Prop := dictN P w K dS x H1 ∧ rValsN P w K dS x [] H1 fun v H' => ∃ (p d : Addr) (kvs : List (α × V)), v = .ref p ∧ H' p = some (valsO p d) ∧ DN P w K dS H' d kvs ∧
  ∀ H2 o, Fr [d] H' H2 → Tu H' H2 → H2 d = some (atO d o) → R (ItV d o (kvs.map (·.2))) H2
theorem VALS.of {R : It → Hp → Prop} {H1 : Hp} {d : Addr} {kvs : List (α × V)} (hd : DN P w K dS H1 d kvs) (k : ∀ H2 o, Fr [d] H1 H2 → Tu H1 H2 → H2 d = some (atO d o) → R (ItV d o (kvs.map (·.2))) H2) : VALS P w K dS R (.ref d) H1 :=
  ⟨⟨d, kvs, rfl, hd⟩, d, kvs, rfl, rfl, hd, fun p hp => ⟨p, d, kvs, rfl, upd_same, hd.fr0 (Fr.new hp), fun H2 o f t h1 => k H2 o (Fr.trans (Fr.new hp) f) ((Tu.new hp).trans t) h1⟩⟩
def iValsN (P : Program) (w : World) (K : PySem.W.Frag) (dS : α → PyData) (te : TE) : TI := fun σ H R => te σ H fun x H1 => VALS P w K dS R x H1
theorem w_iValsN {σ : L2.St} {H : Hp} {te : TE} {R : It → Hp → Prop} (q : te σ H fun x H1 => VALS P w K dS R x H1) : iValsN P w K dS te σ H R := q
theorem valsN_of {H : Hp} : ∀ {kvs : List (α × V)} {xs : List (NestedKey × Addr × Value)}, Paired (RkN K H dS) kvs xs → Paired (fun (v : V) (e : DictEntry) => RelV v e.val) (kvs.map (·.2)) (xs.map (entryOfKey (nestedKind P w)))
  | _, _, .nil => .nil
  | _, _, .cons r b => .cons r.2.2 (valsN_of b)
theorem pi_valsN {e tg : Expr} {te : TE} {apos cpos : Pos} (D : KeyD dS) (hP : X.prog = P) (hw : X.w = w) (hK : X.K = K) (he : PE X e te) (hb : attributeBase e "values" X.env (eval e X.env) = eval e X.env := by rfl) (hl : (apos.endLine == cpos.line) = true := by rfl) :
    PI X tg (.Call (.Attribute e "values" apos) [] [] cpos) (iValsN P w K dS te) := by
  subst hP hw hK
  have P1 : PE X (.Call (.Attribute e "values" apos) [] [] cpos) (tMG0 (dictN X.prog X.w X.K dS) (rValsN X.prog X.w X.K dS) te) := pe_mG0 (ty_N D) F.plainAttrs_dict F.slot_dict_values F.type_dict_values (mt_valsN D) he hb hl
  refine ⟨fun pins s σ H R I q => ?_⟩
  refine wpAny_mono (P1.run pins s σ H _ I q) ?_ fun _ _ z => z
  · rintro v s1 ⟨v', H1, I1, rv, p, d, kvs, rfl, hp, hd, k⟩
    cases rv
    have hv : Heap.IsValuesView s1.heap p d := (I1.hok p _ hp).1
    obtain ⟨xs, ⟨o, es, ep, ho, hex, hda, hl, hi, hn⟩, pr, ns, m⟩ := hd.heap D I1
    have raw : Heap.DictRaw s1.heap d es ep := ⟨o, ho, hex, hda⟩
    refine wpAny_pyIter_values_raw hv raw ?_
    have t := Tu.dn hd (atO d o)
    have I2 : Inv X pins σ (upd H1 d (atO d o)) { s1 with toks := s1.toks } := I1.write m (.inl rfl) (fun b u hb hu => hu) ⟨o, ho⟩ ⟨ho, ⟨o, ho⟩, fun h1 h2 e f => f _ e⟩
    have k2 := valsN_of (P := X.prog) (w := X.w) pr
    rw [← hl] at k2
    have hfr : (upd H1 d (atO d o)) s1.heap.objs.size = none := I2.fresh
    refine ⟨s1.heap.objs.size, [s1.heap.objs.size], _, ItV d o (kvs.map (·.2)), upd H1 d (atO d o), rfl, I2.turnedL (ch := []) (fun b u _ hb => ?_) (fun b hb => by simp at hb), turn_valsN (es := es) (ep := ep) hex hda k2, ⟨_, Heap.get?_push_size _ rfl, rfl, rfl⟩, fun b hb => ?_, k _ o (Fr.mut (by simp)) t upd_same⟩
    · rw [Heap.get?_push_ne]
      · exact hb
      · rintro rfl
        exact get_size hb
    · rw [List.mem_singleton.mp hb]
      exact I2.fpOk (Nat.le_refl _) hfr
end
end U

set_option maxHeartbeats 4000000
































namespace LW
open PySem PySem.Spec PyProof.Rows L2 U
def topS (i : Nat) : Stmt := PySem.Challenge.pw_viewwood_k72_whole_works_along_drawings.main.body.getD i (.Pass ⟨0, 0, 0, 0⟩)
abbrev s_works_of : Stmt := topS 1
abbrev N_works_of : List Str := ["drawing", "found", "path", "name", "gives", "downs", "piece", "work", "number"]
abbrev p_works_of : List Str := ["drawing"]
theorem sc_works_of : FnScope N_works_of p_works_of (defScope s_works_of) := ⟨rfl, rfl, rfl, by decide +kernel, rfl, by decide +kernel, by decide +kernel⟩
abbrev s_works_due : Stmt := topS 2
abbrev N_works_due : List Str := ["old", "new", "former", "later", "due", "work"]
abbrev p_works_due : List Str := ["old", "new"]
theorem sc_works_due : FnScope N_works_due p_works_due (defScope s_works_due) := ⟨rfl, rfl, rfl, by decide +kernel, rfl, by decide +kernel, by decide +kernel⟩
abbrev s_is_whole : Stmt := topS 6
abbrev N_is_whole : List Str := ["thing"]
abbrev p_is_whole : List Str := ["thing"]
theorem sc_is_whole : FnScope N_is_whole p_is_whole (defScope s_is_whole) := ⟨rfl, rfl, rfl, by decide +kernel, rfl, by decide +kernel, by decide +kernel⟩
abbrev s_is_number : Stmt := topS 7
abbrev N_is_number : List Str := ["thing"]
abbrev p_is_number : List Str := ["thing"]
theorem sc_is_number : FnScope N_is_number p_is_number (defScope s_is_number) := ⟨rfl, rfl, rfl, by decide +kernel, rfl, by decide +kernel, by decide +kernel⟩
abbrev s_is_name : Stmt := topS 8
abbrev N_is_name : List Str := ["thing", "sign"]
abbrev p_is_name : List Str := ["thing"]
theorem sc_is_name : FnScope N_is_name p_is_name (defScope s_is_name) := ⟨rfl, rfl, rfl, by decide +kernel, rfl, by decide +kernel, by decide +kernel⟩
abbrev s_is_count : Stmt := topS 10
abbrev N_is_count : List Str := ["thing"]
abbrev p_is_count : List Str := ["thing"]
theorem sc_is_count : FnScope N_is_count p_is_count (defScope s_is_count) := ⟨rfl, rfl, rfl, by decide +kernel, rfl, by decide +kernel, by decide +kernel⟩
abbrev s_is_spot : Stmt := topS 11
abbrev N_is_spot : List Str := ["thing"]
abbrev p_is_spot : List Str := ["thing"]
theorem sc_is_spot : FnScope N_is_spot p_is_spot (defScope s_is_spot) := ⟨rfl, rfl, rfl, by decide +kernel, rfl, by decide +kernel, by decide +kernel⟩
abbrev s_is_path : Stmt := topS 12
abbrev N_is_path : List Str := ["thing", "one"]
abbrev p_is_path : List Str := ["thing"]
theorem sc_is_path : FnScope N_is_path p_is_path (defScope s_is_path) := ⟨rfl, rfl, rfl, by decide +kernel, rfl, by decide +kernel, by decide +kernel⟩
abbrev s_is_row : Stmt := topS 13
abbrev N_is_row : List Str := ["thing"]
abbrev p_is_row : List Str := ["thing"]
theorem sc_is_row : FnScope N_is_row p_is_row (defScope s_is_row) := ⟨rfl, rfl, rfl, by decide +kernel, rfl, by decide +kernel, by decide +kernel⟩
abbrev s_stands_behind : Stmt := topS 14
abbrev N_stands_behind : List Str := ["log", "now", "word", "path", "part", "name", "number", "key"]
abbrev p_stands_behind : List Str := ["log"]
theorem sc_stands_behind : FnScope N_stands_behind p_stands_behind (defScope s_stands_behind) := ⟨rfl, rfl, rfl, by decide +kernel, rfl, by decide +kernel, by decide +kernel⟩
abbrev s_lets_log : Stmt := topS 15
abbrev N_lets_log : List Str := ["thing", "row"]
abbrev p_lets_log : List Str := ["thing"]
theorem sc_lets_log : FnScope N_lets_log p_lets_log (defScope s_lets_log) := ⟨rfl, rfl, rfl, by decide +kernel, rfl, by decide +kernel, by decide +kernel⟩
abbrev s_standing : Stmt := topS 16
abbrev N_standing : List Str := ["log", "key", "number"]
abbrev p_standing : List Str := ["log"]
theorem sc_standing : FnScope N_standing p_standing (defScope s_standing) := ⟨rfl, rfl, rfl, by decide +kernel, rfl, by decide +kernel, by decide +kernel⟩
abbrev s_law_tape : Stmt := topS 18
abbrev N_law_tape : List Str := ["_law_script"]
abbrev p_law_tape : List Str := ["_law_script"]
theorem sc_law_tape : FnScope N_law_tape p_law_tape (defScope s_law_tape) := ⟨rfl, rfl, rfl, by decide +kernel, rfl, by decide +kernel, by decide +kernel⟩
abbrev s_law_draw : Stmt := topS 19
abbrev N_law_draw : List Str := ["_law_tape_here", "_law_many", "_law_script", "_law_digit", "_law_cell", "_law_mixed"]
abbrev p_law_draw : List Str := ["_law_tape_here", "_law_many"]
theorem sc_law_draw : FnScope N_law_draw p_law_draw (defScope s_law_draw) := ⟨rfl, rfl, rfl, by decide +kernel, rfl, by decide +kernel, by decide +kernel⟩
abbrev s_law_number : Stmt := topS 20
abbrev N_law_number : List Str := ["_law_tape_here"]
abbrev p_law_number : List Str := ["_law_tape_here"]
theorem sc_law_number : FnScope N_law_number p_law_number (defScope s_law_number) := ⟨rfl, rfl, rfl, by decide +kernel, rfl, by decide +kernel, by decide +kernel⟩
abbrev s_law_leaf : Stmt := topS 21
abbrev N_law_leaf : List Str := ["_law_tape_here", "_law_boxes", "_law_way"]
abbrev p_law_leaf : List Str := ["_law_tape_here", "_law_boxes"]
theorem sc_law_leaf : FnScope N_law_leaf p_law_leaf (defScope s_law_leaf) := ⟨rfl, rfl, rfl, by decide +kernel, rfl, by decide +kernel, by decide +kernel⟩
abbrev s_law_parts : Stmt := topS 22
abbrev N_law_parts : List Str := ["_law_tape_here", "_law_names", "_law_parts_here", "_law_k", "_law_boxes", "_law_works_here", "_law_name", "_law_lines", "_law_j", "_law_key", "_law_given"]
abbrev p_law_parts : List Str := ["_law_tape_here"]
theorem sc_law_parts : FnScope N_law_parts p_law_parts (defScope s_law_parts) := ⟨rfl, rfl, rfl, by decide +kernel, rfl, by decide +kernel, by decide +kernel⟩
abbrev s_law_asked : Stmt := topS 23
abbrev N_law_asked : List Str := ["_law_reckoning", "_law_answers", "_law_asked_here"]
abbrev p_law_asked : List Str := ["_law_reckoning", "_law_answers", "_law_asked_here"]
theorem sc_law_asked : FnScope N_law_asked p_law_asked (defScope s_law_asked) := ⟨rfl, rfl, rfl, by decide +kernel, rfl, by decide +kernel, by decide +kernel⟩
abbrev s_law_piece : Stmt := topS 24
abbrev N_law_piece : List Str := ["_law_part", "_law_answers", "_law_asked_here", "_law_row", "_law_keys", "_law_key", "_law_name", "_law_given_out", "_law_within", "_law_number_here", "_law_spot", "_law_gives", "_law_works_here", "_law_one"]
abbrev p_law_piece : List Str := ["_law_part", "_law_answers"]
theorem sc_law_piece : FnScope N_law_piece p_law_piece (defScope s_law_piece) := ⟨rfl, rfl, rfl, by decide +kernel, rfl, by decide +kernel, by decide +kernel⟩
abbrev s_law_numbers : Stmt := topS 25
abbrev N_law_numbers : List Str := ["_law_tape_here", "_law_store", "_law_path", "_law_name", "_law_part", "_law_box"]
abbrev p_law_numbers : List Str := ["_law_tape_here", "_law_store", "_law_path", "_law_name", "_law_part"]
theorem sc_law_numbers : FnScope N_law_numbers p_law_numbers (defScope s_law_numbers) := ⟨rfl, rfl, rfl, by decide +kernel, rfl, by decide +kernel, by decide +kernel⟩
abbrev s_law_drawing : Stmt := topS 26
abbrev N_law_drawing : List Str := ["_law_tape_here", "_law_house", "_law_store", "_law_names", "_law_parts_here", "_law_told", "_law_wanted", "_law_path", "_law_name", "_law_gives", "_law_part", "_law_answers", "_law_box", "_law_number_here", "_law_one", "_law_piece_here", "_law_inner", "_law_want"]
abbrev p_law_drawing : List Str := ["_law_tape_here", "_law_house", "_law_store"]
theorem sc_law_drawing : FnScope N_law_drawing p_law_drawing (defScope s_law_drawing) := ⟨rfl, rfl, rfl, by decide +kernel, rfl, by decide +kernel, by decide +kernel⟩
abbrev s_law_works : Stmt := topS 27
abbrev N_law_works : List Str := ["_law_drawing_here", "_law_told", "_law_path", "_law_name", "_law_gives", "_law_downs", "_law_piece_here", "_law_work", "_law_number_here"]
abbrev p_law_works : List Str := ["_law_drawing_here"]
theorem sc_law_works : FnScope N_law_works p_law_works (defScope s_law_works) := ⟨rfl, rfl, rfl, by decide +kernel, rfl, by decide +kernel, by decide +kernel⟩
abbrev s_law_is_number : Stmt := topS 28
abbrev N_law_is_number : List Str := ["_law_thing"]
abbrev p_law_is_number : List Str := ["_law_thing"]
theorem sc_law_is_number : FnScope N_law_is_number p_law_is_number (defScope s_law_is_number) := ⟨rfl, rfl, rfl, by decide +kernel, rfl, by decide +kernel, by decide +kernel⟩
abbrev s_law_is_name : Stmt := topS 29
abbrev N_law_is_name : List Str := ["_law_thing", "_law_sign"]
abbrev p_law_is_name : List Str := ["_law_thing"]
theorem sc_law_is_name : FnScope N_law_is_name p_law_is_name (defScope s_law_is_name) := ⟨rfl, rfl, rfl, by decide +kernel, rfl, by decide +kernel, by decide +kernel⟩
abbrev s_law_is_path : Stmt := topS 30
abbrev N_law_is_path : List Str := ["_law_thing", "_law_spot"]
abbrev p_law_is_path : List Str := ["_law_thing"]
theorem sc_law_is_path : FnScope N_law_is_path p_law_is_path (defScope s_law_is_path) := ⟨rfl, rfl, rfl, by decide +kernel, rfl, by decide +kernel, by decide +kernel⟩
abbrev s_law_is_log_row : Stmt := topS 31
abbrev N_law_is_log_row : List Str := ["_law_thing"]
abbrev p_law_is_log_row : List Str := ["_law_thing"]
theorem sc_law_is_log_row : FnScope N_law_is_log_row p_law_is_log_row (defScope s_law_is_log_row) := ⟨rfl, rfl, rfl, by decide +kernel, rfl, by decide +kernel, by decide +kernel⟩
abbrev s_law_stands : Stmt := topS 32
abbrev N_law_stands : List Str := ["_law_log", "_law_now", "_law_word", "_law_path", "_law_part", "_law_name", "_law_number_here", "_law_same", "_law_one"]
abbrev p_law_stands : List Str := ["_law_log"]
theorem sc_law_stands : FnScope N_law_stands p_law_stands (defScope s_law_stands) := ⟨rfl, rfl, rfl, by decide +kernel, rfl, by decide +kernel, by decide +kernel⟩
abbrev s_law_lets : Stmt := topS 33
abbrev N_law_lets : List Str := ["_law_thing", "_law_row"]
abbrev p_law_lets : List Str := ["_law_thing"]
theorem sc_law_lets : FnScope N_law_lets p_law_lets (defScope s_law_lets) := ⟨rfl, rfl, rfl, by decide +kernel, rfl, by decide +kernel, by decide +kernel⟩
abbrev s_law_alternate : Stmt := topS 34
abbrev N_law_alternate : List Str := ["_law_log", "_law_told", "_law_word", "_law_path", "_law_part", "_law_name", "_law_number_here", "_law_rows", "_law_k"]
abbrev p_law_alternate : List Str := ["_law_log"]
theorem sc_law_alternate : FnScope N_law_alternate p_law_alternate (defScope s_law_alternate) := ⟨rfl, rfl, rfl, by decide +kernel, rfl, by decide +kernel, by decide +kernel⟩
abbrev s_law : Stmt := topS 35
abbrev N_law : List Str := ["_law_script", "_law_tape_here", "_law_house", "_law_store", "_law_ahead", "_law_before", "_law_log", "_law_turn", "_law_way", "_law_drawing_here", "_law_left", "_law_works_here", "_law_at", "_law_bent", "_law_found", "_law_work"]
abbrev p_law : List Str := ["_law_script"]
theorem sc_law : FnScope N_law p_law (defScope s_law) := ⟨rfl, rfl, rfl, by decide +kernel, rfl, by decide +kernel, by decide +kernel⟩
/-- what the top has left -/
structure Env (K : PySem.W.Frag) (mg : Str → Option Value) : Prop where
  l_works_of : Loc K mg "works_of" p_works_of s_works_of
  l_works_due : Loc K mg "works_due" p_works_due s_works_due
  l_is_whole : Loc K mg "is_whole" p_is_whole s_is_whole
  l_is_number : Loc K mg "is_number" p_is_number s_is_number
  l_is_name : Loc K mg "is_name" p_is_name s_is_name
  l_is_count : Loc K mg "is_count" p_is_count s_is_count
  l_is_spot : Loc K mg "is_spot" p_is_spot s_is_spot
  l_is_path : Loc K mg "is_path" p_is_path s_is_path
  l_is_row : Loc K mg "is_row" p_is_row s_is_row
  l_stands_behind : Loc K mg "stands_behind" p_stands_behind s_stands_behind
  l_lets_log : Loc K mg "lets_log" p_lets_log s_lets_log
  l_standing : Loc K mg "standing" p_standing s_standing
  l_law_tape : Loc K mg "_law_tape" p_law_tape s_law_tape
  l_law_draw : Loc K mg "_law_draw" p_law_draw s_law_draw
  l_law_number : Loc K mg "_law_number" p_law_number s_law_number
  l_law_leaf : Loc K mg "_law_leaf" p_law_leaf s_law_leaf
  l_law_parts : Loc K mg "_law_parts" p_law_parts s_law_parts
  l_law_asked : Loc K mg "_law_asked" p_law_asked s_law_asked
  l_law_piece : Loc K mg "_law_piece" p_law_piece s_law_piece
  l_law_numbers : Loc K mg "_law_numbers" p_law_numbers s_law_numbers
  l_law_drawing : Loc K mg "_law_drawing" p_law_drawing s_law_drawing
  l_law_works : Loc K mg "_law_works" p_law_works s_law_works
  l_law_is_number : Loc K mg "_law_is_number" p_law_is_number s_law_is_number
  l_law_is_name : Loc K mg "_law_is_name" p_law_is_name s_law_is_name
  l_law_is_path : Loc K mg "_law_is_path" p_law_is_path s_law_is_path
  l_law_is_log_row : Loc K mg "_law_is_log_row" p_law_is_log_row s_law_is_log_row
  l_law_stands : Loc K mg "_law_stands" p_law_stands s_law_stands
  l_law_lets : Loc K mg "_law_lets" p_law_lets s_law_lets
  l_law_alternate : Loc K mg "_law_alternate" p_law_alternate s_law_alternate
  l_law : Loc K mg "law" p_law s_law
  m_abs : mg "abs" = none
  m_all : mg "all" = none
  m_bool : mg "bool" = none
  m_int : mg "int" = none
  m_isinstance : mg "isinstance" = none
  m_len : mg "len" = none
  m_list : mg "list" = none
  m_range : mg "range" = none
  m_reversed : mg "reversed" = none
  m_sorted : mg "sorted" = none
  m_str : mg "str" = none
  m_tuple : mg "tuple" = none
  m_zip : mg "zip" = none
  g_GREATEST : ∃ t, mg "GREATEST" = some (.int 1000000000 t)
  g_LETTERS : ∃ t, mg "LETTERS" = some (.str "abcdefghijklmnopqrstuvwxyz" t)
theorem Env.pe_GREATEST {X : Cx} {pos : Pos} (T : Env X.K X.mg) (hg : Gl X "GREATEST" := by rfl) : PE X (.Name "GREATEST" pos) (tC (.int 1000000000)) := by
  obtain ⟨t, e⟩ := T.g_GREATEST
  exact pe_glob hg e ⟨_, rfl⟩ (by decide +kernel)
theorem Env.pe_LETTERS {X : Cx} {pos : Pos} (T : Env X.K X.mg) (hg : Gl X "LETTERS" := by rfl) : PE X (.Name "LETTERS" pos) (tC (.str "abcdefghijklmnopqrstuvwxyz")) := by
  obtain ⟨t, e⟩ := T.g_LETTERS
  exact pe_glob hg e ⟨_, rfl⟩ (by decide +kernel)
local macro_rules | `(tactic| walk_at "s") => `(tactic| first
  | ((with_reducible refine' w_var ?h ?q); (case h => exact rfl))
  | (with_reducible refine' w_c ?_)
  | (with_reducible refine' w_name ?_)
  | (with_reducible refine' w_op ?_)
  | (with_reducible refine' w_nil ?_)
  | (with_reducible refine' w_cons ?_)
  | (with_reducible refine' w_seq ?_)
  | (with_reducible refine' w_asg ?_)
  | (with_reducible refine' w_ret ?_)
  | (with_reducible refine' w_ifS ?_)
  | (with_reducible refine' w_call ?_)
  | (with_reducible refine' w_cb ?_)
  | (with_reducible refine' w_test ?_)
  | (with_reducible refine' w_B ?_)
  | (with_reducible refine' w_addI ?_)
  | (with_reducible refine' w_rI0 ?_)
  | (with_reducible refine' w_eqI ?_)
  | (with_reducible refine' w_eqS ?_)
  | (with_reducible refine' w_eqB ?_)
  | (with_reducible refine' w_neI ?_)
  | (with_reducible refine' w_neS ?_)
  | (with_reducible refine' w_neB ?_)
  | (with_reducible refine' w_bl ?_)
  | (with_reducible refine' w_and ?_)
  | (with_reducible refine' w_or ?_)
  | (with_reducible refine' w_not ?_)
  | (with_reducible refine' w_andV ?_)
  | (with_reducible refine' w_orV ?_)
  | (with_reducible refine' w_notV ?_)
  | (with_reducible refine' w_if ?_)
  | (with_reducible refine' w_isN ?_)
  | (with_reducible refine' w_notN ?_)
  | (with_reducible refine' w_tup ?_)
  | (with_reducible refine' w_lst ?_)
  | (with_reducible refine' w_un ?_)
  | (with_reducible refine' w_rU ?_)
  | (with_reducible refine' w_chain ?_)
  | (with_reducible refine' w_retN ?_)
  | (with_reducible refine' w_drop ?_)
  | (with_reducible refine' w_next ?_)
  | (with_reducible refine' w_sub' ?_)
  | (with_reducible refine' w_for ?_)
  | (with_reducible refine' w_sl ?_)
  | (with_reducible refine' w_part ?_)
  | (with_reducible refine' w_partI ?_)
  | (with_reducible refine' w_nopart ?_)
  | (with_reducible refine' w_bm ?_)
  | (with_reducible refine' w_bm0 ?_)
  | (with_reducible refine' w_lc ?_)
  | ((with_reducible refine' w_wipe ?h ?q); (case h => exact rfl))
  | (with_reducible refine' w_yes ?_)
  | (with_reducible refine' w_N ?_)
  | (with_reducible refine' w_gcons ?_)
  | (with_reducible refine' w_gnil ?_)
  | (with_reducible refine' w_isB ?_)
  | (with_reducible refine' w_nisB ?_)
  | (with_reducible refine' w_iRev ?_)
  | (with_reducible refine' w_iEnum ?_)
  | (with_reducible refine' w_iR1 ?_)
  | (with_reducible refine' w_max ?_)
  | (with_reducible refine' w_min ?_)
  | (with_reducible refine' w_abs ?_)
  | (with_reducible refine' w_intI ?_)
  | (with_reducible refine' w_intB ?_)
  | (with_reducible refine' w_pow9 ?_)
  | (with_reducible refine' w_pow18 ?_)
  | (with_reducible refine' w_pow6 ?_)
  | (with_reducible refine' w_pow59 ?_)
  | (with_reducible refine' w_iR2 ?_)
  | (with_reducible refine' w_iL ?_)
  | (with_reducible refine' w_iT ?_)
  | (with_reducible refine' is_non_int ?_)
  | (with_reducible refine' is_non_bool ?_)
  | (with_reducible refine' is_non_str ?_)
  | (with_reducible refine' is_non_tuple ?_)
  | (with_reducible refine' is_non_list ?_)
  | (with_reducible refine' is_non_dict ?_)
  | (with_reducible refine' is_bl_int ?_)
  | (with_reducible refine' is_bl_bool ?_)
  | (with_reducible refine' is_bl_str ?_)
  | (with_reducible refine' is_bl_tuple ?_)
  | (with_reducible refine' is_bl_list ?_)
  | (with_reducible refine' is_bl_dict ?_)
  | (with_reducible refine' is_int_int ?_)
  | (with_reducible refine' is_int_bool ?_)
  | (with_reducible refine' is_int_str ?_)
  | (with_reducible refine' is_int_tuple ?_)
  | (with_reducible refine' is_int_list ?_)
  | (with_reducible refine' is_int_dict ?_)
  | (with_reducible refine' is_str_int ?_)
  | (with_reducible refine' is_str_bool ?_)
  | (with_reducible refine' is_str_str ?_)
  | (with_reducible refine' is_str_tuple ?_)
  | (with_reducible refine' is_str_list ?_)
  | (with_reducible refine' is_str_dict ?_)
  | (with_reducible refine' w_inSign ?_)
  | (with_reducible refine' w_ninSign ?_)
  | (with_reducible refine' w_mG ?_)
  | (with_reducible refine' w_dget ?_)
  | (with_reducible refine' w_iZip ?_)
  | (with_reducible refine' w_iItemsN ?_)
  | (with_reducible refine' w_iValsN ?_)
  | (with_reducible refine' w_dnew ?_)
  | (with_reducible refine' w_iS ?_)
  | (with_reducible refine' w_iRevR ?_)
  | (with_reducible refine' iteT ?_)
  | (with_reducible refine' iteF ?_)
  | (with_reducible refine' iteNT ?_)
  | (with_reducible refine' iteNF ?_))
local macro_rules | `(tactic| walk_at "go") => `(tactic| repeat walk_at "s")

/-! ### the law's own draws: nothing is known of a number drawn but its bounds -/
/-- a tape: script, count, rest, place; all that stood at first stands -/
def Tape (K : PySem.W.Frag) (H0 H : Hp) (t : Addr) : Prop := (∃ (a : Addr) (ns : List Int) (n d p : Int), H t = some (.lst [.ref a, .int n, .int d, .int p]) ∧ SqL K H0 a (ns.map V.int) ∧ 0 ≤ p) ∧ Fr [] H0 H ∧ H0 t = none
section
variable {K : PySem.W.Frag} {H0 H H' : Hp} {t q : Addr}
theorem Tape.fr (T : Tape K H0 H t) (e : Fr [] H H') : Tape K H0 H' t := by
  obtain ⟨⟨a, ns, n, d, p, h1, h2, h3⟩, h4, h5⟩ := T
  exact ⟨⟨a, ns, n, d, p, e _ _ h1 (by simp), h2, h3⟩, h4.trans e, h5⟩
theorem Tape.new (T : Tape K H0 H t) {o : HO} (h : H q = none) : Tape K H0 (upd H q o) t := T.fr (Fr.new h)
theorem Tape.ne (T : Tape K H0 H t) (h : H q = none) : q ≠ t := by
  rintro rfl
  obtain ⟨⟨_, _, _, _, _, e, _⟩, _⟩ := T
  rw [h] at e
  cases e
theorem Tape.no (T : Tape K H0 H t) (h : H q = none) : H0 q = none := T.2.1.free h
/-- what is new changes -/
theorem Tape.mut (T : Tape K H0 H t) {o : HO} (nq : q ≠ t) (n0 : H0 q = none) : Tape K H0 (upd H q o) t := by
  obtain ⟨⟨a, zs, n, d, p, h1, h2, h4⟩, f, h5⟩ := T
  refine ⟨⟨a, zs, n, d, p, ?_, h2, h4⟩, fun b u e z => ?_, h5⟩
  · rw [upd_ne nq.symm]; exact h1
  · rw [upd_ne (by rintro rfl; rw [n0] at e; cases e)]
    exact f b u e z
theorem Tape.fr1 (T : Tape K H0 H t) (e : Fr [q] H H') (nq : q ≠ t) (n0 : H0 q = none) : Tape K H0 H' t := by
  obtain ⟨⟨a, zs, n, d, p, h1, h2, h4⟩, f, h5⟩ := T
  exact ⟨⟨a, zs, n, d, p, e _ _ h1 (by simpa using nq.symm), h2, h4⟩, Fr.drop1 n0 f e, h5⟩
theorem Tape.free1 (T : Tape K H0 H t) (f : Fr [t] H H') (h : H' q = none) (nq : q ≠ t) : H q = none := by
  cases e : H q with
  | none => rfl
  | some o =>
    have z := f q o e (by simpa using nq)
    rw [h] at z
    cases z
theorem Tape.tu (T : Tape K H0 H t) (f : Fr [t] H H') : Tu H H' := by
  obtain ⟨⟨a, zs, n, d, p, h1, _⟩, _⟩ := T
  exact f.tu1 h1
end
def sp_law_tape (K : PySem.W.Frag) : Sp := fun vs H Q _ => ∃ (a : Addr) (ns : List Int), vs = [.ref a] ∧ SqL K H a (ns.map V.int) ∧ ∀ t H', H t = none → Fr [] H H' → Tape K H H' t → Q (.ref t) H'
def sp_law_draw (K : PySem.W.Frag) : Sp := fun vs H Q _ => ∃ (t : Addr) (m : Int) (H0 : Hp), vs = [.ref t, .int m] ∧ Tape K H0 H t ∧ 0 < m ∧ m < 2 ^ 64 ∧ ∀ r H', 0 ≤ r → r < m → Fr [t] H H' → Tape K H0 H' t → Q (.int r) H'
section
variable {P : Program} {w : World} {K : PySem.W.Frag} {mg : Str → Option Value} {base : Heap}
theorem ok_law_tape (T : Env K mg) : Fx P w K mg base 1 "_law_tape" p_law_tape (sp_law_tape K) := by
  refine T.l_law_tape.ok sc_law_tape (fun vs H Q E h => ?_) (fun f cdv A outer s H vs Q E hr h => ?_)
  · obtain ⟨a, ns, rfl, _⟩ := h
    rfl
  · obtain ⟨a, ns, rfl, hS, k⟩ := h
    refine ⟨_, (pss_one (ps_ret (pe_lst (pa_cons (pv 0) (pa_cons pe_int (pa_cons pe_int (pa_cons pe_int pa_nil))))))), ?_⟩
    walk_at "go"
    refine ⟨by show 4 ≤ sizeLine; decide, fun t ht => ?_⟩
    exact k t _ ht (Fr.new ht) ⟨⟨a, ns, 0, 0, 0, upd_same, hS, Int.le_refl 0⟩, Fr.new ht, ht⟩
theorem ok_law_draw (T : Env K mg) : Fx P w K mg base 1 "_law_draw" p_law_draw (sp_law_draw K) := by
  refine T.l_law_draw.ok sc_law_draw (fun vs H Q E h => ?_) (fun f cdv A outer s H vs Q E hr h => ?_)
  · obtain ⟨t, m, _, rfl, _⟩ := h
    rfl
  · obtain ⟨t, m, H0, rfl, hT, m0, m64, k⟩ := h
    obtain ⟨⟨a, ns, n, d, p, ht, hS0, hp⟩, f0, n0⟩ := hT
    have hS : SqL K H a (ns.map V.int) := f0.seqL hS0 (by simp)
    have keep : ∀ H', Fr [t] H H' → Fr [] H0 H' := fun H' f b o e _ => f b o (f0 b o e (by simp)) (by
      intro z
      rw [List.mem_singleton.mp z, n0] at e
      cases e)
    refine ⟨_, (pss_cons (ps_set (i := 2) sc_law_draw.nd rfl (Or.inl rfl) (pe_ix (ix_U (K := K) rfl) (pv 0) pe_int (fun _ _ => rfl)))
      (pss_cons (ps_asg (pe_op (op_addU (K := K) rfl) (pe_ix (ix_U (K := K) rfl) (pv 0) pe_int (fun _ _ => rfl)) pe_int) (pg_sub (pv 0) pe_int set_list))
      (C8.pss_cut (ps_if (PW.pt (pw_and (pt_cmpR (op_eqU (K := K) rfl (u64 hr)) (pe_ix (ix_U (K := K) rfl) (pv 0) pe_int (fun _ _ => rfl)) pe_int (nomark _)) (pw_and1 (pt_cmpR op_lt (pe_ix (ix_U (K := K) rfl) (pv 0) pe_int (fun _ _ => rfl)) (pe_callB (call_lenU (K := K) rfl) (by rfl) T.m_len (by decide +kernel) (pa_cons (pv 2) pa_nil)) (nomark _))))) (pss_cons (ps_asg (pe_op op_fdivW (pe_callB call_absU (by rfl) T.m_abs (by decide +kernel) (pa_cons (pe_ix (ix_U (K := K) rfl) (pv 2) (pe_ix (ix_U (K := K) rfl) (pv 0) pe_int (fun _ _ => rfl)) (fun _ _ => rfl)) pa_nil)) (pe_op op_pow pe_int pe_int)) (pg_sub (pv 0) pe_int set_list))
      (pss_one (ps_asg (pe_op (op_addU (K := K) rfl) (pe_ix (ix_U (K := K) rfl) (pv 0) pe_int (fun _ _ => rfl)) pe_int) (pg_sub (pv 0) pe_int set_list)))) pss_nil)
      (pss_cons (ps_if (pt_cmpR op_gt (pe_ix (ix_U (K := K) rfl) (pv 0) pe_int (fun _ _ => rfl)) pe_int (nomark _)) (pss_cons (ps_set (i := 3) sc_law_draw.nd rfl (Or.inl rfl) (pe_op op_mod (pe_ix (ix_U (K := K) rfl) (pv 0) pe_int (fun _ _ => rfl)) (pv 1)))
      (pss_cons (ps_asg (pe_op op_fdivW (pe_ix (ix_U (K := K) rfl) (pv 0) pe_int (fun _ _ => rfl)) (pv 1)) (pg_sub (pv 0) pe_int set_list))
      (pss_one (ps_ret (pv 3))))) pss_nil)
      (pss_cons (ps_set (i := 4) sc_law_draw.nd rfl (Or.inl rfl) pe_int)
      (C8.pss_cut (ps_if (pt_cmpR op_gt (pe_callB (call_lenU (K := K) rfl) (by rfl) T.m_len (by decide +kernel) (pa_cons (pv 2) pa_nil)) pe_int (nomark _)) (pss_one (ps_set (i := 4) sc_law_draw.nd rfl (Or.inl rfl) (pe_ix (ix_U (K := K) rfl) (pv 2) (pe_op op_mod (pe_ix (ix_U (K := K) rfl) (pv 0) pe_int (fun _ _ => rfl)) (pe_callB (call_lenU (K := K) rfl) (by rfl) T.m_len (by decide +kernel) (pa_cons (pv 2) pa_nil))) (fun _ _ => rfl)))) pss_nil)
      (pss_cons (ps_set (i := 5) sc_law_draw.nd rfl (Or.inl rfl) (pe_op op_mod (pe_op (op_addU (K := K) rfl) (pe_op (op_addU (K := K) rfl) (pe_op op_mulU (pe_op op_mod (pv 4) pe_int) pe_int) (pe_op op_mulU (pe_ix (ix_U (K := K) rfl) (pv 0) pe_int (fun _ _ => rfl)) pe_int)) pe_int) pe_int))
      (pss_cons (ps_set (i := 5) sc_law_draw.nd rfl (Or.inl rfl) (pe_op op_mod (pe_op op_mulU (pv 5) (pe_op (op_addU (K := K) rfl) (pv 5) pe_int)) pe_int))
      (pss_one (ps_ret (pe_op op_mod (pe_op op_mod (pe_op op_mulU (pv 5) pe_int) pe_int) (pv 1)))))))))))), ?_⟩
    walk_at "go"
    refine w_ixL (SqL.of ht) rfl ?_
    walk_at "go"
    refine w_ixL (SqL.of ht) rfl ?_
    walk_at "go"
    refine w_setL ht rfl ?_
    generalize hH1 : upd H t _ = H1
    have f1 : Fr [t] H H1 := by rw [← hH1]; exact Fr.mut (by simp)
    have t1 : H1 t = some (.lst [.ref a, .int (n + 1), .int d, .int p]) := by rw [← hH1]; exact upd_same
    refine w_cut (fun σ' H' => σ' = [some (.ref t), some (.int m), some (.ref a), none, none, none] ∧ Fr [t] H H' ∧ ∃ d p, H' t = some (.lst [.ref a, .int (n + 1), .int d, .int p]) ∧ 0 ≤ p) ?_ ?_
    · walk_at "go"
      refine w_ixL (SqL.of t1) rfl ?_
      walk_at "go"
      have end0 : ∀ d p, 0 ≤ p → ∀ H', Fr [t] H H' → H' t = some (.lst [.ref a, .int (n + 1), .int d, .int p]) → ([some (.ref t), some (.int m), some (.ref a), none, none, none] : L2.St) = [some (.ref t), some (.int m), some (.ref a), none, none, none] ∧ Fr [t] H H' ∧ ∃ d p, H' t = some (.lst [.ref a, .int (n + 1), .int d, .int p]) ∧ 0 ≤ p :=
        fun d p hp H' f e => ⟨rfl, f, d, p, e, hp⟩
      refine ite_d (fun h0 => ?_) (fun h0 => ?_)
      · walk_at "go"
        refine w_ixL (SqL.of t1) rfl ?_
        walk_at "go"
        have hS1 : SqL K H1 a (ns.map V.int) := (keep _ f1).seqL hS0 (by simp)
        refine w_lenL hS1 ?_
        walk_at "go"
        refine ite_d (fun h1 => ?_) (fun h1 => ?_)
        · rw [List.length_map] at h1
          obtain ⟨z, hz, _⟩ := at_int hp h1
          walk_at "go"
          refine w_ixL (SqL.of t1) rfl ?_
          walk_at "go"
          refine w_ixL hS1 hz ?_
          walk_at "go"
          refine w_rI ⟨by decide, by decide +kernel⟩ ?_
          walk_at "go"
          refine w_setL t1 rfl ?_
          walk_at "go"
          refine w_ixL (SqL.of upd_same) rfl ?_
          walk_at "go"
          refine w_setL upd_same rfl ?_
          refine end0 _ (p + 1) (by omega) _ ?_ upd_same
          exact (f1.trans (Fr.mut (by simp))).trans (Fr.mut (by simp))
        · walk_at "go"
          exact end0 d p hp H1 f1 t1
      · walk_at "go"
        exact end0 d p hp H1 f1 t1
    · rintro σ' H2 ⟨rfl, f2, d, p, t2, hp⟩
      have hS2 : SqL K H2 a (ns.map V.int) := (keep _ f2).seqL hS0 (by simp)
      have fin : ∀ x, Q (.int (x % m)) H2 := fun x => k _ H2 (Int.emod_nonneg _ (by omega)) (Int.emod_lt_of_pos _ m0) f2 ⟨⟨a, ns, n + 1, d, p, t2, hS0, hp⟩, keep _ f2, n0⟩
      walk_at "go"
      refine w_ixL (SqL.of t2) rfl ?_
      walk_at "go"
      refine ite_d (fun h0 => ?_) (fun h0 => ?_)
      · walk_at "go"
        refine w_ixL (SqL.of t2) rfl ?_
        walk_at "go"
        refine w_rI m0 ?_
        walk_at "go"
        refine w_ixL (SqL.of t2) rfl ?_
        walk_at "go"
        refine w_rI (wide_div m0 (b := 64) (by omega) (by decide) (by decide)) ?_
        walk_at "go"
        refine w_setL t2 rfl ?_
        walk_at "go"
        have f3 : Fr [t] H (upd H2 t (.lst [.ref a, .int (n + 1), .int (d / m), .int p])) := f2.trans (Fr.mut (by simp))
        exact k _ _ (Int.emod_nonneg _ (by omega)) (Int.emod_lt_of_pos _ m0) f3 ⟨⟨a, ns, n + 1, d / m, p, upd_same, hS0, hp⟩, keep _ f3, n0⟩
      · walk_at "go"
        refine w_cut (fun σ' H' => H' = H2 ∧ ∃ z, σ' = [some (.ref t), some (.int m), some (.ref a), none, some (.int z), none]) ?_ ?_
        · walk_at "go"
          refine w_lenL hS2 ?_
          walk_at "go"
          refine ite_d (fun h1 => ?_) (fun h1 => ?_)
          · rw [List.length_map] at h1
            walk_at "go"
            refine w_ixL (SqL.of t2) rfl ?_
            walk_at "go"
            refine w_lenL hS2 ?_
            rw [List.length_map]
            refine w_rI h1 ?_
            obtain ⟨z, hz, _⟩ := at_int (ns := ns) (p := (n + 1) % (ns.length : Int)) (Int.emod_nonneg _ (by omega)) (Int.emod_lt_of_pos _ h1)
            refine w_ixL hS2 hz ?_
            walk_at "go"
            exact ⟨rfl, z, rfl⟩
          · walk_at "go"
            exact ⟨rfl, 0, rfl⟩
        · rintro σ' H' ⟨rfl, z, rfl⟩
          walk_at "go"
          refine w_rI (by show (0 : Int) < 2147483647; decide) ?_
          refine w_mulI (.inr (by decide)) ?_
          walk_at "go"
          refine w_ixL (SqL.of t2) rfl ?_
          walk_at "go"
          refine w_mulI (.inr (by decide)) ?_
          walk_at "go"
          refine w_rI (by show (0 : Int) < 2147483629; decide) ?_
          walk_at "go"
          have b1 : ∀ y : Int, 0 ≤ y % 2147483629 ∧ y % 2147483629 < 2147483629 := fun y => ⟨Int.emod_nonneg _ (by decide), Int.emod_lt_of_pos _ (by decide)⟩
          generalize he : (_ : Int) % 2147483629 = e
          have b2 : 0 ≤ e ∧ e < 2147483629 := by rw [← he]; exact b1 _
          refine w_mulI (.inl (by constructor <;> omega)) ?_
          walk_at "go"
          refine w_rI (by show (0 : Int) < 2147483587; decide) ?_
          walk_at "go"
          refine w_mulI (.inr (by decide)) ?_
          walk_at "go"
          refine w_rI (by show (0 : Int) < 2147483563; decide) ?_
          walk_at "go"
          refine w_rI m0 ?_
          exact fin _
end

/-! ### comprehensions that draw -/
section
variable {K : PySem.W.Frag} {H0 H : Hp} {t : Addr}
theorem LC_tape {m : Int} {j : Nat} {ws : List Nat} {σ : L2.St} {te : TE} {Q : VK} (n : Nat) (P : PyData → Prop) (T : Tape K H0 H t) (hn : m.toNat = n) (h1 : -(2 ^ 62) ≤ m) (h2 : m < 2 ^ 62) (ln : n ≤ 100000)
    (hw : ∀ v, wipe ((wipe σ ws).set j (some v)) ws = wipe σ ws)
    (he : ∀ (i : Nat) H', i < n → Tape K H0 H' t → Fr [t] H H' → ∀ Q : VK, (∀ y d H2, Fr [t] H' H2 → Tape K H0 H2 t → Dt K H2 y d → P d → Q y H2) → te ((wipe σ ws).set j (some (.int i))) H' Q)
    (k : ∀ D H' ds, H D = none → Fr [t] H H' → Tape K H0 H' t → Lq K H' D ds → ds.length = n → (∀ d ∈ ds, P d) → Q (.ref D) H') :
    ∃ j' : Int, [V.int m] = [.int j'] ∧ -(2 ^ 62) ≤ j' ∧ j' < 2 ^ 62 ∧ ∀ D, H D = none → LC (Itr 0 j'.toNat) (gName j) tYes te ws σ D Q (upd H D (.lst [])) := by
  refine LC_R1 n hn h1 h2 fun D hD => ⟨fun i H' => Fr [t] H H' ∧ Tape K H0 H' t ∧ ∃ ds, Lq K H' D ds ∧ ds.length = i ∧ ∀ d ∈ ds, P d, ⟨Fr.new hD, T.new hD, [], ⟨[], upd_same, .nil⟩, rfl, by simp⟩, ?_, ?_⟩
  · rintro i H' hi ⟨f', T', ds, L, ld, pd⟩
    refine ⟨hw _, ?_⟩
    refine w_yes (iteT ?_)
    have nD := T.ne hD
    refine he i H' hi T' f' _ fun y d H2 f2 T2 dy py => ?_
    have L2' := L.fr f2 (by simpa using nD) (T'.tu f2)
    obtain ⟨ys, hys, dys⟩ := L2'
    refine ⟨ys, hys, Nat.lt_of_le_of_lt (show ys.length ≤ 100000 by rw [dys.length]; omega) (by decide), Fr.drop1 hD (f'.trans f2) (Fr.mut (by simp)), T2.mut nD (T.no hD), ds ++ [d], ⟨_, upd_same, (dys.append (.cons dy .nil)).mono (Tu.mut hys)⟩, by simp [ld], ?_⟩
    intro z hz
    rcases List.mem_append.mp hz with a | a
    · exact pd z a
    · rw [List.mem_singleton.mp a]; exact py
  · rintro H' ⟨f', T', ds, L, ld, pd⟩
    exact k D H' ds hD f' T' L ld pd
theorem _root_.U.Fr.free1' {H H' : Hp} {t a : Addr} (f : Fr [t] H H') (h : H' a = none) (n : a ≠ t) : H a = none := by
  cases e : H a with
  | none => rfl
  | some o =>
    have z := f a o e (by simpa using n)
    rw [h] at z
    cases z
end

def Good (n : Nat) (d : PyData) : Prop := d.canLay0 = true ∧ d.depth ≤ n
/-! ### any data within bounds -/
def fin : Nat → PyData → Bool
  | 0, _ => false
  | _ + 1, .none => true
  | _ + 1, .bool _ => true
  | _ + 1, .int i => decide (-10000000000000 ≤ i) && decide (i ≤ 10000000000000)
  | _ + 1, .str x => decide (x.length ≤ 100) && PyData.strOk x
  | n + 1, .tuple ds => decide (ds.length ≤ 200) && ds.all (fin n)
  | n + 1, .list ds => decide (ds.length ≤ 200) && ds.all (fin n)
  | n + 1, .dict kvs => kvs.isEmpty && decide (3 ≤ n)
theorem fin_mono : ∀ {n m : Nat} {d : PyData}, n ≤ m → fin n d = true → fin m d = true
  | 0, _, _, _, h => by simp [fin] at h
  | n + 1, 0, _, l, _ => by omega
  | n + 1, m + 1, d, l, h => by
    cases d with
    | tuple ds =>
      simp only [fin, Bool.and_eq_true, decide_eq_true_eq, List.all_eq_true] at h ⊢
      exact ⟨h.1, fun x hx => fin_mono (by omega) (h.2 x hx)⟩
    | list ds =>
      simp only [fin, Bool.and_eq_true, decide_eq_true_eq, List.all_eq_true] at h ⊢
      exact ⟨h.1, fun x hx => fin_mono (by omega) (h.2 x hx)⟩
    | dict kvs =>
      simp only [fin, Bool.and_eq_true, decide_eq_true_eq] at h ⊢
      exact ⟨h.1, by omega⟩
    | _ => simpa only [fin] using h
theorem fin_tuple {n : Nat} {ds : List PyData} (h : fin (n + 1) (.tuple ds) = true) : ds.length ≤ 200 ∧ ∀ d ∈ ds, fin n d = true := by
  simpa only [fin, Bool.and_eq_true, decide_eq_true_eq, List.all_eq_true] using h
theorem fin_list {n : Nat} {ds : List PyData} (h : fin (n + 1) (.list ds) = true) : ds.length ≤ 200 ∧ ∀ d ∈ ds, fin n d = true := by
  simpa only [fin, Bool.and_eq_true, decide_eq_true_eq, List.all_eq_true] using h
theorem fin_mk {n : Nat} {ds : List PyData} (l : ds.length ≤ 200) (h : ∀ d ∈ ds, fin n d = true) : fin (n + 1) (.tuple ds) = true := by
  simpa only [fin, Bool.and_eq_true, decide_eq_true_eq, List.all_eq_true] using ⟨l, h⟩
theorem fin_mkL {n : Nat} {ds : List PyData} (l : ds.length ≤ 200) (h : ∀ d ∈ ds, fin n d = true) : fin (n + 1) (.list ds) = true := by
  simpa only [fin, Bool.and_eq_true, decide_eq_true_eq, List.all_eq_true] using ⟨l, h⟩
theorem fin_str {n : Nat} {x : Str} (h : fin n (.str x) = true) : TxOk 1000 x := by
  cases n with
  | zero => simp [fin] at h
  | succ n =>
    simp only [fin, Bool.and_eq_true, decide_eq_true_eq] at h
    exact ⟨by omega, h.2⟩
theorem DgAll.len2 {K : PySem.W.Frag} {H : Hp} {vs : List V} {es : List PyData} (a : DgAll K H vs es) (h : es.length = 2) : ∃ v1 v2 d1 d2, vs = [v1, v2] ∧ es = [d1, d2] ∧ Dg K H v1 d1 ∧ Dg K H v2 d2 := by
  cases a with
  | nil => simp at h
  | cons a1 a =>
  cases a with
  | nil => simp at h
  | cons a2 a =>
  cases a with
  | nil => exact ⟨_, _, _, _, rfl, rfl, a1, a2⟩
  | cons _ _ => simp at h
theorem DgAll.len5 {K : PySem.W.Frag} {H : Hp} {vs : List V} {es : List PyData} (a : DgAll K H vs es) (h : es.length = 5) : ∃ v1 v2 v3 v4 v5 d1 d2 d3 d4 d5, vs = [v1, v2, v3, v4, v5] ∧ es = [d1, d2, d3, d4, d5] ∧ Dg K H v1 d1 ∧ Dg K H v2 d2 ∧ Dg K H v3 d3 ∧ Dg K H v4 d4 ∧ Dg K H v5 d5 := by
  cases a with
  | nil => simp at h
  | cons a1 a =>
  cases a with
  | nil => simp at h
  | cons a2 a =>
  cases a with
  | nil => simp at h
  | cons a3 a =>
  cases a with
  | nil => simp at h
  | cons a4 a =>
  cases a with
  | nil => simp at h
  | cons a5 a =>
  cases a with
  | nil => exact ⟨_, _, _, _, _, _, _, _, _, _, rfl, rfl, a1, a2, a3, a4, a5⟩
  | cons _ _ => simp at h
mutual
theorem kd_dt {K : PySem.W.Frag} {H : Hp} : ∀ {v : V} {d : PyData}, Dg K H v d → kd d = true → Dt K H v d
  | _, _, .non, _ => .non
  | _, _, .bl b, _ => .bl b
  | _, _, .int i, _ => .int i
  | _, _, .str x, _ => .str x
  | _, _, .tup s a, h => .tup s (kd_dts a h)
  | _, _, .lst _ _, h => by cases h
  | _, _, .dct _, h => by cases h
theorem kd_dts {K : PySem.W.Frag} {H : Hp} : ∀ {vs : List V} {ds : List PyData}, DgAll K H vs ds → kdAll ds = true → DtAll K H vs ds
  | _, _, .nil, _ => .nil
  | _, _, .cons a b, h => by
    have z := Bool.and_eq_true_iff.mp h
    exact .cons (kd_dt a z.1) (kd_dts b z.2)
end
/-- data; a list of it is a list that may change -/
def Ld (K : PySem.W.Frag) (H : Hp) (v : V) (d : PyData) : Prop := Dg K H v d ∧ ∀ ds, d = .list ds → ∃ q vs, v = .ref q ∧ H q = some (.lst vs) ∧ DgAll K H vs ds
theorem Lx.ld {K : PySem.W.Frag} {H : Hp} {t q : Addr} {ds : List PyData} (h : Lx K H t q ds) : Ld K H (.ref q) (.list ds) := by
  refine ⟨h.dx.dg, fun es e => ?_⟩
  cases e
  obtain ⟨vs, e, _, a⟩ := h
  exact ⟨q, vs, rfl, e, DxAll.dg a⟩
theorem Lq.ld {K : PySem.W.Frag} {H : Hp} {q : Addr} {ds : List PyData} (h : Lq K H q ds) : Ld K H (.ref q) (.list ds) := by
  refine ⟨h.dg, fun es e => ?_⟩
  cases e
  obtain ⟨vs, e, a⟩ := h
  exact ⟨q, vs, rfl, e, a.dg⟩
theorem Ld.no {K : PySem.W.Frag} {H : Hp} {v : V} {d : PyData} (h : Dg K H v d) (n : ∀ ds, d ≠ .list ds) : Ld K H v d := ⟨h, fun ds e => absurd e (n ds)⟩
theorem fin_lay : ∀ {n : Nat} {d : PyData}, n ≤ 3 → fin n d = true → d.canLay0 = true ∧ d.depth ≤ n
  | 0, _, _, h => by simp [fin] at h
  | n + 1, d, l, h => by
    cases d with
    | none => exact ⟨rfl, Nat.zero_le _⟩
    | bool b => exact ⟨rfl, Nat.zero_le _⟩
    | int i => exact ⟨rfl, Nat.zero_le _⟩
    | str x =>
      simp only [fin, Bool.and_eq_true] at h
      exact ⟨h.2, Nat.zero_le _⟩
    | tuple ds =>
      obtain ⟨_, h2⟩ := fin_tuple h
      obtain ⟨a, b⟩ := lay_list (n := n) (ds := ds) fun d hd => fin_lay (by omega) (h2 d hd)
      exact ⟨by simp only [PyData.canLay0]; exact a, by simp only [PyData.depth]; omega⟩
    | list ds =>
      obtain ⟨_, h2⟩ := fin_list h
      obtain ⟨a, b⟩ := lay_list (n := n) (ds := ds) fun d hd => fin_lay (by omega) (h2 d hd)
      exact ⟨by simp only [PyData.canLay0]; exact a, by simp only [PyData.depth]; omega⟩
    | dict kvs =>
      simp only [fin, Bool.and_eq_true, decide_eq_true_eq] at h
      omega
theorem fin_fine {e : PyData} (h : fin 4 e = true) : Fine e := by
  cases e with
  | dict kvs => exact .inl ⟨_, rfl⟩
  | tuple ds =>
    obtain ⟨_, h2⟩ := fin_tuple h
    exact .inr (shaped_tuple (n := 3) (by decide) fun d hd => fin_lay (Nat.le_refl _) (h2 d hd))
  | list ds =>
    obtain ⟨_, h2⟩ := fin_list h
    exact .inr (shaped_list (n := 3) (by decide) fun d hd => fin_lay (Nat.le_refl _) (h2 d hd))
  | str x =>
    simp only [fin, Bool.and_eq_true] at h
    exact .inr (lay_shaped ⟨h.2, Nat.zero_le _⟩)
  | _ => exact .inr (lay_shaped ⟨rfl, Nat.zero_le _⟩)

/-! ### whole numbers, numbers, of any plain thing -/
def isWholeD : PyData → Bool
  | .int _ => true
  | _ => false
def isNumD : PyData → Bool
  | .int i => decide (-1000000000 ≤ i) && decide (i ≤ 1000000000)
  | _ => false
def isRankD : PyData → Bool
  | .int i => decide (1 ≤ i) && decide (i ≤ 3)
  | _ => false
section
variable {P : Program} {w : World} {K : PySem.W.Frag} {mg : Str → Option Value} {base : Heap}

def sp_is_whole (K : PySem.W.Frag) : Sp := fun vs H Q _ => ∃ v d, vs = [v] ∧ Dg K H v d ∧ Q (.bl (isWholeD d)) H
theorem ok_is_whole (T : Env K mg) : Fx P w K mg base 1 "is_whole" p_is_whole (sp_is_whole K) := by
  refine T.l_is_whole.ok sc_is_whole (fun vs H Q E h => ?_) (fun f cdv A outer s H vs Q E hr h => ?_)
  · obtain ⟨v, d, rfl, _⟩ := h
    rfl
  · obtain ⟨v, d, rfl, D, k⟩ := h
    refine ⟨_, (pss_one (ps_ret (pe_and (pe_callB (call_isiU (K := K) rfl) (by rfl) T.m_isinstance (by decide +kernel) (pa_cons (pv 0) (pa_cons (pe_bltn (v := .ty "int") (u := .type "int") rfl T.m_int (by decide +kernel) rfl) pa_nil))) (pe_one (pe_not (pe_callB (call_isiU (K := K) rfl) (by rfl) T.m_isinstance (by decide +kernel) (pa_cons (pv 0) (pa_cons (pe_bltn (v := .ty "bool") (u := .type "bool") rfl T.m_bool (by decide +kernel) rfl) pa_nil)))))))), ?_⟩
    walk_at "go"
    cases D with
    | non => walk_at "go"; exact k
    | bl b => walk_at "go"; exact k
    | int i => walk_at "go"; exact k
    | str x => walk_at "go"; exact k
    | tup s _ => refine isT_int s ?_; walk_at "go"; exact k
    | lst s _ => refine isL_int s ?_; walk_at "go"; exact k
    | dct s => refine isD_int s ?_; walk_at "go"; exact k


def sp_is_number (K : PySem.W.Frag) : Sp := fun vs H Q _ => ∃ v d, vs = [v] ∧ Dg K H v d ∧ Q (.bl (isNumD d)) H
theorem ok_is_number (T : Env K mg) : Fx P w K mg base 2 "is_number" p_is_number (sp_is_number K) := by
  refine T.l_is_number.ok sc_is_number (fun vs H Q E h => ?_) (fun f cdv A outer s H vs Q E hr h => ?_)
  · obtain ⟨v, d, rfl, _⟩ := h
    rfl
  · obtain ⟨v, d, rfl, D, k⟩ := h
    refine ⟨_, (pss_one (ps_ret (pe_and (pe_fx (ok_is_whole (P := P) (w := w) T) hr (by decide) (pa_cons (pv 0) pa_nil)) (pe_one (pe_chain op_le op_le (pe_op op_sub pe_int T.pe_GREATEST) (pv 0) T.pe_GREATEST))))), ?_⟩
    walk_at "go"
    refine ⟨v, d, rfl, D, ?_⟩
    cases D with
    | int i =>
      have k : Q (.bl (decide (-1000000000 ≤ i) && decide (i ≤ 1000000000))) H := k
      rw [show isWholeD (.int i) = true from rfl]
      walk_at "go"
      refine ite_d (fun h0 => ?_) (fun h0 => ?_)
      · rw [decide_eq_true (by omega : (-1000000000 : Int) ≤ i), Bool.true_and] at k
        walk_at "go"
        exact k
      · rw [decide_eq_false (by omega : ¬ (-1000000000 : Int) ≤ i), Bool.false_and] at k
        exact k
    | non => walk_at "go"; exact k
    | bl b => walk_at "go"; exact k
    | str x => walk_at "go"; exact k
    | tup s _ => walk_at "go"; exact k
    | lst s _ => walk_at "go"; exact k
    | dct s => walk_at "go"; exact k


def sp_law_is_number (K : PySem.W.Frag) : Sp := fun vs H Q _ => ∃ v d, vs = [v] ∧ Dg K H v d ∧ Q (.bl (isNumD d)) H
theorem ok_law_is_number (T : Env K mg) : Fx P w K mg base 1 "_law_is_number" p_law_is_number (sp_law_is_number K) := by
  refine T.l_law_is_number.ok sc_law_is_number (fun vs H Q E h => ?_) (fun f cdv A outer s H vs Q E hr h => ?_)
  · obtain ⟨v, d, rfl, _⟩ := h
    rfl
  · obtain ⟨v, d, rfl, D, k⟩ := h
    refine ⟨_, (pss_one (ps_ret (pe_and (pe_callB (call_isiU (K := K) rfl) (by rfl) T.m_isinstance (by decide +kernel) (pa_cons (pv 0) (pa_cons (pe_bltn (v := .ty "int") (u := .type "int") rfl T.m_int (by decide +kernel) rfl) pa_nil))) (pe_and (pe_not (pe_callB (call_isiU (K := K) rfl) (by rfl) T.m_isinstance (by decide +kernel) (pa_cons (pv 0) (pa_cons (pe_bltn (v := .ty "bool") (u := .type "bool") rfl T.m_bool (by decide +kernel) rfl) pa_nil)))) (pe_one (pe_chain op_le op_le (pe_un un_neg (pe_op op_pow pe_int pe_int)) (pv 0) (pe_op op_pow pe_int pe_int))))))), ?_⟩
    walk_at "go"
    cases D with
    | int i =>
      have k : Q (.bl (decide (-1000000000 ≤ i) && decide (i ≤ 1000000000))) H := k
      walk_at "go"
      refine ite_d (fun h0 => ?_) (fun h0 => ?_)
      · rw [decide_eq_true h0, Bool.true_and] at k
        walk_at "go"
        exact k
      · rw [decide_eq_false h0, Bool.false_and] at k
        exact k
    | non => walk_at "go"; exact k
    | bl b => walk_at "go"; exact k
    | str x => walk_at "go"; exact k
    | tup s _ => refine isT_int s ?_; walk_at "go"; exact k
    | lst s _ => refine isL_int s ?_; walk_at "go"; exact k
    | dct s => refine isD_int s ?_; walk_at "go"; exact k



end

/-! ### names -/
def letters : Str := "abcdefghijklmnopqrstuvwxyz"
def isNameD : PyData → Bool
  | .str x => decide (1 ≤ x.length) && decide (x.length ≤ 8) && x.cps.toList.all (fun c => decide (c ∈ letters.cps.toList))
  | _ => false

section
variable {P : Program} {w : World} {K : PySem.W.Frag} {mg : Str → Option Value} {base : Heap}
def sp_is_name (K : PySem.W.Frag) : Sp := fun vs H Q _ => ∃ v d, vs = [v] ∧ Dg K H v d ∧ (∀ x, d = .str x → TxOk 1000 x) ∧ ∀ H', Fr [] H H' → Q (.bl (isNameD d)) H'
theorem ok_is_name (T : Env K mg) : Fx P w K mg base 1 "is_name" p_is_name (sp_is_name K) := by
  refine T.l_is_name.ok sc_is_name (fun vs H Q E h => ?_) (fun f cdv A outer s H vs Q E hr h => ?_)
  · obtain ⟨v, d, rfl, _⟩ := h
    rfl
  · obtain ⟨v, d, rfl, D, lx, k⟩ := h
    refine ⟨_, (pss_cons (ps_if (PW.pt (pw_or (pt_not (pt_val (pe_callB (call_isiU (K := K) rfl) (by rfl) T.m_isinstance (by decide +kernel) (pa_cons (pv 0) (pa_cons (pe_bltn (v := .ty "str") (u := .type "str") rfl T.m_str (by decide +kernel) rfl) pa_nil))))) (pw_or (pt_cmpR op_lt (pe_callB (call_lenU (K := K) rfl) (by rfl) T.m_len (by decide +kernel) (pa_cons (pv 0) pa_nil)) pe_int (nomark _)) (pw_or1 (pt_cmpR op_gt (pe_callB (call_lenU (K := K) rfl) (by rfl) T.m_len (by decide +kernel) (pa_cons (pv 0) pa_nil)) pe_int (nomark _)))))) (pss_one (ps_ret pe_bl)) pss_nil)
      (pss_one (ps_ret (pe_callB (call_allU (K := K) rfl rfl) (by rfl) T.m_all (by decide +kernel) (pa_cons (pe_lc (own := [("sign", 1)]) (g := (gName 1)) (tt := tYes) rfl sc_is_name.nd (pi_str (pv 0)) (blkOk_by (N := N_is_name) (sc := defScope s_is_name) (by decide +kernel)) (fun _ _ _ _ _ => (pg_name (i := 1) sc_is_name.nd rfl (Or.inl rfl))) (fun _ _ _ _ _ => pts_nil) (fun _ _ _ _ _ => (pe_cmpR (op_inU (K := K) rfl (u65 hr)) (pv 1) T.pe_LETTERS (by rfl)))) pa_nil))))), ?_⟩
    walk_at "go"
    cases D with
    | str x =>
      have k : ∀ H', Fr [] H H' → Q (.bl (decide (1 ≤ x.length) && decide (x.length ≤ 8) && x.cps.toList.all (fun c => decide (c ∈ letters.cps.toList)))) H' := k
      have lx : x.length ≤ 1000 := (lx x rfl).1
      have lz : x.length ≤ sizeLine := Nat.le_trans lx (by decide)
      walk_at "go"
      refine w_lenS lz ?_
      walk_at "go"
      refine ite_d (fun h0 => ?_) (fun h0 => ?_)
      · rw [decide_eq_false (by omega : ¬ 1 ≤ x.length)] at k
        walk_at "go"
        exact k H Fr.refl
      · walk_at "go"
        refine w_lenS lz ?_
        walk_at "go"
        refine ite_d (fun h1 => ?_) (fun h1 => ?_)
        · rw [decide_eq_false (by omega : ¬ x.length ≤ 8), Bool.and_false] at k
          walk_at "go"
          exact k H Fr.refl
        · rw [decide_eq_true (by omega : 1 ≤ x.length), decide_eq_true (by omega : x.length ≤ 8)] at k
          walk_at "go"
          refine LCS (K := K) (x := x) (fun _ => true) (fun c => .bool (decide (c ∈ letters.cps.toList))) (by omega) ?_ ?_ ?_ fun D H1 nD f1 L1 => ?_
          · intro v; rfl
          · intro c H' f' QB q
            walk_at "go"
            exact q
          · intro c H' f' _ Q q
            walk_at "go"
            exact q _ (.bl _)
          · rw [List.filter_eq_self.mpr (by simp)] at L1
            rw [show (List.map (fun c => PyData.bool (decide (c ∈ letters.cps.toList))) x.cps.toList) = (x.cps.toList.map fun c => decide (c ∈ letters.cps.toList)).map PyData.bool by rw [List.map_map]; rfl] at L1
            walk_at "go"
            refine L1.allB ?_
            have z := k H1 f1
            rw [List.all_map]
            exact z
    | non => walk_at "go"; exact k H Fr.refl
    | bl b => walk_at "go"; exact k H Fr.refl
    | int i => walk_at "go"; exact k H Fr.refl
    | tup s _ => refine isT_str s ?_; walk_at "go"; exact k H Fr.refl
    | lst s _ => refine isL_str s ?_; walk_at "go"; exact k H Fr.refl
    | dct s => refine isD_str s ?_; walk_at "go"; exact k H Fr.refl
end


/-! ### counts, spots, paths -/
def isCountD : PyData → Bool
  | .int i => decide (0 ≤ i)
  | _ => false
def isNoneD : PyData → Bool
  | .none => true
  | _ => false
def isSpotD : PyData → Bool
  | .tuple [a, b] => (isNoneD a || isNumD a) && isCountD b
  | _ => false
def isPathD : PyData → Bool
  | .tuple ss => ss.all isSpotD
  | _ => false
theorem isSpotD_len {es : List PyData} (h : es.length ≠ 2) : isSpotD (.tuple es) = false := by
  unfold isSpotD
  split
  · rename_i e
    cases e
    exact absurd rfl h
  · rfl
section
variable {P : Program} {w : World} {K : PySem.W.Frag} {mg : Str → Option Value} {base : Heap}

def sp_is_count (K : PySem.W.Frag) : Sp := fun vs H Q _ => ∃ v d, vs = [v] ∧ Dg K H v d ∧ Q (.bl (isCountD d)) H
theorem ok_is_count (T : Env K mg) : Fx P w K mg base 1 "is_count" p_is_count (sp_is_count K) := by
  refine T.l_is_count.ok sc_is_count (fun vs H Q E h => ?_) (fun f cdv A outer s H vs Q E hr h => ?_)
  · obtain ⟨v, d, rfl, _⟩ := h
    rfl
  · obtain ⟨v, d, rfl, D, k⟩ := h
    refine ⟨_, (pss_one (ps_ret (pe_and (pe_callB (call_isiU (K := K) rfl) (by rfl) T.m_isinstance (by decide +kernel) (pa_cons (pv 0) (pa_cons (pe_bltn (v := .ty "int") (u := .type "int") rfl T.m_int (by decide +kernel) rfl) pa_nil))) (pe_and (pe_not (pe_callB (call_isiU (K := K) rfl) (by rfl) T.m_isinstance (by decide +kernel) (pa_cons (pv 0) (pa_cons (pe_bltn (v := .ty "bool") (u := .type "bool") rfl T.m_bool (by decide +kernel) rfl) pa_nil)))) (pe_one (pe_cmpR op_ge (pv 0) pe_int (nomark _))))))), ?_⟩
    walk_at "go"
    cases D with
    | int i => walk_at "go"; exact k
    | bl b => walk_at "go"; exact k
    | non => walk_at "go"; exact k
    | str x => walk_at "go"; exact k
    | tup s _ => refine isT_int s ?_; walk_at "go"; exact k
    | lst s _ => refine isL_int s ?_; walk_at "go"; exact k
    | dct s => refine isD_int s ?_; walk_at "go"; exact k


def sp_is_spot (K : PySem.W.Frag) : Sp := fun vs H Q _ => ∃ v d, vs = [v] ∧ Dg K H v d ∧ Q (.bl (isSpotD d)) H
theorem ok_is_spot (T : Env K mg) : Fx P w K mg base 3 "is_spot" p_is_spot (sp_is_spot K) := by
  refine T.l_is_spot.ok sc_is_spot (fun vs H Q E h => ?_) (fun f cdv A outer s H vs Q E hr h => ?_)
  · obtain ⟨v, d, rfl, _⟩ := h
    rfl
  · obtain ⟨v, d, rfl, D, k⟩ := h
    refine ⟨_, (pss_cons (ps_if (PW.pt (pw_or (pt_not (pt_val (pe_callB (call_isiU (K := K) rfl) (by rfl) T.m_isinstance (by decide +kernel) (pa_cons (pv 0) (pa_cons (pe_bltn (v := .ty "tuple") (u := .type "tuple") rfl T.m_tuple (by decide +kernel) rfl) pa_nil))))) (pw_or1 (pt_cmpR (op_neU (K := K) rfl (u64 hr)) (pe_callB (call_lenU (K := K) rfl) (by rfl) T.m_len (by decide +kernel) (pa_cons (pv 0) pa_nil)) pe_int (nomark _))))) (pss_one (ps_ret pe_bl)) pss_nil)
      (pss_one (ps_ret (pe_and (pe_or (pe_cmp (pc_isN (pe_ix (ix_U (K := K) rfl) (pv 0) pe_int (fun _ _ => rfl)))) (pe_one (pe_fx (ok_is_number (P := P) (w := w) T) hr (by decide) (pa_cons (pe_ix (ix_U (K := K) rfl) (pv 0) pe_int (fun _ _ => rfl)) pa_nil)))) (pe_one (pe_fx (ok_is_count (P := P) (w := w) T) hr (by decide) (pa_cons (pe_ix (ix_U (K := K) rfl) (pv 0) pe_int (fun _ _ => rfl)) pa_nil))))))), ?_⟩
    walk_at "go"
    cases D with
    | tup s a =>
      rename_i q vs es
      refine isT_tuple s ?_
      walk_at "go"
      refine w_lenT s ?_
      rw [DgAll.length a]
      walk_at "go"
      refine ite_nd (fun h2 => ?_) (fun h2 => ?_)
      · rw [isSpotD_len (by omega)] at k
        walk_at "go"
        exact k
      · obtain ⟨v1, v2, d1, d2, rfl, rfl, b1, b2⟩ := DgAll.len2 a (by omega)
        have k : Q (.bl ((isNoneD d1 || isNumD d1) && isCountD d2)) H := k
        have count : ∀ c : Bool, (c = true → Q (.bl (isCountD d2)) H) → True := fun _ _ => trivial
        walk_at "go"
        refine w_ixT s rfl ?_
        walk_at "go"
        refine ite_d (fun h0 => ?_) (fun h0 => ?_)
        · have e1 : isNoneD d1 = true := by cases b1 <;> first | rfl | (exact absurd h0 (by intro z; cases z))
          rw [e1, Bool.true_or, Bool.true_and] at k
          walk_at "go"
          refine w_ixT s rfl ?_
          walk_at "go"
          exact ⟨v2, d2, rfl, b2, k⟩
        · have e1 : isNoneD d1 = false := by cases b1 <;> first | rfl | (exact absurd rfl h0)
          rw [e1, Bool.false_or] at k
          walk_at "go"
          refine w_ixT s rfl ?_
          walk_at "go"
          refine ⟨v1, d1, rfl, b1, ?_⟩
          walk_at "go"
          cases e2 : isNumD d1 with
          | false =>
            rw [e2, Bool.false_and] at k
            walk_at "go"
            exact k
          | true =>
            rw [e2, Bool.true_and] at k
            walk_at "go"
            refine w_ixT s rfl ?_
            walk_at "go"
            exact ⟨v2, d2, rfl, b2, k⟩
    | non => walk_at "go"; exact k
    | bl b => walk_at "go"; exact k
    | int i => walk_at "go"; exact k
    | str x => walk_at "go"; exact k
    | lst s _ => refine isL_tuple s ?_; walk_at "go"; exact k
    | dct s => refine isD_tuple s ?_; walk_at "go"; exact k


def sp_is_path (K : PySem.W.Frag) : Sp := fun vs H Q _ => ∃ v d, vs = [v] ∧ Dg K H v d ∧ (∀ ss, d = .tuple ss → ss.length ≤ 1000) ∧ ∀ H', Fr [] H H' → Q (.bl (isPathD d)) H'
theorem ok_is_path (T : Env K mg) : Fx P w K mg base 4 "is_path" p_is_path (sp_is_path K) := by
  refine T.l_is_path.ok sc_is_path (fun vs H Q E h => ?_) (fun f cdv A outer s H vs Q E hr h => ?_)
  · obtain ⟨v, d, rfl, _⟩ := h
    rfl
  · obtain ⟨v, d, rfl, D, ln, k⟩ := h
    refine ⟨_, (pss_one (ps_ret (pe_and (pe_callB (call_isiU (K := K) rfl) (by rfl) T.m_isinstance (by decide +kernel) (pa_cons (pv 0) (pa_cons (pe_bltn (v := .ty "tuple") (u := .type "tuple") rfl T.m_tuple (by decide +kernel) rfl) pa_nil))) (pe_one (pe_callB (call_allU (K := K) rfl rfl) (by rfl) T.m_all (by decide +kernel) (pa_cons (pe_lc (own := [("one", 1)]) (g := (gName 1)) (tt := tYes) rfl sc_is_path.nd (pi_tupU (K := K) rfl (pv 0)) (blkOk_by (N := N_is_path) (sc := defScope s_is_path) (by decide +kernel)) (fun _ _ _ _ _ => (pg_name (i := 1) sc_is_path.nd rfl (Or.inl rfl))) (fun _ _ _ _ _ => pts_nil) (fun _ _ _ _ _ => (pe_fx (ok_is_spot (P := P) (w := w) T) hr (by decide) (pa_cons (pv 1) pa_nil)))) pa_nil)))))), ?_⟩
    walk_at "go"
    cases D with
    | tup s a =>
      rename_i q vs es
      have ln := ln es rfl
      have k : ∀ H', Fr [] H H' → Q (.bl (es.all isSpotD)) H' := k
      refine isT_tuple s ?_
      walk_at "go"
      refine LCBT s a (by omega) isSpotD (fun _ => rfl) (fun d x H' hd f' dx Q' kq => ?_) fun D H1 nD f1 L1 => ?_
      · walk_at "go"
        exact ⟨x, d, rfl, dx, kq H' Fr.refl⟩
      · walk_at "go"
        refine L1.allB ?_
        rw [List.all_map]
        exact k H1 f1
    | non => walk_at "go"; exact k _ Fr.refl
    | bl b => walk_at "go"; exact k _ Fr.refl
    | int i => walk_at "go"; exact k _ Fr.refl
    | str x => walk_at "go"; exact k _ Fr.refl
    | lst s _ => refine isL_tuple s ?_; walk_at "go"; exact k _ Fr.refl
    | dct s => refine isD_tuple s ?_; walk_at "go"; exact k _ Fr.refl

end

/-! ### logs of works, as data -/
/-! ### spots -/
def spD (s : Option Int × Int) : PyData := .tuple [(match s.1 with | some k => .int k | none => .none), .int s.2]
theorem kd_sp : ∀ p : List (Option Int × Int), kdAll (p.map spD) = true
  | [] => rfl
  | (none, n) :: r => by
    rw [List.map_cons, kdAll, kd_sp r]
    rfl
  | (some k, n) :: r => by
    rw [List.map_cons, kdAll, kd_sp r]
    rfl
theorem dp_sp : ∀ p : List (Option Int × Int), PyData.depthAll (p.map spD) ≤ 1
  | [] => by simp [PyData.depthAll]
  | (none, n) :: r => by
    have := dp_sp r
    simp only [List.map_cons, PyData.depthAll, spD, PyData.depth]
    omega
  | (some k, n) :: r => by
    have := dp_sp r
    simp only [List.map_cons, PyData.depthAll, spD, PyData.depth]
    omega
theorem lay_sp : ∀ p : List (Option Int × Int), PyData.canLayAll0 (p.map spD) = true
  | [] => rfl
  | (none, n) :: r => by
    simp only [List.map_cons, PyData.canLayAll0, spD, PyData.canLay0, lay_sp r]
    rfl
  | (some k, n) :: r => by
    simp only [List.map_cons, PyData.canLayAll0, spD, PyData.canLay0, lay_sp r]
    rfl
theorem spD_inj {a b : Option Int × Int} (h : spD a = spD b) : a = b := by
  obtain ⟨a1, a2⟩ := a
  obtain ⟨b1, b2⟩ := b
  cases a1 <;> cases b1 <;> simp [spD] at h ⊢ <;> exact h
theorem spDs_inj : ∀ {a b : List (Option Int × Int)}, a.map spD = b.map spD → a = b
  | [], [], _ => rfl
  | [], _ :: _, h => by simp at h
  | _ :: _, [], h => by simp at h
  | x :: xs, y :: ys, h => by
    rw [List.map_cons, List.map_cons, List.cons.injEq] at h
    rw [spD_inj h.1, spDs_inj h.2]

structure Wkey where
  path : List (Option Int × Int)
  part : Str
  name : Str
  deriving DecidableEq
def Wkey.ds (k : Wkey) : List PyData := [.tuple (k.path.map spD), .str k.part, .str k.name]
def Wkey.d (k : Wkey) : PyData := .tuple k.ds
/-- what the judges call right -/
def Wkey.fit (k : Wkey) : Bool := isPathD (.tuple (k.path.map spD)) && isNameD (.str k.part) && isNameD (.str k.name)
def Wkey.ok (k : Wkey) : Prop := PyData.strOk k.part = true ∧ PyData.strOk k.name = true ∧ k.path.length ≤ 1000
theorem kdW : KeyD Wkey.d where
  kd k := by
    show kdAll k.ds = true
    unfold Wkey.ds
    simp only [kdAll, kd, kd_sp]
    rfl
  dp k := by
    have := dp_sp k.path
    unfold Wkey.d Wkey.ds
    simp only [PyData.depth, PyData.depthAll]
    omega
  inj a b h := by
    obtain ⟨p, x, y⟩ := a
    obtain ⟨q, z, w⟩ := b
    simp only [Wkey.d, Wkey.ds, PyData.tuple.injEq, List.cons.injEq, PyData.str.injEq, and_true] at h
    obtain ⟨h1, rfl, rfl⟩ := h
    rw [spDs_inj h1]
/-- a work that stands -/
def stD (s : Wkey × Int) : PyData := .tuple (s.1.ds ++ [.int s.2])
structure LRow where
  on : Bool
  k : Wkey
  n : Int
def LRow.word (r : LRow) : Str := if r.on then "do" else "undo"
def LRow.d (r : LRow) : PyData := .tuple [.str r.word, .tuple (r.k.path.map spD), .str r.k.part, .str r.k.name, .int r.n]
def stepL (now : List (Wkey × Int)) (r : LRow) : Option (List (Wkey × Int)) :=
  match now.find? (fun s => decide (s.1 = r.k)), r.on with
  | none, true => some (now ++ [(r.k, r.n)])
  | some s, false => if s.2 = r.n then some (now.filter fun s => decide (s.1 ≠ r.k)) else none
  | _, _ => none
def playL (rs : List LRow) : Option (List (Wkey × Int)) := rs.foldl (fun o r => o.bind fun now => stepL now r) (some [])
theorem playL_take {rs : List LRow} {i : Nat} {r : LRow} (h : rs[i]? = some r) : playL (rs.take (i + 1)) = (playL (rs.take i)).bind fun now => stepL now r := take_fold h
theorem play_none : ∀ rs : List LRow, rs.foldl (fun o r => o.bind fun now => stepL now r) none = none
  | [] => rfl
  | r :: t => play_none t
theorem playL_none {rs : List LRow} {i : Nat} (h : playL (rs.take i) = none) : playL rs = none := by
  rw [← List.take_append_drop i rs]
  unfold playL at *
  rw [List.foldl_append, h, play_none]
theorem playL_snoc (rs : List LRow) (r : LRow) : playL (rs ++ [r]) = (playL rs).bind fun now => stepL now r := by
  unfold playL
  rw [List.foldl_append]
  rfl
/-- no work stands twice -/
def Once (now : List (Wkey × Int)) : Prop := (now.map (·.1)).Nodup
theorem find_none {now : List (Wkey × Int)} {k : Wkey} (h : now.find? (fun s => decide (s.1 = k)) = none) : ∀ s ∈ now, s.1 ≠ k := fun s hs e => by
  have := List.find?_eq_none.mp h s hs
  simp [e] at this
theorem find_some {now : List (Wkey × Int)} {k : Wkey} {s : Wkey × Int} (h : now.find? (fun s => decide (s.1 = k)) = some s) : s ∈ now ∧ s.1 = k :=
  ⟨List.mem_of_find?_eq_some h, by simpa using List.find?_some h⟩
theorem step_once {now now' : List (Wkey × Int)} {r : LRow} (o : Once now) (h : stepL now r = some now') : Once now' ∧ now'.length ≤ now.length + 1 := by
  unfold stepL at h
  cases e : now.find? (fun s => decide (s.1 = r.k)) with
  | none =>
    rw [e] at h
    cases hr : r.on with
    | false => rw [hr] at h; cases h
    | true =>
      rw [hr] at h
      cases h
      refine ⟨?_, by simp⟩
      unfold Once
      rw [List.map_append, List.nodup_append]
      refine ⟨o, by simp, ?_⟩
      intro x hx y hy
      obtain ⟨s, hs, rfl⟩ := List.mem_map.mp hx
      simp at hy
      rw [hy]
      exact find_none e s hs
  | some s =>
    rw [e] at h
    cases hr : r.on with
    | true => rw [hr] at h; cases h
    | false =>
      rw [hr] at h
      simp only at h
      split at h
      · cases h
        refine ⟨?_, Nat.le_trans (List.length_filter_le _ _) (by omega)⟩
        exact List.Sublist.nodup (List.Sublist.map _ List.filter_sublist) o
      · cases h
theorem play_once : ∀ {rs : List LRow} {now : List (Wkey × Int)}, playL rs = some now → Once now ∧ now.length ≤ rs.length := by
  intro rs
  induction h : rs.length generalizing rs with
  | zero =>
    intro now e
    rw [List.length_eq_zero_iff.mp h] at e
    cases e
    exact ⟨List.Pairwise.nil, by simp⟩
  | succ n ih =>
    intro now e
    obtain ⟨t, r, rfl⟩ : ∃ t r, rs = t ++ [r] := by
      refine ⟨rs.dropLast, rs.getLast (by rintro rfl; simp at h), (List.dropLast_concat_getLast _).symm⟩
    rw [playL_snoc] at e
    cases e1 : playL t with
    | none => rw [e1] at e; cases e
    | some now1 =>
      rw [e1] at e
      obtain ⟨o, l⟩ := ih (by simpa using h) e1
      obtain ⟨o2, l2⟩ := step_once o e
      refine ⟨o2, ?_⟩
      simp at h
      omega
/-- what stands, as a dict's entries -/
def kvsOf (now : List (Wkey × Int)) : List (Wkey × V) := now.map fun s => (s.1, .int s.2)
theorem at_now (k : Wkey) : ∀ now : List (Wkey × Int), atN (kvsOf now) k = (now.find? fun s => decide (s.1 = k)).map fun s => V.int s.2
  | [] => rfl
  | s :: r => by
    have ih := at_now k r
    unfold atN kvsOf at *
    rw [List.map_cons, List.find?_cons, List.find?_cons]
    by_cases h : s.1 = k
    · rw [decide_eq_true h]
      rfl
    · rw [decide_eq_false h]
      exact ih
theorem put_now {now : List (Wkey × Int)} {k : Wkey} {n : Int} (h : now.find? (fun s => decide (s.1 = k)) = none) : putN (kvsOf now) k (.int n) = kvsOf (now ++ [(k, n)]) := by
  unfold putN
  rw [at_now, h]
  unfold kvsOf
  rw [List.map_append]
  rfl
theorem drop_now {now : List (Wkey × Int)} {k : Wkey} : dropN (kvsOf now) k = kvsOf (now.filter fun s => decide (s.1 ≠ k)) := by
  unfold dropN kvsOf
  rw [List.filter_map]
  rfl

theorem play_all {P : Wkey → Int → Prop} : ∀ {rs : List LRow} {now : List (Wkey × Int)}, (∀ r ∈ rs, P r.k r.n) → playL rs = some now → ∀ s ∈ now, P s.1 s.2 := by
  intro rs
  induction h : rs.length generalizing rs with
  | zero =>
    intro now _ e
    rw [List.length_eq_zero_iff.mp h] at e
    cases e
    intro s hs
    simp at hs
  | succ n ih =>
    intro now hr e
    obtain ⟨t, r, rfl⟩ : ∃ t r, rs = t ++ [r] := by
      refine ⟨rs.dropLast, rs.getLast (by rintro rfl; simp at h), (List.dropLast_concat_getLast _).symm⟩
    rw [playL_snoc] at e
    cases e1 : playL t with
    | none => rw [e1] at e; cases e
    | some now1 =>
      rw [e1] at e
      have o := ih (by simpa using h) (fun r hr' => hr r (by simp [hr'])) e1
      have e : stepL now1 r = some now := e
      unfold stepL at e
      cases ef : now1.find? (fun s => decide (s.1 = r.k)) with
      | none =>
        rw [ef] at e
        cases hon : r.on with
        | false => rw [hon] at e; cases e
        | true =>
          rw [hon] at e
          cases e
          intro s hs
          rcases List.mem_append.mp hs with hs | hs
          · exact o s hs
          · rw [List.mem_singleton.mp hs]
            exact hr r (by simp)
      | some s0 =>
        rw [ef] at e
        cases hon : r.on with
        | true => rw [hon] at e; cases e
        | false =>
          rw [hon] at e
          simp only at e
          split at e
          · cases e
            intro s hs
            exact o s (List.mem_filter.mp hs).1
          · cases e
theorem play_ok {P : Wkey → Prop} {rs : List LRow} {now : List (Wkey × Int)} (h : ∀ r ∈ rs, P r.k) (e : playL rs = some now) : ∀ s ∈ now, P s.1 := play_all (P := fun k _ => P k) h e
/-- a row as the law makes it -/
def Gd (k : Wkey) (n : Int) : Prop := (k.ok ∧ k.path.length ≤ 100 ∧ ∀ s ∈ k.path, s.2 ≤ 1000000) ∧ k.fit = true ∧ -1000000000 ≤ n ∧ n ≤ 1000000000
theorem playL_some {rs : List LRow} {now : List (Wkey × Int)} (h : playL rs = some now) (i : Nat) : ∃ now', playL (rs.take i) = some now' := by
  cases e : playL (rs.take i) with
  | some n => exact ⟨n, rfl⟩
  | none => rw [playL_none e] at h; cases h
theorem same_none {now : List (Wkey × Int)} {k : Wkey} (h : now.find? (fun s => decide (s.1 = k)) = none) : now.filter (fun s => decide (s.1 = k)) = [] := by
  rw [List.filter_eq_nil_iff]
  intro s hs
  simpa using find_none h s hs
theorem same_some {k : Wkey} {s : Wkey × Int} : ∀ {now : List (Wkey × Int)}, Once now → now.find? (fun s => decide (s.1 = k)) = some s → now.filter (fun s => decide (s.1 = k)) = [s]
  | [], _, h => by simp at h
  | x :: r, o, h => by
    unfold Once at o
    rw [List.map_cons, List.nodup_cons] at o
    rw [List.find?_cons] at h
    by_cases e : x.1 = k
    · rw [decide_eq_true e] at h
      cases h
      rw [List.filter_cons, if_pos (by simpa using e)]
      congr 1
      rw [List.filter_eq_nil_iff]
      intro z hz
      simp only [decide_eq_true_eq]
      intro e2
      exact o.1 (List.mem_map.mpr ⟨z, hz, e2.trans e.symm⟩)
    · rw [decide_eq_false e] at h
      rw [List.filter_cons, if_neg (by simpa using e)]
      exact same_some o.2 h
/-- who stands under k is s -/
theorem once_eq {now : List (Wkey × Int)} {s z : Wkey × Int} (o : Once now) (hs : s ∈ now) (hz : z ∈ now) (e : z.1 = s.1) : z = s := by
  induction now with
  | nil => simp at hs
  | cons x r ih =>
    unfold Once at o
    rw [List.map_cons, List.nodup_cons] at o
    rcases List.mem_cons.mp hs with rfl | hs
    · rcases List.mem_cons.mp hz with rfl | hz
      · rfl
      · exact absurd (List.mem_map.mpr ⟨z, hz, e⟩) o.1
    · rcases List.mem_cons.mp hz with rfl | hz
      · have m : z.1 ∈ r.map (·.1) := List.mem_map.mpr ⟨s, by assumption, e.symm⟩
        exact absurd m o.1
      · exact ih o.2 hs hz
mutual
theorem eqv_inj : ∀ a b : PyData, kd a = true → kd b = true → PyData.eqv a b = true → a = b
  | .none, b, _, hb, h => by cases b <;> simp [PyData.eqv, kd] at h hb ⊢
  | .int i, b, _, hb, h => by cases b <;> simp [PyData.eqv, kd] at h hb ⊢; exact h
  | .str x, b, _, hb, h => by cases b <;> simp [PyData.eqv, kd] at h hb ⊢; exact h
  | .tuple ds, b, ha, hb, h => by
    cases b <;> simp [PyData.eqv, kd] at h hb ha ⊢
    exact eqvAll_inj ds _ ha hb h
theorem eqvAll_inj : ∀ a b : List PyData, kdAll a = true → kdAll b = true → PyData.eqvAll a b = true → a = b
  | [], b, _, _, h => by cases b <;> simp [PyData.eqvAll] at h ⊢
  | d :: r, b, ha, hb, h => by
    cases b with
    | nil => simp [PyData.eqvAll] at h
    | cons e t =>
      simp only [kdAll, Bool.and_eq_true] at ha hb
      simp only [PyData.eqvAll, Bool.and_eq_true] at h
      rw [eqv_inj d e ha.1 hb.1 h.1, eqvAll_inj r t ha.2 hb.2 h.2]
end
theorem Wkey.good {k : Wkey} (o : k.ok) : Good 3 k.d := by
  have h1 := lay_sp k.path
  have h2 := dp_sp k.path
  constructor
  · show ((PyData.canLayAll0 (k.path.map spD)) && (PyData.strOk k.part && (PyData.strOk k.name && true))) = true
    rw [h1, o.1, o.2.1]
    rfl
  · show max (PyData.depthAll (k.path.map spD) + 1) (max 0 (max 0 0)) + 1 ≤ 3
    omega
theorem stD_good {s : Wkey × Int} (o : s.1.ok) : Good 3 (stD s) := by
  have h1 := lay_sp s.1.path
  have h2 := dp_sp s.1.path
  constructor
  · show ((PyData.canLayAll0 (s.1.path.map spD)) && (PyData.strOk s.1.part && (PyData.strOk s.1.name && (true && true)))) = true
    rw [h1, o.1, o.2.1]
    rfl
  · show max (PyData.depthAll (s.1.path.map spD) + 1) (max 0 (max 0 (max 0 0))) + 1 ≤ 3
    omega
theorem good_shaped {n : Nat} {d : PyData} (h : Good n d) (hn : n ≤ 64) : SeqAt.shaped d = true := lay_shaped ⟨h.1, Nat.le_trans h.2 hn⟩
theorem eqv_key {a b : Wkey} (ha : a.ok) : PyData.eqv a.d b.d = decide (a = b) := by
  by_cases h : a = b
  · subst h
    rw [decide_eq_true rfl]
    exact shaped_refl (good_shaped (Wkey.good ha) (by decide))
  · rw [decide_eq_false h]
    cases e : PyData.eqv a.d b.d with
    | false => rfl
    | true => exact absurd (kdW.inj _ _ (eqv_inj _ _ (kdW.kd a) (kdW.kd b) e)) h
theorem kd_st (s : Wkey × Int) : kd (stD s) = true := by
  show kdAll [.tuple (s.1.path.map spD), .str s.1.part, .str s.1.name, .int s.2] = true
  simp only [kdAll, kd, kd_sp]
  rfl
theorem stD_inj {a b : Wkey × Int} (h : stD a = stD b) : a = b := by
  obtain ⟨⟨p, x, y⟩, m⟩ := a
  obtain ⟨⟨q, z, w⟩, n⟩ := b
  simp only [stD, Wkey.ds, List.cons_append, List.nil_append, PyData.tuple.injEq, List.cons.injEq, PyData.str.injEq, PyData.int.injEq, and_true] at h
  obtain ⟨h1, rfl, rfl, rfl⟩ := h
  rw [spDs_inj h1]
theorem eqv_st {a b : Wkey × Int} (ha : a.1.ok) : PyData.eqv (stD a) (stD b) = decide (a = b) := by
  by_cases h : a = b
  · subst h
    rw [decide_eq_true rfl]
    exact shaped_refl (good_shaped (stD_good ha) (by decide))
  · rw [decide_eq_false h]
    cases e : PyData.eqv (stD a) (stD b) with
    | false => rfl
    | true => exact absurd (stD_inj (eqv_inj _ _ (kd_st a) (kd_st b) e)) h

section
variable {P : Program} {w : World} {K : PySem.W.Frag} {mg : Str → Option Value} {base : Heap}
theorem row_parts {H : Hp} {v : V} {r : LRow} (h : Dt K H v r.d) : ∃ (a : Addr) (pv : V), v = .ref a ∧ SqT K H a [.str r.word, pv, .str r.k.part, .str r.k.name, .int r.n] ∧ Dt K H pv (.tuple (r.k.path.map spD)) := by
  obtain ⟨a, us, rfl, s, av⟩ := h.tuple
  cases av with
  | cons d1 av =>
  cases av with
  | cons d2 av =>
  cases av with
  | cons d3 av =>
  cases av with
  | cons d4 av =>
  cases av with
  | cons d5 av =>
  cases av
  cases d1; cases d3; cases d4; cases d5
  exact ⟨a, _, rfl, s, d2⟩
def sp_stands_behind (P : Program) (w : World) (K : PySem.W.Frag) : Sp := fun vs H Q _ => ∃ (l : Addr) (rows : List LRow), vs = [.ref l] ∧ Lq K H l (rows.map LRow.d) ∧ rows.length ≤ 1000 ∧ (playL rows = none → ∀ H', Fr [] H H' → Q .non H') ∧
  ∀ now, playL rows = some now → ∀ d H', H d = none → Fr [] H H' → DN P w K Wkey.d H' d (kvsOf now) → Q (.ref d) H'
theorem ok_stands_behind (T : Env K mg) : Fx P w K mg base 1 "stands_behind" p_stands_behind (sp_stands_behind P w K) := by
  refine T.l_stands_behind.ok sc_stands_behind (fun vs H Q E h => ?_) (fun f cdv A outer s H vs Q E hr h => ?_)
  · obtain ⟨l, rows, rfl, _⟩ := h
    rfl
  · obtain ⟨l, rows, rfl, L, lr, kn, ks⟩ := h
    refine ⟨_, (pss_cons (ps_set (i := 1) sc_stands_behind.nd rfl (Or.inl rfl) pe_dnewK)
      (pss_cons (ps_for PassesOwn.never rfl (pi_listU (K := K) rfl (pv 0)) (pg_tupU (K := K) (n := 5) rfl rfl (pgs_cons (pg_name (i := 2) sc_stands_behind.nd rfl (Or.inl rfl)) (pgs_cons (pg_name (i := 3) sc_stands_behind.nd rfl (Or.inl rfl)) (pgs_cons (pg_name (i := 4) sc_stands_behind.nd rfl (Or.inl rfl)) (pgs_cons (pg_name (i := 5) sc_stands_behind.nd rfl (Or.inl rfl)) (pgs_cons (pg_name (i := 6) sc_stands_behind.nd rfl (Or.inl rfl)) pgs_nil)))))) (pss_cons (ps_set (i := 7) sc_stands_behind.nd rfl (Or.inl rfl) (pe_tup (pa_cons (pv 3) (pa_cons (pv 4) (pa_cons (pv 5) pa_nil)))))
      (pss_one (ps_if (pt_cmpR (op_eqU (K := K) rfl (u64 hr)) (pv 2) pe_str (nomark _)) (pss_cons (ps_if (pt_cmpR (op_inNU (P := P) (w := w) (K := K) kdW rfl rfl rfl (u65 hr)) (pv 7) (pv 1) (by rfl)) (pss_one (ps_ret pe_non)) pss_nil)
      (pss_one (ps_asg (pv 6) (pg_sub (pv 1) (pv 7) (set_NU (P := P) (w := w) (K := K) kdW rfl rfl rfl (u65 hr)))))) (pss_cons (ps_if (PW.pt (pw_or (pt_cmpR (op_ninNU (P := P) (w := w) (K := K) kdW rfl rfl rfl (u65 hr)) (pv 7) (pv 1) (by rfl)) (pw_or1 (pt_cmpR (op_neU (K := K) rfl (u64 hr)) (pe_ix (ix_NU (P := P) (w := w) (K := K) kdW rfl rfl rfl (u65 hr)) (pv 1) (pv 7) (fun _ _ => rfl)) (pv 6) (nomark _))))) (pss_one (ps_ret pe_non)) pss_nil)
      (pss_one (ps_expr (pe_mG (ty_NU (P := P) (w := w) (K := K) kdW rfl rfl rfl) PySem.F.plainAttrs_dict PySem.F.slot_dict_pop PySem.F.type_dict_pop (mt_popNU (P := P) (w := w) (K := K) kdW rfl rfl rfl (u65 hr)) (pv 1) (pa_cons (pv 7) pa_nil)))))))))
      (pss_one (ps_ret (pv 1))))), ?_⟩
    walk_at "go"
    refine mkD fun d H1 n1 f1 e1 => ?_
    have nl : l ≠ d := by
      obtain ⟨_, e, _⟩ := L
      rintro rfl
      rw [n1] at e
      cases e
    walk_at "go"
    refine (L.fr0 f1).walk (fun i σ H' => Fr [] H H' ∧ Lq K H' l (rows.map LRow.d) ∧ ∃ (now : List (Wkey × Int)) (v2 v3 v4 v5 v6 v7 : Option V), σ = [some (.ref l), some (.ref d), v2, v3, v4, v5, v6, v7] ∧ playL (rows.take i) = some now ∧ DN P w K Wkey.d H' d (kvsOf now)) ?_ ?_ ?_ ?_
    · exact ⟨f1, L.fr0 f1, [], _, _, _, _, _, _, rfl, rfl, .inl ⟨rfl, e1⟩⟩
    · rintro i σ H' ⟨_, z, _⟩
      exact z
    · rintro i v dd σ H2 hi dv ⟨f2, L2', now, v2, v3, v4, v5, v6, v7, rfl, pn, dn⟩
      obtain ⟨r, hr', rfl⟩ := map_get hi
      obtain ⟨a, pv', rfl, sa, dp⟩ := row_parts dv
      obtain ⟨on, ln⟩ := play_once pn
      have ln' : (kvsOf now).length ≤ 100000 := by
        unfold kvsOf
        rw [List.length_map]
        rw [List.length_take] at ln
        omega
      have stp := playL_take hr'
      rw [pn] at stp
      replace stp : playL (rows.take (i + 1)) = stepL now r := stp
      refine w_gtup sa rfl ?_
      walk_at "go"
      refine mkT (K := K) (.cons dp (.cons (.str _) (.cons (.str _) .nil))) fun p3 H3 n3 f3 d3 => ?_
      have f23 := f2.trans f3
      have dn3 := dn.fr0 f3
      have L3 := L2'.fr0 f3
      have d3 : Dt K H3 (.ref p3) (Wkey.d r.k) := d3
      walk_at "go"
      refine ite_d (fun hw => ?_) (fun hw => ?_)
      · have ron : r.on = true := by
          cases h : r.on with
          | true => rfl
          | false => unfold LRow.word at hw; rw [h] at hw; exact absurd hw (by decide)
        walk_at "go"
        refine w_inN dn3 d3 ?_
        rw [at_now, Option.isSome_map]
        walk_at "go"
        cases hf : now.find? (fun s => decide (s.1 = r.k)) with
        | some s =>
          walk_at "go"
          refine kn ?_ H3 f23
          refine playL_none (i := i + 1) ?_
          rw [stp]
          unfold stepL
          rw [hf, ron]
        | none =>
          refine iteF ?_
          walk_at "go"
          refine w_setN dn3 d3 ln' fun H4 f4 t4 dn4 => ?_
          walk_at "go"
          refine ⟨Fr.drop1 n1 f23 f4, L3.fr f4 (by simpa using nl) t4, now ++ [(r.k, r.n)], _, _, _, _, _, _, rfl, ?_, ?_⟩
          · rw [stp]
            unfold stepL
            rw [hf, ron]
          · rw [← put_now hf]
            exact dn4
      · have ron : r.on = false := by
          cases h : r.on with
          | false => rfl
          | true => unfold LRow.word at hw; rw [h] at hw; exact absurd rfl hw
        walk_at "go"
        refine w_ninN dn3 d3 ?_
        rw [at_now, Option.isSome_map]
        walk_at "go"
        cases hf : now.find? (fun s => decide (s.1 = r.k)) with
        | none =>
          refine iteNF ?_
          walk_at "go"
          refine kn ?_ H3 f23
          refine playL_none (i := i + 1) ?_
          rw [stp]
          unfold stepL
          rw [hf, ron]
        | some s =>
          refine iteNT ?_
          walk_at "go"
          have ha : atN (kvsOf now) r.k = some (.int s.2) := by rw [at_now, hf]; rfl
          refine w_ixN dn3 d3 ha ?_
          walk_at "go"
          refine ite_nd (fun hn => ?_) (fun hn => ?_)
          · walk_at "go"
            refine kn ?_ H3 f23
            refine playL_none (i := i + 1) ?_
            rw [stp]
            unfold stepL
            rw [hf, ron]
            exact if_neg hn
          · walk_at "go"
            refine ⟨dn3.dict, ?_⟩
            walk_at "go"
            refine w_popN dn3 d3 ln' ha fun H4 f4 t4 dn4 => ?_
            refine ⟨Fr.drop1 n1 f23 f4, L3.fr f4 (by simpa using nl) t4, now.filter (fun s => decide (s.1 ≠ r.k)), _, _, _, _, _, _, rfl, ?_, ?_⟩
            · rw [stp]
              unfold stepL
              rw [hf, ron]
              exact if_pos hn
            · rw [← drop_now]
              exact dn4
    · rintro σ H2 ⟨f2, L2', now, v2, v3, v4, v5, v6, v7, rfl, pn, dn⟩
      rw [List.length_map, List.take_length] at pn
      walk_at "go"
      exact ks now pn d H2 n1 f2 dn

def gK (kv : Wkey × V) : PyData := match kv.2 with
  | .int n => .tuple (kv.1.ds ++ [.int n])
  | _ => .none
def sp_standing (K : PySem.W.Frag) : Sp := fun vs H Q _ => ∃ (l : Addr) (rows : List LRow) (now : List (Wkey × Int)), vs = [.ref l] ∧ Lq K H l (rows.map LRow.d) ∧ rows.length ≤ 1000 ∧ playL rows = some now ∧
  ∀ q H', H q = none → Fr [] H H' → Lq K H' q (now.map stD) → Q (.ref q) H'
theorem ok_standing (T : Env K mg) : Fx P w K mg base 2 "standing" p_standing (sp_standing K) := by
  refine T.l_standing.ok sc_standing (fun vs H Q E h => ?_) (fun f cdv A outer s H vs Q E hr h => ?_)
  · obtain ⟨l, rows, _, rfl, _⟩ := h
    rfl
  · obtain ⟨l, rows, now, rfl, L, lr, pn, k⟩ := h
    refine ⟨_, (pss_one (ps_ret (pe_lc (own := [("key", 1), ("number", 2)]) (g := (gTup K 2 (gCons (gName 1) (gCons (gName 2) gNil)))) (tt := tYes) rfl sc_standing.nd (pi_itemsN (P := P) (w := w) (K := K) kdW rfl rfl rfl (pe_fx (ok_stands_behind (P := P) (w := w) T) hr (by decide) (pa_cons (pv 0) pa_nil))) (blkOk_by (N := N_standing) (sc := defScope s_standing) (by decide +kernel)) (fun _ _ _ _ _ => (pg_tupU (K := K) (n := 2) rfl rfl (pgs_cons (pg_name (i := 1) sc_standing.nd rfl (Or.inl rfl)) (pgs_cons (pg_name (i := 2) sc_standing.nd rfl (Or.inl rfl)) pgs_nil)))) (fun _ _ _ _ _ => pts_nil) (fun _ _ _ _ _ => (pe_op (op_addU (K := K) rfl) (pv 1) (pe_tup (pa_cons (pv 2) pa_nil))))))), ?_⟩
    walk_at "go"
    refine ⟨l, rows, rfl, L, lr, (fun h => by rw [pn] at h; cases h), fun now' pn' d H1 n1 f1 dn => ?_⟩
    rw [pn] at pn'
    cases pn'
    have ln : (kvsOf now).length ≤ 100000 := by
      have := (play_once pn).2
      unfold kvsOf
      rw [List.length_map]
      omega
    refine ITEMS.of dn fun H2 o ks f2 t2 hd hk => fun D nD => ?_
    refine LC_N (K := K) (fun _ => true) gK hd hk ln nD (fun kv b T' H3 KEEP DROP hkv f3 sT db keep _ => ?_) fun q H3 n3 f3 L3 => ?_
    · unfold kvsOf at hkv
      obtain ⟨s, hs, rfl⟩ := List.mem_map.mp hkv
      refine w_gtup sT rfl ?_
      walk_at "go"
      refine mkT (K := K) (.cons (.int _) .nil) fun p4 H4 n4 f4 d4 => ?_
      walk_at "go"
      refine (db.mono f4.tu).cat d4 (by show s.1.ds.length + 1 ≤ 1000; exact Nat.le_of_ble_eq_true rfl) fun p5 H5 f5 d5 => ?_
      exact keep rfl _ _ (f4.trans f5) d5
    · have f02 : Fr [] H H2 := Fr.drop1 n1 f1 f2
      refine k q H3 (f02.free n3) (f02.trans f3) ?_
      rw [List.filter_eq_self.mpr (fun _ _ => rfl)] at L3
      unfold kvsOf at L3
      rw [List.map_map] at L3
      exact L3

end

/-! ### rows of a log, of any data -/
def isDoB : PyData → Bool
  | .str x => decide (x = "do") || decide (x = "undo")
  | _ => false
def isRowD : PyData → Bool
  | .tuple [a, b, c, d, e] => isDoB a && isPathD b && isNameD c && isNameD d && isNumD e
  | _ => false
theorem isRowD_len {es : List PyData} (h : es.length ≠ 5) : isRowD (.tuple es) = false := by
  unfold isRowD
  split
  · rename_i e
    cases e
    exact absurd rfl h
  · rfl
theorem inV_do (x : Str) : inV (.str x) [.str "do", .str "undo"] = isDoB (.str x) := by
  have e : ∀ a : Str, eqV (.str a) (.str x) = decide (x = a) := fun a => by
    show (a == x) = _
    rw [Bool.eq_iff_iff, beq_iff_eq, decide_eq_true_eq]
    exact eq_comm
  show (eqV (.str "do") (.str x) || (eqV (.str "undo") (.str x) || false)) = (decide (x = "do") || decide (x = "undo"))
  rw [e, e, Bool.or_false]
theorem spots_of : ∀ {ss : List PyData}, (∀ s ∈ ss, isSpotD s = true) → ∃ p : List (Option Int × Int), ss = p.map spD
  | [], _ => ⟨[], rfl⟩
  | s :: r, h => by
    obtain ⟨p, e⟩ := spots_of (ss := r) fun x hx => h x (by simp [hx])
    have hs := h s (by simp)
    unfold isSpotD at hs
    split at hs
    · rename_i a b
      simp only [Bool.and_eq_true, Bool.or_eq_true] at hs
      obtain ⟨h1, h2⟩ := hs
      obtain ⟨n, rfl⟩ : ∃ n, b = .int n := by cases b <;> first | exact ⟨_, rfl⟩ | cases h2
      rcases h1 with h1 | h1
      · obtain rfl : a = .none := by cases a <;> first | rfl | cases h1
        exact ⟨(none, n) :: p, by rw [e]; rfl⟩
      · obtain ⟨m, rfl⟩ : ∃ m, a = .int m := by cases a <;> first | exact ⟨_, rfl⟩ | cases h1
        exact ⟨(some m, n) :: p, by rw [e]; rfl⟩
    · cases hs
theorem isNameD_str {d : PyData} (h : isNameD d = true) : ∃ x, d = .str x := by cases d <;> first | exact ⟨_, rfl⟩ | cases h
theorem isNumD_int {d : PyData} (h : isNumD d = true) : ∃ i, d = .int i := by cases d <;> first | exact ⟨_, rfl⟩ | cases h
/-- what the law makes is within bounds -/
theorem gd_path {k : Wkey} {n : Int} (g : Gd k n) : fin 4 (.tuple (k.path.map spD)) = true := by
  have hp : isPathD (.tuple (k.path.map spD)) = true := by
    have h := g.2.1
    unfold Wkey.fit at h
    simp only [Bool.and_eq_true] at h
    exact h.1.1
  have hp : ∀ d ∈ k.path.map spD, isSpotD d = true := List.all_eq_true.mp hp
  refine fin_mk ?_ fun d hd => ?_
  · have := g.1.2.1
    rw [List.length_map]
    omega
  · have h1 := hp d hd
    obtain ⟨⟨o, c⟩, hs, rfl⟩ := List.mem_map.mp hd
    have hc := g.1.2.2 _ hs
    have hc : c ≤ 1000000 := hc
    cases o with
    | none =>
      have h1 : (true && decide (0 ≤ c)) = true := h1
      simp only [Bool.true_and, decide_eq_true_eq] at h1
      simp [spD, fin]
      omega
    | some m =>
      have h1 : ((false || (decide (-1000000000 ≤ m) && decide (m ≤ 1000000000))) && decide (0 ≤ c)) = true := h1
      simp only [Bool.false_or, Bool.and_eq_true, decide_eq_true_eq] at h1
      simp [spD, fin]
      omega
theorem name_fin {x : Str} (o : PyData.strOk x = true) (h : isNameD (.str x) = true) : fin 4 (.str x) = true := by
  have h : (decide (1 ≤ x.length) && decide (x.length ≤ 8) && x.cps.toList.all (fun c => decide (c ∈ letters.cps.toList))) = true := h
  simp only [Bool.and_eq_true, decide_eq_true_eq] at h
  simp only [fin, Bool.and_eq_true, decide_eq_true_eq]
  exact ⟨by omega, o⟩
theorem gd_fin {k : Wkey} {n : Int} (g : Gd k n) : ∀ e ∈ k.ds ++ [.int n], fin 4 e = true := by
  have h := g.2.1
  unfold Wkey.fit at h
  simp only [Bool.and_eq_true] at h
  intro e he
  simp only [Wkey.ds, List.cons_append, List.nil_append, List.mem_cons, List.not_mem_nil, or_false] at he
  rcases he with rfl | rfl | rfl | rfl
  · exact gd_path g
  · exact name_fin g.1.1.1 h.1.2
  · exact name_fin g.1.1.2.1 h.2
  · have := g.2.2
    simp only [fin, Bool.and_eq_true, decide_eq_true_eq]
    omega
theorem row_fin {r : LRow} (g : Gd r.k r.n) : fin 5 r.d = true := by
  refine fin_mk (by exact Nat.le_of_ble_eq_true rfl) fun e he => ?_
  rcases List.mem_cons.mp he with rfl | he
  · unfold LRow.word
    cases r.on <;> decide +kernel
  · exact gd_fin g e he
/-- a row that is right -/
def LRow.right (r : LRow) : Prop := r.k.ok ∧ isRowD r.d = true
theorem isRowD_row {d : PyData} {n : Nat} (h : isRowD d = true) (f : fin (n + 2) d = true) : ∃ r : LRow, d = r.d ∧ r.right := by
  have h0 := h
  unfold isRowD at h
  split at h
  · rename_i a b c d e
    simp only [Bool.and_eq_true] at h
    obtain ⟨⟨⟨⟨h1, h2⟩, h3⟩, h4⟩, h5⟩ := h
    have fe := (fin_tuple f).2
    obtain ⟨x, rfl⟩ := isNameD_str h3
    obtain ⟨y, rfl⟩ := isNameD_str h4
    obtain ⟨i, rfl⟩ := isNumD_int h5
    obtain ⟨ss, rfl⟩ : ∃ ss, b = .tuple ss := by cases b <;> first | exact ⟨_, rfl⟩ | cases h2
    obtain ⟨p, rfl⟩ := spots_of (ss := ss) (by simpa [isPathD] using h2)
    have lp : p.length ≤ 200 := by
      have := (fin_tuple (fe (.tuple (p.map spD)) (by simp))).1
      rwa [List.length_map] at this
    have ox := (fin_str (fe (.str x) (by simp))).2
    have oy := (fin_str (fe (.str y) (by simp))).2
    obtain ⟨w, rfl⟩ : ∃ w, a = .str w := by cases a <;> first | exact ⟨_, rfl⟩ | cases h1
    have hw : w = "do" ∨ w = "undo" := by simpa [isDoB] using h1
    rcases hw with rfl | rfl
    · exact ⟨⟨true, ⟨p, x, y⟩, i⟩, rfl, ⟨ox, oy, by show p.length ≤ 1000; omega⟩, h0⟩
    · exact ⟨⟨false, ⟨p, x, y⟩, i⟩, rfl, ⟨ox, oy, by show p.length ≤ 1000; omega⟩, h0⟩
  · cases h
theorem Gd.right {r : LRow} (g : Gd r.k r.n) : r.right := by
  refine ⟨g.1.1, ?_⟩
  have h := g.2.1
  unfold Wkey.fit at h
  simp only [Bool.and_eq_true] at h
  show (isDoB (.str r.word) && isPathD _ && isNameD _ && isNameD _ && isNumD (.int r.n)) = true
  rw [h.1.1, h.1.2, h.2]
  have e1 : isDoB (.str r.word) = true := by
    unfold LRow.word
    cases r.on <;> decide +kernel
  have e2 : isNumD (.int r.n) = true := by
    show (decide _ && decide _) = true
    rw [decide_eq_true g.2.2.1, decide_eq_true g.2.2.2]
    rfl
  rw [e1, e2]
  rfl
theorem LRow.kd (r : LRow) : U.kd r.d = true := by
  show kdAll [.str r.word, .tuple (r.k.path.map spD), .str r.k.part, .str r.k.name, .int r.n] = true
  simp only [kdAll, U.kd, kd_sp]
  rfl
theorem lrows_kd : ∀ xs : List LRow, kdAll (xs.map LRow.d) = true
  | [] => rfl
  | x :: xs => by
    rw [List.map_cons, kdAll, LRow.kd x, lrows_kd xs]
    rfl
theorem LRow.d_inj {a b : LRow} (h : a.d = b.d) : a = b := by
  obtain ⟨o1, ⟨p, x, y⟩, m⟩ := a
  obtain ⟨o2, ⟨q, z, w⟩, n⟩ := b
  simp only [LRow.d, PyData.tuple.injEq, List.cons.injEq, PyData.str.injEq, PyData.int.injEq, and_true] at h
  obtain ⟨h0, h1, rfl, rfl, rfl⟩ := h
  have e := spDs_inj h1
  have eo : o1 = o2 := by
    unfold LRow.word at h0
    cases o1 <;> cases o2 <;> first | rfl | (simp only [Bool.false_eq_true, if_false, if_true] at h0; exact absurd h0 (by decide))
  rw [e, eo]
theorem lrows_inj : ∀ {xs ys : List LRow}, xs.map LRow.d = ys.map LRow.d → xs = ys
  | [], [], _ => rfl
  | [], _ :: _, h => by simp at h
  | _ :: _, [], h => by simp at h
  | x :: xs, y :: ys, h => by
    rw [List.map_cons, List.map_cons, List.cons.injEq] at h
    rw [LRow.d_inj h.1, lrows_inj h.2]
theorem lrows_of {n : Nat} : ∀ {ds : List PyData}, (∀ d ∈ ds, isRowD d = true) → (∀ d ∈ ds, fin (n + 2) d = true) → ∃ xs : List LRow, ds = xs.map LRow.d ∧ ∀ x ∈ xs, x.right
  | [], _, _ => ⟨[], rfl, by simp⟩
  | d :: r, h, f => by
    obtain ⟨xs, e, o⟩ := lrows_of (ds := r) (fun x hx => h x (by simp [hx])) fun x hx => f x (by simp [hx])
    obtain ⟨x, e2, o2⟩ := isRowD_row (h d (by simp)) (f d (by simp))
    exact ⟨x :: xs, by rw [List.map_cons, ← e2, ← e], fun y hy => by
      rcases List.mem_cons.mp hy with rfl | hy
      · exact o2
      · exact o y hy⟩
/-- a log that is let by -/
def LetsP (d : PyData) : Prop := ∃ xs : List LRow, d = .list (xs.map LRow.d) ∧ (∀ x ∈ xs, x.right) ∧ (playL xs).isSome = true
theorem dtS2 {K : PySem.W.Frag} {H : Hp} {v : V} {a b : Str} (h : Dt K H v (.tuple [.str a, .str b])) : ∃ p, v = .ref p ∧ SqT K H p [.str a, .str b] := by
  obtain ⟨p, us, rfl, s, av⟩ := h.tuple
  cases av with
  | cons d1 av =>
  cases av with
  | cons d2 av =>
  cases av
  cases d1; cases d2
  exact ⟨p, rfl, s⟩
section
variable {P : Program} {w : World} {K : PySem.W.Frag} {mg : Str → Option Value} {base : Heap}
def sp_is_row (K : PySem.W.Frag) : Sp := fun vs H Q _ => ∃ v d, vs = [v] ∧ Dg K H v d ∧ fin 6 d = true ∧ ∀ H', Fr [] H H' → Q (.bl (isRowD d)) H'
theorem ok_is_row (T : Env K mg) : Fx P w K mg base 5 "is_row" p_is_row (sp_is_row K) := by
  refine T.l_is_row.ok sc_is_row (fun vs H Q E h => ?_) (fun f cdv A outer s H vs Q E hr h => ?_)
  · obtain ⟨v, d, rfl, _⟩ := h
    rfl
  · obtain ⟨v, d, rfl, D, fd, k⟩ := h
    refine ⟨_, (pss_cons (ps_if (PW.pt (pw_or (pt_not (pt_val (pe_callB (call_isiU (K := K) rfl) (by rfl) T.m_isinstance (by decide +kernel) (pa_cons (pv 0) (pa_cons (pe_bltn (v := .ty "tuple") (u := .type "tuple") rfl T.m_tuple (by decide +kernel) rfl) pa_nil))))) (pw_or1 (pt_cmpR (op_neU (K := K) rfl (u64 hr)) (pe_callB (call_lenU (K := K) rfl) (by rfl) T.m_len (by decide +kernel) (pa_cons (pv 0) pa_nil)) pe_int (nomark _))))) (pss_one (ps_ret pe_bl)) pss_nil)
      (pss_cons (ps_if (PW.pt (pw_or (pt_not (pt_val (pe_callB (call_isiU (K := K) rfl) (by rfl) T.m_isinstance (by decide +kernel) (pa_cons (pe_ix (ix_U (K := K) rfl) (pv 0) pe_int (fun _ _ => rfl)) (pa_cons (pe_bltn (v := .ty "str") (u := .type "str") rfl T.m_str (by decide +kernel) rfl) pa_nil))))) (pw_or1 (pt_cmpR (op_ninU (K := K) rfl (u65 hr)) (pe_ix (ix_U (K := K) rfl) (pv 0) pe_int (fun _ _ => rfl)) (pe_tup (pa_cons pe_str (pa_cons pe_str pa_nil))) (by rfl))))) (pss_one (ps_ret pe_bl)) pss_nil)
      (pss_one (ps_ret (pe_and (pe_fx (ok_is_path (P := P) (w := w) T) hr (by decide) (pa_cons (pe_ix (ix_U (K := K) rfl) (pv 0) pe_int (fun _ _ => rfl)) pa_nil)) (pe_and (pe_fx (ok_is_name (P := P) (w := w) T) hr (by decide) (pa_cons (pe_ix (ix_U (K := K) rfl) (pv 0) pe_int (fun _ _ => rfl)) pa_nil)) (pe_and (pe_fx (ok_is_name (P := P) (w := w) T) hr (by decide) (pa_cons (pe_ix (ix_U (K := K) rfl) (pv 0) pe_int (fun _ _ => rfl)) pa_nil)) (pe_one (pe_fx (ok_is_number (P := P) (w := w) T) hr (by decide) (pa_cons (pe_ix (ix_U (K := K) rfl) (pv 0) pe_int (fun _ _ => rfl)) pa_nil)))))))))), ?_⟩
    walk_at "go"
    cases D with
    | tup s a =>
      rename_i q vs es
      refine isT_tuple s ?_
      walk_at "go"
      refine w_lenT s ?_
      rw [DgAll.length a]
      walk_at "go"
      have fe := (fin_tuple fd).2
      refine ite_nd (fun h2 => ?_) (fun h2 => ?_)
      · rw [isRowD_len (by omega)] at k
        walk_at "go"
        exact k _ Fr.refl
      · obtain ⟨v1, v2, v3, v4, v5, d1, d2, d3, d4, d5, rfl, rfl, b1, b2, b3, b4, b5⟩ := DgAll.len5 a (by omega)
        have k : ∀ H', Fr [] H H' → Q (.bl (isDoB d1 && isPathD d2 && isNameD d3 && isNameD d4 && isNumD d5)) H' := k
        walk_at "go"
        refine w_ixT s rfl ?_
        walk_at "go"
        cases b1 with
        | str x =>
          walk_at "go"
          refine w_ixT s rfl ?_
          walk_at "go"
          refine mkT (K := K) (.cons (.str "do") (.cons (.str "undo") .nil)) fun p1 H1 n1 f1 e1 => ?_
          obtain ⟨p2, e2, s2⟩ := dtS2 e1
          cases e2
          refine w_ninT s2 rfl rfl ?_
          rw [inV_do]
          replace s := f1.seqT s (by simp)
          replace b2 := b2.fr f1
          replace b3 := b3.fr f1
          replace b4 := b4.fr f1
          replace b5 := b5.fr f1
          walk_at "go"
          cases ed : isDoB (.str x) with
          | false =>
            rw [ed] at k
            refine iteT ?_
            walk_at "go"
            exact k _ f1
          | true =>
            rw [ed, Bool.true_and] at k
            refine iteF ?_
            walk_at "go"
            refine w_ixT s rfl ?_
            walk_at "go"
            refine ⟨v2, d2, rfl, b2, (fun ss e => ?_), fun H2 f2 => ?_⟩
            · have := (fin_tuple (e ▸ fe d2 (by simp) : fin 5 (.tuple ss) = true)).1
              omega
            have f12 := f1.trans f2
            walk_at "go"
            cases e2 : isPathD d2 with
            | false =>
              rw [e2] at k
              walk_at "go"
              exact k _ f12
            | true =>
              rw [e2, Bool.true_and] at k
              walk_at "go"
              refine w_ixT (f2.seqT s (by simp)) rfl ?_
              walk_at "go"
              refine ⟨v3, d3, rfl, b3.fr f2, (fun x e => fin_str (e ▸ fe d3 (by simp))), fun H3 f3 => ?_⟩
              walk_at "go"
              cases e3 : isNameD d3 with
              | false =>
                rw [e3] at k
                walk_at "go"
                exact k _ (f12.trans f3)
              | true =>
                rw [e3, Bool.true_and] at k
                walk_at "go"
                refine w_ixT ((f2.trans f3).seqT s (by simp)) rfl ?_
                walk_at "go"
                refine ⟨v4, d4, rfl, b4.fr (f2.trans f3), (fun x e => fin_str (e ▸ fe d4 (by simp))), fun H4 f4 => ?_⟩
                have f24 := (f2.trans f3).trans f4
                walk_at "go"
                cases e4 : isNameD d4 with
                | false =>
                  rw [e4] at k
                  walk_at "go"
                  exact k _ (f1.trans f24)
                | true =>
                  rw [e4, Bool.true_and] at k
                  walk_at "go"
                  refine w_ixT (f24.seqT s (by simp)) rfl ?_
                  walk_at "go"
                  exact ⟨v5, d5, rfl, b5.fr f24, k _ (f1.trans f24)⟩
        | non => walk_at "go"; exact k _ Fr.refl
        | bl b => walk_at "go"; exact k _ Fr.refl
        | int i => walk_at "go"; exact k _ Fr.refl
        | tup s1 _ => refine isT_str s1 ?_; walk_at "go"; exact k _ Fr.refl
        | lst s1 _ => refine isL_str s1 ?_; walk_at "go"; exact k _ Fr.refl
        | dct s1 => refine isD_str s1 ?_; walk_at "go"; exact k _ Fr.refl
    | non => walk_at "go"; exact k _ Fr.refl
    | bl b => walk_at "go"; exact k _ Fr.refl
    | int i => walk_at "go"; exact k _ Fr.refl
    | str x => walk_at "go"; exact k _ Fr.refl
    | lst s _ => refine isL_tuple s ?_; walk_at "go"; exact k _ Fr.refl
    | dct s => refine isD_tuple s ?_; walk_at "go"; exact k _ Fr.refl
def sp_lets_log (K : PySem.W.Frag) : Sp := fun vs H Q _ => ∃ v d, vs = [v] ∧ Ld K H v d ∧ (∀ ds, d = .list ds → ds.length ≤ 1000 ∧ ∀ e ∈ ds, fin 6 e = true) ∧ ∀ H' k, Fr [] H H' → (k = true ↔ LetsP d) → Q (.bl k) H'
theorem no_lets {d : PyData} (h : ∀ ds, d ≠ .list ds) : (false = true ↔ LetsP d) := ⟨fun z => (by cases z), fun ⟨_, e, _⟩ => absurd e (h _)⟩
theorem no_row {ds : List PyData} (h : (ds.map isRowD).all id = false) : ¬ LetsP (.list ds) := by
  rintro ⟨ys, e, oy, _⟩
  have e' : ds = ys.map LRow.d := by injection e
  rw [List.all_map, List.all_eq_false] at h
  obtain ⟨d, hd, hn⟩ := h
  rw [e'] at hd
  obtain ⟨y, hy, rfl⟩ := List.mem_map.mp hd
  exact hn (oy y hy).2
theorem lets_iff {xs : List LRow} (o : ∀ x ∈ xs, x.right) {c : Bool} (h : (playL xs).isSome = c) : c = true ↔ LetsP (.list (xs.map LRow.d)) :=
  ⟨fun z => ⟨xs, rfl, o, by rw [h]; exact z⟩, fun ⟨ys, e, _, l⟩ => by
    rw [← h, lrows_inj (xs := xs) (ys := ys) (by injection e)]
    exact l⟩
theorem ok_lets_log (T : Env K mg) : Fx P w K mg base 6 "lets_log" p_lets_log (sp_lets_log K) := by
  refine T.l_lets_log.ok sc_lets_log (fun vs H Q E h => ?_) (fun f cdv A outer s H vs Q E hr h => ?_)
  · obtain ⟨v, d, rfl, _⟩ := h
    rfl
  · obtain ⟨v, d, rfl, ⟨D, DL⟩, fd, k⟩ := h
    refine ⟨_, (pss_cons (ps_if (PW.pt (pw_or (pt_not (pt_val (pe_callB (call_isiU (K := K) rfl) (by rfl) T.m_isinstance (by decide +kernel) (pa_cons (pv 0) (pa_cons (pe_bltn (v := .ty "list") (u := .type "list") rfl T.m_list (by decide +kernel) rfl) pa_nil))))) (pw_or1 (pt_not (pt_val (pe_callB (call_allU (K := K) rfl rfl) (by rfl) T.m_all (by decide +kernel) (pa_cons (pe_lc (own := [("row", 1)]) (g := (gName 1)) (tt := tYes) rfl sc_lets_log.nd (pi_listU (K := K) rfl (pv 0)) (blkOk_by (N := N_lets_log) (sc := defScope s_lets_log) (by decide +kernel)) (fun _ _ _ _ _ => (pg_name (i := 1) sc_lets_log.nd rfl (Or.inl rfl))) (fun _ _ _ _ _ => pts_nil) (fun _ _ _ _ _ => (pe_fx (ok_is_row (P := P) (w := w) T) hr (by decide) (pa_cons (pv 1) pa_nil)))) pa_nil))))))) (pss_one (ps_ret pe_bl)) pss_nil)
      (pss_one (ps_ret (pe_cmp (pc_notN (pe_fx (ok_stands_behind (P := P) (w := w) T) hr (by decide) (pa_cons (pv 0) pa_nil))))))), ?_⟩
    walk_at "go"
    cases D with
    | non => walk_at "go"; exact k H false Fr.refl (no_lets (fun _ h => by cases h))
    | bl b => walk_at "go"; exact k H false Fr.refl (no_lets (fun _ h => by cases h))
    | int i => walk_at "go"; exact k H false Fr.refl (no_lets (fun _ h => by cases h))
    | str x => walk_at "go"; exact k H false Fr.refl (no_lets (fun _ h => by cases h))
    | tup s _ => refine isT_list s ?_; walk_at "go"; exact k H false Fr.refl (no_lets (fun _ h => by cases h))
    | dct s => refine isD_list s ?_; walk_at "go"; exact k H false Fr.refl (no_lets (fun _ h => by cases h))
    | lst s0 a0 =>
      rename_i q0 vs0 ds
      obtain ⟨q, vs, e, hq, a⟩ := DL ds rfl
      cases e
      have s := SqL.of (K := K) hq
      obtain ⟨ld, fe⟩ := fd ds rfl
      refine isL_list s ?_
      walk_at "go"
      refine LCB s a (by omega) isRowD (fun _ => rfl) ?_ fun D H1 nD f1 L1 => ?_
      · intro d x H' hd f' dx Q' kq
        walk_at "go"
        exact ⟨x, d, rfl, dx, fe d hd, fun H5 g5 => kq _ g5⟩
      · walk_at "go"
        refine L1.allB ?_
        cases eall : (ds.map isRowD).all id with
        | false =>
          walk_at "go"
          exact k H1 false f1 ⟨fun z => (by cases z), fun z => absurd z (no_row eall)⟩
        | true =>
          rw [List.all_map, List.all_eq_true] at eall
          obtain ⟨xs, rfl, ok⟩ := lrows_of (ds := ds) (n := 4) eall fe
          have lx : xs.length ≤ 1000 := by rw [List.length_map] at ld; exact ld
          have L2 : Lq K H1 q0 (xs.map LRow.d) := ⟨vs, f1 _ _ hq (by simp), kd_dts (DgAll.fr f1 a) (lrows_kd xs)⟩
          walk_at "go"
          refine ⟨q0, xs, rfl, L2, lx, fun pn H2 f2 => ?_, fun now pn d2 H2 n2 f2 _ => ?_⟩
          · refine k H2 _ (f1.trans f2) (lets_iff ok (c := decide (¬ V.non = V.non)) (by rw [pn]; rfl))
          · refine k H2 _ (f1.trans f2) (lets_iff ok (c := decide (¬ V.ref d2 = V.non)) (by rw [pn]; rfl))
end

section
variable {P : Program} {w : World} {K : PySem.W.Frag} {mg : Str → Option Value} {base : Heap}
/-- a small number, or one of six -/
def sp_law_number (K : PySem.W.Frag) : Sp := fun vs H Q _ => ∃ (t : Addr) (H0 : Hp), vs = [.ref t] ∧ Tape K H0 H t ∧ ∀ r H', -1000000000 ≤ r ∧ r ≤ 1000000000 → Fr [t] H H' → Tape K H0 H' t → Q (.int r) H'
theorem ok_law_number (T : Env K mg) : Fx P w K mg base 2 "_law_number" p_law_number (sp_law_number K) := by
  refine T.l_law_number.ok sc_law_number (fun vs H Q E h => ?_) (fun f cdv A outer s H vs Q E hr h => ?_)
  · obtain ⟨t, _, rfl, _⟩ := h
    rfl
  · obtain ⟨t, H0, rfl, hT, k⟩ := h
    refine ⟨_, (pss_cons (ps_if (pt_cmpR op_gt (pe_fx (ok_law_draw (P := P) (w := w) T) hr (by decide) (pa_cons (pv 0) (pa_cons pe_int pa_nil))) pe_int (nomark _)) (pss_one (ps_ret (pe_op op_sub (pe_fx (ok_law_draw (P := P) (w := w) T) hr (by decide) (pa_cons (pv 0) (pa_cons pe_int pa_nil))) pe_int))) pss_nil)
      (pss_one (ps_ret (pe_ix (ix_U (K := K) rfl) (pe_lst (pa_cons (pe_op op_pow pe_int pe_int) (pa_cons (pe_un un_neg (pe_op op_pow pe_int pe_int)) (pa_cons pe_int (pa_cons (pe_un un_neg pe_int) (pa_cons pe_int (pa_cons pe_int pa_nil))))))) (pe_fx (ok_law_draw (P := P) (w := w) T) hr (by decide) (pa_cons (pv 0) (pa_cons pe_int pa_nil))) (fun _ _ => rfl))))), ?_⟩
    walk_at "go"
    refine ⟨t, 8, H0, rfl, hT, by decide, by decide, fun r H1 r0 r1 f1 T1 => ?_⟩
    walk_at "go"
    refine ite_d (fun h0 => ?_) (fun h0 => ?_)
    · walk_at "go"
      refine ⟨t, 9, H0, rfl, T1, by decide, by decide, fun r2 H2 r20 r21 f2 T2 => ?_⟩
      walk_at "go"
      exact k _ _ (by omega) (f1.trans f2) T2
    · walk_at "go"
      refine ⟨by show 6 ≤ sizeLine; decide, fun l hl => ?_⟩
      walk_at "go"
      refine ⟨t, 6, H0, rfl, T1.new hl, by decide, by decide, fun r2 H2 r20 r21 f2 T2 => ?_⟩
      have e2 : H2 l = some (.lst (([1000000000, -1000000000, 999983, -70001, 31623, 40000] : List Int).map V.int)) := f2 _ _ upd_same (by simpa using T1.ne hl)
      obtain ⟨z, hz, hb⟩ := at_all (ns := [1000000000, -1000000000, 999983, -70001, 31623, 40000]) (P := fun r => -1000000000 ≤ r ∧ r ≤ 1000000000) (by decide) r20 r21
      refine w_ixL (SqL.of e2) hz ?_
      exact k _ _ hb ((f1.trans (Fr.new hl)).trans f2) T2

end

section
variable {P : Program} {w : World} {K : PySem.W.Frag} {mg : Str → Option Value} {base : Heap}

def sp_law_stands (K : PySem.W.Frag) : Sp := fun vs H Q _ => ∃ (l : Addr) (rows : List LRow), vs = [.ref l] ∧ Lq K H l (rows.map LRow.d) ∧ rows.length ≤ 1000 ∧ (∀ r ∈ rows, r.k.ok) ∧ (playL rows = none → ∀ H', Fr [] H H' → Q .non H') ∧
  ∀ now, playL rows = some now → ∀ q H', H q = none → Fr [] H H' → Lq K H' q (now.map stD) → Q (.ref q) H'
theorem _root_.U.Lq.nil {K : PySem.W.Frag} {H : Hp} {q : Addr} (h : Lq K H q []) : H q = some (.lst []) := by
  obtain ⟨vs, e, a⟩ := h
  cases a
  exact e
theorem st_shaped {now : List (Wkey × Int)} (h : ∀ s ∈ now, s.1.ok) : SeqAt.shaped (.list (now.map stD)) = true := shaped_list (n := 3) (by decide) fun d hd => by
  obtain ⟨s, hs, rfl⟩ := List.mem_map.mp hd
  exact stD_good (h s hs)
theorem ok_law_stands (T : Env K mg) : Fx P w K mg base 1 "_law_stands" p_law_stands (sp_law_stands K) := by
  refine T.l_law_stands.ok sc_law_stands (fun vs H Q E h => ?_) (fun f cdv A outer s H vs Q E hr h => ?_)
  · obtain ⟨l, rows, rfl, _⟩ := h
    rfl
  · obtain ⟨l, rows, rfl, L, lr, okr, kn, ks⟩ := h
    refine ⟨_, (pss_cons (ps_set (i := 1) sc_law_stands.nd rfl (Or.inl rfl) (pe_lst pa_nil))
      (pss_cons (ps_for PassesOwn.never rfl (pi_listU (K := K) rfl (pv 0)) (pg_tupU (K := K) (n := 5) rfl rfl (pgs_cons (pg_name (i := 2) sc_law_stands.nd rfl (Or.inl rfl)) (pgs_cons (pg_name (i := 3) sc_law_stands.nd rfl (Or.inr rfl)) (pgs_cons (pg_name (i := 4) sc_law_stands.nd rfl (Or.inr rfl)) (pgs_cons (pg_name (i := 5) sc_law_stands.nd rfl (Or.inr rfl)) (pgs_cons (pg_name (i := 6) sc_law_stands.nd rfl (Or.inl rfl)) pgs_nil)))))) (pss_cons (ps_set (i := 7) sc_law_stands.nd rfl (Or.inr rfl) (pe_lc (own := [("_law_one", 8)]) (g := (gName 8)) rfl sc_law_stands.nd (pi_listU (K := K) rfl (pv 1)) (blkOk_by (N := N_law_stands) (sc := defScope s_law_stands) (by decide +kernel)) (fun _ _ _ _ _ => (pg_name (i := 8) sc_law_stands.nd rfl (Or.inl rfl))) (fun _ _ _ _ _ => (pts_one (pt_cmpR (op_eqU (K := K) rfl (u64 hr)) (pe_slice (sl_U (K := K) rfl) (pv 8) po_none (po_some pe_int)) (pe_tup (pa_cons (pv 3) (pa_cons (pv 4) (pa_cons (pv 5) pa_nil)))) (nomark _)))) (fun _ _ _ _ _ => (pv 8))))
      (pss_cons (ps_if (PW.pt (pw_or (PW.pt (pw_and (pt_cmpR (op_eqU (K := K) rfl (u64 hr)) (pv 2) pe_str (nomark _)) (pw_and1 (pt_cmpR (op_neU (K := K) rfl (u64 hr)) (pv 7) (pe_lst pa_nil) (nomark _))))) (pw_or1 (PW.pt (pw_and (pt_cmpR (op_eqU (K := K) rfl (u64 hr)) (pv 2) pe_str (nomark _)) (pw_and1 (pt_cmpR (op_neU (K := K) rfl (u64 hr)) (pv 7) (pe_lst (pa_cons (pe_tup (pa_cons (pv 3) (pa_cons (pv 4) (pa_cons (pv 5) (pa_cons (pv 6) pa_nil))))) pa_nil)) (nomark _)))))))) (pss_one (ps_ret pe_non)) pss_nil)
      (pss_cons (ps_setLc (i := 1) (own := [("_law_one", 8)]) (g := (gName 8)) rfl sc_law_stands.nd rfl rfl (sw_true rfl rfl rfl (by decide +kernel)) (pi_listU (K := K) rfl (pv 1)) (blkOk_by (N := N_law_stands) (sc := defScope s_law_stands) (by decide +kernel)) (fun _ _ _ _ _ => (pg_name (i := 8) sc_law_stands.nd rfl (Or.inl rfl))) (fun _ _ _ _ _ => (pts_one (pt_cmpR (op_ninU (K := K) rfl (u65 hr)) (pv 8) (pv 7) (by rfl)))) (fun _ _ _ _ _ => (pv 8)))
      (pss_one (ps_if (pt_cmpR (op_eqU (K := K) rfl (u64 hr)) (pv 2) pe_str (nomark _)) (pss_one (ps_expr (pe_bm PySem.F.plainAttrs_list PySem.F.slot_list_append PySem.F.type_list_append mt_append (pv 1) (pa_cons (pe_tup (pa_cons (pv 3) (pa_cons (pv 4) (pa_cons (pv 5) (pa_cons (pv 6) pa_nil))))) pa_nil)))) pss_nil))))))
      (pss_one (ps_ret (pv 1))))), ?_⟩
    walk_at "go"
    refine mkL (K := K) .nil fun q1 H1 n1 f1 L1 => ?_
    walk_at "go"
    refine (L.fr0 f1).walk (fun i σ H' => Fr [] H H' ∧ Lq K H' l (rows.map LRow.d) ∧ ∃ (q : Addr) (now : List (Wkey × Int)) (v2 v3 v4 v5 v6 v7 v8 : Option V), σ = [some (.ref l), some (.ref q), v2, v3, v4, v5, v6, v7, v8] ∧ H q = none ∧ playL (rows.take i) = some now ∧ Lq K H' q (now.map stD)) ?_ ?_ ?_ ?_
    · exact ⟨f1, L.fr0 f1, q1, [], _, _, _, _, _, _, _, rfl, n1, rfl, L1⟩
    · rintro i σ H' ⟨_, z, _⟩
      exact z
    · rintro i v dd σ H2 hi dv ⟨f2, L2', q, now, v2, v3, v4, v5, v6, v7, v8, rfl, nq, pn, Lq2⟩
      obtain ⟨r, hr', rfl⟩ := map_get hi
      have okk := okr r (List.mem_of_getElem? hr')
      obtain ⟨a, pv', rfl, sa, dp⟩ := row_parts dv
      obtain ⟨on, ln⟩ := play_once pn
      have okn : ∀ s ∈ now, s.1.ok := play_ok (fun r hr => okr r (List.mem_of_mem_take hr)) pn
      have ln' : now.length ≤ 1000 := by
        rw [List.length_take] at ln
        omega
      have stp := playL_take hr'
      rw [pn] at stp
      replace stp : playL (rows.take (i + 1)) = stepL now r := stp
      refine w_gtup sa rfl ?_
      walk_at "go"
      refine LCX_L (K := K) (cs := now) (dS := stD) (fun s => decide (s.1 = r.k)) stD Lq2 (by omega) ?_ fun q3 H3 n3 f3 L3 => ?_
      · intro c x H' KEEP DROP hc f' dx keep drop
        walk_at "go"
        have dx' : Dt K H' x (.tuple (c.1.ds ++ [.int c.2])) := dx
        refine dx'.slice fun p4 H4 f4 d4 => ?_
        walk_at "go"
        refine mkT (K := K) (.cons (dp.mono (f'.trans f4).tu) (.cons (.str r.k.part) (.cons (.str r.k.name) .nil))) fun p5 H5 n5 f5 d5 => ?_
        have d4 : Dt K H4 (.ref p4) c.1.d := d4
        have d5 : Dt K H5 (.ref p5) r.k.d := d5
        refine w_eqD (d4.mono f5.tu).dp d5.dp (good_shaped (Wkey.good (okn c hc)) (by decide)) (good_shaped (Wkey.good okk) (by decide)) ?_
        rw [eqv_key (okn c hc)]
        walk_at "go"
        refine ite_d (fun h => ?_) (fun h => ?_)
        · walk_at "go"
          exact keep (decide_eq_true h) _ _ (f4.trans f5) (dx.mono (f4.trans f5).tu)
        · exact drop (decide_eq_false h) _ (f4.trans f5)
      have f23 := f2.trans f3
      have Lq3 := Lq2.fr0 f3
      have L2_3 := L2'.fr0 f3
      walk_at "go"
      cases hon : r.on with
      | true =>
        have ew : r.word = "do" := by unfold LRow.word; rw [hon]; rfl
        rw [ew]
        cases hf : now.find? (fun s => decide (s.1 = r.k)) with
        | some s =>
          rw [same_some on hf] at L3
          have L3 : Lq K H3 q3 [stD s] := L3
          walk_at "go"
          refine ite_d (fun _ => ?_) (fun h => absurd rfl h)
          walk_at "go"
          refine mkL (K := K) .nil fun q4 H4 n4 f4 L4 => ?_
          have oks := okn s (find_some hf).1
          refine w_neNil (L3.fr0 f4).dp L4.nil (st_shaped (now := [s]) (by simpa using oks)) ?_
          walk_at "go"
          refine iteT ?_
          walk_at "go"
          refine kn ?_ H4 (f23.trans f4)
          refine playL_none (i := i + 1) ?_
          rw [stp]
          unfold stepL
          rw [hf, hon]
        | none =>
          rw [same_none hf] at L3
          have L3 : Lq K H3 q3 [] := L3
          walk_at "go"
          refine ite_d (fun _ => ?_) (fun h => absurd rfl h)
          walk_at "go"
          refine mkL (K := K) .nil fun q4 H4 n4 f4 L4 => ?_
          refine w_neNil (L3.fr0 f4).dp L4.nil (by decide) ?_
          walk_at "go"
          refine iteF ?_
          walk_at "go"
          refine ite_d (fun h => absurd h (by decide)) (fun _ => ?_)
          walk_at "go"
          refine LCX_L (K := K) (cs := now) (dS := stD) (fun _ => true) stD (Lq3.fr0 f4) (by omega) ?_ fun q5 H5 n5 f5 L5 => ?_
          · intro c x H' KEEP DROP hc f' dx keep drop
            walk_at "go"
            refine ((L3.fr0 f4).fr0 f').nin dx (good_shaped (stD_good (okn c hc)) (by decide)) (by decide) ?_
            walk_at "go"
            refine iteT ?_
            walk_at "go"
            exact keep rfl _ _ Fr.refl dx
          · rw [List.filter_eq_self.mpr (fun _ _ => rfl)] at L5
            have f35 := f4.trans f5
            walk_at "go"
            refine ite_d (fun _ => ?_) (fun h => absurd rfl h)
            walk_at "go"
            refine ⟨L5.ty, ?_⟩
            walk_at "go"
            refine mkT (K := K) (.cons ((dp.mono f3.tu).mono f35.tu) (.cons (.str r.k.part) (.cons (.str r.k.name) (.cons (.int r.n) .nil)))) fun p6 H6 n6 f6 d6 => ?_
            have d6 : Dt K H6 (.ref p6) (stD (r.k, r.n)) := d6
            walk_at "go"
            refine (L5.fr0 f6).app d6 (by rw [List.length_map]; omega) fun H7 f7 t7 L7 => ?_
            have f06 := (f23.trans f35).trans f6
            have n5' : H q5 = none := (f23.trans f4).free n5
            have nl : l ≠ q5 := by
              obtain ⟨_, e, _⟩ := L
              rintro rfl
              rw [n5'] at e
              cases e
            refine ⟨Fr.drop1 n5' f06 f7, ((L2_3.fr0 f35).fr0 f6).fr f7 (by simpa using nl) t7, q5, now ++ [(r.k, r.n)], _, _, _, _, _, _, _, rfl, n5', ?_, ?_⟩
            · rw [stp]
              unfold stepL
              rw [hf, hon]
            · rw [List.map_append]
              exact L7
      | false =>
        have ew : r.word = "undo" := by unfold LRow.word; rw [hon]; rfl
        rw [ew]
        cases hf : now.find? (fun s => decide (s.1 = r.k)) with
        | none =>
          rw [same_none hf] at L3
          have L3 : Lq K H3 q3 [] := L3
          walk_at "go"
          refine ite_d (fun h => absurd h (by decide)) (fun _ => ?_)
          walk_at "go"
          refine ite_d (fun _ => ?_) (fun h => absurd rfl h)
          walk_at "go"
          refine mkT (K := K) (.cons (dp.mono f3.tu) (.cons (.str r.k.part) (.cons (.str r.k.name) (.cons (.int r.n) .nil)))) fun p4 H4 n4 f4 d4 => ?_
          have d4 : Dt K H4 (.ref p4) (stD (r.k, r.n)) := d4
          walk_at "go"
          refine mkL (K := K) (.cons d4 .nil) fun q5 H5 n5 f5 L5 => ?_
          have f35 := f4.trans f5
          refine w_neD (L3.fr0 f35).dp L5.dp (by decide) (st_shaped (now := [(r.k, r.n)]) (by simpa using okk)) ?_
          walk_at "go"
          refine iteT ?_
          walk_at "go"
          refine kn ?_ H5 (f23.trans f35)
          refine playL_none (i := i + 1) ?_
          rw [stp]
          unfold stepL
          rw [hf, hon]
        | some s =>
          rw [same_some on hf] at L3
          have L3 : Lq K H3 q3 [stD s] := L3
          obtain ⟨ms, ek⟩ := find_some hf
          have oks := okn s ms
          walk_at "go"
          refine ite_d (fun h => absurd h (by decide)) (fun _ => ?_)
          walk_at "go"
          refine ite_d (fun _ => ?_) (fun h => absurd rfl h)
          walk_at "go"
          refine mkT (K := K) (.cons (dp.mono f3.tu) (.cons (.str r.k.part) (.cons (.str r.k.name) (.cons (.int r.n) .nil)))) fun p4 H4 n4 f4 d4 => ?_
          have d4 : Dt K H4 (.ref p4) (stD (r.k, r.n)) := d4
          walk_at "go"
          refine mkL (K := K) (.cons d4 .nil) fun q5 H5 n5 f5 L5 => ?_
          have f35 := f4.trans f5
          refine w_neD (L3.fr0 f35).dp L5.dp (st_shaped (now := [s]) (by simpa using oks)) (st_shaped (now := [(r.k, r.n)]) (by simpa using okk)) ?_
          have ev : PyData.eqv (.list [stD s]) (.list [stD (r.k, r.n)]) = decide (s.2 = r.n) := by
            show (PyData.eqv (stD s) (stD (r.k, r.n)) && true) = _
            rw [eqv_st oks, Bool.and_true]
            obtain ⟨sk, sn⟩ := s
            have ek : sk = r.k := ek
            subst ek
            by_cases e : sn = r.n
            · subst e
              rw [decide_eq_true rfl, decide_eq_true rfl]
            · rw [decide_eq_false (by simpa using e), decide_eq_false e]
          rw [ev]
          walk_at "go"
          refine ite_nd (fun hn => ?_) (fun hn => ?_)
          · walk_at "go"
            refine kn ?_ H5 (f23.trans f35)
            refine playL_none (i := i + 1) ?_
            rw [stp]
            unfold stepL
            rw [hf, hon]
            exact if_neg hn
          · walk_at "go"
            refine LCX_L (K := K) (cs := now) (dS := stD) (fun c => decide (c.1 ≠ r.k)) stD (Lq3.fr0 f35) (by omega) ?_ fun q6 H6 n6 f6 L6 => ?_
            · intro c x H' KEEP DROP hc f' dx keep drop
              walk_at "go"
              refine ((L3.fr0 f35).fr0 f').nin dx (good_shaped (stD_good (okn c hc)) (by decide)) (st_shaped (now := [s]) (by simpa using oks)) ?_
              have e2 : (!([stD s].any fun z => PyData.eqv z (stD c))) = decide (c.1 ≠ r.k) := by
                rw [List.any_cons, List.any_nil, Bool.or_false, eqv_st oks]
                by_cases e : c.1 = r.k
                · have : c = s := once_eq on ms hc (e.trans ek.symm)
                  rw [decide_eq_true this.symm, decide_eq_false (by simpa using e)]
                  rfl
                · rw [decide_eq_false (by rintro rfl; exact e ek), decide_eq_true e]
                  rfl
              rw [e2]
              walk_at "go"
              refine ite_d (fun h => ?_) (fun h => ?_)
              · walk_at "go"
                exact keep (decide_eq_true h) _ _ Fr.refl dx
              · exact drop (decide_eq_false h) _ Fr.refl
            · walk_at "go"
              refine ite_d (fun h => absurd h (by decide)) (fun _ => ?_)
              walk_at "go"
              have f06 := (f23.trans f35).trans f6
              have n6' : H q6 = none := (f23.trans f35).free n6
              refine ⟨f06, (L2_3.fr0 f35).fr0 f6, q6, now.filter (fun s => decide (s.1 ≠ r.k)), _, _, _, _, _, _, _, rfl, n6', ?_, L6⟩
              rw [stp]
              unfold stepL
              rw [hf, hon]
              exact if_pos hn
    · rintro σ H2 ⟨f2, L2', q, now, v2, v3, v4, v5, v6, v7, v8, rfl, nq, pn, Lq2⟩
      rw [List.length_map, List.take_length] at pn
      walk_at "go"
      exact ks now pn q H2 nq f2 Lq2

end

section
variable {P : Program} {w : World} {K : PySem.W.Frag} {mg : Str → Option Value} {base : Heap}
def sp_law_is_name (K : PySem.W.Frag) : Sp := fun vs H Q _ => ∃ v d, vs = [v] ∧ Dg K H v d ∧ (∀ x, d = .str x → TxOk 1000 x) ∧ ∀ H', Fr [] H H' → Q (.bl (isNameD d)) H'
theorem ok_law_is_name (T : Env K mg) : Fx P w K mg base 1 "_law_is_name" p_law_is_name (sp_law_is_name K) := by
  refine T.l_law_is_name.ok sc_law_is_name (fun vs H Q E h => ?_) (fun f cdv A outer s H vs Q E hr h => ?_)
  · obtain ⟨v, d, rfl, _⟩ := h
    rfl
  · obtain ⟨v, d, rfl, D, lx, k⟩ := h
    refine ⟨_, (pss_cons (ps_if (PW.pt (pw_or (pt_not (pt_val (pe_callB (call_isiU (K := K) rfl) (by rfl) T.m_isinstance (by decide +kernel) (pa_cons (pv 0) (pa_cons (pe_bltn (v := .ty "str") (u := .type "str") rfl T.m_str (by decide +kernel) rfl) pa_nil))))) (pw_or (pt_cmpR op_lt (pe_callB (call_lenU (K := K) rfl) (by rfl) T.m_len (by decide +kernel) (pa_cons (pv 0) pa_nil)) pe_int (nomark _)) (pw_or1 (pt_cmpR op_gt (pe_callB (call_lenU (K := K) rfl) (by rfl) T.m_len (by decide +kernel) (pa_cons (pv 0) pa_nil)) pe_int (nomark _)))))) (pss_one (ps_ret pe_bl)) pss_nil)
      (pss_one (ps_ret (pe_callB (call_allU (K := K) rfl rfl) (by rfl) T.m_all (by decide +kernel) (pa_cons (pe_lc (own := [("_law_sign", 1)]) (g := (gName 1)) (tt := tYes) rfl sc_law_is_name.nd (pi_str (pv 0)) (blkOk_by (N := N_law_is_name) (sc := defScope s_law_is_name) (by decide +kernel)) (fun _ _ _ _ _ => (pg_name (i := 1) sc_law_is_name.nd rfl (Or.inl rfl))) (fun _ _ _ _ _ => pts_nil) (fun _ _ _ _ _ => (pe_cmpR (op_inU (K := K) rfl (u65 hr)) (pv 1) pe_str (by rfl)))) pa_nil))))), ?_⟩
    walk_at "go"
    cases D with
    | str x =>
      have k : ∀ H', Fr [] H H' → Q (.bl (decide (1 ≤ x.length) && decide (x.length ≤ 8) && x.cps.toList.all (fun c => decide (c ∈ letters.cps.toList)))) H' := k
      have lx : x.length ≤ 1000 := (lx x rfl).1
      have lz : x.length ≤ sizeLine := Nat.le_trans lx (by decide)
      walk_at "go"
      refine w_lenS lz ?_
      walk_at "go"
      refine ite_d (fun h0 => ?_) (fun h0 => ?_)
      · rw [decide_eq_false (by omega : ¬ 1 ≤ x.length)] at k
        walk_at "go"
        exact k H Fr.refl
      · walk_at "go"
        refine w_lenS lz ?_
        walk_at "go"
        refine ite_d (fun h1 => ?_) (fun h1 => ?_)
        · rw [decide_eq_false (by omega : ¬ x.length ≤ 8), Bool.and_false] at k
          walk_at "go"
          exact k H Fr.refl
        · rw [decide_eq_true (by omega : 1 ≤ x.length), decide_eq_true (by omega : x.length ≤ 8)] at k
          walk_at "go"
          refine LCS (K := K) (x := x) (fun _ => true) (fun c => .bool (decide (c ∈ letters.cps.toList))) (by omega) ?_ ?_ ?_ fun D H1 nD f1 L1 => ?_
          · intro v; rfl
          · intro c H' f' QB q
            walk_at "go"
            exact q
          · intro c H' f' _ Q q
            walk_at "go"
            exact q _ (.bl _)
          · rw [List.filter_eq_self.mpr (by simp)] at L1
            rw [show (List.map (fun c => PyData.bool (decide (c ∈ letters.cps.toList))) x.cps.toList) = (x.cps.toList.map fun c => decide (c ∈ letters.cps.toList)).map PyData.bool by rw [List.map_map]; rfl] at L1
            walk_at "go"
            refine L1.allB ?_
            have z := k H1 f1
            rw [List.all_map]
            exact z
    | non => walk_at "go"; exact k H Fr.refl
    | bl b => walk_at "go"; exact k H Fr.refl
    | int i => walk_at "go"; exact k H Fr.refl
    | tup s _ => refine isT_str s ?_; walk_at "go"; exact k H Fr.refl
    | lst s _ => refine isL_str s ?_; walk_at "go"; exact k H Fr.refl
    | dct s => refine isD_str s ?_; walk_at "go"; exact k H Fr.refl
theorem path_bad {es : List PyData} {i : Nat} {d : PyData} (h : es[i]? = some d) (b : isSpotD d = false) : isPathD (.tuple es) = false := by
  show es.all isSpotD = false
  rw [List.all_eq_false]
  exact ⟨d, List.mem_of_getElem? h, by rw [b]; decide⟩
def sp_law_is_path (K : PySem.W.Frag) : Sp := fun vs H Q _ => ∃ v d, vs = [v] ∧ Dg K H v d ∧ (∀ ss, d = .tuple ss → ss.length ≤ 1000) ∧ Q (.bl (isPathD d)) H
theorem ok_law_is_path (T : Env K mg) : Fx P w K mg base 2 "_law_is_path" p_law_is_path (sp_law_is_path K) := by
  refine T.l_law_is_path.ok sc_law_is_path (fun vs H Q E h => ?_) (fun f cdv A outer s H vs Q E hr h => ?_)
  · obtain ⟨v, d, rfl, _⟩ := h
    rfl
  · obtain ⟨v, d, rfl, D, ln, k⟩ := h
    refine ⟨_, (pss_cons (ps_if (pt_not (pt_val (pe_callB (call_isiU (K := K) rfl) (by rfl) T.m_isinstance (by decide +kernel) (pa_cons (pv 0) (pa_cons (pe_bltn (v := .ty "tuple") (u := .type "tuple") rfl T.m_tuple (by decide +kernel) rfl) pa_nil))))) (pss_one (ps_ret pe_bl)) pss_nil)
      (pss_cons (ps_for PassesOwn.never rfl (pi_tupU (K := K) rfl (pv 0)) (pg_name (i := 1) sc_law_is_path.nd rfl (Or.inl rfl)) (pss_cons (ps_if (PW.pt (pw_or (pt_not (pt_val (pe_callB (call_isiU (K := K) rfl) (by rfl) T.m_isinstance (by decide +kernel) (pa_cons (pv 1) (pa_cons (pe_bltn (v := .ty "tuple") (u := .type "tuple") rfl T.m_tuple (by decide +kernel) rfl) pa_nil))))) (pw_or1 (pt_cmpR (op_neU (K := K) rfl (u64 hr)) (pe_callB (call_lenU (K := K) rfl) (by rfl) T.m_len (by decide +kernel) (pa_cons (pv 1) pa_nil)) pe_int (nomark _))))) (pss_one (ps_ret pe_bl)) pss_nil)
      (pss_cons (ps_if (PW.pt (pw_and (pt_cmp (pc_notN (pe_ix (ix_U (K := K) rfl) (pv 1) pe_int (fun _ _ => rfl)))) (pw_and1 (pt_not (pt_val (pe_fx (ok_law_is_number (P := P) (w := w) T) hr (by decide) (pa_cons (pe_ix (ix_U (K := K) rfl) (pv 1) pe_int (fun _ _ => rfl)) pa_nil))))))) (pss_one (ps_ret pe_bl)) pss_nil)
      (pss_one (ps_if (PW.pt (pw_or (pt_not (pt_val (pe_callB (call_isiU (K := K) rfl) (by rfl) T.m_isinstance (by decide +kernel) (pa_cons (pe_ix (ix_U (K := K) rfl) (pv 1) pe_int (fun _ _ => rfl)) (pa_cons (pe_bltn (v := .ty "int") (u := .type "int") rfl T.m_int (by decide +kernel) rfl) pa_nil))))) (pw_or (pt_val (pe_callB (call_isiU (K := K) rfl) (by rfl) T.m_isinstance (by decide +kernel) (pa_cons (pe_ix (ix_U (K := K) rfl) (pv 1) pe_int (fun _ _ => rfl)) (pa_cons (pe_bltn (v := .ty "bool") (u := .type "bool") rfl T.m_bool (by decide +kernel) rfl) pa_nil)))) (pw_or1 (pt_cmpR op_lt (pe_ix (ix_U (K := K) rfl) (pv 1) pe_int (fun _ _ => rfl)) pe_int (nomark _)))))) (pss_one (ps_ret pe_bl)) pss_nil)))))
      (pss_one (ps_ret pe_bl)))), ?_⟩
    walk_at "go"
    cases D with
    | tup s a =>
      rename_i q vs es
      have ln := ln es rfl
      have lv := DgAll.length a
      refine isT_tuple s ?_
      walk_at "go"
      refine F_T s (fun i σ H' => H' = H ∧ (∀ d ∈ es.take i, isSpotD d = true) ∧ ∃ v1, σ = [some (.ref q), v1]) ⟨rfl, by simp, _, rfl⟩ (by rintro i σ H' _ ⟨rfl, _⟩; exact s) ?_ ?_
      · rintro i x σ H' hx ⟨rfl, sp, v1, rfl⟩
        obtain ⟨d, hd, gd⟩ := DgAll.get a hx
        have bad : isSpotD d = false → Q (.bl false) H' := fun b => by rw [path_bad hd b] at k; exact k
        walk_at "go"
        cases gd with
        | tup s2 a2 =>
          rename_i q2 vs2 es2
          refine isT_tuple s2 ?_
          walk_at "go"
          refine w_lenT s2 ?_
          rw [DgAll.length a2]
          walk_at "go"
          refine ite_nd (fun h2 => ?_) (fun h2 => ?_)
          · walk_at "go"
            exact bad (isSpotD_len (by omega))
          · obtain ⟨v1', v2', d1, d2, rfl, rfl, b1, b2⟩ := DgAll.len2 a2 (by omega)
            have es' : isSpotD (.tuple [d1, d2]) = ((isNoneD d1 || isNumD d1) && isCountD d2) := rfl
            -- the second part
            have part2 : (isNoneD d1 || isNumD d1) = true → isCountD d2 = true → ∀ d ∈ es.take (i + 1), isSpotD d = true := fun e1 e2 d hd' => by
              rw [List.take_add_one, hd] at hd'
              rcases List.mem_append.mp hd' with z | z
              · exact sp d z
              · have z : d ∈ [PyData.tuple [d1, d2]] := z
                rw [List.mem_singleton.mp z, es', e1, e2]
                rfl
            walk_at "go"
            refine w_ixT s2 rfl ?_
            walk_at "go"
            refine ite_nd (fun h0 => ?_) (fun h0 => ?_)
            · have e1 : isNoneD d1 = false := by cases b1 <;> first | rfl | (exact absurd rfl h0)
              walk_at "go"
              refine w_ixT s2 rfl ?_
              walk_at "go"
              refine ⟨v1', d1, rfl, b1, ?_⟩
              walk_at "go"
              cases e2 : isNumD d1 with
              | false =>
                walk_at "go"
                exact bad (by rw [es', e1, e2]; rfl)
              | true =>
                walk_at "go"
                refine w_ixT s2 rfl ?_
                walk_at "go"
                cases b2 with
                | int n =>
                  walk_at "go"
                  refine w_ixT s2 rfl ?_
                  walk_at "go"
                  refine w_ixT s2 rfl ?_
                  walk_at "go"
                  refine ite_d (fun h3 => ?_) (fun h3 => ?_)
                  · walk_at "go"
                    exact bad (by rw [es', e1, e2]; show (true && decide (0 ≤ n)) = false; rw [decide_eq_false (by omega)]; rfl)
                  · walk_at "go"
                    exact ⟨rfl, part2 (by rw [e1, e2]; rfl) (decide_eq_true (by omega)), _, rfl⟩
                | bl b =>
                  walk_at "go"
                  refine w_ixT s2 rfl ?_
                  walk_at "go"
                  exact bad (by rw [es', e1, e2]; rfl)
                | non => walk_at "go"; exact bad (by rw [es', e1, e2]; rfl)
                | str x => walk_at "go"; exact bad (by rw [es', e1, e2]; rfl)
                | tup s3 _ => refine isT_int s3 ?_; walk_at "go"; exact bad (by rw [es', e1, e2]; rfl)
                | lst s3 _ => refine isL_int s3 ?_; walk_at "go"; exact bad (by rw [es', e1, e2]; rfl)
                | dct s3 => refine isD_int s3 ?_; walk_at "go"; exact bad (by rw [es', e1, e2]; rfl)
            · have e1 : isNoneD d1 = true := by cases b1 <;> first | rfl | (exact absurd h0 (by intro z; cases z))
              walk_at "go"
              refine w_ixT s2 rfl ?_
              walk_at "go"
              cases b2 with
              | int n =>
                walk_at "go"
                refine w_ixT s2 rfl ?_
                walk_at "go"
                refine w_ixT s2 rfl ?_
                walk_at "go"
                refine ite_d (fun h3 => ?_) (fun h3 => ?_)
                · walk_at "go"
                  exact bad (by rw [es', e1]; show (true && decide (0 ≤ n)) = false; rw [decide_eq_false (by omega)]; rfl)
                · walk_at "go"
                  exact ⟨rfl, part2 (by rw [e1]; rfl) (decide_eq_true (by omega)), _, rfl⟩
              | bl b =>
                walk_at "go"
                refine w_ixT s2 rfl ?_
                walk_at "go"
                exact bad (by rw [es', e1]; rfl)
              | non => walk_at "go"; exact bad (by rw [es', e1]; rfl)
              | str x => walk_at "go"; exact bad (by rw [es', e1]; rfl)
              | tup s3 _ => refine isT_int s3 ?_; walk_at "go"; exact bad (by rw [es', e1]; rfl)
              | lst s3 _ => refine isL_int s3 ?_; walk_at "go"; exact bad (by rw [es', e1]; rfl)
              | dct s3 => refine isD_int s3 ?_; walk_at "go"; exact bad (by rw [es', e1]; rfl)
        | non => walk_at "go"; exact bad rfl
        | bl b => walk_at "go"; exact bad rfl
        | int n => walk_at "go"; exact bad rfl
        | str x => walk_at "go"; exact bad rfl
        | lst s2 _ => refine isL_tuple s2 ?_; walk_at "go"; exact bad rfl
        | dct s2 => refine isD_tuple s2 ?_; walk_at "go"; exact bad rfl
      · rintro σ H' ⟨rfl, sp, v1, rfl⟩
        rw [lv, List.take_length] at sp
        have e : isPathD (.tuple es) = true := List.all_eq_true.mpr sp
        rw [e] at k
        walk_at "go"
        exact k
    | non => walk_at "go"; exact k
    | bl b => walk_at "go"; exact k
    | int i => walk_at "go"; exact k
    | str x => walk_at "go"; exact k
    | lst s _ => refine isL_tuple s ?_; walk_at "go"; exact k
    | dct s => refine isD_tuple s ?_; walk_at "go"; exact k
def sp_law_is_log_row (K : PySem.W.Frag) : Sp := fun vs H Q _ => ∃ v d, vs = [v] ∧ Dg K H v d ∧ fin 6 d = true ∧ ∀ H', Fr [] H H' → Q (.bl (isRowD d)) H'
theorem ok_law_is_log_row (T : Env K mg) : Fx P w K mg base 3 "_law_is_log_row" p_law_is_log_row (sp_law_is_log_row K) := by
  refine T.l_law_is_log_row.ok sc_law_is_log_row (fun vs H Q E h => ?_) (fun f cdv A outer s H vs Q E hr h => ?_)
  · obtain ⟨v, d, rfl, _⟩ := h
    rfl
  · obtain ⟨v, d, rfl, D, fd, k⟩ := h
    refine ⟨_, (pss_cons (ps_if (PW.pt (pw_or (pt_not (pt_val (pe_callB (call_isiU (K := K) rfl) (by rfl) T.m_isinstance (by decide +kernel) (pa_cons (pv 0) (pa_cons (pe_bltn (v := .ty "tuple") (u := .type "tuple") rfl T.m_tuple (by decide +kernel) rfl) pa_nil))))) (pw_or (pt_cmpR (op_neU (K := K) rfl (u64 hr)) (pe_callB (call_lenU (K := K) rfl) (by rfl) T.m_len (by decide +kernel) (pa_cons (pv 0) pa_nil)) pe_int (nomark _)) (pw_or1 (pt_not (pt_val (pe_callB (call_isiU (K := K) rfl) (by rfl) T.m_isinstance (by decide +kernel) (pa_cons (pe_ix (ix_U (K := K) rfl) (pv 0) pe_int (fun _ _ => rfl)) (pa_cons (pe_bltn (v := .ty "str") (u := .type "str") rfl T.m_str (by decide +kernel) rfl) pa_nil))))))))) (pss_one (ps_ret pe_bl)) pss_nil)
      (pss_cons (ps_if (PW.pt (pw_or (pt_cmpR (op_ninU (K := K) rfl (u65 hr)) (pe_ix (ix_U (K := K) rfl) (pv 0) pe_int (fun _ _ => rfl)) (pe_tup (pa_cons pe_str (pa_cons pe_str pa_nil))) (by rfl)) (pw_or (pt_not (pt_val (pe_fx (ok_law_is_path (P := P) (w := w) T) hr (by decide) (pa_cons (pe_ix (ix_U (K := K) rfl) (pv 0) pe_int (fun _ _ => rfl)) pa_nil)))) (pw_or1 (pt_not (pt_val (pe_fx (ok_law_is_number (P := P) (w := w) T) hr (by decide) (pa_cons (pe_ix (ix_U (K := K) rfl) (pv 0) pe_int (fun _ _ => rfl)) pa_nil)))))))) (pss_one (ps_ret pe_bl)) pss_nil)
      (pss_one (ps_ret (pe_and (pe_fx (ok_law_is_name (P := P) (w := w) T) hr (by decide) (pa_cons (pe_ix (ix_U (K := K) rfl) (pv 0) pe_int (fun _ _ => rfl)) pa_nil)) (pe_one (pe_fx (ok_law_is_name (P := P) (w := w) T) hr (by decide) (pa_cons (pe_ix (ix_U (K := K) rfl) (pv 0) pe_int (fun _ _ => rfl)) pa_nil)))))))), ?_⟩
    walk_at "go"
    cases D with
    | tup s a =>
      rename_i q vs es
      refine isT_tuple s ?_
      walk_at "go"
      refine w_lenT s ?_
      rw [DgAll.length a]
      walk_at "go"
      have fe := (fin_tuple fd).2
      refine ite_nd (fun h2 => ?_) (fun h2 => ?_)
      · rw [isRowD_len (by omega)] at k
        walk_at "go"
        exact k _ Fr.refl
      · obtain ⟨v1, v2, v3, v4, v5, d1, d2, d3, d4, d5, rfl, rfl, b1, b2, b3, b4, b5⟩ := DgAll.len5 a (by omega)
        have k : ∀ H', Fr [] H H' → Q (.bl (isDoB d1 && isPathD d2 && isNameD d3 && isNameD d4 && isNumD d5)) H' := k
        walk_at "go"
        refine w_ixT s rfl ?_
        walk_at "go"
        cases b1 with
        | str x =>
          walk_at "go"
          refine w_ixT s rfl ?_
          walk_at "go"
          refine mkT (K := K) (.cons (.str "do") (.cons (.str "undo") .nil)) fun p1 H1 n1 f1 e1 => ?_
          obtain ⟨p2, e2, s2⟩ := dtS2 e1
          cases e2
          refine w_ninT s2 rfl rfl ?_
          rw [inV_do]
          replace s := f1.seqT s (by simp)
          replace b2 := b2.fr f1
          replace b3 := b3.fr f1
          replace b4 := b4.fr f1
          replace b5 := b5.fr f1
          walk_at "go"
          cases ed : isDoB (.str x) with
          | false =>
            rw [ed] at k
            refine iteT ?_
            walk_at "go"
            exact k _ f1
          | true =>
            rw [ed, Bool.true_and] at k
            refine iteF ?_
            walk_at "go"
            refine w_ixT s rfl ?_
            walk_at "go"
            refine ⟨v2, d2, rfl, b2, (fun ss e => ?_), ?_⟩
            · have := (fin_tuple (e ▸ fe d2 (by simp) : fin 5 (.tuple ss) = true)).1
              omega
            walk_at "go"
            cases e2 : isPathD d2 with
            | false =>
              rw [e2] at k
              walk_at "go"
              exact k _ f1
            | true =>
              rw [e2, Bool.true_and] at k
              walk_at "go"
              refine w_ixT s rfl ?_
              walk_at "go"
              refine ⟨v5, d5, rfl, b5, ?_⟩
              walk_at "go"
              cases e5 : isNumD d5 with
              | false =>
                rw [e5, Bool.and_false] at k
                walk_at "go"
                exact k _ f1
              | true =>
                rw [e5, Bool.and_true] at k
                walk_at "go"
                refine w_ixT s rfl ?_
                walk_at "go"
                refine ⟨v3, d3, rfl, b3, (fun x e => fin_str (e ▸ fe d3 (by simp))), fun H3 f3 => ?_⟩
                walk_at "go"
                cases e3 : isNameD d3 with
                | false =>
                  rw [e3] at k
                  walk_at "go"
                  exact k _ (f1.trans f3)
                | true =>
                  rw [e3, Bool.true_and] at k
                  walk_at "go"
                  refine w_ixT (f3.seqT s (by simp)) rfl ?_
                  walk_at "go"
                  exact ⟨v4, d4, rfl, b4.fr f3, (fun x e => fin_str (e ▸ fe d4 (by simp))), fun H4 f4 => k _ ((f1.trans f3).trans f4)⟩
        | non => walk_at "go"; exact k _ Fr.refl
        | bl b => walk_at "go"; exact k _ Fr.refl
        | int i => walk_at "go"; exact k _ Fr.refl
        | tup s1 _ => refine isT_str s1 ?_; walk_at "go"; exact k _ Fr.refl
        | lst s1 _ => refine isL_str s1 ?_; walk_at "go"; exact k _ Fr.refl
        | dct s1 => refine isD_str s1 ?_; walk_at "go"; exact k _ Fr.refl
    | non => walk_at "go"; exact k _ Fr.refl
    | bl b => walk_at "go"; exact k _ Fr.refl
    | int i => walk_at "go"; exact k _ Fr.refl
    | str x => walk_at "go"; exact k _ Fr.refl
    | lst s _ => refine isL_tuple s ?_; walk_at "go"; exact k _ Fr.refl
    | dct s => refine isD_tuple s ?_; walk_at "go"; exact k _ Fr.refl
def sp_law_lets (K : PySem.W.Frag) : Sp := fun vs H Q _ => ∃ v d, vs = [v] ∧ Ld K H v d ∧ (∀ ds, d = .list ds → ds.length ≤ 1000 ∧ ∀ e ∈ ds, fin 6 e = true) ∧ ∀ H' k, Fr [] H H' → (k = true ↔ LetsP d) → Q (.bl k) H'
theorem ok_law_lets (T : Env K mg) : Fx P w K mg base 4 "_law_lets" p_law_lets (sp_law_lets K) := by
  refine T.l_law_lets.ok sc_law_lets (fun vs H Q E h => ?_) (fun f cdv A outer s H vs Q E hr h => ?_)
  · obtain ⟨v, d, rfl, _⟩ := h
    rfl
  · obtain ⟨v, d, rfl, ⟨D, DL⟩, fd, k⟩ := h
    refine ⟨_, (pss_cons (ps_if (PW.pt (pw_or (pt_not (pt_val (pe_callB (call_isiU (K := K) rfl) (by rfl) T.m_isinstance (by decide +kernel) (pa_cons (pv 0) (pa_cons (pe_bltn (v := .ty "list") (u := .type "list") rfl T.m_list (by decide +kernel) rfl) pa_nil))))) (pw_or1 (pt_not (pt_val (pe_callB (call_allU (K := K) rfl rfl) (by rfl) T.m_all (by decide +kernel) (pa_cons (pe_lc (own := [("_law_row", 1)]) (g := (gName 1)) (tt := tYes) rfl sc_law_lets.nd (pi_listU (K := K) rfl (pv 0)) (blkOk_by (N := N_law_lets) (sc := defScope s_law_lets) (by decide +kernel)) (fun _ _ _ _ _ => (pg_name (i := 1) sc_law_lets.nd rfl (Or.inl rfl))) (fun _ _ _ _ _ => pts_nil) (fun _ _ _ _ _ => (pe_fx (ok_law_is_log_row (P := P) (w := w) T) hr (by decide) (pa_cons (pv 1) pa_nil)))) pa_nil))))))) (pss_one (ps_ret pe_bl)) pss_nil)
      (pss_one (ps_ret (pe_cmp (pc_notN (pe_fx (ok_law_stands (P := P) (w := w) T) hr (by decide) (pa_cons (pv 0) pa_nil))))))), ?_⟩
    walk_at "go"
    cases D with
    | non => walk_at "go"; exact k H false Fr.refl (no_lets (fun _ h => by cases h))
    | bl b => walk_at "go"; exact k H false Fr.refl (no_lets (fun _ h => by cases h))
    | int i => walk_at "go"; exact k H false Fr.refl (no_lets (fun _ h => by cases h))
    | str x => walk_at "go"; exact k H false Fr.refl (no_lets (fun _ h => by cases h))
    | tup s _ => refine isT_list s ?_; walk_at "go"; exact k H false Fr.refl (no_lets (fun _ h => by cases h))
    | dct s => refine isD_list s ?_; walk_at "go"; exact k H false Fr.refl (no_lets (fun _ h => by cases h))
    | lst s0 a0 =>
      rename_i q0 vs0 ds
      obtain ⟨q, vs, e, hq, a⟩ := DL ds rfl
      cases e
      have s := SqL.of (K := K) hq
      obtain ⟨ld, fe⟩ := fd ds rfl
      refine isL_list s ?_
      walk_at "go"
      refine LCB s a (by omega) isRowD (fun _ => rfl) ?_ fun D H1 nD f1 L1 => ?_
      · intro d x H' hd f' dx Q' kq
        walk_at "go"
        exact ⟨x, d, rfl, dx, fe d hd, fun H5 g5 => kq _ g5⟩
      · walk_at "go"
        refine L1.allB ?_
        cases eall : (ds.map isRowD).all id with
        | false =>
          walk_at "go"
          exact k H1 false f1 ⟨fun z => (by cases z), fun z => absurd z (no_row eall)⟩
        | true =>
          rw [List.all_map, List.all_eq_true] at eall
          obtain ⟨xs, rfl, ok⟩ := lrows_of (ds := ds) (n := 4) eall fe
          have lx : xs.length ≤ 1000 := by rw [List.length_map] at ld; exact ld
          have L2 : Lq K H1 q0 (xs.map LRow.d) := ⟨vs, f1 _ _ hq (by simp), kd_dts (DgAll.fr f1 a) (lrows_kd xs)⟩
          walk_at "go"
          refine ⟨q0, xs, rfl, L2, lx, (fun x hx => (ok x hx).1), fun pn H2 f2 => ?_, fun now pn d2 H2 n2 f2 _ => ?_⟩
          · refine k H2 _ (f1.trans f2) (lets_iff ok (c := decide (¬ V.non = V.non)) (by rw [pn]; rfl))
          · refine k H2 _ (f1.trans f2) (lets_iff ok (c := decide (¬ V.ref d2 = V.non)) (by rw [pn]; rfl))
end

/-! ### parts and drawings of the law, as data -/
def bnd (n : Int) : Prop := -1000000000 ≤ n ∧ n ≤ 1000000000
def pool : List Str := ["a", "ab", "b", "box", "abc", "w", "wa"]
theorem pool_ok : ∀ n ∈ pool, PyData.strOk n = true := by decide +kernel
def spOk (s : Option Int × Int) : Prop := (∀ n, s.1 = some n → bnd n) ∧ 0 ≤ s.2 ∧ s.2 ≤ 1000000
def obnd (o : Option Int) : Prop := ∀ n, o = some n → bnd n
abbrev Ask := Str × Str
def askD (a : Ask) : PyData := .tuple [.str a.1, .str a.2]
theorem kdA : KeyD askD where
  kd a := rfl
  dp a := by exact Nat.le_of_ble_eq_true rfl
  inj a b h := by
    obtain ⟨a1, a2⟩ := a
    obtain ⟨b1, b2⟩ := b
    simp only [askD, PyData.tuple.injEq, List.cons.injEq, PyData.str.injEq, and_true] at h
    rw [h.1, h.2]
inductive Leaf
  | num (n : Int)
  | ask (a : Ask)
def Leaf.d : Leaf → PyData
  | .num n => .tuple [.str "num", .int n]
  | .ask a => askD a
def Leaf.ok : Leaf → Prop
  | .num n => -1000000000 ≤ n ∧ n ≤ 1000000000
  | .ask a => (a.1 = "take" ∨ a.1 = "box") ∧ PyData.strOk a.2 = true
structure Ln where
  key : Option Leaf
  name : Str
  given : Option Leaf
  within : Bool
def optD : Option Leaf → PyData
  | none => .none
  | some l => l.d
def Ln.d (l : Ln) : PyData := .tuple [optD l.key, .str l.name, optD l.given, .bool l.within]
def optOk (o : Option Leaf) : Prop := ∀ l, o = some l → l.ok
def Ln.ok (l : Ln) : Prop := optOk l.key ∧ optOk l.given ∧ PyData.strOk l.name = true
def wkD (w : Str × Leaf) : PyData := .tuple [.str w.1, w.2.d]
structure Prt where
  boxes : List Str
  works : List (Str × Leaf)
  lines : List Ln
def Prt.ok (p : Prt) : Prop := (p.boxes.length ≤ 2 ∧ p.works.length ≤ 3 ∧ p.lines.length ≤ 3) ∧ (∀ b ∈ p.boxes, PyData.strOk b = true) ∧ (∀ w ∈ p.works, PyData.strOk w.1 = true ∧ w.2.ok) ∧ (∀ l ∈ p.lines, l.ok) ∧ (∀ w ∈ p.works, w.1 ∈ pool) ∧ (p.works.map (·.1)).Nodup
/-- at v a part; none of its places is in S -/
def PartAt (K : PySem.W.Frag) (H : Hp) (S : List Addr) (v : V) (p : Prt) : Prop :=
  ∃ a b c e : Addr, v = .ref a ∧ SqT K H a [.ref b, .ref c, .ref e] ∧ (a ∉ S ∧ b ∉ S ∧ c ∉ S ∧ e ∉ S) ∧ Lq K H b (p.boxes.map .str) ∧ Lq K H c (p.works.map wkD) ∧ Lq K H e (p.lines.map Ln.d)
theorem PartAt.fr {K : PySem.W.Frag} {H H' : Hp} {S : List Addr} {v : V} {p : Prt} (h : PartAt K H S v p) (f : Fr S H H') (t : Tu H H') : PartAt K H' S v p := by
  obtain ⟨a, b, c, e, rfl, s, n, l1, l2, l3⟩ := h
  exact ⟨a, b, c, e, rfl, f.seqT s n.1, n, l1.fr f n.2.1 t, l2.fr f n.2.2.1 t, l3.fr f n.2.2.2 t⟩
/-- values that are whole numbers -/
def AllI {α : Type} (kvs : List (α × V)) : Prop := ∀ kv ∈ kvs, ∃ n : Int, kv.2 = .int n ∧ bnd n
section
variable {α : Type} [DecidableEq α] {kvs : List (α × V)} {k : α}
theorem at_mem {v : V} (h : atN kvs k = some v) : ∃ kv ∈ kvs, kv.1 = k ∧ kv.2 = v := by
  unfold atN at h
  cases e : kvs.find? (fun kv => decide (kv.1 = k)) with
  | none => rw [e] at h; cases h
  | some kv =>
    rw [e] at h
    cases h
    exact ⟨kv, List.mem_of_find?_eq_some e, by simpa using List.find?_some e, rfl⟩
theorem at_some (h : k ∈ kvs.map (·.1)) : ∃ v, atN kvs k = some v := by
  unfold atN
  cases e : kvs.find? (fun kv => decide (kv.1 = k)) with
  | some kv => exact ⟨_, rfl⟩
  | none =>
    obtain ⟨kv, m, rfl⟩ := List.mem_map.mp h
    have := List.find?_eq_none.mp e kv m
    simp at this
theorem AllI.at {v : V} (a : AllI kvs) (h : atN kvs k = some v) : ∃ n : Int, v = .int n ∧ bnd n := by
  obtain ⟨kv, m, _, rfl⟩ := at_mem h
  exact a kv m
theorem AllI.put {n : Int} (a : AllI kvs) (bn : bnd n) : AllI (putN kvs k (.int n)) := by
  unfold putN
  split
  · intro kv hkv
    obtain ⟨x, hx, rfl⟩ := List.mem_map.mp hkv
    split
    · exact ⟨n, rfl, bn⟩
    · exact a x hx
  · intro kv hkv
    rcases List.mem_append.mp hkv with z | z
    · exact a kv z
    · rw [List.mem_singleton.mp z]
      exact ⟨n, rfl, bn⟩
theorem put_len {v : V} : (putN kvs k v).length ≤ kvs.length + 1 := by
  unfold putN
  split
  · rw [List.length_map]; omega
  · rw [List.length_append]; exact Nat.le_refl _
theorem at_map {v : V} : ∀ {kvs : List (α × V)}, (atN kvs k).isSome = true → atN (kvs.map fun kv => if kv.1 = k then (kv.1, v) else kv) k = some v
  | [], h => by simp [atN] at h
  | x :: r, h => by
    unfold atN at h ⊢
    rw [List.map_cons, List.find?_cons]
    rw [List.find?_cons] at h
    by_cases e : x.1 = k
    · rw [if_pos e, decide_eq_true e]
      rfl
    · rw [decide_eq_false e] at h
      rw [if_neg e, decide_eq_false e]
      exact at_map (kvs := r) h
theorem at_put {v : V} : atN (putN kvs k v) k = some v := by
  unfold putN
  split
  · rename_i h
    exact at_map h
  · rename_i h
    unfold atN at *
    have h : kvs.find? (fun kv => decide (kv.1 = k)) = none := by
      cases e : kvs.find? (fun kv => decide (kv.1 = k)) with
      | none => rfl
      | some x => rw [e] at h; exact absurd rfl h
    rw [List.find?_append, h]
    show Option.map _ ((none : Option (α × V)).or (List.find? _ [(k, v)])) = _
    rw [List.find?_cons, decide_eq_true rfl]
    rfl
end
/-- a want of a row: number of its key, how many ahead, name, what it is given, within a plain -/
structure Wn where
  num : Option Int
  cnt : Nat
  name : Str
  giv : Option Int
  within : Bool
def oiD : Option Int → PyData
  | none => .none
  | some n => .int n
def Wn.spot (x : Wn) : PyData := .tuple [oiD x.num, .int x.cnt]
def Wn.sp (x : Wn) : Option Int × Int := (x.num, (x.cnt : Int))
def Wn.fine (x : Wn) : Prop := spOk x.sp ∧ obnd x.giv
def givD : Option Int → PyData
  | none => .tuple []
  | some n => .tuple [.tuple [.str "a", .int n]]
def Wn.d (x : Wn) : PyData := if x.within then .tuple [.str "plain", x.spot, .str "row", .tuple [], .tuple [], .tuple [.tuple [.str "part", .tuple [.none, .int 0], .str x.name, givD x.giv]]] else .tuple [.str "part", x.spot, .str x.name, givD x.giv]
def rdD (x : Ask × Int) : PyData := .tuple [askD x.1, .int x.2]
def wvD (x : Str × Int) : PyData := .tuple [.str x.1, .int x.2]
def pieceD (rds : List (Ask × Int)) (ws : List Wn) (wk : List (Str × Int)) : PyData := .tuple [.tuple (rds.map rdD), .tuple (ws.map Wn.d), .tuple (wk.map wvD)]
theorem opt_cases {K : PySem.W.Frag} {H : Hp} {v : V} {o : Option Leaf} (h : Dt K H v (optD o)) : (o = none ∧ v = .non) ∨ ∃ l p, o = some l ∧ v = .ref p ∧ Dt K H v l.d := by
  cases o with
  | none => exact .inl ⟨rfl, h.of_non⟩
  | some l =>
    have h : Dt K H v l.d := h
    cases l with
    | num n =>
      obtain ⟨p, _, e, _⟩ := Dt.tuple (ds := [.str "num", .int n]) h
      exact .inr ⟨_, p, rfl, e, h⟩
    | ask a =>
      obtain ⟨p, _, e, _⟩ := Dt.tuple (ds := [.str a.1, .str a.2]) h
      exact .inr ⟨_, p, rfl, e, h⟩
theorem oi_dt {K : PySem.W.Frag} {H : Hp} (o : Option Int) : Dt K H (match o with | none => .non | some n => .int n) (oiD o) := by
  cases o with
  | none => exact .non
  | some n => exact .int n
def oiV : Option Int → V
  | none => .non
  | some n => .int n
theorem oiV_dt {K : PySem.W.Frag} {H : Hp} (o : Option Int) : Dt K H (oiV o) (oiD o) := by
  cases o with
  | none => exact .non
  | some n => exact .int n
theorem oi_shaped (o : Option Int) : SeqAt.shaped (oiD o) = true := by cases o <;> exact lay_shaped ⟨rfl, Nat.zero_le _⟩
theorem ln_parts {K : PySem.W.Frag} {H : Hp} {v : V} {l : Ln} (h : Dt K H v l.d) : ∃ (a : Addr) (kv gv : V), v = .ref a ∧ SqT K H a [kv, .str l.name, gv, .bl l.within] ∧ Dt K H kv (optD l.key) ∧ Dt K H gv (optD l.given) := by
  obtain ⟨a, us, rfl, s, av⟩ := h.tuple
  cases av with
  | cons d1 av =>
  cases av with
  | cons d2 av =>
  cases av with
  | cons d3 av =>
  cases av with
  | cons d4 av =>
  cases av
  cases d2; cases d4
  exact ⟨a, _, _, rfl, s, d1, d3⟩
theorem ask_sorty (ks : List Ask) : Sorty (ks.map askD) := by
  refine ⟨fun d hd d' hd' => ?_, .inl fun d hd => ?_⟩
  · obtain ⟨a, _, rfl⟩ := List.mem_map.mp hd
    obtain ⟨b, _, rfl⟩ := List.mem_map.mp hd'
    rfl
  · obtain ⟨a, _, rfl⟩ := List.mem_map.mp hd
    exact ⟨_, _, rfl⟩

/-! ### the store of numbers: by path and name -/
abbrev PN := List (Option Int × Int) × Str
def pnD (k : PN) : PyData := .tuple [.tuple (k.1.map spD), .str k.2]
theorem kdP : KeyD pnD where
  kd k := by
    show kdAll [.tuple (k.1.map spD), .str k.2] = true
    simp only [kdAll, kd, kd_sp]
    rfl
  dp k := by
    have := dp_sp k.1
    unfold pnD
    simp only [PyData.depth, PyData.depthAll]
    omega
  inj a b h := by
    obtain ⟨p, x⟩ := a
    obtain ⟨q, z⟩ := b
    simp only [pnD, PyData.tuple.injEq, List.cons.injEq, PyData.str.injEq, and_true] at h
    obtain ⟨h1, rfl⟩ := h
    rw [spDs_inj h1]
/-- a value of the store: a list of whole numbers, not in S -/
def NumL (H : Hp) (S : List Addr) (v : V) : Prop := ∃ (q : Addr) (ns : List Int), v = .ref q ∧ H q = some (.lst (ns.map V.int)) ∧ q ∉ S ∧ ns.length ≤ 100 ∧ ∀ n ∈ ns, bnd n
def StoreAt (P : Program) (w : World) (K : PySem.W.Frag) (H : Hp) (S : List Addr) (d : Addr) (kvs : List (PN × V)) : Prop := DN P w K pnD H d kvs ∧ ∀ kv ∈ kvs, NumL H S kv.2
section
variable {P : Program} {w : World} {K : PySem.W.Frag} {H H' : Hp} {d p : Addr} {S S' : List Addr} {kvs : List (PN × V)}
theorem NumL.fr {v : V} (h : NumL H S v) (f : Fr S' H H') (s : ∀ a ∈ S', a ∈ S) : NumL H' S v := by
  obtain ⟨q, ns, e, hq, n, l⟩ := h
  exact ⟨q, ns, e, f _ _ hq (fun z => n (s q z)), n, l⟩
theorem StoreAt.fr (h : StoreAt P w K H S d kvs) (f : Fr S' H H') (s : ∀ a ∈ S', a ∈ S) (n : d ∉ S') (tu : Tu H H') : StoreAt P w K H' S d kvs :=
  ⟨h.1.fr f n tu, fun kv hk => (h.2 kv hk).fr f s⟩
theorem StoreAt.fr0 (h : StoreAt P w K H S d kvs) (f : Fr [] H H') : StoreAt P w K H' S d kvs := h.fr f (by simp) (by simp) f.tu
theorem StoreAt.add (h : StoreAt P w K H S d kvs) (hp : H p = none) : StoreAt P w K H (p :: S) d kvs := ⟨h.1, fun kv hk => by
  obtain ⟨q, ns, e, hq, n, l⟩ := h.2 kv hk
  refine ⟨q, ns, e, hq, fun z => ?_, l⟩
  rcases List.mem_cons.mp z with rfl | z
  · rw [hp] at hq; cases hq
  · exact n z⟩
theorem StoreAt.sub (h : StoreAt P w K H S d kvs) (s : ∀ a ∈ S', a ∈ S) : StoreAt P w K H S' d kvs := ⟨h.1, fun kv hk => by
  obtain ⟨q, ns, e, hq, n, l⟩ := h.2 kv hk
  exact ⟨q, ns, e, hq, fun z => n (s q z), l⟩⟩
theorem DN.none_ne {α : Type} {dS : α → PyData} {H : Hp} {d p : Addr} {kvs : List (α × V)} (h : DN P w K dS H d kvs) (hp : H p = none) : p ≠ d := by
  rintro rfl
  rcases h with ⟨_, e⟩ | ⟨_, _, N⟩
  · rw [hp] at e; cases e
  · have z := N.there
    rw [hp] at z
    cases z
end

/-! ### houses, what is wanted, entries -/
/-- at v a house; none of its places is in S -/
def HouseAt (K : PySem.W.Frag) (H : Hp) (S : List Addr) (v : V) (names : List Str) : Prop :=
  ∃ (a q pd : Addr) (kvs : List (Key × V)), v = .ref a ∧ SqT K H a [.ref q, .ref pd] ∧ (a ∉ S ∧ q ∉ S ∧ pd ∉ S) ∧ H q = some (.lst (names.map V.str)) ∧ H pd = some (.dK kvs) ∧
    (∀ (i : Nat) (nm : Str), names[i]? = some nm → ∃ (p : Prt) (u : V), valV kvs (.inr nm) = some u ∧ PartAt K H S u p ∧ p.ok ∧ ∀ l ∈ p.lines, ∃ j : Nat, i < j ∧ names[j]? = some l.name) ∧ names.length ≤ 4 ∧ 1 ≤ names.length ∧ ∀ n ∈ names, n ∈ pool
theorem HouseAt.fr {K : PySem.W.Frag} {H H' : Hp} {S : List Addr} {v : V} {names : List Str} (h : HouseAt K H S v names) (f : Fr S H H') (t : Tu H H') : HouseAt K H' S v names := by
  obtain ⟨a, q, pd, kvs, e, s, n, h1, h2, h3, h4⟩ := h
  refine ⟨a, q, pd, kvs, e, f.seqT s n.1, n, f _ _ h1 n.2.1, f _ _ h2 n.2.2, fun i nm hi => ?_, h4⟩
  obtain ⟨p, u, e1, e2, e3, e4⟩ := h3 i nm hi
  exact ⟨p, u, e1, e2.fr f t, e3, e4⟩
structure Wt where
  idx : Nat
  path : List (Option Int × Int)
  name : Str
  giv : Option Int
def itD (x : Wt) : PyData := .tuple [.tuple (x.path.map spD), .str x.name, givD x.giv]
def Wt.ok (names : List Str) (x : Wt) : Prop := names[x.idx]? = some x.name ∧ x.path.length ≤ 2 * x.idx ∧ (∀ s ∈ x.path, spOk s) ∧ obnd x.giv
def wOf : Nat → Nat
  | 0 => 40
  | 1 => 13
  | 2 => 4
  | _ => 1
def Wt.w (x : Wt) : Nat := wOf x.idx
def total (its : List Wt) : Nat := (its.map Wt.w).sum
theorem total_lt {i : Nat} (hi : i < 4) {its : List Wt} (h : ∀ x ∈ its, i < x.idx ∧ x.idx < 4) (l : its.length ≤ 3) : total its + 1 ≤ wOf i := by
  have e : ∀ (m : Nat) (ys : List Wt), (∀ x ∈ ys, x.w ≤ m) → total ys ≤ ys.length * m := by
    intro m ys
    induction ys with
    | nil => intro _; exact Nat.zero_le _
    | cons x r ih =>
      intro h
      have h1 := ih fun y hy => h y (by simp [hy])
      have h2 := h x (by simp)
      show x.w + total r ≤ (r.length + 1) * m
      rw [Nat.add_mul, Nat.one_mul]
      omega
  have key : ∀ m, (∀ x ∈ its, x.w ≤ m) → total its ≤ 3 * m := fun m hm => Nat.le_trans (e m its hm) (Nat.mul_le_mul_right _ l)
  have hc : i = 0 ∨ i = 1 ∨ i = 2 ∨ i = 3 := by omega
  rcases hc with rfl | rfl | rfl | rfl
  · have := key 13 fun x hx => by
      have := h x hx
      have c : x.idx = 1 ∨ x.idx = 2 ∨ x.idx = 3 := by omega
      unfold Wt.w
      rcases c with e | e | e <;> rw [e] <;> decide
    show total its + 1 ≤ 40
    omega
  · have := key 4 fun x hx => by
      have := h x hx
      have c : x.idx = 2 ∨ x.idx = 3 := by omega
      unfold Wt.w
      rcases c with e | e <;> rw [e] <;> decide
    show total its + 1 ≤ 13
    omega
  · have := key 1 fun x hx => by
      have := h x hx
      have c : x.idx = 3 := by omega
      unfold Wt.w
      rw [c]
      decide
    show total its + 1 ≤ 4
    omega
  · cases its with
    | nil => exact Nat.le_refl _
    | cons x r =>
      have := h x (by simp)
      omega
theorem total_app (a b : List Wt) : total (a ++ b) = total a + total b := by
  unfold total
  rw [List.map_append, List.sum_append]
theorem len_total : ∀ its : List Wt, its.length ≤ total its
  | [] => Nat.zero_le _
  | x :: r => by
    have h := len_total r
    have h2 : 1 ≤ x.w := by
      unfold Wt.w wOf
      split <;> decide
    show r.length + 1 ≤ x.w + total r
    omega
structure En where
  path : List (Option Int × Int)
  name : Str
  giv : Option Int
  rds : List (Ask × Int)
  ws : List Wn
  wk : List (Str × Int)
def enD (x : En) : PyData := .tuple [.tuple (x.path.map spD), .str x.name, givD x.giv, .tuple [], pieceD x.rds x.ws x.wk]
def En.ok (x : En) : Prop := x.path.length ≤ 10 ∧ x.rds.length ≤ 100 ∧ x.ws.length ≤ 3 ∧ x.wk.length ≤ 3 ∧ PyData.strOk x.name = true ∧ ∀ y ∈ x.wk, PyData.strOk y.1 = true
def En.fine (x : En) : Prop := (∀ s ∈ x.path, spOk s) ∧ x.name ∈ pool ∧ (∀ y ∈ x.wk, y.1 ∈ pool ∧ bnd y.2) ∧ (x.wk.map (·.1)).Nodup
/-! paths of what is told and of what is wanted: none of these is the beginning of another one -/
abbrev Pth := List (Option Int × Int)
def Leafs (T W : List Pth) : Prop := T.Nodup ∧ W.Pairwise (fun x y => ¬ x <+: y ∧ ¬ y <+: x) ∧ ∀ x ∈ W, ∀ y ∈ T, ¬ x <+: y
def ext (x : Wn) : Pth := if x.within then [x.sp, (none, 0)] else [x.sp]
theorem ext_ne (x : Wn) : ext x ≠ [] := by
  unfold ext
  split <;> simp
theorem ext_head {x y : Wn} (p : Pth) (h : p ++ ext x <+: p ++ ext y) : x.sp = y.sp := by
  rw [List.prefix_append_right_inj] at h
  unfold ext at h
  split at h <;> split at h <;> rw [List.cons_prefix_cons] at h <;> exact h.1
theorem Leafs.step {T W : List Pth} {x0 : Pth} {ws : List Wn} (h : Leafs T (x0 :: W)) (n : (ws.map Wn.sp).Nodup) : Leafs (T ++ [x0]) (ws.map (fun w => x0 ++ ext w) ++ W) := by
  obtain ⟨h1, h2, h3⟩ := h
  obtain ⟨h4, h5⟩ := List.pairwise_cons.mp h2
  have pre : ∀ {c : Pth}, c ∈ ws.map (fun w => x0 ++ ext w) → x0 <+: c ∧ c ≠ x0 := fun hc => by
    obtain ⟨w, _, rfl⟩ := List.mem_map.mp hc
    refine ⟨List.prefix_append _ _, fun e => ext_ne w ?_⟩
    simpa using e
  refine ⟨?_, ?_, ?_⟩
  · rw [List.nodup_append]
    refine ⟨h1, by simp, fun a ha b hb e => ?_⟩
    rw [List.mem_singleton.mp hb] at e
    exact h3 x0 (by simp) a ha (by rw [e]; exact List.prefix_refl _)
  · rw [List.pairwise_append]
    refine ⟨?_, h5, fun c hc y hy => ⟨fun z => (h4 y hy).1 ((pre hc).1.trans z), fun z => ?_⟩⟩
    · rw [List.pairwise_map]
      have n' := List.pairwise_map.mp n
      exact n'.imp fun {a b} hab => ⟨fun z => hab (ext_head _ z), fun z => hab (ext_head _ z).symm⟩
    · rcases List.prefix_or_prefix_of_prefix z (pre hc).1 with e | e
      · exact (h4 y hy).2 e
      · exact (h4 y hy).1 e
  · intro x hx y hy z
    rcases List.mem_append.mp hx with hx | hx
    · rcases List.mem_append.mp hy with hy | hy
      · exact h3 x0 (by simp) y hy ((pre hx).1.trans z)
      · rw [List.mem_singleton.mp hy] at z
        exact (pre hx).2 (z.eq_of_length_le (pre hx).1.length_le)
    · rcases List.mem_append.mp hy with hy | hy
      · exact h3 x (by simp [hx]) y hy z
      · rw [List.mem_singleton.mp hy] at z
        exact (h4 x hx).2 z
theorem spot_sp (x : Wn) : x.spot = spD (x.num, (x.cnt : Int)) := by
  unfold Wn.spot spD oiD
  cases x.num <;> rfl
theorem giv_good (g : Option Int) : (givD g).canLay0 = true ∧ (givD g).depth ≤ 2 := by
  cases g with
  | none => exact ⟨rfl, by exact Nat.le_of_ble_eq_true rfl⟩
  | some n =>
    have h : PyData.strOk "a" = true := by decide +kernel
    refine ⟨?_, by exact Nat.le_of_ble_eq_true rfl⟩
    show ((PyData.strOk "a" && (true && true)) && true) = true
    rw [h]
    rfl
theorem it_good {names : List Str} (hn : ∀ n ∈ names, PyData.strOk n = true) {x : Wt} (o : x.ok names) : (itD x).canLay0 = true ∧ (itD x).depth ≤ 3 := by
  have h1 := lay_sp x.path
  have h2 := dp_sp x.path
  have h3 := hn x.name (List.mem_of_getElem? o.1)
  have h4 := giv_good x.giv
  constructor
  · show (PyData.canLayAll0 (x.path.map spD) && (PyData.strOk x.name && ((givD x.giv).canLay0 && true))) = true
    rw [h1, h3, h4.1]
    rfl
  · show max (PyData.depthAll (x.path.map spD) + 1) (max 0 (max (givD x.giv).depth 0)) + 1 ≤ 3
    omega

section
variable {P : Program} {w : World} {K : PySem.W.Frag} {mg : Str → Option Value} {base : Heap}
theorem str_shaped {bs : List Str} (h : ∀ b ∈ bs, PyData.strOk b = true) : SeqAt.shaped (.list (bs.map .str)) = true := shaped_list (n := 0) (by decide) fun d hd => by
  obtain ⟨b, hb, rfl⟩ := List.mem_map.mp hd
  exact ⟨h b hb, Nat.le_refl _⟩
def sp_law_leaf (K : PySem.W.Frag) : Sp := fun vs H Q _ => ∃ (t q : Addr) (bs : List Str) (H0 : Hp), vs = [.ref t, .ref q] ∧ Tape K H0 H t ∧ Lq K H q (bs.map .str) ∧ q ≠ t ∧ bs.length ≤ 100 ∧ (∀ b ∈ bs, PyData.strOk b = true) ∧ ∀ p l H', l.ok → Fr [t] H H' → Tape K H0 H' t → Dt K H' (.ref p) (Leaf.d l) → Q (.ref p) H'
theorem ok_law_leaf (T : Env K mg) : Fx P w K mg base 3 "_law_leaf" p_law_leaf (sp_law_leaf K) := by
  refine T.l_law_leaf.ok sc_law_leaf (fun vs H Q E h => ?_) (fun f cdv A outer s H vs Q E hr h => ?_)
  · obtain ⟨t, q, _, _, rfl, _⟩ := h
    rfl
  · obtain ⟨t, q, bs, H0, rfl, T0, L0, nq, lb, ob, k⟩ := h
    refine ⟨_, (pss_cons (ps_set (i := 2) sc_law_leaf.nd rfl (Or.inl rfl) (pe_fx (ok_law_draw (P := P) (w := w) T) hr (by decide) (pa_cons (pv 0) (pa_cons pe_int pa_nil))))
      (pss_cons (ps_if (pt_cmpR (op_eqU (K := K) rfl (u64 hr)) (pv 2) pe_int (nomark _)) (pss_one (ps_ret (pe_tup (pa_cons pe_str (pa_cons pe_str pa_nil))))) pss_nil)
      (pss_cons (ps_if (PW.pt (pw_and (pt_cmpR op_lt (pv 2) pe_int (nomark _)) (pw_and1 (pt_cmpR (op_neU (K := K) rfl (u64 hr)) (pv 1) (pe_lst pa_nil) (nomark _))))) (pss_one (ps_ret (pe_tup (pa_cons pe_str (pa_cons (pe_ix (ix_U (K := K) rfl) (pv 1) (pe_fx (ok_law_draw (P := P) (w := w) T) hr (by decide) (pa_cons (pv 0) (pa_cons (pe_callB (call_lenU (K := K) rfl) (by rfl) T.m_len (by decide +kernel) (pa_cons (pv 1) pa_nil)) pa_nil))) (fun _ _ => rfl)) pa_nil))))) pss_nil)
      (pss_one (ps_ret (pe_tup (pa_cons pe_str (pa_cons (pe_fx (ok_law_number (P := P) (w := w) T) hr (by decide) (pa_cons (pv 0) pa_nil)) pa_nil)))))))), ?_⟩
    walk_at "go"
    refine ⟨t, 4, H0, rfl, T0, by decide, by decide, fun way H1 a1 b1 f1 T1 => ?_⟩
    have L1 := L0.fr f1 (by simpa using nq) (T0.tu f1)
    walk_at "go"
    refine ite_d (fun h0 => ?_) (fun h0 => ?_)
    · walk_at "go"
      refine mkT (K := K) (.cons (.str "take") (.cons (.str "a") .nil)) fun p H4 n4 f4 d4 => ?_
      exact k p (.ask ("take", "a")) H4 ⟨.inl rfl, by decide +kernel⟩ (f1.trans (f4.mono (by simp))) (T1.fr f4) d4
    · walk_at "go"
      refine ite_d (fun h1 => ?_) (fun h1 => ?_)
      · walk_at "go"
        refine mkL (K := K) .nil fun q2 H2 n2 f2 L2 => ?_
        have T2 := T1.fr f2
        have L12 := L1.fr0 f2
        refine w_neNil L12.dp L2.nil (str_shaped ob) ?_
        cases bs with
        | nil =>
          refine ⟨_, rfl, iteF ?_⟩
          walk_at "go"
          refine ⟨t, H0, rfl, T2, fun n H3 bn f3 T3 => ?_⟩
          walk_at "go"
          refine mkT (K := K) (.cons (.str "num") (.cons (.int n) .nil)) fun p H4 n4 f4 d4 => ?_
          exact k p (.num n) H4 bn (f1.trans ((f2.mono (by simp)).trans (f3.trans (f4.mono (by simp))))) (T3.fr f4) d4
        | cons b0 br =>
          refine ⟨_, rfl, iteT ?_⟩
          walk_at "go"
          refine L12.len ?_
          walk_at "go"
          refine ⟨t, _, H0, rfl, T2, by rw [List.length_map, List.length_cons]; omega, by rw [List.length_map]; omega, fun r H3 a3 b3 f3 T3 => ?_⟩
          refine (L12.fr f3 (by simpa using nq) (T2.tu f3)).at (P := fun d => ∃ x, d = .str x ∧ PyData.strOk x = true) (fun d hd => ?_) a3 b3 fun v d dv hd _ => ?_
          · obtain ⟨x, hx, rfl⟩ := List.mem_map.mp hd
            exact ⟨x, rfl, ob x hx⟩
          obtain ⟨x, rfl, ox⟩ := hd
          cases dv
          walk_at "go"
          refine mkT (K := K) (.cons (.str "box") (.cons (.str x) .nil)) fun p H4 n4 f4 d4 => ?_
          exact k p (.ask ("box", x)) H4 ⟨.inr rfl, ox⟩ (f1.trans ((f2.mono (by simp)).trans (f3.trans (f4.mono (by simp))))) (T3.fr f4) d4
      · walk_at "go"
        refine ⟨t, H0, rfl, T1, fun n H3 bn f3 T3 => ?_⟩
        walk_at "go"
        refine mkT (K := K) (.cons (.str "num") (.cons (.int n) .nil)) fun p H4 n4 f4 d4 => ?_
        exact k p (.num n) H4 bn (f1.trans (f3.trans (f4.mono (by simp)))) (T3.fr f4) d4
def sp_law_asked (P : Program) (w : World) (K : PySem.W.Frag) : Sp := fun vs H Q _ => ∃ (v : V) (ra rs : Addr) (l : Leaf) (kA kS : List (Ask × V)), vs = [v, .ref ra, .ref rs] ∧ Dt K H v l.d ∧ l.ok ∧ DN P w K askD H ra kA ∧ AllI kA ∧ DN P w K askD H rs kS ∧ AllI kS ∧ kS.length ≤ 1000 ∧
  ∀ n kS' H', bnd n → Fr [rs] H H' → Tu H H' → DN P w K askD H' rs kS' → AllI kS' → kS'.length ≤ kS.length + 1 → Q (.int n) H'
theorem ok_law_asked (T : Env K mg) : Fx P w K mg base 1 "_law_asked" p_law_asked (sp_law_asked P w K) := by
  refine T.l_law_asked.ok sc_law_asked (fun vs H Q E h => ?_) (fun f cdv A outer s H vs Q E hr h => ?_)
  · obtain ⟨v, ra, rs, _, _, _, rfl, _⟩ := h
    rfl
  · obtain ⟨v, ra, rs, l, kA, kS, rfl, dv, ol, dA, aA, dS, aS, lS, k⟩ := h
    refine ⟨_, (pss_cons (ps_if (pt_cmpR (op_eqU (K := K) rfl (u64 hr)) (pe_ix (ix_U (K := K) rfl) (pv 0) pe_int (fun _ _ => rfl)) pe_str (nomark _)) (pss_one (ps_ret (pe_ix (ix_U (K := K) rfl) (pv 0) pe_int (fun _ _ => rfl)))) pss_nil)
      (pss_cons (ps_asg (pe_mG (ty_NU (P := P) (w := w) (K := K) kdA rfl rfl rfl) PySem.F.plainAttrs_dict PySem.F.slot_dict_get PySem.F.type_dict_get (mt_getNU (P := P) (w := w) (K := K) kdA rfl rfl rfl (u65 hr)) (pv 1) (pa_cons (pv 0) (pa_cons pe_int pa_nil))) (pg_sub (pv 2) (pv 0) (set_NU (P := P) (w := w) (K := K) kdA rfl rfl rfl (u65 hr))))
      (pss_one (ps_ret (pe_ix (ix_NU (P := P) (w := w) (K := K) kdA rfl rfl rfl (u65 hr)) (pv 2) (pv 0) (fun _ _ => rfl)))))), ?_⟩
    cases l with
    | num n =>
      have dv : Dt K H v (.tuple [.str "num", .int n]) := dv
      walk_at "go"
      refine dv.ix 0 rfl fun u du => ?_
      cases du
      walk_at "go"
      refine ite_d (fun _ => ?_) (fun h => absurd rfl h)
      walk_at "go"
      refine dv.ix 1 rfl fun u du => ?_
      cases du
      exact k n kS H ol Fr.refl Tu.refl dS aS (by omega)
    | ask a =>
      obtain ⟨p, vs, rfl, sv, av⟩ := dv.tuple
      have dv : Dt K H (.ref p) (askD a) := dv
      have ne : a.1 ≠ "num" := by
        rcases ol.1 with e | e <;> rw [e] <;> decide
      have ds : Dt K H (.ref p) (.tuple [.str a.1, .str a.2]) := dv
      walk_at "go"
      refine ds.ix 0 rfl fun u du => ?_
      cases du
      walk_at "go"
      refine ite_d (fun h => absurd h ne) (fun _ => ?_)
      walk_at "go"
      refine ⟨dA.dict, ?_⟩
      walk_at "go"
      refine w_getN dA dv ?_
      obtain ⟨n, en, bn⟩ : ∃ n : Int, (atN kA a).getD (.int 0) = .int n ∧ bnd n := by
        cases e : atN kA a with
        | none => exact ⟨0, rfl, by decide, by decide⟩
        | some x => exact aA.at e
      rw [en]
      walk_at "go"
      refine w_setN dS dv (by omega) fun H1 f1 t1 d1 => ?_
      walk_at "go"
      refine w_ixN d1 (dv.mono t1) at_put ?_
      exact k n _ H1 bn f1 t1 d1 (aS.put bn) put_len
theorem u70 {A : Around} {k : Nat} (hr : Room k A) : A.units + 70 < cLine := by have := hr.un; omega
def intOf : Option V → Int
  | some (.int n) => n
  | _ => 0
theorem wk_parts {H : Hp} {v : V} {x : Str × Leaf} (h : Dt K H v (wkD x)) : ∃ (a : Addr) (lv : V), v = .ref a ∧ SqT K H a [.str x.1, lv] ∧ Dt K H lv x.2.d := by
  obtain ⟨a, us, rfl, s, av⟩ := Dt.tuple (ds := [.str x.1, x.2.d]) h
  cases av with
  | cons d1 av =>
  cases av with
  | cons d2 av =>
  cases av
  cases d1
  exact ⟨a, _, rfl, s, d2⟩
/-- the wants of a row against the numbers of its keys -/
def cntO (os : List (Option Int)) (o : Option Int) : Nat := (os.filter fun c => PyData.eqv (oiD c) (oiD o)).length
def SpW (os : List (Option Int)) (ws : List Wn) : Prop := (∀ x ∈ ws, x.cnt < cntO os x.num) ∧ os.length = ws.length ∧ (ws.map Wn.sp).Nodup ∧ ∀ x ∈ ws, x.fine
theorem SpW.nil : SpW [] [] := ⟨by simp, rfl, by simp, by simp⟩
theorem cntO_snoc (os : List (Option Int)) (o z : Option Int) : cntO os z ≤ cntO (os ++ [o]) z := by
  unfold cntO
  rw [List.filter_append, List.length_append]
  omega
theorem cntO_self (os : List (Option Int)) (o : Option Int) : cntO (os ++ [o]) o = cntO os o + 1 := by
  unfold cntO
  rw [List.filter_append, List.length_append, List.filter_cons, shaped_refl (oi_shaped o)]
  rfl
theorem SpW.snoc {os : List (Option Int)} {ws : List Wn} {o g : Option Int} {cn : Nat} {nm : Str} {wi : Bool} (h : SpW os ws) (hc : cntO os o = cn) (l : os.length ≤ 1000) (bo : obnd o) (bg : obnd g) : SpW (os ++ [o]) (ws ++ [⟨o, cn, nm, g, wi⟩]) := by
  obtain ⟨h1, h2, h3, h4⟩ := h
  have lc : cn ≤ os.length := by
    rw [← hc]
    exact List.length_filter_le _ _
  refine ⟨fun x hx => ?_, by rw [List.length_append, List.length_append, h2]; rfl, ?_, fun x hx => ?_⟩
  · rcases List.mem_append.mp hx with z | z
    · exact Nat.lt_of_lt_of_le (h1 x z) (cntO_snoc _ _ _)
    · rw [List.mem_singleton.mp z]
      show cn < cntO (os ++ [o]) o
      rw [cntO_self]
      omega
  · rw [List.map_append, List.nodup_append]
    refine ⟨h3, by simp, fun a ha b hb => ?_⟩
    obtain ⟨x, hx, rfl⟩ := List.mem_map.mp ha
    rw [List.map_singleton] at hb
    rw [List.mem_singleton.mp hb]
    intro e
    have e1 : x.num = o := congrArg Prod.fst e
    have e2 : (x.cnt : Int) = (cn : Int) := congrArg Prod.snd e
    have := h1 x hx
    rw [e1] at this
    omega
  · rcases List.mem_append.mp hx with z | z
    · exact h4 x z
    · rw [List.mem_singleton.mp z]
      exact ⟨⟨bo, by show (0 : Int) ≤ cn; omega, by show (cn : Int) ≤ 1000000; omega⟩, bg⟩
def sp_law_piece (P : Program) (w : World) (K : PySem.W.Frag) : Sp := fun vs H Q _ => ∃ (v : V) (ra : Addr) (p : Prt) (kA : List (Ask × V)), vs = [v, .ref ra] ∧ PartAt K H [] v p ∧ p.ok ∧ DN P w K askD H ra kA ∧ AllI kA ∧
  ∀ pc rds ws wk H', Fr [] H H' → Dt K H' (.ref pc) (pieceD rds ws wk) → rds.length ≤ 100 → ws.map Wn.name = p.lines.map Ln.name → wk.map (·.1) = p.works.map (·.1) → (∀ x ∈ wk, bnd x.2) → (ws.map Wn.sp).Nodup → (∀ x ∈ ws, x.fine) → Q (.ref pc) H'
theorem ok_law_piece (T : Env K mg) : Fx P w K mg base 2 "_law_piece" p_law_piece (sp_law_piece P w K) := by
  refine T.l_law_piece.ok sc_law_piece (fun vs H Q E h => ?_) (fun f cdv A outer s H vs Q E hr h => ?_)
  · obtain ⟨v, ra, _, _, rfl, _⟩ := h
    rfl
  · obtain ⟨v, ra, p, kA, rfl, ⟨a, b, c, e, rfl, sp, _, Lb, Lc, Le⟩, op, dA, aA, k⟩ := h
    refine ⟨_, (pss_cons (ps_set (i := 2) sc_law_piece.nd rfl (Or.inr rfl) pe_dnewK)
      (pss_cons (ps_set (i := 3) sc_law_piece.nd rfl (Or.inl rfl) (pe_lst pa_nil))
      (pss_cons (ps_set (i := 4) sc_law_piece.nd rfl (Or.inl rfl) (pe_lst pa_nil))
      (pss_cons (ps_for PassesOwn.never rfl (pi_listU (K := K) rfl (pe_ix (ix_U (K := K) rfl) (pv 0) pe_int (fun _ _ => rfl))) (pg_tupU (K := K) (n := 4) rfl rfl (pgs_cons (pg_name (i := 5) sc_law_piece.nd rfl (Or.inl rfl)) (pgs_cons (pg_name (i := 6) sc_law_piece.nd rfl (Or.inl rfl)) (pgs_cons (pg_name (i := 7) sc_law_piece.nd rfl (Or.inl rfl)) (pgs_cons (pg_name (i := 8) sc_law_piece.nd rfl (Or.inl rfl)) pgs_nil))))) (pss_cons (ps_set (i := 9) sc_law_piece.nd rfl (Or.inr rfl) pe_non)
      (C8.pss_cut (ps_if (pt_cmp (pc_notN (pv 5))) (pss_one (ps_set (i := 9) sc_law_piece.nd rfl (Or.inr rfl) (pe_fx (ok_law_asked (P := P) (w := w) T) hr (by decide) (pa_cons (pv 5) (pa_cons (pv 1) (pa_cons (pv 2) pa_nil)))))) pss_nil)
      (pss_cons (ps_set (i := 10) sc_law_piece.nd rfl (Or.inl rfl) (pe_tup (pa_cons (pv 9) (pa_cons (pe_callB (call_lenU (K := K) rfl) (by rfl) T.m_len (by decide +kernel) (pa_cons (pe_lc (own := [("_law_one", 13)]) (g := (gName 13)) rfl sc_law_piece.nd (pi_listU (K := K) rfl (pv 4)) (blkOk_by (N := N_law_piece) (sc := defScope s_law_piece) (by decide +kernel)) (fun _ _ _ _ _ => (pg_name (i := 13) sc_law_piece.nd rfl (Or.inl rfl))) (fun _ _ _ _ _ => (pts_one (pt_cmpR (op_eqU (K := K) rfl (u64 hr)) (pv 13) (pv 9) (nomark _)))) (fun _ _ _ _ _ => (pv 13))) pa_nil)) pa_nil))))
      (pss_cons (ps_expr (pe_bm PySem.F.plainAttrs_list PySem.F.slot_list_append PySem.F.type_list_append mt_append (pv 4) (pa_cons (pv 9) pa_nil)))
      (pss_cons (ps_set (i := 11) sc_law_piece.nd rfl (Or.inl rfl) (pe_tup pa_nil))
      (C8.pss_cut (ps_if (pt_cmp (pc_notN (pv 7))) (pss_one (ps_set (i := 11) sc_law_piece.nd rfl (Or.inl rfl) (pe_tup (pa_cons (pe_tup (pa_cons pe_str (pa_cons (pe_fx (ok_law_asked (P := P) (w := w) T) hr (by decide) (pa_cons (pv 7) (pa_cons (pv 1) (pa_cons (pv 2) pa_nil)))) pa_nil))) pa_nil)))) pss_nil)
      (pss_one (ps_if (pt_val (pv 8)) (pss_one (ps_expr (pe_bm PySem.F.plainAttrs_list PySem.F.slot_list_append PySem.F.type_list_append mt_append (pv 3) (pa_cons (pe_tup (pa_cons pe_str (pa_cons (pv 10) (pa_cons pe_str (pa_cons (pe_tup pa_nil) (pa_cons (pe_tup pa_nil) (pa_cons (pe_tup (pa_cons (pe_tup (pa_cons pe_str (pa_cons (pe_tup (pa_cons pe_non (pa_cons pe_int pa_nil))) (pa_cons (pv 6) (pa_cons (pv 11) pa_nil))))) pa_nil)) pa_nil))))))) pa_nil)))) (pss_one (ps_expr (pe_bm PySem.F.plainAttrs_list PySem.F.slot_list_append PySem.F.type_list_append mt_append (pv 3) (pa_cons (pe_tup (pa_cons pe_str (pa_cons (pv 10) (pa_cons (pv 6) (pa_cons (pv 11) pa_nil))))) pa_nil)))))))))))))
      (pss_cons (ps_set (i := 12) sc_law_piece.nd rfl (Or.inl rfl) (pe_callTy (call_tupleU (K := K) rfl) (by rfl) T.m_tuple (by decide +kernel) (pa_cons (pe_lc (own := [("_law_name", 6), ("_law_one", 13)]) (g := (gTup K 2 (gCons (gName 6) (gCons (gName 13) gNil)))) (tt := tYes) rfl sc_law_piece.nd (pi_listU (K := K) rfl (pe_ix (ix_U (K := K) rfl) (pv 0) pe_int (fun _ _ => rfl))) (blkOk_by (N := N_law_piece) (sc := defScope s_law_piece) (by decide +kernel)) (fun _ _ _ _ _ => (pg_tupU (K := K) (n := 2) rfl rfl (pgs_cons (pg_name (i := 6) sc_law_piece.nd rfl (Or.inl rfl)) (pgs_cons (pg_name (i := 13) sc_law_piece.nd rfl (Or.inl rfl)) pgs_nil)))) (fun _ _ _ _ _ => pts_nil) (fun _ _ _ _ _ => (pe_tup (pa_cons (pv 6) (pa_cons (pe_fx (ok_law_asked (P := P) (w := w) T) hr (by decide) (pa_cons (pv 13) (pa_cons (pv 1) (pa_cons (pv 2) pa_nil)))) pa_nil))))) pa_nil)))
      (pss_one (ps_ret (pe_tup (pa_cons (pe_callTy (call_tupleU (K := K) rfl) (by rfl) T.m_tuple (by decide +kernel) (pa_cons (pe_lc (own := [("_law_one", 13)]) (g := (gName 13)) (tt := tYes) rfl sc_law_piece.nd (pi_listU (K := K) rfl (pe_callB (call_sortedKNU (P := P) (w := w) (K := K) kdA rfl rfl rfl rfl (u70 hr)) (by rfl) T.m_sorted (by decide +kernel) (pa_cons (pv 2) pa_nil))) (blkOk_by (N := N_law_piece) (sc := defScope s_law_piece) (by decide +kernel)) (fun _ _ _ _ _ => (pg_name (i := 13) sc_law_piece.nd rfl (Or.inl rfl))) (fun _ _ _ _ _ => pts_nil) (fun _ _ _ _ _ => (pe_tup (pa_cons (pv 13) (pa_cons (pe_ix (ix_NU (P := P) (w := w) (K := K) kdA rfl rfl rfl (u65 hr)) (pv 2) (pv 13) (fun _ _ => rfl)) pa_nil))))) pa_nil)) (pa_cons (pe_callTy (call_tupleU (K := K) rfl) (by rfl) T.m_tuple (by decide +kernel) (pa_cons (pv 3) pa_nil)) (pa_cons (pv 12) pa_nil))))))))))), ?_⟩
    walk_at "go"
    refine mkD fun rs H1 n1 f1 e1 => ?_
    walk_at "go"
    refine mkL (K := K) .nil fun qr H2 n2 f2 L2 => ?_
    walk_at "go"
    refine mkL (K := K) .nil fun qk H3 n3 f3 L3 => ?_
    walk_at "go"
    have f13 := f2.trans f3
    have f03 := f1.trans f13
    have nr : H qr = none := f1.free n2
    have nk : H qk = none := (f1.trans f2).free n3
    have drk : rs ≠ qk ∧ rs ≠ qr ∧ qr ≠ qk := by
      have e3 := f13 _ _ e1 (by simp)
      obtain ⟨_, x2, _⟩ := L2
      refine ⟨?_, ?_, ?_⟩
      · rintro rfl
        rw [f2 _ _ e1 (by simp)] at n3
        cases n3
      · rintro rfl
        rw [e1] at n2
        cases n2
      · rintro rfl
        rw [x2] at n3
        cases n3
    refine w_ixT (f03.seqT sp (by simp)) rfl ?_
    refine (Le.fr0 f03).walk (fun i σ H' => Fr [] H H' ∧ ∃ (kS : List (Ask × V)) (ws : List Wn) (os : List (Option Int)) (v5 v6 v7 v8 v9 v10 v11 v12 v13 : Option V), σ = [some (.ref a), some (.ref ra), some (.ref rs), some (.ref qr), some (.ref qk), v5, v6, v7, v8, v9, v10, v11, v12, v13] ∧
      DN P w K askD H' rs kS ∧ AllI kS ∧ kS.length ≤ 2 * i ∧ Lq K H' qr (ws.map Wn.d) ∧ ws.map Wn.name = (p.lines.take i).map Ln.name ∧ Lq K H' qk (os.map oiD) ∧ os.length = i ∧ SpW os ws) ?_ ?_ ?_ ?_
    · exact ⟨f03, [], [], [], _, _, _, _, _, _, _, _, _, rfl, .inl ⟨rfl, f13 _ _ e1 (by simp)⟩, by intro z hz; simp at hz, by exact Nat.zero_le _, L2.fr0 f3, by simp, L3, rfl, SpW.nil⟩
    · rintro i σ H' ⟨f', _⟩
      exact Le.fr0 f'
    · rintro i x d σ H4 hi dx ⟨f4, kS, ws, os, v5, v6, v7, v8, v9, v10, v11, v12, v13, rfl, dS, aS, lS, Lr, nw, Lk, lo, sw⟩
      obtain ⟨l, hl, rfl⟩ := map_get hi
      have ll : i < p.lines.length := (List.getElem?_eq_some_iff.mp hl).1
      have l3 := op.1.2.2
      obtain ⟨ok1, ok2, ok3⟩ := op.2.2.2.1 l (List.mem_of_getElem? hl)
      obtain ⟨tl, kv, gv, rfl, st, dk, dg⟩ := ln_parts dx
      refine w_gtup st rfl ?_
      walk_at "go"
      refine w_cut (fun σ' H' => ∃ (o : Option Int) (kS' : List (Ask × V)), σ' = [some (.ref a), some (.ref ra), some (.ref rs), some (.ref qr), some (.ref qk), some kv, some (.str l.name), some gv, some (.bl l.within), some (oiV o), v10, v11, v12, v13] ∧ Fr [rs] H4 H' ∧ Tu H4 H' ∧ DN P w K askD H' rs kS' ∧ AllI kS' ∧ kS'.length ≤ kS.length + 1 ∧ obnd o) ?_ ?_
      · walk_at "go"
        rcases opt_cases dk with ⟨_, rfl⟩ | ⟨lf, pk, hk, rfl, dlf⟩
        · refine ite_nd (fun h => absurd rfl h) (fun _ => ?_)
          walk_at "go"
          exact ⟨none, kS, rfl, Fr.refl, Tu.refl, dS, aS, by omega, by intro n h; cases h⟩
        · refine ite_nd (fun _ => ?_) (fun h => nomatch h)
          walk_at "go"
          refine ⟨_, ra, rs, lf, kA, kS, rfl, dlf, ok1 lf hk, dA.fr0 f4, aA, dS, aS, by omega, fun n kS' H5 bn f5 t5 dS5 aS5 lS5 => ?_⟩
          walk_at "go"
          exact ⟨some n, kS', rfl, f5, t5, dS5, aS5, lS5, by intro m h; cases h; exact bn⟩
      · rintro σ' H5 ⟨o, kS5, rfl, f5, t5, dS5, aS5, lS5, bo⟩
        have Lk5 := Lk.fr f5 (by simpa using drk.1.symm) t5
        have Lr5 := Lr.fr f5 (by simpa using drk.2.1.symm) t5
        have f05 : Fr [] H H5 := Fr.drop1 n1 f4 f5
        walk_at "go"
        refine LCX_L (K := K) (cs := os) (dS := oiD) (fun c => PyData.eqv (oiD c) (oiD o)) oiD Lk5 (by omega) ?_ fun q6 H6 n6 f6 L6 => ?_
        · intro c x H' KEEP DROP hc f' dx keep drop
          walk_at "go"
          refine w_eqD dx.dp (oiV_dt o).dp (oi_shaped c) (oi_shaped o) ?_
          walk_at "go"
          cases ee : PyData.eqv (oiD c) (oiD o) with
          | true =>
            refine iteT ?_
            walk_at "go"
            exact keep ee _ _ Fr.refl dx
          | false =>
            refine iteF ?_
            exact drop ee _ Fr.refl
        · walk_at "go"
          refine L6.len ?_
          rw [List.length_map]
          generalize hcn : (List.filter (fun c => PyData.eqv (oiD c) (oiD o)) os).length = cn
          walk_at "go"
          refine mkT (K := K) (.cons (oiV_dt o) (.cons (.int cn) .nil)) fun p7 H7 n7 f7 d7 => ?_
          have f57 := f6.trans f7
          have Lk7 := Lk5.fr0 f57
          have Lr7 := Lr5.fr0 f57
          have dS7 := dS5.fr0 f57
          walk_at "go"
          refine ⟨Lk7.ty, ?_⟩
          walk_at "go"
          refine Lk7.app (oiV_dt o) (by rw [List.length_map]; omega) fun H8 f8 t8 Lk8 => ?_
          have f08 : Fr [] H H8 := Fr.drop1 nk (f05.trans f57) f8
          have Lr8 := Lr7.fr f8 (by simpa using drk.2.2) t8
          have dS8 := dS7.fr f8 (by simpa using drk.1) t8
          have d8 := d7.mono t8
          walk_at "go"
          refine mkT (K := K) .nil fun p9 H9 n9 f9 d9 => ?_
          have Lk9 := Lk8.fr0 f9
          have Lr9 := Lr8.fr0 f9
          have dS9 := dS8.fr0 f9
          have d89 := d8.mono f9.tu
          have f09 := f08.trans f9
          walk_at "go"
          refine w_cut (fun σ' H' => ∃ (g : Option Int) (gp : Addr) (kS' : List (Ask × V)), σ' = [some (.ref a), some (.ref ra), some (.ref rs), some (.ref qr), some (.ref qk), some kv, some (.str l.name), some gv, some (.bl l.within), some (oiV o), some (.ref p7), some (.ref gp), v12, v13] ∧ Fr [rs] H9 H' ∧ Tu H9 H' ∧ DN P w K askD H' rs kS' ∧ AllI kS' ∧ kS'.length ≤ kS5.length + 1 ∧ Dt K H' (.ref gp) (givD g) ∧ obnd g) ?_ ?_
          · walk_at "go"
            rcases opt_cases (((((dg.mono t5).mono f57.tu).mono t8).mono f9.tu)) with ⟨_, rfl⟩ | ⟨lf, pk, hk, rfl, dlf⟩
            · refine ite_nd (fun h => absurd rfl h) (fun _ => ?_)
              walk_at "go"
              exact ⟨none, p9, kS5, rfl, Fr.refl, Tu.refl, dS9, aS5, by omega, d9, by intro n h; cases h⟩
            · refine ite_nd (fun _ => ?_) (fun h => nomatch h)
              walk_at "go"
              refine ⟨_, ra, rs, lf, kA, kS5, rfl, dlf, ok2 lf hk, dA.fr0 f09, aA, dS9, aS5, by omega, fun n kS' H10 bn f10 t10 dS10 aS10 lS10 => ?_⟩
              walk_at "go"
              refine mkT (K := K) (.cons (.str "a") (.cons (.int n) .nil)) fun p11 H11 n11 f11 d11 => ?_
              walk_at "go"
              refine mkT (K := K) (.cons d11 .nil) fun p12 H12 n12 f12 d12 => ?_
              walk_at "go"
              have f1012 := f11.trans f12
              exact ⟨some n, p12, kS', rfl, f10.trans (f1012.mono (by simp)), t10.trans f1012.tu, dS10.fr0 f1012, aS10, lS10, d12, by intro m h; cases h; exact bn⟩
          · rintro σ' H10 ⟨g, gp, kS10, rfl, f10, t10, dS10, aS10, lS10, dgp, bg⟩
            have Lk10 := Lk9.fr f10 (by simpa using drk.1.symm) t10
            have Lr10 := Lr9.fr f10 (by simpa using drk.2.1.symm) t10
            have f010 : Fr [] H H10 := Fr.drop1 n1 f09 f10
            have dsp : Dt K H10 (.ref p7) (.tuple [oiD o, .int cn]) := d89.mono t10
            have nw' : (ws ++ [(⟨o, cn, l.name, g, l.within⟩ : Wn)]).map Wn.name = (p.lines.take (i + 1)).map Ln.name := by
              rw [List.map_append, nw, List.take_add_one, hl, List.map_append]
              rfl
            have sw' : SpW (os ++ [o]) (ws ++ [(⟨o, cn, l.name, g, l.within⟩ : Wn)]) := sw.snoc hcn (by omega) bo bg
            walk_at "go"
            refine ite_b (fun hw => ?_) (fun hw => ?_)
            · walk_at "go"
              refine ⟨Lr10.ty, ?_⟩
              walk_at "go"
              refine mkT (K := K) .nil fun p1 Ha na fa da => ?_
              walk_at "go"
              refine mkT (K := K) .nil fun p2 Hb nb fb db => ?_
              walk_at "go"
              refine mkT (K := K) (.cons .non (.cons (.int 0) .nil)) fun p3 Hc nc fc dc => ?_
              walk_at "go"
              refine mkT (K := K) (.cons (.str "part") (.cons dc (.cons (.str l.name) (.cons (dgp.mono ((fa.trans fb).trans fc).tu) .nil)))) fun p4 Hd nd fd dd => ?_
              walk_at "go"
              refine mkT (K := K) (.cons dd .nil) fun p5 He ne' fe de => ?_
              walk_at "go"
              have fbe := (fc.trans fd).trans fe
              refine mkT (K := K) (.cons (.str "plain") (.cons (dsp.mono ((fa.trans fb).trans fbe).tu) (.cons (.str "row") (.cons (da.mono (fb.trans fbe).tu) (.cons (db.mono fbe.tu) (.cons de .nil)))))) fun p6 Hf nf ff df => ?_
              have faf := ((fa.trans fb).trans fbe).trans ff
              have df : Dt K Hf (.ref p6) (Wn.d ⟨o, cn, l.name, g, true⟩) := df
              walk_at "go"
              refine (Lr10.fr0 faf).app df (by have := congrArg List.length nw; rw [List.length_map, List.length_map, List.length_take] at this; rw [List.length_map]; omega) fun Hg fg tg Lg => ?_
              have f0g : Fr [] H Hg := Fr.drop1 nr (f010.trans faf) fg
              refine ⟨f0g, kS10, ws ++ [⟨o, cn, l.name, g, l.within⟩], os ++ [o], _, _, _, _, _, _, _, _, _, rfl, (dS10.fr0 faf).fr fg (by simpa using drk.2.1) tg, aS10, by omega, ?_, nw', ?_, by simp [lo], sw'⟩
              · rw [List.map_append]
                rw [show l.within = true from hw]
                exact Lg
              · rw [List.map_append]
                exact (Lk10.fr0 faf).fr fg (by simpa using drk.2.2.symm) tg
            · walk_at "go"
              refine ⟨Lr10.ty, ?_⟩
              walk_at "go"
              refine mkT (K := K) (.cons (.str "part") (.cons dsp (.cons (.str l.name) (.cons dgp .nil)))) fun p6 Hf nf faf df => ?_
              have df : Dt K Hf (.ref p6) (Wn.d ⟨o, cn, l.name, g, false⟩) := df
              walk_at "go"
              refine (Lr10.fr0 faf).app df (by have := congrArg List.length nw; rw [List.length_map, List.length_map, List.length_take] at this; rw [List.length_map]; omega) fun Hg fg tg Lg => ?_
              have f0g : Fr [] H Hg := Fr.drop1 nr (f010.trans faf) fg
              refine ⟨f0g, kS10, ws ++ [⟨o, cn, l.name, g, l.within⟩], os ++ [o], _, _, _, _, _, _, _, _, _, rfl, (dS10.fr0 faf).fr fg (by simpa using drk.2.1) tg, aS10, by omega, ?_, nw', ?_, by simp [lo], sw'⟩
              · rw [List.map_append]
                rw [show l.within = false from hw]
                exact Lg
              · rw [List.map_append]
                exact (Lk10.fr0 faf).fr fg (by simpa using drk.2.2.symm) tg
    · rintro σ H4 ⟨f4, kS, ws, os, v5, v6, v7, v8, v9, v10, v11, v12, v13, rfl, dS, aS, lS, Lr, nw, Lk, lo, sw⟩
      rw [List.length_map, List.take_length] at nw
      rw [List.length_map] at lo lS
      have l3 := op.1.2.2
      walk_at "go"
      refine w_ixT (f4.seqT sp (by simp)) rfl ?_
      obtain ⟨us, hus, dus⟩ := Lc.fr0 f4
      have lus : us.length = p.works.length := by rw [dus.length, List.length_map]
      have lwk := op.1.2.1
      have nc : c ≠ rs := by
        rintro rfl
        obtain ⟨_, x, _⟩ := Lc
        rw [n1] at x
        cases x
      refine LC_L (SqL.of hus) fun D nD => LC_by (a := c) (xs := us) (fun i H' => Fr [rs] H4 H' ∧ Tu H4 H' ∧ ∃ (kS' : List (Ask × V)) (wk : List (Str × Int)), DN P w K askD H' rs kS' ∧ AllI kS' ∧ kS'.length ≤ kS.length + i ∧ Lq K H' D (wk.map wvD) ∧ wk.length = i ∧ wk.map (·.1) = (p.works.take i).map (·.1) ∧ ∀ x ∈ wk, bnd x.2) ?_ ?_ ?_ ?_
      · exact ⟨(Fr.new (S := []) nD).mono (by simp), Tu.new nD, kS, [], dS.fr0 (Fr.new nD), aS, by omega, ⟨[], upd_same, .nil⟩, rfl, by simp, by simp⟩
      · rintro i H' _ ⟨f', t', _⟩
        exact SqL.of (f' _ _ hus (by simpa using nc))
      · rintro i x H5 hx ⟨f5, t5, kS5, wk, dS5, aS5, lS5, L5, lw5, nw5, ow⟩
        obtain ⟨d, hd, dx⟩ := (dus.mono t5).get hx
        obtain ⟨wl, hwl, rfl⟩ := map_get hd
        obtain ⟨ow1, ow2⟩ := op.2.2.1 wl (List.mem_of_getElem? hwl)
        obtain ⟨ta, lv, rfl, sta, dlv⟩ := wk_parts dx
        have li : i < p.works.length := (List.getElem?_eq_some_iff.mp hwl).1
        have hrD : rs ≠ D := by
          rintro rfl
          rcases dS with ⟨_, e⟩ | ⟨_, _, N⟩
          · rw [nD] at e; cases e
          · have z := N.there
            rw [nD] at z
            cases z
        refine w_gtup sta rfl ?_
        walk_at "go"
        refine ⟨lv, ra, rs, wl.2, kA, kS5, rfl, dlv, ow2, dA.fr0 (Fr.drop1 n1 f4 f5), aA, dS5, aS5, by omega, fun n kS6 H6 bn f6 t6 dS6 aS6 lS6 => ?_⟩
        walk_at "go"
        refine mkT (K := K) (.cons (.str wl.1) (.cons (.int n) .nil)) fun p7 H7 n7 f7 d7 => ?_
        have d7 : Dt K H7 (.ref p7) (wvD (wl.1, n)) := d7
        obtain ⟨acc, ha, da⟩ := (L5.fr f6 (by simpa using hrD.symm) t6).fr0 f7
        refine ⟨acc, ha, Nat.lt_of_le_of_lt (show acc.length ≤ 100000 by rw [da.length, List.length_map]; omega) (by decide), ?_, ((t5.trans t6).trans f7.tu).trans (Tu.mut ha), kS6, wk ++ [(wl.1, n)], ?_, aS6, by omega, ⟨_, upd_same, ?_⟩, by simp [lw5], by rw [List.map_append, nw5, List.take_add_one, hwl, List.map_append]; rfl, ?_⟩
        · exact Fr.drop1 nD ((f5.trans f6).trans (f7.mono (by simp))) (Fr.mut (by simp))
        · exact (dS6.fr0 f7).fr (Fr.mut (S := [D]) (by simp)) (by simpa using hrD) (Tu.mut ha)
        · rw [List.map_append]
          exact (da.append (.cons d7 .nil)).mono (Tu.mut ha)
        · intro y hy
          rcases List.mem_append.mp hy with z | z
          · exact ow y z
          · rw [List.mem_singleton.mp z]; exact bn
      · rintro H5 ⟨f5, t5, kS5, wk, dS5, aS5, lS5, L5, lw5, nw5, ow⟩
        have Lr5 := Lr.fr f5 (by simpa using drk.2.1.symm) t5
        have f05 : Fr [] H H5 := Fr.drop1 n1 f4 f5
        walk_at "go"
        refine L5.tuple fun pw H6 f6 dw => ?_
        have dS6 := dS5.fr0 f6
        walk_at "go"
        refine ⟨rs, kS5, rfl, dS6, by omega, ask_sorty _, fun qs H7 n7 f7 L7 => ?_⟩
        have dS7 := dS6.fr0 f7
        have pm : ∀ x, x ∈ ((kS5.map (·.1)).mergeSort (PySem.W.dataLe false askD)) ↔ x ∈ kS5.map (·.1) := fun x => (List.mergeSort_perm _ _).mem_iff
        have lm : ((kS5.map (·.1)).mergeSort (PySem.W.dataLe false askD)).length = kS5.length := by rw [(List.mergeSort_perm _ _).length_eq, List.length_map]
        generalize (kS5.map (·.1)).mergeSort (PySem.W.dataLe false askD) = ks at L7 pm lm
        refine LCX_L (K := K) (cs := ks) (dS := askD) (fun _ => true) (fun c => rdD (c, intOf (atN kS5 c))) L7 (by omega) ?_ fun q8 H8 n8 f8 L8 => ?_
        · intro c x H' KEEP DROP hc f' dx keep drop
          obtain ⟨xp, _, rfl, _, _⟩ := Dt.tuple (ds := [.str c.1, .str c.2]) dx
          obtain ⟨vv, hv⟩ := at_some ((pm c).mp hc)
          obtain ⟨n, rfl, _⟩ := aS5.at hv
          walk_at "go"
          refine w_ixN (dS7.fr0 f') dx hv ?_
          walk_at "go"
          refine mkT (K := K) (.cons dx (.cons (.int n) .nil)) fun p9 H9 n9 f9 d9 => ?_
          refine keep rfl _ _ f9 ?_
          show Dt K H9 (.ref p9) (.tuple [askD c, .int (intOf (atN kS5 c))])
          rw [hv]
          exact d9
        · rw [List.filter_eq_self.mpr (fun _ _ => rfl)] at L8
          walk_at "go"
          refine L8.tuple fun pr H9 f9 dr => ?_
          walk_at "go"
          have f69 := (f7.trans f8).trans f9
          refine (Lr5.fr0 (f6.trans f69)).tuple fun pq H10 f10 dq => ?_
          walk_at "go"
          rw [show (fun c => rdD (c, intOf (atN kS5 c))) = rdD ∘ (fun c => (c, intOf (atN kS5 c))) from rfl, ← List.map_map] at dr
          refine mkT (K := K) (.cons (dr.mono f10.tu) (.cons dq (.cons (dw.mono (f69.trans f10).tu) .nil))) fun pc H11 n11 f11 dc => ?_
          rw [lus, List.take_length] at nw5
          exact k pc _ ws wk H11 (f05.trans (((f6.trans f69).trans f10).trans f11)) dc (by rw [List.length_map]; omega) nw nw5 ow sw.2.2.1 sw.2.2.2
end

section
variable {P : Program} {w : World} {K : PySem.W.Frag} {mg : Str → Option Value} {base : Heap}
def sp_law_numbers (P : Program) (w : World) (K : PySem.W.Frag) : Sp := fun vs H Q _ => ∃ (t d : Addr) (S : List Addr) (pv v : V) (k : PN) (p : Prt) (kvs : List (PN × V)) (H0 : Hp), vs = [.ref t, .ref d, pv, .str k.2, v] ∧ Tape K H0 H t ∧ H0 d = none ∧ d ≠ t ∧ (t ∈ S ∧ d ∈ S ∧ ∀ a ∈ S, H a ≠ none) ∧ StoreAt P w K H S d kvs ∧ kvs.length ≤ 50000 ∧ Dt K H pv (.tuple (k.1.map spD)) ∧ PartAt K H [t, d] v p ∧ p.ok ∧
  ∀ x kvs' H', Fr [t, d] H H' → Tu H H' → Tape K H0 H' t → StoreAt P w K H' S d kvs' → kvs'.length ≤ kvs.length + 1 → NumL H' S x → Q x H'
theorem numbers_new {t d : Addr} {S : List Addr} {pv' v : V} {k : PN} {p : Prt} {kvs : List (PN × V)} {H0 H : Hp} {M : L2.St → Hp → Prop} {r : VK} {b c : L2.St → Hp → Prop} (T0 : Tape K H0 H t) (n0 : H0 d = none) (ndt : d ≠ t) (hS : t ∈ S ∧ d ∈ S ∧ ∀ a ∈ S, H a ≠ none) (S0 : StoreAt P w K H S d kvs) (lk : kvs.length ≤ 50000) (dp : Dt K H pv' (.tuple (k.1.map spD))) (hp : PartAt K H [t, d] v p) (op : p.ok)
    (m : ∀ H' kvs', Fr [t, d] H H' → Tu H H' → Tape K H0 H' t → StoreAt P w K H' S d kvs' → kvs'.length ≤ kvs.length + 1 → (∃ x, atN kvs' k = some x) → M [some (.ref t), some (.ref d), some pv', some (.str k.2), some v, none] H') :
    tAsg (tLc (iList K (tOp (rIx K) (tVar 4) (tC (.int 0)))) (gName 5) tYes (tCall (sp_law_number K) [] E0 (tCons (tVar 0) tNil)) [5]) (gSub (tVar 1) (tTup (tCons (tVar 2) (tCons (tVar 3) tNil))) (rSetN P w K pnD)) ⟨M, r, b, c⟩ [some (.ref t), some (.ref d), some pv', some (.str k.2), some v, none] H := by
  obtain ⟨a, b', c', e, rfl, sp, nn, Lb, Lc, Le⟩ := hp
  walk_at "go"
  refine w_ixT sp rfl ?_
  obtain ⟨us, hus, dus⟩ := id Lb
  have lus : us.length = p.boxes.length := by rw [dus.length, List.length_map]
  have lbx := op.1.1
  refine LC_L (SqL.of hus) fun D nD => LC_by (a := b') (xs := us) (fun i H' => Fr [t] H H' ∧ Tu H H' ∧ Tape K H0 H' t ∧ ∃ ns : List Int, H' D = some (.lst (ns.map V.int)) ∧ ns.length = i ∧ ∀ n ∈ ns, bnd n) ⟨(Fr.new (S := []) nD).mono (by simp), Tu.new nD, T0.new nD, [], upd_same, rfl, by simp⟩ ?_ ?_ ?_
  · rintro i H' _ ⟨f', _⟩
    exact SqL.of (f' _ _ hus (by
      have := nn.2.1
      simp only [List.mem_cons, List.not_mem_nil, or_false, not_or] at this
      simpa using this.1))
  · rintro i x H' hx ⟨f', t', T', ns, hD, ln, bns⟩
    have nDt := T0.ne nD
    walk_at "go"
    refine ⟨t, H0, rfl, T', fun n H2 bn f2 T2 => ?_⟩
    have hD2 := f2 _ _ hD (by simpa using nDt)
    have li : i < us.length := (List.getElem?_eq_some_iff.mp hx).1
    refine ⟨_, hD2, Nat.lt_of_le_of_lt (show (ns.map V.int).length ≤ 100000 by rw [List.length_map]; omega) (by decide), Fr.drop1 nD (f'.trans f2) (Fr.mut (by simp)), (t'.trans (T'.tu f2)).trans (Tu.mut hD2), T2.mut nDt (T0.no nD), ns ++ [n], by rw [upd_same, List.map_append]; rfl, by simp [ln], fun z hz => by
      rcases List.mem_append.mp hz with y | y
      · exact bns z y
      · rw [List.mem_singleton.mp y]; exact bn⟩
  · rintro H2 ⟨f2, t2, T2, ns, hD, ln, bns⟩
    have S2 := S0.fr f2 (by simpa using hS.1) (by simpa using ndt) t2
    have nDt := T0.ne nD
    have nDd : D ≠ d := DN.none_ne S0.1 nD
    have nDS : D ∉ S := fun z => hS.2.2 D z nD
    walk_at "go"
    refine mkT (K := K) (.cons (dp.mono t2) (.cons (.str k.2) .nil)) fun pk H3 n3 f3 d3 => ?_
    have d3 : Dt K H3 (.ref pk) (pnD k) := d3
    have S3 := S2.fr0 f3
    refine w_setN S3.1 d3 (by omega) fun H4 f4 t4 d4 => ?_
    have T4 := (T2.fr f3).fr1 f4 ndt n0
    have f04 : Fr [t, d] H H4 := ((f2.mono (by simp)).trans (f3.mono (by simp))).trans (f4.mono (by simp))
    refine m H4 _ f04 ((t2.trans f3.tu).trans t4) T4 ⟨d4, fun kv hkv => ?_⟩ put_len ⟨_, at_put⟩
    unfold putN at hkv
    split at hkv
    · obtain ⟨y, hy, rfl⟩ := List.mem_map.mp hkv
      split
      · exact ⟨D, ns, rfl, f4 _ _ (f3 _ _ hD (by simp)) (by simpa using nDd), nDS, by omega, bns⟩
      · exact (S3.2 y hy).fr f4 (by simpa using hS.2.1)
    · rcases List.mem_append.mp hkv with z | z
      · exact (S3.2 kv z).fr f4 (by simpa using hS.2.1)
      · rw [List.mem_singleton.mp z]
        exact ⟨D, ns, rfl, f4 _ _ (f3 _ _ hD (by simp)) (by simpa using nDd), nDS, by omega, bns⟩
theorem ok_law_numbers (T : Env K mg) : Fx P w K mg base 3 "_law_numbers" p_law_numbers (sp_law_numbers P w K) := by
  refine T.l_law_numbers.ok sc_law_numbers (fun vs H Q E h => ?_) (fun f cdv A outer s H vs Q E hr h => ?_)
  · obtain ⟨t, d, _, _, _, _, _, _, _, rfl, _⟩ := h
    rfl
  · obtain ⟨t, d, S, pv', v, k, p, kvs, H0, rfl, T0, n0, ndt, hS, S0, lk, dp, hp, op, kk⟩ := h
    refine ⟨_, (C8.pss_cut (ps_if (PW.pt (pw_or (pt_cmpR (op_ninNU (P := P) (w := w) (K := K) kdP rfl rfl rfl (u65 hr)) (pe_tup (pa_cons (pv 2) (pa_cons (pv 3) pa_nil))) (pv 1) (by rfl)) (pw_or1 (pt_cmpR (op_eqU (K := K) rfl (u64 hr)) (pe_fx (ok_law_draw (P := P) (w := w) T) hr (by decide) (pa_cons (pv 0) (pa_cons pe_int pa_nil))) pe_int (nomark _))))) (pss_one (ps_asg (pe_lc (own := [("_law_box", 5)]) (g := (gName 5)) (tt := tYes) rfl sc_law_numbers.nd (pi_listU (K := K) rfl (pe_ix (ix_U (K := K) rfl) (pv 4) pe_int (fun _ _ => rfl))) (blkOk_by (N := N_law_numbers) (sc := defScope s_law_numbers) (by decide +kernel)) (fun _ _ _ _ _ => (pg_name (i := 5) sc_law_numbers.nd rfl (Or.inl rfl))) (fun _ _ _ _ _ => pts_nil) (fun _ _ _ _ _ => (pe_fx (ok_law_number (P := P) (w := w) T) hr (by decide) (pa_cons (pv 0) pa_nil)))) (pg_sub (pv 1) (pe_tup (pa_cons (pv 2) (pa_cons (pv 3) pa_nil))) (set_NU (P := P) (w := w) (K := K) kdP rfl rfl rfl (u65 hr))))) pss_nil)
      (pss_one (ps_ret (pe_ix (ix_NU (P := P) (w := w) (K := K) kdP rfl rfl rfl (u65 hr)) (pv 1) (pe_tup (pa_cons (pv 2) (pa_cons (pv 3) pa_nil))) (fun _ _ => rfl))))), ?_⟩
    -- the last line
    have last : ∀ H' kvs', Fr [t, d] H H' → Tu H H' → Tape K H0 H' t → StoreAt P w K H' S d kvs' → kvs'.length ≤ kvs.length + 1 → (∃ x, atN kvs' k = some x) → MkT [pv', .str k.2] (fun y H'' => rIxN P w K pnD (.ref d) y H'' Q) H' := by
      intro H' kvs' f' t' T' S' l' ⟨x, hx⟩
      refine mkT (K := K) (.cons (dp.mono t') (.cons (.str k.2) .nil)) fun pk Hk nk fk dk => ?_
      have dk : Dt K Hk (.ref pk) (pnD k) := dk
      have Sk := S'.fr0 fk
      refine w_ixN Sk.1 dk hx ?_
      obtain ⟨kv, m, _, e⟩ := at_mem hx
      rw [← e]
      exact kk kv.2 kvs' Hk (f'.trans (fk.mono (by simp))) (t'.trans fk.tu) (T'.fr fk) Sk l' (Sk.2 kv m)
    walk_at "go"
    refine w_cut (fun σ' H' => ∃ (kvs' : List (PN × V)) (v5 : Option V), σ' = [some (.ref t), some (.ref d), some pv', some (.str k.2), some v, v5] ∧ Fr [t, d] H H' ∧ Tu H H' ∧ Tape K H0 H' t ∧ StoreAt P w K H' S d kvs' ∧ kvs'.length ≤ kvs.length + 1 ∧ ∃ x, atN kvs' k = some x) ?_ ?_
    · walk_at "go"
      refine mkT (K := K) (.cons dp (.cons (.str k.2) .nil)) fun p1 H1 n1 f1 d1 => ?_
      have d1 : Dt K H1 (.ref p1) (pnD k) := d1
      have S1 := S0.fr0 f1
      have T1 := T0.fr f1
      have hS1 : t ∈ S ∧ d ∈ S ∧ ∀ a ∈ S, H1 a ≠ none := ⟨hS.1, hS.2.1, fun a ha z => hS.2.2 a ha (f1.free z)⟩
      have hp1 := hp.fr (f1.mono (by simp)) f1.tu
      have dp1 := dp.mono f1.tu
      walk_at "go"
      refine w_ninN S1.1 d1 ?_
      walk_at "go"
      cases ea : atN kvs k with
      | none =>
        refine iteT ?_
        refine numbers_new T1 n0 ndt hS1 S1 lk dp1 hp1 op fun H' kvs' f' t' T' S' l' hx => ?_
        exact ⟨kvs', _, rfl, (f1.mono (by simp)).trans f', f1.tu.trans t', T', S', l', hx⟩
      | some x =>
        refine iteF ?_
        walk_at "go"
        refine ⟨t, 4, H0, rfl, T1, by decide, by decide, fun r H2 a2 b2 f2 T2 => ?_⟩
        have t2 := T1.tu f2
        have hS2 : t ∈ S ∧ d ∈ S ∧ ∀ a ∈ S, H2 a ≠ none := ⟨hS.1, hS.2.1, fun a ha z => by
          by_cases e : a = t
          · obtain ⟨⟨_, _, _, _, _, x, _⟩, _⟩ := T2
            rw [e, x] at z
            cases z
          · exact hS1.2.2 a ha (T1.free1 f2 z e)⟩
        have f02 : Fr [t, d] H H2 := (f1.mono (by simp)).trans (f2.mono (by simp))
        walk_at "go"
        refine ite_d (fun h0 => ?_) (fun h0 => ?_)
        · refine numbers_new T2 n0 ndt hS2 (S1.fr f2 (by simpa using hS.1) (by simpa using ndt) t2) lk (dp1.mono t2) (hp1.fr (f2.mono (by simp)) t2) op fun H' kvs' f' t' T' S' l' hx => ?_
          exact ⟨kvs', _, rfl, f02.trans f', (f1.tu.trans t2).trans t', T', S', l', hx⟩
        · walk_at "go"
          exact ⟨kvs, _, rfl, f02, f1.tu.trans t2, T2, S1.fr f2 (by simpa using hS.1) (by simpa using ndt) t2, by omega, x, ea⟩
    · rintro σ' H' ⟨kvs', v5, rfl, f', t', T', S', l', hx⟩
      walk_at "go"
      exact last H' kvs' f' t' T' S' l' hx
end

section
variable {P : Program} {w : World} {K : PySem.W.Frag} {mg : Str → Option Value} {base : Heap}
theorem it_parts {H : Hp} {v : V} {x : Wt} (h : Dt K H v (itD x)) : ∃ (a : Addr) (pv gv : V), v = .ref a ∧ SqT K H a [pv, .str x.name, gv] ∧ Dt K H pv (.tuple (x.path.map spD)) ∧ Dt K H gv (givD x.giv) := by
  obtain ⟨a, us, rfl, s, av⟩ := h.tuple
  cases av with
  | cons d1 av =>
  cases av with
  | cons d2 av =>
  cases av with
  | cons d3 av =>
  cases av
  cases d2
  exact ⟨a, _, _, rfl, s, d1, d3⟩
theorem PartAt.sub {H : Hp} {S S' : List Addr} {v : V} {p : Prt} (h : PartAt K H S v p) (s : ∀ a ∈ S', a ∈ S) : PartAt K H S' v p := by
  obtain ⟨a, b, c, e, rfl, sp, n, l⟩ := h
  exact ⟨a, b, c, e, rfl, sp, ⟨fun z => n.1 (s _ z), fun z => n.2.1 (s _ z), fun z => n.2.2.1 (s _ z), fun z => n.2.2.2 (s _ z)⟩, l⟩
theorem free2 {H H' : Hp} {t d a : Addr} (f : Fr [t, d] H H') (h : H' a = none) (n1 : a ≠ t) (n2 : a ≠ d) : H a = none := by
  cases e : H a with
  | none => rfl
  | some o =>
    have z := f a o e (by simp [n1, n2])
    rw [h] at z
    cases z
theorem Lq.some {H : Hp} {q : Addr} {ds : List PyData} (h : Lq K H q ds) : H q ≠ none := by
  obtain ⟨_, e, _⟩ := h
  rw [e]
  simp
def sp_law_drawing (P : Program) (w : World) (K : PySem.W.Frag) : Sp := fun vs H Q _ => ∃ (t d : Addr) (S : List Addr) (v : V) (names : List Str) (kvs : List (PN × V)) (H0 : Hp), vs = [.ref t, v, .ref d] ∧ Tape K H0 H t ∧ H0 d = none ∧ d ≠ t ∧ (t ∈ S ∧ d ∈ S ∧ ∀ a ∈ S, H a ≠ none) ∧ StoreAt P w K H S d kvs ∧ kvs.length ≤ 40000 ∧ HouseAt K H [t, d] v names ∧
  ∀ (q : Addr) (ens : List En) (kvs' : List (PN × V)) (H' : Hp), H q = none → Fr [t, d] H H' → Tu H H' → Tape K H0 H' t → StoreAt P w K H' S d kvs' → kvs'.length ≤ kvs.length + 1100 → Lq K H' q (ens.map enD) → ens.length ≤ 40 → (∀ e ∈ ens, e.ok) → (∀ e ∈ ens, e.fine) → (ens.map En.path).Nodup → Q (.ref q) H'
theorem ok_law_drawing (T : Env K mg) : Fx P w K mg base 4 "_law_drawing" p_law_drawing (sp_law_drawing P w K) := by
  refine T.l_law_drawing.ok sc_law_drawing (fun vs H Q E h => ?_) (fun f cdv A outer s H vs Q E hr h => ?_)
  · obtain ⟨t, d, _, v, _, _, _, rfl, _⟩ := h
    rfl
  · obtain ⟨t, d, S, v, names, kvs, H0, rfl, T0, n0, ndt, hS, S0, lk, hh, k⟩ := h
    obtain ⟨a, qn, pd, hkv, rfl, sa, na, hqn, hpd, hprt, ln4, ln1, onp⟩ := id hh
    have on : ∀ n ∈ names, PyData.strOk n = true := fun n hn => pool_ok n (onp n hn)
    refine ⟨_, (pss_cons (ps_asg (pv 1) (pg_tupU (K := K) (n := 2) rfl rfl (pgs_cons (pg_name (i := 3) sc_law_drawing.nd rfl (Or.inl rfl)) (pgs_cons (pg_name (i := 4) sc_law_drawing.nd rfl (Or.inl rfl)) pgs_nil))))
      (pss_cons (ps_set (i := 5) sc_law_drawing.nd rfl (Or.inl rfl) (pe_lst pa_nil))
      (pss_cons (ps_set (i := 6) sc_law_drawing.nd rfl (Or.inl rfl) (pe_lst (pa_cons (pe_tup (pa_cons (pe_tup pa_nil) (pa_cons (pe_ix (ix_U (K := K) rfl) (pv 3) pe_int (fun _ _ => rfl)) (pa_cons (pe_tup pa_nil) pa_nil)))) pa_nil)))
      (pss_cons (ps_while PassesOwn.never (pt_cmpR (op_neU (K := K) rfl (u64 hr)) (pv 6) (pe_lst pa_nil) (nomark _)) (pss_cons (ps_asg (pe_bm PySem.F.plainAttrs_list PySem.F.slot_list_pop PySem.F.type_list_pop mt_popAt (pv 6) (pa_cons pe_int pa_nil)) (pg_tupU (K := K) (n := 3) rfl rfl (pgs_cons (pg_name (i := 7) sc_law_drawing.nd rfl (Or.inl rfl)) (pgs_cons (pg_name (i := 8) sc_law_drawing.nd rfl (Or.inl rfl)) (pgs_cons (pg_name (i := 9) sc_law_drawing.nd rfl (Or.inl rfl)) pgs_nil)))))
      (pss_cons (ps_set (i := 10) sc_law_drawing.nd rfl (Or.inl rfl) (pe_dget (u1 hr) (pv 4) (pv 8) (fun _ _ => rfl)))
      (pss_cons (ps_set (i := 11) sc_law_drawing.nd rfl (Or.inl rfl) pe_dnewK)
      (pss_cons (ps_for PassesOwn.never rfl (pi_zipU (K := K) rfl (by rfl) T.m_zip (pa_cons (pe_ix (ix_U (K := K) rfl) (pv 10) pe_int (fun _ _ => rfl)) (pa_cons (pe_fx (ok_law_numbers (P := P) (w := w) T) hr (by decide) (pa_cons (pv 0) (pa_cons (pv 2) (pa_cons (pv 7) (pa_cons (pv 8) (pa_cons (pv 10) pa_nil)))))) pa_nil))) (pg_tupU (K := K) (n := 2) rfl rfl (pgs_cons (pg_name (i := 12) sc_law_drawing.nd rfl (Or.inl rfl)) (pgs_cons (pg_name (i := 13) sc_law_drawing.nd rfl (Or.inl rfl)) pgs_nil))) (pss_one (ps_asg (pv 13) (pg_sub (pv 11) (pe_tup (pa_cons pe_str (pa_cons (pv 12) pa_nil))) (set_NU (P := P) (w := w) (K := K) kdA rfl rfl rfl (u65 hr))))))
      (pss_cons (ps_for PassesOwn.never rfl (pi_tupU (K := K) rfl (pv 9)) (pg_tupU (K := K) (n := 2) rfl rfl (pgs_cons (pg_name (i := 14) sc_law_drawing.nd rfl (Or.inl rfl)) (pgs_cons (pg_name (i := 13) sc_law_drawing.nd rfl (Or.inl rfl)) pgs_nil))) (pss_one (ps_asg (pv 13) (pg_sub (pv 11) (pe_tup (pa_cons pe_str (pa_cons (pv 14) pa_nil))) (set_NU (P := P) (w := w) (K := K) kdA rfl rfl rfl (u65 hr))))))
      (pss_cons (ps_set (i := 15) sc_law_drawing.nd rfl (Or.inl rfl) (pe_fx (ok_law_piece (P := P) (w := w) T) hr (by decide) (pa_cons (pv 10) (pa_cons (pv 11) pa_nil))))
      (pss_cons (ps_expr (pe_bm PySem.F.plainAttrs_list PySem.F.slot_list_append PySem.F.type_list_append mt_append (pv 5) (pa_cons (pe_tup (pa_cons (pv 7) (pa_cons (pv 8) (pa_cons (pv 9) (pa_cons (pe_tup pa_nil) (pa_cons (pv 15) pa_nil)))))) pa_nil)))
      (pss_cons (ps_set (i := 16) sc_law_drawing.nd rfl (Or.inl rfl) (pe_lst pa_nil))
      (pss_cons (ps_for PassesOwn.never rfl (pi_tupU (K := K) rfl (pe_ix (ix_U (K := K) rfl) (pv 15) pe_int (fun _ _ => rfl))) (pg_name (i := 17) sc_law_drawing.nd rfl (Or.inl rfl)) (pss_one (ps_if (pt_cmpR (op_eqU (K := K) rfl (u64 hr)) (pe_ix (ix_U (K := K) rfl) (pv 17) pe_int (fun _ _ => rfl)) pe_str (nomark _)) (pss_one (ps_expr (pe_bm PySem.F.plainAttrs_list PySem.F.slot_list_append PySem.F.type_list_append mt_append (pv 16) (pa_cons (pe_tup (pa_cons (pe_op (op_addU (K := K) rfl) (pv 7) (pe_tup (pa_cons (pe_ix (ix_U (K := K) rfl) (pv 17) pe_int (fun _ _ => rfl)) (pa_cons (pe_ix (ix_U (K := K) rfl) (pe_ix (ix_U (K := K) rfl) (pe_ix (ix_U (K := K) rfl) (pv 17) pe_int (fun _ _ => rfl)) pe_int (fun _ _ => rfl)) pe_int (fun _ _ => rfl)) pa_nil)))) (pa_cons (pe_ix (ix_U (K := K) rfl) (pe_ix (ix_U (K := K) rfl) (pe_ix (ix_U (K := K) rfl) (pv 17) pe_int (fun _ _ => rfl)) pe_int (fun _ _ => rfl)) pe_int (fun _ _ => rfl)) (pa_cons (pe_ix (ix_U (K := K) rfl) (pe_ix (ix_U (K := K) rfl) (pe_ix (ix_U (K := K) rfl) (pv 17) pe_int (fun _ _ => rfl)) pe_int (fun _ _ => rfl)) pe_int (fun _ _ => rfl)) pa_nil)))) pa_nil)))) (pss_one (ps_expr (pe_bm PySem.F.plainAttrs_list PySem.F.slot_list_append PySem.F.type_list_append mt_append (pv 16) (pa_cons (pe_tup (pa_cons (pe_op (op_addU (K := K) rfl) (pv 7) (pe_tup (pa_cons (pe_ix (ix_U (K := K) rfl) (pv 17) pe_int (fun _ _ => rfl)) pa_nil))) (pa_cons (pe_ix (ix_U (K := K) rfl) (pv 17) pe_int (fun _ _ => rfl)) (pa_cons (pe_ix (ix_U (K := K) rfl) (pv 17) pe_int (fun _ _ => rfl)) pa_nil)))) pa_nil)))))))
      (pss_one (ps_set (i := 6) sc_law_drawing.nd rfl (Or.inl rfl) (pe_op (op_addU (K := K) rfl) (pv 16) (pv 6))))))))))))))
      (pss_one (ps_ret (pv 5))))))), ?_⟩
    walk_at "go"
    refine w_gtup sa rfl ?_
    walk_at "go"
    refine mkL (K := K) .nil fun qt H1 n1 f1 L1 => ?_
    have T1 := T0.fr f1
    walk_at "go"
    refine mkT (K := K) .nil fun p2 H2 n2 f2 d2 => ?_
    have T2 := T1.fr f2
    obtain ⟨nm0, hn0⟩ : ∃ x, names[0]? = some x := ⟨_, List.getElem?_eq_getElem (by omega)⟩
    walk_at "go"
    refine w_ixL (SqL.of ((f1.trans f2) _ _ hqn (by simp))) (atI_nat (j := 0) (by rw [List.getElem?_map, hn0]; rfl)) ?_
    walk_at "go"
    refine mkT (K := K) .nil fun p3 H3 n3 f3 d3 => ?_
    have T3 := T2.fr f3
    walk_at "go"
    refine mkT (K := K) (.cons (d2.mono f3.tu) (.cons (.str nm0) (.cons d3 .nil))) fun p4 H4 n4 f4 d4 => ?_
    have T4 := T3.fr f4
    have d4 : Dt K H4 (.ref p4) (itD ⟨0, [], nm0, none⟩) := d4
    walk_at "go"
    refine mkL (K := K) (.cons d4 .nil) fun qw H5 n5 f5 L5 => ?_
    have T5 := T4.fr f5
    have f15 := ((f2.trans f3).trans f4).trans f5
    have f05 := f1.trans f15
    walk_at "go"
    refine w_whileN (fun m σ H' => ∃ (qw : Addr) (ens : List En) (its : List Wt) (kvs' : List (PN × V)) (v7 v8 v9 v10 v11 v12 v13 v14 v15 v16 v17 : Option V), σ = [some (.ref t), some (.ref a), some (.ref d), some (.ref qn), some (.ref pd), some (.ref qt), some (.ref qw), v7, v8, v9, v10, v11, v12, v13, v14, v15, v16, v17] ∧
      Fr [t, d] H H' ∧ Tu H H' ∧ Tape K H0 H' t ∧ StoreAt P w K H' (qw :: qt :: S) d kvs' ∧ kvs'.length ≤ kvs.length + ens.length ∧ H qw = none ∧ qw ≠ qt ∧ Lq K H' qt (ens.map enD) ∧ Lq K H' qw (its.map itD) ∧ (∀ x ∈ its, x.ok names) ∧ m = total its ∧ ens.length + m ≤ 40 ∧ (∀ e ∈ ens, e.ok) ∧ (∀ e ∈ ens, e.fine) ∧ Leafs (ens.map En.path) (its.map Wt.path)) (total [⟨0, [], nm0, none⟩]) ?_ ?_
    · have S1 := (S0.add n1).fr0 f1
      have S4 := S1.fr0 ((f2.trans f3).trans f4)
      have S5 := (S4.add n5).fr0 f5
      refine ⟨qw, [], [⟨0, [], nm0, none⟩], kvs, _, _, _, _, _, _, _, _, _, _, _, rfl, f05.mono (by simp), f05.tu, T5, S5, by simp, (((f1.trans f2).trans f3).trans f4).free n5, ?_, L1.fr0 f15, L5, ?_, rfl, by exact Nat.le_of_ble_eq_true rfl, by simp, by simp, by simp [Leafs]⟩
      · rintro rfl
        obtain ⟨_, e, _⟩ := L1.fr0 ((f2.trans f3).trans f4)
        rw [n5] at e
        cases e
      · intro x hx
        rw [List.mem_singleton.mp hx]
        exact ⟨hn0, by exact Nat.zero_le _, by simp, by intro n h; cases h⟩
    · rintro m σ H6 ⟨qw, ens, its, kvs6, v7, v8, v9, v10, v11, v12, v13, v14, v15, v16, v17, rfl, f6, t6, T6, S6, lk6, nqw, nwt, Lt6, Lw6, oi, rfl, lm, oe, fe, lf⟩
      walk_at "go"
      refine mkL (K := K) .nil fun qe H7 n7 f7 L7 => ?_
      refine w_neNil (Lw6.fr0 f7).dp L7.nil (shaped_list (n := 3) (by decide) fun dd hd => by
        obtain ⟨x, hx, rfl⟩ := List.mem_map.mp hd
        exact it_good on (oi x hx)) ?_
      have T7 := T6.fr f7
      have S7 := S6.fr0 f7
      have Lt7 := Lt6.fr0 f7
      have Lw7 := Lw6.fr0 f7
      have f67 : Fr [t, d] H H7 := f6.trans (f7.mono (by simp))
      have t67 := t6.trans f7.tu
      cases its with
      | nil =>
        refine ⟨_, rfl, iteF ?_⟩
        walk_at "go"
        exact k qt ens kvs6 H7 n1 f67 t67 T7 (S7.sub (by intro a ha; simp [ha])) (by omega) Lt7 (by omega) oe fe lf.1
      | cons x0 its =>
        refine ⟨_, rfl, iteT ?_⟩
        have ox := oi x0 (by simp)
        have oi' : ∀ x ∈ its, x.ok names := fun x hx => oi x (by simp [hx])
        have hi4 : x0.idx < 4 := by
          have := (List.getElem?_eq_some_iff.mp ox.1).1
          omega
        have tot : total (x0 :: its) = wOf x0.idx + total its := rfl
        obtain ⟨vs7, e7, a7⟩ := id Lw7
        cases a7 with
        | cons dx a7 =>
        rename_i xv xr
        walk_at "go"
        refine ⟨Lw7.ty, ?_⟩
        walk_at "go"
        refine ⟨qw, xv :: xr, 0, 0, xv, rfl, rfl, e7, by decide, by decide, by simp [seqIndex?], rfl, ?_⟩
        rw [show (xv :: xr).eraseIdx 0 = xr from rfl]
        have f8 : Fr [qw] H7 (upd H7 qw (.lst xr)) := Fr.mut (by simp)
        have t8 : Tu H7 (upd H7 qw (.lst xr)) := Tu.mut e7
        have L8 : Lq K (upd H7 qw (.lst xr)) qw (its.map itD) := ⟨xr, upd_same, a7.mono t8⟩
        have n8t : qw ≠ t := T0.ne nqw
        have n8d : qw ≠ d := DN.none_ne S0.1 nqw
        have T8 := T7.fr1 f8 n8t (T0.no nqw)
        have S8 := S7.fr f8 (by simp) (by simpa using n8d.symm) t8
        have Lt8 := Lt7.fr f8 (by simpa using nwt.symm) t8
        have f08 : Fr [t, d] H (upd H7 qw (.lst xr)) := Fr.drop1 nqw f67 f8
        have t08 := t67.trans t8
        have dx8 := dx.mono t8
        generalize upd H7 qw (.lst xr) = H8 at f8 t8 L8 T8 S8 Lt8 f08 t08 dx8
        obtain ⟨xa, pv', gv, rfl, sx, dp, dg⟩ := it_parts dx8
        refine w_gtup sx rfl ?_
        walk_at "go"
        have hpd8 := f08 _ _ hpd na.2.2
        obtain ⟨p, u, hu, hp0, op, hl⟩ := hprt x0.idx x0.name ox.1
        have hp8 := hp0.fr f08 t08
        refine ⟨pd, u, rfl, .inl ⟨_, .inr x0.name, .inl hpd8, rfl, hu.symm⟩, ?_⟩
        walk_at "go"
        refine mkD fun ra H9 n9 f9 e9 => ?_
        have T9 := T8.fr f9
        have S9 := (S8.add n9).fr0 f9
        have f09 : Fr [t, d] H H9 := f08.trans (f9.mono (by simp))
        have t09 := t08.trans f9.tu
        have hp9 := hp8.fr (f9.mono (by simp)) f9.tu
        have Lt9 := Lt8.fr0 f9
        have L9 := L8.fr0 f9
        have nrat : ra ≠ t := T8.ne n9
        have nrad : ra ≠ d := DN.none_ne S8.1 n9
        have nra : H ra = none := free2 f08 n9 nrat nrad
        have dA9 : DN P w K askD H9 ra ([] : List (Ask × V)) := .inl ⟨rfl, e9⟩
        walk_at "go"
        obtain ⟨pa, pb, pc, pe', rfl, spt, npt, Lb, _, _⟩ := id hp9
        refine w_ixT spt rfl ?_
        walk_at "go"
        refine ⟨t, d, ra :: qw :: qt :: S, pv', _, (x0.path, x0.name), p, kvs6, H0, rfl, T9, n0, ndt, ⟨by simp [hS.1], by simp [hS.2.1], fun z hz => ?_⟩, S9, by omega, (dp.mono f9.tu), hp9, op, fun nv kvs10 H10 f10 t10 T10 S10 lk10 hnv => ?_⟩
        · rcases List.mem_cons.mp hz with rfl | hz
          · rw [e9]; simp
          rcases List.mem_cons.mp hz with rfl | hz
          · exact Lq.some L9
          · rcases List.mem_cons.mp hz with rfl | hz
            · exact Lq.some Lt9
            · intro e
              by_cases z1 : z = t
              · exact absurd z1 (T9.ne e)
              · by_cases z2 : z = d
                · exact absurd z2 (DN.none_ne S9.1 e)
                · exact hS.2.2 z hz (free2 f09 e z1 z2)
        obtain ⟨qi, ns, rfl, hqi, nqi, lns, bns⟩ := hnv
        walk_at "go"
        have nbtd : pb ∉ [t, d] := npt.2.1
        have Lb10 := Lb.fr f10 nbtd t10
        obtain ⟨bs, hbs, dbs⟩ := id Lb10
        have lbs : bs.length = p.boxes.length := by rw [dbs.length, List.length_map]
        have lbx := op.1.1
        have dA10 := dA9.fr f10 (by simp [nrat, nrad]) t10
        refine ⟨pb, qi, bs, ns.map V.int, rfl, SqL.of hbs, SqL.of hqi, ?_⟩
        have npbra : pb ≠ ra := by
          rintro rfl
          obtain ⟨_, e, _⟩ := Lb
          rw [e] at e9
          cases e9
        have nqira : qi ≠ ra := by
          rintro rfl
          rcases dA10 with ⟨_, e⟩ | ⟨_, _, N⟩
          · rw [hqi] at e; cases e
          · have z := N.there
            rw [hqi] at z
            cases z
        refine for_it (walk_zip (K := K) (a := pb) (b := qi) (xs := bs) (ys := ns.map V.int) rfl) (fun i σ H' => Fr [ra] H10 H' ∧ Tu H10 H' ∧ ∃ (kA : List (Ask × V)) (v12 v13 v14 v15 v16 v17 : Option V), σ = [some (.ref t), some (.ref a), some (.ref d), some (.ref qn), some (.ref pd), some (.ref qt), some (.ref qw), some pv', some (.str x0.name), some gv, some (.ref pa), some (.ref ra), v12, v13, v14, v15, v16, v17] ∧ DN P w K askD H' ra kA ∧ AllI kA ∧ kA.length ≤ i) ?_ ?_ ?_ ?_
        · exact ⟨Fr.refl, Tu.refl, [], _, _, _, _, _, _, rfl, dA10, by intro z hz; simp at hz, Nat.le_refl _⟩
        · rintro i σ H' _ ⟨f', _⟩
          exact ⟨SqL.of (f' _ _ hbs (by simpa using npbra)), SqL.of (f' _ _ hqi (by simpa using nqira))⟩
        · rintro i x σ H11 H12 hi ⟨f11, t11, kA, v12, v13, v14, v15, v16, v17, rfl, dA11, aA, lA⟩ ⟨Tt, xx, yy, rfl, nT, rfl, hxx, hyy⟩
          obtain ⟨bd, hbd, dxx⟩ := dbs.get hxx
          obtain ⟨bx, _, rfl⟩ := map_get hbd
          cases dxx
          obtain ⟨n, hn, rfl⟩ := map_get hyy
          have fT : Fr [] H11 (upd H11 Tt (.tup [.str bx, .int n])) := Fr.new nT
          refine w_gtup (.inl (.inl upd_same)) rfl ?_
          walk_at "go"
          refine mkT (K := K) (.cons (.str "box") (.cons (.str bx) .nil)) fun pk H13 n13 f13 d13 => ?_
          have d13 : Dt K H13 (.ref pk) (askD ("box", bx)) := d13
          have f113 := fT.trans f13
          have lmin : i < 2 := by
            have : i < min bs.length (ns.map V.int).length := hi
            omega
          refine w_setN (dA11.fr0 f113) d13 (by omega) fun H14 f14 t14 dA14 => ?_
          exact ⟨(f11.trans (f113.mono (by simp))).trans f14, (t11.trans f113.tu).trans t14, _, _, _, _, _, _, _, rfl, dA14, aA.put (bns n (List.mem_of_getElem? hn)), Nat.le_trans put_len (by omega)⟩
        · rintro σ H11 ⟨f11, t11, kA, v12, v13, v14, v15, v16, v17, rfl, dA11, aA, lA⟩
          have lA2 : kA.length ≤ 2 := by
            have : min bs.length (ns.map V.int).length ≤ bs.length := Nat.min_le_left _ _
            omega
          have f010 : Fr [t, d] H H10 := f09.trans f10
          have t010 := t09.trans t10
          have f011 : Fr [t, d] H H11 := Fr.drop1 nra f010 f11
          have t011 := t010.trans t11
          have dg11 : Dt K H11 gv (givD x0.giv) := dg.mono ((f9.tu.trans t10).trans t11)
          obtain ⟨gs, eg, hgs, lgs⟩ : ∃ gs, givD x0.giv = .tuple gs ∧ (∀ y ∈ gs, ∃ n : Int, bnd n ∧ y = .tuple [.str "a", .int n]) ∧ gs.length ≤ 1 := by
            have og := ox.2.2.2
            cases hg : x0.giv with
            | none => exact ⟨[], rfl, by simp, by simp⟩
            | some n => exact ⟨_, rfl, by simpa using og n hg, by simp⟩
          have dg11' := dg11
          rw [eg] at dg11'
          walk_at "go"
          refine dg11'.walk (fun i σ H' => Fr [ra] H11 H' ∧ Tu H11 H' ∧ ∃ (kA : List (Ask × V)) (v12 v13 v14 v15 v16 v17 : Option V), σ = [some (.ref t), some (.ref a), some (.ref d), some (.ref qn), some (.ref pd), some (.ref qt), some (.ref qw), some pv', some (.str x0.name), some gv, some (.ref pa), some (.ref ra), v12, v13, v14, v15, v16, v17] ∧ DN P w K askD H' ra kA ∧ AllI kA ∧ kA.length ≤ 2 + i) ?_ ?_ ?_ ?_
          · exact ⟨Fr.refl, Tu.refl, kA, _, _, _, _, _, _, rfl, dA11, aA, by omega⟩
          · rintro i σ H' ⟨_, z, _⟩
            exact z
          · rintro i y dd σ H12 hi dy ⟨f12, t12, kA, v12, v13, v14, v15, v16, v17, rfl, dA12, aA, lA⟩
            obtain ⟨n, bn, rfl⟩ := hgs dd (List.mem_of_getElem? hi)
            have li : i < gs.length := (List.getElem?_eq_some_iff.mp hi).1
            obtain ⟨ya, ys, rfl, sy, ay⟩ := dy.tuple
            cases ay with
            | cons y1 ay =>
            cases ay with
            | cons y2 ay =>
            cases ay
            cases y1; cases y2
            refine w_gtup sy rfl ?_
            walk_at "go"
            refine mkT (K := K) (.cons (.str "take") (.cons (.str "a") .nil)) fun pk H13 n13 f13 d13 => ?_
            have d13 : Dt K H13 (.ref pk) (askD ("take", "a")) := d13
            refine w_setN (dA12.fr0 f13) d13 (by omega) fun H14 f14 t14 dA14 => ?_
            exact ⟨(f12.trans (f13.mono (by simp))).trans f14, (t12.trans f13.tu).trans t14, _, _, _, _, _, _, _, rfl, dA14, aA.put bn, Nat.le_trans put_len (by omega)⟩
          · rintro σ H14 ⟨f14, t14, kA14, v12, v13, v14, v15, v16, v17, rfl, dA14, aA14, lA14⟩
            have f1014 := f11.trans f14
            have t1014 := t11.trans t14
            have f014 : Fr [t, d] H H14 := Fr.drop1 nra f010 f1014
            have t014 := t010.trans t1014
            have S14 := S10.fr f1014 (by simp) (by simpa using nrad.symm) t1014
            have T14 := T10.fr1 f1014 nrat (T0.no nra)
            have nqt : qt ≠ t ∧ qt ≠ d := ⟨T0.ne n1, DN.none_ne S0.1 n1⟩
            have nrq : qt ≠ ra ∧ qw ≠ ra := by
              constructor
              · rintro rfl
                exact Lq.some Lt8 n9
              · rintro rfl
                exact Lq.some L8 n9
            have Lt14 := (Lt9.fr f10 (by simp [nqt]) t10).fr f1014 (by simpa using nrq.1) t1014
            have L14 := (L9.fr f10 (by simp [n8t, n8d]) t10).fr f1014 (by simpa using nrq.2) t1014
            walk_at "go"
            refine ⟨_, ra, p, kA14, rfl, (hp0.fr f014 t014).sub (by simp), op, dA14, aA14, fun pc rds ws wk H15 f15' dpc lrd nws nwk bwk sws fws => ?_⟩
            have lwk : wk.length ≤ 3 := by
              have e := congrArg List.length nwk
              rw [List.length_map, List.length_map] at e
              have := op.1.2.1
              omega
            have pwk : ∀ y ∈ wk, y.1 ∈ pool := fun y hy => by
              have h : y.1 ∈ wk.map (·.1) := List.mem_map.mpr ⟨y, hy, rfl⟩
              rw [nwk] at h
              obtain ⟨z, hz, e⟩ := List.mem_map.mp h
              rw [← e]
              exact op.2.2.2.2.1 z hz
            have owk : ∀ y ∈ wk, PyData.strOk y.1 = true := fun y hy => pool_ok _ (pwk y hy)
            have Lt15 := Lt14.fr0 f15'
            have f8_15 : Tu H8 H15 := ((f9.tu.trans t10).trans t1014).trans f15'.tu
            walk_at "go"
            refine ⟨Lt15.ty, ?_⟩
            walk_at "go"
            refine mkT (K := K) .nil fun p16 H16 n16 f16 d16 => ?_
            walk_at "go"
            refine mkT (K := K) (.cons ((dp.mono f8_15).mono f16.tu) (.cons (.str x0.name) (.cons ((dg.mono f8_15).mono f16.tu) (.cons d16 (.cons (dpc.mono f16.tu) .nil))))) fun p17 H17 n17 f17 d17 => ?_
            have f1517 := f16.trans f17
            have d17 : Dt K H17 (.ref p17) (enD ⟨x0.path, x0.name, x0.giv, rds, ws, wk⟩) := d17
            walk_at "go"
            refine (Lt15.fr0 f1517).app d17 (by rw [List.length_map]; omega) fun H18 f18 t18 Lt18 => ?_
            have f1417 := f15'.trans f1517
            have f018 : Fr [t, d] H H18 := Fr.drop1 n1 (f014.trans (f1417.mono (by simp))) f18
            have t018 := (t014.trans f1417.tu).trans t18
            have S18 := (S14.fr0 f1417).fr f18 (by simp) (by simpa using nqt.2.symm) t18
            have T18 := (T14.fr f1417).fr1 f18 nqt.1 (T0.no n1)
            have L18 := (L14.fr0 f1417).fr f18 (by simpa using nwt) t18
            walk_at "go"
            refine mkL (K := K) .nil fun qe2 H19 n19 f19 L19 => ?_
            have nq2 : qe2 ≠ t ∧ qe2 ≠ d := ⟨T18.ne n19, DN.none_ne S18.1 n19⟩
            have nq20 : H qe2 = none := free2 f018 n19 nq2.1 nq2.2
            have S19 := (S18.add n19).fr0 f19
            have dpc19 := dpc.mono ((f1517.tu.trans t18).trans f19.tu)
            walk_at "go"
            refine Dt.ix 1 dpc19 rfl fun wv dwv => ?_
            have nqe : qt ≠ qe2 ∧ qw ≠ qe2 := by
              constructor
              · rintro rfl
                exact Lq.some Lt18 n19
              · rintro rfl
                exact Lq.some L18 n19
            have lws : ws.length = p.lines.length := by
              have := congrArg List.length nws
              rwa [List.length_map, List.length_map] at this
            have lli := op.1.2.2
            refine dwv.walk (fun i σ H' => Fr [qe2] H19 H' ∧ Tu H19 H' ∧ ∃ (cs : List Wt) (v17 : Option V), σ = [some (.ref t), some (.ref a), some (.ref d), some (.ref qn), some (.ref pd), some (.ref qt), some (.ref qw), some pv', some (.str x0.name), some gv, some (.ref pa), some (.ref ra), v12, v13, v14, some (.ref pc), some (.ref qe2), v17] ∧ Lq K H' qe2 (cs.map itD) ∧ cs.map Wt.path = (ws.take i).map (fun w => x0.path ++ ext w) ∧ cs.length = i ∧ ∀ c ∈ cs, c.ok names ∧ x0.idx < c.idx) ?_ ?_ ?_ ?_
            · exact ⟨Fr.refl, Tu.refl, [], _, rfl, L19, rfl, rfl, by simp⟩
            · rintro i σ H' ⟨_, z, _⟩
              exact z
            · rintro i y dd σ H20 hi dy ⟨f20, t20, cs, v17, rfl, Lc, pc', lc, oc⟩
              obtain ⟨wn, hwn, rfl⟩ := map_get hi
              have li : i < ws.length := (List.getElem?_eq_some_iff.mp hwn).1
              obtain ⟨ln, hln, hnm⟩ : ∃ ln, p.lines[i]? = some ln ∧ ln.name = wn.name := by
                have h1 : (ws.map Wn.name)[i]? = some wn.name := by rw [List.getElem?_map, hwn]; rfl
                rw [nws] at h1
                exact map_get h1
              obtain ⟨j, hj, hjn⟩ := hl ln (List.mem_of_getElem? hln)
              rw [hnm] at hjn
              have dpath := (dp.mono f8_15).mono (((f1517.tu.trans t18).trans f19.tu).trans t20)
              have lpath := ox.2.1
              have fwn := fws wn (List.mem_of_getElem? hwn)
              cases hw : wn.within with
              | true =>
                rw [Wn.d, if_pos hw] at dy
                walk_at "go"
                refine Dt.ix 0 dy rfl fun u0 d0 => ?_
                cases d0
                walk_at "go"
                refine iteT ?_
                walk_at "go"
                refine ⟨Lc.ty, ?_⟩
                walk_at "go"
                refine Dt.ix 1 dy rfl fun u1 d1 => ?_
                walk_at "go"
                refine Dt.ix 5 dy rfl fun u5 d5 => ?_
                walk_at "go"
                refine Dt.ix 0 d5 rfl fun u50 d50 => ?_
                walk_at "go"
                refine Dt.ix 1 d50 rfl fun u51 d51 => ?_
                rw [spot_sp] at d1
                have d51 : Dt K H20 u51 (spD (none, 0)) := d51
                walk_at "go"
                refine mkT (K := K) (.cons d1 (.cons d51 .nil)) fun p21 H21 n21 f21 d21 => ?_
                walk_at "go"
                refine Dt.cat (dpath.mono f21.tu) d21 (by rw [List.length_map]; simp only [List.length_cons, List.length_nil]; omega) fun p22 H22 f22 d22 => ?_
                have f2022 := f21.trans f22
                have dy22 := dy.mono f2022.tu
                walk_at "go"
                refine Dt.ix 5 dy22 rfl fun u5 d5 => ?_
                walk_at "go"
                refine Dt.ix 0 d5 rfl fun u50 d50 => ?_
                walk_at "go"
                refine Dt.ix 2 d50 rfl fun u52 d52 => ?_
                cases d52
                walk_at "go"
                refine Dt.ix 5 dy22 rfl fun u5 d5 => ?_
                walk_at "go"
                refine Dt.ix 0 d5 rfl fun u50 d50 => ?_
                walk_at "go"
                refine Dt.ix 3 d50 rfl fun u53 d53 => ?_
                walk_at "go"
                refine mkT (K := K) (.cons d22 (.cons (.str wn.name) (.cons d53 .nil))) fun p23 H23 n23 f23 d23 => ?_
                have d23 : Dt K H23 (.ref p23) (itD ⟨j, x0.path ++ [(wn.num, (wn.cnt : Int)), (none, 0)], wn.name, wn.giv⟩) := by
                  unfold itD
                  rw [List.map_append]
                  exact d23
                have f2023 := f2022.trans f23
                walk_at "go"
                refine (Lc.fr0 f2023).app d23 (by rw [List.length_map]; omega) fun H24 f24 t24 Lc24 => ?_
                refine ⟨Fr.trans (f20.trans (f2023.mono (by simp))) f24, (t20.trans f2023.tu).trans t24, cs ++ [⟨j, x0.path ++ [(wn.num, (wn.cnt : Int)), (none, 0)], wn.name, wn.giv⟩], _, rfl, ?_, by rw [List.map_append, pc', List.take_add_one, hwn, List.map_append]; simp [ext, hw, Wn.sp], by rw [List.length_append, List.length_singleton, lc], ?_⟩
                · rw [List.map_append]
                  exact Lc24
                · intro c hc
                  rcases List.mem_append.mp hc with z | z
                  · exact oc c z
                  · rw [List.mem_singleton.mp z]
                    exact ⟨⟨hjn, by show (x0.path ++ _).length ≤ 2 * j; rw [List.length_append]; simp only [List.length_cons, List.length_nil]; omega, fun z hz => (List.mem_append.mp hz).elim (ox.2.2.1 z) fun h => by
                      simp only [List.mem_cons, List.not_mem_nil, or_false] at h
                      rcases h with rfl | rfl
                      · exact fwn.1
                      · exact ⟨fun n h => (by cases h), by decide, by decide⟩, fwn.2⟩, hj⟩
              | false =>
                rw [Wn.d, if_neg (by rw [hw]; decide)] at dy
                walk_at "go"
                refine Dt.ix 0 dy rfl fun u0 d0 => ?_
                cases d0
                walk_at "go"
                refine iteF ?_
                walk_at "go"
                refine ⟨Lc.ty, ?_⟩
                walk_at "go"
                refine Dt.ix 1 dy rfl fun u1 d1 => ?_
                rw [spot_sp] at d1
                walk_at "go"
                refine mkT (K := K) (.cons d1 .nil) fun p21 H21 n21 f21 d21 => ?_
                walk_at "go"
                refine Dt.cat (dpath.mono f21.tu) d21 (by rw [List.length_map]; simp only [List.length_cons, List.length_nil]; omega) fun p22 H22 f22 d22 => ?_
                have f2022 := f21.trans f22
                have dy22 := dy.mono f2022.tu
                walk_at "go"
                refine Dt.ix 2 dy22 rfl fun u52 d52 => ?_
                cases d52
                walk_at "go"
                refine Dt.ix 3 dy22 rfl fun u53 d53 => ?_
                walk_at "go"
                refine mkT (K := K) (.cons d22 (.cons (.str wn.name) (.cons d53 .nil))) fun p23 H23 n23 f23 d23 => ?_
                have d23 : Dt K H23 (.ref p23) (itD ⟨j, x0.path ++ [(wn.num, (wn.cnt : Int))], wn.name, wn.giv⟩) := by
                  unfold itD
                  rw [List.map_append]
                  exact d23
                have f2023 := f2022.trans f23
                walk_at "go"
                refine (Lc.fr0 f2023).app d23 (by rw [List.length_map]; omega) fun H24 f24 t24 Lc24 => ?_
                refine ⟨Fr.trans (f20.trans (f2023.mono (by simp))) f24, (t20.trans f2023.tu).trans t24, cs ++ [⟨j, x0.path ++ [(wn.num, (wn.cnt : Int))], wn.name, wn.giv⟩], _, rfl, ?_, by rw [List.map_append, pc', List.take_add_one, hwn, List.map_append]; simp [ext, hw, Wn.sp], by rw [List.length_append, List.length_singleton, lc], ?_⟩
                · rw [List.map_append]
                  exact Lc24
                · intro c hc
                  rcases List.mem_append.mp hc with z | z
                  · exact oc c z
                  · rw [List.mem_singleton.mp z]
                    exact ⟨⟨hjn, by show (x0.path ++ _).length ≤ 2 * j; rw [List.length_append]; simp only [List.length_cons, List.length_nil]; omega, fun z hz => (List.mem_append.mp hz).elim (ox.2.2.1 z) fun h => by
                      rw [List.mem_singleton.mp h]
                      exact fwn.1, fwn.2⟩, hj⟩
            · rintro σ H20 ⟨f20, t20, cs, v17, rfl, Lc, pc', lc, oc⟩
              rw [List.length_map] at lc
              have L20 := (L18.fr0 f19).fr f20 (by simpa using nqe.2) t20
              have Lt20 := (Lt18.fr0 f19).fr f20 (by simpa using nqe.1) t20
              have f020 : Fr [t, d] H H20 := Fr.drop1 nq20 (f018.trans (f19.mono (by simp))) f20
              have t020 := (t018.trans f19.tu).trans t20
              have S20 := S19.fr f20 (by simp) (by simpa using nq2.2.symm) t20
              have T20 := (T18.fr f19).fr1 f20 nq2.1 (T0.no nq20)
              have tl := total_lt hi4 (its := cs) (fun x hx => ⟨(oc x hx).2, by have := (List.getElem?_eq_some_iff.mp (oc x hx).1.1).1; omega⟩) (by omega)
              walk_at "go"
              refine Lc.cat L20 (by have := len_total its; simp only [List.length_append, List.length_map]; omega) fun q21 H21 n21 f21 L21 => ?_
              have S21 := ((S20.sub (S' := qt :: S) (by intro z hz; rcases List.mem_cons.mp hz with rfl | hz <;> simp [*])).add n21).fr0 f21
              walk_at "go"
              refine ⟨total (cs ++ its), by rw [total_app, tot]; omega, q21, ens ++ [⟨x0.path, x0.name, x0.giv, rds, ws, wk⟩], cs ++ its, kvs10, _, _, _, _, _, _, _, _, _, _, _, rfl, f020.trans (f21.mono (by simp)), t020.trans f21.tu, T20.fr f21, S21, by rw [List.length_append, List.length_singleton]; omega, free2 f020 n21 (T20.ne n21) (DN.none_ne S20.1 n21), ?_, ?_, ?_, ?_, rfl, by rw [List.length_append, List.length_singleton, total_app]; omega, ?_, ?_, ?_⟩
              · rintro rfl
                exact Lq.some Lt20 n21
              · rw [List.map_append]
                exact Lt20.fr0 f21
              · rw [List.map_append]
                exact L21
              · intro x hx
                rcases List.mem_append.mp hx with z | z
                · exact (oc x z).1
                · exact oi' x z
              · intro x hx
                rcases List.mem_append.mp hx with z | z
                · exact oe x z
                · rw [List.mem_singleton.mp z]
                  have := ox.2.1
                  exact ⟨by show x0.path.length ≤ 10; omega, lrd, by show ws.length ≤ 3; omega, lwk, on _ (List.mem_of_getElem? ox.1), owk⟩
              · intro x hx
                rcases List.mem_append.mp hx with z | z
                · exact fe x z
                · rw [List.mem_singleton.mp z]
                  exact ⟨ox.2.2.1, onp _ (List.mem_of_getElem? ox.1), fun y hy => ⟨pwk y hy, bwk y hy⟩, by show (wk.map (·.1)).Nodup; rw [nwk]; exact op.2.2.2.2.2⟩
              · have hl := lf.step sws
                rw [List.length_map] at pc'
                rw [List.map_append, List.map_append, pc', List.take_length]
                exact hl
end

section
variable {P : Program} {w : World} {K : PySem.W.Frag} {mg : Str → Option Value} {base : Heap}
/-- at u a part; its places are none of X and none that is free -/
def PartK (K : PySem.W.Frag) (X : List Addr) (H : Hp) (u : V) (p : Prt) : Prop := ∀ S, (∀ a ∈ S, a ∈ X ∨ H a = none) → PartAt K H S u p
theorem PartK.fr {X : List Addr} {H H' : Hp} {u : V} {p : Prt} (h : PartK K X H u p) (f : Fr X H H') (t : Tu H H') : PartK K X H' u p := fun S hS => by
  refine ((h (X ++ S) fun a ha => ?_).fr (f.mono fun a ha => List.mem_append_left S ha) t).sub fun a ha => List.mem_append_right X ha
  rcases List.mem_append.mp ha with z | z
  · exact .inl z
  · rcases hS a z with y | y
    · exact .inl y
    · by_cases e : a ∈ X
      · exact .inl e
      · refine .inr ?_
        cases q : H a with
        | none => rfl
        | some o =>
          have := f a o q e
          rw [y] at this
          cases this
def HouseK (K : PySem.W.Frag) (X : List Addr) (H : Hp) (v : V) (names : List Str) : Prop := ∀ S, (∀ a ∈ S, a ∈ X ∨ H a = none) → HouseAt K H S v names
theorem w_dput {td ty tv : TE} {D} {σ : L2.St} {H : Hp} (q : tv σ H fun v H1 => td σ H1 fun x H2 => ty σ H2 fun y H3 => ∃ a H4, x = .ref a ∧ DPut H3 a y v H4 ∧ D.nx σ H4) : sDPut td ty tv D σ H := q
theorem _root_.U.DtAll.strs {K : PySem.W.Frag} {H : Hp} : ∀ {vs : List V} {ns : List Str}, DtAll K H vs (ns.map .str) → vs = ns.map V.str
  | _, [], .nil => rfl
  | _, _ :: _, .cons a b => by
    cases a
    rw [List.map_cons, U.DtAll.strs b]
theorem _root_.U.Lq.strs {H : Hp} {l : Addr} {ns : List Str} (h : Lq K H l (ns.map .str)) : H l = some (.lst (ns.map V.str)) := by
  obtain ⟨vs, e, a⟩ := h
  rw [e, U.DtAll.strs a]
theorem _root_.U.Fr.tuD {H H' : Hp} {d : Addr} {kvs : List (Key × V)} (f : Fr [d] H H') (h : H d = some (.dK kvs)) : Tu H H' := fun a ys =>
  ⟨fun e => f _ _ e (by rintro z; rw [List.mem_singleton.mp z, h] at e; cases e), fun o e => f _ _ e (by rintro z; rw [List.mem_singleton.mp z, h] at e; cases e)⟩
theorem ne_free {H : Hp} {a b : Addr} (h : H a ≠ none) (h' : H b = none) : a ≠ b := by
  rintro rfl
  exact h h'
def sp_law_parts (K : PySem.W.Frag) : Sp := fun vs H Q _ => ∃ (t : Addr) (H0 : Hp), vs = [.ref t] ∧ Tape K H0 H t ∧ ∀ a names H', H a = none → Fr [t] H H' → Tape K H0 H' t → HouseK K [t] H' (.ref a) names → Q (.ref a) H'
theorem ok_law_parts (T : Env K mg) : Fx P w K mg base 4 "_law_parts" p_law_parts (sp_law_parts K) := by
  refine T.l_law_parts.ok sc_law_parts (fun vs H Q E h => ?_) (fun f cdv A outer s H vs Q E hr h => ?_)
  · obtain ⟨t, _, rfl, _⟩ := h
    rfl
  · obtain ⟨t, H0, rfl, T0, k⟩ := h
    refine ⟨_, (pss_cons (ps_set (i := 1) sc_law_parts.nd rfl (Or.inl rfl) (pe_slice (sl_U (K := K) rfl) (pe_ix (ix_U (K := K) rfl) (pe_lst (pa_cons (pe_lst (pa_cons pe_str (pa_cons pe_str (pa_cons pe_str (pa_cons pe_str pa_nil))))) (pa_cons (pe_lst (pa_cons pe_str (pa_cons pe_str (pa_cons pe_str (pa_cons pe_str pa_nil))))) pa_nil))) (pe_fx (ok_law_draw (P := P) (w := w) T) hr (by decide) (pa_cons (pv 0) (pa_cons pe_int pa_nil))) (fun _ _ => rfl)) po_none (po_some (pe_op (op_addU (K := K) rfl) pe_int (pe_fx (ok_law_draw (P := P) (w := w) T) hr (by decide) (pa_cons (pv 0) (pa_cons pe_int pa_nil)))))))
      (pss_cons (ps_set (i := 2) sc_law_parts.nd rfl (Or.inl rfl) pe_dnewK)
      (pss_cons (ps_for PassesOwn.never rfl (pi_range1 rfl T.m_range (pa_cons (pe_callB (call_lenU (K := K) rfl) (by rfl) T.m_len (by decide +kernel) (pa_cons (pv 1) pa_nil)) pa_nil)) (pg_name (i := 3) sc_law_parts.nd rfl (Or.inl rfl)) (pss_cons (ps_set (i := 4) sc_law_parts.nd rfl (Or.inl rfl) (pe_slice (sl_U (K := K) rfl) (pe_lst (pa_cons pe_str (pa_cons pe_str pa_nil))) po_none (po_some (pe_fx (ok_law_draw (P := P) (w := w) T) hr (by decide) (pa_cons (pv 0) (pa_cons pe_int pa_nil))))))
      (pss_cons (ps_set (i := 5) sc_law_parts.nd rfl (Or.inl rfl) (pe_lst pa_nil))
      (pss_cons (ps_for PassesOwn.never rfl (pi_listU (K := K) rfl (pe_slice (sl_U (K := K) rfl) (pe_ix (ix_U (K := K) rfl) (pe_lst (pa_cons (pe_lst (pa_cons pe_str (pa_cons pe_str (pa_cons pe_str pa_nil)))) (pa_cons (pe_lst (pa_cons pe_str (pa_cons pe_str (pa_cons pe_str pa_nil)))) pa_nil))) (pe_fx (ok_law_draw (P := P) (w := w) T) hr (by decide) (pa_cons (pv 0) (pa_cons pe_int pa_nil))) (fun _ _ => rfl)) po_none (po_some (pe_fx (ok_law_draw (P := P) (w := w) T) hr (by decide) (pa_cons (pv 0) (pa_cons pe_int pa_nil)))))) (pg_name (i := 6) sc_law_parts.nd rfl (Or.inl rfl)) (pss_one (ps_expr (pe_bm PySem.F.plainAttrs_list PySem.F.slot_list_append PySem.F.type_list_append mt_append (pv 5) (pa_cons (pe_tup (pa_cons (pv 6) (pa_cons (pe_fx (ok_law_leaf (P := P) (w := w) T) hr (by decide) (pa_cons (pv 0) (pa_cons (pv 4) pa_nil))) pa_nil))) pa_nil)))))
      (pss_cons (ps_set (i := 7) sc_law_parts.nd rfl (Or.inl rfl) (pe_lst pa_nil))
      (pss_cons (ps_for PassesOwn.never rfl (pi_range1 rfl T.m_range (pa_cons (pe_fx (ok_law_draw (P := P) (w := w) T) hr (by decide) (pa_cons (pv 0) (pa_cons (pe_op op_sub pe_int (pe_callTy call_intU (by rfl) T.m_int (by decide +kernel) (pa_cons (pe_cmpR op_gt (pv 3) pe_int (nomark _)) pa_nil))) pa_nil))) pa_nil)) (pg_name (i := 8) sc_law_parts.nd rfl (Or.inl rfl)) (pss_one (ps_if (pt_cmpR op_lt (pe_op (op_addU (K := K) rfl) (pv 3) pe_int) (pe_callB (call_lenU (K := K) rfl) (by rfl) T.m_len (by decide +kernel) (pa_cons (pv 1) pa_nil)) (nomark _)) (pss_cons (ps_set (i := 6) sc_law_parts.nd rfl (Or.inl rfl) (pe_ix (ix_U (K := K) rfl) (pv 1) (pe_op (op_addU (K := K) rfl) (pe_op (op_addU (K := K) rfl) (pv 3) pe_int) (pe_fx (ok_law_draw (P := P) (w := w) T) hr (by decide) (pa_cons (pv 0) (pa_cons (pe_op op_sub (pe_op op_sub (pe_callB (call_lenU (K := K) rfl) (by rfl) T.m_len (by decide +kernel) (pa_cons (pv 1) pa_nil)) (pv 3)) pe_int) pa_nil)))) (fun _ _ => rfl)))
      (pss_cons (ps_set (i := 9) sc_law_parts.nd rfl (Or.inl rfl) (pe_ix (ix_U (K := K) rfl) (pe_lst (pa_cons pe_non (pa_cons pe_non (pa_cons (pe_fx (ok_law_leaf (P := P) (w := w) T) hr (by decide) (pa_cons (pv 0) (pa_cons (pv 4) pa_nil))) pa_nil)))) (pe_fx (ok_law_draw (P := P) (w := w) T) hr (by decide) (pa_cons (pv 0) (pa_cons pe_int pa_nil))) (fun _ _ => rfl)))
      (pss_cons (ps_set (i := 10) sc_law_parts.nd rfl (Or.inl rfl) (pe_ix (ix_U (K := K) rfl) (pe_lst (pa_cons pe_non (pa_cons (pe_fx (ok_law_leaf (P := P) (w := w) T) hr (by decide) (pa_cons (pv 0) (pa_cons (pv 4) pa_nil))) pa_nil))) (pe_fx (ok_law_draw (P := P) (w := w) T) hr (by decide) (pa_cons (pv 0) (pa_cons pe_int pa_nil))) (fun _ _ => rfl)))
      (pss_one (ps_expr (pe_bm PySem.F.plainAttrs_list PySem.F.slot_list_append PySem.F.type_list_append mt_append (pv 7) (pa_cons (pe_tup (pa_cons (pv 9) (pa_cons (pv 6) (pa_cons (pv 10) (pa_cons (pe_cmpR (op_eqU (K := K) rfl (u64 hr)) (pe_fx (ok_law_draw (P := P) (w := w) T) hr (by decide) (pa_cons (pv 0) (pa_cons pe_int pa_nil))) pe_int (nomark _)) pa_nil))))) pa_nil))))))) pss_nil)))
      (pss_one (ps_dput (u1 hr) (pv 2) (pe_ix (ix_U (K := K) rfl) (pv 1) (pv 3) (fun _ _ => rfl)) (pe_tup (pa_cons (pv 4) (pa_cons (pv 5) (pa_cons (pv 7) pa_nil)))) rfl))))))))
      (pss_one (ps_ret (pe_tup (pa_cons (pv 1) (pa_cons (pv 2) pa_nil)))))))), ?_⟩
    walk_at "go"
    refine mkL (K := K) (.cons (.str _) (.cons (.str _) (.cons (.str _) (.cons (.str _) .nil)))) fun q1 H1 n1 f1 L1 => ?_
    walk_at "go"
    refine mkL (K := K) (.cons (.str _) (.cons (.str _) (.cons (.str _) (.cons (.str _) .nil)))) fun q2 H2 n2 f2 L2 => ?_
    walk_at "go"
    have T2 := (T0.fr f1).fr f2
    have d1 := (T0.ne n1)
    have d2 := (T0.fr f1).ne n2
    refine ⟨by show 2 ≤ sizeLine; decide, fun po hpo => ?_⟩
    have f3 : Fr [] H2 (upd H2 po (.lst [.ref q1, .ref q2])) := Fr.new hpo
    have e3 : upd H2 po (.lst [.ref q1, .ref q2]) po = some (.lst [.ref q1, .ref q2]) := upd_same
    have dpo := T2.ne hpo
    generalize upd H2 po (.lst [.ref q1, .ref q2]) = H3 at f3 e3
    have T3 := T2.fr f3
    walk_at "go"
    refine ⟨t, 2, H0, rfl, T3, by decide, by decide, fun r4 H4 a4 b4 f4 T4 => ?_⟩
    obtain ⟨bq, bs, hbq, Lb, lb, ob⟩ : ∃ (bq : Addr) (bs : List Str), atI [V.ref q1, V.ref q2] r4 = some (.ref bq) ∧ Lq K H4 bq (bs.map .str) ∧ bs.length = 4 ∧ ∀ b ∈ bs, b ∈ pool := by
      have : r4 = 0 ∨ r4 = 1 := by omega
      rcases this with rfl | rfl
      · exact ⟨q1, ["a", "ab", "b", "box"], rfl, ((L1.fr0 f2).fr0 f3).fr f4 (by simpa using d1) (T3.tu f4), rfl, by decide +kernel⟩
      · exact ⟨q2, ["b", "a", "abc", "ab"], rfl, (L2.fr0 f3).fr f4 (by simpa using d2) (T3.tu f4), rfl, by decide +kernel⟩
    refine w_ixL (SqL.of (f4 _ _ e3 (by simpa using dpo))) hbq ?_
    have dbq : bq ≠ t := by
      have : r4 = 0 ∨ r4 = 1 := by omega
      rcases this with rfl | rfl
      · cases hbq; exact d1
      · cases hbq; exact d2
    walk_at "go"
    refine ⟨t, 4, H0, rfl, T4, by decide, by decide, fun r5 H5 a5 b5 f5 T5 => ?_⟩
    walk_at "go"
    refine (Lb.fr f5 (by simpa using dbq) (T4.tu f5)).slice fun qn H6 n6 f6 L6 => ?_
    obtain ⟨n5, rfl⟩ : ∃ n : Nat, r5 = (n : Int) := ⟨r5.toNat, by omega⟩
    rw [show (1 : Int) + (n5 : Int) = ((1 + n5 : Nat) : Int) by omega, cutA_take, ← List.map_take] at L6
    obtain ⟨names, hn, ln1, ln4, on⟩ : ∃ names : List Str, bs.take (1 + n5) = names ∧ 1 ≤ names.length ∧ names.length ≤ 4 ∧ ∀ b ∈ names, b ∈ pool :=
      ⟨_, rfl, by rw [List.length_take]; omega, by rw [List.length_take]; omega, fun b hb => ob b (List.mem_of_mem_take hb)⟩
    rw [hn] at L6
    have T6 := T5.fr f6
    have f03 : Fr [] H H3 := (f1.trans f2).trans f3
    have f06 : Fr [t] H H6 := (f03.to1.trans f4).trans (f5.trans f6.to1)
    have dqn : qn ≠ t := T5.ne n6
    walk_at "go"
    refine mkD fun pd H7 n7 f7 e7 => ?_
    have T7 := T6.fr f7
    have dpd : pd ≠ t := T6.ne n7
    have L7 := L6.fr0 f7
    have f07 := f06.trans f7.to1
    have dqp : qn ≠ pd := by
      rintro rfl
      exact Lq.some L6 n7
    have npd : H pd = none := f06.free1' n7 dpd
    walk_at "go"
    refine L7.len ?_
    rw [List.length_map]
    refine F_R1 names.length (by omega) (by omega) (by omega) (fun i σ H' => Fr [t] H H' ∧ Tape K H0 H' t ∧ Lq K H' qn (names.map .str) ∧ ∃ (kvs : List (Key × V)) (v3 v4 v5 v6 v7 v8 v9 v10 : Option V), σ = [some (.ref t), some (.ref qn), some (.ref pd), v3, v4, v5, v6, v7, v8, v9, v10] ∧ H' pd = some (.dK kvs) ∧ kvs.length ≤ i ∧
      ∀ (j : Nat) (nm : Str), j < i → names[j]? = some nm → ∃ (p : Prt) (u : V), valV kvs (.inr nm) = some u ∧ PartK K [t, pd] H' u p ∧ p.ok ∧ ∀ l ∈ p.lines, ∃ m : Nat, j < m ∧ names[m]? = some l.name) ?_ ?_ ?_
    · exact ⟨f07, T7, L7, [], _, _, _, _, _, _, _, _, rfl, e7, Nat.le_refl _, fun j nm h => absurd h (Nat.not_lt_zero _)⟩
    · rintro i σ H8 hi ⟨f8, T8, L8, kvs, v3, v4, v5, v6, v7, v8, v9, v10, rfl, e8, lk, hp8⟩
      walk_at "go"
      have Tu8 : Tu H8 H8 := Tu.refl
      refine mkL (K := K) (.cons (.str _) (.cons (.str _) .nil)) fun qx H9 n9 f9 L9 => ?_
      have T9 := T8.fr f9
      walk_at "go"
      refine ⟨t, 3, H0, rfl, T9, by decide, by decide, fun r10 H10 a10 b10 f10 T10 => ?_⟩
      walk_at "go"
      refine (L9.fr f10 (by simpa using T8.ne n9) (T9.tu f10)).slice fun qb H11 n11 f11 L11 => ?_
      obtain ⟨m10, rfl⟩ : ∃ n : Nat, r10 = (n : Int) := ⟨r10.toNat, by omega⟩
      rw [show ([.str "a", .str "ab"] : List PyData) = (["a", "ab"] : List Str).map .str from rfl, cutA_take, ← List.map_take] at L11
      obtain ⟨boxes, hbx, lbx, obx⟩ : ∃ boxes : List Str, (["a", "ab"] : List Str).take m10 = boxes ∧ boxes.length ≤ 2 ∧ ∀ b ∈ boxes, PyData.strOk b = true := ⟨_, rfl, by rw [List.length_take]; exact Nat.min_le_right _ _, fun b hb => (by decide +kernel : ∀ b ∈ (["a", "ab"] : List Str), PyData.strOk b = true) b (List.mem_of_mem_take hb)⟩
      rw [hbx] at L11
      have T11 := T10.fr f11
      have dqb : qb ≠ t := T10.ne n11
      have f811 : Fr [t] H8 H11 := (f9.to1.trans f10).trans f11.to1
      walk_at "go"
      refine mkL (K := K) .nil fun qc H12 n12 f12 L12 => ?_
      have T12 := T11.fr f12
      have dqc : qc ≠ t := T11.ne n12
      have c8 : H8 qc = none := f811.free1' n12 dqc
      have dbc : qb ≠ qc := ne_free (Lq.some L11) n12
      walk_at "go"
      refine mkL (K := K) (.cons (.str _) (.cons (.str _) (.cons (.str _) .nil))) fun q1 H13 n13 f13 L13 => ?_
      walk_at "go"
      refine mkL (K := K) (.cons (.str _) (.cons (.str _) (.cons (.str _) .nil))) fun q2 H14 n14 f14 L14 => ?_
      walk_at "go"
      have T14 := (T12.fr f13).fr f14
      have d1 := (T12.ne n13)
      have d2 := (T12.fr f13).ne n14
      refine ⟨by show 2 ≤ sizeLine; decide, fun po hpo => ?_⟩
      have f15 : Fr [] H14 (upd H14 po (.lst [.ref q1, .ref q2])) := Fr.new hpo
      have e15 : upd H14 po (.lst [.ref q1, .ref q2]) po = some (.lst [.ref q1, .ref q2]) := upd_same
      have dpo := T14.ne hpo
      generalize upd H14 po (.lst [.ref q1, .ref q2]) = H15 at f15 e15
      have T15 := T14.fr f15
      walk_at "go"
      refine ⟨t, 2, H0, rfl, T15, by decide, by decide, fun r16 H16 a16 b16 f16 T16 => ?_⟩
      obtain ⟨bq, bs, hbq, Lb, lb, ob, dbq⟩ : ∃ (bq : Addr) (bs : List Str), atI [V.ref q1, V.ref q2] r16 = some (.ref bq) ∧ Lq K H16 bq (bs.map .str) ∧ bs.length = 3 ∧ (bs.Nodup ∧ ∀ b ∈ bs, b ∈ pool) ∧ bq ≠ t := by
        have : r16 = 0 ∨ r16 = 1 := by omega
        rcases this with rfl | rfl
        · exact ⟨q1, ["w", "wa", "a"], rfl, ((L13.fr0 f14).fr0 f15).fr f16 (by simpa using d1) (T15.tu f16), rfl, by decide +kernel, d1⟩
        · exact ⟨q2, ["a", "w", "wa"], rfl, (L14.fr0 f15).fr f16 (by simpa using d2) (T15.tu f16), rfl, by decide +kernel, d2⟩
      refine w_ixL (SqL.of (f16 _ _ e15 (by simpa using dpo))) hbq ?_
      walk_at "go"
      refine ⟨t, 4, H0, rfl, T16, by decide, by decide, fun r17 H17 a17 b17 f17 T17 => ?_⟩
      walk_at "go"
      refine (Lb.fr f17 (by simpa using dbq) (T16.tu f17)).slice fun qs H18 n18 f18 L18 => ?_
      obtain ⟨m17, rfl⟩ : ∃ n : Nat, r17 = (n : Int) := ⟨r17.toNat, by omega⟩
      rw [cutA_take, ← List.map_take] at L18
      obtain ⟨wns, hwn, lwn, nwn, own⟩ : ∃ wns : List Str, bs.take m17 = wns ∧ wns.length ≤ 3 ∧ wns.Nodup ∧ ∀ b ∈ wns, b ∈ pool := ⟨_, rfl, by rw [List.length_take]; omega, List.Sublist.nodup (List.take_sublist _ _) ob.1, fun b hb => ob.2 b (List.mem_of_mem_take hb)⟩
      rw [hwn] at L18
      have T18 := T17.fr f18
      have dqs : qs ≠ t := T17.ne n18
      have f1115 : Fr [] H12 H15 := (f13.trans f14).trans f15
      have f1218 : Fr [t] H12 H18 := (f1115.to1.trans f16).trans (f17.trans f18.to1)
      have f818 : Fr [t] H8 H18 := (f811.trans f12.to1).trans f1218
      have t1218 := T12.tu f1218
      have L12' := L12.fr f1218 (by simpa using dqc) t1218
      have Lb18 := (L11.fr0 f12).fr f1218 (by simpa using dqb) t1218
      have f1217 : Fr [t] H12 H17 := (f1115.to1.trans f16).trans f17
      have dsc : qs ≠ qc := (ne_free (Lq.some (L12.fr f1217 (by simpa using dqc) (T12.tu f1217))) n18).symm
      refine L18.walk (fun i' σ H' => Fr [t] H8 H' ∧ Tape K H0 H' t ∧ Lq K H' qs (wns.map .str) ∧ Lq K H' qb (boxes.map .str) ∧ ∃ (wk : List (Str × Leaf)) (v6 : Option V), σ = [some (.ref t), some (.ref qn), some (.ref pd), some (.int (i : Int)), some (.ref qb), some (.ref qc), v6, v7, v8, v9, v10] ∧ Lq K H' qc (wk.map wkD) ∧ wk.length = i' ∧ wk.map (·.1) = wns.take i' ∧ ∀ x ∈ wk, x.1 ∈ pool ∧ x.2.ok) ?_ ?_ ?_ ?_
      · exact ⟨f818, T18, L18, Lb18, [], _, rfl, L12', rfl, rfl, by simp⟩
      · rintro i σ H' ⟨_, _, z, _⟩
        exact z
      · rintro i' x dd σ H19 hi' dx ⟨f19, T19, L19, Lb19, wk, v6, rfl, Lc19, lwk, nwk, owk⟩
        obtain ⟨wn, hwn', rfl⟩ := map_get hi'
        cases dx
        have li := (List.getElem?_eq_some_iff.mp hwn').1
        walk_at "go"
        refine ⟨Lc19.ty, ?_⟩
        walk_at "go"
        refine ⟨t, qb, boxes, H0, rfl, T19, Lb19, dqb, by omega, obx, fun p l H20 ol f20 T20 dl => ?_⟩
        have t20 := T19.tu f20
        walk_at "go"
        refine mkT (K := K) (.cons (.str wn) (.cons dl .nil)) fun p21 H21 n21 f21 d21 => ?_
        have d21 : Dt K H21 (.ref p21) (wkD (wn, l)) := d21
        walk_at "go"
        refine ((Lc19.fr f20 (by simpa using dqc) t20).fr0 f21).app d21 (by rw [List.length_map]; omega) fun H22 f22 t22 Lc22 => ?_
        have f1921 := f20.trans f21.to1
        have f822 : Fr [t] H8 H22 := Fr.drop1 c8 (f19.trans f1921) f22
        have t1922 := (t20.trans f21.tu).trans t22
        refine ⟨f822, (T20.fr f21).fr1 f22 dqc (T8.no c8), ((L19.fr f1921 (by simpa using dqs) (t20.trans f21.tu)).fr f22 (by simpa using dsc) t22), ((Lb19.fr f1921 (by simpa using dqb) (t20.trans f21.tu)).fr f22 (by simpa using dbc) t22), wk ++ [(wn, l)], _, rfl, ?_, by rw [List.length_append, List.length_singleton, lwk], by rw [List.map_append, nwk, List.take_add_one, hwn']; rfl, ?_⟩
        · rw [List.map_append]
          exact Lc22
        · intro x hx
          rcases List.mem_append.mp hx with z | z
          · exact owk x z
          · rw [List.mem_singleton.mp z]
            exact ⟨own _ (List.mem_of_getElem? hwn'), ol⟩
      · rintro σ H19 ⟨f19, T19, L19, Lb19, wk, v6, rfl, Lc19, lwk, nwk, owk⟩
        rw [List.length_map] at lwk
        walk_at "go"
        refine mkL (K := K) .nil fun ql H20 n20 f20 L20 => ?_
        have T20 := T19.fr f20
        have dql : ql ≠ t := T19.ne n20
        have l8 : H8 ql = none := f19.free1' n20 dql
        have dcl : qc ≠ ql := ne_free (Lq.some Lc19) n20
        have dbl : qb ≠ ql := ne_free (Lq.some Lb19) n20
        walk_at "go"
        refine ⟨t, _, H0, rfl, T20, by split <;> omega, by split <;> omega, fun r21 H21 a21 b21 f21 T21 => ?_⟩
        have f821 : Fr [t] H8 H21 := (f19.trans f20.to1).trans f21
        have t21 := T20.tu f21
        have r4 : r21 < 4 := by
          revert b21
          split <;> intro b21 <;> omega
        have L21 := L20.fr f21 (by simpa using dql) t21
        have Lc21 := (Lc19.fr0 f20).fr f21 (by simpa using dqc) t21
        have Lb21 := (Lb19.fr0 f20).fr f21 (by simpa using dqb) t21
        walk_at "go"
        refine F_R1 r21.toNat rfl (by omega) (by omega) (fun j σ H' => Fr [t] H8 H' ∧ Tape K H0 H' t ∧ Lq K H' qb (boxes.map .str) ∧ Lq K H' qc (wk.map wkD) ∧ ∃ (ls : List Ln) (v6 v8 v9 v10 : Option V), σ = [some (.ref t), some (.ref qn), some (.ref pd), some (.int (i : Int)), some (.ref qb), some (.ref qc), v6, some (.ref ql), v8, v9, v10] ∧ Lq K H' ql (ls.map Ln.d) ∧ ls.length ≤ j ∧ ∀ l ∈ ls, l.ok ∧ ∃ m : Nat, i < m ∧ names[m]? = some l.name) ?_ ?_ ?_
        · exact ⟨f821, T21, Lb21, Lc21, [], _, _, _, _, rfl, L21, Nat.zero_le _, by simp⟩
        · rintro j σ H22 hj ⟨f22, T22, Lb22, Lc22, ls, v6, v8, v9, v10, rfl, Ll22, lls, ols⟩
          have Ln22 : Lq K H22 qn (names.map .str) := L8.fr f22 (by simpa using dqn) (T8.tu f22)
          walk_at "go"
          refine Ln22.len ?_
          rw [List.length_map]
          walk_at "go"
          refine ite_d (fun hk => ?_) (fun hk => ?_)
          · walk_at "go"
            refine Ln22.len ?_
            rw [List.length_map]
            walk_at "go"
            refine ⟨t, _, H0, rfl, T22, by omega, by omega, fun r23 H23 a23 b23 f23 T23 => ?_⟩
            have t23 := T22.tu f23
            walk_at "go"
            refine (Ln22.fr f23 (by simpa using dqn) t23).at (P := fun _ => True) (fun _ _ => trivial) (by omega) (by rw [List.length_map]; omega) fun nv nd dnv _ hnv => ?_
            obtain ⟨nm, hnm, rfl⟩ := map_get hnv
            cases dnv
            walk_at "go"
            refine ⟨t, qb, boxes, H0, rfl, T23, Lb22.fr f23 (by simpa using dqb) t23, dqb, by omega, obx, fun p l H24 ol f24 T24 dl => ?_⟩
            walk_at "go"
            refine mkL (K := K) (.cons .non (.cons .non (.cons dl .nil))) fun q25 H25 n25 f25 L25 => ?_
            have T25 := T24.fr f25
            walk_at "go"
            refine ⟨t, 3, H0, rfl, T25, by decide, by decide, fun r26 H26 a26 b26 f26 T26 => ?_⟩
            refine (L25.fr f26 (by simpa using T24.ne n25) (T25.tu f26)).at (P := fun d => ∃ o, d = optD o ∧ optOk o) (fun d hd => ?_) a26 b26 fun kv kd dkv hkd _ => ?_
            · simp only [List.mem_cons, List.mem_nil_iff, or_false] at hd
              rcases hd with rfl | rfl | rfl
              · exact ⟨none, rfl, fun _ h => nomatch h⟩
              · exact ⟨none, rfl, fun _ h => nomatch h⟩
              · exact ⟨some l, rfl, fun l' h => by cases h; exact ol⟩
            obtain ⟨ok, rfl, ook⟩ := hkd
            have f2226 : Fr [t] H22 H26 := ((f23.trans f24).trans f25.to1).trans f26
            walk_at "go"
            refine ⟨t, qb, boxes, H0, rfl, T26, Lb22.fr f2226 (by simpa using dqb) (T22.tu f2226), dqb, by omega, obx, fun p2 l2 H27 ol2 f27 T27 dl2 => ?_⟩
            walk_at "go"
            refine mkL (K := K) (.cons .non (.cons dl2 .nil)) fun q28 H28 n28 f28 L28 => ?_
            have T28 := T27.fr f28
            walk_at "go"
            refine ⟨t, 2, H0, rfl, T28, by decide, by decide, fun r29 H29 a29 b29 f29 T29 => ?_⟩
            refine (L28.fr f29 (by simpa using T27.ne n28) (T28.tu f29)).at (P := fun d => ∃ o, d = optD o ∧ optOk o) (fun d hd => ?_) a29 b29 fun gv gd dgv hgd _ => ?_
            · simp only [List.mem_cons, List.mem_nil_iff, or_false] at hd
              rcases hd with rfl | rfl
              · exact ⟨none, rfl, fun _ h => nomatch h⟩
              · exact ⟨some l2, rfl, fun l' h => by cases h; exact ol2⟩
            obtain ⟨og, rfl, oog⟩ := hgd
            have f2629 : Fr [t] H26 H29 := (f27.trans f28.to1).trans f29
            have f2229 := f2226.trans f2629
            have Ll29 := Ll22.fr f2229 (by simpa using dql) (T22.tu f2229)
            walk_at "go"
            refine ⟨Ll29.ty, ?_⟩
            walk_at "go"
            refine ⟨t, 4, H0, rfl, T29, by decide, by decide, fun r30 H30 a30 b30 f30 T30 => ?_⟩
            walk_at "go"
            have t30 := T29.tu f30
            refine mkT (K := K) (.cons ((dkv.mono (T26.tu f2629)).mono t30) (.cons (.str nm) (.cons (dgv.mono t30) (.cons (.bl _) .nil)))) fun p31 H31 n31 f31 d31 => ?_
            have d31 : Dt K H31 (.ref p31) (Ln.d ⟨ok, nm, og, decide (r30 = 0)⟩) := d31
            have f2931 := f30.trans f31.to1
            have T31 := T30.fr f31
            walk_at "go"
            refine (Ll29.fr f2931 (by simpa using dql) (T29.tu f2931)).app d31 (by rw [List.length_map]; omega) fun H32 f32 t32 Ll32 => ?_
            have f2231 := f2229.trans f2931
            have t2231 := T22.tu f2231
            refine ⟨Fr.drop1 l8 (f22.trans f2231) f32, T31.fr1 f32 dql (T8.no l8), (Lb22.fr f2231 (by simpa using dqb) t2231).fr f32 (by simpa using dbl) t32, (Lc22.fr f2231 (by simpa using dqc) t2231).fr f32 (by simpa using dcl) t32, ls ++ [⟨ok, nm, og, decide (r30 = 0)⟩], _, _, _, _, rfl, ?_, by rw [List.length_append, List.length_singleton]; omega, ?_⟩
            · rw [List.map_append]
              exact Ll32
            · intro z hz
              rcases List.mem_append.mp hz with y | y
              · exact ols z y
              · rw [List.mem_singleton.mp y]
                exact ⟨⟨ook, oog, pool_ok _ (on _ (List.mem_of_getElem? hnm))⟩, _, by omega, hnm⟩
          · walk_at "go"
            exact ⟨f22, T22, Lb22, Lc22, ls, _, _, _, _, rfl, Ll22, by omega, ols⟩
        · rintro σ H22 ⟨f22, T22, Lb22, Lc22, ls, v6, v8, v9, v10, rfl, Ll22, lls, ols⟩
          have Ln22 : Lq K H22 qn (names.map .str) := L8.fr f22 (by simpa using dqn) (T8.tu f22)
          walk_at "go"
          refine w_dput ?_
          walk_at "go"
          refine ⟨by show 3 ≤ sizeLine; decide, fun pa hpa => ?_⟩
          have f23 : Fr [] H22 (upd H22 pa (.tup [.ref qb, .ref qc, .ref ql])) := Fr.new hpa
          have e23 : upd H22 pa (.tup [.ref qb, .ref qc, .ref ql]) pa = some (.tup [.ref qb, .ref qc, .ref ql]) := upd_same
          generalize upd H22 pa (.tup [.ref qb, .ref qc, .ref ql]) = H23 at f23 e23
          have T23 := T22.fr f23
          have dpa : pa ≠ t := T22.ne hpa
          obtain ⟨nm, hnm⟩ : ∃ nm, names[i]? = some nm := ⟨_, List.getElem?_eq_getElem hi⟩
          walk_at "go"
          have f823 := f22.trans f23.to1
          have Ln23 := Ln22.fr0 f23
          refine w_ixL (SqL.of Ln23.strs) (atI_nat (j := i) (by rw [List.getElem?_map, hnm]; rfl)) ?_
          have e23d : H23 pd = some (.dK kvs) := f823 _ _ e8 (by simpa using dpd)
          have fd : Fr [pd] H23 (upd H23 pd (.dK (putK kvs (.inr nm) (.ref pa)))) := Fr.mut (by simp)
          have td : Tu H23 (upd H23 pd (.dK (putK kvs (.inr nm) (.ref pa)))) := fd.tuD e23d
          refine ⟨pd, _, rfl, .inl ⟨kvs, .inr nm, e23d, rfl, Nat.lt_of_le_of_lt (show kvs.length ≤ 4 by omega) (by decide), rfl⟩, ?_⟩
          have ed : upd H23 pd (.dK (putK kvs (.inr nm) (.ref pa))) pd = some (.dK (putK kvs (.inr nm) (.ref pa))) := upd_same
          generalize upd H23 pd (.dK (putK kvs (.inr nm) (.ref pa))) = H24 at fd td ed
          have f824 : Fr [t, pd] H8 H24 := (f823.mono (by simp)).trans (fd.mono (by simp))
          have t824 : Tu H8 H24 := (T8.tu f823).trans td
          have pd8 : ∀ {x : Addr}, H8 x = none → x ≠ pd := fun hx => (ne_free (by rw [e8]; simp) hx).symm
          have b8 : H8 qb = none := (f9.to1.trans f10).free1' n11 dqb
          have a8 : H8 pa = none := f22.free1' hpa dpa
          refine ⟨Fr.drop1 npd (f8.trans f823) fd, T23.fr1 fd dpd (T6.no n7), Ln23.fr fd (by simpa using dqp) td, _, _, _, _, _, _, _, _, _, rfl, ed, Nat.le_trans (length_putK _ _ _) (by omega), fun j nm' hj hnm' => ?_⟩
          by_cases e : nm' = nm
          · subst e
            refine ⟨⟨boxes, wk, ls⟩, .ref pa, by rw [valV_put, if_pos rfl], fun S hS => ?_, ⟨⟨lbx, by show wk.length ≤ 3; omega, by show ls.length ≤ 3; omega⟩, obx, fun w hw => ⟨pool_ok _ (owk w hw).1, (owk w hw).2⟩, fun l hl => (ols l hl).1, fun w hw => (owk w hw).1, by show (wk.map (·.1)).Nodup; rw [nwk]; exact List.Sublist.nodup (List.take_sublist _ _) nwn⟩, fun l hl => ?_⟩
            · have nS : ∀ x : Addr, H24 x ≠ none → x ≠ t → x ≠ pd → x ∉ S := fun x hx h1 h2 z => by
                rcases hS x z with y | y
                · simp only [List.mem_cons, List.not_mem_nil, or_false] at y
                  exact y.elim h1 h2
                · exact hx y
              have lq : ∀ {x : Addr} {ds : List PyData}, Lq K H22 x ds → x ≠ pd → Lq K H24 x ds := fun h n => (h.fr0 f23).fr fd (by simpa using n) td
              have ea : H24 pa = some (.tup [.ref qb, .ref qc, .ref ql]) := fd _ _ e23 (by simpa using pd8 a8)
              exact ⟨pa, qb, qc, ql, rfl, .inl (.inl ea), ⟨nS _ (by rw [ea]; simp) dpa (pd8 a8), nS _ (Lq.some (lq Lb22 (pd8 b8))) dqb (pd8 b8), nS _ (Lq.some (lq Lc22 (pd8 c8))) dqc (pd8 c8), nS _ (Lq.some (lq Ll22 (pd8 l8))) dql (pd8 l8)⟩, lq Lb22 (pd8 b8), lq Lc22 (pd8 c8), lq Ll22 (pd8 l8)⟩
            · obtain ⟨m, hm, hm2⟩ := (ols l hl).2
              exact ⟨m, by omega, hm2⟩
          · have hj' : j < i := by
              rcases Nat.lt_or_ge j i with z | z
              · exact z
              · have : j = i := by omega
                subst this
                rw [hnm] at hnm'
                exact absurd (Option.some.inj hnm').symm e
            obtain ⟨p, u, e1, e2, e3, e4⟩ := hp8 j nm' hj' hnm'
            exact ⟨p, u, by rw [valV_put, if_neg (by simpa using e)]; exact e1, e2.fr f824 t824, e3, e4⟩
    · rintro σ H8 ⟨f8, T8, L8, kvs, v3, v4, v5, v6, v7, v8, v9, v10, rfl, e8, lk, hp8⟩
      walk_at "go"
      refine ⟨by show 2 ≤ sizeLine; decide, fun pa hpa => ?_⟩
      have f9 : Fr [] H8 (upd H8 pa (.tup [.ref qn, .ref pd])) := Fr.new hpa
      have dpa := T8.ne hpa
      refine k pa names _ (f8.free1' hpa dpa) (f8.trans f9.to1) (T8.fr f9) fun S hS => ?_
      have nS : ∀ x : Addr, upd H8 pa (.tup [.ref qn, .ref pd]) x ≠ none → x ≠ t → x ∉ S := fun x hx h1 z => by
        rcases hS x z with y | y
        · exact h1 (by simpa using y)
        · exact hx y
      have ea : upd H8 pa (.tup [.ref qn, .ref pd]) pa = some (.tup [.ref qn, .ref pd]) := upd_same
      have L9 := L8.fr0 f9
      have e9 := f9 _ _ e8 (by simp)
      refine ⟨pa, qn, pd, kvs, rfl, .inl (.inl ea), ⟨nS _ (by rw [ea]; simp) dpa, nS _ (Lq.some L9) dqn, nS _ (by rw [e9]; simp) dpd⟩, L9.strs, e9, fun j nm hj => ?_, ln4, ln1, on⟩
      obtain ⟨p, u, e1, e2, e3, e4⟩ := hp8 j nm (List.getElem?_eq_some_iff.mp hj).1 hj
      exact ⟨p, u, e1, (e2.fr (f9.mono (by simp)) f9.tu) S fun a ha => (hS a ha).imp (fun z => by simp [List.mem_singleton.mp z]) id, e3, e4⟩
end

/-- plain data, n deep -/
def pl : Nat → PyData → Bool
  | 0, _ => false
  | _ + 1, .none => true
  | _ + 1, .bool _ => true
  | _ + 1, .int _ => true
  | _ + 1, .str _ => true
  | n + 1, .tuple ds => decide (ds.length ≤ 100000) && ds.all (pl n)
  | n + 1, .list ds => decide (ds.length ≤ 100000) && ds.all (pl n)
  | _ + 1, _ => false

/-! ### works of drawings, as data; all of a drawing is plain -/
structure Wr where
  path : List (Option Int × Int)
  part : Str
  name : Str
  n : Int
def wrD (x : Wr) : PyData := .tuple [.tuple (x.path.map spD), .str x.part, .str x.name, .int x.n]
def En.works (e : En) : List Wr := e.wk.map fun y => ⟨e.path, e.name, y.1, y.2⟩
def works (ens : List En) : List Wr := ens.flatMap En.works
def Wr.ok (x : Wr) : Prop := x.path.length ≤ 10 ∧ PyData.strOk x.part = true ∧ PyData.strOk x.name = true
theorem works_len {ens : List En} (h : ∀ e ∈ ens, e.ok) : (works ens).length ≤ 3 * ens.length := by
  induction ens with
  | nil => exact Nat.zero_le _
  | cons e r ih =>
    have h1 := ih fun x hx => h x (by simp [hx])
    have h2 := (h e (by simp)).2.2.2.1
    unfold works at *
    rw [List.flatMap_cons, List.length_append, List.length_cons]
    have : (En.works e).length = e.wk.length := List.length_map _
    omega
theorem works_ok {ens : List En} (h : ∀ e ∈ ens, e.ok) : ∀ x ∈ works ens, x.ok := by
  intro x hx
  obtain ⟨e, he, hx⟩ := List.mem_flatMap.mp hx
  obtain ⟨y, hy, rfl⟩ := List.mem_map.mp hx
  have o := h e he
  exact ⟨o.1, o.2.2.2.2.1, o.2.2.2.2.2 y hy⟩
theorem works_take {ens : List En} {i : Nat} {e : En} (h : ens[i]? = some e) : works (ens.take (i + 1)) = works (ens.take i) ++ e.works := by
  unfold works
  rw [List.take_add_one, h, List.flatMap_append]
  simp
theorem pl_tuple {n : Nat} {ds : List PyData} (l : ds.length ≤ 100000) (h : ∀ d ∈ ds, pl n d = true) : pl (n + 1) (.tuple ds) = true := by
  show (decide (ds.length ≤ 100000) && ds.all (pl n)) = true
  rw [decide_eq_true l, List.all_eq_true.mpr h]
  rfl
theorem pl_list {n : Nat} {ds : List PyData} (l : ds.length ≤ 100000) (h : ∀ d ∈ ds, pl n d = true) : pl (n + 1) (.list ds) = true := by
  show (decide (ds.length ≤ 100000) && ds.all (pl n)) = true
  rw [decide_eq_true l, List.all_eq_true.mpr h]
  rfl
theorem pl_maps {α : Type} {n : Nat} {g : α → PyData} {xs : List α} (l : xs.length ≤ 100000) (h : ∀ x ∈ xs, pl n (g x) = true) : pl (n + 1) (.tuple (xs.map g)) = true :=
  pl_tuple (by rwa [List.length_map]) fun d hd => by
    obtain ⟨x, hx, rfl⟩ := List.mem_map.mp hd
    exact h x hx
theorem pl_mapl {α : Type} {n : Nat} {g : α → PyData} {xs : List α} (l : xs.length ≤ 100000) (h : ∀ x ∈ xs, pl n (g x) = true) : pl (n + 1) (.list (xs.map g)) = true :=
  pl_list (by rwa [List.length_map]) fun d hd => by
    obtain ⟨x, hx, rfl⟩ := List.mem_map.mp hd
    exact h x hx
theorem pl_nil {n : Nat} : pl (n + 1) (.tuple []) = true := pl_tuple (by exact Nat.zero_le _) (by simp)
theorem pl_oi {n : Nat} (o : Option Int) : pl (n + 1) (oiD o) = true := by cases o <;> rfl
theorem pl_spd {n : Nat} (s : Option Int × Int) : pl (n + 2) (spD s) = true := by
  obtain ⟨a, b⟩ := s
  cases a <;> exact pl_tuple (by exact Nat.le_of_ble_eq_true rfl) (by simp [pl])
theorem pl_pth {n : Nat} {p : List (Option Int × Int)} (h : p.length ≤ 100000) : pl (n + 3) (.tuple (p.map spD)) = true := pl_maps h fun s _ => pl_spd s
theorem pl_gv {n : Nat} (g : Option Int) : pl (n + 3) (givD g) = true := by
  cases g with
  | none => exact pl_nil
  | some k =>
    refine pl_tuple (by exact Nat.le_of_ble_eq_true rfl) fun d hd => ?_
    rw [List.mem_singleton.mp hd]
    exact pl_tuple (by exact Nat.le_of_ble_eq_true rfl) (by simp [pl])
theorem pl_wn {n : Nat} (x : Wn) : pl (n + 6) x.d = true := by
  have h1 : ∀ m, pl (m + 2) x.spot = true := fun m => by rw [spot_sp]; exact pl_spd _
  unfold Wn.d
  split
  · refine pl_tuple (by exact Nat.le_of_ble_eq_true rfl) fun d hd => ?_
    simp only [List.mem_cons, List.not_mem_nil, or_false] at hd
    rcases hd with rfl | rfl | rfl | rfl | rfl | rfl
    · rfl
    · exact h1 _
    · rfl
    · exact pl_nil
    · exact pl_nil
    · refine pl_tuple (by exact Nat.le_of_ble_eq_true rfl) fun d hd => ?_
      rw [List.mem_singleton.mp hd]
      refine pl_tuple (by exact Nat.le_of_ble_eq_true rfl) fun d hd => ?_
      simp only [List.mem_cons, List.not_mem_nil, or_false] at hd
      rcases hd with rfl | rfl | rfl | rfl
      · rfl
      · exact pl_spd (none, 0)
      · rfl
      · exact pl_gv _
  · refine pl_tuple (by exact Nat.le_of_ble_eq_true rfl) fun d hd => ?_
    simp only [List.mem_cons, List.not_mem_nil, or_false] at hd
    rcases hd with rfl | rfl | rfl | rfl
    · rfl
    · exact h1 _
    · rfl
    · exact pl_gv _
theorem pl_en {n : Nat} {x : En} (o : x.ok) : pl (n + 10) (enD x) = true := by
  refine pl_tuple (by exact Nat.le_of_ble_eq_true rfl) fun d hd => ?_
  simp only [List.mem_cons, List.not_mem_nil, or_false] at hd
  have o1 := o.1
  have o2 := o.2.1
  have o3 := o.2.2.1
  have o4 := o.2.2.2.1
  rcases hd with rfl | rfl | rfl | rfl | rfl
  · exact pl_pth (by omega)
  · rfl
  · exact pl_gv _
  · exact pl_nil
  · refine pl_tuple (by exact Nat.le_of_ble_eq_true rfl) fun d hd => ?_
    simp only [List.mem_cons, List.not_mem_nil, or_false] at hd
    rcases hd with rfl | rfl | rfl
    · refine pl_maps (by omega) fun y _ => ?_
      refine pl_tuple (by exact Nat.le_of_ble_eq_true rfl) fun d hd => ?_
      simp only [List.mem_cons, List.not_mem_nil, or_false] at hd
      rcases hd with rfl | rfl
      · exact pl_tuple (by exact Nat.le_of_ble_eq_true rfl) (by simp [pl])
      · rfl
    · exact pl_maps (by omega) fun y _ => pl_wn y
    · refine pl_maps (by omega) fun y _ => ?_
      exact pl_tuple (by exact Nat.le_of_ble_eq_true rfl) (by simp [pl])
theorem pl_ens {n : Nat} {ens : List En} (l : ens.length ≤ 1100) (o : ∀ e ∈ ens, e.ok) : pl (n + 11) (.list (ens.map enD)) = true := pl_mapl (by omega) fun e he => pl_en (o e he)
theorem pl_wr {n : Nat} {x : Wr} (o : x.ok) : pl (n + 4) (wrD x) = true := by
  refine pl_tuple (by exact Nat.le_of_ble_eq_true rfl) fun d hd => ?_
  simp only [List.mem_cons, List.not_mem_nil, or_false] at hd
  have o1 := o.1
  rcases hd with rfl | rfl | rfl | rfl
  · exact pl_pth (by omega)
  · rfl
  · rfl
  · rfl
theorem pl_wks {n : Nat} {ens : List En} (l : ens.length ≤ 1100) (o : ∀ e ∈ ens, e.ok) : pl (n + 5) (.list ((works ens).map wrD)) = true := pl_mapl (by have := works_len o; omega) fun x hx => pl_wr (works_ok o x hx)

section
variable {P : Program} {w : World} {K : PySem.W.Frag} {mg : Str → Option Value} {base : Heap}
theorem en_parts {H : Hp} {v : V} {x : En} (h : Dt K H v (enD x)) : ∃ (a : Addr) (pv gv dv cv : V), v = .ref a ∧ SqT K H a [pv, .str x.name, gv, dv, cv] ∧ Dt K H pv (.tuple (x.path.map spD)) ∧ Dt K H cv (pieceD x.rds x.ws x.wk) := by
  obtain ⟨a, us, rfl, s, av⟩ := h.tuple
  cases av with
  | cons d1 av =>
  cases av with
  | cons d2 av =>
  cases av with
  | cons d3 av =>
  cases av with
  | cons d4 av =>
  cases av with
  | cons d5 av =>
  cases av
  cases d2
  exact ⟨a, _, _, _, _, rfl, s, d1, d5⟩
theorem wv_parts {H : Hp} {v : V} {y : Str × Int} (h : Dt K H v (wvD y)) : ∃ a : Addr, v = .ref a ∧ SqT K H a [.str y.1, .int y.2] := by
  obtain ⟨a, us, rfl, s, av⟩ := h.tuple
  cases av with
  | cons d1 av =>
  cases av with
  | cons d2 av =>
  cases av
  cases d1; cases d2
  exact ⟨a, rfl, s⟩
def sp_works (K : PySem.W.Frag) : Sp := fun vs H Q _ => ∃ (q : Addr) (ens : List En), vs = [.ref q] ∧ Lq K H q (ens.map enD) ∧ ens.length ≤ 1100 ∧ (∀ e ∈ ens, e.ok) ∧ ∀ r H', H r = none → Fr [] H H' → Lq K H' r ((works ens).map wrD) → Q (.ref r) H'
theorem ok_law_works (T : Env K mg) : Fx P w K mg base 1 "_law_works" p_law_works (sp_works K) := by
  refine T.l_law_works.ok sc_law_works (fun vs H Q E h => ?_) (fun f cdv A outer s H vs Q E hr h => ?_)
  · obtain ⟨q, _, rfl, _⟩ := h
    rfl
  · obtain ⟨q, ens, rfl, L0, le, oe, k⟩ := h
    refine ⟨_, (pss_cons (ps_set (i := 1) sc_law_works.nd rfl (Or.inl rfl) (pe_lst pa_nil))
      (pss_cons (ps_for PassesOwn.never rfl (pi_listU (K := K) rfl (pv 0)) (pg_tupU (K := K) (n := 5) rfl rfl (pgs_cons (pg_name (i := 2) sc_law_works.nd rfl (Or.inl rfl)) (pgs_cons (pg_name (i := 3) sc_law_works.nd rfl (Or.inl rfl)) (pgs_cons (pg_name (i := 4) sc_law_works.nd rfl (Or.inl rfl)) (pgs_cons (pg_name (i := 5) sc_law_works.nd rfl (Or.inl rfl)) (pgs_cons (pg_name (i := 6) sc_law_works.nd rfl (Or.inl rfl)) pgs_nil)))))) (pss_one (ps_for PassesOwn.never rfl (pi_tupU (K := K) rfl (pe_ix (ix_U (K := K) rfl) (pv 6) pe_int (fun _ _ => rfl))) (pg_tupU (K := K) (n := 2) rfl rfl (pgs_cons (pg_name (i := 7) sc_law_works.nd rfl (Or.inl rfl)) (pgs_cons (pg_name (i := 8) sc_law_works.nd rfl (Or.inl rfl)) pgs_nil))) (pss_one (ps_expr (pe_bm PySem.F.plainAttrs_list PySem.F.slot_list_append PySem.F.type_list_append mt_append (pv 1) (pa_cons (pe_tup (pa_cons (pv 2) (pa_cons (pv 3) (pa_cons (pv 7) (pa_cons (pv 8) pa_nil))))) pa_nil)))))))
      (pss_one (ps_ret (pv 1))))), ?_⟩
    walk_at "go"
    refine mkL (K := K) .nil fun r H1 n1 f1 L1 => ?_
    walk_at "go"
    refine (L0.fr0 f1).walk (fun i σ H' => Fr [] H H' ∧ ∃ (v2 v3 v4 v5 v6 v7 v8 : Option V), σ = [some (.ref q), some (.ref r), v2, v3, v4, v5, v6, v7, v8] ∧ Lq K H' r ((works (ens.take i)).map wrD)) ?_ ?_ ?_ ?_
    · exact ⟨f1, _, _, _, _, _, _, _, rfl, L1⟩
    · rintro i σ H' ⟨f', _⟩
      exact L0.fr0 f'
    · rintro i x dd σ H2 hi dx ⟨f2, v2, v3, v4, v5, v6, v7, v8, rfl, L2⟩
      obtain ⟨e, he, rfl⟩ := map_get hi
      have oe' := oe e (List.mem_of_getElem? he)
      have li : i < ens.length := (List.getElem?_eq_some_iff.mp he).1
      obtain ⟨a, pv', gv, dv, cv, rfl, sa, dp, dc⟩ := en_parts dx
      refine w_gtup sa rfl ?_
      walk_at "go"
      refine Dt.ix 2 dc rfl fun wv dw => ?_
      have lw := works_len (ens := ens.take i) (fun e he => oe e (List.mem_of_mem_take he))
      rw [List.length_take] at lw
      have l3 := oe'.2.2.2.1
      refine dw.walk (fun j σ H' => Fr [] H H' ∧ Tu H2 H' ∧ ∃ (v7 v8 : Option V), σ = [some (.ref q), some (.ref r), some pv', some (.str e.name), some gv, some dv, some cv, v7, v8] ∧ Lq K H' r ((works (ens.take i)).map wrD ++ (e.works.take j).map wrD)) ?_ ?_ ?_ ?_
      · exact ⟨f2, Tu.refl, _, _, rfl, by simpa using L2⟩
      · rintro j σ H' ⟨_, t', _⟩
        exact t'
      · rintro j y dd σ H3 hj dy ⟨f3, t3, v7, v8, rfl, L3⟩
        obtain ⟨wv', hwv, rfl⟩ := map_get hj
        obtain ⟨b, rfl, sb⟩ := wv_parts dy
        refine w_gtup sb rfl ?_
        walk_at "go"
        refine ⟨L3.ty, ?_⟩
        walk_at "go"
        refine mkT (K := K) (.cons (dp.mono t3) (.cons (.str e.name) (.cons (.str wv'.1) (.cons (.int wv'.2) .nil)))) fun p4 H4 n4 f4 d4 => ?_
        have d4 : Dt K H4 (.ref p4) (wrD ⟨e.path, e.name, wv'.1, wv'.2⟩) := d4
        walk_at "go"
        refine (L3.fr0 f4).app d4 (by rw [List.length_append, List.length_map, List.length_map, List.length_take]; have : e.works.length = e.wk.length := List.length_map _; omega) fun H5 f5 t5 L5 => ?_
        refine ⟨Fr.drop1 n1 (f3.trans f4) f5, (t3.trans f4.tu).trans t5, _, _, rfl, ?_⟩
        have hw' : e.works[j]? = some ⟨e.path, e.name, wv'.1, wv'.2⟩ := by
          unfold En.works
          rw [List.getElem?_map, hwv]
          rfl
        rw [List.take_add_one, hw', List.map_append, ← List.append_assoc]
        exact L5
      · rintro σ H3 ⟨f3, t3, v7, v8, rfl, L3⟩
        walk_at "go"
        refine ⟨f3, _, _, _, _, _, _, _, rfl, ?_⟩
        have hl : (e.wk.map wvD).length = e.works.length := by
          unfold En.works
          rw [List.length_map, List.length_map]
        rw [hl, List.take_length] at L3
        rw [works_take he, List.map_append]
        exact L3
    · rintro σ H2 ⟨f2, v2, v3, v4, v5, v6, v7, v8, rfl, L2⟩
      walk_at "go"
      rw [List.length_map, List.take_length] at L2
      exact k r H2 n1 f2 L2
theorem ok_works_of (T : Env K mg) : Fx P w K mg base 1 "works_of" p_works_of (sp_works K) := by
  refine T.l_works_of.ok sc_works_of (fun vs H Q E h => ?_) (fun f cdv A outer s H vs Q E hr h => ?_)
  · obtain ⟨q, _, rfl, _⟩ := h
    rfl
  · obtain ⟨q, ens, rfl, L0, le, oe, k⟩ := h
    refine ⟨_, (pss_cons (ps_set (i := 1) sc_works_of.nd rfl (Or.inl rfl) (pe_lst pa_nil))
      (pss_cons (ps_for PassesOwn.never rfl (pi_listU (K := K) rfl (pv 0)) (pg_tupU (K := K) (n := 5) rfl rfl (pgs_cons (pg_name (i := 2) sc_works_of.nd rfl (Or.inr rfl)) (pgs_cons (pg_name (i := 3) sc_works_of.nd rfl (Or.inr rfl)) (pgs_cons (pg_name (i := 4) sc_works_of.nd rfl (Or.inl rfl)) (pgs_cons (pg_name (i := 5) sc_works_of.nd rfl (Or.inl rfl)) (pgs_cons (pg_name (i := 6) sc_works_of.nd rfl (Or.inl rfl)) pgs_nil)))))) (pss_one (ps_expr (pe_bm PySem.F.plainAttrs_list PySem.F.slot_list_extend PySem.F.type_list_extend mt_extend (pv 1) (pa_cons (pe_lc (own := [("work", 7), ("number", 8)]) (g := (gTup K 2 (gCons (gName 7) (gCons (gName 8) gNil)))) (tt := tYes) rfl sc_works_of.nd (pi_tupU (K := K) rfl (pe_ix (ix_U (K := K) rfl) (pv 6) pe_int (fun _ _ => rfl))) (blkOk_by (N := N_works_of) (sc := defScope s_works_of) (by decide +kernel)) (fun _ _ _ _ _ => (pg_tupU (K := K) (n := 2) rfl rfl (pgs_cons (pg_name (i := 7) sc_works_of.nd rfl (Or.inl rfl)) (pgs_cons (pg_name (i := 8) sc_works_of.nd rfl (Or.inl rfl)) pgs_nil)))) (fun _ _ _ _ _ => pts_nil) (fun _ _ _ _ _ => (pe_tup (pa_cons (pv 2) (pa_cons (pv 3) (pa_cons (pv 7) (pa_cons (pv 8) pa_nil))))))) pa_nil)))))
      (pss_one (ps_ret (pv 1))))), ?_⟩
    walk_at "go"
    refine mkL (K := K) .nil fun r H1 n1 f1 L1 => ?_
    walk_at "go"
    refine (L0.fr0 f1).walk (fun i σ H' => Fr [] H H' ∧ ∃ (v2 v3 v4 v5 v6 v7 v8 : Option V), σ = [some (.ref q), some (.ref r), v2, v3, v4, v5, v6, v7, v8] ∧ Lq K H' r ((works (ens.take i)).map wrD)) ?_ ?_ ?_ ?_
    · exact ⟨f1, _, _, _, _, _, _, _, rfl, L1⟩
    · rintro i σ H' ⟨f', _⟩
      exact L0.fr0 f'
    · rintro i x dd σ H2 hi dx ⟨f2, v2, v3, v4, v5, v6, v7, v8, rfl, L2⟩
      obtain ⟨e, he, rfl⟩ := map_get hi
      have oe' := oe e (List.mem_of_getElem? he)
      have li : i < ens.length := (List.getElem?_eq_some_iff.mp he).1
      obtain ⟨a, pv', gv, dv, cv, rfl, sa, dp, dc⟩ := en_parts dx
      refine w_gtup sa rfl ?_
      walk_at "go"
      refine ⟨L2.ty, ?_⟩
      walk_at "go"
      refine Dt.ix 2 dc rfl fun wv dw => ?_
      have lw := works_len (ens := ens.take i) (fun e he => oe e (List.mem_of_mem_take he))
      rw [List.length_take] at lw
      have l3 := oe'.2.2.2.1
      refine LCX_T (K := K) (cs := e.wk) (dS := wvD) (fun _ => true) (fun y => wrD ⟨e.path, e.name, y.1, y.2⟩) dw (by omega) ?_ fun q3 H3 n3 f3 L3 => ?_
      · intro c x H' KEEP DROP hc f' dx keep drop
        obtain ⟨b, rfl, sb⟩ := wv_parts dx
        refine w_gtup sb rfl ?_
        walk_at "go"
        refine mkT (K := K) (.cons (dp.mono f'.tu) (.cons (.str e.name) (.cons (.str c.1) (.cons (.int c.2) .nil)))) fun p4 H4 n4 f4 d4 => ?_
        exact keep rfl _ _ f4 d4
      · rw [List.filter_eq_self.mpr (fun _ _ => rfl), show (fun y : Str × Int => wrD ⟨e.path, e.name, y.1, y.2⟩) = wrD ∘ (fun y => ⟨e.path, e.name, y.1, y.2⟩) from rfl, ← List.map_map] at L3
        have L3 : Lq K H3 q3 (e.works.map wrD) := L3
        walk_at "go"
        refine (L2.fr0 f3).extend L3 (by rw [List.length_map, List.length_map]; have : e.works.length = e.wk.length := List.length_map _; omega) fun H4 f4 t4 L4 => ?_
        refine ⟨Fr.drop1 n1 (f2.trans f3) f4, _, _, _, _, _, _, _, rfl, ?_⟩
        rw [works_take he, List.map_append]
        exact L4
    · rintro σ H2 ⟨f2, v2, v3, v4, v5, v6, v7, v8, rfl, L2⟩
      walk_at "go"
      rw [List.length_map, List.take_length] at L2
      exact k r H2 n1 f2 L2
end

/-! ### what is due from one drawing to the next -/
section
variable {K : PySem.W.Frag}
theorem LCX_V {α : Type} {q : Addr} {H : Hp} {cs : List α} {dS : α → PyData} {ws : List Nat} {σ : L2.St} {tg : TG} {tt : TT} {te : TE} {Q : VK} (f : α → Bool) (g : α → PyData)
    (h : Lq K H q (cs.map dS)) (lc : cs.length ≤ 100000)
    (hs : ∀ (c : α) (x : V) (H' : Hp) (KEEP : VK) (DROP : Hp → Prop), c ∈ cs → Fr [] H H' → Dt K H' x (dS c) → (f c = true → ∀ y H4, Fr [] H' H4 → Dt K H4 y (g c) → KEEP y H4) → (f c = false → ∀ H4, Fr [] H' H4 → DROP H4) →
      tg x (wipe σ ws) H' fun σ2 H2 => wipe σ2 ws = wipe σ ws ∧ tt σ2 H2 fun k H3 => if k = true then te σ2 H3 KEEP else DROP H3)
    (k : ∀ D H', H D = none → Fr [] H H' → Lq K H' D ((cs.reverse.filter f).map g) → Q (.ref D) H') :
    ∃ (a : Addr) (xs : List V), V.ref q = .ref a ∧ ((SqL K H a xs ∧ ∀ D, H D = none → LC (Itv K a xs.length) tg tt te ws σ D Q (upd H D (.lst []))) ∨ (SqT K H a xs ∧ ∀ D, H D = none → LC (RT.ItvT K a xs.length) tg tt te ws σ D Q (upd H D (.lst [])))) := by
  obtain ⟨us, hq, hd⟩ := h
  have lu : us.length = cs.length := by rw [hd.length, List.length_map]
  refine ⟨q, us, rfl, .inl ⟨SqL.of hq, fun D hD => ?_⟩⟩
  refine lc_it (walk_rev (K := K) (a := q) (xs := us)) (fun i H' => Fr [] H H' ∧ Lq K H' D (((cs.reverse.take i).filter f).map g)) ⟨Fr.new hD, [], upd_same, .nil⟩ (fun i H' _ h => SqL.of (h.1 _ _ hq (by simp))) ?_ ?_
  · rintro i x H0' H' hi ⟨f', ys, hys, dys⟩ ⟨rfl, hx⟩
    obtain ⟨d, h1, h2⟩ := (hd.mono f'.tu).get hx
    obtain ⟨c, h3, rfl⟩ := map_get h1
    have h4 : cs.reverse[i]? = some c := by
      rw [List.getElem?_reverse (by omega), ← lu]
      exact h3
    have ly : ys.length ≤ i := by
      rw [dys.length, List.length_map]
      refine Nat.le_trans (List.length_filter_le _ _) ?_
      rw [List.length_take]
      omega
    refine hs c x _ _ _ (List.mem_of_getElem? h3) f' h2 (fun hf y H4 f4 dy => ?_) (fun hf H4 f4 => ?_)
    · have e3 := f4 _ _ hys (by simp)
      refine ⟨ys, e3, Nat.lt_of_le_of_lt (show ys.length ≤ 100000 by omega) (by decide), Fr.new_mut hD ((f'.trans f4).mono (by simp) |>.trans (Fr.mut (by simp))), _, upd_same, ?_⟩
      rw [take_filt h4, hf, List.map_append]
      exact ((dys.mono f4.tu).append (.cons dy .nil)).mono (Tu.mut e3)
    · refine ⟨f'.trans f4, ?_⟩
      rw [take_filt h4, hf]
      show Lq K H4 D ((List.filter f (cs.reverse.take i) ++ []).map g)
      rw [List.append_nil]
      exact Lq.fr0 ⟨ys, hys, dys⟩ f4
  · rintro H' ⟨f', L⟩
    rw [lu, ← List.length_reverse, List.take_length] at L
    exact k D H' hD f' L
end
def nin (ys : List Wr) (x : Wr) : Bool := !(ys.map wrD).any fun z => PyData.eqv z (wrD x)
def rowD (word : Str) (x : Wr) : PyData := .tuple [.str word, .tuple (x.path.map spD), .str x.part, .str x.name, .int x.n]
def due (old new : List En) : List PyData := ((works old).reverse.filter (nin (works new))).map (rowD "undo") ++ ((works new).filter (nin (works old))).map (rowD "do")
theorem wr_good {x : Wr} (o : x.ok) : (wrD x).canLay0 = true ∧ (wrD x).depth ≤ 3 := by
  have h1 := lay_sp x.path
  have h2 := dp_sp x.path
  constructor
  · show (PyData.canLayAll0 (x.path.map spD) && (PyData.strOk x.part && (PyData.strOk x.name && (true && true)))) = true
    rw [h1, o.2.1, o.2.2]
    rfl
  · show max (PyData.depthAll (x.path.map spD) + 1) (max 0 (max 0 (max 0 0))) + 1 ≤ 3
    omega
theorem wr_sh {x : Wr} (o : x.ok) : SeqAt.shaped (wrD x) = true := lay_shaped ⟨(wr_good o).1, Nat.le_trans (wr_good o).2 (by decide)⟩
theorem wr_shaped {xs : List Wr} (h : ∀ x ∈ xs, x.ok) : SeqAt.shaped (.list (xs.map wrD)) = true := shaped_list (n := 3) (by decide) fun d hd => by
  obtain ⟨x, hx, rfl⟩ := List.mem_map.mp hd
  exact wr_good (h x hx)
theorem pl_due {n : Nat} {old new : List En} (lo : old.length ≤ 1100) (oo : ∀ e ∈ old, e.ok) (ln : new.length ≤ 1100) (on : ∀ e ∈ new, e.ok) : pl (n + 5) (.list (due old new)) = true := by
  have row : ∀ (word : Str) (x : Wr), x.ok → pl (n + 4) (rowD word x) = true := fun word x o => by
    refine pl_tuple (by exact Nat.le_of_ble_eq_true rfl) fun d hd => ?_
    simp only [List.mem_cons, List.not_mem_nil, or_false] at hd
    have o1 := o.1
    rcases hd with rfl | rfl | rfl | rfl | rfl
    · rfl
    · exact pl_pth (by omega)
    · rfl
    · rfl
    · rfl
  have l1 := works_len oo
  have l2 := works_len on
  have l3 := List.length_filter_le (nin (works new)) (works old).reverse
  have l4 := List.length_filter_le (nin (works old)) (works new)
  rw [List.length_reverse] at l3
  refine pl_list (by unfold due; rw [List.length_append, List.length_map, List.length_map]; omega) fun d hd => ?_
  rcases List.mem_append.mp hd with z | z
  · obtain ⟨x, hx, rfl⟩ := List.mem_map.mp z
    exact row _ x (works_ok oo x (by simpa using (List.mem_filter.mp hx).1))
  · obtain ⟨x, hx, rfl⟩ := List.mem_map.mp z
    exact row _ x (works_ok on x (List.mem_filter.mp hx).1)
theorem due_len {old new : List En} (lo : old.length ≤ 1100) (oo : ∀ e ∈ old, e.ok) (ln : new.length ≤ 1100) (on : ∀ e ∈ new, e.ok) : (due old new).length ≤ 6600 := by
  have l1 := works_len oo
  have l2 := works_len on
  have l3 := List.length_filter_le (nin (works new)) (works old).reverse
  have l4 := List.length_filter_le (nin (works old)) (works new)
  rw [List.length_reverse] at l3
  unfold due
  rw [List.length_append, List.length_map, List.length_map]
  omega
theorem nin_self {ens : List En} (o : ∀ e ∈ ens, e.ok) : due ens ens = [] := by
  have h : ∀ x ∈ works ens, nin (works ens) x = false := fun x hx => by
    unfold nin
    rw [Bool.not_eq_false', List.any_eq_true]
    exact ⟨wrD x, List.mem_map.mpr ⟨x, hx, rfl⟩, shaped_refl (wr_sh (works_ok o x hx))⟩
  unfold due
  rw [List.filter_eq_nil_iff.mpr (fun x hx => by rw [h x (by simpa using hx)]; decide), List.filter_eq_nil_iff.mpr (fun x hx => by rw [h x hx]; decide)]
  rfl
section
variable {P : Program} {w : World} {K : PySem.W.Frag} {mg : Str → Option Value} {base : Heap}
def sp_due (K : PySem.W.Frag) : Sp := fun vs H Q _ => ∃ (q1 q2 : Addr) (old new : List En), vs = [.ref q1, .ref q2] ∧ (Lq K H q1 (old.map enD) ∧ old.length ≤ 1100 ∧ ∀ e ∈ old, e.ok) ∧ (Lq K H q2 (new.map enD) ∧ new.length ≤ 1100 ∧ ∀ e ∈ new, e.ok) ∧ ∀ r H', H r = none → Fr [] H H' → Lq K H' r (due old new) → Q (.ref r) H'

theorem ok_works_due (T : Env K mg) : Fx P w K mg base 2 "works_due" p_works_due (sp_due K) := by
  refine T.l_works_due.ok sc_works_due (fun vs H Q E h => ?_) (fun f cdv A outer s H vs Q E hr h => ?_)
  · obtain ⟨q1, q2, _, _, rfl, _⟩ := h
    rfl
  · obtain ⟨q1, q2, old, new, rfl, ⟨L1, l1, o1⟩, ⟨L2, l2, o2⟩, k⟩ := h
    refine ⟨_, (pss_cons (ps_set (i := 2) sc_works_due.nd rfl (Or.inr rfl) (pe_fx (ok_works_of (P := P) (w := w) T) hr (by decide) (pa_cons (pv 0) pa_nil)))
      (pss_cons (ps_set (i := 3) sc_works_due.nd rfl (Or.inr rfl) (pe_fx (ok_works_of (P := P) (w := w) T) hr (by decide) (pa_cons (pv 1) pa_nil)))
      (pss_cons (ps_setLc (i := 4) (own := [("work", 5)]) (g := (gName 5)) rfl sc_works_due.nd rfl rfl (sw_true rfl rfl rfl (by decide +kernel)) (pi_revU (K := K) rfl (by rfl) T.m_reversed (pv 2)) (blkOk_by (N := N_works_due) (sc := defScope s_works_due) (by decide +kernel)) (fun _ _ _ _ _ => (pg_name (i := 5) sc_works_due.nd rfl (Or.inl rfl))) (fun _ _ _ _ _ => (pts_one (pt_cmpR (op_ninU (K := K) rfl (u65 hr)) (pv 5) (pv 3) (by rfl)))) (fun _ _ _ _ _ => (pe_op (op_addU (K := K) rfl) (pe_tup (pa_cons pe_str pa_nil)) (pv 5))))
      (pss_one (ps_ret (pe_op (op_addU (K := K) rfl) (pv 4) (pe_lc (own := [("work", 5)]) (g := (gName 5)) rfl sc_works_due.nd (pi_listU (K := K) rfl (pv 3)) (blkOk_by (N := N_works_due) (sc := defScope s_works_due) (by decide +kernel)) (fun _ _ _ _ _ => (pg_name (i := 5) sc_works_due.nd rfl (Or.inl rfl))) (fun _ _ _ _ _ => (pts_one (pt_cmpR (op_ninU (K := K) rfl (u65 hr)) (pv 5) (pv 2) (by rfl)))) (fun _ _ _ _ _ => (pe_op (op_addU (K := K) rfl) (pe_tup (pa_cons pe_str pa_nil)) (pv 5)))))))))), ?_⟩
    have w1 := works_len o1
    have w2 := works_len o2
    have k1 := works_ok o1
    have k2 := works_ok o2
    walk_at "go"
    refine ⟨q1, old, rfl, L1, l1, o1, fun qa Ha na fa La => ?_⟩
    walk_at "go"
    refine ⟨q2, new, rfl, L2.fr0 fa, l2, o2, fun qb Hb nb fb Lb => ?_⟩
    have La := La.fr0 fb
    unfold due at k
    generalize works old = A1 at w1 k1 La k
    generalize works new = A2 at w2 k2 Lb k
    walk_at "go"
    refine LCX_V (K := K) (cs := A1) (dS := wrD) (nin A2) (rowD "undo") La (by omega) ?_ fun q1 H1 n1 f1 Lu => ?_
    · intro c x H' KEEP DROP hc f' dx keep drop
      have okc := k1 c hc
      walk_at "go"
      refine (Lb.fr0 f').nin dx (wr_sh okc) (wr_shaped k2) ?_
      rw [show (!(A2.map wrD).any fun z => PyData.eqv z (wrD c)) = nin A2 c from rfl]
      walk_at "go"
      cases hn : nin A2 c with
      | true =>
        refine iteT ?_
        walk_at "go"
        refine mkT (K := K) (.cons (.str "undo") .nil) fun p3 H3 n3 f3 d3 => ?_
        have dx3 : Dt K H3 x (.tuple [.tuple (c.path.map spD), .str c.part, .str c.name, .int c.n]) := dx.mono f3.tu
        walk_at "go"
        refine Dt.cat d3 dx3 (by exact Nat.le_of_ble_eq_true rfl) fun p4 H4 f4 d4 => ?_
        exact keep hn _ _ (f3.trans f4) d4
      | false =>
        refine iteF ?_
        exact drop hn _ Fr.refl
    · walk_at "go"
      have f01 := (fa.trans fb).trans f1
      refine LCX_L (K := K) (cs := A2) (dS := wrD) (nin A1) (rowD "do") (Lb.fr0 f1) (by omega) ?_ fun q2 H2 n2 f2 Ld => ?_
      · intro c x H' KEEP DROP hc f' dx keep drop
        have okc := k2 c hc
        walk_at "go"
        refine ((La.fr0 f1).fr0 f').nin dx (wr_sh okc) (wr_shaped k1) ?_
        rw [show (!(A1.map wrD).any fun z => PyData.eqv z (wrD c)) = nin A1 c from rfl]
        walk_at "go"
        cases hn : nin A1 c with
        | true =>
          refine iteT ?_
          walk_at "go"
          refine mkT (K := K) (.cons (.str "do") .nil) fun p3 H3 n3 f3 d3 => ?_
          have dx3 : Dt K H3 x (.tuple [.tuple (c.path.map spD), .str c.part, .str c.name, .int c.n]) := dx.mono f3.tu
          walk_at "go"
          refine Dt.cat d3 dx3 (by exact Nat.le_of_ble_eq_true rfl) fun p4 H4 f4 d4 => ?_
          exact keep hn _ _ (f3.trans f4) d4
        | false =>
          refine iteF ?_
          exact drop hn _ Fr.refl
      · have l3 := List.length_filter_le (nin A2) A1.reverse
        have l4 := List.length_filter_le (nin A1) A2
        rw [List.length_reverse] at l3
        refine (Lu.fr0 f2).cat Ld (by rw [List.length_map, List.length_map]; omega) fun q3 H3 n3 f3 L3 => ?_
        exact k q3 H3 ((f01.trans f2).free n3) ((f01.trans f2).trans f3) L3
end

/-! ### what is due, played -/
def Wr.kv (x : Wr) : Wkey × Int := (⟨x.path, x.part, x.name⟩, x.n)
theorem wrD_kv (x : Wr) : wrD x = stD x.kv := rfl
def undoR (s : Wkey × Int) : LRow := ⟨false, s.1, s.2⟩
def doR (s : Wkey × Int) : LRow := ⟨true, s.1, s.2⟩
theorem rowD_undo (x : Wr) : rowD "undo" x = (undoR x.kv).d := rfl
theorem rowD_do (x : Wr) : rowD "do" x = (doR x.kv).d := rfl
def playF (now : List (Wkey × Int)) (rs : List LRow) : Option (List (Wkey × Int)) := rs.foldl (fun o r => o.bind fun now => stepL now r) (some now)
theorem playL_append {a b : List LRow} {now : List (Wkey × Int)} (h : playL a = some now) : playL (a ++ b) = playF now b := by
  unfold playL playF at *
  rw [List.foldl_append, h]
theorem playF_append {a b : List LRow} {now now' : List (Wkey × Int)} (h : playF now a = some now') : playF now (a ++ b) = playF now' b := by
  unfold playF at *
  rw [List.foldl_append, h]
theorem playF_cons {r : LRow} {b : List LRow} {now now' : List (Wkey × Int)} (h : stepL now r = some now') : playF now (r :: b) = playF now' b := by
  unfold playF
  rw [List.foldl_cons]
  show List.foldl _ (stepL now r) _ = _
  rw [h]
theorem find_mem {now : List (Wkey × Int)} {s : Wkey × Int} (o : Once now) (h : s ∈ now) : now.find? (fun z => decide (z.1 = s.1)) = some s := by
  cases e : now.find? (fun z => decide (z.1 = s.1)) with
  | none => exact absurd rfl (find_none e s h)
  | some z =>
    obtain ⟨hz, ez⟩ := find_some e
    rw [once_eq o h hz ez]
theorem undo_all : ∀ (U now : List (Wkey × Int)), Once now → (U.map (·.1)).Nodup → (∀ s ∈ U, s ∈ now) → ∃ now', playF now (U.map undoR) = some now' ∧ Once now' ∧ ∀ s, s ∈ now' ↔ s ∈ now ∧ s ∉ U
  | [], now, o, _, _ => ⟨now, rfl, o, by simp⟩
  | s :: U, now, o, n, h => by
    rw [List.map_cons] at n
    obtain ⟨n1, n2⟩ := List.nodup_cons.mp n
    have hs := h s (by simp)
    have e : stepL now (undoR s) = some (now.filter fun z => decide (z.1 ≠ s.1)) := by
      unfold stepL undoR
      simp only
      rw [find_mem o hs]
      exact if_pos rfl
    have o1 := (step_once o e).1
    have m1 : ∀ z, z ∈ now.filter (fun z => decide (z.1 ≠ s.1)) ↔ z ∈ now ∧ z ≠ s := fun z => by
      rw [List.mem_filter, decide_eq_true_eq]
      constructor
      · rintro ⟨a, b⟩
        exact ⟨a, fun e => b (by rw [e])⟩
      · rintro ⟨a, b⟩
        exact ⟨a, fun e => b (once_eq o hs a e)⟩
    obtain ⟨now', e', o', m'⟩ := undo_all U _ o1 n2 (fun z hz => (m1 z).mpr ⟨h z (by simp [hz]), by
      rintro rfl
      exact n1 (List.mem_map.mpr ⟨z, hz, rfl⟩)⟩)
    refine ⟨now', ?_, o', fun z => ?_⟩
    · rw [List.map_cons, playF_cons e]
      exact e'
    · rw [m' z, m1 z, List.mem_cons, not_or]
      constructor
      · rintro ⟨⟨a, b⟩, c⟩
        exact ⟨a, b, c⟩
      · rintro ⟨a, b, c⟩
        exact ⟨⟨a, b⟩, c⟩
theorem do_all : ∀ (D now : List (Wkey × Int)), Once now → (D.map (·.1)).Nodup → (∀ s ∈ D, ∀ z ∈ now, z.1 ≠ s.1) → ∃ now', playF now (D.map doR) = some now' ∧ Once now' ∧ ∀ s, s ∈ now' ↔ s ∈ now ∨ s ∈ D
  | [], now, o, _, _ => ⟨now, rfl, o, by simp⟩
  | s :: D, now, o, n, h => by
    rw [List.map_cons] at n
    obtain ⟨n1, n2⟩ := List.nodup_cons.mp n
    have hs : now.find? (fun z => decide (z.1 = s.1)) = none := by
      cases e : now.find? (fun z => decide (z.1 = s.1)) with
      | none => rfl
      | some z => exact absurd (find_some e).2 (h s (by simp) z (find_some e).1)
    have e : stepL now (doR s) = some (now ++ [s]) := by
      unfold stepL doR
      simp only
      rw [hs]
    have o1 := (step_once o e).1
    obtain ⟨now', e', o', m'⟩ := do_all D _ o1 n2 (fun x hx z hz => by
      rcases List.mem_append.mp hz with y | y
      · exact h x (by simp [hx]) z y
      · rw [List.mem_singleton.mp y]
        exact fun e => n1 (List.mem_map.mpr ⟨x, hx, e.symm⟩))
    refine ⟨now', ?_, o', fun z => ?_⟩
    · rw [List.map_cons, playF_cons e]
      exact e'
    · rw [m' z, List.mem_append, List.mem_singleton, List.mem_cons, or_assoc]
def dueRows (A B : List (Wkey × Int)) : List LRow := (A.reverse.filter fun s => decide (s ∉ B)).map undoR ++ (B.filter fun s => decide (s ∉ A)).map doR
theorem due_play {log : List LRow} {now A B : List (Wkey × Int)} (h : playL log = some now) (m : ∀ s, s ∈ now ↔ s ∈ A) (nA : (A.map (·.1)).Nodup) (nB : (B.map (·.1)).Nodup) :
    ∃ now', playL (log ++ dueRows A B) = some now' ∧ Once now' ∧ ∀ s, s ∈ now' ↔ s ∈ B := by
  have o := (play_once h).1
  obtain ⟨n1, e1, o1, m1⟩ := undo_all (A.reverse.filter fun s => decide (s ∉ B)) now o (by
    refine List.Sublist.nodup (List.Sublist.map _ List.filter_sublist) ?_
    rw [List.map_reverse]
    exact List.pairwise_reverse.mpr (nA.imp Ne.symm)) (fun s hs => (m s).mpr (by simpa using (List.mem_filter.mp hs).1))
  have k1 : ∀ s, s ∈ n1 ↔ s ∈ A ∧ s ∈ B := fun s => by
    rw [m1 s, m s, List.mem_filter, decide_eq_true_eq, List.mem_reverse]
    constructor
    · rintro ⟨a, b⟩
      exact ⟨a, Classical.byContradiction fun c => b ⟨a, c⟩⟩
    · rintro ⟨a, b⟩
      exact ⟨a, fun c => c.2 b⟩
  have onB : ∀ x ∈ B, ∀ y ∈ B, x.1 = y.1 → x = y := fun x hx y hy e => once_eq (now := B) nB hy hx e
  obtain ⟨n2, e2, o2, m2⟩ := do_all (B.filter fun s => decide (s ∉ A)) n1 o1 (List.Sublist.nodup (List.Sublist.map _ List.filter_sublist) nB) (fun s hs z hz e => by
    obtain ⟨hs1, hs2⟩ := List.mem_filter.mp hs
    have hz' := (k1 z).mp hz
    have := onB z hz'.2 s hs1 e
    rw [decide_eq_true_eq] at hs2
    exact hs2 (this ▸ hz'.1))
  refine ⟨n2, ?_, o2, fun s => ?_⟩
  · rw [playL_append h]
    unfold dueRows
    rw [playF_append e1]
    exact e2
  · rw [m2 s, k1 s, List.mem_filter, decide_eq_true_eq]
    constructor
    · rintro (a | a)
      · exact a.2
      · exact a.1
    · intro a
      by_cases c : s ∈ A
      · exact .inl ⟨c, a⟩
      · exact .inr ⟨a, c⟩
theorem once_len {now B : List (Wkey × Int)} (o : Once now) (nB : (B.map (·.1)).Nodup) (m : ∀ s, s ∈ now ↔ s ∈ B) : now.length = B.length := by
  have h1 : now.Nodup := (List.pairwise_map.mp o).imp fun h e => h (by rw [e])
  have h2 : B.Nodup := (List.pairwise_map.mp nB).imp fun h e => h (by rw [e])
  exact ((List.perm_ext_iff_of_nodup h1 h2).mpr m).length_eq
/-! works of a drawing: no two of one key -/
def kvs (ens : List En) : List (Wkey × Int) := (works ens).map Wr.kv
theorem kvs_nodup : ∀ {ens : List En}, (ens.map En.path).Nodup → (∀ e ∈ ens, e.fine) → ((kvs ens).map (·.1)).Nodup
  | [], _, _ => List.Pairwise.nil
  | e :: r, n, f => by
    rw [List.map_cons] at n
    obtain ⟨n1, n2⟩ := List.nodup_cons.mp n
    have ih := kvs_nodup n2 fun x hx => f x (by simp [hx])
    have fe := (f e (by simp)).2.2.2
    unfold kvs works at *
    rw [List.flatMap_cons, List.map_append, List.map_append, List.nodup_append]
    refine ⟨?_, ih, fun a ha b hb eq => ?_⟩
    · unfold En.works
      rw [List.map_map, List.map_map, List.nodup_iff_pairwise_ne, List.pairwise_map]
      exact (List.pairwise_map.mp fe).imp fun {x y} h e => h (congrArg (fun k : Wkey => k.name) e)
    · simp only [List.map_map, List.mem_map, List.mem_flatMap, Function.comp] at ha hb
      obtain ⟨x, hx, rfl⟩ := ha
      obtain ⟨y, ⟨e', he', hy⟩, rfl⟩ := hb
      obtain ⟨p, _, rfl⟩ := List.mem_map.mp hx
      obtain ⟨q, _, rfl⟩ := List.mem_map.mp hy
      have : e.path = e'.path := congrArg (fun k : Wkey => k.path) eq
      exact n1 (List.mem_map.mpr ⟨e', he', this.symm⟩)
theorem Wr.kok {x : Wr} (o : x.ok) : x.kv.1.ok := ⟨o.2.1, o.2.2, by have := o.1; show x.path.length ≤ 1000; omega⟩
theorem nin_kv {ys : List Wr} {x : Wr} (o : ∀ y ∈ ys, y.ok) : nin ys x = decide (x.kv ∉ ys.map Wr.kv) := by
  unfold nin
  by_cases h : x.kv ∈ ys.map Wr.kv
  · obtain ⟨y, hy, e⟩ := List.mem_map.mp h
    rw [decide_eq_false (by simpa using h), Bool.not_eq_false', List.any_eq_true]
    refine ⟨wrD y, List.mem_map.mpr ⟨y, hy, rfl⟩, ?_⟩
    rw [wrD_kv, wrD_kv, eqv_st (Wr.kok (o y hy)), decide_eq_true e]
  · rw [decide_eq_true h, Bool.not_eq_true', List.any_eq_false]
    intro d hd
    obtain ⟨y, hy, rfl⟩ := List.mem_map.mp hd
    rw [wrD_kv, wrD_kv, eqv_st (Wr.kok (o y hy))]
    rw [decide_eq_true_eq]
    exact fun e => h (List.mem_map.mpr ⟨y, hy, e⟩)
theorem due_rows {old new : List En} (oo : ∀ e ∈ old, e.ok) (on : ∀ e ∈ new, e.ok) : due old new = (dueRows (kvs old) (kvs new)).map LRow.d := by
  unfold due dueRows kvs
  rw [List.map_append, ← List.map_reverse, List.filter_map, List.filter_map, List.map_map, List.map_map, List.map_map, List.map_map]
  congr 1
  · rw [List.filter_congr (q := (fun s => decide (s ∉ (works new).map Wr.kv)) ∘ Wr.kv) fun x _ => nin_kv (works_ok on)]
    rfl
  · rw [List.filter_congr (q := (fun s => decide (s ∉ (works old).map Wr.kv)) ∘ Wr.kv) fun x _ => nin_kv (works_ok oo)]
    rfl
theorem pool_name : ∀ x ∈ pool, isNameD (.str x) = true := by decide +kernel
theorem spot_fit {s : Option Int × Int} (h : spOk s) : isSpotD (spD s) = true := by
  obtain ⟨o, n⟩ := s
  obtain ⟨h1, h2, _⟩ := h
  cases o with
  | none =>
    show ((true || isNumD .none) && isCountD (.int n)) = true
    rw [Bool.true_or, Bool.true_and]
    exact decide_eq_true h2
  | some k =>
    have := h1 k rfl
    show ((false || isNumD (.int k)) && isCountD (.int n)) = true
    rw [Bool.false_or, show isNumD (.int k) = true by simp [isNumD, this.1, this.2], Bool.true_and]
    exact decide_eq_true h2
theorem kvs_gd {ens : List En} (o : ∀ e ∈ ens, e.ok) (f : ∀ e ∈ ens, e.fine) : ∀ s ∈ kvs ens, Gd s.1 s.2 := fun s hs => by
  obtain ⟨x, hx, rfl⟩ := List.mem_map.mp hs
  have ox := works_ok o x hx
  obtain ⟨e, he, hx⟩ := List.mem_flatMap.mp hx
  obtain ⟨y, hy, rfl⟩ := List.mem_map.mp hx
  obtain ⟨f1, f2, f3, _⟩ := f e he
  refine ⟨⟨Wr.kok ox, by have := ox.1; show e.path.length ≤ 100; have : e.path.length ≤ 10 := this; omega, fun z hz => (f1 z hz).2.2⟩, ?_, (f3 y hy).2⟩
  show (isPathD (.tuple (e.path.map spD)) && isNameD (.str e.name) && isNameD (.str y.1)) = true
  rw [pool_name _ f2, pool_name _ (f3 y hy).1, Bool.and_true, Bool.and_true]
  show (e.path.map spD).all isSpotD = true
  rw [List.all_eq_true]
  intro d hd
  obtain ⟨z, hz, rfl⟩ := List.mem_map.mp hd
  exact spot_fit (f1 z hz)
theorem dueRows_all {P : Wkey → Int → Prop} {A B : List (Wkey × Int)} (hA : ∀ s ∈ A, P s.1 s.2) (hB : ∀ s ∈ B, P s.1 s.2) : ∀ r ∈ dueRows A B, P r.k r.n := fun r hr => by
  rcases List.mem_append.mp hr with z | z
  · obtain ⟨s, hs, rfl⟩ := List.mem_map.mp z
    exact hA s (by simpa using (List.mem_filter.mp hs).1)
  · obtain ⟨s, hs, rfl⟩ := List.mem_map.mp z
    exact hB s (List.mem_filter.mp hs).1
theorem dueRows_len (A B : List (Wkey × Int)) : (dueRows A B).length ≤ A.length + B.length := by
  unfold dueRows
  rw [List.length_append, List.length_map, List.length_map]
  have h1 := List.length_filter_le (fun s => decide (s ∉ B)) A.reverse
  have h2 := List.length_filter_le (fun s => decide (s ∉ A)) B
  rw [List.length_reverse] at h1
  omega
theorem kvs_len {ens : List En} (h : ∀ e ∈ ens, e.ok) : (kvs ens).length ≤ 3 * ens.length := by
  unfold kvs
  rw [List.length_map]
  exact works_len h
/-! of each key: done, undone with that number, done .. -/
def rowsOf (k : Wkey) (log : List LRow) : List LRow := log.filter fun r => decide (r.k = k)
def Alt (rs : List LRow) : Prop := ∀ (j : Nat) (r : LRow), rs[j]? = some r → r.on = decide (j % 2 = 0) ∧ (j % 2 = 1 → ∃ r', rs[j - 1]? = some r' ∧ r'.n = r.n)
def AltAt (k : Wkey) (rs : List LRow) (now : List (Wkey × Int)) : Prop := (now.find? (fun s => decide (s.1 = k)) = none → rs.length % 2 = 0) ∧ ∀ s, now.find? (fun s => decide (s.1 = k)) = some s → rs.length % 2 = 1 ∧ ∃ r, rs[rs.length - 1]? = some r ∧ r.n = s.2
theorem Alt.snoc {rs : List LRow} {r : LRow} (h : Alt rs) (h1 : r.on = decide (rs.length % 2 = 0)) (h2 : rs.length % 2 = 1 → ∃ r', rs[rs.length - 1]? = some r' ∧ r'.n = r.n) : Alt (rs ++ [r]) := fun j x hx => by
  rcases Nat.lt_trichotomy j rs.length with c | c | c
  · rw [List.getElem?_append_left c] at hx
    obtain ⟨a, b⟩ := h j x hx
    refine ⟨a, fun e => ?_⟩
    obtain ⟨r', h3, h4⟩ := b e
    exact ⟨r', by rw [List.getElem?_append_left (by omega)]; exact h3, h4⟩
  · subst c
    rw [List.getElem?_append_right (Nat.le_refl _), Nat.sub_self] at hx
    cases hx
    refine ⟨h1, fun e => ?_⟩
    obtain ⟨r', h3, h4⟩ := h2 e
    exact ⟨r', by rw [List.getElem?_append_left (by omega)]; exact h3, h4⟩
  · rw [List.getElem?_eq_none (by rw [List.length_append, List.length_singleton]; omega)] at hx
    cases hx
theorem alt_of (k : Wkey) : ∀ {log : List LRow} {now : List (Wkey × Int)}, playL log = some now → Alt (rowsOf k log) ∧ AltAt k (rowsOf k log) now := by
  intro log
  induction h : log.length generalizing log with
  | zero =>
    intro now e
    rw [List.length_eq_zero_iff.mp h] at e ⊢
    cases e
    exact ⟨fun j r hr => by simp [rowsOf] at hr, fun _ => rfl, fun s hs => by cases hs⟩
  | succ n ih =>
    intro now e
    obtain ⟨t, r, rfl⟩ : ∃ t r, log = t ++ [r] := ⟨log.dropLast, log.getLast (by rintro rfl; simp at h), (List.dropLast_concat_getLast _).symm⟩
    rw [playL_snoc] at e
    cases e1 : playL t with
    | none => rw [e1] at e; cases e
    | some now1 =>
      rw [e1] at e
      have e : stepL now1 r = some now := e
      obtain ⟨a, f1, f2⟩ := ih (by simpa using h) e1
      have o1 := (play_once e1).1
      unfold rowsOf at *
      rw [List.filter_append]
      by_cases hk : r.k = k
      · rw [List.filter_cons_of_pos (by simpa using hk), List.filter_nil]
        generalize t.filter (fun r => decide (r.k = k)) = rs at a f1 f2
        unfold stepL at e
        rw [hk] at e
        cases hf : now1.find? (fun s => decide (s.1 = k)) with
        | none =>
          have ev := f1 hf
          rw [hf] at e
          cases hr : r.on with
          | false => rw [hr] at e; cases e
          | true =>
            rw [hr] at e
            cases e
            refine ⟨a.snoc (by rw [hr, decide_eq_true ev]) (fun z => by omega), fun z => ?_, fun s hs => ?_⟩
            · rw [List.find?_append, hf] at z
              simp at z
            · rw [List.find?_append, hf] at hs
              simp at hs
              refine ⟨by rw [List.length_append, List.length_singleton]; omega, r, by simp, by rw [← hs]⟩
        | some s =>
          obtain ⟨od, r', hr', hn⟩ := f2 s hf
          rw [hf] at e
          cases hr : r.on with
          | true => rw [hr] at e; cases e
          | false =>
            rw [hr] at e
            simp only at e
            split at e
            · rename_i hs2
              cases e
              refine ⟨a.snoc (by rw [hr, decide_eq_false (by omega)]) (fun _ => ⟨r', hr', by rw [hn, hs2]⟩), fun _ => by rw [List.length_append, List.length_singleton]; omega, fun z hz => ?_⟩
              obtain ⟨hz1, hz2⟩ := find_some hz
              have := (List.mem_filter.mp hz1).2
              simp [hz2] at this
            · cases e
      · rw [List.filter_cons_of_neg (by simpa using hk), List.filter_nil, List.append_nil]
        have same : now.find? (fun s => decide (s.1 = k)) = now1.find? (fun s => decide (s.1 = k)) := by
          unfold stepL at e
          cases hf : now1.find? (fun s => decide (s.1 = r.k)) with
          | none =>
            rw [hf] at e
            cases hr : r.on with
            | false => rw [hr] at e; cases e
            | true =>
              rw [hr] at e
              cases e
              rw [List.find?_append]
              have : List.find? (fun s : Wkey × Int => decide (s.1 = k)) [(r.k, r.n)] = none := by simp [hk]
              rw [this, Option.or_none]
          | some s =>
            rw [hf] at e
            cases hr : r.on with
            | true => rw [hr] at e; cases e
            | false =>
              rw [hr] at e
              simp only at e
              split at e
              · cases e
                rw [List.find?_filter]
                congr 1
                funext z
                simp only [decide_eq_true_eq, decide_eq_decide]
                exact ⟨fun h => h.2, fun h => ⟨fun e => hk (e.symm.trans h), h⟩⟩
              · cases e
        unfold AltAt
        rw [same]
        exact ⟨a, f1, f2⟩


/-! ### of each key: done, undone with that number, done .. -/
def arD (r : LRow) : PyData := .tuple [.str r.word, .int r.n]
theorem inj_of {α β : Type} {f : α → β} : ∀ {l : List α}, (l.map f).Nodup → ∀ {x y : α}, x ∈ l → y ∈ l → f x = f y → x = y
  | [], _, _, _, h, _, _ => by simp at h
  | a :: l, n, x, y, hx, hy, e => by
    rw [List.map_cons] at n
    obtain ⟨n1, n2⟩ := List.nodup_cons.mp n
    rcases List.mem_cons.mp hx with h1 | h1
    · rcases List.mem_cons.mp hy with h2 | h2
      · rw [h1, h2]
      · exact absurd (List.mem_map.mpr ⟨y, h2, by rw [← e, h1]⟩) n1
    · rcases List.mem_cons.mp hy with h2 | h2
      · exact absurd (List.mem_map.mpr ⟨x, h1, by rw [e, h2]⟩) n1
      · exact inj_of n2 h1 h2 e
section
variable {P : Program} {w : World} {K : PySem.W.Frag}
structure Told (P : Program) (w : World) (K : PySem.W.Frag) (H0 H : Hp) (d : Addr) (rows : List LRow) (kvs : List (Wkey × V)) : Prop where
  dn : DN P w K Wkey.d H d kvs
  keys : (kvs.map (·.1)).Nodup
  vals : (kvs.map (·.2)).Nodup
  each : ∀ kv ∈ kvs, ∃ q : Addr, kv.2 = .ref q ∧ H0 q = none ∧ Lq K H q ((rowsOf kv.1 rows).map arD)
  all : ∀ r ∈ rows, r.k ∈ kvs.map (·.1)
theorem Told.ne {H0 H : Hp} {d q : Addr} {rows : List LRow} {kvs : List (Wkey × V)} {ds : List PyData} (T : Told P w K H0 H d rows kvs) (L : Lq K H q ds) : q ≠ d := by
  rintro rfl
  obtain ⟨_, e, _⟩ := L
  rcases T.dn with ⟨_, z⟩ | ⟨_, _, N⟩
  · rw [e] at z; cases z
  · have z := N.there
    rw [e] at z
    cases z
theorem Told.fr0 {H0 H H' : Hp} {d : Addr} {rows : List LRow} {kvs : List (Wkey × V)} (T : Told P w K H0 H d rows kvs) (f : Fr [] H H') : Told P w K H0 H' d rows kvs :=
  ⟨T.dn.fr0 f, T.keys, T.vals, fun kv hk => by
    obtain ⟨q, e, n, L⟩ := T.each kv hk
    exact ⟨q, e, n, L.fr0 f⟩, T.all⟩
theorem rowsOf_none {k : Wkey} {rows : List LRow} (h : ∀ r ∈ rows, r.k ≠ k) : rowsOf k rows = [] := by
  unfold rowsOf
  rw [List.filter_eq_nil_iff]
  intro r hr
  simpa using h r hr
theorem told_setd {Q : VK} {H0 H : Hp} {d a q0 : Addr} {rows : List LRow} {kvs : List (Wkey × V)} {k : Wkey} (T : Told P w K H0 H d rows kvs) (hk : Dt K H (.ref a) k.d) (L : Lq K H q0 []) (nq : H0 q0 = none) (new : ∀ kv ∈ kvs, kv.2 ≠ .ref q0) (l : kvs.length ≤ 1000)
    (fin : ∀ q kvs' H', Fr [d] H H' → Tu H H' → Told P w K H0 H' d rows kvs' → kvs'.length ≤ kvs.length + 1 → (k, V.ref q) ∈ kvs' → Q (.ref q) H') : rSetdN P w K Wkey.d (.ref d) [.ref a, .ref q0] H Q := by
  refine w_setdN T.dn hk (by omega) (fun v hv => ?_) (fun hn H' f t dn => ?_)
  · obtain ⟨kv, hkv, e1, e2⟩ := at_mem hv
    obtain ⟨q, e3, _⟩ := T.each kv hkv
    rw [← e2, e3]
    refine fin q kvs H Fr.refl Tu.refl T (by omega) ?_
    rw [← e1, ← e3]
    exact hkv
  · have ep : putN kvs k (.ref q0) = kvs ++ [(k, V.ref q0)] := by
      unfold putN
      rw [hn]
      rfl
    have nk : k ∉ kvs.map (·.1) := fun h => by
      obtain ⟨v, hv⟩ := at_some h
      rw [hn] at hv
      cases hv
    rw [ep] at dn
    refine fin q0 _ H' f t ⟨dn, ?_, ?_, fun kv hkv => ?_, fun r hr => ?_⟩ (by rw [List.length_append]; exact Nat.le_refl _) (by simp)
    · rw [List.map_append, List.nodup_append]
      exact ⟨T.keys, by simp, fun x hx y hy e => by
        rw [List.map_singleton] at hy
        rw [List.mem_singleton.mp hy] at e
        have e : x = k := e
        subst e
        exact nk hx⟩
    · rw [List.map_append, List.nodup_append]
      refine ⟨T.vals, by simp, fun x hx y hy e => ?_⟩
      rw [List.map_singleton] at hy
      rw [List.mem_singleton.mp hy] at e
      obtain ⟨kv, hkv, rfl⟩ := List.mem_map.mp hx
      exact new kv hkv e
    · rcases List.mem_append.mp hkv with z | z
      · obtain ⟨q, e, n, Lq'⟩ := T.each kv z
        exact ⟨q, e, n, Lq'.fr f (by simpa using T.ne Lq') t⟩
      · rw [List.mem_singleton.mp z]
        refine ⟨q0, rfl, nq, ?_⟩
        rw [rowsOf_none fun r hr e => nk (by have e : r.k = k := e; rw [← e]; exact T.all r hr)]
        exact L.fr f (by simpa using T.ne L) t
    · rw [List.map_append]
      exact List.mem_append_left _ (T.all r hr)
theorem told_app {H0 H H' : Hp} {d q : Addr} {rows : List LRow} {kvs : List (Wkey × V)} {r : LRow} (T : Told P w K H0 H d rows kvs) (hq : (r.k, V.ref q) ∈ kvs) (f : Fr [q] H H') (t : Tu H H') (L : Lq K H' q ((rowsOf r.k rows).map arD ++ [arD r])) : Told P w K H0 H' d (rows ++ [r]) kvs := by
  obtain ⟨q', e', n', L'⟩ := T.each _ hq
  cases e'
  refine ⟨T.dn.fr f (by simpa using (T.ne L').symm) t, T.keys, T.vals, fun kv hkv => ?_, fun x hx => ?_⟩
  · obtain ⟨p, e, n, Lp⟩ := T.each kv hkv
    refine ⟨p, e, n, ?_⟩
    unfold rowsOf at *
    rw [List.filter_append]
    by_cases c : p = q
    · subst c
      have := inj_of T.vals hkv hq e
      subst this
      rw [List.filter_cons_of_pos (by simp), List.filter_nil, List.map_append]
      exact L
    · have hne : r.k ≠ kv.1 := fun z => by
        have := inj_of T.keys hkv hq z.symm
        subst this
        cases e
        exact c rfl
      rw [List.filter_cons_of_neg (by simpa using hne), List.filter_nil, List.append_nil]
      exact Lp.fr f (by simpa using c) t
  · rcases List.mem_append.mp hx with z | z
    · exact T.all x z
    · rw [List.mem_singleton.mp z]
      exact List.mem_map.mpr ⟨_, hq, rfl⟩
variable {mg : Str → Option Value} {base : Heap}
def sp_law_alternate (K : PySem.W.Frag) : Sp := fun vs H Q _ => ∃ (l : Addr) (rows : List LRow) (now : List (Wkey × Int)), vs = [.ref l] ∧ Lq K H l (rows.map LRow.d) ∧ rows.length ≤ 1000 ∧ playL rows = some now ∧ ∀ H', Fr [] H H' → Q (.bl true) H'
theorem ok_law_alternate (T : Env K mg) : Fx P w K mg base 1 "_law_alternate" p_law_alternate (sp_law_alternate K) := by
  refine T.l_law_alternate.ok sc_law_alternate (fun vs H Q E h => ?_) (fun f cdv A outer s H vs Q E hr h => ?_)
  · obtain ⟨l, _, _, rfl, _⟩ := h
    rfl
  · obtain ⟨l, rows, now, rfl, L, lr, pn, k⟩ := h
    refine ⟨_, (pss_cons (ps_set (i := 1) sc_law_alternate.nd rfl (Or.inl rfl) pe_dnewK)
      (pss_cons (ps_for PassesOwn.never rfl (pi_listU (K := K) rfl (pv 0)) (pg_tupU (K := K) (n := 5) rfl rfl (pgs_cons (pg_name (i := 2) sc_law_alternate.nd rfl (Or.inl rfl)) (pgs_cons (pg_name (i := 3) sc_law_alternate.nd rfl (Or.inl rfl)) (pgs_cons (pg_name (i := 4) sc_law_alternate.nd rfl (Or.inl rfl)) (pgs_cons (pg_name (i := 5) sc_law_alternate.nd rfl (Or.inl rfl)) (pgs_cons (pg_name (i := 6) sc_law_alternate.nd rfl (Or.inl rfl)) pgs_nil)))))) (pss_cons (ps_set (i := 7) sc_law_alternate.nd rfl (Or.inl rfl) (pe_mG (ty_NU (P := P) (w := w) (K := K) kdW rfl rfl rfl) PySem.F.plainAttrs_dict PySem.F.slot_dict_setdefault PySem.F.type_dict_setdefault (mt_setdNU (P := P) (w := w) (K := K) kdW rfl rfl rfl (u65 hr)) (pv 1) (pa_cons (pe_tup (pa_cons (pv 3) (pa_cons (pv 4) (pa_cons (pv 5) pa_nil)))) (pa_cons (pe_lst pa_nil) pa_nil))))
      (pss_one (ps_expr (pe_bm PySem.F.plainAttrs_list PySem.F.slot_list_append PySem.F.type_list_append mt_append (pv 7) (pa_cons (pe_tup (pa_cons (pv 2) (pa_cons (pv 6) pa_nil))) pa_nil))))))
      (pss_cons (ps_for PassesOwn.never rfl (pi_valsN (P := P) (w := w) (K := K) kdW rfl rfl rfl (pv 1)) (pg_name (i := 7) sc_law_alternate.nd rfl (Or.inl rfl)) (pss_one (ps_for PassesOwn.never rfl (pi_range1 rfl T.m_range (pa_cons (pe_callB (call_lenU (K := K) rfl) (by rfl) T.m_len (by decide +kernel) (pa_cons (pv 7) pa_nil)) pa_nil)) (pg_name (i := 8) sc_law_alternate.nd rfl (Or.inl rfl)) (pss_one (ps_if (PW.pt (pw_or (pt_cmpR (op_neU (K := K) rfl (u64 hr)) (pe_ix (ix_U (K := K) rfl) (pe_ix (ix_U (K := K) rfl) (pv 7) (pv 8) (fun _ _ => rfl)) pe_int (fun _ _ => rfl)) (pe_ix (ix_U (K := K) rfl) (pe_lst (pa_cons pe_str (pa_cons pe_str pa_nil))) (pe_op op_mod (pv 8) pe_int) (fun _ _ => rfl)) (nomark _)) (pw_or1 (PW.pt (pw_and (pt_cmpR (op_eqU (K := K) rfl (u64 hr)) (pe_op op_mod (pv 8) pe_int) pe_int (nomark _)) (pw_and1 (pt_cmpR (op_neU (K := K) rfl (u64 hr)) (pe_ix (ix_U (K := K) rfl) (pe_ix (ix_U (K := K) rfl) (pv 7) (pv 8) (fun _ _ => rfl)) pe_int (fun _ _ => rfl)) (pe_ix (ix_U (K := K) rfl) (pe_ix (ix_U (K := K) rfl) (pv 7) (pe_op op_sub (pv 8) pe_int) (fun _ _ => rfl)) pe_int (fun _ _ => rfl)) (nomark _)))))))) (pss_one (ps_ret pe_bl)) pss_nil)))))
      (pss_one (ps_ret pe_bl))))), ?_⟩
    walk_at "go"
    refine mkD fun d H1 n1 f1 e1 => ?_
    walk_at "go"
    refine (L.fr0 f1).walk (fun i σ H' => Fr [] H H' ∧ Lq K H' l (rows.map LRow.d) ∧ ∃ (kvs : List (Wkey × V)) (v2 v3 v4 v5 v6 v7 v8 : Option V), σ = [some (.ref l), some (.ref d), v2, v3, v4, v5, v6, v7, v8] ∧ Told P w K H H' d (rows.take i) kvs ∧ kvs.length ≤ i) ?_ ?_ ?_ ?_
    · exact ⟨f1, L.fr0 f1, [], _, _, _, _, _, _, _, rfl, ⟨.inl ⟨rfl, e1⟩, List.Pairwise.nil, List.Pairwise.nil, by simp, by simp⟩, Nat.le_refl _⟩
    · rintro i σ H' ⟨_, z, _⟩
      exact z
    · rintro i v dd σ H2 hi dv ⟨f2, L2, kvs, v2, v3, v4, v5, v6, v7, v8, rfl, T2, lk⟩
      obtain ⟨r, hr', rfl⟩ := map_get hi
      obtain ⟨a, pv', rfl, sa, dp⟩ := row_parts dv
      have li : i < rows.length := (List.getElem?_eq_some_iff.mp hr').1
      refine w_gtup sa rfl ?_
      walk_at "go"
      refine ⟨T2.dn.dict, ?_⟩
      walk_at "go"
      refine mkT (K := K) (.cons dp (.cons (.str _) (.cons (.str _) .nil))) fun p3 H3 n3 f3 d3 => ?_
      walk_at "go"
      refine mkL (K := K) .nil fun q4 H4 n4 f4 L4 => ?_
      walk_at "go"
      have f24 := f3.trans f4
      have T4 := T2.fr0 f24
      have d4 : Dt K H4 (.ref p3) (Wkey.d r.k) := d3.mono f4.tu
      have L24 := L2.fr0 f24
      have nl4 : H q4 = none := (f2.trans f3).free n4
      refine told_setd T4 d4 L4 nl4 (fun kv hkv e => ?_) (by omega) fun q kvs' H5 f5 t5 T5 lk5 hq => ?_
      · obtain ⟨q', e', _, L'⟩ := (T2.fr0 f3).each kv hkv
        rw [e'] at e
        cases e
        exact Lq.some L' n4
      have f05 : Fr [] H H5 := Fr.drop1 n1 (f2.trans f24) f5
      have L5 := L24.fr f5 (by simpa using T4.ne L24) t5
      obtain ⟨q', e', nq', Lq5⟩ := T5.each _ hq
      cases e'
      have Lq5 : Lq K H5 q ((rowsOf r.k (rows.take i)).map arD) := Lq5
      walk_at "go"
      refine ⟨Lq5.ty, ?_⟩
      walk_at "go"
      refine mkT (K := K) (.cons (.str r.word) (.cons (.int r.n) .nil)) fun p6 H6 n6 f6 d6 => ?_
      have d6 : Dt K H6 (.ref p6) (arD r) := d6
      walk_at "go"
      have lro : (rowsOf r.k (rows.take i)).length ≤ 1000 := by
        refine Nat.le_trans (List.length_filter_le _ _) ?_
        rw [List.length_take]
        omega
      have nlq : l ≠ q := fun e => by
        rw [← e] at nq'
        exact Lq.some L nq'
      refine (Lq5.fr0 f6).app d6 (by rw [List.length_map]; omega) fun H7 f7 t7 L7 => ?_
      refine ⟨Fr.drop1 nq' (f05.trans f6) f7, (L5.fr0 f6).fr f7 (by simpa using nlq) t7, kvs', _, _, _, _, _, _, _, rfl, ?_, by omega⟩
      rw [List.take_add_one, hr']
      exact told_app (T5.fr0 f6) hq f7 t7 L7
    · rintro σ H2 ⟨f2, L2, kvs, v2, v3, v4, v5, v6, v7, v8, rfl, T2, lk⟩
      rw [List.length_map, List.take_length] at T2
      walk_at "go"
      refine VALS.of T2.dn fun H3 o f3 t3 hd => ?_
      have ev : ∀ kv ∈ kvs, ∃ q : Addr, kv.2 = .ref q ∧ Lq K H3 q ((rowsOf kv.1 rows).map arD) := fun kv hkv => by
        obtain ⟨q, e, _, L'⟩ := T2.each kv hkv
        exact ⟨q, e, L'.fr f3 (by simpa using T2.ne L') t3⟩
      have f03 : Fr [] H H3 := Fr.drop1 n1 f2 f3
      refine for_it (walk_valsN (d := d) (o := o) (vs := kvs.map (·.2))) (fun i σ H' => Fr [] H3 H' ∧ ∃ (v2 v3 v4 v5 v6 v7 v8 : Option V), σ = [some (.ref l), some (.ref d), v2, v3, v4, v5, v6, v7, v8]) ?_ ?_ ?_ ?_
      · exact ⟨Fr.refl, _, _, _, _, _, _, _, rfl⟩
      · rintro i σ H' _ ⟨f', _⟩
        exact f' _ _ hd (by simp)
      · rintro i x σ H4 H5 hi ⟨f4, v2, v3, v4, v5, v6, v7, v8, rfl⟩ ⟨rfl, hx⟩
        obtain ⟨kv, hkv, rfl⟩ := map_get hx
        obtain ⟨q, eq, Lq3⟩ := ev kv (List.mem_of_getElem? hkv)
        obtain ⟨alt, _⟩ := alt_of kv.1 pn
        have lro : (rowsOf kv.1 rows).length ≤ 1000 := Nat.le_trans (List.length_filter_le _ _) lr
        generalize rowsOf kv.1 rows = rs at alt lro Lq3
        rw [eq]
        walk_at "go"
        refine (Lq3.fr0 f4).len ?_
        rw [List.length_map]
        refine F_R1 rs.length (by omega) (by omega) (by omega) (fun j σ H' => Fr [] H3 H' ∧ ∃ (v2 v3 v4 v5 v6 v8 : Option V), σ = [some (.ref l), some (.ref d), v2, v3, v4, v5, v6, some (.ref q), v8]) ⟨f4, _, _, _, _, _, _, rfl⟩ ?_ ?_
        · rintro j σ H6 hj ⟨f6, v2, v3, v4, v5, v6, v8, rfl⟩
          have L6 := Lq3.fr0 f6
          obtain ⟨r, hr'⟩ : ∃ r, rs[j]? = some r := ⟨_, List.getElem?_eq_getElem hj⟩
          obtain ⟨on, od⟩ := alt j r hr'
          have hrd : (rs.map arD)[j]? = some (arD r) := by rw [List.getElem?_map, hr']; rfl
          walk_at "go"
          refine L6.ix j hrd (fun u du => ?_) rfl
          walk_at "go"
          refine Dt.ix (ds := [.str r.word, .int r.n]) 0 du rfl fun u0 d0 => ?_
          cases d0
          walk_at "go"
          refine mkL (K := K) (.cons (.str "do") (.cons (.str "undo") .nil)) fun q7 H7 n7 f7 L7 => ?_
          walk_at "go"
          refine w_rI (by show (0 : Int) < 2; decide) ?_
          have par : j % 2 = 0 ∨ j % 2 = 1 := by omega
          have hw : r.word = if j % 2 = 0 then "do" else "undo" := by
            unfold LRow.word
            rw [on]
            rcases par with e | e <;> rw [e] <;> rfl
          rcases par with par | par
          · rw [par] at hw
            have hw : r.word = "do" := hw
            refine L7.ix 0 rfl (fun u1 d1 => ?_) (by omega)
            cases d1
            rw [hw]
            walk_at "go"
            refine ite_nd (fun h => absurd rfl h) (fun _ => ?_)
            walk_at "go"
            refine w_rI (by show (0 : Int) < 2; decide) ?_
            walk_at "go"
            rw [decide_eq_false (by omega)]
            walk_at "go"
            exact ⟨f6.trans f7, _, _, _, _, _, _, rfl⟩
          · rw [par] at hw
            have hw : r.word = "undo" := hw
            obtain ⟨r2, hr2, hn2⟩ := od par
            refine L7.ix 1 rfl (fun u1 d1 => ?_) (by omega)
            cases d1
            rw [hw]
            walk_at "go"
            refine ite_nd (fun h => absurd rfl h) (fun _ => ?_)
            walk_at "go"
            refine w_rI (by show (0 : Int) < 2; decide) ?_
            walk_at "go"
            rw [decide_eq_true (by omega)]
            have L67 := L6.fr0 f7
            have hrd2 : (rs.map arD)[j - 1]? = some (arD r2) := by rw [List.getElem?_map, hr2]; rfl
            walk_at "go"
            refine L67.ix j hrd (fun u2 d2 => ?_) rfl
            walk_at "go"
            refine Dt.ix (ds := [.str r.word, .int r.n]) 1 d2 rfl fun u3 d3 => ?_
            cases d3
            walk_at "go"
            refine L67.ix (j - 1) hrd2 (fun u4 d4 => ?_) (by omega)
            walk_at "go"
            refine Dt.ix (ds := [.str r2.word, .int r2.n]) 1 d4 rfl fun u5 d5 => ?_
            cases d5
            rw [hn2]
            walk_at "go"
            refine ite_nd (fun h => absurd rfl h) (fun _ => ?_)
            walk_at "go"
            exact ⟨f6.trans f7, _, _, _, _, _, _, rfl⟩
        · rintro σ H6 ⟨f6, v2, v3, v4, v5, v6, v8, rfl⟩
          walk_at "go"
          exact ⟨f6, _, _, _, _, _, _, _, rfl⟩
      · rintro σ H4 ⟨f4, v2, v3, v4, v5, v6, v7, v8, rfl⟩
        walk_at "go"
        exact k H4 (f03.trans f4)
end

def sp_law (K : PySem.W.Frag) : Sp := fun vs H Q _ => ∃ (a : Addr) (ns : List Int), vs = [.ref a] ∧ SqL K H a (ns.map V.int) ∧ ns.length ≤ 63 ∧ ∀ H', Q (.bl true) H'

section
variable {P : Program} {w : World} {K : PySem.W.Frag} {mg : Str → Option Value} {base : Heap}
def EnF (K : PySem.W.Frag) (H : Hp) (q : Addr) (ens : List En) : Prop := Lq K H q (ens.map enD) ∧ ens.length ≤ 40 ∧ (∀ e ∈ ens, e.ok) ∧ (∀ e ∈ ens, e.fine) ∧ (ens.map En.path).Nodup
theorem EnF.fr {H H' : Hp} {q : Addr} {ens : List En} {S : List Addr} (h : EnF K H q ens) (f : Fr S H H') (n : q ∉ S) (t : Tu H H') : EnF K H' q ens := ⟨h.1.fr f n t, h.2⟩
theorem EnF.fr0 {H H' : Hp} {q : Addr} {ens : List En} (h : EnF K H q ens) (f : Fr [] H H') : EnF K H' q ens := h.fr f (by simp) f.tu
theorem HouseAt.sub {H : Hp} {S S' : List Addr} {v : V} {names : List Str} (h : HouseAt K H S v names) (s : ∀ a ∈ S', a ∈ S) : HouseAt K H S' v names := by
  obtain ⟨a, q, pd, kvs, e, sq, n, h1, h2, h3, h4⟩ := h
  exact ⟨a, q, pd, kvs, e, sq, ⟨fun z => n.1 (s _ z), fun z => n.2.1 (s _ z), fun z => n.2.2 (s _ z)⟩, h1, h2, fun i nm hi => by
    obtain ⟨p, u, e1, e2, e3⟩ := h3 i nm hi
    exact ⟨p, u, e1, e2.sub s, e3⟩, h4⟩
theorem rows_shaped {rows : List LRow} (gd : ∀ r ∈ rows, Gd r.k r.n) : SeqAt.shaped (.list (rows.map LRow.d)) = true := shaped_list (n := 4) (by decide) fun d hd => by
  obtain ⟨r, hr, rfl⟩ := List.mem_map.mp hd
  have g := stD_good (s := (r.k, r.n)) (gd r hr).1.1
  constructor
  · show (PyData.strOk r.word && (stD (r.k, r.n)).canLay0) = true
    rw [g.1]
    unfold LRow.word
    cases r.on <;> decide +kernel
  · have := dp_sp r.k.path
    show max 0 (max (PyData.depthAll (r.k.path.map spD) + 1) (max 0 (max 0 (max 0 0)))) + 1 ≤ 4
    omega
theorem rows_fin {rows : List LRow} (gd : ∀ r ∈ rows, Gd r.k r.n) : ∀ d ∈ rows.map LRow.d, fin 6 d = true := fun d hd => by
  obtain ⟨r, hr, rfl⟩ := List.mem_map.mp hd
  exact fin_mono (by decide) (row_fin (gd r hr))
theorem no3 {a b c d : Addr} (h1 : a ≠ b) (h2 : a ≠ c) (h3 : a ≠ d) : a ∉ [b, c, d] := by simp [h1, h2, h3]
theorem free3 {H H' : Hp} {t d q a : Addr} (f : Fr [t, d, q] H H') (h : H' a = none) (n : a ∉ [t, d, q]) : H a = none := by
  cases e : H a with
  | none => rfl
  | some o =>
    have z := f a o e n
    rw [h] at z
    cases z
theorem ok_law (T : Env K mg) {f : Addr} {fd : FuncData} (F : Fun K "law" "law" s_law f fd) : FnOk P w K mg base CX0 7 f fd p_law (sp_law K) := by
  refine F.ok sc_law (fun vs H Q E h => ?_) (fun cdv A outer s H vs Q E hr h => ?_)
  · obtain ⟨a, ns, rfl, _⟩ := h
    rfl
  · obtain ⟨a, ns, rfl, hS, hl, k⟩ := h
    refine ⟨_, (pss_cons (ps_set (i := 1) sc_law.nd rfl (Or.inl rfl) (pe_fx (ok_law_tape (P := P) (w := w) T) hr (by decide) (pa_cons (pv 0) pa_nil)))
      (pss_cons (ps_set (i := 2) sc_law.nd rfl (Or.inl rfl) (pe_fx (ok_law_parts (P := P) (w := w) T) hr (by decide) (pa_cons (pv 1) pa_nil)))
      (pss_cons (ps_set (i := 3) sc_law.nd rfl (Or.inl rfl) pe_dnewK)
      (pss_cons (ps_set (i := 4) sc_law.nd rfl (Or.inl rfl) (pe_lst pa_nil))
      (pss_cons (ps_set (i := 5) sc_law.nd rfl (Or.inl rfl) (pe_lst pa_nil))
      (pss_cons (ps_set (i := 6) sc_law.nd rfl (Or.inl rfl) (pe_lst pa_nil))
      (pss_cons (ps_for PassesOwn.never rfl (pi_range1 rfl T.m_range (pa_cons (pe_op (op_addU (K := K) rfl) pe_int (pe_fx (ok_law_draw (P := P) (w := w) T) hr (by decide) (pa_cons (pv 1) (pa_cons pe_int pa_nil)))) pa_nil)) (pg_name (i := 7) sc_law.nd rfl (Or.inl rfl)) (pss_cons (ps_set (i := 8) sc_law.nd rfl (Or.inl rfl) (pe_fx (ok_law_draw (P := P) (w := w) T) hr (by decide) (pa_cons (pv 1) (pa_cons pe_int pa_nil))))
      (pss_cons (ps_set (i := 9) sc_law.nd rfl (Or.inl rfl) (pe_lst pa_nil))
      (C8.pss_cut (ps_if (pt_cmpR op_lt (pv 8) pe_int (nomark _)) (pss_one (ps_set (i := 9) sc_law.nd rfl (Or.inl rfl) (pe_fx (ok_law_drawing (P := P) (w := w) T) hr (by decide) (pa_cons (pv 1) (pa_cons (pv 2) (pa_cons (pv 3) pa_nil)))))) pss_nil)
      (C8.pss_cut (ps_if (PW.pt (pw_and (pt_cmpR (op_eqU (K := K) rfl (u64 hr)) (pv 8) pe_int (nomark _)) (pw_and1 (pt_cmpR (op_neUL (K := K) rfl (u64 hr)) (pv 5) (pe_lst pa_nil) (nomark _))))) (pss_one (ps_set (i := 9) sc_law.nd rfl (Or.inl rfl) (pe_ix (ix_U (K := K) rfl) (pv 5) (pe_fx (ok_law_draw (P := P) (w := w) T) hr (by decide) (pa_cons (pv 1) (pa_cons (pe_callB (call_lenU (K := K) rfl) (by rfl) T.m_len (by decide +kernel) (pa_cons (pv 5) pa_nil)) pa_nil))) (fun _ _ => rfl)))) pss_nil)
      (C8.pss_cut (ps_if (pt_cmpR (op_eqU (K := K) rfl (u64 hr)) (pv 8) pe_int (nomark _)) (pss_one (ps_set (i := 9) sc_law.nd rfl (Or.inl rfl) (pe_fx (ok_law_drawing (P := P) (w := w) T) hr (by decide) (pa_cons (pv 1) (pa_cons (pe_fx (ok_law_parts (P := P) (w := w) T) hr (by decide) (pa_cons (pv 1) pa_nil)) (pa_cons pe_dnewK pa_nil)))))) pss_nil)
      (pss_cons (ps_set (i := 6) sc_law.nd rfl (Or.inl rfl) (pe_op (op_addU (K := K) rfl) (pv 6) (pe_fx (ok_works_due (P := P) (w := w) T) hr (by decide) (pa_cons (pv 4) (pa_cons (pv 9) pa_nil)))))
      (pss_cons (ps_if (PW.pt (pw_or (pt_cmpR op_nisB (pe_fx (ok_lets_log (P := P) (w := w) T) hr (by decide) (pa_cons (pv 6) pa_nil)) pe_bl (nomark _)) (pw_or (pt_not (pt_val (pe_fx (ok_law_lets (P := P) (w := w) T) hr (by decide) (pa_cons (pv 6) pa_nil)))) (pw_or1 (pt_not (pt_val (pe_fx (ok_law_alternate (P := P) (w := w) T) hr (by decide) (pa_cons (pv 6) pa_nil)))))))) (pss_one (ps_ret pe_bl)) pss_nil)
      (pss_cons (ps_set (i := 10) sc_law.nd rfl (Or.inr rfl) (pe_fx (ok_standing (P := P) (w := w) T) hr (by decide) (pa_cons (pv 6) pa_nil)))
      (pss_cons (ps_set (i := 11) sc_law.nd rfl (Or.inl rfl) (pe_fx (ok_law_works (P := P) (w := w) T) hr (by decide) (pa_cons (pv 9) pa_nil)))
      (pss_cons (ps_if (PW.pt (pw_or (pt_cmpR (op_neU (K := K) rfl (u64 hr)) (pe_callB (call_lenU (K := K) rfl) (by rfl) T.m_len (by decide +kernel) (pa_cons (pv 10) pa_nil)) (pe_callB (call_lenU (K := K) rfl) (by rfl) T.m_len (by decide +kernel) (pa_cons (pv 11) pa_nil)) (nomark _)) (pw_or1 (pt_cmpR (op_inU (K := K) rfl (u65 hr)) pe_bl (pe_lc (own := [("_law_work", 15)]) (g := (gName 15)) (tt := tYes) rfl sc_law.nd (pi_listU (K := K) rfl (pv 11)) (blkOk_by (N := N_law) (sc := defScope s_law) (by decide +kernel)) (fun _ _ _ _ _ => (pg_name (i := 15) sc_law.nd rfl (Or.inl rfl))) (fun _ _ _ _ _ => pts_nil) (fun _ _ _ _ _ => (pe_cmpR (op_inU (K := K) rfl (u65 hr)) (pv 15) (pv 10) (by rfl)))) (by rfl))))) (pss_one (ps_ret pe_bl)) pss_nil)
      (pss_cons (ps_expr (pe_bm PySem.F.plainAttrs_list PySem.F.slot_list_append PySem.F.type_list_append mt_append (pv 5) (pa_cons (pv 9) pa_nil)))
      (pss_one (ps_set (i := 4) sc_law.nd rfl (Or.inl rfl) (pv 9)))))))))))))))
      (pss_cons (ps_for PassesOwn.never rfl (pi_range1 rfl T.m_range (pa_cons (pe_op op_mulU pe_int (pe_callTy call_intU (by rfl) T.m_int (by decide +kernel) (pa_cons (pe_cmpR (op_neU (K := K) rfl (u64 hr)) (pv 6) (pe_lst pa_nil) (nomark _)) pa_nil))) pa_nil)) (pg_name (i := 7) sc_law.nd rfl (Or.inl rfl)) (pss_cons (ps_set (i := 12) sc_law.nd rfl (Or.inl rfl) (pe_fx (ok_law_draw (P := P) (w := w) T) hr (by decide) (pa_cons (pv 1) (pa_cons (pe_callB (call_lenU (K := K) rfl) (by rfl) T.m_len (by decide +kernel) (pa_cons (pv 6) pa_nil)) pa_nil))))
      (pss_one (ps_for PassesOwn.never rfl (pi_listU (K := K) rfl (pe_lst (pa_cons (pe_op (op_addU (K := K) rfl) (pe_slice (sl_U (K := K) rfl) (pv 6) po_none (po_some (pv 12))) (pe_slice (sl_U (K := K) rfl) (pv 6) (po_some (pe_op (op_addU (K := K) rfl) (pv 12) pe_int)) po_none)) (pa_cons (pe_op (op_addU (K := K) rfl) (pe_slice (sl_U (K := K) rfl) (pv 6) po_none (po_some (pe_op (op_addU (K := K) rfl) (pv 12) pe_int))) (pe_slice (sl_U (K := K) rfl) (pv 6) (po_some (pv 12)) po_none)) pa_nil)))) (pg_name (i := 13) sc_law.nd rfl (Or.inl rfl)) (pss_cons (ps_set (i := 14) sc_law.nd rfl (Or.inl rfl) (pe_fx (ok_lets_log (P := P) (w := w) T) hr (by decide) (pa_cons (pv 13) pa_nil)))
      (pss_one (ps_if (PW.pt (pw_or (pt_not (pt_val (pe_callB (call_isiU (K := K) rfl) (by rfl) T.m_isinstance (by decide +kernel) (pa_cons (pv 14) (pa_cons (pe_bltn (v := .ty "bool") (u := .type "bool") rfl T.m_bool (by decide +kernel) rfl) pa_nil))))) (pw_or1 (pt_cmpR (op_neU (K := K) rfl (u64 hr)) (pv 14) (pe_fx (ok_law_lets (P := P) (w := w) T) hr (by decide) (pa_cons (pv 13) pa_nil)) (nomark _))))) (pss_one (ps_ret pe_bl)) pss_nil)))))))
      (pss_one (ps_ret pe_bl)))))))))), ?_⟩
    walk_at "go"
    refine ⟨a, ns, rfl, hS, fun t H1 ht f1 T1 => ?_⟩
    walk_at "go"
    refine ⟨t, H, rfl, T1, fun ha names H2 nha f2 T2 hk2 => ?_⟩
    walk_at "go"
    refine mkD fun d H3 n3 f3 e3 => ?_
    have T3 := T2.fr f3
    have ndt : d ≠ t := T2.ne n3
    have n0 := T2.no n3
    have tS : ∀ {H'}, Tape K H H' t → H' t ≠ none := fun T => by
      obtain ⟨⟨_, _, _, _, _, e, _⟩, _⟩ := T
      rw [e]; simp
    have dS : ∀ {H' : Hp} {S : List Addr} {d : Addr} {kvs : List (PN × V)}, StoreAt P w K H' S d kvs → H' d ≠ none := fun S e => absurd rfl (DN.none_ne S.1 e)
    walk_at "go"
    refine mkL (K := K) .nil fun qa H4 n4 f4 L4 => ?_
    walk_at "go"
    refine mkL (K := K) .nil fun qb H5 n5 f5 L5 => ?_
    walk_at "go"
    refine mkL (K := K) .nil fun ql H6 n6 f6 L6 => ?_
    have T4 := T3.fr f4
    have T5 := T4.fr f5
    have T6 := T5.fr f6
    have dn3 : H3 d ≠ none := by rw [e3]; simp
    have dn4 : H4 d ≠ none := by rw [f4 _ _ e3 (by simp)]; simp
    have dn5 : H5 d ≠ none := by rw [f5 _ _ (f4 _ _ e3 (by simp)) (by simp)]; simp
    have nqb : qb ≠ t ∧ qb ≠ d := ⟨T4.ne n5, (ne_free dn4 n5).symm⟩
    have ma : qa ∉ [t, d, qb] := no3 (T3.ne n4) (ne_free dn3 n4).symm (ne_free (Lq.some L4) n5)
    have ml : ql ∉ [t, d, qb] := no3 (T5.ne n6) (ne_free dn5 n6).symm (ne_free (Lq.some L5) n6).symm
    have n5' : H2 qb = none := (f3.trans f4).free n5
    have hh6 : HouseAt K H6 [t, d, qb] (.ref ha) names := (hk2 [t, d, qb] (by simp [n3, n5'])).fr (((f3.trans f4).trans (f5.trans f6)).mono (by simp)) ((f3.trans f4).trans (f5.trans f6)).tu
    have f46 := f5.trans f6
    have nb0 : H qb = none := T4.no n5
    walk_at "go"
    refine ⟨t, 4, H, rfl, T6, by decide, by decide, fun r0 H7 a7 b7 f7 T7 => ?_⟩
    have t7 := T6.tu f7
    have f7' : Fr [t, d, qb] H6 H7 := f7.mono (by simp)
    walk_at "go"
    refine F_R1 (1 + r0).toNat rfl (by omega) (by omega) (fun i σ H' => ∃ (qa ql : Addr) (kvs : List (PN × V)) (old : List En) (rows : List LRow) (now : List (Wkey × Int)) (qs : List Addr) (v7 v8 v9 v10 v11 v12 v13 v14 v15 : Option V), σ = [some (.ref a), some (.ref t), some (.ref ha), some (.ref d), some (.ref qa), some (.ref qb), some (.ref ql), v7, v8, v9, v10, v11, v12, v13, v14, v15] ∧
      Fr [t, d, qb] H6 H' ∧ Tu H6 H' ∧ Tape K H H' t ∧ (StoreAt P w K H' [t, d, qb] d kvs ∧ kvs.length ≤ 1100 * i) ∧ (EnF K H' qa old ∧ qa ∉ [t, d, qb]) ∧ (Lq K H' ql (rows.map LRow.d) ∧ ql ∉ [t, d, qb] ∧ rows.length ≤ 240 * i ∧ (∀ r ∈ rows, Gd r.k r.n) ∧ playL rows = some now ∧ ∀ s, s ∈ now ↔ s ∈ LW.kvs old) ∧
      H' qb = some (.lst (qs.map V.ref)) ∧ qs.length = i ∧ ∀ q ∈ qs, q ∉ [t, d, qb] ∧ ∃ ens, EnF K H' q ens) ?_ ?_ ?_
    · have S6 : StoreAt P w K H6 [t, d, qb] d [] := ⟨.inl ⟨rfl, f46 _ _ (f4 _ _ e3 (by simp)) (by simp)⟩, by simp⟩
      refine ⟨qa, ql, [], [], [], [], [], _, _, _, _, _, _, _, _, _, rfl, f7', t7, T7, ⟨S6.fr f7 (by simp) (by simpa using ndt) t7, Nat.le_refl _⟩, ⟨⟨(L4.fr0 f46).fr f7' ma t7, by exact Nat.zero_le _, by simp, by simp, by simp⟩, ma⟩, ⟨L6.fr f7' ml t7, ml, Nat.le_refl _, by simp, rfl, fun s => ?_⟩, (L5.fr0 f6).fr f7 (by simpa using nqb.1) t7 |>.nil, rfl, by simp⟩
      exact Iff.rfl
    · rintro i σ H8 hi ⟨qa, ql, kvs, old, rows, now, qs, v7, v8, v9, v10, v11, v12, v13, v14, v15, rfl, f8, t8, T8, ⟨S8, lk⟩, ⟨Ea, ma⟩, ⟨Ll, ml, lr, gd, pn, mem⟩, eb, lqs, ob⟩
      have hi4 : i < 4 := by omega
      walk_at "go"
      refine ⟨t, 8, H, rfl, T8, by decide, by decide, fun way H9 a9 b9 f9 T9 => ?_⟩
      walk_at "go"
      refine mkL (K := K) .nil fun q9 H10 n10 f10 L10 => ?_
      have T10 := T9.fr f10
      have t810 := (T8.tu f9).trans f10.tu
      have f810 : Fr [t, d, qb] H8 H10 := (f9.mono (by simp)).trans (f10.mono (by simp))
      have S10 : StoreAt P w K H10 [t, d, qb] d kvs := (S8.fr f9 (by simp) (by simpa using ndt) (T8.tu f9)).fr0 f10
      have bS : ∀ {H'}, Fr [t, d] H8 H' → H' qb ≠ none := fun f e => by rw [f _ _ eb (by simp [nqb])] at e; cases e
      have f810' : Fr [t, d] H8 H10 := (f9.mono (by simp)).trans (f10.mono (by simp))
      have m9 : q9 ∉ [t, d, qb] := no3 (T9.ne n10) (DN.none_ne (S8.fr f9 (by simp) (by simpa using ndt) (T8.tu f9)).1 n10) (by
        rintro rfl
        rw [f9 _ _ eb (by simpa using nqb.1)] at n10
        cases n10)
      walk_at "go"
      refine w_cut (fun σ' H' => ∃ (q9 : Addr) (new : List En) (kvs' : List (PN × V)), σ' = [some (.ref a), some (.ref t), some (.ref ha), some (.ref d), some (.ref qa), some (.ref qb), some (.ref ql), some (.int (i : Int)), some (.int way), some (.ref q9), v10, v11, v12, v13, v14, v15] ∧ Fr [t, d] H8 H' ∧ Tu H8 H' ∧ Tape K H H' t ∧ StoreAt P w K H' [t, d, qb] d kvs' ∧ kvs'.length ≤ 1100 * i + 1100 ∧ EnF K H' q9 new ∧ q9 ∉ [t, d, qb]) ?_ ?_
      · walk_at "go"
        refine ite_d (fun hw => ?_) (fun hw => ?_)
        · walk_at "go"
          refine ⟨t, d, [t, d, qb], _, names, kvs, H, rfl, T10, n0, ndt, ⟨by simp, by simp, by simp [tS T10, dS S10, bS f810']⟩, S10, by omega, ((hh6.fr f8 t8).fr f810 t810).sub (by simp), fun q ens kvs' H11 nq f11 t11 T11 S11 lk11 L11 le oe fe ne => ?_⟩
          walk_at "go"
          refine ⟨q, ens, kvs', rfl, f810'.trans f11, t810.trans t11, T11, S11, by omega, ⟨L11, le, oe, fe, ne⟩, no3 (T10.ne nq) (DN.none_ne S10.1 nq) ?_⟩
          rintro rfl
          exact bS f810' nq
        · walk_at "go"
          exact ⟨q9, [], kvs, rfl, f810', t810, T10, S10, by omega, ⟨L10, by exact Nat.zero_le _, by simp, by simp, by simp⟩, m9⟩
      · rintro σ' H11 ⟨q9, new, kvs', rfl, f11, t11, T11, S11, lk11, E9, m9⟩
        walk_at "go"
        refine w_cut (fun σ' H' => ∃ (q9 : Addr) (new : List En) (kvs' : List (PN × V)), σ' = [some (.ref a), some (.ref t), some (.ref ha), some (.ref d), some (.ref qa), some (.ref qb), some (.ref ql), some (.int (i : Int)), some (.int way), some (.ref q9), v10, v11, v12, v13, v14, v15] ∧ Fr [t, d] H8 H' ∧ Tu H8 H' ∧ Tape K H H' t ∧ StoreAt P w K H' [t, d, qb] d kvs' ∧ kvs'.length ≤ 1100 * i + 1100 ∧ EnF K H' q9 new ∧ q9 ∉ [t, d, qb]) ?_ ?_
        · have eb11 := f11 _ _ eb (by simp [nqb])
          walk_at "go"
          refine ite_d (fun hw => ?_) (fun hw => ?_)
          · walk_at "go"
            refine mkL (K := K) .nil fun q12 H12 n12 f12 L12 => ?_
            have eb12 := f12 _ _ eb11 (by simp)
            have T12 := T11.fr f12
            cases qs with
            | nil =>
              refine .inl ?_
              refine w_neD (.lst (SqL.of eb12) .nil) L12.dp (by decide) (by decide) ?_
              walk_at "go"
              refine iteF ?_
              walk_at "go"
              exact ⟨q9, new, kvs', rfl, f11.trans (f12.mono (by simp)), t11.trans f12.tu, T12, S11.fr0 f12, lk11, E9.fr0 f12, m9⟩
            | cons q0 qr =>
              refine .inr ?_
              refine ⟨qb, q12, _, [], rfl, rfl, eb12, L12.nil, by simp, ?_⟩
              walk_at "go"
              refine w_lenL (SqL.of eb12) ?_
              rw [List.length_map]
              walk_at "go"
              refine ⟨t, _, H, rfl, T12, by rw [List.length_cons]; omega, by omega, fun r H13 a13 b13 f13 T13 => ?_⟩
              have eb13 := f13 _ _ eb12 (by simpa using nqb.1)
              have t13 := T12.tu f13
              obtain ⟨n, rfl⟩ : ∃ n : Nat, r = (n : Int) := ⟨r.toNat, by omega⟩
              obtain ⟨q, hq⟩ : ∃ q, (q0 :: qr)[n]? = some q := ⟨_, List.getElem?_eq_getElem (by omega)⟩
              refine w_ixL (SqL.of eb13) (atI_nat (by rw [List.getElem?_map, hq]; rfl)) ?_
              walk_at "go"
              obtain ⟨mq, ens, Eq⟩ := ob q (List.mem_of_getElem? hq)
              have f813 : Fr [t, d] H8 H13 := (f11.trans (f12.mono (by simp))).trans (f13.mono (by simp))
              have t813 := (t11.trans f12.tu).trans t13
              exact ⟨q, ens, kvs', rfl, f813, t813, T13, (S11.fr0 f12).fr f13 (by simp) (by simpa using ndt) t13, lk11, Eq.fr f813 (fun z => mq (by simp only [List.mem_cons, List.not_mem_nil, or_false] at z ⊢; rcases z with z | z <;> simp [z])) t813, mq⟩
          · walk_at "go"
            exact ⟨q9, new, kvs', rfl, f11, t11, T11, S11, lk11, E9, m9⟩
        · rintro σ' H12 ⟨q9, new, kvs', rfl, f12, t12, T12, S12, lk12, E9, m9⟩
          clear f11 t11 T11 S11 lk11
          walk_at "go"
          refine w_cut (fun σ' H' => ∃ (q9 : Addr) (new : List En) (kvs' : List (PN × V)), σ' = [some (.ref a), some (.ref t), some (.ref ha), some (.ref d), some (.ref qa), some (.ref qb), some (.ref ql), some (.int (i : Int)), some (.int way), some (.ref q9), v10, v11, v12, v13, v14, v15] ∧ Fr [t, d] H8 H' ∧ Tu H8 H' ∧ Tape K H H' t ∧ StoreAt P w K H' [t, d, qb] d kvs' ∧ kvs'.length ≤ 1100 * i + 1100 ∧ EnF K H' q9 new ∧ q9 ∉ [t, d, qb]) ?_ ?_
          · have eb12 := f12 _ _ eb (by simp [nqb])
            walk_at "go"
            refine ite_d (fun hw => ?_) (fun hw => ?_)
            · walk_at "go"
              refine ⟨t, H, rfl, T12, fun ha2 names2 H13 nha2 f13 T13 hk13 => ?_⟩
              have t13 := T12.tu f13
              have S13 : StoreAt P w K H13 [t, d, qb] d kvs' := S12.fr f13 (by simp) (by simpa using ndt) t13
              have eb13 := f13 _ _ eb12 (by simpa using nqb.1)
              walk_at "go"
              refine mkD fun d2 H14 n14 f14 e14 => ?_
              have T14 := T13.fr f14
              have ndt2 : d2 ≠ t := T13.ne n14
              have n02 := T13.no n14
              have hh14 : HouseAt K H14 [t, d2] (.ref ha2) names2 := (hk13 [t, d2] (by simp [n14])).fr (f14.mono (by simp)) f14.tu
              have S14 : StoreAt P w K H14 [t, d2] d2 [] := ⟨.inl ⟨rfl, e14⟩, by simp⟩
              have Sd14 := S13.fr0 f14
              have eb14 := f14 _ _ eb13 (by simp)
              refine ⟨t, d2, [t, d2], _, names2, _, H, rfl, T14, n02, ndt2, ⟨by simp, by simp, by simp [tS T14, dS S14]⟩, S14, by exact Nat.zero_le _, hh14, fun q ens kvs2 H15 nq f15 t15 T15 S15 lk15 L15 le oe fe ne => ?_⟩
              walk_at "go"
              have f1315 : Fr [t] H13 H15 := Fr.new_mut (p := d2) n14 ((f14.mono (by simp)).trans (f15.mono (by simp)))
              have t1315 := f14.tu.trans t15
              have f815 : Fr [t, d] H8 H15 := (f12.trans (f13.mono (by simp))).trans (f1315.mono (by simp))
              refine ⟨q, ens, kvs', rfl, f815, (t12.trans t13).trans t1315, T15, S13.fr f1315 (by simp) (by simpa using ndt) t1315, lk12, ⟨L15, le, oe, fe, ne⟩, no3 (T14.ne nq) (DN.none_ne Sd14.1 nq) ?_⟩
              rintro rfl
              rw [eb14] at nq
              cases nq
            · walk_at "go"
              exact ⟨q9, new, kvs', rfl, f12, t12, T12, S12, lk12, E9, m9⟩
          · rintro σ' H13 ⟨q9, new, kvs', rfl, f13, t13, T13, S13, lk13, E9, m9⟩
            clear f12 t12 T12 S12 lk12
            have sub3 : ∀ {x : Addr}, x ∉ [t, d, qb] → x ∉ [t, d] := fun h z => h (by simp only [List.mem_cons, List.not_mem_nil, or_false] at z ⊢; rcases z with z | z <;> simp [z])
            have Ea := Ea.fr f13 (sub3 ma) t13
            have Ll := Ll.fr f13 (sub3 ml) t13
            have eb := f13 _ _ eb (by simp [nqb])
            obtain ⟨now', pn', on', mem'⟩ := due_play pn mem (kvs_nodup Ea.2.2.2.2 Ea.2.2.2.1) (kvs_nodup E9.2.2.2.2 E9.2.2.2.1)
            have nk' := kvs_nodup E9.2.2.2.2 E9.2.2.2.1
            have lnow := once_len on' nk' mem'
            have drl := dueRows_len (LW.kvs old) (LW.kvs new)
            have lka := kvs_len Ea.2.2.1
            have lk9 := kvs_len E9.2.2.1
            have la := Ea.2.1
            have l9 := E9.2.1
            have gd' : ∀ r ∈ rows ++ dueRows (LW.kvs old) (LW.kvs new), Gd r.k r.n := fun r hr => by
              rcases List.mem_append.mp hr with z | z
              · exact gd r z
              · exact dueRows_all (P := fun k n => Gd k n) (kvs_gd Ea.2.2.1 Ea.2.2.2.1) (kvs_gd E9.2.2.1 E9.2.2.2.1) r z
            have lr' : (rows ++ dueRows (LW.kvs old) (LW.kvs new)).length ≤ 240 * (i + 1) := by
              rw [List.length_append]
              omega
            walk_at "go"
            refine ⟨qa, q9, old, new, rfl, ⟨Ea.1, by omega, Ea.2.2.1⟩, ⟨E9.1, by omega, E9.2.2.1⟩, fun q14 H14 n14 f14 L14 => ?_⟩
            rw [due_rows Ea.2.2.1 E9.2.2.1] at L14
            refine (Ll.fr0 f14).cat L14 (by rw [List.length_map, List.length_map]; omega) fun q15 H15 n15 f15 L15 => ?_
            rw [← List.map_append] at L15
            generalize hrs : rows ++ dueRows (LW.kvs old) (LW.kvs new) = rows' at pn' gd' lr' L15
            have right : ∀ x ∈ rows', x.right := fun x hx => (gd' x hx).right
            have fin6 := rows_fin gd'
            have letP : ∀ c : Bool, (c = true ↔ LetsP (.list (rows'.map LRow.d))) → c = true := fun c h => h.mpr ⟨rows', rfl, right, by rw [pn']; rfl⟩
            have f1315 := f14.trans f15
            have T15 := T13.fr f1315
            have S15 := S13.fr0 f1315
            have E15 := E9.fr0 f1315
            have eb15 := f1315 _ _ eb (by simp)
            walk_at "go"
            refine ⟨_, _, rfl, Lq.ld L15, (fun ds e => by cases e; exact ⟨by rw [List.length_map]; omega, fin6⟩), fun H16 c f16 hc => ?_⟩
            rw [letP c hc]
            walk_at "go"
            rw [decide_eq_true rfl]
            walk_at "go"
            refine ⟨_, _, rfl, Lq.ld (L15.fr0 f16), (fun ds e => by cases e; exact ⟨by rw [List.length_map]; omega, fin6⟩), fun H17 c2 f17 hc2 => ?_⟩
            rw [letP c2 hc2]
            walk_at "go"
            refine ⟨q15, rows', now', rfl, (L15.fr0 f16).fr0 f17, by omega, pn', fun H18 f18 => ?_⟩
            walk_at "go"
            have f1518 := (f16.trans f17).trans f18
            refine ⟨q15, rows', now', rfl, L15.fr0 f1518, by omega, pn', fun q19 H19 n19 f19 L19 => ?_⟩
            walk_at "go"
            refine ⟨q9, new, rfl, ((E15.fr0 f1518).fr0 f19).1, by omega, E9.2.2.1, fun q20 H20 n20 f20 L20 => ?_⟩
            have L19 := L19.fr0 f20
            walk_at "go"
            refine L19.len ?_
            rw [List.length_map]
            walk_at "go"
            refine L20.len ?_
            rw [List.length_map, show (works new).length = (LW.kvs new).length from (List.length_map _).symm, lnow]
            walk_at "go"
            refine ite_nd (fun h => absurd rfl h) (fun _ => ?_)
            walk_at "go"
            refine LCX_L (K := K) (cs := works new) (dS := wrD) (fun _ => true) (fun _ => .bool true) L20 (by have := works_len E9.2.2.1; omega) ?_ fun q21 H21 n21 f21 L21 => ?_
            · intro c x H' KEEP DROP hc f' dx keep drop
              have okc := works_ok E9.2.2.1 c hc
              have hm : c.kv ∈ now' := (mem' _).mpr (List.mem_map.mpr ⟨c, hc, rfl⟩)
              walk_at "go"
              refine (L19.fr0 f').isin dx (wr_sh okc) (st_shaped fun s hs => (kvs_gd E9.2.2.1 E9.2.2.2.1 s ((mem' s).mp hs)).1.1) ?_
              rw [show ((now'.map stD).any fun z => PyData.eqv z (wrD c)) = true from List.any_eq_true.mpr ⟨stD c.kv, List.mem_map.mpr ⟨_, hm, rfl⟩, shaped_refl (wr_sh okc)⟩]
              exact keep rfl _ _ Fr.refl (.bl true)
            · rw [List.filter_eq_self.mpr (fun _ _ => rfl)] at L21
              refine L21.isin (.bl false) (by decide) (shaped_list (n := 0) (by decide) fun d hd => by
                obtain ⟨_, _, rfl⟩ := List.mem_map.mp hd
                exact ⟨rfl, Nat.le_refl _⟩) ?_
              rw [show (((works new).map fun _ => PyData.bool true).any fun z => PyData.eqv z (.bool false)) = false from List.any_eq_false.mpr fun d hd => by
                obtain ⟨_, _, rfl⟩ := List.mem_map.mp hd
                decide]
              have f1521 := ((f1518.trans f19).trans f20).trans f21
              have f1321 := f1315.trans f1521
              have eb21 := f1521 _ _ eb15 (by simp)
              have T21 := T15.fr f1521
              have S21 := S15.fr0 f1521
              have E21 := E15.fr0 f1521
              have L21' := L15.fr0 f1521
              walk_at "go"
              refine ⟨.inl ⟨rfl, _, SqL.of eb21⟩, ?_⟩
              walk_at "go"
              refine ⟨qb, _, _, rfl, rfl, eb21, Nat.lt_of_le_of_lt (show (qs.map V.ref).length ≤ 100000 by rw [List.length_map]; omega) (by decide), ?_⟩
              walk_at "go"
              have fm : Fr [qb] H21 (upd H21 qb (.lst (qs.map V.ref ++ [.ref q9]))) := Fr.mut (by simp)
              have tm : Tu H21 (upd H21 qb (.lst (qs.map V.ref ++ [.ref q9]))) := Tu.mut eb21
              have em : upd H21 qb (.lst (qs.map V.ref ++ [.ref q9])) qb = some (.lst (qs.map V.ref ++ [.ref q9])) := upd_same
              generalize upd H21 qb (.lst (qs.map V.ref ++ [.ref q9])) = H22 at fm tm em
              have sub1 : ∀ {x : Addr}, x ∉ [t, d, qb] → x ∉ [qb] := fun h z => h (by simp only [List.mem_cons, List.not_mem_nil, or_false] at z ⊢; simp [z])
              have m15 : q15 ∉ [t, d, qb] := no3 ((T13.fr f14).ne n15) (DN.none_ne (S13.fr0 f14).1 n15) (by
                rintro rfl
                rw [f14 _ _ eb (by simp)] at n15
                cases n15)
              have f822 : Fr [t, d, qb] H8 H22 := ((f13.mono (by intro x hx; simp only [List.mem_cons, List.not_mem_nil, or_false] at hx ⊢; rcases hx with z | z <;> simp [z])).trans (f1321.mono (by simp))).trans (fm.mono (by simp))
              have t822 : Tu H8 H22 := (t13.trans f1321.tu).trans tm
              refine ⟨q9, q15, kvs', new, rows', now', qs ++ [q9], _, _, _, _, _, _, _, _, _, rfl, f8.trans f822, t8.trans t822, T21.fr1 fm nqb.1 nb0, ⟨S21.fr fm (by simp) (by simpa using nqb.2.symm) tm, by omega⟩, ⟨E21.fr fm (sub1 m9) tm, m9⟩, ⟨L21'.fr fm (sub1 m15) tm, m15, lr', gd', pn', mem'⟩, by rw [em, List.map_append]; rfl, by rw [List.length_append, List.length_singleton, lqs], fun q hq => ?_⟩
              rcases List.mem_append.mp hq with z | z
              · obtain ⟨mq, ens, Eq⟩ := ob q z
                exact ⟨mq, ens, Eq.fr f822 mq t822⟩
              · rw [List.mem_singleton.mp z]
                exact ⟨m9, new, E21.fr fm (sub1 m9) tm⟩
    · rintro σ H8 ⟨qa, ql, kvs, old, rows, now, qs, v7, v8, v9, v10, v11, v12, v13, v14, v15, rfl, f8, t8, T8, ⟨S8, lk⟩, ⟨Ea, ma⟩, ⟨Ll, ml, lr, gd, pn, mem⟩, eb, lqs, ob⟩
      have gd6 := rows_fin gd
      walk_at "go"
      refine mkL (K := K) .nil fun q9 H9 n9 f9 L9 => ?_
      have T9 := T8.fr f9
      have L1 := Ll.fr0 f9
      have mlt : ql ≠ t := fun e => ml (by simp [e])
      have lr4 : rows.length ≤ 960 := by omega
      refine w_neNil L1.dp L9.nil (rows_shaped gd) ?_
      cases rows with
      | nil =>
        walk_at "go"
        refine w_mulI (.inl ⟨by decide, by decide⟩) ?_
        walk_at "go"
        refine F_R1 0 rfl (by decide) (by decide) (fun i σ H' => True) trivial (fun i σ H' hi => absurd hi (Nat.not_lt_zero _)) (fun σ H' _ => ?_)
        walk_at "go"
        exact k _
      | cons r0 rt =>
        generalize hrs : r0 :: rt = rows at *
        have l1 : 1 ≤ rows.length := by rw [← hrs]; simp
        have he : (rows.map LRow.d).isEmpty = false := by rw [← hrs]; rfl
        clear hrs
        rw [he]
        walk_at "go"
        refine w_mulI (.inl ⟨by decide, by decide⟩) ?_
        walk_at "go"
        refine F_R1 4 rfl (by decide) (by decide) (fun i σ H' => Fr [t] H9 H' ∧ Tape K H H' t ∧ ∃ (v7 v12 v13 v14 : Option V), σ = [some (.ref a), some (.ref t), some (.ref ha), some (.ref d), some (.ref qa), some (.ref qb), some (.ref ql), v7, v8, v9, v10, v11, v12, v13, v14, v15]) ⟨Fr.refl, T9, _, _, _, _, rfl⟩ ?_ ?_
        · rintro i σ H10 hi ⟨f10, T10, v7, v12, v13, v14, rfl⟩
          have L10 := L1.fr f10 (by simpa using mlt) (T9.tu f10)
          walk_at "go"
          refine L10.len ?_
          rw [List.length_map]
          walk_at "go"
          refine ⟨t, _, H, rfl, T10, by omega, by omega, fun r H11 a11 b11 f11 T11 => ?_⟩
          have L11 := L10.fr f11 (by simpa using mlt) (T10.tu f11)
          obtain ⟨n, rfl⟩ : ∃ n : Nat, r = (n : Int) := ⟨r.toNat, by omega⟩
          have en : (n : Int) + 1 = ((n + 1 : Nat) : Int) := rfl
          walk_at "go"
          refine L11.slice fun qc H12 n12 f12 L12 => ?_
          rw [cutA_take, ← List.map_take] at L12
          walk_at "go"
          refine (L11.fr0 f12).slice fun qd H13 n13 f13 L13 => ?_
          rw [en, cutA_drop, ← List.map_drop] at L13
          refine (L12.fr0 f13).cat L13 (by rw [List.length_map, List.length_map, List.length_take, List.length_drop]; omega) fun qe H14 n14 f14 L14 => ?_
          rw [← List.map_append] at L14
          have f1114 := (f12.trans f13).trans f14
          walk_at "go"
          refine (L11.fr0 f1114).slice fun qf H15 n15 f15 L15 => ?_
          rw [en, cutA_take, ← List.map_take] at L15
          walk_at "go"
          refine ((L11.fr0 f1114).fr0 f15).slice fun qg H16 n16 f16 L16 => ?_
          rw [cutA_drop, ← List.map_drop] at L16
          refine (L15.fr0 f16).cat L16 (by rw [List.length_map, List.length_map, List.length_take, List.length_drop]; omega) fun qh H17 n17 f17 L17 => ?_
          rw [← List.map_append] at L17
          have f1417 := (f15.trans f16).trans f17
          have L14 := L14.fr0 f1417
          walk_at "go"
          refine ⟨by show 2 ≤ sizeLine; decide, fun p18 n18 => ?_⟩
          have f18 : Fr [] H17 (upd H17 p18 (.lst [.ref qe, .ref qh])) := Fr.new n18
          have e18 : upd H17 p18 (.lst [.ref qe, .ref qh]) p18 = some (.lst [.ref qe, .ref qh]) := upd_same
          generalize upd H17 p18 (.lst [.ref qe, .ref qh]) = H18 at f18 e18
          have both : ∀ x ∈ ([.ref qe, .ref qh] : List V), ∃ (q : Addr) (rs : List LRow), x = .ref q ∧ Lq K H18 q (rs.map LRow.d) ∧ rs.length ≤ 1000 ∧ ∀ r ∈ rs, Gd r.k r.n := by
            intro x hx
            simp only [List.mem_cons, List.not_mem_nil, or_false] at hx
            rcases hx with rfl | rfl
            · refine ⟨qe, _, rfl, L14.fr0 f18, by rw [List.length_append, List.length_take, List.length_drop]; omega, fun r hr => ?_⟩
              rcases List.mem_append.mp hr with z | z
              · exact gd r (List.mem_of_mem_take z)
              · exact gd r (List.mem_of_mem_drop z)
            · refine ⟨qh, _, rfl, L17.fr0 f18, by rw [List.length_append, List.length_take, List.length_drop]; omega, fun r hr => ?_⟩
              rcases List.mem_append.mp hr with z | z
              · exact gd r (List.mem_of_mem_take z)
              · exact gd r (List.mem_of_mem_drop z)
          have f1118 := (f1114.trans f1417).trans f18
          refine F_L (SqL.of e18) (fun j σ H' => Fr [] H18 H' ∧ ∃ (v13 v14 : Option V), σ = [some (.ref a), some (.ref t), some (.ref ha), some (.ref d), some (.ref qa), some (.ref qb), some (.ref ql), some (.int (i : Int)), v8, v9, v10, v11, some (.int (n : Int)), v13, v14, v15]) ⟨Fr.refl, _, _, rfl⟩ (fun j σ H' _ h => h.1.seqL (SqL.of e18) (by simp)) ?_ ?_
          · rintro j x σ H19 hx ⟨f19, v13, v14, rfl⟩
            obtain ⟨q, rs, rfl, Lr, lrs, gr⟩ := both x (List.mem_of_getElem? hx)
            have fr6 := rows_fin gr
            have Lr := Lr.fr0 f19
            walk_at "go"
            refine ⟨_, _, rfl, Lq.ld Lr, (fun ds e => by cases e; exact ⟨by rw [List.length_map]; omega, fr6⟩), fun H20 c f20 hc => ?_⟩
            walk_at "go"
            refine ⟨_, _, rfl, Lq.ld (Lr.fr0 f20), (fun ds e => by cases e; exact ⟨by rw [List.length_map]; omega, fr6⟩), fun H21 c2 f21 hc2 => ?_⟩
            have ec : c = c2 := Bool.eq_iff_iff.mpr (hc.trans hc2.symm)
            subst ec
            walk_at "go"
            rw [decide_eq_true rfl]
            walk_at "go"
            exact ⟨(f19.trans f20).trans f21, _, _, rfl⟩
          · rintro σ H19 ⟨f19, v13, v14, rfl⟩
            walk_at "go"
            exact ⟨(f10.trans f11).trans (f1118.trans f19).to1, T11.fr (f1118.trans f19), _, _, _, _, rfl⟩
        · rintro σ H10 ⟨f10, T10, v7, v12, v13, v14, rfl⟩
          walk_at "go"
          exact k _
end
section
variable {w : World} {K : PySem.W.Frag} {h : Heap} {mg : Str → Option Value}
theorem mk_works_of (X : K.In h) (G : h.Ns mainGlobals mg) {f : Addr} {od an : Option Addr} {sl : Array (Option Value)} {oc kV dc pm cd ct : Value} (a : PySem.W.nsIn K mainGlobals "works_of" = some (some (.ref f))) (l : K.lookup f = some ⟨oc, od, .func (PySem.W.fnOf "works_of" "works_of" (defArgs s_works_of) (defBody s_works_of) (defScope s_works_of) .none kV dc pm an cd ct), sl⟩) (c : PySem.W.codeIn K cd "works_of" = true) (k : PySem.W.keepIn K (.ref f) = true) : Loc K mg "works_of" p_works_of s_works_of :=
  have F := fun_mk (st := s_works_of) l c k
  ⟨f, _, F, PySem.W.mg_of X G a, F.binds (ps := p_works_of) fun _ _ _ _ _ _ us hl => match us, hl with | [_], _ => rfl⟩
theorem mk_works_due (X : K.In h) (G : h.Ns mainGlobals mg) {f : Addr} {od an : Option Addr} {sl : Array (Option Value)} {oc kV dc pm cd ct : Value} (a : PySem.W.nsIn K mainGlobals "works_due" = some (some (.ref f))) (l : K.lookup f = some ⟨oc, od, .func (PySem.W.fnOf "works_due" "works_due" (defArgs s_works_due) (defBody s_works_due) (defScope s_works_due) .none kV dc pm an cd ct), sl⟩) (c : PySem.W.codeIn K cd "works_due" = true) (k : PySem.W.keepIn K (.ref f) = true) : Loc K mg "works_due" p_works_due s_works_due :=
  have F := fun_mk (st := s_works_due) l c k
  ⟨f, _, F, PySem.W.mg_of X G a, F.binds (ps := p_works_due) fun _ _ _ _ _ _ us hl => match us, hl with | [_, _], _ => rfl⟩
theorem mk_is_whole (X : K.In h) (G : h.Ns mainGlobals mg) {f : Addr} {od an : Option Addr} {sl : Array (Option Value)} {oc kV dc pm cd ct : Value} (a : PySem.W.nsIn K mainGlobals "is_whole" = some (some (.ref f))) (l : K.lookup f = some ⟨oc, od, .func (PySem.W.fnOf "is_whole" "is_whole" (defArgs s_is_whole) (defBody s_is_whole) (defScope s_is_whole) .none kV dc pm an cd ct), sl⟩) (c : PySem.W.codeIn K cd "is_whole" = true) (k : PySem.W.keepIn K (.ref f) = true) : Loc K mg "is_whole" p_is_whole s_is_whole :=
  have F := fun_mk (st := s_is_whole) l c k
  ⟨f, _, F, PySem.W.mg_of X G a, F.binds (ps := p_is_whole) fun _ _ _ _ _ _ us hl => match us, hl with | [_], _ => rfl⟩
theorem mk_is_number (X : K.In h) (G : h.Ns mainGlobals mg) {f : Addr} {od an : Option Addr} {sl : Array (Option Value)} {oc kV dc pm cd ct : Value} (a : PySem.W.nsIn K mainGlobals "is_number" = some (some (.ref f))) (l : K.lookup f = some ⟨oc, od, .func (PySem.W.fnOf "is_number" "is_number" (defArgs s_is_number) (defBody s_is_number) (defScope s_is_number) .none kV dc pm an cd ct), sl⟩) (c : PySem.W.codeIn K cd "is_number" = true) (k : PySem.W.keepIn K (.ref f) = true) : Loc K mg "is_number" p_is_number s_is_number :=
  have F := fun_mk (st := s_is_number) l c k
  ⟨f, _, F, PySem.W.mg_of X G a, F.binds (ps := p_is_number) fun _ _ _ _ _ _ us hl => match us, hl with | [_], _ => rfl⟩
theorem mk_is_name (X : K.In h) (G : h.Ns mainGlobals mg) {f : Addr} {od an : Option Addr} {sl : Array (Option Value)} {oc kV dc pm cd ct : Value} (a : PySem.W.nsIn K mainGlobals "is_name" = some (some (.ref f))) (l : K.lookup f = some ⟨oc, od, .func (PySem.W.fnOf "is_name" "is_name" (defArgs s_is_name) (defBody s_is_name) (defScope s_is_name) .none kV dc pm an cd ct), sl⟩) (c : PySem.W.codeIn K cd "is_name" = true) (k : PySem.W.keepIn K (.ref f) = true) : Loc K mg "is_name" p_is_name s_is_name :=
  have F := fun_mk (st := s_is_name) l c k
  ⟨f, _, F, PySem.W.mg_of X G a, F.binds (ps := p_is_name) fun _ _ _ _ _ _ us hl => match us, hl with | [_], _ => rfl⟩
theorem mk_is_count (X : K.In h) (G : h.Ns mainGlobals mg) {f : Addr} {od an : Option Addr} {sl : Array (Option Value)} {oc kV dc pm cd ct : Value} (a : PySem.W.nsIn K mainGlobals "is_count" = some (some (.ref f))) (l : K.lookup f = some ⟨oc, od, .func (PySem.W.fnOf "is_count" "is_count" (defArgs s_is_count) (defBody s_is_count) (defScope s_is_count) .none kV dc pm an cd ct), sl⟩) (c : PySem.W.codeIn K cd "is_count" = true) (k : PySem.W.keepIn K (.ref f) = true) : Loc K mg "is_count" p_is_count s_is_count :=
  have F := fun_mk (st := s_is_count) l c k
  ⟨f, _, F, PySem.W.mg_of X G a, F.binds (ps := p_is_count) fun _ _ _ _ _ _ us hl => match us, hl with | [_], _ => rfl⟩
theorem mk_is_spot (X : K.In h) (G : h.Ns mainGlobals mg) {f : Addr} {od an : Option Addr} {sl : Array (Option Value)} {oc kV dc pm cd ct : Value} (a : PySem.W.nsIn K mainGlobals "is_spot" = some (some (.ref f))) (l : K.lookup f = some ⟨oc, od, .func (PySem.W.fnOf "is_spot" "is_spot" (defArgs s_is_spot) (defBody s_is_spot) (defScope s_is_spot) .none kV dc pm an cd ct), sl⟩) (c : PySem.W.codeIn K cd "is_spot" = true) (k : PySem.W.keepIn K (.ref f) = true) : Loc K mg "is_spot" p_is_spot s_is_spot :=
  have F := fun_mk (st := s_is_spot) l c k
  ⟨f, _, F, PySem.W.mg_of X G a, F.binds (ps := p_is_spot) fun _ _ _ _ _ _ us hl => match us, hl with | [_], _ => rfl⟩
theorem mk_is_path (X : K.In h) (G : h.Ns mainGlobals mg) {f : Addr} {od an : Option Addr} {sl : Array (Option Value)} {oc kV dc pm cd ct : Value} (a : PySem.W.nsIn K mainGlobals "is_path" = some (some (.ref f))) (l : K.lookup f = some ⟨oc, od, .func (PySem.W.fnOf "is_path" "is_path" (defArgs s_is_path) (defBody s_is_path) (defScope s_is_path) .none kV dc pm an cd ct), sl⟩) (c : PySem.W.codeIn K cd "is_path" = true) (k : PySem.W.keepIn K (.ref f) = true) : Loc K mg "is_path" p_is_path s_is_path :=
  have F := fun_mk (st := s_is_path) l c k
  ⟨f, _, F, PySem.W.mg_of X G a, F.binds (ps := p_is_path) fun _ _ _ _ _ _ us hl => match us, hl with | [_], _ => rfl⟩
theorem mk_is_row (X : K.In h) (G : h.Ns mainGlobals mg) {f : Addr} {od an : Option Addr} {sl : Array (Option Value)} {oc kV dc pm cd ct : Value} (a : PySem.W.nsIn K mainGlobals "is_row" = some (some (.ref f))) (l : K.lookup f = some ⟨oc, od, .func (PySem.W.fnOf "is_row" "is_row" (defArgs s_is_row) (defBody s_is_row) (defScope s_is_row) .none kV dc pm an cd ct), sl⟩) (c : PySem.W.codeIn K cd "is_row" = true) (k : PySem.W.keepIn K (.ref f) = true) : Loc K mg "is_row" p_is_row s_is_row :=
  have F := fun_mk (st := s_is_row) l c k
  ⟨f, _, F, PySem.W.mg_of X G a, F.binds (ps := p_is_row) fun _ _ _ _ _ _ us hl => match us, hl with | [_], _ => rfl⟩
theorem mk_stands_behind (X : K.In h) (G : h.Ns mainGlobals mg) {f : Addr} {od an : Option Addr} {sl : Array (Option Value)} {oc kV dc pm cd ct : Value} (a : PySem.W.nsIn K mainGlobals "stands_behind" = some (some (.ref f))) (l : K.lookup f = some ⟨oc, od, .func (PySem.W.fnOf "stands_behind" "stands_behind" (defArgs s_stands_behind) (defBody s_stands_behind) (defScope s_stands_behind) .none kV dc pm an cd ct), sl⟩) (c : PySem.W.codeIn K cd "stands_behind" = true) (k : PySem.W.keepIn K (.ref f) = true) : Loc K mg "stands_behind" p_stands_behind s_stands_behind :=
  have F := fun_mk (st := s_stands_behind) l c k
  ⟨f, _, F, PySem.W.mg_of X G a, F.binds (ps := p_stands_behind) fun _ _ _ _ _ _ us hl => match us, hl with | [_], _ => rfl⟩
theorem mk_lets_log (X : K.In h) (G : h.Ns mainGlobals mg) {f : Addr} {od an : Option Addr} {sl : Array (Option Value)} {oc kV dc pm cd ct : Value} (a : PySem.W.nsIn K mainGlobals "lets_log" = some (some (.ref f))) (l : K.lookup f = some ⟨oc, od, .func (PySem.W.fnOf "lets_log" "lets_log" (defArgs s_lets_log) (defBody s_lets_log) (defScope s_lets_log) .none kV dc pm an cd ct), sl⟩) (c : PySem.W.codeIn K cd "lets_log" = true) (k : PySem.W.keepIn K (.ref f) = true) : Loc K mg "lets_log" p_lets_log s_lets_log :=
  have F := fun_mk (st := s_lets_log) l c k
  ⟨f, _, F, PySem.W.mg_of X G a, F.binds (ps := p_lets_log) fun _ _ _ _ _ _ us hl => match us, hl with | [_], _ => rfl⟩
theorem mk_standing (X : K.In h) (G : h.Ns mainGlobals mg) {f : Addr} {od an : Option Addr} {sl : Array (Option Value)} {oc kV dc pm cd ct : Value} (a : PySem.W.nsIn K mainGlobals "standing" = some (some (.ref f))) (l : K.lookup f = some ⟨oc, od, .func (PySem.W.fnOf "standing" "standing" (defArgs s_standing) (defBody s_standing) (defScope s_standing) .none kV dc pm an cd ct), sl⟩) (c : PySem.W.codeIn K cd "standing" = true) (k : PySem.W.keepIn K (.ref f) = true) : Loc K mg "standing" p_standing s_standing :=
  have F := fun_mk (st := s_standing) l c k
  ⟨f, _, F, PySem.W.mg_of X G a, F.binds (ps := p_standing) fun _ _ _ _ _ _ us hl => match us, hl with | [_], _ => rfl⟩
theorem mk_law_tape (X : K.In h) (G : h.Ns mainGlobals mg) {f : Addr} {od an : Option Addr} {sl : Array (Option Value)} {oc kV dc pm cd ct : Value} (a : PySem.W.nsIn K mainGlobals "_law_tape" = some (some (.ref f))) (l : K.lookup f = some ⟨oc, od, .func (PySem.W.fnOf "_law_tape" "_law_tape" (defArgs s_law_tape) (defBody s_law_tape) (defScope s_law_tape) .none kV dc pm an cd ct), sl⟩) (c : PySem.W.codeIn K cd "_law_tape" = true) (k : PySem.W.keepIn K (.ref f) = true) : Loc K mg "_law_tape" p_law_tape s_law_tape :=
  have F := fun_mk (st := s_law_tape) l c k
  ⟨f, _, F, PySem.W.mg_of X G a, F.binds (ps := p_law_tape) fun _ _ _ _ _ _ us hl => match us, hl with | [_], _ => rfl⟩
theorem mk_law_draw (X : K.In h) (G : h.Ns mainGlobals mg) {f : Addr} {od an : Option Addr} {sl : Array (Option Value)} {oc kV dc pm cd ct : Value} (a : PySem.W.nsIn K mainGlobals "_law_draw" = some (some (.ref f))) (l : K.lookup f = some ⟨oc, od, .func (PySem.W.fnOf "_law_draw" "_law_draw" (defArgs s_law_draw) (defBody s_law_draw) (defScope s_law_draw) .none kV dc pm an cd ct), sl⟩) (c : PySem.W.codeIn K cd "_law_draw" = true) (k : PySem.W.keepIn K (.ref f) = true) : Loc K mg "_law_draw" p_law_draw s_law_draw :=
  have F := fun_mk (st := s_law_draw) l c k
  ⟨f, _, F, PySem.W.mg_of X G a, F.binds (ps := p_law_draw) fun _ _ _ _ _ _ us hl => match us, hl with | [_, _], _ => rfl⟩
theorem mk_law_number (X : K.In h) (G : h.Ns mainGlobals mg) {f : Addr} {od an : Option Addr} {sl : Array (Option Value)} {oc kV dc pm cd ct : Value} (a : PySem.W.nsIn K mainGlobals "_law_number" = some (some (.ref f))) (l : K.lookup f = some ⟨oc, od, .func (PySem.W.fnOf "_law_number" "_law_number" (defArgs s_law_number) (defBody s_law_number) (defScope s_law_number) .none kV dc pm an cd ct), sl⟩) (c : PySem.W.codeIn K cd "_law_number" = true) (k : PySem.W.keepIn K (.ref f) = true) : Loc K mg "_law_number" p_law_number s_law_number :=
  have F := fun_mk (st := s_law_number) l c k
  ⟨f, _, F, PySem.W.mg_of X G a, F.binds (ps := p_law_number) fun _ _ _ _ _ _ us hl => match us, hl with | [_], _ => rfl⟩
theorem mk_law_leaf (X : K.In h) (G : h.Ns mainGlobals mg) {f : Addr} {od an : Option Addr} {sl : Array (Option Value)} {oc kV dc pm cd ct : Value} (a : PySem.W.nsIn K mainGlobals "_law_leaf" = some (some (.ref f))) (l : K.lookup f = some ⟨oc, od, .func (PySem.W.fnOf "_law_leaf" "_law_leaf" (defArgs s_law_leaf) (defBody s_law_leaf) (defScope s_law_leaf) .none kV dc pm an cd ct), sl⟩) (c : PySem.W.codeIn K cd "_law_leaf" = true) (k : PySem.W.keepIn K (.ref f) = true) : Loc K mg "_law_leaf" p_law_leaf s_law_leaf :=
  have F := fun_mk (st := s_law_leaf) l c k
  ⟨f, _, F, PySem.W.mg_of X G a, F.binds (ps := p_law_leaf) fun _ _ _ _ _ _ us hl => match us, hl with | [_, _], _ => rfl⟩
theorem mk_law_parts (X : K.In h) (G : h.Ns mainGlobals mg) {f : Addr} {od an : Option Addr} {sl : Array (Option Value)} {oc kV dc pm cd ct : Value} (a : PySem.W.nsIn K mainGlobals "_law_parts" = some (some (.ref f))) (l : K.lookup f = some ⟨oc, od, .func (PySem.W.fnOf "_law_parts" "_law_parts" (defArgs s_law_parts) (defBody s_law_parts) (defScope s_law_parts) .none kV dc pm an cd ct), sl⟩) (c : PySem.W.codeIn K cd "_law_parts" = true) (k : PySem.W.keepIn K (.ref f) = true) : Loc K mg "_law_parts" p_law_parts s_law_parts :=
  have F := fun_mk (st := s_law_parts) l c k
  ⟨f, _, F, PySem.W.mg_of X G a, F.binds (ps := p_law_parts) fun _ _ _ _ _ _ us hl => match us, hl with | [_], _ => rfl⟩
theorem mk_law_asked (X : K.In h) (G : h.Ns mainGlobals mg) {f : Addr} {od an : Option Addr} {sl : Array (Option Value)} {oc kV dc pm cd ct : Value} (a : PySem.W.nsIn K mainGlobals "_law_asked" = some (some (.ref f))) (l : K.lookup f = some ⟨oc, od, .func (PySem.W.fnOf "_law_asked" "_law_asked" (defArgs s_law_asked) (defBody s_law_asked) (defScope s_law_asked) .none kV dc pm an cd ct), sl⟩) (c : PySem.W.codeIn K cd "_law_asked" = true) (k : PySem.W.keepIn K (.ref f) = true) : Loc K mg "_law_asked" p_law_asked s_law_asked :=
  have F := fun_mk (st := s_law_asked) l c k
  ⟨f, _, F, PySem.W.mg_of X G a, F.binds (ps := p_law_asked) fun _ _ _ _ _ _ us hl => match us, hl with | [_, _, _], _ => rfl⟩
theorem mk_law_piece (X : K.In h) (G : h.Ns mainGlobals mg) {f : Addr} {od an : Option Addr} {sl : Array (Option Value)} {oc kV dc pm cd ct : Value} (a : PySem.W.nsIn K mainGlobals "_law_piece" = some (some (.ref f))) (l : K.lookup f = some ⟨oc, od, .func (PySem.W.fnOf "_law_piece" "_law_piece" (defArgs s_law_piece) (defBody s_law_piece) (defScope s_law_piece) .none kV dc pm an cd ct), sl⟩) (c : PySem.W.codeIn K cd "_law_piece" = true) (k : PySem.W.keepIn K (.ref f) = true) : Loc K mg "_law_piece" p_law_piece s_law_piece :=
  have F := fun_mk (st := s_law_piece) l c k
  ⟨f, _, F, PySem.W.mg_of X G a, F.binds (ps := p_law_piece) fun _ _ _ _ _ _ us hl => match us, hl with | [_, _], _ => rfl⟩
theorem mk_law_numbers (X : K.In h) (G : h.Ns mainGlobals mg) {f : Addr} {od an : Option Addr} {sl : Array (Option Value)} {oc kV dc pm cd ct : Value} (a : PySem.W.nsIn K mainGlobals "_law_numbers" = some (some (.ref f))) (l : K.lookup f = some ⟨oc, od, .func (PySem.W.fnOf "_law_numbers" "_law_numbers" (defArgs s_law_numbers) (defBody s_law_numbers) (defScope s_law_numbers) .none kV dc pm an cd ct), sl⟩) (c : PySem.W.codeIn K cd "_law_numbers" = true) (k : PySem.W.keepIn K (.ref f) = true) : Loc K mg "_law_numbers" p_law_numbers s_law_numbers :=
  have F := fun_mk (st := s_law_numbers) l c k
  ⟨f, _, F, PySem.W.mg_of X G a, F.binds (ps := p_law_numbers) fun _ _ _ _ _ _ us hl => match us, hl with | [_, _, _, _, _], _ => rfl⟩
theorem mk_law_drawing (X : K.In h) (G : h.Ns mainGlobals mg) {f : Addr} {od an : Option Addr} {sl : Array (Option Value)} {oc kV dc pm cd ct : Value} (a : PySem.W.nsIn K mainGlobals "_law_drawing" = some (some (.ref f))) (l : K.lookup f = some ⟨oc, od, .func (PySem.W.fnOf "_law_drawing" "_law_drawing" (defArgs s_law_drawing) (defBody s_law_drawing) (defScope s_law_drawing) .none kV dc pm an cd ct), sl⟩) (c : PySem.W.codeIn K cd "_law_drawing" = true) (k : PySem.W.keepIn K (.ref f) = true) : Loc K mg "_law_drawing" p_law_drawing s_law_drawing :=
  have F := fun_mk (st := s_law_drawing) l c k
  ⟨f, _, F, PySem.W.mg_of X G a, F.binds (ps := p_law_drawing) fun _ _ _ _ _ _ us hl => match us, hl with | [_, _, _], _ => rfl⟩
theorem mk_law_works (X : K.In h) (G : h.Ns mainGlobals mg) {f : Addr} {od an : Option Addr} {sl : Array (Option Value)} {oc kV dc pm cd ct : Value} (a : PySem.W.nsIn K mainGlobals "_law_works" = some (some (.ref f))) (l : K.lookup f = some ⟨oc, od, .func (PySem.W.fnOf "_law_works" "_law_works" (defArgs s_law_works) (defBody s_law_works) (defScope s_law_works) .none kV dc pm an cd ct), sl⟩) (c : PySem.W.codeIn K cd "_law_works" = true) (k : PySem.W.keepIn K (.ref f) = true) : Loc K mg "_law_works" p_law_works s_law_works :=
  have F := fun_mk (st := s_law_works) l c k
  ⟨f, _, F, PySem.W.mg_of X G a, F.binds (ps := p_law_works) fun _ _ _ _ _ _ us hl => match us, hl with | [_], _ => rfl⟩
theorem mk_law_is_number (X : K.In h) (G : h.Ns mainGlobals mg) {f : Addr} {od an : Option Addr} {sl : Array (Option Value)} {oc kV dc pm cd ct : Value} (a : PySem.W.nsIn K mainGlobals "_law_is_number" = some (some (.ref f))) (l : K.lookup f = some ⟨oc, od, .func (PySem.W.fnOf "_law_is_number" "_law_is_number" (defArgs s_law_is_number) (defBody s_law_is_number) (defScope s_law_is_number) .none kV dc pm an cd ct), sl⟩) (c : PySem.W.codeIn K cd "_law_is_number" = true) (k : PySem.W.keepIn K (.ref f) = true) : Loc K mg "_law_is_number" p_law_is_number s_law_is_number :=
  have F := fun_mk (st := s_law_is_number) l c k
  ⟨f, _, F, PySem.W.mg_of X G a, F.binds (ps := p_law_is_number) fun _ _ _ _ _ _ us hl => match us, hl with | [_], _ => rfl⟩
theorem mk_law_is_name (X : K.In h) (G : h.Ns mainGlobals mg) {f : Addr} {od an : Option Addr} {sl : Array (Option Value)} {oc kV dc pm cd ct : Value} (a : PySem.W.nsIn K mainGlobals "_law_is_name" = some (some (.ref f))) (l : K.lookup f = some ⟨oc, od, .func (PySem.W.fnOf "_law_is_name" "_law_is_name" (defArgs s_law_is_name) (defBody s_law_is_name) (defScope s_law_is_name) .none kV dc pm an cd ct), sl⟩) (c : PySem.W.codeIn K cd "_law_is_name" = true) (k : PySem.W.keepIn K (.ref f) = true) : Loc K mg "_law_is_name" p_law_is_name s_law_is_name :=
  have F := fun_mk (st := s_law_is_name) l c k
  ⟨f, _, F, PySem.W.mg_of X G a, F.binds (ps := p_law_is_name) fun _ _ _ _ _ _ us hl => match us, hl with | [_], _ => rfl⟩
theorem mk_law_is_path (X : K.In h) (G : h.Ns mainGlobals mg) {f : Addr} {od an : Option Addr} {sl : Array (Option Value)} {oc kV dc pm cd ct : Value} (a : PySem.W.nsIn K mainGlobals "_law_is_path" = some (some (.ref f))) (l : K.lookup f = some ⟨oc, od, .func (PySem.W.fnOf "_law_is_path" "_law_is_path" (defArgs s_law_is_path) (defBody s_law_is_path) (defScope s_law_is_path) .none kV dc pm an cd ct), sl⟩) (c : PySem.W.codeIn K cd "_law_is_path" = true) (k : PySem.W.keepIn K (.ref f) = true) : Loc K mg "_law_is_path" p_law_is_path s_law_is_path :=
  have F := fun_mk (st := s_law_is_path) l c k
  ⟨f, _, F, PySem.W.mg_of X G a, F.binds (ps := p_law_is_path) fun _ _ _ _ _ _ us hl => match us, hl with | [_], _ => rfl⟩
theorem mk_law_is_log_row (X : K.In h) (G : h.Ns mainGlobals mg) {f : Addr} {od an : Option Addr} {sl : Array (Option Value)} {oc kV dc pm cd ct : Value} (a : PySem.W.nsIn K mainGlobals "_law_is_log_row" = some (some (.ref f))) (l : K.lookup f = some ⟨oc, od, .func (PySem.W.fnOf "_law_is_log_row" "_law_is_log_row" (defArgs s_law_is_log_row) (defBody s_law_is_log_row) (defScope s_law_is_log_row) .none kV dc pm an cd ct), sl⟩) (c : PySem.W.codeIn K cd "_law_is_log_row" = true) (k : PySem.W.keepIn K (.ref f) = true) : Loc K mg "_law_is_log_row" p_law_is_log_row s_law_is_log_row :=
  have F := fun_mk (st := s_law_is_log_row) l c k
  ⟨f, _, F, PySem.W.mg_of X G a, F.binds (ps := p_law_is_log_row) fun _ _ _ _ _ _ us hl => match us, hl with | [_], _ => rfl⟩
theorem mk_law_stands (X : K.In h) (G : h.Ns mainGlobals mg) {f : Addr} {od an : Option Addr} {sl : Array (Option Value)} {oc kV dc pm cd ct : Value} (a : PySem.W.nsIn K mainGlobals "_law_stands" = some (some (.ref f))) (l : K.lookup f = some ⟨oc, od, .func (PySem.W.fnOf "_law_stands" "_law_stands" (defArgs s_law_stands) (defBody s_law_stands) (defScope s_law_stands) .none kV dc pm an cd ct), sl⟩) (c : PySem.W.codeIn K cd "_law_stands" = true) (k : PySem.W.keepIn K (.ref f) = true) : Loc K mg "_law_stands" p_law_stands s_law_stands :=
  have F := fun_mk (st := s_law_stands) l c k
  ⟨f, _, F, PySem.W.mg_of X G a, F.binds (ps := p_law_stands) fun _ _ _ _ _ _ us hl => match us, hl with | [_], _ => rfl⟩
theorem mk_law_lets (X : K.In h) (G : h.Ns mainGlobals mg) {f : Addr} {od an : Option Addr} {sl : Array (Option Value)} {oc kV dc pm cd ct : Value} (a : PySem.W.nsIn K mainGlobals "_law_lets" = some (some (.ref f))) (l : K.lookup f = some ⟨oc, od, .func (PySem.W.fnOf "_law_lets" "_law_lets" (defArgs s_law_lets) (defBody s_law_lets) (defScope s_law_lets) .none kV dc pm an cd ct), sl⟩) (c : PySem.W.codeIn K cd "_law_lets" = true) (k : PySem.W.keepIn K (.ref f) = true) : Loc K mg "_law_lets" p_law_lets s_law_lets :=
  have F := fun_mk (st := s_law_lets) l c k
  ⟨f, _, F, PySem.W.mg_of X G a, F.binds (ps := p_law_lets) fun _ _ _ _ _ _ us hl => match us, hl with | [_], _ => rfl⟩
theorem mk_law_alternate (X : K.In h) (G : h.Ns mainGlobals mg) {f : Addr} {od an : Option Addr} {sl : Array (Option Value)} {oc kV dc pm cd ct : Value} (a : PySem.W.nsIn K mainGlobals "_law_alternate" = some (some (.ref f))) (l : K.lookup f = some ⟨oc, od, .func (PySem.W.fnOf "_law_alternate" "_law_alternate" (defArgs s_law_alternate) (defBody s_law_alternate) (defScope s_law_alternate) .none kV dc pm an cd ct), sl⟩) (c : PySem.W.codeIn K cd "_law_alternate" = true) (k : PySem.W.keepIn K (.ref f) = true) : Loc K mg "_law_alternate" p_law_alternate s_law_alternate :=
  have F := fun_mk (st := s_law_alternate) l c k
  ⟨f, _, F, PySem.W.mg_of X G a, F.binds (ps := p_law_alternate) fun _ _ _ _ _ _ us hl => match us, hl with | [_], _ => rfl⟩
theorem mk_law (X : K.In h) (G : h.Ns mainGlobals mg) {f : Addr} {od an : Option Addr} {sl : Array (Option Value)} {oc kV dc pm cd ct : Value} (a : PySem.W.nsIn K mainGlobals "law" = some (some (.ref f))) (l : K.lookup f = some ⟨oc, od, .func (PySem.W.fnOf "law" "law" (defArgs s_law) (defBody s_law) (defScope s_law) .none kV dc pm an cd ct), sl⟩) (c : PySem.W.codeIn K cd "law" = true) (k : PySem.W.keepIn K (.ref f) = true) : Loc K mg "law" p_law s_law :=
  have F := fun_mk (st := s_law) l c k
  ⟨f, _, F, PySem.W.mg_of X G a, F.binds (ps := p_law) fun _ _ _ _ _ _ us hl => match us, hl with | [_], _ => rfl⟩
theorem all_env (X : K.In h) (G : h.Ns mainGlobals mg)
    {f0 : Addr} {od0 an0 : Option Addr} {sl0 : Array (Option Value)} {oc0 kV0 dc0 pm0 cd0 ct0 : Value}
    (a0 : PySem.W.nsIn K mainGlobals "works_of" = some (some (.ref f0))) (l0 : K.lookup f0 = some ⟨oc0, od0, .func (PySem.W.fnOf "works_of" "works_of" (defArgs s_works_of) (defBody s_works_of) (defScope s_works_of) .none kV0 dc0 pm0 an0 cd0 ct0), sl0⟩) (c0 : PySem.W.codeIn K cd0 "works_of" = true) (k0 : PySem.W.keepIn K (.ref f0) = true)
    {f1 : Addr} {od1 an1 : Option Addr} {sl1 : Array (Option Value)} {oc1 kV1 dc1 pm1 cd1 ct1 : Value}
    (a1 : PySem.W.nsIn K mainGlobals "works_due" = some (some (.ref f1))) (l1 : K.lookup f1 = some ⟨oc1, od1, .func (PySem.W.fnOf "works_due" "works_due" (defArgs s_works_due) (defBody s_works_due) (defScope s_works_due) .none kV1 dc1 pm1 an1 cd1 ct1), sl1⟩) (c1 : PySem.W.codeIn K cd1 "works_due" = true) (k1 : PySem.W.keepIn K (.ref f1) = true)
    {f2 : Addr} {od2 an2 : Option Addr} {sl2 : Array (Option Value)} {oc2 kV2 dc2 pm2 cd2 ct2 : Value}
    (a2 : PySem.W.nsIn K mainGlobals "is_whole" = some (some (.ref f2))) (l2 : K.lookup f2 = some ⟨oc2, od2, .func (PySem.W.fnOf "is_whole" "is_whole" (defArgs s_is_whole) (defBody s_is_whole) (defScope s_is_whole) .none kV2 dc2 pm2 an2 cd2 ct2), sl2⟩) (c2 : PySem.W.codeIn K cd2 "is_whole" = true) (k2 : PySem.W.keepIn K (.ref f2) = true)
    {f3 : Addr} {od3 an3 : Option Addr} {sl3 : Array (Option Value)} {oc3 kV3 dc3 pm3 cd3 ct3 : Value}
    (a3 : PySem.W.nsIn K mainGlobals "is_number" = some (some (.ref f3))) (l3 : K.lookup f3 = some ⟨oc3, od3, .func (PySem.W.fnOf "is_number" "is_number" (defArgs s_is_number) (defBody s_is_number) (defScope s_is_number) .none kV3 dc3 pm3 an3 cd3 ct3), sl3⟩) (c3 : PySem.W.codeIn K cd3 "is_number" = true) (k3 : PySem.W.keepIn K (.ref f3) = true)
    {f4 : Addr} {od4 an4 : Option Addr} {sl4 : Array (Option Value)} {oc4 kV4 dc4 pm4 cd4 ct4 : Value}
    (a4 : PySem.W.nsIn K mainGlobals "is_name" = some (some (.ref f4))) (l4 : K.lookup f4 = some ⟨oc4, od4, .func (PySem.W.fnOf "is_name" "is_name" (defArgs s_is_name) (defBody s_is_name) (defScope s_is_name) .none kV4 dc4 pm4 an4 cd4 ct4), sl4⟩) (c4 : PySem.W.codeIn K cd4 "is_name" = true) (k4 : PySem.W.keepIn K (.ref f4) = true)
    {f5 : Addr} {od5 an5 : Option Addr} {sl5 : Array (Option Value)} {oc5 kV5 dc5 pm5 cd5 ct5 : Value}
    (a5 : PySem.W.nsIn K mainGlobals "is_count" = some (some (.ref f5))) (l5 : K.lookup f5 = some ⟨oc5, od5, .func (PySem.W.fnOf "is_count" "is_count" (defArgs s_is_count) (defBody s_is_count) (defScope s_is_count) .none kV5 dc5 pm5 an5 cd5 ct5), sl5⟩) (c5 : PySem.W.codeIn K cd5 "is_count" = true) (k5 : PySem.W.keepIn K (.ref f5) = true)
    {f6 : Addr} {od6 an6 : Option Addr} {sl6 : Array (Option Value)} {oc6 kV6 dc6 pm6 cd6 ct6 : Value}
    (a6 : PySem.W.nsIn K mainGlobals "is_spot" = some (some (.ref f6))) (l6 : K.lookup f6 = some ⟨oc6, od6, .func (PySem.W.fnOf "is_spot" "is_spot" (defArgs s_is_spot) (defBody s_is_spot) (defScope s_is_spot) .none kV6 dc6 pm6 an6 cd6 ct6), sl6⟩) (c6 : PySem.W.codeIn K cd6 "is_spot" = true) (k6 : PySem.W.keepIn K (.ref f6) = true)
    {f7 : Addr} {od7 an7 : Option Addr} {sl7 : Array (Option Value)} {oc7 kV7 dc7 pm7 cd7 ct7 : Value}
    (a7 : PySem.W.nsIn K mainGlobals "is_path" = some (some (.ref f7))) (l7 : K.lookup f7 = some ⟨oc7, od7, .func (PySem.W.fnOf "is_path" "is_path" (defArgs s_is_path) (defBody s_is_path) (defScope s_is_path) .none kV7 dc7 pm7 an7 cd7 ct7), sl7⟩) (c7 : PySem.W.codeIn K cd7 "is_path" = true) (k7 : PySem.W.keepIn K (.ref f7) = true)
    {f8 : Addr} {od8 an8 : Option Addr} {sl8 : Array (Option Value)} {oc8 kV8 dc8 pm8 cd8 ct8 : Value}
    (a8 : PySem.W.nsIn K mainGlobals "is_row" = some (some (.ref f8))) (l8 : K.lookup f8 = some ⟨oc8, od8, .func (PySem.W.fnOf "is_row" "is_row" (defArgs s_is_row) (defBody s_is_row) (defScope s_is_row) .none kV8 dc8 pm8 an8 cd8 ct8), sl8⟩) (c8 : PySem.W.codeIn K cd8 "is_row" = true) (k8 : PySem.W.keepIn K (.ref f8) = true)
    {f9 : Addr} {od9 an9 : Option Addr} {sl9 : Array (Option Value)} {oc9 kV9 dc9 pm9 cd9 ct9 : Value}
    (a9 : PySem.W.nsIn K mainGlobals "stands_behind" = some (some (.ref f9))) (l9 : K.lookup f9 = some ⟨oc9, od9, .func (PySem.W.fnOf "stands_behind" "stands_behind" (defArgs s_stands_behind) (defBody s_stands_behind) (defScope s_stands_behind) .none kV9 dc9 pm9 an9 cd9 ct9), sl9⟩) (c9 : PySem.W.codeIn K cd9 "stands_behind" = true) (k9 : PySem.W.keepIn K (.ref f9) = true)
    {f10 : Addr} {od10 an10 : Option Addr} {sl10 : Array (Option Value)} {oc10 kV10 dc10 pm10 cd10 ct10 : Value}
    (a10 : PySem.W.nsIn K mainGlobals "lets_log" = some (some (.ref f10))) (l10 : K.lookup f10 = some ⟨oc10, od10, .func (PySem.W.fnOf "lets_log" "lets_log" (defArgs s_lets_log) (defBody s_lets_log) (defScope s_lets_log) .none kV10 dc10 pm10 an10 cd10 ct10), sl10⟩) (c10 : PySem.W.codeIn K cd10 "lets_log" = true) (k10 : PySem.W.keepIn K (.ref f10) = true)
    {f11 : Addr} {od11 an11 : Option Addr} {sl11 : Array (Option Value)} {oc11 kV11 dc11 pm11 cd11 ct11 : Value}
    (a11 : PySem.W.nsIn K mainGlobals "standing" = some (some (.ref f11))) (l11 : K.lookup f11 = some ⟨oc11, od11, .func (PySem.W.fnOf "standing" "standing" (defArgs s_standing) (defBody s_standing) (defScope s_standing) .none kV11 dc11 pm11 an11 cd11 ct11), sl11⟩) (c11 : PySem.W.codeIn K cd11 "standing" = true) (k11 : PySem.W.keepIn K (.ref f11) = true)
    {f12 : Addr} {od12 an12 : Option Addr} {sl12 : Array (Option Value)} {oc12 kV12 dc12 pm12 cd12 ct12 : Value}
    (a12 : PySem.W.nsIn K mainGlobals "_law_tape" = some (some (.ref f12))) (l12 : K.lookup f12 = some ⟨oc12, od12, .func (PySem.W.fnOf "_law_tape" "_law_tape" (defArgs s_law_tape) (defBody s_law_tape) (defScope s_law_tape) .none kV12 dc12 pm12 an12 cd12 ct12), sl12⟩) (c12 : PySem.W.codeIn K cd12 "_law_tape" = true) (k12 : PySem.W.keepIn K (.ref f12) = true)
    {f13 : Addr} {od13 an13 : Option Addr} {sl13 : Array (Option Value)} {oc13 kV13 dc13 pm13 cd13 ct13 : Value}
    (a13 : PySem.W.nsIn K mainGlobals "_law_draw" = some (some (.ref f13))) (l13 : K.lookup f13 = some ⟨oc13, od13, .func (PySem.W.fnOf "_law_draw" "_law_draw" (defArgs s_law_draw) (defBody s_law_draw) (defScope s_law_draw) .none kV13 dc13 pm13 an13 cd13 ct13), sl13⟩) (c13 : PySem.W.codeIn K cd13 "_law_draw" = true) (k13 : PySem.W.keepIn K (.ref f13) = true)
    {f14 : Addr} {od14 an14 : Option Addr} {sl14 : Array (Option Value)} {oc14 kV14 dc14 pm14 cd14 ct14 : Value}
    (a14 : PySem.W.nsIn K mainGlobals "_law_number" = some (some (.ref f14))) (l14 : K.lookup f14 = some ⟨oc14, od14, .func (PySem.W.fnOf "_law_number" "_law_number" (defArgs s_law_number) (defBody s_law_number) (defScope s_law_number) .none kV14 dc14 pm14 an14 cd14 ct14), sl14⟩) (c14 : PySem.W.codeIn K cd14 "_law_number" = true) (k14 : PySem.W.keepIn K (.ref f14) = true)
    {f15 : Addr} {od15 an15 : Option Addr} {sl15 : Array (Option Value)} {oc15 kV15 dc15 pm15 cd15 ct15 : Value}
    (a15 : PySem.W.nsIn K mainGlobals "_law_leaf" = some (some (.ref f15))) (l15 : K.lookup f15 = some ⟨oc15, od15, .func (PySem.W.fnOf "_law_leaf" "_law_leaf" (defArgs s_law_leaf) (defBody s_law_leaf) (defScope s_law_leaf) .none kV15 dc15 pm15 an15 cd15 ct15), sl15⟩) (c15 : PySem.W.codeIn K cd15 "_law_leaf" = true) (k15 : PySem.W.keepIn K (.ref f15) = true)
    {f16 : Addr} {od16 an16 : Option Addr} {sl16 : Array (Option Value)} {oc16 kV16 dc16 pm16 cd16 ct16 : Value}
    (a16 : PySem.W.nsIn K mainGlobals "_law_parts" = some (some (.ref f16))) (l16 : K.lookup f16 = some ⟨oc16, od16, .func (PySem.W.fnOf "_law_parts" "_law_parts" (defArgs s_law_parts) (defBody s_law_parts) (defScope s_law_parts) .none kV16 dc16 pm16 an16 cd16 ct16), sl16⟩) (c16 : PySem.W.codeIn K cd16 "_law_parts" = true) (k16 : PySem.W.keepIn K (.ref f16) = true)
    {f17 : Addr} {od17 an17 : Option Addr} {sl17 : Array (Option Value)} {oc17 kV17 dc17 pm17 cd17 ct17 : Value}
    (a17 : PySem.W.nsIn K mainGlobals "_law_asked" = some (some (.ref f17))) (l17 : K.lookup f17 = some ⟨oc17, od17, .func (PySem.W.fnOf "_law_asked" "_law_asked" (defArgs s_law_asked) (defBody s_law_asked) (defScope s_law_asked) .none kV17 dc17 pm17 an17 cd17 ct17), sl17⟩) (c17 : PySem.W.codeIn K cd17 "_law_asked" = true) (k17 : PySem.W.keepIn K (.ref f17) = true)
    {f18 : Addr} {od18 an18 : Option Addr} {sl18 : Array (Option Value)} {oc18 kV18 dc18 pm18 cd18 ct18 : Value}
    (a18 : PySem.W.nsIn K mainGlobals "_law_piece" = some (some (.ref f18))) (l18 : K.lookup f18 = some ⟨oc18, od18, .func (PySem.W.fnOf "_law_piece" "_law_piece" (defArgs s_law_piece) (defBody s_law_piece) (defScope s_law_piece) .none kV18 dc18 pm18 an18 cd18 ct18), sl18⟩) (c18 : PySem.W.codeIn K cd18 "_law_piece" = true) (k18 : PySem.W.keepIn K (.ref f18) = true)
    {f19 : Addr} {od19 an19 : Option Addr} {sl19 : Array (Option Value)} {oc19 kV19 dc19 pm19 cd19 ct19 : Value}
    (a19 : PySem.W.nsIn K mainGlobals "_law_numbers" = some (some (.ref f19))) (l19 : K.lookup f19 = some ⟨oc19, od19, .func (PySem.W.fnOf "_law_numbers" "_law_numbers" (defArgs s_law_numbers) (defBody s_law_numbers) (defScope s_law_numbers) .none kV19 dc19 pm19 an19 cd19 ct19), sl19⟩) (c19 : PySem.W.codeIn K cd19 "_law_numbers" = true) (k19 : PySem.W.keepIn K (.ref f19) = true)
    {f20 : Addr} {od20 an20 : Option Addr} {sl20 : Array (Option Value)} {oc20 kV20 dc20 pm20 cd20 ct20 : Value}
    (a20 : PySem.W.nsIn K mainGlobals "_law_drawing" = some (some (.ref f20))) (l20 : K.lookup f20 = some ⟨oc20, od20, .func (PySem.W.fnOf "_law_drawing" "_law_drawing" (defArgs s_law_drawing) (defBody s_law_drawing) (defScope s_law_drawing) .none kV20 dc20 pm20 an20 cd20 ct20), sl20⟩) (c20 : PySem.W.codeIn K cd20 "_law_drawing" = true) (k20 : PySem.W.keepIn K (.ref f20) = true)
    {f21 : Addr} {od21 an21 : Option Addr} {sl21 : Array (Option Value)} {oc21 kV21 dc21 pm21 cd21 ct21 : Value}
    (a21 : PySem.W.nsIn K mainGlobals "_law_works" = some (some (.ref f21))) (l21 : K.lookup f21 = some ⟨oc21, od21, .func (PySem.W.fnOf "_law_works" "_law_works" (defArgs s_law_works) (defBody s_law_works) (defScope s_law_works) .none kV21 dc21 pm21 an21 cd21 ct21), sl21⟩) (c21 : PySem.W.codeIn K cd21 "_law_works" = true) (k21 : PySem.W.keepIn K (.ref f21) = true)
    {f22 : Addr} {od22 an22 : Option Addr} {sl22 : Array (Option Value)} {oc22 kV22 dc22 pm22 cd22 ct22 : Value}
    (a22 : PySem.W.nsIn K mainGlobals "_law_is_number" = some (some (.ref f22))) (l22 : K.lookup f22 = some ⟨oc22, od22, .func (PySem.W.fnOf "_law_is_number" "_law_is_number" (defArgs s_law_is_number) (defBody s_law_is_number) (defScope s_law_is_number) .none kV22 dc22 pm22 an22 cd22 ct22), sl22⟩) (c22 : PySem.W.codeIn K cd22 "_law_is_number" = true) (k22 : PySem.W.keepIn K (.ref f22) = true)
    {f23 : Addr} {od23 an23 : Option Addr} {sl23 : Array (Option Value)} {oc23 kV23 dc23 pm23 cd23 ct23 : Value}
    (a23 : PySem.W.nsIn K mainGlobals "_law_is_name" = some (some (.ref f23))) (l23 : K.lookup f23 = some ⟨oc23, od23, .func (PySem.W.fnOf "_law_is_name" "_law_is_name" (defArgs s_law_is_name) (defBody s_law_is_name) (defScope s_law_is_name) .none kV23 dc23 pm23 an23 cd23 ct23), sl23⟩) (c23 : PySem.W.codeIn K cd23 "_law_is_name" = true) (k23 : PySem.W.keepIn K (.ref f23) = true)
    {f24 : Addr} {od24 an24 : Option Addr} {sl24 : Array (Option Value)} {oc24 kV24 dc24 pm24 cd24 ct24 : Value}
    (a24 : PySem.W.nsIn K mainGlobals "_law_is_path" = some (some (.ref f24))) (l24 : K.lookup f24 = some ⟨oc24, od24, .func (PySem.W.fnOf "_law_is_path" "_law_is_path" (defArgs s_law_is_path) (defBody s_law_is_path) (defScope s_law_is_path) .none kV24 dc24 pm24 an24 cd24 ct24), sl24⟩) (c24 : PySem.W.codeIn K cd24 "_law_is_path" = true) (k24 : PySem.W.keepIn K (.ref f24) = true)
    {f25 : Addr} {od25 an25 : Option Addr} {sl25 : Array (Option Value)} {oc25 kV25 dc25 pm25 cd25 ct25 : Value}
    (a25 : PySem.W.nsIn K mainGlobals "_law_is_log_row" = some (some (.ref f25))) (l25 : K.lookup f25 = some ⟨oc25, od25, .func (PySem.W.fnOf "_law_is_log_row" "_law_is_log_row" (defArgs s_law_is_log_row) (defBody s_law_is_log_row) (defScope s_law_is_log_row) .none kV25 dc25 pm25 an25 cd25 ct25), sl25⟩) (c25 : PySem.W.codeIn K cd25 "_law_is_log_row" = true) (k25 : PySem.W.keepIn K (.ref f25) = true)
    {f26 : Addr} {od26 an26 : Option Addr} {sl26 : Array (Option Value)} {oc26 kV26 dc26 pm26 cd26 ct26 : Value}
    (a26 : PySem.W.nsIn K mainGlobals "_law_stands" = some (some (.ref f26))) (l26 : K.lookup f26 = some ⟨oc26, od26, .func (PySem.W.fnOf "_law_stands" "_law_stands" (defArgs s_law_stands) (defBody s_law_stands) (defScope s_law_stands) .none kV26 dc26 pm26 an26 cd26 ct26), sl26⟩) (c26 : PySem.W.codeIn K cd26 "_law_stands" = true) (k26 : PySem.W.keepIn K (.ref f26) = true)
    {f27 : Addr} {od27 an27 : Option Addr} {sl27 : Array (Option Value)} {oc27 kV27 dc27 pm27 cd27 ct27 : Value}
    (a27 : PySem.W.nsIn K mainGlobals "_law_lets" = some (some (.ref f27))) (l27 : K.lookup f27 = some ⟨oc27, od27, .func (PySem.W.fnOf "_law_lets" "_law_lets" (defArgs s_law_lets) (defBody s_law_lets) (defScope s_law_lets) .none kV27 dc27 pm27 an27 cd27 ct27), sl27⟩) (c27 : PySem.W.codeIn K cd27 "_law_lets" = true) (k27 : PySem.W.keepIn K (.ref f27) = true)
    {f28 : Addr} {od28 an28 : Option Addr} {sl28 : Array (Option Value)} {oc28 kV28 dc28 pm28 cd28 ct28 : Value}
    (a28 : PySem.W.nsIn K mainGlobals "_law_alternate" = some (some (.ref f28))) (l28 : K.lookup f28 = some ⟨oc28, od28, .func (PySem.W.fnOf "_law_alternate" "_law_alternate" (defArgs s_law_alternate) (defBody s_law_alternate) (defScope s_law_alternate) .none kV28 dc28 pm28 an28 cd28 ct28), sl28⟩) (c28 : PySem.W.codeIn K cd28 "_law_alternate" = true) (k28 : PySem.W.keepIn K (.ref f28) = true)
    {f29 : Addr} {od29 an29 : Option Addr} {sl29 : Array (Option Value)} {oc29 kV29 dc29 pm29 cd29 ct29 : Value}
    (a29 : PySem.W.nsIn K mainGlobals "law" = some (some (.ref f29))) (l29 : K.lookup f29 = some ⟨oc29, od29, .func (PySem.W.fnOf "law" "law" (defArgs s_law) (defBody s_law) (defScope s_law) .none kV29 dc29 pm29 an29 cd29 ct29), sl29⟩) (c29 : PySem.W.codeIn K cd29 "law" = true) (k29 : PySem.W.keepIn K (.ref f29) = true)
    (z_abs : PySem.W.nsIn K mainGlobals "abs" = some none)
    (z_all : PySem.W.nsIn K mainGlobals "all" = some none)
    (z_bool : PySem.W.nsIn K mainGlobals "bool" = some none)
    (z_int : PySem.W.nsIn K mainGlobals "int" = some none)
    (z_isinstance : PySem.W.nsIn K mainGlobals "isinstance" = some none)
    (z_len : PySem.W.nsIn K mainGlobals "len" = some none)
    (z_list : PySem.W.nsIn K mainGlobals "list" = some none)
    (z_range : PySem.W.nsIn K mainGlobals "range" = some none)
    (z_reversed : PySem.W.nsIn K mainGlobals "reversed" = some none)
    (z_sorted : PySem.W.nsIn K mainGlobals "sorted" = some none)
    (z_str : PySem.W.nsIn K mainGlobals "str" = some none)
    (z_tuple : PySem.W.nsIn K mainGlobals "tuple" = some none)
    (z_zip : PySem.W.nsIn K mainGlobals "zip" = some none)
    {t_GREATEST : Tok} (g_GREATEST : PySem.W.nsIn K mainGlobals "GREATEST" = some (some (.int 1000000000 t_GREATEST)))
    {t_LETTERS : Tok} (g_LETTERS : PySem.W.nsIn K mainGlobals "LETTERS" = some (some (.str "abcdefghijklmnopqrstuvwxyz" t_LETTERS))) : Env K mg :=
  { l_works_of := mk_works_of X G a0 l0 c0 k0,
    l_works_due := mk_works_due X G a1 l1 c1 k1,
    l_is_whole := mk_is_whole X G a2 l2 c2 k2,
    l_is_number := mk_is_number X G a3 l3 c3 k3,
    l_is_name := mk_is_name X G a4 l4 c4 k4,
    l_is_count := mk_is_count X G a5 l5 c5 k5,
    l_is_spot := mk_is_spot X G a6 l6 c6 k6,
    l_is_path := mk_is_path X G a7 l7 c7 k7,
    l_is_row := mk_is_row X G a8 l8 c8 k8,
    l_stands_behind := mk_stands_behind X G a9 l9 c9 k9,
    l_lets_log := mk_lets_log X G a10 l10 c10 k10,
    l_standing := mk_standing X G a11 l11 c11 k11,
    l_law_tape := mk_law_tape X G a12 l12 c12 k12,
    l_law_draw := mk_law_draw X G a13 l13 c13 k13,
    l_law_number := mk_law_number X G a14 l14 c14 k14,
    l_law_leaf := mk_law_leaf X G a15 l15 c15 k15,
    l_law_parts := mk_law_parts X G a16 l16 c16 k16,
    l_law_asked := mk_law_asked X G a17 l17 c17 k17,
    l_law_piece := mk_law_piece X G a18 l18 c18 k18,
    l_law_numbers := mk_law_numbers X G a19 l19 c19 k19,
    l_law_drawing := mk_law_drawing X G a20 l20 c20 k20,
    l_law_works := mk_law_works X G a21 l21 c21 k21,
    l_law_is_number := mk_law_is_number X G a22 l22 c22 k22,
    l_law_is_name := mk_law_is_name X G a23 l23 c23 k23,
    l_law_is_path := mk_law_is_path X G a24 l24 c24 k24,
    l_law_is_log_row := mk_law_is_log_row X G a25 l25 c25 k25,
    l_law_stands := mk_law_stands X G a26 l26 c26 k26,
    l_law_lets := mk_law_lets X G a27 l27 c27 k27,
    l_law_alternate := mk_law_alternate X G a28 l28 c28 k28,
    l_law := mk_law X G a29 l29 c29 k29,
    m_abs := PySem.W.mg_none_of X G z_abs,
    m_all := PySem.W.mg_none_of X G z_all,
    m_bool := PySem.W.mg_none_of X G z_bool,
    m_int := PySem.W.mg_none_of X G z_int,
    m_isinstance := PySem.W.mg_none_of X G z_isinstance,
    m_len := PySem.W.mg_none_of X G z_len,
    m_list := PySem.W.mg_none_of X G z_list,
    m_range := PySem.W.mg_none_of X G z_range,
    m_reversed := PySem.W.mg_none_of X G z_reversed,
    m_sorted := PySem.W.mg_none_of X G z_sorted,
    m_str := PySem.W.mg_none_of X G z_str,
    m_tuple := PySem.W.mg_none_of X G z_tuple,
    m_zip := PySem.W.mg_none_of X G z_zip,
    g_GREATEST := ⟨_, PySem.W.mg_of X G g_GREATEST⟩,
    g_LETTERS := ⟨_, PySem.W.mg_of X G g_LETTERS⟩ }
theorem walk {l : PySem.W.OpenLaw} {q : Program} {loose : List Str} {XP : (Str → Option Value) → Heap → Prop} {YP : World → Heap → Prop} {d : DefRec} {K : Params → PySem.W.Frag} (hn : l.most = some 63) (hdf : d.params.defaults = [])
    (hY : ∀ (w : World) (h : Heap), YP w h → (K w.params).In h) (hd : d.name = "law")
    (F : ∀ (w : World) (mg : Str → Option Value) (h : Heap), (K w.params).In h → h.Ns mainGlobals mg → Env (K w.params) mg) :
    PySem.W.WalkO q loose XP YP l.row.toRowW d [] (fun f vs => PySem.call f vs) :=
  L2.walk_of (n := 63) (k := 7) (x := "_law_script") (CX := fun _ => CX0) (sp := fun w => sp_law (K w.params)) hn (by decide) hdf ⟨rfl, by decide, by decide⟩ hY (fun w mg fa h KX G hmg => by
    have T := F w mg h KX G
    obtain ⟨f, fd, F1, m, b⟩ := T.l_law.ex
    rw [hd] at hmg
    have e := hmg.symm.trans m
    cases e
    refine ⟨fd, fun s v => ?_, fun base _ _ => ?_⟩
    · obtain ⟨oc, od, kV, doc, pm, an, cdv, ct, osl, rfl, lk, hcd⟩ := F1.ex
      exact .of_eq rfl
    · exact ok_law T F1) (fun _ _ a ns hl _ hS => ⟨a, ns, rfl, hS, hl, fun _ => rfl⟩) fun _ _ _ _ _ z => z
end
end LW
open PySem PySem.W PyProof.Rows
set_option maxRecDepth 100000 in
set_option maxHeartbeats 0 in
theorem PySem.Challenge.cw_viewwood_k72_whole_works_along_drawings_holds : PySem.Challenge.rw_viewwood_k72_whole_works_along_drawings.Holds := by
  w_on; o_law; k_head; (case hw => w_witness2)
  k_fill
  refine LW.walk (l := PySem.Challenge.rw_viewwood_k72_whole_works_along_drawings) rfl rfl (fun w h Y => PySem.W.kIn_of Y) rfl ?F
  case F =>
    intro w mg h KX G
    refine' LW.all_env KX G ?a0 ?l0 ?c0 ?k0 ?a1 ?l1 ?c1 ?k1 ?a2 ?l2 ?c2 ?k2 ?a3 ?l3 ?c3 ?k3 ?a4 ?l4 ?c4 ?k4 ?a5 ?l5 ?c5 ?k5 ?a6 ?l6 ?c6 ?k6 ?a7 ?l7 ?c7 ?k7 ?a8 ?l8 ?c8 ?k8 ?a9 ?l9 ?c9 ?k9 ?a10 ?l10 ?c10 ?k10 ?a11 ?l11 ?c11 ?k11 ?a12 ?l12 ?c12 ?k12 ?a13 ?l13 ?c13 ?k13 ?a14 ?l14 ?c14 ?k14 ?a15 ?l15 ?c15 ?k15 ?a16 ?l16 ?c16 ?k16 ?a17 ?l17 ?c17 ?k17 ?a18 ?l18 ?c18 ?k18 ?a19 ?l19 ?c19 ?k19 ?a20 ?l20 ?c20 ?k20 ?a21 ?l21 ?c21 ?k21 ?a22 ?l22 ?c22 ?k22 ?a23 ?l23 ?c23 ?k23 ?a24 ?l24 ?c24 ?k24 ?a25 ?l25 ?c25 ?k25 ?a26 ?l26 ?c26 ?k26 ?a27 ?l27 ?c27 ?k27 ?a28 ?l28 ?c28 ?k28 ?a29 ?l29 ?c29 ?k29 ?z_abs ?z_all ?z_bool ?z_int ?z_isinstance ?z_len ?z_list ?z_range ?z_reversed ?z_sorted ?z_str ?z_tuple ?z_zip ?g_GREATEST ?g_LETTERS
    (case a0 => k_is)
    (case l0 => k_is)
    (case c0 => k_is)
    (case k0 => k_is)
    (case a1 => k_is)
    (case l1 => k_is)
    (case c1 => k_is)
    (case k1 => k_is)
    (case a2 => k_is)
    (case l2 => k_is)
    (case c2 => k_is)
    (case k2 => k_is)
    (case a3 => k_is)
    (case l3 => k_is)
    (case c3 => k_is)
    (case k3 => k_is)
    (case a4 => k_is)
    (case l4 => k_is)
    (case c4 => k_is)
    (case k4 => k_is)
    (case a5 => k_is)
    (case l5 => k_is)
    (case c5 => k_is)
    (case k5 => k_is)
    (case a6 => k_is)
    (case l6 => k_is)
    (case c6 => k_is)
    (case k6 => k_is)
    (case a7 => k_is)
    (case l7 => k_is)
    (case c7 => k_is)
    (case k7 => k_is)
    (case a8 => k_is)
    (case l8 => k_is)
    (case c8 => k_is)
    (case k8 => k_is)
    (case a9 => k_is)
    (case l9 => k_is)
    (case c9 => k_is)
    (case k9 => k_is)
    (case a10 => k_is)
    (case l10 => k_is)
    (case c10 => k_is)
    (case k10 => k_is)
    (case a11 => k_is)
    (case l11 => k_is)
    (case c11 => k_is)
    (case k11 => k_is)
    (case a12 => k_is)
    (case l12 => k_is)
    (case c12 => k_is)
    (case k12 => k_is)
    (case a13 => k_is)
    (case l13 => k_is)
    (case c13 => k_is)
    (case k13 => k_is)
    (case a14 => k_is)
    (case l14 => k_is)
    (case c14 => k_is)
    (case k14 => k_is)
    (case a15 => k_is)
    (case l15 => k_is)
    (case c15 => k_is)
    (case k15 => k_is)
    (case a16 => k_is)
    (case l16 => k_is)
    (case c16 => k_is)
    (case k16 => k_is)
    (case a17 => k_is)
    (case l17 => k_is)
    (case c17 => k_is)
    (case k17 => k_is)
    (case a18 => k_is)
    (case l18 => k_is)
    (case c18 => k_is)
    (case k18 => k_is)
    (case a19 => k_is)
    (case l19 => k_is)
    (case c19 => k_is)
    (case k19 => k_is)
    (case a20 => k_is)
    (case l20 => k_is)
    (case c20 => k_is)
    (case k20 => k_is)
    (case a21 => k_is)
    (case l21 => k_is)
    (case c21 => k_is)
    (case k21 => k_is)
    (case a22 => k_is)
    (case l22 => k_is)
    (case c22 => k_is)
    (case k22 => k_is)
    (case a23 => k_is)
    (case l23 => k_is)
    (case c23 => k_is)
    (case k23 => k_is)
    (case a24 => k_is)
    (case l24 => k_is)
    (case c24 => k_is)
    (case k24 => k_is)
    (case a25 => k_is)
    (case l25 => k_is)
    (case c25 => k_is)
    (case k25 => k_is)
    (case a26 => k_is)
    (case l26 => k_is)
    (case c26 => k_is)
    (case k26 => k_is)
    (case a27 => k_is)
    (case l27 => k_is)
    (case c27 => k_is)
    (case k27 => k_is)
    (case a28 => k_is)
    (case l28 => k_is)
    (case c28 => k_is)
    (case k28 => k_is)
    (case a29 => k_is)
    (case l29 => k_is)
    (case c29 => k_is)
    (case k29 => k_is)
    (case z_abs => k_is)
    (case z_all => k_is)
    (case z_bool => k_is)
    (case z_int => k_is)
    (case z_isinstance => k_is)
    (case z_len => k_is)
    (case z_list => k_is)
    (case z_range => k_is)
    (case z_reversed => k_is)
    (case z_sorted => k_is)
    (case z_str => k_is)
    (case z_tuple => k_is)
    (case z_zip => k_is)
    (case g_GREATEST => k_is)
    (case g_LETTERS => k_is)

