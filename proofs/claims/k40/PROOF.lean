import PyProof.Rows.All
import Wide.All
import OpenK.AllK
import Wide.FinOn
import HandS.ForMost
import HandS.Wide
import HandS.IsInst
import HandS.TupAny
import HandS.Codes
import HandS.Deep
import HandS.Rev
import HandS.TupLe
import PyProof.NeKinds
import PyProof.FactsAll.dict_1
import PyProof.FactsAll.dict_2
import HandS.More
import HandS.Walk
import HandS.RevRange
import HandS.Conv
import HandS.DictTup
import HandS.ReCall
import HandS.Iter
import KE.KDictKeyed
import KE.KDictLaw
import KE.KDictWalk
import PyProof.DictRoadsH
import PyProof.Rows.RegStrCode
import KE.SortData
import KE.KDictSum
import KE.KDictCopyH
import KE.KDictPairs
import HandS.HeadHook3
import HandS.ForExc
import HandS.ExcInit
import HandS.ExcField
import HandS.ExcIs
import KE.KExcIs
import HandS.RevTup
import PyProof.ListNew
import PySem.Challenge.RW_viewwood_k40_deeds_refused
set_option Elab.async false
set_option linter.all false
set_option maxRecDepth 100000
/-! a dict against a text: == is false, != true -/
namespace U
open PySem PySem.SeqAt
open PySem.AutoSeq1 (wpAny_loadPart')
open PySem.MeetsSeq PySem.MeetsSeq2 PySem.MeetsSeq3
theorem dict_ne_declines_str (l : Addr) (o : Obj) (b : Str) (u : Tok) (hc : o.cls = .type "dict") (es : Array DictEntry) (ep : Nat) (hd : o.data = .dict es ep) :
    Meets (Builtin.«dict.__ne__» ⟨[.ref l, .str b u], []⟩) (fun _ R s => s.heap.get? l = some o ∧ R (.ok (.ret .notImplemented)) s) :=
  .of_wp fun prog w A R s h => by
    obtain ⟨hp, g, d, tk, os⟩ := s; obtain ⟨hl, h⟩ := h; have f1 := F.sub_str_dict
    obtain ⟨cls, dd, data, sl⟩ := o
    simp only at hc hd
    subst hc hd
    wp_walk using wpAny_loadPart' hl, wpAny_load hl
    exact ⟨_, rfl, h⟩
theorem str_ne_declines_dict (b : Str) (u : Tok) (l : Addr) (o : Obj) (hc : o.cls = .type "dict") (es : Array DictEntry) (ep : Nat) (hd : o.data = .dict es ep) :
    Meets (Builtin.«str.__ne__» ⟨[.str b u, .ref l], []⟩) (fun _ R s => s.heap.get? l = some o ∧ R (.ok (.ret .notImplemented)) s) :=
  .of_wp fun prog w A R s h => by
    obtain ⟨hp, g, d, tk, os⟩ := s; obtain ⟨hl, h⟩ := h
    obtain ⟨cls, dd, data, sl⟩ := o
    simp only at hc hd
    subst hc hd
    wp_walk using wpAny_loadPart' hl, wpAny_load hl
    exact ⟨_, rfl, h⟩
section
variable {A : Around} {s : Shared}
theorem rcNe_dict_str {l : Addr} {o : Obj} {es : Array DictEntry} {ep : Nat} (b : Str) (u : Tok) (ho : s.heap.get? l = some o) (hc : o.cls = .type "dict") (hd : o.data = .dict es ep) (hu : A.units < cLine) : RcNeAt A s (.ref l) (.str b u) true := fun prog w E Q h =>
  rc_ne_decline_or (k := false) ⟨_, ho, hc⟩ (typeIs_str s b u) (by decide) F.sub_str_dict F.slot_dict_ne F.slot_str_ne_refl
    (fun _ hq => call_meets F.slot_dict_ne ⟨_, ho, hc⟩ F.entry_dict_ne (F.args_dict_ne_2 _ _) (dict_ne_declines_str l o b u hc es ep hd) ⟨ho, hq⟩)
    (fun _ hq => call_meets F.slot_str_ne_refl (typeIs_str s b u) F.entry_str_ne (F.args_str_ne_2 _ _) (str_ne_declines_dict b u l o hc es ep hd) ⟨ho, hq⟩)
    (fun _ hq => wpAny_of_eq (rfl : isSame (.ref l) (.str b u) = pure false) hq) (.inr hu) h
end
theorem dict_eq_declines_str (l : Addr) (o : Obj) (b : Str) (u : Tok) (hc : o.cls = .type "dict") (es : Array DictEntry) (ep : Nat) (hd : o.data = .dict es ep) :
    Meets (Builtin.«dict.__eq__» ⟨[.ref l, .str b u], []⟩) (fun _ R s => s.heap.get? l = some o ∧ R (.ok (.ret .notImplemented)) s) :=
  .of_wp fun prog w A R s h => by
    obtain ⟨hp, g, d, tk, os⟩ := s; obtain ⟨hl, h⟩ := h; have f1 := F.sub_str_dict
    obtain ⟨cls, dd, data, sl⟩ := o
    simp only at hc hd
    subst hc hd
    wp_walk using wpAny_loadPart' hl, wpAny_load hl
    exact ⟨_, rfl, h⟩
theorem str_eq_declines_dict (b : Str) (u : Tok) (l : Addr) (o : Obj) (hc : o.cls = .type "dict") (es : Array DictEntry) (ep : Nat) (hd : o.data = .dict es ep) :
    Meets (Builtin.«str.__eq__» ⟨[.str b u, .ref l], []⟩) (fun _ R s => s.heap.get? l = some o ∧ R (.ok (.ret .notImplemented)) s) :=
  .of_wp fun prog w A R s h => by
    obtain ⟨hp, g, d, tk, os⟩ := s; obtain ⟨hl, h⟩ := h
    obtain ⟨cls, dd, data, sl⟩ := o
    simp only at hc hd
    subst hc hd
    wp_walk using wpAny_loadPart' hl, wpAny_load hl
    exact ⟨_, rfl, h⟩
section
variable {A : Around} {s : Shared}
theorem rcEq_dict_str {l : Addr} {o : Obj} {es : Array DictEntry} {ep : Nat} (b : Str) (u : Tok) (ho : s.heap.get? l = some o) (hc : o.cls = .type "dict") (hd : o.data = .dict es ep) (hu : A.units < cLine) : RcAt A s (.ref l) (.str b u) false := fun prog w E Q h =>
  rc_eq_decline_or (k := false) ⟨_, ho, hc⟩ (typeIs_str s b u) (by decide) F.sub_str_dict F.slot_dict_eq F.slot_str_eq_refl
    (fun _ hq => call_meets F.slot_dict_eq ⟨_, ho, hc⟩ F.entry_dict_eq (F.args_dict_eq_2 _ _) (dict_eq_declines_str l o b u hc es ep hd) ⟨ho, hq⟩)
    (fun _ hq => call_meets F.slot_str_eq_refl (typeIs_str s b u) F.entry_str_eq (F.args_str_eq_2 _ _) (str_eq_declines_dict b u l o hc es ep hd) ⟨ho, hq⟩)
    (fun _ hq => wpAny_of_eq (rfl : isSame (.ref l) (.str b u) = pure false) hq) (.inr hu) h
end
end U
namespace U
open PySem PySem.Spec PyProof.Rows L2
def rNeDS : R2 := fun x y H Q => ∃ p kvs z, x = .ref p ∧ H p = some (.dK kvs) ∧ y = .str z ∧ Q (.bl true) H
theorem op_neDS {X : Cx} (hu : X.A.units + 64 < cLine) : OpR X (compareOp .NotEq) rNeDS := by
  intro pins s σ H x y v u Q I rx ry h
  obtain ⟨p, kvs, z, rfl, hp, rfl, q⟩ := h
  obtain ⟨t, rfl⟩ := ry
  cases rx
  obtain ⟨_, _, _, _, o, es, ep, ho, hex, hd, _⟩ := I.hok p _ hp
  exact rcNe_dict_str z t ho hex.1 hd (by omega) _ _ _ _ ⟨.bl true, H, I, rfl, q⟩
def rEqDS : R2 := fun x y H Q => ∃ p kvs z, x = .ref p ∧ H p = some (.dK kvs) ∧ y = .str z ∧ Q (.bl false) H
theorem op_eqDS {X : Cx} (hu : X.A.units + 64 < cLine) : OpR X (compareOp .Eq) rEqDS := by
  intro pins s σ H x y v u Q I rx ry h
  obtain ⟨p, kvs, z, rfl, hp, rfl, q⟩ := h
  obtain ⟨t, rfl⟩ := ry
  cases rx
  obtain ⟨_, _, _, _, o, es, ep, ho, hex, hd, _⟩ := I.hok p _ hp
  exact rcEq_dict_str z t ho hex.1 hd (by omega) _ _ _ _ ⟨.bl false, H, I, rfl, q⟩
end U

/-! Uni: one rule for each construct whatever its values are, and short steps of readings. -/
namespace U
open PySem PySem.Spec PyProof.Rows L2
/-! ### a def that stands in the text, with its promise -/
structure Loc (K : PySem.W.Frag) (mg : Str → Option Value) (x : Str) (ps : List Str) (st : Stmt) : Prop where
  ex : ∃ f fd, Fun K x x st f fd ∧ mg x = some (.ref f) ∧ Binds K fd ps []
structure Fx (P : Program) (w : World) (K : PySem.W.Frag) (mg : Str → Option Value) (base : Heap) (k : Nat) (x : Str) (ps : List Str) (sp : Sp) : Prop where
  ex : ∃ f fd, FnOk P w K mg base CX0 k f fd ps sp ∧ mg x = some (.ref f) ∧ PySem.W.keepIn K (.ref f) = true ∧ Binds K fd ps []
theorem Fx.mono {P : Program} {w : World} {K : PySem.W.Frag} {mg : Str → Option Value} {base : Heap} {j k : Nat} {x : Str} {ps : List Str} {sp : Sp} (F : Fx P w K mg base j x ps sp) (h : j ≤ k) : Fx P w K mg base k x ps sp := by
  obtain ⟨f, fd, a, b, c, d⟩ := F.ex
  exact ⟨f, fd, a.mono h, b, c, d⟩
theorem Loc.ok {P : Program} {w : World} {K : PySem.W.Frag} {mg : Str → Option Value} {base : Heap} {x : Str} {st : Stmt} {N ps : List Str} {k : Nat} {sp : Sp} (L : Loc K mg x ps st) (S : FnScope N ps (defScope st)) (len : ∀ vs H Q E, sp vs H Q E → vs.length = ps.length)
    (hbody : ∀ (f : Addr) (cdv : Value) (A : Around) (outer : List Env) (s : Shared) (H : Hp) (vs : List V) (Q : VK) (E : XK), Room k (A.deeper (envOfC x (defScope st) s.heap.objs.size f cdv)) → sp vs H Q E →
      ∃ t, PSs (cxOf CX0 P w K mg base N x (defScope st) f cdv A outer s H E).nox (defBody st) t ∧ t ⟨fun _ H' => Q .non H', Q, fun _ _ => False, fun _ _ => False⟩ (start N vs) H) : Fx P w K mg base (k + 1) x ps sp := by
  obtain ⟨f, fd, F, m, b⟩ := L.ex
  exact ⟨f, fd, F.ok S len fun cdv A outer s H vs Q E hr h => hbody f cdv A outer s H vs Q E hr h, m, F.kp, b⟩
theorem pe_fx {X : Cx} {k j : Nat} {x : Str} {ps : List Str} {sp : Sp} {e : Expr} {es : List Expr} {t : TA} {p pos : Pos} (G : Fx X.prog X.w X.K X.mg X.base k x ps sp) (hr : Room j X.A) (hkj : k ≤ j) (ha : PA X (e :: es) t) (hg : Gl X x := by rfl)
    (hdb : (x == ("__debug__" : Str)) = false := by decide +kernel)
    (he : starEach (e :: es) X.env = (false, eval e X.env) :: starEach es X.env := by rfl) (hpl : (backTo pos (starEach es X.env)).any (·.1) = false := by rfl) : PE X (.Call (.Name x p) (e :: es) [] pos) (tCall sp [] E0 t) := by
  obtain ⟨f, fd, a, b, c, d⟩ := G.ex
  exact pe_call a (hr.mono hkj) hg b c d .nil pass0 ha (hdb := hdb) (he := he) (hpl := hpl)

/-! ### a constant tuple of the top -/
def KTup (K : PySem.W.Frag) (a : Addr) (xs : List V) : Prop := ∀ H, SqT K H a xs
def tKT (K : PySem.W.Frag) (xs : List V) : TE := fun _ H Q => ∀ a, KTup K a xs → Q (.ref a) H
theorem pe_ktup {X : Cx} {e : Expr} {a : Addr} {xs : List V} (h : PE X e (tC (.ref a))) (k : KTup X.K a xs) : PE X e (tKT X.K xs) := ⟨fun pins s σ H Q I q => h.run pins s σ H Q I (q a k)⟩
theorem ktup_of {K : PySem.W.Frag} {a : Addr} {xs : List V} {od : Option Addr} {its : Array Value} {n : Nat} {sl : Array (Option Value)} (h : K.lookup a = some ⟨.type "tuple", od, .seq its n, sl⟩) (v : Vals xs its.toList) (z : its.size ≤ 1000 := by exact Nat.le_of_ble_eq_true rfl) : KTup K a xs := fun _ =>
  .inr ⟨_, its, n, h, rfl, rfl, Nat.le_trans z (by decide), v⟩
theorem vs_nil : Vals [] [] := .nil
theorem vs_str {x : Str} {t : Tok} {xs : List V} {us : List Value} (h : Vals xs us) : Vals (.str x :: xs) (.str x t :: us) := .cons ⟨t, rfl⟩ h
theorem vs_int {x : Int} {t : Tok} {xs : List V} {us : List Value} (h : Vals xs us) : Vals (.int x :: xs) (.int x t :: us) := .cons ⟨t, rfl⟩ h
/-! ### one rule a construct -/
section
variable {X : Cx}
abbrev r2or (r r' : R2) : R2 := fun x y H Q => r x y H Q ∨ r' x y H Q
def rStrCat : R2 := fun x y H Q => ∃ i j, x = .str i ∧ y = .str j ∧ i.length + j.length ≤ sizeLine ∧ Q (.str (i ++ j)) H
def rAddU (K : PySem.W.Frag) : R2 := r2or (r2or (rI0 fun i j => .int (i + j)) rStrCat) (r2or (rCatA K) rCat)
theorem op_addU {K} (hK : X.K = K) : OpR X (binaryOp .Add) (rAddU K) := by subst hK; exact (op_add.or op_add_str).or (op_catA.or op_cat)
def rMaxU : List V → Hp → VK → Prop := fun xs H Q => ∃ i j, xs = [.int i, .int j] ∧ Q (.int (if j > i then j else i)) H
def rMinU : List V → Hp → VK → Prop := fun xs H Q => ∃ i j, xs = [.int i, .int j] ∧ Q (.int (if j < i then j else i)) H
def rAbsU : List V → Hp → VK → Prop := fun xs H Q => ∃ i, xs = [.int i] ∧ Q (.int (if i < 0 then -i else i)) H
def rIntU : List V → Hp → VK → Prop := fun xs H Q => (∃ i, xs = [.int i] ∧ Q (.int i) H) ∨ ∃ k, xs = [.bl k] ∧ Q (.int (if k then 1 else 0)) H
theorem call_maxU (hc : X.calm = true) : CallR X (.builtin "max") rMaxU := call_max2 hc
theorem call_minU (hc : X.calm = true) : CallR X (.builtin "min") rMinU := call_min2 hc
theorem call_absU : CallR X (.builtin "abs") rAbsU := call_abs
theorem call_intU : CallR X (.type "int") rIntU := call_int1
def rLenU (K : PySem.W.Frag) : List V → Hp → VK → Prop := fun xs H Q => (∃ p ys, xs = [.ref p] ∧ (SqL K H p ys ∨ SqT K H p ys) ∧ Q (.int ys.length) H) ∨ (∃ z, xs = [.str z] ∧ z.length ≤ sizeLine ∧ Q (.int z.length) H)
theorem call_lenU {K} (hK : X.K = K) : CallR X (.builtin "len") (rLenU K) := by subst hK; exact call_len_seq.or call_len_str
theorem call_isiU {K} (hK : X.K = K) : CallR X (.builtin "isinstance") (rIsi K) := by subst hK; exact call_isi
theorem ix_U {K} (hK : X.K = K) : IxR X (rIx K) := by subst hK; exact ix_seq
theorem call_allU {K} (hK : X.K = K) (hc : X.calm = true) : CallR X (.builtin "all") (rAll K) := by subst hK; exact cr_all hc
theorem call_anyU {K} (hK : X.K = K) (hc : X.calm = true) : CallR X (.builtin "any") (rAny K) := by subst hK; exact cr_any hc
theorem call_sumU {K} (hK : X.K = K) (hc : X.calm = true) : CallR X (.builtin "sum") (rSum K) := by subst hK; exact cr_sum hc
def rListU (K : PySem.W.Frag) : List V → Hp → VK → Prop := fun xs H Q => ∃ p ys, xs = [.ref p] ∧ (SqL K H p ys ∨ SqT K H p ys) ∧ ∀ l, H l = none → Q (.ref l) (upd H l (.lst ys))
theorem call_listU {K} (hK : X.K = K) : CallR X (.type "list") (rListU K) := by subst hK; exact call_list_of
def rTupleU (K : PySem.W.Frag) : List V → Hp → VK → Prop := fun xs H Q => ∃ p ys, xs = [.ref p] ∧ ((SqL K H p ys ∧ ∀ l, H l = none → Q (.ref l) (upd H l (.tup ys))) ∨ (SqT K H p ys ∧ Q (.ref p) H))
theorem call_tupleU {K} (hK : X.K = K) : CallR X (.type "tuple") (rTupleU K) := by subst hK; exact call_tuple_of
theorem pg_tupU {K} {es : List Expr} {k : Nat} {t : TGs} {n : Nat} {pos : Pos} (hK : X.K = K) (hc : X.calm = true) (h : PGs X es t)
    (hn : (assignEach es X.env).length = n := by rfl) (hst : (assignEach es X.env).findIdx? (·.1) = none := by rfl) : PG X (.Tuple es k pos) (gTup K n t) := by subst hK; exact pg_tup hc h hn hst
theorem pi_listU {K} {tg l : Expr} {tl : TE} (hK : X.K = K) (hl : PE X l tl) : PI X tg l (iList K tl) := by subst hK; exact pi_list hl
theorem pi_tupU {K} {tg l : Expr} {tl : TE} (hK : X.K = K) (hl : PE X l tl) : PI X tg l (iTup K tl) := by subst hK; exact pi_tup hl
def rMulU : R2 := r2or (r2or (rI CMul fun i j => .int (i * j)) (rI CMulW fun i j => .int (i * j))) rRep
theorem op_mulU : OpR X (binaryOp .Mult) rMulU := (op_mul.or op_mulW).or op_rep
def rSignIn : R2 := fun x y H Q => ∃ (c : Nat) (z : Str), x = .str ⟨#[c]⟩ ∧ y = .str z ∧ Q (.bl (decide (c ∈ z.cps.toList))) H
def rSignNin : R2 := fun x y H Q => ∃ (c : Nat) (z : Str), x = .str ⟨#[c]⟩ ∧ y = .str z ∧ Q (.bl (!decide (c ∈ z.cps.toList))) H
def rInU (K : PySem.W.Frag) : R2 := r2or (r2or (rIn K false) (rInD K)) rSignIn
def rNinU (K : PySem.W.Frag) : R2 := r2or (r2or (rIn K true) (rNotInD K)) rSignNin
theorem op_inU {K} (hK : X.K = K) (hu : X.A.units + 65 < cLine) : OpR X (compareOp .In) (rInU K) := by subst hK; exact (op_in_seq.or (op_inD hu)).or op_in_sign
theorem op_ninU {K} (hK : X.K = K) (hu : X.A.units + 65 < cLine) : OpR X (compareOp .NotIn) (rNinU K) := by subst hK; exact (op_notIn_seq.or (op_notInD hu)).or op_notIn_sign
def rMaxL (K : PySem.W.Frag) : List V → Hp → VK → Prop := rMax K
theorem call_maxL {K} (hK : X.K = K) (hc : X.calm = true) : CallR X (.builtin "max") (rMaxL K) := by subst hK; exact cr_max hc
def rMinL (K : PySem.W.Frag) : List V → Hp → VK → Prop := rMin K
theorem call_minL {K} (hK : X.K = K) (hc : X.calm = true) : CallR X (.builtin "min") (rMinL K) := by subst hK; exact cr_min hc
def rIsB : R2 := fun x y H Q => ∃ a b, x = .bl a ∧ y = .bl b ∧ Q (.bl (decide (a = b))) H
def rNisB : R2 := fun x y H Q => ∃ a b, x = .bl a ∧ y = .bl b ∧ Q (.bl (!decide (a = b))) H
theorem op_isB : OpR X (compareOp .Is) rIsB := op_is_bl
theorem op_nisB : OpR X (compareOp .IsNot) rNisB := op_isnot_bl
def iRevU (K : PySem.W.Frag) (te : TE) : TI := RT.iRevA K te
theorem pi_revU {K} {tg e : Expr} {te : TE} {p pos : Pos} (hK : X.K = K) (hg : Gl X "reversed") (hm : X.mg "reversed" = none) (he : PE X e te) (hs : starEach [e] X.env = (false, eval e X.env) :: starEach [] X.env := by rfl) : PI X tg (.Call (.Name "reversed" p) [e] [] pos) (iRevU K te) := by
  subst hK; exact RT.pi_revA hg hm he hs
def iEnumU (K : PySem.W.Frag) (ta : TA) : TI := iEnum K ta
theorem pi_enumU {K} {e : Expr} {ta : TA} {p pos tpos : Pos} {elts : List Expr} {kk : Nat} (hK : X.K = K) (hg : Gl X "enumerate") (hm : X.mg "enumerate" = none) (ha : PA X [e] ta) (hs : starEach [e] X.env = [(false, eval e X.env)] := by rfl) :
    PI X (.Tuple elts kk tpos) (.Call (.Name "enumerate" p) [e] [] pos) (iEnumU K ta) := by subst hK; exact pi_enum hg hm ha hs
/-- a slice -/
def rSlU (K : PySem.W.Frag) : V → Option Int → Option Int → Hp → VK → Prop := fun x lo hi H Q => (rSlL K x lo hi H Q ∨ rSlA K x lo hi H Q) ∨ rSlS x lo hi H Q
theorem sl_U {K} (hK : X.K = K) : SlR X (rSlU K) := by subst hK; exact (sl_list.or sl_tupA).or sl_str
def rEqU (K : PySem.W.Frag) : R2 := r2or (r2or rEq (rEqD K)) rEqDS
theorem op_eqU {K} (hK : X.K = K) (hu : X.A.units + 64 < cLine) : OpR X (compareOp .Eq) (rEqU K) := by subst hK; exact (op_eq.or (op_eqD hu)).or (op_eqDS hu)
def rNeU (K : PySem.W.Frag) : R2 := r2or (r2or rNe (rNeD K)) rNeDS
theorem op_neU {K} (hK : X.K = K) (hu : X.A.units + 64 < cLine) : OpR X (compareOp .NotEq) (rNeU K) := by subst hK; exact (op_ne.or (op_neD hu)).or (op_neDS hu)
end
theorem u65 {A : Around} {k : Nat} (hr : Room k A) : A.units + 65 < cLine := by have := hr.un; omega
theorem u64 {A : Around} {k : Nat} (hr : Room k A) : A.units + 64 < cLine := hr.units
section
variable {K : PySem.W.Frag} {H : Hp} {Q : VK} {i j : Int}
theorem w_addI (q : Q (.int (i + j)) H) : rAddU K (.int i) (.int j) H Q := .inl (.inl ⟨i, j, rfl, rfl, q⟩)
theorem w_addS {a b : Str} (h : a.length + b.length ≤ sizeLine) (q : Q (.str (a ++ b)) H) : rAddU K (.str a) (.str b) H Q := .inl (.inr ⟨a, b, rfl, rfl, h, q⟩)
theorem w_addL {l b : Addr} {xs zs : List V} (h1 : H l = some (.lst xs)) (h2 : H b = some (.lst zs)) (hl : xs.length + zs.length ≤ 1000000) (q : ∀ p, H p = none → Q (.ref p) (upd H p (.lst (xs ++ zs)))) : rAddU K (.ref l) (.ref b) H Q := .inr (.inr ⟨l, b, xs, zs, rfl, rfl, h1, h2, Nat.le_trans hl (by decide), q⟩)
theorem w_sub (q : Q (.int (i - j)) H) : rI0 (fun i j => .int (i - j)) (.int i) (.int j) H Q := ⟨i, j, rfl, rfl, q⟩
theorem w_rI0 {g : Int → Int → V} (q : Q (g i j) H) : rI0 g (.int i) (.int j) H Q := ⟨i, j, rfl, rfl, q⟩
theorem w_rI {C : Int → Int → Prop} {g : Int → Int → V} (c : C i j) (q : Q (g i j) H) : rI C g (.int i) (.int j) H Q := ⟨i, j, rfl, rfl, c, q⟩
theorem w_mulI (c : (-(2 ^ 64) < i ∧ i < 2 ^ 64) ∨ (-(2 ^ 64) < j ∧ j < 2 ^ 64)) (q : Q (.int (i * j)) H) : rMulU (.int i) (.int j) H Q := .inl (.inl ⟨i, j, rfl, rfl, c, q⟩)
theorem w_max (q : Q (.int (if j > i then j else i)) H) : rMaxU [.int i, .int j] H Q := ⟨i, j, rfl, q⟩
theorem w_min (q : Q (.int (if j < i then j else i)) H) : rMinU [.int i, .int j] H Q := ⟨i, j, rfl, q⟩
theorem w_abs (q : Q (.int (if i < 0 then -i else i)) H) : rAbsU [.int i] H Q := ⟨i, rfl, q⟩
theorem w_intI (q : Q (.int i) H) : rIntU [.int i] H Q := .inl ⟨i, rfl, q⟩
theorem w_intB {k : Bool} (q : Q (.int (if k then 1 else 0)) H) : rIntU [.bl k] H Q := .inr ⟨k, rfl, q⟩
theorem w_pow9 (q : Q (.int 1000000000) H) : rI CPow (fun i j => .int (i ^ j.toNat)) (.int 10) (.int 9) H Q := ⟨10, 9, rfl, rfl, ⟨by decide, by decide, by decide⟩, q⟩
theorem w_pow18 (q : Q (.int 1000000000000000000) H) : rI CPow (fun i j => .int (i ^ j.toNat)) (.int 10) (.int 18) H Q := ⟨10, 18, rfl, rfl, ⟨by decide, by decide, by decide⟩, q⟩
theorem w_pow6 (q : Q (.int 1000000) H) : rI CPow (fun i j => .int (i ^ j.toNat)) (.int 10) (.int 6) H Q := ⟨10, 6, rfl, rfl, ⟨by decide, by decide, by decide⟩, q⟩
theorem w_pow59 (q : Q (.int 100000000000000000000000000000000000000000000000000000000000) H) : rI CPow (fun i j => .int (i ^ j.toNat)) (.int 10) (.int 59) H Q := ⟨10, 59, rfl, rfl, ⟨by decide, by decide, by decide⟩, q⟩
theorem w_slL {p : Addr} {xs : List V} {lo hi : Option Int} (h : SqL K H p xs) (q : ∀ l, H l = none → Q (.ref l) (upd H l (.lst (cutV xs lo hi)))) : rSlU K (.ref p) lo hi H Q := .inl (.inl ⟨p, xs, rfl, h, q⟩)
theorem w_part {σ : L2.St} {te : TE} {Q : Option Int → Hp → Prop} (q : te σ H fun x H1 => ∃ i, x = .int i ∧ Q (some i) H1) : tPart te σ H Q := q
theorem w_partI {P : Int → Prop} (q : P i) : ∃ k, V.int i = .int k ∧ P k := ⟨i, rfl, q⟩
theorem w_nopart {σ : L2.St} {Q : Option Int → Hp → Prop} (q : Q none H) : tNoPart σ H Q := q
theorem w_sl {σ : L2.St} {r : V → Option Int → Option Int → Hp → VK → Prop} {te : TE} {tl th : TO} (q : te σ H fun x H1 => tl σ H1 fun l H2 => th σ H2 fun u H3 => r x l u H3 Q) : tSl r te tl th σ H Q := q
theorem w_listL {p : Addr} {ys : List V} (h : SqL K H p ys) (q : ∀ l, H l = none → Q (.ref l) (upd H l (.lst ys))) : rListU K [.ref p] H Q := ⟨p, ys, rfl, .inl h, q⟩
theorem w_listT {p : Addr} {ys : List V} (h : SqT K H p ys) (q : ∀ l, H l = none → Q (.ref l) (upd H l (.lst ys))) : rListU K [.ref p] H Q := ⟨p, ys, rfl, .inr h, q⟩
theorem w_tupleL {p : Addr} {ys : List V} (h : SqL K H p ys) (q : ∀ l, H l = none → Q (.ref l) (upd H l (.tup ys))) : rTupleU K [.ref p] H Q := ⟨p, ys, rfl, .inl ⟨h, q⟩⟩
theorem w_isB {a b : Bool} (q : Q (.bl (decide (a = b))) H) : rIsB (.bl a) (.bl b) H Q := ⟨a, b, rfl, rfl, q⟩
theorem w_nisB {a b : Bool} (q : Q (.bl (!decide (a = b))) H) : rNisB (.bl a) (.bl b) H Q := ⟨a, b, rfl, rfl, q⟩
theorem w_inT {x : V} {p : Addr} {xs : List V} (h : SqT K H p xs) (hx : flatV x = true) (ha : xs.all flatV = true) (q : Q (.bl (inV x xs)) H) : rInU K x (.ref p) H Q := .inl (.inl ⟨p, xs, rfl, .inr h, hx, ha, q⟩)
theorem w_inL {x : V} {p : Addr} {xs : List V} (h : SqL K H p xs) (hx : flatV x = true) (ha : xs.all flatV = true) (q : Q (.bl (inV x xs)) H) : rInU K x (.ref p) H Q := .inl (.inl ⟨p, xs, rfl, .inl h, hx, ha, q⟩)
theorem w_ninT {x : V} {p : Addr} {xs : List V} (h : SqT K H p xs) (hx : flatV x = true) (ha : xs.all flatV = true) (q : Q (.bl (!inV x xs)) H) : rNinU K x (.ref p) H Q := .inl (.inl ⟨p, xs, rfl, .inr h, hx, ha, q⟩)
theorem w_ninL {x : V} {p : Addr} {xs : List V} (h : SqL K H p xs) (hx : flatV x = true) (ha : xs.all flatV = true) (q : Q (.bl (!inV x xs)) H) : rNinU K x (.ref p) H Q := .inl (.inl ⟨p, xs, rfl, .inl h, hx, ha, q⟩)
theorem w_lenL {p : Addr} {ys : List V} (h : SqL K H p ys) (q : Q (.int ys.length) H) : rLenU K [.ref p] H Q := .inl ⟨p, ys, rfl, .inl h, q⟩
theorem w_lenT {p : Addr} {ys : List V} (h : SqT K H p ys) (q : Q (.int ys.length) H) : rLenU K [.ref p] H Q := .inl ⟨p, ys, rfl, .inr h, q⟩
theorem w_lenS {z : Str} (h : z.length ≤ sizeLine) (q : Q (.int z.length) H) : rLenU K [.str z] H Q := .inr ⟨z, rfl, h, q⟩
theorem w_ixL {p : Addr} {xs : List V} {v : V} (h : SqL K H p xs) (e : atI xs i = some v) (q : Q v H) : rIx K (.ref p) (.int i) H Q := .inl ⟨p, xs, i, v, rfl, rfl, h, e, q⟩
theorem w_ixT {p : Addr} {xs : List V} {v : V} (h : SqT K H p xs) (e : atI xs i = some v) (q : Q v H) : rIx K (.ref p) (.int i) H Q := .inr (.inl ⟨p, xs, i, v, rfl, rfl, h, e, q⟩)
theorem w_setL {p : Addr} {xs : List V} {v : V} {j : Nat} {Q : Hp → Prop} (h : H p = some (.lst xs)) (e : ixN xs.length i = some j) (q : Q (upd H p (.lst (xs.set j v)))) : rSetL (.ref p) (.int i) v H Q := ⟨p, xs, i, j, rfl, rfl, h, e, q⟩
theorem w_isi {x : V} {n : String} {t : Value} {b : Bool} (ty : TyX K H x t) (e : PySem.W.kitOne K t (.type n) = some b) (q : Q (.bl b) H) : rIsi K [x, .ty n] H Q := ⟨x, .ty n, t, .type n, b, rfl, .ty n, ty, e, q⟩
/-! isinstance of plain values -/
theorem ty_T {a : Addr} {xs : List V} (h : SqT K H a xs) : TyX K H (.ref a) (.type "tuple") := by
  rcases h with (h | ⟨o, h⟩) | ⟨o, its, n, h, hc, _⟩
  · exact .base (.tup h)
  · exact .fTuple h
  · exact .kTuple h hc
theorem ty_L {a : Addr} {xs : List V} (h : SqL K H a xs) : TyX K H (.ref a) (.type "list") := by
  rcases h with (h | ⟨o, h⟩) | ⟨o, its, n, h, hc, _⟩
  · exact .base (.lst h)
  · exact .base (.frz h)
  · exact .kList h hc
theorem isD_int {a : Addr} {kvs : List (Key × V)} (h : H a = some (.dK kvs)) (q : Q (.bl false) H) : rIsi K [.ref a, .ty "int"] H Q := w_isi (.base (.dK h)) (kit_ty (by decide +kernel)) q
theorem isD_bool {a : Addr} {kvs : List (Key × V)} (h : H a = some (.dK kvs)) (q : Q (.bl false) H) : rIsi K [.ref a, .ty "bool"] H Q := w_isi (.base (.dK h)) (kit_ty (by decide +kernel)) q
theorem isD_str {a : Addr} {kvs : List (Key × V)} (h : H a = some (.dK kvs)) (q : Q (.bl false) H) : rIsi K [.ref a, .ty "str"] H Q := w_isi (.base (.dK h)) (kit_ty (by decide +kernel)) q
theorem isD_tuple {a : Addr} {kvs : List (Key × V)} (h : H a = some (.dK kvs)) (q : Q (.bl false) H) : rIsi K [.ref a, .ty "tuple"] H Q := w_isi (.base (.dK h)) (kit_ty (by decide +kernel)) q
theorem isD_list {a : Addr} {kvs : List (Key × V)} (h : H a = some (.dK kvs)) (q : Q (.bl false) H) : rIsi K [.ref a, .ty "list"] H Q := w_isi (.base (.dK h)) (kit_ty (by decide +kernel)) q
theorem isD_dict {a : Addr} {kvs : List (Key × V)} (h : H a = some (.dK kvs)) (q : Q (.bl true) H) : rIsi K [.ref a, .ty "dict"] H Q := w_isi (.base (.dK h)) (kit_ty (by decide +kernel)) q
theorem isT_int {a : Addr} {xs : List V} (h : SqT K H a xs) (q : Q (.bl false) H) : rIsi K [.ref a, .ty "int"] H Q := w_isi (ty_T h) (kit_ty (by decide +kernel)) q
theorem isT_bool {a : Addr} {xs : List V} (h : SqT K H a xs) (q : Q (.bl false) H) : rIsi K [.ref a, .ty "bool"] H Q := w_isi (ty_T h) (kit_ty (by decide +kernel)) q
theorem isT_str {a : Addr} {xs : List V} (h : SqT K H a xs) (q : Q (.bl false) H) : rIsi K [.ref a, .ty "str"] H Q := w_isi (ty_T h) (kit_ty (by decide +kernel)) q
theorem isT_tuple {a : Addr} {xs : List V} (h : SqT K H a xs) (q : Q (.bl true) H) : rIsi K [.ref a, .ty "tuple"] H Q := w_isi (ty_T h) (kit_ty (by decide +kernel)) q
theorem isT_list {a : Addr} {xs : List V} (h : SqT K H a xs) (q : Q (.bl false) H) : rIsi K [.ref a, .ty "list"] H Q := w_isi (ty_T h) (kit_ty (by decide +kernel)) q
theorem isT_dict {a : Addr} {xs : List V} (h : SqT K H a xs) (q : Q (.bl false) H) : rIsi K [.ref a, .ty "dict"] H Q := w_isi (ty_T h) (kit_ty (by decide +kernel)) q
theorem isL_int {a : Addr} {xs : List V} (h : SqL K H a xs) (q : Q (.bl false) H) : rIsi K [.ref a, .ty "int"] H Q := w_isi (ty_L h) (kit_ty (by decide +kernel)) q
theorem isL_bool {a : Addr} {xs : List V} (h : SqL K H a xs) (q : Q (.bl false) H) : rIsi K [.ref a, .ty "bool"] H Q := w_isi (ty_L h) (kit_ty (by decide +kernel)) q
theorem isL_str {a : Addr} {xs : List V} (h : SqL K H a xs) (q : Q (.bl false) H) : rIsi K [.ref a, .ty "str"] H Q := w_isi (ty_L h) (kit_ty (by decide +kernel)) q
theorem isL_tuple {a : Addr} {xs : List V} (h : SqL K H a xs) (q : Q (.bl false) H) : rIsi K [.ref a, .ty "tuple"] H Q := w_isi (ty_L h) (kit_ty (by decide +kernel)) q
theorem isL_list {a : Addr} {xs : List V} (h : SqL K H a xs) (q : Q (.bl true) H) : rIsi K [.ref a, .ty "list"] H Q := w_isi (ty_L h) (kit_ty (by decide +kernel)) q
theorem isL_dict {a : Addr} {xs : List V} (h : SqL K H a xs) (q : Q (.bl false) H) : rIsi K [.ref a, .ty "dict"] H Q := w_isi (ty_L h) (kit_ty (by decide +kernel)) q
theorem is_non_int (q : Q (.bl false) H) : rIsi K [.non, .ty "int"] H Q := w_isi (.base .non) (kit_ty (by decide +kernel)) q
theorem is_non_bool (q : Q (.bl false) H) : rIsi K [.non, .ty "bool"] H Q := w_isi (.base .non) (kit_ty (by decide +kernel)) q
theorem is_non_str (q : Q (.bl false) H) : rIsi K [.non, .ty "str"] H Q := w_isi (.base .non) (kit_ty (by decide +kernel)) q
theorem is_non_tuple (q : Q (.bl false) H) : rIsi K [.non, .ty "tuple"] H Q := w_isi (.base .non) (kit_ty (by decide +kernel)) q
theorem is_non_list (q : Q (.bl false) H) : rIsi K [.non, .ty "list"] H Q := w_isi (.base .non) (kit_ty (by decide +kernel)) q
theorem is_non_dict (q : Q (.bl false) H) : rIsi K [.non, .ty "dict"] H Q := w_isi (.base .non) (kit_ty (by decide +kernel)) q
theorem is_bl_int {u : Bool} (q : Q (.bl true) H) : rIsi K [(.bl u), .ty "int"] H Q := w_isi (.base (.bl _)) (kit_ty (by decide +kernel)) q
theorem is_bl_bool {u : Bool} (q : Q (.bl true) H) : rIsi K [(.bl u), .ty "bool"] H Q := w_isi (.base (.bl _)) (kit_ty (by decide +kernel)) q
theorem is_bl_str {u : Bool} (q : Q (.bl false) H) : rIsi K [(.bl u), .ty "str"] H Q := w_isi (.base (.bl _)) (kit_ty (by decide +kernel)) q
theorem is_bl_tuple {u : Bool} (q : Q (.bl false) H) : rIsi K [(.bl u), .ty "tuple"] H Q := w_isi (.base (.bl _)) (kit_ty (by decide +kernel)) q
theorem is_bl_list {u : Bool} (q : Q (.bl false) H) : rIsi K [(.bl u), .ty "list"] H Q := w_isi (.base (.bl _)) (kit_ty (by decide +kernel)) q
theorem is_bl_dict {u : Bool} (q : Q (.bl false) H) : rIsi K [(.bl u), .ty "dict"] H Q := w_isi (.base (.bl _)) (kit_ty (by decide +kernel)) q
theorem is_int_int {u : Int} (q : Q (.bl true) H) : rIsi K [(.int u), .ty "int"] H Q := w_isi (.base (.int _)) (kit_ty (by decide +kernel)) q
theorem is_int_bool {u : Int} (q : Q (.bl false) H) : rIsi K [(.int u), .ty "bool"] H Q := w_isi (.base (.int _)) (kit_ty (by decide +kernel)) q
theorem is_int_str {u : Int} (q : Q (.bl false) H) : rIsi K [(.int u), .ty "str"] H Q := w_isi (.base (.int _)) (kit_ty (by decide +kernel)) q
theorem is_int_tuple {u : Int} (q : Q (.bl false) H) : rIsi K [(.int u), .ty "tuple"] H Q := w_isi (.base (.int _)) (kit_ty (by decide +kernel)) q
theorem is_int_list {u : Int} (q : Q (.bl false) H) : rIsi K [(.int u), .ty "list"] H Q := w_isi (.base (.int _)) (kit_ty (by decide +kernel)) q
theorem is_int_dict {u : Int} (q : Q (.bl false) H) : rIsi K [(.int u), .ty "dict"] H Q := w_isi (.base (.int _)) (kit_ty (by decide +kernel)) q
theorem is_str_int {u : Str} (q : Q (.bl false) H) : rIsi K [(.str u), .ty "int"] H Q := w_isi (.base (.str _)) (kit_ty (by decide +kernel)) q
theorem is_str_bool {u : Str} (q : Q (.bl false) H) : rIsi K [(.str u), .ty "bool"] H Q := w_isi (.base (.str _)) (kit_ty (by decide +kernel)) q
theorem is_str_str {u : Str} (q : Q (.bl true) H) : rIsi K [(.str u), .ty "str"] H Q := w_isi (.base (.str _)) (kit_ty (by decide +kernel)) q
theorem is_str_tuple {u : Str} (q : Q (.bl false) H) : rIsi K [(.str u), .ty "tuple"] H Q := w_isi (.base (.str _)) (kit_ty (by decide +kernel)) q
theorem is_str_list {u : Str} (q : Q (.bl false) H) : rIsi K [(.str u), .ty "list"] H Q := w_isi (.base (.str _)) (kit_ty (by decide +kernel)) q
theorem is_str_dict {u : Str} (q : Q (.bl false) H) : rIsi K [(.str u), .ty "dict"] H Q := w_isi (.base (.str _)) (kit_ty (by decide +kernel)) q
theorem w_rU {g : Int → V} (q : Q (g i) H) : rU g (.int i) H Q := ⟨i, rfl, q⟩
theorem dec_int {a b : Int} : decide (V.int a = V.int b) = decide (a = b) := by
  by_cases h : a = b
  · subst h; simp
  · rw [decide_eq_false h, decide_eq_false fun e => h (V.int.inj e)]
theorem dec_str {a b : Str} : decide (V.str a = V.str b) = decide (a = b) := by
  by_cases h : a = b
  · subst h; simp
  · rw [decide_eq_false h, decide_eq_false fun e => h (V.str.inj e)]
theorem dec_bl {a b : Bool} : decide (V.bl a = V.bl b) = decide (a = b) := by
  by_cases h : a = b
  · subst h; simp
  · rw [decide_eq_false h, decide_eq_false fun e => h (V.bl.inj e)]
theorem w_eqI (q : Q (.bl (decide (i = j))) H) : rEqU K (.int i) (.int j) H Q := .inl (.inl ⟨rfl, by rw [dec_int]; exact q⟩)
theorem w_eqS {a b : Str} (q : Q (.bl (decide (a = b))) H) : rEqU K (.str a) (.str b) H Q := .inl (.inl ⟨rfl, by rw [dec_str]; exact q⟩)
theorem w_eqB {a b : Bool} (q : Q (.bl (decide (a = b))) H) : rEqU K (.bl a) (.bl b) H Q := .inl (.inl ⟨rfl, by rw [dec_bl]; exact q⟩)
theorem w_neI (q : Q (.bl (!decide (i = j))) H) : rNeU K (.int i) (.int j) H Q := .inl (.inl ⟨rfl, by rw [dec_int]; exact q⟩)
theorem w_neS {a b : Str} (q : Q (.bl (!decide (a = b))) H) : rNeU K (.str a) (.str b) H Q := .inl (.inl ⟨rfl, by rw [dec_str]; exact q⟩)
theorem w_neB {a b : Bool} (q : Q (.bl (!decide (a = b))) H) : rNeU K (.bl a) (.bl b) H Q := .inl (.inl ⟨rfl, by rw [dec_bl]; exact q⟩)
theorem w_eqDS {p : Addr} {kvs : List (Key × V)} {z : Str} (h : H p = some (.dK kvs)) (q : Q (.bl false) H) : rEqU K (.ref p) (.str z) H Q := .inr ⟨p, kvs, z, rfl, h, rfl, q⟩
theorem w_neDS {p : Addr} {kvs : List (Key × V)} {z : Str} (h : H p = some (.dK kvs)) (q : Q (.bl true) H) : rNeU K (.ref p) (.str z) H Q := .inr ⟨p, kvs, z, rfl, h, rfl, q⟩
theorem w_eqD {x y : V} {d e : PyData} (hx : Dp K H x d) (hy : Dp K H y e) (sx : SeqAt.shaped d = true) (sy : SeqAt.shaped e = true) (q : Q (.bl (PyData.eqv d e)) H) : rEqU K x y H Q := .inl (.inr ⟨d, e, hx, hy, sx, sy, q⟩)
theorem w_neD {x y : V} {d e : PyData} (hx : Dp K H x d) (hy : Dp K H y e) (sx : SeqAt.shaped d = true) (sy : SeqAt.shaped e = true) (q : Q (.bl (!PyData.eqv d e)) H) : rNeU K x y H Q := .inl (.inr ⟨d, e, hx, hy, sx, sy, q⟩)
end
/-- a new tuple, a new list -/
def MkT (xs : List V) (Q : VK) (H : Hp) : Prop := xs.length ≤ sizeLine ∧ ∀ p, H p = none → Q (.ref p) (upd H p (.tup xs))
def MkL (xs : List V) (Q : VK) (H : Hp) : Prop := xs.length ≤ sizeLine ∧ ∀ p, H p = none → Q (.ref p) (upd H p (.lst xs))
/-! ### steps of a reading -/
section
variable {K : PySem.W.Frag} {σ : L2.St} {H : Hp} {Q : VK} {QB : Bool → Hp → Prop} {QA : List V → Hp → Prop} {ta tb tc : TE} {t u : TT} {v : V} {i : Nat} {r r' : R2}
theorem w_var (h : σ[i]? = some (some v)) (q : Q v H) : tVar i σ H Q := ⟨v, h, q⟩
theorem w_c (q : Q v H) : tC v σ H Q := q
theorem w_op (q : ta σ H fun x H1 => tb σ H1 fun y H2 => r x y H2 Q) : tOp r ta tb σ H Q := q
theorem w_un {r : V → Hp → VK → Prop} (q : ta σ H fun x H1 => r x H1 Q) : tUn r ta σ H Q := q
theorem w_chain (q : ta σ H fun x H1 => tb σ H1 fun y H2 => r x y H2 fun z H3 => ∃ k, z = .bl k ∧ (if k = true then tc σ H3 fun w' H4 => r' y w' H4 Q else Q (.bl false) H3)) : tChain r r' ta tb tc σ H Q := q
theorem w_bl {b : Bool} {P : Bool → Prop} (q : P b) : ∃ k, V.bl b = .bl k ∧ P k := ⟨b, rfl, q⟩
theorem w_test (q : ta σ H fun x H' => ∃ k, x = .bl k ∧ QB k H') : tTest ta σ H QB := q
theorem w_B (q : ta σ H fun x H' => ∃ k, x = .bl k ∧ QB k H') : tB ta σ H QB := q
theorem w_and (q : t σ H fun c H1 => if c = true then u σ H1 QB else QB false H1) : tAnd t u σ H QB := q
theorem w_or (q : t σ H fun c H1 => if c = true then QB true H1 else u σ H1 QB) : tOr t u σ H QB := q
theorem w_not (q : t σ H fun c H1 => QB (!c) H1) : tNot t σ H QB := q
theorem w_andV (q : ta σ H fun x H1 => ∃ c, x = .bl c ∧ if c = true then tb σ H1 Q else Q (.bl false) H1) : tAndV ta tb σ H Q := q
theorem w_orV (q : ta σ H fun x H1 => ∃ c, x = .bl c ∧ if c = true then Q (.bl true) H1 else tb σ H1 Q) : tOrV ta tb σ H Q := q
theorem w_notV (q : ta σ H fun x H1 => ∃ c, x = .bl c ∧ Q (.bl (!c)) H1) : tNotV ta σ H Q := q
theorem w_if (q : t σ H fun c H1 => if c = true then ta σ H1 Q else tb σ H1 Q) : tIf t ta tb σ H Q := q
theorem w_isN (q : ta σ H fun x H1 => Q (.bl (decide (x = .non))) H1) : tIsN ta σ H Q := q
theorem w_notN (q : ta σ H fun x H1 => Q (.bl (!decide (x = .non))) H1) : tNotN ta σ H Q := q
theorem w_nil (q : QA [] H) : tNil σ H QA := q
theorem w_cons {tr : TA} (q : ta σ H fun x H1 => tr σ H1 fun xs H2 => QA (x :: xs) H2) : tCons ta tr σ H QA := q
theorem w_tup {tr : TA} (q : tr σ H fun xs H1 => MkT xs Q H1) : tTup tr σ H Q := q
theorem w_lst {tr : TA} (q : tr σ H fun xs H1 => MkL xs Q H1) : tLst tr σ H Q := q
theorem w_call {sp : Sp} {dvs : List V} {E : XK} {tr : TA} (q : tr σ H fun vs H1 => sp (vs ++ dvs) H1 Q E) : tCall sp dvs E tr σ H Q := q
theorem w_cb {rc : List V → Hp → VK → Prop} {tr : TA} (q : tr σ H fun vs H1 => rc vs H1 Q) : tCB rc tr σ H Q := q
theorem w_bm {T : String} {rm : V → List V → Hp → VK → Prop} {tr : TA} (q : ta σ H fun x H1 => tyV K T x H1 ∧ tr σ H1 fun xs H2 => rm x xs H2 Q) : tBM K T rm ta tr σ H Q := q
theorem w_bm0 {T : String} {rm : V → List V → Hp → VK → Prop} (q : ta σ H fun x H1 => tyV K T x H1 ∧ rm x [] H1 Q) : tBM0 K T rm ta σ H Q := q
end
section
variable {σ : L2.St} {H : Hp} {n b c : L2.St → Hp → Prop} {r : VK} {t u : TS} {te : TE} {tt : TT} {g : TG} {v : V} {i : Nat}
theorem w_cut (M : L2.St → Hp → Prop) (h1 : t ⟨M, r, b, c⟩ σ H) (h2 : ∀ σ' H', M σ' H' → u ⟨n, r, b, c⟩ σ' H') : C8.tCut t u ⟨n, r, b, c⟩ σ H := ⟨M, h1, h2⟩
theorem w_sub' {Q : L2.St → Hp → Prop} {to ti : TE} {ts : TSet} (q : to σ H fun o H1 => ti σ H1 fun i H2 => ts o i v H2 fun H3 => Q σ H3) : gSub to ti ts v σ H Q := q
theorem w_seq (q : t ⟨u ⟨n, r, b, c⟩, r, b, c⟩ σ H) : tSeq t u ⟨n, r, b, c⟩ σ H := q
theorem w_asg (q : te σ H fun x H1 => g x σ H1 n) : tAsg te g ⟨n, r, b, c⟩ σ H := q
theorem w_name {Q : L2.St → Hp → Prop} (q : Q (σ.set i (some v)) H) : gName i v σ H Q := q
theorem w_gcons {t1 : TG} {u1 : TGs} {vs : List V} {Q : L2.St → Hp → Prop} (q : t1 v σ H fun σ' H' => u1 vs σ' H' Q) : gCons t1 u1 (v :: vs) σ H Q := ⟨v, vs, rfl, q⟩
theorem w_gnil {Q : L2.St → Hp → Prop} (q : Q σ H) : gNil [] σ H Q := ⟨rfl, q⟩
theorem w_gtup {K : PySem.W.Frag} {t1 : TGs} {p : Addr} {xs : List V} {m : Nat} {Q : L2.St → Hp → Prop} (h : SqT K H p xs) (hl : xs.length = m) (q : t1 xs σ H Q) : gTup K m t1 (.ref p) σ H Q := ⟨p, xs, rfl, h, hl, q⟩
theorem w_ret (q : te σ H r) : tRet te ⟨n, r, b, c⟩ σ H := q
theorem w_retN (q : r .non H) : tRetN ⟨n, r, b, c⟩ σ H := q
theorem w_drop (q : te σ H fun _ H1 => n σ H1) : tDrop te ⟨n, r, b, c⟩ σ H := q
theorem w_ifS (q : tt σ H fun k H1 => if k = true then t ⟨n, r, b, c⟩ σ H1 else u ⟨n, r, b, c⟩ σ H1) : tIfS tt t u ⟨n, r, b, c⟩ σ H := q
theorem w_next (q : n σ H) : tNext ⟨n, r, b, c⟩ σ H := q
theorem w_break (q : b σ H) : tBreak ⟨n, r, b, c⟩ σ H := q
theorem w_cont (q : c σ H) : tCont ⟨n, r, b, c⟩ σ H := q
end
/-! ### loops -/
/-- the turns of a for over J -/
def FOR (J : It) (g : TG) (tb : TS) (D : Ends) (σ : L2.St) (H1 : Hp) : Prop :=
  ∃ W : Nat → Nat → L2.St → Hp → Prop, (∃ m, W 0 m σ H1) ∧
    ∀ i m σ H, W i m σ H → (J.stop i H ∧ D.nx σ H) ∨ (J.go i H ∧
      ∃ N : L2.St → Hp → Prop, (∀ σ' H', N σ' H' → ∃ m', m' < m ∧ W (i + 1) m' σ' H') ∧
        ∀ x H', J.yld i H x H' → g x σ H' fun σ2 H2 => tb { D with nx := N, ct := N, bk := D.nx } σ2 H2)
section
variable {K : PySem.W.Frag} {σ : L2.St} {H : Hp} {nx b c : L2.St → Hp → Prop} {rt : VK} {g : TG} {tb : TS} {D : Ends}
theorem w_for {wi : TI} (q : wi σ H fun J H1 => FOR J g tb D σ H1) : tFor wi g tb D σ H := q
theorem w_iR1 {ta : TA} {R : It → Hp → Prop} (q : ta σ H fun vs H1 => ∃ j : Int, vs = [.int j] ∧ -(2 ^ 62) ≤ j ∧ j < 2 ^ 62 ∧ R (Itr 0 j.toNat) H1) : iRng1 ta σ H R := q
theorem w_iR2 {ta : TA} {R : It → Hp → Prop} (q : ta σ H fun vs H1 => ∃ i j : Int, vs = [.int i, .int j] ∧ (-(2 ^ 62) ≤ i ∧ i < 2 ^ 62 ∧ -(2 ^ 62) ≤ j ∧ j < 2 ^ 62) ∧ R (Itr i (j - i).toNat) H1) : iRng2 ta σ H R := q
theorem w_iRev {te : TE} {R : It → Hp → Prop} (q : te σ H fun v H1 => ∃ (a : Addr) (xs : List V), v = .ref a ∧ ((SqL K H1 a xs ∧ R (Itv K a xs.length) H1) ∨ (SqT K H1 a xs ∧ R (RT.ItvT K a xs.length) H1))) : iRevU K te σ H R := q
theorem w_iEnum {ta : TA} {R : It → Hp → Prop} (q : ta σ H fun vs H1 => ∃ a xs, vs = [.ref a] ∧ SqL K H1 a xs ∧ R (Ite K a) H1) : iEnumU K ta σ H R := q
theorem w_iL {tl : TE} {R : It → Hp → Prop} (q : tl σ H fun x H1 => ∃ a, x = .ref a ∧ (∃ xs, SqL K H1 a xs) ∧ R (Itl K a) H1) : iList K tl σ H R := q
theorem w_iT {tl : TE} {R : It → Hp → Prop} (q : tl σ H fun x H1 => ∃ a, x = .ref a ∧ (∃ xs, SqT K H1 a xs) ∧ R (Itt K a) H1) : iTup K tl σ H R := q
theorem F_R1 {j : Int} (n : Nat) (hn : j.toNat = n) (h1 : -(2 ^ 62) ≤ j) (h2 : j < 2 ^ 62) (Pv : Nat → L2.St → Hp → Prop) (h0 : Pv 0 σ H)
    (hs : ∀ i σ H, i < n → Pv i σ H → g (.int i) σ H fun σ2 H2 => tb ⟨Pv (i + 1), rt, nx, Pv (i + 1)⟩ σ2 H2) (hd : ∀ σ H, Pv n σ H → nx σ H) :
    ∃ j' : Int, [V.int j] = [.int j'] ∧ -(2 ^ 62) ≤ j' ∧ j' < 2 ^ 62 ∧ FOR (Itr 0 j'.toNat) g tb ⟨nx, rt, b, c⟩ σ H := by
  subst hn
  refine ⟨j, rfl, h1, h2, ?_⟩
  exact for_range (D := ⟨nx, rt, b, c⟩) Pv h0 (fun i σ H hi p => by rw [Int.zero_add]; exact hs i σ H hi p) hd
theorem F_L {a : Addr} {xs : List V} (h : SqL K H a xs) (Pv : Nat → L2.St → Hp → Prop) (h0 : Pv 0 σ H) (hl : ∀ i σ H, i ≤ xs.length → Pv i σ H → SqL K H a xs)
    (hs : ∀ i x σ H, xs[i]? = some x → Pv i σ H → g x σ H fun σ2 H2 => tb ⟨Pv (i + 1), rt, nx, Pv (i + 1)⟩ σ2 H2) (hd : ∀ σ H, Pv xs.length σ H → nx σ H) :
    ∃ a', V.ref a = .ref a' ∧ (∃ ys, SqL K H a' ys) ∧ FOR (Itl K a') g tb ⟨nx, rt, b, c⟩ σ H :=
  ⟨a, rfl, ⟨xs, h⟩, for_list (D := ⟨nx, rt, b, c⟩) Pv h0 hl hs hd⟩
theorem F_T {a : Addr} {xs : List V} (h : SqT K H a xs) (Pv : Nat → L2.St → Hp → Prop) (h0 : Pv 0 σ H) (hl : ∀ i σ H, i ≤ xs.length → Pv i σ H → SqT K H a xs)
    (hs : ∀ i x σ H, xs[i]? = some x → Pv i σ H → g x σ H fun σ2 H2 => tb ⟨Pv (i + 1), rt, nx, Pv (i + 1)⟩ σ2 H2) (hd : ∀ σ H, Pv xs.length σ H → nx σ H) :
    ∃ a', V.ref a = .ref a' ∧ (∃ ys, SqT K H a' ys) ∧ FOR (Itt K a') g tb ⟨nx, rt, b, c⟩ σ H :=
  ⟨a, rfl, ⟨xs, h⟩, for_tup (D := ⟨nx, rt, b, c⟩) Pv h0 hl hs hd⟩
/-- a while by an invariant with a measure -/
theorem w_while {tt : TT} (W : Nat → L2.St → Hp → Prop) (m0 : Nat) (h0 : W m0 σ H)
    (hs : ∀ m σ' H', W m σ' H' → tt σ' H' fun k H1 => if k = true then tb ⟨fun σ2 H2 => ∃ m', m' < m ∧ W m' σ2 H2, rt, nx, fun σ2 H2 => ∃ m', m' < m ∧ W m' σ2 H2⟩ σ' H1 else nx σ' H1)
    (mono : ∀ σ H (Q Q' : Bool → Hp → Prop), (∀ k H1, Q k H1 → Q' k H1) → tt σ H Q → tt σ H Q') : tWhile tt tb ⟨nx, rt, b, c⟩ σ H := by
  refine ⟨W, ⟨m0, h0⟩, fun m σ' H' w => mono σ' H' _ _ (fun k H1 q => ?_) (hs m σ' H' w)⟩
  cases k with
  | true => exact ⟨_, fun _ _ z => z, q⟩
  | false => exact q
/-- .. the measure's step told at the test's end -/
theorem w_whileN {tt : TT} (W : Nat → L2.St → Hp → Prop) (m0 : Nat) (h0 : W m0 σ H)
    (hs : ∀ m σ' H', W m σ' H' → tt σ' H' fun k H1 => if k = true then ∃ N : L2.St → Hp → Prop, (∀ σ2 H2, N σ2 H2 → ∃ m', m' < m ∧ W m' σ2 H2) ∧ tb ⟨N, rt, nx, N⟩ σ' H1 else nx σ' H1) : tWhile tt tb ⟨nx, rt, b, c⟩ σ H := ⟨W, ⟨m0, h0⟩, hs⟩
theorem w_N {m : Nat} {W : Nat → L2.St → Hp → Prop} (q : tb ⟨fun σ2 H2 => ∃ m', m' < m ∧ W m' σ2 H2, rt, nx, fun σ2 H2 => ∃ m', m' < m ∧ W m' σ2 H2⟩ σ H) : ∃ N : L2.St → Hp → Prop, (∀ σ2 H2, N σ2 H2 → ∃ m', m' < m ∧ W m' σ2 H2) ∧ tb ⟨N, rt, nx, N⟩ σ H := ⟨_, fun _ _ z => z, q⟩
/-- the turns of a comprehension over J -/
def LC (J : It) (g : TG) (tt : TT) (te : TE) (vs : List Nat) (σ : L2.St) (D : Addr) (Q : VK) (H1 : Hp) : Prop :=
  ∃ W : Nat → Nat → Hp → Prop, (∃ m, W 0 m H1) ∧ ∀ i m H, W i m H → (J.stop i H ∧ Q (.ref D) H) ∨ (J.go i H ∧
    ∃ Nx : Hp → Prop, (∀ H', Nx H' → ∃ m', m' < m ∧ W (i + 1) m' H') ∧ ∀ x H', J.yld i H x H' → g x (wipe σ vs) H' fun σ2 H2 => wipe σ2 vs = wipe σ vs ∧
      tt σ2 H2 fun k H3 => if k = true then te σ2 H3 fun y H4 => ∃ acc, H4 D = some (.lst acc) ∧ acc.length < sizeLine ∧ Nx (upd H4 D (.lst (acc ++ [y]))) else Nx H3)
theorem w_lc {wi : TI} {tt : TT} {te : TE} {vs : List Nat} {Q : VK} (q : wi σ H fun J H1 => ∀ D, H1 D = none → LC J g tt te vs σ D Q (upd H1 D (.lst []))) : tLc wi g tt te vs σ H Q := q
theorem LC_L {a : Addr} {xs : List V} {tt : TT} {te : TE} {vs : List Nat} {Q : VK} (h : SqL K H a xs) (q : ∀ D, H D = none → LC (Itl K a) g tt te vs σ D Q (upd H D (.lst []))) :
    ∃ a', V.ref a = .ref a' ∧ (∃ ys, SqL K H a' ys) ∧ ∀ D, H D = none → LC (Itl K a') g tt te vs σ D Q (upd H D (.lst [])) := ⟨a, rfl, ⟨xs, h⟩, q⟩
theorem LC_T {a : Addr} {xs : List V} {tt : TT} {te : TE} {vs : List Nat} {Q : VK} (h : SqT K H a xs) (q : ∀ D, H D = none → LC (Itt K a) g tt te vs σ D Q (upd H D (.lst []))) :
    ∃ a', V.ref a = .ref a' ∧ (∃ ys, SqT K H a' ys) ∧ ∀ D, H D = none → LC (Itt K a') g tt te vs σ D Q (upd H D (.lst [])) := ⟨a, rfl, ⟨xs, h⟩, q⟩
theorem LC_by {a D : Addr} {xs : List V} {tt : TT} {te : TE} {vs : List Nat} {Q : VK} (Pv : Nat → Hp → Prop) (h0 : Pv 0 (upd H D (.lst []))) (hl : ∀ i H, i ≤ xs.length → Pv i H → SqL K H a xs)
    (hs : ∀ i x H, xs[i]? = some x → Pv i H → g x (wipe σ vs) H fun σ2 H2 => wipe σ2 vs = wipe σ vs ∧ tt σ2 H2 fun k H3 =>
      if k = true then te σ2 H3 fun y H4 => ∃ acc, H4 D = some (.lst acc) ∧ acc.length < sizeLine ∧ Pv (i + 1) (upd H4 D (.lst (acc ++ [y]))) else Pv (i + 1) H3)
    (hd : ∀ H, Pv xs.length H → Q (.ref D) H) : LC (Itl K a) g tt te vs σ D Q (upd H D (.lst [])) := lc_list (xs := xs) Pv h0 hl hs hd
theorem LC_R1 {j : Int} {tt : TT} {te : TE} {vs : List Nat} {Q : VK} (n : Nat) (hn : j.toNat = n) (h1 : -(2 ^ 62) ≤ j) (h2 : j < 2 ^ 62)
    (q : ∀ D, H D = none → ∃ Pv : Nat → Hp → Prop, Pv 0 (upd H D (.lst [])) ∧ (∀ (i : Nat) H', i < n → Pv i H' → g (.int i) (wipe σ vs) H' fun σ2 H2 => wipe σ2 vs = wipe σ vs ∧ tt σ2 H2 fun k H3 =>
      if k = true then te σ2 H3 fun y H4 => ∃ acc, H4 D = some (.lst acc) ∧ acc.length < sizeLine ∧ Pv (i + 1) (upd H4 D (.lst (acc ++ [y]))) else Pv (i + 1) H3) ∧ ∀ H', Pv n H' → Q (.ref D) H') :
    ∃ j' : Int, [V.int j] = [.int j'] ∧ -(2 ^ 62) ≤ j' ∧ j' < 2 ^ 62 ∧ ∀ D, H D = none → LC (Itr 0 j'.toNat) g tt te vs σ D Q (upd H D (.lst [])) := by
  subst hn
  refine ⟨j, rfl, h1, h2, fun D hD => ?_⟩
  obtain ⟨Pv, p0, ps, pd⟩ := q D hD
  exact lc_range Pv p0 (fun i H hi p => by rw [Int.zero_add]; exact ps i H hi p) pd
theorem w_wipe {σ1 σ2 : L2.St} {vs : List Nat} {B : Prop} (h : wipe σ2 vs = wipe σ1 vs) (q : B) : wipe σ2 vs = wipe σ1 vs ∧ B := ⟨h, q⟩
theorem w_yes {Q : Bool → Hp → Prop} (q : Q true H) : tYes σ H Q := q
end
/-- a test's outcome, as a proposition -/
theorem ite_d {c : Prop} [Decidable c] {A B : Prop} (h1 : c → A) (h2 : ¬ c → B) : if decide c = true then A else B := by
  by_cases h : c
  · rw [if_pos (decide_eq_true h)]; exact h1 h
  · rw [if_neg (by rw [decide_eq_false h]; decide)]; exact h2 h
theorem ite_nd {c : Prop} [Decidable c] {A B : Prop} (h1 : ¬ c → A) (h2 : c → B) : if (!decide c) = true then A else B := by
  by_cases h : c
  · rw [if_neg (by rw [decide_eq_true h]; decide)]; exact h2 h
  · rw [if_pos (by rw [decide_eq_false h]; decide)]; exact h1 h
theorem iteNT {A B : Prop} (h : B) : if (!true) = true then A else B := h
theorem iteNF {A B : Prop} (h : A) : if (!false) = true then A else B := h
theorem ite_b {k : Bool} {A B : Prop} (h1 : k = true → A) (h2 : k = false → B) : if k = true then A else B := by
  cases k
  · exact h2 rfl
  · exact h1 rfl
/-! ### heaps -/
/-- all that was tracked, but for S, is as it was -/
def Fr (S : List Addr) (H H' : Hp) : Prop := ∀ a o, H a = some o → a ∉ S → H' a = some o
theorem Fr.refl {S : List Addr} {H : Hp} : Fr S H H := fun _ _ h _ => h
theorem Fr.trans {S : List Addr} {H H1 H2 : Hp} (a : Fr S H H1) (b : Fr S H1 H2) : Fr S H H2 := fun x o h n => b x o (a x o h n) n
theorem Fr.new {S : List Addr} {H : Hp} {p : Addr} {o : HO} (h : H p = none) : Fr S H (upd H p o) := fun a u e _ => by
  rw [upd_ne (ne_of_none e h)]
  exact e
theorem Fr.mut {S : List Addr} {H : Hp} {p : Addr} {o : HO} (h : p ∈ S) : Fr S H (upd H p o) := fun a u e n => by
  rw [upd_ne (by rintro rfl; exact n h)]
  exact e
theorem Fr.mono {S S' : List Addr} {H H' : Hp} (a : Fr S H H') (h : ∀ x ∈ S, x ∈ S') : Fr S' H H' := fun x o e n => a x o e fun z => n (h x z)
theorem Fr.free {H H' : Hp} (e : Fr [] H H') {l : Addr} (h : H' l = none) : H l = none := by
  cases q : H l with
  | none => rfl
  | some o =>
    rw [e l o q (by simp)] at h
    cases h
/-- what is new may change -/
theorem Fr.new_mut {S : List Addr} {H H' : Hp} {p : Addr} (hp : H p = none) (a : Fr (p :: S) H H') : Fr S H H' := fun x o e n => a x o e (by
  intro z
  rcases List.mem_cons.mp z with z | z
  · subst z; rw [hp] at e; cases e
  · exact n z)
theorem Fr.seqL {S : List Addr} {K : PySem.W.Frag} {H H' : Hp} {a : Addr} {xs : List V} (e : Fr S H H') (h : SqL K H a xs) (n : a ∉ S) : SqL K H' a xs := by
  rcases h with (h | ⟨o, h⟩) | h
  · exact .inl (.inl (e _ _ h n))
  · exact .inl (.inr ⟨o, e _ _ h n⟩)
  · exact .inr h
theorem Fr.seqT {S : List Addr} {K : PySem.W.Frag} {H H' : Hp} {a : Addr} {xs : List V} (e : Fr S H H') (h : SqT K H a xs) (n : a ∉ S) : SqT K H' a xs := by
  rcases h with (h | ⟨o, h⟩) | h
  · exact .inl (.inl (e _ _ h n))
  · exact .inl (.inr ⟨o, e _ _ h n⟩)
  · exact .inr h
/-- an open place of a list of ints all of which hold P -/
theorem at_all {ns : List Int} {P : Int → Prop} (hP : ∀ z ∈ ns, P z) {p : Int} (h0 : 0 ≤ p) (h : p < ns.length) : ∃ z, atI (ns.map V.int) p = some (.int z) ∧ P z := by
  have hk : p.toNat < ns.length := by omega
  have ek : p = ((p.toNat : Nat) : Int) := by omega
  have key : atI (ns.map V.int) ((p.toNat : Nat) : Int) = some (.int ns[p.toNat]) := atI_nat (by rw [List.getElem?_map, List.getElem?_eq_getElem hk] <;> rfl)
  rw [← ek] at key
  exact ⟨_, key, hP _ (List.getElem_mem hk)⟩
theorem at_str {ns : List Str} {P : Str → Prop} (hP : ∀ z ∈ ns, P z) {p : Int} (h0 : 0 ≤ p) (h : p < ns.length) : ∃ z, atI (ns.map V.str) p = some (.str z) ∧ P z := by
  have hk : p.toNat < ns.length := by omega
  have ek : p = ((p.toNat : Nat) : Int) := by omega
  have key : atI (ns.map V.str) ((p.toNat : Nat) : Int) = some (.str ns[p.toNat]) := atI_nat (by rw [List.getElem?_map, List.getElem?_eq_getElem hk] <;> rfl)
  rw [← ek] at key
  exact ⟨_, key, hP _ (List.getElem_mem hk)⟩
theorem at_int {ns : List Int} {p : Int} (h0 : 0 ≤ p) (h : p < ns.length) : ∃ z, atI (ns.map V.int) p = some (.int z) ∧ ns[p.toNat]? = some z := by
  have hk : p.toNat < ns.length := by omega
  have ek : p = ((p.toNat : Nat) : Int) := by omega
  have key : atI (ns.map V.int) ((p.toNat : Nat) : Int) = some (.int ns[p.toNat]) := atI_nat (by rw [List.getElem?_map, List.getElem?_eq_getElem hk] <;> rfl)
  rw [← ek] at key
  exact ⟨_, key, List.getElem?_eq_getElem hk⟩
end U

namespace U
open PySem PySem.Spec PyProof.Rows L2
/-! ### data of tuples all the way down: nothing changes it -/
mutual
inductive Dt (K : PySem.W.Frag) (H : Hp) : V → PyData → Prop
  | non : Dt K H .non .none
  | bl (b : Bool) : Dt K H (.bl b) (.bool b)
  | int (i : Int) : Dt K H (.int i) (.int i)
  | str (x : Str) : Dt K H (.str x) (.str x)
  | tup {p : Addr} {vs : List V} {es : List PyData} : SqT K H p vs → DtAll K H vs es → Dt K H (.ref p) (.tuple es)
inductive DtAll (K : PySem.W.Frag) (H : Hp) : List V → List PyData → Prop
  | nil : DtAll K H [] []
  | cons {v : V} {vs : List V} {e : PyData} {es : List PyData} : Dt K H v e → DtAll K H vs es → DtAll K H (v :: vs) (e :: es)
end
/-- tuples stand -/
def Tu (H H' : Hp) : Prop := ∀ a xs, (H a = some (.tup xs) → H' a = some (.tup xs)) ∧ ∀ o, H a = some (.frz o (.tup xs)) → H' a = some (.frz o (.tup xs))
theorem Tu.refl {H : Hp} : Tu H H := fun _ _ => ⟨id, fun _ => id⟩
theorem Tu.trans {H H1 H2 : Hp} (a : Tu H H1) (b : Tu H1 H2) : Tu H H2 := fun x xs => ⟨fun h => (b x xs).1 ((a x xs).1 h), fun o h => (b x xs).2 o ((a x xs).2 o h)⟩
theorem Fr.tu {H H' : Hp} (f : Fr [] H H') : Tu H H' := fun a xs => ⟨fun h => f a _ h (by simp), fun o h => f a _ h (by simp)⟩
theorem Fr.tu1 {H H' : Hp} {t : Addr} {xs : List V} (f : Fr [t] H H') (h : H t = some (.lst xs)) : Tu H H' := fun a ys =>
  ⟨fun e => f a _ e (by intro z; rw [List.mem_singleton.mp z, h] at e; cases e), fun o e => f a _ e (by intro z; rw [List.mem_singleton.mp z, h] at e; cases e)⟩
theorem Tu.mut {H : Hp} {q : Addr} {xs : List V} {o : HO} (h : H q = some (.lst xs)) : Tu H (upd H q o) := fun a ys =>
  ⟨fun e => by rw [upd_ne (by rintro rfl; rw [h] at e; cases e)]; exact e, fun o e => by rw [upd_ne (by rintro rfl; rw [h] at e; cases e)]; exact e⟩
theorem Tu.new {H : Hp} {q : Addr} {o : HO} (h : H q = none) : Tu H (upd H q o) := (Fr.new h).tu
theorem Tu.seqT {K : PySem.W.Frag} {H H' : Hp} {a : Addr} {xs : List V} (e : Tu H H') (h : SqT K H a xs) : SqT K H' a xs := by
  rcases h with (h | ⟨o, h⟩) | h
  · exact .inl (.inl ((e a xs).1 h))
  · exact .inl (.inr ⟨o, (e a xs).2 o h⟩)
  · exact .inr h
section
variable {K : PySem.W.Frag} {H H' : Hp}
mutual
theorem Dt.mono (f : Tu H H') : ∀ {v : V} {d : PyData}, Dt K H v d → Dt K H' v d
  | _, _, .non => .non
  | _, _, .bl b => .bl b
  | _, _, .int i => .int i
  | _, _, .str x => .str x
  | _, _, .tup s a => .tup (f.seqT s) (DtAll.mono f a)
theorem DtAll.mono (f : Tu H H') : ∀ {vs : List V} {ds : List PyData}, DtAll K H vs ds → DtAll K H' vs ds
  | _, _, .nil => .nil
  | _, _, .cons a b => .cons (Dt.mono f a) (DtAll.mono f b)
end
mutual
theorem Dt.dp : ∀ {v : V} {d : PyData}, Dt K H v d → Dp K H v d
  | _, _, .non => .non
  | _, _, .bl b => .bl b
  | _, _, .int i => .int i
  | _, _, .str x => .str x
  | _, _, .tup s a => .tup s (DtAll.dp a)
theorem DtAll.dp : ∀ {vs : List V} {ds : List PyData}, DtAll K H vs ds → DpAll K H vs ds
  | _, _, .nil => .nil
  | _, _, .cons a b => .cons (Dt.dp a) (DtAll.dp b)
end
theorem DtAll.length : ∀ {vs : List V} {ds : List PyData}, DtAll K H vs ds → vs.length = ds.length
  | _, _, .nil => rfl
  | _, _, .cons _ b => by rw [List.length_cons, List.length_cons, DtAll.length b]
theorem DtAll.append : ∀ {vs us : List V} {ds es : List PyData}, DtAll K H vs ds → DtAll K H us es → DtAll K H (vs ++ us) (ds ++ es)
  | _, _, _, _, .nil, h => h
  | _, _, _, _, .cons a b, h => .cons a (DtAll.append b h)
theorem DtAll.take : ∀ {vs : List V} {ds : List PyData} (n : Nat), DtAll K H vs ds → DtAll K H (vs.take n) (ds.take n)
  | _, _, 0, _ => .nil
  | _, _, _ + 1, .nil => .nil
  | _, _, n + 1, .cons a b => .cons a (DtAll.take n b)
theorem DtAll.drop : ∀ {vs : List V} {ds : List PyData} (n : Nat), DtAll K H vs ds → DtAll K H (vs.drop n) (ds.drop n)
  | _, _, 0, h => h
  | _, _, _ + 1, .nil => .nil
  | _, _, n + 1, .cons a b => DtAll.drop n b
theorem DtAll.get : ∀ {vs : List V} {ds : List PyData} {i : Nat} {v : V}, DtAll K H vs ds → vs[i]? = some v → ∃ d, ds[i]? = some d ∧ Dt K H v d
  | _, _, i, _, .nil, h => by simp at h
  | _, _, 0, v, .cons a b, h => by
    simp at h
    subst h
    exact ⟨_, rfl, a⟩
  | _, _, i + 1, v, .cons a b, h => by
    obtain ⟨d, h1, h2⟩ := DtAll.get (i := i) b (by simpa using h)
    exact ⟨d, by simpa using h1, h2⟩
theorem DtAll.get' {vs : List V} {ds : List PyData} {i : Nat} {d : PyData} (h : DtAll K H vs ds) (e : ds[i]? = some d) : ∃ v, vs[i]? = some v ∧ Dt K H v d := by
  have hi := (List.getElem?_eq_some_iff.mp e).1
  rw [← h.length] at hi
  obtain ⟨d', h1, h2⟩ := h.get (List.getElem?_eq_getElem hi)
  rw [e] at h1
  cases h1
  exact ⟨_, List.getElem?_eq_getElem hi, h2⟩
theorem Dt.tuple {v : V} {ds : List PyData} (h : Dt K H v (.tuple ds)) : ∃ p vs, v = .ref p ∧ SqT K H p vs ∧ DtAll K H vs ds := by
  cases h with
  | tup s a => exact ⟨_, _, rfl, s, a⟩
theorem Dt.of_int {v : V} {i : Int} (h : Dt K H v (.int i)) : v = .int i := by cases h; rfl
theorem Dt.of_str {v : V} {x : Str} (h : Dt K H v (.str x)) : v = .str x := by cases h; rfl
theorem Dt.of_bl {v : V} {b : Bool} (h : Dt K H v (.bool b)) : v = .bl b := by cases h; rfl
theorem Dt.of_non {v : V} (h : Dt K H v .none) : v = .non := by cases h; rfl
theorem DtAll.ints : ∀ (ns : List Int), DtAll K H (ns.map V.int) (ns.map PyData.int)
  | [] => .nil
  | n :: r => .cons (.int n) (DtAll.ints r)
end
/-! ### a list of such -/
def Lq (K : PySem.W.Frag) (H : Hp) (q : Addr) (ds : List PyData) : Prop := ∃ vs, H q = some (.lst vs) ∧ DtAll K H vs ds
section
variable {K : PySem.W.Frag} {H H' : Hp} {q : Addr} {ds : List PyData}
theorem Lq.fr {S : List Addr} (h : Lq K H q ds) (f : Fr S H H') (n : q ∉ S) (t : Tu H H') : Lq K H' q ds := by
  obtain ⟨vs, e, a⟩ := h
  exact ⟨vs, f _ _ e n, a.mono t⟩
theorem Lq.fr0 (h : Lq K H q ds) (f : Fr [] H H') : Lq K H' q ds := h.fr f (by simp) f.tu
theorem Lq.dp (h : Lq K H q ds) : Dp K H (.ref q) (.list ds) := by
  obtain ⟨vs, e, a⟩ := h
  exact .lst (SqL.of e) a.dp
theorem lay_list {n : Nat} (h : ∀ d ∈ ds, d.canLay0 = true ∧ d.depth ≤ n) : PyData.canLayAll0 ds = true ∧ PyData.depthAll ds ≤ n := by
  induction ds with
  | nil => exact ⟨by simp [PyData.canLayAll0], by simp [PyData.depthAll]⟩
  | cons d r ih =>
    have h1 := h d List.mem_cons_self
    have h2 := ih fun x hx => h x (List.mem_cons_of_mem _ hx)
    constructor
    · simp [PyData.canLayAll0, h1.1, h2.1]
    · simp only [PyData.depthAll]
      exact Nat.max_le.mpr ⟨h1.2, h2.2⟩
theorem shaped_list {n : Nat} (hn : n < 64) (h : ∀ d ∈ ds, d.canLay0 = true ∧ d.depth ≤ n) : SeqAt.shaped (.list ds) = true := by
  have k := lay_list h
  unfold SeqAt.shaped
  rw [Bool.and_eq_true]
  refine ⟨by simp only [PyData.canLay0]; exact k.1, decide_eq_true ?_⟩
  simp only [PyData.depth]
  omega
theorem shaped_tuple {n : Nat} (hn : n < 64) (h : ∀ d ∈ ds, d.canLay0 = true ∧ d.depth ≤ n) : SeqAt.shaped (.tuple ds) = true := by
  have k := lay_list h
  unfold SeqAt.shaped
  rw [Bool.and_eq_true]
  refine ⟨by simp only [PyData.canLay0]; exact k.1, decide_eq_true ?_⟩
  simp only [PyData.depth]
  omega
theorem lay_shaped {d : PyData} (h : d.canLay0 = true ∧ d.depth ≤ 64) : SeqAt.shaped d = true := by
  unfold SeqAt.shaped
  rw [Bool.and_eq_true]
  exact ⟨h.1, decide_eq_true h.2⟩
theorem shaped_refl {d : PyData} (h : SeqAt.shaped d = true) : PyData.eqv d d = true := SeqAt.eqv_refl d (SeqAt.canLay_of_shaped h)
theorem w_eqR {Q : VK} {x y : V} {d : PyData} (hx : Dp K H x d) (hy : Dp K H y d) (s : SeqAt.shaped d = true) (q : Q (.bl true) H) : rEqU K x y H Q := w_eqD hx hy s s (by rw [shaped_refl s]; exact q)
theorem w_neR {Q : VK} {x y : V} {d : PyData} (hx : Dp K H x d) (hy : Dp K H y d) (s : SeqAt.shaped d = true) (q : Q (.bl false) H) : rNeU K x y H Q := w_neD hx hy s s (by rw [shaped_refl s]; exact q)
theorem w_app {l : Addr} {xs : List V} {y : V} {Q : VK} (h : H l = some (.lst xs)) (n : xs.length ≤ 1000000) (q : Q .non (upd H l (.lst (xs ++ [y])))) : tyV K "list" (.ref l) H ∧ rAppend (.ref l) [y] H Q :=
  ⟨.inl ⟨rfl, _, SqL.of h⟩, l, xs, y, rfl, rfl, h, Nat.lt_of_le_of_lt n (by decide), q⟩
end
theorem cut_take {xs : List V} (n : Nat) : cutV xs none (some (n : Int)) = xs.take n := by
  unfold cutV
  rw [HT.sIx_none, HT.sIx_nat, List.drop_zero, Nat.sub_zero]
  by_cases h : n ≤ xs.length
  · rw [Nat.min_eq_left h]
  · rw [Nat.min_eq_right (by omega), List.take_length, List.take_of_length_le (by omega)]
theorem cut_drop {xs : List V} (n : Nat) : cutV xs (some (n : Int)) none = xs.drop n := by
  unfold cutV
  rw [HT.sIx_none, HT.sIx_nat]
  by_cases h : n ≤ xs.length
  · rw [Nat.min_eq_left h, List.take_of_length_le (by rw [List.length_drop]; omega)]
  · rw [Nat.min_eq_right (by omega), Nat.sub_self, List.take_zero, List.drop_eq_nil_of_le (by omega)]
/-- == with an empty list -/
theorem w_eqNil {Q : VK} {K : PySem.W.Frag} {H : Hp} {x e : Addr} {ds : List PyData} (hx : Dp K H (.ref x) (.list ds)) (he : H e = some (.lst [])) (s : SeqAt.shaped (.list ds) = true) (q : Q (.bl ds.isEmpty) H) : rEqU K (.ref x) (.ref e) H Q :=
  w_eqD hx (.lst (SqL.of he) .nil) s (by decide) (by
    cases ds with
    | nil => exact q
    | cons d r => exact q)
theorem w_neNil {Q : VK} {K : PySem.W.Frag} {H : Hp} {x e : Addr} {ds : List PyData} (hx : Dp K H (.ref x) (.list ds)) (he : H e = some (.lst [])) (s : SeqAt.shaped (.list ds) = true) (q : Q (.bl (!ds.isEmpty)) H) : rNeU K (.ref x) (.ref e) H Q :=
  w_neD hx (.lst (SqL.of he) .nil) s (by decide) (by
    cases ds with
    | nil => exact q
    | cons d r => exact q)
theorem take_fold {α β : Type} {f : β → α → β} {b : β} {xs : List α} {i : Nat} {x : α} (h : xs[i]? = some x) : (xs.take (i + 1)).foldl f b = f ((xs.take i).foldl f b) x := by
  rw [List.take_add_one, h, List.foldl_append]
  rfl
theorem take_map {α β : Type} {f : α → β} {xs : List α} {i : Nat} {x : α} (h : xs[i]? = some x) : (xs.take (i + 1)).map f = (xs.take i).map f ++ [f x] := by
  rw [List.take_add_one, h, List.map_append]
  rfl
theorem take_filt {α : Type} {f : α → Bool} {xs : List α} {i : Nat} {x : α} (h : xs[i]? = some x) : (xs.take (i + 1)).filter f = (xs.take i).filter f ++ (if f x then [x] else []) := by
  rw [List.take_add_one, h, List.filter_append]
  show _ ++ List.filter f [x] = _
  rw [List.filter_cons, List.filter_nil]
/-! ### any plain data (a dict: that it is one) -/
mutual
inductive Dg (K : PySem.W.Frag) (H : Hp) : V → PyData → Prop
  | non : Dg K H .non .none
  | bl (b : Bool) : Dg K H (.bl b) (.bool b)
  | int (i : Int) : Dg K H (.int i) (.int i)
  | str (x : Str) : Dg K H (.str x) (.str x)
  | tup {p : Addr} {vs : List V} {es : List PyData} : SqT K H p vs → DgAll K H vs es → Dg K H (.ref p) (.tuple es)
  | lst {p : Addr} {vs : List V} {es : List PyData} : SqL K H p vs → DgAll K H vs es → Dg K H (.ref p) (.list es)
  | dct {p : Addr} {kvs : List (Key × V)} {es : List (PyData × PyData)} : H p = some (.dK kvs) → Dg K H (.ref p) (.dict es)
inductive DgAll (K : PySem.W.Frag) (H : Hp) : List V → List PyData → Prop
  | nil : DgAll K H [] []
  | cons {v : V} {vs : List V} {e : PyData} {es : List PyData} : Dg K H v e → DgAll K H vs es → DgAll K H (v :: vs) (e :: es)
end
section
variable {K : PySem.W.Frag} {H H' : Hp}
mutual
theorem Dg.fr (f : Fr [] H H') : ∀ {v : V} {d : PyData}, Dg K H v d → Dg K H' v d
  | _, _, .non => .non
  | _, _, .bl b => .bl b
  | _, _, .int i => .int i
  | _, _, .str x => .str x
  | _, _, .tup s a => .tup (f.seqT s (by simp)) (DgAll.fr f a)
  | _, _, .lst s a => .lst (f.seqL s (by simp)) (DgAll.fr f a)
  | _, _, .dct h => .dct (f _ _ h (by simp))
theorem DgAll.fr (f : Fr [] H H') : ∀ {vs : List V} {ds : List PyData}, DgAll K H vs ds → DgAll K H' vs ds
  | _, _, .nil => .nil
  | _, _, .cons a b => .cons (Dg.fr f a) (DgAll.fr f b)
end
mutual
theorem Dt.dg : ∀ {v : V} {d : PyData}, Dt K H v d → Dg K H v d
  | _, _, .non => .non
  | _, _, .bl b => .bl b
  | _, _, .int i => .int i
  | _, _, .str x => .str x
  | _, _, .tup s a => .tup s (DtAll.dg a)
theorem DtAll.dg : ∀ {vs : List V} {ds : List PyData}, DtAll K H vs ds → DgAll K H vs ds
  | _, _, .nil => .nil
  | _, _, .cons a b => .cons (Dt.dg a) (DtAll.dg b)
end
theorem DgAll.length : ∀ {vs : List V} {ds : List PyData}, DgAll K H vs ds → vs.length = ds.length
  | _, _, .nil => rfl
  | _, _, .cons _ b => by rw [List.length_cons, List.length_cons, DgAll.length b]
theorem DgAll.get : ∀ {vs : List V} {ds : List PyData} {i : Nat} {v : V}, DgAll K H vs ds → vs[i]? = some v → ∃ d, ds[i]? = some d ∧ Dg K H v d
  | _, _, i, _, .nil, h => by simp at h
  | _, _, 0, v, .cons a b, h => by
    simp at h
    subst h
    exact ⟨_, rfl, a⟩
  | _, _, i + 1, v, .cons a b, h => by
    obtain ⟨d, h1, h2⟩ := DgAll.get (i := i) b (by simpa using h)
    exact ⟨d, by simpa using h1, h2⟩
end
theorem Lq.dg {K : PySem.W.Frag} {H : Hp} {l : Addr} {ds : List PyData} (h : Lq K H l ds) : Dg K H (.ref l) (.list ds) := by
  obtain ⟨vs, e, a⟩ := h
  exact .lst (SqL.of e) a.dg
/-! ### displays, append: what is known of them behind -/
theorem mkT {K : PySem.W.Frag} {H : Hp} {xs : List V} {ds : List PyData} {Q : VK} (d : DtAll K H xs ds) (q : ∀ p H', H p = none → Fr [] H H' → Dt K H' (.ref p) (.tuple ds) → Q (.ref p) H') (n : xs.length ≤ 1000 := by exact Nat.le_of_ble_eq_true rfl) : MkT xs Q H :=
  ⟨Nat.le_trans n (by decide), fun p hp => q p _ hp (Fr.new hp) (.tup (.inl (.inl upd_same)) (d.mono (Tu.new hp)))⟩
theorem mkL {K : PySem.W.Frag} {H : Hp} {xs : List V} {ds : List PyData} {Q : VK} (d : DtAll K H xs ds) (q : ∀ p H', H p = none → Fr [] H H' → Lq K H' p ds → Q (.ref p) H') (n : xs.length ≤ 1000 := by exact Nat.le_of_ble_eq_true rfl) : MkL xs Q H :=
  ⟨Nat.le_trans n (by decide), fun p hp => q p _ hp (Fr.new hp) ⟨xs, upd_same, d.mono (Tu.new hp)⟩⟩
/-- a list of ints, of texts -/
theorem mkI {H : Hp} {ns : List Int} {xs : List V} {Q : VK} (e : xs = ns.map V.int) (q : ∀ p H', H p = none → Fr [] H H' → H' p = some (.lst (ns.map V.int)) → Q (.ref p) H') (n : xs.length ≤ 1000 := by exact Nat.le_of_ble_eq_true rfl) : MkL xs Q H :=
  ⟨Nat.le_trans n (by decide), fun p hp => q p _ hp (Fr.new hp) (by rw [upd_same, e])⟩
theorem mkS {H : Hp} {ns : List Str} {xs : List V} {Q : VK} (e : xs = ns.map V.str) (q : ∀ p H', H p = none → Fr [] H H' → H' p = some (.lst (ns.map V.str)) → Q (.ref p) H') (n : xs.length ≤ 1000 := by exact Nat.le_of_ble_eq_true rfl) : MkL xs Q H :=
  ⟨Nat.le_trans n (by decide), fun p hp => q p _ hp (Fr.new hp) (by rw [upd_same, e])⟩
theorem Lq.ty {K : PySem.W.Frag} {H : Hp} {l : Addr} {ds : List PyData} (h : Lq K H l ds) : tyV K "list" (.ref l) H := by
  obtain ⟨vs, e, _⟩ := h
  exact .inl ⟨rfl, _, SqL.of e⟩
theorem Lq.app {K : PySem.W.Frag} {H : Hp} {l : Addr} {ds : List PyData} {y : V} {d : PyData} {Q : VK} (h : Lq K H l ds) (hy : Dt K H y d) (n : ds.length ≤ 100000) (q : ∀ H', Fr [l] H H' → Tu H H' → Lq K H' l (ds ++ [d]) → Q .non H') : rAppend (.ref l) [y] H Q := by
  obtain ⟨vs, e, a⟩ := h
  refine ⟨l, vs, y, rfl, rfl, e, Nat.lt_of_le_of_lt (show vs.length ≤ 100000 by rw [a.length]; exact n) (by decide), ?_⟩
  exact q _ (Fr.mut (by simp)) (Tu.mut e) ⟨_, upd_same, (a.append (.cons hy .nil)).mono (Tu.mut e)⟩
theorem Lq.copy {K : PySem.W.Frag} {H : Hp} {l : Addr} {ds : List PyData} {Q : VK} (h : Lq K H l ds) (q : ∀ p H', H p = none → Fr [] H H' → Lq K H' p ds → Q (.ref p) H') : rListU K [.ref l] H Q := by
  obtain ⟨vs, e, a⟩ := h
  exact w_listL (SqL.of e) fun p hp => q p _ hp (Fr.new hp) ⟨vs, upd_same, a.mono (Tu.new hp)⟩
theorem Lq.isList {K : PySem.W.Frag} {H : Hp} {l : Addr} {ds : List PyData} {Q : VK} (h : Lq K H l ds) (q : Q (.bl true) H) : rIsi K [.ref l, .ty "list"] H Q := by
  obtain ⟨vs, e, a⟩ := h
  exact isL_list (SqL.of e) q
theorem Lq.len {K : PySem.W.Frag} {H : Hp} {l : Addr} {ds : List PyData} {Q : VK} (h : Lq K H l ds) (q : Q (.int ds.length) H) : rLenU K [.ref l] H Q := by
  obtain ⟨vs, e, a⟩ := h
  rw [← a.length] at q
  exact w_lenL (SqL.of e) q
theorem DtAll.rev {K : PySem.W.Frag} {H : Hp} : ∀ {vs : List V} {ds : List PyData}, DtAll K H vs ds → DtAll K H vs.reverse ds.reverse
  | _, _, .nil => .nil
  | _, _, .cons a b => by
    rw [List.reverse_cons, List.reverse_cons]
    exact (DtAll.rev b).append (.cons a .nil)
theorem Lq.reverse {K : PySem.W.Frag} {H : Hp} {l : Addr} {ds : List PyData} {Q : VK} (h : Lq K H l ds) (q : ∀ H', Fr [l] H H' → Tu H H' → Lq K H' l ds.reverse → Q .non H') : rReverse (.ref l) [] H Q := by
  obtain ⟨vs, e, a⟩ := h
  exact ⟨l, vs, rfl, rfl, e, q _ (Fr.mut (by simp)) (Tu.mut e) ⟨_, upd_same, (a.rev).mono (Tu.mut e)⟩⟩
/-! ### slices, sums -/
def cutA {α : Type} (xs : List α) (lo hi : Option Int) : List α := (xs.drop (HT.sIx xs.length 0 lo)).take (HT.sIx xs.length xs.length hi - HT.sIx xs.length 0 lo)
theorem cutA_take {α : Type} {xs : List α} (n : Nat) : cutA xs none (some (n : Int)) = xs.take n := by
  unfold cutA
  rw [HT.sIx_none, HT.sIx_nat, List.drop_zero, Nat.sub_zero]
  by_cases h : n ≤ xs.length
  · rw [Nat.min_eq_left h]
  · rw [Nat.min_eq_right (by omega), List.take_length, List.take_of_length_le (by omega)]
theorem cutA_drop {α : Type} {xs : List α} (n : Nat) : cutA xs (some (n : Int)) none = xs.drop n := by
  unfold cutA
  rw [HT.sIx_none, HT.sIx_nat]
  by_cases h : n ≤ xs.length
  · rw [Nat.min_eq_left h, List.take_of_length_le (by rw [List.length_drop]; omega)]
  · rw [Nat.min_eq_right (by omega), Nat.sub_self, List.take_zero, List.drop_eq_nil_of_le (by omega)]
theorem cutA_mem {α : Type} {xs : List α} {lo hi : Option Int} {x : α} (h : x ∈ cutA xs lo hi) : x ∈ xs := List.mem_of_mem_drop (List.mem_of_mem_take h)
theorem cutA_map {α β : Type} {f : α → β} {xs : List α} {lo hi : Option Int} : cutA (xs.map f) lo hi = (cutA xs lo hi).map f := by
  unfold cutA
  rw [List.length_map, ← List.map_drop, ← List.map_take]
theorem cutA_len {α : Type} {xs : List α} {lo hi : Option Int} : (cutA xs lo hi).length ≤ xs.length := by
  unfold cutA
  rw [List.length_take, List.length_drop]
  omega
theorem DtAll.cut {K : PySem.W.Frag} {H : Hp} {vs : List V} {ds : List PyData} (h : DtAll K H vs ds) (lo hi : Option Int) : DtAll K H (cutV vs lo hi) (cutA ds lo hi) := by
  unfold cutV cutA
  rw [h.length]
  exact (h.drop _).take _
theorem Lq.slice {K : PySem.W.Frag} {H : Hp} {l : Addr} {ds : List PyData} {lo hi : Option Int} {Q : VK} (h : Lq K H l ds) (q : ∀ p H', H p = none → Fr [] H H' → Lq K H' p (cutA ds lo hi) → Q (.ref p) H') : rSlU K (.ref l) lo hi H Q := by
  obtain ⟨vs, e, a⟩ := h
  exact w_slL (SqL.of e) fun p hp => q p _ hp (Fr.new hp) ⟨_, upd_same, (a.cut lo hi).mono (Tu.new hp)⟩
theorem cutA_full {α : Type} {xs : List α} {lo hi : Option Int} (h : HT.sIx xs.length 0 lo = 0 ∧ HT.sIx xs.length xs.length hi = xs.length) : cutA xs lo hi = xs := by
  unfold cutA
  rw [h.1, h.2, List.drop_zero, Nat.sub_zero, List.take_length]
theorem Dt.slice {K : PySem.W.Frag} {H : Hp} {v : V} {ds : List PyData} {lo hi : Option Int} {Q : VK} (h : Dt K H v (.tuple ds)) (q : ∀ p H', Fr [] H H' → Dt K H' (.ref p) (.tuple (cutA ds lo hi)) → Q (.ref p) H') : rSlU K v lo hi H Q := by
  obtain ⟨p, vs, rfl, s, a⟩ := h.tuple
  refine .inl (.inr ⟨p, vs, rfl, s, fun z => ?_, fun _ p' hp => ?_⟩)
  · rw [a.length] at z
    refine q p H Fr.refl ?_
    rw [cutA_full z]
    exact h
  · exact q p' _ (Fr.new hp) (.tup (.inl (.inl upd_same)) ((a.cut lo hi).mono (Tu.new hp)))
theorem Dt.cat {K : PySem.W.Frag} {H : Hp} {v u : V} {ds es : List PyData} {Q : VK} (h : Dt K H v (.tuple ds)) (h' : Dt K H u (.tuple es)) (n : ds.length + es.length ≤ 1000) (q : ∀ p H', Fr [] H H' → Dt K H' (.ref p) (.tuple (ds ++ es)) → Q (.ref p) H') : rAddU K v u H Q := by
  obtain ⟨p, vs, rfl, s, a⟩ := h.tuple
  obtain ⟨p', us, rfl, s', a'⟩ := h'.tuple
  refine .inr (.inl ⟨p, p', vs, us, rfl, rfl, s, s', Nat.le_trans (show _ ≤ 1000 by rw [a.length, a'.length]; exact n) (by decide), fun z => ?_, fun _ z => ?_, fun _ _ r hr => ?_⟩)
  · subst z
    cases a
    exact q p' H Fr.refl h'
  · subst z
    cases a'
    refine q p H Fr.refl ?_
    rw [List.append_nil]
    exact h
  · exact q r _ (Fr.new hr) (.tup (.inl (.inl upd_same)) ((a.append a').mono (Tu.new hr)))
theorem Lq.cat {K : PySem.W.Frag} {H : Hp} {l m : Addr} {ds es : List PyData} {Q : VK} (h : Lq K H l ds) (h' : Lq K H m es) (n : ds.length + es.length ≤ 100000) (q : ∀ p H', H p = none → Fr [] H H' → Lq K H' p (ds ++ es) → Q (.ref p) H') : rAddU K (.ref l) (.ref m) H Q := by
  obtain ⟨vs, e, a⟩ := h
  obtain ⟨us, e', a'⟩ := h'
  exact w_addL e e' (by rw [a.length, a'.length]; omega) fun p hp => q p _ hp (Fr.new hp) ⟨_, upd_same, (a.append a').mono (Tu.new hp)⟩
theorem Lq.allB {K : PySem.W.Frag} {H : Hp} {l : Addr} {bs : List Bool} {Q : VK} (h : Lq K H l (bs.map PyData.bool)) (q : Q (.bl (bs.all id)) H) : rAll K [.ref l] H Q := by
  obtain ⟨vs, e, a⟩ := h
  have z : vs = bs.map V.bl := by
    clear e q
    induction bs generalizing vs with
    | nil => cases a; rfl
    | cons b r ih =>
      cases a with
      | cons a1 a2 => rw [a1.of_bl, ih _ a2]; rfl
  exact ⟨l, bs, rfl, SqL.of (by rw [e, z]), q⟩
theorem Lq.ints {K : PySem.W.Frag} {H : Hp} {l : Addr} {ns : List Int} (h : Lq K H l (ns.map PyData.int)) : H l = some (.lst (ns.map V.int)) := by
  obtain ⟨vs, e, a⟩ := h
  have z : vs = ns.map V.int := by
    clear e
    induction ns generalizing vs with
    | nil => cases a; rfl
    | cons b r ih =>
      cases a with
      | cons a1 a2 => rw [a1.of_int, ih _ a2]; rfl
  rw [e, z]
/-- what changed is new -/
theorem Fr.drop1 {S : List Addr} {H H1 H2 : Hp} {p : Addr} (hp : H p = none) (a : Fr S H H1) (b : Fr [p] H1 H2) : Fr S H H2 := fun x o e n => b x o (a x o e n) (by
  intro z
  rw [List.mem_singleton.mp z, hp] at e
  cases e)
/-- a comprehension with a test over a list of data: what is kept is the data's own filter -/
theorem LCF {K : PySem.W.Frag} {α : Type} {q : Addr} {H : Hp} {us : List V} {cs : List α} {dS : α → PyData} {j : Nat} {ws : List Nat} {σ : L2.St} {tt : TT} {te : TE} {Q : VK} (f : α → Bool) (g : α → PyData)
    (hq : H q = some (.lst us)) (hd : DtAll K H us (cs.map dS)) (lc : cs.length ≤ 100000) (hw : ∀ x, wipe ((wipe σ ws).set j (some x)) ws = wipe σ ws)
    (ht : ∀ c x H', c ∈ cs → Fr [] H H' → Dt K H' x (dS c) → ∀ QB : Bool → Hp → Prop, (∀ H2, Fr [] H' H2 → QB (f c) H2) → tt ((wipe σ ws).set j (some x)) H' QB)
    (he : ∀ c x H', c ∈ cs → Fr [] H H' → Dt K H' x (dS c) → f c = true → ∀ Q : VK, (∀ y H2, Fr [] H' H2 → Dt K H2 y (g c) → Q y H2) → te ((wipe σ ws).set j (some x)) H' Q)
    (k : ∀ D H', H D = none → Fr [] H H' → Lq K H' D ((cs.filter f).map g) → Q (.ref D) H') :
    ∃ a', V.ref q = .ref a' ∧ (∃ ys, SqL K H a' ys) ∧ ∀ D, H D = none → LC (Itl K a') (gName j) tt te ws σ D Q (upd H D (.lst [])) := by
  have lu : us.length = cs.length := by rw [hd.length, List.length_map]
  refine LC_L (SqL.of hq) fun D hD => LC_by (a := q) (xs := us) (fun i H' => Fr [] H H' ∧ Lq K H' D (((cs.take i).filter f).map g)) ⟨Fr.new hD, [], upd_same, .nil⟩ (fun i H' _ h => SqL.of (h.1 _ _ hq (by simp))) ?_ ?_
  · rintro i x H' hx ⟨f', ys, hys, dys⟩
    obtain ⟨d, h1, h2⟩ := (hd.mono f'.tu).get hx
    obtain ⟨c, h3, rfl⟩ := (by
      rw [List.getElem?_map] at h1
      cases e : cs[i]? with
      | none => rw [e] at h1; cases h1
      | some x => rw [e] at h1; exact ⟨x, rfl, Option.some.inj h1⟩ : ∃ c, cs[i]? = some c ∧ dS c = d)
    have mc := List.mem_of_getElem? h3
    have hi : i < us.length := (List.getElem?_eq_some_iff.mp hx).1
    have ly : ys.length ≤ i := by
      rw [dys.length, List.length_map]
      refine Nat.le_trans (List.length_filter_le _ _) ?_
      rw [List.length_take]
      omega
    refine ⟨hw x, ht c x H' mc f' h2 _ fun H2 f2 => ?_⟩
    cases hf : f c with
    | false =>
      rw [if_neg Bool.false_ne_true]
      refine ⟨f'.trans f2, ?_⟩
      rw [take_filt h3, hf]
      show Lq K H2 D ((List.filter f (cs.take i) ++ []).map g)
      rw [List.append_nil]
      exact Lq.fr0 ⟨ys, hys, dys⟩ f2
    | true =>
      rw [if_pos rfl]
      refine he c x H2 mc (f'.trans f2) (h2.mono f2.tu) hf _ fun y H3 f3 dy => ?_
      have f23 := f2.trans f3
      have e3 := f23 _ _ hys (by simp)
      refine ⟨ys, e3, Nat.lt_of_le_of_lt (show ys.length ≤ 100000 by omega) (by decide), Fr.new_mut hD ((f'.trans f23).mono (by simp) |>.trans (Fr.mut (by simp))), _, upd_same, ?_⟩
      rw [take_filt h3, hf, List.map_append]
      exact ((dys.mono f23.tu).append (.cons dy .nil)).mono (Tu.mut e3)
  · rintro H' ⟨f', L⟩
    rw [lu, List.take_length] at L
    exact k D H' hD f' L
theorem Lq.at {K : PySem.W.Frag} {H : Hp} {l : Addr} {ds : List PyData} {P : PyData → Prop} (h : Lq K H l ds) (hP : ∀ d ∈ ds, P d) {i : Int} (h0 : 0 ≤ i) (h1 : i < ds.length) {Q : VK} (q : ∀ v d, Dt K H v d → P d → ds[i.toNat]? = some d → Q v H) : rIx K (.ref l) (.int i) H Q := by
  obtain ⟨vs, e, a⟩ := h
  have ek : i = ((i.toNat : Nat) : Int) := by omega
  have hk : i.toNat < ds.length := by omega
  obtain ⟨v, hv, dv⟩ := a.get' (List.getElem?_eq_getElem hk)
  refine w_ixL (SqL.of e) ?_ (q v _ dv (hP _ (List.getElem_mem hk)) (List.getElem?_eq_getElem hk))
  rw [ek]
  exact atI_nat hv
/-- the last -/
theorem Lq.last {K : PySem.W.Frag} {H : Hp} {l : Addr} {ds : List PyData} {d : PyData} {Q : VK} (h : Lq K H l (ds ++ [d])) (q : ∀ v, Dt K H v d → Q v H) : rIx K (.ref l) (.int (-1)) H Q := by
  obtain ⟨vs, e, a⟩ := h
  have hl := a.length
  rw [List.length_append] at hl
  have hl : vs.length = ds.length + 1 := hl
  obtain ⟨v, hv, dv⟩ := a.get' (i := ds.length) (d := d) (by rw [List.getElem?_append_right (Nat.le_refl _), Nat.sub_self]; rfl)
  refine w_ixL (SqL.of e) ?_ (q v dv)
  unfold atI ixN
  rw [if_neg (by decide), if_pos (by omega)]
  show vs[((-1 : Int) + vs.length).toNat]? = some v
  rw [show ((-1 : Int) + vs.length).toNat = ds.length by omega]
  exact hv
/-- a for over such a list -/
theorem Lq.walk {K : PySem.W.Frag} {H : Hp} {l : Addr} {ds : List PyData} {σ : L2.St} {nx b c : L2.St → Hp → Prop} {rt : VK} {g : TG} {tb : TS} (h : Lq K H l ds) (Pv : Nat → L2.St → Hp → Prop) (h0 : Pv 0 σ H) (hl : ∀ i σ H', Pv i σ H' → Lq K H' l ds)
    (hs : ∀ i v d σ H', ds[i]? = some d → Dt K H' v d → Pv i σ H' → g v σ H' fun σ2 H2 => tb ⟨Pv (i + 1), rt, nx, Pv (i + 1)⟩ σ2 H2) (hd : ∀ σ H', Pv ds.length σ H' → nx σ H') :
    ∃ a', V.ref l = .ref a' ∧ (∃ ys, SqL K H a' ys) ∧ FOR (Itl K a') g tb ⟨nx, rt, b, c⟩ σ H := by
  obtain ⟨vs, e, a⟩ := id h
  refine ⟨l, rfl, ⟨vs, SqL.of e⟩, fun i m σ H => m = ds.length - i ∧ i ≤ ds.length ∧ Pv i σ H, ⟨_, rfl, Nat.zero_le _, h0⟩, ?_⟩
  rintro i m σ' H' ⟨rfl, hi, p⟩
  obtain ⟨us, eu, au⟩ := hl i σ' H' p
  by_cases hlt : i < ds.length
  · obtain ⟨v, hv, dv⟩ := au.get' (List.getElem?_eq_getElem hlt)
    refine .inr ⟨⟨us, v, SqL.of eu, hv⟩, Pv (i + 1), fun σ2 H2 p' => ⟨ds.length - (i + 1), by omega, rfl, hlt, p'⟩, fun x H2 y => ?_⟩
    obtain ⟨z, y⟩ := y
    subst z
    have ex : x = v := Option.some.inj ((y us (SqL.of eu)).symm.trans hv)
    subst ex
    exact hs i x _ σ' _ (List.getElem?_eq_getElem hlt) dv p
  · have z : i = ds.length := by omega
    subst z
    exact .inl ⟨⟨us, SqL.of eu, by rw [au.length]; exact Nat.le_refl _⟩, hd σ' H' p⟩
/-- .. backwards -/
theorem Lq.walkRev {K : PySem.W.Frag} {H : Hp} {l : Addr} {ds : List PyData} {σ : L2.St} {nx b c : L2.St → Hp → Prop} {rt : VK} {g : TG} {tb : TS} (h : Lq K H l ds) (Pv : Nat → L2.St → Hp → Prop) (h0 : Pv 0 σ H) (hl : ∀ i σ H', Pv i σ H' → Lq K H' l ds)
    (hs : ∀ i v d σ H', i < ds.length → ds[ds.length - 1 - i]? = some d → Dt K H' v d → Pv i σ H' → g v σ H' fun σ2 H2 => tb ⟨Pv (i + 1), rt, nx, Pv (i + 1)⟩ σ2 H2) (hd : ∀ σ H', Pv ds.length σ H' → nx σ H') :
    ∃ (a : Addr) (xs : List V), V.ref l = .ref a ∧ ((SqL K H a xs ∧ FOR (Itv K a xs.length) g tb ⟨nx, rt, b, c⟩ σ H) ∨ (SqT K H a xs ∧ FOR (RT.ItvT K a xs.length) g tb ⟨nx, rt, b, c⟩ σ H)) := by
  obtain ⟨vs, e, a⟩ := id h
  have lv := a.length
  refine ⟨l, vs, rfl, .inl ⟨SqL.of e, fun i m σ H => m = ds.length - i ∧ i ≤ ds.length ∧ Pv i σ H, ⟨_, rfl, Nat.zero_le _, h0⟩, ?_⟩⟩
  rintro i m σ' H' ⟨rfl, hi, p⟩
  obtain ⟨us, eu, au⟩ := hl i σ' H' p
  by_cases hlt : i < ds.length
  · have hj : ds.length - 1 - i < ds.length := by omega
    obtain ⟨v, hv, dv⟩ := au.get' (List.getElem?_eq_getElem hj)
    refine .inr ⟨⟨by omega, us, v, SqL.of eu, by rw [lv]; exact hv⟩, Pv (i + 1), fun σ2 H2 p' => ⟨ds.length - (i + 1), by omega, rfl, hlt, p'⟩, fun x H2 y => ?_⟩
    obtain ⟨z, y⟩ := y
    subst z
    have y2 := y us (SqL.of eu)
    rw [lv] at y2
    have ex : x = v := Option.some.inj (y2.symm.trans hv)
    subst ex
    exact hs i x _ σ' _ hlt (List.getElem?_eq_getElem hj) dv p
  · have z : i = ds.length := by omega
    subst z
    exact .inl ⟨by show vs.length ≤ _; omega, hd σ' H' p⟩
/-- .. with its number -/
theorem Lq.walkEnum {K : PySem.W.Frag} {H : Hp} {l : Addr} {ds : List PyData} {σ : L2.St} {nx b c : L2.St → Hp → Prop} {rt : VK} {g : TG} {tb : TS} (h : Lq K H l ds) (Pv : Nat → L2.St → Hp → Prop) (h0 : Pv 0 σ H) (hl : ∀ i σ H', Pv i σ H' → Lq K H' l ds)
    (hs : ∀ i t v d σ H' H2, ds[i]? = some d → Dt K H2 v d → Fr [] H' H2 → Pv i σ H' → SqT K H2 t [.int i, v] → g (.ref t) σ H2 fun σ2 H3 => tb ⟨Pv (i + 1), rt, nx, Pv (i + 1)⟩ σ2 H3) (hd : ∀ σ H', Pv ds.length σ H' → nx σ H') :
    ∃ a xs, [V.ref l] = [.ref a] ∧ SqL K H a xs ∧ FOR (Ite K a) g tb ⟨nx, rt, b, c⟩ σ H := by
  obtain ⟨vs, e, a⟩ := id h
  refine ⟨l, vs, rfl, SqL.of e, fun i m σ H => m = ds.length - i ∧ i ≤ ds.length ∧ Pv i σ H, ⟨_, rfl, Nat.zero_le _, h0⟩, ?_⟩
  rintro i m σ' H' ⟨rfl, hi, p⟩
  obtain ⟨us, eu, au⟩ := hl i σ' H' p
  by_cases hlt : i < ds.length
  · obtain ⟨v, hv, dv⟩ := au.get' (List.getElem?_eq_getElem hlt)
    refine .inr ⟨⟨us, v, SqL.of eu, hv⟩, Pv (i + 1), fun σ2 H2 p' => ⟨ds.length - (i + 1), by omega, rfl, hlt, p'⟩, fun x H2 y => ?_⟩
    obtain ⟨t, z, e1, ht, e2, y⟩ := y
    subst e1 e2
    have ex : z = v := Option.some.inj ((y us (SqL.of eu)).symm.trans hv)
    subst ex
    exact hs i t z _ σ' H' _ (List.getElem?_eq_getElem hlt) (dv.mono (Tu.new ht)) (Fr.new ht) p (.inl (.inl upd_same))
  · have z : i = ds.length := by omega
    subst z
    exact .inl ⟨⟨us, SqL.of eu, by rw [au.length]; exact Nat.le_refl _⟩, hd σ' H' p⟩
theorem map_get {α β : Type} {f : α → β} {xs : List α} {i : Nat} {y : β} (h : (xs.map f)[i]? = some y) : ∃ x, xs[i]? = some x ∧ f x = y := by
  rw [List.getElem?_map] at h
  cases e : xs[i]? with
  | none => rw [e] at h; cases h
  | some x => rw [e] at h; exact ⟨x, rfl, Option.some.inj h⟩
end U

namespace U
open PySem PySem.Spec PyProof.Rows L2
/-! ### texts: a sign, a part, sign by sign -/
section
variable {K : PySem.W.Frag} {H : Hp} {Q : VK} {i j : Int}
theorem w_ixS {z : Str} {c : Nat} (h : z.length ≤ sizeLine) (e : atI z.cps.toList i = some c) (q : Q (.str ⟨#[c]⟩) H) : rIx K (.str z) (.int i) H Q := .inr (.inr ⟨z, i, c, rfl, rfl, h, e, q⟩)
theorem w_inSign {c : Nat} {z : Str} (q : Q (.bl (decide (c ∈ z.cps.toList))) H) : rInU K (.str ⟨#[c]⟩) (.str z) H Q := .inr ⟨c, z, rfl, rfl, q⟩
theorem w_ninSign {c : Nat} {z : Str} (q : Q (.bl (!decide (c ∈ z.cps.toList))) H) : rNinU K (.str ⟨#[c]⟩) (.str z) H Q := .inr ⟨c, z, rfl, rfl, q⟩
theorem w_slS {z : Str} {lo hi : Option Int} (h : z.length ≤ sizeLine) (q : Q (.str (cutS z lo hi)) H) : rSlU K (.str z) lo hi H Q := .inr ⟨z, rfl, h, q⟩
def MkD (Q : VK) (H : Hp) : Prop := ∀ p, H p = none → Q (.ref p) (upd H p (.dK []))
theorem w_dnew {σ : L2.St} (q : MkD Q H) : tDNewK σ H Q := q
theorem w_iS {σ : L2.St} {te : TE} {R : It → Hp → Prop} (q : te σ H fun v H1 => ∃ x, v = .str x ∧ R (Its x) H1) : iStr te σ H R := q
theorem at_sign {z : Str} {p : Int} (h0 : 0 ≤ p) (h : p < z.length) : ∃ c, atI z.cps.toList p = some c ∧ c ∈ z.cps.toList := by
  have h1 : p.toNat < z.cps.toList.length := by
    rw [Array.length_toList]
    have : z.length = z.cps.size := rfl
    omega
  have ek : p = ((p.toNat : Nat) : Int) := by omega
  have key : atI z.cps.toList ((p.toNat : Nat) : Int) = some z.cps.toList[p.toNat] := atI_nat (List.getElem?_eq_getElem h1)
  rw [← ek] at key
  exact ⟨_, key, List.getElem_mem h1⟩
end
/-- a text of at most n signs, each of them one -/
def TxOk (n : Nat) (x : Str) : Prop := x.length ≤ n ∧ PyData.strOk x = true
theorem strOk_mem {x : Str} : PyData.strOk x = true ↔ ∀ c ∈ x.cps.toList, c < 0x110000 := by
  unfold PyData.strOk
  rw [← Array.all_toList, List.all_eq_true]
  constructor
  · intro h c hc; simpa using h c hc
  · intro h c hc; simpa using h c hc
theorem TxOk.mono {n m : Nat} {x : Str} (h : TxOk n x) (l : n ≤ m) : TxOk m x := ⟨Nat.le_trans h.1 l, h.2⟩
theorem TxOk.cat {n m : Nat} {a b : Str} (ha : TxOk n a) (hb : TxOk m b) : TxOk (n + m) (a ++ b) := by
  refine ⟨?_, strOk_mem.mpr fun c hc => ?_⟩
  · have e : (a ++ b).length = a.length + b.length := by
      show (a ++ b).cps.size = a.cps.size + b.cps.size
      rw [PySem.Str.cps_append, Array.size_append]
    have := ha.1
    have := hb.1
    omega
  · rw [PySem.Str.cps_append, Array.toList_append] at hc
    rcases List.mem_append.mp hc with h | h
    · exact strOk_mem.mp ha.2 c h
    · exact strOk_mem.mp hb.2 c h
theorem TxOk.cut {n : Nat} {a : Str} {lo hi : Option Int} (ha : TxOk n a) : TxOk n (cutS a lo hi) := by
  refine ⟨Nat.le_trans (cutS_length a lo hi) ha.1, strOk_mem.mpr fun c hc => ?_⟩
  unfold cutS at hc
  rw [List.toList_toArray] at hc
  exact strOk_mem.mp ha.2 c (List.mem_of_mem_drop (List.mem_of_mem_take hc))
theorem TxOk.sign {n : Nat} {a : Str} {c : Nat} (ha : TxOk n a) (h : c ∈ a.cps.toList) : TxOk 1 ⟨#[c]⟩ := by
  refine ⟨Nat.le_refl _, strOk_mem.mpr fun d hd => ?_⟩
  rw [List.mem_singleton.mp hd]
  exact strOk_mem.mp ha.2 c h
/-- a comprehension over a text, sign by sign -/
theorem LCS {K : PySem.W.Frag} {x : Str} {H : Hp} {j : Nat} {ws : List Nat} {σ : L2.St} {tt : TT} {te : TE} {Q : VK} (f : Nat → Bool) (g : Nat → PyData) (lx : x.length ≤ 100000)
    (hw : ∀ v, wipe ((wipe σ ws).set j (some v)) ws = wipe σ ws)
    (ht : ∀ c H', Fr [] H H' → ∀ QB : Bool → Hp → Prop, QB (f c) H' → tt ((wipe σ ws).set j (some (.str ⟨#[c]⟩))) H' QB)
    (he : ∀ c H', Fr [] H H' → f c = true → ∀ Q : VK, (∀ y, Dt K H' y (g c) → Q y H') → te ((wipe σ ws).set j (some (.str ⟨#[c]⟩))) H' Q)
    (k : ∀ D H', H D = none → Fr [] H H' → Lq K H' D ((x.cps.toList.filter f).map g) → Q (.ref D) H') :
    ∃ x', V.str x = .str x' ∧ ∀ D, H D = none → LC (Its x') (gName j) tt te ws σ D Q (upd H D (.lst [])) := by
  refine ⟨x, rfl, fun D hD => ?_⟩
  refine lc_it (walk_str (z := x)) (fun i H' => Fr [] H H' ∧ Lq K H' D (((x.cps.toList.take i).filter f).map g)) ⟨Fr.new hD, [], upd_same, .nil⟩ (fun _ _ _ _ => trivial) ?_ ?_
  · rintro i v H1 H' hi ⟨f', ys, hys, dys⟩ ⟨rfl, c, hc, rfl⟩
    have hcl : x.cps.toList[i]? = some c := by rw [Array.getElem?_toList]; exact hc
    have ly : ys.length ≤ i := by
      rw [dys.length, List.length_map]
      refine Nat.le_trans (List.length_filter_le _ _) ?_
      rw [List.length_take]
      omega
    have lz : x.cps.size ≤ 100000 := lx
    refine ⟨hw _, ht c H' f' _ ?_⟩
    cases hf : f c with
    | false =>
      rw [if_neg Bool.false_ne_true]
      refine ⟨f', ?_⟩
      rw [take_filt hcl, hf]
      show Lq K H' D ((List.filter f (x.cps.toList.take i) ++ []).map g)
      rw [List.append_nil]
      exact ⟨ys, hys, dys⟩
    | true =>
      rw [if_pos rfl]
      refine he c H' f' hf _ fun y dy => ?_
      refine ⟨ys, hys, Nat.lt_of_le_of_lt (show ys.length ≤ 100000 by omega) (by decide), Fr.new_mut hD ((f'.mono (by simp)).trans (Fr.mut (by simp))), _, upd_same, ?_⟩
      rw [take_filt hcl, hf, List.map_append]
      exact (dys.append (.cons dy .nil)).mono (Tu.mut hys)
  · rintro H' ⟨f', L⟩
    have e : List.take x.cps.size x.cps.toList = x.cps.toList := by
      rw [← Array.length_toList, List.take_length]
    rw [e] at L
    exact k D H' hD f' L
/-- a new list of any data -/
theorem mkG {K : PySem.W.Frag} {H : Hp} {xs : List V} {ds : List PyData} {Q : VK} (d : DgAll K H xs ds) (q : ∀ p H' vs, H p = none → Fr [] H H' → H' p = some (.lst vs) → DgAll K H' vs ds → Q (.ref p) H') (n : xs.length ≤ 1000 := by exact Nat.le_of_ble_eq_true rfl) : MkL xs Q H :=
  ⟨Nat.le_trans n (by decide), fun p hp => q p _ xs hp (Fr.new hp) upd_same (d.fr (Fr.new hp))⟩
theorem mkD {H : Hp} {Q : VK} (q : ∀ p H', H p = none → Fr [] H H' → H' p = some (.dK []) → Q (.ref p) H') : MkD Q H := fun p hp => q p _ hp (Fr.new hp) upd_same
end U

namespace U
open PySem PySem.Spec PyProof.Rows L2
/-! ### a for over a tuple of data, comprehensions with any target and test -/
section
variable {K : PySem.W.Frag}
theorem Dt.walk {H : Hp} {v : V} {ds : List PyData} {σ : L2.St} {nx b c : L2.St → Hp → Prop} {rt : VK} {g : TG} {tb : TS} (h : Dt K H v (.tuple ds)) (Pv : Nat → L2.St → Hp → Prop) (h0 : Pv 0 σ H) (hl : ∀ i σ H', Pv i σ H' → Tu H H')
    (hs : ∀ i u d σ H', ds[i]? = some d → Dt K H' u d → Pv i σ H' → g u σ H' fun σ2 H2 => tb ⟨Pv (i + 1), rt, nx, Pv (i + 1)⟩ σ2 H2) (hd : ∀ σ H', Pv ds.length σ H' → nx σ H') :
    ∃ a, v = .ref a ∧ (∃ xs, SqT K H a xs) ∧ FOR (Itt K a) g tb ⟨nx, rt, b, c⟩ σ H := by
  obtain ⟨a, vs, rfl, s, av⟩ := h.tuple
  have e := av.length
  refine ⟨a, rfl, ⟨vs, s⟩, for_tup (D := ⟨nx, rt, b, c⟩) (xs := vs) Pv h0 (fun i σ H' _ p => (hl i σ H' p).seqT s) (fun i x σ H' hx p => ?_) (fun σ H' p => hd σ H' (by rw [← e]; exact p))⟩
  obtain ⟨d, h1, h2⟩ := (av.mono (hl i σ H' p)).get hx
  exact hs i x d σ H' h1 h2 p
theorem LCX_L {α : Type} {q : Addr} {H : Hp} {cs : List α} {dS : α → PyData} {ws : List Nat} {σ : L2.St} {tg : TG} {tt : TT} {te : TE} {Q : VK} (f : α → Bool) (g : α → PyData)
    (h : Lq K H q (cs.map dS)) (lc : cs.length ≤ 100000)
    (hs : ∀ (c : α) (x : V) (H' : Hp) (KEEP : VK) (DROP : Hp → Prop), c ∈ cs → Fr [] H H' → Dt K H' x (dS c) → (f c = true → ∀ y H4, Fr [] H' H4 → Dt K H4 y (g c) → KEEP y H4) → (f c = false → ∀ H4, Fr [] H' H4 → DROP H4) →
      tg x (wipe σ ws) H' fun σ2 H2 => wipe σ2 ws = wipe σ ws ∧ tt σ2 H2 fun k H3 => if k = true then te σ2 H3 KEEP else DROP H3)
    (k : ∀ D H', H D = none → Fr [] H H' → Lq K H' D ((cs.filter f).map g) → Q (.ref D) H') :
    ∃ a', V.ref q = .ref a' ∧ (∃ ys, SqL K H a' ys) ∧ ∀ D, H D = none → LC (Itl K a') tg tt te ws σ D Q (upd H D (.lst [])) := by
  obtain ⟨us, hq, hd⟩ := h
  have lu : us.length = cs.length := by rw [hd.length, List.length_map]
  refine LC_L (SqL.of hq) fun D hD => LC_by (a := q) (xs := us) (fun i H' => Fr [] H H' ∧ Lq K H' D (((cs.take i).filter f).map g)) ⟨Fr.new hD, [], upd_same, .nil⟩ (fun i H' _ h => SqL.of (h.1 _ _ hq (by simp))) ?_ ?_
  · rintro i x H' hx ⟨f', ys, hys, dys⟩
    obtain ⟨d, h1, h2⟩ := (hd.mono f'.tu).get hx
    obtain ⟨c, h3, rfl⟩ := map_get h1
    have hi : i < us.length := (List.getElem?_eq_some_iff.mp hx).1
    have ly : ys.length ≤ i := by
      rw [dys.length, List.length_map]
      refine Nat.le_trans (List.length_filter_le _ _) ?_
      rw [List.length_take]
      omega
    refine hs c x H' _ _ (List.mem_of_getElem? h3) f' h2 (fun hf y H4 f4 dy => ?_) (fun hf H4 f4 => ?_)
    · have e3 := f4 _ _ hys (by simp)
      refine ⟨ys, e3, Nat.lt_of_le_of_lt (show ys.length ≤ 100000 by omega) (by decide), Fr.new_mut hD ((f'.trans f4).mono (by simp) |>.trans (Fr.mut (by simp))), _, upd_same, ?_⟩
      rw [take_filt h3, hf, List.map_append]
      exact ((dys.mono f4.tu).append (.cons dy .nil)).mono (Tu.mut e3)
    · refine ⟨f'.trans f4, ?_⟩
      rw [take_filt h3, hf]
      show Lq K H4 D ((List.filter f (cs.take i) ++ []).map g)
      rw [List.append_nil]
      exact Lq.fr0 ⟨ys, hys, dys⟩ f4
  · rintro H' ⟨f', L⟩
    rw [lu, List.take_length] at L
    exact k D H' hD f' L
theorem LCX_T {α : Type} {v : V} {H : Hp} {cs : List α} {dS : α → PyData} {ws : List Nat} {σ : L2.St} {tg : TG} {tt : TT} {te : TE} {Q : VK} (f : α → Bool) (g : α → PyData)
    (h : Dt K H v (.tuple (cs.map dS))) (lc : cs.length ≤ 100000)
    (hs : ∀ (c : α) (x : V) (H' : Hp) (KEEP : VK) (DROP : Hp → Prop), c ∈ cs → Fr [] H H' → Dt K H' x (dS c) → (f c = true → ∀ y H4, Fr [] H' H4 → Dt K H4 y (g c) → KEEP y H4) → (f c = false → ∀ H4, Fr [] H' H4 → DROP H4) →
      tg x (wipe σ ws) H' fun σ2 H2 => wipe σ2 ws = wipe σ ws ∧ tt σ2 H2 fun k H3 => if k = true then te σ2 H3 KEEP else DROP H3)
    (k : ∀ D H', H D = none → Fr [] H H' → Lq K H' D ((cs.filter f).map g) → Q (.ref D) H') :
    ∃ a', v = .ref a' ∧ (∃ ys, SqT K H a' ys) ∧ ∀ D, H D = none → LC (Itt K a') tg tt te ws σ D Q (upd H D (.lst [])) := by
  obtain ⟨q, us, rfl, hq, hd⟩ := h.tuple
  have lu : us.length = cs.length := by rw [hd.length, List.length_map]
  refine LC_T hq fun D hD => ?_
  refine lc_it (walk_tup (K := K) (a := q) (xs := us)) (fun i H' => Fr [] H H' ∧ Lq K H' D (((cs.take i).filter f).map g)) ⟨Fr.new hD, [], upd_same, .nil⟩ (fun i H' _ h => h.1.seqT hq (by simp)) ?_ ?_
  · rintro i x H0' H' hi ⟨f', ys, hys, dys⟩ ⟨rfl, hx⟩
    obtain ⟨d, h1, h2⟩ := (hd.mono f'.tu).get hx
    obtain ⟨c, h3, rfl⟩ := map_get h1
    have ly : ys.length ≤ i := by
      rw [dys.length, List.length_map]
      refine Nat.le_trans (List.length_filter_le _ _) ?_
      rw [List.length_take]
      omega
    refine hs c x _ _ _ (List.mem_of_getElem? h3) f' h2 (fun hf y H4 f4 dy => ?_) (fun hf H4 f4 => ?_)
    · have e3 := f4 _ _ hys (by simp)
      refine ⟨ys, e3, Nat.lt_of_le_of_lt (show ys.length ≤ 100000 by omega) (by decide), Fr.new_mut hD ((f'.trans f4).mono (by simp) |>.trans (Fr.mut (by simp))), _, upd_same, ?_⟩
      rw [take_filt h3, hf, List.map_append]
      exact ((dys.mono f4.tu).append (.cons dy .nil)).mono (Tu.mut e3)
    · refine ⟨f'.trans f4, ?_⟩
      rw [take_filt h3, hf]
      show Lq K H4 D ((List.filter f (cs.take i) ++ []).map g)
      rw [List.append_nil]
      exact Lq.fr0 ⟨ys, hys, dys⟩ f4
  · rintro H' ⟨f', L⟩
    rw [lu, List.take_length] at L
    exact k D H' hD f' L
/-- extend by a list of data -/
theorem Lq.extend {H : Hp} {l m : Addr} {ds es : List PyData} {Q : VK} (h : Lq K H l ds) (h' : Lq K H m es) (n : ds.length + es.length ≤ 100000) (q : ∀ H', Fr [l] H H' → Tu H H' → Lq K H' l (ds ++ es) → Q .non H') : rExtend (.ref l) [.ref m] H Q := by
  obtain ⟨vs, e, a⟩ := h
  obtain ⟨us, e', a'⟩ := h'
  refine ⟨l, m, vs, us, rfl, rfl, e, e', Nat.le_trans (show _ ≤ 100000 by rw [a.length, a'.length]; exact n) (by decide), ?_⟩
  exact q _ (Fr.mut (by simp)) (Tu.mut e) ⟨_, upd_same, (a.append a').mono (Tu.mut e)⟩
/-- tuple(list) -/
theorem Lq.tuple {H : Hp} {l : Addr} {ds : List PyData} {Q : VK} (h : Lq K H l ds) (q : ∀ p H', Fr [] H H' → Dt K H' (.ref p) (.tuple ds) → Q (.ref p) H') : rTupleU K [.ref l] H Q := by
  obtain ⟨vs, e, a⟩ := h
  exact w_tupleL (SqL.of e) fun p hp => q p _ (Fr.new hp) (.tup (.inl (.inl upd_same)) (a.mono (Tu.new hp)))
/-- a part of a tuple, the first of a list -/
theorem Dt.ix {H : Hp} {v : V} {ds : List PyData} {d : PyData} {i : Int} {Q : VK} (n : Nat) (h : Dt K H v (.tuple ds)) (e : ds[n]? = some d) (q : ∀ u, Dt K H u d → Q u H) (hi : i = (n : Int) := by rfl) : rIx K v (.int i) H Q := by
  obtain ⟨p, vs, rfl, s, a⟩ := h.tuple
  obtain ⟨u, hu, du⟩ := a.get' e
  subst hi
  exact w_ixT s (atI_nat hu) (q u du)
theorem Lq.ix {H : Hp} {l : Addr} {ds : List PyData} {d : PyData} {i : Int} {Q : VK} (n : Nat) (h : Lq K H l ds) (e : ds[n]? = some d) (q : ∀ u, Dt K H u d → Q u H) (hi : i = (n : Int) := by rfl) : rIx K (.ref l) (.int i) H Q := by
  obtain ⟨vs, s, a⟩ := h
  obtain ⟨u, hu, du⟩ := a.get' e
  subst hi
  exact w_ixL (SqL.of s) (atI_nat hu) (q u du)
theorem Lq.nin {H : Hp} {l : Addr} {x : V} {ds : List PyData} {d : PyData} {Q : VK} (h : Lq K H l ds) (hx : Dt K H x d) (sd : SeqAt.shaped d = true) (sl : SeqAt.shaped (.list ds) = true) (q : Q (.bl (!ds.any fun z => PyData.eqv z d)) H) : rNinU K x (.ref l) H Q := .inl (.inr ⟨d, ds, hx.dp, h.dp, sd, sl, q⟩)
theorem Lq.isin {H : Hp} {l : Addr} {x : V} {ds : List PyData} {d : PyData} {Q : VK} (h : Lq K H l ds) (hx : Dt K H x d) (sd : SeqAt.shaped d = true) (sl : SeqAt.shaped (.list ds) = true) (q : Q (.bl (ds.any fun z => PyData.eqv z d)) H) : rInU K x (.ref l) H Q := .inl (.inr ⟨d, ds, hx.dp, h.dp, sd, sl, q⟩)
theorem Dt.isTuple {H : Hp} {v : V} {ds : List PyData} {Q : VK} (h : Dt K H v (.tuple ds)) (q : Q (.bl true) H) : rIsi K [v, .ty "tuple"] H Q := by
  obtain ⟨p, vs, rfl, s, a⟩ := h.tuple
  exact isT_tuple s q
theorem w_iRevR {σ : L2.St} {H : Hp} {te : TE} {R : It → Hp → Prop} (q : te σ H fun x H1 => ∃ n, x = .int n ∧ (-(2 ^ 62) ≤ (0 : Int) ∧ (0 : Int) < 2 ^ 62 ∧ -(2 ^ 62) ≤ n ∧ n < 2 ^ 62 ∧ R (Itc (0 + (((n - 0).toNat : Nat) : Int) - 1) (-1) (n - 0).toNat) H1)) : iRevR (tRg1 te) σ H R := q
theorem F_RevR {σ : L2.St} {H : Hp} {nx b c : L2.St → Hp → Prop} {rt : VK} {g : TG} {tb : TS} (n : Nat) (hn : n ≤ 100000) (Pv : Nat → L2.St → Hp → Prop) (h0 : Pv 0 σ H)
    (hs : ∀ i σ H, i < n → Pv i σ H → g (.int ((n - 1 - i : Nat) : Int)) σ H fun σ2 H2 => tb ⟨Pv (i + 1), rt, nx, Pv (i + 1)⟩ σ2 H2) (hd : ∀ σ H, Pv n σ H → nx σ H) :
    -(2 ^ 62) ≤ (0 : Int) ∧ (0 : Int) < 2 ^ 62 ∧ -(2 ^ 62) ≤ (n : Int) ∧ (n : Int) < 2 ^ 62 ∧ FOR (Itc (0 + ((((n : Int) - 0).toNat : Nat) : Int) - 1) (-1) ((n : Int) - 0).toNat) g tb ⟨nx, rt, b, c⟩ σ H := by
  refine ⟨by decide, by decide, by omega, by omega, ?_⟩
  have e : ((n : Int) - 0).toNat = n := by omega
  rw [e]
  refine for_it (D := ⟨nx, rt, b, c⟩) (walk_rangeC (lo := 0 + (n : Int) - 1) (c := -1) (n := n)) Pv h0 (fun _ _ _ _ _ => trivial) (fun i x σ H H' hi p y => ?_) (fun σ H p => hd σ H p)
  obtain ⟨rfl, rfl⟩ := y
  have z := hs i σ H' hi p
  rw [show ((n - 1 - i : Nat) : Int) = 0 + (n : Int) - 1 + ((i : Nat) : Int) * -1 by omega] at z
  exact z
def rIns : V → List V → Hp → VK → Prop := fun x vs H Q => ∃ (l : Addr) (xs : List V) (i : Int) (y : V), x = .ref l ∧ vs = [.int i, y] ∧ H l = some (.lst xs) ∧ xs.length < sizeLine ∧ 0 ≤ i ∧ i < 2 ^ 63 ∧ Q .non (upd H l (.lst (xs.take i.toNat ++ [y] ++ xs.drop i.toNat)))
theorem mt_insU {X : Cx} : MtR X "list.insert" rIns := mt_insert
theorem Lq.insert {H : Hp} {l : Addr} {ds : List PyData} {i : Int} {y : V} {d : PyData} {Q : VK} (h : Lq K H l ds) (hy : Dt K H y d) (n : ds.length ≤ 100000) (h0 : 0 ≤ i) (h1 : i < 2 ^ 63) (q : ∀ H', Fr [l] H H' → Tu H H' → Lq K H' l (ds.take i.toNat ++ [d] ++ ds.drop i.toNat) → Q .non H') : rIns (.ref l) [.int i, y] H Q := by
  obtain ⟨vs, e, a⟩ := h
  refine ⟨l, vs, i, y, rfl, rfl, e, Nat.lt_of_le_of_lt (show vs.length ≤ 100000 by rw [a.length]; exact n) (by decide), h0, h1, ?_⟩
  exact q _ (Fr.mut (by simp)) (Tu.mut e) ⟨_, upd_same, (((a.take _).append (.cons hy .nil)).append (a.drop _)).mono (Tu.mut e)⟩
end
end U

/-! dicts whose keys are tuples of data, nested -/
namespace U
open PySem PySem.Spec PyProof.Rows L2
mutual
/-- data as a key of the library -/
def nk : PyData → NestedKey
  | .none => .none
  | .bool b => .num (if b then 1 else 0)
  | .int i => .num i
  | .str x => .text x
  | .tuple ds => .tup (nkAll ds)
  | _ => .none
def nkAll : List PyData → List NestedKey
  | [] => []
  | d :: r => nk d :: nkAll r
end
mutual
/-- data that is a key, no truths in it -/
def kd : PyData → Bool
  | .none => true
  | .int _ => true
  | .str _ => true
  | .tuple ds => kdAll ds
  | _ => false
def kdAll : List PyData → Bool
  | [] => true
  | d :: r => kd d && kdAll r
end
mutual
theorem nk_depth : ∀ d : PyData, kd d = true → NestedKey.depth (nk d) ≤ d.depth
  | .none, _ => by simp [nk, NestedKey.depth]
  | .int _, _ => by simp [nk, NestedKey.depth]
  | .str _, _ => by simp [nk, NestedKey.depth]
  | .tuple ds, h => by
    have := nkAll_depth ds (by simpa [kd] using h)
    simp only [nk, NestedKey.depth, PyData.depth]
    omega
theorem nkAll_depth : ∀ ds : List PyData, kdAll ds = true → NestedKey.depthAll (nkAll ds) ≤ PyData.depthAll ds
  | [], _ => by simp [nkAll, NestedKey.depthAll]
  | d :: r, h => by
    simp only [kdAll, Bool.and_eq_true] at h
    have h1 := nk_depth d h.1
    have h2 := nkAll_depth r h.2
    simp only [nkAll, NestedKey.depthAll, PyData.depthAll]
    omega
end
mutual
theorem nk_inj : ∀ a b : PyData, kd a = true → kd b = true → nk a = nk b → a = b
  | .none, b, _, hb, h => by cases b <;> simp [nk, kd] at h hb ⊢
  | .int i, b, _, hb, h => by cases b <;> simp [nk, kd] at h hb ⊢; exact h
  | .str x, b, _, hb, h => by cases b <;> simp [nk, kd] at h hb ⊢; exact h
  | .tuple ds, b, ha, hb, h => by
    cases b <;> simp [nk, kd] at h hb ha ⊢
    exact nkAll_inj ds _ ha hb h
theorem nkAll_inj : ∀ a b : List PyData, kdAll a = true → kdAll b = true → nkAll a = nkAll b → a = b
  | [], b, _, _, h => by cases b <;> simp [nkAll] at h ⊢
  | d :: r, b, ha, hb, h => by
    cases b with
    | nil => simp [nkAll] at h
    | cons e t =>
      simp only [kdAll, Bool.and_eq_true] at ha hb
      simp only [nkAll, List.cons.injEq] at h
      rw [nk_inj d e ha.1 hb.1 h.1, nkAll_inj r t ha.2 hb.2 h.2]
end
mutual
theorem nested_of {h : Heap} : ∀ {u : Value} {d : PyData} {as : List Addr}, Reads h u d as → kd d = true → NestedIs h (nk d) u
  | _, _, _, .none, _ => .none
  | _, _, _, .bool b, k => by simp [kd] at k
  | _, _, _, .int i t, _ => .int i t
  | _, _, _, .str x t, _ => .text x t
  | _, _, _, .list _ _ _ _, k => by simp [kd] at k
  | _, _, _, .tuple g c e a, k => .tup g c e (nestedAll_of a (by simpa [kd] using k))
  | _, _, _, .dict _ _ _ _ _, k => by simp [kd] at k
theorem nestedAll_of {h : Heap} : ∀ {us : List Value} {ds : List PyData} {as : List Addr}, ReadsAll h us ds as → kdAll ds = true → NestedAll h (nkAll ds) us
  | _, _, _, .nil, _ => .nil
  | _, _, _, .cons a b, k => by
    simp only [kdAll, Bool.and_eq_true] at k
    exact .cons (nested_of a k.1) (nestedAll_of b k.2)
end
/-- keys told as data -/
structure KeyD {α : Type} (dS : α → PyData) : Prop where
  kd : ∀ a, kd (dS a) = true
  dp : ∀ a, (dS a).depth ≤ 8
  inj : ∀ a b, dS a = dS b → a = b
theorem KeyD.nk {α : Type} {dS : α → PyData} (D : KeyD dS) {a b : α} (h : nk (dS a) = nk (dS b)) : a = b := D.inj a b (nk_inj _ _ (D.kd a) (D.kd b) h)
section
variable {α : Type} [DecidableEq α]
def atN (kvs : List (α × V)) (a : α) : Option V := (kvs.find? fun kv => decide (kv.1 = a)).map (·.2)
def putN (kvs : List (α × V)) (a : α) (v : V) : List (α × V) := if (atN kvs a).isSome then kvs.map (fun kv => if kv.1 = a then (kv.1, v) else kv) else kvs ++ [(a, v)]
def dropN (kvs : List (α × V)) (a : α) : List (α × V) := kvs.filter fun kv => decide (kv.1 ≠ a)
end
def atO (d : Addr) (o : Obj) : HO := .ext fun h => h.get? d = some o
/-- an entry and what stands in the heap -/
def RkN {α : Type} (K : PySem.W.Frag) (H : Hp) (dS : α → PyData) (kv : α × V) (x : NestedKey × Addr × Value) : Prop := Dt K H (.ref x.2.1) (dS kv.1) ∧ x.1 = nk (dS kv.1) ∧ RelV kv.2 x.2.2
structure DNx {α : Type} (P : Program) (w : World) (K : PySem.W.Frag) (dS : α → PyData) (H : Hp) (d : Addr) (kvs : List (α × V)) (xs : List (NestedKey × Addr × Value)) (o : Obj) : Prop where
  there : H d = some (atO d o)
  nosys : (d == sysModules) = false
  exact : o.ExactDict
  data : ∃ es ep, o.data = .dict es ep ∧ es.toList = xs.map (entryOfKey (nestedKind P w))
  keys : Paired (RkN K H dS) kvs xs
  nodup : (xs.map (·.1)).Nodup
/-- at d a dict of kvs, in order -/
def DN {α : Type} (P : Program) (w : World) (K : PySem.W.Frag) (dS : α → PyData) (H : Hp) (d : Addr) (kvs : List (α × V)) : Prop := (kvs = [] ∧ H d = some (.dK [])) ∨ ∃ xs o, DNx P w K dS H d kvs xs o
section
variable {α : Type} {P : Program} {w : World} {K : PySem.W.Frag} {dS : α → PyData} {H H' : Hp} {d : Addr} {kvs : List (α × V)}
theorem Paired.imp {α β : Type} {F G : α → β → Prop} (h : ∀ a b, F a b → G a b) : ∀ {xs : List α} {ys : List β}, Paired F xs ys → Paired G xs ys
  | _, _, .nil => .nil
  | _, _, .cons a b => .cons (h _ _ a) (Paired.imp h b)
theorem RkN.mono (t : Tu H H') {kv : α × V} {x : NestedKey × Addr × Value} (h : RkN K H dS kv x) : RkN K H' dS kv x := ⟨h.1.mono t, h.2.1, h.2.2⟩
theorem DN.fr {S : List Addr} (h : DN P w K dS H d kvs) (f : Fr S H H') (n : d ∉ S) (t : Tu H H') : DN P w K dS H' d kvs := by
  rcases h with ⟨rfl, e⟩ | ⟨xs, o, D⟩
  · exact .inl ⟨rfl, f _ _ e n⟩
  · exact .inr ⟨xs, o, f _ _ D.there n, D.nosys, D.exact, D.data, Paired.imp (fun _ _ => RkN.mono t) D.keys, D.nodup⟩
theorem DN.fr0 (h : DN P w K dS H d kvs) (f : Fr [] H H') : DN P w K dS H' d kvs := h.fr f (by simp) f.tu
theorem Tu.dn (h : DN P w K dS H d kvs) (o : HO) : Tu H (upd H d o) := fun a ys => by
  have e : H d = some (.dK []) ∨ ∃ o, H d = some (atO d o) := by
    rcases h with ⟨_, e⟩ | ⟨xs, o, D⟩
    · exact .inl e
    · exact .inr ⟨_, D.there⟩
  refine ⟨fun z => ?_, fun o' z => ?_⟩ <;>
  · rw [upd_ne (by
      rintro rfl
      rcases e with e | ⟨_, e⟩ <;> rw [z] at e <;> cases e)]
    exact z
end
section
variable {α : Type} {X : Cx} {pins : List (Addr × Obj)} {σ : L2.St} {H : Hp} {s : Shared} {dS : α → PyData} {d a : Addr} {kvs : List (α × V)} {k : α}
theorem KeyD.is (D : KeyD dS) (I : Inv X pins σ H s) (h : Dt X.K H (.ref a) (dS k)) : (nestedKind X.prog X.w).is s.heap (U.nk (dS k)) a := by
  obtain ⟨as, r⟩ := Dp.reads I (dS k) (.ref a) (.ref a) h.dp rfl
  exact ⟨nested_of r (D.kd k), Nat.le_trans (nk_depth _ (D.kd k)) (D.dp k)⟩
theorem Paired.right {α β : Type} {F : α → β → Prop} : ∀ {xs : List α} {ys : List β}, Paired F xs ys → ∀ y ∈ ys, ∃ x, F x y
  | _, _, .nil, y, h => by simp at h
  | _, _, .cons a b, y, h => by
    rcases List.mem_cons.mp h with rfl | h
    · exact ⟨_, a⟩
    · exact Paired.right b y h
theorem DN.heap (D : KeyD dS) (I : Inv X pins σ H s) (h : DN X.prog X.w X.K dS H d kvs) : ∃ xs, s.heap.DictOfH (nestedKind X.prog X.w) d xs ∧ Paired (RkN X.K H dS) kvs xs ∧ (d == sysModules) = false ∧ Mut (H d) := by
  rcases h with ⟨rfl, e⟩ | ⟨xs, o, N⟩
  · obtain ⟨_, n, vs, kv, o, es, ep, ho, hex, hd, _, pr, _⟩ := I.hok d _ e
    cases kv
    have z : es.toList = [] := by
      generalize es.toList = l at pr
      cases pr
      rfl
    exact ⟨[], ⟨o, es, ep, ho, hex, hd, by rw [z]; rfl, by simp, by simp⟩, .nil, n, by rw [e]; trivial⟩
  · obtain ⟨ho, _⟩ := I.hok d _ N.there
    obtain ⟨es, ep, hd, ht⟩ := N.data
    refine ⟨xs, ⟨o, es, ep, ho, N.exact, hd, ht, ?_, N.nodup⟩, N.keys, N.nosys, by rw [N.there]; trivial⟩
    intro x hx
    obtain ⟨kv, r⟩ := Paired.right N.keys x hx
    rw [r.2.1]
    exact D.is I r.1
end
section
variable {α : Type} [DecidableEq α] {K : PySem.W.Frag} {H : Hp} {dS : α → PyData}
theorem at_paired (D : KeyD dS) (k : α) : ∀ {kvs : List (α × V)} {xs : List (NestedKey × Addr × Value)}, Paired (RkN K H dS) kvs xs → (atN kvs k = none ∧ atKey xs (nk (dS k)) = none) ∨ ∃ v p u, atN kvs k = some v ∧ atKey xs (nk (dS k)) = some (p, u) ∧ RelV v u
  | _, _, .nil => .inl ⟨rfl, rfl⟩
  | _, _, .cons (a := kv) (b := x) r b => by
    unfold atN atKey
    rw [List.find?_cons, List.find?_cons]
    by_cases h : kv.1 = k
    · have h2 : x.1 = nk (dS k) := by rw [r.2.1, h]
      rw [decide_eq_true h, decide_eq_true h2]
      exact .inr ⟨kv.2, x.2.1, x.2.2, rfl, rfl, r.2.2⟩
    · have h2 : ¬ x.1 = nk (dS k) := fun z => h (D.nk (r.2.1.symm.trans z))
      rw [decide_eq_false h, decide_eq_false h2]
      exact at_paired D k b
theorem atN_isSome (D : KeyD dS) (k : α) {kvs : List (α × V)} {xs : List (NestedKey × Addr × Value)} (h : Paired (RkN K H dS) kvs xs) : (atKey xs (nk (dS k))).isSome = (atN kvs k).isSome := by
  rcases at_paired D k h with ⟨e, f⟩ | ⟨v, p, u, e, f, _⟩ <;> rw [e, f] <;> rfl
theorem Paired.snoc {α β : Type} {F : α → β → Prop} {x : α} {y : β} (h : F x y) : ∀ {xs : List α} {ys : List β}, Paired F xs ys → Paired F (xs ++ [x]) (ys ++ [y])
  | _, _, .nil => .cons h .nil
  | _, _, .cons a b => .cons a (Paired.snoc h b)
theorem put_map (D : KeyD dS) (k : α) {v : V} {u : Value} (rv : RelV v u) : ∀ {kvs : List (α × V)} {xs : List (NestedKey × Addr × Value)}, Paired (RkN K H dS) kvs xs → Paired (RkN K H dS) (kvs.map (fun kv => if kv.1 = k then (kv.1, v) else kv)) (xs.map (putAt (nk (dS k)) u))
  | _, _, .nil => .nil
  | _, _, .cons (a := kv) (b := x) r b => by
    refine .cons ?_ (put_map D k rv b)
    show RkN K H dS (if kv.1 = k then (kv.1, v) else kv) (if x.1 = nk (dS k) then (x.1, x.2.1, u) else x)
    by_cases h : kv.1 = k
    · have h2 : x.1 = nk (dS k) := by rw [r.2.1, h]
      rw [if_pos h, if_pos h2]
      exact ⟨r.1, r.2.1, rv⟩
    · have h2 : ¬ x.1 = nk (dS k) := fun z => h (D.nk (r.2.1.symm.trans z))
      rw [if_neg h, if_neg h2]
      exact r
theorem put_paired (D : KeyD dS) {k : α} {a : Addr} {v : V} {u : Value} (hk : Dt K H (.ref a) (dS k)) (rv : RelV v u) {kvs : List (α × V)} {xs : List (NestedKey × Addr × Value)} (h : Paired (RkN K H dS) kvs xs) : Paired (RkN K H dS) (putN kvs k v) (storedH xs (nk (dS k)) a u) := by
  unfold putN storedH
  rw [atN_isSome D k h]
  by_cases e : (atN kvs k).isSome = true
  · rw [if_pos e, if_pos e]
    exact put_map D k rv h
  · rw [if_neg e, if_neg e]
    exact Paired.snoc ⟨hk, rfl, rv⟩ h
theorem drop_paired (D : KeyD dS) {k : α} : ∀ {kvs : List (α × V)} {xs : List (NestedKey × Addr × Value)}, Paired (RkN K H dS) kvs xs → Paired (RkN K H dS) (dropN kvs k) (withoutH xs (nk (dS k)))
  | _, _, .nil => .nil
  | _, _, .cons (a := kv) (b := x) r b => by
    unfold dropN withoutH
    rw [List.filter_cons, List.filter_cons]
    by_cases h : kv.1 = k
    · have h2 : x.1 = nk (dS k) := by rw [r.2.1, h]
      rw [if_neg (by simpa using h), if_neg (by simpa using h2)]
      exact drop_paired D b
    · have h2 : ¬ x.1 = nk (dS k) := fun z => h (D.nk (r.2.1.symm.trans z))
      rw [if_pos (by simpa using h), if_pos (by simpa using h2)]
      exact .cons r (drop_paired D b)
end
/-! ### rules -/
section
variable {α : Type} [DecidableEq α] {X : Cx} {P : Program} {w : World} {K : PySem.W.Frag} {dS : α → PyData}
theorem Paired.len {α β : Type} {F : α → β → Prop} : ∀ {xs : List α} {ys : List β}, Paired F xs ys → xs.length = ys.length
  | _, _, .nil => rfl
  | _, _, .cons _ b => by rw [List.length_cons, List.length_cons, Paired.len b]
theorem valueAt_pairs (k : NestedKey) : ∀ xs : List (NestedKey × Addr × Value), (valueAt (pairsH xs) k).isSome = (atKey xs k).isSome
  | [] => rfl
  | x :: r => by
    have ih := valueAt_pairs k r
    unfold valueAt atKey pairsH at *
    rw [List.map_cons, List.find?_cons, List.find?_cons]
    by_cases h : x.1 = k
    · rw [decide_eq_true h]
      rfl
    · rw [decide_eq_false h]
      exact ih
def rInN (P : Program) (w : World) (K : PySem.W.Frag) (dS : α → PyData) : R2 := fun x y H Q => ∃ (d a : Addr) (kvs : List (α × V)) (k : α), x = .ref a ∧ y = .ref d ∧ DN P w K dS H d kvs ∧ Dt K H (.ref a) (dS k) ∧ Q (.bl (atN kvs k).isSome) H
def rNinN (P : Program) (w : World) (K : PySem.W.Frag) (dS : α → PyData) : R2 := fun x y H Q => ∃ (d a : Addr) (kvs : List (α × V)) (k : α), x = .ref a ∧ y = .ref d ∧ DN P w K dS H d kvs ∧ Dt K H (.ref a) (dS k) ∧ Q (.bl (!(atN kvs k).isSome)) H
theorem roomN {A : Around} (hu : A.units + 65 < cLine) : (nestedKind P w).room A.in1 := by
  show A.units + 1 + 8 < cLine
  omega
theorem op_inN (D : KeyD dS) (hu : X.A.units + 65 < cLine) : OpR X (compareOp .In) (rInN X.prog X.w X.K dS) := by
  intro pins s σ H x y v u Q I rx ry h
  obtain ⟨d, a, kvs, k, rfl, rfl, hd, hk, q⟩ := h
  cases rx
  cases ry
  obtain ⟨xs, hD, pr, ns, _⟩ := hd.heap D I
  refine wpAny_in_heap (roomN hu) (D.is I hk) ns hD ?_
  exact ⟨_, H, I.tok _, by rw [atN_isSome D k pr]; rfl, q⟩
theorem op_ninN (D : KeyD dS) (hu : X.A.units + 65 < cLine) : OpR X (compareOp .NotIn) (rNinN X.prog X.w X.K dS) := by
  intro pins s σ H x y v u Q I rx ry h
  obtain ⟨d, a, kvs, k, rfl, rfl, hd, hk, q⟩ := h
  cases rx
  cases ry
  obtain ⟨xs, hD, pr, ns, _⟩ := hd.heap D I
  refine notIn_keyed (knd := nestedKind X.prog X.w) (roomN hu) (D.is I hk) ns ⟨xs, hD, rfl⟩ ?_
  exact ⟨_, H, I.tok _, by rw [valueAt_pairs, atN_isSome D k pr]; rfl, q⟩
def rIxN (P : Program) (w : World) (K : PySem.W.Frag) (dS : α → PyData) : R2 := fun x y H Q => ∃ (d a : Addr) (kvs : List (α × V)) (k : α) (v : V), x = .ref d ∧ y = .ref a ∧ DN P w K dS H d kvs ∧ Dt K H (.ref a) (dS k) ∧ atN kvs k = some v ∧ Q v H
theorem ix_N (D : KeyD dS) (hu : X.A.units + 65 < cLine) : IxR X (rIxN X.prog X.w X.K dS) := by
  intro value slice pins s σ H x y v u Q I rx ry h hs
  obtain ⟨d, a, kvs, k, z, rfl, rfl, hd, hk, hv, q⟩ := h
  cases rx
  cases ry
  obtain ⟨xs, hD, pr, ns, _⟩ := hd.heap D I
  obtain ⟨o, es, ep, ho, hex, _⟩ := id hD
  rcases at_paired D k pr with ⟨e, f⟩ | ⟨v', p, u, e, f, r⟩
  · rw [hv] at e; cases e
  · rw [hv] at e
    cases e
    refine subscriptTail_builtinR (x := u) ⟨o, ho, hex.1⟩ F.slot_dict_getitem.lookup ?_ hs
    refine wpAny_getItem_heap (roomN hu) (D.is I hk) hD f ?_
    exact ⟨rfl, _, H, I.tok _, r, q⟩
def rSetN (P : Program) (w : World) (K : PySem.W.Frag) (dS : α → PyData) : TSet := fun o i v H Q => ∃ (d a : Addr) (kvs : List (α × V)) (k : α), o = .ref d ∧ i = .ref a ∧ DN P w K dS H d kvs ∧ Dt K H (.ref a) (dS k) ∧ kvs.length ≤ 100000 ∧ ∀ H', Fr [d] H H' → Tu H H' → DN P w K dS H' d (putN kvs k v) → Q H'
/-- behind a change -/
theorem DN.write {pins : List (Addr × Obj)} {σ : L2.St} {H : Hp} {s : Shared} {h' : Heap} {d : Addr} {kvs kvs' : List (α × V)} {xs' : List (NestedKey × Addr × Value)} {t' : Nat} (I : Inv X pins σ H s) (hd : DN X.prog X.w X.K dS H d kvs) (ns : (d == sysModules) = false) (m : Mut (H d)) (hD : h'.DictOfH (nestedKind X.prog X.w) d xs') (sb : Heap.SameBut d s.heap h') (pr : Paired (RkN X.K H dS) kvs' xs') :
    ∃ H', Inv X pins σ H' { s with heap := h', toks := t' } ∧ Fr [d] H H' ∧ Tu H H' ∧ DN X.prog X.w X.K dS H' d kvs' := by
  obtain ⟨o, es, ep, ho, hex, hda, hl, hi, hn⟩ := hD
  have t := Tu.dn hd (atO d o)
  refine ⟨upd H d (atO d o), I.write m (.inl rfl) (fun b u hb hu => ?_) ⟨o, ho⟩ ⟨ho, ⟨o, ho⟩, fun h1 h2 e f => f _ e⟩, Fr.mut (by simp), t, .inr ⟨xs', o, upd_same, ns, hex, ⟨es, ep, hda, hl⟩, Paired.imp (fun _ _ => RkN.mono t) pr, hn⟩⟩
  rw [sb.2 b hb]
  exact hu
theorem set_N (D : KeyD dS) (hu : X.A.units + 65 < cLine) : PSet X (rSetN X.prog X.w X.K dS) := by
  intro pins s σ H o i v ov iv u Q I ro ri rv h
  obtain ⟨d, a, kvs, k, rfl, rfl, hd, hk, n, q⟩ := h
  cases ro
  cases ri
  obtain ⟨xs, hD, pr, ns, m⟩ := hd.heap D I
  refine wpAny_setItem_heap (roomN hu) (D.is I hk) hD (fun h' hD' sb => ?_) (by rw [← Paired.len pr]; exact Nat.le_trans n (by decide))
  obtain ⟨H', I', f, t, d'⟩ := DN.write I hd ns m hD' sb (put_paired D hk rv pr)
  exact ⟨H', I', q H' f t d'⟩
def dictN (P : Program) (w : World) (K : PySem.W.Frag) (dS : α → PyData) : V → Hp → Prop := fun x H => ∃ (d : Addr) (kvs : List (α × V)), x = .ref d ∧ DN P w K dS H d kvs
theorem ty_N (D : KeyD dS) : TyOk X "dict" (dictN X.prog X.w X.K dS) := by
  intro pins σ H s x v I rx h
  obtain ⟨d, kvs, rfl, hd⟩ := h
  cases rx
  obtain ⟨xs, ⟨o, es, ep, ho, hex, _⟩, _⟩ := hd.heap D I
  refine ⟨⟨o, ho, hex.1⟩, fun a e => ?_⟩
  cases e
  exact ⟨o, ho, hex.2.1⟩
def rPopN (P : Program) (w : World) (K : PySem.W.Frag) (dS : α → PyData) : V → List V → Hp → VK → Prop := fun x vs H Q => ∃ (d a : Addr) (kvs : List (α × V)) (k : α) (v : V), x = .ref d ∧ vs = [.ref a] ∧ DN P w K dS H d kvs ∧ Dt K H (.ref a) (dS k) ∧ kvs.length ≤ 100000 ∧ atN kvs k = some v ∧ ∀ H', Fr [d] H H' → Tu H H' → DN P w K dS H' d (dropN kvs k) → Q v H'
theorem mt_popN (D : KeyD dS) (hu : X.A.units + 65 < cLine) : MtR X "dict.pop" (rPopN X.prog X.w X.K dS) := by
  intro pins s σ H x vs v us Q I rx rvs h
  obtain ⟨d, a, kvs, k, z, rfl, rfl, hd, hk, n, hv, q⟩ := h
  cases rx
  obtain ⟨_, _, ra, rn, rfl⟩ : ∃ u us', RelV (.ref a) u ∧ Vals [] us' ∧ us = u :: us' := by
    cases rvs with
    | cons r t => exact ⟨_, _, r, t, rfl⟩
  cases ra
  cases rn
  obtain ⟨xs, hD, pr, ns, m⟩ := hd.heap D I
  obtain ⟨o, es, ep, ho, hex, _⟩ := id hD
  rcases at_paired D k pr with ⟨e, f⟩ | ⟨v', p, u, e, f, r⟩
  · rw [hv] at e; cases e
  · rw [hv] at e
    cases e
    refine call_meetsIn F.slot_dict_pop ⟨o, ho, hex.1⟩ F.entry_dict_pop (F.args_dict_pop_2 _ _) (meetsH_dict_pop (nestedKind X.prog X.w) d a ns [] (.inl rfl)) ?_
    refine ⟨roomN hu, nk (dS k), xs, D.is I hk, hD, by rw [← Paired.len pr]; exact Nat.le_trans n (by decide), fun p' e' h' hD' sb => ?_, fun e' => ?_⟩
    · rw [f] at e'
      cases e'
      obtain ⟨H', I', f', t, d'⟩ := DN.write I hd ns m hD' sb (drop_paired D pr)
      exact ⟨_, H', I', r, q H' f' t d'⟩
    · rw [f] at e'
      cases e'
theorem get_size {h : Heap} {u : Obj} (e : h.get? h.objs.size = some u) : False := by
  unfold Heap.get? at e
  rw [Array.getElem?_eq_none (Nat.le_refl _)] at e
  cases e
theorem Paired.get {α β : Type} {F : α → β → Prop} : ∀ {xs : List α} {ys : List β}, Paired F xs ys → ∀ {i : Nat} {y : β}, ys[i]? = some y → ∃ x, xs[i]? = some x ∧ F x y
  | _, _, .nil, i, y, h => by simp at h
  | _, _, .cons a b, 0, y, h => by
    simp at h
    subst h
    exact ⟨_, rfl, a⟩
  | _, _, .cons a b, i + 1, y, h => by
    obtain ⟨x, h1, h2⟩ := Paired.get b (i := i) (by simpa using h)
    exact ⟨x, by simpa using h1, h2⟩
def rItemsN (P : Program) (w : World) (K : PySem.W.Frag) (dS : α → PyData) : V → List V → Hp → VK → Prop := fun x vs H Q => ∃ (d : Addr) (kvs : List (α × V)), x = .ref d ∧ vs = [] ∧ DN P w K dS H d kvs ∧ ∀ p, H p = none → Q (.ref p) (upd H p (DX.itemsO p d))
theorem mt_itemsN (D : KeyD dS) : MtR X "dict.items" (rItemsN X.prog X.w X.K dS) := by
  intro pins s σ H x vs v us Q I rx rvs h
  obtain ⟨d, kvs, rfl, rfl, hd, q⟩ := h
  cases rx
  cases rvs
  obtain ⟨xs, ⟨o, es, ep, ho, hex, hda, _⟩, _, ns, _⟩ := hd.heap D I
  refine call_meetsIn F.slot_dict_items ⟨o, ho, hex.1⟩ F.entry_dict_items (F.args_dict_items_1 _) (meets_dict_items_raw d ns) ⟨⟨es, ep, o, ho, hex, hda⟩, ?_⟩
  have hp := I.fresh
  have hg : Heap.get? (Heap.push s.heap { cls := Value.type "dict_items", data := Data.fields #[Value.ref d] }) s.heap.objs.size = some { cls := Value.type "dict_items", data := Data.fields #[Value.ref d] } := Heap.get?_push_size _ rfl
  refine ⟨.ref _, _, I.laid (a := s.heap.objs.size) (o := DX.itemsO s.heap.objs.size d) (fun b u hb => ?_) (Nat.le_refl _) (DX.itemsO_ok hg), rfl, q _ hp⟩
  rw [Heap.get?_push_ne]
  · exact hb
  · rintro rfl
    exact get_size hb
/-- the turns over its items -/
def ItN (d : Addr) (o : Obj) (ks : List (Addr × V)) : It where
  go i H := H d = some (atO d o) ∧ i < ks.length
  yld i H x H' := ∃ T b v, ks[i]? = some (b, v) ∧ x = .ref T ∧ H T = none ∧ H' = upd H T (.tup [.ref b, v])
  stop i H := H d = some (atO d o) ∧ i = ks.length
theorem turn_itemsN {elts : List Expr} {kk : Nat} {tpos : Pos} {d it : Addr} {o : Obj} {es : Array DictEntry} {ep : Nat} {ks : List (Addr × V)} (hex : o.ExactDict) (hda : o.data = .dict es ep) (hk : Paired (fun (k : Addr × V) (e : DictEntry) => e.key = .ref k.1 ∧ RelV k.2 e.val) ks es.toList) :
    Turn P w K (.Tuple elts kk tpos) (ItN d o ks) [it] it fun i h => ∃ ok ov, IsItemIter h it d i es.size ep ok ov where
  mem := by simp
  obj := fun i h t b hb => by
    obtain ⟨ok, ov, e⟩ := t
    rw [List.mem_singleton.mp hb]
    exact ⟨_, e, fun v z => by cases z⟩
  keep := fun i h h' t k => by
    obtain ⟨ok, ov, e⟩ := t
    exact ⟨ok, ov, k it (by simp) _ e⟩
  item := by
    rintro X rfl rfl rfl hc i pins s σ H E I fp t ⟨hd, hi⟩
    obtain ⟨ho, _⟩ := I.hok d _ hd
    have hne : d ≠ it := by
      rintro rfl
      rw [(fp d (by simp)).1] at hd
      cases hd
    have wk := WalksT.rawItems (prog := X.prog) (w := X.w) (A := X.A) (I.ok.hd hc) it d hne es ep
    have sz : ks.length = es.size := by rw [Paired.len hk, Array.length_toList]
    refine wk.item i s _ E (by omega) ⟨t, o, ho, hex, hda⟩ fun T vals h' tk pt hT tup mid kp => ⟨_, rfl, ?_⟩
    obtain ⟨hi2, rfl⟩ := pt
    have hTn := wk.apart i T h' mid
    refine wk.go elts kk tpos i T _ _ E mid fun h2 st kp2 => ?_
    have hb : ∃ b v, ks[i]? = some (b, v) ∧ es[i].key = .ref b ∧ RelV v es[i].val := by
      obtain ⟨x, h1, h2, h3⟩ := Paired.get hk (i := i) (y := es[i]) (by rw [Array.getElem?_toList, Array.getElem?_eq_getElem hi2])
      exact ⟨x.1, x.2, h1, h2, h3⟩
    obtain ⟨b, v, hks, hkey, hv⟩ := hb
    obtain ⟨ob, hob, hc1, n, hc2⟩ := tup
    have hob2 := kp2 T ob hTn hob
    refine ⟨.ref T, upd H T (.tup [.ref b, v]), I.turnedNew (ch := [it]) (fun a u ha hu => kp2 a u ha (kp a u ha hu)) fp hT ⟨by exact Nat.le_of_ble_eq_true rfl, [es[i].key, es[i].val], .cons (by rw [hkey]; rfl) (.cons hv .nil), ob, hob2, hc1, n, hc2⟩, rfl, ⟨T, b, v, hks, rfl, ?_, rfl⟩, st.1, fun b' hb' => ?_⟩
    · exact HOk.fresh I.hok hT
    · rw [List.mem_singleton.mp hb', upd_ne (by rintro rfl; exact hTn (by simp))]
      exact (fp it (by simp)).1
  done := by
    rintro X rfl rfl rfl hc i pins s σ H E I fp t ⟨hd, hi⟩
    obtain ⟨ho, _⟩ := I.hok d _ hd
    have hne : d ≠ it := by
      rintro rfl
      rw [(fp d (by simp)).1] at hd
      cases hd
    have wk := WalksT.rawItems (prog := X.prog) (w := X.w) (A := X.A) (I.ok.hd hc) it d hne es ep
    have sz : ks.length = es.size := by rw [Paired.len hk, Array.length_toList]
    rw [hi, sz] at t
    exact wk.done s _ E ⟨t, o, ho, hex, hda⟩ fun h' tk kp => ⟨rfl, I.turnedL (ch := [it]) kp fp⟩
  self := by
    have z := (turn_items (P := P) (w := w) (K := K) (d := d) (o := o) (kvs := List.replicate es.size (Sum.inl 0, V.non)) (elts := elts) (kk := kk) (tpos := tpos) it hda).self
    rw [List.length_replicate] at z
    exact z
/-- what is asked of the dict and of what follows -/
def ITEMS (P : Program) (w : World) (K : PySem.W.Frag) (dS : α → PyData) (R : It → Hp → Prop) (x : V) (H1 : Hp) : Prop := dictN P w K dS x H1 ∧ rItemsN P w K dS x [] H1 fun v H' => ∃ (p d : Addr) (kvs : List (α × V)), v = .ref p ∧ H' p = some (DX.itemsO p d) ∧ DN P w K dS H' d kvs ∧
  ∀ H2 o ks, Fr [d] H' H2 → Tu H' H2 → H2 d = some (atO d o) → Paired (fun (kv : α × V) (k : Addr × V) => Dt K H2 (.ref k.1) (dS kv.1) ∧ k.2 = kv.2) kvs ks → R (ItN d o ks) H2
theorem ITEMS.of {R : It → Hp → Prop} {H1 : Hp} {d : Addr} {kvs : List (α × V)} (hd : DN P w K dS H1 d kvs) (k : ∀ H2 o ks, Fr [d] H1 H2 → Tu H1 H2 → H2 d = some (atO d o) → Paired (fun (kv : α × V) (k : Addr × V) => Dt K H2 (.ref k.1) (dS kv.1) ∧ k.2 = kv.2) kvs ks → R (ItN d o ks) H2) : ITEMS P w K dS R (.ref d) H1 :=
  ⟨⟨d, kvs, rfl, hd⟩, d, kvs, rfl, rfl, hd, fun p hp => ⟨p, d, kvs, rfl, upd_same, hd.fr0 (Fr.new hp), fun H2 o ks f t h1 h2 => k H2 o ks (Fr.trans (Fr.new hp) f) ((Tu.new hp).trans t) h1 h2⟩⟩
def iItemsN (P : Program) (w : World) (K : PySem.W.Frag) (dS : α → PyData) (te : TE) : TI := fun σ H R => te σ H fun x H1 => ITEMS P w K dS R x H1
theorem w_iItemsN {σ : L2.St} {H : Hp} {te : TE} {R : It → Hp → Prop} (q : te σ H fun x H1 => ITEMS P w K dS R x H1) : iItemsN P w K dS te σ H R := q
theorem ks_of {K : PySem.W.Frag} {H : Hp} : ∀ {kvs : List (α × V)} {xs : List (NestedKey × Addr × Value)}, Paired (RkN K H dS) kvs xs → ∃ ks : List (Addr × V), Paired (fun (kv : α × V) (k : Addr × V) => Dt K H (.ref k.1) (dS kv.1) ∧ k.2 = kv.2) kvs ks ∧ Paired (fun (k : Addr × V) (e : DictEntry) => e.key = .ref k.1 ∧ RelV k.2 e.val) ks (xs.map (entryOfKey (nestedKind P w)))
  | _, _, .nil => ⟨[], .nil, .nil⟩
  | _, _, .cons (a := kv) (b := x) r b => by
    obtain ⟨ks, h1, h2⟩ := ks_of b
    exact ⟨(x.2.1, kv.2) :: ks, .cons ⟨r.1, rfl⟩ h1, .cons ⟨rfl, r.2.2⟩ h2⟩
theorem pi_itemsN {e : Expr} {te : TE} {apos cpos : Pos} {elts : List Expr} {kk : Nat} {tpos : Pos} (D : KeyD dS) (hP : X.prog = P) (hw : X.w = w) (hK : X.K = K) (he : PE X e te) (hb : attributeBase e "items" X.env (eval e X.env) = eval e X.env := by rfl) (hl : (apos.endLine == cpos.line) = true := by rfl) :
    PI X (.Tuple elts kk tpos) (.Call (.Attribute e "items" apos) [] [] cpos) (iItemsN P w K dS te) := by
  subst hP hw hK
  have P1 : PE X (.Call (.Attribute e "items" apos) [] [] cpos) (tMG0 (dictN X.prog X.w X.K dS) (rItemsN X.prog X.w X.K dS) te) := pe_mG0 (ty_N D) F.plainAttrs_dict F.slot_dict_items F.type_dict_items (mt_itemsN D) he hb hl
  refine ⟨fun pins s σ H R I q => ?_⟩
  refine wpAny_mono (P1.run pins s σ H _ I q) ?_ fun _ _ z => z
  · rintro v s1 ⟨v', H1, I1, rv, p, d, kvs, rfl, hp, hd, k⟩
    cases rv
    have hv : Heap.IsItemsView s1.heap p d := (I1.hok p _ hp).1
    obtain ⟨xs, ⟨o, es, ep, ho, hex, hda, hl, hi, hn⟩, pr, ns, m⟩ := hd.heap D I1
    have raw : Heap.DictRaw s1.heap d es ep := ⟨o, ho, hex, hda⟩
    refine wpAny_pyIter_items_raw hv raw ?_
    have t := Tu.dn hd (atO d o)
    have I2 : Inv X pins σ (upd H1 d (atO d o)) { s1 with toks := s1.toks } := I1.write m (.inl rfl) (fun b u hb hu => hu) ⟨o, ho⟩ ⟨ho, ⟨o, ho⟩, fun h1 h2 e f => f _ e⟩
    obtain ⟨ks, k1, k2⟩ := ks_of (P := X.prog) (w := X.w) (Paired.imp (fun _ _ => RkN.mono t) pr)
    rw [← hl] at k2
    have hfr : (upd H1 d (atO d o)) s1.heap.objs.size = none := by
      have := I2.fresh
      exact this
    refine ⟨s1.heap.objs.size, [s1.heap.objs.size], _, ItN d o ks, upd H1 d (atO d o), rfl, I2.turnedL (ch := []) (fun b u _ hb => ?_) (fun b hb => by simp at hb), turn_itemsN (es := es) (ep := ep) hex hda k2, ⟨_, _, Heap.get?_push_size _ rfl⟩, fun b hb => ?_, k _ o ks (Fr.mut (by simp)) t upd_same k1⟩
    · rw [Heap.get?_push_ne]
      · exact hb
      · rintro rfl
        exact get_size hb
    · rw [List.mem_singleton.mp hb]
      exact I2.fpOk (Nat.le_refl _) hfr
end
/-- a comprehension over items -/
theorem LC_N {α : Type} {K : PySem.W.Frag} {dS : α → PyData} {d D : Addr} {o : Obj} {kvs : List (α × V)} {ks : List (Addr × V)} {H : Hp} {ws : List Nat} {σ : L2.St} {tg : TG} {tt : TT} {te : TE} {Q : VK} (f : α × V → Bool) (g : α × V → PyData)
    (hd : H d = some (atO d o)) (hk : Paired (fun (kv : α × V) (k : Addr × V) => Dt K H (.ref k.1) (dS kv.1) ∧ k.2 = kv.2) kvs ks) (lc : kvs.length ≤ 100000) (hD : H D = none)
    (hs : ∀ (kv : α × V) (b T : Addr) (H' : Hp) (KEEP : VK) (DROP : Hp → Prop), kv ∈ kvs → Fr [] H H' → SqT K H' T [.ref b, kv.2] → Dt K H' (.ref b) (dS kv.1) → (f kv = true → ∀ y H4, Fr [] H' H4 → Dt K H4 y (g kv) → KEEP y H4) → (f kv = false → ∀ H4, Fr [] H' H4 → DROP H4) →
      tg (.ref T) (wipe σ ws) H' fun σ2 H2 => wipe σ2 ws = wipe σ ws ∧ tt σ2 H2 fun k H3 => if k = true then te σ2 H3 KEEP else DROP H3)
    (k : ∀ D H', H D = none → Fr [] H H' → Lq K H' D ((kvs.filter f).map g) → Q (.ref D) H') :
    LC (ItN d o ks) tg tt te ws σ D Q (upd H D (.lst [])) := by
  have lk : kvs.length = ks.length := Paired.len hk
  refine ⟨fun i m H' => m = ks.length - i ∧ i ≤ ks.length ∧ Fr [] H H' ∧ Lq K H' D (((kvs.take i).filter f).map g), ⟨_, rfl, Nat.zero_le _, Fr.new hD, [], upd_same, .nil⟩, ?_⟩
  rintro i m H' ⟨rfl, hi, f', L⟩
  have hd' := f' _ _ hd (by simp)
  by_cases hlt : i < ks.length
  · refine .inr ⟨⟨hd', hlt⟩, fun H2 => Fr [] H H2 ∧ Lq K H2 D (((kvs.take (i + 1)).filter f).map g), fun H2 z => ⟨ks.length - (i + 1), by omega, rfl, hlt, z⟩, fun x H2 y => ?_⟩
    obtain ⟨T, b, v, hks, rfl, hT, rfl⟩ := y
    obtain ⟨kv, hkv, hb, hv⟩ := Paired.get hk hks
    have hv : v = kv.2 := hv
    subst hv
    have fT : Fr [] H' (upd H' T (.tup [.ref b, kv.2])) := Fr.new hT
    have L2 := L.fr0 fT
    obtain ⟨ys, hys, dys⟩ := L2
    have ly : ys.length ≤ i := by
      rw [dys.length, List.length_map]
      refine Nat.le_trans (List.length_filter_le _ _) ?_
      rw [List.length_take]
      omega
    refine hs kv b T _ _ _ (List.mem_of_getElem? hkv) (f'.trans fT) (.inl (.inl upd_same)) (hb.mono (f'.trans fT).tu) (fun hf y H4 f4 dy => ?_) (fun hf H4 f4 => ?_)
    · have e3 := f4 _ _ hys (by simp)
      refine ⟨ys, e3, Nat.lt_of_le_of_lt (show ys.length ≤ 100000 by omega) (by decide), Fr.new_mut hD (((f'.trans fT).trans f4).mono (by simp) |>.trans (Fr.mut (by simp))), _, upd_same, ?_⟩
      rw [take_filt hkv, hf, List.map_append]
      exact ((dys.mono f4.tu).append (.cons dy .nil)).mono (Tu.mut e3)
    · refine ⟨(f'.trans fT).trans f4, ?_⟩
      rw [take_filt hkv, hf]
      show Lq K H4 D ((List.filter f (kvs.take i) ++ []).map g)
      rw [List.append_nil]
      exact Lq.fr0 ⟨ys, hys, dys⟩ f4
  · have z : i = ks.length := by omega
    subst z
    refine .inl ⟨⟨hd', rfl⟩, ?_⟩
    rw [← lk, List.take_length] at L
    exact k D H' hD f' L
/-! ### the same, told for the places where one stands -/
section
variable {α : Type} [DecidableEq α] {X : Cx} {P : Program} {w : World} {K : PySem.W.Frag} {dS : α → PyData}
theorem op_inNU (D : KeyD dS) (hP : X.prog = P) (hw : X.w = w) (hK : X.K = K) (hu : X.A.units + 65 < cLine) : OpR X (compareOp .In) (rInN P w K dS) := by subst hP hw hK; exact op_inN D hu
theorem op_ninNU (D : KeyD dS) (hP : X.prog = P) (hw : X.w = w) (hK : X.K = K) (hu : X.A.units + 65 < cLine) : OpR X (compareOp .NotIn) (rNinN P w K dS) := by subst hP hw hK; exact op_ninN D hu
theorem ix_NU (D : KeyD dS) (hP : X.prog = P) (hw : X.w = w) (hK : X.K = K) (hu : X.A.units + 65 < cLine) : IxR X (rIxN P w K dS) := by subst hP hw hK; exact ix_N D hu
theorem set_NU (D : KeyD dS) (hP : X.prog = P) (hw : X.w = w) (hK : X.K = K) (hu : X.A.units + 65 < cLine) : PSet X (rSetN P w K dS) := by subst hP hw hK; exact set_N D hu
theorem ty_NU (D : KeyD dS) (hP : X.prog = P) (hw : X.w = w) (hK : X.K = K) : TyOk X "dict" (dictN P w K dS) := by subst hP hw hK; exact ty_N D
theorem mt_popNU (D : KeyD dS) (hP : X.prog = P) (hw : X.w = w) (hK : X.K = K) (hu : X.A.units + 65 < cLine) : MtR X "dict.pop" (rPopN P w K dS) := by subst hP hw hK; exact mt_popN D hu
variable {H : Hp} {Q : VK} {a d : Addr} {kvs : List (α × V)} {k : α}
theorem w_inN (hd : DN P w K dS H d kvs) (hk : Dt K H (.ref a) (dS k)) (q : Q (.bl (atN kvs k).isSome) H) : rInN P w K dS (.ref a) (.ref d) H Q := ⟨d, a, kvs, k, rfl, rfl, hd, hk, q⟩
theorem w_ninN (hd : DN P w K dS H d kvs) (hk : Dt K H (.ref a) (dS k)) (q : Q (.bl (!(atN kvs k).isSome)) H) : rNinN P w K dS (.ref a) (.ref d) H Q := ⟨d, a, kvs, k, rfl, rfl, hd, hk, q⟩
theorem w_ixN {v : V} (hd : DN P w K dS H d kvs) (hk : Dt K H (.ref a) (dS k)) (hv : atN kvs k = some v) (q : Q v H) : rIxN P w K dS (.ref d) (.ref a) H Q := ⟨d, a, kvs, k, v, rfl, rfl, hd, hk, hv, q⟩
theorem w_setN {v : V} {Q : Hp → Prop} (hd : DN P w K dS H d kvs) (hk : Dt K H (.ref a) (dS k)) (n : kvs.length ≤ 100000) (q : ∀ H', Fr [d] H H' → Tu H H' → DN P w K dS H' d (putN kvs k v) → Q H') : rSetN P w K dS (.ref d) (.ref a) v H Q := ⟨d, a, kvs, k, rfl, rfl, hd, hk, n, q⟩
theorem w_popN {v : V} (hd : DN P w K dS H d kvs) (hk : Dt K H (.ref a) (dS k)) (n : kvs.length ≤ 100000) (hv : atN kvs k = some v) (q : ∀ H', Fr [d] H H' → Tu H H' → DN P w K dS H' d (dropN kvs k) → Q v H') : rPopN P w K dS (.ref d) [.ref a] H Q := ⟨d, a, kvs, k, v, rfl, rfl, hd, hk, n, hv, q⟩
theorem DN.dict (hd : DN P w K dS H d kvs) : dictN P w K dS (.ref d) H := ⟨d, kvs, rfl, hd⟩
theorem w_mG {σ : L2.St} {ty : V → Hp → Prop} {rm : V → List V → Hp → VK → Prop} {ta : TE} {tr : TA} (q : ta σ H fun x H1 => ty x H1 ∧ tr σ H1 fun xs H2 => rm x xs H2 Q) : tMG ty rm ta tr σ H Q := q
end
/-! ### isinstance(x, (a, b)) -/
section
variable {K : PySem.W.Frag} {H : Hp} {Q : VK}
theorem kit_two {t a b : String} {r s : Bool} (h1 : kitB t a = some r) (h2 : kitB t b = some s) : PySem.W.kitAny K (.type t) [.type a, .type b] = some (r || s) := by
  have e1 := kit_ty (K := K) h1
  have e2 := kit_ty (K := K) h2
  simp only [PySem.W.kitAny, e1, e2]
  cases r <;> cases s <;> rfl
theorem call_isiTU {X : Cx} (hK : X.K = K) : CallR X (.builtin "isinstance") (rIsiT K) := by subst hK; exact call_isiT
theorem w_isiT {x : V} {tp : Addr} {t a b : String} {r s : Bool} (h : H tp = some (.tup [.ty a, .ty b])) (ty : TyX K H x (.type t)) (h1 : kitB t a = some r) (h2 : kitB t b = some s) (q : Q (.bl (r || s)) H) : rIsiT K [x, .ref tp] H Q :=
  ⟨x, tp, [.ty a, .ty b], .type t, [.type a, .type b], r || s, rfl, h, .cons (.ty a) (.cons (.ty b) .nil), ty, kit_two h1 h2, q⟩
/-- the type's name of plain data -/
def tyn : PyData → String
  | .none => "NoneType"
  | .bool _ => "bool"
  | .int _ => "int"
  | .str _ => "str"
  | .tuple _ => "tuple"
  | .list _ => "list"
  | _ => "dict"
theorem Dg.ty {v : V} {d : PyData} (h : Dg K H v d) : TyX K H v (.type (tyn d)) := by
  cases h with
  | non => exact .base .non
  | bl b => exact .base (.bl _)
  | int i => exact .base (.int _)
  | str x => exact .base (.str _)
  | tup s _ => exact ty_T s
  | lst s _ => exact ty_L s
  | dct h => exact .base (.dK h)
end
end U

/-! any plain data, away from one list that changes (the tape) -/
namespace U
open PySem PySem.Spec PyProof.Rows L2
section
variable {K : PySem.W.Frag} {H H' : Hp}
mutual
theorem Dg.dp : ∀ {v : V} {d : PyData}, Dg K H v d → d.canLay0 = true → Dp K H v d
  | _, _, .non, _ => .non
  | _, _, .bl b, _ => .bl b
  | _, _, .int i, _ => .int i
  | _, _, .str x, _ => .str x
  | _, _, .tup s a, h => .tup s (DgAll.dp a h)
  | _, _, .lst s a, h => .lst s (DgAll.dp a h)
  | _, _, .dct _, h => by cases h
theorem DgAll.dp : ∀ {vs : List V} {ds : List PyData}, DgAll K H vs ds → PyData.canLayAll0 ds = true → DpAll K H vs ds
  | _, _, .nil, _ => .nil
  | _, _, .cons a b, h => by
    have z := Bool.and_eq_true_iff.mp h
    exact .cons (Dg.dp a z.1) (DgAll.dp b z.2)
end
theorem DgAll.take : ∀ {vs : List V} {ds : List PyData} (n : Nat), DgAll K H vs ds → DgAll K H (vs.take n) (ds.take n)
  | _, _, 0, _ => by simpa using DgAll.nil
  | _, _, _ + 1, .nil => by simpa using DgAll.nil
  | _, _, n + 1, .cons a b => by simpa using DgAll.cons a (DgAll.take n b)
theorem DgAll.drop : ∀ {vs : List V} {ds : List PyData} (n : Nat), DgAll K H vs ds → DgAll K H (vs.drop n) (ds.drop n)
  | _, _, 0, h => by simpa using h
  | _, _, _ + 1, .nil => by simpa using DgAll.nil
  | _, _, n + 1, .cons a b => by simpa using DgAll.drop n b
theorem DgAll.append : ∀ {vs us : List V} {ds es : List PyData}, DgAll K H vs ds → DgAll K H us es → DgAll K H (vs ++ us) (ds ++ es)
  | _, _, _, _, .nil, h => h
  | _, _, _, _, .cons a b, h => .cons a (DgAll.append b h)
theorem DgAll.cut {vs : List V} {ds : List PyData} (h : DgAll K H vs ds) (lo hi : Option Int) : DgAll K H (cutV vs lo hi) (cutA ds lo hi) := by
  unfold cutV cutA
  rw [DgAll.length h]
  exact DgAll.take _ (DgAll.drop _ h)
theorem DgAll.at : ∀ {vs : List V} {ds : List PyData} {i : Nat} {d : PyData}, DgAll K H vs ds → ds[i]? = some d → ∃ v, vs[i]? = some v ∧ Dg K H v d
  | _, _, i, _, .nil, h => by simp at h
  | _, _, 0, d, .cons a b, h => by
    simp at h
    subst h
    exact ⟨_, rfl, a⟩
  | _, _, i + 1, d, .cons a b, h => by
    obtain ⟨v, h1, h2⟩ := DgAll.at (i := i) b (by simpa using h)
    exact ⟨v, by simpa using h1, h2⟩
theorem Dg.tuple {v : V} {ds : List PyData} (h : Dg K H v (.tuple ds)) : ∃ p vs, v = .ref p ∧ SqT K H p vs ∧ DgAll K H vs ds := by
  cases h with
  | tup s a => exact ⟨_, _, rfl, s, a⟩
theorem Dg.list {v : V} {ds : List PyData} (h : Dg K H v (.list ds)) : ∃ p vs, v = .ref p ∧ SqL K H p vs ∧ DgAll K H vs ds := by
  cases h with
  | lst s a => exact ⟨_, _, rfl, s, a⟩
theorem Dg.isi {v : V} {d : PyData} {n : String} {b : Bool} {Q : VK} (h : Dg K H v d) (e : kitB (tyn d) n = some b) (q : Q (.bl b) H) : rIsi K [v, .ty n] H Q := w_isi h.ty (kit_ty e) q
end
/-- what is a tuple, list, whole number or truth, truth, text -/
def isTup : PyData → Bool | .tuple _ => true | _ => false
def isLst : PyData → Bool | .list _ => true | _ => false
def isInt : PyData → Bool | .int _ => true | .bool _ => true | _ => false
def isBool : PyData → Bool | .bool _ => true | _ => false
def isStr : PyData → Bool | .str _ => true | _ => false
section
variable {K : PySem.W.Frag} {H : Hp} {v : V} {d : PyData} {Q : VK}
theorem Dg.isTup (h : Dg K H v d) (q : Q (.bl (isTup d)) H) : rIsi K [v, .ty "tuple"] H Q := by
  cases h with
  | non => exact Dg.isi (d := .none) (by constructor <;> assumption) (by exact (by decide +kernel : kitB "NoneType" "tuple" = some false)) q
  | bl b => exact Dg.isi (d := .bool b) (by constructor <;> assumption) (by exact (by decide +kernel : kitB "bool" "tuple" = some false)) q
  | int i => exact Dg.isi (d := .int i) (by constructor <;> assumption) (by exact (by decide +kernel : kitB "int" "tuple" = some false)) q
  | str x => exact Dg.isi (d := .str x) (by constructor <;> assumption) (by exact (by decide +kernel : kitB "str" "tuple" = some false)) q
  | tup _ _ => exact Dg.isi (d := .tuple _) (by constructor <;> assumption) (by exact (by decide +kernel : kitB "tuple" "tuple" = some true)) q
  | lst _ _ => exact Dg.isi (d := .list _) (by constructor <;> assumption) (by exact (by decide +kernel : kitB "list" "tuple" = some false)) q
  | dct _ => exact Dg.isi (d := .dict []) (by constructor <;> assumption) (by exact (by decide +kernel : kitB "dict" "tuple" = some false)) q
theorem Dg.isLst (h : Dg K H v d) (q : Q (.bl (isLst d)) H) : rIsi K [v, .ty "list"] H Q := by
  cases h with
  | non => exact Dg.isi (d := .none) (by constructor <;> assumption) (by exact (by decide +kernel : kitB "NoneType" "list" = some false)) q
  | bl b => exact Dg.isi (d := .bool b) (by constructor <;> assumption) (by exact (by decide +kernel : kitB "bool" "list" = some false)) q
  | int i => exact Dg.isi (d := .int i) (by constructor <;> assumption) (by exact (by decide +kernel : kitB "int" "list" = some false)) q
  | str x => exact Dg.isi (d := .str x) (by constructor <;> assumption) (by exact (by decide +kernel : kitB "str" "list" = some false)) q
  | tup _ _ => exact Dg.isi (d := .tuple _) (by constructor <;> assumption) (by exact (by decide +kernel : kitB "tuple" "list" = some false)) q
  | lst _ _ => exact Dg.isi (d := .list _) (by constructor <;> assumption) (by exact (by decide +kernel : kitB "list" "list" = some true)) q
  | dct _ => exact Dg.isi (d := .dict []) (by constructor <;> assumption) (by exact (by decide +kernel : kitB "dict" "list" = some false)) q
theorem Dg.isInt (h : Dg K H v d) (q : Q (.bl (isInt d)) H) : rIsi K [v, .ty "int"] H Q := by
  cases h with
  | non => exact Dg.isi (d := .none) (by constructor <;> assumption) (by exact (by decide +kernel : kitB "NoneType" "int" = some false)) q
  | bl b => exact Dg.isi (d := .bool b) (by constructor <;> assumption) (by exact (by decide +kernel : kitB "bool" "int" = some true)) q
  | int i => exact Dg.isi (d := .int i) (by constructor <;> assumption) (by exact (by decide +kernel : kitB "int" "int" = some true)) q
  | str x => exact Dg.isi (d := .str x) (by constructor <;> assumption) (by exact (by decide +kernel : kitB "str" "int" = some false)) q
  | tup _ _ => exact Dg.isi (d := .tuple _) (by constructor <;> assumption) (by exact (by decide +kernel : kitB "tuple" "int" = some false)) q
  | lst _ _ => exact Dg.isi (d := .list _) (by constructor <;> assumption) (by exact (by decide +kernel : kitB "list" "int" = some false)) q
  | dct _ => exact Dg.isi (d := .dict []) (by constructor <;> assumption) (by exact (by decide +kernel : kitB "dict" "int" = some false)) q
theorem Dg.isBool (h : Dg K H v d) (q : Q (.bl (isBool d)) H) : rIsi K [v, .ty "bool"] H Q := by
  cases h with
  | non => exact Dg.isi (d := .none) (by constructor <;> assumption) (by exact (by decide +kernel : kitB "NoneType" "bool" = some false)) q
  | bl b => exact Dg.isi (d := .bool b) (by constructor <;> assumption) (by exact (by decide +kernel : kitB "bool" "bool" = some true)) q
  | int i => exact Dg.isi (d := .int i) (by constructor <;> assumption) (by exact (by decide +kernel : kitB "int" "bool" = some false)) q
  | str x => exact Dg.isi (d := .str x) (by constructor <;> assumption) (by exact (by decide +kernel : kitB "str" "bool" = some false)) q
  | tup _ _ => exact Dg.isi (d := .tuple _) (by constructor <;> assumption) (by exact (by decide +kernel : kitB "tuple" "bool" = some false)) q
  | lst _ _ => exact Dg.isi (d := .list _) (by constructor <;> assumption) (by exact (by decide +kernel : kitB "list" "bool" = some false)) q
  | dct _ => exact Dg.isi (d := .dict []) (by constructor <;> assumption) (by exact (by decide +kernel : kitB "dict" "bool" = some false)) q
theorem Dg.isStr (h : Dg K H v d) (q : Q (.bl (isStr d)) H) : rIsi K [v, .ty "str"] H Q := by
  cases h with
  | non => exact Dg.isi (d := .none) (by constructor <;> assumption) (by exact (by decide +kernel : kitB "NoneType" "str" = some false)) q
  | bl b => exact Dg.isi (d := .bool b) (by constructor <;> assumption) (by exact (by decide +kernel : kitB "bool" "str" = some false)) q
  | int i => exact Dg.isi (d := .int i) (by constructor <;> assumption) (by exact (by decide +kernel : kitB "int" "str" = some false)) q
  | str x => exact Dg.isi (d := .str x) (by constructor <;> assumption) (by exact (by decide +kernel : kitB "str" "str" = some true)) q
  | tup _ _ => exact Dg.isi (d := .tuple _) (by constructor <;> assumption) (by exact (by decide +kernel : kitB "tuple" "str" = some false)) q
  | lst _ _ => exact Dg.isi (d := .list _) (by constructor <;> assumption) (by exact (by decide +kernel : kitB "list" "str" = some false)) q
  | dct _ => exact Dg.isi (d := .dict []) (by constructor <;> assumption) (by exact (by decide +kernel : kitB "dict" "str" = some false)) q
/-- text or no text, against a text -/
def Fine (d : PyData) : Prop := (∃ es, d = .dict es) ∨ SeqAt.shaped d = true
def isStrB (z : Str) : PyData → Bool
  | .str y => decide (y = z)
  | _ => false
theorem Dg.neStr {z : Str} (D : Dg K H v d) (f : Fine d) (oz : PyData.strOk z = true) (q : Q (.bl (!isStrB z d)) H) : rNeU K v (.str z) H Q := by
  rcases f with ⟨es, rfl⟩ | f
  · cases D with
    | dct s => exact w_neDS s q
  · have hl := SeqAt.canLay_of_shaped f
    have sz : SeqAt.shaped (.str z) = true := lay_shaped ⟨oz, Nat.zero_le _⟩
    cases D with
    | str x => exact w_neS q
    | dct s => cases hl
    | non => exact w_neD .non (.str z) f sz q
    | bl b => exact w_neD (.bl b) (.str z) f sz q
    | int i => exact w_neD (.int i) (.str z) f sz q
    | tup s a => exact w_neD (.tup s (DgAll.dp a hl)) (.str z) f sz q
    | lst s a => exact w_neD (.lst s (DgAll.dp a hl)) (.str z) f sz q
theorem Dg.eqStr {z : Str} (D : Dg K H v d) (f : Fine d) (oz : PyData.strOk z = true) (q : Q (.bl (isStrB z d)) H) : rEqU K v (.str z) H Q := by
  rcases f with ⟨es, rfl⟩ | f
  · cases D with
    | dct s => exact w_eqDS s q
  · have hl := SeqAt.canLay_of_shaped f
    have sz : SeqAt.shaped (.str z) = true := lay_shaped ⟨oz, Nat.zero_le _⟩
    cases D with
    | str x => exact w_eqS q
    | dct s => cases hl
    | non => exact w_eqD .non (.str z) f sz q
    | bl b => exact w_eqD (.bl b) (.str z) f sz q
    | int i => exact w_eqD (.int i) (.str z) f sz q
    | tup s a => exact w_eqD (.tup s (DgAll.dp a hl)) (.str z) f sz q
    | lst s a => exact w_eqD (.lst s (DgAll.dp a hl)) (.str z) f sz q
end
/-! ### the heap without t -/
def wo (H : Hp) (t : Addr) : Hp := fun a => if a = t then none else H a
section
variable {K : PySem.W.Frag} {H H' : Hp} {t : Addr}
theorem wo_fr : Fr [] (wo H t) H := fun a o e _ => by
  unfold wo at e
  by_cases h : a = t
  · rw [if_pos h] at e; cases e
  · rw [if_neg h] at e; exact e
theorem Fr.wo (f : Fr [t] H H') : Fr [] (wo H t) (wo H' t) := fun a o e _ => by
  unfold U.wo at *
  by_cases h : a = t
  · rw [if_pos h] at e; cases e
  · rw [if_neg h] at e
    rw [if_neg h]
    exact f a o e (by simpa using h)
theorem wo_upd {p : Addr} {o : HO} (n : p ≠ t) : wo (upd H p o) t = upd (wo H t) p o := by
  funext a
  unfold wo
  by_cases h : a = t
  · subst h
    rw [if_pos rfl, upd_ne n.symm, if_pos rfl]
  · rw [if_neg h]
    by_cases e : a = p
    · subst e
      rw [upd_same, upd_same]
    · rw [upd_ne e, upd_ne e, if_neg h]
theorem wo_at {p : Addr} (n : p ≠ t) : wo H t p = H p := by unfold wo; rw [if_neg n]
theorem wo_tu {xs : List V} (h : H t = some (.lst xs)) : Tu H (wo H t) := fun a ys =>
  ⟨fun e => by rw [wo_at (by rintro rfl; rw [h] at e; cases e)]; exact e, fun o e => by rw [wo_at (by rintro rfl; rw [h] at e; cases e)]; exact e⟩
/-- data away from t -/
def Dx (K : PySem.W.Frag) (H : Hp) (t : Addr) (v : V) (d : PyData) : Prop := Dg K (wo H t) v d
theorem Dx.dg {v : V} {d : PyData} (h : Dx K H t v d) : Dg K H v d := Dg.fr wo_fr h
theorem Dx.fr {v : V} {d : PyData} (h : Dx K H t v d) (f : Fr [t] H H') : Dx K H' t v d := Dg.fr f.wo h
theorem Fr.to1 (f : Fr [] H H') : Fr [t] H H' := f.mono (by simp)
theorem Dx.fr0 {v : V} {d : PyData} (h : Dx K H t v d) (f : Fr [] H H') : Dx K H' t v d := h.fr f.to1
theorem Dt.dx {v : V} {d : PyData} {xs : List V} (ht : H t = some (.lst xs)) (h : Dt K H v d) : Dx K H t v d := (h.mono (wo_tu ht)).dg
def DxAll (K : PySem.W.Frag) (H : Hp) (t : Addr) (vs : List V) (ds : List PyData) : Prop := DgAll K (wo H t) vs ds
theorem DxAll.dg {vs : List V} {ds : List PyData} (h : DxAll K H t vs ds) : DgAll K H vs ds := DgAll.fr wo_fr h
theorem DxAll.fr {vs : List V} {ds : List PyData} (h : DxAll K H t vs ds) (f : Fr [t] H H') : DxAll K H' t vs ds := DgAll.fr f.wo h
theorem mkTx {xs : List V} {ds : List PyData} {Q : VK} (ht : ∃ o, H t = some o) (d : DgAll K (wo H t) xs ds) (q : ∀ p H', H p = none → Fr [] H H' → Dx K H' t (.ref p) (.tuple ds) → Q (.ref p) H') (n : xs.length ≤ 1000 := by exact Nat.le_of_ble_eq_true rfl) : MkT xs Q H :=
  ⟨Nat.le_trans n (by decide), fun p hp => q p _ hp (Fr.new hp) (by
    have np : p ≠ t := by
      rintro rfl
      obtain ⟨o, e⟩ := ht
      rw [hp] at e
      cases e
    unfold Dx
    rw [wo_upd np]
    exact .tup (.inl (.inl upd_same)) (DgAll.fr (Fr.new (by rw [wo_at np]; exact hp)) d))⟩
/-- a list of such, that may change -/
def Lx (K : PySem.W.Frag) (H : Hp) (t q : Addr) (ds : List PyData) : Prop := ∃ vs, H q = some (.lst vs) ∧ q ≠ t ∧ DgAll K (wo H t) vs ds
theorem Lx.fr {q : Addr} {ds : List PyData} (h : Lx K H t q ds) (f : Fr [t] H H') : Lx K H' t q ds := by
  obtain ⟨vs, e, n, a⟩ := h
  exact ⟨vs, f _ _ e (by simpa using n), n, DgAll.fr f.wo a⟩
theorem Lx.fr0 {q : Addr} {ds : List PyData} (h : Lx K H t q ds) (f : Fr [] H H') : Lx K H' t q ds := h.fr f.to1
theorem Lx.dx {q : Addr} {ds : List PyData} (h : Lx K H t q ds) : Dx K H t (.ref q) (.list ds) := by
  obtain ⟨vs, e, n, a⟩ := h
  exact .lst (.inl (.inl (by rw [wo_at n]; exact e))) a
theorem Lq.lx {q : Addr} {ds : List PyData} {xs : List V} (ht : H t = some (.lst xs)) (n : q ≠ t) (h : Lq K H q ds) : Lx K H t q ds := by
  obtain ⟨vs, e, a⟩ := h
  exact ⟨vs, e, n, (a.mono (wo_tu ht)).dg⟩
theorem lx_new {p : Addr} {vs : List V} {ds : List PyData} (ht : ∃ o, H t = some o) (hp : H p = none) (a : DgAll K (wo H t) vs ds) : Lx K (upd H p (.lst vs)) t p ds := by
  have np : p ≠ t := by
    rintro rfl
    obtain ⟨o, e⟩ := ht
    rw [hp] at e
    cases e
  refine ⟨vs, upd_same, np, ?_⟩
  rw [wo_upd np]
  exact DgAll.fr (Fr.new (by rw [wo_at np]; exact hp)) a
theorem mkLx {xs : List V} {ds : List PyData} {Q : VK} (ht : ∃ o, H t = some o) (d : DgAll K (wo H t) xs ds) (q : ∀ p H', H p = none → Fr [] H H' → Lx K H' t p ds → Q (.ref p) H') (n : xs.length ≤ 1000 := by exact Nat.le_of_ble_eq_true rfl) : MkL xs Q H :=
  ⟨Nat.le_trans n (by decide), fun p hp => q p _ hp (Fr.new hp) (lx_new ht hp d)⟩
theorem Lx.len {q : Addr} {ds : List PyData} {Q : VK} (h : Lx K H t q ds) (k : Q (.int ds.length) H) : rLenU K [.ref q] H Q := by
  obtain ⟨vs, e, _, a⟩ := h
  rw [← DgAll.length a] at k
  exact w_lenL (SqL.of e) k
theorem Lx.slice {q : Addr} {ds : List PyData} {lo hi : Option Int} {Q : VK} (ht : ∃ o, H t = some o) (h : Lx K H t q ds) (k : ∀ p H', H p = none → Fr [] H H' → Lx K H' t p (cutA ds lo hi) → Q (.ref p) H') : rSlU K (.ref q) lo hi H Q := by
  obtain ⟨vs, e, _, a⟩ := h
  exact w_slL (SqL.of e) fun p hp => k p _ hp (Fr.new hp) (lx_new ht hp (DgAll.cut a lo hi))
theorem Lx.cat {q r : Addr} {ds es : List PyData} {Q : VK} (ht : ∃ o, H t = some o) (h : Lx K H t q ds) (h' : Lx K H t r es) (n : ds.length + es.length ≤ 100000) (k : ∀ p H', H p = none → Fr [] H H' → Lx K H' t p (ds ++ es) → Q (.ref p) H') : rAddU K (.ref q) (.ref r) H Q := by
  obtain ⟨vs, e, _, a⟩ := h
  obtain ⟨us, e', _, a'⟩ := h'
  exact w_addL e e' (by rw [DgAll.length a, DgAll.length a']; omega) fun p hp => k p _ hp (Fr.new hp) (lx_new ht hp (DgAll.append a a'))
theorem Lx.at {q : Addr} {ds : List PyData} {i : Int} {Q : VK} (h : Lx K H t q ds) (h0 : 0 ≤ i) (h1 : i < ds.length) (k : ∀ v d, Dx K H t v d → ds[i.toNat]? = some d → Q v H) : rIx K (.ref q) (.int i) H Q := by
  obtain ⟨vs, e, _, a⟩ := h
  have ek : i = ((i.toNat : Nat) : Int) := by omega
  have hk : i.toNat < ds.length := by omega
  obtain ⟨v, hv, dv⟩ := DgAll.at a (List.getElem?_eq_getElem hk)
  refine w_ixL (SqL.of e) ?_ (k v _ dv (List.getElem?_eq_getElem hk))
  rw [ek]
  exact atI_nat hv
theorem Lx.list {q : Addr} {ds : List PyData} {Q : VK} (ht : ∃ o, H t = some o) (h : Lx K H t q ds) (k : ∀ p H', H p = none → Fr [] H H' → Lx K H' t p ds → Q (.ref p) H') : rListU K [.ref q] H Q := by
  obtain ⟨vs, e, _, a⟩ := h
  exact w_listL (SqL.of e) fun p hp => k p _ hp (Fr.new hp) (lx_new ht hp a)
/-! tuples -/
theorem sqT_wo {p : Addr} {vs : List V} (s : SqT K (wo H t) p vs) : SqT K H p vs := wo_fr.seqT s (by simp)
theorem Dx.tuple {v : V} {ds : List PyData} (h : Dx K H t v (.tuple ds)) : ∃ p vs, v = .ref p ∧ SqT K H p vs ∧ DgAll K (wo H t) vs ds := by
  obtain ⟨p, vs, e, s, a⟩ := Dg.tuple h
  exact ⟨p, vs, e, sqT_wo s, a⟩
theorem tx_new {p : Addr} {vs : List V} {ds : List PyData} (ht : ∃ o, H t = some o) (hp : H p = none) (a : DgAll K (wo H t) vs ds) : Dx K (upd H p (.tup vs)) t (.ref p) (.tuple ds) := by
  have np : p ≠ t := by
    rintro rfl
    obtain ⟨o, e⟩ := ht
    rw [hp] at e
    cases e
  unfold Dx
  rw [wo_upd np]
  exact .tup (.inl (.inl upd_same)) (DgAll.fr (Fr.new (by rw [wo_at np]; exact hp)) a)
theorem Dx.slice {v : V} {ds : List PyData} {lo hi : Option Int} {Q : VK} (ht : ∃ o, H t = some o) (h : Dx K H t v (.tuple ds)) (q : ∀ p H', Fr [] H H' → Dx K H' t (.ref p) (.tuple (cutA ds lo hi)) → Q (.ref p) H') : rSlU K v lo hi H Q := by
  obtain ⟨p, vs, rfl, s, a⟩ := h.tuple
  refine .inl (.inr ⟨p, vs, rfl, s, fun z => ?_, fun _ p' hp => ?_⟩)
  · rw [DgAll.length a] at z
    refine q p H Fr.refl ?_
    rw [cutA_full z]
    exact h
  · exact q p' _ (Fr.new hp) (tx_new ht hp (DgAll.cut a lo hi))
theorem Dx.cat {v u : V} {ds es : List PyData} {Q : VK} (ht : ∃ o, H t = some o) (h : Dx K H t v (.tuple ds)) (h' : Dx K H t u (.tuple es)) (n : ds.length + es.length ≤ 1000) (q : ∀ p H', Fr [] H H' → Dx K H' t (.ref p) (.tuple (ds ++ es)) → Q (.ref p) H') : rAddU K v u H Q := by
  obtain ⟨p, vs, rfl, s, a⟩ := h.tuple
  obtain ⟨p', us, rfl, s', a'⟩ := h'.tuple
  refine .inr (.inl ⟨p, p', vs, us, rfl, rfl, s, s', Nat.le_trans (show _ ≤ 1000 by rw [DgAll.length a, DgAll.length a']; exact n) (by decide), fun z => ?_, fun _ z => ?_, fun _ _ r hr => ?_⟩)
  · subst z
    cases a
    exact q p' H Fr.refl h'
  · subst z
    cases a'
    refine q p H Fr.refl ?_
    rw [List.append_nil]
    exact h
  · exact q r _ (Fr.new hr) (tx_new ht hr (DgAll.append a a'))
theorem Dx.ix {v : V} {ds : List PyData} {i : Int} {Q : VK} (h : Dx K H t v (.tuple ds)) (h0 : 0 ≤ i) (h1 : i < ds.length) (k : ∀ u d, Dx K H t u d → ds[i.toNat]? = some d → Q u H) : rIx K v (.int i) H Q := by
  obtain ⟨p, vs, rfl, s, a⟩ := h.tuple
  have ek : i = ((i.toNat : Nat) : Int) := by omega
  have hk : i.toNat < ds.length := by omega
  obtain ⟨u, hu, du⟩ := DgAll.at a (List.getElem?_eq_getElem hk)
  refine w_ixT s ?_ (k u _ du (List.getElem?_eq_getElem hk))
  rw [ek]
  exact atI_nat hu
theorem Dx.len {v : V} {ds : List PyData} {Q : VK} (h : Dx K H t v (.tuple ds)) (k : Q (.int ds.length) H) : rLenU K [v] H Q := by
  obtain ⟨p, vs, rfl, s, a⟩ := h.tuple
  rw [← DgAll.length a] at k
  exact w_lenT s k
theorem Dx.list {v : V} {ds : List PyData} {Q : VK} (ht : ∃ o, H t = some o) (h : Dx K H t v (.tuple ds)) (k : ∀ p H', H p = none → Fr [] H H' → Lx K H' t p ds → Q (.ref p) H') : rListU K [v] H Q := by
  obtain ⟨p, vs, rfl, s, a⟩ := h.tuple
  exact w_listT s fun p hp => k p _ hp (Fr.new hp) (lx_new ht hp a)
theorem Lx.tuple' {q : Addr} {ds : List PyData} {Q : VK} (ht : ∃ o, H t = some o) (h : Lx K H t q ds) (k : ∀ p H', Fr [] H H' → Dx K H' t (.ref p) (.tuple ds) → Q (.ref p) H') : rTupleU K [.ref q] H Q := by
  obtain ⟨vs, e, _, a⟩ := h
  exact w_tupleL (SqL.of e) fun p hp => k p _ (Fr.new hp) (tx_new ht hp a)
end
/-- an empty dict away from t -/
theorem dx_dict {K : PySem.W.Frag} {H : Hp} {t p : Addr} {kvs : List (Key × V)} {es : List (PyData × PyData)} (h : H p = some (.dK kvs)) (n : p ≠ t) : Dx K H t (.ref p) (.dict es) := .dct (by rw [wo_at n]; exact h)
/-! ### str of a truth, lists of other lengths -/
section
variable {X : Cx}
def rStrU : List V → Hp → VK → Prop := fun xs H Q => (∃ i, xs = [.int i] ∧ i.natAbs.log2 < 1920 ∧ Q (.str (toString i)) H) ∨ ∃ b : Bool, xs = [.bl b] ∧ Q (.str (if b then "True" else "False")) H
theorem call_str_bl : CallR X (.type "str") (fun xs H Q => ∃ b : Bool, xs = [.bl b] ∧ Q (.str (if b then "True" else "False")) H) := by
  intro pins s σ H xs us Q I rx h
  obtain ⟨b, rfl, q⟩ := h
  cases rx with
  | cons r t =>
  cases t
  cases r
  exact P.str_of_bool ⟨.str (if b then "True" else "False"), H, I.tok _, ⟨_, rfl⟩, q⟩
theorem call_strU : CallR X (.type "str") rStrU := call_str_int.or call_str_bl
def rNeLen : R2 := fun x y H Q => ∃ l m xs ys, x = .ref l ∧ y = .ref m ∧ H l = some (.lst xs) ∧ H m = some (.lst ys) ∧ xs.length ≠ ys.length ∧ Q (.bl true) H
theorem op_neLen (hu : X.A.units + 64 < cLine) : OpR X (compareOp .NotEq) rNeLen := by
  intro pins s σ H x y v u Q I rx ry h
  obtain ⟨l, m, xs, ys, rfl, rfl, hl, hm, n, q⟩ := h
  cases rx
  cases ry
  obtain ⟨_, its, c, v1, g1⟩ := I.hok l _ hl
  obtain ⟨_, its2, c2, v2, g2⟩ := I.hok m _ hm
  refine SeqAt.RcNeAt.lists_lengths ⟨_, g1, rfl, _, rfl⟩ ⟨_, g2, rfl, _, rfl⟩ ?_ (by omega) _ _ _ _ ⟨.bl true, H, I, rfl, q⟩
  rw [List.size_toArray, List.size_toArray, ← Paired.len v1, ← Paired.len v2]
  simpa using n
def rNeUL (K : PySem.W.Frag) : R2 := r2or (rNeU K) rNeLen
theorem op_neUL {K} (hK : X.K = K) (hu : X.A.units + 64 < cLine) : OpR X (compareOp .NotEq) (rNeUL K) := (op_neU hK hu).or (op_neLen hu)
end
/-! ### comprehensions of truths over any data -/
section
variable {K : PySem.W.Frag}
theorem LCB {q : Addr} {H : Hp} {vs : List V} {ds : List PyData} {j : Nat} {ws : List Nat} {σ : L2.St} {te : TE} {Q : VK} (s : SqL K H q vs) (a : DgAll K H vs ds) (ld : ds.length ≤ 100000) (f : PyData → Bool)
    (hw : ∀ x, wipe ((wipe σ ws).set j (some x)) ws = wipe σ ws)
    (he : ∀ d x H', d ∈ ds → Fr [] H H' → Dg K H' x d → ∀ Q : VK, (∀ H2, Fr [] H' H2 → Q (.bl (f d)) H2) → te ((wipe σ ws).set j (some x)) H' Q)
    (k : ∀ D H', H D = none → Fr [] H H' → Lq K H' D ((ds.map f).map PyData.bool) → Q (.ref D) H') :
    ∃ a', V.ref q = .ref a' ∧ (∃ ys, SqL K H a' ys) ∧ ∀ D, H D = none → LC (Itl K a') (gName j) tYes te ws σ D Q (upd H D (.lst [])) := by
  have lu := DgAll.length a
  refine LC_L s fun D hD => LC_by (a := q) (xs := vs) (fun i H' => Fr [] H H' ∧ Lq K H' D (((ds.take i).map f).map PyData.bool)) ⟨Fr.new hD, [], upd_same, .nil⟩ (fun i H' _ h => h.1.seqL s (by simp)) ?_ ?_
  · rintro i x H' hx ⟨f', ys, hys, dys⟩
    obtain ⟨d, h1, h2⟩ := DgAll.get (a.fr f') hx
    have hi : i < vs.length := (List.getElem?_eq_some_iff.mp hx).1
    have ly : ys.length ≤ i := by
      rw [dys.length, List.length_map, List.length_map, List.length_take]
      omega
    refine ⟨hw x, w_yes (iteT ?_)⟩
    refine he d x H' (List.mem_of_getElem? h1) f' h2 _ fun H2 f2 => ?_
    have e3 := f2 _ _ hys (by simp)
    refine ⟨ys, e3, Nat.lt_of_le_of_lt (show ys.length ≤ 100000 by omega) (by decide), Fr.new_mut hD ((f'.trans f2).mono (by simp) |>.trans (Fr.mut (by simp))), _, upd_same, ?_⟩
    rw [List.take_add_one, h1, List.map_append, List.map_append]
    exact ((dys.mono f2.tu).append (.cons (.bl _) .nil)).mono (Tu.mut e3)
  · rintro H' ⟨f', L⟩
    rw [lu, List.take_length] at L
    exact k D H' hD f' L
theorem LCBT {q : Addr} {H : Hp} {vs : List V} {ds : List PyData} {j : Nat} {ws : List Nat} {σ : L2.St} {te : TE} {Q : VK} (s : SqT K H q vs) (a : DgAll K H vs ds) (ld : ds.length ≤ 100000) (f : PyData → Bool)
    (hw : ∀ x, wipe ((wipe σ ws).set j (some x)) ws = wipe σ ws)
    (he : ∀ d x H', d ∈ ds → Fr [] H H' → Dg K H' x d → ∀ Q : VK, (∀ H2, Fr [] H' H2 → Q (.bl (f d)) H2) → te ((wipe σ ws).set j (some x)) H' Q)
    (k : ∀ D H', H D = none → Fr [] H H' → Lq K H' D ((ds.map f).map PyData.bool) → Q (.ref D) H') :
    ∃ a', V.ref q = .ref a' ∧ (∃ ys, SqT K H a' ys) ∧ ∀ D, H D = none → LC (Itt K a') (gName j) tYes te ws σ D Q (upd H D (.lst [])) := by
  have lu := DgAll.length a
  refine LC_T s fun D hD => ?_
  refine lc_it (walk_tup (K := K) (a := q) (xs := vs)) (fun i H' => Fr [] H H' ∧ Lq K H' D (((ds.take i).map f).map PyData.bool)) ⟨Fr.new hD, [], upd_same, .nil⟩ (fun i H' _ h => h.1.seqT s (by simp)) ?_ ?_
  · rintro i x H0' H' hi ⟨f', ys, hys, dys⟩ ⟨rfl, hx⟩
    obtain ⟨d, h1, h2⟩ := DgAll.get (a.fr f') hx
    have ly : ys.length ≤ i := by
      rw [dys.length, List.length_map, List.length_map, List.length_take]
      omega
    refine ⟨hw x, w_yes (iteT ?_)⟩
    refine he d x _ (List.mem_of_getElem? h1) f' h2 _ fun H2 f2 => ?_
    have e3 := f2 _ _ hys (by simp)
    refine ⟨ys, e3, Nat.lt_of_le_of_lt (show ys.length ≤ 100000 by omega) (by decide), Fr.new_mut hD ((f'.trans f2).mono (by simp) |>.trans (Fr.mut (by simp))), _, upd_same, ?_⟩
    rw [List.take_add_one, h1, List.map_append, List.map_append]
    exact ((dys.mono f2.tu).append (.cons (.bl _) .nil)).mono (Tu.mut e3)
  · rintro H' ⟨f', L⟩
    rw [lu, List.take_length] at L
    exact k D H' hD f' L
end
end U

/-! sorted(a dict), sorted(its items), sorted(a list), of data -/
namespace U
open PySem PySem.Spec PyProof.Rows L2
mutual
/-- tuples all the way down -/
def kdb : PyData → Bool
  | .none => true
  | .bool _ => true
  | .int _ => true
  | .str _ => true
  | .tuple ds => kdbAll ds
  | _ => false
def kdbAll : List PyData → Bool
  | [] => true
  | d :: r => kdb d && kdbAll r
end
mutual
theorem Dt.kdb {K : PySem.W.Frag} {H : Hp} : ∀ {v : V} {d : PyData}, Dt K H v d → U.kdb d = true
  | _, _, .non => rfl
  | _, _, .bl _ => rfl
  | _, _, .int _ => rfl
  | _, _, .str _ => rfl
  | _, _, .tup _ a => by rw [U.kdb]; exact DtAll.kdb a
theorem DtAll.kdb {K : PySem.W.Frag} {H : Hp} : ∀ {vs : List V} {ds : List PyData}, DtAll K H vs ds → kdbAll ds = true
  | _, _, .nil => rfl
  | _, _, .cons a b => by rw [kdbAll, Dt.kdb a, DtAll.kdb b]; rfl
end
mutual
theorem reads_nil {h : Heap} : ∀ {u : Value} {d : PyData} {as : List Addr}, Reads h u d as → kdb d = true → as = []
  | _, _, _, .none, _ => rfl
  | _, _, _, .bool b, _ => rfl
  | _, _, _, .int i t, _ => rfl
  | _, _, _, .str x t, _ => rfl
  | _, _, _, .list _ _ _ _, k => by simp [kdb] at k
  | _, _, _, .tuple g c e a, k => readsAll_nil a (by simpa [kdb] using k)
  | _, _, _, .dict _ _ _ _ _, k => by simp [kdb] at k
theorem readsAll_nil {h : Heap} : ∀ {us : List Value} {ds : List PyData} {as : List Addr}, ReadsAll h us ds as → kdbAll ds = true → as = []
  | _, _, _, .nil, _ => rfl
  | _, _, _, .cons a b, k => by
    simp only [kdbAll, Bool.and_eq_true] at k
    rw [reads_nil a k.1, readsAll_nil b k.2]
    rfl
end
theorem each_of {α β : Type} {F : α → β → Prop} : ∀ {xs : List α} {ys : List β}, Paired F xs ys → PySem.W.EachIs F xs ys
  | _, _, .nil => .nil
  | _, _, .cons a b => .cons a (each_of b)
theorem of_each {α β : Type} {F : α → β → Prop} : ∀ {xs : List α} {ys : List β}, PySem.W.EachIs F xs ys → Paired F xs ys
  | _, _, .nil => .nil
  | _, _, .cons a b => .cons a (of_each b)
/-- a value in the heap and its data -/
def IsD (K : PySem.W.Frag) (H : Hp) {β : Type} (enc : β → PyData) (u : Value) (b : β) : Prop := ∃ v, RelV v u ∧ Dt K H v (enc b)
theorem vals_of {K : PySem.W.Frag} {H : Hp} {β : Type} {enc : β → PyData} : ∀ {us : List Value} {bs : List β}, Paired (IsD K H enc) us bs → ∃ ys, Vals ys us ∧ DtAll K H ys (bs.map enc)
  | _, _, .nil => ⟨[], .nil, .nil⟩
  | _, _, .cons ⟨v, r, d⟩ b => by
    obtain ⟨ys, h1, h2⟩ := vals_of b
    exact ⟨v :: ys, .cons r h1, .cons d h2⟩
section
variable {X : Cx} {pins : List (Addr × Obj)} {σ : L2.St} {H : Hp} {s : Shared}
theorem get_lt {h : Heap} {b : Addr} {o : Obj} (e : h.get? b = some o) : b < h.objs.size := by
  by_cases n : b < h.objs.size
  · exact n
  · exfalso
    unfold Heap.get? at e
    rw [Array.getElem?_eq_none (Nat.le_of_not_lt n)] at e
    cases e
/-- the sort of a list that was just made, all that stood stands -/
theorem sort_new {β : Type} {bs : List β} {enc : β → PyData} {us : List Value} {h' : Heap} {tk : Nat} {A : Around} {Q : Value → Shared → Prop} {E : Value → Shared → Prop} (I : Inv X pins σ H s)
    (old : ∀ (b : Addr) (o : Obj), s.heap.get? b = some o → h'.get? b = some o) (grow : s.heap.objs.size ≤ h'.objs.size)
    (h : Paired (IsD X.K H enc) us bs) (al : PySem.W.AllAlike (bs.map enc)) (so : PySem.W.Sortable (bs.map enc)) (n : bs.length ≤ 100000)
    (hu : A.units + 65 < cLine) (dp : ∀ b ∈ bs, (enc b).depth ≤ 10)
    (q : ∀ (p : Addr) (s' : Shared) (H' : Hp), H p = none → Fr [] H H' → Inv X pins σ H' s' → Lq X.K H' p ((bs.mergeSort (PySem.W.dataLe false enc)).map enc) → Q (.ref p) s') :
    wpAny (model X.prog X.w) A (call (.builtin "list.sort") [.ref h'.objs.size]) (fun _ s' => Q (.ref h'.objs.size) s') E { s with heap := h'.push { cls := .type "list", data := .seq us.toArray }, toks := tk } := by
  have hg : (h'.push { cls := .type "list", data := .seq us.toArray }).get? h'.objs.size = some (seqObj "list" us.toArray 0) := Heap.get?_push_size _ rfl
  have hp : H h'.objs.size = none := HOk.fresh I.hok grow
  have lsz : ∀ (b : Addr) (o : Obj), s.heap.get? b = some o → b ≠ h'.objs.size ∧ b < (h'.push { cls := Value.type "list", data := .seq us.toArray }).objs.size := fun b o hb => by
    have := get_lt (old b o hb)
    refine ⟨Nat.ne_of_lt this, ?_⟩
    show b < (h'.objs.push _).size
    rw [Array.size_push]
    exact Nat.lt_succ_of_lt this
  obtain ⟨xs, vx, dx⟩ := vals_of h
  have lx : xs.length = bs.length := by
    rw [Paired.len vx, Paired.len h]
  have I1 : Inv X pins σ (upd H h'.objs.size (.lst xs)) { s with heap := h'.push { cls := .type "list", data := .seq us.toArray }, toks := tk } := I.laid (fun b o hb => by
    rw [Heap.get?_push_ne _ _ _ (lsz b o hb).1]
    exact old b o hb) grow ⟨by rw [lx]; exact Nat.le_trans n (by decide), us, 0, vx, hg⟩
  refine PySem.W.list_sort_data (n := 0) (R := IsD X.K H enc) (bs := bs) (enc := enc) (vs := us) hg (each_of h) (each_of (Paired.imp (fun u b z => ?_) h)) al so (Nat.le_trans n (by decide)) (fun b hb => by have := dp b hb; omega) fun out lo eo => ?_
  · obtain ⟨v, rv, d⟩ := z
    obtain ⟨as, r⟩ := Dp.reads I1 (enc b) v u (d.mono (Tu.new hp)).dp rv
    exact ⟨as, r, by rw [reads_nil r d.kdb]; simp⟩
  · obtain ⟨ys, vy, dy⟩ := vals_of (of_each eo)
    obtain ⟨e, he⟩ := sortedHeap_at (out := out.toArray) hg
    refine q h'.objs.size _ (upd H h'.objs.size (.lst ys)) hp (Fr.new hp) (I.laid (fun b o hb => ?_) grow ⟨?_, out, e, vy, he⟩) ⟨ys, upd_same, dy.mono (Tu.new hp)⟩
    · obtain ⟨n1, n2⟩ := lsz b o hb
      rw [sortedHeap_old n1 n2, Heap.get?_push_ne _ _ _ n1]
      exact old b o hb
    · have : ys.length = out.length := Paired.len vy
      rw [this, lo]
      exact Nat.le_trans n (by decide)
end
section
variable {α : Type} [DecidableEq α] {X : Cx} {P : Program} {w : World} {K : PySem.W.Frag} {dS : α → PyData}
/-- data in a row that can be sorted: tuples, none of them empty, alike place by place -/
def Sorty (ds : List PyData) : Prop := PySem.W.AllAlike ds ∧ PySem.W.Sortable ds
def rSortKN (P : Program) (w : World) (K : PySem.W.Frag) (dS : α → PyData) : List V → Hp → VK → Prop := fun xs H Q => ∃ (d : Addr) (kvs : List (α × V)), xs = [.ref d] ∧ DN P w K dS H d kvs ∧ kvs.length ≤ 100000 ∧ Sorty ((kvs.map (·.1)).map dS) ∧
  ∀ p H', H p = none → Fr [] H H' → Lq K H' p (((kvs.map (·.1)).mergeSort (PySem.W.dataLe false dS)).map dS) → Q (.ref p) H'
theorem Paired.flip {α β : Type} {F : α → β → Prop} : ∀ {xs : List α} {ys : List β}, Paired F xs ys → Paired (fun y x => F x y) ys xs
  | _, _, .nil => .nil
  | _, _, .cons a b => .cons a (Paired.flip b)
theorem paired_at {α β : Type} {F : α → β → Prop} : ∀ {xs : List α} {ys : List β}, xs.length = ys.length → (∀ (i : Nat) (x : α) (y : β), xs[i]? = some x → ys[i]? = some y → F x y) → Paired F xs ys
  | [], [], _, _ => .nil
  | [], _ :: _, h, _ => by simp at h
  | _ :: _, [], h, _ => by simp at h
  | x :: xs, y :: ys, h, k => .cons (k 0 x y rfl rfl) (paired_at (by simpa using h) fun i a b ha hb => k (i + 1) a b (by simpa using ha) (by simpa using hb))
theorem Paired.at {α β : Type} {F : α → β → Prop} : ∀ {xs : List α} {ys : List β}, Paired F xs ys → ∀ {i : Nat} {x : α}, xs[i]? = some x → ∃ y, ys[i]? = some y ∧ F x y
  | _, _, h, i, x, hx => Paired.get (Paired.flip h) hx
theorem call_sortedKN (D : KeyD dS) (hc : X.calm = true) (hu : X.A.units + 70 < cLine) : CallR X (.builtin "sorted") (rSortKN X.prog X.w X.K dS) := by
  intro pins s σ H xs us Q I rx h
  obtain ⟨d, kvs, rfl, hd, n, so, q⟩ := h
  cases rx with
  | cons r t =>
  cases t
  cases r
  obtain ⟨ks, ⟨o, es, ep, ho, hex, hda, hl, hi, hn⟩, pr, ns, m⟩ := hd.heap D I
  have sz : es.size = kvs.length := by rw [← Array.length_toList, hl, List.length_map, Paired.len pr]
  refine Calls.call_function_entry kind_sorted plain_sorted entry_sorted (args_sorted1 _) ?_
  show wpAny _ _ (do
    let vs ← collect (.ref d)
    let l ← newList vs
    let _ ← holding [l] (call (.builtin "list.sort") [l] [])
    ret l) _ _ _
  refine wpAny_bind (PySem.W.kdu_collect (KdlSrc.rawDict (prog := X.prog) (w := X.w) (es := es) (ep := ep) ns) (I.ok.hd hc) ⟨o, ho, hex, hda⟩ (by rw [sz]; exact Nat.le_trans n (by decide)) fun h' tk acc old its => ?_)
  have la : acc.size = kvs.length := its.1.trans sz
  have hk : Paired (IsD X.K H dS) acc.toList (kvs.map (·.1)) := by
    refine paired_at (by rw [Array.length_toList, List.length_map, la]) fun i x y hx hy => ?_
    rw [Array.getElem?_toList] at hx
    obtain ⟨hi', rfl⟩ := its.2 i x hx
    rw [List.getElem?_map] at hy
    cases ek : kvs[i]? with
    | none => rw [ek] at hy; cases hy
    | some kv =>
      rw [ek] at hy
      cases hy
      obtain ⟨e, he, rk⟩ := Paired.at pr ek
      have h3 : es.toList[i]? = some (entryOfKey (nestedKind X.prog X.w) e) := by rw [hl, List.getElem?_map, he]; rfl
      rw [Array.getElem?_toList, Array.getElem?_eq_getElem hi'] at h3
      rw [Option.some.inj h3]
      exact ⟨.ref e.2.1, rfl, rk.1⟩
  have I2 := I.turnedL (ch := []) (t' := tk) (fun b o _ hb => old b o hb) (fun b hb => by simp at hb)
  refine wpAny_bind (wpAny_newList ?_ (by rw [Array.length_toList, la]; exact Nat.le_trans n (by decide)))
  refine wpAny_bind (wpAny_holding ?_)
  have hu' : X.A.in1.units + 65 < cLine := by
    show X.A.units + 1 + 65 < cLine
    omega
  refine sort_new (bs := kvs.map (·.1)) (enc := dS) (us := acc.toList) (Q := fun v s' => wpAny (model X.prog X.w) X.A.in1 (ret v) _ _ s') I2 (fun _ _ z => z) (Nat.le_refl _) hk so.1 so.2 (by rw [List.length_map]; exact n) hu' (fun b _ => Nat.le_trans (D.dp b) (by decide)) fun p s' H' np f' I' L' => ?_
  exact wpAny_of_eq rfl ⟨_, rfl, .ref p, H', I', rfl, q p H' np f' L'⟩
theorem call_sortedKNU (D : KeyD dS) (hP : X.prog = P) (hw : X.w = w) (hK : X.K = K) (hc : X.calm = true) (hu : X.A.units + 70 < cLine) : CallR X (.builtin "sorted") (rSortKN P w K dS) := by subst hP hw hK; exact call_sortedKN D hc hu
/-- sorted(a list of data) -/
def rSortL (K : PySem.W.Frag) : List V → Hp → VK → Prop := fun xs H Q => ∃ (l : Addr) (ds : List PyData), xs = [.ref l] ∧ Lq K H l ds ∧ ds.length ≤ 100000 ∧ Sorty ds ∧ (∀ d ∈ ds, d.depth ≤ 10) ∧
  ∀ p H', H p = none → Fr [] H H' → Lq K H' p (ds.mergeSort (PySem.W.dataLe false id)) → Q (.ref p) H'
/-- d.get(k, x) -/
def rGetN (P : Program) (w : World) (K : PySem.W.Frag) (dS : α → PyData) : V → List V → Hp → VK → Prop := fun x vs H Q => ∃ (d a : Addr) (kvs : List (α × V)) (k : α) (z : V), x = .ref d ∧ vs = [.ref a, z] ∧ DN P w K dS H d kvs ∧ Dt K H (.ref a) (dS k) ∧ Q ((atN kvs k).getD z) H
theorem mt_getN (D : KeyD dS) (hu : X.A.units + 65 < cLine) : MtR X "dict.get" (rGetN X.prog X.w X.K dS) := by
  intro pins s σ H x vs v us Q I rx rvs h
  obtain ⟨d, a, kvs, k, z, rfl, rfl, hd, hk, q⟩ := h
  cases rx
  cases rvs with
  | cons ra rvs =>
  cases rvs with
  | cons rz rvs =>
  cases rvs
  cases ra
  obtain ⟨xs, hD, pr, ns, m⟩ := hd.heap D I
  obtain ⟨o, es, ep, ho, hex, _⟩ := id hD
  refine call_meetsIn F.slot_dict_get ⟨o, ho, hex.1⟩ F.entry_dict_get (F.args_dict_get_3 _ _ _) (meetsH_dict_get_default (nestedKind X.prog X.w) d a ns _) ?_
  refine ⟨roomN hu, U.nk (dS k), xs, D.is I hk, hD, ?_⟩
  rcases at_paired D k pr with ⟨e, f⟩ | ⟨v', p, u, e, f, r⟩
  · rw [f]
    rw [e] at q
    exact ⟨z, H, I.tok _, rz, q⟩
  · rw [f]
    rw [e] at q
    exact ⟨v', H, I.tok _, r, q⟩
theorem mt_getNU (D : KeyD dS) (hP : X.prog = P) (hw : X.w = w) (hK : X.K = K) (hu : X.A.units + 65 < cLine) : MtR X "dict.get" (rGetN P w K dS) := by subst hP hw hK; exact mt_getN D hu
theorem w_getN {H : Hp} {Q : VK} {a d : Addr} {kvs : List (α × V)} {k : α} {z : V} (hd : DN P w K dS H d kvs) (hk : Dt K H (.ref a) (dS k)) (q : Q ((atN kvs k).getD z) H) : rGetN P w K dS (.ref d) [.ref a, z] H Q := ⟨d, a, kvs, k, z, rfl, rfl, hd, hk, q⟩
end
theorem u1 {A : Around} {k : Nat} (hr : Room k A) : A.units + 1 < cLine := by have := hr.un; omega
theorem w_dget {σ : L2.St} {H : Hp} {td ty : TE} {Q : VK} (q : td σ H fun x H1 => ty σ H1 fun y H2 => ∃ a v, x = V.ref a ∧ DGet H2 a y (some v) ∧ Q v H2) : tDGet td ty σ H Q := q
theorem pi_zipU {X : Cx} {K} {e e2 : Expr} {ta : TA} {p pos tpos : Pos} {elts : List Expr} {kk : Nat} (hK : X.K = K) (hg : Gl X "zip") (hm : X.mg "zip" = none) (ha : PA X [e, e2] ta)
    (h1 : starEach [e, e2] X.env = (false, eval e X.env) :: starEach [e2] X.env := by rfl) (h2 : ((backTo pos (starEach [e2] X.env)).any fun x => x.1) = false := by rfl) :
    PI X (.Tuple elts kk tpos) (.Call (.Name "zip" p) [e, e2] [] pos) (iZip K ta) := by subst hK; exact pi_zip hg hm ha h1 h2
theorem w_iZip {K} {σ : L2.St} {H : Hp} {ta : TA} {R : It → Hp → Prop} (q : ta σ H fun vs H1 => ∃ a b xs ys, vs = [V.ref a, V.ref b] ∧ SqL K H1 a xs ∧ SqL K H1 b ys ∧ R (Itz K a b) H1) : iZip K ta σ H R := q
end U

/-! dicts keyed by nested tuples: setdefault, walks over keys and values -/
namespace U
open PySem PySem.Spec PyProof.Rows L2
section
variable {α : Type} [DecidableEq α] {X : Cx} {P : Program} {w : World} {K : PySem.W.Frag} {dS : α → PyData}
def rSetdN (P : Program) (w : World) (K : PySem.W.Frag) (dS : α → PyData) : V → List V → Hp → VK → Prop := fun x vs H Q => ∃ (d a : Addr) (kvs : List (α × V)) (k : α) (y : V), x = .ref d ∧ vs = [.ref a, y] ∧ DN P w K dS H d kvs ∧ Dt K H (.ref a) (dS k) ∧ kvs.length ≤ 100000 ∧
  (∀ v, atN kvs k = some v → Q v H) ∧ (atN kvs k = none → ∀ H', Fr [d] H H' → Tu H H' → DN P w K dS H' d (putN kvs k y) → Q y H')
theorem mt_setdN (D : KeyD dS) (hu : X.A.units + 65 < cLine) : MtR X "dict.setdefault" (rSetdN X.prog X.w X.K dS) := by
  intro pins s σ H x vs v us Q I rx rvs h
  obtain ⟨d, a, kvs, k, y, rfl, rfl, hd, hk, n, q1, q2⟩ := h
  cases rx
  obtain ⟨_, u, ra, ry, rfl⟩ : ∃ u u', RelV (.ref a) u ∧ RelV y u' ∧ us = [u, u'] := by
    cases rvs with
    | cons r t =>
      cases t with
      | cons r2 t2 =>
        cases t2
        exact ⟨_, _, r, r2, rfl⟩
  cases ra
  obtain ⟨xs, hD, pr, ns, m⟩ := hd.heap D I
  obtain ⟨o, es, ep, ho, hex, _⟩ := id hD
  refine call_meetsIn F.slot_dict_setdefault ⟨o, ho, hex.1⟩ F.entry_dict_setdefault (F.args_dict_setdefault_3 _ _ _) (meetsH_dict_setdefault (nestedKind X.prog X.w) d a ns u) ?_
  refine ⟨roomN hu, nk (dS k), xs, D.is I hk, hD, by rw [← Paired.len pr]; exact Nat.le_trans n (by decide), fun p hp => ?_, fun hn h' hD' sb => ?_⟩
  · rcases at_paired D k pr with ⟨e, f⟩ | ⟨v', p', u', e, f, r⟩
    · rw [f] at hp; cases hp
    · rw [f] at hp
      cases hp
      exact ⟨v', H, I.tok _, r, q1 v' e⟩
  · rcases at_paired D k pr with ⟨e, f⟩ | ⟨v', p', u', e, f, r⟩
    · obtain ⟨H', I', f', t, d'⟩ := DN.write I hd ns m hD' sb (put_paired D hk ry pr)
      exact ⟨y, H', I', ry, q2 e H' f' t d'⟩
    · rw [f] at hn; cases hn
theorem mt_setdNU (D : KeyD dS) (hP : X.prog = P) (hw : X.w = w) (hK : X.K = K) (hu : X.A.units + 65 < cLine) : MtR X "dict.setdefault" (rSetdN P w K dS) := by subst hP hw hK; exact mt_setdN D hu
theorem w_setdN {H : Hp} {Q : VK} {a d : Addr} {kvs : List (α × V)} {k : α} {y : V} (hd : DN P w K dS H d kvs) (hk : Dt K H (.ref a) (dS k)) (n : kvs.length ≤ 100000) (q1 : ∀ v, atN kvs k = some v → Q v H) (q2 : atN kvs k = none → ∀ H', Fr [d] H H' → Tu H H' → DN P w K dS H' d (putN kvs k y) → Q y H') : rSetdN P w K dS (.ref d) [.ref a, y] H Q := ⟨d, a, kvs, k, y, rfl, rfl, hd, hk, n, q1, q2⟩
/-! ### values -/
def valsO (p d : Addr) : HO := .ext fun h => h.IsValuesView p d
theorem valsO_ok {H : Hp} {h : Heap} {p d : Addr} (e : h.get? p = some { cls := .type "dict_values", data := .fields #[.ref d] }) : ObjOk P w H h p (valsO p d) :=
  ⟨⟨_, e, rfl, rfl⟩, ⟨_, e⟩, fun h1 h2 x k => let ⟨o, ho, r⟩ := x; ⟨o, k o ho, r⟩⟩
def rValsN (P : Program) (w : World) (K : PySem.W.Frag) (dS : α → PyData) : V → List V → Hp → VK → Prop := fun x vs H Q => ∃ (d : Addr) (kvs : List (α × V)), x = .ref d ∧ vs = [] ∧ DN P w K dS H d kvs ∧ ∀ p, H p = none → Q (.ref p) (upd H p (valsO p d))
theorem mt_valsN (D : KeyD dS) : MtR X "dict.values" (rValsN X.prog X.w X.K dS) := by
  intro pins s σ H x vs v us Q I rx rvs h
  obtain ⟨d, kvs, rfl, rfl, hd, q⟩ := h
  cases rx
  cases rvs
  obtain ⟨xs, ⟨o, es, ep, ho, hex, hda, _⟩, _, ns, _⟩ := hd.heap D I
  refine call_meetsIn F.slot_dict_values ⟨o, ho, hex.1⟩ F.entry_dict_values (F.args_dict_values_1 _) (meets_dict_values_raw d ns) ⟨⟨es, ep, o, ho, hex, hda⟩, ?_⟩
  have hp := I.fresh
  have hg : Heap.get? (Heap.push s.heap { cls := Value.type "dict_values", data := Data.fields #[Value.ref d] }) s.heap.objs.size = some { cls := Value.type "dict_values", data := Data.fields #[Value.ref d] } := Heap.get?_push_size _ rfl
  refine ⟨.ref _, _, I.laid (a := s.heap.objs.size) (o := valsO s.heap.objs.size d) (fun b u hb => ?_) (Nat.le_refl _) (valsO_ok hg), rfl, q _ hp⟩
  rw [Heap.get?_push_ne]
  · exact hb
  · rintro rfl
    exact get_size hb
/-- the turns over its values -/
def ItV (d : Addr) (o : Obj) (vs : List V) : It where
  go i H := H d = some (atO d o) ∧ i < vs.length
  yld i H x H' := H' = H ∧ vs[i]? = some x
  stop i H := H d = some (atO d o) ∧ i = vs.length
theorem turn_valsN {tg : Expr} {d it : Addr} {o : Obj} {es : Array DictEntry} {ep : Nat} {vs : List V} (hex : o.ExactDict) (hda : o.data = .dict es ep) (hk : Paired (fun (v : V) (e : DictEntry) => RelV v e.val) vs es.toList) :
    Turn P w K tg (ItV d o vs) [it] it fun i h => h.IsValIter it d i es.size ep where
  mem := by simp
  obj := fun i h st b hb => by
    have e : b = it := by simpa using hb
    subst e
    obtain ⟨oi, e, c, dd⟩ := st
    exact ⟨oi, e, fun v z => by rw [dd] at z; cases z⟩
  keep := fun i h h' st k => st.at fun oi e => k it (by simp) oi e
  item := by
    rintro X rfl rfl rfl hc i pins s σ H E I hf st ⟨hd, hi⟩
    obtain ⟨ho, _⟩ := I.hok d _ hd
    obtain ⟨f0, f1, f2, f3, f4, f5⟩ := hf it (by simp)
    have raw : Heap.DictRaw s.heap d es ep := ⟨o, ho, hex, hda⟩
    have sz : vs.length = es.size := by rw [Paired.len hk, Array.length_toList]
    have hi2 : i < es.size := by omega
    obtain ⟨v, hv, rv⟩ := Paired.get hk (i := i) (y := es[i]) (by rw [Array.getElem?_toList, Array.getElem?_eq_getElem hi2])
    refine wpAny_pyNext_values_item_raw st raw hi2 fun h' st' sb => ?_
    have I1 : Inv X pins σ H { s with heap := h' } := I.turned (t' := s.toks) (fun b ob hb e => (sb.2 b hb).trans e) f0 f1 f3 f4 f5
    obtain ⟨oi, e, c, dd⟩ := id st'
    exact ⟨es[i].val, rfl, go_of (s := { s with heap := h' }) e c dd (by decide) ⟨v, H, I1, rv, ⟨rfl, hv⟩, st', fun b hb => (hf b hb).1⟩⟩
  done := by
    rintro X rfl rfl rfl hc i pins s σ H E I hf st ⟨hd, hi⟩
    obtain ⟨ho, _⟩ := I.hok d _ hd
    obtain ⟨f0, f1, f2, f3, f4, f5⟩ := hf it (by simp)
    have raw : Heap.DictRaw s.heap d es ep := ⟨o, ho, hex, hda⟩
    have sz : vs.length = es.size := by rw [Paired.len hk, Array.length_toList]
    exact wpAny_pyNext_values_end_raw (I.ok.hd hc) st raw (by omega) fun h' eb => ⟨rfl, I.turned (t' := s.toks) (fun b ob hb e => eb b ob hb e) f0 f1 f3 f4 f5⟩
  self := fun A i s Q E st h => wpAny_pyIter_valiter st h
theorem walk_valsN {d : Addr} {o : Obj} {vs : List V} : Walk (ItV d o vs) vs.length (fun H => H d = some (atO d o)) (fun i H x H' => H' = H ∧ vs[i]? = some x) :=
  ⟨fun _ _ hi q => ⟨q, hi⟩, fun _ q => ⟨q, rfl⟩, fun _ _ _ _ _ _ y => y⟩
def VALS (P : Program) (w : World) (K : PySem.W.Frag) (dS : α → PyData) (R : It → Hp → Prop) (x : V) (H1 : Hp) : Prop := dictN P w K dS x H1 ∧ rValsN P w K dS x [] H1 fun v H' => ∃ (p d : Addr) (kvs : List (α × V)), v = .ref p ∧ H' p = some (valsO p d) ∧ DN P w K dS H' d kvs ∧
  ∀ H2 o, Fr [d] H' H2 → Tu H' H2 → H2 d = some (atO d o) → R (ItV d o (kvs.map (·.2))) H2
theorem VALS.of {R : It → Hp → Prop} {H1 : Hp} {d : Addr} {kvs : List (α × V)} (hd : DN P w K dS H1 d kvs) (k : ∀ H2 o, Fr [d] H1 H2 → Tu H1 H2 → H2 d = some (atO d o) → R (ItV d o (kvs.map (·.2))) H2) : VALS P w K dS R (.ref d) H1 :=
  ⟨⟨d, kvs, rfl, hd⟩, d, kvs, rfl, rfl, hd, fun p hp => ⟨p, d, kvs, rfl, upd_same, hd.fr0 (Fr.new hp), fun H2 o f t h1 => k H2 o (Fr.trans (Fr.new hp) f) ((Tu.new hp).trans t) h1⟩⟩
def iValsN (P : Program) (w : World) (K : PySem.W.Frag) (dS : α → PyData) (te : TE) : TI := fun σ H R => te σ H fun x H1 => VALS P w K dS R x H1
theorem w_iValsN {σ : L2.St} {H : Hp} {te : TE} {R : It → Hp → Prop} (q : te σ H fun x H1 => VALS P w K dS R x H1) : iValsN P w K dS te σ H R := q
theorem valsN_of {H : Hp} : ∀ {kvs : List (α × V)} {xs : List (NestedKey × Addr × Value)}, Paired (RkN K H dS) kvs xs → Paired (fun (v : V) (e : DictEntry) => RelV v e.val) (kvs.map (·.2)) (xs.map (entryOfKey (nestedKind P w)))
  | _, _, .nil => .nil
  | _, _, .cons r b => .cons r.2.2 (valsN_of b)
theorem pi_valsN {e tg : Expr} {te : TE} {apos cpos : Pos} (D : KeyD dS) (hP : X.prog = P) (hw : X.w = w) (hK : X.K = K) (he : PE X e te) (hb : attributeBase e "values" X.env (eval e X.env) = eval e X.env := by rfl) (hl : (apos.endLine == cpos.line) = true := by rfl) :
    PI X tg (.Call (.Attribute e "values" apos) [] [] cpos) (iValsN P w K dS te) := by
  subst hP hw hK
  have P1 : PE X (.Call (.Attribute e "values" apos) [] [] cpos) (tMG0 (dictN X.prog X.w X.K dS) (rValsN X.prog X.w X.K dS) te) := pe_mG0 (ty_N D) F.plainAttrs_dict F.slot_dict_values F.type_dict_values (mt_valsN D) he hb hl
  refine ⟨fun pins s σ H R I q => ?_⟩
  refine wpAny_mono (P1.run pins s σ H _ I q) ?_ fun _ _ z => z
  · rintro v s1 ⟨v', H1, I1, rv, p, d, kvs, rfl, hp, hd, k⟩
    cases rv
    have hv : Heap.IsValuesView s1.heap p d := (I1.hok p _ hp).1
    obtain ⟨xs, ⟨o, es, ep, ho, hex, hda, hl, hi, hn⟩, pr, ns, m⟩ := hd.heap D I1
    have raw : Heap.DictRaw s1.heap d es ep := ⟨o, ho, hex, hda⟩
    refine wpAny_pyIter_values_raw hv raw ?_
    have t := Tu.dn hd (atO d o)
    have I2 : Inv X pins σ (upd H1 d (atO d o)) { s1 with toks := s1.toks } := I1.write m (.inl rfl) (fun b u hb hu => hu) ⟨o, ho⟩ ⟨ho, ⟨o, ho⟩, fun h1 h2 e f => f _ e⟩
    have k2 := valsN_of (P := X.prog) (w := X.w) pr
    rw [← hl] at k2
    have hfr : (upd H1 d (atO d o)) s1.heap.objs.size = none := I2.fresh
    refine ⟨s1.heap.objs.size, [s1.heap.objs.size], _, ItV d o (kvs.map (·.2)), upd H1 d (atO d o), rfl, I2.turnedL (ch := []) (fun b u _ hb => ?_) (fun b hb => by simp at hb), turn_valsN (es := es) (ep := ep) hex hda k2, ⟨_, Heap.get?_push_size _ rfl, rfl, rfl⟩, fun b hb => ?_, k _ o (Fr.mut (by simp)) t upd_same⟩
    · rw [Heap.get?_push_ne]
      · exact hb
      · rintro rfl
        exact get_size hb
    · rw [List.mem_singleton.mp hb]
      exact I2.fpOk (Nat.le_refl _) hfr
end
end U

/-! plain tuples, dict(a tuple of pairs), dicts keyed by None, numbers, texts; sorted(a list), sorted(items) -/
namespace U
open PySem PySem.Spec PyProof.Rows L2
/-! ### tuples of which it is known that they bear nothing else -/
def tfz (us : List Value) : Obj := { cls := .type "tuple", data := .seq us.toArray }
def PTup (H : Hp) (a : Addr) (xs : List V) : Prop := ∃ us, H a = some (.frz (tfz us) (.tup xs))
theorem PTup.sq {K : PySem.W.Frag} {H : Hp} {a : Addr} {xs : List V} (h : PTup H a xs) : SqT K H a xs := by
  obtain ⟨us, e⟩ := h
  exact .inl (.inr ⟨_, e⟩)
theorem PTup.fr {S : List Addr} {H H' : Hp} {a : Addr} {xs : List V} (h : PTup H a xs) (f : Fr S H H') (n : a ∉ S) : PTup H' a xs := by
  obtain ⟨us, e⟩ := h
  exact ⟨us, f _ _ e n⟩
section
variable {X : Cx}
def MkTP (xs : List V) (Q : VK) : Hp → Prop := fun H => xs.length ≤ sizeLine ∧ ∀ (p : Addr) (us : List Value), H p = none → Q (.ref p) (upd H p (.frz (tfz us) (.tup xs)))
def tTupP (ta : TA) : TE := fun σ H Q => ta σ H fun xs H1 => MkTP xs Q H1
theorem pe_tupP {es : List Expr} {t : TA} {x1 : Nat} {pos : Pos} (h : PA X es t) : PE X (.Tuple es x1 pos) (tTupP t) := by
  refine ⟨fun pins s σ H Q I hq => ?_⟩
  refine wpAny_Tuple_spliced (thn (h.run pos pins s σ H _ I hq) fun us s1 ⟨xs, H1, I1, r, z, q⟩ => ⟨by rw [← r.length]; exact z, ?_⟩)
  have hf : H1 s1.heap.objs.size = none := I1.hok.fresh (Nat.le_refl _)
  refine ⟨.ref s1.heap.objs.size, upd H1 s1.heap.objs.size (.frz (tfz us) (.tup xs)), I1.laid (t' := s1.toks) (fun b u e => Heap.get?_push_of_some _ e) (Nat.le_refl _) ?_, rfl, q _ us hf⟩
  exact ⟨Heap.get?_push_size _ rfl, z, us, r, ⟨_, Heap.get?_push_size _ rfl, rfl, _, rfl⟩⟩
theorem w_tupP {σ : L2.St} {H : Hp} {ta : TA} {Q : VK} (q : ta σ H fun xs H1 => MkTP xs Q H1) : tTupP ta σ H Q := q
def rTupleP (K : PySem.W.Frag) : List V → Hp → VK → Prop := fun xs H Q => ∃ p ys, xs = [.ref p] ∧ SqL K H p ys ∧ ∀ (l : Addr) (us : List Value), H l = none → Q (.ref l) (upd H l (.frz (tfz us) (.tup ys)))
theorem call_tupleP : CallR X (.type "tuple") (rTupleP X.K) := by
  intro pins s σ H xs us Q I r h
  obtain ⟨p, ys, rfl, hq, q⟩ := h
  obtain ⟨u, rfl, rx⟩ := vals1 r
  cases rx
  obtain ⟨its, r', pl, hz⟩ := I.list hq
  have hlen := r'.length
  refine call_tuple_list pl.isList (fun h' kp => ?_) (by simp only [List.size_toArray] <;> omega)
  have I1 : Inv X pins σ H { s with heap := h' } := I.kept (t' := s.toks) kp
  have I2 : Inv X pins σ (upd H h'.objs.size (.frz (tfz its) (.tup ys))) { s with heap := h'.push { cls := .type "tuple", data := .seq its.toArray } } :=
    I1.laid (t' := s.toks) (fun b o e => Heap.get?_push_of_some _ e) (Nat.le_refl _) (show ObjOk X.prog X.w _ _ _ (.frz (tfz its) (.tup ys)) from ⟨Heap.get?_push_size _ rfl, hz, its, r', IsTup.new _ _⟩)
  exact ⟨.ref h'.objs.size, _, I2, rfl, q _ its (I1.hok.fresh (Nat.le_refl _))⟩
theorem call_tuplePU {K} (hK : X.K = K) : CallR X (.type "tuple") (rTupleP K) := by subst hK; exact call_tupleP
/-! ### dict(a tuple of pairs) -/
theorem pv_of {h : Heap} : ∀ {prs : List (Key × Value)} {ps : List Addr}, prs.length = ps.length → (∀ (j : Nat) (q : Key × Value), prs[j]? = some q → ∃ (b : Addr) (u : Value), ps[j]? = some b ∧ IsTup h b #[u, q.2] ∧ keyIs q.1 u = true) →
    ∃ pv : List (Value × Value), pv.length = prs.length ∧ ∀ (j : Nat) (k v : Value), pv[j]? = some (k, v) → ∃ (b : Addr) (q : Key × Value), ps[j]? = some b ∧ prs[j]? = some q ∧ v = q.2 ∧ IsTup h b #[k, v] ∧ keyIs q.1 k = true
  | [], [], _, _ => ⟨[], rfl, fun j k v h => by simp at h⟩
  | [], _ :: _, l, _ => by simp at l
  | _ :: _, [], l, _ => by simp at l
  | q :: prs, b :: ps, l, hp => by
    obtain ⟨pv, l2, h2⟩ := pv_of (prs := prs) (ps := ps) (by simpa using l) fun j q' e => by
      obtain ⟨b', u, e1, e2⟩ := hp (j + 1) q' (by simpa using e)
      exact ⟨b', u, by simpa using e1, e2⟩
    obtain ⟨b0, u, e1, e2, e3⟩ := hp 0 q rfl
    have : b = b0 := by simpa using e1
    subst this
    refine ⟨(u, q.2) :: pv, by rw [List.length_cons, List.length_cons, l2], fun j k v hj => ?_⟩
    cases j with
    | zero =>
      have hj : (u, q.2) = (k, v) := by simpa using hj
      cases hj
      exact ⟨b, q, rfl, rfl, rfl, e2, e3⟩
    | succ j =>
      obtain ⟨b', q', r1, r2, r3⟩ := h2 j k v (by simpa using hj)
      exact ⟨b', q', by simpa using r1, by simpa using r2, r3⟩
def rDictT (K : PySem.W.Frag) : List V → Hp → VK → Prop := fun xs H Q => ∃ (a : Addr) (ps : List Addr) (kvs : List (Key × V)), xs = [.ref a] ∧ PTup H a (ps.map V.ref) ∧ Paired (fun p kv => SqT K H p [kV kv.1, kv.2]) ps kvs ∧
    ∀ p, H p = none → Q (.ref p) (upd H p (.dK (mergeK [] kvs)))
theorem call_dictT (hcalm : X.calm = true) : CallR X (.type "dict") (rDictT X.K) := by
  intro pins s σ H xs us Q I r q
  obtain ⟨a, ps, kvs, ex, ⟨us0, hq⟩, hp, q⟩ := q
  subst ex
  obtain ⟨u, eu, rx⟩ := vals1 r
  subst eu
  cases rx
  obtain ⟨ho, hz, its, rv, ot, hot, hct, nt, hdt⟩ := (show ObjOk X.prog X.w H s.heap a (.frz (tfz us0) (.tup (ps.map V.ref))) from I.hok a _ hq)
  rw [ho] at hot
  cases hot
  have ei := refs_at rv
  subst ei
  rw [List.length_map] at hz
  obtain ⟨prs, rel, hl, hpr⟩ := pairs_of I hp
  have eits : us0.toArray = (ps.map Value.ref).toArray := by
    have z : Data.seq us0.toArray 0 = Data.seq (ps.map Value.ref).toArray nt := hdt
    injection z
  obtain ⟨pv, lpv, hpv⟩ := pv_of hl hpr
  have ok : PlainSeq "tuple" s.heap a (ps.map Value.ref).toArray ∧ PairItems s.heap (ps.map Value.ref).toArray (fun j => ps.getD j 0) pv := by
    refine ⟨⟨_, 0, ho, rfl, rfl, by rw [← eits]; rfl⟩, by rw [List.size_toArray, List.length_map]; omega, fun j k v hj => ?_⟩
    obtain ⟨b, q', e1, e2, e3, ⟨o, h1, h2, n, h3⟩, _⟩ := hpv j k v hj
    have gb : ps.getD j 0 = b := by rw [List.getD_eq_getElem?_getD, e1]; rfl
    refine ⟨?_, .inl ?_⟩
    · show (ps.map Value.ref).toArray[j]? = some (.ref (ps.getD j 0))
      rw [gb, List.getElem?_toArray, List.getElem?_map, e1]
      rfl
    · show s.heap.IsTuple (ps.getD j 0) #[k, v]
      rw [gb]
      exact ⟨o, h1, h2, n, h3⟩
  refine PySem.call_dict_pairs (knd := mixKind X.prog X.w) (kvs := prs) (PairArg.tuple (prog := X.prog) (w := X.w) a _ _ pv) (I.ok.hd hcalm) ok ⟨by omega, fun i key v hk => ?_⟩ (by rw [lpv, hl]; exact hz) fun h' tk hd' k => ?_
  · obtain ⟨b, q', e1, e2, e3, _, e5⟩ := hpv i key v hk
    exact ⟨q'.1, by rw [e2, e3], e5⟩
  · have hm : (s.heap.objs.size == sysModules) = false := beq_eq_false_iff_ne.mpr (Nat.ne_of_gt I.big)
    have hlen : (mergeK [] kvs).length ≤ sizeLine := by
      refine Nat.le_trans (length_mergeK kvs []) ?_
      rw [List.length_nil, Nat.zero_add, rel.length, hl]
      exact hz
    exact ⟨.ref s.heap.objs.size, upd H s.heap.objs.size (.dK (mergeK [] kvs)), I.laid (t' := tk) (fun b o e => k b o (by simp) e) (Nat.le_refl _) (show ObjOk X.prog X.w _ _ _ (.dK (mergeK [] kvs)) from ⟨hlen, hm, merged [] prs, KV.merge rel .nil, hd'⟩), rfl, q _ (I.hok.fresh (Nat.le_refl _))⟩
end
/-! ### sorted(a list of data) -/
section
variable {X : Cx}
theorem paired_isD {K : PySem.W.Frag} {H : Hp} : ∀ {vs : List V} {us : List Value} {ds : List PyData}, Vals vs us → DtAll K H vs ds → Paired (IsD K H id) us ds
  | _, _, _, .nil, .nil => .nil
  | _, _, _, .cons r t, .cons a b => .cons ⟨_, r, a⟩ (paired_isD t b)
theorem call_sortL (hu : X.A.units + 70 < cLine) : CallR X (.builtin "sorted") (rSortL X.K) := by
  intro pins s σ H xs us Q I rx h
  obtain ⟨l, ds, rfl, L, n, so, dp, q⟩ := h
  cases rx with
  | cons r t =>
  cases t
  cases r
  obtain ⟨vs, el, dl⟩ := L
  obtain ⟨its, rv, pl, hz⟩ := I.list (SqL.of el)
  have pe := paired_isD rv dl
  refine PySem.W.sorted_data (vs := its) (bs := ds) (enc := id) (R := IsD X.K H id) pl.isList (each_of pe) (each_of (Paired.imp (fun u b z => ?_) pe)) (by rw [List.map_id]; exact so.1) (by rw [List.map_id]; exact so.2) (Nat.le_trans n (by decide)) (fun b hb => ?_) fun out lo eo => ?_
  · obtain ⟨v, rv', d⟩ := z
    obtain ⟨as, r⟩ := Dp.reads I b v u d.dp rv'
    exact ⟨as, r⟩
  · have := dp b hb
    show X.A.units + 2 + b.depth < cLine
    omega
  · obtain ⟨ys, vy, dy⟩ := vals_of (of_each eo)
    obtain ⟨e, he⟩ := sortedAll_at s.heap its out.toArray
    have hp : H (s.heap.objs.size + 1) = none := HOk.fresh I.hok (Nat.le_succ _)
    rw [List.map_id] at dy
    refine ⟨.ref (s.heap.objs.size + 1), upd H (s.heap.objs.size + 1) (.lst ys), I.laid (t' := s.toks) (fun b o hb => sortedAll_old hb) (Nat.le_succ _) ⟨?_, out, e, vy, he⟩, rfl, q _ _ hp (Fr.new hp) ⟨ys, upd_same, dy.mono (Tu.new hp)⟩⟩
    have : ys.length = out.length := Paired.len vy
    rw [this, lo]
    exact Nat.le_trans n (by decide)
theorem call_sortLU {K} (hK : X.K = K) (hu : X.A.units + 70 < cLine) : CallR X (.builtin "sorted") (rSortL K) := by subst hK; exact call_sortL hu
theorem w_sortL {K} {H : Hp} {Q : VK} {l : Addr} {ds : List PyData} (L : Lq K H l ds) (n : ds.length ≤ 100000) (so : Sorty ds) (dp : ∀ d ∈ ds, d.depth ≤ 10) (q : ∀ p H', H p = none → Fr [] H H' → Lq K H' p (ds.mergeSort (PySem.W.dataLe false id)) → Q (.ref p) H') : rSortL K [.ref l] H Q := ⟨l, ds, rfl, L, n, so, dp, q⟩
end
/-! ### sorted(d.items()), d keyed by texts and numbers, its values numbers -/
section
variable {X : Cx} {pins : List (Addr × Obj)} {σ : L2.St} {H : Hp} {s : Shared}
/-- many new things at once -/
def plus (H G : Hp) : Hp := fun a => match G a with
  | some o => some o
  | none => H a
theorem plus_new {G : Hp} {a : Addr} {o : HO} (h : G a = some o) : plus H G a = some o := by unfold plus; rw [h]
theorem plus_old {G : Hp} {a : Addr} (h : G a = none) : plus H G a = H a := by unfold plus; rw [h]
theorem Inv.lays {G : Hp} {h' : Heap} {t' : Nat} (I : Inv X pins σ H s) (k : ∀ b u, s.heap.get? b = some u → h'.get? b = some u) (far : ∀ a o, G a = some o → s.heap.objs.size ≤ a) (new : ∀ a o, G a = some o → ObjOk X.prog X.w (plus H G) h' a o) :
    Inv X pins σ (plus H G) { s with heap := h', toks := t' } := by
  have gn : ∀ {b u}, s.heap.get? b = some u → G b = none := fun {b u} q => by
    cases e : G b with
    | none => rfl
    | some o => exact absurd (far b o e) (Nat.not_le_of_lt (get_lt q))
  have hn : ∀ {b o}, H b = some o → G b = none := fun {b o} q => by
    cases e : G b with
    | none => rfl
    | some o' =>
      have := HOk.fresh I.hok (far b o' e)
      rw [q] at this
      cases this
  refine I.un (t' := t') ⟨fun b u q _ _ _ => k b u q, fun b u q _ _ _ => ⟨u.slots, k b u q⟩, fun b u q n _ => by rw [plus_old (gn q)]; exact n, fun b u q _ => ⟨u, k b u q⟩, fun b xs q => by rw [plus_old (hn q)]; exact q, fun b u xs q => by rw [plus_old (hn q)]; exact q, fun b ps q => ⟨#[], by rw [plus_old (hn q), q]; simp⟩⟩ fun b u e => ?_
  cases eg : G b with
  | some o =>
    rw [plus_new eg] at e
    cases e
    exact new b _ eg
  | none =>
    rw [plus_old eg] at e
    exact (I.hok b u e).stay (fun c v _ q => k c v q) (fun c q => by rw [plus_old (hn q)]; exact q) fun c xs q => by rw [plus_old (hn q)]; exact q
def keyD : Key → PyData
  | .inl i => .int i
  | .inr x => .str x
def pairD (kv : Key × V) : PyData := .tuple [keyD kv.1, match kv.2 with | .int n => .int n | _ => .none]
def rItemsK : V → List V → Hp → VK → Prop := fun x xs H Q => ∃ (a : Addr) (kvs : List (Key × V)), x = .ref a ∧ xs = [] ∧ H a = some (.dK kvs) ∧ ∀ p, H p = none → Q (.ref p) (upd H p (DX.itemsO p a))
theorem mt_itemsK : MtR X "dict.items" rItemsK := by
  intro pins s σ H x xs v us Q I rx rxs h
  obtain ⟨a, kvs, rfl, rfl, ha, q⟩ := h
  cases rx
  cases rxs
  obtain ⟨z, hd, vs, rel, o, es, ep, ho, hx, hdat, _⟩ := dk_of I.hok ha
  refine DT.callItems (es := es) (ep := ep) hd ⟨o, ho, hx, hdat⟩ ?_
  have hf : H s.heap.objs.size = none := I.hok.fresh (Nat.le_refl _)
  exact ⟨.ref s.heap.objs.size, upd H s.heap.objs.size (DX.itemsO s.heap.objs.size a), I.laid (t' := s.toks) (fun b u e => Heap.get?_push_of_some _ e) (Nat.le_refl _) (DX.itemsO_ok (Heap.get?_push_size _ rfl)), rfl, q _ hf⟩
theorem at_es {P : Program} {w : World} : ∀ {es : List DictEntry} {vs : List (Key × Value)} {kvs : List (Key × V)}, Pairs (mixKind P w) es vs → KV kvs vs → ∀ {j : Nat} {e : DictEntry}, es[j]? = some e → ∃ kv, kvs[j]? = some kv ∧ RelV (kV kv.1) e.key ∧ RelV kv.2 e.val
  | _, _, _, .nil, _, j, e, h => by simp at h
  | _, _, _, .cons hk hv t, @Paired.cons _ _ _ kv _ _ _ r t2, 0, e, h => by
    cases (show _ = e by simpa using h)
    obtain ⟨r1, r2⟩ := r
    refine ⟨kv, rfl, ?_, ?_⟩
    · rw [r1]; exact relV_key hk
    · rw [hv]; exact r2
  | _, _, _, .cons hk hv t, .cons r t2, j + 1, e, h => by
    obtain ⟨kv, h1, h2⟩ := at_es t t2 (j := j) (e := e) (by simpa using h)
    exact ⟨kv, by simpa using h1, h2⟩
def AllInt (kvs : List (Key × V)) : Prop := ∀ kv ∈ kvs, ∃ n : Int, kv.2 = .int n
def rSortItK (K : PySem.W.Frag) : List V → Hp → VK → Prop := fun vs H Q => ∃ (p a : Addr) (kvs : List (Key × V)), vs = [.ref p] ∧ H p = some (DX.itemsO p a) ∧ H a = some (.dK kvs) ∧ kvs.length ≤ 100000 ∧ AllInt kvs ∧ Sorty (kvs.map pairD) ∧
  ∀ p' H', H p' = none → Fr [] H H' → Lq K H' p' ((kvs.map pairD).mergeSort (PySem.W.dataLe false id)) → Q (.ref p') H'
theorem call_sortItK (hc : X.calm = true) (hu : X.A.units + 70 < cLine) : CallR X (.builtin "sorted") (rSortItK X.K) := by
  intro pins s σ H xs us Q I r h
  obtain ⟨p, a, kvs, rfl, hp, ha, n, ai, so, q⟩ := h
  obtain rfl := Vals.ref1 r
  have view : s.heap.IsItemsView p a := (show ObjOk X.prog X.w H s.heap p (DX.itemsO p a) from I.hok p _ hp).1
  obtain ⟨z, hd, vs, rel, o, es, ep, ho, hx, hdat, hks, hpr, hn⟩ := dk_of I.hok ha
  have l1 : kvs.length = vs.length := Paired.length rel
  have l2 : es.size = vs.length := by rw [← Array.length_toList]; exact hpr.length
  refine DT.sortedI (es := es) (ep := ep) (I.ok.hd hc) view ⟨o, ho, hx, hdat⟩ (by omega) fun h' tk as hk hlt hl hG => ?_
  have I1 : Inv X pins σ H { s with heap := h', toks := tk } := I.kept (t' := tk) hk
  have nd : as.Nodup := List.Pairwise.imp (fun h => Nat.ne_of_lt h) hG.rise
  obtain ⟨H2, I2, gr, qt⟩ := DX.takeT (P := fun b vs => ∃ (j : Nat) (kv : Key × V), as[j]? = some b ∧ kvs[j]? = some kv ∧ vs = [kV kv.1, kv.2]) I as H I1 nd fun b hb => by
    obtain ⟨j, hj⟩ := List.mem_iff_getElem?.mp hb
    obtain ⟨e, he, hg⟩ := hG.pairs j b hj
    obtain ⟨kv, hkv, r1, r2⟩ := at_es hpr rel (j := j) (e := e) (by rw [Array.getElem?_toList]; exact he)
    have hbl : s.heap.objs.size ≤ b := Nat.le_of_lt (hG.above b hb)
    exact ⟨hbl, I.hok.fresh hbl, [kV kv.1, kv.2], ⟨j, kv, hj, hkv, rfl⟩, fun H3 => ⟨(by rw [sizeLine_eq]; show 2 ≤ 16777216; omega), [e.key, e.val], .cons r1 (.cons r2 .nil), ⟨_, hg, rfl, 0, rfl⟩⟩⟩
  refine sort_new (s := { s with heap := h', toks := tk }) (bs := kvs.map pairD) (enc := id) (us := as.map Value.ref) I2 (fun b o e => e) (Nat.le_refl _) (paired_at (by rw [List.length_map, List.length_map]; omega) fun i u d hu' hd' => ?_) (by rw [List.map_id]; exact so.1) (by rw [List.map_id]; exact so.2) (by rw [List.length_map]; exact n) (by show X.A.units + 1 + 65 < cLine; omega) (fun d hd' => ?_) fun p' s' H' hp' fr I' L => ?_
  · rw [List.getElem?_map] at hu' hd'
    obtain ⟨b, hb, rfl⟩ := Option.map_eq_some_iff.mp hu'
    obtain ⟨kv, hkv, rfl⟩ := Option.map_eq_some_iff.mp hd'
    obtain ⟨ws, ⟨j, kv', hj, hkv', rfl⟩, hH⟩ := qt b (List.mem_of_getElem? hb)
    have eij : i = j := (List.getElem?_inj (List.getElem?_eq_some_iff.mp hb).1 nd).mp (hb.trans hj.symm)
    subst eij
    rw [hkv] at hkv'
    cases hkv'
    refine ⟨.ref b, rfl, ?_⟩
    obtain ⟨m, hm⟩ := ai kv (List.mem_of_getElem? hkv)
    obtain ⟨k, v⟩ := kv
    cases hm
    refine Dt.tup (.inl (.inl hH)) (.cons ?_ (.cons (.int _) .nil))
    cases k with
    | inl i => exact .int i
    | inr x => exact .str x
  · obtain ⟨kv, hkv, rfl⟩ := List.mem_map.mp hd'
    obtain ⟨m, hm⟩ := ai kv hkv
    obtain ⟨k, v⟩ := kv
    cases hm
    cases k <;> simp [pairD, keyD, PyData.depth, PyData.depthAll]
  · rw [List.map_id] at L
    refine ⟨.ref p', H', I', rfl, q p' H' ?_ (fun b o e n' => fr b o (gr b o e) n') L⟩
    cases e : H p' with
    | none => rfl
    | some o =>
      rw [gr _ _ e] at hp'
      cases hp'
end
theorem call_sortItKU {X : Cx} {K} (hK : X.K = K) (hc : X.calm = true) (hu : X.A.units + 70 < cLine) : CallR X (.builtin "sorted") (rSortItK K) := by subst hK; exact call_sortItK hc hu
theorem call_dictTU {X : Cx} {K} (hK : X.K = K) (hcalm : X.calm = true) : CallR X (.type "dict") (rDictT K) := by subst hK; exact call_dictT hcalm
theorem ne_free {H : Hp} {a b : Addr} (h : H a ≠ none) (h' : H b = none) : a ≠ b := by
  rintro rfl
  exact h h'
theorem Fr.tuK {H H' : Hp} {d : Addr} {kvs : List (Key × V)} (f : Fr [d] H H') (h : H d = some (.dK kvs)) : Tu H H' := fun a ys =>
  ⟨fun e => f _ _ e (by rintro z; rw [List.mem_singleton.mp z, h] at e; cases e), fun o e => f _ _ e (by rintro z; rw [List.mem_singleton.mp z, h] at e; cases e)⟩
/-! ### a dict's keys in a comprehension: the dict is held as it is -/
section
variable {X : Cx}
def tFrz (td : TE) : TE := fun σ H Q => td σ H fun x H1 => ∃ (d : Addr) (kvs : List (Key × V)), x = .ref d ∧ H1 d = some (.dK kvs) ∧ ∀ o, Q x (upd H1 d (.frz o (.dK kvs)))
theorem pe_frz {e : Expr} {td : TE} (h : PE X e td) : PE X e (tFrz td) := by
  refine ⟨fun pins s σ H Q I hq => ?_⟩
  refine thn (h.run pins s σ H _ I hq) fun u s1 ⟨x, H1, I1, rx, d, kvs, ex, hd, q⟩ => ?_
  obtain ⟨od, I2⟩ := I1.lock hd True.intro
  exact ⟨x, _, I2, rx, q od⟩
theorem w_frz {σ : L2.St} {H : Hp} {td : TE} {Q : VK} (q : td σ H fun x H1 => ∃ (d : Addr) (kvs : List (Key × V)), x = .ref d ∧ H1 d = some (.dK kvs) ∧ ∀ o, Q x (upd H1 d (.frz o (.dK kvs)))) : tFrz td σ H Q := q
theorem LCX_K {K : PySem.W.Frag} {d : Addr} {o : Obj} {H : Hp} {kvs : List (Key × V)} {ws : List Nat} {σ : L2.St} {tg : TG} {tt : TT} {te : TE} {Q : VK} (g : Key × V → PyData)
    (hd : H d = some (.frz o (.dK kvs))) (lc : kvs.length ≤ 100000)
    (hs : ∀ (kv : Key × V) (H' : Hp) (KEEP : VK) (DROP : Hp → Prop), kv ∈ kvs → Fr [] H H' → (∀ y H4, Fr [] H' H4 → Dt K H4 y (g kv) → KEEP y H4) →
      tg (kV kv.1) (wipe σ ws) H' fun σ2 H2 => wipe σ2 ws = wipe σ ws ∧ tt σ2 H2 fun k H3 => if k = true then te σ2 H3 KEEP else DROP H3)
    (k : ∀ D H', H D = none → Fr [] H H' → Lq K H' D (kvs.map g) → Q (.ref D) H') :
    ∀ D, H D = none → LC (Itk d o kvs) tg tt te ws σ D Q (upd H D (.lst [])) := by
  intro D hD
  refine lc_it (walk_keys (d := d) (o := o) (kvs := kvs)) (fun i H' => Fr [] H H' ∧ Lq K H' D ((kvs.take i).map g)) ⟨Fr.new hD, [], upd_same, .nil⟩ (fun i H' _ h => h.1 _ _ hd (by simp)) ?_ ?_
  · rintro i x H0' H' hi ⟨f', ys, hys, dys⟩ ⟨rfl, kk, vv, hx, rfl⟩
    have hi' : i < kvs.length := (List.getElem?_eq_some_iff.mp hx).1
    have ly : ys.length ≤ i := by
      rw [dys.length, List.length_map, List.length_take]
      omega
    refine hs (kk, vv) _ _ _ (List.mem_of_getElem? hx) f' (fun y H4 f4 dy => ?_)
    have e3 := f4 _ _ hys (by simp)
    refine ⟨ys, e3, Nat.lt_of_le_of_lt (show ys.length ≤ 100000 by omega) (by decide), Fr.new_mut hD ((f'.trans f4).mono (by simp) |>.trans (Fr.mut (by simp))), _, upd_same, ?_⟩
    rw [List.take_add_one, hx, List.map_append]
    exact ((dys.mono f4.tu).append (.cons dy .nil)).mono (Tu.mut e3)
  · rintro H' ⟨f', L⟩
    rw [List.take_length] at L
    exact k D H' hD f' L
end
/-! ### dicts keyed by None, numbers, texts -/
def lfV : Leaf → V
  | .none => .non
  | .num i => .int i
  | .text x => .str x
theorem lf_is {P : Program} {w : World} {k : Leaf} {u : Value} (r : RelV (lfV k) u) : (leafKind P w).is k u = true := by
  cases k with
  | none =>
    cases (show u = Value.none from r)
    rfl
  | num i =>
    obtain ⟨t, e⟩ := (show ∃ t, u = Value.int i t from r)
    subst e
    exact decide_eq_true rfl
  | text x =>
    obtain ⟨t, e⟩ := (show ∃ t, u = Value.str x t from r)
    subst e
    show (x == x) = true
    simp
def LfO (P : Program) (w : World) (d : Addr) (kvs : List (Leaf × V)) : HO := .ext fun h => kvs.length ≤ sizeLine ∧ (d == sysModules) = false ∧ ∃ vs, KV kvs vs ∧ h.DictOf (leafKind P w) d vs
def DL (P : Program) (w : World) (H : Hp) (d : Addr) (kvs : List (Leaf × V)) : Prop := (kvs = [] ∧ H d = some (.dK [])) ∨ H d = some (LfO P w d kvs)
section
variable {X : Cx} {pins : List (Addr × Obj)} {σ : L2.St} {H : Hp} {s : Shared} {d : Addr} {kvs : List (Leaf × V)}
theorem DL.fr {P : Program} {w : World} {H H' : Hp} {S : List Addr} (h : DL P w H d kvs) (f : Fr S H H') (n : d ∉ S) : DL P w H' d kvs := by
  rcases h with ⟨e, h⟩ | h
  · exact .inl ⟨e, f _ _ h n⟩
  · exact .inr (f _ _ h n)
theorem DL.heap (I : Inv X pins σ H s) (h : DL X.prog X.w H d kvs) : kvs.length ≤ sizeLine ∧ (d == sysModules) = false ∧ (∃ vs, KV kvs vs ∧ s.heap.DictOf (leafKind X.prog X.w) d vs) ∧ Mut (H d) := by
  rcases h with ⟨rfl, e⟩ | e
  · obtain ⟨z, n, vs, rel, o, es, ep, ho, hx, hdat, hks, hpr, hn⟩ := dk_of I.hok e
    have rel' : KV ([] : List (Leaf × V)) ([] : List (Leaf × Value)) := .nil
    have ev : vs = [] := by
      have := KV.length rel
      exact List.eq_nil_of_length_eq_zero this.symm
    subst ev
    have ee : es.toList = [] := List.eq_nil_of_length_eq_zero hpr.length
    refine ⟨Nat.zero_le _, n, ⟨[], rel', o, es, ep, ho, hx, hdat, fun x hx' => ?_, by rw [ee]; exact .nil, .nil⟩, by rw [e]; exact True.intro⟩
    have : x ∈ es.toList := Array.mem_toList_iff.mpr hx'
    rw [ee] at this
    cases this
  · obtain ⟨z, n, k⟩ := (I.hok d _ e).1
    exact ⟨z, n, k, by rw [e]; exact True.intro⟩
theorem lfo_ok {P : Program} {w : World} {H : Hp} {h : Heap} (hz : kvs.length ≤ sizeLine) (hsm : (d == sysModules) = false) {vs : List (Leaf × Value)} (r : KV kvs vs) (x : h.DictOf (leafKind P w) d vs) : ObjOk P w H h d (LfO P w d kvs) := by
  refine ⟨⟨hz, hsm, vs, r, x⟩, ?_, fun h1 h2 q st => ?_⟩
  · obtain ⟨o, es, ep, ho, _⟩ := x
    exact ⟨o, ho⟩
  · obtain ⟨z1, z2, vs', r', o, es, ep, ho, x'⟩ := q
    exact ⟨z1, z2, vs', r', o, es, ep, st _ ho, x'⟩
def rIxL (P : Program) (w : World) : R2 := fun x y H Q => ∃ (d : Addr) (kvs : List (Leaf × V)) (k : Leaf) (v : V), x = .ref d ∧ y = lfV k ∧ DL P w H d kvs ∧ valV kvs k = some v ∧ Q v H
theorem ix_L : IxR X (rIxL X.prog X.w) := by
  intro value slice pins s σ H x y v u Q I rx ry h hs
  obtain ⟨d, kvs, k, z, rfl, rfl, hd, hv, q⟩ := h
  cases rx
  obtain ⟨_, ns, ⟨vs, rel, dd⟩, _⟩ := hd.heap I
  obtain ⟨o, es, ep, ho, hex, _⟩ := id dd
  obtain ⟨w', hw, rw'⟩ := RelO.some_of (v := z) (o := valueAt vs k) (by rw [← hv]; exact rel.val k)
  refine subscriptTail_builtinR (x := w') ⟨o, ho, hex.1⟩ F.slot_dict_getitem.lookup ?_ hs
  exact wpAny_getItem_of (lf_is ry) dd.mapOf hw ⟨rfl, _, H, I.tok _, rw', q⟩
theorem ix_LU {P : Program} {w : World} (hP : X.prog = P) (hw : X.w = w) : IxR X (rIxL P w) := by subst hP hw; exact ix_L
theorem w_ixLf {P : Program} {w : World} {H : Hp} {Q : VK} {y v : V} {k : Leaf} (hd : DL P w H d kvs) (ey : y = lfV k) (hv : valV kvs k = some v) (q : Q v H) : rIxL P w (.ref d) y H Q := ⟨d, kvs, k, v, rfl, ey, hd, hv, q⟩
def rGetL (P : Program) (w : World) : V → List V → Hp → VK → Prop := fun x vs H Q => ∃ (d : Addr) (kvs : List (Leaf × V)) (k : Leaf) (y z : V), x = .ref d ∧ vs = [y, z] ∧ y = lfV k ∧ DL P w H d kvs ∧ Q ((valV kvs k).getD z) H
theorem mt_getL : MtR X "dict.get" (rGetL X.prog X.w) := by
  intro pins s σ H x vs v us Q I rx rvs h
  obtain ⟨d, kvs, k, y, z, rfl, rfl, rfl, hd, q⟩ := h
  cases rx
  obtain ⟨u1, u2, rfl, r1, r2⟩ := vals2 rvs
  obtain ⟨_, ns, ⟨xs, rel, dd⟩, _⟩ := hd.heap I
  refine call_meetsIn F.slot_dict_get dd.typeIs F.entry_dict_get (F.args_dict_get_3 _ _ _) (meets_dict_get_default (leafKind X.prog X.w) d (lf_is r1) ns u2) ⟨_, dd.mapOf, ?_⟩
  have r := rel.val k
  cases e : valV kvs k with
  | none =>
    rw [e] at r q
    rw [RelO.none_of r]
    exact ⟨z, H, I.tok _, r2, q⟩
  | some v0 =>
    rw [e] at r q
    obtain ⟨w', hw, rw'⟩ := RelO.some_of r
    rw [hw]
    exact ⟨v0, H, I.tok _, rw', q⟩
theorem mt_getLU {P : Program} {w : World} (hP : X.prog = P) (hw : X.w = w) : MtR X "dict.get" (rGetL P w) := by subst hP hw; exact mt_getL
theorem w_getL {P : Program} {w : World} {H : Hp} {Q : VK} {y z : V} {k : Leaf} (hd : DL P w H d kvs) (ey : y = lfV k) (q : Q ((valV kvs k).getD z) H) : rGetL P w (.ref d) [y, z] H Q := ⟨d, kvs, k, y, z, rfl, rfl, ey, hd, q⟩
def rSetL (P : Program) (w : World) : TSet := fun o i v H Q => ∃ (d : Addr) (kvs : List (Leaf × V)) (k : Leaf), o = .ref d ∧ i = lfV k ∧ DL P w H d kvs ∧ kvs.length ≤ 100000 ∧ ∀ H', Fr [d] H H' → Tu H H' → DL P w H' d (putK kvs k v) → Q H'
theorem DL.not_tup {P : Program} {w : World} (h : DL P w H d kvs) (o : HO) : Tu H (upd H d o) := fun a ys => by
  have n1 : ∀ ys, H d ≠ some (.tup ys) := fun ys e => by
    rcases h with ⟨_, h⟩ | h <;> rw [e] at h <;> cases h
  have n2 : ∀ o ys, H d ≠ some (.frz o (.tup ys)) := fun o ys e => by
    rcases h with ⟨_, h⟩ | h <;> rw [e] at h <;> cases h
  refine ⟨fun z => ?_, fun o' z => ?_⟩ <;>
  · rw [upd_ne (by
      rintro rfl
      first | exact n1 _ z | exact n2 _ _ z)]
    exact z
theorem set_L : PSet X (rSetL X.prog X.w) := by
  intro pins s σ H o i v ov iv u Q I ro ri rv h
  obtain ⟨d, kvs, k, rfl, rfl, hd, n, q⟩ := h
  cases ro
  obtain ⟨z, ns, ⟨vs, rel, dd⟩, m⟩ := hd.heap I
  refine wpAny_setItem_pairs (lf_is ri) dd (fun h' dd' sb => ?_) (by rw [← rel.length]; exact z)
  have rel' := rel.put k rv
  have hl : (putK kvs k v).length ≤ sizeLine := by
    have h1 : (putK kvs k v).length ≤ kvs.length + 1 := by
      unfold putK
      split
      · rw [List.length_map]; omega
      · rw [List.length_append]; exact Nat.le_refl _
    exact Nat.le_trans h1 (Nat.le_trans (show kvs.length + 1 ≤ 100001 by omega) (show 100001 ≤ sizeLine by decide))
  obtain ⟨o', es, ep, ho, hr⟩ := id dd'
  refine ⟨_, d_write I (ob := LfO X.prog X.w d (putK kvs k v)) m sb ⟨o', ho⟩ (lfo_ok hl ns rel' dd'), q _ (Fr.mut (by simp)) (hd.not_tup _) (.inr upd_same)⟩
theorem set_LU {P : Program} {w : World} (hP : X.prog = P) (hw : X.w = w) : PSet X (rSetL P w) := by subst hP hw; exact set_L
theorem w_setLf {P : Program} {w : World} {v y : V} {k : Leaf} {Q : Hp → Prop} (hd : DL P w H d kvs) (ey : y = lfV k) (n : kvs.length ≤ 100000) (q : ∀ H', Fr [d] H H' → Tu H H' → DL P w H' d (putK kvs k v) → Q H') : rSetL P w (.ref d) y v H Q := ⟨d, kvs, k, rfl, ey, hd, n, q⟩
def dictLf (P : Program) (w : World) : V → Hp → Prop := fun x H => ∃ (d : Addr) (kvs : List (Leaf × V)), x = .ref d ∧ DL P w H d kvs
theorem ty_L' : TyOk X "dict" (dictLf X.prog X.w) := by
  intro pins σ H s x v I rx h
  obtain ⟨d, kvs, rfl, hd⟩ := h
  cases rx
  obtain ⟨_, _, ⟨vs, _, o, es, ep, ho, hex, _⟩, _⟩ := hd.heap I
  refine ⟨⟨o, ho, hex.1⟩, fun a e => ?_⟩
  cases e
  exact ⟨o, ho, hex.2.1⟩
theorem ty_LU {P : Program} {w : World} (hP : X.prog = P) (hw : X.w = w) : TyOk X "dict" (dictLf P w) := by subst hP hw; exact ty_L'
theorem DL.dict {P : Program} {w : World} (hd : DL P w H d kvs) : dictLf P w (.ref d) H := ⟨d, kvs, rfl, hd⟩
end
end U

/-! slices that are plain tuples, extend by a tuple, written dicts of the module, data away from several lists that change -/
namespace U
open PySem PySem.Spec PyProof.Rows L2
section
variable {X : Cx}
/-- t[lo:hi], not the whole of it: a plain tuple -/
def rSlP (K : PySem.W.Frag) : V → Option Int → Option Int → Hp → VK → Prop := fun x lo hi H Q => ∃ a xs, x = .ref a ∧ SqT K H a xs ∧
  ¬ (HT.sIx xs.length 0 lo = 0 ∧ HT.sIx xs.length xs.length hi = xs.length) ∧ ∀ (p : Addr) (us : List Value), H p = none → Q (.ref p) (upd H p (.frz (tfz us) (.tup (cutV xs lo hi))))
theorem sl_P : SlR X (rSlP X.K) := by
  intro pins s σ H x v vl vu lo hi sl Q I rx hs pl pu h
  obtain ⟨a, xs, rfl, hx, hw, q⟩ := h
  cases rx
  obtain ⟨its, r, ht, hz⟩ := I.tuple hx
  have el : its.toArray.size = xs.length := by rw [List.size_toArray]; exact r.length.symm
  refine ⟨"tuple", _, PyProof.Rows.slot_tuple_getitem.lookup, ht.typeIs, HT.getItem_tuple_cut ht hs pl pu (by rw [el]; exact hw) ?_ (by rw [el]; exact hz)⟩
  rw [el]
  have rv : Vals (cutV xs lo hi) ((its.drop (HT.sIx xs.length 0 lo)).take (HT.sIx xs.length xs.length hi - HT.sIx xs.length 0 lo)) := (r.drop _).take _
  exact ⟨.ref s.heap.objs.size, _, I.laid (t' := s.toks) (o := .frz (tfz _) (.tup (cutV xs lo hi))) (fun b ob q => Heap.get?_push_of_some _ q) (Nat.le_refl _) (show ObjOk X.prog X.w _ _ _ _ from ⟨Heap.get?_push_size _ rfl, Nat.le_trans (cutV_length xs lo hi) hz, _, rv, IsTup.new _ _⟩), rfl, q _ _ (I.hok.fresh (Nat.le_refl _))⟩
theorem sl_PU {K} (hK : X.K = K) : SlR X (rSlP K) := by subst hK; exact sl_P
/-- l.extend(t), t a plain tuple -/
def rExtP : V → List V → Hp → VK → Prop := fun x vs H Q => ∃ l b xs zs, x = .ref l ∧ vs = [.ref b] ∧ H l = some (.lst xs) ∧ PTup H b zs ∧ xs.length + zs.length ≤ 1000000 ∧ Q .non (upd H l (.lst (xs ++ zs)))
theorem mt_extP : MtM X "list.extend" rExtP := by
  intro pins s σ H x vs v us Q I rx rv h
  obtain ⟨l, b, xs, zs, rfl, rfl, hH, ⟨us2, hB⟩, hz, q⟩ := h
  cases rx
  obtain ⟨u, rfl, ru⟩ := rv.one
  cases ru
  obtain ⟨z, its, n, r, hl, e⟩ := I.lstM hH
  obtain ⟨e2, _, its2, r2, o2, ho2, hc2, n2, hd2⟩ := (show ObjOk X.prog X.w H s.heap b (.frz (tfz us2) (.tup zs)) from I.hok b _ hB)
  rw [e2] at ho2
  cases ho2
  have hlen : us2.length = zs.length := by
    have z : Data.seq us2.toArray 0 = Data.seq its2.toArray n2 := hd2
    injection z with z1 z2
    have z3 : us2 = its2 := by simpa using z1
    rw [z3]
    exact r2.length.symm
  have r2' : Vals zs us2 := by
    have z : Data.seq us2.toArray 0 = Data.seq its2.toArray n2 := hd2
    injection z with z1 z2
    have z3 : us2 = its2 := by simpa using z1
    rw [z3]
    exact r2
  have big : (1000000 : Nat) ≤ sizeLine := by decide
  have hsz : its.toArray.size + us2.toArray.size ≤ sizeLine := by rw [List.size_toArray, List.size_toArray]; omega
  have hlong : ¬ (!its.toArray.isEmpty && Builtin.List.listTooLong (its.toArray.size + us2.toArray.size)) = true := by
    rw [notLongL hsz, Bool.and_false]
    exact Bool.false_ne_true
  refine call_meets F.slot_list_extend ⟨_, e, rfl⟩ F.entry_list_extend (F.args_list_extend_2 _ _)
    (AutoSeq1.list_extend_list_tuple_0 l its.toArray n b us2.toArray 0 hlong (by rw [List.size_toArray]; omega) (by omega)) ⟨e, e2, ?_⟩
  refine ⟨.non, _, I.lset (its' := its ++ us2) hH e (by simp) (r.append r2') ?_, rfl, q⟩
  rw [List.length_append]
  omega
end
/-! ### a written dict of the module: texts to numbers -/
def KTab (es : List DictEntry) (kvs : List (Str × Int)) : Prop := Paired (fun (e : DictEntry) (kv : Str × Int) => (∃ t, e.key = .str kv.1 t) ∧ ∃ t, e.val = .int kv.2 t) es kvs
def KTb (K : PySem.W.Frag) (w : World) (a : Addr) (kvs : List (Str × Int)) : Prop := ∃ es n, KDict K w a es n ∧ KTab es.toList kvs
def tab (kvs : List (Str × Int)) (z : Str) : Option Int := (kvs.find? fun p => decide (p.1 = z)).map (·.2)
theorem tab_find : ∀ {es : List DictEntry} {kvs : List (Str × Int)} (z : Str), KTab es kvs → (tab kvs z = none ∧ es.find? (·.key.isStr z) = none) ∨ ∃ i e t, tab kvs z = some i ∧ es.find? (·.key.isStr z) = some e ∧ e.val = .int i t
  | _, _, z, .nil => .inl ⟨rfl, rfl⟩
  | e :: es, kv :: kvs, z, .cons ⟨⟨t, h1⟩, ⟨u, h2⟩⟩ b => by
    have hk : e.key.isStr z = decide (kv.1 = z) := by
      rw [h1]
      show (kv.1 == z) = decide (kv.1 = z)
      exact Bool.eq_iff_iff.mpr (by simp)
    by_cases c : kv.1 = z
    · refine .inr ⟨kv.2, e, u, ?_, ?_, h2⟩
      · unfold tab
        rw [List.find?_cons, decide_eq_true c]
        rfl
      · rw [List.find?_cons, hk, decide_eq_true c]
    · rcases tab_find z b with ⟨g1, g2⟩ | ⟨i, e', t', g1, g2, g3⟩
      · refine .inl ⟨?_, ?_⟩
        · unfold tab at *
          rw [List.find?_cons, decide_eq_false c]
          exact g1
        · rw [List.find?_cons, hk, decide_eq_false c]
          exact g2
      · refine .inr ⟨i, e', t', ?_, ?_, g3⟩
        · unfold tab at *
          rw [List.find?_cons, decide_eq_false c]
          exact g1
        · rw [List.find?_cons, hk, decide_eq_false c]
          exact g2
theorem tab_norefs : ∀ {es : List DictEntry} {kvs : List (Str × Int)}, KTab es kvs → es.any (·.refKey) = false
  | _, _, .nil => rfl
  | e :: es, kv :: kvs, .cons ⟨⟨t, h1⟩, _⟩ b => by
    rw [List.any_cons, tab_norefs b]
    have : e.refKey = false := by
      unfold DictEntry.refKey
      rw [h1]
    rw [this]
    rfl
theorem KTb.ns {K : PySem.W.Frag} {w : World} {a : Addr} {kvs : List (Str × Int)} (h : KTb K w a kvs) (z : Str) : ∃ es n, KDict K w a es n ∧ ((tab kvs z = none ∧ PySem.W.nsIn K a z = some none) ∨ ∃ i t, tab kvs z = some i ∧ PySem.W.nsIn K a z = some (some (.int i t))) := by
  obtain ⟨es, n, D, T⟩ := h
  refine ⟨es, n, D, ?_⟩
  rcases tab_find z T with ⟨g1, g2⟩ | ⟨i, e, t, g1, g2, g3⟩
  · refine .inl ⟨g1, ?_⟩
    unfold PySem.W.nsIn
    rw [D.at_]
    show (match es.toList.find? (·.key.isStr z) with
      | some e => some (some e.val)
      | none => if es.toList.any (·.refKey) then none else some none) = _
    rw [g2, tab_norefs T]
    rfl
  · refine .inr ⟨i, t, g1, ?_⟩
    unfold PySem.W.nsIn
    rw [D.at_]
    show (match es.toList.find? (·.key.isStr z) with
      | some e => some (some e.val)
      | none => if es.toList.any (·.refKey) then none else some none) = _
    rw [g2]
    show some (some e.val) = _
    rw [g3]
def tTab (K : PySem.W.Frag) (w : World) (kvs : List (Str × Int)) : TE := fun _ H Q => ∀ a, KTb K w a kvs → Q (.ref a) H
theorem pe_tab {X : Cx} {e : Expr} {a : Addr} {kvs : List (Str × Int)} (h : PE X e (tC (.ref a))) (k : KTb X.K X.w a kvs) : PE X e (tTab X.K X.w kvs) := ⟨fun pins s σ H Q I q => h.run pins s σ H Q I (q a k)⟩
theorem w_tab {K : PySem.W.Frag} {w : World} {kvs : List (Str × Int)} {σ : L2.St} {H : Hp} {Q : VK} (q : ∀ a, KTb K w a kvs → Q (.ref a) H) : tTab K w kvs σ H Q := q
def rNinTab (K : PySem.W.Frag) (w : World) : R2 := fun x y H Q => ∃ (z : Str) (a : Addr) (kvs : List (Str × Int)), x = .str z ∧ y = .ref a ∧ KTb K w a kvs ∧ Q (.bl (!(tab kvs z).isSome)) H
def rIxTab (K : PySem.W.Frag) (w : World) : R2 := fun x y H Q => ∃ (z : Str) (a : Addr) (kvs : List (Str × Int)) (i : Int), x = .ref a ∧ y = .str z ∧ KTb K w a kvs ∧ tab kvs z = some i ∧ Q (.int i) H
section
variable {X : Cx}
theorem op_ninTab : OpR X (compareOp .NotIn) (rNinTab X.K X.w) := by
  intro pins s σ H x y v u Q I rx ry h
  obtain ⟨z, a, kvs, rfl, rfl, T, q⟩ := h
  obtain ⟨es, n, D, c⟩ := T.ns z
  rcases c with ⟨g1, g2⟩ | ⟨i, t, g1, g2⟩
  · exact op_notIn_kd D pins s σ H _ _ v u Q I rx ry ⟨z, none, rfl, rfl, g2, by rw [g1] at q; exact q⟩
  · exact op_notIn_kd D pins s σ H _ _ v u Q I rx ry ⟨z, some _, rfl, rfl, g2, by rw [g1] at q; exact q⟩
theorem op_ninTabU {K} {w} (hK : X.K = K) (hw : X.w = w) : OpR X (compareOp .NotIn) (rNinTab K w) := by subst hK hw; exact op_ninTab
theorem ix_Tab : IxR X (rIxTab X.K X.w) := by
  intro value slice pins s σ H x y v u Q I rx ry h hs
  obtain ⟨z, a, kvs, i, rfl, rfl, T, e, q⟩ := h
  obtain ⟨es, n, D, c⟩ := T.ns z
  rcases c with ⟨g1, g2⟩ | ⟨j, t, g1, g2⟩
  · rw [e] at g1
    cases g1
  · rw [e] at g1
    cases g1
    exact ix_kdict value slice pins s σ H _ _ v u Q I rx ry ⟨a, z, .int i, rfl, rfl, ⟨es, n, _, D.at_, D.lit, g2, ⟨t, rfl⟩⟩, q⟩ hs
theorem ix_TabU {K} {w} (hK : X.K = K) (hw : X.w = w) : IxR X (rIxTab K w) := by subst hK hw; exact ix_Tab
end
theorem ktb_of {K : PySem.W.Frag} {w : World} {a : Addr} {es : Array DictEntry} {n : Nat} {sl : Array (Option Value)} {kvs : List (Str × Int)} {ks : List Str} (h : K.lookup a = some ⟨.type "dict", none, .dict es n, sl⟩) (d : He.dicW K a = some (He.keysIn w.params ks)) (T : KTab es.toList kvs) : KTb K w a kvs := by
  obtain ⟨es', n', D⟩ := He.dicW_ok d
  have e := D.at_
  rw [h] at e
  have e2 : es = es' := by
    injection e with e
    injection e with _ _ e3 _
    injection e3
  exact ⟨es', n', D, by rw [← e2]; exact T⟩
end U

/-! any plain data, away from the places of S (lists that change) -/
namespace U
open PySem PySem.Spec PyProof.Rows L2
def ws (H : Hp) (S : List Addr) : Hp := fun a => if a ∈ S then none else H a
/-- all of S are lists now -/
def AllL (H : Hp) (S : List Addr) : Prop := ∀ a ∈ S, ∃ xs, H a = some (.lst xs)
section
variable {K : PySem.W.Frag} {H H' : Hp} {S : List Addr}
theorem ws_at {p : Addr} (n : p ∉ S) : ws H S p = H p := by unfold ws; rw [if_neg n]
theorem ws_fr : Fr [] (ws H S) H := fun a o e _ => by
  unfold ws at e
  by_cases h : a ∈ S
  · rw [if_pos h] at e; cases e
  · rw [if_neg h] at e; exact e
theorem Fr.ws {R : List Addr} (f : Fr R H H') (h : ∀ a ∈ R, a ∈ S) : Fr [] (ws H S) (ws H' S) := fun a o e _ => by
  unfold U.ws at *
  by_cases c : a ∈ S
  · rw [if_pos c] at e; cases e
  · rw [if_neg c] at e
    rw [if_neg c]
    exact f a o e fun z => c (h a z)
theorem ws_upd {p : Addr} {o : HO} (n : p ∉ S) : ws (upd H p o) S = upd (ws H S) p o := by
  funext a
  by_cases c : a ∈ S
  · have e : a ≠ p := fun z => n (z ▸ c)
    rw [upd_ne e]
    unfold ws
    rw [if_pos c, if_pos c]
  · rw [ws_at c]
    by_cases e : a = p
    · subst e
      rw [upd_same, upd_same]
    · rw [upd_ne e, upd_ne e, ws_at c]
theorem AllL.new (A : AllL H S) {p : Addr} (hp : H p = none) : p ∉ S := fun z => by
  obtain ⟨xs, e⟩ := A p z
  rw [hp] at e
  cases e
theorem AllL.fr (A : AllL H S) (f : Fr [] H H') : AllL H' S := fun a ha => by
  obtain ⟨xs, e⟩ := A a ha
  exact ⟨xs, f _ _ e (by simp)⟩
theorem AllL.fr1 {t : Addr} (A : AllL H S) (f : Fr [t] H H') (ht : ∃ xs, H' t = some (.lst xs)) : AllL H' S := fun a ha => by
  by_cases c : a = t
  · rw [c]; exact ht
  · obtain ⟨xs, e⟩ := A a ha
    exact ⟨xs, f _ _ e (by simpa using c)⟩
theorem AllL.cons (A : AllL H S) {q : Addr} {xs : List V} (e : H q = some (.lst xs)) : AllL H (q :: S) := fun a ha => by
  rcases List.mem_cons.mp ha with rfl | z
  · exact ⟨xs, e⟩
  · exact A a z
theorem AllL.tail {q : Addr} (A : AllL H (q :: S)) : AllL H S := fun a ha => A a (List.mem_cons_of_mem _ ha)
theorem AllL.wtu (A : AllL H S) : Tu H (ws H S) := fun a ys => by
  have n : ∀ o, H a = some o → (∀ xs, o ≠ .lst xs) → a ∉ S := fun o e h z => by
    obtain ⟨xs, e'⟩ := A a z
    rw [e] at e'
    exact h xs (Option.some.inj e')
  exact ⟨fun e => by rw [ws_at (n _ e fun xs z => by cases z)]; exact e, fun o e => by rw [ws_at (n _ e fun xs z => by cases z)]; exact e⟩
/-- data away from S -/
def Dy (K : PySem.W.Frag) (H : Hp) (S : List Addr) (v : V) (d : PyData) : Prop := Dg K (ws H S) v d
def DyAll (K : PySem.W.Frag) (H : Hp) (S : List Addr) (vs : List V) (ds : List PyData) : Prop := DgAll K (ws H S) vs ds
theorem Dy.dg {v : V} {d : PyData} (h : Dy K H S v d) : Dg K H v d := Dg.fr ws_fr h
theorem Dy.fr {R : List Addr} {v : V} {d : PyData} (h : Dy K H S v d) (f : Fr R H H') (r : ∀ a ∈ R, a ∈ S) : Dy K H' S v d := Dg.fr (f.ws r) h
theorem Dy.fr0 {v : V} {d : PyData} (h : Dy K H S v d) (f : Fr [] H H') : Dy K H' S v d := h.fr f (by simp)
theorem DyAll.fr {R : List Addr} {vs : List V} {ds : List PyData} (h : DyAll K H S vs ds) (f : Fr R H H') (r : ∀ a ∈ R, a ∈ S) : DyAll K H' S vs ds := DgAll.fr (f.ws r) h
theorem DyAll.dg {vs : List V} {ds : List PyData} (h : DyAll K H S vs ds) : DgAll K H vs ds := DgAll.fr ws_fr h
/-- away from a place more, that is not reached since it was not there -/
theorem ws_cons {q : Addr} (hq : H q = none) : ws H (q :: S) = ws H S := by
  funext a
  unfold ws
  by_cases c : a ∈ S
  · rw [if_pos c, if_pos (List.mem_cons_of_mem _ c)]
  · by_cases e : a = q
    · rw [if_neg c, e, hq]
      split <;> rfl
    · rw [if_neg c, if_neg (by simp [e, c])]
theorem Fr.wsc {q : Addr} : Fr [] (U.ws H (q :: S)) (U.ws H S) := fun a o e _ => by
  unfold U.ws at *
  by_cases c : a ∈ q :: S
  · rw [if_pos c] at e; cases e
  · rw [if_neg c] at e
    rw [if_neg fun z => c (List.mem_cons_of_mem _ z)]
    exact e
theorem Dy.less {q : Addr} {v : V} {d : PyData} (h : Dy K H (q :: S) v d) : Dy K H S v d := Dg.fr Fr.wsc h
theorem DyAll.less {q : Addr} {vs : List V} {ds : List PyData} (h : DyAll K H (q :: S) vs ds) : DyAll K H S vs ds := DgAll.fr Fr.wsc h
theorem Dy.more {q : Addr} {o : HO} {v : V} {d : PyData} (h : Dy K H S v d) (hq : H q = none) : Dy K (upd H q o) (q :: S) v d := by
  have h1 : Dy K H (q :: S) v d := by
    unfold Dy
    rw [ws_cons hq]
    exact h
  exact h1.fr (R := []) (Fr.new hq) (by simp)
theorem DyAll.more {q : Addr} {o : HO} {vs : List V} {ds : List PyData} (h : DyAll K H S vs ds) (hq : H q = none) : DyAll K (upd H q o) (q :: S) vs ds := by
  have h1 : DyAll K H (q :: S) vs ds := by
    unfold DyAll
    rw [ws_cons hq]
    exact h
  exact h1.fr (R := []) (Fr.new hq) (by simp)
theorem Dt.dy {v : V} {d : PyData} (A : AllL H S) (h : Dt K H v d) : Dy K H S v d := (h.mono A.wtu).dg
theorem DyAll.append {vs us : List V} {ds es : List PyData} (h : DyAll K H S vs ds) (h' : DyAll K H S us es) : DyAll K H S (vs ++ us) (ds ++ es) := DgAll.append h h'
theorem Dy.tuple {v : V} {ds : List PyData} (h : Dy K H S v (.tuple ds)) : ∃ p vs, v = .ref p ∧ SqT K H p vs ∧ DyAll K H S vs ds := by
  obtain ⟨p, vs, e, s, a⟩ := Dg.tuple h
  exact ⟨p, vs, e, ws_fr.seqT s (by simp), a⟩
theorem Dy.list {v : V} {ds : List PyData} (h : Dy K H S v (.list ds)) : ∃ p vs, v = .ref p ∧ SqL K H p vs ∧ DyAll K H S vs ds := by
  obtain ⟨p, vs, e, s, a⟩ := Dg.list h
  exact ⟨p, vs, e, ws_fr.seqL s (by simp), a⟩
theorem dy_tup {p : Addr} {vs : List V} {ds : List PyData} (A : AllL H S) (hp : H p = none) (a : DyAll K H S vs ds) : Dy K (upd H p (.tup vs)) S (.ref p) (.tuple ds) := by
  have np := A.new hp
  unfold Dy
  rw [ws_upd np]
  exact .tup (.inl (.inl upd_same)) (DgAll.fr (Fr.new (by rw [ws_at np]; exact hp)) a)
theorem dy_lst {p : Addr} {vs : List V} {ds : List PyData} (A : AllL H S) (hp : H p = none) (a : DyAll K H S vs ds) : Dy K (upd H p (.lst vs)) S (.ref p) (.list ds) := by
  have np := A.new hp
  unfold Dy
  rw [ws_upd np]
  exact .lst (SqL.of upd_same) (DgAll.fr (Fr.new (by rw [ws_at np]; exact hp)) a)
theorem mkTy {xs : List V} {ds : List PyData} {Q : VK} (A : AllL H S) (d : DyAll K H S xs ds) (q : ∀ p H', H p = none → Fr [] H H' → Dy K H' S (.ref p) (.tuple ds) → Q (.ref p) H') (n : xs.length ≤ 1000 := by exact Nat.le_of_ble_eq_true rfl) : MkT xs Q H :=
  ⟨Nat.le_trans n (by decide), fun p hp => q p _ hp (Fr.new hp) (dy_tup A hp d)⟩
/-- a list that changes, its items away from itself and from S -/
def Ly (K : PySem.W.Frag) (H : Hp) (S : List Addr) (q : Addr) (ds : List PyData) : Prop := ∃ vs, H q = some (.lst vs) ∧ DyAll K H (q :: S) vs ds
theorem ly_new {p : Addr} {vs : List V} {ds : List PyData} (hp : H p = none) (a : DyAll K H S vs ds) : Ly K (upd H p (.lst vs)) S p ds := ⟨vs, upd_same, a.more hp⟩
theorem mkLy {xs : List V} {ds : List PyData} {Q : VK} (d : DyAll K H S xs ds) (q : ∀ p H', H p = none → Fr [] H H' → Ly K H' S p ds → Q (.ref p) H') (n : xs.length ≤ 1000 := by exact Nat.le_of_ble_eq_true rfl) : MkL xs Q H :=
  ⟨Nat.le_trans n (by decide), fun p hp => q p _ hp (Fr.new hp) (ly_new hp d)⟩
theorem Ly.fr {R : List Addr} {q : Addr} {ds : List PyData} (h : Ly K H S q ds) (f : Fr R H H') (r : ∀ a ∈ R, a ∈ S) (n : q ∉ R) : Ly K H' S q ds := by
  obtain ⟨vs, e, a⟩ := h
  exact ⟨vs, f _ _ e n, a.fr f fun b hb => List.mem_cons_of_mem _ (r b hb)⟩
theorem Ly.fr0 {q : Addr} {ds : List PyData} (h : Ly K H S q ds) (f : Fr [] H H') : Ly K H' S q ds := h.fr f (by simp) (by simp)
theorem Ly.at_ {q : Addr} {ds : List PyData} (h : Ly K H S q ds) : ∃ xs, H q = some (.lst xs) := by
  obtain ⟨vs, e, _⟩ := h
  exact ⟨vs, e⟩
theorem Ly.dy {q : Addr} {ds : List PyData} (h : Ly K H S q ds) (n : q ∉ S) : Dy K H S (.ref q) (.list ds) := by
  obtain ⟨vs, e, a⟩ := h
  exact .lst (SqL.of (by rw [ws_at n]; exact e)) a.less
theorem Ly.len {q : Addr} {ds : List PyData} {Q : VK} (h : Ly K H S q ds) (k : Q (.int ds.length) H) : rLenU K [.ref q] H Q := by
  obtain ⟨vs, e, a⟩ := h
  rw [← DgAll.length a] at k
  exact w_lenL (SqL.of e) k
theorem Ly.slice {q : Addr} {ds : List PyData} {lo hi : Option Int} {Q : VK} (h : Ly K H S q ds) (k : ∀ p H', H p = none → Fr [] H H' → Ly K H' S p (cutA ds lo hi) → Q (.ref p) H') : rSlU K (.ref q) lo hi H Q := by
  obtain ⟨vs, e, a⟩ := h
  exact w_slL (SqL.of e) fun p hp => k p _ hp (Fr.new hp) (ly_new hp (DgAll.cut a.less lo hi))
theorem Ly.cat {q r : Addr} {ds es : List PyData} {Q : VK} (h : Ly K H S q ds) (h' : Ly K H S r es) (n : ds.length + es.length ≤ 100000) (k : ∀ p H', H p = none → Fr [] H H' → Ly K H' S p (ds ++ es) → Q (.ref p) H') : rAddU K (.ref q) (.ref r) H Q := by
  obtain ⟨vs, e, a⟩ := h
  obtain ⟨us, e', a'⟩ := h'
  exact w_addL e e' (by rw [DgAll.length a, DgAll.length a']; omega) fun p hp => k p _ hp (Fr.new hp) (ly_new hp (a.less.append a'.less))
theorem Ly.ix {q : Addr} {ds : List PyData} {i : Int} {Q : VK} (h : Ly K H S q ds) (h0 : 0 ≤ i) (h1 : i < ds.length) (k : ∀ v d, Dy K H (q :: S) v d → ds[i.toNat]? = some d → Q v H) : rIx K (.ref q) (.int i) H Q := by
  obtain ⟨vs, e, a⟩ := h
  have ek : i = ((i.toNat : Nat) : Int) := by omega
  have hk : i.toNat < ds.length := by omega
  obtain ⟨v, hv, dv⟩ := DgAll.at a (List.getElem?_eq_getElem hk)
  refine w_ixL (SqL.of e) ?_ (k v _ dv (List.getElem?_eq_getElem hk))
  rw [ek]
  exact atI_nat hv
/-- a change of the list itself -/
theorem Ly.put {q : Addr} {vs : List V} {ds : List PyData} (A : AllL H (q :: S)) (a : DyAll K H (q :: S) vs ds) : Ly K (upd H q (.lst vs)) S q ds := ⟨vs, upd_same, a.fr (R := [q]) (Fr.mut (by simp)) (by simp)⟩
theorem DgAll.set : ∀ {vs : List V} {ds : List PyData} {v : V} {d : PyData} (j : Nat), DgAll K H vs ds → Dg K H v d → DgAll K H (vs.set j v) (ds.set j d)
  | _, _, _, _, _, .nil, _ => .nil
  | _, _, _, _, 0, .cons x y, b => .cons b y
  | _, _, _, _, j + 1, .cons x y, b => .cons x (DgAll.set j y b)
theorem DyAll.set {vs : List V} {ds : List PyData} {v : V} {d : PyData} (a : DyAll K H S vs ds) (b : Dy K H S v d) (j : Nat) : DyAll K H S (vs.set j v) (ds.set j d) := DgAll.set j a b
theorem DgAll.rev : ∀ {vs : List V} {ds : List PyData}, DgAll K H vs ds → DgAll K H vs.reverse ds.reverse
  | _, _, .nil => .nil
  | _, _, .cons x y => by
    rw [List.reverse_cons, List.reverse_cons]
    exact DgAll.append (DgAll.rev y) (.cons x .nil)
theorem DyAll.reverse {vs : List V} {ds : List PyData} (a : DyAll K H S vs ds) : DyAll K H S vs.reverse ds.reverse := DgAll.rev a
theorem Ly.rev {q : Addr} {ds : List PyData} {Q : VK} (A : AllL H (q :: S)) (h : Ly K H S q ds) (k : ∀ H', Fr [q] H H' → Ly K H' S q ds.reverse → Q .non H') : rReverse (.ref q) [] H Q := by
  obtain ⟨vs, e, a⟩ := h
  exact ⟨q, vs, rfl, rfl, e, k _ (Fr.mut (by simp)) (Ly.put A a.reverse)⟩
theorem Ly.toT {q : Addr} {ds : List PyData} {Q : VK} (A : AllL H S) (h : Ly K H S q ds) (k : ∀ p H', Fr [] H H' → Dy K H' S (.ref p) (.tuple ds) → Q (.ref p) H') : rTupleU K [.ref q] H Q := by
  obtain ⟨vs, e, a⟩ := h
  exact w_tupleL (SqL.of e) fun p hp => k p _ (Fr.new hp) (dy_tup A hp a.less)
theorem Dy.listOf {v : V} {d : PyData} {ds : List PyData} {Q : VK} (h : Dy K H S v d) (e : d = .tuple ds ∨ d = .list ds) (k : ∀ p H', H p = none → Fr [] H H' → Ly K H' S p ds → Q (.ref p) H') : rListU K [v] H Q := by
  rcases e with rfl | rfl
  · obtain ⟨p, vs, rfl, s, a⟩ := h.tuple
    exact w_listT s fun p hp => k p _ hp (Fr.new hp) (ly_new hp a)
  · obtain ⟨p, vs, rfl, s, a⟩ := h.list
    exact w_listL s fun p hp => k p _ hp (Fr.new hp) (ly_new hp a)
theorem Dy.len {v : V} {d : PyData} {ds : List PyData} {Q : VK} (h : Dy K H S v d) (e : d = .tuple ds ∨ d = .list ds) (k : Q (.int ds.length) H) : rLenU K [v] H Q := by
  rcases e with rfl | rfl
  · obtain ⟨p, vs, rfl, s, a⟩ := h.tuple
    rw [← DgAll.length a] at k
    exact w_lenT s k
  · obtain ⟨p, vs, rfl, s, a⟩ := h.list
    rw [← DgAll.length a] at k
    exact w_lenL s k
end
end U

/-! own exceptions whose __init__ calls the __init__ of the own class above; isinstance of a caught one that has its dict -/
namespace U
open PySem PySem.Spec PyProof.Rows L2
/-- what the class above says: its __init__ is ValueError's -/
structure UpC (K : PySem.W.Frag) (C : Addr) : Prop where
  rd : PySem.W.readsIn K C (.type "type") = true
  sp : PySem.W.specialIn K (.ref C) "__getattribute__" = some (some (.builtin "type.__getattribute__"))
  ini : PySem.W.findCls K (.ref C) (.type "type") "__init__" = some (.val (.builtin "ValueError.__init__"))
/-- what a class says, whose instances are caught and asked -/
structure AskC (K : PySem.W.Frag) (C : Addr) : Prop where
  cl : (PySem.W.clsIn K C).isSome = true
  ga : PySem.W.findIn K (.ref C) "__getattribute__" = some (some (.builtin "BaseException.__getattribute__"))
  gg : PySem.W.findIn K (.ref C) "__getattr__" = some none
  ex : PySem.W.subIn K (.ref C) (.type "BaseException") = some true
  hd : PySem.W.hasDictIn K C = true
  cc : PySem.W.findIn K (.ref C) "__class__" = some (some (.builtin "object.__class__"))
  gt : PySem.W.specialIn K (.builtin "object.__class__") "__get__" = some (some (.builtin "getset_descriptor.__get__"))
  tk : PySem.W.takesIn K (.builtin "object.__class__") = some true
  mo : PySem.W.mroIn K C (.type "object") = some true
theorem AskC.xf {K : PySem.W.Frag} {C : Addr} (A : AskC K C) : XfC K C := ⟨A.ga, A.gg, A.ex, A.hd⟩
section
variable {X : Cx} {e : Expr} {es : List Expr} {ta : TA} {p1 p2 pos : Pos}
theorem pe_upinit {x : Str} {CV : Addr} {pl : Sem Bool} (up : UpC X.K CV) (hg : Gl X x) (hm : X.mg x = some (.ref CV)) (ha : PA X (e :: es) ta) (hdb : (x == ("__debug__" : Str)) = false := by decide +kernel)
    (hc : eval (.Call (.Attribute (.Name x p1) "__init__" p2) (e :: es) [] pos) X.env = (do
      let ov ← eval (.Name x p1) X.env
      standAt p2.atName
      let (f, first) ← holding [ov] (getMethod ov "__init__" pl)
      callWith pos f first (backTo pos (starEach (e :: es) X.env)) (backToKw pos (keywordEach [] X.env))) := by rfl)
    (he : starEach (e :: es) X.env = (false, eval e X.env) :: starEach es X.env := by rfl) (hpl : (backTo pos (starEach es X.env)).any (·.1) = false := by rfl) :
    PE X (.Call (.Attribute (.Name x p1) "__init__" p2) (e :: es) [] pos) (tVeI X.K ta) := by
  refine ⟨fun pins s σ H Q I q => ?_⟩
  refine PySem.W.methodCall_KW (ld_glob I hg hm ?_ hdb) hc
  refine PySem.W.method_cls I.kIn up.sp (PySem.W.cls_value I.kIn up.rd up.ini (by decide +kernel) ?_)
  refine PyProof.Rows.callWith_method1 (thn (ha.run pos pins _ σ H _ (I.tok _) q) fun us s1 ⟨vs, H1, I1, rv, a, C, ws, ev, lw, T, ea, q1⟩ => ?_) he hpl
  subst ev
  cases rv with
  | @cons _ u0 _ ur ra rw' =>
    obtain rfl : u0 = Value.ref a := ra
    exact oinit_ok T I1 ea (by rw [← Paired.length rw', sizeLine_eq]; omega) fun s' J => ⟨.non, H1, J, rfl, q1⟩
/-- isinstance(e, c), isinstance(e, (c, ..)): e caught, with its dict -/
def rIsED (K : PySem.W.Frag) (a : Addr) (cls : Value) (d : Option Addr) : List V → Hp → VK → Prop := fun xs H Q => ∃ (D dx : Addr) (fs : List (Str × V)) (b : Bool), cls = .ref D ∧ d = some dx ∧ H dx = some (.xd fs) ∧ AskC K D ∧
  ((∃ (c : V) (cv : Value), xs = [.ref a, c] ∧ (∀ u, RelV c u → u = cv) ∧ PySem.W.kitOne K (.ref D) cv = some b) ∨
    ∃ (tp : Addr) (cs : List Addr), xs = [.ref a, .ref tp] ∧ PTup H tp (cs.map V.ref) ∧ PySem.W.kitAny K (.ref D) (cs.map Value.ref) = some b) ∧ Q (.bl b) H
theorem call_isED {a : Addr} {oe : Obj} {cls : Value} {d : Option Addr} {pn : List (Addr × Obj)} (hz : Zc cls d oe) (hf : ∃ vs, oe.data = .fields vs) : CallR (X.suite a ((a, oe) :: pn)) (.builtin "isinstance") (rIsED X.K a cls d) := by
  intro pins s σ H xs us Q I rx h
  obtain ⟨D, dx, fs, b, rfl, rfl, hdx, A, hc, q⟩ := h
  obtain ⟨hget, _⟩ := I.pin (a, oe) (List.mem_append.mpr (.inl List.mem_cons_self))
  obtain ⟨vs, hv⟩ := hf
  obtain ⟨mA, hns, _⟩ := (show ObjOk X.prog X.w H s.heap dx (.xd fs) from I.hok dx _ hdx)
  obtain ⟨od, ho, _⟩ := lookIn_ns hns
  have J : PySem.W.InstAt s.heap a oe D (some od) := ⟨hget, hz.1, by unfold PySem.W.notCls; rw [hv], by rw [hz.2]; exact ho⟩
  have Z := PySem.W.kitx_exc (x := a) (ox := oe) (od := some od) A.cl A.ga A.gg A.ex A.cc A.gt A.tk A.mo
  rcases hc with ⟨c, cv, rfl, hcv, hk⟩ | ⟨tp, cs, rfl, ⟨us0, ht⟩, hk⟩
  · obtain ⟨u1, u2, rfl, r1, r2⟩ := vals2 rx
    obtain rfl : u1 = Value.ref a := r1
    have ec := hcv _ r2
    subst ec
    exact PySem.W.kia_one Z I.kIn J hk (fun z => nomatch z) fun tk => ⟨.bl b, H, I.kept (t' := tk) fun _ _ z => z, rfl, q⟩
  · obtain ⟨u1, u2, rfl, r1, r2⟩ := vals2 rx
    obtain rfl : u1 = Value.ref a := r1
    obtain rfl : u2 = Value.ref tp := r2
    obtain ⟨g0, _, its, rv, o', ho', hc', n', hd'⟩ := (show ObjOk X.prog X.w H s.heap tp (.frz (tfz us0) (.tup (cs.map V.ref))) from I.hok tp _ ht)
    rw [g0] at ho'
    cases ho'
    have eits : us0 = cs.map Value.ref := by
      have z : Data.seq us0.toArray 0 = Data.seq its.toArray n' := hd'
      injection z with z1 _
      have z2 : us0 = its := by simpa using z1
      rw [z2]
      exact refs_at rv
    rw [eits] at g0
    exact PySem.W.kia_tup (its := cs.map Value.ref) (n := 0) (dd := none) (sl := #[]) Z I.kIn J g0 hk (fun z => nomatch z) fun tk => ⟨.bl b, H, I.kept (t' := tk) fun _ _ z => z, rfl, q⟩
end
/-! ### defs that may raise -/
structure Fxx (P : Program) (w : World) (K : PySem.W.Frag) (mg : Str → Option Value) (base : Heap) (k : Nat) (x : Str) (ps : List Str) (sp : Sp) : Prop where
  ex : ∃ f fd, FnOk P w K mg base (L2.CX P w) k f fd ps sp ∧ mg x = some (.ref f) ∧ PySem.W.keepIn K (.ref f) = true ∧ Binds K fd ps []
theorem Loc.okX {P : Program} {w : World} {K : PySem.W.Frag} {mg : Str → Option Value} {base : Heap} {x : Str} {st : Stmt} {N ps : List Str} {k : Nat} {sp : Sp} (L : Loc K mg x ps st) (S : FnScope N ps (defScope st)) (len : ∀ vs H Q E, sp vs H Q E → vs.length = ps.length)
    (hbody : ∀ (f : Addr) (cdv : Value) (A : Around) (outer : List Env) (s : Shared) (H : Hp) (vs : List V) (Q : VK) (E : XK), Room k (A.deeper (envOfC x (defScope st) s.heap.objs.size f cdv)) → sp vs H Q E →
      ∃ t, PSs (cxOf (L2.CX P w) P w K mg base N x (defScope st) f cdv A outer s H E) (defBody st) t ∧ t ⟨fun _ H' => Q .non H', Q, fun _ _ => False, fun _ _ => False⟩ (start N vs) H) : Fxx P w K mg base (k + 1) x ps sp := by
  obtain ⟨f, fd, F, m, b⟩ := L.ex
  exact ⟨f, fd, F.okX S len fun cdv A outer s H vs Q E hr h => hbody f cdv A outer s H vs Q E hr h, m, F.kp, b⟩
theorem pe_fxx {X : Cx} {k j : Nat} {x : Str} {ps : List Str} {sp : Sp} {W : WX} {e : Expr} {es : List Expr} {t : TA} {p pos : Pos} (G : Fxx X.prog X.w X.K X.mg X.base k x ps sp) (hr : Room j X.A) (hkj : k ≤ j) (tk : Takes X W) (ha : PA X (e :: es) t) (hg : Gl X x := by rfl)
    (hdb : (x == ("__debug__" : Str)) = false := by decide +kernel)
    (he : starEach (e :: es) X.env = (false, eval e X.env) :: starEach es X.env := by rfl) (hpl : (backTo pos (starEach es X.env)).any (·.1) = false := by rfl) : PE X (.Call (.Name x p) (e :: es) [] pos) (tCallS sp (WE W) t) := by
  obtain ⟨f, fd, a, b, c, d⟩ := G.ex
  exact pe_callS (a.mono hkj) hr hg b c d (fun σ => passAt tk σ) ha hdb he hpl
theorem w_callS {sp : Sp} {E : L2.St → XK} {t : TA} {σ : L2.St} {H : Hp} {Q : VK} (q : t σ H fun vs H1 => sp vs H1 Q (E σ)) : tCallS sp E t σ H Q := q
/-- the j-th statement of a class -/
def clsS : Stmt → Nat → Stmt
  | .ClassDef _ _ _ body _ _ _ _ _ _ _, j => body.getD j (.Pass ⟨0, 0, 0, 0⟩)
  | _, _ => .Pass ⟨0, 0, 0, 0⟩
end U

set_option maxHeartbeats 1000000
/-! list(reversed(a tuple)): a new list -/
namespace U
open PySem PySem.Spec PyProof.Rows L2 RT
theorem nolen_rt : typeLookup (.type "reversed") "__len__" = pure none := by rw [typeLookup_type, builtinLookup_eq_fast]; kernel_rfl
theorem slot_rt_hint : Slot "reversed" "__length_hint__" "reversed.__length_hint__" :=
  .of (owner := "reversed") (n := "__length_hint__") (by rw [typeLookup_type, builtinLookup_eq_fast]; kernel_rfl) (by decide +kernel) (by decide +kernel) (by decide +kernel)
    (by first | exact .inl (by decide +kernel) | exact .inr (by decide +kernel)) (by rw [isSubtype_type]; kernel_rfl)
theorem entry_rt_hint : entryFor table "reversed.__length_hint__" = some Builtin.«reversed.__length_hint__» := entryFor_of_tree (by kernel_rfl)
theorem args_rt_hint (a : Value) : argsOk "reversed.__length_hint__" ⟨[a], []⟩ := by
  unfold argsOk; rw [signature?_of (id := "reversed.__length_hint__") (n := ['_', '_', 't', 'n', 'i', 'h', '_', 'h', 't', 'g', 'n', 'e', 'l', '_', '_']) (o := ['d', 'e', 's', 'r', 'e', 'v', 'e', 'r']) (by kernel_rfl) owner_rt]; kernel_rfl
section
variable {prog : Program} {w : World} {A : Around} {E : Value → Shared → Prop} {s : Shared}
theorem call_hint_rt {it t : Addr} {items : Array Value} {Q : Value → Shared → Prop} (hit : IsRt s.heap it t ((items.size : Int) - 1)) (ht : IsTup s.heap t items) (hz : items.size ≤ sizeLine)
    (h : ∀ tk tk', s.toks ≤ tk' → Q (.int (items.size : Int) tk) { s with toks := tk' }) : wpAny (model prog w) A (call (.builtin "reversed.__length_hint__") [.ref it]) Q E s := by
  obtain ⟨o, ho, hc, hd⟩ := id hit
  have hn := line63
  refine wpAny_call_entry slot_rt_hint hit.typeIs entry_rt_hint ?_ (args_rt_hint _)
  unfold Builtin.«reversed.__length_hint__»
  refine wpAny_bind (wpAny_of_eq (a := Value.ref it) rfl ?_)
  try dsimp only
  refine wpAny_bind (wpAny_field ho hd (x := .ref t) rfl ?_)
  try dsimp only
  try rw [if_neg (by decide)]
  try dsimp only
  refine wpAny_bind (len_tuple ht (by omega) ?_)
  refine wpAny_bind (wpAny_of_eq (a := some ((items.size : Nat) : Int)) rfl ?_)
  try dsimp only
  refine wpAny_bind (wpAny_field (s := { s with toks := s.toks + 1 + 1 }) ho hd (x := rawInt ((items.size : Int) - 1)) rfl ?_)
  try dsimp only
  show wpAny _ _ (if (items.size : Int) < (items.size : Int) - 1 + 1 then _ else retInt ((items.size : Int) - 1 + 1)) _ _ _
  rw [if_neg (by omega)]
  rw [show (items.size : Int) - 1 + 1 = (items.size : Int) by omega]
  unfold retInt
  refine wpAny_bind (wpAny_mkInt ?_)
  exact wpAny_pure ⟨_, rfl, h _ _ (by show s.toks ≤ s.toks + 1 + 1 + 1; omega)⟩
theorem hint_rt {it t : Addr} {items : Array Value} {Q : Bool → Shared → Prop} (hit : IsRt s.heap it t ((items.size : Int) - 1)) (ht : IsTup s.heap t items) (hz : items.size ≤ sizeLine)
    (h : ∀ b tk', s.toks ≤ tk' → Q b { s with toks := tk' }) : wpAny (model prog w) A (Builtin.List.listLengthHint (.ref it)) Q E s := by
  have hT := hit.typeIs
  have hn := line63
  unfold Builtin.List.listLengthHint
  refine wpAny_bind (wpAny_specialOf hT nolen_rt ?_)
  show wpAny _ A (specialOf (Value.ref it) (Str.ofString "__length_hint__") >>= _) _ _ _
  refine wpAny_bind (wpAny_specialOf hT slot_rt_hint.lookup ?_)
  generalize hid : ("reversed.__length_hint__" : String) = id0
  wp_delta
  rw [show splitId id0 = some ("reversed", "__length_hint__") from by subst hid; decide +kernel]
  subst hid
  refine wpAny_bind (wpAny_isInstance (b := true) hT (by rw [isSubtype_type]; kernel_rfl) ?_)
  rw [if_neg (by decide)]
  show wpAny _ A (if _ then _ else _) _ _ _
  rw [if_neg (by decide +kernel)]
  refine wpAny_bind (wpAny_rule ?_)
  refine wpAny_bind (wpAny_of_eq (slot_rt_hint.bind _) ?_)
  try dsimp only
  refine wpAny_bind (wpAny_attempt (call_hint_rt hit ht hz fun tk tk' ht' => ?_))
  show wpAny _ _ (asInt? (Value.int ((items.size : Nat) : Int) tk) >>= _) _ _ _
  have hai : asInt? (Value.int ((items.size : Nat) : Int) tk) = pure (some ((items.size : Nat) : Int)) := rfl
  rw [hai, pure_bind]
  try dsimp only
  have hfi : Builtin.List.listFitsIndex (items.size : Int) = true := by
    unfold Builtin.List.listFitsIndex
    rw [decide_eq_true (show -(2 ^ 63 : Int) ≤ (items.size : Int) by omega), decide_eq_true (show (items.size : Int) < 2 ^ 63 by omega)]
    rfl
  rw [if_neg (by rw [hfi]; exact Bool.false_ne_true)]
  rw [if_neg (by omega)]
  rw [if_neg (by unfold Builtin.List.listTooLong; rw [decide_eq_true_eq, Int.toNat_natCast]; omega)]
  exact wpAny_pure (h _ _ ht')
theorem walks_rt (hh : A.handled = none) (it t : Addr) (hne : t ≠ it) (items : Array Value) (hz : items.size ≤ sizeLine) :
    WalksS prog w A it [it, t] [it] (fun a b => b = a) items.size (fun i v => items[items.size - 1 - i]? = some v) (fun i s => i ≤ items.size ∧ IsRt s.heap it t ((items.size : Int) - 1 - (i : Nat)) ∧ IsTup s.heap t items) where
  sub := by simp
  grefl := fun _ => rfl
  gtrans := fun a b c h1 h2 => by rw [h2, h1]
  frame := fun i s h' tk st _ k => ⟨st.1, st.2.1.at fun o e => k it (by simp) o e, by
    obtain ⟨o, e, r⟩ := st.2.2
    exact ⟨o, k t (by simp) o e, r⟩⟩
  item := fun i s Q E hi st h => by
    obtain ⟨_, h1, h2⟩ := st
    have hlt : items.size - 1 - i < items.size := by omega
    have e1 : (items.size : Int) - 1 - ((i : Nat) : Int) = ((items.size - 1 - i : Nat) : Int) := by omega
    rw [e1] at h1
    refine next_rt_item h1 h2 (x := items[items.size - 1 - i]) (Array.getElem?_eq_getElem hlt) hz fun h' st' sb => ?_
    have e2 : ((items.size - 1 - i : Nat) : Int) - 1 = (items.size : Int) - 1 - ((i + 1 : Nat) : Int) := by omega
    rw [e2] at st'
    refine h _ _ (Array.getElem?_eq_getElem hlt) ⟨hi, st', ?_⟩ ⟨fun b o hb e => (sb.2 b (by simpa using hb)).trans e, rfl, rfl, rfl, Nat.le_succ _⟩
    obtain ⟨o, e, r⟩ := h2
    exact ⟨o, (sb.2 t hne).trans e, r⟩
  done := fun s Q E st h => by
    obtain ⟨_, h1, h2⟩ := st
    have e1 : (items.size : Int) - 1 - ((items.size : Nat) : Int) = -1 := by omega
    rw [e1] at h1
    refine next_rt_end hh h1 fun h' eb => h _ ⟨fun b o hb e => eb b o (by simpa using hb) e, rfl, rfl, rfl, Nat.le_refl _⟩
  self := fun i s Q E st h => iter_rt st.2.1 h
end
section
variable {prog : Program} {w : World} {A : Around} {s : Shared} {R : Result → Shared → Prop}
theorem extend_rt {it t : Addr} {items : Array Value} (hh : A.handled = none) (hit : IsRt s.heap it t ((items.size : Int) - 1)) (ht : IsTup s.heap t items) (hz : items.size ≤ sizeLine) (hne : t ≠ it) (S : Addr) (res : Value) (c₀ : Nat) (hSi : S ≠ it) (hSt : S ≠ t)
    (hS : s.heap.get? S = some { cls := .type "list", data := .seq #[] c₀ })
    (hR : ∀ s' acc' c', Moved (S :: [it]) (fun a b => b = a) s s' → s'.heap.get? S = some { cls := .type "list", dict := none, data := .seq acc' c', slots := #[] } → ItemsOf (fun i v => items[items.size - 1 - i]? = some v) acc' items.size → R (.ok (.ret res)) s') :
    wpAny (model prog w) A.in1 (Builtin.List.listExtendWith (.ref S) (.ref it) res)
      (fun fin s' => match fin with | .done f => R (.ok f) s' | .again c' => c'.quiet = true ∧ codeAny (model prog w) A c' R s') (fun e s' => R (.error e) s') s := by
  have hSf : S ∉ [it, t] := by simp [hSi, hSt]
  have W := walks_rt (prog := prog) (w := w) (A := A.in1) hh it t hne items hz
  have hT := hit.typeIs
  unfold Builtin.List.listExtendWith
  refine wpAny_bind (wpAny_typeOf hT ?_)
  have h1 : Builtin.List.listSameRef (.ref S) (.ref it) = false := by simp [Builtin.List.listSameRef, hSi]
  have h2 : (Value.type "reversed" == Value.type "list") = false := by decide
  have h3 : (Value.type "reversed" == Value.type "tuple") = false := by decide
  simp only [h1, h2, h3, Bool.or_false, Bool.false_eq_true, if_false]
  refine wpAny_bind (iter_rt hit ?_)
  refine wpAny_bind (wpAny_holding (hint_rt hit ht hz fun b tk' htk => ?_))
  have hit' : IsRt s.heap it t ((items.size : Int) - 1 - ((0 : Nat) : Int)) := by rw [show (items.size : Int) - 1 - ((0 : Nat) : Int) = (items.size : Int) - 1 by omega]; exact hit
  cases b with
  | false =>
    show wpAny _ A.in1 (again (.builtin "list.extend.loop" ⟨[.ref S, .ref it, res], []⟩)) _ _ _
    refine wpAny_pure ⟨plainId_quiet F.plain_extend_loop _, codeAny_extend_loopS W hz _ hSf _ items.size 0 _ _ _ rfl (Nat.zero_le _) ⟨Nat.zero_le _, hit', ht⟩ hS (ItemsOf.nil _) fun s' acc' c' hm hS' hacc => ?_⟩
    exact hR s' acc' c' (Moved.trans (s' := { s with toks := tk' }) (fun a b c h1 h2 => by rw [h2, h1]) ⟨fun _ _ _ e => e, rfl, rfl, rfl, htk⟩ hm) hS' hacc
  | true =>
    show wpAny _ A.in1 (rule "list.extend.makes-room" >>= fun _ => Builtin.List.listTouch (.ref S) >>= fun _ =>
      again (.builtin "list.extend.loop" ⟨[.ref S, .ref it, res], []⟩)) _ _ _
    refine wpAny_bind (wpAny_rule ?_)
    refine wpAny_bind ?_
    show wpAny _ A.in1 (updateSeq S (·.push .none) >>= fun _ => updateSeq S (·.pop)) _ _ _
    refine wpAny_bind (wpAny_updateSeq hS rfl ?_)
    have hS₂ := Heap.get?_update_self (Obj.mapSeq (·.push Value.none)) hS rfl
    refine wpAny_updateSeq (hz := by seq_fits) hS₂ rfl ?_
    have hS₃ := Heap.get?_update_self (Obj.mapSeq (·.pop)) hS₂ rfl
    have oth : ∀ b o, b ≠ S → s.heap.get? b = some o → ((s.heap.update S (Obj.mapSeq (·.push Value.none))).update S (Obj.mapSeq (·.pop))).get? b = some o :=
      fun b o hb e => (Heap.get?_update_other _ _ (Ne.symm hb)).trans ((Heap.get?_update_other _ _ (Ne.symm hb)).trans e)
    have st0 := W.frame 0 s _ tk' ⟨Nat.zero_le _, hit', ht⟩ htk fun b hb o e => oth b o (fun h => hSf (h ▸ hb)) e
    refine wpAny_pure ⟨plainId_quiet F.plain_extend_loop _, codeAny_extend_loopS W hz _ hSf _ items.size 0 _ _ _ rfl (Nat.zero_le _) st0 hS₃ (ItemsOf.nil _) fun s' acc' c' hm hS' hacc => ?_⟩
    refine hR s' acc' c' (Moved.trans (s' := { s with heap := (s.heap.update S (Obj.mapSeq (·.push Value.none))).update S (Obj.mapSeq (·.pop)), toks := tk' }) (fun a b c h1 h2 => by rw [h2, h1]) ⟨fun b o hb e => oth b o (fun h => hb (h ▸ List.mem_cons_self)) e, rfl, rfl, rfl, htk⟩ hm) hS' hacc
end
section
variable {prog : Program} {w : World} {A : Around} {E : Value → Shared → Prop} {s : Shared}
theorem call_list_rt {it t : Addr} {items : Array Value} {Q : Value → Shared → Prop} (hh : A.handled = none) (hit : IsRt s.heap it t ((items.size : Int) - 1)) (ht : IsTup s.heap t items) (hz : items.size ≤ sizeLine) (hne : t ≠ it)
    (hQ : ∀ h' tk acc' c', (∀ b o, b ≠ it → s.heap.get? b = some o → h'.get? b = some o) → h'.get? s.heap.objs.size = some { cls := .type "list", dict := none, data := .seq acc' c', slots := #[] } →
      ItemsOf (fun i v => items[items.size - 1 - i]? = some v) acc' items.size → Q (.ref s.heap.objs.size) { s with heap := h', toks := tk }) :
    wpAny (model prog w) A (call (.type "list") [.ref it]) Q E s := by
  obtain ⟨oi, hoi, _⟩ := id hit
  obtain ⟨ot, hot, _⟩ := id ht
  have hSi : s.heap.objs.size ≠ it := Nat.ne_of_gt (Heap.lt_size hoi)
  have hSt : s.heap.objs.size ≠ t := Nat.ne_of_gt (Heap.lt_size hot)
  refine callType_codes (Q₁ := fun obj s₁ => obj = .ref s.heap.objs.size ∧ s₁ = { s with heap := s.heap.push { cls := .type "list", data := .seq #[] } }) F.called_list (F.typeCall_list_1 _) F.entry_list_init
    (code_list_new _ ⟨rfl, rfl⟩) fun obj s₁ h₁ => ?_
  obtain ⟨rfl, rfl⟩ := h₁
  have hS : (s.heap.push { cls := .type "list", data := .seq #[] }).get? s.heap.objs.size = some { cls := .type "list", data := .seq #[] } := Heap.get?_push_size _ rfl
  refine ⟨⟨_, hS, rfl⟩, F.args_list_init_2 _ _, ?_⟩
  show wpAny _ A.in1.in1 (do let old ← Builtin.List.listItems (.ref s.heap.objs.size); Builtin.List.listUpdate (.ref s.heap.objs.size) (fun _ => #[]); letGo old.toList.reverse; Builtin.List.listExtendWith (.ref s.heap.objs.size) (.ref it) .none) _ _ _
  refine wpAny_bind ?_
  unfold Builtin.List.listItems
  refine wpAny_bind (wpAny_seqItems hS rfl (wpAny_pure ?_))
  show wpAny _ A.in1.in1 (updateSeq s.heap.objs.size (fun _ => #[]) >>= fun _ => letGo (#[] : Array Value).toList.reverse >>= fun _ => Builtin.List.listExtendWith (.ref s.heap.objs.size) (.ref it) .none) _ _ _
  refine wpAny_bind (wpAny_updateSeq hS rfl ?_)
  have hS₂ := Heap.get?_update_self (Obj.mapSeq (fun _ => (#[] : Array Value))) hS rfl
  have oth : ∀ b o, s.heap.get? b = some o → ((s.heap.push { cls := .type "list", data := .seq #[] }).update s.heap.objs.size (Obj.mapSeq (fun _ => (#[] : Array Value)))).get? b = some o :=
    fun b o e => (Heap.get?_update_other _ _ (Nat.ne_of_gt (Heap.lt_size e))).trans (Heap.get?_push_of_some _ e)
  refine wpAny_bind (wpAny_letGo ?_)
  refine extend_rt (A := A.in1) hh (hit.at fun o e => oth it o e) ?_ hz hne _ _ _ hSi hSt hS₂ fun s' acc' c' hm hS' hacc => ?_
  · obtain ⟨o, e, r⟩ := ht
    exact ⟨o, oth t o e, r⟩
  · refine ⟨rfl, ?_⟩
    rw [Moved.eq_with hm]
    refine hQ s'.heap s'.toks acc' c' (fun b o hb e => hm.heap b o (fun hmem => ?_) (oth b o e)) hS' hacc
    rcases List.mem_cons.mp hmem with e' | hmem
    · exact absurd (Heap.lt_size e) (by rw [e']; exact Nat.lt_irrefl _)
    · exact hb (List.mem_singleton.mp hmem)
end
def rListRevT (K : PySem.W.Frag) (v : V) (H1 : Hp) (Q : VK) : Prop := ∃ (a : Addr) (xs : List V), v = .ref a ∧ SqT K H1 a xs ∧ ∀ q, H1 q = none → Q (.ref q) (upd H1 q (.lst xs.reverse))
def tListRevT (K : PySem.W.Frag) (te : TE) : TE := fun σ H Q => te σ H fun v H1 => rListRevT K v H1 Q
section
variable {X : Cx}
theorem pe_listRevT {e : Expr} {te : TE} {p p2 pos pos2 : Pos} (hc : X.calm = true) (hg : Gl X "list") (hm : X.mg "list" = none) (hg2 : Gl X "reversed") (hm2 : X.mg "reversed" = none) (he : PE X e te)
    (hs : starEach [e] X.env = (false, eval e X.env) :: starEach [] X.env := by rfl)
    (hs2 : starEach [.Call (.Name "reversed" p2) [e] [] pos2] X.env = (false, eval (.Call (.Name "reversed" p2) [e] [] pos2) X.env) :: starEach [] X.env := by rfl) :
    PE X (.Call (.Name "list" p) [.Call (.Name "reversed" p2) [e] [] pos2] [] pos) (tListRevT X.K te) := by
  refine ⟨fun pins s σ H Q I h => ?_⟩
  refine Call_ (ld_blt I hg hm boot_list (PyProof.Rows.callWith_type1 (args_cons (Call_ (ld_blt I hg2 hm2 PyProof.Rows.boot_reversed (PyProof.Rows.callWith_type1 (args_cons (thn (he.run pins s σ H _ I h) fun u s1 ⟨v, H1, I1, r1, q1⟩ => args_nil ?_) hs) hs rfl))) hs2) hs2 rfl))
  obtain ⟨a, xs, ev, hq, q⟩ := q1
  subst ev
  obtain rfl : u = Value.ref a := r1
  obtain ⟨its, rv, p', hz⟩ := I1.tuple hq
  have hl := rv.length
  have hn := line63
  refine call_reversed_tup p' (fun A E Q k => len_tuple p' (by simp only [List.size_toArray] <;> omega) k) (args_nil ?_)
  have k0 : ∀ b o, s1.heap.get? b = some o → (s1.heap.push (rtObj a ((its.toArray.size : Int) - 1))).get? b = some o := fun b o e => Heap.get?_push_of_some _ e
  have I2 : Inv X pins σ H1 { s1 with heap := s1.heap.push (rtObj a ((its.toArray.size : Int) - 1)), toks := s1.toks + 1 + 1 } := I1.kept (t' := s1.toks + 1 + 1) k0
  obtain ⟨f0, f1, f2, f3, f4, f5⟩ := I1.fpOk (H' := H1) (b := s1.heap.objs.size) (Nat.le_refl _) (I1.hok.fresh (Nat.le_refl _))
  obtain ⟨ot, hot, _⟩ := id p'
  have hne : a ≠ s1.heap.objs.size := Nat.ne_of_lt (Heap.lt_size hot)
  have hn' : its.toArray.size ≤ sizeLine := by rw [List.size_toArray, ← rv.length]; exact hz
  refine call_list_rt (s := { s1 with heap := s1.heap.push (rtObj a ((its.toArray.size : Int) - 1)), toks := s1.toks + 1 + 1 }) (I1.ok.hd hc) ⟨_, Heap.get?_push_size _ rfl, rfl, rfl⟩ (by
    obtain ⟨o, e, r⟩ := p'
    exact ⟨o, Heap.get?_push_of_some _ e, r⟩) hn' hne fun h' tk acc c' hk e' hi => ?_
  have hfr : (s1.heap.push (rtObj a ((its.toArray.size : Int) - 1))).objs.size = s1.heap.objs.size + 1 := by simp [Heap.push]
  have hfresh : H1 (s1.heap.push (rtObj a ((its.toArray.size : Int) - 1))).objs.size = none := I1.hok.fresh (by rw [hfr]; exact Nat.le_succ _)
  refine ⟨.ref _, upd H1 _ (.lst xs.reverse), I2.turnedNew (ch := [s1.heap.objs.size]) (t' := tk) (fun b o hb e => hk b o (fun z => hb (by simp [z])) e) (fun b hb => ?_) (Nat.le_refl _) (show ObjOk X.prog X.w _ _ _ (.lst xs.reverse) from ⟨by rw [List.length_reverse]; exact hz, acc.toList, c', vals_rev rv hi, ?_⟩), rfl, q _ hfresh⟩
  · rw [List.mem_singleton.mp hb]
    exact ⟨f0, f1, f2, f3, f4, f5⟩
  · rw [Array.toArray_toList]
    exact e'
end
theorem pe_listRevU {X : Cx} {K : PySem.W.Frag} {e : Expr} {te : TE} {p p2 pos pos2 : Pos} (hK : X.K = K) (hc : X.calm = true) (hg : Gl X "list") (hm : X.mg "list" = none) (hg2 : Gl X "reversed") (hm2 : X.mg "reversed" = none) (he : PE X e te)
    (hs : starEach [e] X.env = (false, eval e X.env) :: starEach [] X.env := by rfl)
    (hs2 : starEach [.Call (.Name "reversed" p2) [e] [] pos2] X.env = (false, eval (.Call (.Name "reversed" p2) [e] [] pos2) X.env) :: starEach [] X.env := by rfl) :
    PE X (.Call (.Name "list" p) [.Call (.Name "reversed" p2) [e] [] pos2] [] pos) (tListRevT K te) := by
  subst hK
  exact pe_listRevT hc hg hm hg2 hm2 he hs hs2
theorem w_listRevT {K : PySem.W.Frag} {te : TE} {σ : L2.St} {H : Hp} {Q : VK} (q : te σ H fun v H1 => rListRevT K v H1 Q) : tListRevT K te σ H Q := q
theorem Dt.listRev {K : PySem.W.Frag} {H : Hp} {v : V} {ds : List PyData} {Q : VK} (h : Dt K H v (.tuple ds)) (q : ∀ p H', H p = none → Fr [] H H' → Lq K H' p ds.reverse → Q (.ref p) H') : rListRevT K v H Q := by
  obtain ⟨p, vs, rfl, s, a⟩ := h.tuple
  exact ⟨p, vs, rfl, s, fun l hl => q l _ hl (Fr.new hl) ⟨_, upd_same, (a.rev).mono (Tu.new hl)⟩⟩
end U

set_option maxHeartbeats 4000000






























namespace LW
open PySem PySem.Spec PyProof.Rows L2 U
def topS (i : Nat) : Stmt := PySem.Challenge.pw_viewwood_k40_deeds_refused.main.body.getD i (.Pass ⟨0, 0, 0, 0⟩)
abbrev s_place_of : Stmt := topS 8
abbrev N_place_of : List Str := ["row", "label", "k"]
abbrev p_place_of : List Str := ["row", "label"]
theorem sc_place_of : FnScope N_place_of p_place_of (defScope s_place_of) := ⟨rfl, rfl, rfl, by decide +kernel, rfl, by decide +kernel, by decide +kernel⟩
abbrev s_box_found : Stmt := topS 9
abbrev N_box_found : List Str := ["tree", "address", "row", "box", "label", "k"]
abbrev p_box_found : List Str := ["tree", "address"]
theorem sc_box_found : FnScope N_box_found p_box_found (defScope s_box_found) := ⟨rfl, rfl, rfl, by decide +kernel, rfl, by decide +kernel, by decide +kernel⟩
abbrev s_row_found : Stmt := topS 10
abbrev N_row_found : List Str := ["tree", "address", "box"]
abbrev p_row_found : List Str := ["tree", "address"]
theorem sc_row_found : FnScope N_row_found p_row_found (defScope s_row_found) := ⟨rfl, rfl, rfl, by decide +kernel, rfl, by decide +kernel, by decide +kernel⟩
abbrev s_with_box : Stmt := topS 11
abbrev N_with_box : List Str := ["row", "address", "box", "k", "tag", "sets", "hands", "inner"]
abbrev p_with_box : List Str := ["row", "address", "box"]
theorem sc_with_box : FnScope N_with_box p_with_box (defScope s_with_box) := ⟨rfl, rfl, rfl, by decide +kernel, rfl, by decide +kernel, by decide +kernel⟩
abbrev s_with_row : Stmt := topS 12
abbrev N_with_row : List Str := ["tree", "address", "row", "tag", "sets", "hands", "inner"]
abbrev p_with_row : List Str := ["tree", "address", "row"]
theorem sc_with_row : FnScope N_with_row p_with_row (defScope s_with_row) := ⟨rfl, rfl, rfl, by decide +kernel, rfl, by decide +kernel, by decide +kernel⟩
abbrev s_turned_row : Stmt := topS 13
abbrev N_turned_row : List Str := ["row", "deed", "word", "address", "place", "label", "tag", "k", "others"]
abbrev p_turned_row : List Str := ["row", "deed"]
theorem sc_turned_row : FnScope N_turned_row p_turned_row (defScope s_turned_row) := ⟨rfl, rfl, rfl, by decide +kernel, rfl, by decide +kernel, by decide +kernel⟩
abbrev s_turned_box : Stmt := topS 14
abbrev N_turned_box : List Str := ["box", "deed", "tag", "sets", "hands", "row", "others", "one"]
abbrev p_turned_box : List Str := ["box", "deed"]
theorem sc_turned_box : FnScope N_turned_box p_turned_box (defScope s_turned_box) := ⟨rfl, rfl, rfl, by decide +kernel, rfl, by decide +kernel, by decide +kernel⟩
abbrev s_turned : Stmt := topS 15
abbrev N_turned : List Str := ["tree", "deed", "row", "box"]
abbrev p_turned : List Str := ["tree", "deed"]
theorem sc_turned : FnScope N_turned p_turned (defScope s_turned) := ⟨rfl, rfl, rfl, by decide +kernel, rfl, by decide +kernel, by decide +kernel⟩
abbrev s_done : Stmt := topS 16
abbrev N_done : List Str := ["tree", "deed"]
abbrev p_done : List Str := ["tree", "deed"]
theorem sc_done : FnScope N_done p_done (defScope s_done) := ⟨rfl, rfl, rfl, by decide +kernel, rfl, by decide +kernel, by decide +kernel⟩
abbrev s_led : Stmt := topS 17
abbrev N_led : List Str := ["tree", "deeds", "place"]
abbrev p_led : List Str := ["tree", "deeds"]
theorem sc_led : FnScope N_led p_led (defScope s_led) := ⟨rfl, rfl, rfl, by decide +kernel, rfl, by decide +kernel, by decide +kernel⟩
abbrev s_law_tape : Stmt := topS 19
abbrev N_law_tape : List Str := ["_law_script"]
abbrev p_law_tape : List Str := ["_law_script"]
theorem sc_law_tape : FnScope N_law_tape p_law_tape (defScope s_law_tape) := ⟨rfl, rfl, rfl, by decide +kernel, rfl, by decide +kernel, by decide +kernel⟩
abbrev s_law_draw : Stmt := topS 20
abbrev N_law_draw : List Str := ["_law_tape_here", "_law_many", "_law_script", "_law_digit", "_law_cell", "_law_mixed"]
abbrev p_law_draw : List Str := ["_law_tape_here", "_law_many"]
theorem sc_law_draw : FnScope N_law_draw p_law_draw (defScope s_law_draw) := ⟨rfl, rfl, rfl, by decide +kernel, rfl, by decide +kernel, by decide +kernel⟩
abbrev s_law_number : Stmt := topS 21
abbrev N_law_number : List Str := ["_law_tape_here"]
abbrev p_law_number : List Str := ["_law_tape_here"]
theorem sc_law_number : FnScope N_law_number p_law_number (defScope s_law_number) := ⟨rfl, rfl, rfl, by decide +kernel, rfl, by decide +kernel, by decide +kernel⟩
abbrev s_law_names : Stmt := topS 22
abbrev N_law_names : List Str := ["_law_tape_here", "_law_many", "_law_pool", "_law_start", "_law_stride", "_law_k"]
abbrev p_law_names : List Str := ["_law_tape_here", "_law_many"]
theorem sc_law_names : FnScope N_law_names p_law_names (defScope s_law_names) := ⟨rfl, rfl, rfl, by decide +kernel, rfl, by decide +kernel, by decide +kernel⟩
abbrev s_law_spot : Stmt := topS 23
abbrev N_law_spot : List Str := ["_law_tape_here", "_law_key"]
abbrev p_law_spot : List Str := ["_law_tape_here"]
theorem sc_law_spot : FnScope N_law_spot p_law_spot (defScope s_law_spot) := ⟨rfl, rfl, rfl, by decide +kernel, rfl, by decide +kernel, by decide +kernel⟩
abbrev s_law_label : Stmt := topS 24
abbrev N_law_label : List Str := ["_law_tape_here", "_law_k"]
abbrev p_law_label : List Str := ["_law_tape_here"]
theorem sc_law_label : FnScope N_law_label p_law_label (defScope s_law_label) := ⟨rfl, rfl, rfl, by decide +kernel, rfl, by decide +kernel, by decide +kernel⟩
abbrev s_law_sets : Stmt := topS 25
abbrev N_law_sets : List Str := ["_law_tape_here", "_law_names_here", "_law_name"]
abbrev p_law_sets : List Str := ["_law_tape_here"]
theorem sc_law_sets : FnScope N_law_sets p_law_sets (defScope s_law_sets) := ⟨rfl, rfl, rfl, by decide +kernel, rfl, by decide +kernel, by decide +kernel⟩
abbrev s_law_hands : Stmt := topS 26
abbrev N_law_hands : List Str := ["_law_tape_here", "_law_hands_here", "_law_event", "_law_path", "_law_changes", "_law_name", "_law_k"]
abbrev p_law_hands : List Str := ["_law_tape_here"]
theorem sc_law_hands : FnScope N_law_hands p_law_hands (defScope s_law_hands) := ⟨rfl, rfl, rfl, by decide +kernel, rfl, by decide +kernel, by decide +kernel⟩
abbrev s_law_box : Stmt := topS 27
abbrev N_law_box : List Str := ["_law_tape_here", "_law_deep", "_law_tag", "_law_sets_here", "_law_hands_here", "_law_row_here"]
abbrev p_law_box : List Str := ["_law_tape_here", "_law_deep"]
theorem sc_law_box : FnScope N_law_box p_law_box (defScope s_law_box) := ⟨rfl, rfl, rfl, by decide +kernel, rfl, by decide +kernel, by decide +kernel⟩
abbrev s_law_row : Stmt := topS 28
abbrev N_law_row : List Str := ["_law_tape_here", "_law_deep", "_law_many", "_law_row_here", "_law_k", "_law_label_here", "_law_one"]
abbrev p_law_row : List Str := ["_law_tape_here", "_law_deep"]
theorem sc_law_row : FnScope N_law_row p_law_row (defScope s_law_row) := ⟨rfl, rfl, rfl, by decide +kernel, rfl, by decide +kernel, by decide +kernel⟩
abbrev s_law_addresses : Stmt := topS 29
abbrev N_law_addresses : List Str := ["_law_row_here", "_law_address", "_law_found", "_law_label_here", "_law_box_here"]
abbrev p_law_addresses : List Str := ["_law_row_here", "_law_address"]
theorem sc_law_addresses : FnScope N_law_addresses p_law_addresses (defScope s_law_addresses) := ⟨rfl, rfl, rfl, by decide +kernel, rfl, by decide +kernel, by decide +kernel⟩
abbrev s_law_box_of : Stmt := topS 30
abbrev N_law_box_of : List Str := ["_law_tree", "_law_address", "_law_box_here", "_law_label_here", "_law_one", "_law_inner"]
abbrev p_law_box_of : List Str := ["_law_tree", "_law_address"]
theorem sc_law_box_of : FnScope N_law_box_of p_law_box_of (defScope s_law_box_of) := ⟨rfl, rfl, rfl, by decide +kernel, rfl, by decide +kernel, by decide +kernel⟩
abbrev s_law_strange : Stmt := topS 31
abbrev N_law_strange : List Str := ["_law_tape_here", "_law_row_here", "_law_labels", "_law_found", "_law_k", "_law_one"]
abbrev p_law_strange : List Str := ["_law_tape_here", "_law_row_here"]
theorem sc_law_strange : FnScope N_law_strange p_law_strange (defScope s_law_strange) := ⟨rfl, rfl, rfl, by decide +kernel, rfl, by decide +kernel, by decide +kernel⟩
abbrev s_law_bad : Stmt := topS 32
abbrev N_law_bad : List Str := ["_law_tape_here", "_law_tree", "_law_address", "_law_box_here", "_law_row_here", "_law_far", "_law_odd", "_law_name", "_law_found", "_law_label_here", "_law_inner"]
abbrev p_law_bad : List Str := ["_law_tape_here", "_law_tree", "_law_address"]
theorem sc_law_bad : FnScope N_law_bad p_law_bad (defScope s_law_bad) := ⟨rfl, rfl, rfl, by decide +kernel, rfl, by decide +kernel, by decide +kernel⟩
abbrev s_law_refused : Stmt := topS 33
abbrev N_law_refused : List Str := ["_law_tree", "_law_deeds", "_law_alone", "_law_place", "e", "_law_others"]
abbrev p_law_refused : List Str := ["_law_tree", "_law_deeds", "_law_alone"]
theorem sc_law_refused : FnScope N_law_refused p_law_refused (defScope s_law_refused) := ⟨rfl, rfl, rfl, by decide +kernel, rfl, by decide +kernel, by decide +kernel⟩
abbrev s_law : Stmt := topS 34
abbrev N_law : List Str := ["_law_script", "_law_tape_here", "_law_tree", "_law_some", "_law_address", "_law_odd", "_law_ahead", "_law_deed", "_law_many"]
abbrev p_law : List Str := ["_law_script"]
theorem sc_law : FnScope N_law p_law (defScope s_law) := ⟨rfl, rfl, rfl, by decide +kernel, rfl, by decide +kernel, by decide +kernel⟩
/-- what the top has left -/
structure Env (K : PySem.W.Frag) (mg : Str → Option Value) : Prop where
  l_place_of : Loc K mg "place_of" p_place_of s_place_of
  l_box_found : Loc K mg "box_found" p_box_found s_box_found
  l_row_found : Loc K mg "row_found" p_row_found s_row_found
  l_with_box : Loc K mg "with_box" p_with_box s_with_box
  l_with_row : Loc K mg "with_row" p_with_row s_with_row
  l_turned_row : Loc K mg "turned_row" p_turned_row s_turned_row
  l_turned_box : Loc K mg "turned_box" p_turned_box s_turned_box
  l_turned : Loc K mg "turned" p_turned s_turned
  l_done : Loc K mg "done" p_done s_done
  l_led : Loc K mg "led" p_led s_led
  l_law_tape : Loc K mg "_law_tape" p_law_tape s_law_tape
  l_law_draw : Loc K mg "_law_draw" p_law_draw s_law_draw
  l_law_number : Loc K mg "_law_number" p_law_number s_law_number
  l_law_names : Loc K mg "_law_names" p_law_names s_law_names
  l_law_spot : Loc K mg "_law_spot" p_law_spot s_law_spot
  l_law_label : Loc K mg "_law_label" p_law_label s_law_label
  l_law_sets : Loc K mg "_law_sets" p_law_sets s_law_sets
  l_law_hands : Loc K mg "_law_hands" p_law_hands s_law_hands
  l_law_box : Loc K mg "_law_box" p_law_box s_law_box
  l_law_row : Loc K mg "_law_row" p_law_row s_law_row
  l_law_addresses : Loc K mg "_law_addresses" p_law_addresses s_law_addresses
  l_law_box_of : Loc K mg "_law_box_of" p_law_box_of s_law_box_of
  l_law_strange : Loc K mg "_law_strange" p_law_strange s_law_strange
  l_law_bad : Loc K mg "_law_bad" p_law_bad s_law_bad
  l_law_refused : Loc K mg "_law_refused" p_law_refused s_law_refused
  l_law : Loc K mg "law" p_law s_law
  m_ValueError : mg "ValueError" = none
  m_abs : mg "abs" = none
  m_bool : mg "bool" = none
  m_isinstance : mg "isinstance" = none
  m_len : mg "len" = none
  m_range : mg "range" = none
  m_sorted : mg "sorted" = none
  m_tuple : mg "tuple" = none
local macro_rules | `(tactic| walk_at "s") => `(tactic| first
  | ((with_reducible refine' w_var ?h ?q); (case h => exact rfl))
  | (with_reducible refine' w_c ?_)
  | (with_reducible refine' w_name ?_)
  | (with_reducible refine' w_op ?_)
  | (with_reducible refine' w_nil ?_)
  | (with_reducible refine' w_cons ?_)
  | (with_reducible refine' w_seq ?_)
  | (with_reducible refine' w_asg ?_)
  | (with_reducible refine' w_ret ?_)
  | (with_reducible refine' w_ifS ?_)
  | (with_reducible refine' w_call ?_)
  | (with_reducible refine' w_cb ?_)
  | (with_reducible refine' w_test ?_)
  | (with_reducible refine' w_B ?_)
  | (with_reducible refine' w_addI ?_)
  | (with_reducible refine' w_rI0 ?_)
  | (with_reducible refine' w_eqI ?_)
  | (with_reducible refine' w_eqS ?_)
  | (with_reducible refine' w_eqB ?_)
  | (with_reducible refine' w_neI ?_)
  | (with_reducible refine' w_neS ?_)
  | (with_reducible refine' w_neB ?_)
  | (with_reducible refine' w_bl ?_)
  | (with_reducible refine' w_and ?_)
  | (with_reducible refine' w_or ?_)
  | (with_reducible refine' w_not ?_)
  | (with_reducible refine' w_andV ?_)
  | (with_reducible refine' w_orV ?_)
  | (with_reducible refine' w_notV ?_)
  | (with_reducible refine' w_if ?_)
  | (with_reducible refine' w_isN ?_)
  | (with_reducible refine' w_notN ?_)
  | (with_reducible refine' w_tup ?_)
  | (with_reducible refine' w_lst ?_)
  | (with_reducible refine' w_un ?_)
  | (with_reducible refine' w_rU ?_)
  | (with_reducible refine' w_chain ?_)
  | (with_reducible refine' w_retN ?_)
  | (with_reducible refine' w_drop ?_)
  | (with_reducible refine' w_next ?_)
  | (with_reducible refine' w_sub' ?_)
  | (with_reducible refine' w_for ?_)
  | (with_reducible refine' w_sl ?_)
  | (with_reducible refine' w_part ?_)
  | (with_reducible refine' w_partI ?_)
  | (with_reducible refine' w_nopart ?_)
  | (with_reducible refine' w_bm ?_)
  | (with_reducible refine' w_bm0 ?_)
  | (with_reducible refine' w_lc ?_)
  | ((with_reducible refine' w_wipe ?h ?q); (case h => exact rfl))
  | (with_reducible refine' w_yes ?_)
  | (with_reducible refine' w_N ?_)
  | (with_reducible refine' w_gcons ?_)
  | (with_reducible refine' w_gnil ?_)
  | (with_reducible refine' w_isB ?_)
  | (with_reducible refine' w_nisB ?_)
  | (with_reducible refine' w_iRev ?_)
  | (with_reducible refine' w_iEnum ?_)
  | (with_reducible refine' w_iR1 ?_)
  | (with_reducible refine' w_max ?_)
  | (with_reducible refine' w_min ?_)
  | (with_reducible refine' w_abs ?_)
  | (with_reducible refine' w_intI ?_)
  | (with_reducible refine' w_intB ?_)
  | (with_reducible refine' w_pow9 ?_)
  | (with_reducible refine' w_pow18 ?_)
  | (with_reducible refine' w_pow6 ?_)
  | (with_reducible refine' w_pow59 ?_)
  | (with_reducible refine' w_iR2 ?_)
  | (with_reducible refine' w_iL ?_)
  | (with_reducible refine' w_iT ?_)
  | (with_reducible refine' is_non_int ?_)
  | (with_reducible refine' is_non_bool ?_)
  | (with_reducible refine' is_non_str ?_)
  | (with_reducible refine' is_non_tuple ?_)
  | (with_reducible refine' is_non_list ?_)
  | (with_reducible refine' is_non_dict ?_)
  | (with_reducible refine' is_bl_int ?_)
  | (with_reducible refine' is_bl_bool ?_)
  | (with_reducible refine' is_bl_str ?_)
  | (with_reducible refine' is_bl_tuple ?_)
  | (with_reducible refine' is_bl_list ?_)
  | (with_reducible refine' is_bl_dict ?_)
  | (with_reducible refine' is_int_int ?_)
  | (with_reducible refine' is_int_bool ?_)
  | (with_reducible refine' is_int_str ?_)
  | (with_reducible refine' is_int_tuple ?_)
  | (with_reducible refine' is_int_list ?_)
  | (with_reducible refine' is_int_dict ?_)
  | (with_reducible refine' is_str_int ?_)
  | (with_reducible refine' is_str_bool ?_)
  | (with_reducible refine' is_str_str ?_)
  | (with_reducible refine' is_str_tuple ?_)
  | (with_reducible refine' is_str_list ?_)
  | (with_reducible refine' is_str_dict ?_)
  | (with_reducible refine' w_inSign ?_)
  | (with_reducible refine' w_ninSign ?_)
  | (with_reducible refine' w_mG ?_)
  | (with_reducible refine' w_dget ?_)
  | (with_reducible refine' w_iZip ?_)
  | (with_reducible refine' w_iItemsN ?_)
  | (with_reducible refine' w_iValsN ?_)
  | (with_reducible refine' w_dnew ?_)
  | (with_reducible refine' w_iS ?_)
  | (with_reducible refine' w_iRevR ?_)
  | (with_reducible refine' iteT ?_)
  | (with_reducible refine' iteF ?_)
  | (with_reducible refine' iteNT ?_)
  | (with_reducible refine' iteNF ?_))
local macro_rules | `(tactic| walk_at "go") => `(tactic| repeat walk_at "s")

/-! ### the law's own draws: nothing is known of a number drawn but its bounds -/
/-- a tape: script, count, rest, place; all that stood at first stands -/
def Tape (K : PySem.W.Frag) (H0 H : Hp) (t : Addr) : Prop := (∃ (a : Addr) (ns : List Int) (n d p : Int), H t = some (.lst [.ref a, .int n, .int d, .int p]) ∧ SqL K H0 a (ns.map V.int) ∧ 0 ≤ p) ∧ Fr [] H0 H ∧ H0 t = none
section
variable {K : PySem.W.Frag} {H0 H H' : Hp} {t q : Addr}
theorem Tape.fr (T : Tape K H0 H t) (e : Fr [] H H') : Tape K H0 H' t := by
  obtain ⟨⟨a, ns, n, d, p, h1, h2, h3⟩, h4, h5⟩ := T
  exact ⟨⟨a, ns, n, d, p, e _ _ h1 (by simp), h2, h3⟩, h4.trans e, h5⟩
theorem Tape.new (T : Tape K H0 H t) {o : HO} (h : H q = none) : Tape K H0 (upd H q o) t := T.fr (Fr.new h)
theorem Tape.ne (T : Tape K H0 H t) (h : H q = none) : q ≠ t := by
  rintro rfl
  obtain ⟨⟨_, _, _, _, _, e, _⟩, _⟩ := T
  rw [h] at e
  cases e
theorem Tape.no (T : Tape K H0 H t) (h : H q = none) : H0 q = none := T.2.1.free h
/-- what is new changes -/
theorem Tape.mut (T : Tape K H0 H t) {o : HO} (nq : q ≠ t) (n0 : H0 q = none) : Tape K H0 (upd H q o) t := by
  obtain ⟨⟨a, zs, n, d, p, h1, h2, h4⟩, f, h5⟩ := T
  refine ⟨⟨a, zs, n, d, p, ?_, h2, h4⟩, fun b u e z => ?_, h5⟩
  · rw [upd_ne nq.symm]; exact h1
  · rw [upd_ne (by rintro rfl; rw [n0] at e; cases e)]
    exact f b u e z
theorem Tape.fr1 (T : Tape K H0 H t) (e : Fr [q] H H') (nq : q ≠ t) (n0 : H0 q = none) : Tape K H0 H' t := by
  obtain ⟨⟨a, zs, n, d, p, h1, h2, h4⟩, f, h5⟩ := T
  exact ⟨⟨a, zs, n, d, p, e _ _ h1 (by simpa using nq.symm), h2, h4⟩, Fr.drop1 n0 f e, h5⟩
theorem Tape.free1 (T : Tape K H0 H t) (f : Fr [t] H H') (h : H' q = none) (nq : q ≠ t) : H q = none := by
  cases e : H q with
  | none => rfl
  | some o =>
    have z := f q o e (by simpa using nq)
    rw [h] at z
    cases z
theorem Tape.tu (T : Tape K H0 H t) (f : Fr [t] H H') : Tu H H' := by
  obtain ⟨⟨a, zs, n, d, p, h1, _⟩, _⟩ := T
  exact f.tu1 h1
end
def sp_law_tape (K : PySem.W.Frag) : Sp := fun vs H Q _ => ∃ (a : Addr) (ns : List Int), vs = [.ref a] ∧ SqL K H a (ns.map V.int) ∧ ∀ t H', H t = none → Fr [] H H' → Tape K H H' t → Q (.ref t) H'
def sp_law_draw (K : PySem.W.Frag) : Sp := fun vs H Q _ => ∃ (t : Addr) (m : Int) (H0 : Hp), vs = [.ref t, .int m] ∧ Tape K H0 H t ∧ 0 < m ∧ m < 2 ^ 64 ∧ ∀ r H', 0 ≤ r → r < m → Fr [t] H H' → Tape K H0 H' t → Q (.int r) H'
section
variable {P : Program} {w : World} {K : PySem.W.Frag} {mg : Str → Option Value} {base : Heap}
theorem ok_law_tape (T : Env K mg) : Fx P w K mg base 1 "_law_tape" p_law_tape (sp_law_tape K) := by
  refine T.l_law_tape.ok sc_law_tape (fun vs H Q E h => ?_) (fun f cdv A outer s H vs Q E hr h => ?_)
  · obtain ⟨a, ns, rfl, _⟩ := h
    rfl
  · obtain ⟨a, ns, rfl, hS, k⟩ := h
    refine ⟨_, (pss_one (ps_ret (pe_lst (pa_cons (pv 0) (pa_cons pe_int (pa_cons pe_int (pa_cons pe_int pa_nil))))))), ?_⟩
    walk_at "go"
    refine ⟨by show 4 ≤ sizeLine; decide, fun t ht => ?_⟩
    exact k t _ ht (Fr.new ht) ⟨⟨a, ns, 0, 0, 0, upd_same, hS, Int.le_refl 0⟩, Fr.new ht, ht⟩
theorem ok_law_draw (T : Env K mg) : Fx P w K mg base 1 "_law_draw" p_law_draw (sp_law_draw K) := by
  refine T.l_law_draw.ok sc_law_draw (fun vs H Q E h => ?_) (fun f cdv A outer s H vs Q E hr h => ?_)
  · obtain ⟨t, m, _, rfl, _⟩ := h
    rfl
  · obtain ⟨t, m, H0, rfl, hT, m0, m64, k⟩ := h
    obtain ⟨⟨a, ns, n, d, p, ht, hS0, hp⟩, f0, n0⟩ := hT
    have hS : SqL K H a (ns.map V.int) := f0.seqL hS0 (by simp)
    have keep : ∀ H', Fr [t] H H' → Fr [] H0 H' := fun H' f b o e _ => f b o (f0 b o e (by simp)) (by
      intro z
      rw [List.mem_singleton.mp z, n0] at e
      cases e)
    refine ⟨_, (pss_cons (ps_set (i := 2) sc_law_draw.nd rfl (Or.inl rfl) (pe_ix (ix_U (K := K) rfl) (pv 0) pe_int (fun _ _ => rfl)))
      (pss_cons (ps_asg (pe_op (op_addU (K := K) rfl) (pe_ix (ix_U (K := K) rfl) (pv 0) pe_int (fun _ _ => rfl)) pe_int) (pg_sub (pv 0) pe_int set_list))
      (C8.pss_cut (ps_if (PW.pt (pw_and (pt_cmpR (op_eqU (K := K) rfl (u64 hr)) (pe_ix (ix_U (K := K) rfl) (pv 0) pe_int (fun _ _ => rfl)) pe_int (nomark _)) (pw_and1 (pt_cmpR op_lt (pe_ix (ix_U (K := K) rfl) (pv 0) pe_int (fun _ _ => rfl)) (pe_callB (call_lenU (K := K) rfl) (by rfl) T.m_len (by decide +kernel) (pa_cons (pv 2) pa_nil)) (nomark _))))) (pss_cons (ps_asg (pe_op op_fdivW (pe_callB call_absU (by rfl) T.m_abs (by decide +kernel) (pa_cons (pe_ix (ix_U (K := K) rfl) (pv 2) (pe_ix (ix_U (K := K) rfl) (pv 0) pe_int (fun _ _ => rfl)) (fun _ _ => rfl)) pa_nil)) (pe_op op_pow pe_int pe_int)) (pg_sub (pv 0) pe_int set_list))
      (pss_one (ps_asg (pe_op (op_addU (K := K) rfl) (pe_ix (ix_U (K := K) rfl) (pv 0) pe_int (fun _ _ => rfl)) pe_int) (pg_sub (pv 0) pe_int set_list)))) pss_nil)
      (pss_cons (ps_if (pt_cmpR op_gt (pe_ix (ix_U (K := K) rfl) (pv 0) pe_int (fun _ _ => rfl)) pe_int (nomark _)) (pss_cons (ps_set (i := 3) sc_law_draw.nd rfl (Or.inl rfl) (pe_op op_mod (pe_ix (ix_U (K := K) rfl) (pv 0) pe_int (fun _ _ => rfl)) (pv 1)))
      (pss_cons (ps_asg (pe_op op_fdivW (pe_ix (ix_U (K := K) rfl) (pv 0) pe_int (fun _ _ => rfl)) (pv 1)) (pg_sub (pv 0) pe_int set_list))
      (pss_one (ps_ret (pv 3))))) pss_nil)
      (pss_cons (ps_set (i := 4) sc_law_draw.nd rfl (Or.inl rfl) pe_int)
      (C8.pss_cut (ps_if (pt_cmpR op_gt (pe_callB (call_lenU (K := K) rfl) (by rfl) T.m_len (by decide +kernel) (pa_cons (pv 2) pa_nil)) pe_int (nomark _)) (pss_one (ps_set (i := 4) sc_law_draw.nd rfl (Or.inl rfl) (pe_ix (ix_U (K := K) rfl) (pv 2) (pe_op op_mod (pe_ix (ix_U (K := K) rfl) (pv 0) pe_int (fun _ _ => rfl)) (pe_callB (call_lenU (K := K) rfl) (by rfl) T.m_len (by decide +kernel) (pa_cons (pv 2) pa_nil))) (fun _ _ => rfl)))) pss_nil)
      (pss_cons (ps_set (i := 5) sc_law_draw.nd rfl (Or.inl rfl) (pe_op op_mod (pe_op (op_addU (K := K) rfl) (pe_op (op_addU (K := K) rfl) (pe_op op_mulU (pe_op op_mod (pv 4) pe_int) pe_int) (pe_op op_mulU (pe_ix (ix_U (K := K) rfl) (pv 0) pe_int (fun _ _ => rfl)) pe_int)) pe_int) pe_int))
      (pss_cons (ps_set (i := 5) sc_law_draw.nd rfl (Or.inl rfl) (pe_op op_mod (pe_op op_mulU (pv 5) (pe_op (op_addU (K := K) rfl) (pv 5) pe_int)) pe_int))
      (pss_one (ps_ret (pe_op op_mod (pe_op op_mod (pe_op op_mulU (pv 5) pe_int) pe_int) (pv 1)))))))))))), ?_⟩
    walk_at "go"
    refine w_ixL (SqL.of ht) rfl ?_
    walk_at "go"
    refine w_ixL (SqL.of ht) rfl ?_
    walk_at "go"
    refine w_setL ht rfl ?_
    generalize hH1 : upd H t _ = H1
    have f1 : Fr [t] H H1 := by rw [← hH1]; exact Fr.mut (by simp)
    have t1 : H1 t = some (.lst [.ref a, .int (n + 1), .int d, .int p]) := by rw [← hH1]; exact upd_same
    refine w_cut (fun σ' H' => σ' = [some (.ref t), some (.int m), some (.ref a), none, none, none] ∧ Fr [t] H H' ∧ ∃ d p, H' t = some (.lst [.ref a, .int (n + 1), .int d, .int p]) ∧ 0 ≤ p) ?_ ?_
    · walk_at "go"
      refine w_ixL (SqL.of t1) rfl ?_
      walk_at "go"
      have end0 : ∀ d p, 0 ≤ p → ∀ H', Fr [t] H H' → H' t = some (.lst [.ref a, .int (n + 1), .int d, .int p]) → ([some (.ref t), some (.int m), some (.ref a), none, none, none] : L2.St) = [some (.ref t), some (.int m), some (.ref a), none, none, none] ∧ Fr [t] H H' ∧ ∃ d p, H' t = some (.lst [.ref a, .int (n + 1), .int d, .int p]) ∧ 0 ≤ p :=
        fun d p hp H' f e => ⟨rfl, f, d, p, e, hp⟩
      refine ite_d (fun h0 => ?_) (fun h0 => ?_)
      · walk_at "go"
        refine w_ixL (SqL.of t1) rfl ?_
        walk_at "go"
        have hS1 : SqL K H1 a (ns.map V.int) := (keep _ f1).seqL hS0 (by simp)
        refine w_lenL hS1 ?_
        walk_at "go"
        refine ite_d (fun h1 => ?_) (fun h1 => ?_)
        · rw [List.length_map] at h1
          obtain ⟨z, hz, _⟩ := at_int hp h1
          walk_at "go"
          refine w_ixL (SqL.of t1) rfl ?_
          walk_at "go"
          refine w_ixL hS1 hz ?_
          walk_at "go"
          refine w_rI ⟨by decide, by decide +kernel⟩ ?_
          walk_at "go"
          refine w_setL t1 rfl ?_
          walk_at "go"
          refine w_ixL (SqL.of upd_same) rfl ?_
          walk_at "go"
          refine w_setL upd_same rfl ?_
          refine end0 _ (p + 1) (by omega) _ ?_ upd_same
          exact (f1.trans (Fr.mut (by simp))).trans (Fr.mut (by simp))
        · walk_at "go"
          exact end0 d p hp H1 f1 t1
      · walk_at "go"
        exact end0 d p hp H1 f1 t1
    · rintro σ' H2 ⟨rfl, f2, d, p, t2, hp⟩
      have hS2 : SqL K H2 a (ns.map V.int) := (keep _ f2).seqL hS0 (by simp)
      have fin : ∀ x, Q (.int (x % m)) H2 := fun x => k _ H2 (Int.emod_nonneg _ (by omega)) (Int.emod_lt_of_pos _ m0) f2 ⟨⟨a, ns, n + 1, d, p, t2, hS0, hp⟩, keep _ f2, n0⟩
      walk_at "go"
      refine w_ixL (SqL.of t2) rfl ?_
      walk_at "go"
      refine ite_d (fun h0 => ?_) (fun h0 => ?_)
      · walk_at "go"
        refine w_ixL (SqL.of t2) rfl ?_
        walk_at "go"
        refine w_rI m0 ?_
        walk_at "go"
        refine w_ixL (SqL.of t2) rfl ?_
        walk_at "go"
        refine w_rI (wide_div m0 (b := 64) (by omega) (by decide) (by decide)) ?_
        walk_at "go"
        refine w_setL t2 rfl ?_
        walk_at "go"
        have f3 : Fr [t] H (upd H2 t (.lst [.ref a, .int (n + 1), .int (d / m), .int p])) := f2.trans (Fr.mut (by simp))
        exact k _ _ (Int.emod_nonneg _ (by omega)) (Int.emod_lt_of_pos _ m0) f3 ⟨⟨a, ns, n + 1, d / m, p, upd_same, hS0, hp⟩, keep _ f3, n0⟩
      · walk_at "go"
        refine w_cut (fun σ' H' => H' = H2 ∧ ∃ z, σ' = [some (.ref t), some (.int m), some (.ref a), none, some (.int z), none]) ?_ ?_
        · walk_at "go"
          refine w_lenL hS2 ?_
          walk_at "go"
          refine ite_d (fun h1 => ?_) (fun h1 => ?_)
          · rw [List.length_map] at h1
            walk_at "go"
            refine w_ixL (SqL.of t2) rfl ?_
            walk_at "go"
            refine w_lenL hS2 ?_
            rw [List.length_map]
            refine w_rI h1 ?_
            obtain ⟨z, hz, _⟩ := at_int (ns := ns) (p := (n + 1) % (ns.length : Int)) (Int.emod_nonneg _ (by omega)) (Int.emod_lt_of_pos _ h1)
            refine w_ixL hS2 hz ?_
            walk_at "go"
            exact ⟨rfl, z, rfl⟩
          · walk_at "go"
            exact ⟨rfl, 0, rfl⟩
        · rintro σ' H' ⟨rfl, z, rfl⟩
          walk_at "go"
          refine w_rI (by show (0 : Int) < 2147483647; decide) ?_
          refine w_mulI (.inr (by decide)) ?_
          walk_at "go"
          refine w_ixL (SqL.of t2) rfl ?_
          walk_at "go"
          refine w_mulI (.inr (by decide)) ?_
          walk_at "go"
          refine w_rI (by show (0 : Int) < 2147483629; decide) ?_
          walk_at "go"
          have b1 : ∀ y : Int, 0 ≤ y % 2147483629 ∧ y % 2147483629 < 2147483629 := fun y => ⟨Int.emod_nonneg _ (by decide), Int.emod_lt_of_pos _ (by decide)⟩
          generalize he : (_ : Int) % 2147483629 = e
          have b2 : 0 ≤ e ∧ e < 2147483629 := by rw [← he]; exact b1 _
          refine w_mulI (.inl (by constructor <;> omega)) ?_
          walk_at "go"
          refine w_rI (by show (0 : Int) < 2147483587; decide) ?_
          walk_at "go"
          refine w_mulI (.inr (by decide)) ?_
          walk_at "go"
          refine w_rI (by show (0 : Int) < 2147483563; decide) ?_
          walk_at "go"
          refine w_rI m0 ?_
          exact fin _
end

/-! ### comprehensions that draw -/
section
variable {K : PySem.W.Frag} {H0 H : Hp} {t : Addr}
theorem LC_tape {m : Int} {j : Nat} {ws : List Nat} {σ : L2.St} {te : TE} {Q : VK} (n : Nat) (P : PyData → Prop) (T : Tape K H0 H t) (hn : m.toNat = n) (h1 : -(2 ^ 62) ≤ m) (h2 : m < 2 ^ 62) (ln : n ≤ 100000)
    (hw : ∀ v, wipe ((wipe σ ws).set j (some v)) ws = wipe σ ws)
    (he : ∀ (i : Nat) H', i < n → Tape K H0 H' t → Fr [t] H H' → ∀ Q : VK, (∀ y d H2, Fr [t] H' H2 → Tape K H0 H2 t → Dt K H2 y d → P d → Q y H2) → te ((wipe σ ws).set j (some (.int i))) H' Q)
    (k : ∀ D H' ds, H D = none → Fr [t] H H' → Tape K H0 H' t → Lq K H' D ds → ds.length = n → (∀ d ∈ ds, P d) → Q (.ref D) H') :
    ∃ j' : Int, [V.int m] = [.int j'] ∧ -(2 ^ 62) ≤ j' ∧ j' < 2 ^ 62 ∧ ∀ D, H D = none → LC (Itr 0 j'.toNat) (gName j) tYes te ws σ D Q (upd H D (.lst [])) := by
  refine LC_R1 n hn h1 h2 fun D hD => ⟨fun i H' => Fr [t] H H' ∧ Tape K H0 H' t ∧ ∃ ds, Lq K H' D ds ∧ ds.length = i ∧ ∀ d ∈ ds, P d, ⟨Fr.new hD, T.new hD, [], ⟨[], upd_same, .nil⟩, rfl, by simp⟩, ?_, ?_⟩
  · rintro i H' hi ⟨f', T', ds, L, ld, pd⟩
    refine ⟨hw _, ?_⟩
    refine w_yes (iteT ?_)
    have nD := T.ne hD
    refine he i H' hi T' f' _ fun y d H2 f2 T2 dy py => ?_
    have L2' := L.fr f2 (by simpa using nD) (T'.tu f2)
    obtain ⟨ys, hys, dys⟩ := L2'
    refine ⟨ys, hys, Nat.lt_of_le_of_lt (show ys.length ≤ 100000 by rw [dys.length]; omega) (by decide), Fr.drop1 hD (f'.trans f2) (Fr.mut (by simp)), T2.mut nD (T.no hD), ds ++ [d], ⟨_, upd_same, (dys.append (.cons dy .nil)).mono (Tu.mut hys)⟩, by simp [ld], ?_⟩
    intro z hz
    rcases List.mem_append.mp hz with a | a
    · exact pd z a
    · rw [List.mem_singleton.mp a]; exact py
  · rintro H' ⟨f', T', ds, L, ld, pd⟩
    exact k D H' ds hD f' T' L ld pd
theorem _root_.U.Fr.free1' {H H' : Hp} {t a : Addr} (f : Fr [t] H H') (h : H' a = none) (n : a ≠ t) : H a = none := by
  cases e : H a with
  | none => rfl
  | some o =>
    have z := f a o e (by simpa using n)
    rw [h] at z
    cases z
end

/-! ### trees of boxes with settings, deeds on them: data -/
def Good (n : Nat) (d : PyData) : Prop := d.canLay0 = true ∧ d.depth ≤ n
theorem Good.mono {n m : Nat} {d : PyData} (h : Good n d) (l : n ≤ m) : Good m d := ⟨h.1, Nat.le_trans h.2 l⟩
theorem good_tup {n : Nat} {ds : List PyData} (h : ∀ d ∈ ds, Good n d) : Good (n + 1) (.tuple ds) := by
  obtain ⟨a, b⟩ := lay_list (n := n) h
  exact ⟨a, Nat.succ_le_succ b⟩
theorem good_int (n : Nat) (i : Int) : Good n (.int i) := ⟨rfl, Nat.zero_le _⟩
theorem good_str (n : Nat) {x : Str} (h : PyData.strOk x = true) : Good n (.str x) := ⟨h, Nat.zero_le _⟩
theorem good_none (n : Nat) : Good n .none := ⟨rfl, Nat.zero_le _⟩
theorem good_bool (n : Nat) (b : Bool) : Good n (.bool b) := ⟨rfl, Nat.zero_le _⟩
theorem Good.shaped {n : Nat} {d : PyData} (h : Good n d) (hn : n ≤ 64 := by decide) : SeqAt.shaped d = true := lay_shaped ⟨h.1, Nat.le_trans h.2 hn⟩
theorem Good.refl {n : Nat} {d : PyData} (h : Good n d) (hn : n ≤ 64 := by decide) : PyData.eqv d d = true := shaped_refl (h.shaped hn)
def SpotD (d : PyData) : Prop := ∃ (a : PyData) (b : Int), d = .tuple [a, .int b] ∧ (a = .none ∨ ∃ k, a = .int k)
def Lab (d : PyData) : Prop := ∃ ss : List PyData, d = .tuple ss ∧ ∀ s ∈ ss, SpotD s
theorem SpotD.good {d : PyData} (h : SpotD d) : Good 1 d := by
  obtain ⟨a, b, rfl, h⟩ := h
  refine good_tup (n := 0) fun x hx => ?_
  simp only [List.mem_cons, List.not_mem_nil, or_false] at hx
  rcases hx with rfl | rfl
  · rcases h with rfl | ⟨k, rfl⟩ <;> exact ⟨rfl, Nat.le_refl _⟩
  · exact ⟨rfl, Nat.le_refl _⟩
theorem Lab.good {d : PyData} (h : Lab d) : Good 2 d := by
  obtain ⟨ss, rfl, hs⟩ := h
  exact good_tup fun s hs' => (hs s hs').good
theorem eqvAll_of {p : PyData → Prop} (hp : ∀ d e, p d → p e → PyData.eqv d e = true → d = e) : ∀ {xs ys : List PyData}, (∀ x ∈ xs, p x) → (∀ y ∈ ys, p y) → PyData.eqvAll xs ys = true → xs = ys
  | [], [], _, _, _ => rfl
  | [], _ :: _, _, _, h => by simp [PyData.eqvAll] at h
  | _ :: _, [], _, _, h => by simp [PyData.eqvAll] at h
  | x :: xs, y :: ys, h1, h2, h => by
    rw [PyData.eqvAll, Bool.and_eq_true] at h
    rw [hp x y (h1 x (by simp)) (h2 y (by simp)) h.1, eqvAll_of hp (fun z hz => h1 z (by simp [hz])) (fun z hz => h2 z (by simp [hz])) h.2]
theorem SpotD.eqv {d e : PyData} (hd : SpotD d) (he : SpotD e) (h : PyData.eqv d e = true) : d = e := by
  obtain ⟨a, b, rfl, ha⟩ := hd
  obtain ⟨a', b', rfl, ha'⟩ := he
  rw [PyData.eqv, PyData.eqvAll, PyData.eqvAll, PyData.eqvAll, Bool.and_true, Bool.and_eq_true] at h
  have hb : b = b' := by simpa [PyData.eqv] using h.2
  have h1 := h.1
  subst hb
  rcases ha with rfl | ⟨k, rfl⟩ <;> rcases ha' with rfl | ⟨k', rfl⟩
  · rfl
  · simp [PyData.eqv] at h1
  · simp [PyData.eqv] at h1
  · have : k = k' := by simpa [PyData.eqv] using h1
    rw [this]
theorem Lab.eqv {d e : PyData} (hd : Lab d) (he : Lab e) (h : PyData.eqv d e = true) : d = e := by
  obtain ⟨ss, rfl, hs⟩ := hd
  obtain ⟨ss', rfl, hs'⟩ := he
  rw [PyData.eqv] at h
  rw [eqvAll_of (fun d e hd he h => SpotD.eqv hd he h) hs hs' h]
theorem Lab.refl {d : PyData} (h : Lab d) : PyData.eqv d d = true := h.good.refl
theorem Lab.ne {d e : PyData} (hd : Lab d) (he : Lab e) (h : d ≠ e) : PyData.eqv d e = false := by
  cases z : PyData.eqv d e with
  | false => rfl
  | true => exact absurd (hd.eqv he z) h
/-! trees -/
inductive Bt
  | nil
  | cons (l : PyData) (g : Str) (s : List (Str × Int)) (h : PyData) (i r : Bt)
structure Bb where
  g : Str
  s : List (Str × Int)
  h : PyData
  inner : Bt
def setD (p : Str × Int) : PyData := .tuple [.str p.1, .int p.2]
def Bt.rows : Bt → List (PyData × Bb)
  | .nil => []
  | .cons l g s h i r => (l, ⟨g, s, h, i⟩) :: r.rows
def Bt.ds : Bt → List PyData
  | .nil => []
  | .cons l g s h i r => .tuple [l, .tuple [.str g, .tuple (s.map setD), h, .tuple i.ds]] :: r.ds
def Bt.d (t : Bt) : PyData := .tuple t.ds
def Bb.d (b : Bb) : PyData := .tuple [.str b.g, .tuple (b.s.map setD), b.h, b.inner.d]
def rowB (p : PyData × Bb) : PyData := .tuple [p.1, p.2.d]
theorem Bt.ds_rows : ∀ t : Bt, t.ds = t.rows.map rowB
  | .nil => rfl
  | .cons l g s h i r => by
    rw [Bt.ds, Bt.rows, List.map_cons, Bt.ds_rows r]
    rfl
theorem Bt.d_rows (t : Bt) : t.d = .tuple (t.rows.map rowB) := by rw [Bt.d, Bt.ds_rows]
def Bt.of : List (PyData × Bb) → Bt
  | [] => .nil
  | p :: r => .cons p.1 p.2.g p.2.s p.2.h p.2.inner (Bt.of r)
theorem Bt.rows_of : ∀ xs, (Bt.of xs).rows = xs
  | [] => rfl
  | p :: r => by rw [Bt.of, Bt.rows, Bt.rows_of r]
theorem Bt.of_rows : ∀ t : Bt, Bt.of t.rows = t
  | .nil => rfl
  | .cons l g s h i r => by rw [Bt.rows, Bt.of, Bt.of_rows r]
theorem Bt.d_of (xs : List (PyData × Bb)) : (Bt.of xs).d = .tuple (xs.map rowB) := by rw [Bt.d_rows, Bt.rows_of]
/-- labels are labels, whatever else there is -/
def Bt.lab : Bt → Prop
  | .nil => True
  | .cons l _ _ _ i r => Lab l ∧ i.lab ∧ r.lab
def LabR (xs : List (PyData × Bb)) : Prop := ∀ p ∈ xs, Lab p.1 ∧ p.2.inner.lab
theorem Bt.lab_of : ∀ {xs : List (PyData × Bb)}, LabR xs → (Bt.of xs).lab
  | [], _ => trivial
  | p :: r, h => ⟨(h p (by simp)).1, (h p (by simp)).2, Bt.lab_of fun q hq => h q (by simp [hq])⟩
theorem Bt.lab_rows : ∀ {t : Bt}, t.lab → LabR t.rows
  | .nil, _, p, h => by simp [Bt.rows] at h
  | .cons l g s hs i r, o, p, h => by
    rw [Bt.rows] at h
    rcases List.mem_cons.mp h with rfl | h
    · exact ⟨o.1, o.2.1⟩
    · exact Bt.lab_rows o.2.2 p h
def Bt.apart : Bt → Prop
  | .nil => True
  | .cons l _ _ _ i r => (∀ p ∈ r.rows, p.1 ≠ l) ∧ i.apart ∧ r.apart
theorem Bt.apart_of : ∀ {xs : List (PyData × Bb)}, xs.Pairwise (fun p q => q.1 ≠ p.1) → (∀ p ∈ xs, p.2.inner.apart) → (Bt.of xs).apart
  | [], _, _ => trivial
  | p :: r, h, k => by
    obtain ⟨h1, h2⟩ := List.pairwise_cons.mp h
    exact ⟨by rw [Bt.rows_of]; exact h1, k p (by simp), Bt.apart_of h2 fun q hq => k q (by simp [hq])⟩
theorem Bt.apart_rows : ∀ {t : Bt}, t.apart → t.rows.Pairwise (fun p q => q.1 ≠ p.1) ∧ ∀ p ∈ t.rows, p.2.inner.apart
  | .nil, _ => ⟨.nil, by simp [Bt.rows]⟩
  | .cons l g s h i r, o => by
    obtain ⟨h1, h2⟩ := Bt.apart_rows o.2.2
    rw [Bt.rows]
    refine ⟨List.pairwise_cons.mpr ⟨o.1, h1⟩, fun p hp => ?_⟩
    rcases List.mem_cons.mp hp with rfl | hp
    · exact o.2.1
    · exact h2 p hp
/-- how deep it is; how many rows it has -/
def Bt.deep : Bt → Nat
  | .nil => 0
  | .cons _ _ _ _ i r => max (1 + i.deep) r.deep
def Bt.cnt : Bt → Nat
  | .nil => 0
  | .cons _ _ _ _ i r => 1 + i.cnt + r.cnt
theorem Bt.rows_len : ∀ t : Bt, t.rows.length ≤ t.cnt
  | .nil => Nat.le_refl _
  | .cons l g s h i r => by
    have := Bt.rows_len r
    show r.rows.length + 1 ≤ 1 + i.cnt + r.cnt
    omega
theorem Bt.deep_rows : ∀ {t : Bt}, ∀ p ∈ t.rows, 1 + p.2.inner.deep ≤ t.deep
  | .nil, p, h => by simp [Bt.rows] at h
  | .cons l g s hs i r, p, h => by
    rw [Bt.rows] at h
    show _ ≤ max (1 + i.deep) r.deep
    rcases List.mem_cons.mp h with rfl | h
    · exact Nat.le_max_left _ _
    · exact Nat.le_trans (Bt.deep_rows p h) (Nat.le_max_right _ _)
theorem Bt.cnt_rows : ∀ {t : Bt}, ∀ p ∈ t.rows, 1 + p.2.inner.cnt ≤ t.cnt
  | .nil, p, h => by simp [Bt.rows] at h
  | .cons l g s hs i r, p, h => by
    rw [Bt.rows] at h
    show _ ≤ 1 + i.cnt + r.cnt
    rcases List.mem_cons.mp h with rfl | h
    · show 1 + i.cnt ≤ _
      omega
    · have := Bt.cnt_rows p h
      omega
theorem Bt.deep_of {m : Nat} : ∀ {xs : List (PyData × Bb)}, (∀ p ∈ xs, 1 + p.2.inner.deep ≤ m) → (Bt.of xs).deep ≤ m
  | [], _ => Nat.zero_le _
  | p :: r, h => by
    have h1 := Bt.deep_of (xs := r) fun q hq => h q (by simp [hq])
    have h2 := h p (by simp)
    show max (1 + p.2.inner.deep) (Bt.of r).deep ≤ m
    omega
theorem Bt.cnt_of {m : Nat} : ∀ {xs : List (PyData × Bb)}, (∀ p ∈ xs, p.2.inner.cnt ≤ m) → (Bt.of xs).cnt ≤ xs.length * (1 + m)
  | [], _ => Nat.zero_le _
  | p :: r, h => by
    have h1 := Bt.cnt_of (xs := r) fun q hq => h q (by simp [hq])
    have h2 := h p (by simp)
    show 1 + p.2.inner.cnt + (Bt.of r).cnt ≤ (r.length + 1) * (1 + m)
    rw [Nat.add_mul]
    omega
/-- the place of a label -/
def placeR (xs : List (PyData × Bb)) (l : PyData) : Option Nat := xs.findIdx? fun p => PyData.eqv p.1 l
theorem placeR_some {xs : List (PyData × Bb)} {l : PyData} {k : Nat} (h : placeR xs l = some k) : ∃ p, xs[k]? = some p ∧ PyData.eqv p.1 l = true := by
  obtain ⟨hk, hp, _⟩ := List.findIdx?_eq_some_iff_getElem.mp h
  exact ⟨xs[k], List.getElem?_eq_getElem hk, hp⟩
theorem placeR_none {xs : List (PyData × Bb)} {l : PyData} : placeR xs l = none ↔ ∀ p ∈ xs, PyData.eqv p.1 l = false := by
  rw [placeR, List.findIdx?_eq_none_iff]
/-- what stands at an address, from a box on -/
def atB : Bb → List PyData → Option Bb
  | b, [] => some b
  | b, l :: r => match placeR b.inner.rows l with
    | none => none
    | some k => match b.inner.rows[k]? with
      | none => none
      | some p => atB p.2 r
theorem atB_cons {b : Bb} {l : PyData} {r : List PyData} {k : Nat} {p : PyData × Bb} (h : placeR b.inner.rows l = some k) (hp : b.inner.rows[k]? = some p) : atB b (l :: r) = atB p.2 r := by
  rw [atB, h]
  show (match b.inner.rows[k]? with | none => none | some p => atB p.2 r) = _
  rw [hp]
theorem atB_none {b : Bb} {l : PyData} {r : List PyData} (h : placeR b.inner.rows l = none) : atB b (l :: r) = none := by
  rw [atB, h]
def rootB (t : Bt) : Bb := ⟨"", [], .tuple [], t⟩
def boxT (t : Bt) (ls : List PyData) : Option Bb := if ls.isEmpty then none else atB (rootB t) ls
def rowT (t : Bt) (ls : List PyData) : Option Bt := (atB (rootB t) ls).map Bb.inner
theorem rowT_box {t : Bt} {ls : List PyData} : rowT t ls = if ls.isEmpty then some t else (boxT t ls).map Bb.inner := by
  cases ls with
  | nil => rfl
  | cons l r => rfl
/-- a box put at an address that is there -/
def putT : Bt → List PyData → Bb → Bt
  | t, [], _ => t
  | t, l :: r, b => match placeR t.rows l with
    | none => t
    | some k => match t.rows[k]? with
      | none => t
      | some p => Bt.of (t.rows.take k ++ (l, if r.isEmpty then b else { p.2 with inner := putT p.2.inner r b }) :: t.rows.drop (k + 1))
theorem putT_cons {t : Bt} {l : PyData} {r : List PyData} {b : Bb} {k : Nat} {p : PyData × Bb} (h : placeR t.rows l = some k) (hp : t.rows[k]? = some p) :
    putT t (l :: r) b = Bt.of (t.rows.take k ++ (l, if r.isEmpty then b else { p.2 with inner := putT p.2.inner r b }) :: t.rows.drop (k + 1)) := by
  rw [putT, h]
  show (match t.rows[k]? with | none => t | some p => _) = _
  rw [hp]
def wrowT (t : Bt) (ls : List PyData) (u : Bt) : Option Bt := if ls.isEmpty then some u else match boxT t ls with
  | none => none
  | some b => some (putT t ls { b with inner := u })
/-! deeds -/
inductive Deed
  | put (a : List PyData) (p : Int) (l : PyData) (g : Str)
  | take (a : List PyData) (l : PyData)
  | move (a : List PyData) (l : PyData) (p : Int)
  | set (a : List PyData) (n : Str) (v : Int)
  | unset (a : List PyData) (n : Str)
  | hands (a : List PyData) (h : PyData)
def Deed.d : Deed → PyData
  | .put a p l g => .tuple [.str "put", .tuple a, .int p, l, .str g]
  | .take a l => .tuple [.str "take", .tuple a, l]
  | .move a l p => .tuple [.str "move", .tuple a, l, .int p]
  | .set a n v => .tuple [.str "set", .tuple a, .str n, .int v]
  | .unset a n => .tuple [.str "unset", .tuple a, .str n]
  | .hands a h => .tuple [.str "hands", .tuple a, h]
def Deed.a : Deed → List PyData
  | .put a _ _ _ => a
  | .take a _ => a
  | .move a _ _ => a
  | .set a _ _ => a
  | .unset a _ => a
  | .hands a _ => a
def Deed.ofRow : Deed → Bool
  | .put .. => true
  | .take .. => true
  | .move .. => true
  | _ => false
def trowR (xs : List (PyData × Bb)) : Deed → Option (List (PyData × Bb))
  | .put _ p l g => match placeR xs l with
    | some _ => none
    | none => if 0 ≤ p ∧ p ≤ (xs.length : Int) then some (xs.take p.toNat ++ (l, ⟨g, [], .tuple [], .nil⟩) :: xs.drop p.toNat) else none
  | .take _ l => match placeR xs l with
    | none => none
    | some k => some (xs.take k ++ xs.drop (k + 1))
  | .move _ l p => match placeR xs l with
    | none => none
    | some k => match xs[k]? with
      | none => none
      | some x => if 0 ≤ p ∧ p ≤ ((xs.take k ++ xs.drop (k + 1)).length : Int) then some ((xs.take k ++ xs.drop (k + 1)).take p.toNat ++ x :: (xs.take k ++ xs.drop (k + 1)).drop p.toNat) else none
  | _ => none
def othersS (s : List (Str × Int)) (n : Str) : List (Str × Int) := s.filter fun q => !decide (q.1 = n)
def tboxB (b : Bb) : Deed → Option Bb
  | .hands _ h => some { b with h := h }
  | .set _ n v => some { b with s := othersS b.s n ++ [(n, v)] }
  | .unset _ n => if (othersS b.s n).length = b.s.length then none else some { b with s := othersS b.s n }
  | _ => none
def turnedT (t : Bt) (d : Deed) : Option Bt := if d.ofRow then
    match rowT t d.a with
    | none => none
    | some u => match trowR u.rows d with
      | none => none
      | some xs => wrowT t d.a (Bt.of xs)
  else match boxT t d.a with
    | none => none
    | some b => match tboxB b d with
      | none => none
      | some b' => some (putT t d.a b')
def ledT : Bt → List Deed → Nat → Except Nat Bt
  | t, [], _ => .ok t
  | t, d :: r, k => match turnedT t d with
    | none => .error k
    | some t' => ledT t' r (k + 1)
/-! what stays right -/
theorem LabR.take {xs : List (PyData × Bb)} (h : LabR xs) (k : Nat) : LabR (xs.take k) := fun p hp => h p (List.mem_of_mem_take hp)
theorem LabR.drop {xs : List (PyData × Bb)} (h : LabR xs) (k : Nat) : LabR (xs.drop k) := fun p hp => h p (List.mem_of_mem_drop hp)
theorem LabR.append {xs ys : List (PyData × Bb)} (h : LabR xs) (h' : LabR ys) : LabR (xs ++ ys) := fun p hp => (List.mem_append.mp hp).elim (h p) (h' p)
theorem LabR.cons {xs : List (PyData × Bb)} {p : PyData × Bb} (h : Lab p.1 ∧ p.2.inner.lab) (h' : LabR xs) : LabR (p :: xs) := fun q hq => (List.mem_cons.mp hq).elim (fun e => by rw [e]; exact h) (h' q)
theorem atB_lab : ∀ {ls : List PyData} {b c : Bb}, b.inner.lab → atB b ls = some c → c.inner.lab
  | [], b, c, o, h => by
    rw [atB] at h
    cases h
    exact o
  | l :: r, b, c, o, h => by
    rw [atB] at h
    split at h
    · cases h
    · split at h
      · cases h
      · rename_i p hp
        exact atB_lab (Bt.lab_rows o p (List.mem_of_getElem? hp)).2 h
theorem putT_lab : ∀ {ls : List PyData} {t : Bt} {b : Bb}, t.lab → (∀ l ∈ ls, Lab l) → b.inner.lab → (putT t ls b).lab
  | [], t, b, o, _, _ => o
  | l :: r, t, b, o, hl, hb => by
    rw [putT]
    split
    · exact o
    · split
      · exact o
      · rename_i p hp
        have hR := Bt.lab_rows o
        refine Bt.lab_of ((hR.take _).append (LabR.cons ⟨hl l (by simp), ?_⟩ (hR.drop _)))
        show (if r.isEmpty then b else { p.2 with inner := putT p.2.inner r b }).inner.lab
        split
        · exact hb
        · exact putT_lab (hR p (List.mem_of_getElem? hp)).2 (fun x hx => hl x (by simp [hx])) hb
def Deed.lab : Deed → Prop
  | .put a _ l _ => (∀ x ∈ a, Lab x) ∧ Lab l
  | .take a l => (∀ x ∈ a, Lab x) ∧ Lab l
  | .move a l _ => (∀ x ∈ a, Lab x) ∧ Lab l
  | .set a _ _ => ∀ x ∈ a, Lab x
  | .unset a _ => ∀ x ∈ a, Lab x
  | .hands a _ => ∀ x ∈ a, Lab x
theorem Deed.lab_a {d : Deed} (h : d.lab) : ∀ x ∈ d.a, Lab x := by
  cases d with
  | put => exact h.1
  | take => exact h.1
  | move => exact h.1
  | set => exact h
  | unset => exact h
  | hands => exact h
theorem trowR_lab {xs ys : List (PyData × Bb)} {d : Deed} (o : LabR xs) (hd : d.lab) (h : trowR xs d = some ys) : LabR ys := by
  cases d with
  | put a p l g =>
    rw [trowR] at h
    split at h
    · cases h
    · split at h
      · cases h
        exact (o.take _).append (LabR.cons ⟨hd.2, trivial⟩ (o.drop _))
      · cases h
  | take a l =>
    rw [trowR] at h
    split at h
    · cases h
    · cases h
      exact (o.take _).append (o.drop _)
  | move a l p =>
    rw [trowR] at h
    split at h
    · cases h
    · split at h
      · cases h
      · rename_i x hx
        split at h
        · cases h
          have o2 := (o.take ‹Nat›).append (o.drop (‹Nat› + 1))
          exact (o2.take _).append (LabR.cons (o x (List.mem_of_getElem? hx)) (o2.drop _))
        · cases h
  | set => cases h
  | unset => cases h
  | hands => cases h
theorem tboxB_lab {b c : Bb} {d : Deed} (o : b.inner.lab) (h : tboxB b d = some c) : c.inner.lab := by
  cases d with
  | put => cases h
  | take => cases h
  | move => cases h
  | set => cases h; exact o
  | unset a n =>
    rw [tboxB] at h
    split at h
    · cases h
    · cases h; exact o
  | hands => cases h; exact o
theorem turnedT_lab {t u : Bt} {d : Deed} (o : t.lab) (hd : d.lab) (h : turnedT t d = some u) : u.lab := by
  have ha := Deed.lab_a hd
  rw [turnedT] at h
  split at h
  · rw [rowT] at h
    cases e : atB (rootB t) d.a with
    | none => rw [e] at h; cases h
    | some b =>
      rw [e] at h
      have ob := atB_lab (b := rootB t) o e
      cases e2 : trowR b.inner.rows d with
      | none => simp only [Option.map_some, e2] at h; cases h
      | some xs =>
        simp only [Option.map_some, e2] at h
        have ox := Bt.lab_of (trowR_lab (Bt.lab_rows ob) hd e2)
        rw [wrowT] at h
        split at h
        · cases h; exact ox
        · split at h
          · cases h
          · cases h
            exact putT_lab o ha ox
  · cases e : boxT t d.a with
    | none => rw [e] at h; cases h
    | some b =>
      rw [e] at h
      have ob : b.inner.lab := by
        rw [boxT] at e
        split at e
        · cases e
        · exact atB_lab (b := rootB t) o e
      cases e2 : tboxB b d with
      | none => simp only [e2] at h; cases h
      | some c =>
        simp only [e2] at h
        cases h
        exact putT_lab o ha (tboxB_lab ob e2)
theorem u70 {A : Around} {k : Nat} (hr : Room k A) : A.units + 70 < cLine := by have := hr.un; omega
theorem atB_cnt : ∀ {ls : List PyData} {b c : Bb}, atB b ls = some c → c.inner.cnt ≤ b.inner.cnt
  | [], b, c, h => by
    rw [atB] at h
    cases h
    exact Nat.le_refl _
  | l :: r, b, c, h => by
    rw [atB] at h
    split at h
    · cases h
    · split at h
      · cases h
      · rename_i p hp
        have := Bt.cnt_rows p (List.mem_of_getElem? hp)
        have := atB_cnt h
        omega
/-- what turned may be asked -/
def DeedOk (t : Bt) (d : Deed) : Prop := (∀ a n x b, d = .set a n x → boxT t a = some b → b.s = []) ∧ (∀ a n b, d = .unset a n → boxT t a = some b → b.s.length ≤ 1000) ∧ d.lab ∧ d.a.length < 30 ∧ t.lab ∧ t.cnt ≤ 800
def LedOk : Bt → List Deed → Prop
  | _, [] => True
  | t, d :: r => DeedOk t d ∧ ∀ u, turnedT t d = some u → LedOk u r

/-! ### the refusals: a class above, one with a field of its own -/
abbrev s_NoDeed_init : Stmt := clsS (topS 4) 0
abbrev N_NoDeed_init : List Str := ["self", "place"]
theorem sc_NoDeed_init : FnScope N_NoDeed_init ["self", "place"] (defScope s_NoDeed_init) := ⟨rfl, rfl, rfl, by decide +kernel, rfl, by decide +kernel, by decide +kernel⟩
structure ExcW (K : PySem.W.Frag) (mg : Str → Option Value) (cV cT cB cD cC cR : Addr) : Prop where
  gV : mg "ViewError" = some (.ref cV)
  gT : mg "NoText" = some (.ref cT)
  gB : mg "NoDeed" = some (.ref cB)
  gD : mg "NoBox" = some (.ref cD)
  gC : mg "NoChange" = some (.ref cC)
  gR : mg "NoRow" = some (.ref cR)
  up : UpC K cV
  ox : OexC K cB
  ask : AskC K cB
  noA : PySem.W.findIn K (.ref cB) "place" = some none
  exV : PySem.W.exmOne K (.ref cB) (.ref cV) = some true
  kVE : PySem.W.kitOne K (.ref cB) (.type "ValueError") = some true
  kN : PySem.W.kitAny K (.ref cB) [.ref cD, .ref cC, .ref cR, .ref cT] = some false
  ini : ∃ fI fd, Fun K "__init__" "NoDeed.__init__" s_NoDeed_init fI fd ∧ Binds K fd ["self", "place"] [] ∧ PySem.W.findIn K (.ref cB) "__init__" = some (some (.ref fI)) ∧ PySem.W.typeIn K (.ref fI) = some (.type "function")
section
variable {P : Program} {w : World} {K : PySem.W.Frag} {mg : Str → Option Value} {base : Heap} {cV cT cB cD cC cR : Addr}
theorem w_vei {ta : TA} {σ : L2.St} {H : Hp} {Q : VK} (q : ta σ H fun vs H1 => ∃ (a C : Addr) (ws : List V), vs = .ref a :: ws ∧ ws.length ≤ 1000 ∧ OexC K C ∧ H1 a = some (exo a C none) ∧ Q .non H1) : tVeI K ta σ H Q := q
theorem w_ost {f : Str} {to te : TE} {D : Ends} {σ : L2.St} {H : Hp} (q : te σ H fun y H1 => to σ H1 fun x H2 => ∃ a C : Addr, x = .ref a ∧ OexC K C ∧ PySem.W.findIn K (.ref C) f = some none ∧
  ((H2 a = some (exo a C none) ∧ ∀ dx, H2 dx = none → dx ≠ a → D.nx σ (upd (upd H2 dx (exd dx [(f, y)])) a (exo a C (some dx)))) ∨
    ∃ (dx : Addr) (fs : List (Str × V)), H2 a = some (exo a C (some dx)) ∧ H2 dx = some (exd dx fs) ∧ fs.length ≤ 900 ∧ D.nx σ (upd H2 dx (exd dx ((f, y) :: fs))))) : tOst K f to te D σ H := q
/-- __init__(self, address) -/
def sp_NoDeed_init (K : PySem.W.Frag) (cB : Addr) : Sp := fun vs H Q _ => ∃ (a : Addr) (v : V), vs = [.ref a, v] ∧ H a = some (exo a cB none) ∧ ∀ dx, H dx = none → dx ≠ a → Q .non (upd (upd H dx (exd dx [("place", v)])) a (exo a cB (some dx)))
theorem ok_NoDeed_init (T : Env K mg) (W : ExcW K mg cV cT cB cD cC cR) {fI : Addr} {fd : FuncData} (F : Fun K "__init__" "NoDeed.__init__" s_NoDeed_init fI fd) : FnOk P w K mg base CX0 1 fI fd ["self", "place"] (sp_NoDeed_init K cB) := by
  refine F.ok sc_NoDeed_init (fun vs H Q E h => ?_) (fun cdv A outer s H vs Q E hr h => ?_)
  · obtain ⟨a, v, rfl, _⟩ := h
    rfl
  · obtain ⟨a, v, rfl, ea, k⟩ := h
    refine ⟨_, (pss_cons (ps_expr (pe_upinit W.up rfl W.gV (pa_cons (pv 0) (pa_cons pe_str pa_nil)))) (pss_one (ps_ost (pv 0) (pv 1)))), ?_⟩
    walk_at "go"
    refine w_vei ?_
    walk_at "go"
    refine ⟨a, cB, _, rfl, by exact Nat.le_of_ble_eq_true rfl, W.ox, ea, ?_⟩
    walk_at "go"
    refine w_ost ?_
    walk_at "go"
    refine ⟨a, cB, rfl, W.ox, W.noA, .inl ⟨ea, fun dx h1 h2 => ?_⟩⟩
    exact k dx h1 h2
/-- NoDeed(e) -/
theorem pmk_box {X : Cx} {e : Expr} {ta : TA} {p pos : Pos} {k : Nat} (T : Env X.K X.mg) (W : ExcW X.K X.mg cV cT cB cD cC cR) (hr : Room k X.A) (hk : 2 ≤ k) (ha : PA X [e] ta) (hg : Gl X "NoDeed" := by rfl)
    (he : starEach (e :: []) X.env = (false, eval e X.env) :: starEach [] X.env := by rfl) (hpl : (backTo pos (starEach [] X.env)).any (·.1) = false := by rfl) : PMk X (.Call (.Name "NoDeed" p) [e] [] pos) (tMkO cB (sp_NoDeed_init X.K cB) [] ta) := by
  obtain ⟨fI, fd, F, b, i1, i2⟩ := W.ini
  exact pmk_oex (X := X) (p := p) (pos := pos) (e := e) (es := []) (ta := ta) (x := "NoDeed") (CX := CX0) W.ox i1 i2 (ok_NoDeed_init (P := X.prog) (w := X.w) (base := X.base) T W F) (k := 1) (hr.mono hk) b (.nil : Vals [] []) pass0 hg W.gB ha (by decide +kernel) he hpl
theorem w_mkBox {ta : TA} {σ : L2.St} {H : Hp} {Q : XK} (q : ta σ H fun vs H1 => vs.length ≤ 1000 ∧ ∀ a, H1 a = none → sp_NoDeed_init K cB (.ref a :: (vs ++ [])) (upd H1 a (exo a cB none))
  (fun v H2 => v = .non ∧ ∃ (d : Addr) (fs : List (Str × V)), H2 a = some (exo a cB (some d)) ∧ H2 d = some (exd d fs) ∧ H1 d = none ∧ Q (.ref cB) (some d) (upd (del H2 a) d (.xd fs))) (fun _ _ _ => False)) : tMkO cB (sp_NoDeed_init K cB) [] ta σ H Q := q
theorem box_made {v : V} {H1 : Hp} {Q : XK} (k : ∀ d H', H1 d = none → Fr [] H1 H' → H' d = some (.xd [("place", v)]) → Q (.ref cB) (some d) H') : [v].length ≤ 1000 ∧ ∀ a, H1 a = none → sp_NoDeed_init K cB (.ref a :: ([v] ++ [])) (upd H1 a (exo a cB none))
    (fun v H2 => v = .non ∧ ∃ (d : Addr) (fs : List (Str × V)), H2 a = some (exo a cB (some d)) ∧ H2 d = some (exd d fs) ∧ H1 d = none ∧ Q (.ref cB) (some d) (upd (del H2 a) d (.xd fs))) (fun _ _ _ => False) := by
  refine ⟨by exact Nat.le_of_ble_eq_true rfl, fun a ha => ⟨a, v, rfl, upd_same, fun dx h1 h2 => ⟨rfl, dx, [("place", v)], upd_same, ?_, ?_, ?_⟩⟩⟩
  · rw [upd_ne h2]
    exact upd_same
  · rw [upd_ne h2] at h1
    exact h1
  · have h1' : H1 dx = none := by rw [upd_ne h2] at h1; exact h1
    refine k dx _ h1' (fun b o e _ => ?_) upd_same
    have nd : b ≠ dx := by
      rintro rfl
      rw [h1'] at e
      cases e
    have na : b ≠ a := by
      rintro rfl
      rw [ha] at e
      cases e
    rw [upd_ne nd, del_ne na, upd_ne na, upd_ne nd, upd_ne na]
    exact e
theorem w_raise {W : WX} {t : L2.St → Hp → XK → Prop} {D : Ends} {σ : L2.St} {H : Hp} (q : t σ H fun cls d H' => W cls d σ H') : (fun (_ : Ends) (σ : L2.St) (H : Hp) => t σ H fun cls d H' => W cls d σ H') D σ H := q
end

section
variable {P : Program} {w : World} {K : PySem.W.Frag} {mg : Str → Option Value} {base : Heap}
theorem _root_.U.Dt.lenU {H : Hp} {v : V} {ds : List PyData} {Q : VK} (h : Dt K H v (.tuple ds)) (q : Q (.int ds.length) H) : rLenU K [v] H Q := by
  obtain ⟨p, vs, rfl, s, a⟩ := h.tuple
  rw [← a.length] at q
  exact w_lenT s q
theorem cutA_to {α : Type} {xs : List α} (i : Int) (hi : 0 ≤ i) : cutA xs none (some i) = xs.take i.toNat := by
  obtain ⟨n, rfl⟩ := Int.eq_ofNat_of_zero_le hi
  exact cutA_take n
theorem cutA_from {α : Type} {xs : List α} (i : Int) (hi : 0 ≤ i) : cutA xs (some i) none = xs.drop i.toNat := by
  obtain ⟨n, rfl⟩ := Int.eq_ofNat_of_zero_le hi
  exact cutA_drop n
def sp_place_of (K : PySem.W.Frag) : Sp := fun vs H Q _ => ∃ (v vl : V) (xs : List (PyData × Bb)) (l : PyData), vs = [v, vl] ∧ Dt K H v (.tuple (xs.map rowB)) ∧ Dt K H vl l ∧ LabR xs ∧ Lab l ∧ xs.length ≤ 100000 ∧
  (∀ k H', Fr [] H H' → placeR xs l = some k → Q (.int k) H') ∧ (∀ H', Fr [] H H' → placeR xs l = none → Q .non H')
theorem ok_place_of (T : Env K mg) : Fx P w K mg base 1 "place_of" p_place_of (sp_place_of K) := by
  refine T.l_place_of.ok sc_place_of (fun vs H Q E h => ?_) (fun f cdv A outer s H vs Q E hr h => ?_)
  · obtain ⟨v, vl, xs, l, rfl, _⟩ := h
    rfl
  · obtain ⟨v, vl, xs, l, rfl, dv, dl, lx, ll, lN, k1, k2⟩ := h
    refine ⟨_, (pss_cons (ps_for PassesOwn.never rfl (pi_range1 rfl T.m_range (pa_cons (pe_callB (call_lenU (K := K) rfl) (by rfl) T.m_len (by decide +kernel) (pa_cons (pv 0) pa_nil)) pa_nil)) (pg_name (i := 2) sc_place_of.nd rfl (Or.inl rfl)) (pss_one (ps_if (pt_cmpR (op_eqU (K := K) rfl (u64 hr)) (pe_ix (ix_U (K := K) rfl) (pe_ix (ix_U (K := K) rfl) (pv 0) (pv 2) (fun _ _ => rfl)) pe_int (fun _ _ => rfl)) (pv 1) (nomark _)) (pss_one (ps_ret (pv 2))) pss_nil)))
      (pss_one (ps_ret pe_non))), ?_⟩
    walk_at "go"
    refine dv.lenU ?_
    rw [List.length_map]
    walk_at "go"
    refine F_R1 xs.length (by omega) (by omega) (by omega) (fun i σ H' => H = H' ∧ (∀ (j : Nat) p, j < i → xs[j]? = some p → PyData.eqv p.1 l = false) ∧ ∃ v2 : Option V, σ = [some v, some vl, v2]) ⟨rfl, fun j p hj => absurd hj (Nat.not_lt_zero _), _, rfl⟩ ?_ ?_
    · rintro i σ H' hi ⟨rfl, hp, v2, rfl⟩
      obtain ⟨p, ep⟩ : ∃ p, xs[i]? = some p := ⟨_, List.getElem?_eq_getElem hi⟩
      have lp := (lx p (List.mem_of_getElem? ep)).1
      walk_at "go"
      refine Dt.ix i dv (by rw [List.getElem?_map, ep]; rfl) fun rv dr => ?_
      walk_at "go"
      refine Dt.ix 0 dr rfl fun u0 d0 => ?_
      walk_at "go"
      refine w_eqD d0.dp dl.dp lp.good.shaped ll.good.shaped ?_
      cases e : PyData.eqv p.1 l with
      | true =>
        walk_at "go"
        refine k1 i _ Fr.refl ?_
        have hg : xs[i] = p := by
          have z := List.getElem?_eq_getElem hi
          rw [ep] at z
          exact (Option.some.inj z).symm
        refine List.findIdx?_eq_some_iff_getElem.mpr ⟨hi, by rw [hg]; exact e, fun j hj => ?_⟩
        have := hp j xs[j] hj (List.getElem?_eq_getElem (by omega))
        rw [this]
        exact Bool.false_ne_true
      | false =>
        walk_at "go"
        refine ⟨rfl, fun j q hj eq => ?_, _, rfl⟩
        rcases Nat.lt_succ_iff_lt_or_eq.mp hj with z | rfl
        · exact hp j q z eq
        · rw [ep] at eq
          cases eq
          exact e
    · rintro σ H' ⟨rfl, hp, v2, rfl⟩
      walk_at "go"
      refine k2 _ Fr.refl (placeR_none.mpr fun p hm => ?_)
      obtain ⟨j, hj, rfl⟩ := List.getElem_of_mem hm
      exact hp j _ hj (List.getElem?_eq_getElem hj)
def sp_box_found (K : PySem.W.Frag) : Sp := fun vs H Q _ => ∃ (v va : V) (t : Bt) (ls : List PyData), vs = [v, va] ∧ Dt K H v t.d ∧ Dt K H va (.tuple ls) ∧ t.lab ∧ (∀ l ∈ ls, Lab l) ∧ t.cnt ≤ 100000 ∧
  (∀ b u H', Fr [] H H' → boxT t ls = some b → Dt K H' u b.d → Q u H') ∧ (∀ H', Fr [] H H' → boxT t ls = none → Q .non H')
theorem ok_box_found (T : Env K mg) : Fx P w K mg base 2 "box_found" p_box_found (sp_box_found K) := by
  refine T.l_box_found.ok sc_box_found (fun vs H Q E h => ?_) (fun f cdv A outer s H vs Q E hr h => ?_)
  · obtain ⟨v, va, t, ls, rfl, _⟩ := h
    rfl
  · obtain ⟨v, va, t, ls, rfl, dv, da, lt, la, ct, k1, k2⟩ := h
    refine ⟨_, (pss_cons (ps_set (i := 2) sc_box_found.nd rfl (Or.inl rfl) (pv 0))
      (pss_cons (ps_set (i := 3) sc_box_found.nd rfl (Or.inl rfl) pe_non)
      (pss_cons (ps_for PassesOwn.never rfl (pi_tupU (K := K) rfl (pv 1)) (pg_name (i := 4) sc_box_found.nd rfl (Or.inl rfl)) (pss_cons (ps_set (i := 5) sc_box_found.nd rfl (Or.inl rfl) (pe_fx (ok_place_of (P := P) (w := w) T) hr (by decide) (pa_cons (pv 2) (pa_cons (pv 4) pa_nil))))
      (pss_cons (ps_if (pt_cmp (pc_isN (pv 5))) (pss_one (ps_ret pe_non)) pss_nil)
      (pss_cons (ps_set (i := 3) sc_box_found.nd rfl (Or.inl rfl) (pe_ix (ix_U (K := K) rfl) (pe_ix (ix_U (K := K) rfl) (pv 2) (pv 5) (fun _ _ => rfl)) pe_int (fun _ _ => rfl)))
      (pss_one (ps_set (i := 2) sc_box_found.nd rfl (Or.inl rfl) (pe_ix (ix_U (K := K) rfl) (pv 3) pe_int (fun _ _ => rfl))))))))
      (pss_one (ps_ret (pv 3)))))), ?_⟩
    walk_at "go"
    refine da.walk (fun i σ H' => Fr [] H H' ∧ ∃ (b : Bb) (rv bv : V) (v4 v5 : Option V), σ = [some v, some va, some rv, some bv, v4, v5] ∧ atB b (ls.drop i) = atB (rootB t) ls ∧ Dt K H' rv b.inner.d ∧ b.inner.lab ∧ b.inner.cnt ≤ 100000 ∧ (i = 0 → bv = .non) ∧ (0 < i → Dt K H' bv b.d)) ?_ ?_ ?_ ?_
    · exact ⟨Fr.refl, rootB t, v, .non, _, _, rfl, rfl, dv, lt, ct, fun _ => rfl, fun h => absurd h (Nat.lt_irrefl _)⟩
    · rintro i σ H' ⟨z, _⟩
      exact z.tu
    · rintro i lv l σ H1 hl dl ⟨f1, b, rv, bv, v4, v5, rfl, e1, dr, lb, cb, _, _⟩
      obtain ⟨hlt, el⟩ := List.getElem?_eq_some_iff.mp hl
      have edr : ls.drop i = l :: ls.drop (i + 1) := by rw [List.drop_eq_getElem_cons hlt, el]
      rw [edr] at e1
      have ne : ls.isEmpty = false := by
        cases ls with
        | nil => simp at hlt
        | cons => rfl
      have hbx : boxT t ls = atB (rootB t) ls := by rw [boxT, ne]; rfl
      have lR := Bt.lab_rows lb
      have len := Bt.rows_len b.inner
      have ll : Lab l := la l (List.mem_of_getElem? hl)
      walk_at "go"
      rw [Bt.d_rows] at dr
      refine ⟨rv, lv, b.inner.rows, l, rfl, dr, dl, lR, ll, by omega, fun k H2 f2 ek => ?_, fun H2 f2 ek => ?_⟩
      · obtain ⟨p, ep, _⟩ := placeR_some ek
        rw [atB_cons ek ep] at e1
        walk_at "go"
        refine ite_d (fun h0 => nomatch h0) (fun _ => ?_)
        walk_at "go"
        refine Dt.ix k (dr.mono f2.tu) (by rw [List.getElem?_map, ep]; rfl) fun u0 d0 => ?_
        walk_at "go"
        refine Dt.ix 1 d0 rfl fun u1 d1 => ?_
        walk_at "go"
        refine Dt.ix 3 d1 rfl fun u3 d3 => ?_
        have cp := Bt.cnt_rows p (List.mem_of_getElem? ep)
        exact ⟨f1.trans f2, p.2, u3, u1, _, _, rfl, e1, d3, (lR p (List.mem_of_getElem? ep)).2, by omega, fun h => absurd h (Nat.succ_ne_zero _), fun _ => d1⟩
      · rw [atB_none ek] at e1
        walk_at "go"
        exact k2 H2 (f1.trans f2) (by rw [hbx, ← e1])
    · rintro σ H1 ⟨f1, b, rv, bv, v4, v5, rfl, e1, dr, lb, cb, h0, h1⟩
      walk_at "go"
      rw [List.drop_length, atB] at e1
      cases ls with
      | nil =>
        rw [h0 rfl]
        exact k2 H1 f1 rfl
      | cons x r =>
        refine k1 b bv H1 f1 ?_ (h1 (Nat.succ_pos _))
        rw [boxT, ← e1]
        rfl
def sp_row_found (K : PySem.W.Frag) : Sp := fun vs H Q _ => ∃ (v va : V) (t : Bt) (ls : List PyData), vs = [v, va] ∧ Dt K H v t.d ∧ Dt K H va (.tuple ls) ∧ t.lab ∧ (∀ l ∈ ls, Lab l) ∧ t.cnt ≤ 100000 ∧
  (∀ b u H', Fr [] H H' → rowT t ls = some b → Dt K H' u b.d → Q u H') ∧ (∀ H', Fr [] H H' → rowT t ls = none → Q .non H')
theorem ok_row_found (T : Env K mg) : Fx P w K mg base 3 "row_found" p_row_found (sp_row_found K) := by
  refine T.l_row_found.ok sc_row_found (fun vs H Q E h => ?_) (fun f cdv A outer s H vs Q E hr h => ?_)
  · obtain ⟨v, va, t, ls, rfl, _⟩ := h
    rfl
  · obtain ⟨v, va, t, ls, rfl, dv, da, lt, la, ct, k1, k2⟩ := h
    refine ⟨_, (pss_cons (ps_if (pt_cmpR (op_eqU (K := K) rfl (u64 hr)) (pv 1) (pe_tup pa_nil) (nomark _)) (pss_one (ps_ret (pv 0))) pss_nil)
      (pss_cons (ps_set (i := 2) sc_row_found.nd rfl (Or.inl rfl) (pe_fx (ok_box_found (P := P) (w := w) T) hr (by decide) (pa_cons (pv 0) (pa_cons (pv 1) pa_nil))))
      (pss_cons (ps_if (pt_cmp (pc_isN (pv 2))) (pss_one (ps_ret pe_non)) pss_nil)
      (pss_one (ps_ret (pe_ix (ix_U (K := K) rfl) (pv 2) pe_int (fun _ _ => rfl))))))), ?_⟩
    have sha : SeqAt.shaped (.tuple ls) = true := (good_tup (n := 2) fun l hl => (la l hl).good).shaped
    walk_at "go"
    refine mkT (K := K) .nil fun p1 H1 n1 f1 d1 => ?_
    refine w_eqD (da.mono f1.tu).dp d1.dp sha (by rfl) ?_
    cases ls with
    | nil =>
      rw [show PyData.eqv (.tuple []) (.tuple []) = true from rfl]
      walk_at "go"
      exact k1 t v H1 f1 rfl (dv.mono f1.tu)
    | cons l r =>
      rw [show PyData.eqv (.tuple (l :: r)) (.tuple []) = false from rfl]
      have e : rowT t (l :: r) = (boxT t (l :: r)).map Bb.inner := rowT_box
      walk_at "go"
      refine ⟨v, va, t, l :: r, rfl, dv.mono f1.tu, da.mono f1.tu, lt, la, ct, fun b u H2 f2 eb db => ?_, fun H2 f2 eb => ?_⟩
      · have db' := db
        obtain ⟨pb, _, rfl, _, _⟩ := db'.tuple
        walk_at "go"
        refine ite_d (fun h0 => nomatch h0) (fun _ => ?_)
        walk_at "go"
        refine Dt.ix 3 db rfl fun u3 d3 => ?_
        exact k1 b.inner u3 H2 (f1.trans f2) (by rw [e, eb]; rfl) d3
      · walk_at "go"
        exact k2 H2 (f1.trans f2) (by rw [e, eb]; rfl)
def sp_with_box (K : PySem.W.Frag) (n : Nat) : Sp := fun vs H Q _ => ∃ (v va vb : V) (t : Bt) (ls : List PyData) (b : Bb), vs = [v, va, vb] ∧ (ls.length < n ∧ n ≤ 100) ∧ Dt K H v t.d ∧ Dt K H va (.tuple ls) ∧ Dt K H vb b.d ∧ t.lab ∧ (∀ l ∈ ls, Lab l) ∧ t.cnt ≤ 1000 ∧ ls ≠ [] ∧ atB (rootB t) ls ≠ none ∧
  ∀ u H', Fr [] H H' → Dt K H' u (putT t ls b).d → Q u H'
theorem atB_root {b : Bb} {t : Bt} (h : b.inner = t) : ∀ {ls : List PyData}, ls ≠ [] → atB b ls = atB (rootB t) ls
  | [], n => absurd rfl n
  | l :: r, _ => by
    subst h
    rfl
theorem ok_with_box (T : Env K mg) : ∀ n, Fx P w K mg base (2 + n) "with_box" p_with_box (sp_with_box K n)
  | 0 => T.l_with_box.ok (k := 2 - 1) sc_with_box (fun vs H Q E h => by
      obtain ⟨v, va, vb, t, ls, b, _, h, _⟩ := h
      exact absurd h.1 (Nat.not_lt_zero _)) (fun f cdv A outer s H vs Q E hr h => by
      obtain ⟨v, va, vb, t, ls, b, _, h, _⟩ := h
      exact absurd h.1 (Nat.not_lt_zero _))
  | n + 1 => by
    have IH := ok_with_box T n
    refine T.l_with_box.ok sc_with_box (fun vs H Q E h => ?_) (fun f cdv A outer s H vs Q E hr h => ?_)
    · obtain ⟨v, va, vb, t, ls, b, rfl, _⟩ := h
      rfl
    · obtain ⟨v, va, vb, t, ls, b, rfl, ln, dv, da, db, lt, la, ct, ne, th, k⟩ := h
      cases ls with
      | nil => exact absurd rfl ne
      | cons l r =>
      have lN := Bt.rows_len t
      have lR := Bt.lab_rows lt
      have lnr : r.length < n := by have z : r.length + 1 < n + 1 := ln.1; omega
      refine ⟨_, (pss_cons (ps_set (i := 3) sc_with_box.nd rfl (Or.inl rfl) (pe_fx (ok_place_of (P := P) (w := w) T) hr (Nat.le_trans (m := 2) (by decide) (Nat.le_add_right 2 _)) (pa_cons (pv 0) (pa_cons (pe_ix (ix_U (K := K) rfl) (pv 1) pe_int (fun _ _ => rfl)) pa_nil))))
      (C8.pss_cut (ps_if (pt_cmpR op_gt (pe_callB (call_lenU (K := K) rfl) (by rfl) T.m_len (by decide +kernel) (pa_cons (pv 1) pa_nil)) pe_int (nomark _)) (pss_cons (ps_asg (pe_ix (ix_U (K := K) rfl) (pe_ix (ix_U (K := K) rfl) (pv 0) (pv 3) (fun _ _ => rfl)) pe_int (fun _ _ => rfl)) (pg_tupU (K := K) (n := 4) rfl rfl (pgs_cons (pg_name (i := 4) sc_with_box.nd rfl (Or.inl rfl)) (pgs_cons (pg_name (i := 5) sc_with_box.nd rfl (Or.inl rfl)) (pgs_cons (pg_name (i := 6) sc_with_box.nd rfl (Or.inl rfl)) (pgs_cons (pg_name (i := 7) sc_with_box.nd rfl (Or.inl rfl)) pgs_nil))))))
      (pss_one (ps_set (i := 2) sc_with_box.nd rfl (Or.inl rfl) (pe_tup (pa_cons (pv 4) (pa_cons (pv 5) (pa_cons (pv 6) (pa_cons (pe_fx (IH) hr (Nat.le_refl _) (pa_cons (pv 7) (pa_cons (pe_slice (sl_U (K := K) rfl) (pv 1) (po_some pe_int) po_none) (pa_cons (pv 2) pa_nil)))) pa_nil)))))))) pss_nil)
      (pss_one (ps_ret (pe_op (op_addU (K := K) rfl) (pe_op (op_addU (K := K) rfl) (pe_slice (sl_U (K := K) rfl) (pv 0) po_none (po_some (pv 3))) (pe_tup (pa_cons (pe_tup (pa_cons (pe_ix (ix_U (K := K) rfl) (pv 1) pe_int (fun _ _ => rfl)) (pa_cons (pv 2) pa_nil))) pa_nil))) (pe_slice (sl_U (K := K) rfl) (pv 0) (po_some (pe_op (op_addU (K := K) rfl) (pv 3) pe_int)) po_none)))))), ?_⟩
      have dR := dv
      rw [Bt.d_rows] at dR
      walk_at "go"
      refine Dt.ix 0 da rfl fun lv dl => ?_
      refine ⟨v, lv, t.rows, l, rfl, dR, dl, lR, la l (by simp), by omega, fun kk H1 f1 ek => ?_, fun H1 f1 ek => ?_⟩
      · obtain ⟨p, ep, _⟩ := placeR_some ek
        rw [putT_cons ek ep] at k
        have hk : kk < t.rows.length := (List.getElem?_eq_some_iff.mp ep).1
        have thr : atB p.2 r ≠ none := by
          rw [← atB_cons (b := rootB t) ek ep]
          exact th
        have cp := Bt.cnt_rows p (List.mem_of_getElem? ep)
        walk_at "go"
        refine w_cut (fun σ' H' => Fr [] H H' ∧ ∃ (bv : V) (v4 v5 v6 v7 : Option V), σ' = [some v, some va, some bv, some (.int kk), v4, v5, v6, v7] ∧ Dt K H' bv (if r.isEmpty then b else { p.2 with inner := putT p.2.inner r b } : Bb).d) ?_ ?_
        · walk_at "go"
          refine (da.mono f1.tu).lenU ?_
          walk_at "go"
          cases r with
          | nil =>
            refine ite_d (fun h0 => absurd h0 (by show ¬ ((1 : Int) < ((1 : Nat) : Int)); decide)) (fun _ => ?_)
            walk_at "go"
            exact ⟨f1, vb, _, _, _, _, rfl, db.mono f1.tu⟩
          | cons l2 r2 =>
            refine ite_d (fun _ => ?_) (fun h0 => absurd (by show (1 : Int) < ((l :: l2 :: r2).length : Nat); rw [List.length_cons, List.length_cons]; omega) h0)
            walk_at "go"
            refine Dt.ix kk (dR.mono f1.tu) (by rw [List.getElem?_map, ep]; rfl) fun u0 d0 => ?_
            walk_at "go"
            refine Dt.ix 1 d0 rfl fun u1 d1 => ?_
            obtain ⟨a', us, rfl, sa, av⟩ := d1.tuple
            cases av with
            | cons e1 av =>
            cases av with
            | cons e2 av =>
            cases av with
            | cons e3 av =>
            cases av with
            | cons e4 av =>
            cases av
            refine w_gtup sa rfl ?_
            walk_at "go"
            refine (da.mono f1.tu).slice fun pa H2 f2 d2 => ?_
            rw [show (some (1 : Int)) = some ((1 : Nat) : Int) from rfl, cutA_drop] at d2
            walk_at "go"
            refine ⟨_, _, vb, p.2.inner, l2 :: r2, b, rfl, ⟨lnr, by omega⟩, e4.mono f2.tu, d2, (db.mono f1.tu).mono f2.tu, (lR p (List.mem_of_getElem? ep)).2, fun x hx => la x (by simp only [List.mem_cons] at hx ⊢; exact .inr hx), by omega, by simp, by rw [← atB_root (b := p.2) rfl (by simp)]; exact thr, fun iv H3 f3 d3 => ?_⟩
            walk_at "go"
            refine mkT (K := K) (.cons ((e1.mono f2.tu).mono f3.tu) (.cons ((e2.mono f2.tu).mono f3.tu) (.cons ((e3.mono f2.tu).mono f3.tu) (.cons d3 .nil)))) fun p4 H4 n4 f4 d4 => ?_
            exact ⟨((f1.trans f2).trans f3).trans f4, _, _, _, _, _, rfl, d4⟩
        · rintro σ' H2 ⟨f2, bv, v4, v5, v6, v7, rfl, d2⟩
          generalize (if r.isEmpty then b else { p.2 with inner := putT p.2.inner r b } : Bb) = b2 at d2 k
          walk_at "go"
          refine (dR.mono f2.tu).slice fun p3 H3 f3 d3 => ?_
          rw [cutA_take] at d3
          walk_at "go"
          refine Dt.ix 0 ((da.mono f2.tu).mono f3.tu) rfl fun lv4 d4 => ?_
          walk_at "go"
          refine mkT (K := K) (.cons d4 (.cons (d2.mono f3.tu) .nil)) fun p5 H5 n5 f5 d5 => ?_
          walk_at "go"
          refine mkT (K := K) (.cons d5 .nil) fun p6 H6 n6 f6 d6 => ?_
          walk_at "go"
          refine ((d3.mono f5.tu).mono f6.tu).cat d6 (by rw [List.length_take, List.length_map]; show _ + 1 ≤ _; omega) fun p7 H7 f7 d7 => ?_
          walk_at "go"
          have f27 := ((f3.trans f5).trans f6).trans f7
          refine ((dR.mono f2.tu).mono f27.tu).slice fun p8 H8 f8 d8 => ?_
          rw [show ((kk : Int) + 1) = ((kk + 1 : Nat) : Int) from rfl, cutA_drop] at d8
          refine (d7.mono f8.tu).cat d8 (by rw [List.length_append, List.length_take, List.length_map, List.length_drop, List.length_map]; show _ + 1 + _ ≤ _; omega) fun p9 H9 f9 d9 => ?_
          refine k _ H9 (f2.trans (f27.trans (f8.trans f9))) ?_
          rw [Bt.d_of, List.map_append, List.map_cons, List.map_take, List.map_drop]
          rw [List.append_assoc] at d9
          exact d9
      · exact absurd (atB_none (b := rootB t) ek) th
def sp_with_row (K : PySem.W.Frag) : Sp := fun vs H Q _ => ∃ (v va vu : V) (t : Bt) (ls : List PyData) (u z : Bt), vs = [v, va, vu] ∧ ls.length < 30 ∧ Dt K H v t.d ∧ Dt K H va (.tuple ls) ∧ Dt K H vu u.d ∧ t.lab ∧ (∀ l ∈ ls, Lab l) ∧ t.cnt ≤ 1000 ∧ wrowT t ls u = some z ∧
  ∀ y H', Fr [] H H' → Dt K H' y z.d → Q y H'
theorem ok_with_row (T : Env K mg) : Fx P w K mg base 33 "with_row" p_with_row (sp_with_row K) := by
  refine T.l_with_row.ok sc_with_row (fun vs H Q E h => ?_) (fun f cdv A outer s H vs Q E hr h => ?_)
  · obtain ⟨v, va, vu, t, ls, u, z, rfl, _⟩ := h
    rfl
  · obtain ⟨v, va, vu, t, ls, u, z, rfl, ln, dv, da, du, lt, la, ct, ez, k⟩ := h
    refine ⟨_, (pss_cons (ps_if (pt_cmpR (op_eqU (K := K) rfl (u64 hr)) (pv 1) (pe_tup pa_nil) (nomark _)) (pss_one (ps_ret (pv 2))) pss_nil)
      (pss_cons (ps_asg (pe_fx (ok_box_found (P := P) (w := w) T) hr (by decide) (pa_cons (pv 0) (pa_cons (pv 1) pa_nil))) (pg_tupU (K := K) (n := 4) rfl rfl (pgs_cons (pg_name (i := 3) sc_with_row.nd rfl (Or.inl rfl)) (pgs_cons (pg_name (i := 4) sc_with_row.nd rfl (Or.inl rfl)) (pgs_cons (pg_name (i := 5) sc_with_row.nd rfl (Or.inl rfl)) (pgs_cons (pg_name (i := 6) sc_with_row.nd rfl (Or.inl rfl)) pgs_nil))))))
      (pss_one (ps_ret (pe_fx (ok_with_box (P := P) (w := w) T 30) hr (by decide) (pa_cons (pv 0) (pa_cons (pv 1) (pa_cons (pe_tup (pa_cons (pv 3) (pa_cons (pv 4) (pa_cons (pv 5) (pa_cons (pv 2) pa_nil))))) pa_nil)))))))), ?_⟩
    have sha : SeqAt.shaped (.tuple ls) = true := (good_tup (n := 2) fun l hl => (la l hl).good).shaped
    walk_at "go"
    refine mkT (K := K) .nil fun p1 H1 n1 f1 d1 => ?_
    refine w_eqD (da.mono f1.tu).dp d1.dp sha (by rfl) ?_
    cases ls with
    | nil =>
      rw [show PyData.eqv (.tuple []) (.tuple []) = true from rfl]
      walk_at "go"
      have e : u = z := Option.some.inj ez
      subst e
      exact k vu H1 f1 (du.mono f1.tu)
    | cons l r =>
      rw [show PyData.eqv (.tuple (l :: r)) (.tuple []) = false from rfl]
      walk_at "go"
      refine ⟨v, va, t, l :: r, rfl, dv.mono f1.tu, da.mono f1.tu, lt, la, by omega, fun b bv H2 f2 eb db => ?_, fun H2 f2 eb => ?_⟩
      · rw [wrowT, eb] at ez
        have e : putT t (l :: r) { b with inner := u } = z := Option.some.inj ez
        subst e
        obtain ⟨a', us, rfl, sa, av⟩ := db.tuple
        cases av with
        | cons e1 av =>
        cases av with
        | cons e2 av =>
        cases av with
        | cons e3 av =>
        cases av with
        | cons e4 av =>
        cases av
        refine w_gtup sa rfl ?_
        walk_at "go"
        refine mkT (K := K) (.cons e1 (.cons e2 (.cons e3 (.cons ((du.mono f1.tu).mono f2.tu) .nil)))) fun p3 H3 n3 f3 d3 => ?_
        have f13 := f1.trans (f2.trans f3)
        walk_at "go"
        refine ⟨v, va, _, t, l :: r, { b with inner := u }, rfl, ⟨ln, by decide⟩, dv.mono f13.tu, da.mono f13.tu, d3, lt, la, ct, by simp, ?_, fun y H4 f4 d4 => ?_⟩
        · show boxT t (l :: r) ≠ none
          rw [eb]
          exact fun h => nomatch h
        · exact k y H4 (f13.trans f4) d4
      · rw [wrowT, eb] at ez
        cases ez
/-- a deed is read: its word, its address -/
def Deed.word : Deed → Str
  | .put .. => "put"
  | .take .. => "take"
  | .move .. => "move"
  | .set .. => "set"
  | .unset .. => "unset"
  | .hands .. => "hands"
theorem Deed.ix0 {H : Hp} {v : V} {d : Deed} {Q : VK} (h : Dt K H v d.d) (q : Q (.str d.word) H) : rIx K v (.int 0) H Q := by
  cases d with
  | put => exact Dt.ix 0 h rfl fun u d => by cases d.of_str; exact q
  | take => exact Dt.ix 0 h rfl fun u d => by cases d.of_str; exact q
  | move => exact Dt.ix 0 h rfl fun u d => by cases d.of_str; exact q
  | set => exact Dt.ix 0 h rfl fun u d => by cases d.of_str; exact q
  | unset => exact Dt.ix 0 h rfl fun u d => by cases d.of_str; exact q
  | hands => exact Dt.ix 0 h rfl fun u d => by cases d.of_str; exact q
theorem Deed.ix1 {H : Hp} {v : V} {d : Deed} {Q : VK} (h : Dt K H v d.d) (q : ∀ u, Dt K H u (.tuple d.a) → Q u H) : rIx K v (.int 1) H Q := by
  cases d with
  | put => exact Dt.ix 1 h rfl q
  | take => exact Dt.ix 1 h rfl q
  | move => exact Dt.ix 1 h rfl q
  | set => exact Dt.ix 1 h rfl q
  | unset => exact Dt.ix 1 h rfl q
  | hands => exact Dt.ix 1 h rfl q
def sp_turned_row (K : PySem.W.Frag) : Sp := fun vs H Q _ => ∃ (v vd : V) (xs : List (PyData × Bb)) (d : Deed), vs = [v, vd] ∧ Dt K H v (.tuple (xs.map rowB)) ∧ Dt K H vd d.d ∧ LabR xs ∧ d.lab ∧ d.ofRow = true ∧ xs.length ≤ 900 ∧
  (∀ ys u H', Fr [] H H' → trowR xs d = some ys → Dt K H' u (.tuple (ys.map rowB)) → Q u H') ∧ (∀ H', Fr [] H H' → trowR xs d = none → Q .non H')
theorem ok_turned_row (T : Env K mg) : Fx P w K mg base 2 "turned_row" p_turned_row (sp_turned_row K) := by
  refine T.l_turned_row.ok sc_turned_row (fun vs H Q E h => ?_) (fun f cdv A outer s H vs Q E hr h => ?_)
  · obtain ⟨v, vd, xs, d, rfl, _⟩ := h
    rfl
  · obtain ⟨v, vd, xs, d, rfl, dv, dd, lx, ld, od, lN, k1, k2⟩ := h
    refine ⟨_, (pss_cons (ps_if (pt_cmpR (op_eqU (K := K) rfl (u64 hr)) (pe_ix (ix_U (K := K) rfl) (pv 1) pe_int (fun _ _ => rfl)) pe_str (nomark _)) (pss_cons (ps_asg (pv 1) (pg_tupU (K := K) (n := 5) rfl rfl (pgs_cons (pg_name (i := 2) sc_turned_row.nd rfl (Or.inl rfl)) (pgs_cons (pg_name (i := 3) sc_turned_row.nd rfl (Or.inl rfl)) (pgs_cons (pg_name (i := 4) sc_turned_row.nd rfl (Or.inl rfl)) (pgs_cons (pg_name (i := 5) sc_turned_row.nd rfl (Or.inl rfl)) (pgs_cons (pg_name (i := 6) sc_turned_row.nd rfl (Or.inl rfl)) pgs_nil)))))))
      (pss_cons (ps_if (PW.pt (pw_or (pt_cmp (pc_notN (pe_fx (ok_place_of (P := P) (w := w) T) hr (by decide) (pa_cons (pv 0) (pa_cons (pv 5) pa_nil))))) (pw_or1 (pt_not (pt_chain op_le op_le pe_int (pv 4) (pe_callB (call_lenU (K := K) rfl) (by rfl) T.m_len (by decide +kernel) (pa_cons (pv 0) pa_nil))))))) (pss_one (ps_ret pe_non)) pss_nil)
      (pss_one (ps_ret (pe_op (op_addU (K := K) rfl) (pe_op (op_addU (K := K) rfl) (pe_slice (sl_U (K := K) rfl) (pv 0) po_none (po_some (pv 4))) (pe_tup (pa_cons (pe_tup (pa_cons (pv 5) (pa_cons (pe_tup (pa_cons (pv 6) (pa_cons (pe_tup pa_nil) (pa_cons (pe_tup pa_nil) (pa_cons (pe_tup pa_nil) pa_nil))))) pa_nil))) pa_nil))) (pe_slice (sl_U (K := K) rfl) (pv 0) (po_some (pv 4)) po_none)))))) pss_nil)
      (pss_cons (ps_set (i := 7) sc_turned_row.nd rfl (Or.inl rfl) (pe_fx (ok_place_of (P := P) (w := w) T) hr (by decide) (pa_cons (pv 0) (pa_cons (pe_ix (ix_U (K := K) rfl) (pv 1) pe_int (fun _ _ => rfl)) pa_nil))))
      (pss_cons (ps_if (pt_cmp (pc_isN (pv 7))) (pss_one (ps_ret pe_non)) pss_nil)
      (pss_cons (ps_set (i := 8) sc_turned_row.nd rfl (Or.inl rfl) (pe_op (op_addU (K := K) rfl) (pe_slice (sl_U (K := K) rfl) (pv 0) po_none (po_some (pv 7))) (pe_slice (sl_U (K := K) rfl) (pv 0) (po_some (pe_op (op_addU (K := K) rfl) (pv 7) pe_int)) po_none)))
      (pss_cons (ps_if (pt_cmpR (op_eqU (K := K) rfl (u64 hr)) (pe_ix (ix_U (K := K) rfl) (pv 1) pe_int (fun _ _ => rfl)) pe_str (nomark _)) (pss_one (ps_ret (pv 8))) pss_nil)
      (pss_cons (ps_set (i := 4) sc_turned_row.nd rfl (Or.inl rfl) (pe_ix (ix_U (K := K) rfl) (pv 1) pe_int (fun _ _ => rfl)))
      (pss_cons (ps_if (pt_not (pt_chain op_le op_le pe_int (pv 4) (pe_callB (call_lenU (K := K) rfl) (by rfl) T.m_len (by decide +kernel) (pa_cons (pv 8) pa_nil)))) (pss_one (ps_ret pe_non)) pss_nil)
      (pss_one (ps_ret (pe_op (op_addU (K := K) rfl) (pe_op (op_addU (K := K) rfl) (pe_slice (sl_U (K := K) rfl) (pv 8) po_none (po_some (pv 4))) (pe_tup (pa_cons (pe_ix (ix_U (K := K) rfl) (pv 0) (pv 7) (fun _ _ => rfl)) pa_nil))) (pe_slice (sl_U (K := K) rfl) (pv 8) (po_some (pv 4)) po_none))))))))))), ?_⟩
    have T1 : ∀ {v : V} {ds : List PyData} {H' : Hp}, Dt K H v (.tuple ds) → Fr [] H H' → Dt K H' v (.tuple ds) := fun h f => h.mono f.tu
    cases d with
    | put a p l g =>
      walk_at "go"
      refine Dt.ix 0 dd rfl fun u0 d0 => ?_
      cases d0.of_str
      walk_at "go"
      refine ite_d (fun _ => ?_) (fun h0 => absurd rfl h0)
      walk_at "go"
      obtain ⟨a', us, rfl, sa, av⟩ := dd.tuple
      cases av with
      | cons e1 av =>
      cases av with
      | cons e2 av =>
      cases av with
      | cons e3 av =>
      cases av with
      | cons e4 av =>
      cases av with
      | cons e5 av =>
      cases av
      cases e3.of_int
      cases e5.of_str
      refine w_gtup sa rfl ?_
      walk_at "go"
      refine ⟨v, _, xs, l, rfl, dv, e4, lx, ld.2, by omega, fun k H1 f1 ek => ?_, fun H1 f1 ek => ?_⟩
      · walk_at "go"
        exact k2 H1 f1 (by rw [trowR, ek])
      · walk_at "go"
        rw [show (!decide (V.non = V.non)) = false from rfl]
        have etr : trowR xs (.put a p l g) = if 0 ≤ p ∧ p ≤ (xs.length : Int) then some (xs.take p.toNat ++ (l, ⟨g, [], .tuple [], .nil⟩) :: xs.drop p.toNat) else none := by
          rw [trowR, ek]
        walk_at "go"
        refine ite_d (fun h1 => ?_) (fun h1 => ?_)
        · walk_at "go"
          refine (dv.mono f1.tu).lenU ?_
          rw [List.length_map]
          walk_at "go"
          by_cases h2 : p ≤ (xs.length : Int)
          · rw [if_pos ⟨h1, h2⟩] at etr
            rw [decide_eq_true h2]
            walk_at "go"
            refine (dv.mono f1.tu).slice fun p3 H3 f3 d3 => ?_
            rw [cutA_to p h1] at d3
            walk_at "go"
            refine mkT (K := K) .nil fun p4 H4 n4 f4 d4 => ?_
            walk_at "go"
            refine mkT (K := K) .nil fun p5 H5 n5 f5 d5 => ?_
            walk_at "go"
            refine mkT (K := K) .nil fun p6 H6 n6 f6 d6 => ?_
            walk_at "go"
            refine mkT (K := K) (.cons (.str g) (.cons ((d4.mono f5.tu).mono f6.tu) (.cons (d5.mono f6.tu) (.cons d6 .nil)))) fun p7 H7 n7 f7 d7 => ?_
            have f17 := f1.trans (f3.trans (((f4.trans f5).trans f6).trans f7))
            walk_at "go"
            refine mkT (K := K) (.cons (e4.mono f17.tu) (.cons d7 .nil)) fun p8 H8 n8 f8 d8 => ?_
            walk_at "go"
            refine mkT (K := K) (.cons d8 .nil) fun p9 H9 n9 f9 d9 => ?_
            walk_at "go"
            refine (d3.mono (((((f4.trans f5).trans f6).trans f7).trans f8).trans f9).tu).cat d9 (by rw [List.length_take, List.length_map]; show _ + 1 ≤ _; omega) fun p10 H10 f10 d10 => ?_
            walk_at "go"
            have f110 := f17.trans ((f8.trans f9).trans f10)
            refine (dv.mono f110.tu).slice fun p11 H11 f11 d11 => ?_
            rw [cutA_from p h1] at d11
            refine (d10.mono f11.tu).cat d11 (by rw [List.length_append, List.length_take, List.length_map, List.length_drop, List.length_map]; show _ + 1 + _ ≤ _; omega) fun p12 H12 f12 d12 => ?_
            refine k1 _ _ H12 (f110.trans (f11.trans f12)) etr ?_
            rw [List.map_append, List.map_cons, List.map_take, List.map_drop]
            rw [List.append_assoc] at d12
            exact d12
          · rw [if_neg (fun h => h2 h.2)] at etr
            rw [decide_eq_false h2]
            walk_at "go"
            exact k2 H1 f1 etr
        · rw [if_neg (fun h => h1 h.1)] at etr
          walk_at "go"
          exact k2 H1 f1 etr
    | take a l =>
      walk_at "go"
      refine Dt.ix 0 dd rfl fun u0 d0 => ?_
      cases d0.of_str
      walk_at "go"
      refine ite_d (fun h0 => absurd h0 (by decide +kernel)) (fun _ => ?_)
      walk_at "go"
      refine Dt.ix 2 dd rfl fun u2 d2 => ?_
      refine ⟨v, _, xs, l, rfl, dv, d2, lx, ld.2, by omega, fun k H1 f1 ek => ?_, fun H1 f1 ek => ?_⟩
      · walk_at "go"
        refine ite_d (fun h0 => nomatch h0) (fun _ => ?_)
        walk_at "go"
        refine (T1 dv f1).slice fun p3 H3 f3 d3 => ?_
        rw [cutA_take] at d3
        walk_at "go"
        refine (T1 dv (f1.trans f3)).slice fun p4 H4 f4 d4 => ?_
        rw [show ((k : Int) + 1) = ((k + 1 : Nat) : Int) from rfl, cutA_drop] at d4
        refine (d3.mono f4.tu).cat d4 (by rw [List.length_take, List.length_map, List.length_drop, List.length_map]; omega) fun p5 H5 f5 d5 => ?_
        walk_at "go"
        have f15 := f1.trans (f3.trans (f4.trans f5))
        refine Dt.ix 0 (dd.mono f15.tu) rfl fun u6 d6 => ?_
        cases d6.of_str
        walk_at "go"
        refine ite_d (fun _ => ?_) (fun h0 => absurd rfl h0)
        walk_at "go"
        refine k1 (xs.take k ++ xs.drop (k + 1)) _ H5 f15 (by rw [trowR, ek]) ?_
        rw [List.map_append, List.map_take, List.map_drop]
        exact d5
      · walk_at "go"
        refine ite_d (fun _ => ?_) (fun h0 => absurd rfl h0)
        walk_at "go"
        exact k2 H1 f1 (by rw [trowR, ek])
    | move a l p =>
      walk_at "go"
      refine Dt.ix 0 dd rfl fun u0 d0 => ?_
      cases d0.of_str
      walk_at "go"
      refine ite_d (fun h0 => absurd h0 (by decide +kernel)) (fun _ => ?_)
      walk_at "go"
      refine Dt.ix 2 dd rfl fun u2 d2 => ?_
      refine ⟨v, _, xs, l, rfl, dv, d2, lx, ld.2, by omega, fun k H1 f1 ek => ?_, fun H1 f1 ek => ?_⟩
      · obtain ⟨x, ex, _⟩ := placeR_some ek
        have hk := (List.getElem?_eq_some_iff.mp ex).1
        walk_at "go"
        refine ite_d (fun h0 => nomatch h0) (fun _ => ?_)
        walk_at "go"
        refine (T1 dv f1).slice fun p3 H3 f3 d3 => ?_
        rw [cutA_take] at d3
        walk_at "go"
        refine (T1 dv (f1.trans f3)).slice fun p4 H4 f4 d4 => ?_
        rw [show ((k : Int) + 1) = ((k + 1 : Nat) : Int) from rfl, cutA_drop] at d4
        refine (d3.mono f4.tu).cat d4 (by rw [List.length_take, List.length_map, List.length_drop, List.length_map]; omega) fun p5 H5 f5 d5 => ?_
        rw [← List.map_take, ← List.map_drop, ← List.map_append] at d5
        have ll : (xs.take k ++ xs.drop (k + 1)).length ≤ xs.length := by rw [List.length_append, List.length_take, List.length_drop]; omega
        have etr : trowR xs (.move a l p) = if 0 ≤ p ∧ p ≤ ((xs.take k ++ xs.drop (k + 1)).length : Int) then some ((xs.take k ++ xs.drop (k + 1)).take p.toNat ++ x :: (xs.take k ++ xs.drop (k + 1)).drop p.toNat) else none := by
          rw [trowR, ek]
          show (match xs[k]? with | none => none | some x => _) = _
          rw [ex]
        generalize xs.take k ++ xs.drop (k + 1) = os at d5 ll etr
        walk_at "go"
        have f15 := f1.trans (f3.trans (f4.trans f5))
        refine Dt.ix 0 (dd.mono f15.tu) rfl fun u6 d6 => ?_
        cases d6.of_str
        walk_at "go"
        refine ite_d (fun h0 => absurd h0 (by decide +kernel)) (fun _ => ?_)
        walk_at "go"
        refine Dt.ix 3 (dd.mono f15.tu) rfl fun u7 d7 => ?_
        cases d7.of_int
        walk_at "go"
        refine ite_d (fun h1 => ?_) (fun h1 => ?_)
        · walk_at "go"
          refine d5.lenU ?_
          rw [List.length_map]
          walk_at "go"
          by_cases h2 : p ≤ (os.length : Int)
          · rw [if_pos ⟨h1, h2⟩] at etr
            rw [decide_eq_true h2]
            walk_at "go"
            refine d5.slice fun p8 H8 f8 d8 => ?_
            rw [cutA_to p h1] at d8
            walk_at "go"
            have f18 := f15.trans f8
            refine Dt.ix k (T1 dv f18) (by rw [List.getElem?_map, ex]; rfl) fun xv dx => ?_
            walk_at "go"
            refine mkT (K := K) (.cons dx .nil) fun p9 H9 n9 f9 d9 => ?_
            walk_at "go"
            refine (d8.mono f9.tu).cat d9 (by rw [List.length_take, List.length_map]; show _ + 1 ≤ _; omega) fun p10 H10 f10 d10 => ?_
            walk_at "go"
            refine (d5.mono ((f8.trans f9).trans f10).tu).slice fun p11 H11 f11 d11 => ?_
            rw [cutA_from p h1] at d11
            refine (d10.mono f11.tu).cat d11 (by rw [List.length_append, List.length_take, List.length_map, List.length_drop, List.length_map]; show _ + 1 + _ ≤ _; omega) fun p12 H12 f12 d12 => ?_
            refine k1 _ _ H12 (f18.trans ((f9.trans f10).trans (f11.trans f12))) etr ?_
            rw [List.map_append, List.map_cons, List.map_take, List.map_drop]
            rw [List.append_assoc] at d12
            exact d12
          · rw [if_neg (fun h => h2 h.2)] at etr
            rw [decide_eq_false h2]
            walk_at "go"
            exact k2 H5 f15 etr
        · rw [if_neg (fun h => h1 h.1)] at etr
          walk_at "go"
          exact k2 H5 f15 etr
      · walk_at "go"
        refine ite_d (fun _ => ?_) (fun h0 => absurd rfl h0)
        walk_at "go"
        exact k2 H1 f1 (by rw [trowR, ek])
    | set => cases od
    | unset => cases od
    | hands => cases od
def sp_turned_box (K : PySem.W.Frag) : Sp := fun vs H Q _ => ∃ (v vd : V) (b : Bb) (d : Deed), vs = [v, vd] ∧ Dt K H v b.d ∧ Dt K H vd d.d ∧ d.ofRow = false ∧ ((∀ a h, d ≠ .hands a h) → b.s.length ≤ 1000) ∧ (∀ a n x, d = .set a n x → b.s = []) ∧
  (∀ c u H', Fr [] H H' → tboxB b d = some c → Dt K H' u c.d → Q u H') ∧ (∀ H', Fr [] H H' → tboxB b d = none → Q .non H')
theorem sorty_one (x : Str) (i : Int) : Sorty [setD (x, i)] := by
  refine ⟨fun d hd d' hd' => ?_, .inl fun d hd => ?_⟩
  · rw [List.mem_singleton.mp hd, List.mem_singleton.mp hd']
    rfl
  · rw [List.mem_singleton.mp hd]
    exact ⟨_, _, rfl⟩
theorem ok_turned_box (T : Env K mg) : Fx P w K mg base 1 "turned_box" p_turned_box (sp_turned_box K) := by
  refine T.l_turned_box.ok sc_turned_box (fun vs H Q E h => ?_) (fun f cdv A outer s H vs Q E hr h => ?_)
  · obtain ⟨v, vd, b, d, rfl, _⟩ := h
    rfl
  · obtain ⟨v, vd, b, d, rfl, dv, dd, od, lN, hset, k1, k2⟩ := h
    refine ⟨_, (pss_cons (ps_asg (pv 0) (pg_tupU (K := K) (n := 4) rfl rfl (pgs_cons (pg_name (i := 2) sc_turned_box.nd rfl (Or.inl rfl)) (pgs_cons (pg_name (i := 3) sc_turned_box.nd rfl (Or.inl rfl)) (pgs_cons (pg_name (i := 4) sc_turned_box.nd rfl (Or.inl rfl)) (pgs_cons (pg_name (i := 5) sc_turned_box.nd rfl (Or.inl rfl)) pgs_nil))))))
      (pss_cons (ps_if (pt_cmpR (op_eqU (K := K) rfl (u64 hr)) (pe_ix (ix_U (K := K) rfl) (pv 1) pe_int (fun _ _ => rfl)) pe_str (nomark _)) (pss_one (ps_ret (pe_tup (pa_cons (pv 2) (pa_cons (pv 3) (pa_cons (pe_ix (ix_U (K := K) rfl) (pv 1) pe_int (fun _ _ => rfl)) (pa_cons (pv 5) pa_nil))))))) pss_nil)
      (pss_cons (ps_setLc (i := 6) (own := [("one", 7)]) (g := (gName 7)) rfl sc_turned_box.nd rfl rfl (sw_true rfl rfl rfl (by decide +kernel)) (pi_tupU (K := K) rfl (pv 3)) (blkOk_by (N := N_turned_box) (sc := defScope s_turned_box) (by decide +kernel)) (fun _ _ _ _ _ => (pg_name (i := 7) sc_turned_box.nd rfl (Or.inl rfl))) (fun _ _ _ _ _ => (pts_one (pt_cmpR (op_neU (K := K) rfl (u64 hr)) (pe_ix (ix_U (K := K) rfl) (pv 7) pe_int (fun _ _ => rfl)) (pe_ix (ix_U (K := K) rfl) (pv 1) pe_int (fun _ _ => rfl)) (nomark _)))) (fun _ _ _ _ _ => (pv 7)))
      (pss_cons (ps_if (pt_cmpR (op_eqU (K := K) rfl (u64 hr)) (pe_ix (ix_U (K := K) rfl) (pv 1) pe_int (fun _ _ => rfl)) pe_str (nomark _)) (pss_one (ps_ret (pe_tup (pa_cons (pv 2) (pa_cons (pe_callTy (call_tupleU (K := K) rfl) (by rfl) T.m_tuple (by decide +kernel) (pa_cons (pe_callB (call_sortLU (K := K) rfl (u70 hr)) (by rfl) T.m_sorted (by decide +kernel) (pa_cons (pe_op (op_addU (K := K) rfl) (pv 6) (pe_lst (pa_cons (pe_tup (pa_cons (pe_ix (ix_U (K := K) rfl) (pv 1) pe_int (fun _ _ => rfl)) (pa_cons (pe_ix (ix_U (K := K) rfl) (pv 1) pe_int (fun _ _ => rfl)) pa_nil))) pa_nil))) pa_nil)) pa_nil)) (pa_cons (pv 4) (pa_cons (pv 5) pa_nil))))))) pss_nil)
      (pss_cons (ps_if (pt_cmpR (op_eqU (K := K) rfl (u64 hr)) (pe_callB (call_lenU (K := K) rfl) (by rfl) T.m_len (by decide +kernel) (pa_cons (pv 6) pa_nil)) (pe_callB (call_lenU (K := K) rfl) (by rfl) T.m_len (by decide +kernel) (pa_cons (pv 3) pa_nil)) (nomark _)) (pss_one (ps_ret pe_non)) pss_nil)
      (pss_one (ps_ret (pe_tup (pa_cons (pv 2) (pa_cons (pe_callTy (call_tupleU (K := K) rfl) (by rfl) T.m_tuple (by decide +kernel) (pa_cons (pv 6) pa_nil)) (pa_cons (pv 4) (pa_cons (pv 5) pa_nil)))))))))))), ?_⟩
    obtain ⟨a', us, rfl, sa, av⟩ := dv.tuple
    cases av with
    | cons e1 av =>
    cases av with
    | cons e2 av =>
    cases av with
    | cons e3 av =>
    cases av with
    | cons e4 av =>
    cases av
    cases e1.of_str
    walk_at "go"
    refine w_gtup sa rfl ?_
    walk_at "go"
    have comp : ∀ (n : Str) (H1 : Hp) (vd' : V), Fr [] H H1 → True := fun _ _ _ _ => trivial
    cases d with
    | put => cases od
    | take => cases od
    | move => cases od
    | hands a h =>
      refine Dt.ix 0 dd rfl fun u0 d0 => ?_
      cases d0.of_str
      walk_at "go"
      refine ite_d (fun _ => ?_) (fun h0 => absurd rfl h0)
      walk_at "go"
      refine Dt.ix 2 dd rfl fun u2 d2 => ?_
      walk_at "go"
      refine mkT (K := K) (.cons (.str _) (.cons e2 (.cons d2 (.cons e4 .nil)))) fun p3 H3 n3 f3 d3 => ?_
      exact k1 _ _ H3 f3 rfl d3
    | set a n x =>
      refine Dt.ix 0 dd rfl fun u0 d0 => ?_
      cases d0.of_str
      walk_at "go"
      refine ite_d (fun h0 => absurd h0 (by decide +kernel)) (fun _ => ?_)
      walk_at "go"
      refine LCX_T (K := K) (cs := b.s) (dS := setD) (fun q => !decide (q.1 = n)) setD e2 (Nat.le_trans (lN fun a h z => nomatch z) (by decide)) ?_ fun D H1 n1 f1 L1 => ?_
      · intro c y H' KEEP DROP hc f' dx hk hd
        walk_at "go"
        refine Dt.ix 0 dx rfl fun u1 d1 => ?_
        cases d1.of_str
        walk_at "go"
        refine Dt.ix 2 (dd.mono f'.tu) rfl fun u2 d2 => ?_
        cases d2.of_str
        walk_at "go"
        cases z : (!decide (c.1 = n)) with
        | true =>
          walk_at "go"
          exact hk z _ _ Fr.refl dx
        | false =>
          walk_at "go"
          exact hd z _ Fr.refl
      · have es := hset a n x rfl
        rw [es] at L1
        have L1 : Lq K H1 D [] := L1
        walk_at "go"
        refine Dt.ix 0 (dd.mono f1.tu) rfl fun u0 d0 => ?_
        cases d0.of_str
        walk_at "go"
        refine ite_d (fun _ => ?_) (fun h0 => absurd rfl h0)
        walk_at "go"
        refine Dt.ix 2 (dd.mono f1.tu) rfl fun u2 d2 => ?_
        walk_at "go"
        refine Dt.ix 3 (dd.mono f1.tu) rfl fun u3 d3 => ?_
        walk_at "go"
        refine mkT (K := K) (.cons d2 (.cons d3 .nil)) fun p4 H4 n4 f4 d4 => ?_
        walk_at "go"
        refine mkL (K := K) (.cons d4 .nil) fun q5 H5 n5 f5 L5 => ?_
        walk_at "go"
        refine ((L1.fr0 f4).fr0 f5).cat L5 (by exact Nat.le_of_ble_eq_true rfl) fun q6 H6 n6 f6 L6 => ?_
        walk_at "go"
        refine w_sortL L6 (by exact Nat.le_of_ble_eq_true rfl) (sorty_one n x) (fun d hd => ?_) fun q7 H7 n7 f7 L7 => ?_
        · rw [List.mem_singleton.mp hd]
          exact Nat.le_of_ble_eq_true rfl
        have L7 : Lq K H7 q7 [setD (n, x)] := by
          rw [show ([] ++ [PyData.tuple [PyData.str n, PyData.int x]] : List PyData) = [setD (n, x)] from rfl, List.mergeSort_singleton] at L7
          exact L7
        walk_at "go"
        refine L7.tuple fun p8 H8 f8 d8 => ?_
        have f18 := f1.trans ((f4.trans f5).trans (f6.trans (f7.trans f8)))
        walk_at "go"
        refine mkT (K := K) (.cons (.str _) (.cons d8 (.cons (e3.mono f18.tu) (.cons (e4.mono f18.tu) .nil)))) fun p9 H9 n9 f9 d9 => ?_
        exact k1 { b with s := othersS b.s n ++ [(n, x)] } _ H9 (f18.trans f9) rfl (by rw [es]; exact d9)
    | unset a n =>
      refine Dt.ix 0 dd rfl fun u0 d0 => ?_
      cases d0.of_str
      walk_at "go"
      refine ite_d (fun h0 => absurd h0 (by decide +kernel)) (fun _ => ?_)
      walk_at "go"
      refine LCX_T (K := K) (cs := b.s) (dS := setD) (fun q => !decide (q.1 = n)) setD e2 (Nat.le_trans (lN fun a h z => nomatch z) (by decide)) ?_ fun D H1 n1 f1 L1 => ?_
      · intro c y H' KEEP DROP hc f' dx hk hd
        walk_at "go"
        refine Dt.ix 0 dx rfl fun u1 d1 => ?_
        cases d1.of_str
        walk_at "go"
        refine Dt.ix 2 (dd.mono f'.tu) rfl fun u2 d2 => ?_
        cases d2.of_str
        walk_at "go"
        cases z : (!decide (c.1 = n)) with
        | true =>
          walk_at "go"
          exact hk z _ _ Fr.refl dx
        | false =>
          walk_at "go"
          exact hd z _ Fr.refl
      · have L1 : Lq K H1 D ((othersS b.s n).map setD) := L1
        have etb : tboxB b (.unset a n) = if (othersS b.s n).length = b.s.length then none else some { b with s := othersS b.s n } := rfl
        walk_at "go"
        refine Dt.ix 0 (dd.mono f1.tu) rfl fun u0 d0 => ?_
        cases d0.of_str
        walk_at "go"
        refine ite_d (fun h0 => absurd h0 (by decide +kernel)) (fun _ => ?_)
        walk_at "go"
        refine L1.len ?_
        walk_at "go"
        refine (e2.mono f1.tu).lenU ?_
        rw [List.length_map, List.length_map]
        walk_at "go"
        refine ite_d (fun h1 => ?_) (fun h1 => ?_)
        · walk_at "go"
          rw [if_pos (by omega)] at etb
          exact k2 H1 f1 etb
        · rw [if_neg (by omega)] at etb
          walk_at "go"
          refine L1.tuple fun p8 H8 f8 d8 => ?_
          have f18 := f1.trans f8
          walk_at "go"
          refine mkT (K := K) (.cons (.str _) (.cons d8 (.cons (e3.mono f18.tu) (.cons (e4.mono f18.tu) .nil)))) fun p9 H9 n9 f9 d9 => ?_
          exact k1 { b with s := othersS b.s n } _ H9 (f18.trans f9) etb d9
def sp_turned (K : PySem.W.Frag) : Sp := fun vs H Q _ => ∃ (v vd : V) (t : Bt) (d : Deed), vs = [v, vd] ∧ Dt K H v t.d ∧ Dt K H vd d.d ∧ DeedOk t d ∧
  (∀ u y H', Fr [] H H' → turnedT t d = some u → Dt K H' y u.d → Q y H') ∧ (∀ H', Fr [] H H' → turnedT t d = none → Q .non H')
theorem ok_turned (T : Env K mg) : Fx P w K mg base 34 "turned" p_turned (sp_turned K) := by
  refine T.l_turned.ok sc_turned (fun vs H Q E h => ?_) (fun f cdv A outer s H vs Q E hr h => ?_)
  · obtain ⟨v, vd, t, d, rfl, _⟩ := h
    rfl
  · obtain ⟨v, vd, t, d, rfl, dv, dd, ok, k1, k2⟩ := h
    obtain ⟨o1, o2, o3, o4, o5, o6⟩ := ok
    refine ⟨_, (pss_cons (ps_if (pt_cmpR (op_inU (K := K) rfl (u65 hr)) (pe_ix (ix_U (K := K) rfl) (pv 1) pe_int (fun _ _ => rfl)) (pe_tup (pa_cons pe_str (pa_cons pe_str (pa_cons pe_str pa_nil)))) (by rfl)) (pss_cons (ps_set (i := 2) sc_turned.nd rfl (Or.inl rfl) (pe_fx (ok_row_found (P := P) (w := w) T) hr (by decide) (pa_cons (pv 0) (pa_cons (pe_ix (ix_U (K := K) rfl) (pv 1) pe_int (fun _ _ => rfl)) pa_nil))))
      (pss_cons (ps_if (pt_cmp (pc_isN (pv 2))) (pss_one (ps_ret pe_non)) pss_nil)
      (pss_cons (ps_set (i := 2) sc_turned.nd rfl (Or.inl rfl) (pe_fx (ok_turned_row (P := P) (w := w) T) hr (by decide) (pa_cons (pv 2) (pa_cons (pv 1) pa_nil))))
      (pss_cons (ps_if (pt_cmp (pc_isN (pv 2))) (pss_one (ps_ret pe_non)) pss_nil)
      (pss_one (ps_ret (pe_fx (ok_with_row (P := P) (w := w) T) hr (by decide) (pa_cons (pv 0) (pa_cons (pe_ix (ix_U (K := K) rfl) (pv 1) pe_int (fun _ _ => rfl)) (pa_cons (pv 2) pa_nil)))))))))) pss_nil)
      (pss_cons (ps_set (i := 3) sc_turned.nd rfl (Or.inl rfl) (pe_fx (ok_box_found (P := P) (w := w) T) hr (by decide) (pa_cons (pv 0) (pa_cons (pe_ix (ix_U (K := K) rfl) (pv 1) pe_int (fun _ _ => rfl)) pa_nil))))
      (pss_cons (ps_if (pt_cmp (pc_isN (pv 3))) (pss_one (ps_ret pe_non)) pss_nil)
      (pss_cons (ps_set (i := 3) sc_turned.nd rfl (Or.inl rfl) (pe_fx (ok_turned_box (P := P) (w := w) T) hr (by decide) (pa_cons (pv 3) (pa_cons (pv 1) pa_nil))))
      (pss_cons (ps_if (pt_cmp (pc_isN (pv 3))) (pss_one (ps_ret pe_non)) pss_nil)
      (pss_one (ps_ret (pe_fx (ok_with_box (P := P) (w := w) T 30) hr (by decide) (pa_cons (pv 0) (pa_cons (pe_ix (ix_U (K := K) rfl) (pv 1) pe_int (fun _ _ => rfl)) (pa_cons (pv 3) pa_nil))))))))))), ?_⟩
    have la := Deed.lab_a o3
    have row : d.ofRow = true → turnedT t d = match rowT t d.a with
        | none => none
        | some u => match trowR u.rows d with
          | none => none
          | some xs => wrowT t d.a (Bt.of xs) := fun h => by
      rw [turnedT, if_pos h]
      all_goals rfl
    have box : d.ofRow = false → turnedT t d = match boxT t d.a with
        | none => none
        | some b => match tboxB b d with
          | none => none
          | some b' => some (putT t d.a b') := fun h => by
      rw [turnedT, if_neg (by rw [h]; exact Bool.false_ne_true)]
      all_goals rfl
    cases hof : d.ofRow with
    | true =>
      have et := row hof
      have hin : inV (.str d.word) [.str "put", .str "take", .str "move"] = true := by
        cases d with
        | put => exact (by decide +kernel : inV (V.str "put") [V.str "put", .str "take", .str "move"] = true)
        | take => exact (by decide +kernel : inV (V.str "take") [V.str "put", .str "take", .str "move"] = true)
        | move => exact (by decide +kernel : inV (V.str "move") [V.str "put", .str "take", .str "move"] = true)
        | set => cases hof
        | unset => cases hof
        | hands => cases hof
      walk_at "go"
      refine Deed.ix0 dd ?_
      walk_at "go"
      refine ⟨by exact Nat.le_of_ble_eq_true rfl, fun p1 n1 => ?_⟩
      have f1 : Fr [] H (upd H p1 (.tup [.str "put", .str "take", .str "move"])) := Fr.new n1
      refine w_inT (.inl (.inl upd_same)) rfl rfl ?_
      rw [hin]
      generalize upd H p1 (.tup [.str "put", .str "take", .str "move"]) = H1 at f1
      walk_at "go"
      refine Deed.ix1 (dd.mono f1.tu) fun av da => ?_
      refine ⟨v, av, t, d.a, rfl, dv.mono f1.tu, da, o5, la, by omega, fun u uv H2 f2 eu du => ?_, fun H2 f2 eu => ?_⟩
      · simp only [eu] at et
        have hu : u.lab ∧ u.cnt ≤ t.cnt := by
          rw [rowT] at eu
          cases e : atB (rootB t) d.a with
          | none => rw [e] at eu; cases eu
          | some b =>
            rw [e] at eu
            cases eu
            exact ⟨atB_lab (b := rootB t) o5 e, atB_cnt (b := rootB t) e⟩
        have lR := Bt.lab_rows hu.1
        have lN := Bt.rows_len u
        have du' := du
        obtain ⟨pu, _, rfl, _, _⟩ := du'.tuple
        rw [Bt.d_rows] at du
        have f12 := f1.trans f2
        walk_at "go"
        refine ite_d (fun h0 => nomatch h0) (fun _ => ?_)
        walk_at "go"
        refine ⟨_, vd, u.rows, d, rfl, du, dd.mono f12.tu, lR, o3, hof, by omega, fun xs xv H3 f3 ex dx => ?_, fun H3 f3 ex => ?_⟩
        · simp only [ex] at et
          have lx := trowR_lab lR o3 ex
          have dx' := dx
          obtain ⟨px, _, rfl, _, _⟩ := dx'.tuple
          have f13 := f12.trans f3
          walk_at "go"
          refine ite_d (fun h0 => nomatch h0) (fun _ => ?_)
          walk_at "go"
          refine Deed.ix1 (dd.mono f13.tu) fun av da => ?_
          walk_at "go"
          have ez : ∃ z, wrowT t d.a (Bt.of xs) = some z := by
            rw [wrowT]
            cases hd : d.a with
            | nil => exact ⟨_, rfl⟩
            | cons l r =>
              rw [hd] at eu
              have e : rowT t (l :: r) = (boxT t (l :: r)).map Bb.inner := rowT_box
              rw [e] at eu
              cases eb : boxT t (l :: r) with
              | none => rw [eb] at eu; cases eu
              | some b => exact ⟨_, rfl⟩
          obtain ⟨z, ez⟩ := ez
          refine ⟨v, av, _, t, d.a, Bt.of xs, z, rfl, o4, dv.mono f13.tu, da, by rw [Bt.d_of]; exact dx, o5, la, by omega, ez, fun y H4 f4 d4 => ?_⟩
          exact k1 z y H4 (f13.trans f4) (by rw [et]; exact ez) d4
        · simp only [ex] at et
          walk_at "go"
          refine ite_d (fun _ => ?_) (fun h0 => absurd rfl h0)
          walk_at "go"
          exact k2 H3 (f12.trans f3) et
      · simp only [eu] at et
        walk_at "go"
        refine ite_d (fun _ => ?_) (fun h0 => absurd rfl h0)
        walk_at "go"
        exact k2 H2 (f1.trans f2) et
    | false =>
      have et := box hof
      have hin : inV (.str d.word) [.str "put", .str "take", .str "move"] = false := by
        cases d with
        | put => cases hof
        | take => cases hof
        | move => cases hof
        | set => exact (by decide +kernel : inV (V.str "set") [V.str "put", .str "take", .str "move"] = false)
        | unset => exact (by decide +kernel : inV (V.str "unset") [V.str "put", .str "take", .str "move"] = false)
        | hands => exact (by decide +kernel : inV (V.str "hands") [V.str "put", .str "take", .str "move"] = false)
      walk_at "go"
      refine Deed.ix0 dd ?_
      walk_at "go"
      refine ⟨by exact Nat.le_of_ble_eq_true rfl, fun p1 n1 => ?_⟩
      have f1 : Fr [] H (upd H p1 (.tup [.str "put", .str "take", .str "move"])) := Fr.new n1
      refine w_inT (.inl (.inl upd_same)) rfl rfl ?_
      rw [hin]
      generalize upd H p1 (.tup [.str "put", .str "take", .str "move"]) = H1 at f1
      walk_at "go"
      refine Deed.ix1 (dd.mono f1.tu) fun av da => ?_
      refine ⟨v, av, t, d.a, rfl, dv.mono f1.tu, da, o5, la, by omega, fun b bv H2 f2 eb db => ?_, fun H2 f2 eb => ?_⟩
      · simp only [eb] at et
        have db' := db
        obtain ⟨pb, _, rfl, _, _⟩ := db'.tuple
        have f12 := f1.trans f2
        have hs1 : ∀ a n x, d = .set a n x → b.s = [] := fun a n x e => o1 a n x b e (by rw [e] at eb; exact eb)
        walk_at "go"
        refine ite_d (fun h0 => nomatch h0) (fun _ => ?_)
        walk_at "go"
        have hb : boxT t d.a ≠ none := by rw [eb]; exact fun h => nomatch h
        have hs2 : d.ofRow = false → (∀ a h, d ≠ .hands a h) → b.s.length ≤ 1000 := fun _ hh => by
          cases d with
          | put => cases hof
          | take => cases hof
          | move => cases hof
          | set a n x => rw [hs1 a n x rfl]; exact Nat.zero_le _
          | unset a n => exact o2 a n b rfl eb
          | hands a h => exact absurd rfl (hh a h)
        refine ⟨_, vd, b, d, rfl, db, dd.mono f12.tu, hof, hs2 hof, hs1, fun c cv H3 f3 ec dc => ?_, fun H3 f3 ec => ?_⟩
        · simp only [ec] at et
          have dc' := dc
          obtain ⟨pc, _, rfl, _, _⟩ := dc'.tuple
          have f13 := f12.trans f3
          walk_at "go"
          refine ite_d (fun h0 => nomatch h0) (fun _ => ?_)
          walk_at "go"
          refine Deed.ix1 (dd.mono f13.tu) fun av da => ?_
          walk_at "go"
          have hne : d.a ≠ [] := fun h => by
            rw [h] at hb
            exact hb rfl
          refine ⟨v, av, _, t, d.a, c, rfl, ⟨o4, by decide⟩, dv.mono f13.tu, da, dc, o5, la, by omega, hne, ?_, fun y H4 f4 d4 => ?_⟩
          · rw [boxT] at hb
            split at hb
            · exact absurd rfl hb
            · exact hb
          · exact k1 _ y H4 (f13.trans f4) et d4
        · simp only [ec] at et
          walk_at "go"
          refine ite_d (fun _ => ?_) (fun h0 => absurd rfl h0)
          walk_at "go"
          exact k2 H3 (f12.trans f3) et
      · simp only [eb] at et
        walk_at "go"
        refine ite_d (fun _ => ?_) (fun h0 => absurd rfl h0)
        walk_at "go"
        exact k2 H2 (f1.trans f2) et
end


section
variable {P : Program} {w : World} {K : PySem.W.Frag} {mg : Str → Option Value} {base : Heap}
/-- deeds that can be done -/
def sp_led0 (K : PySem.W.Frag) : Sp := fun vs H Q _ => ∃ (v vds : V) (t : Bt) (ds : List Deed), vs = [v, vds] ∧ Dt K H v t.d ∧ Dt K H vds (.tuple (ds.map Deed.d)) ∧ LedOk t ds ∧ ds.length ≤ 1000 ∧
  (∀ u y H', Fr [] H H' → ledT t ds 0 = .ok u → Dt K H' y u.d → Q y H') ∧ ∃ u, ledT t ds 0 = .ok u
theorem ok_led0 (T : Env K mg) : Fx P w K mg base 35 "led" p_led (sp_led0 K) := by
  refine T.l_led.ok sc_led (fun vs H Q E h => ?_) (fun f cdv A outer s H vs Q E hr h => ?_)
  · obtain ⟨v, vds, t, ds, rfl, _⟩ := h
    rfl
  · obtain ⟨v, vds, t, ds, rfl, dv, dds, ok, ll, k1, uu, euu⟩ := h
    refine ⟨_, (pss_cons (ps_for PassesOwn.never rfl (pi_range1 rfl T.m_range (pa_cons (pe_callB (call_lenU (K := K) rfl) (by rfl) T.m_len (by decide +kernel) (pa_cons (pv 1) pa_nil)) pa_nil)) (pg_name (i := 2) sc_led.nd rfl (Or.inl rfl)) (pss_cons (ps_set (i := 0) sc_led.nd rfl (Or.inl rfl) (pe_fx (ok_turned (P := P) (w := w) T) hr (by decide) (pa_cons (pv 0) (pa_cons (pe_ix (ix_U (K := K) rfl) (pv 1) (pv 2) (fun _ _ => rfl)) pa_nil))))
      (pss_one (ps_if (pt_cmp (pc_isN (pv 0))) (pss_one ps_never) pss_nil))))
      (pss_one (ps_ret (pv 0)))), ?_⟩
    walk_at "go"
    refine dds.lenU ?_
    rw [List.length_map]
    walk_at "go"
    refine F_R1 ds.length (by omega) (by omega) (by omega) (fun i σ H' => Fr [] H H' ∧ ∃ (rv : V) (u : Bt) (v2 : Option V), σ = [some rv, some vds, v2] ∧ Dt K H' rv u.d ∧ LedOk u (ds.drop i) ∧ ledT u (ds.drop i) i = ledT t ds 0) ⟨Fr.refl, v, t, _, rfl, dv, ok, rfl⟩ ?_ ?_
    · rintro i σ H1 hi ⟨f1, rv, u, v2, rfl, du, oi, ei⟩
      obtain ⟨d, ed⟩ : ∃ d, ds[i]? = some d := ⟨_, List.getElem?_eq_getElem hi⟩
      have edr : ds.drop i = d :: ds.drop (i + 1) := by
        rw [List.drop_eq_getElem_cons hi]
        have z := List.getElem?_eq_getElem hi
        rw [ed] at z
        rw [← Option.some.inj z]
      rw [edr] at oi ei
      obtain ⟨o1, o2⟩ := oi
      rw [ledT] at ei
      walk_at "go"
      refine Dt.ix i (dds.mono f1.tu) (by rw [List.getElem?_map, ed]; rfl) fun xv dx => ?_
      refine ⟨rv, xv, u, d, rfl, du, dx, o1, fun u2 y H2 f2 eu dy => ?_, fun H2 f2 eu => ?_⟩
      · simp only [eu] at ei
        have dy' := dy
        obtain ⟨py, _, rfl, _, _⟩ := dy'.tuple
        walk_at "go"
        refine ite_d (fun h0 => nomatch h0) (fun _ => ?_)
        walk_at "go"
        exact ⟨f1.trans f2, _, u2, _, rfl, dy, o2 u2 eu, ei⟩
      · simp only [eu] at ei
        rw [euu] at ei
        cases ei
    · rintro σ H1 ⟨f1, rv, u, v2, rfl, du, oi, ei⟩
      rw [List.drop_length, ledT] at ei
      walk_at "go"
      exact k1 u rv H1 f1 ei.symm du
def sp_done0 (K : PySem.W.Frag) : Sp := fun vs H Q _ => ∃ (v vd : V) (t : Bt) (d : Deed), vs = [v, vd] ∧ Dt K H v t.d ∧ Dt K H vd d.d ∧ DeedOk t d ∧
  (∀ u y H', Fr [] H H' → turnedT t d = some u → Dt K H' y u.d → Q y H') ∧ ∃ u, turnedT t d = some u
theorem ok_done0 (T : Env K mg) : Fx P w K mg base 36 "done" p_done (sp_done0 K) := by
  refine T.l_done.ok sc_done (fun vs H Q E h => ?_) (fun f cdv A outer s H vs Q E hr h => ?_)
  · obtain ⟨v, vd, t, d, rfl, _⟩ := h
    rfl
  · obtain ⟨v, vd, t, d, rfl, dv, dd, ok, k1, uu, euu⟩ := h
    refine ⟨_, (pss_one (ps_ret (pe_fx (ok_led0 (P := P) (w := w) T) hr (by decide) (pa_cons (pv 0) (pa_cons (pe_tup (pa_cons (pv 1) pa_nil)) pa_nil))))), ?_⟩
    walk_at "go"
    refine mkT (K := K) (.cons dd .nil) fun p1 H1 n1 f1 d1 => ?_
    walk_at "go"
    have e : ledT t [d] 0 = .ok uu := by rw [ledT]; simp only [euu]; rfl
    refine ⟨v, _, t, [d], rfl, dv.mono f1.tu, d1, ⟨ok, fun _ _ => trivial⟩, by exact Nat.le_of_ble_eq_true rfl, fun u y H2 f2 eu dy => ?_, uu, e⟩
    rw [e] at eu
    cases eu
    exact k1 uu y H2 (f1.trans f2) euu dy
end


section
variable {P : Program} {w : World} {K : PySem.W.Frag} {mg : Str → Option Value} {base : Heap} {cV cT cB cD cC cR : Addr}
def sp_led (K : PySem.W.Frag) (cB : Addr) : Sp := fun vs H Q E => ∃ (v vds : V) (t : Bt) (ds : List Deed), vs = [v, vds] ∧ Dt K H v t.d ∧ Dt K H vds (.tuple (ds.map Deed.d)) ∧ LedOk t ds ∧ ds.length ≤ 1000 ∧
  (∀ u y H', Fr [] H H' → ledT t ds 0 = .ok u → Dt K H' y u.d → Q y H') ∧ 
  (∀ (k : Nat) d H', Fr [] H H' → ledT t ds 0 = .error k → H' d = some (.xd [("place", .int k)]) → E (.ref cB) (some d) H')
theorem ok_led (T : Env K mg) (W : ExcW K mg cV cT cB cD cC cR) : Fxx P w K mg base 35 "led" p_led (sp_led K cB) := by
  refine T.l_led.okX sc_led (fun vs H Q E h => ?_) (fun f cdv A outer s H vs Q E hr h => ?_)
  · obtain ⟨v, vds, t, ds, rfl, _⟩ := h
    rfl
  · obtain ⟨v, vds, t, ds, rfl, dv, dds, ok, ll, k1, kx⟩ := h
    refine ⟨_, (pss_cons (ps_for (passes_of rfl) rfl (pi_range1 rfl T.m_range (pa_cons (pe_callB (call_lenU (K := K) rfl) (by rfl) T.m_len (by decide +kernel) (pa_cons (pv 1) pa_nil)) pa_nil)) (pg_name (i := 2) sc_led.nd rfl (Or.inl rfl)) (pss_cons (ps_set (i := 0) sc_led.nd rfl (Or.inl rfl) (pe_fx (ok_turned (P := P) (w := w) T) hr (by decide) (pa_cons (pv 0) (pa_cons (pe_ix (ix_U (K := K) rfl) (pv 1) (pv 2) (fun _ _ => rfl)) pa_nil))))
      (pss_one (ps_if (pt_cmp (pc_isN (pv 0))) (pss_one (ps_raise rfl (takes_of rfl rfl rfl rfl) (pmk_box T W hr (by decide) (pa_cons (pv 2) pa_nil)))) pss_nil))))
      (pss_one (ps_ret (pv 0)))), ?_⟩
    walk_at "go"
    refine dds.lenU ?_
    rw [List.length_map]
    walk_at "go"
    refine F_R1 ds.length (by omega) (by omega) (by omega) (fun i σ H' => Fr [] H H' ∧ ∃ (rv : V) (u : Bt) (v2 : Option V), σ = [some rv, some vds, v2] ∧ Dt K H' rv u.d ∧ LedOk u (ds.drop i) ∧ ledT u (ds.drop i) i = ledT t ds 0) ⟨Fr.refl, v, t, _, rfl, dv, ok, rfl⟩ ?_ ?_
    · rintro i σ H1 hi ⟨f1, rv, u, v2, rfl, du, oi, ei⟩
      obtain ⟨d, ed⟩ : ∃ d, ds[i]? = some d := ⟨_, List.getElem?_eq_getElem hi⟩
      have edr : ds.drop i = d :: ds.drop (i + 1) := by
        rw [List.drop_eq_getElem_cons hi]
        have z := List.getElem?_eq_getElem hi
        rw [ed] at z
        rw [← Option.some.inj z]
      rw [edr] at oi ei
      obtain ⟨o1, o2⟩ := oi
      rw [ledT] at ei
      walk_at "go"
      refine Dt.ix i (dds.mono f1.tu) (by rw [List.getElem?_map, ed]; rfl) fun xv dx => ?_
      refine ⟨rv, xv, u, d, rfl, du, dx, o1, fun u2 y H2 f2 eu dy => ?_, fun H2 f2 eu => ?_⟩
      · simp only [eu] at ei
        have dy' := dy
        obtain ⟨py, _, rfl, _, _⟩ := dy'.tuple
        walk_at "go"
        refine ite_d (fun h0 => nomatch h0) (fun _ => ?_)
        walk_at "go"
        exact ⟨f1.trans f2, _, u2, _, rfl, dy, o2 u2 eu, ei⟩
      · simp only [eu] at ei
        walk_at "go"
        refine ite_d (fun _ => ?_) (fun h0 => absurd rfl h0)
        walk_at "go"
        refine w_mkBox ?_
        walk_at "go"
        refine box_made fun d H4 n4 f4 e4 => ?_
        exact kx i d H4 ((f1.trans f2).trans f4) ei.symm e4
    · rintro σ H1 ⟨f1, rv, u, v2, rfl, du, oi, ei⟩
      rw [List.drop_length, ledT] at ei
      walk_at "go"
      exact k1 u rv H1 f1 ei.symm du
def sp_done (K : PySem.W.Frag) (cB : Addr) : Sp := fun vs H Q E => ∃ (v vd : V) (t : Bt) (d : Deed), vs = [v, vd] ∧ Dt K H v t.d ∧ Dt K H vd d.d ∧ DeedOk t d ∧
  (∀ u y H', Fr [] H H' → turnedT t d = some u → Dt K H' y u.d → Q y H') ∧ 
  (∀ d' H', Fr [] H H' → turnedT t d = none → H' d' = some (.xd [("place", .int 0)]) → E (.ref cB) (some d') H')
theorem ok_done (T : Env K mg) (W : ExcW K mg cV cT cB cD cC cR) : Fxx P w K mg base 36 "done" p_done (sp_done K cB) := by
  refine T.l_done.okX sc_done (fun vs H Q E h => ?_) (fun f cdv A outer s H vs Q E hr h => ?_)
  · obtain ⟨v, vd, t, d, rfl, _⟩ := h
    rfl
  · obtain ⟨v, vd, t, d, rfl, dv, dd, ok, k1, kx⟩ := h
    refine ⟨_, (pss_one (ps_ret (pe_fxx (ok_led (P := P) (w := w) T W) hr (by decide) (takes_of rfl rfl rfl rfl) (pa_cons (pv 0) (pa_cons (pe_tup (pa_cons (pv 1) pa_nil)) pa_nil))))), ?_⟩
    walk_at "go"
    refine w_callS ?_
    walk_at "go"
    refine mkT (K := K) (.cons dd .nil) fun p1 H1 n1 f1 d1 => ?_
    walk_at "go"
    have e : ledT t [d] 0 = match turnedT t d with | none => .error 0 | some u => .ok u := by
      rw [ledT]
      cases turnedT t d <;> rfl
    refine ⟨v, _, t, [d], rfl, dv.mono f1.tu, d1, ⟨ok, fun _ _ => trivial⟩, by exact Nat.le_of_ble_eq_true rfl, fun u y H2 f2 eu dy => ?_, fun k d' H2 f2 eu e2 => ?_⟩
    · rw [e] at eu
      cases ez : turnedT t d with
      | none => simp only [ez] at eu; cases eu
      | some z =>
        simp only [ez] at eu
        cases eu
        exact k1 u y H2 (f1.trans f2) ez dy
    · rw [e] at eu
      cases ez : turnedT t d with
      | none =>
        simp only [ez] at eu
        cases eu
        exact kx d' H2 (f1.trans f2) ez e2
      | some z => simp only [ez] at eu; cases eu
end

section
variable {P : Program} {w : World} {K : PySem.W.Frag} {mg : Str → Option Value} {base : Heap}
/-- a comprehension over texts that draws -/
theorem LC_strs {H0 H : Hp} {t q : Addr} {ns : List Str} {ws : List Nat} {σ : L2.St} {tg : TG} {tt : TT} {te : TE} {Q : VK} (R : Str → PyData → Prop)
    (h : Lq K H q (ns.map .str)) (T : Tape K H0 H t) (nq : q ≠ t) (ln : ns.length ≤ 1000)
    (hs : ∀ (c : Str) (H' : Hp) (KEEP : VK) (DROP : Hp → Prop), Tape K H0 H' t → Fr [t] H H' → (∀ y d H2, Fr [t] H' H2 → Tape K H0 H2 t → Dt K H2 y d → R c d → KEEP y H2) →
      tg (.str c) (wipe σ ws) H' fun σ2 H2 => wipe σ2 ws = wipe σ ws ∧ tt σ2 H2 fun k H3 => if k = true then te σ2 H3 KEEP else DROP H3)
    (k : ∀ D H' ds, H D = none → Fr [t] H H' → Tape K H0 H' t → Lq K H' D ds → Paired R ns ds → Q (.ref D) H') :
    ∃ a', V.ref q = .ref a' ∧ (∃ ys, SqL K H a' ys) ∧ ∀ D, H D = none → LC (Itl K a') tg tt te ws σ D Q (upd H D (.lst [])) := by
  have hq : H q = some (.lst (ns.map V.str)) := by
    obtain ⟨vs, e, a⟩ := h
    have : ∀ {vs : List V} {ns : List Str}, DtAll K H vs (ns.map .str) → vs = ns.map V.str := by
      intro vs ns
      induction ns generalizing vs with
      | nil => intro a; cases a; rfl
      | cons n r ih =>
        intro a
        cases a with
        | cons a b =>
        cases a
        rw [List.map_cons, ih b]
    rw [e, this a]
  refine LC_L (SqL.of hq) fun D hD => LC_by (a := q) (xs := ns.map V.str) (fun i H' => Fr [t] H H' ∧ Tape K H0 H' t ∧ ∃ ds, Lq K H' D ds ∧ Paired R (ns.take i) ds) ⟨(Fr.new hD), T.new hD, [], ⟨[], upd_same, .nil⟩, .nil⟩ (fun i H' _ h => SqL.of (h.1 _ _ hq (by simpa using nq))) ?_ ?_
  · rintro i x H' hx ⟨f', T', ds, L, pr⟩
    rw [List.getElem?_map] at hx
    obtain ⟨c, hc, rfl⟩ := Option.map_eq_some_iff.mp hx
    have nD := T.ne hD
    have ld : ds.length ≤ ns.length := by
      have := Paired.len pr
      rw [List.length_take] at this
      omega
    refine hs c H' _ _ T' f' (fun y d H2 f2 T2 dy r => ?_)
    obtain ⟨ys, hys, dys⟩ := L.fr f2 (by simpa using nD) (T'.tu f2)
    refine ⟨ys, hys, Nat.lt_of_le_of_lt (show ys.length ≤ 100000 by rw [dys.length]; omega) (by decide), Fr.drop1 hD (f'.trans f2) (Fr.mut (by simp)), T2.mut nD (T.no hD), ds ++ [d], ⟨_, upd_same, (dys.append (.cons dy .nil)).mono (Tu.mut hys)⟩, ?_⟩
    rw [List.take_add_one, hc]
    exact Paired.snoc pr r
  · rintro H' ⟨f', T', ds, L, pr⟩
    rw [List.length_map, List.take_length] at pr
    exact k D H' ds hD f' T' L pr
end

section
variable {P : Program} {w : World} {K : PySem.W.Frag} {mg : Str → Option Value} {base : Heap}
/-- a small number, or one of four -/
def sp_law_number (K : PySem.W.Frag) : Sp := fun vs H Q _ => ∃ (t : Addr) (H0 : Hp), vs = [.ref t] ∧ Tape K H0 H t ∧ ∀ r H', -1000000000 ≤ r ∧ r ≤ 1000000000 → Fr [t] H H' → Tape K H0 H' t → Q (.int r) H'
theorem ok_law_number (T : Env K mg) : Fx P w K mg base 2 "_law_number" p_law_number (sp_law_number K) := by
  refine T.l_law_number.ok sc_law_number (fun vs H Q E h => ?_) (fun f cdv A outer s H vs Q E hr h => ?_)
  · obtain ⟨t, _, rfl, _⟩ := h
    rfl
  · obtain ⟨t, H0, rfl, hT, k⟩ := h
    refine ⟨_, (pss_cons (ps_if (pt_cmpR op_gt (pe_fx (ok_law_draw (P := P) (w := w) T) hr (by decide) (pa_cons (pv 0) (pa_cons pe_int pa_nil))) pe_int (nomark _)) (pss_one (ps_ret (pe_op op_sub (pe_fx (ok_law_draw (P := P) (w := w) T) hr (by decide) (pa_cons (pv 0) (pa_cons pe_int pa_nil))) pe_int))) pss_nil)
      (pss_one (ps_ret (pe_ix (ix_U (K := K) rfl) (pe_lst (pa_cons (pe_op op_pow pe_int pe_int) (pa_cons (pe_un un_neg (pe_op op_pow pe_int pe_int)) (pa_cons pe_int (pa_cons (pe_un un_neg pe_int) pa_nil))))) (pe_fx (ok_law_draw (P := P) (w := w) T) hr (by decide) (pa_cons (pv 0) (pa_cons pe_int pa_nil))) (fun _ _ => rfl))))), ?_⟩
    walk_at "go"
    refine ⟨t, 8, H0, rfl, hT, by decide, by decide, fun r H1 r0 r1 f1 T1 => ?_⟩
    walk_at "go"
    refine ite_d (fun h0 => ?_) (fun h0 => ?_)
    · walk_at "go"
      refine ⟨t, 9, H0, rfl, T1, by decide, by decide, fun r2 H2 r20 r21 f2 T2 => ?_⟩
      walk_at "go"
      exact k _ _ (by omega) (f1.trans f2) T2
    · walk_at "go"
      refine ⟨by show 4 ≤ sizeLine; decide, fun l hl => ?_⟩
      walk_at "go"
      refine ⟨t, 4, H0, rfl, T1.new hl, by decide, by decide, fun r2 H2 r20 r21 f2 T2 => ?_⟩
      have e2 : H2 l = some (.lst (([1000000000, -1000000000, 999983, -70001] : List Int).map V.int)) := f2 _ _ upd_same (by simpa using T1.ne hl)
      obtain ⟨z, hz, hb⟩ := at_all (ns := [1000000000, -1000000000, 999983, -70001]) (P := fun r => -1000000000 ≤ r ∧ r ≤ 1000000000) (by decide) r20 r21
      refine w_ixL (SqL.of e2) hz ?_
      exact k _ _ hb ((f1.trans (Fr.new hl)).trans f2) T2
end

theorem w_pow12 {H : Hp} {Q : VK} (q : Q (.int 1000000000000) H) : rI CPow (fun i j => .int (i ^ j.toNat)) (.int 10) (.int 12) H Q := ⟨10, 12, rfl, rfl, ⟨by decide, by decide, by decide⟩, q⟩
theorem w_pow8 {H : Hp} {Q : VK} (q : Q (.int 100000000) H) : rI CPow (fun i j => .int (i ^ j.toNat)) (.int 10) (.int 8) H Q := ⟨10, 8, rfl, rfl, ⟨by decide, by decide, by decide⟩, q⟩
/-- the names that are drawn -/
def pool12 : List Str := ["a", "ab", "abc", "b", "ba", "box", "put", "set", "take", "plain", "turn", "abcdefgh"]
theorem pool12_ok : ∀ n ∈ pool12, PyData.strOk n = true := by decide +kernel
section
variable {P : Program} {w : World} {K : PySem.W.Frag} {mg : Str → Option Value} {base : Heap}
def sp_law_names (K : PySem.W.Frag) : Sp := fun vs H Q _ => ∃ (t : Addr) (m : Int) (H0 : Hp), vs = [.ref t, .int m] ∧ Tape K H0 H t ∧ 0 ≤ m ∧ m ≤ 12 ∧ ∀ (q : Addr) (ns : List Str) (H' : Hp), H q = none → Fr [t] H H' → Tape K H0 H' t → Lq K H' q (ns.map PyData.str) → ns.length = m.toNat → (∀ n ∈ ns, n ∈ pool12) → Q (.ref q) H'
theorem ok_law_names (T : Env K mg) : Fx P w K mg base 2 "_law_names" p_law_names (sp_law_names K) := by
  refine T.l_law_names.ok sc_law_names (fun vs H Q E h => ?_) (fun f cdv A outer s H vs Q E hr h => ?_)
  · obtain ⟨t, m, _, rfl, _⟩ := h
    rfl
  · obtain ⟨t, m, H0, rfl, T0, m0, m1, k⟩ := h
    refine ⟨_, (pss_cons (ps_set (i := 2) sc_law_names.nd rfl (Or.inr rfl) (pe_lst (pa_cons pe_str (pa_cons pe_str (pa_cons pe_str (pa_cons pe_str (pa_cons pe_str (pa_cons pe_str (pa_cons pe_str (pa_cons pe_str (pa_cons pe_str (pa_cons pe_str (pa_cons pe_str (pa_cons pe_str pa_nil))))))))))))))
      (pss_cons (ps_set (i := 3) sc_law_names.nd rfl (Or.inr rfl) (pe_fx (ok_law_draw (P := P) (w := w) T) hr (by decide) (pa_cons (pv 0) (pa_cons pe_int pa_nil))))
      (pss_cons (ps_set (i := 4) sc_law_names.nd rfl (Or.inr rfl) (pe_ix (ix_U (K := K) rfl) (pe_lst (pa_cons pe_int (pa_cons pe_int (pa_cons pe_int (pa_cons pe_int pa_nil))))) (pe_fx (ok_law_draw (P := P) (w := w) T) hr (by decide) (pa_cons (pv 0) (pa_cons pe_int pa_nil))) (fun _ _ => rfl)))
      (pss_one (ps_ret (pe_lc (own := [("_law_k", 5)]) (g := (gName 5)) (tt := tYes) rfl sc_law_names.nd (pi_range1 rfl T.m_range (pa_cons (pv 1) pa_nil)) (blkOk_by (N := N_law_names) (sc := defScope s_law_names) (by decide +kernel)) (fun _ _ _ _ _ => (pg_name (i := 5) sc_law_names.nd rfl (Or.inl rfl))) (fun _ _ _ _ _ => pts_nil) (fun _ _ _ _ _ => (pe_ix (ix_U (K := K) rfl) (pv 2) (pe_op op_mod (pe_op (op_addU (K := K) rfl) (pv 3) (pe_op op_mulU (pv 4) (pv 5))) pe_int) (fun _ _ => rfl))))))))), ?_⟩
    walk_at "go"
    refine mkL (K := K) (ds := pool12.map PyData.str) (.cons (.str "a") (.cons (.str "ab") (.cons (.str "abc") (.cons (.str "b") (.cons (.str "ba") (.cons (.str "box") (.cons (.str "put") (.cons (.str "set") (.cons (.str "take") (.cons (.str "plain") (.cons (.str "turn") (.cons (.str "abcdefgh") .nil)))))))))))) fun lp H1 n1 f1 L1 => ?_
    have T1 := T0.fr f1
    have nlp := T0.ne n1
    walk_at "go"
    refine ⟨t, 12, H0, rfl, T1, by decide, by decide, fun r2 H2 a2 b2 f2 T2 => ?_⟩
    walk_at "go"
    refine mkL (K := K) (.cons (.int 1) (.cons (.int 5) (.cons (.int 7) (.cons (.int 11) .nil)))) fun ls H3 n3 f3 L3 => ?_
    have T3 := T2.fr f3
    walk_at "go"
    refine ⟨t, 4, H0, rfl, T3, by decide, by decide, fun r4 H4 a4 b4 f4 T4 => ?_⟩
    have L4 := L3.fr f4 (by simpa using T2.ne n3) (T3.tu f4)
    walk_at "go"
    refine L4.at (P := fun d => ∃ i : Int, d = .int i ∧ 0 ≤ i) (by
      intro d hd
      simp only [List.mem_cons, List.not_mem_nil, or_false] at hd
      rcases hd with rfl | rfl | rfl | rfl
      · exact ⟨_, rfl, by decide⟩
      · exact ⟨_, rfl, by decide⟩
      · exact ⟨_, rfl, by decide⟩
      · exact ⟨_, rfl, by decide⟩) a4 (by simpa using b4) fun sv sd ds gs _ => ?_
    obtain ⟨st, rfl, hst⟩ := gs
    cases ds.of_int
    have f14 : Fr [t] H1 H4 := (f2.trans (f3.mono (by simp))).trans f4
    have L14 := L1.fr f14 (by simpa using nlp) (T1.tu f14)
    walk_at "go"
    refine LC_tape (K := K) m.toNat (fun d => ∃ n ∈ pool12, d = .str n) T4 rfl (by omega) (by omega) (by omega) (fun v => rfl) ?_ fun D H5 ds n5 f5 T5 L5 ld g5 => ?_
    · intro i H' hi T' f' Q' q
      walk_at "go"
      refine w_mulI (.inr ⟨by omega, by omega⟩) ?_
      walk_at "go"
      refine w_rI (by decide) ?_
      have p1 : 0 ≤ st * (i : Int) := Int.mul_nonneg hst (Int.natCast_nonneg i)
      have p2 : 0 ≤ (r2 + st * (i : Int)) % 12 := Int.emod_nonneg _ (by decide)
      have p3 : (r2 + st * (i : Int)) % 12 < 12 := Int.emod_lt_of_pos _ (by decide)
      generalize (r2 + st * (i : Int)) % 12 = j at p2 p3
      obtain ⟨n, hn⟩ : ∃ n, pool12[j.toNat]? = some n := ⟨_, List.getElem?_eq_getElem (show j.toNat < pool12.length by show _ < 12; omega)⟩
      refine (L14.fr f' (by simpa using nlp) (T4.tu f')).ix j.toNat (by rw [List.getElem?_map, hn]; rfl) (fun u du => ?_) (by omega)
      exact q u _ H' Fr.refl T' du ⟨n, List.mem_of_getElem? hn, rfl⟩
    · have hns : ∃ ns : List Str, ds = ns.map PyData.str ∧ ∀ n ∈ ns, n ∈ pool12 := by
        clear L5 ld
        induction ds with
        | nil => exact ⟨[], rfl, by simp⟩
        | cons d r ih =>
          obtain ⟨n, hn, rfl⟩ := g5 d (by simp)
          obtain ⟨ns, rfl, h⟩ := ih fun x hx => g5 x (by simp [hx])
          exact ⟨n :: ns, rfl, fun x hx => by
            rcases List.mem_cons.mp hx with rfl | hx
            · exact hn
            · exact h x hx⟩
      obtain ⟨ns, rfl, hp⟩ := hns
      rw [List.length_map] at ld
      exact k D ns H5 ((f1.mono (by simp)).trans f14 |>.free1' n5 (T4.ne n5)) (((f1.mono (by simp)).trans f14).trans f5) T5 L5 ld hp
def sp_law_spot (K : PySem.W.Frag) : Sp := fun vs H Q _ => ∃ (t : Addr) (H0 : Hp), vs = [.ref t] ∧ Tape K H0 H t ∧ ∀ v d H', Fr [t] H H' → Tape K H0 H' t → Dt K H' v d → SpotD d → Q v H'
theorem ok_law_spot (T : Env K mg) : Fx P w K mg base 3 "_law_spot" p_law_spot (sp_law_spot K) := by
  refine T.l_law_spot.ok sc_law_spot (fun vs H Q E h => ?_) (fun f cdv A outer s H vs Q E hr h => ?_)
  · obtain ⟨t, _, rfl, _⟩ := h
    rfl
  · obtain ⟨t, H0, rfl, T0, k⟩ := h
    refine ⟨_, (pss_cons (ps_set (i := 1) sc_law_spot.nd rfl (Or.inl rfl) pe_non)
      (C8.pss_cut (ps_if (pt_cmpR op_gt (pe_fx (ok_law_draw (P := P) (w := w) T) hr (by decide) (pa_cons (pv 0) (pa_cons pe_int pa_nil))) pe_int (nomark _)) (pss_one (ps_set (i := 1) sc_law_spot.nd rfl (Or.inl rfl) (pe_fx (ok_law_number (P := P) (w := w) T) hr (by decide) (pa_cons (pv 0) pa_nil)))) pss_nil)
      (pss_one (ps_ret (pe_tup (pa_cons (pv 1) (pa_cons (pe_ix (ix_U (K := K) rfl) (pe_lst (pa_cons pe_int (pa_cons pe_int (pa_cons pe_int (pa_cons pe_int (pa_cons pe_int (pa_cons (pe_op op_pow pe_int pe_int) pa_nil))))))) (pe_fx (ok_law_draw (P := P) (w := w) T) hr (by decide) (pa_cons (pv 0) (pa_cons pe_int pa_nil))) (fun _ _ => rfl)) pa_nil))))))), ?_⟩
    walk_at "go"
    refine w_cut (fun σ' H' => Fr [t] H H' ∧ Tape K H0 H' t ∧ ∃ (v : V) (d : PyData), σ' = [some (.ref t), some v] ∧ Dt K H' v d ∧ (d = .none ∨ ∃ k, d = .int k)) ?_ ?_
    · walk_at "go"
      refine ⟨t, 3, H0, rfl, T0, by decide, by decide, fun r1 H1 a1 b1 f1 T1 => ?_⟩
      walk_at "go"
      refine ite_d (fun h0 => ?_) (fun h0 => ?_)
      · walk_at "go"
        refine ⟨t, H0, rfl, T1, fun r2 H2 b2 f2 T2 => ?_⟩
        walk_at "go"
        exact ⟨f1.trans f2, T2, _, _, rfl, .int r2, .inr ⟨r2, rfl⟩⟩
      · walk_at "go"
        exact ⟨f1, T1, _, _, rfl, .non, .inl rfl⟩
    · rintro σ' H1 ⟨f1, T1, v, d, rfl, dv, hd⟩
      walk_at "go"
      refine w_pow12 ?_
      walk_at "go"
      refine mkL (K := K) (.cons (.int 0) (.cons (.int 0) (.cons (.int 1) (.cons (.int 2) (.cons (.int 11) (.cons (.int 1000000000000) .nil)))))) fun l H2 n2 f2 L2' => ?_
      have T2 := T1.fr f2
      walk_at "go"
      refine ⟨t, 6, H0, rfl, T2, by decide, by decide, fun r3 H3 a3 b3 f3 T3 => ?_⟩
      have L3 := L2'.fr f3 (by simpa using T1.ne n2) (T2.tu f3)
      walk_at "go"
      refine L3.at (P := fun d => ∃ i : Int, d = .int i) (by
        intro d hd
        simp only [List.mem_cons, List.not_mem_nil, or_false] at hd
        rcases hd with rfl | rfl | rfl | rfl | rfl | rfl <;> exact ⟨_, rfl⟩) a3 (by simpa using b3) fun nv nd dn gn _ => ?_
      obtain ⟨ni, rfl⟩ := gn
      walk_at "go"
      refine mkT (K := K) (.cons ((dv.mono f2.tu).mono (T2.tu f3)) (.cons dn .nil)) fun p4 H4 n4 f4 d4 => ?_
      exact k _ _ H4 (((f1.trans (f2.mono (by simp))).trans f3).trans (f4.mono (by simp))) (T3.fr f4) d4 ⟨d, ni, rfl, hd⟩
def sp_law_label (K : PySem.W.Frag) : Sp := fun vs H Q _ => ∃ (t : Addr) (H0 : Hp), vs = [.ref t] ∧ Tape K H0 H t ∧ ∀ v d H', Fr [t] H H' → Tape K H0 H' t → Dt K H' v d → Lab d → Q v H'
theorem ok_law_label (T : Env K mg) : Fx P w K mg base 4 "_law_label" p_law_label (sp_law_label K) := by
  refine T.l_law_label.ok sc_law_label (fun vs H Q E h => ?_) (fun f cdv A outer s H vs Q E hr h => ?_)
  · obtain ⟨t, _, rfl, _⟩ := h
    rfl
  · obtain ⟨t, H0, rfl, T0, k⟩ := h
    refine ⟨_, (pss_one (ps_ret (pe_callTy (call_tupleU (K := K) rfl) (by rfl) T.m_tuple (by decide +kernel) (pa_cons (pe_lc (own := [("_law_k", 1)]) (g := (gName 1)) (tt := tYes) rfl sc_law_label.nd (pi_range1 rfl T.m_range (pa_cons (pe_ix (ix_U (K := K) rfl) (pe_lst (pa_cons pe_int (pa_cons pe_int (pa_cons pe_int (pa_cons pe_int (pa_cons pe_int pa_nil)))))) (pe_fx (ok_law_draw (P := P) (w := w) T) hr (by decide) (pa_cons (pv 0) (pa_cons pe_int pa_nil))) (fun _ _ => rfl)) pa_nil)) (blkOk_by (N := N_law_label) (sc := defScope s_law_label) (by decide +kernel)) (fun _ _ _ _ _ => (pg_name (i := 1) sc_law_label.nd rfl (Or.inl rfl))) (fun _ _ _ _ _ => pts_nil) (fun _ _ _ _ _ => (pe_fx (ok_law_spot (P := P) (w := w) T) hr (by decide) (pa_cons (pv 0) pa_nil)))) pa_nil)))), ?_⟩
    walk_at "go"
    refine mkL (K := K) (.cons (.int 1) (.cons (.int 1) (.cons (.int 1) (.cons (.int 2) (.cons (.int 3) .nil))))) fun l H1 n1 f1 L1 => ?_
    have T1 := T0.fr f1
    walk_at "go"
    refine ⟨t, 5, H0, rfl, T1, by decide, by decide, fun r2 H2 a2 b2 f2 T2 => ?_⟩
    have L2' := L1.fr f2 (by simpa using T0.ne n1) (T1.tu f2)
    walk_at "go"
    refine L2'.at (P := fun d => ∃ i : Int, d = .int i ∧ 0 ≤ i ∧ i ≤ 3) (by
      intro d hd
      simp only [List.mem_cons, List.not_mem_nil, or_false] at hd
      rcases hd with rfl | rfl | rfl | rfl | rfl
      · exact ⟨_, rfl, by decide, by decide⟩
      · exact ⟨_, rfl, by decide, by decide⟩
      · exact ⟨_, rfl, by decide, by decide⟩
      · exact ⟨_, rfl, by decide, by decide⟩
      · exact ⟨_, rfl, by decide, by decide⟩) a2 (by simpa using b2) fun sv sd ds gs _ => ?_
    obtain ⟨m, rfl, m0, m1⟩ := gs
    cases ds.of_int
    have f12 : Fr [t] H H2 := (f1.mono (by simp)).trans f2
    walk_at "go"
    refine LC_tape (K := K) m.toNat SpotD T2 rfl (by omega) (by omega) (by omega) (fun v => rfl) ?_ fun D H3 ds n3 f3 T3 L3 _ g3 => ?_
    · intro i H' hi T' f' Q' q
      walk_at "go"
      exact ⟨t, H0, rfl, T', fun v d H3 f3 T3 d3 g3 => q v d H3 f3 T3 d3 g3⟩
    · walk_at "go"
      refine L3.tuple fun p H4 f4 d4 => ?_
      exact k _ _ H4 ((f12.trans f3).trans (f4.mono (by simp))) (T3.fr f4) d4 ⟨ds, rfl, g3⟩
/-- what stands in the settings -/
def SetsOk (s : List (Str × Int)) : Prop := s.length ≤ 12 ∧ ∀ q ∈ s, q.1 ∈ pool12
theorem sorty_strs (ns : List Str) : Sorty (ns.map PyData.str) := by
  refine ⟨fun d hd d' hd' => ?_, .inr fun d hd => ?_⟩
  · obtain ⟨x, _, rfl⟩ := List.mem_map.mp hd
    obtain ⟨y, _, rfl⟩ := List.mem_map.mp hd'
    rfl
  · obtain ⟨x, _, rfl⟩ := List.mem_map.mp hd
    exact ⟨fun z => (by cases z), fun xs z => (by cases z)⟩
def sp_law_sets (K : PySem.W.Frag) : Sp := fun vs H Q _ => ∃ (t : Addr) (H0 : Hp), vs = [.ref t] ∧ Tape K H0 H t ∧ ∀ v (s : List (Str × Int)) H', Fr [t] H H' → Tape K H0 H' t → Dt K H' v (.tuple (s.map setD)) → SetsOk s → Q v H'
theorem ok_law_sets (T : Env K mg) : Fx P w K mg base 3 "_law_sets" p_law_sets (sp_law_sets K) := by
  refine T.l_law_sets.ok sc_law_sets (fun vs H Q E h => ?_) (fun f cdv A outer s H vs Q E hr h => ?_)
  · obtain ⟨t, _, rfl, _⟩ := h
    rfl
  · obtain ⟨t, H0, rfl, T0, k⟩ := h
    refine ⟨_, (pss_cons (ps_set (i := 1) sc_law_sets.nd rfl (Or.inl rfl) (pe_callB (call_sortLU (K := K) rfl (u70 hr)) (by rfl) T.m_sorted (by decide +kernel) (pa_cons (pe_fx (ok_law_names (P := P) (w := w) T) hr (by decide) (pa_cons (pv 0) (pa_cons (pe_fx (ok_law_draw (P := P) (w := w) T) hr (by decide) (pa_cons (pv 0) (pa_cons pe_int pa_nil))) pa_nil))) pa_nil)))
      (pss_one (ps_ret (pe_callTy (call_tupleU (K := K) rfl) (by rfl) T.m_tuple (by decide +kernel) (pa_cons (pe_lc (own := [("_law_name", 2)]) (g := (gName 2)) (tt := tYes) rfl sc_law_sets.nd (pi_listU (K := K) rfl (pv 1)) (blkOk_by (N := N_law_sets) (sc := defScope s_law_sets) (by decide +kernel)) (fun _ _ _ _ _ => (pg_name (i := 2) sc_law_sets.nd rfl (Or.inl rfl))) (fun _ _ _ _ _ => pts_nil) (fun _ _ _ _ _ => (pe_tup (pa_cons (pv 2) (pa_cons (pe_fx (ok_law_number (P := P) (w := w) T) hr (by decide) (pa_cons (pv 0) pa_nil)) pa_nil))))) pa_nil))))), ?_⟩
    walk_at "go"
    refine ⟨t, 4, H0, rfl, T0, by decide, by decide, fun r1 H1 a1 b1 f1 T1 => ?_⟩
    walk_at "go"
    refine ⟨t, r1, H0, rfl, T1, a1, by omega, fun q ns H2 n2 f2 T2 L2' ln pn => ?_⟩
    walk_at "go"
    refine w_sortL L2' (by rw [List.length_map]; omega) (sorty_strs ns) (fun d hd => ?_) fun q3 H3 n3 f3 L3 => ?_
    · obtain ⟨x, _, rfl⟩ := List.mem_map.mp hd
      exact Nat.zero_le _
    have hs : ∃ ms : List Str, (ns.map PyData.str).mergeSort (PySem.W.dataLe false id) = ms.map PyData.str ∧ ms.length = ns.length ∧ ∀ m ∈ ms, m ∈ ns := by
      have hl : ((ns.map PyData.str).mergeSort (PySem.W.dataLe false id)).length = ns.length := by rw [List.length_mergeSort, List.length_map]
      have hm : ∀ d ∈ (ns.map PyData.str).mergeSort (PySem.W.dataLe false id), ∃ m ∈ ns, d = .str m := fun d hd => by
        obtain ⟨x, hx, rfl⟩ := List.mem_map.mp (List.mem_mergeSort.mp hd)
        exact ⟨x, hx, rfl⟩
      generalize (ns.map PyData.str).mergeSort (PySem.W.dataLe false id) = ds at hl hm
      rw [← hl]
      clear hl
      induction ds with
      | nil => exact ⟨[], rfl, rfl, by simp⟩
      | cons d r ih =>
        obtain ⟨n, hn, rfl⟩ := hm d (by simp)
        obtain ⟨ms, e, l, h⟩ := ih fun x hx => hm x (by simp [hx])
        refine ⟨n :: ms, by rw [e]; rfl, by rw [List.length_cons, List.length_cons, l], fun x hx => ?_⟩
        rcases List.mem_cons.mp hx with rfl | hx
        · exact hn
        · exact h x hx
    obtain ⟨ms, ems, lms, hms⟩ := hs
    rw [ems] at L3
    have T3 := T2.fr f3
    walk_at "go"
    refine LC_strs (fun (c : Str) (d : PyData) => ∃ n : Int, d = setD (c, n)) L3 T3 (T2.ne n3) (by omega) ?_ ?_
    · intro c H' KEEP DROP T' f' hk
      walk_at "go"
      refine ⟨t, H0, rfl, T', fun r4 H4 b4 f4 T4 => ?_⟩
      walk_at "go"
      refine mkT (K := K) (.cons (.str c) (.cons (.int r4) .nil)) fun p5 H5 n5 f5 d5 => ?_
      exact hk _ _ H5 (f4.trans (f5.mono (by simp))) (T4.fr f5) d5 ⟨r4, rfl⟩
    · intro D H4 ds n4 f4 T4 L4 pr
      have hd : ∃ s : List (Str × Int), ds = s.map setD ∧ s.map Prod.fst = ms := by
        clear L4 lms hms ems L3
        induction pr with
        | nil => exact ⟨[], rfl, rfl⟩
        | cons a b ih =>
          obtain ⟨n, rfl⟩ := a
          obtain ⟨s, rfl, e⟩ := ih
          exact ⟨(_, n) :: s, rfl, by rw [List.map_cons, e]⟩
      obtain ⟨s, rfl, es⟩ := hd
      walk_at "go"
      refine L4.tuple fun p5 H5 f5 d5 => ?_
      refine k _ s H5 ((((f1.trans f2).trans (f3.mono (by simp))).trans f4).trans (f5.mono (by simp))) (T4.fr f5) d5 ⟨?_, fun q hq => ?_⟩
      · have : s.length = ms.length := by rw [← es, List.length_map]
        omega
      · have : q.1 ∈ ms := by rw [← es]; exact List.mem_map_of_mem hq
        exact pn _ (hms _ this)
end

section
variable {P : Program} {w : World} {K : PySem.W.Frag} {mg : Str → Option Value} {base : Heap}
theorem _root_.U.Lq.nref {H : Hp} {l q : Addr} {ds : List PyData} (h : Lq K H l ds) (n : H q = none) : q ≠ l := by
  rintro rfl
  obtain ⟨ys, hys, _⟩ := h
  rw [n] at hys
  cases hys
def sp_law_hands (K : PySem.W.Frag) : Sp := fun vs H Q _ => ∃ (t : Addr) (H0 : Hp), vs = [.ref t] ∧ Tape K H0 H t ∧ ∀ v d H', Fr [t] H H' → Tape K H0 H' t → Dt K H' v d → Good 4 d → Q v H'
theorem ok_law_hands (T : Env K mg) : Fx P w K mg base 4 "_law_hands" p_law_hands (sp_law_hands K) := by
  refine T.l_law_hands.ok sc_law_hands (fun vs H Q E h => ?_) (fun f cdv A outer s H vs Q E hr h => ?_)
  · obtain ⟨t, _, rfl, _⟩ := h
    rfl
  · obtain ⟨t, H0, rfl, T0, k⟩ := h
    refine ⟨_, (pss_cons (ps_set (i := 1) sc_law_hands.nd rfl (Or.inl rfl) (pe_lst pa_nil))
      (pss_cons (ps_for PassesOwn.never rfl (pi_listU (K := K) rfl (pe_fx (ok_law_names (P := P) (w := w) T) hr (by decide) (pa_cons (pv 0) (pa_cons (pe_ix (ix_U (K := K) rfl) (pe_lst (pa_cons pe_int (pa_cons pe_int (pa_cons pe_int (pa_cons pe_int pa_nil))))) (pe_fx (ok_law_draw (P := P) (w := w) T) hr (by decide) (pa_cons (pv 0) (pa_cons pe_int pa_nil))) (fun _ _ => rfl)) pa_nil)))) (pg_name (i := 2) sc_law_hands.nd rfl (Or.inl rfl)) (pss_cons (ps_set (i := 3) sc_law_hands.nd rfl (Or.inl rfl) (pe_callTy (call_tupleU (K := K) rfl) (by rfl) T.m_tuple (by decide +kernel) (pa_cons (pe_lc (own := [("_law_k", 6)]) (g := (gName 6)) (tt := tYes) rfl sc_law_hands.nd (pi_range1 rfl T.m_range (pa_cons (pe_fx (ok_law_draw (P := P) (w := w) T) hr (by decide) (pa_cons (pv 0) (pa_cons pe_int pa_nil))) pa_nil)) (blkOk_by (N := N_law_hands) (sc := defScope s_law_hands) (by decide +kernel)) (fun _ _ _ _ _ => (pg_name (i := 6) sc_law_hands.nd rfl (Or.inl rfl))) (fun _ _ _ _ _ => pts_nil) (fun _ _ _ _ _ => (pe_fx (ok_law_spot (P := P) (w := w) T) hr (by decide) (pa_cons (pv 0) pa_nil)))) pa_nil)))
      (pss_cons (ps_set (i := 4) sc_law_hands.nd rfl (Or.inl rfl) (pe_lst pa_nil))
      (pss_cons (ps_for PassesOwn.never rfl (pi_listU (K := K) rfl (pe_fx (ok_law_names (P := P) (w := w) T) hr (by decide) (pa_cons (pv 0) (pa_cons (pe_fx (ok_law_draw (P := P) (w := w) T) hr (by decide) (pa_cons (pv 0) (pa_cons pe_int pa_nil))) pa_nil)))) (pg_name (i := 5) sc_law_hands.nd rfl (Or.inl rfl)) (pss_one (ps_expr (pe_bm PySem.F.plainAttrs_list PySem.F.slot_list_append PySem.F.type_list_append mt_append (pv 4) (pa_cons (pe_tup (pa_cons (pv 5) (pa_cons (pe_ix (ix_U (K := K) rfl) (pe_lst (pa_cons pe_str (pa_cons pe_str (pa_cons pe_str pa_nil)))) (pe_fx (ok_law_draw (P := P) (w := w) T) hr (by decide) (pa_cons (pv 0) (pa_cons pe_int pa_nil))) (fun _ _ => rfl)) (pa_cons (pe_fx (ok_law_number (P := P) (w := w) T) hr (by decide) (pa_cons (pv 0) pa_nil)) pa_nil)))) pa_nil)))))
      (pss_one (ps_expr (pe_bm PySem.F.plainAttrs_list PySem.F.slot_list_append PySem.F.type_list_append mt_append (pv 1) (pa_cons (pe_tup (pa_cons (pv 2) (pa_cons (pe_op (op_addU (K := K) rfl) pe_int (pe_fx (ok_law_draw (P := P) (w := w) T) hr (by decide) (pa_cons (pv 0) (pa_cons pe_int pa_nil)))) (pa_cons (pe_cmpR (op_eqU (K := K) rfl (u64 hr)) (pe_fx (ok_law_draw (P := P) (w := w) T) hr (by decide) (pa_cons (pv 0) (pa_cons pe_int pa_nil))) pe_int (nomark _)) (pa_cons (pv 3) (pa_cons (pe_callTy (call_tupleU (K := K) rfl) (by rfl) T.m_tuple (by decide +kernel) (pa_cons (pv 4) pa_nil)) pa_nil)))))) pa_nil))))))))
      (pss_one (ps_ret (pe_callTy (call_tupleU (K := K) rfl) (by rfl) T.m_tuple (by decide +kernel) (pa_cons (pv 1) pa_nil)))))), ?_⟩
    walk_at "go"
    refine mkL (K := K) .nil fun hl H1 n1 f1 L1 => ?_
    have nh := T0.ne n1
    have nh0 := T0.no n1
    have T1 := T0.fr f1
    walk_at "go"
    refine mkL (K := K) (.cons (.int 0) (.cons (.int 0) (.cons (.int 1) (.cons (.int 2) .nil)))) fun l2 H2 n2 f2 L2' => ?_
    have T2 := T1.fr f2
    walk_at "go"
    refine ⟨t, 4, H0, rfl, T2, by decide, by decide, fun r3 H3 a3 b3 f3 T3 => ?_⟩
    have L3 := L2'.fr f3 (by simpa using T1.ne n2) (T2.tu f3)
    walk_at "go"
    refine L3.at (P := fun d => ∃ i : Int, d = .int i ∧ 0 ≤ i ∧ i ≤ 3) (by
      intro d hd
      simp only [List.mem_cons, List.not_mem_nil, or_false] at hd
      rcases hd with rfl | rfl | rfl | rfl
      · exact ⟨_, rfl, by decide, by decide⟩
      · exact ⟨_, rfl, by decide, by decide⟩
      · exact ⟨_, rfl, by decide, by decide⟩
      · exact ⟨_, rfl, by decide, by decide⟩) a3 (by simpa using b3) fun sv sd ds gs _ => ?_
    obtain ⟨m, rfl, m0, m1⟩ := gs
    cases ds.of_int
    walk_at "go"
    refine ⟨t, m, H0, rfl, T3, m0, by omega, fun q ns H4 n4 f4 T4 L4 ln pn => ?_⟩
    have f14 : Fr [t] H1 H4 := ((f2.mono (by simp)).trans f3).trans f4
    have c4 := L1.fr f14 (by simpa using nh) (T1.tu f14)
    have nq := T3.ne n4
    have nqh : q ≠ hl := (L1.fr ((f2.mono (by simp)).trans f3) (by simpa using nh) (T1.tu ((f2.mono (by simp)).trans f3))).nref n4
    have f04 : Fr [t] H H4 := (f1.mono (by simp)).trans f14
    walk_at "go"
    refine L4.walk (fun i σ H' => Fr [t] H H' ∧ Tape K H0 H' t ∧ Lq K H' q (ns.map PyData.str) ∧ ∃ (ds : List PyData) (v2 v3 v4 v5 v6 : Option V), σ = [some (.ref t), some (.ref hl), v2, v3, v4, v5, v6] ∧ Lq K H' hl ds ∧ ds.length = i ∧ ∀ d ∈ ds, Good 3 d) ⟨f04, T4, L4, [], _, _, _, _, _, rfl, c4, rfl, by simp⟩ (fun i σ H' h => h.2.2.1) ?_ ?_
    · rintro i u d σ H5 hi du ⟨f5, T5, L5, ds, v2, v3, v4, v5, v6, rfl, c5, lds, gds⟩
      obtain ⟨ev, hev, rfl⟩ := map_get hi
      cases du.of_str
      have hil : i < ns.length := (List.getElem?_eq_some_iff.mp hev).1
      have oev := pool12_ok ev (pn ev (List.mem_of_getElem? hev))
      walk_at "go"
      refine ⟨t, 3, H0, rfl, T5, by decide, by decide, fun r6 H6 a6 b6 f6 T6 => ?_⟩
      walk_at "go"
      refine LC_tape (K := K) r6.toNat SpotD T6 rfl (by omega) (by omega) (by omega) (fun v => rfl) ?_ fun D H7 ss n7 f7 T7 L7 _ g7 => ?_
      · intro j H' hj T' f' Q' q
        walk_at "go"
        exact ⟨t, H0, rfl, T', fun v d H3 f3 T3 d3 g3 => q v d H3 f3 T3 d3 g3⟩
      walk_at "go"
      refine L7.tuple fun pp H8 f8 d8 => ?_
      have f58 : Fr [t] H5 H8 := (f6.trans f7).trans (f8.mono (by simp))
      have T8 := T7.fr f8
      walk_at "go"
      refine mkL (K := K) .nil fun cl H9 n9 f9 L9 => ?_
      have T9 := T8.fr f9
      have ncl := T8.ne n9
      have ncl0 := T8.no n9
      have L8 := L5.fr f58 (by simpa using nq) (T5.tu f58)
      have c8 := c5.fr f58 (by simpa using nh) (T5.tu f58)
      have nclq : cl ≠ q := L8.nref n9
      have nclh : cl ≠ hl := c8.nref n9
      walk_at "go"
      refine ⟨t, 3, H0, rfl, T9, by decide, by decide, fun r10 H10 a10 b10 f10 T10 => ?_⟩
      walk_at "go"
      refine ⟨t, r10, H0, rfl, T10, a10, by omega, fun q2 ms H11 n11 f11 T11 L11 lm pm => ?_⟩
      have f911 : Fr [t] H9 H11 := f10.trans f11
      have nq2 := T10.ne n11
      have nq2c : q2 ≠ cl := (L9.fr f10 (by simpa using ncl) (T9.tu f10)).nref n11
      have f511 : Fr [t] H5 H11 := (f58.trans (f9.mono (by simp))).trans f911
      have L5b := (L8.fr0 f9).fr f911 (by simpa using nq) (T9.tu f911)
      have c5b := (c8.fr0 f9).fr f911 (by simpa using nh) (T9.tu f911)
      have d8b := (d8.mono f9.tu).mono (T9.tu f911)
      walk_at "go"
      refine L11.walk (fun j σ H' => Fr [t] H H' ∧ Tape K H0 H' t ∧ Lq K H' q2 (ms.map PyData.str) ∧ Lq K H' q (ns.map PyData.str) ∧ Lq K H' hl ds ∧ Dt K H' (.ref pp) (.tuple ss) ∧ ∃ (cs : List PyData) (v5 v6 : Option V), σ = [some (.ref t), some (.ref hl), some (.str ev), some (.ref pp), some (.ref cl), v5, v6] ∧ Lq K H' cl cs ∧ cs.length = j ∧ ∀ d ∈ cs, Good 1 d) ⟨f5.trans f511, T11, L11, L5b, c5b, d8b, [], _, _, rfl, L9.fr f911 (by simpa using ncl) (T9.tu f911), rfl, by simp⟩ (fun i σ H' h => h.2.2.1) ?_ ?_
      · rintro j u d σ H12 hj du ⟨f12, T12, Lm, Lq', Lh, dp, cs, v5, v6, rfl, Lc, lcs, gcs⟩
        obtain ⟨nm, hnm, rfl⟩ := map_get hj
        cases du.of_str
        have hjl : j < ms.length := (List.getElem?_eq_some_iff.mp hnm).1
        have onm := pool12_ok nm (pm nm (List.mem_of_getElem? hnm))
        walk_at "go"
        refine ⟨Lc.ty, ?_⟩
        walk_at "go"
        refine mkL (K := K) (.cons (.str "set") (.cons (.str "add") (.cons (.str "times") .nil))) fun wl H13 n13 f13 L13 => ?_
        have T13 := T12.fr f13
        walk_at "go"
        refine ⟨t, 3, H0, rfl, T13, by decide, by decide, fun r14 H14 a14 b14 f14 T14 => ?_⟩
        have L14 := L13.fr f14 (by simpa using T12.ne n13) (T13.tu f14)
        walk_at "go"
        refine L14.at (P := fun d => ∃ x, d = .str x ∧ PyData.strOk x = true) (by
          intro d hd
          simp only [List.mem_cons, List.not_mem_nil, or_false] at hd
          rcases hd with rfl | rfl | rfl
          · exact ⟨_, rfl, by decide +kernel⟩
          · exact ⟨_, rfl, by decide +kernel⟩
          · exact ⟨_, rfl, by decide +kernel⟩) a14 (by simpa using b14) fun wv wd dw gw _ => ?_
        obtain ⟨wx, rfl, ow⟩ := gw
        cases dw.of_str
        walk_at "go"
        refine ⟨t, H0, rfl, T14, fun r15 H15 b15 f15 T15 => ?_⟩
        walk_at "go"
        refine mkT (K := K) (.cons (.str nm) (.cons (.str wx) (.cons (.int r15) .nil))) fun p16 H16 n16 f16 d16 => ?_
        have T16 := T15.fr f16
        have f1216 : Fr [t] H12 H16 := (((f13.mono (by simp)).trans f14).trans f15).trans (f16.mono (by simp))
        have tu := T12.tu f1216
        walk_at "go"
        refine (Lc.fr f1216 (by simpa using ncl) tu).app d16 (by omega) fun H17 f17 tu17 L17 => ?_
        have n9' : H cl = none := (f5.trans f58).free1' n9 ncl
        refine ⟨Fr.drop1 n9' (f12.trans f1216) f17, T16.fr1 f17 ncl ncl0, (Lm.fr f1216 (by simpa using nq2) tu).fr f17 (by simpa using nq2c) tu17, (Lq'.fr f1216 (by simpa using nq) tu).fr f17 (by simpa using nclq.symm) tu17, (Lh.fr f1216 (by simpa using nh) tu).fr f17 (by simpa using nclh.symm) tu17, dp.mono (tu.trans tu17), _, _, _, rfl, L17, by rw [List.length_append, lcs]; rfl, ?_⟩
        intro d hd
        rcases List.mem_append.mp hd with hd | hd
        · exact gcs d hd
        · rw [List.mem_singleton.mp hd]
          refine good_tup (n := 0) fun x hx => ?_
          simp only [List.mem_cons, List.not_mem_nil, or_false] at hx
          rcases hx with rfl | rfl | rfl
          · exact good_str 0 onm
          · exact good_str 0 ow
          · exact good_int 0 _
      · rintro σ H12 ⟨f12, T12, Lm, Lq', Lh, dp, cs, v5, v6, rfl, Lc, lcs, gcs⟩
        walk_at "go"
        refine ⟨Lh.ty, ?_⟩
        walk_at "go"
        refine ⟨t, 3, H0, rfl, T12, by decide, by decide, fun r13 H13 a13 b13 f13 T13 => ?_⟩
        walk_at "go"
        refine ⟨t, 2, H0, rfl, T13, by decide, by decide, fun r14 H14 a14 b14 f14 T14 => ?_⟩
        have f1214 : Fr [t] H12 H14 := f13.trans f14
        walk_at "go"
        refine (Lc.fr f1214 (by simpa using ncl) (T12.tu f1214)).tuple fun p15 H15 f15 d15 => ?_
        have f1215 : Fr [t] H12 H15 := f1214.trans (f15.mono (by simp))
        have tu := T12.tu f1215
        have T15 := T14.fr f15
        walk_at "go"
        refine mkT (K := K) (.cons (.str ev) (.cons (.int (1 + r13)) (.cons (.bl (decide (r14 = 0))) (.cons (dp.mono tu) (.cons d15 .nil))))) fun p16 H16 n16 f16 d16 => ?_
        have T16 := T15.fr f16
        walk_at "go"
        refine ((Lh.fr f1215 (by simpa using nh) tu).fr0 f16).app d16 (by omega) fun H17 f17 tu17 L17 => ?_
        refine ⟨Fr.drop1 n1 ((f12.trans f1215).trans (f16.mono (by simp))) f17, T16.fr1 f17 nh nh0, ((Lq'.fr f1215 (by simpa using nq) tu).fr0 f16).fr f17 (by simpa using nqh) tu17, _, _, _, _, _, _, rfl, L17, by rw [List.length_append, lds]; rfl, ?_⟩
        intro d hd
        rcases List.mem_append.mp hd with hd | hd
        · exact gds d hd
        · rw [List.mem_singleton.mp hd]
          refine good_tup (n := 2) fun x hx => ?_
          simp only [List.mem_cons, List.not_mem_nil, or_false] at hx
          rcases hx with rfl | rfl | rfl | rfl | rfl
          · exact good_str 2 oev
          · exact good_int 2 _
          · exact good_bool 2 _
          · exact good_tup fun s hs => (g7 s hs).good
          · exact good_tup gcs
    · rintro σ H5 ⟨f5, T5, L5, ds, v2, v3, v4, v5, v6, rfl, c5, lds, gds⟩
      walk_at "go"
      refine c5.tuple fun pp H6 f6 d6 => ?_
      exact k _ _ H6 (f5.trans (f6.mono (by simp))) (T5.fr f6) d6 (good_tup gds)
end

def BoxFine (b : Bb) : Prop := PyData.strOk b.g = true ∧ SetsOk b.s ∧ Good 4 b.h
def Bt.fine : Bt → Prop
  | .nil => True
  | .cons _ g s h i r => BoxFine ⟨g, s, h, i⟩ ∧ i.fine ∧ r.fine
theorem Bt.fine_of : ∀ {xs : List (PyData × Bb)}, (∀ p ∈ xs, BoxFine p.2 ∧ p.2.inner.fine) → (Bt.of xs).fine
  | [], _ => trivial
  | p :: r, h => ⟨(h p (by simp)).1, (h p (by simp)).2, Bt.fine_of fun q hq => h q (by simp [hq])⟩
theorem Bt.fine_rows : ∀ {t : Bt}, t.fine → ∀ p ∈ t.rows, BoxFine p.2 ∧ p.2.inner.fine
  | .nil, _, p, h => by simp [Bt.rows] at h
  | .cons l g s hs i r, o, p, h => by
    rw [Bt.rows] at h
    rcases List.mem_cons.mp h with rfl | h
    · exact ⟨o.1, o.2.1⟩
    · exact Bt.fine_rows o.2.2 p h
theorem lay_mem : ∀ {ds : List PyData}, PyData.canLayAll0 ds = true → ∀ x ∈ ds, x.canLay0 = true
  | [], _, x, hx => by cases hx
  | d :: r, h, x, hx => by
    rw [PyData.canLayAll0, Bool.and_eq_true] at h
    rcases List.mem_cons.mp hx with rfl | hx
    · exact h.1
    · exact lay_mem h.2 x hx
theorem depth_mem : ∀ {ds : List PyData}, ∀ x ∈ ds, x.depth ≤ PyData.depthAll ds
  | [], x, hx => by cases hx
  | d :: r, x, hx => by
    rw [PyData.depthAll]
    rcases List.mem_cons.mp hx with rfl | hx
    · exact Nat.le_max_left _ _
    · exact Nat.le_trans (depth_mem x hx) (Nat.le_max_right _ _)
theorem setD_good {q : Str × Int} (h : q.1 ∈ pool12) : Good 1 (setD q) := good_tup (n := 0) fun x hx => by
  simp only [List.mem_cons, List.not_mem_nil, or_false] at hx
  rcases hx with rfl | rfl
  · exact good_str 0 (pool12_ok _ h)
  · exact good_int 0 _
theorem Bt.good : ∀ {t : Bt}, t.lab → t.fine → Good (6 + 4 * t.deep) t.d
  | .nil, _, _ => ⟨rfl, by decide⟩
  | .cons l g s h i r, o, f => by
    have h1 := Bt.good o.2.1 f.2.1
    have h2 := Bt.good o.2.2 f.2.2
    have hd : (Bt.cons l g s h i r).deep = max (1 + i.deep) r.deep := rfl
    have hbox : Good (6 + 4 * i.deep + 1) (.tuple [.str g, .tuple (s.map setD), h, i.d]) := good_tup fun x hx => by
      simp only [List.mem_cons, List.not_mem_nil, or_false] at hx
      rcases hx with rfl | rfl | rfl | rfl
      · exact good_str _ f.1.1
      · refine (good_tup (n := 1) fun y hy => ?_).mono (by omega)
        obtain ⟨q, hq, rfl⟩ := List.mem_map.mp hy
        exact setD_good (f.1.2.1.2 q hq)
      · exact f.1.2.2.mono (by omega)
      · exact h1
    have hrow : Good (6 + 4 * i.deep + 2) (.tuple [l, .tuple [.str g, .tuple (s.map setD), h, i.d]]) := good_tup fun x hx => by
      simp only [List.mem_cons, List.not_mem_nil, or_false] at hx
      rcases hx with rfl | rfl
      · exact o.1.good.mono (by omega)
      · exact hbox
    have hr : ∀ x ∈ r.ds, Good (5 + 4 * r.deep) x := fun x hx => by
      obtain ⟨c, dd⟩ := h2
      have c : PyData.canLayAll0 r.ds = true := c
      have dd : PyData.depthAll r.ds + 1 ≤ 6 + 4 * r.deep := dd
      exact ⟨lay_mem c x hx, Nat.le_trans (depth_mem x hx) (by omega)⟩
    show Good _ (.tuple (.tuple [l, .tuple [.str g, .tuple (s.map setD), h, i.d]] :: r.ds))
    refine (good_tup (n := 5 + 4 * (Bt.cons l g s h i r).deep) fun x hx => ?_).mono (by omega)
    rcases List.mem_cons.mp hx with rfl | hx
    · exact hrow.mono (by rw [hd]; omega)
    · exact (hr x hx).mono (by rw [hd]; omega)
def capI : Nat → Nat
  | 0 => 0
  | e + 1 => 7 * (1 + capI e)
section
variable {P : Program} {w : World} {K : PySem.W.Frag} {mg : Str → Option Value} {base : Heap}
def sp_law_row (K : PySem.W.Frag) (n : Nat) : Sp := fun vs H Q _ => ∃ (t : Addr) (e : Nat) (H0 : Hp), vs = [.ref t, .int e] ∧ (e < n ∧ n ≤ 3) ∧ Tape K H0 H t ∧ ∀ v (u : Bt) H', Fr [t] H H' → Tape K H0 H' t → Dt K H' v u.d → u.lab → u.apart → u.fine → u.deep ≤ e + 1 → u.cnt ≤ capI (e + 1) → Q v H'
def sp_law_box (K : PySem.W.Frag) (n : Nat) : Sp := fun vs H Q _ => ∃ (t : Addr) (e : Nat) (H0 : Hp), vs = [.ref t, .int e] ∧ (e ≤ n ∧ n ≤ 3) ∧ Tape K H0 H t ∧ ∀ v (b : Bb) H', Fr [t] H H' → Tape K H0 H' t → Dt K H' v b.d → BoxFine b → b.inner.lab → b.inner.apart → b.inner.fine → b.inner.deep ≤ e → b.inner.cnt ≤ capI e → Q v H'
theorem ok_law_box (T : Env K mg) {n : Nat} (R : Fx P w K mg base (6 + 2 * n) "_law_row" p_law_row (sp_law_row K n)) : Fx P w K mg base (6 + 2 * n + 1) "_law_box" p_law_box (sp_law_box K n) := by
  refine T.l_law_box.ok sc_law_box (fun vs H Q E h => ?_) (fun f cdv A outer s H vs Q E hr h => ?_)
  · obtain ⟨t, e, _, rfl, _⟩ := h
    rfl
  · obtain ⟨t, e, H0, rfl, en, T0, k⟩ := h
    refine ⟨_, (pss_cons (ps_set (i := 2) sc_law_box.nd rfl (Or.inl rfl) (pe_ix (ix_U (K := K) rfl) (pe_fx (ok_law_names (P := P) (w := w) T) hr (Nat.le_trans (m := 6) (by decide) (Nat.le_add_right 6 _)) (pa_cons (pv 0) (pa_cons pe_int pa_nil))) pe_int (fun _ _ => rfl)))
      (pss_cons (ps_set (i := 3) sc_law_box.nd rfl (Or.inl rfl) (pe_fx (ok_law_sets (P := P) (w := w) T) hr (Nat.le_trans (m := 6) (by decide) (Nat.le_add_right 6 _)) (pa_cons (pv 0) pa_nil)))
      (pss_cons (ps_set (i := 4) sc_law_box.nd rfl (Or.inl rfl) (pe_fx (ok_law_hands (P := P) (w := w) T) hr (Nat.le_trans (m := 6) (by decide) (Nat.le_add_right 6 _)) (pa_cons (pv 0) pa_nil)))
      (pss_cons (ps_set (i := 5) sc_law_box.nd rfl (Or.inl rfl) (pe_tup pa_nil))
      (C8.pss_cut (ps_if (PW.pt (pw_and (pt_cmpR op_gt (pv 1) pe_int (nomark _)) (pw_and1 (pt_cmpR (op_eqU (K := K) rfl (u64 hr)) (pe_fx (ok_law_draw (P := P) (w := w) T) hr (Nat.le_trans (m := 6) (by decide) (Nat.le_add_right 6 _)) (pa_cons (pv 0) (pa_cons pe_int pa_nil))) pe_int (nomark _))))) (pss_one (ps_set (i := 5) sc_law_box.nd rfl (Or.inl rfl) (pe_fx R hr (Nat.le_refl _) (pa_cons (pv 0) (pa_cons (pe_op op_sub (pv 1) pe_int) pa_nil))))) pss_nil)
      (pss_one (ps_ret (pe_tup (pa_cons (pv 2) (pa_cons (pv 3) (pa_cons (pv 4) (pa_cons (pv 5) pa_nil)))))))))))), ?_⟩
    walk_at "go"
    refine ⟨t, 1, H0, rfl, T0, by decide, by decide, fun q ns H1 n1 f1 T1 L1 ln pn => ?_⟩
    obtain ⟨g, hg⟩ : ∃ g, ns[0]? = some g := ⟨_, List.getElem?_eq_getElem (by rw [ln]; decide)⟩
    have pg := pn g (List.mem_of_getElem? hg)
    walk_at "go"
    refine L1.ix 0 (by rw [List.getElem?_map, hg]; rfl) fun gv dg => ?_
    cases dg.of_str
    walk_at "go"
    refine ⟨t, H0, rfl, T1, fun sv s2 H2 f2 T2 d2 o2 => ?_⟩
    walk_at "go"
    refine ⟨t, H0, rfl, T2, fun hv hd H3 f3 T3 d3 o3 => ?_⟩
    walk_at "go"
    refine mkT (K := K) .nil fun p4 H4 n4 f4 d4 => ?_
    have T4 := T3.fr f4
    have f04 : Fr [t] H H4 := ((f1.trans f2).trans f3).trans (f4.mono (by simp))
    have d2' := (d2.mono (T2.tu f3)).mono f4.tu
    have d3' := d3.mono f4.tu
    walk_at "go"
    refine w_cut (fun σ' H' => Fr [t] H4 H' ∧ Tape K H0 H' t ∧ ∃ (iv : V) (u : Bt), σ' = [some (.ref t), some (.int e), some (.str g), some sv, some hv, some iv] ∧ Dt K H' iv u.d ∧ u.lab ∧ u.apart ∧ u.fine ∧ u.deep ≤ e ∧ u.cnt ≤ capI e) ?_ ?_
    · walk_at "go"
      cases e with
      | zero =>
        refine ite_d (fun h0 => absurd h0 (by decide)) (fun _ => ?_)
        walk_at "go"
        exact ⟨Fr.refl, T4, _, .nil, rfl, d4, trivial, trivial, trivial, Nat.le_refl _, Nat.le_refl _⟩
      | succ e =>
        refine ite_d (fun _ => ?_) (fun h0 => absurd (by omega) h0)
        walk_at "go"
        refine ⟨t, 2, H0, rfl, T4, by decide, by decide, fun r5 H5 a5 b5 f5 T5 => ?_⟩
        walk_at "go"
        refine ite_d (fun h0 => ?_) (fun h0 => ?_)
        · walk_at "go"
          refine ⟨t, e, H0, by rw [show ((e + 1 : Nat) : Int) - 1 = e by omega]; rfl, ⟨by omega, by omega⟩, T5, fun iv u H6 f6 T6 d6 l6 a6 g6 e6 c6 => ?_⟩
          walk_at "go"
          exact ⟨f5.trans f6, T6, iv, u, rfl, d6, l6, a6, g6, e6, c6⟩
        · walk_at "go"
          exact ⟨f5, T5, _, .nil, rfl, d4.mono (T4.tu f5), trivial, trivial, trivial, Nat.zero_le _, Nat.zero_le _⟩
    · rintro σ' H5 ⟨f5, T5, iv, u, rfl, d5, l5, a5, g5, e5, c5⟩
      have tu := T4.tu f5
      walk_at "go"
      refine mkT (K := K) (.cons (.str g) (.cons (d2'.mono tu) (.cons (d3'.mono tu) (.cons d5 .nil)))) fun p6 H6 n6 f6 d6 => ?_
      exact k _ ⟨g, s2, hd, u⟩ H6 ((f04.trans f5).trans (f6.mono (by simp))) (T5.fr f6) d6 ⟨pool12_ok g pg, o2, o3⟩ l5 a5 g5 e5 c5
theorem ok_law_row (T : Env K mg) : ∀ n, Fx P w K mg base (6 + 2 * n) "_law_row" p_law_row (sp_law_row K n)
  | 0 => T.l_law_row.ok (k := 6 - 1) sc_law_row (fun vs H Q E h => by
      obtain ⟨t, e, _, _, h, _⟩ := h
      exact absurd h.1 (Nat.not_lt_zero _)) (fun f cdv A outer s H vs Q E hr h => by
      obtain ⟨t, e, _, _, h, _⟩ := h
      exact absurd h.1 (Nat.not_lt_zero _))
  | n + 1 => by
    have R := ok_law_row T n
    have B := ok_law_box T R
    show Fx P w K mg base (6 + (2 * n + 1) + 1) "_law_row" p_law_row (sp_law_row K (n + 1))
    refine T.l_law_row.ok sc_law_row (fun vs H Q E h => ?_) (fun f cdv A outer s H vs Q E hr h => ?_)
    · obtain ⟨t, e, _, rfl, _⟩ := h
      rfl
    · obtain ⟨t, e, H0, rfl, en, T0, k⟩ := h
      refine ⟨_, (pss_cons (ps_set (i := 2) sc_law_row.nd rfl (Or.inl rfl) (pe_fx (ok_law_draw (P := P) (w := w) T) hr (Nat.le_trans (m := 6) (by decide) (Nat.le_add_right 6 _)) (pa_cons (pv 0) (pa_cons (pe_op (op_addU (K := K) rfl) pe_int (pv 1)) pa_nil))))
      (C8.pss_cut (ps_if (pt_cmpR (op_eqU (K := K) rfl (u64 hr)) (pv 1) pe_int (nomark _)) (pss_one (ps_set (i := 2) sc_law_row.nd rfl (Or.inl rfl) (pe_ix (ix_U (K := K) rfl) (pe_lst (pa_cons pe_int (pa_cons pe_int (pa_cons pe_int (pa_cons pe_int (pa_cons pe_int (pa_cons pe_int (pa_cons pe_int (pa_cons pe_int pa_nil))))))))) (pe_fx (ok_law_draw (P := P) (w := w) T) hr (Nat.le_trans (m := 6) (by decide) (Nat.le_add_right 6 _)) (pa_cons (pv 0) (pa_cons pe_int pa_nil))) (fun _ _ => rfl)))) pss_nil)
      (pss_cons (ps_set (i := 3) sc_law_row.nd rfl (Or.inl rfl) (pe_lst pa_nil))
      (pss_cons (ps_for PassesOwn.never rfl (pi_range1 rfl T.m_range (pa_cons (pv 2) pa_nil)) (pg_name (i := 4) sc_law_row.nd rfl (Or.inl rfl)) (pss_cons (ps_set (i := 5) sc_law_row.nd rfl (Or.inl rfl) (pe_fx (ok_law_label (P := P) (w := w) T) hr (Nat.le_trans (m := 6) (by decide) (Nat.le_add_right 6 _)) (pa_cons (pv 0) pa_nil)))
      (pss_one (ps_if (pt_cmpR (op_ninU (K := K) rfl (u65 hr)) (pv 5) (pe_lc (own := [("_law_one", 6)]) (g := (gName 6)) (tt := tYes) rfl sc_law_row.nd (pi_listU (K := K) rfl (pv 3)) (blkOk_by (N := N_law_row) (sc := defScope s_law_row) (by decide +kernel)) (fun _ _ _ _ _ => (pg_name (i := 6) sc_law_row.nd rfl (Or.inl rfl))) (fun _ _ _ _ _ => pts_nil) (fun _ _ _ _ _ => (pe_ix (ix_U (K := K) rfl) (pv 6) pe_int (fun _ _ => rfl)))) (by rfl)) (pss_one (ps_expr (pe_bm PySem.F.plainAttrs_list PySem.F.slot_list_append PySem.F.type_list_append mt_append (pv 3) (pa_cons (pe_tup (pa_cons (pv 5) (pa_cons (pe_fx B hr (Nat.le_refl _) (pa_cons (pv 0) (pa_cons (pv 1) pa_nil))) pa_nil))) pa_nil)))) pss_nil))))
      (pss_one (ps_ret (pe_callTy (call_tupleU (K := K) rfl) (by rfl) T.m_tuple (by decide +kernel) (pa_cons (pv 3) pa_nil)))))))), ?_⟩
      walk_at "go"
      refine ⟨t, _, H0, rfl, T0, by omega, by omega, fun r1 H1 a1 b1 f1 T1 => ?_⟩
      walk_at "go"
      refine w_cut (fun σ' H' => Fr [t] H H' ∧ Tape K H0 H' t ∧ ∃ (m : Int) (v3 v4 v5 v6 : Option V), σ' = [some (.ref t), some (.int e), some (.int m), v3, v4, v5, v6] ∧ 0 ≤ m ∧ m ≤ 7) ?_ ?_
      · walk_at "go"
        refine ite_d (fun h0 => ?_) (fun h0 => ?_)
        · walk_at "go"
          refine mkL (K := K) (.cons (.int 0) (.cons (.int 1) (.cons (.int 2) (.cons (.int 3) (.cons (.int 3) (.cons (.int 4) (.cons (.int 5) (.cons (.int 7) .nil)))))))) fun l H2 n2 f2 L2' => ?_
          have T2 := T1.fr f2
          walk_at "go"
          refine ⟨t, 8, H0, rfl, T2, by decide, by decide, fun r3 H3 a3 b3 f3 T3 => ?_⟩
          have L3 := L2'.fr f3 (by simpa using T1.ne n2) (T2.tu f3)
          walk_at "go"
          refine L3.at (P := fun d => ∃ i : Int, d = .int i ∧ 0 ≤ i ∧ i ≤ 7) (by
            intro d hd
            simp only [List.mem_cons, List.not_mem_nil, or_false] at hd
            rcases hd with rfl | rfl | rfl | rfl | rfl | rfl | rfl | rfl <;> exact ⟨_, rfl, by decide, by decide⟩) a3 (by simpa using b3) fun nv nd dn gn _ => ?_
          obtain ⟨m, rfl, m0, m1⟩ := gn
          cases dn.of_int
          walk_at "go"
          exact ⟨(f1.trans (f2.mono (by simp))).trans f3, T3, m, _, _, _, _, rfl, m0, m1⟩
        · walk_at "go"
          exact ⟨f1, T1, r1, _, _, _, _, rfl, a1, by omega⟩
      · rintro σ' H2 ⟨f2, T2, m, v3, v4, v5, v6, rfl, m0, m1⟩
        walk_at "go"
        refine mkL (K := K) .nil fun rl H3 n3 f3 L3 => ?_
        have T3 := T2.fr f3
        have nr := T2.ne n3
        have nr0 := T2.no n3
        have n3' : H rl = none := f2.free1' n3 nr
        walk_at "go"
        refine F_R1 m.toNat rfl (by omega) (by omega) (fun j σ H' => Fr [t] H H' ∧ Tape K H0 H' t ∧ ∃ (xs : List (PyData × Bb)) (v4 v5 v6 : Option V), σ = [some (.ref t), some (.int e), some (.int m), some (.ref rl), v4, v5, v6] ∧ Lq K H' rl (xs.map rowB) ∧ xs.length ≤ j ∧ LabR xs ∧ (∀ p ∈ xs, BoxFine p.2 ∧ p.2.inner.fine ∧ p.2.inner.apart ∧ p.2.inner.deep ≤ e ∧ p.2.inner.cnt ≤ capI e) ∧ xs.Pairwise (fun p q => q.1 ≠ p.1)) ⟨f2.trans (f3.mono (by simp)), T3, [], _, _, _, rfl, L3, Nat.le_refl _, (fun p hp => by cases hp), (fun p hp => by cases hp), .nil⟩ ?_ ?_
        · rintro j σ H4 hj ⟨f4, T4, xs, v4, v5, v6, rfl, L4, lx, lab, ox, ax⟩
          walk_at "go"
          refine ⟨t, H0, rfl, T4, fun lv ld H5 f5 T5 d5 g5 => ?_⟩
          have L5 := L4.fr f5 (by simpa using nr) (T4.tu f5)
          walk_at "go"
          refine LCX_L (K := K) (cs := xs) (dS := rowB) (fun _ => true) (fun p => p.1) L5 (by omega) ?_ fun D H6 n6 f6 L6 => ?_
          · intro c x H' KEEP DROP hc f' dx hk _
            walk_at "go"
            refine Dt.ix 0 dx rfl fun u0 d0 => ?_
            exact hk rfl _ _ Fr.refl d0
          · rw [List.filter_eq_self.mpr (fun _ _ => rfl)] at L6
            have d6 := d5.mono f6.tu
            have L56 := L5.fr0 f6
            have T6 := T5.fr f6
            refine L6.nin d6 g5.good.shaped (shaped_list (n := 2) (by decide) fun d hd => ?_) ?_
            · obtain ⟨p, hp, rfl⟩ := List.mem_map.mp hd
              exact (lab p hp).1.good
            walk_at "go"
            have f46 : Fr [t] H H6 := (f4.trans f5).trans (f6.mono (by simp))
            cases han : (List.map (fun p : PyData × Bb => p.1) xs).any (fun z => PyData.eqv z ld) with
            | true =>
              walk_at "go"
              exact ⟨f46, T6, xs, _, _, _, rfl, L56, by omega, lab, ox, ax⟩
            | false =>
              have fresh : ∀ p ∈ xs, ld ≠ p.1 := fun p hp he => by
                rw [List.any_eq_false] at han
                refine absurd ?_ (han p.1 (List.mem_map.mpr ⟨p, hp, rfl⟩))
                rw [← he]
                exact g5.refl
              walk_at "go"
              refine ⟨L56.ty, ?_⟩
              walk_at "go"
              refine ⟨t, e, H0, rfl, ⟨by omega, by omega⟩, T6, fun bv b H7 f7 T7 d7 o7 l7 a7 g7 e7 c7 => ?_⟩
              walk_at "go"
              refine mkT (K := K) (.cons (d6.mono (T6.tu f7)) (.cons d7 .nil)) fun p8 H8 n8 f8 d8 => ?_
              have f68 : Fr [t] H6 H8 := f7.trans (f8.mono (by simp))
              walk_at "go"
              refine (L56.fr f68 (by simpa using nr) (T6.tu f68)).app (d := rowB (ld, b)) d8 (by rw [List.length_map]; omega) fun H9 f9 tu9 L9 => ?_
              refine ⟨Fr.drop1 n3' (f46.trans f68) f9, (T7.fr f8).fr1 f9 nr nr0, xs ++ [(ld, b)], _, _, _, rfl, by rw [List.map_append]; exact L9, by rw [List.length_append]; exact Nat.succ_le_succ lx, lab.append (LabR.cons ⟨g5, l7⟩ (fun p hp => by cases hp)), ?_, ?_⟩
              · intro p hp
                rcases List.mem_append.mp hp with z | z
                · exact ox p z
                · rw [List.mem_singleton.mp z]
                  exact ⟨o7, g7, a7, e7, c7⟩
              · rw [List.pairwise_append]
                refine ⟨ax, List.pairwise_singleton _ _, fun p hp q hq => ?_⟩
                rw [List.mem_singleton.mp hq]
                exact fresh p hp
        · rintro σ H4 ⟨f4, T4, xs, v4, v5, v6, rfl, L4, lx, lab, ox, ax⟩
          walk_at "go"
          refine L4.tuple fun p H5 f5 d5 => ?_
          have hc : (Bt.of xs).cnt ≤ xs.length * (1 + capI e) := Bt.cnt_of fun p hp => (ox p hp).2.2.2.2
          have hc2 : xs.length * (1 + capI e) ≤ 7 * (1 + capI e) := Nat.mul_le_mul_right _ (by omega)
          refine k _ (Bt.of xs) H5 (f4.trans (f5.mono (by simp))) (T4.fr f5) (by rw [Bt.d_of]; exact d5) (Bt.lab_of lab) (Bt.apart_of ax fun p hp => (ox p hp).2.2.1) (Bt.fine_of fun p hp => ⟨(ox p hp).1, (ox p hp).2.1⟩) (Bt.deep_of fun p hp => by have := (ox p hp).2.2.2.1; omega) (by show _ ≤ 7 * (1 + capI e); omega)
end

/-! ### deeds that can't be done -/
theorem pigeon {α : Type} {f : Nat → α} (inj : ∀ i j, f i = f j → i = j) : ∀ (n : Nat) (xs : List α), (∀ j, j < n → f j ∈ xs) → n ≤ xs.length
  | 0, _, _ => Nat.zero_le _
  | n + 1, xs, h => by
    obtain ⟨as, bs, rfl⟩ := List.append_of_mem (h n (Nat.lt_succ_self n))
    have z := pigeon inj n (as ++ bs) fun j hj => by
      rcases List.mem_append.mp (h j (Nat.lt_succ_of_lt hj)) with m | m
      · exact List.mem_append_left _ m
      · rcases List.mem_cons.mp m with e | m
        · exact absurd (inj _ _ e) (Nat.ne_of_lt hj)
        · exact List.mem_append_right _ m
    rw [List.length_append] at z
    rw [List.length_append, List.length_cons]
    omega
theorem place_here {xs : List (PyData × Bb)} (ax : xs.Pairwise (fun p q => q.1 ≠ p.1)) (lx : LabR xs) {i : Nat} {p : PyData × Bb} (h : xs[i]? = some p) : placeR xs p.1 = some i := by
  obtain ⟨hi, e⟩ := List.getElem?_eq_some_iff.mp h
  refine List.findIdx?_eq_some_iff_getElem.mpr ⟨hi, by rw [e]; exact (lx p (List.mem_of_getElem? h)).1.refl, fun j hj => ?_⟩
  have hj' : j < xs.length := by omega
  have n := List.pairwise_iff_getElem.mp ax j i hj' hi hj
  rw [(lx xs[j] (List.getElem_mem hj')).1.ne (lx p (List.mem_of_getElem? h)).1 (by rw [← e]; exact fun z => n z.symm)]
  exact Bool.false_ne_true
theorem place_none {xs : List (PyData × Bb)} (lx : LabR xs) {l : PyData} (ll : Lab l) (h : ∀ p ∈ xs, p.1 ≠ l) : placeR xs l = none := placeR_none.mpr fun p hp => (lx p hp).1.ne ll (h p hp)
theorem place_first {xs : List (PyData × Bb)} {l : PyData} : ∀ {k : Nat} {p : PyData × Bb}, placeR xs l = some k → xs[k]? = some p → ∃ r, xs.filter (fun p => PyData.eqv p.1 l) = p :: r := by
  induction xs with
  | nil => intro k p h; cases h
  | cons x r ih =>
    intro k p h hp
    cases z : PyData.eqv x.1 l with
    | true =>
      rw [placeR, List.findIdx?_cons, z] at h
      cases h
      cases hp
      exact ⟨_, List.filter_cons_of_pos (by exact z)⟩
    | false =>
      rw [placeR, List.findIdx?_cons, z] at h
      simp only [Bool.false_eq_true, if_false] at h
      obtain ⟨j, hj, rfl⟩ := Option.map_eq_some_iff.mp h
      rw [List.filter_cons_of_neg (by rw [z]; exact Bool.false_ne_true)]
      exact ih hj hp
theorem atB_append : ∀ {as : List PyData} {b : Bb} {bs : List PyData}, atB b (as ++ bs) = (atB b as).bind fun c => atB c bs
  | [], b, bs => rfl
  | l :: r, b, bs => by
    rw [List.cons_append, atB, atB]
    cases placeR b.inner.rows l with
    | none => rfl
    | some k =>
      show (match b.inner.rows[k]? with | none => none | some p => atB p.2 (r ++ bs)) = _
      cases e : b.inner.rows[k]? with
      | none => simp [e]
      | some p =>
        simp only [e]
        exact atB_append
/-- a box that is there is right -/
theorem atB_fine : ∀ {ls : List PyData} {b c : Bb}, BoxFine b → b.inner.fine → atB b ls = some c → BoxFine c ∧ c.inner.fine
  | [], b, c, o, f, h => by
    rw [atB] at h
    cases h
    exact ⟨o, f⟩
  | l :: r, b, c, o, f, h => by
    rw [atB] at h
    split at h
    · cases h
    · split at h
      · cases h
      · rename_i p hp
        obtain ⟨h1, h2⟩ := Bt.fine_rows f p (List.mem_of_getElem? hp)
        exact atB_fine h1 h2 h
theorem atB_apart : ∀ {ls : List PyData} {b c : Bb}, b.inner.apart → atB b ls = some c → c.inner.apart
  | [], b, c, o, h => by
    rw [atB] at h
    cases h
    exact o
  | l :: r, b, c, o, h => by
    rw [atB] at h
    split at h
    · cases h
    · split at h
      · cases h
      · rename_i p hp
        exact atB_apart ((Bt.apart_rows o).2 p (List.mem_of_getElem? hp)) h
theorem root_fine (t : Bt) : BoxFine (rootB t) := ⟨by show PyData.strOk ("" : Str) = true; decide +kernel, ⟨Nat.zero_le _, fun q h => by cases h⟩, ⟨rfl, by show (1 : Nat) ≤ 4; decide⟩⟩
/-- an address of a box or of the whole tree, as the law finds it -/
structure There (t : Bt) (ls : List PyData) (b : Bb) : Prop where
  lab : t.lab
  apart : t.apart
  fine : t.fine
  cnt : t.cnt ≤ 700
  la : ∀ l ∈ ls, Lab l
  len : ls.length ≤ 20
  at_ : atB (rootB t) ls = some b
def BadD (t : Bt) (d : Deed) : Prop := DeedOk t d ∧ turnedT t d = none
section
variable {t : Bt} {ls : List PyData} {b : Bb} {o : PyData}
theorem turned_norow {d : Deed} (h : d.ofRow = true) (n : atB (rootB t) d.a = none) : turnedT t d = none := by
  rw [turnedT, if_pos h, rowT, n]
  rfl
theorem turned_nobox {d : Deed} (h : d.ofRow = false) (n : boxT t d.a = none) : turnedT t d = none := by
  rw [turnedT, if_neg (by rw [h]; exact Bool.false_ne_true), n]
theorem turned_badrow {d : Deed} {c : Bb} (h : d.ofRow = true) (e : atB (rootB t) d.a = some c) (n : trowR c.inner.rows d = none) : turnedT t d = none := by
  rw [turnedT, if_pos h, rowT, e]
  simp only [Option.map_some, n]
theorem There.rlab (T : There t ls b) : LabR b.inner.rows := Bt.lab_rows (atB_lab (b := rootB t) T.lab T.at_)
theorem There.rap (T : There t ls b) : b.inner.rows.Pairwise (fun p q => q.1 ≠ p.1) := (Bt.apart_rows (atB_apart (b := rootB t) T.apart T.at_)).1
theorem There.bfine (T : There t ls b) : BoxFine b := (atB_fine (b := rootB t) (root_fine t) T.fine T.at_).1
theorem There.far (T : There t ls b) (ol : Lab o) (h : ∀ p ∈ b.inner.rows, p.1 ≠ o) : atB (rootB t) (ls ++ [o]) = none := by
  rw [atB_append, T.at_]
  exact atB_none (place_none T.rlab ol h)
theorem lab_snoc (T : There t ls b) (ol : Lab o) : ∀ l ∈ ls ++ [o], Lab l := fun l hl => by
  rcases List.mem_append.mp hl with hl | hl
  · exact T.la l hl
  · rw [List.mem_singleton.mp hl]; exact ol
theorem T.nil_box : boxT t [] = none := rfl
theorem okD (T : There t ls b) {d : Deed} (h1 : ∀ a n x c, d = .set a n x → boxT t a = some c → c.s = []) (h2 : ∀ a n c, d = .unset a n → boxT t a = some c → c.s.length ≤ 1000) (hl : d.lab) (ha : d.a.length < 30) : DeedOk t d := ⟨h1, h2, hl, ha, T.lab, Nat.le_trans T.cnt (by decide)⟩
theorem okRow (T : There t ls b) {d : Deed} (h : d.ofRow = true) (hl : d.lab) (ha : d.a.length < 30) : DeedOk t d := okD T (fun a n x c e _ => by rw [e] at h; cases h) (fun a n c e _ => by rw [e] at h; cases h) hl ha
theorem bad1 (T : There t ls b) (ol : Lab o) (h : ∀ p ∈ b.inner.rows, p.1 ≠ o) (g : Str) : BadD t (.put (ls ++ [o]) 0 o g) :=
  ⟨okRow T rfl ⟨lab_snoc T ol, ol⟩ (by have := T.len; show (ls ++ [o]).length < 30; rw [List.length_append]; show _ + 1 < 30; omega), turned_norow rfl (T.far ol h)⟩
theorem bad2 (T : There t ls b) (ol : Lab o) (h : ∀ p ∈ b.inner.rows, p.1 ≠ o) : BadD t (.take (ls ++ [o]) o) :=
  ⟨okRow T rfl ⟨lab_snoc T ol, ol⟩ (by have := T.len; show (ls ++ [o]).length < 30; rw [List.length_append]; show _ + 1 < 30; omega), turned_norow rfl (T.far ol h)⟩
theorem box_far (T : There t ls b) (ol : Lab o) (h : ∀ p ∈ b.inner.rows, p.1 ≠ o) : boxT t (ls ++ [o]) = none := by
  rw [boxT]
  split
  · rfl
  · exact T.far ol h
theorem bad3 (T : There t ls b) (ol : Lab o) (h : ∀ p ∈ b.inner.rows, p.1 ≠ o) (n : Str) (x : Int) : BadD t (.set (ls ++ [o]) n x) := by
  refine ⟨okD T (fun a n x c e hb => ?_) (fun a n c e _ => by cases e) (lab_snoc T ol) (by have := T.len; show (ls ++ [o]).length < 30; rw [List.length_append]; show _ + 1 < 30; omega), turned_nobox rfl (box_far T ol h)⟩
  cases e
  rw [box_far T ol h] at hb
  cases hb
theorem bad4 (T : There t ls b) {o2 : PyData} (o2l : Lab o2) (h2 : ∀ p ∈ t.rows, p.1 ≠ o2) (ol : Lab o) (g : Str) : BadD t (.put (o2 :: ls) 0 o g) :=
  ⟨okRow T rfl ⟨fun l hl => (List.mem_cons.mp hl).elim (fun e => by rw [e]; exact o2l) (T.la l), ol⟩ (by have := T.len; show ls.length + 1 < 30; omega), turned_norow rfl (atB_none (b := rootB t) (place_none (Bt.lab_rows T.lab) o2l h2))⟩
theorem here_len (T : There t ls b) : ls.length < 30 := by have := T.len; omega
theorem bad5 (T : There t ls b) (ol : Lab o) (h : ∀ p ∈ b.inner.rows, p.1 ≠ o) {p : Int} (hp : ¬ (0 ≤ p ∧ p ≤ (b.inner.rows.length : Int))) (g : Str) : BadD t (.put ls p o g) :=
  ⟨okRow T rfl ⟨T.la, ol⟩ (here_len T), turned_badrow rfl T.at_ (by rw [trowR, place_none T.rlab ol h]; exact if_neg hp)⟩
theorem bad6 (T : There t ls b) (ol : Lab o) (h : ∀ p ∈ b.inner.rows, p.1 ≠ o) : BadD t (.take ls o) :=
  ⟨okRow T rfl ⟨T.la, ol⟩ (here_len T), turned_badrow rfl T.at_ (by rw [trowR, place_none T.rlab ol h])⟩
theorem bad7 (T : There t ls b) (ol : Lab o) (h : ∀ p ∈ b.inner.rows, p.1 ≠ o) (p : Int) : BadD t (.move ls o p) :=
  ⟨okRow T rfl ⟨T.la, ol⟩ (here_len T), turned_badrow rfl T.at_ (by rw [trowR, place_none T.rlab ol h])⟩
theorem bad8 (T : There t ls b) {n : Str} (hn : n ∉ pool12) : BadD t (.unset ls n) := by
  have hb : ∀ c, boxT t ls = some c → c = b := fun c h => by
    rw [boxT] at h
    split at h
    · cases h
    · rw [T.at_] at h
      exact (Option.some.inj h).symm
  refine ⟨okD T (fun a n x c e _ => by cases e) (fun a m c e h => ?_) T.la (here_len T), ?_⟩
  · cases e
    rw [hb c h]
    exact Nat.le_trans T.bfine.2.1.1 (by decide)
  · rw [turnedT, if_neg (by exact Bool.false_ne_true)]
    cases e : boxT t ls with
    | none => simp only [Deed.a, e]
    | some c =>
      have hc := hb c e
      subst hc
      have hs : othersS c.s n = c.s := List.filter_eq_self.mpr fun q hq => by
        have z : q.1 ≠ n := fun z => hn (by rw [← z]; exact T.bfine.2.1.2 q hq)
        simp [z]
      simp only [Deed.a, e, tboxB, hs, if_pos]
theorem bad9 (T : There t ls b) (n : Str) (x : Int) : BadD t (.set [] n x) := by
  refine ⟨okD T (fun a n x c e hb => ?_) (fun a n c e _ => by cases e) (fun l hl => by cases hl) (by show 0 < 30; decide), turned_nobox rfl rfl⟩
  cases e
  cases hb
theorem bad10 (T : There t ls b) (n : Str) : BadD t (.unset [] n) := by
  refine ⟨okD T (fun a n x c e _ => by cases e) (fun a n c e hb => ?_) (fun l hl => by cases hl) (by show 0 < 30; decide), turned_nobox rfl rfl⟩
  cases e
  cases hb
theorem bad11 (T : There t ls b) (h : PyData) : BadD t (.hands [] h) := 
  ⟨okD T (fun a n x c e _ => by cases e) (fun a n c e hb => by cases e) (fun l hl => by cases hl) (by show 0 < 30; decide), turned_nobox rfl rfl⟩
theorem bad12 (T : There t ls b) {p : PyData × Bb} (hp : p ∈ b.inner.rows) (x : Int) (g : Str) : BadD t (.put ls x p.1 g) := by
  obtain ⟨i, hi, rfl⟩ := List.getElem_of_mem hp
  exact ⟨okRow T rfl ⟨T.la, (T.rlab _ hp).1⟩ (here_len T), turned_badrow rfl T.at_ (by rw [trowR, place_here T.rap T.rlab (List.getElem?_eq_getElem hi)])⟩
theorem bad13 (T : There t ls b) {p : PyData × Bb} (hp : p ∈ b.inner.rows) {x : Int} (hx : ¬ (0 ≤ x ∧ x ≤ (b.inner.rows.length : Int) - 1)) : BadD t (.move ls p.1 x) := by
  obtain ⟨i, hi, rfl⟩ := List.getElem_of_mem hp
  refine ⟨okRow T rfl ⟨T.la, (T.rlab _ hp).1⟩ (here_len T), turned_badrow rfl T.at_ ?_⟩
  rw [trowR, place_here T.rap T.rlab (List.getElem?_eq_getElem hi)]
  show (match b.inner.rows[i]? with | none => none | some x_1 => _) = none
  rw [List.getElem?_eq_getElem hi]
  refine if_neg fun h => hx ⟨h.1, ?_⟩
  have h2 := h.2
  rw [List.length_append, List.length_take, List.length_drop] at h2
  omega
end
/-! ### deeds that lead back -/
theorem ledT_append : ∀ {xs : List Deed} {t : Bt} {ys : List Deed} {k : Nat}, ledT t (xs ++ ys) k = match ledT t xs k with | .ok u => ledT u ys (k + xs.length) | .error e => .error e
  | [], t, ys, k => rfl
  | d :: r, t, ys, k => by
    rw [List.cons_append, ledT, ledT]
    cases turnedT t d with
    | none => rfl
    | some u =>
      show ledT u (r ++ ys) (k + 1) = _
      rw [ledT_append]
      show (match ledT u r (k + 1) with | .ok u => ledT u ys (k + 1 + r.length) | .error e => .error e) = (match ledT u r (k + 1) with | .ok u => ledT u ys (k + (r.length + 1)) | .error e => .error e)
      rw [show k + 1 + r.length = k + (r.length + 1) by omega]
theorem LedOk.append : ∀ {xs : List Deed} {t : Bt} {ys : List Deed} (k : Nat), LedOk t xs → (∀ u, ledT t xs k = .ok u → LedOk u ys) → LedOk t (xs ++ ys)
  | [], t, ys, k, _, h => h t rfl
  | d :: r, t, ys, k, o, h => ⟨o.1, fun u hu => LedOk.append (k + 1) (o.2 u hu) fun z hz => h z (by rw [ledT, hu]; exact hz)⟩
def aheadD (o : PyData) : List Deed := [.put [] 0 o "a", .set [o] "b" 5, .take [] o]
section
variable {t : Bt} {o : PyData} (lt : t.lab) (ol : Lab o) (h : ∀ p ∈ t.rows, p.1 ≠ o)
def t1 (t : Bt) (o : PyData) : Bt := Bt.of ((o, ⟨"a", [], .tuple [], .nil⟩) :: t.rows)
def t2 (t : Bt) (o : PyData) : Bt := Bt.of ((o, ⟨"a", [("b", 5)], .tuple [], .nil⟩) :: t.rows)
include lt ol h
theorem led1 : turnedT t (.put [] 0 o "a") = some (t1 t o) := by
  rw [turnedT, if_pos (show (Deed.put [] 0 o "a").ofRow = true from rfl)]
  show (match trowR t.rows (.put [] 0 o "a") with | none => none | some xs => wrowT t [] (Bt.of xs)) = _
  rw [trowR, place_none (Bt.lab_rows lt) ol h]
  show (match (if (0 : Int) ≤ 0 ∧ (0 : Int) ≤ (t.rows.length : Int) then some ((t.rows.take 0) ++ (o, (⟨"a", [], .tuple [], .nil⟩ : Bb)) :: t.rows.drop 0) else none) with | none => none | some xs => wrowT t [] (Bt.of xs)) = _
  rw [if_pos ⟨by decide, by omega⟩]
  rfl
theorem place1 (b : Bb) : placeR ((o, b) :: t.rows) o = some 0 := by
  rw [placeR, List.findIdx?_cons, ol.refl]
  rfl
theorem led2 : turnedT (t1 t o) (.set [o] "b" 5) = some (t2 t o) := by
  have e : (t1 t o).rows = (o, ⟨"a", [], .tuple [], .nil⟩) :: t.rows := Bt.rows_of _
  rw [turnedT, if_neg (by exact Bool.false_ne_true)]
  have hb : boxT (t1 t o) [o] = some ⟨"a", [], .tuple [], .nil⟩ := by
    show atB (rootB (t1 t o)) [o] = _
    rw [atB_cons (b := rootB (t1 t o)) (k := 0) (p := (o, ⟨"a", [], .tuple [], .nil⟩)) (by show placeR (t1 t o).rows o = _; rw [e]; exact place1 lt ol h _) (by show (t1 t o).rows[0]? = _; rw [e]; rfl)]
    rfl
  show (match boxT (t1 t o) [o] with | none => none | some b => _) = _
  rw [hb]
  show some (putT (t1 t o) [o] _) = _
  rw [putT_cons (k := 0) (p := (o, ⟨"a", [], .tuple [], .nil⟩)) (by rw [e]; exact place1 lt ol h _) (by rw [e]; rfl), e]
  rfl
theorem led3 : turnedT (t2 t o) (.take [] o) = some t := by
  have e : (t2 t o).rows = (o, ⟨"a", [("b", 5)], .tuple [], .nil⟩) :: t.rows := Bt.rows_of _
  rw [turnedT, if_pos (show (Deed.take [] o).ofRow = true from rfl)]
  show (match trowR (t2 t o).rows (.take [] o) with | none => none | some xs => wrowT (t2 t o) [] (Bt.of xs)) = _
  rw [e, trowR, place1 lt ol h]
  show some (Bt.of ([] ++ t.rows)) = _
  rw [List.nil_append, Bt.of_rows]
theorem led_ahead (k : Nat) : ledT t (aheadD o) k = .ok t := by
  rw [aheadD, ledT, led1 lt ol h]
  show ledT (t1 t o) [.set [o] "b" 5, .take [] o] (k + 1) = _
  rw [ledT, led2 lt ol h]
  show ledT (t2 t o) [.take [] o] (k + 1 + 1) = _
  rw [ledT, led3 lt ol h]
  rfl
theorem ok_ahead (hc : t.cnt ≤ 700) : LedOk t (aheadD o) := by
  have c1 : (t1 t o).cnt = 1 + 0 + t.cnt := by
    show 1 + 0 + (Bt.of t.rows).cnt = _
    rw [Bt.of_rows]
  have c2 : (t2 t o).cnt = 1 + 0 + t.cnt := by
    show 1 + 0 + (Bt.of t.rows).cnt = _
    rw [Bt.of_rows]
  have l1 : (t1 t o).lab := Bt.lab_of (LabR.cons ⟨ol, trivial⟩ (Bt.lab_rows lt))
  have l2 : (t2 t o).lab := Bt.lab_of (LabR.cons ⟨ol, trivial⟩ (Bt.lab_rows lt))
  have e : (t1 t o).rows = (o, ⟨"a", [], .tuple [], .nil⟩) :: t.rows := Bt.rows_of _
  refine ⟨⟨(fun a n x c e _ => by cases e), (fun a n c e _ => by cases e), ⟨(fun l hl => by cases hl), ol⟩, by show 0 < 30; decide, lt, by omega⟩, fun u hu => ?_⟩
  rw [led1 lt ol h] at hu
  cases hu
  refine ⟨⟨fun a n x c ed hb => ?_, (fun a n c e _ => by cases e), (fun l hl => by rw [List.mem_singleton.mp hl]; exact ol), by show 1 < 30; decide, l1, by omega⟩, fun u hu => ?_⟩
  · cases ed
    have hb' : boxT (t1 t o) [o] = some ⟨"a", [], .tuple [], .nil⟩ := by
      show atB (rootB (t1 t o)) [o] = _
      rw [atB_cons (b := rootB (t1 t o)) (k := 0) (p := (o, ⟨"a", [], .tuple [], .nil⟩)) (by show placeR (t1 t o).rows o = _; rw [e]; exact place1 lt ol h _) (by show (t1 t o).rows[0]? = _; rw [e]; rfl)]
      rfl
    rw [hb'] at hb
    cases hb
    rfl
  rw [led2 lt ol h] at hu
  cases hu
  exact ⟨⟨(fun a n x c e _ => by cases e), (fun a n c e _ => by cases e), ⟨(fun l hl => by cases hl), ol⟩, by show 0 < 30; decide, l2, by omega⟩, fun _ _ => trivial⟩
end

theorem Bt.cnt_snoc : ∀ {xs : List (PyData × Bb)} {p : PyData × Bb}, (Bt.of (xs ++ [p])).cnt = (Bt.of xs).cnt + 1 + p.2.inner.cnt
  | [], p => by
    show 1 + p.2.inner.cnt + 0 = 0 + 1 + p.2.inner.cnt
    omega
  | x :: r, p => by
    have h := Bt.cnt_snoc (xs := r) (p := p)
    show 1 + x.2.inner.cnt + (Bt.of (r ++ [p])).cnt = 1 + x.2.inner.cnt + (Bt.of r).cnt + 1 + p.2.inner.cnt
    omega
theorem Bt.cnt_take : ∀ {xs : List (PyData × Bb)} (i : Nat), (Bt.of (xs.take i)).cnt ≤ (Bt.of xs).cnt
  | [], i => by rw [List.take_nil]; exact Nat.le_refl _
  | x :: r, 0 => Nat.zero_le _
  | x :: r, i + 1 => by
    have h := Bt.cnt_take (xs := r) i
    show 1 + x.2.inner.cnt + (Bt.of (r.take i)).cnt ≤ 1 + x.2.inner.cnt + (Bt.of r).cnt
    omega
/-- a box's address, behind what stands ahead -/
def AdrB (u : Bt) (pre a : List PyData) : Prop := ∃ a', a = pre ++ a' ∧ atB (rootB u) a' ≠ none ∧ (∀ l ∈ a', Lab l) ∧ a'.length ≤ u.deep
section
variable {P : Program} {w : World} {K : PySem.W.Frag} {mg : Str → Option Value} {base : Heap}
def sp_law_addresses (K : PySem.W.Frag) (n : Nat) : Sp := fun vs H Q _ => ∃ (v va : V) (u : Bt) (pre : List PyData), vs = [v, va] ∧ (u.deep < n ∧ n ≤ 10) ∧ Dt K H v u.d ∧ Dt K H va (.tuple pre) ∧ u.lab ∧ u.apart ∧ u.cnt ≤ 800 ∧ pre.length + u.deep ≤ 100 ∧
  ∀ (q : Addr) (as : List (List PyData)) (H' : Hp), H q = none → Fr [] H H' → Lq K H' q (as.map PyData.tuple) → as.length = u.cnt + 1 → (∀ a ∈ as, AdrB u pre a) → Q (.ref q) H'
theorem ok_law_addresses (T : Env K mg) : ∀ n, Fx P w K mg base (1 + n) "_law_addresses" p_law_addresses (sp_law_addresses K n)
  | 0 => T.l_law_addresses.ok (k := 1 - 1) sc_law_addresses (fun vs H Q E h => by
      obtain ⟨v, va, u, pre, _, h, _⟩ := h
      exact absurd h.1 (Nat.not_lt_zero _)) (fun f cdv A outer s H vs Q E hr h => by
      obtain ⟨v, va, u, pre, _, h, _⟩ := h
      exact absurd h.1 (Nat.not_lt_zero _))
  | n + 1 => by
    have IH := ok_law_addresses T n
    refine T.l_law_addresses.ok sc_law_addresses (fun vs H Q E h => ?_) (fun f cdv A outer s H vs Q E hr h => ?_)
    · obtain ⟨v, va, u, pre, rfl, _⟩ := h
      rfl
    · obtain ⟨v, va, u, pre, rfl, un, du, da, lu, au, cu, lp, k⟩ := h
      refine ⟨_, (pss_cons (ps_set (i := 2) sc_law_addresses.nd rfl (Or.inl rfl) (pe_lst (pa_cons (pv 1) pa_nil)))
      (pss_cons (ps_for PassesOwn.never rfl (pi_tupU (K := K) rfl (pv 0)) (pg_tupU (K := K) (n := 2) rfl rfl (pgs_cons (pg_name (i := 3) sc_law_addresses.nd rfl (Or.inl rfl)) (pgs_cons (pg_name (i := 4) sc_law_addresses.nd rfl (Or.inl rfl)) pgs_nil))) (pss_one (ps_set (i := 2) sc_law_addresses.nd rfl (Or.inl rfl) (pe_op (op_addU (K := K) rfl) (pv 2) (pe_fx (IH) hr (Nat.le_refl _) (pa_cons (pe_ix (ix_U (K := K) rfl) (pv 4) pe_int (fun _ _ => rfl)) (pa_cons (pe_op (op_addU (K := K) rfl) (pv 1) (pe_tup (pa_cons (pv 3) pa_nil))) pa_nil)))))))
      (pss_one (ps_ret (pv 2))))), ?_⟩
      have lR := Bt.lab_rows lu
      have aR := Bt.apart_rows au
      have hcu : (Bt.of u.rows).cnt = u.cnt := by rw [Bt.of_rows]
      rw [Bt.d_rows] at du
      walk_at "go"
      refine mkL (K := K) (.cons da .nil) fun q1 H1 n1 f1 L1 => ?_
      walk_at "go"
      refine (du.mono f1.tu).walk (fun i σ H' => Fr [] H H' ∧ Tu H1 H' ∧ ∃ (q : Addr) (as : List (List PyData)) (v3 v4 : Option V), σ = [some v, some va, some (.ref q), v3, v4] ∧ H q = none ∧ Lq K H' q (as.map PyData.tuple) ∧ as.length = (Bt.of (u.rows.take i)).cnt + 1 ∧ ∀ a ∈ as, AdrB u pre a) ?_ ?_ ?_ ?_
      · refine ⟨f1, Tu.refl, q1, [pre], _, _, rfl, n1, L1, rfl, fun a ha => ?_⟩
        rw [List.mem_singleton.mp ha]
        exact ⟨[], by rw [List.append_nil], (fun h => nomatch h), by simp, Nat.zero_le _⟩
      · rintro i σ H' ⟨_, z, _⟩
        exact z
      · rintro i pv d σ H2 hi dp ⟨f2, tu2, q, as, v3, v4, rfl, nq, L2', las, has⟩
        obtain ⟨p, hp, rfl⟩ := map_get hi
        have mp := List.mem_of_getElem? hp
        obtain ⟨o1, o2⟩ := lR p mp
        have de := Bt.deep_rows p mp
        have ce := Bt.cnt_rows p mp
        have ct := Bt.cnt_take (xs := u.rows) i
        rw [hcu] at ct
        have esn : (Bt.of (u.rows.take (i + 1))).cnt = (Bt.of (u.rows.take i)).cnt + 1 + p.2.inner.cnt := by
          rw [List.take_add_one, hp]
          exact Bt.cnt_snoc
        obtain ⟨a', us, rfl, sa, av⟩ := dp.tuple
        cases av with
        | cons d1 av =>
        cases av with
        | cons d2 av =>
        cases av
        refine w_gtup sa rfl ?_
        walk_at "go"
        refine Dt.ix 3 d2 rfl fun iv di => ?_
        walk_at "go"
        refine mkT (K := K) (.cons d1 .nil) fun p3 H3 n3 f3 d3 => ?_
        walk_at "go"
        refine (da.mono (f2.trans f3).tu).cat d3 (by show _ + 1 ≤ _; omega) fun p4 H4 f4 d4 => ?_
        refine ⟨iv, _, p.2.inner, pre ++ [p.1], rfl, ⟨by omega, by omega⟩, (di.mono f3.tu).mono f4.tu, d4, o2, aR.2 p mp, by omega, by rw [List.length_append]; show _ + 1 + _ ≤ _; omega, fun q5 bs H5 n5 f5 L5 lbs hbs => ?_⟩
        walk_at "go"
        have f25 := (f3.trans f4).trans f5
        refine (L2'.fr0 f25).cat L5 (by rw [List.length_map, List.length_map]; omega) fun q6 H6 n6 f6 L6 => ?_
        walk_at "go"
        refine ⟨f2.trans (f25.trans f6), tu2.trans (f25.trans f6).tu, q6, as ++ bs, _, _, rfl, (f2.trans f25).free n6, by rw [List.map_append]; exact L6, by rw [List.length_append, las, lbs, esn]; omega, fun a ha => ?_⟩
        rcases List.mem_append.mp ha with ha | ha
        · exact has a ha
        · obtain ⟨b', e, h1, h2, h3⟩ := hbs a ha
          refine ⟨p.1 :: b', by rw [e, List.append_assoc]; rfl, ?_, fun l hl => ?_, by show b'.length + 1 ≤ _; omega⟩
          · rw [atB_cons (b := rootB u) (place_here aR.1 lR hp) hp]
            cases b' with
            | nil => exact fun h => nomatch h
            | cons l r => rw [atB_root (b := p.2) rfl (by simp)]; exact h1
          · rcases List.mem_cons.mp hl with rfl | hl
            · exact o1
            · exact h2 l hl
      · rintro σ H2 ⟨f2, tu2, q, as, v3, v4, rfl, nq, L2', las, has⟩
        rw [List.length_map, List.take_length, hcu] at las
        walk_at "go"
        exact k q as H2 nq f2 L2' las has
def sp_law_box_of (K : PySem.W.Frag) : Sp := fun vs H Q _ => ∃ (v va : V) (t : Bt) (ls : List PyData) (b : Bb), vs = [v, va] ∧ Dt K H v t.d ∧ Dt K H va (.tuple ls) ∧ t.lab ∧ (∀ l ∈ ls, Lab l) ∧ t.cnt ≤ 1000 ∧ atB (rootB t) ls = some b ∧
  ∀ u H', Fr [] H H' → Dt K H' u b.d → Q u H'
theorem ok_law_box_of (T : Env K mg) : Fx P w K mg base 1 "_law_box_of" p_law_box_of (sp_law_box_of K) := by
  refine T.l_law_box_of.ok sc_law_box_of (fun vs H Q E h => ?_) (fun f cdv A outer s H vs Q E hr h => ?_)
  · obtain ⟨v, va, t, ls, b, rfl, _⟩ := h
    rfl
  · obtain ⟨v, va, t, ls, b, rfl, dv, da, lt, la, ct, eb, k⟩ := h
    refine ⟨_, (pss_cons (ps_set (i := 2) sc_law_box_of.nd rfl (Or.inl rfl) (pe_tup (pa_cons pe_str (pa_cons (pe_tup pa_nil) (pa_cons (pe_tup pa_nil) (pa_cons (pv 0) pa_nil))))))
      (pss_cons (ps_for PassesOwn.never rfl (pi_tupU (K := K) rfl (pv 1)) (pg_name (i := 3) sc_law_box_of.nd rfl (Or.inr rfl)) (pss_one (ps_set (i := 2) sc_law_box_of.nd rfl (Or.inl rfl) (pe_ix (ix_U (K := K) rfl) (pe_lc (own := [("_law_one", 4), ("_law_inner", 5)]) (g := (gTup K 2 (gCons (gName 4) (gCons (gName 5) gNil)))) rfl sc_law_box_of.nd (pi_tupU (K := K) rfl (pe_ix (ix_U (K := K) rfl) (pv 2) pe_int (fun _ _ => rfl))) (blkOk_by (N := N_law_box_of) (sc := defScope s_law_box_of) (by decide +kernel)) (fun _ _ _ _ _ => (pg_tupU (K := K) (n := 2) rfl rfl (pgs_cons (pg_name (i := 4) sc_law_box_of.nd rfl (Or.inl rfl)) (pgs_cons (pg_name (i := 5) sc_law_box_of.nd rfl (Or.inl rfl)) pgs_nil)))) (fun _ _ _ _ _ => (pts_one (pt_cmpR (op_eqU (K := K) rfl (u64 hr)) (pv 4) (pv 3) (nomark _)))) (fun _ _ _ _ _ => (pv 5))) pe_int (fun _ _ => rfl)))))
      (pss_one (ps_ret (pv 2))))), ?_⟩
    walk_at "go"
    refine mkT (K := K) .nil fun p1 H1 n1 f1 d1 => ?_
    walk_at "go"
    refine mkT (K := K) .nil fun p2 H2 n2 f2 d2 => ?_
    walk_at "go"
    refine mkT (K := K) (.cons (.str "") (.cons (d1.mono f2.tu) (.cons d2 (.cons ((dv.mono f1.tu).mono f2.tu) .nil)))) fun p3 H3 n3 f3 d3 => ?_
    have f03 := (f1.trans f2).trans f3
    walk_at "go"
    refine (da.mono f03.tu).walk (fun i σ H' => Fr [] H H' ∧ Tu H3 H' ∧ ∃ (bv : V) (c : Bb) (v3 v4 v5 : Option V), σ = [some v, some va, some bv, v3, v4, v5] ∧ Dt K H' bv c.d ∧ c.inner.lab ∧ c.inner.cnt ≤ 1000 ∧ atB c (ls.drop i) = some b) ?_ ?_ ?_ ?_
    · exact ⟨f03, Tu.refl, _, rootB t, _, _, _, rfl, d3, lt, ct, eb⟩
    · rintro i σ H' ⟨_, z, _⟩
      exact z
    · rintro i lv l σ H4 hl dl ⟨f4, tu4, bv, c, v3, v4, v5, rfl, dc, lc, cc, ec⟩
      obtain ⟨hlt, el⟩ := List.getElem?_eq_some_iff.mp hl
      have edr : ls.drop i = l :: ls.drop (i + 1) := by rw [List.drop_eq_getElem_cons hlt, el]
      rw [edr] at ec
      have ll : Lab l := la l (List.mem_of_getElem? hl)
      have lR := Bt.lab_rows lc
      have rl := Bt.rows_len c.inner
      obtain ⟨kk, hk⟩ : ∃ kk, placeR c.inner.rows l = some kk := by
        cases e : placeR c.inner.rows l with
        | none => rw [atB_none e] at ec; cases ec
        | some kk => exact ⟨kk, rfl⟩
      obtain ⟨p, ep, _⟩ := placeR_some hk
      rw [atB_cons hk ep] at ec
      obtain ⟨r, er⟩ := place_first hk ep
      have mp := List.mem_of_getElem? ep
      have cp := Bt.cnt_rows p mp
      walk_at "go"
      refine Dt.ix 3 dc rfl fun iv di => ?_
      rw [Bt.d_rows] at di
      refine LCX_T (K := K) (cs := c.inner.rows) (dS := rowB) (fun x => PyData.eqv x.1 l) (fun x => x.2.d) di (by omega) ?_ fun D H5 n5 f5 L5 => ?_
      · intro x y H' KEEP DROP hx f' dx hkp hd
        obtain ⟨a', us, rfl, sa, av⟩ := dx.tuple
        cases av with
        | cons e1 av =>
        cases av with
        | cons e2 av =>
        cases av
        refine w_gtup sa rfl ?_
        walk_at "go"
        refine w_eqD e1.dp (dl.mono f'.tu).dp (lR x hx).1.good.shaped ll.good.shaped ?_
        cases e : PyData.eqv x.1 l with
        | true =>
          walk_at "go"
          exact hkp e _ _ Fr.refl e2
        | false =>
          walk_at "go"
          exact hd e _ Fr.refl
      · rw [er, List.map_cons] at L5
        walk_at "go"
        refine L5.ix 0 rfl fun cv dcv => ?_
        exact ⟨f4.trans f5, tu4.trans f5.tu, cv, p.2, _, _, _, rfl, dcv, (lR p mp).2, by omega, ec⟩
    · rintro σ H4 ⟨f4, tu4, bv, c, v3, v4, v5, rfl, dc, lc, cc, ec⟩
      rw [List.drop_length, atB] at ec
      cases ec
      walk_at "go"
      exact k bv H4 f4 dc
def cand : Nat → PyData
  | 0 => .tuple [.tuple [.none, .int 0]]
  | k + 1 => .tuple [.tuple [.int 7, .int k]]
theorem cand_lab : ∀ k, Lab (cand k)
  | 0 => ⟨_, rfl, fun s hs => by rw [List.mem_singleton.mp hs]; exact ⟨_, _, rfl, .inl rfl⟩⟩
  | k + 1 => ⟨_, rfl, fun s hs => by rw [List.mem_singleton.mp hs]; exact ⟨_, _, rfl, .inr ⟨_, rfl⟩⟩⟩
theorem cand_inj : ∀ i j, cand i = cand j → i = j
  | 0, 0, _ => rfl
  | 0, _ + 1, h => by simp [cand] at h
  | _ + 1, 0, h => by simp [cand] at h
  | i + 1, j + 1, h => by
    simp only [cand, PyData.tuple.injEq, List.cons.injEq, PyData.int.injEq, and_true, true_and] at h
    omega
def sp_law_strange (K : PySem.W.Frag) : Sp := fun vs H Q _ => ∃ (vt v : V) (xs : List (PyData × Bb)), vs = [vt, v] ∧ Dt K H v (.tuple (xs.map rowB)) ∧ LabR xs ∧ xs.length ≤ 1000 ∧
  ∀ u o H', Fr [] H H' → Dt K H' u o → Lab o → (∀ p ∈ xs, p.1 ≠ o) → Q u H'
theorem ok_law_strange (T : Env K mg) : Fx P w K mg base 1 "_law_strange" p_law_strange (sp_law_strange K) := by
  refine T.l_law_strange.ok sc_law_strange (fun vs H Q E h => ?_) (fun f cdv A outer s H vs Q E hr h => ?_)
  · obtain ⟨vt, v, xs, rfl, _⟩ := h
    rfl
  · obtain ⟨vt, v, xs, rfl, dv, lx, lN, k⟩ := h
    refine ⟨_, (pss_cons (ps_setLc (i := 2) (own := [("_law_one", 5)]) (g := (gName 5)) (tt := tYes) rfl sc_law_strange.nd rfl rfl (sw_true rfl rfl rfl (by decide +kernel)) (pi_tupU (K := K) rfl (pv 1)) (blkOk_by (N := N_law_strange) (sc := defScope s_law_strange) (by decide +kernel)) (fun _ _ _ _ _ => (pg_name (i := 5) sc_law_strange.nd rfl (Or.inl rfl))) (fun _ _ _ _ _ => pts_nil) (fun _ _ _ _ _ => (pe_ix (ix_U (K := K) rfl) (pv 5) pe_int (fun _ _ => rfl))))
      (pss_cons (ps_set (i := 3) sc_law_strange.nd rfl (Or.inl rfl) (pe_tup (pa_cons (pe_tup (pa_cons pe_non (pa_cons pe_int pa_nil))) pa_nil)))
      (pss_cons (ps_for PassesOwn.never rfl (pi_range1 rfl T.m_range (pa_cons (pe_op (op_addU (K := K) rfl) (pe_callB (call_lenU (K := K) rfl) (by rfl) T.m_len (by decide +kernel) (pa_cons (pv 2) pa_nil)) pe_int) pa_nil)) (pg_name (i := 4) sc_law_strange.nd rfl (Or.inl rfl)) (pss_one (ps_if (pt_cmpR (op_inU (K := K) rfl (u65 hr)) (pv 3) (pv 2) (by rfl)) (pss_one (ps_set (i := 3) sc_law_strange.nd rfl (Or.inl rfl) (pe_tup (pa_cons (pe_tup (pa_cons pe_int (pa_cons (pv 4) pa_nil))) pa_nil)))) pss_nil)))
      (pss_one (ps_ret (pv 3)))))), ?_⟩
    walk_at "go"
    refine LCX_T (K := K) (cs := xs) (dS := rowB) (fun _ => true) (fun p => p.1) dv (by omega) ?_ fun D H1 n1 f1 L1 => ?_
    · intro c x H' KEEP DROP hc f' dx hk _
      walk_at "go"
      refine Dt.ix 0 dx rfl fun u0 d0 => ?_
      exact hk rfl _ _ Fr.refl d0
    · rw [List.filter_eq_self.mpr (fun _ _ => rfl)] at L1
      have shL : SeqAt.shaped (.list (xs.map fun p => p.1)) = true := shaped_list (n := 2) (by decide) fun d hd => by
        obtain ⟨p, hp, rfl⟩ := List.mem_map.mp hd
        exact (lx p hp).1.good
      walk_at "go"
      refine mkT (K := K) (.cons .non (.cons (.int 0) .nil)) fun p2 H2 n2 f2 d2 => ?_
      walk_at "go"
      refine mkT (K := K) (.cons d2 .nil) fun p3 H3 n3 f3 d3 => ?_
      walk_at "go"
      refine ((L1.fr0 f2).fr0 f3).len ?_
      rw [List.length_map]
      walk_at "go"
      have f03 := (f1.trans f2).trans f3
      have L3 := (L1.fr0 f2).fr0 f3
      refine F_R1 (xs.length + 1) (by omega) (by omega) (by omega) (fun i σ H' => Fr [] H H' ∧ Fr [] H3 H' ∧ ∃ (u : V) (o : PyData) (v4 v5 : Option V), σ = [some vt, some v, some (.ref D), some u, v4, v5] ∧ Dt K H' u o ∧ Lab o ∧ ((∀ p ∈ xs, p.1 ≠ o) ∨ (o = cand i ∧ ∀ j, j < i → cand j ∈ xs.map fun p => p.1))) ⟨f03, Fr.refl, _, _, _, _, rfl, d3, cand_lab 0, .inr ⟨rfl, fun j hj => absurd hj (Nat.not_lt_zero _)⟩⟩ ?_ ?_
      · rintro i σ H4 hi ⟨f4, f34, u, o, v4, v5, rfl, du, lo, ho⟩
        walk_at "go"
        refine (L3.fr0 f34).isin du lo.good.shaped shL ?_
        cases han : (xs.map fun p => p.1).any (fun z => PyData.eqv z o) with
        | true =>
          obtain ⟨z, hz, ez⟩ := List.any_eq_true.mp han
          obtain ⟨p, hp, rfl⟩ := List.mem_map.mp hz
          have ep := (lx p hp).1.eqv lo ez
          rcases ho with ho | ⟨rfl, ho⟩
          · exact absurd ep (ho p hp)
          walk_at "go"
          refine mkT (K := K) (.cons (.int 7) (.cons (.int i) .nil)) fun p5 H5 n5 f5 d5 => ?_
          walk_at "go"
          refine mkT (K := K) (.cons d5 .nil) fun p6 H6 n6 f6 d6 => ?_
          walk_at "go"
          refine ⟨(f4.trans f5).trans f6, (f34.trans f5).trans f6, _, _, _, _, rfl, d6, cand_lab (i + 1), .inr ⟨rfl, fun j hj => ?_⟩⟩
          rcases Nat.lt_succ_iff_lt_or_eq.mp hj with z | rfl
          · exact ho j z
          · rw [← ep]
            exact List.mem_map.mpr ⟨p, hp, rfl⟩
        | false =>
          walk_at "go"
          refine ⟨f4, f34, u, o, _, _, rfl, du, lo, .inl fun p hp he => ?_⟩
          rw [List.any_eq_false] at han
          refine absurd ?_ (han p.1 (List.mem_map.mpr ⟨p, hp, rfl⟩))
          rw [he]
          exact lo.refl
      · rintro σ H4 ⟨f4, f34, u, o, v4, v5, rfl, du, lo, ho⟩
        walk_at "go"
        refine k u o H4 f4 du lo ?_
        rcases ho with ho | ⟨_, ho⟩
        · exact ho
        · have z := pigeon cand_inj _ _ ho
          rw [List.length_map] at z
          omega
end

section
variable {P : Program} {w : World} {K : PySem.W.Frag} {mg : Str → Option Value} {base : Heap}
def sp_law_bad (K : PySem.W.Frag) : Sp := fun vs H Q _ => ∃ (t : Addr) (v va : V) (t0 : Bt) (ls : List PyData) (b : Bb) (H0 : Hp), vs = [.ref t, v, va] ∧ Tape K H0 H t ∧ Dt K H v t0.d ∧ Dt K H va (.tuple ls) ∧ There t0 ls b ∧
  ∀ (q : Addr) (ds : List Deed) (H' : Hp), Fr [t] H H' → Tape K H0 H' t → q ≠ t → Lq K H' q (ds.map Deed.d) → (∀ d ∈ ds, BadD t0 d) → Q (.ref q) H'
theorem ok_law_bad (T : Env K mg) : Fx P w K mg base 2 "_law_bad" p_law_bad (sp_law_bad K) := by
  refine T.l_law_bad.ok sc_law_bad (fun vs H Q E h => ?_) (fun f cdv A outer s H vs Q E hr h => ?_)
  · obtain ⟨t, v, va, t0, ls, b, _, rfl, _⟩ := h
    rfl
  · obtain ⟨t, v, va, t0, ls, b, H0, rfl, T0, dt, da, TH, k⟩ := h
    refine ⟨_, (pss_cons (ps_set (i := 3) sc_law_bad.nd rfl (Or.inl rfl) (pe_fx (ok_law_box_of (P := P) (w := w) T) hr (by decide) (pa_cons (pv 1) (pa_cons (pv 2) pa_nil))))
      (pss_cons (ps_set (i := 4) sc_law_bad.nd rfl (Or.inl rfl) (pe_ix (ix_U (K := K) rfl) (pv 3) pe_int (fun _ _ => rfl)))
      (pss_cons (ps_set (i := 5) sc_law_bad.nd rfl (Or.inl rfl) (pe_op (op_addU (K := K) rfl) (pe_op (op_addU (K := K) rfl) (pe_callB (call_lenU (K := K) rfl) (by rfl) T.m_len (by decide +kernel) (pa_cons (pv 4) pa_nil)) pe_int) (pe_ix (ix_U (K := K) rfl) (pe_lst (pa_cons pe_int (pa_cons pe_int (pa_cons (pe_op op_pow pe_int pe_int) pa_nil)))) (pe_fx (ok_law_draw (P := P) (w := w) T) hr (by decide) (pa_cons (pv 0) (pa_cons pe_int pa_nil))) (fun _ _ => rfl))))
      (pss_cons (ps_set (i := 6) sc_law_bad.nd rfl (Or.inl rfl) (pe_fx (ok_law_strange (P := P) (w := w) T) hr (by decide) (pa_cons (pv 0) (pa_cons (pv 4) pa_nil))))
      (pss_cons (ps_set (i := 7) sc_law_bad.nd rfl (Or.inl rfl) pe_str)
      (pss_cons (ps_set (i := 8) sc_law_bad.nd rfl (Or.inl rfl) (pe_lst (pa_cons (pe_tup (pa_cons pe_str (pa_cons (pe_op (op_addU (K := K) rfl) (pv 2) (pe_tup (pa_cons (pv 6) pa_nil))) (pa_cons pe_int (pa_cons (pv 6) (pa_cons pe_str pa_nil)))))) (pa_cons (pe_tup (pa_cons pe_str (pa_cons (pe_op (op_addU (K := K) rfl) (pv 2) (pe_tup (pa_cons (pv 6) pa_nil))) (pa_cons (pv 6) pa_nil)))) (pa_cons (pe_tup (pa_cons pe_str (pa_cons (pe_op (op_addU (K := K) rfl) (pv 2) (pe_tup (pa_cons (pv 6) pa_nil))) (pa_cons pe_str (pa_cons pe_int pa_nil))))) pa_nil)))))
      (pss_cons (ps_set (i := 8) sc_law_bad.nd rfl (Or.inl rfl) (pe_op (op_addU (K := K) rfl) (pv 8) (pe_lst (pa_cons (pe_tup (pa_cons pe_str (pa_cons (pe_op (op_addU (K := K) rfl) (pe_tup (pa_cons (pe_fx (ok_law_strange (P := P) (w := w) T) hr (by decide) (pa_cons (pv 0) (pa_cons (pv 1) pa_nil))) pa_nil)) (pv 2)) (pa_cons pe_int (pa_cons (pv 6) (pa_cons pe_str pa_nil)))))) (pa_cons (pe_tup (pa_cons pe_str (pa_cons (pv 2) (pa_cons (pv 5) (pa_cons (pv 6) (pa_cons pe_str pa_nil)))))) pa_nil)))))
      (pss_cons (ps_set (i := 8) sc_law_bad.nd rfl (Or.inl rfl) (pe_op (op_addU (K := K) rfl) (pv 8) (pe_lst (pa_cons (pe_tup (pa_cons pe_str (pa_cons (pv 2) (pa_cons (pv 6) pa_nil)))) (pa_cons (pe_tup (pa_cons pe_str (pa_cons (pv 2) (pa_cons (pv 6) (pa_cons pe_int pa_nil))))) (pa_cons (pe_tup (pa_cons pe_str (pa_cons (pv 2) (pa_cons (pv 7) pa_nil)))) pa_nil))))))
      (pss_cons (ps_set (i := 8) sc_law_bad.nd rfl (Or.inl rfl) (pe_op (op_addU (K := K) rfl) (pv 8) (pe_lst (pa_cons (pe_tup (pa_cons pe_str (pa_cons (pe_tup pa_nil) (pa_cons pe_str (pa_cons pe_int pa_nil))))) (pa_cons (pe_tup (pa_cons pe_str (pa_cons (pe_tup pa_nil) (pa_cons pe_str pa_nil)))) (pa_cons (pe_tup (pa_cons pe_str (pa_cons (pe_tup pa_nil) (pa_cons (pe_tup pa_nil) pa_nil)))) (pa_cons (pe_tup (pa_cons pe_str (pa_cons (pv 2) (pa_cons (pe_un un_neg pe_int) (pa_cons (pv 6) (pa_cons pe_str pa_nil)))))) pa_nil)))))))
      (pss_cons (ps_for PassesOwn.never rfl (pi_tupU (K := K) rfl (pv 4)) (pg_tupU (K := K) (n := 2) rfl rfl (pgs_cons (pg_name (i := 9) sc_law_bad.nd rfl (Or.inl rfl)) (pgs_cons (pg_name (i := 10) sc_law_bad.nd rfl (Or.inl rfl)) pgs_nil))) (pss_cons (ps_set (i := 8) sc_law_bad.nd rfl (Or.inl rfl) (pe_op (op_addU (K := K) rfl) (pv 8) (pe_lst (pa_cons (pe_tup (pa_cons pe_str (pa_cons (pv 2) (pa_cons pe_int (pa_cons (pv 9) (pa_cons (pe_ix (ix_U (K := K) rfl) (pv 10) pe_int (fun _ _ => rfl)) pa_nil)))))) (pa_cons (pe_tup (pa_cons pe_str (pa_cons (pv 2) (pa_cons (pv 9) (pa_cons (pe_op op_sub (pv 5) pe_int) pa_nil))))) pa_nil)))))
      (pss_one (ps_expr (pe_bm PySem.F.plainAttrs_list PySem.F.slot_list_append PySem.F.type_list_append mt_append (pv 8) (pa_cons (pe_tup (pa_cons pe_str (pa_cons (pv 2) (pa_cons (pv 9) (pa_cons (pe_un un_neg pe_int) pa_nil))))) pa_nil))))))
      (pss_one (ps_ret (pv 8))))))))))))), ?_⟩
    have lb : b.inner.rows.length ≤ 700 := by
      have h1 := Bt.rows_len b.inner
      have h2 := atB_cnt TH.at_
      have h3 := TH.cnt
      have h4 : (rootB t0).inner.cnt = t0.cnt := rfl
      omega
    walk_at "go"
    refine ⟨v, va, t0, ls, b, rfl, dt, da, TH.lab, TH.la, by have := TH.cnt; omega, TH.at_, fun bv H1 f1 db => ?_⟩
    walk_at "go"
    refine Dt.ix 3 db rfl fun rv dr => ?_
    rw [Bt.d_rows] at dr
    walk_at "go"
    refine dr.lenU ?_
    rw [List.length_map]
    walk_at "go"
    refine w_pow8 ?_
    walk_at "go"
    refine mkL (K := K) (.cons (.int 0) (.cons (.int 1) (.cons (.int 100000000) .nil))) fun l2 H2 n2 f2 L2' => ?_
    have T2 := (T0.fr f1).fr f2
    walk_at "go"
    refine ⟨t, 3, H0, rfl, T2, by decide, by decide, fun r3 H3 a3 b3 f3 T3 => ?_⟩
    have L3 := L2'.fr f3 (by simpa using (T0.fr f1).ne n2) (T2.tu f3)
    walk_at "go"
    refine L3.at (P := fun d => ∃ i : Int, d = .int i ∧ 0 ≤ i) (by
      intro d hd
      simp only [List.mem_cons, List.not_mem_nil, or_false] at hd
      rcases hd with rfl | rfl | rfl
      · exact ⟨_, rfl, by decide⟩
      · exact ⟨_, rfl, by decide⟩
      · exact ⟨_, rfl, by decide⟩) a3 (by simpa using b3) fun nv nd dn gn _ => ?_
    obtain ⟨fx, rfl, hfx⟩ := gn
    cases dn.of_int
    clear L3 L2'
    have f03 : Fr [t] H H3 := ((f1.trans f2).mono (by simp)).trans f3
    have tu3 := T0.tu f03
    replace dr := (dr.mono f2.tu).mono (T2.tu f3)
    replace da := da.mono tu3
    replace dt := dt.mono tu3
    rw [Bt.d_rows] at dt
    walk_at "go"
    refine ⟨_, rv, b.inner.rows, rfl, dr, TH.rlab, by omega, fun ov o H5 f5 dO lo ho => ?_⟩
    replace dr := dr.mono f5.tu
    replace da := da.mono f5.tu
    replace dt := dt.mono f5.tu
    have TT := T3.fr f5
    have FF := f03.trans (f5.mono (by simp))
    walk_at "go"
    refine mkT (K := K) (.cons dO .nil) fun p6 H6 n6 f6 x10 => ?_
    replace da := da.mono f6.tu
    replace dO := dO.mono f6.tu
    replace dr := dr.mono f6.tu
    replace dt := dt.mono f6.tu
    replace TT := TT.fr f6
    replace FF := FF.trans (f6.mono (by simp))
    walk_at "go"
    refine da.cat x10 (by have := TH.len; show _ + 1 ≤ _; omega) fun p7 H7 f7 x1 => ?_
    replace da := da.mono f7.tu
    replace dO := dO.mono f7.tu
    replace dr := dr.mono f7.tu
    replace dt := dt.mono f7.tu
    replace x10 := x10.mono f7.tu
    replace TT := TT.fr f7
    replace FF := FF.trans (f7.mono (by simp))
    walk_at "go"
    refine mkT (K := K) (.cons (.str "put") (.cons x1 (.cons (.int 0) (.cons dO (.cons (.str "a") .nil))))) fun p8 H8 n8 f8 D1 => ?_
    replace da := da.mono f8.tu
    replace dO := dO.mono f8.tu
    replace dr := dr.mono f8.tu
    replace dt := dt.mono f8.tu
    replace x1 := x1.mono f8.tu
    replace TT := TT.fr f8
    replace FF := FF.trans (f8.mono (by simp))
    walk_at "go"
    refine mkT (K := K) (.cons dO .nil) fun p9 H9 n9 f9 x20 => ?_
    replace da := da.mono f9.tu
    replace dO := dO.mono f9.tu
    replace dr := dr.mono f9.tu
    replace dt := dt.mono f9.tu
    replace D1 := D1.mono f9.tu
    replace TT := TT.fr f9
    replace FF := FF.trans (f9.mono (by simp))
    walk_at "go"
    refine da.cat x20 (by have := TH.len; show _ + 1 ≤ _; omega) fun p10 H10 f10 x2 => ?_
    replace da := da.mono f10.tu
    replace dO := dO.mono f10.tu
    replace dr := dr.mono f10.tu
    replace dt := dt.mono f10.tu
    replace D1 := D1.mono f10.tu
    replace x20 := x20.mono f10.tu
    replace TT := TT.fr f10
    replace FF := FF.trans (f10.mono (by simp))
    walk_at "go"
    refine mkT (K := K) (.cons (.str "take") (.cons x2 (.cons dO .nil))) fun p11 H11 n11 f11 D2 => ?_
    replace da := da.mono f11.tu
    replace dO := dO.mono f11.tu
    replace dr := dr.mono f11.tu
    replace dt := dt.mono f11.tu
    replace D1 := D1.mono f11.tu
    replace x2 := x2.mono f11.tu
    replace TT := TT.fr f11
    replace FF := FF.trans (f11.mono (by simp))
    walk_at "go"
    refine mkT (K := K) (.cons dO .nil) fun p12 H12 n12 f12 x30 => ?_
    replace da := da.mono f12.tu
    replace dO := dO.mono f12.tu
    replace dr := dr.mono f12.tu
    replace dt := dt.mono f12.tu
    replace D1 := D1.mono f12.tu
    replace D2 := D2.mono f12.tu
    replace TT := TT.fr f12
    replace FF := FF.trans (f12.mono (by simp))
    walk_at "go"
    refine da.cat x30 (by have := TH.len; show _ + 1 ≤ _; omega) fun p13 H13 f13 x3 => ?_
    replace da := da.mono f13.tu
    replace dO := dO.mono f13.tu
    replace dr := dr.mono f13.tu
    replace dt := dt.mono f13.tu
    replace D1 := D1.mono f13.tu
    replace D2 := D2.mono f13.tu
    replace x30 := x30.mono f13.tu
    replace TT := TT.fr f13
    replace FF := FF.trans (f13.mono (by simp))
    walk_at "go"
    refine mkT (K := K) (.cons (.str "set") (.cons x3 (.cons (.str "a") (.cons (.int 1) .nil)))) fun p14 H14 n14 f14 D3 => ?_
    replace da := da.mono f14.tu
    replace dO := dO.mono f14.tu
    replace dr := dr.mono f14.tu
    replace dt := dt.mono f14.tu
    replace D1 := D1.mono f14.tu
    replace D2 := D2.mono f14.tu
    replace x3 := x3.mono f14.tu
    replace TT := TT.fr f14
    replace FF := FF.trans (f14.mono (by simp))
    walk_at "go"
    refine mkL (K := K) (.cons D1 (.cons D2 (.cons D3 .nil))) fun q15 H15 n15 f15 L1 => ?_
    replace L1 : Lq K H15 q15 (([.put (ls ++ [o]) 0 o "a", .take (ls ++ [o]) o, .set (ls ++ [o]) "a" 1] : List Deed).map Deed.d) := L1
    replace da := da.mono f15.tu
    replace dO := dO.mono f15.tu
    replace dr := dr.mono f15.tu
    replace dt := dt.mono f15.tu
    replace D1 := D1.mono f15.tu
    replace D2 := D2.mono f15.tu
    replace D3 := D3.mono f15.tu
    replace TT := TT.fr f15
    replace FF := FF.trans (f15.mono (by simp))
    walk_at "go"
    refine ⟨_, _, t0.rows, rfl, dt, Bt.lab_rows TH.lab, by have := Bt.rows_len t0; have := TH.cnt; omega, fun u16 o2 H16 f16 d2 lo2 ho2 => ?_⟩
    replace da := da.mono f16.tu
    replace dO := dO.mono f16.tu
    replace dr := dr.mono f16.tu
    replace dt := dt.mono f16.tu
    replace L1 := L1.fr0 f16
    replace TT := TT.fr f16
    replace FF := FF.trans (f16.mono (by simp))
    walk_at "go"
    refine mkT (K := K) (.cons d2 .nil) fun p17 H17 n17 f17 x40 => ?_
    replace da := da.mono f17.tu
    replace dO := dO.mono f17.tu
    replace dr := dr.mono f17.tu
    replace dt := dt.mono f17.tu
    replace d2 := d2.mono f17.tu
    replace L1 := L1.fr0 f17
    replace TT := TT.fr f17
    replace FF := FF.trans (f17.mono (by simp))
    walk_at "go"
    refine x40.cat da (by have := TH.len; show 1 + _ ≤ _; omega) fun p18 H18 f18 x4 => ?_
    replace da := da.mono f18.tu
    replace dO := dO.mono f18.tu
    replace dr := dr.mono f18.tu
    replace dt := dt.mono f18.tu
    replace d2 := d2.mono f18.tu
    replace x40 := x40.mono f18.tu
    replace L1 := L1.fr0 f18
    replace TT := TT.fr f18
    replace FF := FF.trans (f18.mono (by simp))
    walk_at "go"
    refine mkT (K := K) (.cons (.str "put") (.cons x4 (.cons (.int 0) (.cons dO (.cons (.str "a") .nil))))) fun p19 H19 n19 f19 D4 => ?_
    replace da := da.mono f19.tu
    replace dO := dO.mono f19.tu
    replace dr := dr.mono f19.tu
    replace dt := dt.mono f19.tu
    replace d2 := d2.mono f19.tu
    replace x4 := x4.mono f19.tu
    replace L1 := L1.fr0 f19
    replace TT := TT.fr f19
    replace FF := FF.trans (f19.mono (by simp))
    walk_at "go"
    refine mkT (K := K) (.cons (.str "put") (.cons da (.cons (.int _) (.cons dO (.cons (.str "a") .nil))))) fun p20 H20 n20 f20 D5 => ?_
    replace da := da.mono f20.tu
    replace dO := dO.mono f20.tu
    replace dr := dr.mono f20.tu
    replace dt := dt.mono f20.tu
    replace D4 := D4.mono f20.tu
    replace L1 := L1.fr0 f20
    replace TT := TT.fr f20
    replace FF := FF.trans (f20.mono (by simp))
    walk_at "go"
    refine mkL (K := K) (.cons D4 (.cons D5 .nil)) fun q21 H21 n21 f21 L2 => ?_
    replace L2 : Lq K H21 q21 (([.put (o2 :: ls) 0 o "a", .put ls ((b.inner.rows.length : Int) + 1 + fx) o "a"] : List Deed).map Deed.d) := L2
    replace da := da.mono f21.tu
    replace dO := dO.mono f21.tu
    replace dr := dr.mono f21.tu
    replace dt := dt.mono f21.tu
    replace D4 := D4.mono f21.tu
    replace D5 := D5.mono f21.tu
    replace L1 := L1.fr0 f21
    replace TT := TT.fr f21
    replace FF := FF.trans (f21.mono (by simp))
    walk_at "go"
    refine L1.cat L2 (by exact Nat.le_of_ble_eq_true rfl) fun q22 H22 n22 f22 L3 => ?_
    rw [← List.map_append] at L3
    have nq22 := TT.ne n22
    have nf22 := FF.free1' n22 nq22
    replace da := da.mono f22.tu
    replace dO := dO.mono f22.tu
    replace dr := dr.mono f22.tu
    replace dt := dt.mono f22.tu
    replace L1 := L1.fr0 f22
    replace L2 := L2.fr0 f22
    replace TT := TT.fr f22
    replace FF := FF.trans (f22.mono (by simp))
    walk_at "go"
    refine mkT (K := K) (.cons (.str "take") (.cons da (.cons dO .nil))) fun p23 H23 n23 f23 D6 => ?_
    replace da := da.mono f23.tu
    replace dO := dO.mono f23.tu
    replace dr := dr.mono f23.tu
    replace dt := dt.mono f23.tu
    replace L3 := L3.fr0 f23
    replace TT := TT.fr f23
    replace FF := FF.trans (f23.mono (by simp))
    walk_at "go"
    refine mkT (K := K) (.cons (.str "move") (.cons da (.cons dO (.cons (.int 0) .nil)))) fun p24 H24 n24 f24 D7 => ?_
    replace da := da.mono f24.tu
    replace dO := dO.mono f24.tu
    replace dr := dr.mono f24.tu
    replace dt := dt.mono f24.tu
    replace D6 := D6.mono f24.tu
    replace L3 := L3.fr0 f24
    replace TT := TT.fr f24
    replace FF := FF.trans (f24.mono (by simp))
    walk_at "go"
    refine mkT (K := K) (.cons (.str "unset") (.cons da (.cons (.str "zzzzzzzz") .nil))) fun p25 H25 n25 f25 D8 => ?_
    replace da := da.mono f25.tu
    replace dO := dO.mono f25.tu
    replace dr := dr.mono f25.tu
    replace dt := dt.mono f25.tu
    replace D6 := D6.mono f25.tu
    replace D7 := D7.mono f25.tu
    replace L3 := L3.fr0 f25
    replace TT := TT.fr f25
    replace FF := FF.trans (f25.mono (by simp))
    walk_at "go"
    refine mkL (K := K) (.cons D6 (.cons D7 (.cons D8 .nil))) fun q26 H26 n26 f26 L4 => ?_
    replace L4 : Lq K H26 q26 (([.take ls o, .move ls o 0, .unset ls "zzzzzzzz"] : List Deed).map Deed.d) := L4
    replace da := da.mono f26.tu
    replace dO := dO.mono f26.tu
    replace dr := dr.mono f26.tu
    replace dt := dt.mono f26.tu
    replace D6 := D6.mono f26.tu
    replace D7 := D7.mono f26.tu
    replace D8 := D8.mono f26.tu
    replace L3 := L3.fr0 f26
    replace TT := TT.fr f26
    replace FF := FF.trans (f26.mono (by simp))
    walk_at "go"
    refine L3.cat L4 (by exact Nat.le_of_ble_eq_true rfl) fun q27 H27 n27 f27 L5 => ?_
    rw [← List.map_append] at L5
    have nq27 := TT.ne n27
    have nf27 := FF.free1' n27 nq27
    replace da := da.mono f27.tu
    replace dO := dO.mono f27.tu
    replace dr := dr.mono f27.tu
    replace dt := dt.mono f27.tu
    replace L3 := L3.fr0 f27
    replace L4 := L4.fr0 f27
    replace TT := TT.fr f27
    replace FF := FF.trans (f27.mono (by simp))
    walk_at "go"
    refine mkT (K := K) .nil fun p28 H28 n28 f28 z1 => ?_
    replace da := da.mono f28.tu
    replace dO := dO.mono f28.tu
    replace dr := dr.mono f28.tu
    replace dt := dt.mono f28.tu
    replace L5 := L5.fr0 f28
    replace TT := TT.fr f28
    replace FF := FF.trans (f28.mono (by simp))
    walk_at "go"
    refine mkT (K := K) (.cons (.str "set") (.cons z1 (.cons (.str "a") (.cons (.int 1) .nil)))) fun p29 H29 n29 f29 D9 => ?_
    replace da := da.mono f29.tu
    replace dO := dO.mono f29.tu
    replace dr := dr.mono f29.tu
    replace dt := dt.mono f29.tu
    replace z1 := z1.mono f29.tu
    replace L5 := L5.fr0 f29
    replace TT := TT.fr f29
    replace FF := FF.trans (f29.mono (by simp))
    walk_at "go"
    refine mkT (K := K) .nil fun p30 H30 n30 f30 z2 => ?_
    replace da := da.mono f30.tu
    replace dO := dO.mono f30.tu
    replace dr := dr.mono f30.tu
    replace dt := dt.mono f30.tu
    replace D9 := D9.mono f30.tu
    replace L5 := L5.fr0 f30
    replace TT := TT.fr f30
    replace FF := FF.trans (f30.mono (by simp))
    walk_at "go"
    refine mkT (K := K) (.cons (.str "unset") (.cons z2 (.cons (.str "a") .nil))) fun p31 H31 n31 f31 D10 => ?_
    replace da := da.mono f31.tu
    replace dO := dO.mono f31.tu
    replace dr := dr.mono f31.tu
    replace dt := dt.mono f31.tu
    replace D9 := D9.mono f31.tu
    replace z2 := z2.mono f31.tu
    replace L5 := L5.fr0 f31
    replace TT := TT.fr f31
    replace FF := FF.trans (f31.mono (by simp))
    walk_at "go"
    refine mkT (K := K) .nil fun p32 H32 n32 f32 z3 => ?_
    replace da := da.mono f32.tu
    replace dO := dO.mono f32.tu
    replace dr := dr.mono f32.tu
    replace dt := dt.mono f32.tu
    replace D9 := D9.mono f32.tu
    replace D10 := D10.mono f32.tu
    replace L5 := L5.fr0 f32
    replace TT := TT.fr f32
    replace FF := FF.trans (f32.mono (by simp))
    walk_at "go"
    refine mkT (K := K) .nil fun p33 H33 n33 f33 z4 => ?_
    replace da := da.mono f33.tu
    replace dO := dO.mono f33.tu
    replace dr := dr.mono f33.tu
    replace dt := dt.mono f33.tu
    replace D9 := D9.mono f33.tu
    replace D10 := D10.mono f33.tu
    replace z3 := z3.mono f33.tu
    replace L5 := L5.fr0 f33
    replace TT := TT.fr f33
    replace FF := FF.trans (f33.mono (by simp))
    walk_at "go"
    refine mkT (K := K) (.cons (.str "hands") (.cons z3 (.cons z4 .nil))) fun p34 H34 n34 f34 D11 => ?_
    replace da := da.mono f34.tu
    replace dO := dO.mono f34.tu
    replace dr := dr.mono f34.tu
    replace dt := dt.mono f34.tu
    replace D9 := D9.mono f34.tu
    replace D10 := D10.mono f34.tu
    replace z3 := z3.mono f34.tu
    replace z4 := z4.mono f34.tu
    replace L5 := L5.fr0 f34
    replace TT := TT.fr f34
    replace FF := FF.trans (f34.mono (by simp))
    walk_at "go"
    refine mkT (K := K) (.cons (.str "put") (.cons da (.cons (.int (-1)) (.cons dO (.cons (.str "a") .nil))))) fun p35 H35 n35 f35 D12 => ?_
    replace da := da.mono f35.tu
    replace dO := dO.mono f35.tu
    replace dr := dr.mono f35.tu
    replace dt := dt.mono f35.tu
    replace D9 := D9.mono f35.tu
    replace D10 := D10.mono f35.tu
    replace D11 := D11.mono f35.tu
    replace L5 := L5.fr0 f35
    replace TT := TT.fr f35
    replace FF := FF.trans (f35.mono (by simp))
    walk_at "go"
    refine mkL (K := K) (.cons D9 (.cons D10 (.cons D11 (.cons D12 .nil)))) fun q36 H36 n36 f36 L6 => ?_
    replace L6 : Lq K H36 q36 (([.set [] "a" 1, .unset [] "a", .hands [] (.tuple []), .put ls (-1) o "a"] : List Deed).map Deed.d) := L6
    replace da := da.mono f36.tu
    replace dO := dO.mono f36.tu
    replace dr := dr.mono f36.tu
    replace dt := dt.mono f36.tu
    replace D9 := D9.mono f36.tu
    replace D10 := D10.mono f36.tu
    replace D11 := D11.mono f36.tu
    replace D12 := D12.mono f36.tu
    replace L5 := L5.fr0 f36
    replace TT := TT.fr f36
    replace FF := FF.trans (f36.mono (by simp))
    walk_at "go"
    refine L5.cat L6 (by exact Nat.le_of_ble_eq_true rfl) fun q37 H37 n37 f37 L7 => ?_
    rw [← List.map_append] at L7
    have nq37 := TT.ne n37
    have nf37 := FF.free1' n37 nq37
    replace da := da.mono f37.tu
    replace dO := dO.mono f37.tu
    replace dr := dr.mono f37.tu
    replace dt := dt.mono f37.tu
    replace L5 := L5.fr0 f37
    replace L6 := L6.fr0 f37
    replace TT := TT.fr f37
    replace FF := FF.trans (f37.mono (by simp))
    have BAD : ∀ d ∈ (([.put (ls ++ [o]) 0 o "a", .take (ls ++ [o]) o, .set (ls ++ [o]) "a" 1] ++ [.put (o2 :: ls) 0 o "a", .put ls ((b.inner.rows.length : Int) + 1 + fx) o "a"]) ++ [.take ls o, .move ls o 0, .unset ls "zzzzzzzz"] ++ [.set [] "a" 1, .unset [] "a", .hands [] (.tuple []), .put ls (-1) o "a"] : List Deed), BadD t0 d := by
      intro d hd
      rcases List.mem_append.mp hd with hd | hd
      · rcases List.mem_append.mp hd with hd | hd
        · rcases List.mem_append.mp hd with hd | hd
          · simp only [List.mem_cons, List.not_mem_nil, or_false] at hd
            rcases hd with rfl | rfl | rfl
            · exact bad1 TH lo ho _
            · exact bad2 TH lo ho
            · exact bad3 TH lo ho _ _
          · simp only [List.mem_cons, List.not_mem_nil, or_false] at hd
            rcases hd with rfl | rfl
            · exact bad4 TH lo2 ho2 lo _
            · exact bad5 TH lo ho (by omega) _
        · simp only [List.mem_cons, List.not_mem_nil, or_false] at hd
          rcases hd with rfl | rfl | rfl
          · exact bad6 TH lo ho
          · exact bad7 TH lo ho _
          · exact bad8 TH (by decide +kernel)
      · simp only [List.mem_cons, List.not_mem_nil, or_false] at hd
        rcases hd with rfl | rfl | rfl | rfl
        · exact bad9 TH _ _
        · exact bad10 TH _
        · exact bad11 TH _
        · exact bad5 TH lo ho (by omega) _
    have LEN : (([.put (ls ++ [o]) 0 o "a", .take (ls ++ [o]) o, .set (ls ++ [o]) "a" 1] ++ [.put (o2 :: ls) 0 o "a", .put ls ((b.inner.rows.length : Int) + 1 + fx) o "a"]) ++ [.take ls o, .move ls o 0, .unset ls "zzzzzzzz"] ++ [.set [] "a" 1, .unset [] "a", .hands [] (.tuple []), .put ls (-1) o "a"] : List Deed).length = 12 := rfl
    generalize (([.put (ls ++ [o]) 0 o "a", .take (ls ++ [o]) o, .set (ls ++ [o]) "a" 1] ++ [.put (o2 :: ls) 0 o "a", .put ls ((b.inner.rows.length : Int) + 1 + fx) o "a"]) ++ [.take ls o, .move ls o 0, .unset ls "zzzzzzzz"] ++ [.set [] "a" 1, .unset [] "a", .hands [] (.tuple []), .put ls (-1) o "a"] : List Deed) = ds at L7 BAD LEN
    walk_at "go"
    refine dr.walk (fun i σ H' => Fr [t] H H' ∧ Tape K H0 H' t ∧ Tu H37 H' ∧ ∃ (q : Addr) (ds : List Deed) (v9 v10 : Option V), σ = [some (.ref t), some v, some va, some bv, some rv, some (.int ((b.inner.rows.length : Int) + 1 + fx)), some ov, some (.str "zzzzzzzz"), some (.ref q), v9, v10] ∧ Lq K H' q (ds.map Deed.d) ∧ q ≠ t ∧ ds.length = 12 + 3 * i ∧ ∀ d ∈ ds, BadD t0 d) ?_ ?_ ?_ ?_
    · exact ⟨FF, TT, Tu.refl, _, ds, _, _, rfl, L7, nq37, LEN, BAD⟩
    · rintro i σ H' ⟨_, _, z, _⟩
      exact z
    · rintro i pv d σ H50 hi dp ⟨f50, T50, tu50, q, es, v9, v10, rfl, L50, nq, les, bes⟩
      obtain ⟨p, hp, rfl⟩ := map_get hi
      have mp := List.mem_of_getElem? hp
      have hil : i < b.inner.rows.length := (List.getElem?_eq_some_iff.mp hp).1
      obtain ⟨a', us, rfl, sa, av⟩ := dp.tuple
      cases av with
      | cons e1 av =>
      cases av with
      | cons e2 av =>
      cases av
      refine w_gtup sa rfl ?_
      walk_at "go"
      refine Dt.ix 0 e2 rfl fun gv dg => ?_
      cases dg.of_str
      have da50 := da.mono tu50
      walk_at "go"
      refine mkT (K := K) (.cons (.str "put") (.cons da50 (.cons (.int 0) (.cons e1 (.cons (.str _) .nil))))) fun p51 H51 n51 f51 d51 => ?_
      walk_at "go"
      refine mkT (K := K) (.cons (.str "move") (.cons (da50.mono f51.tu) (.cons (e1.mono f51.tu) (.cons (.int _) .nil)))) fun p52 H52 n52 f52 d52 => ?_
      walk_at "go"
      refine mkL (K := K) (.cons (d51.mono f52.tu) (.cons d52 .nil)) fun q53 H53 n53 f53 L53 => ?_
      replace L53 : Lq K H53 q53 (([.put ls 0 p.1 p.2.g, .move ls p.1 ((b.inner.rows.length : Int) + 1 + fx - 1)] : List Deed).map Deed.d) := L53
      have f5053 := (f51.trans f52).trans f53
      walk_at "go"
      refine (L50.fr0 f5053).cat L53 (by rw [List.length_map, les]; show _ + 2 ≤ _; omega) fun q54 H54 n54 f54 L54 => ?_
      rw [← List.map_append] at L54
      have T53 := T50.fr f5053
      have nq54 := T53.ne n54
      have nq540 := T53.no n54
      have F53 : Fr [t] H H53 := f50.trans (f5053.mono (by simp))
      have n540 : H q54 = none := F53.free1' n54 nq54
      have f5054 := f5053.trans f54
      have T54 := T53.fr f54
      walk_at "go"
      refine ⟨L54.ty, ?_⟩
      walk_at "go"
      refine mkT (K := K) (.cons (.str "move") (.cons (da50.mono f5054.tu) (.cons (e1.mono f5054.tu) (.cons (.int (-1)) .nil)))) fun p55 H55 n55 f55 d55 => ?_
      have T55 := T54.fr f55
      walk_at "go"
      refine (L54.fr0 f55).app (d := (Deed.move ls p.1 (-1)).d) d55 (by rw [List.length_map, List.length_append, les]; show _ + 2 ≤ _; omega) fun H56 f56 tu56 L56 => ?_
      refine ⟨Fr.drop1 n540 (F53.trans ((f54.trans f55).mono (by simp))) f56, T55.fr1 f56 nq54 nq540, tu50.trans ((f5054.trans f55).tu.trans tu56), q54, (es ++ [.put ls 0 p.1 p.2.g, .move ls p.1 ((b.inner.rows.length : Int) + 1 + fx - 1)]) ++ [.move ls p.1 (-1)], _, _, rfl, by rw [List.map_append]; exact L56, nq54, by rw [List.length_append, List.length_append, les]; show _ + 2 + 1 = _; omega, fun d hd => ?_⟩
      rcases List.mem_append.mp hd with hd | hd
      · rcases List.mem_append.mp hd with hd | hd
        · exact bes d hd
        · simp only [List.mem_cons, List.not_mem_nil, or_false] at hd
          rcases hd with rfl | rfl
          · exact bad12 TH mp _ _
          · exact bad13 TH mp (by omega)
      · rw [List.mem_singleton.mp hd]
        exact bad13 TH mp (by omega)
    · rintro σ H50 ⟨f50, T50, tu50, q, es, v9, v10, rfl, L50, nq, les, bes⟩
      walk_at "go"
      exact k q es H50 f50 T50 nq L50 bes
end


def sp_law (K : PySem.W.Frag) : Sp := fun vs H Q _ => ∃ (a : Addr) (ns : List Int), vs = [.ref a] ∧ SqL K H a (ns.map V.int) ∧ ns.length ≤ 63 ∧ ∀ H', Q (.bl true) H'

section
variable {P : Program} {w : World} {K : PySem.W.Frag} {mg : Str → Option Value} {base : Heap} {cV cT cB cD cC cR : Addr}
theorem w_xf {a C : Addr} {cls : Value} {d : Option Addr} {f : Str} {te : TE} {σ : L2.St} {H : Hp} {Q : VK} (q : te σ H fun x H1 => x = .ref a ∧ cls = .ref C ∧ ∃ (dd : Addr) (fs : List (Str × V)) (v : V), d = some dd ∧ H1 dd = some (.xd fs) ∧ fs.lookup f = some v ∧ Q v H1) : tXf a cls d C f te σ H Q := q
def sp_law_refused (K : PySem.W.Frag) : Sp := fun vs H Q _ => ∃ (v vds : V) (alone : Bool) (t : Bt) (ds : List Deed) (k : Nat), vs = [v, vds, .bl alone] ∧ Dt K H v t.d ∧ Dt K H vds (.tuple (ds.map Deed.d)) ∧ LedOk t ds ∧ ds.length ≤ 1000 ∧ ledT t ds 0 = .error k ∧
  (alone = true → ∃ d r, ds = d :: r ∧ turnedT t d = none ∧ k = 0) ∧ ∀ H', Fr [] H H' → Q (.int k) H'
theorem ok_law_refused (T : Env K mg) (W : ExcW K mg cV cT cB cD cC cR) : Fx P w K mg base 37 "_law_refused" p_law_refused (sp_law_refused K) := by
  refine T.l_law_refused.ok sc_law_refused (fun vs H Q E h => ?_) (fun f cdv A outer s H vs Q E hr h => ?_)
  · obtain ⟨v, vds, alone, t, ds, k, rfl, _⟩ := h
    rfl
  · obtain ⟨v, vds, alone, t, ds, n, rfl, dv, dds, ok, ll, er, hal, k⟩ := h
    refine ⟨_, (pss_cons (ps_set (i := 3) sc_law_refused.nd rfl (Or.inl rfl) pe_str)
      (pss_cons (ps_try_as (i := 4) (Wout := fun _ _ _ _ => False) rfl rfl sc_law_refused.nd rfl rfl ⟨rfl, by decide +kernel, Or.inl W.gV⟩ takes0 (fun WW pn xe tk _ => (pss_one (ps_if (pt_val (pv 2)) (pss_one (ps_expr (pe_fxx (ok_done (P := P) (w := w) T W) hr (by decide) tk (pa_cons (pv 0) (pa_cons (pe_ix (ix_U (K := K) rfl) (pv 1) pe_int (fun _ _ => rfl)) pa_nil))))) (pss_one (ps_expr (pe_fxx (ok_led (P := P) (w := w) T W) hr (by decide) tk (pa_cons (pv 0) (pa_cons (pv 1) pa_nil)))))))) (fun a oe cls d pn hz hf => (pss_cons (ps_set (i := 3) sc_law_refused.nd rfl (Or.inl rfl) pe_str)
      (pss_cons (ps_set (i := 5) sc_law_refused.nd rfl (Or.inl rfl) (pe_callB (call_isED hz hf) (by rfl) T.m_isinstance (by decide +kernel) (pa_cons (pv 4) (pa_cons (pe_tupP (pa_cons (pe_glob (v := .ref cD) rfl W.gD rfl (by decide +kernel)) (pa_cons (pe_glob (v := .ref cC) rfl W.gC rfl (by decide +kernel)) (pa_cons (pe_glob (v := .ref cR) rfl W.gR rfl (by decide +kernel)) (pa_cons (pe_glob (v := .ref cT) rfl W.gT rfl (by decide +kernel)) pa_nil))))) pa_nil))))
      (pss_one (ps_if (PW.pt (pw_and (pt_val (pe_callB (call_isED hz hf) (by rfl) T.m_isinstance (by decide +kernel) (pa_cons (pv 4) (pa_cons (pe_glob (v := .ref cB) rfl W.gB rfl (by decide +kernel)) pa_nil)))) (pw_and (pt_val (pe_callB (call_isED hz hf) (by rfl) T.m_isinstance (by decide +kernel) (pa_cons (pv 4) (pa_cons (pe_bltn (v := .ty "ValueError") (u := .type "ValueError") rfl T.m_ValueError (by decide +kernel) rfl) pa_nil)))) (pw_and (pt_not (pt_val (pv 5))) (pw_and1 (pt_not (pt_val (pe_callB (call_isiU (K := K) rfl) (by rfl) T.m_isinstance (by decide +kernel) (pa_cons (pe_xf W.ask.xf W.noA hz hf (pv 4)) (pa_cons (pe_bltn (v := .ty "bool") (u := .type "bool") rfl T.m_bool (by decide +kernel) rfl) pa_nil)))))))))) (pss_one (ps_set (i := 3) sc_law_refused.nd rfl (Or.inl rfl) (pe_xf W.ask.xf W.noA hz hf (pv 4)))) pss_nil))))))
      (pss_one (ps_ret (pv 3))))), ?_⟩
    have self : PySem.W.kitOne K (.ref cB) (.ref cB) = some true := by
      unfold PySem.W.kitOne
      rw [if_pos (beq_self_eq_true _)]
    walk_at "go"
    cases alone with
    | true =>
      obtain ⟨d, r, rfl, hn, rfl⟩ := hal rfl
      walk_at "go"
      refine w_callS ?_
      walk_at "go"
      refine Dt.ix 0 dds rfl fun dv0 dd0 => ?_
      walk_at "go"
      refine ⟨v, dv0, t, d, rfl, dv, dd0, ok.1, fun u y H' _ e _ => (by rw [hn] at e; cases e), fun d2 H2 f2 _ e2 => ?_⟩
      refine ⟨true, W.exV, fun _ a ha => ?_, fun h => nomatch h⟩
      walk_at "go"
      refine w_tupP ?_
      walk_at "go"
      refine ⟨by exact Nat.le_of_ble_eq_true rfl, fun p5 us n5 => ?_⟩
      have f5 : Fr [] H2 (upd H2 p5 (.frz (tfz us) (.tup (([cD, cC, cR, cT] : List Addr).map V.ref)))) := Fr.new n5
      have e5 : PTup (upd H2 p5 (.frz (tfz us) (.tup (([cD, cC, cR, cT] : List Addr).map V.ref)))) p5 (([cD, cC, cR, cT] : List Addr).map V.ref) := ⟨us, upd_same⟩
      have e25 := f5 _ _ e2 (by simp)
      walk_at "go"
      refine ⟨cB, d2, _, false, rfl, rfl, e25, W.ask, .inr ⟨p5, [cD, cC, cR, cT], rfl, e5, W.kN⟩, ?_⟩
      walk_at "go"
      refine ⟨cB, d2, _, true, rfl, rfl, e25, W.ask, .inl ⟨.ref cB, .ref cB, rfl, fun u r => r, self⟩, ?_⟩
      walk_at "go"
      refine ⟨cB, d2, _, true, rfl, rfl, e25, W.ask, .inl ⟨.ty "ValueError", .type "ValueError", rfl, fun u r => r, W.kVE⟩, ?_⟩
      walk_at "go"
      refine w_xf ?_
      walk_at "go"
      refine ⟨rfl, rfl, d2, _, .int 0, rfl, e25, by simp [List.lookup], ?_⟩
      walk_at "go"
      refine w_xf ?_
      walk_at "go"
      refine ⟨rfl, rfl, d2, _, .int 0, rfl, e25, by simp [List.lookup], ?_⟩
      walk_at "go"
      exact k _ (f2.trans f5)
    | false =>
      walk_at "go"
      refine w_callS ?_
      walk_at "go"
      refine ⟨v, vds, t, ds, rfl, dv, dds, ok, ll, fun u y H' _ e _ => (by rw [er] at e; cases e), fun k' d2 H2 f2 e' e2 => ?_⟩
      rw [er] at e'
      cases e'
      refine ⟨true, W.exV, fun _ a ha => ?_, fun h => nomatch h⟩
      walk_at "go"
      refine w_tupP ?_
      walk_at "go"
      refine ⟨by exact Nat.le_of_ble_eq_true rfl, fun p5 us n5 => ?_⟩
      have f5 : Fr [] H2 (upd H2 p5 (.frz (tfz us) (.tup (([cD, cC, cR, cT] : List Addr).map V.ref)))) := Fr.new n5
      have e5 : PTup (upd H2 p5 (.frz (tfz us) (.tup (([cD, cC, cR, cT] : List Addr).map V.ref)))) p5 (([cD, cC, cR, cT] : List Addr).map V.ref) := ⟨us, upd_same⟩
      have e25 := f5 _ _ e2 (by simp)
      walk_at "go"
      refine ⟨cB, d2, _, false, rfl, rfl, e25, W.ask, .inr ⟨p5, [cD, cC, cR, cT], rfl, e5, W.kN⟩, ?_⟩
      walk_at "go"
      refine ⟨cB, d2, _, true, rfl, rfl, e25, W.ask, .inl ⟨.ref cB, .ref cB, rfl, fun u r => r, self⟩, ?_⟩
      walk_at "go"
      refine ⟨cB, d2, _, true, rfl, rfl, e25, W.ask, .inl ⟨.ty "ValueError", .type "ValueError", rfl, fun u r => r, W.kVE⟩, ?_⟩
      walk_at "go"
      refine w_xf ?_
      walk_at "go"
      refine ⟨rfl, rfl, d2, _, .int n, rfl, e25, by simp [List.lookup], ?_⟩
      walk_at "go"
      refine w_xf ?_
      walk_at "go"
      refine ⟨rfl, rfl, d2, _, .int n, rfl, e25, by simp [List.lookup], ?_⟩
      walk_at "go"
      exact k _ (f2.trans f5)
theorem bad_led {t : Bt} {o : PyData} {d : Deed} (lt : t.lab) (ol : Lab o) (h : ∀ p ∈ t.rows, p.1 ≠ o) (hc : t.cnt ≤ 700) (bd : BadD t d) (b : Bool) :
    LedOk t ((if b then aheadD o else []) ++ [d] ++ aheadD o) ∧ ledT t ((if b then aheadD o else []) ++ [d] ++ aheadD o) 0 = .error (if b then 3 else 0) := by
  have one : ∀ k, LedOk t ([d] ++ aheadD o) ∧ ledT t ([d] ++ aheadD o) k = .error k := fun k => ⟨⟨bd.1, fun u hu => by rw [bd.2] at hu; cases hu⟩, by rw [List.singleton_append, ledT, bd.2]⟩
  cases b with
  | false => exact one 0
  | true =>
    rw [if_pos rfl, if_pos rfl, List.append_assoc]
    refine ⟨LedOk.append 0 (ok_ahead lt ol h hc) fun u hu => ?_, ?_⟩
    · rw [led_ahead lt ol h] at hu
      cases hu
      exact (one 0).1
    · rw [ledT_append, led_ahead lt ol h]
      exact (one _).2
theorem ok_law (T : Env K mg) (W : ExcW K mg cV cT cB cD cC cR) {f : Addr} {fd : FuncData} (F : Fun K "law" "law" s_law f fd) : FnOk P w K mg base CX0 38 f fd p_law (sp_law K) := by
  refine F.ok sc_law (fun vs H Q E h => ?_) (fun cdv A outer s H vs Q E hr h => ?_)
  · obtain ⟨a, ns, rfl, _⟩ := h
    rfl
  · obtain ⟨a, ns, rfl, hS, hl, k⟩ := h
    refine ⟨_, (pss_cons (ps_set (i := 1) sc_law.nd rfl (Or.inl rfl) (pe_fx (ok_law_tape (P := P) (w := w) T) hr (by decide) (pa_cons (pv 0) pa_nil)))
      (pss_cons (ps_set (i := 2) sc_law.nd rfl (Or.inl rfl) (pe_fx (ok_law_row (P := P) (w := w) T 3) hr (by decide) (pa_cons (pv 1) (pa_cons pe_int pa_nil))))
      (pss_cons (ps_set (i := 3) sc_law.nd rfl (Or.inl rfl) (pe_fx (ok_law_addresses (P := P) (w := w) T 5) hr (by decide) (pa_cons (pv 2) (pa_cons (pe_tup pa_nil) pa_nil))))
      (pss_cons (ps_set (i := 4) sc_law.nd rfl (Or.inl rfl) (pe_ix (ix_U (K := K) rfl) (pv 3) (pe_fx (ok_law_draw (P := P) (w := w) T) hr (by decide) (pa_cons (pv 1) (pa_cons (pe_callB (call_lenU (K := K) rfl) (by rfl) T.m_len (by decide +kernel) (pa_cons (pv 3) pa_nil)) pa_nil))) (fun _ _ => rfl)))
      (pss_cons (ps_set (i := 5) sc_law.nd rfl (Or.inl rfl) (pe_fx (ok_law_strange (P := P) (w := w) T) hr (by decide) (pa_cons (pv 1) (pa_cons (pv 2) pa_nil))))
      (pss_cons (ps_set (i := 6) sc_law.nd rfl (Or.inl rfl) (pe_tup (pa_cons (pe_tup (pa_cons pe_str (pa_cons (pe_tup pa_nil) (pa_cons pe_int (pa_cons (pv 5) (pa_cons pe_str pa_nil)))))) (pa_cons (pe_tup (pa_cons pe_str (pa_cons (pe_tup (pa_cons (pv 5) pa_nil)) (pa_cons pe_str (pa_cons pe_int pa_nil))))) (pa_cons (pe_tup (pa_cons pe_str (pa_cons (pe_tup pa_nil) (pa_cons (pv 5) pa_nil)))) pa_nil)))))
      (pss_cons (ps_for PassesOwn.never rfl (pi_listU (K := K) rfl (pe_fx (ok_law_bad (P := P) (w := w) T) hr (by decide) (pa_cons (pv 1) (pa_cons (pv 2) (pa_cons (pv 4) pa_nil))))) (pg_name (i := 7) sc_law.nd rfl (Or.inl rfl)) (pss_cons (ps_if (pt_cmpR (op_neU (K := K) rfl (u64 hr)) (pe_fx (ok_law_refused (P := P) (w := w) T W) hr (by decide) (pa_cons (pv 2) (pa_cons (pe_tup (pa_cons (pv 7) pa_nil)) (pa_cons pe_bl pa_nil)))) pe_int (nomark _)) (pss_one (ps_ret pe_bl)) pss_nil)
      (pss_cons (ps_set (i := 8) sc_law.nd rfl (Or.inl rfl) (pe_op op_mulU pe_int (pe_fx (ok_law_draw (P := P) (w := w) T) hr (by decide) (pa_cons (pv 1) (pa_cons pe_int pa_nil)))))
      (pss_one (ps_if (pt_cmpR (op_neU (K := K) rfl (u64 hr)) (pe_fx (ok_law_refused (P := P) (w := w) T W) hr (by decide) (pa_cons (pv 2) (pa_cons (pe_op (op_addU (K := K) rfl) (pe_op (op_addU (K := K) rfl) (pe_slice (sl_U (K := K) rfl) (pv 6) po_none (po_some (pv 8))) (pe_tup (pa_cons (pv 7) pa_nil))) (pv 6)) (pa_cons pe_bl pa_nil)))) (pv 8) (nomark _)) (pss_one (ps_ret pe_bl)) pss_nil)))))
      (pss_one (ps_ret (pe_and (pe_cmpR (op_eqU (K := K) rfl (u64 hr)) (pe_fx (ok_led0 (P := P) (w := w) T) hr (by decide) (pa_cons (pv 2) (pa_cons (pv 6) pa_nil))) (pv 2) (nomark _)) (pe_one (pe_cmpR (op_eqU (K := K) rfl (u64 hr)) (pe_fx (ok_done0 (P := P) (w := w) T) hr (by decide) (pa_cons (pe_fx (ok_led0 (P := P) (w := w) T) hr (by decide) (pa_cons (pv 2) (pa_cons (pe_slice (sl_U (K := K) rfl) (pv 6) po_none (po_some pe_int)) pa_nil))) (pa_cons (pe_ix (ix_U (K := K) rfl) (pv 6) pe_int (fun _ _ => rfl)) pa_nil))) (pv 2) (nomark _))))))))))))), ?_⟩
    walk_at "go"
    refine ⟨a, ns, rfl, hS, fun t H1 nt f1 T1 => ?_⟩
    walk_at "go"
    refine ⟨t, 2, H, rfl, ⟨by decide, by decide⟩, T1, fun tv u H2 f2 T2 du lu au fu de cu => ?_⟩
    replace cu : u.cnt ≤ 700 := Nat.le_trans cu (by decide)
    walk_at "go"
    refine mkT (K := K) .nil fun p3 H3 n3 f3 d3 => ?_
    walk_at "go"
    refine ⟨tv, _, u, [], rfl, ⟨by omega, by decide⟩, du.mono f3.tu, d3, lu, au, by omega, by show 0 + _ ≤ _; omega, fun q_as as H4 n4 f4 L4 las has => ?_⟩
    have T4 := (T2.fr f3).fr f4
    have f24 := f3.trans f4
    walk_at "go"
    refine L4.len ?_
    rw [List.length_map]
    walk_at "go"
    refine ⟨t, _, H, rfl, T4, by omega, by omega, fun r5 H5 a5 b5 f5 T5 => ?_⟩
    have L5 := L4.fr f5 (by simpa using (T2.fr f3).ne n4) (T4.tu f5)
    have tu25 : Tu H2 H5 := f24.tu.trans (T4.tu f5)
    walk_at "go"
    refine L5.at (P := fun d => ∃ ls, d = .tuple ls ∧ AdrB u [] ls) (fun d hd => by
      obtain ⟨ls, h1, rfl⟩ := List.mem_map.mp hd
      exact ⟨ls, rfl, has ls h1⟩) a5 (by rw [List.length_map]; exact b5) fun av ad da ga _ => ?_
    obtain ⟨ls, rfl, a', e1, e2, la, ll⟩ := ga
    rw [List.nil_append] at e1
    subst a'
    obtain ⟨b, eb⟩ : ∃ b, atB (rootB u) ls = some b := by
      cases h : atB (rootB u) ls with
      | none => exact absurd h e2
      | some b => exact ⟨b, rfl⟩
    have TH : There u ls b := ⟨lu, au, fu, cu, la, by omega, eb⟩
    have du5 := du.mono tu25
    have hrl := Bt.rows_len u
    walk_at "go"
    refine ⟨_, tv, u.rows, rfl, by rw [← Bt.d_rows]; exact du5, Bt.lab_rows lu, by omega, fun ov o H6 f6 dO lo ho => ?_⟩
    have T6 := T5.fr f6
    have du6 := du5.mono f6.tu
    have da6 := da.mono f6.tu
    walk_at "go"
    refine mkT (K := K) .nil fun p7 H7 n7 f7 z1 => ?_
    replace dO := dO.mono f7.tu
    replace du6 := du6.mono f7.tu
    replace da6 := da6.mono f7.tu
    replace T6 := T6.fr f7
    walk_at "go"
    refine mkT (K := K) (.cons (.str "put") (.cons z1 (.cons (.int 0) (.cons dO (.cons (.str "a") .nil))))) fun p8 H8 n8 f8 D1 => ?_
    replace dO := dO.mono f8.tu
    replace du6 := du6.mono f8.tu
    replace da6 := da6.mono f8.tu
    replace T6 := T6.fr f8
    walk_at "go"
    refine mkT (K := K) (.cons dO .nil) fun p9 H9 n9 f9 z2 => ?_
    replace dO := dO.mono f9.tu
    replace du6 := du6.mono f9.tu
    replace da6 := da6.mono f9.tu
    replace D1 := D1.mono f9.tu
    replace T6 := T6.fr f9
    walk_at "go"
    refine mkT (K := K) (.cons (.str "set") (.cons z2 (.cons (.str "b") (.cons (.int 5) .nil)))) fun p10 H10 n10 f10 D2 => ?_
    replace dO := dO.mono f10.tu
    replace du6 := du6.mono f10.tu
    replace da6 := da6.mono f10.tu
    replace D1 := D1.mono f10.tu
    replace T6 := T6.fr f10
    walk_at "go"
    refine mkT (K := K) .nil fun p11 H11 n11 f11 z3 => ?_
    replace dO := dO.mono f11.tu
    replace du6 := du6.mono f11.tu
    replace da6 := da6.mono f11.tu
    replace D1 := D1.mono f11.tu
    replace D2 := D2.mono f11.tu
    replace T6 := T6.fr f11
    walk_at "go"
    refine mkT (K := K) (.cons (.str "take") (.cons z3 (.cons dO .nil))) fun p12 H12 n12 f12 D3 => ?_
    replace du6 := du6.mono f12.tu
    replace da6 := da6.mono f12.tu
    replace D1 := D1.mono f12.tu
    replace D2 := D2.mono f12.tu
    replace T6 := T6.fr f12
    walk_at "go"
    refine mkT (K := K) (.cons D1 (.cons D2 (.cons D3 .nil))) fun p13 H13 n13 f13 DA => ?_
    replace du6 := du6.mono f13.tu
    replace da6 := da6.mono f13.tu
    replace T6 := T6.fr f13
    have DA' : Dt K H13 (.ref p13) (.tuple ((aheadD o).map Deed.d)) := DA
    walk_at "go"
    refine ⟨t, tv, av, u, ls, b, H, rfl, T6, du6, da6, TH, fun q ds H14 f14 T14 nq L14 hbad => ?_⟩
    have tu14 := T6.tu f14
    have du14 := du6.mono tu14
    have DA14 := DA'.mono tu14
    walk_at "go"
    refine L14.walk (fun i σ H' => Fr [t] H14 H' ∧ Tape K H H' t ∧ ∃ v7 v8, σ = [some (.ref a), some (.ref t), some tv, some (.ref q_as), some av, some ov, some (.ref p13), v7, v8]) ⟨Fr.refl, T14, _, _, rfl⟩ (fun i σ H' h => L14.fr h.1 (by simpa using nq) (T14.tu h.1)) ?_ ?_
    · rintro i dv dd σ H15 hi dd15 ⟨f15, T15, v7, v8, rfl⟩
      obtain ⟨d, hd, rfl⟩ := map_get hi
      have bd := hbad d (List.mem_of_getElem? hd)
      have tu15 := T14.tu f15
      have du15 := du14.mono tu15
      have DA15 := DA14.mono tu15
      have base0 : ∀ H' , Fr [t] H15 H' → Tape K H H' t → ∀ v7 v8 : Option V, Fr [t] H14 H' ∧ Tape K H H' t ∧ ∃ v7' v8', ([some (.ref a), some (.ref t), some tv, some (.ref q_as), some av, some ov, some (.ref p13), v7, v8] : L2.St) = [some (.ref a), some (.ref t), some tv, some (.ref q_as), some av, some ov, some (.ref p13), v7', v8'] := fun H' f T v7 v8 => ⟨f15.trans f, T, _, _, rfl⟩
      walk_at "go"
      refine mkT (K := K) (.cons dd15 .nil) fun p16 H16 n16 f16 d16 => ?_
      walk_at "go"
      refine ⟨tv, _, true, u, [d], 0, rfl, du15.mono f16.tu, d16, ⟨bd.1, fun _ _ => trivial⟩, by exact Nat.le_of_ble_eq_true rfl, by rw [ledT, bd.2], fun _ => ⟨d, [], rfl, bd.2, rfl⟩, fun H17 f17 => ?_⟩
      walk_at "go"
      refine ite_nd (fun h0 => absurd rfl h0) (fun _ => ?_)
      have T17 := (T15.fr f16).fr f17
      have f1517 := f16.trans f17
      walk_at "go"
      refine ⟨t, 2, H, rfl, T17, by decide, by decide, fun r18 H18 a18 b18 f18 T18 => ?_⟩
      walk_at "go"
      refine w_mulI (.inl (by decide)) ?_
      walk_at "go"
      have tu1518 : Tu H15 H18 := f1517.tu.trans (T17.tu f18)
      obtain ⟨bb, ebb, ekk⟩ : ∃ bb : Bool, cutA ((aheadD o).map Deed.d) none (some (3 * r18)) = (if bb then aheadD o else []).map Deed.d ∧ 3 * r18 = (((if bb then 3 else 0 : Nat) : Nat) : Int) := by
        rw [cutA_to _ (by omega)]
        rcases (by omega : r18 = 0 ∨ r18 = 1) with rfl | rfl
        · exact ⟨false, rfl, rfl⟩
        · exact ⟨true, rfl, rfl⟩
      refine (DA15.mono tu1518).slice fun p19 H19 f19 d19 => ?_
      rw [ebb] at d19
      walk_at "go"
      refine mkT (K := K) (.cons ((dd15.mono tu1518).mono f19.tu) .nil) fun p20 H20 n20 f20 d20 => ?_
      have d20' : Dt K H20 (.ref p20) (.tuple (([d] : List Deed).map Deed.d)) := d20
      walk_at "go"
      refine (d19.mono f20.tu).cat d20' (by cases bb <;> exact Nat.le_of_ble_eq_true rfl) fun p21 H21 f21 d21 => ?_
      rw [← List.map_append] at d21
      have f1821 := (f19.trans f20).trans f21
      walk_at "go"
      refine d21.cat ((DA15.mono tu1518).mono f1821.tu) (by cases bb <;> exact Nat.le_of_ble_eq_true rfl) fun p22 H22 f22 d22 => ?_
      rw [← List.map_append] at d22
      have f1822 := f1821.trans f22
      have bl := bad_led lu lo ho cu bd bb
      walk_at "go"
      refine ⟨tv, _, false, u, _, _, rfl, (du15.mono tu1518).mono f1822.tu, d22, bl.1, by cases bb <;> exact Nat.le_of_ble_eq_true rfl, bl.2, (fun h0 => by cases h0), fun H23 f23 => ?_⟩
      walk_at "go"
      refine ite_nd (fun h0 => absurd ekk.symm h0) (fun _ => ?_)
      walk_at "go"
      refine base0 _ ?_ ?_ _ _
      · exact ((f1517.mono (by simp)).trans f18).trans ((f1822.trans f23).mono (by simp))
      · exact (T18.fr f1822).fr f23
    · rintro σ H15 ⟨f15, T15, v7, v8, rfl⟩
      have tu15 := T14.tu f15
      have du15 := du14.mono tu15
      have DA15 := DA14.mono tu15
      have gu := (Bt.good lu fu).mono (show _ ≤ 64 by omega)
      have oka := ok_ahead lu lo ho cu
      walk_at "go"
      refine ⟨tv, _, u, aheadD o, rfl, du15, DA15, oka, by exact Nat.le_of_ble_eq_true rfl, fun u2 y H16 f16 e2 dy => ?_, u, led_ahead lu lo ho 0⟩
      rw [led_ahead lu lo ho 0] at e2
      cases e2
      have du16 := du15.mono f16.tu
      have DA16 := DA15.mono f16.tu
      walk_at "go"
      refine w_eqR dy.dp du16.dp gu.shaped ?_
      walk_at "go"
      refine DA16.slice fun p17 H17 f17 d17 => ?_
      rw [cutA_to _ (by decide)] at d17
      have d17' : Dt K H17 (.ref p17) (.tuple (([.put [] 0 o "a", .set [o] "b" 5] : List Deed).map Deed.d)) := d17
      have e12 : ledT u [.put [] 0 o "a", .set [o] "b" 5] 0 = .ok (t2 u o) := by
        rw [ledT, led1 lu lo ho]
        show ledT (t1 u o) [.set [o] "b" 5] 1 = _
        rw [ledT, led2 lu lo ho]
        rfl
      walk_at "go"
      refine ⟨tv, _, u, _, rfl, du16.mono f17.tu, d17', ⟨oka.1, fun z hz => ⟨(oka.2 z hz).1, fun _ _ => trivial⟩⟩, by exact Nat.le_of_ble_eq_true rfl, fun u2 y2 H18 f18 e2 dy2 => ?_, _, e12⟩
      rw [e12] at e2
      cases e2
      have f1618 := f17.trans f18
      walk_at "go"
      refine Dt.ix 2 (DA16.mono f1618.tu) rfl fun v3 d3 => ?_
      have ok3 : DeedOk (t2 u o) (.take [] o) := ((oka.2 _ (led1 lu lo ho)).2 _ (led2 lu lo ho)).1
      walk_at "go"
      refine ⟨_, v3, t2 u o, .take [] o, rfl, dy2, d3, ok3, fun u3 y3 H19 f19 e3 dy3 => ?_, u, led3 lu lo ho⟩
      rw [led3 lu lo ho] at e3
      cases e3
      walk_at "go"
      refine w_eqR dy3.dp ((du16.mono f1618.tu).mono f19.tu).dp gu.shaped ?_
      walk_at "go"
      exact k _
end

section
variable {w : World} {K : PySem.W.Frag} {h : Heap} {mg : Str → Option Value}
theorem mk_place_of (X : K.In h) (G : h.Ns mainGlobals mg) {f : Addr} {od an : Option Addr} {sl : Array (Option Value)} {oc kV dc pm cd ct : Value} (a : PySem.W.nsIn K mainGlobals "place_of" = some (some (.ref f))) (l : K.lookup f = some ⟨oc, od, .func (PySem.W.fnOf "place_of" "place_of" (defArgs s_place_of) (defBody s_place_of) (defScope s_place_of) .none kV dc pm an cd ct), sl⟩) (c : PySem.W.codeIn K cd "place_of" = true) (k : PySem.W.keepIn K (.ref f) = true) : Loc K mg "place_of" p_place_of s_place_of :=
  have F := fun_mk (st := s_place_of) l c k
  ⟨f, _, F, PySem.W.mg_of X G a, F.binds (ps := p_place_of) fun _ _ _ _ _ _ us hl => match us, hl with | [_, _], _ => rfl⟩
theorem mk_box_found (X : K.In h) (G : h.Ns mainGlobals mg) {f : Addr} {od an : Option Addr} {sl : Array (Option Value)} {oc kV dc pm cd ct : Value} (a : PySem.W.nsIn K mainGlobals "box_found" = some (some (.ref f))) (l : K.lookup f = some ⟨oc, od, .func (PySem.W.fnOf "box_found" "box_found" (defArgs s_box_found) (defBody s_box_found) (defScope s_box_found) .none kV dc pm an cd ct), sl⟩) (c : PySem.W.codeIn K cd "box_found" = true) (k : PySem.W.keepIn K (.ref f) = true) : Loc K mg "box_found" p_box_found s_box_found :=
  have F := fun_mk (st := s_box_found) l c k
  ⟨f, _, F, PySem.W.mg_of X G a, F.binds (ps := p_box_found) fun _ _ _ _ _ _ us hl => match us, hl with | [_, _], _ => rfl⟩
theorem mk_row_found (X : K.In h) (G : h.Ns mainGlobals mg) {f : Addr} {od an : Option Addr} {sl : Array (Option Value)} {oc kV dc pm cd ct : Value} (a : PySem.W.nsIn K mainGlobals "row_found" = some (some (.ref f))) (l : K.lookup f = some ⟨oc, od, .func (PySem.W.fnOf "row_found" "row_found" (defArgs s_row_found) (defBody s_row_found) (defScope s_row_found) .none kV dc pm an cd ct), sl⟩) (c : PySem.W.codeIn K cd "row_found" = true) (k : PySem.W.keepIn K (.ref f) = true) : Loc K mg "row_found" p_row_found s_row_found :=
  have F := fun_mk (st := s_row_found) l c k
  ⟨f, _, F, PySem.W.mg_of X G a, F.binds (ps := p_row_found) fun _ _ _ _ _ _ us hl => match us, hl with | [_, _], _ => rfl⟩
theorem mk_with_box (X : K.In h) (G : h.Ns mainGlobals mg) {f : Addr} {od an : Option Addr} {sl : Array (Option Value)} {oc kV dc pm cd ct : Value} (a : PySem.W.nsIn K mainGlobals "with_box" = some (some (.ref f))) (l : K.lookup f = some ⟨oc, od, .func (PySem.W.fnOf "with_box" "with_box" (defArgs s_with_box) (defBody s_with_box) (defScope s_with_box) .none kV dc pm an cd ct), sl⟩) (c : PySem.W.codeIn K cd "with_box" = true) (k : PySem.W.keepIn K (.ref f) = true) : Loc K mg "with_box" p_with_box s_with_box :=
  have F := fun_mk (st := s_with_box) l c k
  ⟨f, _, F, PySem.W.mg_of X G a, F.binds (ps := p_with_box) fun _ _ _ _ _ _ us hl => match us, hl with | [_, _, _], _ => rfl⟩
theorem mk_with_row (X : K.In h) (G : h.Ns mainGlobals mg) {f : Addr} {od an : Option Addr} {sl : Array (Option Value)} {oc kV dc pm cd ct : Value} (a : PySem.W.nsIn K mainGlobals "with_row" = some (some (.ref f))) (l : K.lookup f = some ⟨oc, od, .func (PySem.W.fnOf "with_row" "with_row" (defArgs s_with_row) (defBody s_with_row) (defScope s_with_row) .none kV dc pm an cd ct), sl⟩) (c : PySem.W.codeIn K cd "with_row" = true) (k : PySem.W.keepIn K (.ref f) = true) : Loc K mg "with_row" p_with_row s_with_row :=
  have F := fun_mk (st := s_with_row) l c k
  ⟨f, _, F, PySem.W.mg_of X G a, F.binds (ps := p_with_row) fun _ _ _ _ _ _ us hl => match us, hl with | [_, _, _], _ => rfl⟩
theorem mk_turned_row (X : K.In h) (G : h.Ns mainGlobals mg) {f : Addr} {od an : Option Addr} {sl : Array (Option Value)} {oc kV dc pm cd ct : Value} (a : PySem.W.nsIn K mainGlobals "turned_row" = some (some (.ref f))) (l : K.lookup f = some ⟨oc, od, .func (PySem.W.fnOf "turned_row" "turned_row" (defArgs s_turned_row) (defBody s_turned_row) (defScope s_turned_row) .none kV dc pm an cd ct), sl⟩) (c : PySem.W.codeIn K cd "turned_row" = true) (k : PySem.W.keepIn K (.ref f) = true) : Loc K mg "turned_row" p_turned_row s_turned_row :=
  have F := fun_mk (st := s_turned_row) l c k
  ⟨f, _, F, PySem.W.mg_of X G a, F.binds (ps := p_turned_row) fun _ _ _ _ _ _ us hl => match us, hl with | [_, _], _ => rfl⟩
theorem mk_turned_box (X : K.In h) (G : h.Ns mainGlobals mg) {f : Addr} {od an : Option Addr} {sl : Array (Option Value)} {oc kV dc pm cd ct : Value} (a : PySem.W.nsIn K mainGlobals "turned_box" = some (some (.ref f))) (l : K.lookup f = some ⟨oc, od, .func (PySem.W.fnOf "turned_box" "turned_box" (defArgs s_turned_box) (defBody s_turned_box) (defScope s_turned_box) .none kV dc pm an cd ct), sl⟩) (c : PySem.W.codeIn K cd "turned_box" = true) (k : PySem.W.keepIn K (.ref f) = true) : Loc K mg "turned_box" p_turned_box s_turned_box :=
  have F := fun_mk (st := s_turned_box) l c k
  ⟨f, _, F, PySem.W.mg_of X G a, F.binds (ps := p_turned_box) fun _ _ _ _ _ _ us hl => match us, hl with | [_, _], _ => rfl⟩
theorem mk_turned (X : K.In h) (G : h.Ns mainGlobals mg) {f : Addr} {od an : Option Addr} {sl : Array (Option Value)} {oc kV dc pm cd ct : Value} (a : PySem.W.nsIn K mainGlobals "turned" = some (some (.ref f))) (l : K.lookup f = some ⟨oc, od, .func (PySem.W.fnOf "turned" "turned" (defArgs s_turned) (defBody s_turned) (defScope s_turned) .none kV dc pm an cd ct), sl⟩) (c : PySem.W.codeIn K cd "turned" = true) (k : PySem.W.keepIn K (.ref f) = true) : Loc K mg "turned" p_turned s_turned :=
  have F := fun_mk (st := s_turned) l c k
  ⟨f, _, F, PySem.W.mg_of X G a, F.binds (ps := p_turned) fun _ _ _ _ _ _ us hl => match us, hl with | [_, _], _ => rfl⟩
theorem mk_done (X : K.In h) (G : h.Ns mainGlobals mg) {f : Addr} {od an : Option Addr} {sl : Array (Option Value)} {oc kV dc pm cd ct : Value} (a : PySem.W.nsIn K mainGlobals "done" = some (some (.ref f))) (l : K.lookup f = some ⟨oc, od, .func (PySem.W.fnOf "done" "done" (defArgs s_done) (defBody s_done) (defScope s_done) .none kV dc pm an cd ct), sl⟩) (c : PySem.W.codeIn K cd "done" = true) (k : PySem.W.keepIn K (.ref f) = true) : Loc K mg "done" p_done s_done :=
  have F := fun_mk (st := s_done) l c k
  ⟨f, _, F, PySem.W.mg_of X G a, F.binds (ps := p_done) fun _ _ _ _ _ _ us hl => match us, hl with | [_, _], _ => rfl⟩
theorem mk_led (X : K.In h) (G : h.Ns mainGlobals mg) {f : Addr} {od an : Option Addr} {sl : Array (Option Value)} {oc kV dc pm cd ct : Value} (a : PySem.W.nsIn K mainGlobals "led" = some (some (.ref f))) (l : K.lookup f = some ⟨oc, od, .func (PySem.W.fnOf "led" "led" (defArgs s_led) (defBody s_led) (defScope s_led) .none kV dc pm an cd ct), sl⟩) (c : PySem.W.codeIn K cd "led" = true) (k : PySem.W.keepIn K (.ref f) = true) : Loc K mg "led" p_led s_led :=
  have F := fun_mk (st := s_led) l c k
  ⟨f, _, F, PySem.W.mg_of X G a, F.binds (ps := p_led) fun _ _ _ _ _ _ us hl => match us, hl with | [_, _], _ => rfl⟩
theorem mk_law_tape (X : K.In h) (G : h.Ns mainGlobals mg) {f : Addr} {od an : Option Addr} {sl : Array (Option Value)} {oc kV dc pm cd ct : Value} (a : PySem.W.nsIn K mainGlobals "_law_tape" = some (some (.ref f))) (l : K.lookup f = some ⟨oc, od, .func (PySem.W.fnOf "_law_tape" "_law_tape" (defArgs s_law_tape) (defBody s_law_tape) (defScope s_law_tape) .none kV dc pm an cd ct), sl⟩) (c : PySem.W.codeIn K cd "_law_tape" = true) (k : PySem.W.keepIn K (.ref f) = true) : Loc K mg "_law_tape" p_law_tape s_law_tape :=
  have F := fun_mk (st := s_law_tape) l c k
  ⟨f, _, F, PySem.W.mg_of X G a, F.binds (ps := p_law_tape) fun _ _ _ _ _ _ us hl => match us, hl with | [_], _ => rfl⟩
theorem mk_law_draw (X : K.In h) (G : h.Ns mainGlobals mg) {f : Addr} {od an : Option Addr} {sl : Array (Option Value)} {oc kV dc pm cd ct : Value} (a : PySem.W.nsIn K mainGlobals "_law_draw" = some (some (.ref f))) (l : K.lookup f = some ⟨oc, od, .func (PySem.W.fnOf "_law_draw" "_law_draw" (defArgs s_law_draw) (defBody s_law_draw) (defScope s_law_draw) .none kV dc pm an cd ct), sl⟩) (c : PySem.W.codeIn K cd "_law_draw" = true) (k : PySem.W.keepIn K (.ref f) = true) : Loc K mg "_law_draw" p_law_draw s_law_draw :=
  have F := fun_mk (st := s_law_draw) l c k
  ⟨f, _, F, PySem.W.mg_of X G a, F.binds (ps := p_law_draw) fun _ _ _ _ _ _ us hl => match us, hl with | [_, _], _ => rfl⟩
theorem mk_law_number (X : K.In h) (G : h.Ns mainGlobals mg) {f : Addr} {od an : Option Addr} {sl : Array (Option Value)} {oc kV dc pm cd ct : Value} (a : PySem.W.nsIn K mainGlobals "_law_number" = some (some (.ref f))) (l : K.lookup f = some ⟨oc, od, .func (PySem.W.fnOf "_law_number" "_law_number" (defArgs s_law_number) (defBody s_law_number) (defScope s_law_number) .none kV dc pm an cd ct), sl⟩) (c : PySem.W.codeIn K cd "_law_number" = true) (k : PySem.W.keepIn K (.ref f) = true) : Loc K mg "_law_number" p_law_number s_law_number :=
  have F := fun_mk (st := s_law_number) l c k
  ⟨f, _, F, PySem.W.mg_of X G a, F.binds (ps := p_law_number) fun _ _ _ _ _ _ us hl => match us, hl with | [_], _ => rfl⟩
theorem mk_law_names (X : K.In h) (G : h.Ns mainGlobals mg) {f : Addr} {od an : Option Addr} {sl : Array (Option Value)} {oc kV dc pm cd ct : Value} (a : PySem.W.nsIn K mainGlobals "_law_names" = some (some (.ref f))) (l : K.lookup f = some ⟨oc, od, .func (PySem.W.fnOf "_law_names" "_law_names" (defArgs s_law_names) (defBody s_law_names) (defScope s_law_names) .none kV dc pm an cd ct), sl⟩) (c : PySem.W.codeIn K cd "_law_names" = true) (k : PySem.W.keepIn K (.ref f) = true) : Loc K mg "_law_names" p_law_names s_law_names :=
  have F := fun_mk (st := s_law_names) l c k
  ⟨f, _, F, PySem.W.mg_of X G a, F.binds (ps := p_law_names) fun _ _ _ _ _ _ us hl => match us, hl with | [_, _], _ => rfl⟩
theorem mk_law_spot (X : K.In h) (G : h.Ns mainGlobals mg) {f : Addr} {od an : Option Addr} {sl : Array (Option Value)} {oc kV dc pm cd ct : Value} (a : PySem.W.nsIn K mainGlobals "_law_spot" = some (some (.ref f))) (l : K.lookup f = some ⟨oc, od, .func (PySem.W.fnOf "_law_spot" "_law_spot" (defArgs s_law_spot) (defBody s_law_spot) (defScope s_law_spot) .none kV dc pm an cd ct), sl⟩) (c : PySem.W.codeIn K cd "_law_spot" = true) (k : PySem.W.keepIn K (.ref f) = true) : Loc K mg "_law_spot" p_law_spot s_law_spot :=
  have F := fun_mk (st := s_law_spot) l c k
  ⟨f, _, F, PySem.W.mg_of X G a, F.binds (ps := p_law_spot) fun _ _ _ _ _ _ us hl => match us, hl with | [_], _ => rfl⟩
theorem mk_law_label (X : K.In h) (G : h.Ns mainGlobals mg) {f : Addr} {od an : Option Addr} {sl : Array (Option Value)} {oc kV dc pm cd ct : Value} (a : PySem.W.nsIn K mainGlobals "_law_label" = some (some (.ref f))) (l : K.lookup f = some ⟨oc, od, .func (PySem.W.fnOf "_law_label" "_law_label" (defArgs s_law_label) (defBody s_law_label) (defScope s_law_label) .none kV dc pm an cd ct), sl⟩) (c : PySem.W.codeIn K cd "_law_label" = true) (k : PySem.W.keepIn K (.ref f) = true) : Loc K mg "_law_label" p_law_label s_law_label :=
  have F := fun_mk (st := s_law_label) l c k
  ⟨f, _, F, PySem.W.mg_of X G a, F.binds (ps := p_law_label) fun _ _ _ _ _ _ us hl => match us, hl with | [_], _ => rfl⟩
theorem mk_law_sets (X : K.In h) (G : h.Ns mainGlobals mg) {f : Addr} {od an : Option Addr} {sl : Array (Option Value)} {oc kV dc pm cd ct : Value} (a : PySem.W.nsIn K mainGlobals "_law_sets" = some (some (.ref f))) (l : K.lookup f = some ⟨oc, od, .func (PySem.W.fnOf "_law_sets" "_law_sets" (defArgs s_law_sets) (defBody s_law_sets) (defScope s_law_sets) .none kV dc pm an cd ct), sl⟩) (c : PySem.W.codeIn K cd "_law_sets" = true) (k : PySem.W.keepIn K (.ref f) = true) : Loc K mg "_law_sets" p_law_sets s_law_sets :=
  have F := fun_mk (st := s_law_sets) l c k
  ⟨f, _, F, PySem.W.mg_of X G a, F.binds (ps := p_law_sets) fun _ _ _ _ _ _ us hl => match us, hl with | [_], _ => rfl⟩
theorem mk_law_hands (X : K.In h) (G : h.Ns mainGlobals mg) {f : Addr} {od an : Option Addr} {sl : Array (Option Value)} {oc kV dc pm cd ct : Value} (a : PySem.W.nsIn K mainGlobals "_law_hands" = some (some (.ref f))) (l : K.lookup f = some ⟨oc, od, .func (PySem.W.fnOf "_law_hands" "_law_hands" (defArgs s_law_hands) (defBody s_law_hands) (defScope s_law_hands) .none kV dc pm an cd ct), sl⟩) (c : PySem.W.codeIn K cd "_law_hands" = true) (k : PySem.W.keepIn K (.ref f) = true) : Loc K mg "_law_hands" p_law_hands s_law_hands :=
  have F := fun_mk (st := s_law_hands) l c k
  ⟨f, _, F, PySem.W.mg_of X G a, F.binds (ps := p_law_hands) fun _ _ _ _ _ _ us hl => match us, hl with | [_], _ => rfl⟩
theorem mk_law_box (X : K.In h) (G : h.Ns mainGlobals mg) {f : Addr} {od an : Option Addr} {sl : Array (Option Value)} {oc kV dc pm cd ct : Value} (a : PySem.W.nsIn K mainGlobals "_law_box" = some (some (.ref f))) (l : K.lookup f = some ⟨oc, od, .func (PySem.W.fnOf "_law_box" "_law_box" (defArgs s_law_box) (defBody s_law_box) (defScope s_law_box) .none kV dc pm an cd ct), sl⟩) (c : PySem.W.codeIn K cd "_law_box" = true) (k : PySem.W.keepIn K (.ref f) = true) : Loc K mg "_law_box" p_law_box s_law_box :=
  have F := fun_mk (st := s_law_box) l c k
  ⟨f, _, F, PySem.W.mg_of X G a, F.binds (ps := p_law_box) fun _ _ _ _ _ _ us hl => match us, hl with | [_, _], _ => rfl⟩
theorem mk_law_row (X : K.In h) (G : h.Ns mainGlobals mg) {f : Addr} {od an : Option Addr} {sl : Array (Option Value)} {oc kV dc pm cd ct : Value} (a : PySem.W.nsIn K mainGlobals "_law_row" = some (some (.ref f))) (l : K.lookup f = some ⟨oc, od, .func (PySem.W.fnOf "_law_row" "_law_row" (defArgs s_law_row) (defBody s_law_row) (defScope s_law_row) .none kV dc pm an cd ct), sl⟩) (c : PySem.W.codeIn K cd "_law_row" = true) (k : PySem.W.keepIn K (.ref f) = true) : Loc K mg "_law_row" p_law_row s_law_row :=
  have F := fun_mk (st := s_law_row) l c k
  ⟨f, _, F, PySem.W.mg_of X G a, F.binds (ps := p_law_row) fun _ _ _ _ _ _ us hl => match us, hl with | [_, _], _ => rfl⟩
theorem mk_law_addresses (X : K.In h) (G : h.Ns mainGlobals mg) {f : Addr} {od an : Option Addr} {sl : Array (Option Value)} {oc kV dc pm cd ct : Value} (a : PySem.W.nsIn K mainGlobals "_law_addresses" = some (some (.ref f))) (l : K.lookup f = some ⟨oc, od, .func (PySem.W.fnOf "_law_addresses" "_law_addresses" (defArgs s_law_addresses) (defBody s_law_addresses) (defScope s_law_addresses) .none kV dc pm an cd ct), sl⟩) (c : PySem.W.codeIn K cd "_law_addresses" = true) (k : PySem.W.keepIn K (.ref f) = true) : Loc K mg "_law_addresses" p_law_addresses s_law_addresses :=
  have F := fun_mk (st := s_law_addresses) l c k
  ⟨f, _, F, PySem.W.mg_of X G a, F.binds (ps := p_law_addresses) fun _ _ _ _ _ _ us hl => match us, hl with | [_, _], _ => rfl⟩
theorem mk_law_box_of (X : K.In h) (G : h.Ns mainGlobals mg) {f : Addr} {od an : Option Addr} {sl : Array (Option Value)} {oc kV dc pm cd ct : Value} (a : PySem.W.nsIn K mainGlobals "_law_box_of" = some (some (.ref f))) (l : K.lookup f = some ⟨oc, od, .func (PySem.W.fnOf "_law_box_of" "_law_box_of" (defArgs s_law_box_of) (defBody s_law_box_of) (defScope s_law_box_of) .none kV dc pm an cd ct), sl⟩) (c : PySem.W.codeIn K cd "_law_box_of" = true) (k : PySem.W.keepIn K (.ref f) = true) : Loc K mg "_law_box_of" p_law_box_of s_law_box_of :=
  have F := fun_mk (st := s_law_box_of) l c k
  ⟨f, _, F, PySem.W.mg_of X G a, F.binds (ps := p_law_box_of) fun _ _ _ _ _ _ us hl => match us, hl with | [_, _], _ => rfl⟩
theorem mk_law_strange (X : K.In h) (G : h.Ns mainGlobals mg) {f : Addr} {od an : Option Addr} {sl : Array (Option Value)} {oc kV dc pm cd ct : Value} (a : PySem.W.nsIn K mainGlobals "_law_strange" = some (some (.ref f))) (l : K.lookup f = some ⟨oc, od, .func (PySem.W.fnOf "_law_strange" "_law_strange" (defArgs s_law_strange) (defBody s_law_strange) (defScope s_law_strange) .none kV dc pm an cd ct), sl⟩) (c : PySem.W.codeIn K cd "_law_strange" = true) (k : PySem.W.keepIn K (.ref f) = true) : Loc K mg "_law_strange" p_law_strange s_law_strange :=
  have F := fun_mk (st := s_law_strange) l c k
  ⟨f, _, F, PySem.W.mg_of X G a, F.binds (ps := p_law_strange) fun _ _ _ _ _ _ us hl => match us, hl with | [_, _], _ => rfl⟩
theorem mk_law_bad (X : K.In h) (G : h.Ns mainGlobals mg) {f : Addr} {od an : Option Addr} {sl : Array (Option Value)} {oc kV dc pm cd ct : Value} (a : PySem.W.nsIn K mainGlobals "_law_bad" = some (some (.ref f))) (l : K.lookup f = some ⟨oc, od, .func (PySem.W.fnOf "_law_bad" "_law_bad" (defArgs s_law_bad) (defBody s_law_bad) (defScope s_law_bad) .none kV dc pm an cd ct), sl⟩) (c : PySem.W.codeIn K cd "_law_bad" = true) (k : PySem.W.keepIn K (.ref f) = true) : Loc K mg "_law_bad" p_law_bad s_law_bad :=
  have F := fun_mk (st := s_law_bad) l c k
  ⟨f, _, F, PySem.W.mg_of X G a, F.binds (ps := p_law_bad) fun _ _ _ _ _ _ us hl => match us, hl with | [_, _, _], _ => rfl⟩
theorem mk_law_refused (X : K.In h) (G : h.Ns mainGlobals mg) {f : Addr} {od an : Option Addr} {sl : Array (Option Value)} {oc kV dc pm cd ct : Value} (a : PySem.W.nsIn K mainGlobals "_law_refused" = some (some (.ref f))) (l : K.lookup f = some ⟨oc, od, .func (PySem.W.fnOf "_law_refused" "_law_refused" (defArgs s_law_refused) (defBody s_law_refused) (defScope s_law_refused) .none kV dc pm an cd ct), sl⟩) (c : PySem.W.codeIn K cd "_law_refused" = true) (k : PySem.W.keepIn K (.ref f) = true) : Loc K mg "_law_refused" p_law_refused s_law_refused :=
  have F := fun_mk (st := s_law_refused) l c k
  ⟨f, _, F, PySem.W.mg_of X G a, F.binds (ps := p_law_refused) fun _ _ _ _ _ _ us hl => match us, hl with | [_, _, _], _ => rfl⟩
theorem mk_law (X : K.In h) (G : h.Ns mainGlobals mg) {f : Addr} {od an : Option Addr} {sl : Array (Option Value)} {oc kV dc pm cd ct : Value} (a : PySem.W.nsIn K mainGlobals "law" = some (some (.ref f))) (l : K.lookup f = some ⟨oc, od, .func (PySem.W.fnOf "law" "law" (defArgs s_law) (defBody s_law) (defScope s_law) .none kV dc pm an cd ct), sl⟩) (c : PySem.W.codeIn K cd "law" = true) (k : PySem.W.keepIn K (.ref f) = true) : Loc K mg "law" p_law s_law :=
  have F := fun_mk (st := s_law) l c k
  ⟨f, _, F, PySem.W.mg_of X G a, F.binds (ps := p_law) fun _ _ _ _ _ _ us hl => match us, hl with | [_], _ => rfl⟩
theorem all_env (X : K.In h) (G : h.Ns mainGlobals mg)
    {f0 : Addr} {od0 an0 : Option Addr} {sl0 : Array (Option Value)} {oc0 kV0 dc0 pm0 cd0 ct0 : Value}
    (a0 : PySem.W.nsIn K mainGlobals "place_of" = some (some (.ref f0))) (l0 : K.lookup f0 = some ⟨oc0, od0, .func (PySem.W.fnOf "place_of" "place_of" (defArgs s_place_of) (defBody s_place_of) (defScope s_place_of) .none kV0 dc0 pm0 an0 cd0 ct0), sl0⟩) (c0 : PySem.W.codeIn K cd0 "place_of" = true) (k0 : PySem.W.keepIn K (.ref f0) = true)
    {f1 : Addr} {od1 an1 : Option Addr} {sl1 : Array (Option Value)} {oc1 kV1 dc1 pm1 cd1 ct1 : Value}
    (a1 : PySem.W.nsIn K mainGlobals "box_found" = some (some (.ref f1))) (l1 : K.lookup f1 = some ⟨oc1, od1, .func (PySem.W.fnOf "box_found" "box_found" (defArgs s_box_found) (defBody s_box_found) (defScope s_box_found) .none kV1 dc1 pm1 an1 cd1 ct1), sl1⟩) (c1 : PySem.W.codeIn K cd1 "box_found" = true) (k1 : PySem.W.keepIn K (.ref f1) = true)
    {f2 : Addr} {od2 an2 : Option Addr} {sl2 : Array (Option Value)} {oc2 kV2 dc2 pm2 cd2 ct2 : Value}
    (a2 : PySem.W.nsIn K mainGlobals "row_found" = some (some (.ref f2))) (l2 : K.lookup f2 = some ⟨oc2, od2, .func (PySem.W.fnOf "row_found" "row_found" (defArgs s_row_found) (defBody s_row_found) (defScope s_row_found) .none kV2 dc2 pm2 an2 cd2 ct2), sl2⟩) (c2 : PySem.W.codeIn K cd2 "row_found" = true) (k2 : PySem.W.keepIn K (.ref f2) = true)
    {f3 : Addr} {od3 an3 : Option Addr} {sl3 : Array (Option Value)} {oc3 kV3 dc3 pm3 cd3 ct3 : Value}
    (a3 : PySem.W.nsIn K mainGlobals "with_box" = some (some (.ref f3))) (l3 : K.lookup f3 = some ⟨oc3, od3, .func (PySem.W.fnOf "with_box" "with_box" (defArgs s_with_box) (defBody s_with_box) (defScope s_with_box) .none kV3 dc3 pm3 an3 cd3 ct3), sl3⟩) (c3 : PySem.W.codeIn K cd3 "with_box" = true) (k3 : PySem.W.keepIn K (.ref f3) = true)
    {f4 : Addr} {od4 an4 : Option Addr} {sl4 : Array (Option Value)} {oc4 kV4 dc4 pm4 cd4 ct4 : Value}
    (a4 : PySem.W.nsIn K mainGlobals "with_row" = some (some (.ref f4))) (l4 : K.lookup f4 = some ⟨oc4, od4, .func (PySem.W.fnOf "with_row" "with_row" (defArgs s_with_row) (defBody s_with_row) (defScope s_with_row) .none kV4 dc4 pm4 an4 cd4 ct4), sl4⟩) (c4 : PySem.W.codeIn K cd4 "with_row" = true) (k4 : PySem.W.keepIn K (.ref f4) = true)
    {f5 : Addr} {od5 an5 : Option Addr} {sl5 : Array (Option Value)} {oc5 kV5 dc5 pm5 cd5 ct5 : Value}
    (a5 : PySem.W.nsIn K mainGlobals "turned_row" = some (some (.ref f5))) (l5 : K.lookup f5 = some ⟨oc5, od5, .func (PySem.W.fnOf "turned_row" "turned_row" (defArgs s_turned_row) (defBody s_turned_row) (defScope s_turned_row) .none kV5 dc5 pm5 an5 cd5 ct5), sl5⟩) (c5 : PySem.W.codeIn K cd5 "turned_row" = true) (k5 : PySem.W.keepIn K (.ref f5) = true)
    {f6 : Addr} {od6 an6 : Option Addr} {sl6 : Array (Option Value)} {oc6 kV6 dc6 pm6 cd6 ct6 : Value}
    (a6 : PySem.W.nsIn K mainGlobals "turned_box" = some (some (.ref f6))) (l6 : K.lookup f6 = some ⟨oc6, od6, .func (PySem.W.fnOf "turned_box" "turned_box" (defArgs s_turned_box) (defBody s_turned_box) (defScope s_turned_box) .none kV6 dc6 pm6 an6 cd6 ct6), sl6⟩) (c6 : PySem.W.codeIn K cd6 "turned_box" = true) (k6 : PySem.W.keepIn K (.ref f6) = true)
    {f7 : Addr} {od7 an7 : Option Addr} {sl7 : Array (Option Value)} {oc7 kV7 dc7 pm7 cd7 ct7 : Value}
    (a7 : PySem.W.nsIn K mainGlobals "turned" = some (some (.ref f7))) (l7 : K.lookup f7 = some ⟨oc7, od7, .func (PySem.W.fnOf "turned" "turned" (defArgs s_turned) (defBody s_turned) (defScope s_turned) .none kV7 dc7 pm7 an7 cd7 ct7), sl7⟩) (c7 : PySem.W.codeIn K cd7 "turned" = true) (k7 : PySem.W.keepIn K (.ref f7) = true)
    {f8 : Addr} {od8 an8 : Option Addr} {sl8 : Array (Option Value)} {oc8 kV8 dc8 pm8 cd8 ct8 : Value}
    (a8 : PySem.W.nsIn K mainGlobals "done" = some (some (.ref f8))) (l8 : K.lookup f8 = some ⟨oc8, od8, .func (PySem.W.fnOf "done" "done" (defArgs s_done) (defBody s_done) (defScope s_done) .none kV8 dc8 pm8 an8 cd8 ct8), sl8⟩) (c8 : PySem.W.codeIn K cd8 "done" = true) (k8 : PySem.W.keepIn K (.ref f8) = true)
    {f9 : Addr} {od9 an9 : Option Addr} {sl9 : Array (Option Value)} {oc9 kV9 dc9 pm9 cd9 ct9 : Value}
    (a9 : PySem.W.nsIn K mainGlobals "led" = some (some (.ref f9))) (l9 : K.lookup f9 = some ⟨oc9, od9, .func (PySem.W.fnOf "led" "led" (defArgs s_led) (defBody s_led) (defScope s_led) .none kV9 dc9 pm9 an9 cd9 ct9), sl9⟩) (c9 : PySem.W.codeIn K cd9 "led" = true) (k9 : PySem.W.keepIn K (.ref f9) = true)
    {f10 : Addr} {od10 an10 : Option Addr} {sl10 : Array (Option Value)} {oc10 kV10 dc10 pm10 cd10 ct10 : Value}
    (a10 : PySem.W.nsIn K mainGlobals "_law_tape" = some (some (.ref f10))) (l10 : K.lookup f10 = some ⟨oc10, od10, .func (PySem.W.fnOf "_law_tape" "_law_tape" (defArgs s_law_tape) (defBody s_law_tape) (defScope s_law_tape) .none kV10 dc10 pm10 an10 cd10 ct10), sl10⟩) (c10 : PySem.W.codeIn K cd10 "_law_tape" = true) (k10 : PySem.W.keepIn K (.ref f10) = true)
    {f11 : Addr} {od11 an11 : Option Addr} {sl11 : Array (Option Value)} {oc11 kV11 dc11 pm11 cd11 ct11 : Value}
    (a11 : PySem.W.nsIn K mainGlobals "_law_draw" = some (some (.ref f11))) (l11 : K.lookup f11 = some ⟨oc11, od11, .func (PySem.W.fnOf "_law_draw" "_law_draw" (defArgs s_law_draw) (defBody s_law_draw) (defScope s_law_draw) .none kV11 dc11 pm11 an11 cd11 ct11), sl11⟩) (c11 : PySem.W.codeIn K cd11 "_law_draw" = true) (k11 : PySem.W.keepIn K (.ref f11) = true)
    {f12 : Addr} {od12 an12 : Option Addr} {sl12 : Array (Option Value)} {oc12 kV12 dc12 pm12 cd12 ct12 : Value}
    (a12 : PySem.W.nsIn K mainGlobals "_law_number" = some (some (.ref f12))) (l12 : K.lookup f12 = some ⟨oc12, od12, .func (PySem.W.fnOf "_law_number" "_law_number" (defArgs s_law_number) (defBody s_law_number) (defScope s_law_number) .none kV12 dc12 pm12 an12 cd12 ct12), sl12⟩) (c12 : PySem.W.codeIn K cd12 "_law_number" = true) (k12 : PySem.W.keepIn K (.ref f12) = true)
    {f13 : Addr} {od13 an13 : Option Addr} {sl13 : Array (Option Value)} {oc13 kV13 dc13 pm13 cd13 ct13 : Value}
    (a13 : PySem.W.nsIn K mainGlobals "_law_names" = some (some (.ref f13))) (l13 : K.lookup f13 = some ⟨oc13, od13, .func (PySem.W.fnOf "_law_names" "_law_names" (defArgs s_law_names) (defBody s_law_names) (defScope s_law_names) .none kV13 dc13 pm13 an13 cd13 ct13), sl13⟩) (c13 : PySem.W.codeIn K cd13 "_law_names" = true) (k13 : PySem.W.keepIn K (.ref f13) = true)
    {f14 : Addr} {od14 an14 : Option Addr} {sl14 : Array (Option Value)} {oc14 kV14 dc14 pm14 cd14 ct14 : Value}
    (a14 : PySem.W.nsIn K mainGlobals "_law_spot" = some (some (.ref f14))) (l14 : K.lookup f14 = some ⟨oc14, od14, .func (PySem.W.fnOf "_law_spot" "_law_spot" (defArgs s_law_spot) (defBody s_law_spot) (defScope s_law_spot) .none kV14 dc14 pm14 an14 cd14 ct14), sl14⟩) (c14 : PySem.W.codeIn K cd14 "_law_spot" = true) (k14 : PySem.W.keepIn K (.ref f14) = true)
    {f15 : Addr} {od15 an15 : Option Addr} {sl15 : Array (Option Value)} {oc15 kV15 dc15 pm15 cd15 ct15 : Value}
    (a15 : PySem.W.nsIn K mainGlobals "_law_label" = some (some (.ref f15))) (l15 : K.lookup f15 = some ⟨oc15, od15, .func (PySem.W.fnOf "_law_label" "_law_label" (defArgs s_law_label) (defBody s_law_label) (defScope s_law_label) .none kV15 dc15 pm15 an15 cd15 ct15), sl15⟩) (c15 : PySem.W.codeIn K cd15 "_law_label" = true) (k15 : PySem.W.keepIn K (.ref f15) = true)
    {f16 : Addr} {od16 an16 : Option Addr} {sl16 : Array (Option Value)} {oc16 kV16 dc16 pm16 cd16 ct16 : Value}
    (a16 : PySem.W.nsIn K mainGlobals "_law_sets" = some (some (.ref f16))) (l16 : K.lookup f16 = some ⟨oc16, od16, .func (PySem.W.fnOf "_law_sets" "_law_sets" (defArgs s_law_sets) (defBody s_law_sets) (defScope s_law_sets) .none kV16 dc16 pm16 an16 cd16 ct16), sl16⟩) (c16 : PySem.W.codeIn K cd16 "_law_sets" = true) (k16 : PySem.W.keepIn K (.ref f16) = true)
    {f17 : Addr} {od17 an17 : Option Addr} {sl17 : Array (Option Value)} {oc17 kV17 dc17 pm17 cd17 ct17 : Value}
    (a17 : PySem.W.nsIn K mainGlobals "_law_hands" = some (some (.ref f17))) (l17 : K.lookup f17 = some ⟨oc17, od17, .func (PySem.W.fnOf "_law_hands" "_law_hands" (defArgs s_law_hands) (defBody s_law_hands) (defScope s_law_hands) .none kV17 dc17 pm17 an17 cd17 ct17), sl17⟩) (c17 : PySem.W.codeIn K cd17 "_law_hands" = true) (k17 : PySem.W.keepIn K (.ref f17) = true)
    {f18 : Addr} {od18 an18 : Option Addr} {sl18 : Array (Option Value)} {oc18 kV18 dc18 pm18 cd18 ct18 : Value}
    (a18 : PySem.W.nsIn K mainGlobals "_law_box" = some (some (.ref f18))) (l18 : K.lookup f18 = some ⟨oc18, od18, .func (PySem.W.fnOf "_law_box" "_law_box" (defArgs s_law_box) (defBody s_law_box) (defScope s_law_box) .none kV18 dc18 pm18 an18 cd18 ct18), sl18⟩) (c18 : PySem.W.codeIn K cd18 "_law_box" = true) (k18 : PySem.W.keepIn K (.ref f18) = true)
    {f19 : Addr} {od19 an19 : Option Addr} {sl19 : Array (Option Value)} {oc19 kV19 dc19 pm19 cd19 ct19 : Value}
    (a19 : PySem.W.nsIn K mainGlobals "_law_row" = some (some (.ref f19))) (l19 : K.lookup f19 = some ⟨oc19, od19, .func (PySem.W.fnOf "_law_row" "_law_row" (defArgs s_law_row) (defBody s_law_row) (defScope s_law_row) .none kV19 dc19 pm19 an19 cd19 ct19), sl19⟩) (c19 : PySem.W.codeIn K cd19 "_law_row" = true) (k19 : PySem.W.keepIn K (.ref f19) = true)
    {f20 : Addr} {od20 an20 : Option Addr} {sl20 : Array (Option Value)} {oc20 kV20 dc20 pm20 cd20 ct20 : Value}
    (a20 : PySem.W.nsIn K mainGlobals "_law_addresses" = some (some (.ref f20))) (l20 : K.lookup f20 = some ⟨oc20, od20, .func (PySem.W.fnOf "_law_addresses" "_law_addresses" (defArgs s_law_addresses) (defBody s_law_addresses) (defScope s_law_addresses) .none kV20 dc20 pm20 an20 cd20 ct20), sl20⟩) (c20 : PySem.W.codeIn K cd20 "_law_addresses" = true) (k20 : PySem.W.keepIn K (.ref f20) = true)
    {f21 : Addr} {od21 an21 : Option Addr} {sl21 : Array (Option Value)} {oc21 kV21 dc21 pm21 cd21 ct21 : Value}
    (a21 : PySem.W.nsIn K mainGlobals "_law_box_of" = some (some (.ref f21))) (l21 : K.lookup f21 = some ⟨oc21, od21, .func (PySem.W.fnOf "_law_box_of" "_law_box_of" (defArgs s_law_box_of) (defBody s_law_box_of) (defScope s_law_box_of) .none kV21 dc21 pm21 an21 cd21 ct21), sl21⟩) (c21 : PySem.W.codeIn K cd21 "_law_box_of" = true) (k21 : PySem.W.keepIn K (.ref f21) = true)
    {f22 : Addr} {od22 an22 : Option Addr} {sl22 : Array (Option Value)} {oc22 kV22 dc22 pm22 cd22 ct22 : Value}
    (a22 : PySem.W.nsIn K mainGlobals "_law_strange" = some (some (.ref f22))) (l22 : K.lookup f22 = some ⟨oc22, od22, .func (PySem.W.fnOf "_law_strange" "_law_strange" (defArgs s_law_strange) (defBody s_law_strange) (defScope s_law_strange) .none kV22 dc22 pm22 an22 cd22 ct22), sl22⟩) (c22 : PySem.W.codeIn K cd22 "_law_strange" = true) (k22 : PySem.W.keepIn K (.ref f22) = true)
    {f23 : Addr} {od23 an23 : Option Addr} {sl23 : Array (Option Value)} {oc23 kV23 dc23 pm23 cd23 ct23 : Value}
    (a23 : PySem.W.nsIn K mainGlobals "_law_bad" = some (some (.ref f23))) (l23 : K.lookup f23 = some ⟨oc23, od23, .func (PySem.W.fnOf "_law_bad" "_law_bad" (defArgs s_law_bad) (defBody s_law_bad) (defScope s_law_bad) .none kV23 dc23 pm23 an23 cd23 ct23), sl23⟩) (c23 : PySem.W.codeIn K cd23 "_law_bad" = true) (k23 : PySem.W.keepIn K (.ref f23) = true)
    {f24 : Addr} {od24 an24 : Option Addr} {sl24 : Array (Option Value)} {oc24 kV24 dc24 pm24 cd24 ct24 : Value}
    (a24 : PySem.W.nsIn K mainGlobals "_law_refused" = some (some (.ref f24))) (l24 : K.lookup f24 = some ⟨oc24, od24, .func (PySem.W.fnOf "_law_refused" "_law_refused" (defArgs s_law_refused) (defBody s_law_refused) (defScope s_law_refused) .none kV24 dc24 pm24 an24 cd24 ct24), sl24⟩) (c24 : PySem.W.codeIn K cd24 "_law_refused" = true) (k24 : PySem.W.keepIn K (.ref f24) = true)
    {f25 : Addr} {od25 an25 : Option Addr} {sl25 : Array (Option Value)} {oc25 kV25 dc25 pm25 cd25 ct25 : Value}
    (a25 : PySem.W.nsIn K mainGlobals "law" = some (some (.ref f25))) (l25 : K.lookup f25 = some ⟨oc25, od25, .func (PySem.W.fnOf "law" "law" (defArgs s_law) (defBody s_law) (defScope s_law) .none kV25 dc25 pm25 an25 cd25 ct25), sl25⟩) (c25 : PySem.W.codeIn K cd25 "law" = true) (k25 : PySem.W.keepIn K (.ref f25) = true)
    (z_ValueError : PySem.W.nsIn K mainGlobals "ValueError" = some none)
    (z_abs : PySem.W.nsIn K mainGlobals "abs" = some none)
    (z_bool : PySem.W.nsIn K mainGlobals "bool" = some none)
    (z_isinstance : PySem.W.nsIn K mainGlobals "isinstance" = some none)
    (z_len : PySem.W.nsIn K mainGlobals "len" = some none)
    (z_range : PySem.W.nsIn K mainGlobals "range" = some none)
    (z_sorted : PySem.W.nsIn K mainGlobals "sorted" = some none)
    (z_tuple : PySem.W.nsIn K mainGlobals "tuple" = some none) : Env K mg :=
  { l_place_of := mk_place_of X G a0 l0 c0 k0,
    l_box_found := mk_box_found X G a1 l1 c1 k1,
    l_row_found := mk_row_found X G a2 l2 c2 k2,
    l_with_box := mk_with_box X G a3 l3 c3 k3,
    l_with_row := mk_with_row X G a4 l4 c4 k4,
    l_turned_row := mk_turned_row X G a5 l5 c5 k5,
    l_turned_box := mk_turned_box X G a6 l6 c6 k6,
    l_turned := mk_turned X G a7 l7 c7 k7,
    l_done := mk_done X G a8 l8 c8 k8,
    l_led := mk_led X G a9 l9 c9 k9,
    l_law_tape := mk_law_tape X G a10 l10 c10 k10,
    l_law_draw := mk_law_draw X G a11 l11 c11 k11,
    l_law_number := mk_law_number X G a12 l12 c12 k12,
    l_law_names := mk_law_names X G a13 l13 c13 k13,
    l_law_spot := mk_law_spot X G a14 l14 c14 k14,
    l_law_label := mk_law_label X G a15 l15 c15 k15,
    l_law_sets := mk_law_sets X G a16 l16 c16 k16,
    l_law_hands := mk_law_hands X G a17 l17 c17 k17,
    l_law_box := mk_law_box X G a18 l18 c18 k18,
    l_law_row := mk_law_row X G a19 l19 c19 k19,
    l_law_addresses := mk_law_addresses X G a20 l20 c20 k20,
    l_law_box_of := mk_law_box_of X G a21 l21 c21 k21,
    l_law_strange := mk_law_strange X G a22 l22 c22 k22,
    l_law_bad := mk_law_bad X G a23 l23 c23 k23,
    l_law_refused := mk_law_refused X G a24 l24 c24 k24,
    l_law := mk_law X G a25 l25 c25 k25,
    m_ValueError := PySem.W.mg_none_of X G z_ValueError,
    m_abs := PySem.W.mg_none_of X G z_abs,
    m_bool := PySem.W.mg_none_of X G z_bool,
    m_isinstance := PySem.W.mg_none_of X G z_isinstance,
    m_len := PySem.W.mg_none_of X G z_len,
    m_range := PySem.W.mg_none_of X G z_range,
    m_sorted := PySem.W.mg_none_of X G z_sorted,
    m_tuple := PySem.W.mg_none_of X G z_tuple }
theorem all_exc (X : K.In h) (G : h.Ns mainGlobals mg) {cV cT cB cD cC cR : Addr}
    (aV : PySem.W.nsIn K mainGlobals "ViewError" = some (some (.ref cV)))
    (aT : PySem.W.nsIn K mainGlobals "NoText" = some (some (.ref cT)))
    (aB : PySem.W.nsIn K mainGlobals "NoDeed" = some (some (.ref cB)))
    (aD : PySem.W.nsIn K mainGlobals "NoBox" = some (some (.ref cD)))
    (aC : PySem.W.nsIn K mainGlobals "NoChange" = some (some (.ref cC)))
    (aR : PySem.W.nsIn K mainGlobals "NoRow" = some (some (.ref cR)))
    (uR : PySem.W.readsIn K cV (.type "type") = true)
    (uS : PySem.W.specialIn K (.ref cV) "__getattribute__" = some (some (.builtin "type.__getattribute__")))
    (uI : PySem.W.findCls K (.ref cV) (.type "type") "__init__" = some (.val (.builtin "ValueError.__init__")))
    {nm q : Str} {N : Addr} {bs bm : List Value} {sn : List Str} {sub : List Value} {ab : Bool} {col : Option Bool} {dd : Option Addr} {m0 m1 m2 m3 m5 : Option Value}
    (xL : K.lookup cB = some (excClassObj nm q cB N bs bm true sn sub ab col dd m0 m1 m2 m3 m5 "ValueError.__new__"))
    (zL : PySem.HandSPX.refsVE bm = true)
    (sa : PySem.W.findIn K (.ref cB) "__setattr__" = some (some (.builtin "object.__setattr__")))
    (eC : PySem.W.subIn K (.ref cB) (.type "BaseException") = some true)
    (tC : PySem.W.typeIn K (.ref cB) = some (.type "type"))
    (kC : PySem.W.keepIn K (.ref cB) = true)
    (q1 : PySem.W.isClsIn K cB = true)
    (q2 : PySem.W.findIn K (.ref cB) "__getattribute__" = some (some (.builtin "BaseException.__getattribute__")))
    (q3 : PySem.W.findIn K (.ref cB) "__getattr__" = some none)
    (q5 : PySem.W.hasDictIn K cB = true)
    (q6 : PySem.W.findIn K (.ref cB) "__class__" = some (some (.builtin "object.__class__")))
    (z7 : PySem.W.specialIn K (.builtin "object.__class__") "__get__" = some (some (.builtin "getset_descriptor.__get__")))
    (z8 : PySem.W.takesIn K (.builtin "object.__class__") = some true)
    (q9 : PySem.W.mroIn K cB (.type "object") = some true)
    (noA : PySem.W.findIn K (.ref cB) "place" = some none)
    (e1 : PySem.W.subIn K (.ref cV) (.type "BaseException") = some true)
    (e2 : PySem.W.hasDictIn K cV = true)
    (e3 : PySem.W.typeIn K (.ref cV) = some (.type "type"))
    (e4 : PySem.W.subIn K (.ref cB) (.ref cV) = some true)
    (zV : PySem.W.kitOne K (.ref cB) (.type "ValueError") = some true)
    (zN : PySem.W.kitAny K (.ref cB) [.ref cD, .ref cC, .ref cR, .ref cT] = some false)
    {fI : Addr} {oc kV dc pm cd ct : Value} {od an : Option Addr} {sl : Array (Option Value)}
    (iF : PySem.W.findIn K (.ref cB) "__init__" = some (some (.ref fI)))
    (iT : PySem.W.typeIn K (.ref fI) = some (.type "function"))
    (iL : K.lookup fI = some ⟨oc, od, .func (PySem.W.fnOf "__init__" "NoDeed.__init__" (defArgs s_NoDeed_init) (defBody s_NoDeed_init) (defScope s_NoDeed_init) .none kV dc pm an cd ct), sl⟩)
    (iC : PySem.W.codeIn K cd "NoDeed.__init__" = true)
    (iK : PySem.W.keepIn K (.ref fI) = true) : ∃ cV cT cB cD cC cR, ExcW K mg cV cT cB cD cC cR :=
  have F := fun_mk (st := s_NoDeed_init) iL iC iK
  ⟨cV, cT, cB, cD, cC, cR, { gV := PySem.W.mg_of X G aV, gT := PySem.W.mg_of X G aT, gB := PySem.W.mg_of X G aB, gD := PySem.W.mg_of X G aD, gC := PySem.W.mg_of X G aC, gR := PySem.W.mg_of X G aR, up := ⟨uR, uS, uI⟩, ox := ⟨⟨nm, q, N, bs, bm, sn, sub, ab, col, dd, m0, m1, m2, m3, m5, xL, zL⟩, sa, eC, tC, kC⟩, ask := ⟨q1, q2, q3, eC, q5, q6, z7, z8, q9⟩, noA := noA, exV := PySem.W.exm_ref e1 e2 e3 e4, kVE := zV, kN := zN, ini := ⟨fI, _, F, F.binds (ps := ["self", "place"]) fun _ _ _ _ _ _ us hl => match us, hl with | [_, _], _ => rfl, iF, iT⟩ }⟩
theorem walk {l : PySem.W.OpenLaw} {q : Program} {loose : List Str} {XP : (Str → Option Value) → Heap → Prop} {YP : World → Heap → Prop} {d : DefRec} {K : Params → PySem.W.Frag} (hn : l.most = some 63) (hdf : d.params.defaults = [])
    (hY : ∀ (w : World) (h : Heap), YP w h → (K w.params).In h) (hd : d.name = "law")
    (F : ∀ (w : World) (mg : Str → Option Value) (h : Heap), (K w.params).In h → h.Ns mainGlobals mg → Env (K w.params) mg) (FE : ∀ (w : World) (mg : Str → Option Value) (h : Heap), (K w.params).In h → h.Ns mainGlobals mg → ∃ cV cT cB cD cC cR, ExcW (K w.params) mg cV cT cB cD cC cR) :
    PySem.W.WalkO q loose XP YP l.row.toRowW d [] (fun f vs => PySem.call f vs) :=
  L2.walk_of (n := 63) (k := 38) (x := "_law_script") (CX := fun _ => CX0) (sp := fun w => sp_law (K w.params)) hn (by decide) hdf ⟨rfl, by decide, by decide⟩ hY (fun w mg fa h KX G hmg => by
    have T := F w mg h KX G
    obtain ⟨f, fd, F1, m, b⟩ := T.l_law.ex
    rw [hd] at hmg
    have e := hmg.symm.trans m
    cases e
    refine ⟨fd, fun s v => ?_, fun base _ _ => ?_⟩
    · obtain ⟨oc, od, kV, doc, pm, an, cdv, ct, osl, rfl, lk, hcd⟩ := F1.ex
      exact .of_eq rfl
    · obtain ⟨cV, cT, cB, cD, cC, cR, W⟩ := FE w mg h KX G
      exact ok_law T W F1) (fun _ _ a ns hl _ hS => ⟨a, ns, rfl, hS, hl, fun _ => rfl⟩) fun _ _ _ _ _ z => z
end
end LW
open PySem PySem.W PyProof.Rows
set_option maxRecDepth 100000 in
set_option maxHeartbeats 0 in
theorem PySem.Challenge.cw_viewwood_k40_deeds_refused_holds : PySem.Challenge.rw_viewwood_k40_deeds_refused.Holds := by
  w_on; o_law; k_head; (case hw => w_witness2)
  k_fill
  refine LW.walk (l := PySem.Challenge.rw_viewwood_k40_deeds_refused) rfl rfl (fun w h Y => PySem.W.kIn_of Y) rfl ?F ?FE
  case F =>
    intro w mg h KX G
    refine' LW.all_env KX G ?a0 ?l0 ?c0 ?k0 ?a1 ?l1 ?c1 ?k1 ?a2 ?l2 ?c2 ?k2 ?a3 ?l3 ?c3 ?k3 ?a4 ?l4 ?c4 ?k4 ?a5 ?l5 ?c5 ?k5 ?a6 ?l6 ?c6 ?k6 ?a7 ?l7 ?c7 ?k7 ?a8 ?l8 ?c8 ?k8 ?a9 ?l9 ?c9 ?k9 ?a10 ?l10 ?c10 ?k10 ?a11 ?l11 ?c11 ?k11 ?a12 ?l12 ?c12 ?k12 ?a13 ?l13 ?c13 ?k13 ?a14 ?l14 ?c14 ?k14 ?a15 ?l15 ?c15 ?k15 ?a16 ?l16 ?c16 ?k16 ?a17 ?l17 ?c17 ?k17 ?a18 ?l18 ?c18 ?k18 ?a19 ?l19 ?c19 ?k19 ?a20 ?l20 ?c20 ?k20 ?a21 ?l21 ?c21 ?k21 ?a22 ?l22 ?c22 ?k22 ?a23 ?l23 ?c23 ?k23 ?a24 ?l24 ?c24 ?k24 ?a25 ?l25 ?c25 ?k25 ?z_ValueError ?z_abs ?z_bool ?z_isinstance ?z_len ?z_range ?z_sorted ?z_tuple
    (case a0 => k_is)
    (case l0 => k_is)
    (case c0 => k_is)
    (case k0 => k_is)
    (case a1 => k_is)
    (case l1 => k_is)
    (case c1 => k_is)
    (case k1 => k_is)
    (case a2 => k_is)
    (case l2 => k_is)
    (case c2 => k_is)
    (case k2 => k_is)
    (case a3 => k_is)
    (case l3 => k_is)
    (case c3 => k_is)
    (case k3 => k_is)
    (case a4 => k_is)
    (case l4 => k_is)
    (case c4 => k_is)
    (case k4 => k_is)
    (case a5 => k_is)
    (case l5 => k_is)
    (case c5 => k_is)
    (case k5 => k_is)
    (case a6 => k_is)
    (case l6 => k_is)
    (case c6 => k_is)
    (case k6 => k_is)
    (case a7 => k_is)
    (case l7 => k_is)
    (case c7 => k_is)
    (case k7 => k_is)
    (case a8 => k_is)
    (case l8 => k_is)
    (case c8 => k_is)
    (case k8 => k_is)
    (case a9 => k_is)
    (case l9 => k_is)
    (case c9 => k_is)
    (case k9 => k_is)
    (case a10 => k_is)
    (case l10 => k_is)
    (case c10 => k_is)
    (case k10 => k_is)
    (case a11 => k_is)
    (case l11 => k_is)
    (case c11 => k_is)
    (case k11 => k_is)
    (case a12 => k_is)
    (case l12 => k_is)
    (case c12 => k_is)
    (case k12 => k_is)
    (case a13 => k_is)
    (case l13 => k_is)
    (case c13 => k_is)
    (case k13 => k_is)
    (case a14 => k_is)
    (case l14 => k_is)
    (case c14 => k_is)
    (case k14 => k_is)
    (case a15 => k_is)
    (case l15 => k_is)
    (case c15 => k_is)
    (case k15 => k_is)
    (case a16 => k_is)
    (case l16 => k_is)
    (case c16 => k_is)
    (case k16 => k_is)
    (case a17 => k_is)
    (case l17 => k_is)
    (case c17 => k_is)
    (case k17 => k_is)
    (case a18 => k_is)
    (case l18 => k_is)
    (case c18 => k_is)
    (case k18 => k_is)
    (case a19 => k_is)
    (case l19 => k_is)
    (case c19 => k_is)
    (case k19 => k_is)
    (case a20 => k_is)
    (case l20 => k_is)
    (case c20 => k_is)
    (case k20 => k_is)
    (case a21 => k_is)
    (case l21 => k_is)
    (case c21 => k_is)
    (case k21 => k_is)
    (case a22 => k_is)
    (case l22 => k_is)
    (case c22 => k_is)
    (case k22 => k_is)
    (case a23 => k_is)
    (case l23 => k_is)
    (case c23 => k_is)
    (case k23 => k_is)
    (case a24 => k_is)
    (case l24 => k_is)
    (case c24 => k_is)
    (case k24 => k_is)
    (case a25 => k_is)
    (case l25 => k_is)
    (case c25 => k_is)
    (case k25 => k_is)
    (case z_ValueError => k_is)
    (case z_abs => k_is)
    (case z_bool => k_is)
    (case z_isinstance => k_is)
    (case z_len => k_is)
    (case z_range => k_is)
    (case z_sorted => k_is)
    (case z_tuple => k_is)
  case FE =>
    intro w mg h KX G
    refine' LW.all_exc KX G ?aV ?aT ?aB ?aD ?aC ?aR ?uR ?uS ?uI ?xL ?zL ?sa ?eC ?tC ?kC ?q1 ?q2 ?q3 ?q5 ?q6 ?z7 ?z8 ?q9 ?noA ?e1 ?e2 ?e3 ?e4 ?zV ?zN ?iF ?iT ?iL ?iC ?iK
    (case aV => k_is)
    (case aT => k_is)
    (case aB => k_is)
    (case aD => k_is)
    (case aC => k_is)
    (case aR => k_is)
    (case uR => k_is)
    (case uS => k_is)
    (case uI => k_is)
    (case xL => k_is)
    (case zL => first | rfl | decide +kernel | kernel_rfl | k_is)
    (case sa => k_is)
    (case eC => k_is)
    (case tC => k_is)
    (case kC => k_is)
    (case q1 => k_is)
    (case q2 => k_is)
    (case q3 => k_is)
    (case q5 => k_is)
    (case q6 => k_is)
    (case z7 => first | rfl | decide +kernel | kernel_rfl | k_is)
    (case z8 => first | rfl | decide +kernel | kernel_rfl | k_is)
    (case q9 => k_is)
    (case noA => k_is)
    (case e1 => k_is)
    (case e2 => k_is)
    (case e3 => k_is)
    (case e4 => k_is)
    (case zV => first | rfl | decide +kernel | kernel_rfl | k_is)
    (case zN => first | rfl | decide +kernel | kernel_rfl | k_is)
    (case iF => k_is)
    (case iT => k_is)
    (case iL => k_is)
    (case iC => k_is)
    (case iK => k_is)

