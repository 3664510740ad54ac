import PyProof.Rows.All
import Wide.All
import OpenK.AllK
import Wide.FinOn
import HandS.ForMost
import HandS.Wide
import HandS.IsInst
import HandS.TupAny
import HandS.Codes
import HandS.Deep
import HandS.Rev
import HandS.TupLe
import PyProof.NeKinds
import PyProof.FactsAll.dict_1
import PyProof.FactsAll.dict_2
import HandS.More
import HandS.Walk
import HandS.RevRange
import HandS.Conv
import HandS.DictTup
import HandS.ReCall
import HandS.Iter
import KE.KDictKeyed
import KE.KDictLaw
import KE.KDictWalk
import PyProof.DictRoadsH
import PyProof.Rows.RegStrCode
import KE.SortData
import KE.KDictSum
import KE.KDictCopyH
import KE.KDictPairs
import HandS.HeadHook3
import PySem.Challenge.RW_viewwood_k03_what_is_a_reckoning
set_option Elab.async false
set_option linter.all false
set_option maxRecDepth 100000
/-! a dict against a text: == is false, != true -/
namespace U
open PySem PySem.SeqAt
open PySem.AutoSeq1 (wpAny_loadPart')
open PySem.MeetsSeq PySem.MeetsSeq2 PySem.MeetsSeq3
theorem dict_ne_declines_str (l : Addr) (o : Obj) (b : Str) (u : Tok) (hc : o.cls = .type "dict") (es : Array DictEntry) (ep : Nat) (hd : o.data = .dict es ep) :
    Meets (Builtin.«dict.__ne__» ⟨[.ref l, .str b u], []⟩) (fun _ R s => s.heap.get? l = some o ∧ R (.ok (.ret .notImplemented)) s) :=
  .of_wp fun prog w A R s h => by
    obtain ⟨hp, g, d, tk, os⟩ := s; obtain ⟨hl, h⟩ := h; have f1 := F.sub_str_dict
    obtain ⟨cls, dd, data, sl⟩ := o
    simp only at hc hd
    subst hc hd
    wp_walk using wpAny_loadPart' hl, wpAny_load hl
    exact ⟨_, rfl, h⟩
theorem str_ne_declines_dict (b : Str) (u : Tok) (l : Addr) (o : Obj) (hc : o.cls = .type "dict") (es : Array DictEntry) (ep : Nat) (hd : o.data = .dict es ep) :
    Meets (Builtin.«str.__ne__» ⟨[.str b u, .ref l], []⟩) (fun _ R s => s.heap.get? l = some o ∧ R (.ok (.ret .notImplemented)) s) :=
  .of_wp fun prog w A R s h => by
    obtain ⟨hp, g, d, tk, os⟩ := s; obtain ⟨hl, h⟩ := h
    obtain ⟨cls, dd, data, sl⟩ := o
    simp only at hc hd
    subst hc hd
    wp_walk using wpAny_loadPart' hl, wpAny_load hl
    exact ⟨_, rfl, h⟩
section
variable {A : Around} {s : Shared}
theorem rcNe_dict_str {l : Addr} {o : Obj} {es : Array DictEntry} {ep : Nat} (b : Str) (u : Tok) (ho : s.heap.get? l = some o) (hc : o.cls = .type "dict") (hd : o.data = .dict es ep) (hu : A.units < cLine) : RcNeAt A s (.ref l) (.str b u) true := fun prog w E Q h =>
  rc_ne_decline_or (k := false) ⟨_, ho, hc⟩ (typeIs_str s b u) (by decide) F.sub_str_dict F.slot_dict_ne F.slot_str_ne_refl
    (fun _ hq => call_meets F.slot_dict_ne ⟨_, ho, hc⟩ F.entry_dict_ne (F.args_dict_ne_2 _ _) (dict_ne_declines_str l o b u hc es ep hd) ⟨ho, hq⟩)
    (fun _ hq => call_meets F.slot_str_ne_refl (typeIs_str s b u) F.entry_str_ne (F.args_str_ne_2 _ _) (str_ne_declines_dict b u l o hc es ep hd) ⟨ho, hq⟩)
    (fun _ hq => wpAny_of_eq (rfl : isSame (.ref l) (.str b u) = pure false) hq) (.inr hu) h
end
theorem dict_eq_declines_str (l : Addr) (o : Obj) (b : Str) (u : Tok) (hc : o.cls = .type "dict") (es : Array DictEntry) (ep : Nat) (hd : o.data = .dict es ep) :
    Meets (Builtin.«dict.__eq__» ⟨[.ref l, .str b u], []⟩) (fun _ R s => s.heap.get? l = some o ∧ R (.ok (.ret .notImplemented)) s) :=
  .of_wp fun prog w A R s h => by
    obtain ⟨hp, g, d, tk, os⟩ := s; obtain ⟨hl, h⟩ := h; have f1 := F.sub_str_dict
    obtain ⟨cls, dd, data, sl⟩ := o
    simp only at hc hd
    subst hc hd
    wp_walk using wpAny_loadPart' hl, wpAny_load hl
    exact ⟨_, rfl, h⟩
theorem str_eq_declines_dict (b : Str) (u : Tok) (l : Addr) (o : Obj) (hc : o.cls = .type "dict") (es : Array DictEntry) (ep : Nat) (hd : o.data = .dict es ep) :
    Meets (Builtin.«str.__eq__» ⟨[.str b u, .ref l], []⟩) (fun _ R s => s.heap.get? l = some o ∧ R (.ok (.ret .notImplemented)) s) :=
  .of_wp fun prog w A R s h => by
    obtain ⟨hp, g, d, tk, os⟩ := s; obtain ⟨hl, h⟩ := h
    obtain ⟨cls, dd, data, sl⟩ := o
    simp only at hc hd
    subst hc hd
    wp_walk using wpAny_loadPart' hl, wpAny_load hl
    exact ⟨_, rfl, h⟩
section
variable {A : Around} {s : Shared}
theorem rcEq_dict_str {l : Addr} {o : Obj} {es : Array DictEntry} {ep : Nat} (b : Str) (u : Tok) (ho : s.heap.get? l = some o) (hc : o.cls = .type "dict") (hd : o.data = .dict es ep) (hu : A.units < cLine) : RcAt A s (.ref l) (.str b u) false := fun prog w E Q h =>
  rc_eq_decline_or (k := false) ⟨_, ho, hc⟩ (typeIs_str s b u) (by decide) F.sub_str_dict F.slot_dict_eq F.slot_str_eq_refl
    (fun _ hq => call_meets F.slot_dict_eq ⟨_, ho, hc⟩ F.entry_dict_eq (F.args_dict_eq_2 _ _) (dict_eq_declines_str l o b u hc es ep hd) ⟨ho, hq⟩)
    (fun _ hq => call_meets F.slot_str_eq_refl (typeIs_str s b u) F.entry_str_eq (F.args_str_eq_2 _ _) (str_eq_declines_dict b u l o hc es ep hd) ⟨ho, hq⟩)
    (fun _ hq => wpAny_of_eq (rfl : isSame (.ref l) (.str b u) = pure false) hq) (.inr hu) h
end
end U
namespace U
open PySem PySem.Spec PyProof.Rows L2
def rNeDS : R2 := fun x y H Q => ∃ p kvs z, x = .ref p ∧ H p = some (.dK kvs) ∧ y = .str z ∧ Q (.bl true) H
theorem op_neDS {X : Cx} (hu : X.A.units + 64 < cLine) : OpR X (compareOp .NotEq) rNeDS := by
  intro pins s σ H x y v u Q I rx ry h
  obtain ⟨p, kvs, z, rfl, hp, rfl, q⟩ := h
  obtain ⟨t, rfl⟩ := ry
  cases rx
  obtain ⟨_, _, _, _, o, es, ep, ho, hex, hd, _⟩ := I.hok p _ hp
  exact rcNe_dict_str z t ho hex.1 hd (by omega) _ _ _ _ ⟨.bl true, H, I, rfl, q⟩
def rEqDS : R2 := fun x y H Q => ∃ p kvs z, x = .ref p ∧ H p = some (.dK kvs) ∧ y = .str z ∧ Q (.bl false) H
theorem op_eqDS {X : Cx} (hu : X.A.units + 64 < cLine) : OpR X (compareOp .Eq) rEqDS := by
  intro pins s σ H x y v u Q I rx ry h
  obtain ⟨p, kvs, z, rfl, hp, rfl, q⟩ := h
  obtain ⟨t, rfl⟩ := ry
  cases rx
  obtain ⟨_, _, _, _, o, es, ep, ho, hex, hd, _⟩ := I.hok p _ hp
  exact rcEq_dict_str z t ho hex.1 hd (by omega) _ _ _ _ ⟨.bl false, H, I, rfl, q⟩
end U

/-! Uni: one rule for each construct whatever its values are, and short steps of readings. -/
namespace U
open PySem PySem.Spec PyProof.Rows L2
/-! ### a def that stands in the text, with its promise -/
structure Loc (K : PySem.W.Frag) (mg : Str → Option Value) (x : Str) (ps : List Str) (st : Stmt) : Prop where
  ex : ∃ f fd, Fun K x x st f fd ∧ mg x = some (.ref f) ∧ Binds K fd ps []
structure Fx (P : Program) (w : World) (K : PySem.W.Frag) (mg : Str → Option Value) (base : Heap) (k : Nat) (x : Str) (ps : List Str) (sp : Sp) : Prop where
  ex : ∃ f fd, FnOk P w K mg base CX0 k f fd ps sp ∧ mg x = some (.ref f) ∧ PySem.W.keepIn K (.ref f) = true ∧ Binds K fd ps []
theorem Fx.mono {P : Program} {w : World} {K : PySem.W.Frag} {mg : Str → Option Value} {base : Heap} {j k : Nat} {x : Str} {ps : List Str} {sp : Sp} (F : Fx P w K mg base j x ps sp) (h : j ≤ k) : Fx P w K mg base k x ps sp := by
  obtain ⟨f, fd, a, b, c, d⟩ := F.ex
  exact ⟨f, fd, a.mono h, b, c, d⟩
theorem Loc.ok {P : Program} {w : World} {K : PySem.W.Frag} {mg : Str → Option Value} {base : Heap} {x : Str} {st : Stmt} {N ps : List Str} {k : Nat} {sp : Sp} (L : Loc K mg x ps st) (S : FnScope N ps (defScope st)) (len : ∀ vs H Q E, sp vs H Q E → vs.length = ps.length)
    (hbody : ∀ (f : Addr) (cdv : Value) (A : Around) (outer : List Env) (s : Shared) (H : Hp) (vs : List V) (Q : VK) (E : XK), Room k (A.deeper (envOfC x (defScope st) s.heap.objs.size f cdv)) → sp vs H Q E →
      ∃ t, PSs (cxOf CX0 P w K mg base N x (defScope st) f cdv A outer s H E).nox (defBody st) t ∧ t ⟨fun _ H' => Q .non H', Q, fun _ _ => False, fun _ _ => False⟩ (start N vs) H) : Fx P w K mg base (k + 1) x ps sp := by
  obtain ⟨f, fd, F, m, b⟩ := L.ex
  exact ⟨f, fd, F.ok S len fun cdv A outer s H vs Q E hr h => hbody f cdv A outer s H vs Q E hr h, m, F.kp, b⟩
theorem pe_fx {X : Cx} {k j : Nat} {x : Str} {ps : List Str} {sp : Sp} {e : Expr} {es : List Expr} {t : TA} {p pos : Pos} (G : Fx X.prog X.w X.K X.mg X.base k x ps sp) (hr : Room j X.A) (hkj : k ≤ j) (ha : PA X (e :: es) t) (hg : Gl X x := by rfl)
    (hdb : (x == ("__debug__" : Str)) = false := by decide +kernel)
    (he : starEach (e :: es) X.env = (false, eval e X.env) :: starEach es X.env := by rfl) (hpl : (backTo pos (starEach es X.env)).any (·.1) = false := by rfl) : PE X (.Call (.Name x p) (e :: es) [] pos) (tCall sp [] E0 t) := by
  obtain ⟨f, fd, a, b, c, d⟩ := G.ex
  exact pe_call a (hr.mono hkj) hg b c d .nil pass0 ha (hdb := hdb) (he := he) (hpl := hpl)

/-! ### a constant tuple of the top -/
def KTup (K : PySem.W.Frag) (a : Addr) (xs : List V) : Prop := ∀ H, SqT K H a xs
def tKT (K : PySem.W.Frag) (xs : List V) : TE := fun _ H Q => ∀ a, KTup K a xs → Q (.ref a) H
theorem pe_ktup {X : Cx} {e : Expr} {a : Addr} {xs : List V} (h : PE X e (tC (.ref a))) (k : KTup X.K a xs) : PE X e (tKT X.K xs) := ⟨fun pins s σ H Q I q => h.run pins s σ H Q I (q a k)⟩
theorem ktup_of {K : PySem.W.Frag} {a : Addr} {xs : List V} {od : Option Addr} {its : Array Value} {n : Nat} {sl : Array (Option Value)} (h : K.lookup a = some ⟨.type "tuple", od, .seq its n, sl⟩) (v : Vals xs its.toList) (z : its.size ≤ 1000 := by exact Nat.le_of_ble_eq_true rfl) : KTup K a xs := fun _ =>
  .inr ⟨_, its, n, h, rfl, rfl, Nat.le_trans z (by decide), v⟩
theorem vs_nil : Vals [] [] := .nil
theorem vs_str {x : Str} {t : Tok} {xs : List V} {us : List Value} (h : Vals xs us) : Vals (.str x :: xs) (.str x t :: us) := .cons ⟨t, rfl⟩ h
theorem vs_int {x : Int} {t : Tok} {xs : List V} {us : List Value} (h : Vals xs us) : Vals (.int x :: xs) (.int x t :: us) := .cons ⟨t, rfl⟩ h
/-! ### one rule a construct -/
section
variable {X : Cx}
abbrev r2or (r r' : R2) : R2 := fun x y H Q => r x y H Q ∨ r' x y H Q
def rStrCat : R2 := fun x y H Q => ∃ i j, x = .str i ∧ y = .str j ∧ i.length + j.length ≤ sizeLine ∧ Q (.str (i ++ j)) H
def rAddU (K : PySem.W.Frag) : R2 := r2or (r2or (rI0 fun i j => .int (i + j)) rStrCat) (r2or (rCatA K) rCat)
theorem op_addU {K} (hK : X.K = K) : OpR X (binaryOp .Add) (rAddU K) := by subst hK; exact (op_add.or op_add_str).or (op_catA.or op_cat)
def rMaxU : List V → Hp → VK → Prop := fun xs H Q => ∃ i j, xs = [.int i, .int j] ∧ Q (.int (if j > i then j else i)) H
def rMinU : List V → Hp → VK → Prop := fun xs H Q => ∃ i j, xs = [.int i, .int j] ∧ Q (.int (if j < i then j else i)) H
def rAbsU : List V → Hp → VK → Prop := fun xs H Q => ∃ i, xs = [.int i] ∧ Q (.int (if i < 0 then -i else i)) H
def rIntU : List V → Hp → VK → Prop := fun xs H Q => (∃ i, xs = [.int i] ∧ Q (.int i) H) ∨ ∃ k, xs = [.bl k] ∧ Q (.int (if k then 1 else 0)) H
theorem call_maxU (hc : X.calm = true) : CallR X (.builtin "max") rMaxU := call_max2 hc
theorem call_minU (hc : X.calm = true) : CallR X (.builtin "min") rMinU := call_min2 hc
theorem call_absU : CallR X (.builtin "abs") rAbsU := call_abs
theorem call_intU : CallR X (.type "int") rIntU := call_int1
def rLenU (K : PySem.W.Frag) : List V → Hp → VK → Prop := fun xs H Q => (∃ p ys, xs = [.ref p] ∧ (SqL K H p ys ∨ SqT K H p ys) ∧ Q (.int ys.length) H) ∨ (∃ z, xs = [.str z] ∧ z.length ≤ sizeLine ∧ Q (.int z.length) H)
theorem call_lenU {K} (hK : X.K = K) : CallR X (.builtin "len") (rLenU K) := by subst hK; exact call_len_seq.or call_len_str
theorem call_isiU {K} (hK : X.K = K) : CallR X (.builtin "isinstance") (rIsi K) := by subst hK; exact call_isi
theorem ix_U {K} (hK : X.K = K) : IxR X (rIx K) := by subst hK; exact ix_seq
theorem call_allU {K} (hK : X.K = K) (hc : X.calm = true) : CallR X (.builtin "all") (rAll K) := by subst hK; exact cr_all hc
theorem call_anyU {K} (hK : X.K = K) (hc : X.calm = true) : CallR X (.builtin "any") (rAny K) := by subst hK; exact cr_any hc
theorem call_sumU {K} (hK : X.K = K) (hc : X.calm = true) : CallR X (.builtin "sum") (rSum K) := by subst hK; exact cr_sum hc
def rListU (K : PySem.W.Frag) : List V → Hp → VK → Prop := fun xs H Q => ∃ p ys, xs = [.ref p] ∧ (SqL K H p ys ∨ SqT K H p ys) ∧ ∀ l, H l = none → Q (.ref l) (upd H l (.lst ys))
theorem call_listU {K} (hK : X.K = K) : CallR X (.type "list") (rListU K) := by subst hK; exact call_list_of
def rTupleU (K : PySem.W.Frag) : List V → Hp → VK → Prop := fun xs H Q => ∃ p ys, xs = [.ref p] ∧ ((SqL K H p ys ∧ ∀ l, H l = none → Q (.ref l) (upd H l (.tup ys))) ∨ (SqT K H p ys ∧ Q (.ref p) H))
theorem call_tupleU {K} (hK : X.K = K) : CallR X (.type "tuple") (rTupleU K) := by subst hK; exact call_tuple_of
theorem pg_tupU {K} {es : List Expr} {k : Nat} {t : TGs} {n : Nat} {pos : Pos} (hK : X.K = K) (hc : X.calm = true) (h : PGs X es t)
    (hn : (assignEach es X.env).length = n := by rfl) (hst : (assignEach es X.env).findIdx? (·.1) = none := by rfl) : PG X (.Tuple es k pos) (gTup K n t) := by subst hK; exact pg_tup hc h hn hst
theorem pi_listU {K} {tg l : Expr} {tl : TE} (hK : X.K = K) (hl : PE X l tl) : PI X tg l (iList K tl) := by subst hK; exact pi_list hl
theorem pi_tupU {K} {tg l : Expr} {tl : TE} (hK : X.K = K) (hl : PE X l tl) : PI X tg l (iTup K tl) := by subst hK; exact pi_tup hl
def rMulU : R2 := r2or (r2or (rI CMul fun i j => .int (i * j)) (rI CMulW fun i j => .int (i * j))) rRep
theorem op_mulU : OpR X (binaryOp .Mult) rMulU := (op_mul.or op_mulW).or op_rep
def rSignIn : R2 := fun x y H Q => ∃ (c : Nat) (z : Str), x = .str ⟨#[c]⟩ ∧ y = .str z ∧ Q (.bl (decide (c ∈ z.cps.toList))) H
def rSignNin : R2 := fun x y H Q => ∃ (c : Nat) (z : Str), x = .str ⟨#[c]⟩ ∧ y = .str z ∧ Q (.bl (!decide (c ∈ z.cps.toList))) H
def rInU (K : PySem.W.Frag) : R2 := r2or (r2or (rIn K false) (rInD K)) rSignIn
def rNinU (K : PySem.W.Frag) : R2 := r2or (r2or (rIn K true) (rNotInD K)) rSignNin
theorem op_inU {K} (hK : X.K = K) (hu : X.A.units + 65 < cLine) : OpR X (compareOp .In) (rInU K) := by subst hK; exact (op_in_seq.or (op_inD hu)).or op_in_sign
theorem op_ninU {K} (hK : X.K = K) (hu : X.A.units + 65 < cLine) : OpR X (compareOp .NotIn) (rNinU K) := by subst hK; exact (op_notIn_seq.or (op_notInD hu)).or op_notIn_sign
def rMaxL (K : PySem.W.Frag) : List V → Hp → VK → Prop := rMax K
theorem call_maxL {K} (hK : X.K = K) (hc : X.calm = true) : CallR X (.builtin "max") (rMaxL K) := by subst hK; exact cr_max hc
def rMinL (K : PySem.W.Frag) : List V → Hp → VK → Prop := rMin K
theorem call_minL {K} (hK : X.K = K) (hc : X.calm = true) : CallR X (.builtin "min") (rMinL K) := by subst hK; exact cr_min hc
def rIsB : R2 := fun x y H Q => ∃ a b, x = .bl a ∧ y = .bl b ∧ Q (.bl (decide (a = b))) H
def rNisB : R2 := fun x y H Q => ∃ a b, x = .bl a ∧ y = .bl b ∧ Q (.bl (!decide (a = b))) H
theorem op_isB : OpR X (compareOp .Is) rIsB := op_is_bl
theorem op_nisB : OpR X (compareOp .IsNot) rNisB := op_isnot_bl
def iRevU (K : PySem.W.Frag) (te : TE) : TI := RT.iRevA K te
theorem pi_revU {K} {tg e : Expr} {te : TE} {p pos : Pos} (hK : X.K = K) (hg : Gl X "reversed") (hm : X.mg "reversed" = none) (he : PE X e te) (hs : starEach [e] X.env = (false, eval e X.env) :: starEach [] X.env := by rfl) : PI X tg (.Call (.Name "reversed" p) [e] [] pos) (iRevU K te) := by
  subst hK; exact RT.pi_revA hg hm he hs
def iEnumU (K : PySem.W.Frag) (ta : TA) : TI := iEnum K ta
theorem pi_enumU {K} {e : Expr} {ta : TA} {p pos tpos : Pos} {elts : List Expr} {kk : Nat} (hK : X.K = K) (hg : Gl X "enumerate") (hm : X.mg "enumerate" = none) (ha : PA X [e] ta) (hs : starEach [e] X.env = [(false, eval e X.env)] := by rfl) :
    PI X (.Tuple elts kk tpos) (.Call (.Name "enumerate" p) [e] [] pos) (iEnumU K ta) := by subst hK; exact pi_enum hg hm ha hs
/-- a slice -/
def rSlU (K : PySem.W.Frag) : V → Option Int → Option Int → Hp → VK → Prop := fun x lo hi H Q => (rSlL K x lo hi H Q ∨ rSlA K x lo hi H Q) ∨ rSlS x lo hi H Q
theorem sl_U {K} (hK : X.K = K) : SlR X (rSlU K) := by subst hK; exact (sl_list.or sl_tupA).or sl_str
def rEqU (K : PySem.W.Frag) : R2 := r2or (r2or rEq (rEqD K)) rEqDS
theorem op_eqU {K} (hK : X.K = K) (hu : X.A.units + 64 < cLine) : OpR X (compareOp .Eq) (rEqU K) := by subst hK; exact (op_eq.or (op_eqD hu)).or (op_eqDS hu)
def rNeU (K : PySem.W.Frag) : R2 := r2or (r2or rNe (rNeD K)) rNeDS
theorem op_neU {K} (hK : X.K = K) (hu : X.A.units + 64 < cLine) : OpR X (compareOp .NotEq) (rNeU K) := by subst hK; exact (op_ne.or (op_neD hu)).or (op_neDS hu)
end
theorem u65 {A : Around} {k : Nat} (hr : Room k A) : A.units + 65 < cLine := by have := hr.un; omega
theorem u64 {A : Around} {k : Nat} (hr : Room k A) : A.units + 64 < cLine := hr.units
section
variable {K : PySem.W.Frag} {H : Hp} {Q : VK} {i j : Int}
theorem w_addI (q : Q (.int (i + j)) H) : rAddU K (.int i) (.int j) H Q := .inl (.inl ⟨i, j, rfl, rfl, q⟩)
theorem w_addS {a b : Str} (h : a.length + b.length ≤ sizeLine) (q : Q (.str (a ++ b)) H) : rAddU K (.str a) (.str b) H Q := .inl (.inr ⟨a, b, rfl, rfl, h, q⟩)
theorem w_addL {l b : Addr} {xs zs : List V} (h1 : H l = some (.lst xs)) (h2 : H b = some (.lst zs)) (hl : xs.length + zs.length ≤ 1000000) (q : ∀ p, H p = none → Q (.ref p) (upd H p (.lst (xs ++ zs)))) : rAddU K (.ref l) (.ref b) H Q := .inr (.inr ⟨l, b, xs, zs, rfl, rfl, h1, h2, Nat.le_trans hl (by decide), q⟩)
theorem w_sub (q : Q (.int (i - j)) H) : rI0 (fun i j => .int (i - j)) (.int i) (.int j) H Q := ⟨i, j, rfl, rfl, q⟩
theorem w_rI0 {g : Int → Int → V} (q : Q (g i j) H) : rI0 g (.int i) (.int j) H Q := ⟨i, j, rfl, rfl, q⟩
theorem w_rI {C : Int → Int → Prop} {g : Int → Int → V} (c : C i j) (q : Q (g i j) H) : rI C g (.int i) (.int j) H Q := ⟨i, j, rfl, rfl, c, q⟩
theorem w_mulI (c : (-(2 ^ 64) < i ∧ i < 2 ^ 64) ∨ (-(2 ^ 64) < j ∧ j < 2 ^ 64)) (q : Q (.int (i * j)) H) : rMulU (.int i) (.int j) H Q := .inl (.inl ⟨i, j, rfl, rfl, c, q⟩)
theorem w_max (q : Q (.int (if j > i then j else i)) H) : rMaxU [.int i, .int j] H Q := ⟨i, j, rfl, q⟩
theorem w_min (q : Q (.int (if j < i then j else i)) H) : rMinU [.int i, .int j] H Q := ⟨i, j, rfl, q⟩
theorem w_abs (q : Q (.int (if i < 0 then -i else i)) H) : rAbsU [.int i] H Q := ⟨i, rfl, q⟩
theorem w_intI (q : Q (.int i) H) : rIntU [.int i] H Q := .inl ⟨i, rfl, q⟩
theorem w_intB {k : Bool} (q : Q (.int (if k then 1 else 0)) H) : rIntU [.bl k] H Q := .inr ⟨k, rfl, q⟩
theorem w_pow9 (q : Q (.int 1000000000) H) : rI CPow (fun i j => .int (i ^ j.toNat)) (.int 10) (.int 9) H Q := ⟨10, 9, rfl, rfl, ⟨by decide, by decide, by decide⟩, q⟩
theorem w_pow18 (q : Q (.int 1000000000000000000) H) : rI CPow (fun i j => .int (i ^ j.toNat)) (.int 10) (.int 18) H Q := ⟨10, 18, rfl, rfl, ⟨by decide, by decide, by decide⟩, q⟩
theorem w_pow6 (q : Q (.int 1000000) H) : rI CPow (fun i j => .int (i ^ j.toNat)) (.int 10) (.int 6) H Q := ⟨10, 6, rfl, rfl, ⟨by decide, by decide, by decide⟩, q⟩
theorem w_pow59 (q : Q (.int 100000000000000000000000000000000000000000000000000000000000) H) : rI CPow (fun i j => .int (i ^ j.toNat)) (.int 10) (.int 59) H Q := ⟨10, 59, rfl, rfl, ⟨by decide, by decide, by decide⟩, q⟩
theorem w_slL {p : Addr} {xs : List V} {lo hi : Option Int} (h : SqL K H p xs) (q : ∀ l, H l = none → Q (.ref l) (upd H l (.lst (cutV xs lo hi)))) : rSlU K (.ref p) lo hi H Q := .inl (.inl ⟨p, xs, rfl, h, q⟩)
theorem w_part {σ : L2.St} {te : TE} {Q : Option Int → Hp → Prop} (q : te σ H fun x H1 => ∃ i, x = .int i ∧ Q (some i) H1) : tPart te σ H Q := q
theorem w_partI {P : Int → Prop} (q : P i) : ∃ k, V.int i = .int k ∧ P k := ⟨i, rfl, q⟩
theorem w_nopart {σ : L2.St} {Q : Option Int → Hp → Prop} (q : Q none H) : tNoPart σ H Q := q
theorem w_sl {σ : L2.St} {r : V → Option Int → Option Int → Hp → VK → Prop} {te : TE} {tl th : TO} (q : te σ H fun x H1 => tl σ H1 fun l H2 => th σ H2 fun u H3 => r x l u H3 Q) : tSl r te tl th σ H Q := q
theorem w_listL {p : Addr} {ys : List V} (h : SqL K H p ys) (q : ∀ l, H l = none → Q (.ref l) (upd H l (.lst ys))) : rListU K [.ref p] H Q := ⟨p, ys, rfl, .inl h, q⟩
theorem w_listT {p : Addr} {ys : List V} (h : SqT K H p ys) (q : ∀ l, H l = none → Q (.ref l) (upd H l (.lst ys))) : rListU K [.ref p] H Q := ⟨p, ys, rfl, .inr h, q⟩
theorem w_tupleL {p : Addr} {ys : List V} (h : SqL K H p ys) (q : ∀ l, H l = none → Q (.ref l) (upd H l (.tup ys))) : rTupleU K [.ref p] H Q := ⟨p, ys, rfl, .inl ⟨h, q⟩⟩
theorem w_isB {a b : Bool} (q : Q (.bl (decide (a = b))) H) : rIsB (.bl a) (.bl b) H Q := ⟨a, b, rfl, rfl, q⟩
theorem w_nisB {a b : Bool} (q : Q (.bl (!decide (a = b))) H) : rNisB (.bl a) (.bl b) H Q := ⟨a, b, rfl, rfl, q⟩
theorem w_inT {x : V} {p : Addr} {xs : List V} (h : SqT K H p xs) (hx : flatV x = true) (ha : xs.all flatV = true) (q : Q (.bl (inV x xs)) H) : rInU K x (.ref p) H Q := .inl (.inl ⟨p, xs, rfl, .inr h, hx, ha, q⟩)
theorem w_inL {x : V} {p : Addr} {xs : List V} (h : SqL K H p xs) (hx : flatV x = true) (ha : xs.all flatV = true) (q : Q (.bl (inV x xs)) H) : rInU K x (.ref p) H Q := .inl (.inl ⟨p, xs, rfl, .inl h, hx, ha, q⟩)
theorem w_ninT {x : V} {p : Addr} {xs : List V} (h : SqT K H p xs) (hx : flatV x = true) (ha : xs.all flatV = true) (q : Q (.bl (!inV x xs)) H) : rNinU K x (.ref p) H Q := .inl (.inl ⟨p, xs, rfl, .inr h, hx, ha, q⟩)
theorem w_ninL {x : V} {p : Addr} {xs : List V} (h : SqL K H p xs) (hx : flatV x = true) (ha : xs.all flatV = true) (q : Q (.bl (!inV x xs)) H) : rNinU K x (.ref p) H Q := .inl (.inl ⟨p, xs, rfl, .inl h, hx, ha, q⟩)
theorem w_lenL {p : Addr} {ys : List V} (h : SqL K H p ys) (q : Q (.int ys.length) H) : rLenU K [.ref p] H Q := .inl ⟨p, ys, rfl, .inl h, q⟩
theorem w_lenT {p : Addr} {ys : List V} (h : SqT K H p ys) (q : Q (.int ys.length) H) : rLenU K [.ref p] H Q := .inl ⟨p, ys, rfl, .inr h, q⟩
theorem w_lenS {z : Str} (h : z.length ≤ sizeLine) (q : Q (.int z.length) H) : rLenU K [.str z] H Q := .inr ⟨z, rfl, h, q⟩
theorem w_ixL {p : Addr} {xs : List V} {v : V} (h : SqL K H p xs) (e : atI xs i = some v) (q : Q v H) : rIx K (.ref p) (.int i) H Q := .inl ⟨p, xs, i, v, rfl, rfl, h, e, q⟩
theorem w_ixT {p : Addr} {xs : List V} {v : V} (h : SqT K H p xs) (e : atI xs i = some v) (q : Q v H) : rIx K (.ref p) (.int i) H Q := .inr (.inl ⟨p, xs, i, v, rfl, rfl, h, e, q⟩)
theorem w_setL {p : Addr} {xs : List V} {v : V} {j : Nat} {Q : Hp → Prop} (h : H p = some (.lst xs)) (e : ixN xs.length i = some j) (q : Q (upd H p (.lst (xs.set j v)))) : rSetL (.ref p) (.int i) v H Q := ⟨p, xs, i, j, rfl, rfl, h, e, q⟩
theorem w_isi {x : V} {n : String} {t : Value} {b : Bool} (ty : TyX K H x t) (e : PySem.W.kitOne K t (.type n) = some b) (q : Q (.bl b) H) : rIsi K [x, .ty n] H Q := ⟨x, .ty n, t, .type n, b, rfl, .ty n, ty, e, q⟩
/-! isinstance of plain values -/
theorem ty_T {a : Addr} {xs : List V} (h : SqT K H a xs) : TyX K H (.ref a) (.type "tuple") := by
  rcases h with (h | ⟨o, h⟩) | ⟨o, its, n, h, hc, _⟩
  · exact .base (.tup h)
  · exact .fTuple h
  · exact .kTuple h hc
theorem ty_L {a : Addr} {xs : List V} (h : SqL K H a xs) : TyX K H (.ref a) (.type "list") := by
  rcases h with (h | ⟨o, h⟩) | ⟨o, its, n, h, hc, _⟩
  · exact .base (.lst h)
  · exact .base (.frz h)
  · exact .kList h hc
theorem isD_int {a : Addr} {kvs : List (Key × V)} (h : H a = some (.dK kvs)) (q : Q (.bl false) H) : rIsi K [.ref a, .ty "int"] H Q := w_isi (.base (.dK h)) (kit_ty (by decide +kernel)) q
theorem isD_bool {a : Addr} {kvs : List (Key × V)} (h : H a = some (.dK kvs)) (q : Q (.bl false) H) : rIsi K [.ref a, .ty "bool"] H Q := w_isi (.base (.dK h)) (kit_ty (by decide +kernel)) q
theorem isD_str {a : Addr} {kvs : List (Key × V)} (h : H a = some (.dK kvs)) (q : Q (.bl false) H) : rIsi K [.ref a, .ty "str"] H Q := w_isi (.base (.dK h)) (kit_ty (by decide +kernel)) q
theorem isD_tuple {a : Addr} {kvs : List (Key × V)} (h : H a = some (.dK kvs)) (q : Q (.bl false) H) : rIsi K [.ref a, .ty "tuple"] H Q := w_isi (.base (.dK h)) (kit_ty (by decide +kernel)) q
theorem isD_list {a : Addr} {kvs : List (Key × V)} (h : H a = some (.dK kvs)) (q : Q (.bl false) H) : rIsi K [.ref a, .ty "list"] H Q := w_isi (.base (.dK h)) (kit_ty (by decide +kernel)) q
theorem isD_dict {a : Addr} {kvs : List (Key × V)} (h : H a = some (.dK kvs)) (q : Q (.bl true) H) : rIsi K [.ref a, .ty "dict"] H Q := w_isi (.base (.dK h)) (kit_ty (by decide +kernel)) q
theorem isT_int {a : Addr} {xs : List V} (h : SqT K H a xs) (q : Q (.bl false) H) : rIsi K [.ref a, .ty "int"] H Q := w_isi (ty_T h) (kit_ty (by decide +kernel)) q
theorem isT_bool {a : Addr} {xs : List V} (h : SqT K H a xs) (q : Q (.bl false) H) : rIsi K [.ref a, .ty "bool"] H Q := w_isi (ty_T h) (kit_ty (by decide +kernel)) q
theorem isT_str {a : Addr} {xs : List V} (h : SqT K H a xs) (q : Q (.bl false) H) : rIsi K [.ref a, .ty "str"] H Q := w_isi (ty_T h) (kit_ty (by decide +kernel)) q
theorem isT_tuple {a : Addr} {xs : List V} (h : SqT K H a xs) (q : Q (.bl true) H) : rIsi K [.ref a, .ty "tuple"] H Q := w_isi (ty_T h) (kit_ty (by decide +kernel)) q
theorem isT_list {a : Addr} {xs : List V} (h : SqT K H a xs) (q : Q (.bl false) H) : rIsi K [.ref a, .ty "list"] H Q := w_isi (ty_T h) (kit_ty (by decide +kernel)) q
theorem isT_dict {a : Addr} {xs : List V} (h : SqT K H a xs) (q : Q (.bl false) H) : rIsi K [.ref a, .ty "dict"] H Q := w_isi (ty_T h) (kit_ty (by decide +kernel)) q
theorem isL_int {a : Addr} {xs : List V} (h : SqL K H a xs) (q : Q (.bl false) H) : rIsi K [.ref a, .ty "int"] H Q := w_isi (ty_L h) (kit_ty (by decide +kernel)) q
theorem isL_bool {a : Addr} {xs : List V} (h : SqL K H a xs) (q : Q (.bl false) H) : rIsi K [.ref a, .ty "bool"] H Q := w_isi (ty_L h) (kit_ty (by decide +kernel)) q
theorem isL_str {a : Addr} {xs : List V} (h : SqL K H a xs) (q : Q (.bl false) H) : rIsi K [.ref a, .ty "str"] H Q := w_isi (ty_L h) (kit_ty (by decide +kernel)) q
theorem isL_tuple {a : Addr} {xs : List V} (h : SqL K H a xs) (q : Q (.bl false) H) : rIsi K [.ref a, .ty "tuple"] H Q := w_isi (ty_L h) (kit_ty (by decide +kernel)) q
theorem isL_list {a : Addr} {xs : List V} (h : SqL K H a xs) (q : Q (.bl true) H) : rIsi K [.ref a, .ty "list"] H Q := w_isi (ty_L h) (kit_ty (by decide +kernel)) q
theorem isL_dict {a : Addr} {xs : List V} (h : SqL K H a xs) (q : Q (.bl false) H) : rIsi K [.ref a, .ty "dict"] H Q := w_isi (ty_L h) (kit_ty (by decide +kernel)) q
theorem is_non_int (q : Q (.bl false) H) : rIsi K [.non, .ty "int"] H Q := w_isi (.base .non) (kit_ty (by decide +kernel)) q
theorem is_non_bool (q : Q (.bl false) H) : rIsi K [.non, .ty "bool"] H Q := w_isi (.base .non) (kit_ty (by decide +kernel)) q
theorem is_non_str (q : Q (.bl false) H) : rIsi K [.non, .ty "str"] H Q := w_isi (.base .non) (kit_ty (by decide +kernel)) q
theorem is_non_tuple (q : Q (.bl false) H) : rIsi K [.non, .ty "tuple"] H Q := w_isi (.base .non) (kit_ty (by decide +kernel)) q
theorem is_non_list (q : Q (.bl false) H) : rIsi K [.non, .ty "list"] H Q := w_isi (.base .non) (kit_ty (by decide +kernel)) q
theorem is_non_dict (q : Q (.bl false) H) : rIsi K [.non, .ty "dict"] H Q := w_isi (.base .non) (kit_ty (by decide +kernel)) q
theorem is_bl_int {u : Bool} (q : Q (.bl true) H) : rIsi K [(.bl u), .ty "int"] H Q := w_isi (.base (.bl _)) (kit_ty (by decide +kernel)) q
theorem is_bl_bool {u : Bool} (q : Q (.bl true) H) : rIsi K [(.bl u), .ty "bool"] H Q := w_isi (.base (.bl _)) (kit_ty (by decide +kernel)) q
theorem is_bl_str {u : Bool} (q : Q (.bl false) H) : rIsi K [(.bl u), .ty "str"] H Q := w_isi (.base (.bl _)) (kit_ty (by decide +kernel)) q
theorem is_bl_tuple {u : Bool} (q : Q (.bl false) H) : rIsi K [(.bl u), .ty "tuple"] H Q := w_isi (.base (.bl _)) (kit_ty (by decide +kernel)) q
theorem is_bl_list {u : Bool} (q : Q (.bl false) H) : rIsi K [(.bl u), .ty "list"] H Q := w_isi (.base (.bl _)) (kit_ty (by decide +kernel)) q
theorem is_bl_dict {u : Bool} (q : Q (.bl false) H) : rIsi K [(.bl u), .ty "dict"] H Q := w_isi (.base (.bl _)) (kit_ty (by decide +kernel)) q
theorem is_int_int {u : Int} (q : Q (.bl true) H) : rIsi K [(.int u), .ty "int"] H Q := w_isi (.base (.int _)) (kit_ty (by decide +kernel)) q
theorem is_int_bool {u : Int} (q : Q (.bl false) H) : rIsi K [(.int u), .ty "bool"] H Q := w_isi (.base (.int _)) (kit_ty (by decide +kernel)) q
theorem is_int_str {u : Int} (q : Q (.bl false) H) : rIsi K [(.int u), .ty "str"] H Q := w_isi (.base (.int _)) (kit_ty (by decide +kernel)) q
theorem is_int_tuple {u : Int} (q : Q (.bl false) H) : rIsi K [(.int u), .ty "tuple"] H Q := w_isi (.base (.int _)) (kit_ty (by decide +kernel)) q
theorem is_int_list {u : Int} (q : Q (.bl false) H) : rIsi K [(.int u), .ty "list"] H Q := w_isi (.base (.int _)) (kit_ty (by decide +kernel)) q
theorem is_int_dict {u : Int} (q : Q (.bl false) H) : rIsi K [(.int u), .ty "dict"] H Q := w_isi (.base (.int _)) (kit_ty (by decide +kernel)) q
theorem is_str_int {u : Str} (q : Q (.bl false) H) : rIsi K [(.str u), .ty "int"] H Q := w_isi (.base (.str _)) (kit_ty (by decide +kernel)) q
theorem is_str_bool {u : Str} (q : Q (.bl false) H) : rIsi K [(.str u), .ty "bool"] H Q := w_isi (.base (.str _)) (kit_ty (by decide +kernel)) q
theorem is_str_str {u : Str} (q : Q (.bl true) H) : rIsi K [(.str u), .ty "str"] H Q := w_isi (.base (.str _)) (kit_ty (by decide +kernel)) q
theorem is_str_tuple {u : Str} (q : Q (.bl false) H) : rIsi K [(.str u), .ty "tuple"] H Q := w_isi (.base (.str _)) (kit_ty (by decide +kernel)) q
theorem is_str_list {u : Str} (q : Q (.bl false) H) : rIsi K [(.str u), .ty "list"] H Q := w_isi (.base (.str _)) (kit_ty (by decide +kernel)) q
theorem is_str_dict {u : Str} (q : Q (.bl false) H) : rIsi K [(.str u), .ty "dict"] H Q := w_isi (.base (.str _)) (kit_ty (by decide +kernel)) q
theorem w_rU {g : Int → V} (q : Q (g i) H) : rU g (.int i) H Q := ⟨i, rfl, q⟩
theorem dec_int {a b : Int} : decide (V.int a = V.int b) = decide (a = b) := by
  by_cases h : a = b
  · subst h; simp
  · rw [decide_eq_false h, decide_eq_false fun e => h (V.int.inj e)]
theorem dec_str {a b : Str} : decide (V.str a = V.str b) = decide (a = b) := by
  by_cases h : a = b
  · subst h; simp
  · rw [decide_eq_false h, decide_eq_false fun e => h (V.str.inj e)]
theorem dec_bl {a b : Bool} : decide (V.bl a = V.bl b) = decide (a = b) := by
  by_cases h : a = b
  · subst h; simp
  · rw [decide_eq_false h, decide_eq_false fun e => h (V.bl.inj e)]
theorem w_eqI (q : Q (.bl (decide (i = j))) H) : rEqU K (.int i) (.int j) H Q := .inl (.inl ⟨rfl, by rw [dec_int]; exact q⟩)
theorem w_eqS {a b : Str} (q : Q (.bl (decide (a = b))) H) : rEqU K (.str a) (.str b) H Q := .inl (.inl ⟨rfl, by rw [dec_str]; exact q⟩)
theorem w_eqB {a b : Bool} (q : Q (.bl (decide (a = b))) H) : rEqU K (.bl a) (.bl b) H Q := .inl (.inl ⟨rfl, by rw [dec_bl]; exact q⟩)
theorem w_neI (q : Q (.bl (!decide (i = j))) H) : rNeU K (.int i) (.int j) H Q := .inl (.inl ⟨rfl, by rw [dec_int]; exact q⟩)
theorem w_neS {a b : Str} (q : Q (.bl (!decide (a = b))) H) : rNeU K (.str a) (.str b) H Q := .inl (.inl ⟨rfl, by rw [dec_str]; exact q⟩)
theorem w_neB {a b : Bool} (q : Q (.bl (!decide (a = b))) H) : rNeU K (.bl a) (.bl b) H Q := .inl (.inl ⟨rfl, by rw [dec_bl]; exact q⟩)
theorem w_eqDS {p : Addr} {kvs : List (Key × V)} {z : Str} (h : H p = some (.dK kvs)) (q : Q (.bl false) H) : rEqU K (.ref p) (.str z) H Q := .inr ⟨p, kvs, z, rfl, h, rfl, q⟩
theorem w_neDS {p : Addr} {kvs : List (Key × V)} {z : Str} (h : H p = some (.dK kvs)) (q : Q (.bl true) H) : rNeU K (.ref p) (.str z) H Q := .inr ⟨p, kvs, z, rfl, h, rfl, q⟩
theorem w_eqD {x y : V} {d e : PyData} (hx : Dp K H x d) (hy : Dp K H y e) (sx : SeqAt.shaped d = true) (sy : SeqAt.shaped e = true) (q : Q (.bl (PyData.eqv d e)) H) : rEqU K x y H Q := .inl (.inr ⟨d, e, hx, hy, sx, sy, q⟩)
theorem w_neD {x y : V} {d e : PyData} (hx : Dp K H x d) (hy : Dp K H y e) (sx : SeqAt.shaped d = true) (sy : SeqAt.shaped e = true) (q : Q (.bl (!PyData.eqv d e)) H) : rNeU K x y H Q := .inl (.inr ⟨d, e, hx, hy, sx, sy, q⟩)
end
/-- a new tuple, a new list -/
def MkT (xs : List V) (Q : VK) (H : Hp) : Prop := xs.length ≤ sizeLine ∧ ∀ p, H p = none → Q (.ref p) (upd H p (.tup xs))
def MkL (xs : List V) (Q : VK) (H : Hp) : Prop := xs.length ≤ sizeLine ∧ ∀ p, H p = none → Q (.ref p) (upd H p (.lst xs))
/-! ### steps of a reading -/
section
variable {K : PySem.W.Frag} {σ : L2.St} {H : Hp} {Q : VK} {QB : Bool → Hp → Prop} {QA : List V → Hp → Prop} {ta tb tc : TE} {t u : TT} {v : V} {i : Nat} {r r' : R2}
theorem w_var (h : σ[i]? = some (some v)) (q : Q v H) : tVar i σ H Q := ⟨v, h, q⟩
theorem w_c (q : Q v H) : tC v σ H Q := q
theorem w_op (q : ta σ H fun x H1 => tb σ H1 fun y H2 => r x y H2 Q) : tOp r ta tb σ H Q := q
theorem w_un {r : V → Hp → VK → Prop} (q : ta σ H fun x H1 => r x H1 Q) : tUn r ta σ H Q := q
theorem w_chain (q : ta σ H fun x H1 => tb σ H1 fun y H2 => r x y H2 fun z H3 => ∃ k, z = .bl k ∧ (if k = true then tc σ H3 fun w' H4 => r' y w' H4 Q else Q (.bl false) H3)) : tChain r r' ta tb tc σ H Q := q
theorem w_bl {b : Bool} {P : Bool → Prop} (q : P b) : ∃ k, V.bl b = .bl k ∧ P k := ⟨b, rfl, q⟩
theorem w_test (q : ta σ H fun x H' => ∃ k, x = .bl k ∧ QB k H') : tTest ta σ H QB := q
theorem w_B (q : ta σ H fun x H' => ∃ k, x = .bl k ∧ QB k H') : tB ta σ H QB := q
theorem w_and (q : t σ H fun c H1 => if c = true then u σ H1 QB else QB false H1) : tAnd t u σ H QB := q
theorem w_or (q : t σ H fun c H1 => if c = true then QB true H1 else u σ H1 QB) : tOr t u σ H QB := q
theorem w_not (q : t σ H fun c H1 => QB (!c) H1) : tNot t σ H QB := q
theorem w_andV (q : ta σ H fun x H1 => ∃ c, x = .bl c ∧ if c = true then tb σ H1 Q else Q (.bl false) H1) : tAndV ta tb σ H Q := q
theorem w_orV (q : ta σ H fun x H1 => ∃ c, x = .bl c ∧ if c = true then Q (.bl true) H1 else tb σ H1 Q) : tOrV ta tb σ H Q := q
theorem w_notV (q : ta σ H fun x H1 => ∃ c, x = .bl c ∧ Q (.bl (!c)) H1) : tNotV ta σ H Q := q
theorem w_if (q : t σ H fun c H1 => if c = true then ta σ H1 Q else tb σ H1 Q) : tIf t ta tb σ H Q := q
theorem w_isN (q : ta σ H fun x H1 => Q (.bl (decide (x = .non))) H1) : tIsN ta σ H Q := q
theorem w_notN (q : ta σ H fun x H1 => Q (.bl (!decide (x = .non))) H1) : tNotN ta σ H Q := q
theorem w_nil (q : QA [] H) : tNil σ H QA := q
theorem w_cons {tr : TA} (q : ta σ H fun x H1 => tr σ H1 fun xs H2 => QA (x :: xs) H2) : tCons ta tr σ H QA := q
theorem w_tup {tr : TA} (q : tr σ H fun xs H1 => MkT xs Q H1) : tTup tr σ H Q := q
theorem w_lst {tr : TA} (q : tr σ H fun xs H1 => MkL xs Q H1) : tLst tr σ H Q := q
theorem w_call {sp : Sp} {dvs : List V} {E : XK} {tr : TA} (q : tr σ H fun vs H1 => sp (vs ++ dvs) H1 Q E) : tCall sp dvs E tr σ H Q := q
theorem w_cb {rc : List V → Hp → VK → Prop} {tr : TA} (q : tr σ H fun vs H1 => rc vs H1 Q) : tCB rc tr σ H Q := q
theorem w_bm {T : String} {rm : V → List V → Hp → VK → Prop} {tr : TA} (q : ta σ H fun x H1 => tyV K T x H1 ∧ tr σ H1 fun xs H2 => rm x xs H2 Q) : tBM K T rm ta tr σ H Q := q
theorem w_bm0 {T : String} {rm : V → List V → Hp → VK → Prop} (q : ta σ H fun x H1 => tyV K T x H1 ∧ rm x [] H1 Q) : tBM0 K T rm ta σ H Q := q
end
section
variable {σ : L2.St} {H : Hp} {n b c : L2.St → Hp → Prop} {r : VK} {t u : TS} {te : TE} {tt : TT} {g : TG} {v : V} {i : Nat}
theorem w_cut (M : L2.St → Hp → Prop) (h1 : t ⟨M, r, b, c⟩ σ H) (h2 : ∀ σ' H', M σ' H' → u ⟨n, r, b, c⟩ σ' H') : C8.tCut t u ⟨n, r, b, c⟩ σ H := ⟨M, h1, h2⟩
theorem w_sub' {Q : L2.St → Hp → Prop} {to ti : TE} {ts : TSet} (q : to σ H fun o H1 => ti σ H1 fun i H2 => ts o i v H2 fun H3 => Q σ H3) : gSub to ti ts v σ H Q := q
theorem w_seq (q : t ⟨u ⟨n, r, b, c⟩, r, b, c⟩ σ H) : tSeq t u ⟨n, r, b, c⟩ σ H := q
theorem w_asg (q : te σ H fun x H1 => g x σ H1 n) : tAsg te g ⟨n, r, b, c⟩ σ H := q
theorem w_name {Q : L2.St → Hp → Prop} (q : Q (σ.set i (some v)) H) : gName i v σ H Q := q
theorem w_gcons {t1 : TG} {u1 : TGs} {vs : List V} {Q : L2.St → Hp → Prop} (q : t1 v σ H fun σ' H' => u1 vs σ' H' Q) : gCons t1 u1 (v :: vs) σ H Q := ⟨v, vs, rfl, q⟩
theorem w_gnil {Q : L2.St → Hp → Prop} (q : Q σ H) : gNil [] σ H Q := ⟨rfl, q⟩
theorem w_gtup {K : PySem.W.Frag} {t1 : TGs} {p : Addr} {xs : List V} {m : Nat} {Q : L2.St → Hp → Prop} (h : SqT K H p xs) (hl : xs.length = m) (q : t1 xs σ H Q) : gTup K m t1 (.ref p) σ H Q := ⟨p, xs, rfl, h, hl, q⟩
theorem w_ret (q : te σ H r) : tRet te ⟨n, r, b, c⟩ σ H := q
theorem w_retN (q : r .non H) : tRetN ⟨n, r, b, c⟩ σ H := q
theorem w_drop (q : te σ H fun _ H1 => n σ H1) : tDrop te ⟨n, r, b, c⟩ σ H := q
theorem w_ifS (q : tt σ H fun k H1 => if k = true then t ⟨n, r, b, c⟩ σ H1 else u ⟨n, r, b, c⟩ σ H1) : tIfS tt t u ⟨n, r, b, c⟩ σ H := q
theorem w_next (q : n σ H) : tNext ⟨n, r, b, c⟩ σ H := q
theorem w_break (q : b σ H) : tBreak ⟨n, r, b, c⟩ σ H := q
theorem w_cont (q : c σ H) : tCont ⟨n, r, b, c⟩ σ H := q
end
/-! ### loops -/
/-- the turns of a for over J -/
def FOR (J : It) (g : TG) (tb : TS) (D : Ends) (σ : L2.St) (H1 : Hp) : Prop :=
  ∃ W : Nat → Nat → L2.St → Hp → Prop, (∃ m, W 0 m σ H1) ∧
    ∀ i m σ H, W i m σ H → (J.stop i H ∧ D.nx σ H) ∨ (J.go i H ∧
      ∃ N : L2.St → Hp → Prop, (∀ σ' H', N σ' H' → ∃ m', m' < m ∧ W (i + 1) m' σ' H') ∧
        ∀ x H', J.yld i H x H' → g x σ H' fun σ2 H2 => tb { D with nx := N, ct := N, bk := D.nx } σ2 H2)
section
variable {K : PySem.W.Frag} {σ : L2.St} {H : Hp} {nx b c : L2.St → Hp → Prop} {rt : VK} {g : TG} {tb : TS} {D : Ends}
theorem w_for {wi : TI} (q : wi σ H fun J H1 => FOR J g tb D σ H1) : tFor wi g tb D σ H := q
theorem w_iR1 {ta : TA} {R : It → Hp → Prop} (q : ta σ H fun vs H1 => ∃ j : Int, vs = [.int j] ∧ -(2 ^ 62) ≤ j ∧ j < 2 ^ 62 ∧ R (Itr 0 j.toNat) H1) : iRng1 ta σ H R := q
theorem w_iR2 {ta : TA} {R : It → Hp → Prop} (q : ta σ H fun vs H1 => ∃ i j : Int, vs = [.int i, .int j] ∧ (-(2 ^ 62) ≤ i ∧ i < 2 ^ 62 ∧ -(2 ^ 62) ≤ j ∧ j < 2 ^ 62) ∧ R (Itr i (j - i).toNat) H1) : iRng2 ta σ H R := q
theorem w_iRev {te : TE} {R : It → Hp → Prop} (q : te σ H fun v H1 => ∃ (a : Addr) (xs : List V), v = .ref a ∧ ((SqL K H1 a xs ∧ R (Itv K a xs.length) H1) ∨ (SqT K H1 a xs ∧ R (RT.ItvT K a xs.length) H1))) : iRevU K te σ H R := q
theorem w_iEnum {ta : TA} {R : It → Hp → Prop} (q : ta σ H fun vs H1 => ∃ a xs, vs = [.ref a] ∧ SqL K H1 a xs ∧ R (Ite K a) H1) : iEnumU K ta σ H R := q
theorem w_iL {tl : TE} {R : It → Hp → Prop} (q : tl σ H fun x H1 => ∃ a, x = .ref a ∧ (∃ xs, SqL K H1 a xs) ∧ R (Itl K a) H1) : iList K tl σ H R := q
theorem w_iT {tl : TE} {R : It → Hp → Prop} (q : tl σ H fun x H1 => ∃ a, x = .ref a ∧ (∃ xs, SqT K H1 a xs) ∧ R (Itt K a) H1) : iTup K tl σ H R := q
theorem F_R1 {j : Int} (n : Nat) (hn : j.toNat = n) (h1 : -(2 ^ 62) ≤ j) (h2 : j < 2 ^ 62) (Pv : Nat → L2.St → Hp → Prop) (h0 : Pv 0 σ H)
    (hs : ∀ i σ H, i < n → Pv i σ H → g (.int i) σ H fun σ2 H2 => tb ⟨Pv (i + 1), rt, nx, Pv (i + 1)⟩ σ2 H2) (hd : ∀ σ H, Pv n σ H → nx σ H) :
    ∃ j' : Int, [V.int j] = [.int j'] ∧ -(2 ^ 62) ≤ j' ∧ j' < 2 ^ 62 ∧ FOR (Itr 0 j'.toNat) g tb ⟨nx, rt, b, c⟩ σ H := by
  subst hn
  refine ⟨j, rfl, h1, h2, ?_⟩
  exact for_range (D := ⟨nx, rt, b, c⟩) Pv h0 (fun i σ H hi p => by rw [Int.zero_add]; exact hs i σ H hi p) hd
theorem F_L {a : Addr} {xs : List V} (h : SqL K H a xs) (Pv : Nat → L2.St → Hp → Prop) (h0 : Pv 0 σ H) (hl : ∀ i σ H, i ≤ xs.length → Pv i σ H → SqL K H a xs)
    (hs : ∀ i x σ H, xs[i]? = some x → Pv i σ H → g x σ H fun σ2 H2 => tb ⟨Pv (i + 1), rt, nx, Pv (i + 1)⟩ σ2 H2) (hd : ∀ σ H, Pv xs.length σ H → nx σ H) :
    ∃ a', V.ref a = .ref a' ∧ (∃ ys, SqL K H a' ys) ∧ FOR (Itl K a') g tb ⟨nx, rt, b, c⟩ σ H :=
  ⟨a, rfl, ⟨xs, h⟩, for_list (D := ⟨nx, rt, b, c⟩) Pv h0 hl hs hd⟩
theorem F_T {a : Addr} {xs : List V} (h : SqT K H a xs) (Pv : Nat → L2.St → Hp → Prop) (h0 : Pv 0 σ H) (hl : ∀ i σ H, i ≤ xs.length → Pv i σ H → SqT K H a xs)
    (hs : ∀ i x σ H, xs[i]? = some x → Pv i σ H → g x σ H fun σ2 H2 => tb ⟨Pv (i + 1), rt, nx, Pv (i + 1)⟩ σ2 H2) (hd : ∀ σ H, Pv xs.length σ H → nx σ H) :
    ∃ a', V.ref a = .ref a' ∧ (∃ ys, SqT K H a' ys) ∧ FOR (Itt K a') g tb ⟨nx, rt, b, c⟩ σ H :=
  ⟨a, rfl, ⟨xs, h⟩, for_tup (D := ⟨nx, rt, b, c⟩) Pv h0 hl hs hd⟩
/-- a while by an invariant with a measure -/
theorem w_while {tt : TT} (W : Nat → L2.St → Hp → Prop) (m0 : Nat) (h0 : W m0 σ H)
    (hs : ∀ m σ' H', W m σ' H' → tt σ' H' fun k H1 => if k = true then tb ⟨fun σ2 H2 => ∃ m', m' < m ∧ W m' σ2 H2, rt, nx, fun σ2 H2 => ∃ m', m' < m ∧ W m' σ2 H2⟩ σ' H1 else nx σ' H1)
    (mono : ∀ σ H (Q Q' : Bool → Hp → Prop), (∀ k H1, Q k H1 → Q' k H1) → tt σ H Q → tt σ H Q') : tWhile tt tb ⟨nx, rt, b, c⟩ σ H := by
  refine ⟨W, ⟨m0, h0⟩, fun m σ' H' w => mono σ' H' _ _ (fun k H1 q => ?_) (hs m σ' H' w)⟩
  cases k with
  | true => exact ⟨_, fun _ _ z => z, q⟩
  | false => exact q
/-- .. the measure's step told at the test's end -/
theorem w_whileN {tt : TT} (W : Nat → L2.St → Hp → Prop) (m0 : Nat) (h0 : W m0 σ H)
    (hs : ∀ m σ' H', W m σ' H' → tt σ' H' fun k H1 => if k = true then ∃ N : L2.St → Hp → Prop, (∀ σ2 H2, N σ2 H2 → ∃ m', m' < m ∧ W m' σ2 H2) ∧ tb ⟨N, rt, nx, N⟩ σ' H1 else nx σ' H1) : tWhile tt tb ⟨nx, rt, b, c⟩ σ H := ⟨W, ⟨m0, h0⟩, hs⟩
theorem w_N {m : Nat} {W : Nat → L2.St → Hp → Prop} (q : tb ⟨fun σ2 H2 => ∃ m', m' < m ∧ W m' σ2 H2, rt, nx, fun σ2 H2 => ∃ m', m' < m ∧ W m' σ2 H2⟩ σ H) : ∃ N : L2.St → Hp → Prop, (∀ σ2 H2, N σ2 H2 → ∃ m', m' < m ∧ W m' σ2 H2) ∧ tb ⟨N, rt, nx, N⟩ σ H := ⟨_, fun _ _ z => z, q⟩
/-- the turns of a comprehension over J -/
def LC (J : It) (g : TG) (tt : TT) (te : TE) (vs : List Nat) (σ : L2.St) (D : Addr) (Q : VK) (H1 : Hp) : Prop :=
  ∃ W : Nat → Nat → Hp → Prop, (∃ m, W 0 m H1) ∧ ∀ i m H, W i m H → (J.stop i H ∧ Q (.ref D) H) ∨ (J.go i H ∧
    ∃ Nx : Hp → Prop, (∀ H', Nx H' → ∃ m', m' < m ∧ W (i + 1) m' H') ∧ ∀ x H', J.yld i H x H' → g x (wipe σ vs) H' fun σ2 H2 => wipe σ2 vs = wipe σ vs ∧
      tt σ2 H2 fun k H3 => if k = true then te σ2 H3 fun y H4 => ∃ acc, H4 D = some (.lst acc) ∧ acc.length < sizeLine ∧ Nx (upd H4 D (.lst (acc ++ [y]))) else Nx H3)
theorem w_lc {wi : TI} {tt : TT} {te : TE} {vs : List Nat} {Q : VK} (q : wi σ H fun J H1 => ∀ D, H1 D = none → LC J g tt te vs σ D Q (upd H1 D (.lst []))) : tLc wi g tt te vs σ H Q := q
theorem LC_L {a : Addr} {xs : List V} {tt : TT} {te : TE} {vs : List Nat} {Q : VK} (h : SqL K H a xs) (q : ∀ D, H D = none → LC (Itl K a) g tt te vs σ D Q (upd H D (.lst []))) :
    ∃ a', V.ref a = .ref a' ∧ (∃ ys, SqL K H a' ys) ∧ ∀ D, H D = none → LC (Itl K a') g tt te vs σ D Q (upd H D (.lst [])) := ⟨a, rfl, ⟨xs, h⟩, q⟩
theorem LC_T {a : Addr} {xs : List V} {tt : TT} {te : TE} {vs : List Nat} {Q : VK} (h : SqT K H a xs) (q : ∀ D, H D = none → LC (Itt K a) g tt te vs σ D Q (upd H D (.lst []))) :
    ∃ a', V.ref a = .ref a' ∧ (∃ ys, SqT K H a' ys) ∧ ∀ D, H D = none → LC (Itt K a') g tt te vs σ D Q (upd H D (.lst [])) := ⟨a, rfl, ⟨xs, h⟩, q⟩
theorem LC_by {a D : Addr} {xs : List V} {tt : TT} {te : TE} {vs : List Nat} {Q : VK} (Pv : Nat → Hp → Prop) (h0 : Pv 0 (upd H D (.lst []))) (hl : ∀ i H, i ≤ xs.length → Pv i H → SqL K H a xs)
    (hs : ∀ i x H, xs[i]? = some x → Pv i H → g x (wipe σ vs) H fun σ2 H2 => wipe σ2 vs = wipe σ vs ∧ tt σ2 H2 fun k H3 =>
      if k = true then te σ2 H3 fun y H4 => ∃ acc, H4 D = some (.lst acc) ∧ acc.length < sizeLine ∧ Pv (i + 1) (upd H4 D (.lst (acc ++ [y]))) else Pv (i + 1) H3)
    (hd : ∀ H, Pv xs.length H → Q (.ref D) H) : LC (Itl K a) g tt te vs σ D Q (upd H D (.lst [])) := lc_list (xs := xs) Pv h0 hl hs hd
theorem LC_R1 {j : Int} {tt : TT} {te : TE} {vs : List Nat} {Q : VK} (n : Nat) (hn : j.toNat = n) (h1 : -(2 ^ 62) ≤ j) (h2 : j < 2 ^ 62)
    (q : ∀ D, H D = none → ∃ Pv : Nat → Hp → Prop, Pv 0 (upd H D (.lst [])) ∧ (∀ (i : Nat) H', i < n → Pv i H' → g (.int i) (wipe σ vs) H' fun σ2 H2 => wipe σ2 vs = wipe σ vs ∧ tt σ2 H2 fun k H3 =>
      if k = true then te σ2 H3 fun y H4 => ∃ acc, H4 D = some (.lst acc) ∧ acc.length < sizeLine ∧ Pv (i + 1) (upd H4 D (.lst (acc ++ [y]))) else Pv (i + 1) H3) ∧ ∀ H', Pv n H' → Q (.ref D) H') :
    ∃ j' : Int, [V.int j] = [.int j'] ∧ -(2 ^ 62) ≤ j' ∧ j' < 2 ^ 62 ∧ ∀ D, H D = none → LC (Itr 0 j'.toNat) g tt te vs σ D Q (upd H D (.lst [])) := by
  subst hn
  refine ⟨j, rfl, h1, h2, fun D hD => ?_⟩
  obtain ⟨Pv, p0, ps, pd⟩ := q D hD
  exact lc_range Pv p0 (fun i H hi p => by rw [Int.zero_add]; exact ps i H hi p) pd
theorem w_wipe {σ1 σ2 : L2.St} {vs : List Nat} {B : Prop} (h : wipe σ2 vs = wipe σ1 vs) (q : B) : wipe σ2 vs = wipe σ1 vs ∧ B := ⟨h, q⟩
theorem w_yes {Q : Bool → Hp → Prop} (q : Q true H) : tYes σ H Q := q
end
/-- a test's outcome, as a proposition -/
theorem ite_d {c : Prop} [Decidable c] {A B : Prop} (h1 : c → A) (h2 : ¬ c → B) : if decide c = true then A else B := by
  by_cases h : c
  · rw [if_pos (decide_eq_true h)]; exact h1 h
  · rw [if_neg (by rw [decide_eq_false h]; decide)]; exact h2 h
theorem ite_nd {c : Prop} [Decidable c] {A B : Prop} (h1 : ¬ c → A) (h2 : c → B) : if (!decide c) = true then A else B := by
  by_cases h : c
  · rw [if_neg (by rw [decide_eq_true h]; decide)]; exact h2 h
  · rw [if_pos (by rw [decide_eq_false h]; decide)]; exact h1 h
theorem iteNT {A B : Prop} (h : B) : if (!true) = true then A else B := h
theorem iteNF {A B : Prop} (h : A) : if (!false) = true then A else B := h
theorem ite_b {k : Bool} {A B : Prop} (h1 : k = true → A) (h2 : k = false → B) : if k = true then A else B := by
  cases k
  · exact h2 rfl
  · exact h1 rfl
/-! ### heaps -/
/-- all that was tracked, but for S, is as it was -/
def Fr (S : List Addr) (H H' : Hp) : Prop := ∀ a o, H a = some o → a ∉ S → H' a = some o
theorem Fr.refl {S : List Addr} {H : Hp} : Fr S H H := fun _ _ h _ => h
theorem Fr.trans {S : List Addr} {H H1 H2 : Hp} (a : Fr S H H1) (b : Fr S H1 H2) : Fr S H H2 := fun x o h n => b x o (a x o h n) n
theorem Fr.new {S : List Addr} {H : Hp} {p : Addr} {o : HO} (h : H p = none) : Fr S H (upd H p o) := fun a u e _ => by
  rw [upd_ne (ne_of_none e h)]
  exact e
theorem Fr.mut {S : List Addr} {H : Hp} {p : Addr} {o : HO} (h : p ∈ S) : Fr S H (upd H p o) := fun a u e n => by
  rw [upd_ne (by rintro rfl; exact n h)]
  exact e
theorem Fr.mono {S S' : List Addr} {H H' : Hp} (a : Fr S H H') (h : ∀ x ∈ S, x ∈ S') : Fr S' H H' := fun x o e n => a x o e fun z => n (h x z)
theorem Fr.free {H H' : Hp} (e : Fr [] H H') {l : Addr} (h : H' l = none) : H l = none := by
  cases q : H l with
  | none => rfl
  | some o =>
    rw [e l o q (by simp)] at h
    cases h
/-- what is new may change -/
theorem Fr.new_mut {S : List Addr} {H H' : Hp} {p : Addr} (hp : H p = none) (a : Fr (p :: S) H H') : Fr S H H' := fun x o e n => a x o e (by
  intro z
  rcases List.mem_cons.mp z with z | z
  · subst z; rw [hp] at e; cases e
  · exact n z)
theorem Fr.seqL {S : List Addr} {K : PySem.W.Frag} {H H' : Hp} {a : Addr} {xs : List V} (e : Fr S H H') (h : SqL K H a xs) (n : a ∉ S) : SqL K H' a xs := by
  rcases h with (h | ⟨o, h⟩) | h
  · exact .inl (.inl (e _ _ h n))
  · exact .inl (.inr ⟨o, e _ _ h n⟩)
  · exact .inr h
theorem Fr.seqT {S : List Addr} {K : PySem.W.Frag} {H H' : Hp} {a : Addr} {xs : List V} (e : Fr S H H') (h : SqT K H a xs) (n : a ∉ S) : SqT K H' a xs := by
  rcases h with (h | ⟨o, h⟩) | h
  · exact .inl (.inl (e _ _ h n))
  · exact .inl (.inr ⟨o, e _ _ h n⟩)
  · exact .inr h
/-- an open place of a list of ints all of which hold P -/
theorem at_all {ns : List Int} {P : Int → Prop} (hP : ∀ z ∈ ns, P z) {p : Int} (h0 : 0 ≤ p) (h : p < ns.length) : ∃ z, atI (ns.map V.int) p = some (.int z) ∧ P z := by
  have hk : p.toNat < ns.length := by omega
  have ek : p = ((p.toNat : Nat) : Int) := by omega
  have key : atI (ns.map V.int) ((p.toNat : Nat) : Int) = some (.int ns[p.toNat]) := atI_nat (by rw [List.getElem?_map, List.getElem?_eq_getElem hk] <;> rfl)
  rw [← ek] at key
  exact ⟨_, key, hP _ (List.getElem_mem hk)⟩
theorem at_str {ns : List Str} {P : Str → Prop} (hP : ∀ z ∈ ns, P z) {p : Int} (h0 : 0 ≤ p) (h : p < ns.length) : ∃ z, atI (ns.map V.str) p = some (.str z) ∧ P z := by
  have hk : p.toNat < ns.length := by omega
  have ek : p = ((p.toNat : Nat) : Int) := by omega
  have key : atI (ns.map V.str) ((p.toNat : Nat) : Int) = some (.str ns[p.toNat]) := atI_nat (by rw [List.getElem?_map, List.getElem?_eq_getElem hk] <;> rfl)
  rw [← ek] at key
  exact ⟨_, key, hP _ (List.getElem_mem hk)⟩
theorem at_int {ns : List Int} {p : Int} (h0 : 0 ≤ p) (h : p < ns.length) : ∃ z, atI (ns.map V.int) p = some (.int z) ∧ ns[p.toNat]? = some z := by
  have hk : p.toNat < ns.length := by omega
  have ek : p = ((p.toNat : Nat) : Int) := by omega
  have key : atI (ns.map V.int) ((p.toNat : Nat) : Int) = some (.int ns[p.toNat]) := atI_nat (by rw [List.getElem?_map, List.getElem?_eq_getElem hk] <;> rfl)
  rw [← ek] at key
  exact ⟨_, key, List.getElem?_eq_getElem hk⟩
end U

namespace U
open PySem PySem.Spec PyProof.Rows L2
/-! ### data of tuples all the way down: nothing changes it -/
mutual
inductive Dt (K : PySem.W.Frag) (H : Hp) : V → PyData → Prop
  | non : Dt K H .non .none
  | bl (b : Bool) : Dt K H (.bl b) (.bool b)
  | int (i : Int) : Dt K H (.int i) (.int i)
  | str (x : Str) : Dt K H (.str x) (.str x)
  | tup {p : Addr} {vs : List V} {es : List PyData} : SqT K H p vs → DtAll K H vs es → Dt K H (.ref p) (.tuple es)
inductive DtAll (K : PySem.W.Frag) (H : Hp) : List V → List PyData → Prop
  | nil : DtAll K H [] []
  | cons {v : V} {vs : List V} {e : PyData} {es : List PyData} : Dt K H v e → DtAll K H vs es → DtAll K H (v :: vs) (e :: es)
end
/-- tuples stand -/
def Tu (H H' : Hp) : Prop := ∀ a xs, (H a = some (.tup xs) → H' a = some (.tup xs)) ∧ ∀ o, H a = some (.frz o (.tup xs)) → H' a = some (.frz o (.tup xs))
theorem Tu.refl {H : Hp} : Tu H H := fun _ _ => ⟨id, fun _ => id⟩
theorem Tu.trans {H H1 H2 : Hp} (a : Tu H H1) (b : Tu H1 H2) : Tu H H2 := fun x xs => ⟨fun h => (b x xs).1 ((a x xs).1 h), fun o h => (b x xs).2 o ((a x xs).2 o h)⟩
theorem Fr.tu {H H' : Hp} (f : Fr [] H H') : Tu H H' := fun a xs => ⟨fun h => f a _ h (by simp), fun o h => f a _ h (by simp)⟩
theorem Fr.tu1 {H H' : Hp} {t : Addr} {xs : List V} (f : Fr [t] H H') (h : H t = some (.lst xs)) : Tu H H' := fun a ys =>
  ⟨fun e => f a _ e (by intro z; rw [List.mem_singleton.mp z, h] at e; cases e), fun o e => f a _ e (by intro z; rw [List.mem_singleton.mp z, h] at e; cases e)⟩
theorem Tu.mut {H : Hp} {q : Addr} {xs : List V} {o : HO} (h : H q = some (.lst xs)) : Tu H (upd H q o) := fun a ys =>
  ⟨fun e => by rw [upd_ne (by rintro rfl; rw [h] at e; cases e)]; exact e, fun o e => by rw [upd_ne (by rintro rfl; rw [h] at e; cases e)]; exact e⟩
theorem Tu.new {H : Hp} {q : Addr} {o : HO} (h : H q = none) : Tu H (upd H q o) := (Fr.new h).tu
theorem Tu.seqT {K : PySem.W.Frag} {H H' : Hp} {a : Addr} {xs : List V} (e : Tu H H') (h : SqT K H a xs) : SqT K H' a xs := by
  rcases h with (h | ⟨o, h⟩) | h
  · exact .inl (.inl ((e a xs).1 h))
  · exact .inl (.inr ⟨o, (e a xs).2 o h⟩)
  · exact .inr h
section
variable {K : PySem.W.Frag} {H H' : Hp}
mutual
theorem Dt.mono (f : Tu H H') : ∀ {v : V} {d : PyData}, Dt K H v d → Dt K H' v d
  | _, _, .non => .non
  | _, _, .bl b => .bl b
  | _, _, .int i => .int i
  | _, _, .str x => .str x
  | _, _, .tup s a => .tup (f.seqT s) (DtAll.mono f a)
theorem DtAll.mono (f : Tu H H') : ∀ {vs : List V} {ds : List PyData}, DtAll K H vs ds → DtAll K H' vs ds
  | _, _, .nil => .nil
  | _, _, .cons a b => .cons (Dt.mono f a) (DtAll.mono f b)
end
mutual
theorem Dt.dp : ∀ {v : V} {d : PyData}, Dt K H v d → Dp K H v d
  | _, _, .non => .non
  | _, _, .bl b => .bl b
  | _, _, .int i => .int i
  | _, _, .str x => .str x
  | _, _, .tup s a => .tup s (DtAll.dp a)
theorem DtAll.dp : ∀ {vs : List V} {ds : List PyData}, DtAll K H vs ds → DpAll K H vs ds
  | _, _, .nil => .nil
  | _, _, .cons a b => .cons (Dt.dp a) (DtAll.dp b)
end
theorem DtAll.length : ∀ {vs : List V} {ds : List PyData}, DtAll K H vs ds → vs.length = ds.length
  | _, _, .nil => rfl
  | _, _, .cons _ b => by rw [List.length_cons, List.length_cons, DtAll.length b]
theorem DtAll.append : ∀ {vs us : List V} {ds es : List PyData}, DtAll K H vs ds → DtAll K H us es → DtAll K H (vs ++ us) (ds ++ es)
  | _, _, _, _, .nil, h => h
  | _, _, _, _, .cons a b, h => .cons a (DtAll.append b h)
theorem DtAll.take : ∀ {vs : List V} {ds : List PyData} (n : Nat), DtAll K H vs ds → DtAll K H (vs.take n) (ds.take n)
  | _, _, 0, _ => .nil
  | _, _, _ + 1, .nil => .nil
  | _, _, n + 1, .cons a b => .cons a (DtAll.take n b)
theorem DtAll.drop : ∀ {vs : List V} {ds : List PyData} (n : Nat), DtAll K H vs ds → DtAll K H (vs.drop n) (ds.drop n)
  | _, _, 0, h => h
  | _, _, _ + 1, .nil => .nil
  | _, _, n + 1, .cons a b => DtAll.drop n b
theorem DtAll.get : ∀ {vs : List V} {ds : List PyData} {i : Nat} {v : V}, DtAll K H vs ds → vs[i]? = some v → ∃ d, ds[i]? = some d ∧ Dt K H v d
  | _, _, i, _, .nil, h => by simp at h
  | _, _, 0, v, .cons a b, h => by
    simp at h
    subst h
    exact ⟨_, rfl, a⟩
  | _, _, i + 1, v, .cons a b, h => by
    obtain ⟨d, h1, h2⟩ := DtAll.get (i := i) b (by simpa using h)
    exact ⟨d, by simpa using h1, h2⟩
theorem DtAll.get' {vs : List V} {ds : List PyData} {i : Nat} {d : PyData} (h : DtAll K H vs ds) (e : ds[i]? = some d) : ∃ v, vs[i]? = some v ∧ Dt K H v d := by
  have hi := (List.getElem?_eq_some_iff.mp e).1
  rw [← h.length] at hi
  obtain ⟨d', h1, h2⟩ := h.get (List.getElem?_eq_getElem hi)
  rw [e] at h1
  cases h1
  exact ⟨_, List.getElem?_eq_getElem hi, h2⟩
theorem Dt.tuple {v : V} {ds : List PyData} (h : Dt K H v (.tuple ds)) : ∃ p vs, v = .ref p ∧ SqT K H p vs ∧ DtAll K H vs ds := by
  cases h with
  | tup s a => exact ⟨_, _, rfl, s, a⟩
theorem Dt.of_int {v : V} {i : Int} (h : Dt K H v (.int i)) : v = .int i := by cases h; rfl
theorem Dt.of_str {v : V} {x : Str} (h : Dt K H v (.str x)) : v = .str x := by cases h; rfl
theorem Dt.of_bl {v : V} {b : Bool} (h : Dt K H v (.bool b)) : v = .bl b := by cases h; rfl
theorem Dt.of_non {v : V} (h : Dt K H v .none) : v = .non := by cases h; rfl
theorem DtAll.ints : ∀ (ns : List Int), DtAll K H (ns.map V.int) (ns.map PyData.int)
  | [] => .nil
  | n :: r => .cons (.int n) (DtAll.ints r)
end
/-! ### a list of such -/
def Lq (K : PySem.W.Frag) (H : Hp) (q : Addr) (ds : List PyData) : Prop := ∃ vs, H q = some (.lst vs) ∧ DtAll K H vs ds
section
variable {K : PySem.W.Frag} {H H' : Hp} {q : Addr} {ds : List PyData}
theorem Lq.fr {S : List Addr} (h : Lq K H q ds) (f : Fr S H H') (n : q ∉ S) (t : Tu H H') : Lq K H' q ds := by
  obtain ⟨vs, e, a⟩ := h
  exact ⟨vs, f _ _ e n, a.mono t⟩
theorem Lq.fr0 (h : Lq K H q ds) (f : Fr [] H H') : Lq K H' q ds := h.fr f (by simp) f.tu
theorem Lq.dp (h : Lq K H q ds) : Dp K H (.ref q) (.list ds) := by
  obtain ⟨vs, e, a⟩ := h
  exact .lst (SqL.of e) a.dp
theorem lay_list {n : Nat} (h : ∀ d ∈ ds, d.canLay0 = true ∧ d.depth ≤ n) : PyData.canLayAll0 ds = true ∧ PyData.depthAll ds ≤ n := by
  induction ds with
  | nil => exact ⟨by simp [PyData.canLayAll0], by simp [PyData.depthAll]⟩
  | cons d r ih =>
    have h1 := h d List.mem_cons_self
    have h2 := ih fun x hx => h x (List.mem_cons_of_mem _ hx)
    constructor
    · simp [PyData.canLayAll0, h1.1, h2.1]
    · simp only [PyData.depthAll]
      exact Nat.max_le.mpr ⟨h1.2, h2.2⟩
theorem shaped_list {n : Nat} (hn : n < 64) (h : ∀ d ∈ ds, d.canLay0 = true ∧ d.depth ≤ n) : SeqAt.shaped (.list ds) = true := by
  have k := lay_list h
  unfold SeqAt.shaped
  rw [Bool.and_eq_true]
  refine ⟨by simp only [PyData.canLay0]; exact k.1, decide_eq_true ?_⟩
  simp only [PyData.depth]
  omega
theorem shaped_tuple {n : Nat} (hn : n < 64) (h : ∀ d ∈ ds, d.canLay0 = true ∧ d.depth ≤ n) : SeqAt.shaped (.tuple ds) = true := by
  have k := lay_list h
  unfold SeqAt.shaped
  rw [Bool.and_eq_true]
  refine ⟨by simp only [PyData.canLay0]; exact k.1, decide_eq_true ?_⟩
  simp only [PyData.depth]
  omega
theorem lay_shaped {d : PyData} (h : d.canLay0 = true ∧ d.depth ≤ 64) : SeqAt.shaped d = true := by
  unfold SeqAt.shaped
  rw [Bool.and_eq_true]
  exact ⟨h.1, decide_eq_true h.2⟩
theorem shaped_refl {d : PyData} (h : SeqAt.shaped d = true) : PyData.eqv d d = true := SeqAt.eqv_refl d (SeqAt.canLay_of_shaped h)
theorem w_eqR {Q : VK} {x y : V} {d : PyData} (hx : Dp K H x d) (hy : Dp K H y d) (s : SeqAt.shaped d = true) (q : Q (.bl true) H) : rEqU K x y H Q := w_eqD hx hy s s (by rw [shaped_refl s]; exact q)
theorem w_neR {Q : VK} {x y : V} {d : PyData} (hx : Dp K H x d) (hy : Dp K H y d) (s : SeqAt.shaped d = true) (q : Q (.bl false) H) : rNeU K x y H Q := w_neD hx hy s s (by rw [shaped_refl s]; exact q)
theorem w_app {l : Addr} {xs : List V} {y : V} {Q : VK} (h : H l = some (.lst xs)) (n : xs.length ≤ 1000000) (q : Q .non (upd H l (.lst (xs ++ [y])))) : tyV K "list" (.ref l) H ∧ rAppend (.ref l) [y] H Q :=
  ⟨.inl ⟨rfl, _, SqL.of h⟩, l, xs, y, rfl, rfl, h, Nat.lt_of_le_of_lt n (by decide), q⟩
end
theorem cut_take {xs : List V} (n : Nat) : cutV xs none (some (n : Int)) = xs.take n := by
  unfold cutV
  rw [HT.sIx_none, HT.sIx_nat, List.drop_zero, Nat.sub_zero]
  by_cases h : n ≤ xs.length
  · rw [Nat.min_eq_left h]
  · rw [Nat.min_eq_right (by omega), List.take_length, List.take_of_length_le (by omega)]
theorem cut_drop {xs : List V} (n : Nat) : cutV xs (some (n : Int)) none = xs.drop n := by
  unfold cutV
  rw [HT.sIx_none, HT.sIx_nat]
  by_cases h : n ≤ xs.length
  · rw [Nat.min_eq_left h, List.take_of_length_le (by rw [List.length_drop]; omega)]
  · rw [Nat.min_eq_right (by omega), Nat.sub_self, List.take_zero, List.drop_eq_nil_of_le (by omega)]
/-- == with an empty list -/
theorem w_eqNil {Q : VK} {K : PySem.W.Frag} {H : Hp} {x e : Addr} {ds : List PyData} (hx : Dp K H (.ref x) (.list ds)) (he : H e = some (.lst [])) (s : SeqAt.shaped (.list ds) = true) (q : Q (.bl ds.isEmpty) H) : rEqU K (.ref x) (.ref e) H Q :=
  w_eqD hx (.lst (SqL.of he) .nil) s (by decide) (by
    cases ds with
    | nil => exact q
    | cons d r => exact q)
theorem w_neNil {Q : VK} {K : PySem.W.Frag} {H : Hp} {x e : Addr} {ds : List PyData} (hx : Dp K H (.ref x) (.list ds)) (he : H e = some (.lst [])) (s : SeqAt.shaped (.list ds) = true) (q : Q (.bl (!ds.isEmpty)) H) : rNeU K (.ref x) (.ref e) H Q :=
  w_neD hx (.lst (SqL.of he) .nil) s (by decide) (by
    cases ds with
    | nil => exact q
    | cons d r => exact q)
theorem take_fold {α β : Type} {f : β → α → β} {b : β} {xs : List α} {i : Nat} {x : α} (h : xs[i]? = some x) : (xs.take (i + 1)).foldl f b = f ((xs.take i).foldl f b) x := by
  rw [List.take_add_one, h, List.foldl_append]
  rfl
theorem take_map {α β : Type} {f : α → β} {xs : List α} {i : Nat} {x : α} (h : xs[i]? = some x) : (xs.take (i + 1)).map f = (xs.take i).map f ++ [f x] := by
  rw [List.take_add_one, h, List.map_append]
  rfl
theorem take_filt {α : Type} {f : α → Bool} {xs : List α} {i : Nat} {x : α} (h : xs[i]? = some x) : (xs.take (i + 1)).filter f = (xs.take i).filter f ++ (if f x then [x] else []) := by
  rw [List.take_add_one, h, List.filter_append]
  show _ ++ List.filter f [x] = _
  rw [List.filter_cons, List.filter_nil]
/-! ### any plain data (a dict: that it is one) -/
mutual
inductive Dg (K : PySem.W.Frag) (H : Hp) : V → PyData → Prop
  | non : Dg K H .non .none
  | bl (b : Bool) : Dg K H (.bl b) (.bool b)
  | int (i : Int) : Dg K H (.int i) (.int i)
  | str (x : Str) : Dg K H (.str x) (.str x)
  | tup {p : Addr} {vs : List V} {es : List PyData} : SqT K H p vs → DgAll K H vs es → Dg K H (.ref p) (.tuple es)
  | lst {p : Addr} {vs : List V} {es : List PyData} : SqL K H p vs → DgAll K H vs es → Dg K H (.ref p) (.list es)
  | dct {p : Addr} {kvs : List (Key × V)} {es : List (PyData × PyData)} : H p = some (.dK kvs) → Dg K H (.ref p) (.dict es)
inductive DgAll (K : PySem.W.Frag) (H : Hp) : List V → List PyData → Prop
  | nil : DgAll K H [] []
  | cons {v : V} {vs : List V} {e : PyData} {es : List PyData} : Dg K H v e → DgAll K H vs es → DgAll K H (v :: vs) (e :: es)
end
section
variable {K : PySem.W.Frag} {H H' : Hp}
mutual
theorem Dg.fr (f : Fr [] H H') : ∀ {v : V} {d : PyData}, Dg K H v d → Dg K H' v d
  | _, _, .non => .non
  | _, _, .bl b => .bl b
  | _, _, .int i => .int i
  | _, _, .str x => .str x
  | _, _, .tup s a => .tup (f.seqT s (by simp)) (DgAll.fr f a)
  | _, _, .lst s a => .lst (f.seqL s (by simp)) (DgAll.fr f a)
  | _, _, .dct h => .dct (f _ _ h (by simp))
theorem DgAll.fr (f : Fr [] H H') : ∀ {vs : List V} {ds : List PyData}, DgAll K H vs ds → DgAll K H' vs ds
  | _, _, .nil => .nil
  | _, _, .cons a b => .cons (Dg.fr f a) (DgAll.fr f b)
end
mutual
theorem Dt.dg : ∀ {v : V} {d : PyData}, Dt K H v d → Dg K H v d
  | _, _, .non => .non
  | _, _, .bl b => .bl b
  | _, _, .int i => .int i
  | _, _, .str x => .str x
  | _, _, .tup s a => .tup s (DtAll.dg a)
theorem DtAll.dg : ∀ {vs : List V} {ds : List PyData}, DtAll K H vs ds → DgAll K H vs ds
  | _, _, .nil => .nil
  | _, _, .cons a b => .cons (Dt.dg a) (DtAll.dg b)
end
theorem DgAll.length : ∀ {vs : List V} {ds : List PyData}, DgAll K H vs ds → vs.length = ds.length
  | _, _, .nil => rfl
  | _, _, .cons _ b => by rw [List.length_cons, List.length_cons, DgAll.length b]
theorem DgAll.get : ∀ {vs : List V} {ds : List PyData} {i : Nat} {v : V}, DgAll K H vs ds → vs[i]? = some v → ∃ d, ds[i]? = some d ∧ Dg K H v d
  | _, _, i, _, .nil, h => by simp at h
  | _, _, 0, v, .cons a b, h => by
    simp at h
    subst h
    exact ⟨_, rfl, a⟩
  | _, _, i + 1, v, .cons a b, h => by
    obtain ⟨d, h1, h2⟩ := DgAll.get (i := i) b (by simpa using h)
    exact ⟨d, by simpa using h1, h2⟩
end
theorem Lq.dg {K : PySem.W.Frag} {H : Hp} {l : Addr} {ds : List PyData} (h : Lq K H l ds) : Dg K H (.ref l) (.list ds) := by
  obtain ⟨vs, e, a⟩ := h
  exact .lst (SqL.of e) a.dg
/-! ### displays, append: what is known of them behind -/
theorem mkT {K : PySem.W.Frag} {H : Hp} {xs : List V} {ds : List PyData} {Q : VK} (d : DtAll K H xs ds) (q : ∀ p H', H p = none → Fr [] H H' → Dt K H' (.ref p) (.tuple ds) → Q (.ref p) H') (n : xs.length ≤ 1000 := by exact Nat.le_of_ble_eq_true rfl) : MkT xs Q H :=
  ⟨Nat.le_trans n (by decide), fun p hp => q p _ hp (Fr.new hp) (.tup (.inl (.inl upd_same)) (d.mono (Tu.new hp)))⟩
theorem mkL {K : PySem.W.Frag} {H : Hp} {xs : List V} {ds : List PyData} {Q : VK} (d : DtAll K H xs ds) (q : ∀ p H', H p = none → Fr [] H H' → Lq K H' p ds → Q (.ref p) H') (n : xs.length ≤ 1000 := by exact Nat.le_of_ble_eq_true rfl) : MkL xs Q H :=
  ⟨Nat.le_trans n (by decide), fun p hp => q p _ hp (Fr.new hp) ⟨xs, upd_same, d.mono (Tu.new hp)⟩⟩
/-- a list of ints, of texts -/
theorem mkI {H : Hp} {ns : List Int} {xs : List V} {Q : VK} (e : xs = ns.map V.int) (q : ∀ p H', H p = none → Fr [] H H' → H' p = some (.lst (ns.map V.int)) → Q (.ref p) H') (n : xs.length ≤ 1000 := by exact Nat.le_of_ble_eq_true rfl) : MkL xs Q H :=
  ⟨Nat.le_trans n (by decide), fun p hp => q p _ hp (Fr.new hp) (by rw [upd_same, e])⟩
theorem mkS {H : Hp} {ns : List Str} {xs : List V} {Q : VK} (e : xs = ns.map V.str) (q : ∀ p H', H p = none → Fr [] H H' → H' p = some (.lst (ns.map V.str)) → Q (.ref p) H') (n : xs.length ≤ 1000 := by exact Nat.le_of_ble_eq_true rfl) : MkL xs Q H :=
  ⟨Nat.le_trans n (by decide), fun p hp => q p _ hp (Fr.new hp) (by rw [upd_same, e])⟩
theorem Lq.ty {K : PySem.W.Frag} {H : Hp} {l : Addr} {ds : List PyData} (h : Lq K H l ds) : tyV K "list" (.ref l) H := by
  obtain ⟨vs, e, _⟩ := h
  exact .inl ⟨rfl, _, SqL.of e⟩
theorem Lq.app {K : PySem.W.Frag} {H : Hp} {l : Addr} {ds : List PyData} {y : V} {d : PyData} {Q : VK} (h : Lq K H l ds) (hy : Dt K H y d) (n : ds.length ≤ 100000) (q : ∀ H', Fr [l] H H' → Tu H H' → Lq K H' l (ds ++ [d]) → Q .non H') : rAppend (.ref l) [y] H Q := by
  obtain ⟨vs, e, a⟩ := h
  refine ⟨l, vs, y, rfl, rfl, e, Nat.lt_of_le_of_lt (show vs.length ≤ 100000 by rw [a.length]; exact n) (by decide), ?_⟩
  exact q _ (Fr.mut (by simp)) (Tu.mut e) ⟨_, upd_same, (a.append (.cons hy .nil)).mono (Tu.mut e)⟩
theorem Lq.copy {K : PySem.W.Frag} {H : Hp} {l : Addr} {ds : List PyData} {Q : VK} (h : Lq K H l ds) (q : ∀ p H', H p = none → Fr [] H H' → Lq K H' p ds → Q (.ref p) H') : rListU K [.ref l] H Q := by
  obtain ⟨vs, e, a⟩ := h
  exact w_listL (SqL.of e) fun p hp => q p _ hp (Fr.new hp) ⟨vs, upd_same, a.mono (Tu.new hp)⟩
theorem Lq.isList {K : PySem.W.Frag} {H : Hp} {l : Addr} {ds : List PyData} {Q : VK} (h : Lq K H l ds) (q : Q (.bl true) H) : rIsi K [.ref l, .ty "list"] H Q := by
  obtain ⟨vs, e, a⟩ := h
  exact isL_list (SqL.of e) q
theorem Lq.len {K : PySem.W.Frag} {H : Hp} {l : Addr} {ds : List PyData} {Q : VK} (h : Lq K H l ds) (q : Q (.int ds.length) H) : rLenU K [.ref l] H Q := by
  obtain ⟨vs, e, a⟩ := h
  rw [← a.length] at q
  exact w_lenL (SqL.of e) q
theorem DtAll.rev {K : PySem.W.Frag} {H : Hp} : ∀ {vs : List V} {ds : List PyData}, DtAll K H vs ds → DtAll K H vs.reverse ds.reverse
  | _, _, .nil => .nil
  | _, _, .cons a b => by
    rw [List.reverse_cons, List.reverse_cons]
    exact (DtAll.rev b).append (.cons a .nil)
theorem Lq.reverse {K : PySem.W.Frag} {H : Hp} {l : Addr} {ds : List PyData} {Q : VK} (h : Lq K H l ds) (q : ∀ H', Fr [l] H H' → Tu H H' → Lq K H' l ds.reverse → Q .non H') : rReverse (.ref l) [] H Q := by
  obtain ⟨vs, e, a⟩ := h
  exact ⟨l, vs, rfl, rfl, e, q _ (Fr.mut (by simp)) (Tu.mut e) ⟨_, upd_same, (a.rev).mono (Tu.mut e)⟩⟩
/-! ### slices, sums -/
def cutA {α : Type} (xs : List α) (lo hi : Option Int) : List α := (xs.drop (HT.sIx xs.length 0 lo)).take (HT.sIx xs.length xs.length hi - HT.sIx xs.length 0 lo)
theorem cutA_take {α : Type} {xs : List α} (n : Nat) : cutA xs none (some (n : Int)) = xs.take n := by
  unfold cutA
  rw [HT.sIx_none, HT.sIx_nat, List.drop_zero, Nat.sub_zero]
  by_cases h : n ≤ xs.length
  · rw [Nat.min_eq_left h]
  · rw [Nat.min_eq_right (by omega), List.take_length, List.take_of_length_le (by omega)]
theorem cutA_drop {α : Type} {xs : List α} (n : Nat) : cutA xs (some (n : Int)) none = xs.drop n := by
  unfold cutA
  rw [HT.sIx_none, HT.sIx_nat]
  by_cases h : n ≤ xs.length
  · rw [Nat.min_eq_left h, List.take_of_length_le (by rw [List.length_drop]; omega)]
  · rw [Nat.min_eq_right (by omega), Nat.sub_self, List.take_zero, List.drop_eq_nil_of_le (by omega)]
theorem cutA_mem {α : Type} {xs : List α} {lo hi : Option Int} {x : α} (h : x ∈ cutA xs lo hi) : x ∈ xs := List.mem_of_mem_drop (List.mem_of_mem_take h)
theorem cutA_map {α β : Type} {f : α → β} {xs : List α} {lo hi : Option Int} : cutA (xs.map f) lo hi = (cutA xs lo hi).map f := by
  unfold cutA
  rw [List.length_map, ← List.map_drop, ← List.map_take]
theorem cutA_len {α : Type} {xs : List α} {lo hi : Option Int} : (cutA xs lo hi).length ≤ xs.length := by
  unfold cutA
  rw [List.length_take, List.length_drop]
  omega
theorem DtAll.cut {K : PySem.W.Frag} {H : Hp} {vs : List V} {ds : List PyData} (h : DtAll K H vs ds) (lo hi : Option Int) : DtAll K H (cutV vs lo hi) (cutA ds lo hi) := by
  unfold cutV cutA
  rw [h.length]
  exact (h.drop _).take _
theorem Lq.slice {K : PySem.W.Frag} {H : Hp} {l : Addr} {ds : List PyData} {lo hi : Option Int} {Q : VK} (h : Lq K H l ds) (q : ∀ p H', H p = none → Fr [] H H' → Lq K H' p (cutA ds lo hi) → Q (.ref p) H') : rSlU K (.ref l) lo hi H Q := by
  obtain ⟨vs, e, a⟩ := h
  exact w_slL (SqL.of e) fun p hp => q p _ hp (Fr.new hp) ⟨_, upd_same, (a.cut lo hi).mono (Tu.new hp)⟩
theorem cutA_full {α : Type} {xs : List α} {lo hi : Option Int} (h : HT.sIx xs.length 0 lo = 0 ∧ HT.sIx xs.length xs.length hi = xs.length) : cutA xs lo hi = xs := by
  unfold cutA
  rw [h.1, h.2, List.drop_zero, Nat.sub_zero, List.take_length]
theorem Dt.slice {K : PySem.W.Frag} {H : Hp} {v : V} {ds : List PyData} {lo hi : Option Int} {Q : VK} (h : Dt K H v (.tuple ds)) (q : ∀ p H', Fr [] H H' → Dt K H' (.ref p) (.tuple (cutA ds lo hi)) → Q (.ref p) H') : rSlU K v lo hi H Q := by
  obtain ⟨p, vs, rfl, s, a⟩ := h.tuple
  refine .inl (.inr ⟨p, vs, rfl, s, fun z => ?_, fun _ p' hp => ?_⟩)
  · rw [a.length] at z
    refine q p H Fr.refl ?_
    rw [cutA_full z]
    exact h
  · exact q p' _ (Fr.new hp) (.tup (.inl (.inl upd_same)) ((a.cut lo hi).mono (Tu.new hp)))
theorem Dt.cat {K : PySem.W.Frag} {H : Hp} {v u : V} {ds es : List PyData} {Q : VK} (h : Dt K H v (.tuple ds)) (h' : Dt K H u (.tuple es)) (n : ds.length + es.length ≤ 1000) (q : ∀ p H', Fr [] H H' → Dt K H' (.ref p) (.tuple (ds ++ es)) → Q (.ref p) H') : rAddU K v u H Q := by
  obtain ⟨p, vs, rfl, s, a⟩ := h.tuple
  obtain ⟨p', us, rfl, s', a'⟩ := h'.tuple
  refine .inr (.inl ⟨p, p', vs, us, rfl, rfl, s, s', Nat.le_trans (show _ ≤ 1000 by rw [a.length, a'.length]; exact n) (by decide), fun z => ?_, fun _ z => ?_, fun _ _ r hr => ?_⟩)
  · subst z
    cases a
    exact q p' H Fr.refl h'
  · subst z
    cases a'
    refine q p H Fr.refl ?_
    rw [List.append_nil]
    exact h
  · exact q r _ (Fr.new hr) (.tup (.inl (.inl upd_same)) ((a.append a').mono (Tu.new hr)))
theorem Lq.cat {K : PySem.W.Frag} {H : Hp} {l m : Addr} {ds es : List PyData} {Q : VK} (h : Lq K H l ds) (h' : Lq K H m es) (n : ds.length + es.length ≤ 100000) (q : ∀ p H', H p = none → Fr [] H H' → Lq K H' p (ds ++ es) → Q (.ref p) H') : rAddU K (.ref l) (.ref m) H Q := by
  obtain ⟨vs, e, a⟩ := h
  obtain ⟨us, e', a'⟩ := h'
  exact w_addL e e' (by rw [a.length, a'.length]; omega) fun p hp => q p _ hp (Fr.new hp) ⟨_, upd_same, (a.append a').mono (Tu.new hp)⟩
theorem Lq.allB {K : PySem.W.Frag} {H : Hp} {l : Addr} {bs : List Bool} {Q : VK} (h : Lq K H l (bs.map PyData.bool)) (q : Q (.bl (bs.all id)) H) : rAll K [.ref l] H Q := by
  obtain ⟨vs, e, a⟩ := h
  have z : vs = bs.map V.bl := by
    clear e q
    induction bs generalizing vs with
    | nil => cases a; rfl
    | cons b r ih =>
      cases a with
      | cons a1 a2 => rw [a1.of_bl, ih _ a2]; rfl
  exact ⟨l, bs, rfl, SqL.of (by rw [e, z]), q⟩
theorem Lq.ints {K : PySem.W.Frag} {H : Hp} {l : Addr} {ns : List Int} (h : Lq K H l (ns.map PyData.int)) : H l = some (.lst (ns.map V.int)) := by
  obtain ⟨vs, e, a⟩ := h
  have z : vs = ns.map V.int := by
    clear e
    induction ns generalizing vs with
    | nil => cases a; rfl
    | cons b r ih =>
      cases a with
      | cons a1 a2 => rw [a1.of_int, ih _ a2]; rfl
  rw [e, z]
/-- what changed is new -/
theorem Fr.drop1 {S : List Addr} {H H1 H2 : Hp} {p : Addr} (hp : H p = none) (a : Fr S H H1) (b : Fr [p] H1 H2) : Fr S H H2 := fun x o e n => b x o (a x o e n) (by
  intro z
  rw [List.mem_singleton.mp z, hp] at e
  cases e)
/-- a comprehension with a test over a list of data: what is kept is the data's own filter -/
theorem LCF {K : PySem.W.Frag} {α : Type} {q : Addr} {H : Hp} {us : List V} {cs : List α} {dS : α → PyData} {j : Nat} {ws : List Nat} {σ : L2.St} {tt : TT} {te : TE} {Q : VK} (f : α → Bool) (g : α → PyData)
    (hq : H q = some (.lst us)) (hd : DtAll K H us (cs.map dS)) (lc : cs.length ≤ 100000) (hw : ∀ x, wipe ((wipe σ ws).set j (some x)) ws = wipe σ ws)
    (ht : ∀ c x H', c ∈ cs → Fr [] H H' → Dt K H' x (dS c) → ∀ QB : Bool → Hp → Prop, (∀ H2, Fr [] H' H2 → QB (f c) H2) → tt ((wipe σ ws).set j (some x)) H' QB)
    (he : ∀ c x H', c ∈ cs → Fr [] H H' → Dt K H' x (dS c) → f c = true → ∀ Q : VK, (∀ y H2, Fr [] H' H2 → Dt K H2 y (g c) → Q y H2) → te ((wipe σ ws).set j (some x)) H' Q)
    (k : ∀ D H', H D = none → Fr [] H H' → Lq K H' D ((cs.filter f).map g) → Q (.ref D) H') :
    ∃ a', V.ref q = .ref a' ∧ (∃ ys, SqL K H a' ys) ∧ ∀ D, H D = none → LC (Itl K a') (gName j) tt te ws σ D Q (upd H D (.lst [])) := by
  have lu : us.length = cs.length := by rw [hd.length, List.length_map]
  refine LC_L (SqL.of hq) fun D hD => LC_by (a := q) (xs := us) (fun i H' => Fr [] H H' ∧ Lq K H' D (((cs.take i).filter f).map g)) ⟨Fr.new hD, [], upd_same, .nil⟩ (fun i H' _ h => SqL.of (h.1 _ _ hq (by simp))) ?_ ?_
  · rintro i x H' hx ⟨f', ys, hys, dys⟩
    obtain ⟨d, h1, h2⟩ := (hd.mono f'.tu).get hx
    obtain ⟨c, h3, rfl⟩ := (by
      rw [List.getElem?_map] at h1
      cases e : cs[i]? with
      | none => rw [e] at h1; cases h1
      | some x => rw [e] at h1; exact ⟨x, rfl, Option.some.inj h1⟩ : ∃ c, cs[i]? = some c ∧ dS c = d)
    have mc := List.mem_of_getElem? h3
    have hi : i < us.length := (List.getElem?_eq_some_iff.mp hx).1
    have ly : ys.length ≤ i := by
      rw [dys.length, List.length_map]
      refine Nat.le_trans (List.length_filter_le _ _) ?_
      rw [List.length_take]
      omega
    refine ⟨hw x, ht c x H' mc f' h2 _ fun H2 f2 => ?_⟩
    cases hf : f c with
    | false =>
      rw [if_neg Bool.false_ne_true]
      refine ⟨f'.trans f2, ?_⟩
      rw [take_filt h3, hf]
      show Lq K H2 D ((List.filter f (cs.take i) ++ []).map g)
      rw [List.append_nil]
      exact Lq.fr0 ⟨ys, hys, dys⟩ f2
    | true =>
      rw [if_pos rfl]
      refine he c x H2 mc (f'.trans f2) (h2.mono f2.tu) hf _ fun y H3 f3 dy => ?_
      have f23 := f2.trans f3
      have e3 := f23 _ _ hys (by simp)
      refine ⟨ys, e3, Nat.lt_of_le_of_lt (show ys.length ≤ 100000 by omega) (by decide), Fr.new_mut hD ((f'.trans f23).mono (by simp) |>.trans (Fr.mut (by simp))), _, upd_same, ?_⟩
      rw [take_filt h3, hf, List.map_append]
      exact ((dys.mono f23.tu).append (.cons dy .nil)).mono (Tu.mut e3)
  · rintro H' ⟨f', L⟩
    rw [lu, List.take_length] at L
    exact k D H' hD f' L
theorem Lq.at {K : PySem.W.Frag} {H : Hp} {l : Addr} {ds : List PyData} {P : PyData → Prop} (h : Lq K H l ds) (hP : ∀ d ∈ ds, P d) {i : Int} (h0 : 0 ≤ i) (h1 : i < ds.length) {Q : VK} (q : ∀ v d, Dt K H v d → P d → ds[i.toNat]? = some d → Q v H) : rIx K (.ref l) (.int i) H Q := by
  obtain ⟨vs, e, a⟩ := h
  have ek : i = ((i.toNat : Nat) : Int) := by omega
  have hk : i.toNat < ds.length := by omega
  obtain ⟨v, hv, dv⟩ := a.get' (List.getElem?_eq_getElem hk)
  refine w_ixL (SqL.of e) ?_ (q v _ dv (hP _ (List.getElem_mem hk)) (List.getElem?_eq_getElem hk))
  rw [ek]
  exact atI_nat hv
/-- the last -/
theorem Lq.last {K : PySem.W.Frag} {H : Hp} {l : Addr} {ds : List PyData} {d : PyData} {Q : VK} (h : Lq K H l (ds ++ [d])) (q : ∀ v, Dt K H v d → Q v H) : rIx K (.ref l) (.int (-1)) H Q := by
  obtain ⟨vs, e, a⟩ := h
  have hl := a.length
  rw [List.length_append] at hl
  have hl : vs.length = ds.length + 1 := hl
  obtain ⟨v, hv, dv⟩ := a.get' (i := ds.length) (d := d) (by rw [List.getElem?_append_right (Nat.le_refl _), Nat.sub_self]; rfl)
  refine w_ixL (SqL.of e) ?_ (q v dv)
  unfold atI ixN
  rw [if_neg (by decide), if_pos (by omega)]
  show vs[((-1 : Int) + vs.length).toNat]? = some v
  rw [show ((-1 : Int) + vs.length).toNat = ds.length by omega]
  exact hv
/-- a for over such a list -/
theorem Lq.walk {K : PySem.W.Frag} {H : Hp} {l : Addr} {ds : List PyData} {σ : L2.St} {nx b c : L2.St → Hp → Prop} {rt : VK} {g : TG} {tb : TS} (h : Lq K H l ds) (Pv : Nat → L2.St → Hp → Prop) (h0 : Pv 0 σ H) (hl : ∀ i σ H', Pv i σ H' → Lq K H' l ds)
    (hs : ∀ i v d σ H', ds[i]? = some d → Dt K H' v d → Pv i σ H' → g v σ H' fun σ2 H2 => tb ⟨Pv (i + 1), rt, nx, Pv (i + 1)⟩ σ2 H2) (hd : ∀ σ H', Pv ds.length σ H' → nx σ H') :
    ∃ a', V.ref l = .ref a' ∧ (∃ ys, SqL K H a' ys) ∧ FOR (Itl K a') g tb ⟨nx, rt, b, c⟩ σ H := by
  obtain ⟨vs, e, a⟩ := id h
  refine ⟨l, rfl, ⟨vs, SqL.of e⟩, fun i m σ H => m = ds.length - i ∧ i ≤ ds.length ∧ Pv i σ H, ⟨_, rfl, Nat.zero_le _, h0⟩, ?_⟩
  rintro i m σ' H' ⟨rfl, hi, p⟩
  obtain ⟨us, eu, au⟩ := hl i σ' H' p
  by_cases hlt : i < ds.length
  · obtain ⟨v, hv, dv⟩ := au.get' (List.getElem?_eq_getElem hlt)
    refine .inr ⟨⟨us, v, SqL.of eu, hv⟩, Pv (i + 1), fun σ2 H2 p' => ⟨ds.length - (i + 1), by omega, rfl, hlt, p'⟩, fun x H2 y => ?_⟩
    obtain ⟨z, y⟩ := y
    subst z
    have ex : x = v := Option.some.inj ((y us (SqL.of eu)).symm.trans hv)
    subst ex
    exact hs i x _ σ' _ (List.getElem?_eq_getElem hlt) dv p
  · have z : i = ds.length := by omega
    subst z
    exact .inl ⟨⟨us, SqL.of eu, by rw [au.length]; exact Nat.le_refl _⟩, hd σ' H' p⟩
/-- .. backwards -/
theorem Lq.walkRev {K : PySem.W.Frag} {H : Hp} {l : Addr} {ds : List PyData} {σ : L2.St} {nx b c : L2.St → Hp → Prop} {rt : VK} {g : TG} {tb : TS} (h : Lq K H l ds) (Pv : Nat → L2.St → Hp → Prop) (h0 : Pv 0 σ H) (hl : ∀ i σ H', Pv i σ H' → Lq K H' l ds)
    (hs : ∀ i v d σ H', i < ds.length → ds[ds.length - 1 - i]? = some d → Dt K H' v d → Pv i σ H' → g v σ H' fun σ2 H2 => tb ⟨Pv (i + 1), rt, nx, Pv (i + 1)⟩ σ2 H2) (hd : ∀ σ H', Pv ds.length σ H' → nx σ H') :
    ∃ (a : Addr) (xs : List V), V.ref l = .ref a ∧ ((SqL K H a xs ∧ FOR (Itv K a xs.length) g tb ⟨nx, rt, b, c⟩ σ H) ∨ (SqT K H a xs ∧ FOR (RT.ItvT K a xs.length) g tb ⟨nx, rt, b, c⟩ σ H)) := by
  obtain ⟨vs, e, a⟩ := id h
  have lv := a.length
  refine ⟨l, vs, rfl, .inl ⟨SqL.of e, fun i m σ H => m = ds.length - i ∧ i ≤ ds.length ∧ Pv i σ H, ⟨_, rfl, Nat.zero_le _, h0⟩, ?_⟩⟩
  rintro i m σ' H' ⟨rfl, hi, p⟩
  obtain ⟨us, eu, au⟩ := hl i σ' H' p
  by_cases hlt : i < ds.length
  · have hj : ds.length - 1 - i < ds.length := by omega
    obtain ⟨v, hv, dv⟩ := au.get' (List.getElem?_eq_getElem hj)
    refine .inr ⟨⟨by omega, us, v, SqL.of eu, by rw [lv]; exact hv⟩, Pv (i + 1), fun σ2 H2 p' => ⟨ds.length - (i + 1), by omega, rfl, hlt, p'⟩, fun x H2 y => ?_⟩
    obtain ⟨z, y⟩ := y
    subst z
    have y2 := y us (SqL.of eu)
    rw [lv] at y2
    have ex : x = v := Option.some.inj (y2.symm.trans hv)
    subst ex
    exact hs i x _ σ' _ hlt (List.getElem?_eq_getElem hj) dv p
  · have z : i = ds.length := by omega
    subst z
    exact .inl ⟨by show vs.length ≤ _; omega, hd σ' H' p⟩
/-- .. with its number -/
theorem Lq.walkEnum {K : PySem.W.Frag} {H : Hp} {l : Addr} {ds : List PyData} {σ : L2.St} {nx b c : L2.St → Hp → Prop} {rt : VK} {g : TG} {tb : TS} (h : Lq K H l ds) (Pv : Nat → L2.St → Hp → Prop) (h0 : Pv 0 σ H) (hl : ∀ i σ H', Pv i σ H' → Lq K H' l ds)
    (hs : ∀ i t v d σ H' H2, ds[i]? = some d → Dt K H2 v d → Fr [] H' H2 → Pv i σ H' → SqT K H2 t [.int i, v] → g (.ref t) σ H2 fun σ2 H3 => tb ⟨Pv (i + 1), rt, nx, Pv (i + 1)⟩ σ2 H3) (hd : ∀ σ H', Pv ds.length σ H' → nx σ H') :
    ∃ a xs, [V.ref l] = [.ref a] ∧ SqL K H a xs ∧ FOR (Ite K a) g tb ⟨nx, rt, b, c⟩ σ H := by
  obtain ⟨vs, e, a⟩ := id h
  refine ⟨l, vs, rfl, SqL.of e, fun i m σ H => m = ds.length - i ∧ i ≤ ds.length ∧ Pv i σ H, ⟨_, rfl, Nat.zero_le _, h0⟩, ?_⟩
  rintro i m σ' H' ⟨rfl, hi, p⟩
  obtain ⟨us, eu, au⟩ := hl i σ' H' p
  by_cases hlt : i < ds.length
  · obtain ⟨v, hv, dv⟩ := au.get' (List.getElem?_eq_getElem hlt)
    refine .inr ⟨⟨us, v, SqL.of eu, hv⟩, Pv (i + 1), fun σ2 H2 p' => ⟨ds.length - (i + 1), by omega, rfl, hlt, p'⟩, fun x H2 y => ?_⟩
    obtain ⟨t, z, e1, ht, e2, y⟩ := y
    subst e1 e2
    have ex : z = v := Option.some.inj ((y us (SqL.of eu)).symm.trans hv)
    subst ex
    exact hs i t z _ σ' H' _ (List.getElem?_eq_getElem hlt) (dv.mono (Tu.new ht)) (Fr.new ht) p (.inl (.inl upd_same))
  · have z : i = ds.length := by omega
    subst z
    exact .inl ⟨⟨us, SqL.of eu, by rw [au.length]; exact Nat.le_refl _⟩, hd σ' H' p⟩
theorem map_get {α β : Type} {f : α → β} {xs : List α} {i : Nat} {y : β} (h : (xs.map f)[i]? = some y) : ∃ x, xs[i]? = some x ∧ f x = y := by
  rw [List.getElem?_map] at h
  cases e : xs[i]? with
  | none => rw [e] at h; cases h
  | some x => rw [e] at h; exact ⟨x, rfl, Option.some.inj h⟩
end U

namespace U
open PySem PySem.Spec PyProof.Rows L2
/-! ### texts: a sign, a part, sign by sign -/
section
variable {K : PySem.W.Frag} {H : Hp} {Q : VK} {i j : Int}
theorem w_ixS {z : Str} {c : Nat} (h : z.length ≤ sizeLine) (e : atI z.cps.toList i = some c) (q : Q (.str ⟨#[c]⟩) H) : rIx K (.str z) (.int i) H Q := .inr (.inr ⟨z, i, c, rfl, rfl, h, e, q⟩)
theorem w_inSign {c : Nat} {z : Str} (q : Q (.bl (decide (c ∈ z.cps.toList))) H) : rInU K (.str ⟨#[c]⟩) (.str z) H Q := .inr ⟨c, z, rfl, rfl, q⟩
theorem w_ninSign {c : Nat} {z : Str} (q : Q (.bl (!decide (c ∈ z.cps.toList))) H) : rNinU K (.str ⟨#[c]⟩) (.str z) H Q := .inr ⟨c, z, rfl, rfl, q⟩
theorem w_slS {z : Str} {lo hi : Option Int} (h : z.length ≤ sizeLine) (q : Q (.str (cutS z lo hi)) H) : rSlU K (.str z) lo hi H Q := .inr ⟨z, rfl, h, q⟩
def MkD (Q : VK) (H : Hp) : Prop := ∀ p, H p = none → Q (.ref p) (upd H p (.dK []))
theorem w_dnew {σ : L2.St} (q : MkD Q H) : tDNewK σ H Q := q
theorem w_iS {σ : L2.St} {te : TE} {R : It → Hp → Prop} (q : te σ H fun v H1 => ∃ x, v = .str x ∧ R (Its x) H1) : iStr te σ H R := q
theorem at_sign {z : Str} {p : Int} (h0 : 0 ≤ p) (h : p < z.length) : ∃ c, atI z.cps.toList p = some c ∧ c ∈ z.cps.toList := by
  have h1 : p.toNat < z.cps.toList.length := by
    rw [Array.length_toList]
    have : z.length = z.cps.size := rfl
    omega
  have ek : p = ((p.toNat : Nat) : Int) := by omega
  have key : atI z.cps.toList ((p.toNat : Nat) : Int) = some z.cps.toList[p.toNat] := atI_nat (List.getElem?_eq_getElem h1)
  rw [← ek] at key
  exact ⟨_, key, List.getElem_mem h1⟩
end
/-- a text of at most n signs, each of them one -/
def TxOk (n : Nat) (x : Str) : Prop := x.length ≤ n ∧ PyData.strOk x = true
theorem strOk_mem {x : Str} : PyData.strOk x = true ↔ ∀ c ∈ x.cps.toList, c < 0x110000 := by
  unfold PyData.strOk
  rw [← Array.all_toList, List.all_eq_true]
  constructor
  · intro h c hc; simpa using h c hc
  · intro h c hc; simpa using h c hc
theorem TxOk.mono {n m : Nat} {x : Str} (h : TxOk n x) (l : n ≤ m) : TxOk m x := ⟨Nat.le_trans h.1 l, h.2⟩
theorem TxOk.cat {n m : Nat} {a b : Str} (ha : TxOk n a) (hb : TxOk m b) : TxOk (n + m) (a ++ b) := by
  refine ⟨?_, strOk_mem.mpr fun c hc => ?_⟩
  · have e : (a ++ b).length = a.length + b.length := by
      show (a ++ b).cps.size = a.cps.size + b.cps.size
      rw [PySem.Str.cps_append, Array.size_append]
    have := ha.1
    have := hb.1
    omega
  · rw [PySem.Str.cps_append, Array.toList_append] at hc
    rcases List.mem_append.mp hc with h | h
    · exact strOk_mem.mp ha.2 c h
    · exact strOk_mem.mp hb.2 c h
theorem TxOk.cut {n : Nat} {a : Str} {lo hi : Option Int} (ha : TxOk n a) : TxOk n (cutS a lo hi) := by
  refine ⟨Nat.le_trans (cutS_length a lo hi) ha.1, strOk_mem.mpr fun c hc => ?_⟩
  unfold cutS at hc
  rw [List.toList_toArray] at hc
  exact strOk_mem.mp ha.2 c (List.mem_of_mem_drop (List.mem_of_mem_take hc))
theorem TxOk.sign {n : Nat} {a : Str} {c : Nat} (ha : TxOk n a) (h : c ∈ a.cps.toList) : TxOk 1 ⟨#[c]⟩ := by
  refine ⟨Nat.le_refl _, strOk_mem.mpr fun d hd => ?_⟩
  rw [List.mem_singleton.mp hd]
  exact strOk_mem.mp ha.2 c h
/-- a comprehension over a text, sign by sign -/
theorem LCS {K : PySem.W.Frag} {x : Str} {H : Hp} {j : Nat} {ws : List Nat} {σ : L2.St} {tt : TT} {te : TE} {Q : VK} (f : Nat → Bool) (g : Nat → PyData) (lx : x.length ≤ 100000)
    (hw : ∀ v, wipe ((wipe σ ws).set j (some v)) ws = wipe σ ws)
    (ht : ∀ c H', Fr [] H H' → ∀ QB : Bool → Hp → Prop, QB (f c) H' → tt ((wipe σ ws).set j (some (.str ⟨#[c]⟩))) H' QB)
    (he : ∀ c H', Fr [] H H' → f c = true → ∀ Q : VK, (∀ y, Dt K H' y (g c) → Q y H') → te ((wipe σ ws).set j (some (.str ⟨#[c]⟩))) H' Q)
    (k : ∀ D H', H D = none → Fr [] H H' → Lq K H' D ((x.cps.toList.filter f).map g) → Q (.ref D) H') :
    ∃ x', V.str x = .str x' ∧ ∀ D, H D = none → LC (Its x') (gName j) tt te ws σ D Q (upd H D (.lst [])) := by
  refine ⟨x, rfl, fun D hD => ?_⟩
  refine lc_it (walk_str (z := x)) (fun i H' => Fr [] H H' ∧ Lq K H' D (((x.cps.toList.take i).filter f).map g)) ⟨Fr.new hD, [], upd_same, .nil⟩ (fun _ _ _ _ => trivial) ?_ ?_
  · rintro i v H1 H' hi ⟨f', ys, hys, dys⟩ ⟨rfl, c, hc, rfl⟩
    have hcl : x.cps.toList[i]? = some c := by rw [Array.getElem?_toList]; exact hc
    have ly : ys.length ≤ i := by
      rw [dys.length, List.length_map]
      refine Nat.le_trans (List.length_filter_le _ _) ?_
      rw [List.length_take]
      omega
    have lz : x.cps.size ≤ 100000 := lx
    refine ⟨hw _, ht c H' f' _ ?_⟩
    cases hf : f c with
    | false =>
      rw [if_neg Bool.false_ne_true]
      refine ⟨f', ?_⟩
      rw [take_filt hcl, hf]
      show Lq K H' D ((List.filter f (x.cps.toList.take i) ++ []).map g)
      rw [List.append_nil]
      exact ⟨ys, hys, dys⟩
    | true =>
      rw [if_pos rfl]
      refine he c H' f' hf _ fun y dy => ?_
      refine ⟨ys, hys, Nat.lt_of_le_of_lt (show ys.length ≤ 100000 by omega) (by decide), Fr.new_mut hD ((f'.mono (by simp)).trans (Fr.mut (by simp))), _, upd_same, ?_⟩
      rw [take_filt hcl, hf, List.map_append]
      exact (dys.append (.cons dy .nil)).mono (Tu.mut hys)
  · rintro H' ⟨f', L⟩
    have e : List.take x.cps.size x.cps.toList = x.cps.toList := by
      rw [← Array.length_toList, List.take_length]
    rw [e] at L
    exact k D H' hD f' L
/-- a new list of any data -/
theorem mkG {K : PySem.W.Frag} {H : Hp} {xs : List V} {ds : List PyData} {Q : VK} (d : DgAll K H xs ds) (q : ∀ p H' vs, H p = none → Fr [] H H' → H' p = some (.lst vs) → DgAll K H' vs ds → Q (.ref p) H') (n : xs.length ≤ 1000 := by exact Nat.le_of_ble_eq_true rfl) : MkL xs Q H :=
  ⟨Nat.le_trans n (by decide), fun p hp => q p _ xs hp (Fr.new hp) upd_same (d.fr (Fr.new hp))⟩
theorem mkD {H : Hp} {Q : VK} (q : ∀ p H', H p = none → Fr [] H H' → H' p = some (.dK []) → Q (.ref p) H') : MkD Q H := fun p hp => q p _ hp (Fr.new hp) upd_same
end U

namespace U
open PySem PySem.Spec PyProof.Rows L2
/-! ### a for over a tuple of data, comprehensions with any target and test -/
section
variable {K : PySem.W.Frag}
theorem Dt.walk {H : Hp} {v : V} {ds : List PyData} {σ : L2.St} {nx b c : L2.St → Hp → Prop} {rt : VK} {g : TG} {tb : TS} (h : Dt K H v (.tuple ds)) (Pv : Nat → L2.St → Hp → Prop) (h0 : Pv 0 σ H) (hl : ∀ i σ H', Pv i σ H' → Tu H H')
    (hs : ∀ i u d σ H', ds[i]? = some d → Dt K H' u d → Pv i σ H' → g u σ H' fun σ2 H2 => tb ⟨Pv (i + 1), rt, nx, Pv (i + 1)⟩ σ2 H2) (hd : ∀ σ H', Pv ds.length σ H' → nx σ H') :
    ∃ a, v = .ref a ∧ (∃ xs, SqT K H a xs) ∧ FOR (Itt K a) g tb ⟨nx, rt, b, c⟩ σ H := by
  obtain ⟨a, vs, rfl, s, av⟩ := h.tuple
  have e := av.length
  refine ⟨a, rfl, ⟨vs, s⟩, for_tup (D := ⟨nx, rt, b, c⟩) (xs := vs) Pv h0 (fun i σ H' _ p => (hl i σ H' p).seqT s) (fun i x σ H' hx p => ?_) (fun σ H' p => hd σ H' (by rw [← e]; exact p))⟩
  obtain ⟨d, h1, h2⟩ := (av.mono (hl i σ H' p)).get hx
  exact hs i x d σ H' h1 h2 p
theorem LCX_L {α : Type} {q : Addr} {H : Hp} {cs : List α} {dS : α → PyData} {ws : List Nat} {σ : L2.St} {tg : TG} {tt : TT} {te : TE} {Q : VK} (f : α → Bool) (g : α → PyData)
    (h : Lq K H q (cs.map dS)) (lc : cs.length ≤ 100000)
    (hs : ∀ (c : α) (x : V) (H' : Hp) (KEEP : VK) (DROP : Hp → Prop), c ∈ cs → Fr [] H H' → Dt K H' x (dS c) → (f c = true → ∀ y H4, Fr [] H' H4 → Dt K H4 y (g c) → KEEP y H4) → (f c = false → ∀ H4, Fr [] H' H4 → DROP H4) →
      tg x (wipe σ ws) H' fun σ2 H2 => wipe σ2 ws = wipe σ ws ∧ tt σ2 H2 fun k H3 => if k = true then te σ2 H3 KEEP else DROP H3)
    (k : ∀ D H', H D = none → Fr [] H H' → Lq K H' D ((cs.filter f).map g) → Q (.ref D) H') :
    ∃ a', V.ref q = .ref a' ∧ (∃ ys, SqL K H a' ys) ∧ ∀ D, H D = none → LC (Itl K a') tg tt te ws σ D Q (upd H D (.lst [])) := by
  obtain ⟨us, hq, hd⟩ := h
  have lu : us.length = cs.length := by rw [hd.length, List.length_map]
  refine LC_L (SqL.of hq) fun D hD => LC_by (a := q) (xs := us) (fun i H' => Fr [] H H' ∧ Lq K H' D (((cs.take i).filter f).map g)) ⟨Fr.new hD, [], upd_same, .nil⟩ (fun i H' _ h => SqL.of (h.1 _ _ hq (by simp))) ?_ ?_
  · rintro i x H' hx ⟨f', ys, hys, dys⟩
    obtain ⟨d, h1, h2⟩ := (hd.mono f'.tu).get hx
    obtain ⟨c, h3, rfl⟩ := map_get h1
    have hi : i < us.length := (List.getElem?_eq_some_iff.mp hx).1
    have ly : ys.length ≤ i := by
      rw [dys.length, List.length_map]
      refine Nat.le_trans (List.length_filter_le _ _) ?_
      rw [List.length_take]
      omega
    refine hs c x H' _ _ (List.mem_of_getElem? h3) f' h2 (fun hf y H4 f4 dy => ?_) (fun hf H4 f4 => ?_)
    · have e3 := f4 _ _ hys (by simp)
      refine ⟨ys, e3, Nat.lt_of_le_of_lt (show ys.length ≤ 100000 by omega) (by decide), Fr.new_mut hD ((f'.trans f4).mono (by simp) |>.trans (Fr.mut (by simp))), _, upd_same, ?_⟩
      rw [take_filt h3, hf, List.map_append]
      exact ((dys.mono f4.tu).append (.cons dy .nil)).mono (Tu.mut e3)
    · refine ⟨f'.trans f4, ?_⟩
      rw [take_filt h3, hf]
      show Lq K H4 D ((List.filter f (cs.take i) ++ []).map g)
      rw [List.append_nil]
      exact Lq.fr0 ⟨ys, hys, dys⟩ f4
  · rintro H' ⟨f', L⟩
    rw [lu, List.take_length] at L
    exact k D H' hD f' L
theorem LCX_T {α : Type} {v : V} {H : Hp} {cs : List α} {dS : α → PyData} {ws : List Nat} {σ : L2.St} {tg : TG} {tt : TT} {te : TE} {Q : VK} (f : α → Bool) (g : α → PyData)
    (h : Dt K H v (.tuple (cs.map dS))) (lc : cs.length ≤ 100000)
    (hs : ∀ (c : α) (x : V) (H' : Hp) (KEEP : VK) (DROP : Hp → Prop), c ∈ cs → Fr [] H H' → Dt K H' x (dS c) → (f c = true → ∀ y H4, Fr [] H' H4 → Dt K H4 y (g c) → KEEP y H4) → (f c = false → ∀ H4, Fr [] H' H4 → DROP H4) →
      tg x (wipe σ ws) H' fun σ2 H2 => wipe σ2 ws = wipe σ ws ∧ tt σ2 H2 fun k H3 => if k = true then te σ2 H3 KEEP else DROP H3)
    (k : ∀ D H', H D = none → Fr [] H H' → Lq K H' D ((cs.filter f).map g) → Q (.ref D) H') :
    ∃ a', v = .ref a' ∧ (∃ ys, SqT K H a' ys) ∧ ∀ D, H D = none → LC (Itt K a') tg tt te ws σ D Q (upd H D (.lst [])) := by
  obtain ⟨q, us, rfl, hq, hd⟩ := h.tuple
  have lu : us.length = cs.length := by rw [hd.length, List.length_map]
  refine LC_T hq fun D hD => ?_
  refine lc_it (walk_tup (K := K) (a := q) (xs := us)) (fun i H' => Fr [] H H' ∧ Lq K H' D (((cs.take i).filter f).map g)) ⟨Fr.new hD, [], upd_same, .nil⟩ (fun i H' _ h => h.1.seqT hq (by simp)) ?_ ?_
  · rintro i x H0' H' hi ⟨f', ys, hys, dys⟩ ⟨rfl, hx⟩
    obtain ⟨d, h1, h2⟩ := (hd.mono f'.tu).get hx
    obtain ⟨c, h3, rfl⟩ := map_get h1
    have ly : ys.length ≤ i := by
      rw [dys.length, List.length_map]
      refine Nat.le_trans (List.length_filter_le _ _) ?_
      rw [List.length_take]
      omega
    refine hs c x _ _ _ (List.mem_of_getElem? h3) f' h2 (fun hf y H4 f4 dy => ?_) (fun hf H4 f4 => ?_)
    · have e3 := f4 _ _ hys (by simp)
      refine ⟨ys, e3, Nat.lt_of_le_of_lt (show ys.length ≤ 100000 by omega) (by decide), Fr.new_mut hD ((f'.trans f4).mono (by simp) |>.trans (Fr.mut (by simp))), _, upd_same, ?_⟩
      rw [take_filt h3, hf, List.map_append]
      exact ((dys.mono f4.tu).append (.cons dy .nil)).mono (Tu.mut e3)
    · refine ⟨f'.trans f4, ?_⟩
      rw [take_filt h3, hf]
      show Lq K H4 D ((List.filter f (cs.take i) ++ []).map g)
      rw [List.append_nil]
      exact Lq.fr0 ⟨ys, hys, dys⟩ f4
  · rintro H' ⟨f', L⟩
    rw [lu, List.take_length] at L
    exact k D H' hD f' L
/-- extend by a list of data -/
theorem Lq.extend {H : Hp} {l m : Addr} {ds es : List PyData} {Q : VK} (h : Lq K H l ds) (h' : Lq K H m es) (n : ds.length + es.length ≤ 100000) (q : ∀ H', Fr [l] H H' → Tu H H' → Lq K H' l (ds ++ es) → Q .non H') : rExtend (.ref l) [.ref m] H Q := by
  obtain ⟨vs, e, a⟩ := h
  obtain ⟨us, e', a'⟩ := h'
  refine ⟨l, m, vs, us, rfl, rfl, e, e', Nat.le_trans (show _ ≤ 100000 by rw [a.length, a'.length]; exact n) (by decide), ?_⟩
  exact q _ (Fr.mut (by simp)) (Tu.mut e) ⟨_, upd_same, (a.append a').mono (Tu.mut e)⟩
/-- tuple(list) -/
theorem Lq.tuple {H : Hp} {l : Addr} {ds : List PyData} {Q : VK} (h : Lq K H l ds) (q : ∀ p H', Fr [] H H' → Dt K H' (.ref p) (.tuple ds) → Q (.ref p) H') : rTupleU K [.ref l] H Q := by
  obtain ⟨vs, e, a⟩ := h
  exact w_tupleL (SqL.of e) fun p hp => q p _ (Fr.new hp) (.tup (.inl (.inl upd_same)) (a.mono (Tu.new hp)))
/-- a part of a tuple, the first of a list -/
theorem Dt.ix {H : Hp} {v : V} {ds : List PyData} {d : PyData} {i : Int} {Q : VK} (n : Nat) (h : Dt K H v (.tuple ds)) (e : ds[n]? = some d) (q : ∀ u, Dt K H u d → Q u H) (hi : i = (n : Int) := by rfl) : rIx K v (.int i) H Q := by
  obtain ⟨p, vs, rfl, s, a⟩ := h.tuple
  obtain ⟨u, hu, du⟩ := a.get' e
  subst hi
  exact w_ixT s (atI_nat hu) (q u du)
theorem Lq.ix {H : Hp} {l : Addr} {ds : List PyData} {d : PyData} {i : Int} {Q : VK} (n : Nat) (h : Lq K H l ds) (e : ds[n]? = some d) (q : ∀ u, Dt K H u d → Q u H) (hi : i = (n : Int) := by rfl) : rIx K (.ref l) (.int i) H Q := by
  obtain ⟨vs, s, a⟩ := h
  obtain ⟨u, hu, du⟩ := a.get' e
  subst hi
  exact w_ixL (SqL.of s) (atI_nat hu) (q u du)
theorem Lq.nin {H : Hp} {l : Addr} {x : V} {ds : List PyData} {d : PyData} {Q : VK} (h : Lq K H l ds) (hx : Dt K H x d) (sd : SeqAt.shaped d = true) (sl : SeqAt.shaped (.list ds) = true) (q : Q (.bl (!ds.any fun z => PyData.eqv z d)) H) : rNinU K x (.ref l) H Q := .inl (.inr ⟨d, ds, hx.dp, h.dp, sd, sl, q⟩)
theorem Lq.isin {H : Hp} {l : Addr} {x : V} {ds : List PyData} {d : PyData} {Q : VK} (h : Lq K H l ds) (hx : Dt K H x d) (sd : SeqAt.shaped d = true) (sl : SeqAt.shaped (.list ds) = true) (q : Q (.bl (ds.any fun z => PyData.eqv z d)) H) : rInU K x (.ref l) H Q := .inl (.inr ⟨d, ds, hx.dp, h.dp, sd, sl, q⟩)
theorem Dt.isTuple {H : Hp} {v : V} {ds : List PyData} {Q : VK} (h : Dt K H v (.tuple ds)) (q : Q (.bl true) H) : rIsi K [v, .ty "tuple"] H Q := by
  obtain ⟨p, vs, rfl, s, a⟩ := h.tuple
  exact isT_tuple s q
theorem w_iRevR {σ : L2.St} {H : Hp} {te : TE} {R : It → Hp → Prop} (q : te σ H fun x H1 => ∃ n, x = .int n ∧ (-(2 ^ 62) ≤ (0 : Int) ∧ (0 : Int) < 2 ^ 62 ∧ -(2 ^ 62) ≤ n ∧ n < 2 ^ 62 ∧ R (Itc (0 + (((n - 0).toNat : Nat) : Int) - 1) (-1) (n - 0).toNat) H1)) : iRevR (tRg1 te) σ H R := q
theorem F_RevR {σ : L2.St} {H : Hp} {nx b c : L2.St → Hp → Prop} {rt : VK} {g : TG} {tb : TS} (n : Nat) (hn : n ≤ 100000) (Pv : Nat → L2.St → Hp → Prop) (h0 : Pv 0 σ H)
    (hs : ∀ i σ H, i < n → Pv i σ H → g (.int ((n - 1 - i : Nat) : Int)) σ H fun σ2 H2 => tb ⟨Pv (i + 1), rt, nx, Pv (i + 1)⟩ σ2 H2) (hd : ∀ σ H, Pv n σ H → nx σ H) :
    -(2 ^ 62) ≤ (0 : Int) ∧ (0 : Int) < 2 ^ 62 ∧ -(2 ^ 62) ≤ (n : Int) ∧ (n : Int) < 2 ^ 62 ∧ FOR (Itc (0 + ((((n : Int) - 0).toNat : Nat) : Int) - 1) (-1) ((n : Int) - 0).toNat) g tb ⟨nx, rt, b, c⟩ σ H := by
  refine ⟨by decide, by decide, by omega, by omega, ?_⟩
  have e : ((n : Int) - 0).toNat = n := by omega
  rw [e]
  refine for_it (D := ⟨nx, rt, b, c⟩) (walk_rangeC (lo := 0 + (n : Int) - 1) (c := -1) (n := n)) Pv h0 (fun _ _ _ _ _ => trivial) (fun i x σ H H' hi p y => ?_) (fun σ H p => hd σ H p)
  obtain ⟨rfl, rfl⟩ := y
  have z := hs i σ H' hi p
  rw [show ((n - 1 - i : Nat) : Int) = 0 + (n : Int) - 1 + ((i : Nat) : Int) * -1 by omega] at z
  exact z
def rIns : V → List V → Hp → VK → Prop := fun x vs H Q => ∃ (l : Addr) (xs : List V) (i : Int) (y : V), x = .ref l ∧ vs = [.int i, y] ∧ H l = some (.lst xs) ∧ xs.length < sizeLine ∧ 0 ≤ i ∧ i < 2 ^ 63 ∧ Q .non (upd H l (.lst (xs.take i.toNat ++ [y] ++ xs.drop i.toNat)))
theorem mt_insU {X : Cx} : MtR X "list.insert" rIns := mt_insert
theorem Lq.insert {H : Hp} {l : Addr} {ds : List PyData} {i : Int} {y : V} {d : PyData} {Q : VK} (h : Lq K H l ds) (hy : Dt K H y d) (n : ds.length ≤ 100000) (h0 : 0 ≤ i) (h1 : i < 2 ^ 63) (q : ∀ H', Fr [l] H H' → Tu H H' → Lq K H' l (ds.take i.toNat ++ [d] ++ ds.drop i.toNat) → Q .non H') : rIns (.ref l) [.int i, y] H Q := by
  obtain ⟨vs, e, a⟩ := h
  refine ⟨l, vs, i, y, rfl, rfl, e, Nat.lt_of_le_of_lt (show vs.length ≤ 100000 by rw [a.length]; exact n) (by decide), h0, h1, ?_⟩
  exact q _ (Fr.mut (by simp)) (Tu.mut e) ⟨_, upd_same, (((a.take _).append (.cons hy .nil)).append (a.drop _)).mono (Tu.mut e)⟩
end
end U

/-! dicts whose keys are tuples of data, nested -/
namespace U
open PySem PySem.Spec PyProof.Rows L2
mutual
/-- data as a key of the library -/
def nk : PyData → NestedKey
  | .none => .none
  | .bool b => .num (if b then 1 else 0)
  | .int i => .num i
  | .str x => .text x
  | .tuple ds => .tup (nkAll ds)
  | _ => .none
def nkAll : List PyData → List NestedKey
  | [] => []
  | d :: r => nk d :: nkAll r
end
mutual
/-- data that is a key, no truths in it -/
def kd : PyData → Bool
  | .none => true
  | .int _ => true
  | .str _ => true
  | .tuple ds => kdAll ds
  | _ => false
def kdAll : List PyData → Bool
  | [] => true
  | d :: r => kd d && kdAll r
end
mutual
theorem nk_depth : ∀ d : PyData, kd d = true → NestedKey.depth (nk d) ≤ d.depth
  | .none, _ => by simp [nk, NestedKey.depth]
  | .int _, _ => by simp [nk, NestedKey.depth]
  | .str _, _ => by simp [nk, NestedKey.depth]
  | .tuple ds, h => by
    have := nkAll_depth ds (by simpa [kd] using h)
    simp only [nk, NestedKey.depth, PyData.depth]
    omega
theorem nkAll_depth : ∀ ds : List PyData, kdAll ds = true → NestedKey.depthAll (nkAll ds) ≤ PyData.depthAll ds
  | [], _ => by simp [nkAll, NestedKey.depthAll]
  | d :: r, h => by
    simp only [kdAll, Bool.and_eq_true] at h
    have h1 := nk_depth d h.1
    have h2 := nkAll_depth r h.2
    simp only [nkAll, NestedKey.depthAll, PyData.depthAll]
    omega
end
mutual
theorem nk_inj : ∀ a b : PyData, kd a = true → kd b = true → nk a = nk b → a = b
  | .none, b, _, hb, h => by cases b <;> simp [nk, kd] at h hb ⊢
  | .int i, b, _, hb, h => by cases b <;> simp [nk, kd] at h hb ⊢; exact h
  | .str x, b, _, hb, h => by cases b <;> simp [nk, kd] at h hb ⊢; exact h
  | .tuple ds, b, ha, hb, h => by
    cases b <;> simp [nk, kd] at h hb ha ⊢
    exact nkAll_inj ds _ ha hb h
theorem nkAll_inj : ∀ a b : List PyData, kdAll a = true → kdAll b = true → nkAll a = nkAll b → a = b
  | [], b, _, _, h => by cases b <;> simp [nkAll] at h ⊢
  | d :: r, b, ha, hb, h => by
    cases b with
    | nil => simp [nkAll] at h
    | cons e t =>
      simp only [kdAll, Bool.and_eq_true] at ha hb
      simp only [nkAll, List.cons.injEq] at h
      rw [nk_inj d e ha.1 hb.1 h.1, nkAll_inj r t ha.2 hb.2 h.2]
end
mutual
theorem nested_of {h : Heap} : ∀ {u : Value} {d : PyData} {as : List Addr}, Reads h u d as → kd d = true → NestedIs h (nk d) u
  | _, _, _, .none, _ => .none
  | _, _, _, .bool b, k => by simp [kd] at k
  | _, _, _, .int i t, _ => .int i t
  | _, _, _, .str x t, _ => .text x t
  | _, _, _, .list _ _ _ _, k => by simp [kd] at k
  | _, _, _, .tuple g c e a, k => .tup g c e (nestedAll_of a (by simpa [kd] using k))
  | _, _, _, .dict _ _ _ _ _, k => by simp [kd] at k
theorem nestedAll_of {h : Heap} : ∀ {us : List Value} {ds : List PyData} {as : List Addr}, ReadsAll h us ds as → kdAll ds = true → NestedAll h (nkAll ds) us
  | _, _, _, .nil, _ => .nil
  | _, _, _, .cons a b, k => by
    simp only [kdAll, Bool.and_eq_true] at k
    exact .cons (nested_of a k.1) (nestedAll_of b k.2)
end
/-- keys told as data -/
structure KeyD {α : Type} (dS : α → PyData) : Prop where
  kd : ∀ a, kd (dS a) = true
  dp : ∀ a, (dS a).depth ≤ 8
  inj : ∀ a b, dS a = dS b → a = b
theorem KeyD.nk {α : Type} {dS : α → PyData} (D : KeyD dS) {a b : α} (h : nk (dS a) = nk (dS b)) : a = b := D.inj a b (nk_inj _ _ (D.kd a) (D.kd b) h)
section
variable {α : Type} [DecidableEq α]
def atN (kvs : List (α × V)) (a : α) : Option V := (kvs.find? fun kv => decide (kv.1 = a)).map (·.2)
def putN (kvs : List (α × V)) (a : α) (v : V) : List (α × V) := if (atN kvs a).isSome then kvs.map (fun kv => if kv.1 = a then (kv.1, v) else kv) else kvs ++ [(a, v)]
def dropN (kvs : List (α × V)) (a : α) : List (α × V) := kvs.filter fun kv => decide (kv.1 ≠ a)
end
def atO (d : Addr) (o : Obj) : HO := .ext fun h => h.get? d = some o
/-- an entry and what stands in the heap -/
def RkN {α : Type} (K : PySem.W.Frag) (H : Hp) (dS : α → PyData) (kv : α × V) (x : NestedKey × Addr × Value) : Prop := Dt K H (.ref x.2.1) (dS kv.1) ∧ x.1 = nk (dS kv.1) ∧ RelV kv.2 x.2.2
structure DNx {α : Type} (P : Program) (w : World) (K : PySem.W.Frag) (dS : α → PyData) (H : Hp) (d : Addr) (kvs : List (α × V)) (xs : List (NestedKey × Addr × Value)) (o : Obj) : Prop where
  there : H d = some (atO d o)
  nosys : (d == sysModules) = false
  exact : o.ExactDict
  data : ∃ es ep, o.data = .dict es ep ∧ es.toList = xs.map (entryOfKey (nestedKind P w))
  keys : Paired (RkN K H dS) kvs xs
  nodup : (xs.map (·.1)).Nodup
/-- at d a dict of kvs, in order -/
def DN {α : Type} (P : Program) (w : World) (K : PySem.W.Frag) (dS : α → PyData) (H : Hp) (d : Addr) (kvs : List (α × V)) : Prop := (kvs = [] ∧ H d = some (.dK [])) ∨ ∃ xs o, DNx P w K dS H d kvs xs o
section
variable {α : Type} {P : Program} {w : World} {K : PySem.W.Frag} {dS : α → PyData} {H H' : Hp} {d : Addr} {kvs : List (α × V)}
theorem Paired.imp {α β : Type} {F G : α → β → Prop} (h : ∀ a b, F a b → G a b) : ∀ {xs : List α} {ys : List β}, Paired F xs ys → Paired G xs ys
  | _, _, .nil => .nil
  | _, _, .cons a b => .cons (h _ _ a) (Paired.imp h b)
theorem RkN.mono (t : Tu H H') {kv : α × V} {x : NestedKey × Addr × Value} (h : RkN K H dS kv x) : RkN K H' dS kv x := ⟨h.1.mono t, h.2.1, h.2.2⟩
theorem DN.fr {S : List Addr} (h : DN P w K dS H d kvs) (f : Fr S H H') (n : d ∉ S) (t : Tu H H') : DN P w K dS H' d kvs := by
  rcases h with ⟨rfl, e⟩ | ⟨xs, o, D⟩
  · exact .inl ⟨rfl, f _ _ e n⟩
  · exact .inr ⟨xs, o, f _ _ D.there n, D.nosys, D.exact, D.data, Paired.imp (fun _ _ => RkN.mono t) D.keys, D.nodup⟩
theorem DN.fr0 (h : DN P w K dS H d kvs) (f : Fr [] H H') : DN P w K dS H' d kvs := h.fr f (by simp) f.tu
theorem Tu.dn (h : DN P w K dS H d kvs) (o : HO) : Tu H (upd H d o) := fun a ys => by
  have e : H d = some (.dK []) ∨ ∃ o, H d = some (atO d o) := by
    rcases h with ⟨_, e⟩ | ⟨xs, o, D⟩
    · exact .inl e
    · exact .inr ⟨_, D.there⟩
  refine ⟨fun z => ?_, fun o' z => ?_⟩ <;>
  · rw [upd_ne (by
      rintro rfl
      rcases e with e | ⟨_, e⟩ <;> rw [z] at e <;> cases e)]
    exact z
end
section
variable {α : Type} {X : Cx} {pins : List (Addr × Obj)} {σ : L2.St} {H : Hp} {s : Shared} {dS : α → PyData} {d a : Addr} {kvs : List (α × V)} {k : α}
theorem KeyD.is (D : KeyD dS) (I : Inv X pins σ H s) (h : Dt X.K H (.ref a) (dS k)) : (nestedKind X.prog X.w).is s.heap (U.nk (dS k)) a := by
  obtain ⟨as, r⟩ := Dp.reads I (dS k) (.ref a) (.ref a) h.dp rfl
  exact ⟨nested_of r (D.kd k), Nat.le_trans (nk_depth _ (D.kd k)) (D.dp k)⟩
theorem Paired.right {α β : Type} {F : α → β → Prop} : ∀ {xs : List α} {ys : List β}, Paired F xs ys → ∀ y ∈ ys, ∃ x, F x y
  | _, _, .nil, y, h => by simp at h
  | _, _, .cons a b, y, h => by
    rcases List.mem_cons.mp h with rfl | h
    · exact ⟨_, a⟩
    · exact Paired.right b y h
theorem DN.heap (D : KeyD dS) (I : Inv X pins σ H s) (h : DN X.prog X.w X.K dS H d kvs) : ∃ xs, s.heap.DictOfH (nestedKind X.prog X.w) d xs ∧ Paired (RkN X.K H dS) kvs xs ∧ (d == sysModules) = false ∧ Mut (H d) := by
  rcases h with ⟨rfl, e⟩ | ⟨xs, o, N⟩
  · obtain ⟨_, n, vs, kv, o, es, ep, ho, hex, hd, _, pr, _⟩ := I.hok d _ e
    cases kv
    have z : es.toList = [] := by
      generalize es.toList = l at pr
      cases pr
      rfl
    exact ⟨[], ⟨o, es, ep, ho, hex, hd, by rw [z]; rfl, by simp, by simp⟩, .nil, n, by rw [e]; trivial⟩
  · obtain ⟨ho, _⟩ := I.hok d _ N.there
    obtain ⟨es, ep, hd, ht⟩ := N.data
    refine ⟨xs, ⟨o, es, ep, ho, N.exact, hd, ht, ?_, N.nodup⟩, N.keys, N.nosys, by rw [N.there]; trivial⟩
    intro x hx
    obtain ⟨kv, r⟩ := Paired.right N.keys x hx
    rw [r.2.1]
    exact D.is I r.1
end
section
variable {α : Type} [DecidableEq α] {K : PySem.W.Frag} {H : Hp} {dS : α → PyData}
theorem at_paired (D : KeyD dS) (k : α) : ∀ {kvs : List (α × V)} {xs : List (NestedKey × Addr × Value)}, Paired (RkN K H dS) kvs xs → (atN kvs k = none ∧ atKey xs (nk (dS k)) = none) ∨ ∃ v p u, atN kvs k = some v ∧ atKey xs (nk (dS k)) = some (p, u) ∧ RelV v u
  | _, _, .nil => .inl ⟨rfl, rfl⟩
  | _, _, .cons (a := kv) (b := x) r b => by
    unfold atN atKey
    rw [List.find?_cons, List.find?_cons]
    by_cases h : kv.1 = k
    · have h2 : x.1 = nk (dS k) := by rw [r.2.1, h]
      rw [decide_eq_true h, decide_eq_true h2]
      exact .inr ⟨kv.2, x.2.1, x.2.2, rfl, rfl, r.2.2⟩
    · have h2 : ¬ x.1 = nk (dS k) := fun z => h (D.nk (r.2.1.symm.trans z))
      rw [decide_eq_false h, decide_eq_false h2]
      exact at_paired D k b
theorem atN_isSome (D : KeyD dS) (k : α) {kvs : List (α × V)} {xs : List (NestedKey × Addr × Value)} (h : Paired (RkN K H dS) kvs xs) : (atKey xs (nk (dS k))).isSome = (atN kvs k).isSome := by
  rcases at_paired D k h with ⟨e, f⟩ | ⟨v, p, u, e, f, _⟩ <;> rw [e, f] <;> rfl
theorem Paired.snoc {α β : Type} {F : α → β → Prop} {x : α} {y : β} (h : F x y) : ∀ {xs : List α} {ys : List β}, Paired F xs ys → Paired F (xs ++ [x]) (ys ++ [y])
  | _, _, .nil => .cons h .nil
  | _, _, .cons a b => .cons a (Paired.snoc h b)
theorem put_map (D : KeyD dS) (k : α) {v : V} {u : Value} (rv : RelV v u) : ∀ {kvs : List (α × V)} {xs : List (NestedKey × Addr × Value)}, Paired (RkN K H dS) kvs xs → Paired (RkN K H dS) (kvs.map (fun kv => if kv.1 = k then (kv.1, v) else kv)) (xs.map (putAt (nk (dS k)) u))
  | _, _, .nil => .nil
  | _, _, .cons (a := kv) (b := x) r b => by
    refine .cons ?_ (put_map D k rv b)
    show RkN K H dS (if kv.1 = k then (kv.1, v) else kv) (if x.1 = nk (dS k) then (x.1, x.2.1, u) else x)
    by_cases h : kv.1 = k
    · have h2 : x.1 = nk (dS k) := by rw [r.2.1, h]
      rw [if_pos h, if_pos h2]
      exact ⟨r.1, r.2.1, rv⟩
    · have h2 : ¬ x.1 = nk (dS k) := fun z => h (D.nk (r.2.1.symm.trans z))
      rw [if_neg h, if_neg h2]
      exact r
theorem put_paired (D : KeyD dS) {k : α} {a : Addr} {v : V} {u : Value} (hk : Dt K H (.ref a) (dS k)) (rv : RelV v u) {kvs : List (α × V)} {xs : List (NestedKey × Addr × Value)} (h : Paired (RkN K H dS) kvs xs) : Paired (RkN K H dS) (putN kvs k v) (storedH xs (nk (dS k)) a u) := by
  unfold putN storedH
  rw [atN_isSome D k h]
  by_cases e : (atN kvs k).isSome = true
  · rw [if_pos e, if_pos e]
    exact put_map D k rv h
  · rw [if_neg e, if_neg e]
    exact Paired.snoc ⟨hk, rfl, rv⟩ h
theorem drop_paired (D : KeyD dS) {k : α} : ∀ {kvs : List (α × V)} {xs : List (NestedKey × Addr × Value)}, Paired (RkN K H dS) kvs xs → Paired (RkN K H dS) (dropN kvs k) (withoutH xs (nk (dS k)))
  | _, _, .nil => .nil
  | _, _, .cons (a := kv) (b := x) r b => by
    unfold dropN withoutH
    rw [List.filter_cons, List.filter_cons]
    by_cases h : kv.1 = k
    · have h2 : x.1 = nk (dS k) := by rw [r.2.1, h]
      rw [if_neg (by simpa using h), if_neg (by simpa using h2)]
      exact drop_paired D b
    · have h2 : ¬ x.1 = nk (dS k) := fun z => h (D.nk (r.2.1.symm.trans z))
      rw [if_pos (by simpa using h), if_pos (by simpa using h2)]
      exact .cons r (drop_paired D b)
end
/-! ### rules -/
section
variable {α : Type} [DecidableEq α] {X : Cx} {P : Program} {w : World} {K : PySem.W.Frag} {dS : α → PyData}
theorem Paired.len {α β : Type} {F : α → β → Prop} : ∀ {xs : List α} {ys : List β}, Paired F xs ys → xs.length = ys.length
  | _, _, .nil => rfl
  | _, _, .cons _ b => by rw [List.length_cons, List.length_cons, Paired.len b]
theorem valueAt_pairs (k : NestedKey) : ∀ xs : List (NestedKey × Addr × Value), (valueAt (pairsH xs) k).isSome = (atKey xs k).isSome
  | [] => rfl
  | x :: r => by
    have ih := valueAt_pairs k r
    unfold valueAt atKey pairsH at *
    rw [List.map_cons, List.find?_cons, List.find?_cons]
    by_cases h : x.1 = k
    · rw [decide_eq_true h]
      rfl
    · rw [decide_eq_false h]
      exact ih
def rInN (P : Program) (w : World) (K : PySem.W.Frag) (dS : α → PyData) : R2 := fun x y H Q => ∃ (d a : Addr) (kvs : List (α × V)) (k : α), x = .ref a ∧ y = .ref d ∧ DN P w K dS H d kvs ∧ Dt K H (.ref a) (dS k) ∧ Q (.bl (atN kvs k).isSome) H
def rNinN (P : Program) (w : World) (K : PySem.W.Frag) (dS : α → PyData) : R2 := fun x y H Q => ∃ (d a : Addr) (kvs : List (α × V)) (k : α), x = .ref a ∧ y = .ref d ∧ DN P w K dS H d kvs ∧ Dt K H (.ref a) (dS k) ∧ Q (.bl (!(atN kvs k).isSome)) H
theorem roomN {A : Around} (hu : A.units + 65 < cLine) : (nestedKind P w).room A.in1 := by
  show A.units + 1 + 8 < cLine
  omega
theorem op_inN (D : KeyD dS) (hu : X.A.units + 65 < cLine) : OpR X (compareOp .In) (rInN X.prog X.w X.K dS) := by
  intro pins s σ H x y v u Q I rx ry h
  obtain ⟨d, a, kvs, k, rfl, rfl, hd, hk, q⟩ := h
  cases rx
  cases ry
  obtain ⟨xs, hD, pr, ns, _⟩ := hd.heap D I
  refine wpAny_in_heap (roomN hu) (D.is I hk) ns hD ?_
  exact ⟨_, H, I.tok _, by rw [atN_isSome D k pr]; rfl, q⟩
theorem op_ninN (D : KeyD dS) (hu : X.A.units + 65 < cLine) : OpR X (compareOp .NotIn) (rNinN X.prog X.w X.K dS) := by
  intro pins s σ H x y v u Q I rx ry h
  obtain ⟨d, a, kvs, k, rfl, rfl, hd, hk, q⟩ := h
  cases rx
  cases ry
  obtain ⟨xs, hD, pr, ns, _⟩ := hd.heap D I
  refine notIn_keyed (knd := nestedKind X.prog X.w) (roomN hu) (D.is I hk) ns ⟨xs, hD, rfl⟩ ?_
  exact ⟨_, H, I.tok _, by rw [valueAt_pairs, atN_isSome D k pr]; rfl, q⟩
def rIxN (P : Program) (w : World) (K : PySem.W.Frag) (dS : α → PyData) : R2 := fun x y H Q => ∃ (d a : Addr) (kvs : List (α × V)) (k : α) (v : V), x = .ref d ∧ y = .ref a ∧ DN P w K dS H d kvs ∧ Dt K H (.ref a) (dS k) ∧ atN kvs k = some v ∧ Q v H
theorem ix_N (D : KeyD dS) (hu : X.A.units + 65 < cLine) : IxR X (rIxN X.prog X.w X.K dS) := by
  intro value slice pins s σ H x y v u Q I rx ry h hs
  obtain ⟨d, a, kvs, k, z, rfl, rfl, hd, hk, hv, q⟩ := h
  cases rx
  cases ry
  obtain ⟨xs, hD, pr, ns, _⟩ := hd.heap D I
  obtain ⟨o, es, ep, ho, hex, _⟩ := id hD
  rcases at_paired D k pr with ⟨e, f⟩ | ⟨v', p, u, e, f, r⟩
  · rw [hv] at e; cases e
  · rw [hv] at e
    cases e
    refine subscriptTail_builtinR (x := u) ⟨o, ho, hex.1⟩ F.slot_dict_getitem.lookup ?_ hs
    refine wpAny_getItem_heap (roomN hu) (D.is I hk) hD f ?_
    exact ⟨rfl, _, H, I.tok _, r, q⟩
def rSetN (P : Program) (w : World) (K : PySem.W.Frag) (dS : α → PyData) : TSet := fun o i v H Q => ∃ (d a : Addr) (kvs : List (α × V)) (k : α), o = .ref d ∧ i = .ref a ∧ DN P w K dS H d kvs ∧ Dt K H (.ref a) (dS k) ∧ kvs.length ≤ 100000 ∧ ∀ H', Fr [d] H H' → Tu H H' → DN P w K dS H' d (putN kvs k v) → Q H'
/-- behind a change -/
theorem DN.write {pins : List (Addr × Obj)} {σ : L2.St} {H : Hp} {s : Shared} {h' : Heap} {d : Addr} {kvs kvs' : List (α × V)} {xs' : List (NestedKey × Addr × Value)} {t' : Nat} (I : Inv X pins σ H s) (hd : DN X.prog X.w X.K dS H d kvs) (ns : (d == sysModules) = false) (m : Mut (H d)) (hD : h'.DictOfH (nestedKind X.prog X.w) d xs') (sb : Heap.SameBut d s.heap h') (pr : Paired (RkN X.K H dS) kvs' xs') :
    ∃ H', Inv X pins σ H' { s with heap := h', toks := t' } ∧ Fr [d] H H' ∧ Tu H H' ∧ DN X.prog X.w X.K dS H' d kvs' := by
  obtain ⟨o, es, ep, ho, hex, hda, hl, hi, hn⟩ := hD
  have t := Tu.dn hd (atO d o)
  refine ⟨upd H d (atO d o), I.write m (.inl rfl) (fun b u hb hu => ?_) ⟨o, ho⟩ ⟨ho, ⟨o, ho⟩, fun h1 h2 e f => f _ e⟩, Fr.mut (by simp), t, .inr ⟨xs', o, upd_same, ns, hex, ⟨es, ep, hda, hl⟩, Paired.imp (fun _ _ => RkN.mono t) pr, hn⟩⟩
  rw [sb.2 b hb]
  exact hu
theorem set_N (D : KeyD dS) (hu : X.A.units + 65 < cLine) : PSet X (rSetN X.prog X.w X.K dS) := by
  intro pins s σ H o i v ov iv u Q I ro ri rv h
  obtain ⟨d, a, kvs, k, rfl, rfl, hd, hk, n, q⟩ := h
  cases ro
  cases ri
  obtain ⟨xs, hD, pr, ns, m⟩ := hd.heap D I
  refine wpAny_setItem_heap (roomN hu) (D.is I hk) hD (fun h' hD' sb => ?_) (by rw [← Paired.len pr]; exact Nat.le_trans n (by decide))
  obtain ⟨H', I', f, t, d'⟩ := DN.write I hd ns m hD' sb (put_paired D hk rv pr)
  exact ⟨H', I', q H' f t d'⟩
def dictN (P : Program) (w : World) (K : PySem.W.Frag) (dS : α → PyData) : V → Hp → Prop := fun x H => ∃ (d : Addr) (kvs : List (α × V)), x = .ref d ∧ DN P w K dS H d kvs
theorem ty_N (D : KeyD dS) : TyOk X "dict" (dictN X.prog X.w X.K dS) := by
  intro pins σ H s x v I rx h
  obtain ⟨d, kvs, rfl, hd⟩ := h
  cases rx
  obtain ⟨xs, ⟨o, es, ep, ho, hex, _⟩, _⟩ := hd.heap D I
  refine ⟨⟨o, ho, hex.1⟩, fun a e => ?_⟩
  cases e
  exact ⟨o, ho, hex.2.1⟩
def rPopN (P : Program) (w : World) (K : PySem.W.Frag) (dS : α → PyData) : V → List V → Hp → VK → Prop := fun x vs H Q => ∃ (d a : Addr) (kvs : List (α × V)) (k : α) (v : V), x = .ref d ∧ vs = [.ref a] ∧ DN P w K dS H d kvs ∧ Dt K H (.ref a) (dS k) ∧ kvs.length ≤ 100000 ∧ atN kvs k = some v ∧ ∀ H', Fr [d] H H' → Tu H H' → DN P w K dS H' d (dropN kvs k) → Q v H'
theorem mt_popN (D : KeyD dS) (hu : X.A.units + 65 < cLine) : MtR X "dict.pop" (rPopN X.prog X.w X.K dS) := by
  intro pins s σ H x vs v us Q I rx rvs h
  obtain ⟨d, a, kvs, k, z, rfl, rfl, hd, hk, n, hv, q⟩ := h
  cases rx
  obtain ⟨_, _, ra, rn, rfl⟩ : ∃ u us', RelV (.ref a) u ∧ Vals [] us' ∧ us = u :: us' := by
    cases rvs with
    | cons r t => exact ⟨_, _, r, t, rfl⟩
  cases ra
  cases rn
  obtain ⟨xs, hD, pr, ns, m⟩ := hd.heap D I
  obtain ⟨o, es, ep, ho, hex, _⟩ := id hD
  rcases at_paired D k pr with ⟨e, f⟩ | ⟨v', p, u, e, f, r⟩
  · rw [hv] at e; cases e
  · rw [hv] at e
    cases e
    refine call_meetsIn F.slot_dict_pop ⟨o, ho, hex.1⟩ F.entry_dict_pop (F.args_dict_pop_2 _ _) (meetsH_dict_pop (nestedKind X.prog X.w) d a ns [] (.inl rfl)) ?_
    refine ⟨roomN hu, nk (dS k), xs, D.is I hk, hD, by rw [← Paired.len pr]; exact Nat.le_trans n (by decide), fun p' e' h' hD' sb => ?_, fun e' => ?_⟩
    · rw [f] at e'
      cases e'
      obtain ⟨H', I', f', t, d'⟩ := DN.write I hd ns m hD' sb (drop_paired D pr)
      exact ⟨_, H', I', r, q H' f' t d'⟩
    · rw [f] at e'
      cases e'
theorem get_size {h : Heap} {u : Obj} (e : h.get? h.objs.size = some u) : False := by
  unfold Heap.get? at e
  rw [Array.getElem?_eq_none (Nat.le_refl _)] at e
  cases e
theorem Paired.get {α β : Type} {F : α → β → Prop} : ∀ {xs : List α} {ys : List β}, Paired F xs ys → ∀ {i : Nat} {y : β}, ys[i]? = some y → ∃ x, xs[i]? = some x ∧ F x y
  | _, _, .nil, i, y, h => by simp at h
  | _, _, .cons a b, 0, y, h => by
    simp at h
    subst h
    exact ⟨_, rfl, a⟩
  | _, _, .cons a b, i + 1, y, h => by
    obtain ⟨x, h1, h2⟩ := Paired.get b (i := i) (by simpa using h)
    exact ⟨x, by simpa using h1, h2⟩
def rItemsN (P : Program) (w : World) (K : PySem.W.Frag) (dS : α → PyData) : V → List V → Hp → VK → Prop := fun x vs H Q => ∃ (d : Addr) (kvs : List (α × V)), x = .ref d ∧ vs = [] ∧ DN P w K dS H d kvs ∧ ∀ p, H p = none → Q (.ref p) (upd H p (DX.itemsO p d))
theorem mt_itemsN (D : KeyD dS) : MtR X "dict.items" (rItemsN X.prog X.w X.K dS) := by
  intro pins s σ H x vs v us Q I rx rvs h
  obtain ⟨d, kvs, rfl, rfl, hd, q⟩ := h
  cases rx
  cases rvs
  obtain ⟨xs, ⟨o, es, ep, ho, hex, hda, _⟩, _, ns, _⟩ := hd.heap D I
  refine call_meetsIn F.slot_dict_items ⟨o, ho, hex.1⟩ F.entry_dict_items (F.args_dict_items_1 _) (meets_dict_items_raw d ns) ⟨⟨es, ep, o, ho, hex, hda⟩, ?_⟩
  have hp := I.fresh
  have hg : Heap.get? (Heap.push s.heap { cls := Value.type "dict_items", data := Data.fields #[Value.ref d] }) s.heap.objs.size = some { cls := Value.type "dict_items", data := Data.fields #[Value.ref d] } := Heap.get?_push_size _ rfl
  refine ⟨.ref _, _, I.laid (a := s.heap.objs.size) (o := DX.itemsO s.heap.objs.size d) (fun b u hb => ?_) (Nat.le_refl _) (DX.itemsO_ok hg), rfl, q _ hp⟩
  rw [Heap.get?_push_ne]
  · exact hb
  · rintro rfl
    exact get_size hb
/-- the turns over its items -/
def ItN (d : Addr) (o : Obj) (ks : List (Addr × V)) : It where
  go i H := H d = some (atO d o) ∧ i < ks.length
  yld i H x H' := ∃ T b v, ks[i]? = some (b, v) ∧ x = .ref T ∧ H T = none ∧ H' = upd H T (.tup [.ref b, v])
  stop i H := H d = some (atO d o) ∧ i = ks.length
theorem turn_itemsN {elts : List Expr} {kk : Nat} {tpos : Pos} {d it : Addr} {o : Obj} {es : Array DictEntry} {ep : Nat} {ks : List (Addr × V)} (hex : o.ExactDict) (hda : o.data = .dict es ep) (hk : Paired (fun (k : Addr × V) (e : DictEntry) => e.key = .ref k.1 ∧ RelV k.2 e.val) ks es.toList) :
    Turn P w K (.Tuple elts kk tpos) (ItN d o ks) [it] it fun i h => ∃ ok ov, IsItemIter h it d i es.size ep ok ov where
  mem := by simp
  obj := fun i h t b hb => by
    obtain ⟨ok, ov, e⟩ := t
    rw [List.mem_singleton.mp hb]
    exact ⟨_, e, fun v z => by cases z⟩
  keep := fun i h h' t k => by
    obtain ⟨ok, ov, e⟩ := t
    exact ⟨ok, ov, k it (by simp) _ e⟩
  item := by
    rintro X rfl rfl rfl hc i pins s σ H E I fp t ⟨hd, hi⟩
    obtain ⟨ho, _⟩ := I.hok d _ hd
    have hne : d ≠ it := by
      rintro rfl
      rw [(fp d (by simp)).1] at hd
      cases hd
    have wk := WalksT.rawItems (prog := X.prog) (w := X.w) (A := X.A) (I.ok.hd hc) it d hne es ep
    have sz : ks.length = es.size := by rw [Paired.len hk, Array.length_toList]
    refine wk.item i s _ E (by omega) ⟨t, o, ho, hex, hda⟩ fun T vals h' tk pt hT tup mid kp => ⟨_, rfl, ?_⟩
    obtain ⟨hi2, rfl⟩ := pt
    have hTn := wk.apart i T h' mid
    refine wk.go elts kk tpos i T _ _ E mid fun h2 st kp2 => ?_
    have hb : ∃ b v, ks[i]? = some (b, v) ∧ es[i].key = .ref b ∧ RelV v es[i].val := by
      obtain ⟨x, h1, h2, h3⟩ := Paired.get hk (i := i) (y := es[i]) (by rw [Array.getElem?_toList, Array.getElem?_eq_getElem hi2])
      exact ⟨x.1, x.2, h1, h2, h3⟩
    obtain ⟨b, v, hks, hkey, hv⟩ := hb
    obtain ⟨ob, hob, hc1, n, hc2⟩ := tup
    have hob2 := kp2 T ob hTn hob
    refine ⟨.ref T, upd H T (.tup [.ref b, v]), I.turnedNew (ch := [it]) (fun a u ha hu => kp2 a u ha (kp a u ha hu)) fp hT ⟨by exact Nat.le_of_ble_eq_true rfl, [es[i].key, es[i].val], .cons (by rw [hkey]; rfl) (.cons hv .nil), ob, hob2, hc1, n, hc2⟩, rfl, ⟨T, b, v, hks, rfl, ?_, rfl⟩, st.1, fun b' hb' => ?_⟩
    · exact HOk.fresh I.hok hT
    · rw [List.mem_singleton.mp hb', upd_ne (by rintro rfl; exact hTn (by simp))]
      exact (fp it (by simp)).1
  done := by
    rintro X rfl rfl rfl hc i pins s σ H E I fp t ⟨hd, hi⟩
    obtain ⟨ho, _⟩ := I.hok d _ hd
    have hne : d ≠ it := by
      rintro rfl
      rw [(fp d (by simp)).1] at hd
      cases hd
    have wk := WalksT.rawItems (prog := X.prog) (w := X.w) (A := X.A) (I.ok.hd hc) it d hne es ep
    have sz : ks.length = es.size := by rw [Paired.len hk, Array.length_toList]
    rw [hi, sz] at t
    exact wk.done s _ E ⟨t, o, ho, hex, hda⟩ fun h' tk kp => ⟨rfl, I.turnedL (ch := [it]) kp fp⟩
  self := by
    have z := (turn_items (P := P) (w := w) (K := K) (d := d) (o := o) (kvs := List.replicate es.size (Sum.inl 0, V.non)) (elts := elts) (kk := kk) (tpos := tpos) it hda).self
    rw [List.length_replicate] at z
    exact z
/-- what is asked of the dict and of what follows -/
def ITEMS (P : Program) (w : World) (K : PySem.W.Frag) (dS : α → PyData) (R : It → Hp → Prop) (x : V) (H1 : Hp) : Prop := dictN P w K dS x H1 ∧ rItemsN P w K dS x [] H1 fun v H' => ∃ (p d : Addr) (kvs : List (α × V)), v = .ref p ∧ H' p = some (DX.itemsO p d) ∧ DN P w K dS H' d kvs ∧
  ∀ H2 o ks, Fr [d] H' H2 → Tu H' H2 → H2 d = some (atO d o) → Paired (fun (kv : α × V) (k : Addr × V) => Dt K H2 (.ref k.1) (dS kv.1) ∧ k.2 = kv.2) kvs ks → R (ItN d o ks) H2
theorem ITEMS.of {R : It → Hp → Prop} {H1 : Hp} {d : Addr} {kvs : List (α × V)} (hd : DN P w K dS H1 d kvs) (k : ∀ H2 o ks, Fr [d] H1 H2 → Tu H1 H2 → H2 d = some (atO d o) → Paired (fun (kv : α × V) (k : Addr × V) => Dt K H2 (.ref k.1) (dS kv.1) ∧ k.2 = kv.2) kvs ks → R (ItN d o ks) H2) : ITEMS P w K dS R (.ref d) H1 :=
  ⟨⟨d, kvs, rfl, hd⟩, d, kvs, rfl, rfl, hd, fun p hp => ⟨p, d, kvs, rfl, upd_same, hd.fr0 (Fr.new hp), fun H2 o ks f t h1 h2 => k H2 o ks (Fr.trans (Fr.new hp) f) ((Tu.new hp).trans t) h1 h2⟩⟩
def iItemsN (P : Program) (w : World) (K : PySem.W.Frag) (dS : α → PyData) (te : TE) : TI := fun σ H R => te σ H fun x H1 => ITEMS P w K dS R x H1
theorem w_iItemsN {σ : L2.St} {H : Hp} {te : TE} {R : It → Hp → Prop} (q : te σ H fun x H1 => ITEMS P w K dS R x H1) : iItemsN P w K dS te σ H R := q
theorem ks_of {K : PySem.W.Frag} {H : Hp} : ∀ {kvs : List (α × V)} {xs : List (NestedKey × Addr × Value)}, Paired (RkN K H dS) kvs xs → ∃ ks : List (Addr × V), Paired (fun (kv : α × V) (k : Addr × V) => Dt K H (.ref k.1) (dS kv.1) ∧ k.2 = kv.2) kvs ks ∧ Paired (fun (k : Addr × V) (e : DictEntry) => e.key = .ref k.1 ∧ RelV k.2 e.val) ks (xs.map (entryOfKey (nestedKind P w)))
  | _, _, .nil => ⟨[], .nil, .nil⟩
  | _, _, .cons (a := kv) (b := x) r b => by
    obtain ⟨ks, h1, h2⟩ := ks_of b
    exact ⟨(x.2.1, kv.2) :: ks, .cons ⟨r.1, rfl⟩ h1, .cons ⟨rfl, r.2.2⟩ h2⟩
theorem pi_itemsN {e : Expr} {te : TE} {apos cpos : Pos} {elts : List Expr} {kk : Nat} {tpos : Pos} (D : KeyD dS) (hP : X.prog = P) (hw : X.w = w) (hK : X.K = K) (he : PE X e te) (hb : attributeBase e "items" X.env (eval e X.env) = eval e X.env := by rfl) (hl : (apos.endLine == cpos.line) = true := by rfl) :
    PI X (.Tuple elts kk tpos) (.Call (.Attribute e "items" apos) [] [] cpos) (iItemsN P w K dS te) := by
  subst hP hw hK
  have P1 : PE X (.Call (.Attribute e "items" apos) [] [] cpos) (tMG0 (dictN X.prog X.w X.K dS) (rItemsN X.prog X.w X.K dS) te) := pe_mG0 (ty_N D) F.plainAttrs_dict F.slot_dict_items F.type_dict_items (mt_itemsN D) he hb hl
  refine ⟨fun pins s σ H R I q => ?_⟩
  refine wpAny_mono (P1.run pins s σ H _ I q) ?_ fun _ _ z => z
  · rintro v s1 ⟨v', H1, I1, rv, p, d, kvs, rfl, hp, hd, k⟩
    cases rv
    have hv : Heap.IsItemsView s1.heap p d := (I1.hok p _ hp).1
    obtain ⟨xs, ⟨o, es, ep, ho, hex, hda, hl, hi, hn⟩, pr, ns, m⟩ := hd.heap D I1
    have raw : Heap.DictRaw s1.heap d es ep := ⟨o, ho, hex, hda⟩
    refine wpAny_pyIter_items_raw hv raw ?_
    have t := Tu.dn hd (atO d o)
    have I2 : Inv X pins σ (upd H1 d (atO d o)) { s1 with toks := s1.toks } := I1.write m (.inl rfl) (fun b u hb hu => hu) ⟨o, ho⟩ ⟨ho, ⟨o, ho⟩, fun h1 h2 e f => f _ e⟩
    obtain ⟨ks, k1, k2⟩ := ks_of (P := X.prog) (w := X.w) (Paired.imp (fun _ _ => RkN.mono t) pr)
    rw [← hl] at k2
    have hfr : (upd H1 d (atO d o)) s1.heap.objs.size = none := by
      have := I2.fresh
      exact this
    refine ⟨s1.heap.objs.size, [s1.heap.objs.size], _, ItN d o ks, upd H1 d (atO d o), rfl, I2.turnedL (ch := []) (fun b u _ hb => ?_) (fun b hb => by simp at hb), turn_itemsN (es := es) (ep := ep) hex hda k2, ⟨_, _, Heap.get?_push_size _ rfl⟩, fun b hb => ?_, k _ o ks (Fr.mut (by simp)) t upd_same k1⟩
    · rw [Heap.get?_push_ne]
      · exact hb
      · rintro rfl
        exact get_size hb
    · rw [List.mem_singleton.mp hb]
      exact I2.fpOk (Nat.le_refl _) hfr
end
/-- a comprehension over items -/
theorem LC_N {α : Type} {K : PySem.W.Frag} {dS : α → PyData} {d D : Addr} {o : Obj} {kvs : List (α × V)} {ks : List (Addr × V)} {H : Hp} {ws : List Nat} {σ : L2.St} {tg : TG} {tt : TT} {te : TE} {Q : VK} (f : α × V → Bool) (g : α × V → PyData)
    (hd : H d = some (atO d o)) (hk : Paired (fun (kv : α × V) (k : Addr × V) => Dt K H (.ref k.1) (dS kv.1) ∧ k.2 = kv.2) kvs ks) (lc : kvs.length ≤ 100000) (hD : H D = none)
    (hs : ∀ (kv : α × V) (b T : Addr) (H' : Hp) (KEEP : VK) (DROP : Hp → Prop), kv ∈ kvs → Fr [] H H' → SqT K H' T [.ref b, kv.2] → Dt K H' (.ref b) (dS kv.1) → (f kv = true → ∀ y H4, Fr [] H' H4 → Dt K H4 y (g kv) → KEEP y H4) → (f kv = false → ∀ H4, Fr [] H' H4 → DROP H4) →
      tg (.ref T) (wipe σ ws) H' fun σ2 H2 => wipe σ2 ws = wipe σ ws ∧ tt σ2 H2 fun k H3 => if k = true then te σ2 H3 KEEP else DROP H3)
    (k : ∀ D H', H D = none → Fr [] H H' → Lq K H' D ((kvs.filter f).map g) → Q (.ref D) H') :
    LC (ItN d o ks) tg tt te ws σ D Q (upd H D (.lst [])) := by
  have lk : kvs.length = ks.length := Paired.len hk
  refine ⟨fun i m H' => m = ks.length - i ∧ i ≤ ks.length ∧ Fr [] H H' ∧ Lq K H' D (((kvs.take i).filter f).map g), ⟨_, rfl, Nat.zero_le _, Fr.new hD, [], upd_same, .nil⟩, ?_⟩
  rintro i m H' ⟨rfl, hi, f', L⟩
  have hd' := f' _ _ hd (by simp)
  by_cases hlt : i < ks.length
  · refine .inr ⟨⟨hd', hlt⟩, fun H2 => Fr [] H H2 ∧ Lq K H2 D (((kvs.take (i + 1)).filter f).map g), fun H2 z => ⟨ks.length - (i + 1), by omega, rfl, hlt, z⟩, fun x H2 y => ?_⟩
    obtain ⟨T, b, v, hks, rfl, hT, rfl⟩ := y
    obtain ⟨kv, hkv, hb, hv⟩ := Paired.get hk hks
    have hv : v = kv.2 := hv
    subst hv
    have fT : Fr [] H' (upd H' T (.tup [.ref b, kv.2])) := Fr.new hT
    have L2 := L.fr0 fT
    obtain ⟨ys, hys, dys⟩ := L2
    have ly : ys.length ≤ i := by
      rw [dys.length, List.length_map]
      refine Nat.le_trans (List.length_filter_le _ _) ?_
      rw [List.length_take]
      omega
    refine hs kv b T _ _ _ (List.mem_of_getElem? hkv) (f'.trans fT) (.inl (.inl upd_same)) (hb.mono (f'.trans fT).tu) (fun hf y H4 f4 dy => ?_) (fun hf H4 f4 => ?_)
    · have e3 := f4 _ _ hys (by simp)
      refine ⟨ys, e3, Nat.lt_of_le_of_lt (show ys.length ≤ 100000 by omega) (by decide), Fr.new_mut hD (((f'.trans fT).trans f4).mono (by simp) |>.trans (Fr.mut (by simp))), _, upd_same, ?_⟩
      rw [take_filt hkv, hf, List.map_append]
      exact ((dys.mono f4.tu).append (.cons dy .nil)).mono (Tu.mut e3)
    · refine ⟨(f'.trans fT).trans f4, ?_⟩
      rw [take_filt hkv, hf]
      show Lq K H4 D ((List.filter f (kvs.take i) ++ []).map g)
      rw [List.append_nil]
      exact Lq.fr0 ⟨ys, hys, dys⟩ f4
  · have z : i = ks.length := by omega
    subst z
    refine .inl ⟨⟨hd', rfl⟩, ?_⟩
    rw [← lk, List.take_length] at L
    exact k D H' hD f' L
/-! ### the same, told for the places where one stands -/
section
variable {α : Type} [DecidableEq α] {X : Cx} {P : Program} {w : World} {K : PySem.W.Frag} {dS : α → PyData}
theorem op_inNU (D : KeyD dS) (hP : X.prog = P) (hw : X.w = w) (hK : X.K = K) (hu : X.A.units + 65 < cLine) : OpR X (compareOp .In) (rInN P w K dS) := by subst hP hw hK; exact op_inN D hu
theorem op_ninNU (D : KeyD dS) (hP : X.prog = P) (hw : X.w = w) (hK : X.K = K) (hu : X.A.units + 65 < cLine) : OpR X (compareOp .NotIn) (rNinN P w K dS) := by subst hP hw hK; exact op_ninN D hu
theorem ix_NU (D : KeyD dS) (hP : X.prog = P) (hw : X.w = w) (hK : X.K = K) (hu : X.A.units + 65 < cLine) : IxR X (rIxN P w K dS) := by subst hP hw hK; exact ix_N D hu
theorem set_NU (D : KeyD dS) (hP : X.prog = P) (hw : X.w = w) (hK : X.K = K) (hu : X.A.units + 65 < cLine) : PSet X (rSetN P w K dS) := by subst hP hw hK; exact set_N D hu
theorem ty_NU (D : KeyD dS) (hP : X.prog = P) (hw : X.w = w) (hK : X.K = K) : TyOk X "dict" (dictN P w K dS) := by subst hP hw hK; exact ty_N D
theorem mt_popNU (D : KeyD dS) (hP : X.prog = P) (hw : X.w = w) (hK : X.K = K) (hu : X.A.units + 65 < cLine) : MtR X "dict.pop" (rPopN P w K dS) := by subst hP hw hK; exact mt_popN D hu
variable {H : Hp} {Q : VK} {a d : Addr} {kvs : List (α × V)} {k : α}
theorem w_inN (hd : DN P w K dS H d kvs) (hk : Dt K H (.ref a) (dS k)) (q : Q (.bl (atN kvs k).isSome) H) : rInN P w K dS (.ref a) (.ref d) H Q := ⟨d, a, kvs, k, rfl, rfl, hd, hk, q⟩
theorem w_ninN (hd : DN P w K dS H d kvs) (hk : Dt K H (.ref a) (dS k)) (q : Q (.bl (!(atN kvs k).isSome)) H) : rNinN P w K dS (.ref a) (.ref d) H Q := ⟨d, a, kvs, k, rfl, rfl, hd, hk, q⟩
theorem w_ixN {v : V} (hd : DN P w K dS H d kvs) (hk : Dt K H (.ref a) (dS k)) (hv : atN kvs k = some v) (q : Q v H) : rIxN P w K dS (.ref d) (.ref a) H Q := ⟨d, a, kvs, k, v, rfl, rfl, hd, hk, hv, q⟩
theorem w_setN {v : V} {Q : Hp → Prop} (hd : DN P w K dS H d kvs) (hk : Dt K H (.ref a) (dS k)) (n : kvs.length ≤ 100000) (q : ∀ H', Fr [d] H H' → Tu H H' → DN P w K dS H' d (putN kvs k v) → Q H') : rSetN P w K dS (.ref d) (.ref a) v H Q := ⟨d, a, kvs, k, rfl, rfl, hd, hk, n, q⟩
theorem w_popN {v : V} (hd : DN P w K dS H d kvs) (hk : Dt K H (.ref a) (dS k)) (n : kvs.length ≤ 100000) (hv : atN kvs k = some v) (q : ∀ H', Fr [d] H H' → Tu H H' → DN P w K dS H' d (dropN kvs k) → Q v H') : rPopN P w K dS (.ref d) [.ref a] H Q := ⟨d, a, kvs, k, v, rfl, rfl, hd, hk, n, hv, q⟩
theorem DN.dict (hd : DN P w K dS H d kvs) : dictN P w K dS (.ref d) H := ⟨d, kvs, rfl, hd⟩
theorem w_mG {σ : L2.St} {ty : V → Hp → Prop} {rm : V → List V → Hp → VK → Prop} {ta : TE} {tr : TA} (q : ta σ H fun x H1 => ty x H1 ∧ tr σ H1 fun xs H2 => rm x xs H2 Q) : tMG ty rm ta tr σ H Q := q
end
/-! ### isinstance(x, (a, b)) -/
section
variable {K : PySem.W.Frag} {H : Hp} {Q : VK}
theorem kit_two {t a b : String} {r s : Bool} (h1 : kitB t a = some r) (h2 : kitB t b = some s) : PySem.W.kitAny K (.type t) [.type a, .type b] = some (r || s) := by
  have e1 := kit_ty (K := K) h1
  have e2 := kit_ty (K := K) h2
  simp only [PySem.W.kitAny, e1, e2]
  cases r <;> cases s <;> rfl
theorem call_isiTU {X : Cx} (hK : X.K = K) : CallR X (.builtin "isinstance") (rIsiT K) := by subst hK; exact call_isiT
theorem w_isiT {x : V} {tp : Addr} {t a b : String} {r s : Bool} (h : H tp = some (.tup [.ty a, .ty b])) (ty : TyX K H x (.type t)) (h1 : kitB t a = some r) (h2 : kitB t b = some s) (q : Q (.bl (r || s)) H) : rIsiT K [x, .ref tp] H Q :=
  ⟨x, tp, [.ty a, .ty b], .type t, [.type a, .type b], r || s, rfl, h, .cons (.ty a) (.cons (.ty b) .nil), ty, kit_two h1 h2, q⟩
/-- the type's name of plain data -/
def tyn : PyData → String
  | .none => "NoneType"
  | .bool _ => "bool"
  | .int _ => "int"
  | .str _ => "str"
  | .tuple _ => "tuple"
  | .list _ => "list"
  | _ => "dict"
theorem Dg.ty {v : V} {d : PyData} (h : Dg K H v d) : TyX K H v (.type (tyn d)) := by
  cases h with
  | non => exact .base .non
  | bl b => exact .base (.bl _)
  | int i => exact .base (.int _)
  | str x => exact .base (.str _)
  | tup s _ => exact ty_T s
  | lst s _ => exact ty_L s
  | dct h => exact .base (.dK h)
end
end U

/-! any plain data, away from one list that changes (the tape) -/
namespace U
open PySem PySem.Spec PyProof.Rows L2
section
variable {K : PySem.W.Frag} {H H' : Hp}
mutual
theorem Dg.dp : ∀ {v : V} {d : PyData}, Dg K H v d → d.canLay0 = true → Dp K H v d
  | _, _, .non, _ => .non
  | _, _, .bl b, _ => .bl b
  | _, _, .int i, _ => .int i
  | _, _, .str x, _ => .str x
  | _, _, .tup s a, h => .tup s (DgAll.dp a h)
  | _, _, .lst s a, h => .lst s (DgAll.dp a h)
  | _, _, .dct _, h => by cases h
theorem DgAll.dp : ∀ {vs : List V} {ds : List PyData}, DgAll K H vs ds → PyData.canLayAll0 ds = true → DpAll K H vs ds
  | _, _, .nil, _ => .nil
  | _, _, .cons a b, h => by
    have z := Bool.and_eq_true_iff.mp h
    exact .cons (Dg.dp a z.1) (DgAll.dp b z.2)
end
theorem DgAll.take : ∀ {vs : List V} {ds : List PyData} (n : Nat), DgAll K H vs ds → DgAll K H (vs.take n) (ds.take n)
  | _, _, 0, _ => by simpa using DgAll.nil
  | _, _, _ + 1, .nil => by simpa using DgAll.nil
  | _, _, n + 1, .cons a b => by simpa using DgAll.cons a (DgAll.take n b)
theorem DgAll.drop : ∀ {vs : List V} {ds : List PyData} (n : Nat), DgAll K H vs ds → DgAll K H (vs.drop n) (ds.drop n)
  | _, _, 0, h => by simpa using h
  | _, _, _ + 1, .nil => by simpa using DgAll.nil
  | _, _, n + 1, .cons a b => by simpa using DgAll.drop n b
theorem DgAll.append : ∀ {vs us : List V} {ds es : List PyData}, DgAll K H vs ds → DgAll K H us es → DgAll K H (vs ++ us) (ds ++ es)
  | _, _, _, _, .nil, h => h
  | _, _, _, _, .cons a b, h => .cons a (DgAll.append b h)
theorem DgAll.cut {vs : List V} {ds : List PyData} (h : DgAll K H vs ds) (lo hi : Option Int) : DgAll K H (cutV vs lo hi) (cutA ds lo hi) := by
  unfold cutV cutA
  rw [DgAll.length h]
  exact DgAll.take _ (DgAll.drop _ h)
theorem DgAll.at : ∀ {vs : List V} {ds : List PyData} {i : Nat} {d : PyData}, DgAll K H vs ds → ds[i]? = some d → ∃ v, vs[i]? = some v ∧ Dg K H v d
  | _, _, i, _, .nil, h => by simp at h
  | _, _, 0, d, .cons a b, h => by
    simp at h
    subst h
    exact ⟨_, rfl, a⟩
  | _, _, i + 1, d, .cons a b, h => by
    obtain ⟨v, h1, h2⟩ := DgAll.at (i := i) b (by simpa using h)
    exact ⟨v, by simpa using h1, h2⟩
theorem Dg.tuple {v : V} {ds : List PyData} (h : Dg K H v (.tuple ds)) : ∃ p vs, v = .ref p ∧ SqT K H p vs ∧ DgAll K H vs ds := by
  cases h with
  | tup s a => exact ⟨_, _, rfl, s, a⟩
theorem Dg.list {v : V} {ds : List PyData} (h : Dg K H v (.list ds)) : ∃ p vs, v = .ref p ∧ SqL K H p vs ∧ DgAll K H vs ds := by
  cases h with
  | lst s a => exact ⟨_, _, rfl, s, a⟩
theorem Dg.isi {v : V} {d : PyData} {n : String} {b : Bool} {Q : VK} (h : Dg K H v d) (e : kitB (tyn d) n = some b) (q : Q (.bl b) H) : rIsi K [v, .ty n] H Q := w_isi h.ty (kit_ty e) q
end
/-- what is a tuple, list, whole number or truth, truth, text -/
def isTup : PyData → Bool | .tuple _ => true | _ => false
def isLst : PyData → Bool | .list _ => true | _ => false
def isInt : PyData → Bool | .int _ => true | .bool _ => true | _ => false
def isBool : PyData → Bool | .bool _ => true | _ => false
def isStr : PyData → Bool | .str _ => true | _ => false
section
variable {K : PySem.W.Frag} {H : Hp} {v : V} {d : PyData} {Q : VK}
theorem Dg.isTup (h : Dg K H v d) (q : Q (.bl (isTup d)) H) : rIsi K [v, .ty "tuple"] H Q := by
  cases h with
  | non => exact Dg.isi (d := .none) (by constructor <;> assumption) (by exact (by decide +kernel : kitB "NoneType" "tuple" = some false)) q
  | bl b => exact Dg.isi (d := .bool b) (by constructor <;> assumption) (by exact (by decide +kernel : kitB "bool" "tuple" = some false)) q
  | int i => exact Dg.isi (d := .int i) (by constructor <;> assumption) (by exact (by decide +kernel : kitB "int" "tuple" = some false)) q
  | str x => exact Dg.isi (d := .str x) (by constructor <;> assumption) (by exact (by decide +kernel : kitB "str" "tuple" = some false)) q
  | tup _ _ => exact Dg.isi (d := .tuple _) (by constructor <;> assumption) (by exact (by decide +kernel : kitB "tuple" "tuple" = some true)) q
  | lst _ _ => exact Dg.isi (d := .list _) (by constructor <;> assumption) (by exact (by decide +kernel : kitB "list" "tuple" = some false)) q
  | dct _ => exact Dg.isi (d := .dict []) (by constructor <;> assumption) (by exact (by decide +kernel : kitB "dict" "tuple" = some false)) q
theorem Dg.isLst (h : Dg K H v d) (q : Q (.bl (isLst d)) H) : rIsi K [v, .ty "list"] H Q := by
  cases h with
  | non => exact Dg.isi (d := .none) (by constructor <;> assumption) (by exact (by decide +kernel : kitB "NoneType" "list" = some false)) q
  | bl b => exact Dg.isi (d := .bool b) (by constructor <;> assumption) (by exact (by decide +kernel : kitB "bool" "list" = some false)) q
  | int i => exact Dg.isi (d := .int i) (by constructor <;> assumption) (by exact (by decide +kernel : kitB "int" "list" = some false)) q
  | str x => exact Dg.isi (d := .str x) (by constructor <;> assumption) (by exact (by decide +kernel : kitB "str" "list" = some false)) q
  | tup _ _ => exact Dg.isi (d := .tuple _) (by constructor <;> assumption) (by exact (by decide +kernel : kitB "tuple" "list" = some false)) q
  | lst _ _ => exact Dg.isi (d := .list _) (by constructor <;> assumption) (by exact (by decide +kernel : kitB "list" "list" = some true)) q
  | dct _ => exact Dg.isi (d := .dict []) (by constructor <;> assumption) (by exact (by decide +kernel : kitB "dict" "list" = some false)) q
theorem Dg.isInt (h : Dg K H v d) (q : Q (.bl (isInt d)) H) : rIsi K [v, .ty "int"] H Q := by
  cases h with
  | non => exact Dg.isi (d := .none) (by constructor <;> assumption) (by exact (by decide +kernel : kitB "NoneType" "int" = some false)) q
  | bl b => exact Dg.isi (d := .bool b) (by constructor <;> assumption) (by exact (by decide +kernel : kitB "bool" "int" = some true)) q
  | int i => exact Dg.isi (d := .int i) (by constructor <;> assumption) (by exact (by decide +kernel : kitB "int" "int" = some true)) q
  | str x => exact Dg.isi (d := .str x) (by constructor <;> assumption) (by exact (by decide +kernel : kitB "str" "int" = some false)) q
  | tup _ _ => exact Dg.isi (d := .tuple _) (by constructor <;> assumption) (by exact (by decide +kernel : kitB "tuple" "int" = some false)) q
  | lst _ _ => exact Dg.isi (d := .list _) (by constructor <;> assumption) (by exact (by decide +kernel : kitB "list" "int" = some false)) q
  | dct _ => exact Dg.isi (d := .dict []) (by constructor <;> assumption) (by exact (by decide +kernel : kitB "dict" "int" = some false)) q
theorem Dg.isBool (h : Dg K H v d) (q : Q (.bl (isBool d)) H) : rIsi K [v, .ty "bool"] H Q := by
  cases h with
  | non => exact Dg.isi (d := .none) (by constructor <;> assumption) (by exact (by decide +kernel : kitB "NoneType" "bool" = some false)) q
  | bl b => exact Dg.isi (d := .bool b) (by constructor <;> assumption) (by exact (by decide +kernel : kitB "bool" "bool" = some true)) q
  | int i => exact Dg.isi (d := .int i) (by constructor <;> assumption) (by exact (by decide +kernel : kitB "int" "bool" = some false)) q
  | str x => exact Dg.isi (d := .str x) (by constructor <;> assumption) (by exact (by decide +kernel : kitB "str" "bool" = some false)) q
  | tup _ _ => exact Dg.isi (d := .tuple _) (by constructor <;> assumption) (by exact (by decide +kernel : kitB "tuple" "bool" = some false)) q
  | lst _ _ => exact Dg.isi (d := .list _) (by constructor <;> assumption) (by exact (by decide +kernel : kitB "list" "bool" = some false)) q
  | dct _ => exact Dg.isi (d := .dict []) (by constructor <;> assumption) (by exact (by decide +kernel : kitB "dict" "bool" = some false)) q
theorem Dg.isStr (h : Dg K H v d) (q : Q (.bl (isStr d)) H) : rIsi K [v, .ty "str"] H Q := by
  cases h with
  | non => exact Dg.isi (d := .none) (by constructor <;> assumption) (by exact (by decide +kernel : kitB "NoneType" "str" = some false)) q
  | bl b => exact Dg.isi (d := .bool b) (by constructor <;> assumption) (by exact (by decide +kernel : kitB "bool" "str" = some false)) q
  | int i => exact Dg.isi (d := .int i) (by constructor <;> assumption) (by exact (by decide +kernel : kitB "int" "str" = some false)) q
  | str x => exact Dg.isi (d := .str x) (by constructor <;> assumption) (by exact (by decide +kernel : kitB "str" "str" = some true)) q
  | tup _ _ => exact Dg.isi (d := .tuple _) (by constructor <;> assumption) (by exact (by decide +kernel : kitB "tuple" "str" = some false)) q
  | lst _ _ => exact Dg.isi (d := .list _) (by constructor <;> assumption) (by exact (by decide +kernel : kitB "list" "str" = some false)) q
  | dct _ => exact Dg.isi (d := .dict []) (by constructor <;> assumption) (by exact (by decide +kernel : kitB "dict" "str" = some false)) q
/-- text or no text, against a text -/
def Fine (d : PyData) : Prop := (∃ es, d = .dict es) ∨ SeqAt.shaped d = true
def isStrB (z : Str) : PyData → Bool
  | .str y => decide (y = z)
  | _ => false
theorem Dg.neStr {z : Str} (D : Dg K H v d) (f : Fine d) (oz : PyData.strOk z = true) (q : Q (.bl (!isStrB z d)) H) : rNeU K v (.str z) H Q := by
  rcases f with ⟨es, rfl⟩ | f
  · cases D with
    | dct s => exact w_neDS s q
  · have hl := SeqAt.canLay_of_shaped f
    have sz : SeqAt.shaped (.str z) = true := lay_shaped ⟨oz, Nat.zero_le _⟩
    cases D with
    | str x => exact w_neS q
    | dct s => cases hl
    | non => exact w_neD .non (.str z) f sz q
    | bl b => exact w_neD (.bl b) (.str z) f sz q
    | int i => exact w_neD (.int i) (.str z) f sz q
    | tup s a => exact w_neD (.tup s (DgAll.dp a hl)) (.str z) f sz q
    | lst s a => exact w_neD (.lst s (DgAll.dp a hl)) (.str z) f sz q
theorem Dg.eqStr {z : Str} (D : Dg K H v d) (f : Fine d) (oz : PyData.strOk z = true) (q : Q (.bl (isStrB z d)) H) : rEqU K v (.str z) H Q := by
  rcases f with ⟨es, rfl⟩ | f
  · cases D with
    | dct s => exact w_eqDS s q
  · have hl := SeqAt.canLay_of_shaped f
    have sz : SeqAt.shaped (.str z) = true := lay_shaped ⟨oz, Nat.zero_le _⟩
    cases D with
    | str x => exact w_eqS q
    | dct s => cases hl
    | non => exact w_eqD .non (.str z) f sz q
    | bl b => exact w_eqD (.bl b) (.str z) f sz q
    | int i => exact w_eqD (.int i) (.str z) f sz q
    | tup s a => exact w_eqD (.tup s (DgAll.dp a hl)) (.str z) f sz q
    | lst s a => exact w_eqD (.lst s (DgAll.dp a hl)) (.str z) f sz q
end
/-! ### the heap without t -/
def wo (H : Hp) (t : Addr) : Hp := fun a => if a = t then none else H a
section
variable {K : PySem.W.Frag} {H H' : Hp} {t : Addr}
theorem wo_fr : Fr [] (wo H t) H := fun a o e _ => by
  unfold wo at e
  by_cases h : a = t
  · rw [if_pos h] at e; cases e
  · rw [if_neg h] at e; exact e
theorem Fr.wo (f : Fr [t] H H') : Fr [] (wo H t) (wo H' t) := fun a o e _ => by
  unfold U.wo at *
  by_cases h : a = t
  · rw [if_pos h] at e; cases e
  · rw [if_neg h] at e
    rw [if_neg h]
    exact f a o e (by simpa using h)
theorem wo_upd {p : Addr} {o : HO} (n : p ≠ t) : wo (upd H p o) t = upd (wo H t) p o := by
  funext a
  unfold wo
  by_cases h : a = t
  · subst h
    rw [if_pos rfl, upd_ne n.symm, if_pos rfl]
  · rw [if_neg h]
    by_cases e : a = p
    · subst e
      rw [upd_same, upd_same]
    · rw [upd_ne e, upd_ne e, if_neg h]
theorem wo_at {p : Addr} (n : p ≠ t) : wo H t p = H p := by unfold wo; rw [if_neg n]
theorem wo_tu {xs : List V} (h : H t = some (.lst xs)) : Tu H (wo H t) := fun a ys =>
  ⟨fun e => by rw [wo_at (by rintro rfl; rw [h] at e; cases e)]; exact e, fun o e => by rw [wo_at (by rintro rfl; rw [h] at e; cases e)]; exact e⟩
/-- data away from t -/
def Dx (K : PySem.W.Frag) (H : Hp) (t : Addr) (v : V) (d : PyData) : Prop := Dg K (wo H t) v d
theorem Dx.dg {v : V} {d : PyData} (h : Dx K H t v d) : Dg K H v d := Dg.fr wo_fr h
theorem Dx.fr {v : V} {d : PyData} (h : Dx K H t v d) (f : Fr [t] H H') : Dx K H' t v d := Dg.fr f.wo h
theorem Fr.to1 (f : Fr [] H H') : Fr [t] H H' := f.mono (by simp)
theorem Dx.fr0 {v : V} {d : PyData} (h : Dx K H t v d) (f : Fr [] H H') : Dx K H' t v d := h.fr f.to1
theorem Dt.dx {v : V} {d : PyData} {xs : List V} (ht : H t = some (.lst xs)) (h : Dt K H v d) : Dx K H t v d := (h.mono (wo_tu ht)).dg
def DxAll (K : PySem.W.Frag) (H : Hp) (t : Addr) (vs : List V) (ds : List PyData) : Prop := DgAll K (wo H t) vs ds
theorem DxAll.dg {vs : List V} {ds : List PyData} (h : DxAll K H t vs ds) : DgAll K H vs ds := DgAll.fr wo_fr h
theorem DxAll.fr {vs : List V} {ds : List PyData} (h : DxAll K H t vs ds) (f : Fr [t] H H') : DxAll K H' t vs ds := DgAll.fr f.wo h
theorem mkTx {xs : List V} {ds : List PyData} {Q : VK} (ht : ∃ o, H t = some o) (d : DgAll K (wo H t) xs ds) (q : ∀ p H', H p = none → Fr [] H H' → Dx K H' t (.ref p) (.tuple ds) → Q (.ref p) H') (n : xs.length ≤ 1000 := by exact Nat.le_of_ble_eq_true rfl) : MkT xs Q H :=
  ⟨Nat.le_trans n (by decide), fun p hp => q p _ hp (Fr.new hp) (by
    have np : p ≠ t := by
      rintro rfl
      obtain ⟨o, e⟩ := ht
      rw [hp] at e
      cases e
    unfold Dx
    rw [wo_upd np]
    exact .tup (.inl (.inl upd_same)) (DgAll.fr (Fr.new (by rw [wo_at np]; exact hp)) d))⟩
/-- a list of such, that may change -/
def Lx (K : PySem.W.Frag) (H : Hp) (t q : Addr) (ds : List PyData) : Prop := ∃ vs, H q = some (.lst vs) ∧ q ≠ t ∧ DgAll K (wo H t) vs ds
theorem Lx.fr {q : Addr} {ds : List PyData} (h : Lx K H t q ds) (f : Fr [t] H H') : Lx K H' t q ds := by
  obtain ⟨vs, e, n, a⟩ := h
  exact ⟨vs, f _ _ e (by simpa using n), n, DgAll.fr f.wo a⟩
theorem Lx.fr0 {q : Addr} {ds : List PyData} (h : Lx K H t q ds) (f : Fr [] H H') : Lx K H' t q ds := h.fr f.to1
theorem Lx.dx {q : Addr} {ds : List PyData} (h : Lx K H t q ds) : Dx K H t (.ref q) (.list ds) := by
  obtain ⟨vs, e, n, a⟩ := h
  exact .lst (.inl (.inl (by rw [wo_at n]; exact e))) a
theorem Lq.lx {q : Addr} {ds : List PyData} {xs : List V} (ht : H t = some (.lst xs)) (n : q ≠ t) (h : Lq K H q ds) : Lx K H t q ds := by
  obtain ⟨vs, e, a⟩ := h
  exact ⟨vs, e, n, (a.mono (wo_tu ht)).dg⟩
theorem lx_new {p : Addr} {vs : List V} {ds : List PyData} (ht : ∃ o, H t = some o) (hp : H p = none) (a : DgAll K (wo H t) vs ds) : Lx K (upd H p (.lst vs)) t p ds := by
  have np : p ≠ t := by
    rintro rfl
    obtain ⟨o, e⟩ := ht
    rw [hp] at e
    cases e
  refine ⟨vs, upd_same, np, ?_⟩
  rw [wo_upd np]
  exact DgAll.fr (Fr.new (by rw [wo_at np]; exact hp)) a
theorem mkLx {xs : List V} {ds : List PyData} {Q : VK} (ht : ∃ o, H t = some o) (d : DgAll K (wo H t) xs ds) (q : ∀ p H', H p = none → Fr [] H H' → Lx K H' t p ds → Q (.ref p) H') (n : xs.length ≤ 1000 := by exact Nat.le_of_ble_eq_true rfl) : MkL xs Q H :=
  ⟨Nat.le_trans n (by decide), fun p hp => q p _ hp (Fr.new hp) (lx_new ht hp d)⟩
theorem Lx.len {q : Addr} {ds : List PyData} {Q : VK} (h : Lx K H t q ds) (k : Q (.int ds.length) H) : rLenU K [.ref q] H Q := by
  obtain ⟨vs, e, _, a⟩ := h
  rw [← DgAll.length a] at k
  exact w_lenL (SqL.of e) k
theorem Lx.slice {q : Addr} {ds : List PyData} {lo hi : Option Int} {Q : VK} (ht : ∃ o, H t = some o) (h : Lx K H t q ds) (k : ∀ p H', H p = none → Fr [] H H' → Lx K H' t p (cutA ds lo hi) → Q (.ref p) H') : rSlU K (.ref q) lo hi H Q := by
  obtain ⟨vs, e, _, a⟩ := h
  exact w_slL (SqL.of e) fun p hp => k p _ hp (Fr.new hp) (lx_new ht hp (DgAll.cut a lo hi))
theorem Lx.cat {q r : Addr} {ds es : List PyData} {Q : VK} (ht : ∃ o, H t = some o) (h : Lx K H t q ds) (h' : Lx K H t r es) (n : ds.length + es.length ≤ 100000) (k : ∀ p H', H p = none → Fr [] H H' → Lx K H' t p (ds ++ es) → Q (.ref p) H') : rAddU K (.ref q) (.ref r) H Q := by
  obtain ⟨vs, e, _, a⟩ := h
  obtain ⟨us, e', _, a'⟩ := h'
  exact w_addL e e' (by rw [DgAll.length a, DgAll.length a']; omega) fun p hp => k p _ hp (Fr.new hp) (lx_new ht hp (DgAll.append a a'))
theorem Lx.at {q : Addr} {ds : List PyData} {i : Int} {Q : VK} (h : Lx K H t q ds) (h0 : 0 ≤ i) (h1 : i < ds.length) (k : ∀ v d, Dx K H t v d → ds[i.toNat]? = some d → Q v H) : rIx K (.ref q) (.int i) H Q := by
  obtain ⟨vs, e, _, a⟩ := h
  have ek : i = ((i.toNat : Nat) : Int) := by omega
  have hk : i.toNat < ds.length := by omega
  obtain ⟨v, hv, dv⟩ := DgAll.at a (List.getElem?_eq_getElem hk)
  refine w_ixL (SqL.of e) ?_ (k v _ dv (List.getElem?_eq_getElem hk))
  rw [ek]
  exact atI_nat hv
theorem Lx.list {q : Addr} {ds : List PyData} {Q : VK} (ht : ∃ o, H t = some o) (h : Lx K H t q ds) (k : ∀ p H', H p = none → Fr [] H H' → Lx K H' t p ds → Q (.ref p) H') : rListU K [.ref q] H Q := by
  obtain ⟨vs, e, _, a⟩ := h
  exact w_listL (SqL.of e) fun p hp => k p _ hp (Fr.new hp) (lx_new ht hp a)
/-! tuples -/
theorem sqT_wo {p : Addr} {vs : List V} (s : SqT K (wo H t) p vs) : SqT K H p vs := wo_fr.seqT s (by simp)
theorem Dx.tuple {v : V} {ds : List PyData} (h : Dx K H t v (.tuple ds)) : ∃ p vs, v = .ref p ∧ SqT K H p vs ∧ DgAll K (wo H t) vs ds := by
  obtain ⟨p, vs, e, s, a⟩ := Dg.tuple h
  exact ⟨p, vs, e, sqT_wo s, a⟩
theorem tx_new {p : Addr} {vs : List V} {ds : List PyData} (ht : ∃ o, H t = some o) (hp : H p = none) (a : DgAll K (wo H t) vs ds) : Dx K (upd H p (.tup vs)) t (.ref p) (.tuple ds) := by
  have np : p ≠ t := by
    rintro rfl
    obtain ⟨o, e⟩ := ht
    rw [hp] at e
    cases e
  unfold Dx
  rw [wo_upd np]
  exact .tup (.inl (.inl upd_same)) (DgAll.fr (Fr.new (by rw [wo_at np]; exact hp)) a)
theorem Dx.slice {v : V} {ds : List PyData} {lo hi : Option Int} {Q : VK} (ht : ∃ o, H t = some o) (h : Dx K H t v (.tuple ds)) (q : ∀ p H', Fr [] H H' → Dx K H' t (.ref p) (.tuple (cutA ds lo hi)) → Q (.ref p) H') : rSlU K v lo hi H Q := by
  obtain ⟨p, vs, rfl, s, a⟩ := h.tuple
  refine .inl (.inr ⟨p, vs, rfl, s, fun z => ?_, fun _ p' hp => ?_⟩)
  · rw [DgAll.length a] at z
    refine q p H Fr.refl ?_
    rw [cutA_full z]
    exact h
  · exact q p' _ (Fr.new hp) (tx_new ht hp (DgAll.cut a lo hi))
theorem Dx.cat {v u : V} {ds es : List PyData} {Q : VK} (ht : ∃ o, H t = some o) (h : Dx K H t v (.tuple ds)) (h' : Dx K H t u (.tuple es)) (n : ds.length + es.length ≤ 1000) (q : ∀ p H', Fr [] H H' → Dx K H' t (.ref p) (.tuple (ds ++ es)) → Q (.ref p) H') : rAddU K v u H Q := by
  obtain ⟨p, vs, rfl, s, a⟩ := h.tuple
  obtain ⟨p', us, rfl, s', a'⟩ := h'.tuple
  refine .inr (.inl ⟨p, p', vs, us, rfl, rfl, s, s', Nat.le_trans (show _ ≤ 1000 by rw [DgAll.length a, DgAll.length a']; exact n) (by decide), fun z => ?_, fun _ z => ?_, fun _ _ r hr => ?_⟩)
  · subst z
    cases a
    exact q p' H Fr.refl h'
  · subst z
    cases a'
    refine q p H Fr.refl ?_
    rw [List.append_nil]
    exact h
  · exact q r _ (Fr.new hr) (tx_new ht hr (DgAll.append a a'))
theorem Dx.ix {v : V} {ds : List PyData} {i : Int} {Q : VK} (h : Dx K H t v (.tuple ds)) (h0 : 0 ≤ i) (h1 : i < ds.length) (k : ∀ u d, Dx K H t u d → ds[i.toNat]? = some d → Q u H) : rIx K v (.int i) H Q := by
  obtain ⟨p, vs, rfl, s, a⟩ := h.tuple
  have ek : i = ((i.toNat : Nat) : Int) := by omega
  have hk : i.toNat < ds.length := by omega
  obtain ⟨u, hu, du⟩ := DgAll.at a (List.getElem?_eq_getElem hk)
  refine w_ixT s ?_ (k u _ du (List.getElem?_eq_getElem hk))
  rw [ek]
  exact atI_nat hu
theorem Dx.len {v : V} {ds : List PyData} {Q : VK} (h : Dx K H t v (.tuple ds)) (k : Q (.int ds.length) H) : rLenU K [v] H Q := by
  obtain ⟨p, vs, rfl, s, a⟩ := h.tuple
  rw [← DgAll.length a] at k
  exact w_lenT s k
theorem Dx.list {v : V} {ds : List PyData} {Q : VK} (ht : ∃ o, H t = some o) (h : Dx K H t v (.tuple ds)) (k : ∀ p H', H p = none → Fr [] H H' → Lx K H' t p ds → Q (.ref p) H') : rListU K [v] H Q := by
  obtain ⟨p, vs, rfl, s, a⟩ := h.tuple
  exact w_listT s fun p hp => k p _ hp (Fr.new hp) (lx_new ht hp a)
theorem Lx.tuple' {q : Addr} {ds : List PyData} {Q : VK} (ht : ∃ o, H t = some o) (h : Lx K H t q ds) (k : ∀ p H', Fr [] H H' → Dx K H' t (.ref p) (.tuple ds) → Q (.ref p) H') : rTupleU K [.ref q] H Q := by
  obtain ⟨vs, e, _, a⟩ := h
  exact w_tupleL (SqL.of e) fun p hp => k p _ (Fr.new hp) (tx_new ht hp a)
end
/-- an empty dict away from t -/
theorem dx_dict {K : PySem.W.Frag} {H : Hp} {t p : Addr} {kvs : List (Key × V)} {es : List (PyData × PyData)} (h : H p = some (.dK kvs)) (n : p ≠ t) : Dx K H t (.ref p) (.dict es) := .dct (by rw [wo_at n]; exact h)
/-! ### str of a truth, lists of other lengths -/
section
variable {X : Cx}
def rStrU : List V → Hp → VK → Prop := fun xs H Q => (∃ i, xs = [.int i] ∧ i.natAbs.log2 < 1920 ∧ Q (.str (toString i)) H) ∨ ∃ b : Bool, xs = [.bl b] ∧ Q (.str (if b then "True" else "False")) H
theorem call_str_bl : CallR X (.type "str") (fun xs H Q => ∃ b : Bool, xs = [.bl b] ∧ Q (.str (if b then "True" else "False")) H) := by
  intro pins s σ H xs us Q I rx h
  obtain ⟨b, rfl, q⟩ := h
  cases rx with
  | cons r t =>
  cases t
  cases r
  exact P.str_of_bool ⟨.str (if b then "True" else "False"), H, I.tok _, ⟨_, rfl⟩, q⟩
theorem call_strU : CallR X (.type "str") rStrU := call_str_int.or call_str_bl
def rNeLen : R2 := fun x y H Q => ∃ l m xs ys, x = .ref l ∧ y = .ref m ∧ H l = some (.lst xs) ∧ H m = some (.lst ys) ∧ xs.length ≠ ys.length ∧ Q (.bl true) H
theorem op_neLen (hu : X.A.units + 64 < cLine) : OpR X (compareOp .NotEq) rNeLen := by
  intro pins s σ H x y v u Q I rx ry h
  obtain ⟨l, m, xs, ys, rfl, rfl, hl, hm, n, q⟩ := h
  cases rx
  cases ry
  obtain ⟨_, its, c, v1, g1⟩ := I.hok l _ hl
  obtain ⟨_, its2, c2, v2, g2⟩ := I.hok m _ hm
  refine SeqAt.RcNeAt.lists_lengths ⟨_, g1, rfl, _, rfl⟩ ⟨_, g2, rfl, _, rfl⟩ ?_ (by omega) _ _ _ _ ⟨.bl true, H, I, rfl, q⟩
  rw [List.size_toArray, List.size_toArray, ← Paired.len v1, ← Paired.len v2]
  simpa using n
def rNeUL (K : PySem.W.Frag) : R2 := r2or (rNeU K) rNeLen
theorem op_neUL {K} (hK : X.K = K) (hu : X.A.units + 64 < cLine) : OpR X (compareOp .NotEq) (rNeUL K) := (op_neU hK hu).or (op_neLen hu)
end
/-! ### comprehensions of truths over any data -/
section
variable {K : PySem.W.Frag}
theorem LCB {q : Addr} {H : Hp} {vs : List V} {ds : List PyData} {j : Nat} {ws : List Nat} {σ : L2.St} {te : TE} {Q : VK} (s : SqL K H q vs) (a : DgAll K H vs ds) (ld : ds.length ≤ 100000) (f : PyData → Bool)
    (hw : ∀ x, wipe ((wipe σ ws).set j (some x)) ws = wipe σ ws)
    (he : ∀ d x H', d ∈ ds → Fr [] H H' → Dg K H' x d → ∀ Q : VK, (∀ H2, Fr [] H' H2 → Q (.bl (f d)) H2) → te ((wipe σ ws).set j (some x)) H' Q)
    (k : ∀ D H', H D = none → Fr [] H H' → Lq K H' D ((ds.map f).map PyData.bool) → Q (.ref D) H') :
    ∃ a', V.ref q = .ref a' ∧ (∃ ys, SqL K H a' ys) ∧ ∀ D, H D = none → LC (Itl K a') (gName j) tYes te ws σ D Q (upd H D (.lst [])) := by
  have lu := DgAll.length a
  refine LC_L s fun D hD => LC_by (a := q) (xs := vs) (fun i H' => Fr [] H H' ∧ Lq K H' D (((ds.take i).map f).map PyData.bool)) ⟨Fr.new hD, [], upd_same, .nil⟩ (fun i H' _ h => h.1.seqL s (by simp)) ?_ ?_
  · rintro i x H' hx ⟨f', ys, hys, dys⟩
    obtain ⟨d, h1, h2⟩ := DgAll.get (a.fr f') hx
    have hi : i < vs.length := (List.getElem?_eq_some_iff.mp hx).1
    have ly : ys.length ≤ i := by
      rw [dys.length, List.length_map, List.length_map, List.length_take]
      omega
    refine ⟨hw x, w_yes (iteT ?_)⟩
    refine he d x H' (List.mem_of_getElem? h1) f' h2 _ fun H2 f2 => ?_
    have e3 := f2 _ _ hys (by simp)
    refine ⟨ys, e3, Nat.lt_of_le_of_lt (show ys.length ≤ 100000 by omega) (by decide), Fr.new_mut hD ((f'.trans f2).mono (by simp) |>.trans (Fr.mut (by simp))), _, upd_same, ?_⟩
    rw [List.take_add_one, h1, List.map_append, List.map_append]
    exact ((dys.mono f2.tu).append (.cons (.bl _) .nil)).mono (Tu.mut e3)
  · rintro H' ⟨f', L⟩
    rw [lu, List.take_length] at L
    exact k D H' hD f' L
theorem LCBT {q : Addr} {H : Hp} {vs : List V} {ds : List PyData} {j : Nat} {ws : List Nat} {σ : L2.St} {te : TE} {Q : VK} (s : SqT K H q vs) (a : DgAll K H vs ds) (ld : ds.length ≤ 100000) (f : PyData → Bool)
    (hw : ∀ x, wipe ((wipe σ ws).set j (some x)) ws = wipe σ ws)
    (he : ∀ d x H', d ∈ ds → Fr [] H H' → Dg K H' x d → ∀ Q : VK, (∀ H2, Fr [] H' H2 → Q (.bl (f d)) H2) → te ((wipe σ ws).set j (some x)) H' Q)
    (k : ∀ D H', H D = none → Fr [] H H' → Lq K H' D ((ds.map f).map PyData.bool) → Q (.ref D) H') :
    ∃ a', V.ref q = .ref a' ∧ (∃ ys, SqT K H a' ys) ∧ ∀ D, H D = none → LC (Itt K a') (gName j) tYes te ws σ D Q (upd H D (.lst [])) := by
  have lu := DgAll.length a
  refine LC_T s fun D hD => ?_
  refine lc_it (walk_tup (K := K) (a := q) (xs := vs)) (fun i H' => Fr [] H H' ∧ Lq K H' D (((ds.take i).map f).map PyData.bool)) ⟨Fr.new hD, [], upd_same, .nil⟩ (fun i H' _ h => h.1.seqT s (by simp)) ?_ ?_
  · rintro i x H0' H' hi ⟨f', ys, hys, dys⟩ ⟨rfl, hx⟩
    obtain ⟨d, h1, h2⟩ := DgAll.get (a.fr f') hx
    have ly : ys.length ≤ i := by
      rw [dys.length, List.length_map, List.length_map, List.length_take]
      omega
    refine ⟨hw x, w_yes (iteT ?_)⟩
    refine he d x _ (List.mem_of_getElem? h1) f' h2 _ fun H2 f2 => ?_
    have e3 := f2 _ _ hys (by simp)
    refine ⟨ys, e3, Nat.lt_of_le_of_lt (show ys.length ≤ 100000 by omega) (by decide), Fr.new_mut hD ((f'.trans f2).mono (by simp) |>.trans (Fr.mut (by simp))), _, upd_same, ?_⟩
    rw [List.take_add_one, h1, List.map_append, List.map_append]
    exact ((dys.mono f2.tu).append (.cons (.bl _) .nil)).mono (Tu.mut e3)
  · rintro H' ⟨f', L⟩
    rw [lu, List.take_length] at L
    exact k D H' hD f' L
end
end U

/-! sorted(a dict), sorted(its items), sorted(a list), of data -/
namespace U
open PySem PySem.Spec PyProof.Rows L2
mutual
/-- tuples all the way down -/
def kdb : PyData → Bool
  | .none => true
  | .bool _ => true
  | .int _ => true
  | .str _ => true
  | .tuple ds => kdbAll ds
  | _ => false
def kdbAll : List PyData → Bool
  | [] => true
  | d :: r => kdb d && kdbAll r
end
mutual
theorem Dt.kdb {K : PySem.W.Frag} {H : Hp} : ∀ {v : V} {d : PyData}, Dt K H v d → U.kdb d = true
  | _, _, .non => rfl
  | _, _, .bl _ => rfl
  | _, _, .int _ => rfl
  | _, _, .str _ => rfl
  | _, _, .tup _ a => by rw [U.kdb]; exact DtAll.kdb a
theorem DtAll.kdb {K : PySem.W.Frag} {H : Hp} : ∀ {vs : List V} {ds : List PyData}, DtAll K H vs ds → kdbAll ds = true
  | _, _, .nil => rfl
  | _, _, .cons a b => by rw [kdbAll, Dt.kdb a, DtAll.kdb b]; rfl
end
mutual
theorem reads_nil {h : Heap} : ∀ {u : Value} {d : PyData} {as : List Addr}, Reads h u d as → kdb d = true → as = []
  | _, _, _, .none, _ => rfl
  | _, _, _, .bool b, _ => rfl
  | _, _, _, .int i t, _ => rfl
  | _, _, _, .str x t, _ => rfl
  | _, _, _, .list _ _ _ _, k => by simp [kdb] at k
  | _, _, _, .tuple g c e a, k => readsAll_nil a (by simpa [kdb] using k)
  | _, _, _, .dict _ _ _ _ _, k => by simp [kdb] at k
theorem readsAll_nil {h : Heap} : ∀ {us : List Value} {ds : List PyData} {as : List Addr}, ReadsAll h us ds as → kdbAll ds = true → as = []
  | _, _, _, .nil, _ => rfl
  | _, _, _, .cons a b, k => by
    simp only [kdbAll, Bool.and_eq_true] at k
    rw [reads_nil a k.1, readsAll_nil b k.2]
    rfl
end
theorem each_of {α β : Type} {F : α → β → Prop} : ∀ {xs : List α} {ys : List β}, Paired F xs ys → PySem.W.EachIs F xs ys
  | _, _, .nil => .nil
  | _, _, .cons a b => .cons a (each_of b)
theorem of_each {α β : Type} {F : α → β → Prop} : ∀ {xs : List α} {ys : List β}, PySem.W.EachIs F xs ys → Paired F xs ys
  | _, _, .nil => .nil
  | _, _, .cons a b => .cons a (of_each b)
/-- a value in the heap and its data -/
def IsD (K : PySem.W.Frag) (H : Hp) {β : Type} (enc : β → PyData) (u : Value) (b : β) : Prop := ∃ v, RelV v u ∧ Dt K H v (enc b)
theorem vals_of {K : PySem.W.Frag} {H : Hp} {β : Type} {enc : β → PyData} : ∀ {us : List Value} {bs : List β}, Paired (IsD K H enc) us bs → ∃ ys, Vals ys us ∧ DtAll K H ys (bs.map enc)
  | _, _, .nil => ⟨[], .nil, .nil⟩
  | _, _, .cons ⟨v, r, d⟩ b => by
    obtain ⟨ys, h1, h2⟩ := vals_of b
    exact ⟨v :: ys, .cons r h1, .cons d h2⟩
section
variable {X : Cx} {pins : List (Addr × Obj)} {σ : L2.St} {H : Hp} {s : Shared}
theorem get_lt {h : Heap} {b : Addr} {o : Obj} (e : h.get? b = some o) : b < h.objs.size := by
  by_cases n : b < h.objs.size
  · exact n
  · exfalso
    unfold Heap.get? at e
    rw [Array.getElem?_eq_none (Nat.le_of_not_lt n)] at e
    cases e
/-- the sort of a list that was just made, all that stood stands -/
theorem sort_new {β : Type} {bs : List β} {enc : β → PyData} {us : List Value} {h' : Heap} {tk : Nat} {A : Around} {Q : Value → Shared → Prop} {E : Value → Shared → Prop} (I : Inv X pins σ H s)
    (old : ∀ (b : Addr) (o : Obj), s.heap.get? b = some o → h'.get? b = some o) (grow : s.heap.objs.size ≤ h'.objs.size)
    (h : Paired (IsD X.K H enc) us bs) (al : PySem.W.AllAlike (bs.map enc)) (so : PySem.W.Sortable (bs.map enc)) (n : bs.length ≤ 100000)
    (hu : A.units + 65 < cLine) (dp : ∀ b ∈ bs, (enc b).depth ≤ 10)
    (q : ∀ (p : Addr) (s' : Shared) (H' : Hp), H p = none → Fr [] H H' → Inv X pins σ H' s' → Lq X.K H' p ((bs.mergeSort (PySem.W.dataLe false enc)).map enc) → Q (.ref p) s') :
    wpAny (model X.prog X.w) A (call (.builtin "list.sort") [.ref h'.objs.size]) (fun _ s' => Q (.ref h'.objs.size) s') E { s with heap := h'.push { cls := .type "list", data := .seq us.toArray }, toks := tk } := by
  have hg : (h'.push { cls := .type "list", data := .seq us.toArray }).get? h'.objs.size = some (seqObj "list" us.toArray 0) := Heap.get?_push_size _ rfl
  have hp : H h'.objs.size = none := HOk.fresh I.hok grow
  have lsz : ∀ (b : Addr) (o : Obj), s.heap.get? b = some o → b ≠ h'.objs.size ∧ b < (h'.push { cls := Value.type "list", data := .seq us.toArray }).objs.size := fun b o hb => by
    have := get_lt (old b o hb)
    refine ⟨Nat.ne_of_lt this, ?_⟩
    show b < (h'.objs.push _).size
    rw [Array.size_push]
    exact Nat.lt_succ_of_lt this
  obtain ⟨xs, vx, dx⟩ := vals_of h
  have lx : xs.length = bs.length := by
    rw [Paired.len vx, Paired.len h]
  have I1 : Inv X pins σ (upd H h'.objs.size (.lst xs)) { s with heap := h'.push { cls := .type "list", data := .seq us.toArray }, toks := tk } := I.laid (fun b o hb => by
    rw [Heap.get?_push_ne _ _ _ (lsz b o hb).1]
    exact old b o hb) grow ⟨by rw [lx]; exact Nat.le_trans n (by decide), us, 0, vx, hg⟩
  refine PySem.W.list_sort_data (n := 0) (R := IsD X.K H enc) (bs := bs) (enc := enc) (vs := us) hg (each_of h) (each_of (Paired.imp (fun u b z => ?_) h)) al so (Nat.le_trans n (by decide)) (fun b hb => by have := dp b hb; omega) fun out lo eo => ?_
  · obtain ⟨v, rv, d⟩ := z
    obtain ⟨as, r⟩ := Dp.reads I1 (enc b) v u (d.mono (Tu.new hp)).dp rv
    exact ⟨as, r, by rw [reads_nil r d.kdb]; simp⟩
  · obtain ⟨ys, vy, dy⟩ := vals_of (of_each eo)
    obtain ⟨e, he⟩ := sortedHeap_at (out := out.toArray) hg
    refine q h'.objs.size _ (upd H h'.objs.size (.lst ys)) hp (Fr.new hp) (I.laid (fun b o hb => ?_) grow ⟨?_, out, e, vy, he⟩) ⟨ys, upd_same, dy.mono (Tu.new hp)⟩
    · obtain ⟨n1, n2⟩ := lsz b o hb
      rw [sortedHeap_old n1 n2, Heap.get?_push_ne _ _ _ n1]
      exact old b o hb
    · have : ys.length = out.length := Paired.len vy
      rw [this, lo]
      exact Nat.le_trans n (by decide)
end
section
variable {α : Type} [DecidableEq α] {X : Cx} {P : Program} {w : World} {K : PySem.W.Frag} {dS : α → PyData}
/-- data in a row that can be sorted: tuples, none of them empty, alike place by place -/
def Sorty (ds : List PyData) : Prop := PySem.W.AllAlike ds ∧ PySem.W.Sortable ds
def rSortKN (P : Program) (w : World) (K : PySem.W.Frag) (dS : α → PyData) : List V → Hp → VK → Prop := fun xs H Q => ∃ (d : Addr) (kvs : List (α × V)), xs = [.ref d] ∧ DN P w K dS H d kvs ∧ kvs.length ≤ 100000 ∧ Sorty ((kvs.map (·.1)).map dS) ∧
  ∀ p H', H p = none → Fr [] H H' → Lq K H' p (((kvs.map (·.1)).mergeSort (PySem.W.dataLe false dS)).map dS) → Q (.ref p) H'
theorem Paired.flip {α β : Type} {F : α → β → Prop} : ∀ {xs : List α} {ys : List β}, Paired F xs ys → Paired (fun y x => F x y) ys xs
  | _, _, .nil => .nil
  | _, _, .cons a b => .cons a (Paired.flip b)
theorem paired_at {α β : Type} {F : α → β → Prop} : ∀ {xs : List α} {ys : List β}, xs.length = ys.length → (∀ (i : Nat) (x : α) (y : β), xs[i]? = some x → ys[i]? = some y → F x y) → Paired F xs ys
  | [], [], _, _ => .nil
  | [], _ :: _, h, _ => by simp at h
  | _ :: _, [], h, _ => by simp at h
  | x :: xs, y :: ys, h, k => .cons (k 0 x y rfl rfl) (paired_at (by simpa using h) fun i a b ha hb => k (i + 1) a b (by simpa using ha) (by simpa using hb))
theorem Paired.at {α β : Type} {F : α → β → Prop} : ∀ {xs : List α} {ys : List β}, Paired F xs ys → ∀ {i : Nat} {x : α}, xs[i]? = some x → ∃ y, ys[i]? = some y ∧ F x y
  | _, _, h, i, x, hx => Paired.get (Paired.flip h) hx
theorem call_sortedKN (D : KeyD dS) (hc : X.calm = true) (hu : X.A.units + 70 < cLine) : CallR X (.builtin "sorted") (rSortKN X.prog X.w X.K dS) := by
  intro pins s σ H xs us Q I rx h
  obtain ⟨d, kvs, rfl, hd, n, so, q⟩ := h
  cases rx with
  | cons r t =>
  cases t
  cases r
  obtain ⟨ks, ⟨o, es, ep, ho, hex, hda, hl, hi, hn⟩, pr, ns, m⟩ := hd.heap D I
  have sz : es.size = kvs.length := by rw [← Array.length_toList, hl, List.length_map, Paired.len pr]
  refine Calls.call_function_entry kind_sorted plain_sorted entry_sorted (args_sorted1 _) ?_
  show wpAny _ _ (do
    let vs ← collect (.ref d)
    let l ← newList vs
    let _ ← holding [l] (call (.builtin "list.sort") [l] [])
    ret l) _ _ _
  refine wpAny_bind (PySem.W.kdu_collect (KdlSrc.rawDict (prog := X.prog) (w := X.w) (es := es) (ep := ep) ns) (I.ok.hd hc) ⟨o, ho, hex, hda⟩ (by rw [sz]; exact Nat.le_trans n (by decide)) fun h' tk acc old its => ?_)
  have la : acc.size = kvs.length := its.1.trans sz
  have hk : Paired (IsD X.K H dS) acc.toList (kvs.map (·.1)) := by
    refine paired_at (by rw [Array.length_toList, List.length_map, la]) fun i x y hx hy => ?_
    rw [Array.getElem?_toList] at hx
    obtain ⟨hi', rfl⟩ := its.2 i x hx
    rw [List.getElem?_map] at hy
    cases ek : kvs[i]? with
    | none => rw [ek] at hy; cases hy
    | some kv =>
      rw [ek] at hy
      cases hy
      obtain ⟨e, he, rk⟩ := Paired.at pr ek
      have h3 : es.toList[i]? = some (entryOfKey (nestedKind X.prog X.w) e) := by rw [hl, List.getElem?_map, he]; rfl
      rw [Array.getElem?_toList, Array.getElem?_eq_getElem hi'] at h3
      rw [Option.some.inj h3]
      exact ⟨.ref e.2.1, rfl, rk.1⟩
  have I2 := I.turnedL (ch := []) (t' := tk) (fun b o _ hb => old b o hb) (fun b hb => by simp at hb)
  refine wpAny_bind (wpAny_newList ?_ (by rw [Array.length_toList, la]; exact Nat.le_trans n (by decide)))
  refine wpAny_bind (wpAny_holding ?_)
  have hu' : X.A.in1.units + 65 < cLine := by
    show X.A.units + 1 + 65 < cLine
    omega
  refine sort_new (bs := kvs.map (·.1)) (enc := dS) (us := acc.toList) (Q := fun v s' => wpAny (model X.prog X.w) X.A.in1 (ret v) _ _ s') I2 (fun _ _ z => z) (Nat.le_refl _) hk so.1 so.2 (by rw [List.length_map]; exact n) hu' (fun b _ => Nat.le_trans (D.dp b) (by decide)) fun p s' H' np f' I' L' => ?_
  exact wpAny_of_eq rfl ⟨_, rfl, .ref p, H', I', rfl, q p H' np f' L'⟩
theorem call_sortedKNU (D : KeyD dS) (hP : X.prog = P) (hw : X.w = w) (hK : X.K = K) (hc : X.calm = true) (hu : X.A.units + 70 < cLine) : CallR X (.builtin "sorted") (rSortKN P w K dS) := by subst hP hw hK; exact call_sortedKN D hc hu
/-- sorted(a list of data) -/
def rSortL (K : PySem.W.Frag) : List V → Hp → VK → Prop := fun xs H Q => ∃ (l : Addr) (ds : List PyData), xs = [.ref l] ∧ Lq K H l ds ∧ ds.length ≤ 100000 ∧ Sorty ds ∧ (∀ d ∈ ds, d.depth ≤ 10) ∧
  ∀ p H', H p = none → Fr [] H H' → Lq K H' p (ds.mergeSort (PySem.W.dataLe false id)) → Q (.ref p) H'
/-- d.get(k, x) -/
def rGetN (P : Program) (w : World) (K : PySem.W.Frag) (dS : α → PyData) : V → List V → Hp → VK → Prop := fun x vs H Q => ∃ (d a : Addr) (kvs : List (α × V)) (k : α) (z : V), x = .ref d ∧ vs = [.ref a, z] ∧ DN P w K dS H d kvs ∧ Dt K H (.ref a) (dS k) ∧ Q ((atN kvs k).getD z) H
theorem mt_getN (D : KeyD dS) (hu : X.A.units + 65 < cLine) : MtR X "dict.get" (rGetN X.prog X.w X.K dS) := by
  intro pins s σ H x vs v us Q I rx rvs h
  obtain ⟨d, a, kvs, k, z, rfl, rfl, hd, hk, q⟩ := h
  cases rx
  cases rvs with
  | cons ra rvs =>
  cases rvs with
  | cons rz rvs =>
  cases rvs
  cases ra
  obtain ⟨xs, hD, pr, ns, m⟩ := hd.heap D I
  obtain ⟨o, es, ep, ho, hex, _⟩ := id hD
  refine call_meetsIn F.slot_dict_get ⟨o, ho, hex.1⟩ F.entry_dict_get (F.args_dict_get_3 _ _ _) (meetsH_dict_get_default (nestedKind X.prog X.w) d a ns _) ?_
  refine ⟨roomN hu, U.nk (dS k), xs, D.is I hk, hD, ?_⟩
  rcases at_paired D k pr with ⟨e, f⟩ | ⟨v', p, u, e, f, r⟩
  · rw [f]
    rw [e] at q
    exact ⟨z, H, I.tok _, rz, q⟩
  · rw [f]
    rw [e] at q
    exact ⟨v', H, I.tok _, r, q⟩
theorem mt_getNU (D : KeyD dS) (hP : X.prog = P) (hw : X.w = w) (hK : X.K = K) (hu : X.A.units + 65 < cLine) : MtR X "dict.get" (rGetN P w K dS) := by subst hP hw hK; exact mt_getN D hu
theorem w_getN {H : Hp} {Q : VK} {a d : Addr} {kvs : List (α × V)} {k : α} {z : V} (hd : DN P w K dS H d kvs) (hk : Dt K H (.ref a) (dS k)) (q : Q ((atN kvs k).getD z) H) : rGetN P w K dS (.ref d) [.ref a, z] H Q := ⟨d, a, kvs, k, z, rfl, rfl, hd, hk, q⟩
end
theorem u1 {A : Around} {k : Nat} (hr : Room k A) : A.units + 1 < cLine := by have := hr.un; omega
theorem w_dget {σ : L2.St} {H : Hp} {td ty : TE} {Q : VK} (q : td σ H fun x H1 => ty σ H1 fun y H2 => ∃ a v, x = V.ref a ∧ DGet H2 a y (some v) ∧ Q v H2) : tDGet td ty σ H Q := q
theorem pi_zipU {X : Cx} {K} {e e2 : Expr} {ta : TA} {p pos tpos : Pos} {elts : List Expr} {kk : Nat} (hK : X.K = K) (hg : Gl X "zip") (hm : X.mg "zip" = none) (ha : PA X [e, e2] ta)
    (h1 : starEach [e, e2] X.env = (false, eval e X.env) :: starEach [e2] X.env := by rfl) (h2 : ((backTo pos (starEach [e2] X.env)).any fun x => x.1) = false := by rfl) :
    PI X (.Tuple elts kk tpos) (.Call (.Name "zip" p) [e, e2] [] pos) (iZip K ta) := by subst hK; exact pi_zip hg hm ha h1 h2
theorem w_iZip {K} {σ : L2.St} {H : Hp} {ta : TA} {R : It → Hp → Prop} (q : ta σ H fun vs H1 => ∃ a b xs ys, vs = [V.ref a, V.ref b] ∧ SqL K H1 a xs ∧ SqL K H1 b ys ∧ R (Itz K a b) H1) : iZip K ta σ H R := q
end U

/-! dicts keyed by nested tuples: setdefault, walks over keys and values -/
namespace U
open PySem PySem.Spec PyProof.Rows L2
section
variable {α : Type} [DecidableEq α] {X : Cx} {P : Program} {w : World} {K : PySem.W.Frag} {dS : α → PyData}
def rSetdN (P : Program) (w : World) (K : PySem.W.Frag) (dS : α → PyData) : V → List V → Hp → VK → Prop := fun x vs H Q => ∃ (d a : Addr) (kvs : List (α × V)) (k : α) (y : V), x = .ref d ∧ vs = [.ref a, y] ∧ DN P w K dS H d kvs ∧ Dt K H (.ref a) (dS k) ∧ kvs.length ≤ 100000 ∧
  (∀ v, atN kvs k = some v → Q v H) ∧ (atN kvs k = none → ∀ H', Fr [d] H H' → Tu H H' → DN P w K dS H' d (putN kvs k y) → Q y H')
theorem mt_setdN (D : KeyD dS) (hu : X.A.units + 65 < cLine) : MtR X "dict.setdefault" (rSetdN X.prog X.w X.K dS) := by
  intro pins s σ H x vs v us Q I rx rvs h
  obtain ⟨d, a, kvs, k, y, rfl, rfl, hd, hk, n, q1, q2⟩ := h
  cases rx
  obtain ⟨_, u, ra, ry, rfl⟩ : ∃ u u', RelV (.ref a) u ∧ RelV y u' ∧ us = [u, u'] := by
    cases rvs with
    | cons r t =>
      cases t with
      | cons r2 t2 =>
        cases t2
        exact ⟨_, _, r, r2, rfl⟩
  cases ra
  obtain ⟨xs, hD, pr, ns, m⟩ := hd.heap D I
  obtain ⟨o, es, ep, ho, hex, _⟩ := id hD
  refine call_meetsIn F.slot_dict_setdefault ⟨o, ho, hex.1⟩ F.entry_dict_setdefault (F.args_dict_setdefault_3 _ _ _) (meetsH_dict_setdefault (nestedKind X.prog X.w) d a ns u) ?_
  refine ⟨roomN hu, nk (dS k), xs, D.is I hk, hD, by rw [← Paired.len pr]; exact Nat.le_trans n (by decide), fun p hp => ?_, fun hn h' hD' sb => ?_⟩
  · rcases at_paired D k pr with ⟨e, f⟩ | ⟨v', p', u', e, f, r⟩
    · rw [f] at hp; cases hp
    · rw [f] at hp
      cases hp
      exact ⟨v', H, I.tok _, r, q1 v' e⟩
  · rcases at_paired D k pr with ⟨e, f⟩ | ⟨v', p', u', e, f, r⟩
    · obtain ⟨H', I', f', t, d'⟩ := DN.write I hd ns m hD' sb (put_paired D hk ry pr)
      exact ⟨y, H', I', ry, q2 e H' f' t d'⟩
    · rw [f] at hn; cases hn
theorem mt_setdNU (D : KeyD dS) (hP : X.prog = P) (hw : X.w = w) (hK : X.K = K) (hu : X.A.units + 65 < cLine) : MtR X "dict.setdefault" (rSetdN P w K dS) := by subst hP hw hK; exact mt_setdN D hu
theorem w_setdN {H : Hp} {Q : VK} {a d : Addr} {kvs : List (α × V)} {k : α} {y : V} (hd : DN P w K dS H d kvs) (hk : Dt K H (.ref a) (dS k)) (n : kvs.length ≤ 100000) (q1 : ∀ v, atN kvs k = some v → Q v H) (q2 : atN kvs k = none → ∀ H', Fr [d] H H' → Tu H H' → DN P w K dS H' d (putN kvs k y) → Q y H') : rSetdN P w K dS (.ref d) [.ref a, y] H Q := ⟨d, a, kvs, k, y, rfl, rfl, hd, hk, n, q1, q2⟩
/-! ### values -/
def valsO (p d : Addr) : HO := .ext fun h => h.IsValuesView p d
theorem valsO_ok {H : Hp} {h : Heap} {p d : Addr} (e : h.get? p = some { cls := .type "dict_values", data := .fields #[.ref d] }) : ObjOk P w H h p (valsO p d) :=
  ⟨⟨_, e, rfl, rfl⟩, ⟨_, e⟩, fun h1 h2 x k => let ⟨o, ho, r⟩ := x; ⟨o, k o ho, r⟩⟩
def rValsN (P : Program) (w : World) (K : PySem.W.Frag) (dS : α → PyData) : V → List V → Hp → VK → Prop := fun x vs H Q => ∃ (d : Addr) (kvs : List (α × V)), x = .ref d ∧ vs = [] ∧ DN P w K dS H d kvs ∧ ∀ p, H p = none → Q (.ref p) (upd H p (valsO p d))
theorem mt_valsN (D : KeyD dS) : MtR X "dict.values" (rValsN X.prog X.w X.K dS) := by
  intro pins s σ H x vs v us Q I rx rvs h
  obtain ⟨d, kvs, rfl, rfl, hd, q⟩ := h
  cases rx
  cases rvs
  obtain ⟨xs, ⟨o, es, ep, ho, hex, hda, _⟩, _, ns, _⟩ := hd.heap D I
  refine call_meetsIn F.slot_dict_values ⟨o, ho, hex.1⟩ F.entry_dict_values (F.args_dict_values_1 _) (meets_dict_values_raw d ns) ⟨⟨es, ep, o, ho, hex, hda⟩, ?_⟩
  have hp := I.fresh
  have hg : Heap.get? (Heap.push s.heap { cls := Value.type "dict_values", data := Data.fields #[Value.ref d] }) s.heap.objs.size = some { cls := Value.type "dict_values", data := Data.fields #[Value.ref d] } := Heap.get?_push_size _ rfl
  refine ⟨.ref _, _, I.laid (a := s.heap.objs.size) (o := valsO s.heap.objs.size d) (fun b u hb => ?_) (Nat.le_refl _) (valsO_ok hg), rfl, q _ hp⟩
  rw [Heap.get?_push_ne]
  · exact hb
  · rintro rfl
    exact get_size hb
/-- the turns over its values -/
def ItV (d : Addr) (o : Obj) (vs : List V) : It where
  go i H := H d = some (atO d o) ∧ i < vs.length
  yld i H x H' := H' = H ∧ vs[i]? = some x
  stop i H := H d = some (atO d o) ∧ i = vs.length
theorem turn_valsN {tg : Expr} {d it : Addr} {o : Obj} {es : Array DictEntry} {ep : Nat} {vs : List V} (hex : o.ExactDict) (hda : o.data = .dict es ep) (hk : Paired (fun (v : V) (e : DictEntry) => RelV v e.val) vs es.toList) :
    Turn P w K tg (ItV d o vs) [it] it fun i h => h.IsValIter it d i es.size ep where
  mem := by simp
  obj := fun i h st b hb => by
    have e : b = it := by simpa using hb
    subst e
    obtain ⟨oi, e, c, dd⟩ := st
    exact ⟨oi, e, fun v z => by rw [dd] at z; cases z⟩
  keep := fun i h h' st k => st.at fun oi e => k it (by simp) oi e
  item := by
    rintro X rfl rfl rfl hc i pins s σ H E I hf st ⟨hd, hi⟩
    obtain ⟨ho, _⟩ := I.hok d _ hd
    obtain ⟨f0, f1, f2, f3, f4, f5⟩ := hf it (by simp)
    have raw : Heap.DictRaw s.heap d es ep := ⟨o, ho, hex, hda⟩
    have sz : vs.length = es.size := by rw [Paired.len hk, Array.length_toList]
    have hi2 : i < es.size := by omega
    obtain ⟨v, hv, rv⟩ := Paired.get hk (i := i) (y := es[i]) (by rw [Array.getElem?_toList, Array.getElem?_eq_getElem hi2])
    refine wpAny_pyNext_values_item_raw st raw hi2 fun h' st' sb => ?_
    have I1 : Inv X pins σ H { s with heap := h' } := I.turned (t' := s.toks) (fun b ob hb e => (sb.2 b hb).trans e) f0 f1 f3 f4 f5
    obtain ⟨oi, e, c, dd⟩ := id st'
    exact ⟨es[i].val, rfl, go_of (s := { s with heap := h' }) e c dd (by decide) ⟨v, H, I1, rv, ⟨rfl, hv⟩, st', fun b hb => (hf b hb).1⟩⟩
  done := by
    rintro X rfl rfl rfl hc i pins s σ H E I hf st ⟨hd, hi⟩
    obtain ⟨ho, _⟩ := I.hok d _ hd
    obtain ⟨f0, f1, f2, f3, f4, f5⟩ := hf it (by simp)
    have raw : Heap.DictRaw s.heap d es ep := ⟨o, ho, hex, hda⟩
    have sz : vs.length = es.size := by rw [Paired.len hk, Array.length_toList]
    exact wpAny_pyNext_values_end_raw (I.ok.hd hc) st raw (by omega) fun h' eb => ⟨rfl, I.turned (t' := s.toks) (fun b ob hb e => eb b ob hb e) f0 f1 f3 f4 f5⟩
  self := fun A i s Q E st h => wpAny_pyIter_valiter st h
theorem walk_valsN {d : Addr} {o : Obj} {vs : List V} : Walk (ItV d o vs) vs.length (fun H => H d = some (atO d o)) (fun i H x H' => H' = H ∧ vs[i]? = some x) :=
  ⟨fun _ _ hi q => ⟨q, hi⟩, fun _ q => ⟨q, rfl⟩, fun _ _ _ _ _ _ y => y⟩
def VALS (P : Program) (w : World) (K : PySem.W.Frag) (dS : α → PyData) (R : It → Hp → Prop) (x : V) (H1 : Hp) : Prop := dictN P w K dS x H1 ∧ rValsN P w K dS x [] H1 fun v H' => ∃ (p d : Addr) (kvs : List (α × V)), v = .ref p ∧ H' p = some (valsO p d) ∧ DN P w K dS H' d kvs ∧
  ∀ H2 o, Fr [d] H' H2 → Tu H' H2 → H2 d = some (atO d o) → R (ItV d o (kvs.map (·.2))) H2
theorem VALS.of {R : It → Hp → Prop} {H1 : Hp} {d : Addr} {kvs : List (α × V)} (hd : DN P w K dS H1 d kvs) (k : ∀ H2 o, Fr [d] H1 H2 → Tu H1 H2 → H2 d = some (atO d o) → R (ItV d o (kvs.map (·.2))) H2) : VALS P w K dS R (.ref d) H1 :=
  ⟨⟨d, kvs, rfl, hd⟩, d, kvs, rfl, rfl, hd, fun p hp => ⟨p, d, kvs, rfl, upd_same, hd.fr0 (Fr.new hp), fun H2 o f t h1 => k H2 o (Fr.trans (Fr.new hp) f) ((Tu.new hp).trans t) h1⟩⟩
def iValsN (P : Program) (w : World) (K : PySem.W.Frag) (dS : α → PyData) (te : TE) : TI := fun σ H R => te σ H fun x H1 => VALS P w K dS R x H1
theorem w_iValsN {σ : L2.St} {H : Hp} {te : TE} {R : It → Hp → Prop} (q : te σ H fun x H1 => VALS P w K dS R x H1) : iValsN P w K dS te σ H R := q
theorem valsN_of {H : Hp} : ∀ {kvs : List (α × V)} {xs : List (NestedKey × Addr × Value)}, Paired (RkN K H dS) kvs xs → Paired (fun (v : V) (e : DictEntry) => RelV v e.val) (kvs.map (·.2)) (xs.map (entryOfKey (nestedKind P w)))
  | _, _, .nil => .nil
  | _, _, .cons r b => .cons r.2.2 (valsN_of b)
theorem pi_valsN {e tg : Expr} {te : TE} {apos cpos : Pos} (D : KeyD dS) (hP : X.prog = P) (hw : X.w = w) (hK : X.K = K) (he : PE X e te) (hb : attributeBase e "values" X.env (eval e X.env) = eval e X.env := by rfl) (hl : (apos.endLine == cpos.line) = true := by rfl) :
    PI X tg (.Call (.Attribute e "values" apos) [] [] cpos) (iValsN P w K dS te) := by
  subst hP hw hK
  have P1 : PE X (.Call (.Attribute e "values" apos) [] [] cpos) (tMG0 (dictN X.prog X.w X.K dS) (rValsN X.prog X.w X.K dS) te) := pe_mG0 (ty_N D) F.plainAttrs_dict F.slot_dict_values F.type_dict_values (mt_valsN D) he hb hl
  refine ⟨fun pins s σ H R I q => ?_⟩
  refine wpAny_mono (P1.run pins s σ H _ I q) ?_ fun _ _ z => z
  · rintro v s1 ⟨v', H1, I1, rv, p, d, kvs, rfl, hp, hd, k⟩
    cases rv
    have hv : Heap.IsValuesView s1.heap p d := (I1.hok p _ hp).1
    obtain ⟨xs, ⟨o, es, ep, ho, hex, hda, hl, hi, hn⟩, pr, ns, m⟩ := hd.heap D I1
    have raw : Heap.DictRaw s1.heap d es ep := ⟨o, ho, hex, hda⟩
    refine wpAny_pyIter_values_raw hv raw ?_
    have t := Tu.dn hd (atO d o)
    have I2 : Inv X pins σ (upd H1 d (atO d o)) { s1 with toks := s1.toks } := I1.write m (.inl rfl) (fun b u hb hu => hu) ⟨o, ho⟩ ⟨ho, ⟨o, ho⟩, fun h1 h2 e f => f _ e⟩
    have k2 := valsN_of (P := X.prog) (w := X.w) pr
    rw [← hl] at k2
    have hfr : (upd H1 d (atO d o)) s1.heap.objs.size = none := I2.fresh
    refine ⟨s1.heap.objs.size, [s1.heap.objs.size], _, ItV d o (kvs.map (·.2)), upd H1 d (atO d o), rfl, I2.turnedL (ch := []) (fun b u _ hb => ?_) (fun b hb => by simp at hb), turn_valsN (es := es) (ep := ep) hex hda k2, ⟨_, Heap.get?_push_size _ rfl, rfl, rfl⟩, fun b hb => ?_, k _ o (Fr.mut (by simp)) t upd_same⟩
    · rw [Heap.get?_push_ne]
      · exact hb
      · rintro rfl
        exact get_size hb
    · rw [List.mem_singleton.mp hb]
      exact I2.fpOk (Nat.le_refl _) hfr
end
end U

/-! plain tuples, dict(a tuple of pairs), dicts keyed by None, numbers, texts; sorted(a list), sorted(items) -/
namespace U
open PySem PySem.Spec PyProof.Rows L2
/-! ### tuples of which it is known that they bear nothing else -/
def tfz (us : List Value) : Obj := { cls := .type "tuple", data := .seq us.toArray }
def PTup (H : Hp) (a : Addr) (xs : List V) : Prop := ∃ us, H a = some (.frz (tfz us) (.tup xs))
theorem PTup.sq {K : PySem.W.Frag} {H : Hp} {a : Addr} {xs : List V} (h : PTup H a xs) : SqT K H a xs := by
  obtain ⟨us, e⟩ := h
  exact .inl (.inr ⟨_, e⟩)
theorem PTup.fr {S : List Addr} {H H' : Hp} {a : Addr} {xs : List V} (h : PTup H a xs) (f : Fr S H H') (n : a ∉ S) : PTup H' a xs := by
  obtain ⟨us, e⟩ := h
  exact ⟨us, f _ _ e n⟩
section
variable {X : Cx}
def MkTP (xs : List V) (Q : VK) : Hp → Prop := fun H => xs.length ≤ sizeLine ∧ ∀ (p : Addr) (us : List Value), H p = none → Q (.ref p) (upd H p (.frz (tfz us) (.tup xs)))
def tTupP (ta : TA) : TE := fun σ H Q => ta σ H fun xs H1 => MkTP xs Q H1
theorem pe_tupP {es : List Expr} {t : TA} {x1 : Nat} {pos : Pos} (h : PA X es t) : PE X (.Tuple es x1 pos) (tTupP t) := by
  refine ⟨fun pins s σ H Q I hq => ?_⟩
  refine wpAny_Tuple_spliced (thn (h.run pos pins s σ H _ I hq) fun us s1 ⟨xs, H1, I1, r, z, q⟩ => ⟨by rw [← r.length]; exact z, ?_⟩)
  have hf : H1 s1.heap.objs.size = none := I1.hok.fresh (Nat.le_refl _)
  refine ⟨.ref s1.heap.objs.size, upd H1 s1.heap.objs.size (.frz (tfz us) (.tup xs)), I1.laid (t' := s1.toks) (fun b u e => Heap.get?_push_of_some _ e) (Nat.le_refl _) ?_, rfl, q _ us hf⟩
  exact ⟨Heap.get?_push_size _ rfl, z, us, r, ⟨_, Heap.get?_push_size _ rfl, rfl, _, rfl⟩⟩
theorem w_tupP {σ : L2.St} {H : Hp} {ta : TA} {Q : VK} (q : ta σ H fun xs H1 => MkTP xs Q H1) : tTupP ta σ H Q := q
def rTupleP (K : PySem.W.Frag) : List V → Hp → VK → Prop := fun xs H Q => ∃ p ys, xs = [.ref p] ∧ SqL K H p ys ∧ ∀ (l : Addr) (us : List Value), H l = none → Q (.ref l) (upd H l (.frz (tfz us) (.tup ys)))
theorem call_tupleP : CallR X (.type "tuple") (rTupleP X.K) := by
  intro pins s σ H xs us Q I r h
  obtain ⟨p, ys, rfl, hq, q⟩ := h
  obtain ⟨u, rfl, rx⟩ := vals1 r
  cases rx
  obtain ⟨its, r', pl, hz⟩ := I.list hq
  have hlen := r'.length
  refine call_tuple_list pl.isList (fun h' kp => ?_) (by simp only [List.size_toArray] <;> omega)
  have I1 : Inv X pins σ H { s with heap := h' } := I.kept (t' := s.toks) kp
  have I2 : Inv X pins σ (upd H h'.objs.size (.frz (tfz its) (.tup ys))) { s with heap := h'.push { cls := .type "tuple", data := .seq its.toArray } } :=
    I1.laid (t' := s.toks) (fun b o e => Heap.get?_push_of_some _ e) (Nat.le_refl _) (show ObjOk X.prog X.w _ _ _ (.frz (tfz its) (.tup ys)) from ⟨Heap.get?_push_size _ rfl, hz, its, r', IsTup.new _ _⟩)
  exact ⟨.ref h'.objs.size, _, I2, rfl, q _ its (I1.hok.fresh (Nat.le_refl _))⟩
theorem call_tuplePU {K} (hK : X.K = K) : CallR X (.type "tuple") (rTupleP K) := by subst hK; exact call_tupleP
/-! ### dict(a tuple of pairs) -/
theorem pv_of {h : Heap} : ∀ {prs : List (Key × Value)} {ps : List Addr}, prs.length = ps.length → (∀ (j : Nat) (q : Key × Value), prs[j]? = some q → ∃ (b : Addr) (u : Value), ps[j]? = some b ∧ IsTup h b #[u, q.2] ∧ keyIs q.1 u = true) →
    ∃ pv : List (Value × Value), pv.length = prs.length ∧ ∀ (j : Nat) (k v : Value), pv[j]? = some (k, v) → ∃ (b : Addr) (q : Key × Value), ps[j]? = some b ∧ prs[j]? = some q ∧ v = q.2 ∧ IsTup h b #[k, v] ∧ keyIs q.1 k = true
  | [], [], _, _ => ⟨[], rfl, fun j k v h => by simp at h⟩
  | [], _ :: _, l, _ => by simp at l
  | _ :: _, [], l, _ => by simp at l
  | q :: prs, b :: ps, l, hp => by
    obtain ⟨pv, l2, h2⟩ := pv_of (prs := prs) (ps := ps) (by simpa using l) fun j q' e => by
      obtain ⟨b', u, e1, e2⟩ := hp (j + 1) q' (by simpa using e)
      exact ⟨b', u, by simpa using e1, e2⟩
    obtain ⟨b0, u, e1, e2, e3⟩ := hp 0 q rfl
    have : b = b0 := by simpa using e1
    subst this
    refine ⟨(u, q.2) :: pv, by rw [List.length_cons, List.length_cons, l2], fun j k v hj => ?_⟩
    cases j with
    | zero =>
      have hj : (u, q.2) = (k, v) := by simpa using hj
      cases hj
      exact ⟨b, q, rfl, rfl, rfl, e2, e3⟩
    | succ j =>
      obtain ⟨b', q', r1, r2, r3⟩ := h2 j k v (by simpa using hj)
      exact ⟨b', q', by simpa using r1, by simpa using r2, r3⟩
def rDictT (K : PySem.W.Frag) : List V → Hp → VK → Prop := fun xs H Q => ∃ (a : Addr) (ps : List Addr) (kvs : List (Key × V)), xs = [.ref a] ∧ PTup H a (ps.map V.ref) ∧ Paired (fun p kv => SqT K H p [kV kv.1, kv.2]) ps kvs ∧
    ∀ p, H p = none → Q (.ref p) (upd H p (.dK (mergeK [] kvs)))
theorem call_dictT (hcalm : X.calm = true) : CallR X (.type "dict") (rDictT X.K) := by
  intro pins s σ H xs us Q I r q
  obtain ⟨a, ps, kvs, ex, ⟨us0, hq⟩, hp, q⟩ := q
  subst ex
  obtain ⟨u, eu, rx⟩ := vals1 r
  subst eu
  cases rx
  obtain ⟨ho, hz, its, rv, ot, hot, hct, nt, hdt⟩ := (show ObjOk X.prog X.w H s.heap a (.frz (tfz us0) (.tup (ps.map V.ref))) from I.hok a _ hq)
  rw [ho] at hot
  cases hot
  have ei := refs_at rv
  subst ei
  rw [List.length_map] at hz
  obtain ⟨prs, rel, hl, hpr⟩ := pairs_of I hp
  have eits : us0.toArray = (ps.map Value.ref).toArray := by
    have z : Data.seq us0.toArray 0 = Data.seq (ps.map Value.ref).toArray nt := hdt
    injection z
  obtain ⟨pv, lpv, hpv⟩ := pv_of hl hpr
  have ok : PlainSeq "tuple" s.heap a (ps.map Value.ref).toArray ∧ PairItems s.heap (ps.map Value.ref).toArray (fun j => ps.getD j 0) pv := by
    refine ⟨⟨_, 0, ho, rfl, rfl, by rw [← eits]; rfl⟩, by rw [List.size_toArray, List.length_map]; omega, fun j k v hj => ?_⟩
    obtain ⟨b, q', e1, e2, e3, ⟨o, h1, h2, n, h3⟩, _⟩ := hpv j k v hj
    have gb : ps.getD j 0 = b := by rw [List.getD_eq_getElem?_getD, e1]; rfl
    refine ⟨?_, .inl ?_⟩
    · show (ps.map Value.ref).toArray[j]? = some (.ref (ps.getD j 0))
      rw [gb, List.getElem?_toArray, List.getElem?_map, e1]
      rfl
    · show s.heap.IsTuple (ps.getD j 0) #[k, v]
      rw [gb]
      exact ⟨o, h1, h2, n, h3⟩
  refine PySem.call_dict_pairs (knd := mixKind X.prog X.w) (kvs := prs) (PairArg.tuple (prog := X.prog) (w := X.w) a _ _ pv) (I.ok.hd hcalm) ok ⟨by omega, fun i key v hk => ?_⟩ (by rw [lpv, hl]; exact hz) fun h' tk hd' k => ?_
  · obtain ⟨b, q', e1, e2, e3, _, e5⟩ := hpv i key v hk
    exact ⟨q'.1, by rw [e2, e3], e5⟩
  · have hm : (s.heap.objs.size == sysModules) = false := beq_eq_false_iff_ne.mpr (Nat.ne_of_gt I.big)
    have hlen : (mergeK [] kvs).length ≤ sizeLine := by
      refine Nat.le_trans (length_mergeK kvs []) ?_
      rw [List.length_nil, Nat.zero_add, rel.length, hl]
      exact hz
    exact ⟨.ref s.heap.objs.size, upd H s.heap.objs.size (.dK (mergeK [] kvs)), I.laid (t' := tk) (fun b o e => k b o (by simp) e) (Nat.le_refl _) (show ObjOk X.prog X.w _ _ _ (.dK (mergeK [] kvs)) from ⟨hlen, hm, merged [] prs, KV.merge rel .nil, hd'⟩), rfl, q _ (I.hok.fresh (Nat.le_refl _))⟩
end
/-! ### sorted(a list of data) -/
section
variable {X : Cx}
theorem paired_isD {K : PySem.W.Frag} {H : Hp} : ∀ {vs : List V} {us : List Value} {ds : List PyData}, Vals vs us → DtAll K H vs ds → Paired (IsD K H id) us ds
  | _, _, _, .nil, .nil => .nil
  | _, _, _, .cons r t, .cons a b => .cons ⟨_, r, a⟩ (paired_isD t b)
theorem call_sortL (hu : X.A.units + 70 < cLine) : CallR X (.builtin "sorted") (rSortL X.K) := by
  intro pins s σ H xs us Q I rx h
  obtain ⟨l, ds, rfl, L, n, so, dp, q⟩ := h
  cases rx with
  | cons r t =>
  cases t
  cases r
  obtain ⟨vs, el, dl⟩ := L
  obtain ⟨its, rv, pl, hz⟩ := I.list (SqL.of el)
  have pe := paired_isD rv dl
  refine PySem.W.sorted_data (vs := its) (bs := ds) (enc := id) (R := IsD X.K H id) pl.isList (each_of pe) (each_of (Paired.imp (fun u b z => ?_) pe)) (by rw [List.map_id]; exact so.1) (by rw [List.map_id]; exact so.2) (Nat.le_trans n (by decide)) (fun b hb => ?_) fun out lo eo => ?_
  · obtain ⟨v, rv', d⟩ := z
    obtain ⟨as, r⟩ := Dp.reads I b v u d.dp rv'
    exact ⟨as, r⟩
  · have := dp b hb
    show X.A.units + 2 + b.depth < cLine
    omega
  · obtain ⟨ys, vy, dy⟩ := vals_of (of_each eo)
    obtain ⟨e, he⟩ := sortedAll_at s.heap its out.toArray
    have hp : H (s.heap.objs.size + 1) = none := HOk.fresh I.hok (Nat.le_succ _)
    rw [List.map_id] at dy
    refine ⟨.ref (s.heap.objs.size + 1), upd H (s.heap.objs.size + 1) (.lst ys), I.laid (t' := s.toks) (fun b o hb => sortedAll_old hb) (Nat.le_succ _) ⟨?_, out, e, vy, he⟩, rfl, q _ _ hp (Fr.new hp) ⟨ys, upd_same, dy.mono (Tu.new hp)⟩⟩
    have : ys.length = out.length := Paired.len vy
    rw [this, lo]
    exact Nat.le_trans n (by decide)
theorem call_sortLU {K} (hK : X.K = K) (hu : X.A.units + 70 < cLine) : CallR X (.builtin "sorted") (rSortL K) := by subst hK; exact call_sortL hu
theorem w_sortL {K} {H : Hp} {Q : VK} {l : Addr} {ds : List PyData} (L : Lq K H l ds) (n : ds.length ≤ 100000) (so : Sorty ds) (dp : ∀ d ∈ ds, d.depth ≤ 10) (q : ∀ p H', H p = none → Fr [] H H' → Lq K H' p (ds.mergeSort (PySem.W.dataLe false id)) → Q (.ref p) H') : rSortL K [.ref l] H Q := ⟨l, ds, rfl, L, n, so, dp, q⟩
end
/-! ### sorted(d.items()), d keyed by texts and numbers, its values numbers -/
section
variable {X : Cx} {pins : List (Addr × Obj)} {σ : L2.St} {H : Hp} {s : Shared}
/-- many new things at once -/
def plus (H G : Hp) : Hp := fun a => match G a with
  | some o => some o
  | none => H a
theorem plus_new {G : Hp} {a : Addr} {o : HO} (h : G a = some o) : plus H G a = some o := by unfold plus; rw [h]
theorem plus_old {G : Hp} {a : Addr} (h : G a = none) : plus H G a = H a := by unfold plus; rw [h]
theorem Inv.lays {G : Hp} {h' : Heap} {t' : Nat} (I : Inv X pins σ H s) (k : ∀ b u, s.heap.get? b = some u → h'.get? b = some u) (far : ∀ a o, G a = some o → s.heap.objs.size ≤ a) (new : ∀ a o, G a = some o → ObjOk X.prog X.w (plus H G) h' a o) :
    Inv X pins σ (plus H G) { s with heap := h', toks := t' } := by
  have gn : ∀ {b u}, s.heap.get? b = some u → G b = none := fun {b u} q => by
    cases e : G b with
    | none => rfl
    | some o => exact absurd (far b o e) (Nat.not_le_of_lt (get_lt q))
  have hn : ∀ {b o}, H b = some o → G b = none := fun {b o} q => by
    cases e : G b with
    | none => rfl
    | some o' =>
      have := HOk.fresh I.hok (far b o' e)
      rw [q] at this
      cases this
  refine I.un (t' := t') ⟨fun b u q _ _ _ => k b u q, fun b u q _ _ _ => ⟨u.slots, k b u q⟩, fun b u q n _ => by rw [plus_old (gn q)]; exact n, fun b u q _ => ⟨u, k b u q⟩, fun b xs q => by rw [plus_old (hn q)]; exact q, fun b u xs q => by rw [plus_old (hn q)]; exact q, fun b ps q => ⟨#[], by rw [plus_old (hn q), q]; simp⟩⟩ fun b u e => ?_
  cases eg : G b with
  | some o =>
    rw [plus_new eg] at e
    cases e
    exact new b _ eg
  | none =>
    rw [plus_old eg] at e
    exact (I.hok b u e).stay (fun c v _ q => k c v q) (fun c q => by rw [plus_old (hn q)]; exact q) fun c xs q => by rw [plus_old (hn q)]; exact q
def keyD : Key → PyData
  | .inl i => .int i
  | .inr x => .str x
def pairD (kv : Key × V) : PyData := .tuple [keyD kv.1, match kv.2 with | .int n => .int n | _ => .none]
def rItemsK : V → List V → Hp → VK → Prop := fun x xs H Q => ∃ (a : Addr) (kvs : List (Key × V)), x = .ref a ∧ xs = [] ∧ H a = some (.dK kvs) ∧ ∀ p, H p = none → Q (.ref p) (upd H p (DX.itemsO p a))
theorem mt_itemsK : MtR X "dict.items" rItemsK := by
  intro pins s σ H x xs v us Q I rx rxs h
  obtain ⟨a, kvs, rfl, rfl, ha, q⟩ := h
  cases rx
  cases rxs
  obtain ⟨z, hd, vs, rel, o, es, ep, ho, hx, hdat, _⟩ := dk_of I.hok ha
  refine DT.callItems (es := es) (ep := ep) hd ⟨o, ho, hx, hdat⟩ ?_
  have hf : H s.heap.objs.size = none := I.hok.fresh (Nat.le_refl _)
  exact ⟨.ref s.heap.objs.size, upd H s.heap.objs.size (DX.itemsO s.heap.objs.size a), I.laid (t' := s.toks) (fun b u e => Heap.get?_push_of_some _ e) (Nat.le_refl _) (DX.itemsO_ok (Heap.get?_push_size _ rfl)), rfl, q _ hf⟩
theorem at_es {P : Program} {w : World} : ∀ {es : List DictEntry} {vs : List (Key × Value)} {kvs : List (Key × V)}, Pairs (mixKind P w) es vs → KV kvs vs → ∀ {j : Nat} {e : DictEntry}, es[j]? = some e → ∃ kv, kvs[j]? = some kv ∧ RelV (kV kv.1) e.key ∧ RelV kv.2 e.val
  | _, _, _, .nil, _, j, e, h => by simp at h
  | _, _, _, .cons hk hv t, @Paired.cons _ _ _ kv _ _ _ r t2, 0, e, h => by
    cases (show _ = e by simpa using h)
    obtain ⟨r1, r2⟩ := r
    refine ⟨kv, rfl, ?_, ?_⟩
    · rw [r1]; exact relV_key hk
    · rw [hv]; exact r2
  | _, _, _, .cons hk hv t, .cons r t2, j + 1, e, h => by
    obtain ⟨kv, h1, h2⟩ := at_es t t2 (j := j) (e := e) (by simpa using h)
    exact ⟨kv, by simpa using h1, h2⟩
def AllInt (kvs : List (Key × V)) : Prop := ∀ kv ∈ kvs, ∃ n : Int, kv.2 = .int n
def rSortItK (K : PySem.W.Frag) : List V → Hp → VK → Prop := fun vs H Q => ∃ (p a : Addr) (kvs : List (Key × V)), vs = [.ref p] ∧ H p = some (DX.itemsO p a) ∧ H a = some (.dK kvs) ∧ kvs.length ≤ 100000 ∧ AllInt kvs ∧ Sorty (kvs.map pairD) ∧
  ∀ p' H', H p' = none → Fr [] H H' → Lq K H' p' ((kvs.map pairD).mergeSort (PySem.W.dataLe false id)) → Q (.ref p') H'
theorem call_sortItK (hc : X.calm = true) (hu : X.A.units + 70 < cLine) : CallR X (.builtin "sorted") (rSortItK X.K) := by
  intro pins s σ H xs us Q I r h
  obtain ⟨p, a, kvs, rfl, hp, ha, n, ai, so, q⟩ := h
  obtain rfl := Vals.ref1 r
  have view : s.heap.IsItemsView p a := (show ObjOk X.prog X.w H s.heap p (DX.itemsO p a) from I.hok p _ hp).1
  obtain ⟨z, hd, vs, rel, o, es, ep, ho, hx, hdat, hks, hpr, hn⟩ := dk_of I.hok ha
  have l1 : kvs.length = vs.length := Paired.length rel
  have l2 : es.size = vs.length := by rw [← Array.length_toList]; exact hpr.length
  refine DT.sortedI (es := es) (ep := ep) (I.ok.hd hc) view ⟨o, ho, hx, hdat⟩ (by omega) fun h' tk as hk hlt hl hG => ?_
  have I1 : Inv X pins σ H { s with heap := h', toks := tk } := I.kept (t' := tk) hk
  have nd : as.Nodup := List.Pairwise.imp (fun h => Nat.ne_of_lt h) hG.rise
  obtain ⟨H2, I2, gr, qt⟩ := DX.takeT (P := fun b vs => ∃ (j : Nat) (kv : Key × V), as[j]? = some b ∧ kvs[j]? = some kv ∧ vs = [kV kv.1, kv.2]) I as H I1 nd fun b hb => by
    obtain ⟨j, hj⟩ := List.mem_iff_getElem?.mp hb
    obtain ⟨e, he, hg⟩ := hG.pairs j b hj
    obtain ⟨kv, hkv, r1, r2⟩ := at_es hpr rel (j := j) (e := e) (by rw [Array.getElem?_toList]; exact he)
    have hbl : s.heap.objs.size ≤ b := Nat.le_of_lt (hG.above b hb)
    exact ⟨hbl, I.hok.fresh hbl, [kV kv.1, kv.2], ⟨j, kv, hj, hkv, rfl⟩, fun H3 => ⟨(by rw [sizeLine_eq]; show 2 ≤ 16777216; omega), [e.key, e.val], .cons r1 (.cons r2 .nil), ⟨_, hg, rfl, 0, rfl⟩⟩⟩
  refine sort_new (s := { s with heap := h', toks := tk }) (bs := kvs.map pairD) (enc := id) (us := as.map Value.ref) I2 (fun b o e => e) (Nat.le_refl _) (paired_at (by rw [List.length_map, List.length_map]; omega) fun i u d hu' hd' => ?_) (by rw [List.map_id]; exact so.1) (by rw [List.map_id]; exact so.2) (by rw [List.length_map]; exact n) (by show X.A.units + 1 + 65 < cLine; omega) (fun d hd' => ?_) fun p' s' H' hp' fr I' L => ?_
  · rw [List.getElem?_map] at hu' hd'
    obtain ⟨b, hb, rfl⟩ := Option.map_eq_some_iff.mp hu'
    obtain ⟨kv, hkv, rfl⟩ := Option.map_eq_some_iff.mp hd'
    obtain ⟨ws, ⟨j, kv', hj, hkv', rfl⟩, hH⟩ := qt b (List.mem_of_getElem? hb)
    have eij : i = j := (List.getElem?_inj (List.getElem?_eq_some_iff.mp hb).1 nd).mp (hb.trans hj.symm)
    subst eij
    rw [hkv] at hkv'
    cases hkv'
    refine ⟨.ref b, rfl, ?_⟩
    obtain ⟨m, hm⟩ := ai kv (List.mem_of_getElem? hkv)
    obtain ⟨k, v⟩ := kv
    cases hm
    refine Dt.tup (.inl (.inl hH)) (.cons ?_ (.cons (.int _) .nil))
    cases k with
    | inl i => exact .int i
    | inr x => exact .str x
  · obtain ⟨kv, hkv, rfl⟩ := List.mem_map.mp hd'
    obtain ⟨m, hm⟩ := ai kv hkv
    obtain ⟨k, v⟩ := kv
    cases hm
    cases k <;> simp [pairD, keyD, PyData.depth, PyData.depthAll]
  · rw [List.map_id] at L
    refine ⟨.ref p', H', I', rfl, q p' H' ?_ (fun b o e n' => fr b o (gr b o e) n') L⟩
    cases e : H p' with
    | none => rfl
    | some o =>
      rw [gr _ _ e] at hp'
      cases hp'
end
theorem call_sortItKU {X : Cx} {K} (hK : X.K = K) (hc : X.calm = true) (hu : X.A.units + 70 < cLine) : CallR X (.builtin "sorted") (rSortItK K) := by subst hK; exact call_sortItK hc hu
theorem call_dictTU {X : Cx} {K} (hK : X.K = K) (hcalm : X.calm = true) : CallR X (.type "dict") (rDictT K) := by subst hK; exact call_dictT hcalm
theorem ne_free {H : Hp} {a b : Addr} (h : H a ≠ none) (h' : H b = none) : a ≠ b := by
  rintro rfl
  exact h h'
theorem Fr.tuK {H H' : Hp} {d : Addr} {kvs : List (Key × V)} (f : Fr [d] H H') (h : H d = some (.dK kvs)) : Tu H H' := fun a ys =>
  ⟨fun e => f _ _ e (by rintro z; rw [List.mem_singleton.mp z, h] at e; cases e), fun o e => f _ _ e (by rintro z; rw [List.mem_singleton.mp z, h] at e; cases e)⟩
/-! ### a dict's keys in a comprehension: the dict is held as it is -/
section
variable {X : Cx}
def tFrz (td : TE) : TE := fun σ H Q => td σ H fun x H1 => ∃ (d : Addr) (kvs : List (Key × V)), x = .ref d ∧ H1 d = some (.dK kvs) ∧ ∀ o, Q x (upd H1 d (.frz o (.dK kvs)))
theorem pe_frz {e : Expr} {td : TE} (h : PE X e td) : PE X e (tFrz td) := by
  refine ⟨fun pins s σ H Q I hq => ?_⟩
  refine thn (h.run pins s σ H _ I hq) fun u s1 ⟨x, H1, I1, rx, d, kvs, ex, hd, q⟩ => ?_
  obtain ⟨od, I2⟩ := I1.lock hd True.intro
  exact ⟨x, _, I2, rx, q od⟩
theorem w_frz {σ : L2.St} {H : Hp} {td : TE} {Q : VK} (q : td σ H fun x H1 => ∃ (d : Addr) (kvs : List (Key × V)), x = .ref d ∧ H1 d = some (.dK kvs) ∧ ∀ o, Q x (upd H1 d (.frz o (.dK kvs)))) : tFrz td σ H Q := q
theorem LCX_K {K : PySem.W.Frag} {d : Addr} {o : Obj} {H : Hp} {kvs : List (Key × V)} {ws : List Nat} {σ : L2.St} {tg : TG} {tt : TT} {te : TE} {Q : VK} (g : Key × V → PyData)
    (hd : H d = some (.frz o (.dK kvs))) (lc : kvs.length ≤ 100000)
    (hs : ∀ (kv : Key × V) (H' : Hp) (KEEP : VK) (DROP : Hp → Prop), kv ∈ kvs → Fr [] H H' → (∀ y H4, Fr [] H' H4 → Dt K H4 y (g kv) → KEEP y H4) →
      tg (kV kv.1) (wipe σ ws) H' fun σ2 H2 => wipe σ2 ws = wipe σ ws ∧ tt σ2 H2 fun k H3 => if k = true then te σ2 H3 KEEP else DROP H3)
    (k : ∀ D H', H D = none → Fr [] H H' → Lq K H' D (kvs.map g) → Q (.ref D) H') :
    ∀ D, H D = none → LC (Itk d o kvs) tg tt te ws σ D Q (upd H D (.lst [])) := by
  intro D hD
  refine lc_it (walk_keys (d := d) (o := o) (kvs := kvs)) (fun i H' => Fr [] H H' ∧ Lq K H' D ((kvs.take i).map g)) ⟨Fr.new hD, [], upd_same, .nil⟩ (fun i H' _ h => h.1 _ _ hd (by simp)) ?_ ?_
  · rintro i x H0' H' hi ⟨f', ys, hys, dys⟩ ⟨rfl, kk, vv, hx, rfl⟩
    have hi' : i < kvs.length := (List.getElem?_eq_some_iff.mp hx).1
    have ly : ys.length ≤ i := by
      rw [dys.length, List.length_map, List.length_take]
      omega
    refine hs (kk, vv) _ _ _ (List.mem_of_getElem? hx) f' (fun y H4 f4 dy => ?_)
    have e3 := f4 _ _ hys (by simp)
    refine ⟨ys, e3, Nat.lt_of_le_of_lt (show ys.length ≤ 100000 by omega) (by decide), Fr.new_mut hD ((f'.trans f4).mono (by simp) |>.trans (Fr.mut (by simp))), _, upd_same, ?_⟩
    rw [List.take_add_one, hx, List.map_append]
    exact ((dys.mono f4.tu).append (.cons dy .nil)).mono (Tu.mut e3)
  · rintro H' ⟨f', L⟩
    rw [List.take_length] at L
    exact k D H' hD f' L
end
/-! ### dicts keyed by None, numbers, texts -/
def lfV : Leaf → V
  | .none => .non
  | .num i => .int i
  | .text x => .str x
theorem lf_is {P : Program} {w : World} {k : Leaf} {u : Value} (r : RelV (lfV k) u) : (leafKind P w).is k u = true := by
  cases k with
  | none =>
    cases (show u = Value.none from r)
    rfl
  | num i =>
    obtain ⟨t, e⟩ := (show ∃ t, u = Value.int i t from r)
    subst e
    exact decide_eq_true rfl
  | text x =>
    obtain ⟨t, e⟩ := (show ∃ t, u = Value.str x t from r)
    subst e
    show (x == x) = true
    simp
def LfO (P : Program) (w : World) (d : Addr) (kvs : List (Leaf × V)) : HO := .ext fun h => kvs.length ≤ sizeLine ∧ (d == sysModules) = false ∧ ∃ vs, KV kvs vs ∧ h.DictOf (leafKind P w) d vs
def DL (P : Program) (w : World) (H : Hp) (d : Addr) (kvs : List (Leaf × V)) : Prop := (kvs = [] ∧ H d = some (.dK [])) ∨ H d = some (LfO P w d kvs)
section
variable {X : Cx} {pins : List (Addr × Obj)} {σ : L2.St} {H : Hp} {s : Shared} {d : Addr} {kvs : List (Leaf × V)}
theorem DL.fr {P : Program} {w : World} {H H' : Hp} {S : List Addr} (h : DL P w H d kvs) (f : Fr S H H') (n : d ∉ S) : DL P w H' d kvs := by
  rcases h with ⟨e, h⟩ | h
  · exact .inl ⟨e, f _ _ h n⟩
  · exact .inr (f _ _ h n)
theorem DL.heap (I : Inv X pins σ H s) (h : DL X.prog X.w H d kvs) : kvs.length ≤ sizeLine ∧ (d == sysModules) = false ∧ (∃ vs, KV kvs vs ∧ s.heap.DictOf (leafKind X.prog X.w) d vs) ∧ Mut (H d) := by
  rcases h with ⟨rfl, e⟩ | e
  · obtain ⟨z, n, vs, rel, o, es, ep, ho, hx, hdat, hks, hpr, hn⟩ := dk_of I.hok e
    have rel' : KV ([] : List (Leaf × V)) ([] : List (Leaf × Value)) := .nil
    have ev : vs = [] := by
      have := KV.length rel
      exact List.eq_nil_of_length_eq_zero this.symm
    subst ev
    have ee : es.toList = [] := List.eq_nil_of_length_eq_zero hpr.length
    refine ⟨Nat.zero_le _, n, ⟨[], rel', o, es, ep, ho, hx, hdat, fun x hx' => ?_, by rw [ee]; exact .nil, .nil⟩, by rw [e]; exact True.intro⟩
    have : x ∈ es.toList := Array.mem_toList_iff.mpr hx'
    rw [ee] at this
    cases this
  · obtain ⟨z, n, k⟩ := (I.hok d _ e).1
    exact ⟨z, n, k, by rw [e]; exact True.intro⟩
theorem lfo_ok {P : Program} {w : World} {H : Hp} {h : Heap} (hz : kvs.length ≤ sizeLine) (hsm : (d == sysModules) = false) {vs : List (Leaf × Value)} (r : KV kvs vs) (x : h.DictOf (leafKind P w) d vs) : ObjOk P w H h d (LfO P w d kvs) := by
  refine ⟨⟨hz, hsm, vs, r, x⟩, ?_, fun h1 h2 q st => ?_⟩
  · obtain ⟨o, es, ep, ho, _⟩ := x
    exact ⟨o, ho⟩
  · obtain ⟨z1, z2, vs', r', o, es, ep, ho, x'⟩ := q
    exact ⟨z1, z2, vs', r', o, es, ep, st _ ho, x'⟩
def rIxL (P : Program) (w : World) : R2 := fun x y H Q => ∃ (d : Addr) (kvs : List (Leaf × V)) (k : Leaf) (v : V), x = .ref d ∧ y = lfV k ∧ DL P w H d kvs ∧ valV kvs k = some v ∧ Q v H
theorem ix_L : IxR X (rIxL X.prog X.w) := by
  intro value slice pins s σ H x y v u Q I rx ry h hs
  obtain ⟨d, kvs, k, z, rfl, rfl, hd, hv, q⟩ := h
  cases rx
  obtain ⟨_, ns, ⟨vs, rel, dd⟩, _⟩ := hd.heap I
  obtain ⟨o, es, ep, ho, hex, _⟩ := id dd
  obtain ⟨w', hw, rw'⟩ := RelO.some_of (v := z) (o := valueAt vs k) (by rw [← hv]; exact rel.val k)
  refine subscriptTail_builtinR (x := w') ⟨o, ho, hex.1⟩ F.slot_dict_getitem.lookup ?_ hs
  exact wpAny_getItem_of (lf_is ry) dd.mapOf hw ⟨rfl, _, H, I.tok _, rw', q⟩
theorem ix_LU {P : Program} {w : World} (hP : X.prog = P) (hw : X.w = w) : IxR X (rIxL P w) := by subst hP hw; exact ix_L
theorem w_ixLf {P : Program} {w : World} {H : Hp} {Q : VK} {y v : V} {k : Leaf} (hd : DL P w H d kvs) (ey : y = lfV k) (hv : valV kvs k = some v) (q : Q v H) : rIxL P w (.ref d) y H Q := ⟨d, kvs, k, v, rfl, ey, hd, hv, q⟩
def rGetL (P : Program) (w : World) : V → List V → Hp → VK → Prop := fun x vs H Q => ∃ (d : Addr) (kvs : List (Leaf × V)) (k : Leaf) (y z : V), x = .ref d ∧ vs = [y, z] ∧ y = lfV k ∧ DL P w H d kvs ∧ Q ((valV kvs k).getD z) H
theorem mt_getL : MtR X "dict.get" (rGetL X.prog X.w) := by
  intro pins s σ H x vs v us Q I rx rvs h
  obtain ⟨d, kvs, k, y, z, rfl, rfl, rfl, hd, q⟩ := h
  cases rx
  obtain ⟨u1, u2, rfl, r1, r2⟩ := vals2 rvs
  obtain ⟨_, ns, ⟨xs, rel, dd⟩, _⟩ := hd.heap I
  refine call_meetsIn F.slot_dict_get dd.typeIs F.entry_dict_get (F.args_dict_get_3 _ _ _) (meets_dict_get_default (leafKind X.prog X.w) d (lf_is r1) ns u2) ⟨_, dd.mapOf, ?_⟩
  have r := rel.val k
  cases e : valV kvs k with
  | none =>
    rw [e] at r q
    rw [RelO.none_of r]
    exact ⟨z, H, I.tok _, r2, q⟩
  | some v0 =>
    rw [e] at r q
    obtain ⟨w', hw, rw'⟩ := RelO.some_of r
    rw [hw]
    exact ⟨v0, H, I.tok _, rw', q⟩
theorem mt_getLU {P : Program} {w : World} (hP : X.prog = P) (hw : X.w = w) : MtR X "dict.get" (rGetL P w) := by subst hP hw; exact mt_getL
theorem w_getL {P : Program} {w : World} {H : Hp} {Q : VK} {y z : V} {k : Leaf} (hd : DL P w H d kvs) (ey : y = lfV k) (q : Q ((valV kvs k).getD z) H) : rGetL P w (.ref d) [y, z] H Q := ⟨d, kvs, k, y, z, rfl, rfl, ey, hd, q⟩
def rSetL (P : Program) (w : World) : TSet := fun o i v H Q => ∃ (d : Addr) (kvs : List (Leaf × V)) (k : Leaf), o = .ref d ∧ i = lfV k ∧ DL P w H d kvs ∧ kvs.length ≤ 100000 ∧ ∀ H', Fr [d] H H' → Tu H H' → DL P w H' d (putK kvs k v) → Q H'
theorem DL.not_tup {P : Program} {w : World} (h : DL P w H d kvs) (o : HO) : Tu H (upd H d o) := fun a ys => by
  have n1 : ∀ ys, H d ≠ some (.tup ys) := fun ys e => by
    rcases h with ⟨_, h⟩ | h <;> rw [e] at h <;> cases h
  have n2 : ∀ o ys, H d ≠ some (.frz o (.tup ys)) := fun o ys e => by
    rcases h with ⟨_, h⟩ | h <;> rw [e] at h <;> cases h
  refine ⟨fun z => ?_, fun o' z => ?_⟩ <;>
  · rw [upd_ne (by
      rintro rfl
      first | exact n1 _ z | exact n2 _ _ z)]
    exact z
theorem set_L : PSet X (rSetL X.prog X.w) := by
  intro pins s σ H o i v ov iv u Q I ro ri rv h
  obtain ⟨d, kvs, k, rfl, rfl, hd, n, q⟩ := h
  cases ro
  obtain ⟨z, ns, ⟨vs, rel, dd⟩, m⟩ := hd.heap I
  refine wpAny_setItem_pairs (lf_is ri) dd (fun h' dd' sb => ?_) (by rw [← rel.length]; exact z)
  have rel' := rel.put k rv
  have hl : (putK kvs k v).length ≤ sizeLine := by
    have h1 : (putK kvs k v).length ≤ kvs.length + 1 := by
      unfold putK
      split
      · rw [List.length_map]; omega
      · rw [List.length_append]; exact Nat.le_refl _
    exact Nat.le_trans h1 (Nat.le_trans (show kvs.length + 1 ≤ 100001 by omega) (show 100001 ≤ sizeLine by decide))
  obtain ⟨o', es, ep, ho, hr⟩ := id dd'
  refine ⟨_, d_write I (ob := LfO X.prog X.w d (putK kvs k v)) m sb ⟨o', ho⟩ (lfo_ok hl ns rel' dd'), q _ (Fr.mut (by simp)) (hd.not_tup _) (.inr upd_same)⟩
theorem set_LU {P : Program} {w : World} (hP : X.prog = P) (hw : X.w = w) : PSet X (rSetL P w) := by subst hP hw; exact set_L
theorem w_setLf {P : Program} {w : World} {v y : V} {k : Leaf} {Q : Hp → Prop} (hd : DL P w H d kvs) (ey : y = lfV k) (n : kvs.length ≤ 100000) (q : ∀ H', Fr [d] H H' → Tu H H' → DL P w H' d (putK kvs k v) → Q H') : rSetL P w (.ref d) y v H Q := ⟨d, kvs, k, rfl, ey, hd, n, q⟩
def dictLf (P : Program) (w : World) : V → Hp → Prop := fun x H => ∃ (d : Addr) (kvs : List (Leaf × V)), x = .ref d ∧ DL P w H d kvs
theorem ty_L' : TyOk X "dict" (dictLf X.prog X.w) := by
  intro pins σ H s x v I rx h
  obtain ⟨d, kvs, rfl, hd⟩ := h
  cases rx
  obtain ⟨_, _, ⟨vs, _, o, es, ep, ho, hex, _⟩, _⟩ := hd.heap I
  refine ⟨⟨o, ho, hex.1⟩, fun a e => ?_⟩
  cases e
  exact ⟨o, ho, hex.2.1⟩
theorem ty_LU {P : Program} {w : World} (hP : X.prog = P) (hw : X.w = w) : TyOk X "dict" (dictLf P w) := by subst hP hw; exact ty_L'
theorem DL.dict {P : Program} {w : World} (hd : DL P w H d kvs) : dictLf P w (.ref d) H := ⟨d, kvs, rfl, hd⟩
end
end U

/-! slices that are plain tuples, extend by a tuple, written dicts of the module, data away from several lists that change -/
namespace U
open PySem PySem.Spec PyProof.Rows L2
section
variable {X : Cx}
/-- t[lo:hi], not the whole of it: a plain tuple -/
def rSlP (K : PySem.W.Frag) : V → Option Int → Option Int → Hp → VK → Prop := fun x lo hi H Q => ∃ a xs, x = .ref a ∧ SqT K H a xs ∧
  ¬ (HT.sIx xs.length 0 lo = 0 ∧ HT.sIx xs.length xs.length hi = xs.length) ∧ ∀ (p : Addr) (us : List Value), H p = none → Q (.ref p) (upd H p (.frz (tfz us) (.tup (cutV xs lo hi))))
theorem sl_P : SlR X (rSlP X.K) := by
  intro pins s σ H x v vl vu lo hi sl Q I rx hs pl pu h
  obtain ⟨a, xs, rfl, hx, hw, q⟩ := h
  cases rx
  obtain ⟨its, r, ht, hz⟩ := I.tuple hx
  have el : its.toArray.size = xs.length := by rw [List.size_toArray]; exact r.length.symm
  refine ⟨"tuple", _, PyProof.Rows.slot_tuple_getitem.lookup, ht.typeIs, HT.getItem_tuple_cut ht hs pl pu (by rw [el]; exact hw) ?_ (by rw [el]; exact hz)⟩
  rw [el]
  have rv : Vals (cutV xs lo hi) ((its.drop (HT.sIx xs.length 0 lo)).take (HT.sIx xs.length xs.length hi - HT.sIx xs.length 0 lo)) := (r.drop _).take _
  exact ⟨.ref s.heap.objs.size, _, I.laid (t' := s.toks) (o := .frz (tfz _) (.tup (cutV xs lo hi))) (fun b ob q => Heap.get?_push_of_some _ q) (Nat.le_refl _) (show ObjOk X.prog X.w _ _ _ _ from ⟨Heap.get?_push_size _ rfl, Nat.le_trans (cutV_length xs lo hi) hz, _, rv, IsTup.new _ _⟩), rfl, q _ _ (I.hok.fresh (Nat.le_refl _))⟩
theorem sl_PU {K} (hK : X.K = K) : SlR X (rSlP K) := by subst hK; exact sl_P
/-- l.extend(t), t a plain tuple -/
def rExtP : V → List V → Hp → VK → Prop := fun x vs H Q => ∃ l b xs zs, x = .ref l ∧ vs = [.ref b] ∧ H l = some (.lst xs) ∧ PTup H b zs ∧ xs.length + zs.length ≤ 1000000 ∧ Q .non (upd H l (.lst (xs ++ zs)))
theorem mt_extP : MtM X "list.extend" rExtP := by
  intro pins s σ H x vs v us Q I rx rv h
  obtain ⟨l, b, xs, zs, rfl, rfl, hH, ⟨us2, hB⟩, hz, q⟩ := h
  cases rx
  obtain ⟨u, rfl, ru⟩ := rv.one
  cases ru
  obtain ⟨z, its, n, r, hl, e⟩ := I.lstM hH
  obtain ⟨e2, _, its2, r2, o2, ho2, hc2, n2, hd2⟩ := (show ObjOk X.prog X.w H s.heap b (.frz (tfz us2) (.tup zs)) from I.hok b _ hB)
  rw [e2] at ho2
  cases ho2
  have hlen : us2.length = zs.length := by
    have z : Data.seq us2.toArray 0 = Data.seq its2.toArray n2 := hd2
    injection z with z1 z2
    have z3 : us2 = its2 := by simpa using z1
    rw [z3]
    exact r2.length.symm
  have r2' : Vals zs us2 := by
    have z : Data.seq us2.toArray 0 = Data.seq its2.toArray n2 := hd2
    injection z with z1 z2
    have z3 : us2 = its2 := by simpa using z1
    rw [z3]
    exact r2
  have big : (1000000 : Nat) ≤ sizeLine := by decide
  have hsz : its.toArray.size + us2.toArray.size ≤ sizeLine := by rw [List.size_toArray, List.size_toArray]; omega
  have hlong : ¬ (!its.toArray.isEmpty && Builtin.List.listTooLong (its.toArray.size + us2.toArray.size)) = true := by
    rw [notLongL hsz, Bool.and_false]
    exact Bool.false_ne_true
  refine call_meets F.slot_list_extend ⟨_, e, rfl⟩ F.entry_list_extend (F.args_list_extend_2 _ _)
    (AutoSeq1.list_extend_list_tuple_0 l its.toArray n b us2.toArray 0 hlong (by rw [List.size_toArray]; omega) (by omega)) ⟨e, e2, ?_⟩
  refine ⟨.non, _, I.lset (its' := its ++ us2) hH e (by simp) (r.append r2') ?_, rfl, q⟩
  rw [List.length_append]
  omega
end
/-! ### a written dict of the module: texts to numbers -/
def KTab (es : List DictEntry) (kvs : List (Str × Int)) : Prop := Paired (fun (e : DictEntry) (kv : Str × Int) => (∃ t, e.key = .str kv.1 t) ∧ ∃ t, e.val = .int kv.2 t) es kvs
def KTb (K : PySem.W.Frag) (w : World) (a : Addr) (kvs : List (Str × Int)) : Prop := ∃ es n, KDict K w a es n ∧ KTab es.toList kvs
def tab (kvs : List (Str × Int)) (z : Str) : Option Int := (kvs.find? fun p => decide (p.1 = z)).map (·.2)
theorem tab_find : ∀ {es : List DictEntry} {kvs : List (Str × Int)} (z : Str), KTab es kvs → (tab kvs z = none ∧ es.find? (·.key.isStr z) = none) ∨ ∃ i e t, tab kvs z = some i ∧ es.find? (·.key.isStr z) = some e ∧ e.val = .int i t
  | _, _, z, .nil => .inl ⟨rfl, rfl⟩
  | e :: es, kv :: kvs, z, .cons ⟨⟨t, h1⟩, ⟨u, h2⟩⟩ b => by
    have hk : e.key.isStr z = decide (kv.1 = z) := by
      rw [h1]
      show (kv.1 == z) = decide (kv.1 = z)
      exact Bool.eq_iff_iff.mpr (by simp)
    by_cases c : kv.1 = z
    · refine .inr ⟨kv.2, e, u, ?_, ?_, h2⟩
      · unfold tab
        rw [List.find?_cons, decide_eq_true c]
        rfl
      · rw [List.find?_cons, hk, decide_eq_true c]
    · rcases tab_find z b with ⟨g1, g2⟩ | ⟨i, e', t', g1, g2, g3⟩
      · refine .inl ⟨?_, ?_⟩
        · unfold tab at *
          rw [List.find?_cons, decide_eq_false c]
          exact g1
        · rw [List.find?_cons, hk, decide_eq_false c]
          exact g2
      · refine .inr ⟨i, e', t', ?_, ?_, g3⟩
        · unfold tab at *
          rw [List.find?_cons, decide_eq_false c]
          exact g1
        · rw [List.find?_cons, hk, decide_eq_false c]
          exact g2
theorem tab_norefs : ∀ {es : List DictEntry} {kvs : List (Str × Int)}, KTab es kvs → es.any (·.refKey) = false
  | _, _, .nil => rfl
  | e :: es, kv :: kvs, .cons ⟨⟨t, h1⟩, _⟩ b => by
    rw [List.any_cons, tab_norefs b]
    have : e.refKey = false := by
      unfold DictEntry.refKey
      rw [h1]
    rw [this]
    rfl
theorem KTb.ns {K : PySem.W.Frag} {w : World} {a : Addr} {kvs : List (Str × Int)} (h : KTb K w a kvs) (z : Str) : ∃ es n, KDict K w a es n ∧ ((tab kvs z = none ∧ PySem.W.nsIn K a z = some none) ∨ ∃ i t, tab kvs z = some i ∧ PySem.W.nsIn K a z = some (some (.int i t))) := by
  obtain ⟨es, n, D, T⟩ := h
  refine ⟨es, n, D, ?_⟩
  rcases tab_find z T with ⟨g1, g2⟩ | ⟨i, e, t, g1, g2, g3⟩
  · refine .inl ⟨g1, ?_⟩
    unfold PySem.W.nsIn
    rw [D.at_]
    show (match es.toList.find? (·.key.isStr z) with
      | some e => some (some e.val)
      | none => if es.toList.any (·.refKey) then none else some none) = _
    rw [g2, tab_norefs T]
    rfl
  · refine .inr ⟨i, t, g1, ?_⟩
    unfold PySem.W.nsIn
    rw [D.at_]
    show (match es.toList.find? (·.key.isStr z) with
      | some e => some (some e.val)
      | none => if es.toList.any (·.refKey) then none else some none) = _
    rw [g2]
    show some (some e.val) = _
    rw [g3]
def tTab (K : PySem.W.Frag) (w : World) (kvs : List (Str × Int)) : TE := fun _ H Q => ∀ a, KTb K w a kvs → Q (.ref a) H
theorem pe_tab {X : Cx} {e : Expr} {a : Addr} {kvs : List (Str × Int)} (h : PE X e (tC (.ref a))) (k : KTb X.K X.w a kvs) : PE X e (tTab X.K X.w kvs) := ⟨fun pins s σ H Q I q => h.run pins s σ H Q I (q a k)⟩
theorem w_tab {K : PySem.W.Frag} {w : World} {kvs : List (Str × Int)} {σ : L2.St} {H : Hp} {Q : VK} (q : ∀ a, KTb K w a kvs → Q (.ref a) H) : tTab K w kvs σ H Q := q
def rNinTab (K : PySem.W.Frag) (w : World) : R2 := fun x y H Q => ∃ (z : Str) (a : Addr) (kvs : List (Str × Int)), x = .str z ∧ y = .ref a ∧ KTb K w a kvs ∧ Q (.bl (!(tab kvs z).isSome)) H
def rIxTab (K : PySem.W.Frag) (w : World) : R2 := fun x y H Q => ∃ (z : Str) (a : Addr) (kvs : List (Str × Int)) (i : Int), x = .ref a ∧ y = .str z ∧ KTb K w a kvs ∧ tab kvs z = some i ∧ Q (.int i) H
section
variable {X : Cx}
theorem op_ninTab : OpR X (compareOp .NotIn) (rNinTab X.K X.w) := by
  intro pins s σ H x y v u Q I rx ry h
  obtain ⟨z, a, kvs, rfl, rfl, T, q⟩ := h
  obtain ⟨es, n, D, c⟩ := T.ns z
  rcases c with ⟨g1, g2⟩ | ⟨i, t, g1, g2⟩
  · exact op_notIn_kd D pins s σ H _ _ v u Q I rx ry ⟨z, none, rfl, rfl, g2, by rw [g1] at q; exact q⟩
  · exact op_notIn_kd D pins s σ H _ _ v u Q I rx ry ⟨z, some _, rfl, rfl, g2, by rw [g1] at q; exact q⟩
theorem op_ninTabU {K} {w} (hK : X.K = K) (hw : X.w = w) : OpR X (compareOp .NotIn) (rNinTab K w) := by subst hK hw; exact op_ninTab
theorem ix_Tab : IxR X (rIxTab X.K X.w) := by
  intro value slice pins s σ H x y v u Q I rx ry h hs
  obtain ⟨z, a, kvs, i, rfl, rfl, T, e, q⟩ := h
  obtain ⟨es, n, D, c⟩ := T.ns z
  rcases c with ⟨g1, g2⟩ | ⟨j, t, g1, g2⟩
  · rw [e] at g1
    cases g1
  · rw [e] at g1
    cases g1
    exact ix_kdict value slice pins s σ H _ _ v u Q I rx ry ⟨a, z, .int i, rfl, rfl, ⟨es, n, _, D.at_, D.lit, g2, ⟨t, rfl⟩⟩, q⟩ hs
theorem ix_TabU {K} {w} (hK : X.K = K) (hw : X.w = w) : IxR X (rIxTab K w) := by subst hK hw; exact ix_Tab
end
theorem ktb_of {K : PySem.W.Frag} {w : World} {a : Addr} {es : Array DictEntry} {n : Nat} {sl : Array (Option Value)} {kvs : List (Str × Int)} {ks : List Str} (h : K.lookup a = some ⟨.type "dict", none, .dict es n, sl⟩) (d : He.dicW K a = some (He.keysIn w.params ks)) (T : KTab es.toList kvs) : KTb K w a kvs := by
  obtain ⟨es', n', D⟩ := He.dicW_ok d
  have e := D.at_
  rw [h] at e
  have e2 : es = es' := by
    injection e with e
    injection e with _ _ e3 _
    injection e3
  exact ⟨es', n', D, by rw [← e2]; exact T⟩
end U

/-! any plain data, away from the places of S (lists that change) -/
namespace U
open PySem PySem.Spec PyProof.Rows L2
def ws (H : Hp) (S : List Addr) : Hp := fun a => if a ∈ S then none else H a
/-- all of S are lists now -/
def AllL (H : Hp) (S : List Addr) : Prop := ∀ a ∈ S, ∃ xs, H a = some (.lst xs)
section
variable {K : PySem.W.Frag} {H H' : Hp} {S : List Addr}
theorem ws_at {p : Addr} (n : p ∉ S) : ws H S p = H p := by unfold ws; rw [if_neg n]
theorem ws_fr : Fr [] (ws H S) H := fun a o e _ => by
  unfold ws at e
  by_cases h : a ∈ S
  · rw [if_pos h] at e; cases e
  · rw [if_neg h] at e; exact e
theorem Fr.ws {R : List Addr} (f : Fr R H H') (h : ∀ a ∈ R, a ∈ S) : Fr [] (ws H S) (ws H' S) := fun a o e _ => by
  unfold U.ws at *
  by_cases c : a ∈ S
  · rw [if_pos c] at e; cases e
  · rw [if_neg c] at e
    rw [if_neg c]
    exact f a o e fun z => c (h a z)
theorem ws_upd {p : Addr} {o : HO} (n : p ∉ S) : ws (upd H p o) S = upd (ws H S) p o := by
  funext a
  by_cases c : a ∈ S
  · have e : a ≠ p := fun z => n (z ▸ c)
    rw [upd_ne e]
    unfold ws
    rw [if_pos c, if_pos c]
  · rw [ws_at c]
    by_cases e : a = p
    · subst e
      rw [upd_same, upd_same]
    · rw [upd_ne e, upd_ne e, ws_at c]
theorem AllL.new (A : AllL H S) {p : Addr} (hp : H p = none) : p ∉ S := fun z => by
  obtain ⟨xs, e⟩ := A p z
  rw [hp] at e
  cases e
theorem AllL.fr (A : AllL H S) (f : Fr [] H H') : AllL H' S := fun a ha => by
  obtain ⟨xs, e⟩ := A a ha
  exact ⟨xs, f _ _ e (by simp)⟩
theorem AllL.fr1 {t : Addr} (A : AllL H S) (f : Fr [t] H H') (ht : ∃ xs, H' t = some (.lst xs)) : AllL H' S := fun a ha => by
  by_cases c : a = t
  · rw [c]; exact ht
  · obtain ⟨xs, e⟩ := A a ha
    exact ⟨xs, f _ _ e (by simpa using c)⟩
theorem AllL.cons (A : AllL H S) {q : Addr} {xs : List V} (e : H q = some (.lst xs)) : AllL H (q :: S) := fun a ha => by
  rcases List.mem_cons.mp ha with rfl | z
  · exact ⟨xs, e⟩
  · exact A a z
theorem AllL.tail {q : Addr} (A : AllL H (q :: S)) : AllL H S := fun a ha => A a (List.mem_cons_of_mem _ ha)
theorem AllL.wtu (A : AllL H S) : Tu H (ws H S) := fun a ys => by
  have n : ∀ o, H a = some o → (∀ xs, o ≠ .lst xs) → a ∉ S := fun o e h z => by
    obtain ⟨xs, e'⟩ := A a z
    rw [e] at e'
    exact h xs (Option.some.inj e')
  exact ⟨fun e => by rw [ws_at (n _ e fun xs z => by cases z)]; exact e, fun o e => by rw [ws_at (n _ e fun xs z => by cases z)]; exact e⟩
/-- data away from S -/
def Dy (K : PySem.W.Frag) (H : Hp) (S : List Addr) (v : V) (d : PyData) : Prop := Dg K (ws H S) v d
def DyAll (K : PySem.W.Frag) (H : Hp) (S : List Addr) (vs : List V) (ds : List PyData) : Prop := DgAll K (ws H S) vs ds
theorem Dy.dg {v : V} {d : PyData} (h : Dy K H S v d) : Dg K H v d := Dg.fr ws_fr h
theorem Dy.fr {R : List Addr} {v : V} {d : PyData} (h : Dy K H S v d) (f : Fr R H H') (r : ∀ a ∈ R, a ∈ S) : Dy K H' S v d := Dg.fr (f.ws r) h
theorem Dy.fr0 {v : V} {d : PyData} (h : Dy K H S v d) (f : Fr [] H H') : Dy K H' S v d := h.fr f (by simp)
theorem DyAll.fr {R : List Addr} {vs : List V} {ds : List PyData} (h : DyAll K H S vs ds) (f : Fr R H H') (r : ∀ a ∈ R, a ∈ S) : DyAll K H' S vs ds := DgAll.fr (f.ws r) h
theorem DyAll.dg {vs : List V} {ds : List PyData} (h : DyAll K H S vs ds) : DgAll K H vs ds := DgAll.fr ws_fr h
/-- away from a place more, that is not reached since it was not there -/
theorem ws_cons {q : Addr} (hq : H q = none) : ws H (q :: S) = ws H S := by
  funext a
  unfold ws
  by_cases c : a ∈ S
  · rw [if_pos c, if_pos (List.mem_cons_of_mem _ c)]
  · by_cases e : a = q
    · rw [if_neg c, e, hq]
      split <;> rfl
    · rw [if_neg c, if_neg (by simp [e, c])]
theorem Fr.wsc {q : Addr} : Fr [] (U.ws H (q :: S)) (U.ws H S) := fun a o e _ => by
  unfold U.ws at *
  by_cases c : a ∈ q :: S
  · rw [if_pos c] at e; cases e
  · rw [if_neg c] at e
    rw [if_neg fun z => c (List.mem_cons_of_mem _ z)]
    exact e
theorem Dy.less {q : Addr} {v : V} {d : PyData} (h : Dy K H (q :: S) v d) : Dy K H S v d := Dg.fr Fr.wsc h
theorem DyAll.less {q : Addr} {vs : List V} {ds : List PyData} (h : DyAll K H (q :: S) vs ds) : DyAll K H S vs ds := DgAll.fr Fr.wsc h
theorem Dy.more {q : Addr} {o : HO} {v : V} {d : PyData} (h : Dy K H S v d) (hq : H q = none) : Dy K (upd H q o) (q :: S) v d := by
  have h1 : Dy K H (q :: S) v d := by
    unfold Dy
    rw [ws_cons hq]
    exact h
  exact h1.fr (R := []) (Fr.new hq) (by simp)
theorem DyAll.more {q : Addr} {o : HO} {vs : List V} {ds : List PyData} (h : DyAll K H S vs ds) (hq : H q = none) : DyAll K (upd H q o) (q :: S) vs ds := by
  have h1 : DyAll K H (q :: S) vs ds := by
    unfold DyAll
    rw [ws_cons hq]
    exact h
  exact h1.fr (R := []) (Fr.new hq) (by simp)
theorem Dt.dy {v : V} {d : PyData} (A : AllL H S) (h : Dt K H v d) : Dy K H S v d := (h.mono A.wtu).dg
theorem DyAll.append {vs us : List V} {ds es : List PyData} (h : DyAll K H S vs ds) (h' : DyAll K H S us es) : DyAll K H S (vs ++ us) (ds ++ es) := DgAll.append h h'
theorem Dy.tuple {v : V} {ds : List PyData} (h : Dy K H S v (.tuple ds)) : ∃ p vs, v = .ref p ∧ SqT K H p vs ∧ DyAll K H S vs ds := by
  obtain ⟨p, vs, e, s, a⟩ := Dg.tuple h
  exact ⟨p, vs, e, ws_fr.seqT s (by simp), a⟩
theorem Dy.list {v : V} {ds : List PyData} (h : Dy K H S v (.list ds)) : ∃ p vs, v = .ref p ∧ SqL K H p vs ∧ DyAll K H S vs ds := by
  obtain ⟨p, vs, e, s, a⟩ := Dg.list h
  exact ⟨p, vs, e, ws_fr.seqL s (by simp), a⟩
theorem dy_tup {p : Addr} {vs : List V} {ds : List PyData} (A : AllL H S) (hp : H p = none) (a : DyAll K H S vs ds) : Dy K (upd H p (.tup vs)) S (.ref p) (.tuple ds) := by
  have np := A.new hp
  unfold Dy
  rw [ws_upd np]
  exact .tup (.inl (.inl upd_same)) (DgAll.fr (Fr.new (by rw [ws_at np]; exact hp)) a)
theorem dy_lst {p : Addr} {vs : List V} {ds : List PyData} (A : AllL H S) (hp : H p = none) (a : DyAll K H S vs ds) : Dy K (upd H p (.lst vs)) S (.ref p) (.list ds) := by
  have np := A.new hp
  unfold Dy
  rw [ws_upd np]
  exact .lst (SqL.of upd_same) (DgAll.fr (Fr.new (by rw [ws_at np]; exact hp)) a)
theorem mkTy {xs : List V} {ds : List PyData} {Q : VK} (A : AllL H S) (d : DyAll K H S xs ds) (q : ∀ p H', H p = none → Fr [] H H' → Dy K H' S (.ref p) (.tuple ds) → Q (.ref p) H') (n : xs.length ≤ 1000 := by exact Nat.le_of_ble_eq_true rfl) : MkT xs Q H :=
  ⟨Nat.le_trans n (by decide), fun p hp => q p _ hp (Fr.new hp) (dy_tup A hp d)⟩
/-- a list that changes, its items away from itself and from S -/
def Ly (K : PySem.W.Frag) (H : Hp) (S : List Addr) (q : Addr) (ds : List PyData) : Prop := ∃ vs, H q = some (.lst vs) ∧ DyAll K H (q :: S) vs ds
theorem ly_new {p : Addr} {vs : List V} {ds : List PyData} (hp : H p = none) (a : DyAll K H S vs ds) : Ly K (upd H p (.lst vs)) S p ds := ⟨vs, upd_same, a.more hp⟩
theorem mkLy {xs : List V} {ds : List PyData} {Q : VK} (d : DyAll K H S xs ds) (q : ∀ p H', H p = none → Fr [] H H' → Ly K H' S p ds → Q (.ref p) H') (n : xs.length ≤ 1000 := by exact Nat.le_of_ble_eq_true rfl) : MkL xs Q H :=
  ⟨Nat.le_trans n (by decide), fun p hp => q p _ hp (Fr.new hp) (ly_new hp d)⟩
theorem Ly.fr {R : List Addr} {q : Addr} {ds : List PyData} (h : Ly K H S q ds) (f : Fr R H H') (r : ∀ a ∈ R, a ∈ S) (n : q ∉ R) : Ly K H' S q ds := by
  obtain ⟨vs, e, a⟩ := h
  exact ⟨vs, f _ _ e n, a.fr f fun b hb => List.mem_cons_of_mem _ (r b hb)⟩
theorem Ly.fr0 {q : Addr} {ds : List PyData} (h : Ly K H S q ds) (f : Fr [] H H') : Ly K H' S q ds := h.fr f (by simp) (by simp)
theorem Ly.at_ {q : Addr} {ds : List PyData} (h : Ly K H S q ds) : ∃ xs, H q = some (.lst xs) := by
  obtain ⟨vs, e, _⟩ := h
  exact ⟨vs, e⟩
theorem Ly.dy {q : Addr} {ds : List PyData} (h : Ly K H S q ds) (n : q ∉ S) : Dy K H S (.ref q) (.list ds) := by
  obtain ⟨vs, e, a⟩ := h
  exact .lst (SqL.of (by rw [ws_at n]; exact e)) a.less
theorem Ly.len {q : Addr} {ds : List PyData} {Q : VK} (h : Ly K H S q ds) (k : Q (.int ds.length) H) : rLenU K [.ref q] H Q := by
  obtain ⟨vs, e, a⟩ := h
  rw [← DgAll.length a] at k
  exact w_lenL (SqL.of e) k
theorem Ly.slice {q : Addr} {ds : List PyData} {lo hi : Option Int} {Q : VK} (h : Ly K H S q ds) (k : ∀ p H', H p = none → Fr [] H H' → Ly K H' S p (cutA ds lo hi) → Q (.ref p) H') : rSlU K (.ref q) lo hi H Q := by
  obtain ⟨vs, e, a⟩ := h
  exact w_slL (SqL.of e) fun p hp => k p _ hp (Fr.new hp) (ly_new hp (DgAll.cut a.less lo hi))
theorem Ly.cat {q r : Addr} {ds es : List PyData} {Q : VK} (h : Ly K H S q ds) (h' : Ly K H S r es) (n : ds.length + es.length ≤ 100000) (k : ∀ p H', H p = none → Fr [] H H' → Ly K H' S p (ds ++ es) → Q (.ref p) H') : rAddU K (.ref q) (.ref r) H Q := by
  obtain ⟨vs, e, a⟩ := h
  obtain ⟨us, e', a'⟩ := h'
  exact w_addL e e' (by rw [DgAll.length a, DgAll.length a']; omega) fun p hp => k p _ hp (Fr.new hp) (ly_new hp (a.less.append a'.less))
theorem Ly.ix {q : Addr} {ds : List PyData} {i : Int} {Q : VK} (h : Ly K H S q ds) (h0 : 0 ≤ i) (h1 : i < ds.length) (k : ∀ v d, Dy K H (q :: S) v d → ds[i.toNat]? = some d → Q v H) : rIx K (.ref q) (.int i) H Q := by
  obtain ⟨vs, e, a⟩ := h
  have ek : i = ((i.toNat : Nat) : Int) := by omega
  have hk : i.toNat < ds.length := by omega
  obtain ⟨v, hv, dv⟩ := DgAll.at a (List.getElem?_eq_getElem hk)
  refine w_ixL (SqL.of e) ?_ (k v _ dv (List.getElem?_eq_getElem hk))
  rw [ek]
  exact atI_nat hv
/-- a change of the list itself -/
theorem Ly.put {q : Addr} {vs : List V} {ds : List PyData} (A : AllL H (q :: S)) (a : DyAll K H (q :: S) vs ds) : Ly K (upd H q (.lst vs)) S q ds := ⟨vs, upd_same, a.fr (R := [q]) (Fr.mut (by simp)) (by simp)⟩
theorem DgAll.set : ∀ {vs : List V} {ds : List PyData} {v : V} {d : PyData} (j : Nat), DgAll K H vs ds → Dg K H v d → DgAll K H (vs.set j v) (ds.set j d)
  | _, _, _, _, _, .nil, _ => .nil
  | _, _, _, _, 0, .cons x y, b => .cons b y
  | _, _, _, _, j + 1, .cons x y, b => .cons x (DgAll.set j y b)
theorem DyAll.set {vs : List V} {ds : List PyData} {v : V} {d : PyData} (a : DyAll K H S vs ds) (b : Dy K H S v d) (j : Nat) : DyAll K H S (vs.set j v) (ds.set j d) := DgAll.set j a b
theorem DgAll.rev : ∀ {vs : List V} {ds : List PyData}, DgAll K H vs ds → DgAll K H vs.reverse ds.reverse
  | _, _, .nil => .nil
  | _, _, .cons x y => by
    rw [List.reverse_cons, List.reverse_cons]
    exact DgAll.append (DgAll.rev y) (.cons x .nil)
theorem DyAll.reverse {vs : List V} {ds : List PyData} (a : DyAll K H S vs ds) : DyAll K H S vs.reverse ds.reverse := DgAll.rev a
theorem Ly.rev {q : Addr} {ds : List PyData} {Q : VK} (A : AllL H (q :: S)) (h : Ly K H S q ds) (k : ∀ H', Fr [q] H H' → Ly K H' S q ds.reverse → Q .non H') : rReverse (.ref q) [] H Q := by
  obtain ⟨vs, e, a⟩ := h
  exact ⟨q, vs, rfl, rfl, e, k _ (Fr.mut (by simp)) (Ly.put A a.reverse)⟩
theorem Ly.toT {q : Addr} {ds : List PyData} {Q : VK} (A : AllL H S) (h : Ly K H S q ds) (k : ∀ p H', Fr [] H H' → Dy K H' S (.ref p) (.tuple ds) → Q (.ref p) H') : rTupleU K [.ref q] H Q := by
  obtain ⟨vs, e, a⟩ := h
  exact w_tupleL (SqL.of e) fun p hp => k p _ (Fr.new hp) (dy_tup A hp a.less)
theorem Dy.listOf {v : V} {d : PyData} {ds : List PyData} {Q : VK} (h : Dy K H S v d) (e : d = .tuple ds ∨ d = .list ds) (k : ∀ p H', H p = none → Fr [] H H' → Ly K H' S p ds → Q (.ref p) H') : rListU K [v] H Q := by
  rcases e with rfl | rfl
  · obtain ⟨p, vs, rfl, s, a⟩ := h.tuple
    exact w_listT s fun p hp => k p _ hp (Fr.new hp) (ly_new hp a)
  · obtain ⟨p, vs, rfl, s, a⟩ := h.list
    exact w_listL s fun p hp => k p _ hp (Fr.new hp) (ly_new hp a)
theorem Dy.len {v : V} {d : PyData} {ds : List PyData} {Q : VK} (h : Dy K H S v d) (e : d = .tuple ds ∨ d = .list ds) (k : Q (.int ds.length) H) : rLenU K [v] H Q := by
  rcases e with rfl | rfl
  · obtain ⟨p, vs, rfl, s, a⟩ := h.tuple
    rw [← DgAll.length a] at k
    exact w_lenT s k
  · obtain ⟨p, vs, rfl, s, a⟩ := h.list
    rw [← DgAll.length a] at k
    exact w_lenL s k
end
end U

set_option maxHeartbeats 4000000




















namespace LW
open PySem PySem.Spec PyProof.Rows L2 U
def topS (i : Nat) : Stmt := PySem.Challenge.pw_viewwood_k03_what_is_a_reckoning.main.body.getD i (.Pass ⟨0, 0, 0, 0⟩)
abbrev s_is_whole : Stmt := topS 3
abbrev N_is_whole : List Str := ["thing"]
abbrev p_is_whole : List Str := ["thing"]
theorem sc_is_whole : FnScope N_is_whole p_is_whole (defScope s_is_whole) := ⟨rfl, rfl, rfl, by decide +kernel, rfl, by decide +kernel, by decide +kernel⟩
abbrev s_is_number : Stmt := topS 4
abbrev N_is_number : List Str := ["thing"]
abbrev p_is_number : List Str := ["thing"]
theorem sc_is_number : FnScope N_is_number p_is_number (defScope s_is_number) := ⟨rfl, rfl, rfl, by decide +kernel, rfl, by decide +kernel, by decide +kernel⟩
abbrev s_is_name : Stmt := topS 5
abbrev N_is_name : List Str := ["thing", "sign"]
abbrev p_is_name : List Str := ["thing"]
theorem sc_is_name : FnScope N_is_name p_is_name (defScope s_is_name) := ⟨rfl, rfl, rfl, by decide +kernel, rfl, by decide +kernel, by decide +kernel⟩
abbrev s_count_of : Stmt := topS 10
abbrev N_count_of : List Str := ["thing", "counts", "one"]
abbrev p_count_of : List Str := ["thing"]
theorem sc_count_of : FnScope N_count_of p_count_of (defScope s_count_of) := ⟨rfl, rfl, rfl, by decide +kernel, rfl, by decide +kernel, by decide +kernel⟩
abbrev s_is_reckoning : Stmt := topS 11
abbrev N_is_reckoning : List Str := ["thing"]
abbrev p_is_reckoning : List Str := ["thing"]
theorem sc_is_reckoning : FnScope N_is_reckoning p_is_reckoning (defScope s_is_reckoning) := ⟨rfl, rfl, rfl, by decide +kernel, rfl, by decide +kernel, by decide +kernel⟩
abbrev s_law_tape : Stmt := topS 13
abbrev N_law_tape : List Str := ["_law_script"]
abbrev p_law_tape : List Str := ["_law_script"]
theorem sc_law_tape : FnScope N_law_tape p_law_tape (defScope s_law_tape) := ⟨rfl, rfl, rfl, by decide +kernel, rfl, by decide +kernel, by decide +kernel⟩
abbrev s_law_draw : Stmt := topS 14
abbrev N_law_draw : List Str := ["_law_tape_here", "_law_many", "_law_script", "_law_digit", "_law_cell", "_law_mixed"]
abbrev p_law_draw : List Str := ["_law_tape_here", "_law_many"]
theorem sc_law_draw : FnScope N_law_draw p_law_draw (defScope s_law_draw) := ⟨rfl, rfl, rfl, by decide +kernel, rfl, by decide +kernel, by decide +kernel⟩
abbrev s_law_number : Stmt := topS 15
abbrev N_law_number : List Str := ["_law_tape_here"]
abbrev p_law_number : List Str := ["_law_tape_here"]
theorem sc_law_number : FnScope N_law_number p_law_number (defScope s_law_number) := ⟨rfl, rfl, rfl, by decide +kernel, rfl, by decide +kernel, by decide +kernel⟩
abbrev s_law_leaf : Stmt := topS 16
abbrev N_law_leaf : List Str := ["_law_tape_here", "_law_kit", "_law_turns", "_law_way"]
abbrev p_law_leaf : List Str := ["_law_tape_here", "_law_kit", "_law_turns"]
theorem sc_law_leaf : FnScope N_law_leaf p_law_leaf (defScope s_law_leaf) := ⟨rfl, rfl, rfl, by decide +kernel, rfl, by decide +kernel, by decide +kernel⟩
abbrev s_law_sum : Stmt := topS 17
abbrev N_law_sum : List Str := ["_law_tape_here", "_law_kit", "_law_turns", "_law_deep", "_law_way", "_law_word", "_law_many", "_law_k"]
abbrev p_law_sum : List Str := ["_law_tape_here", "_law_kit", "_law_turns", "_law_deep"]
theorem sc_law_sum : FnScope N_law_sum p_law_sum (defScope s_law_sum) := ⟨rfl, rfl, rfl, by decide +kernel, rfl, by decide +kernel, by decide +kernel⟩
abbrev s_law_is_name : Stmt := topS 18
abbrev N_law_is_name : List Str := ["_law_thing", "_law_sign"]
abbrev p_law_is_name : List Str := ["_law_thing"]
theorem sc_law_is_name : FnScope N_law_is_name p_law_is_name (defScope s_law_is_name) := ⟨rfl, rfl, rfl, by decide +kernel, rfl, by decide +kernel, by decide +kernel⟩
abbrev s_law_is_number : Stmt := topS 19
abbrev N_law_is_number : List Str := ["_law_thing"]
abbrev p_law_is_number : List Str := ["_law_thing"]
theorem sc_law_is_number : FnScope N_law_is_number p_law_is_number (defScope s_law_is_number) := ⟨rfl, rfl, rfl, by decide +kernel, rfl, by decide +kernel, by decide +kernel⟩
abbrev s_law_nodes : Stmt := topS 20
abbrev N_law_nodes : List Str := ["_law_thing", "_law_todo", "_law_found", "_law_one", "_law_many"]
abbrev p_law_nodes : List Str := ["_law_thing"]
theorem sc_law_nodes : FnScope N_law_nodes p_law_nodes (defScope s_law_nodes) := ⟨rfl, rfl, rfl, by decide +kernel, rfl, by decide +kernel, by decide +kernel⟩
abbrev s_law_is_sum : Stmt := topS 21
abbrev N_law_is_sum : List Str := ["_law_thing", "_law_nodes_here"]
abbrev p_law_is_sum : List Str := ["_law_thing"]
theorem sc_law_is_sum : FnScope N_law_is_sum p_law_is_sum (defScope s_law_is_sum) := ⟨rfl, rfl, rfl, by decide +kernel, rfl, by decide +kernel, by decide +kernel⟩
abbrev s_law_odd : Stmt := topS 22
abbrev N_law_odd : List Str := ["_law_tape_here", "_law_some"]
abbrev p_law_odd : List Str := ["_law_tape_here"]
theorem sc_law_odd : FnScope N_law_odd p_law_odd (defScope s_law_odd) := ⟨rfl, rfl, rfl, by decide +kernel, rfl, by decide +kernel, by decide +kernel⟩
abbrev s_law_other : Stmt := topS 23
abbrev N_law_other : List Str := ["_law_tape_here", "_law_thing", "_law_way", "_law_some", "_law_at"]
abbrev p_law_other : List Str := ["_law_tape_here", "_law_thing"]
theorem sc_law_other : FnScope N_law_other p_law_other (defScope s_law_other) := ⟨rfl, rfl, rfl, by decide +kernel, rfl, by decide +kernel, by decide +kernel⟩
abbrev s_law_bent : Stmt := topS 24
abbrev N_law_bent : List Str := ["_law_tape_here", "_law_thing", "_law_some", "_law_at"]
abbrev p_law_bent : List Str := ["_law_tape_here", "_law_thing"]
theorem sc_law_bent : FnScope N_law_bent p_law_bent (defScope s_law_bent) := ⟨rfl, rfl, rfl, by decide +kernel, rfl, by decide +kernel, by decide +kernel⟩
abbrev s_law_long : Stmt := topS 25
abbrev N_law_long : List Str := ["_law_tape_here", "_law_many", "_law_found", "_law_word"]
abbrev p_law_long : List Str := ["_law_tape_here", "_law_many"]
theorem sc_law_long : FnScope N_law_long p_law_long (defScope s_law_long) := ⟨rfl, rfl, rfl, by decide +kernel, rfl, by decide +kernel, by decide +kernel⟩
abbrev s_law_right : Stmt := topS 26
abbrev N_law_right : List Str := ["_law_thing", "_law_found"]
abbrev p_law_right : List Str := ["_law_thing"]
theorem sc_law_right : FnScope N_law_right p_law_right (defScope s_law_right) := ⟨rfl, rfl, rfl, by decide +kernel, rfl, by decide +kernel, by decide +kernel⟩
abbrev s_law : Stmt := topS 27
abbrev N_law : List Str := ["_law_script", "_law_tape_here", "_law_kit", "_law_k", "_law_some", "_law_bent_here", "_law_pair"]
abbrev p_law : List Str := ["_law_script"]
theorem sc_law : FnScope N_law p_law (defScope s_law) := ⟨rfl, rfl, rfl, by decide +kernel, rfl, by decide +kernel, by decide +kernel⟩
/-- what the top has left -/
structure Env (K : PySem.W.Frag) (mg : Str → Option Value) : Prop where
  l_is_whole : Loc K mg "is_whole" p_is_whole s_is_whole
  l_is_number : Loc K mg "is_number" p_is_number s_is_number
  l_is_name : Loc K mg "is_name" p_is_name s_is_name
  l_count_of : Loc K mg "count_of" p_count_of s_count_of
  l_is_reckoning : Loc K mg "is_reckoning" p_is_reckoning s_is_reckoning
  l_law_tape : Loc K mg "_law_tape" p_law_tape s_law_tape
  l_law_draw : Loc K mg "_law_draw" p_law_draw s_law_draw
  l_law_number : Loc K mg "_law_number" p_law_number s_law_number
  l_law_leaf : Loc K mg "_law_leaf" p_law_leaf s_law_leaf
  l_law_sum : Loc K mg "_law_sum" p_law_sum s_law_sum
  l_law_is_name : Loc K mg "_law_is_name" p_law_is_name s_law_is_name
  l_law_is_number : Loc K mg "_law_is_number" p_law_is_number s_law_is_number
  l_law_nodes : Loc K mg "_law_nodes" p_law_nodes s_law_nodes
  l_law_is_sum : Loc K mg "_law_is_sum" p_law_is_sum s_law_is_sum
  l_law_odd : Loc K mg "_law_odd" p_law_odd s_law_odd
  l_law_other : Loc K mg "_law_other" p_law_other s_law_other
  l_law_bent : Loc K mg "_law_bent" p_law_bent s_law_bent
  l_law_long : Loc K mg "_law_long" p_law_long s_law_long
  l_law_right : Loc K mg "_law_right" p_law_right s_law_right
  l_law : Loc K mg "law" p_law s_law
  m_abs : mg "abs" = none
  m_all : mg "all" = none
  m_bool : mg "bool" = none
  m_int : mg "int" = none
  m_isinstance : mg "isinstance" = none
  m_len : mg "len" = none
  m_list : mg "list" = none
  m_max : mg "max" = none
  m_range : mg "range" = none
  m_str : mg "str" = none
  m_sum : mg "sum" = none
  m_tuple : mg "tuple" = none
  g_GREATEST : ∃ t, mg "GREATEST" = some (.int 1000000000 t)
  g_LETTERS : ∃ t, mg "LETTERS" = some (.str "abcdefghijklmnopqrstuvwxyz" t)
  g_ASKS : ∃ a, mg "ASKS" = some (.ref a) ∧ KTup K a [.str "take", .str "box", .str "down"]
  g_MANY : True
  g_MOST : ∃ t, mg "MOST" = some (.int 20 t)
theorem Env.pe_GREATEST {X : Cx} {pos : Pos} (T : Env X.K X.mg) (hg : Gl X "GREATEST" := by rfl) : PE X (.Name "GREATEST" pos) (tC (.int 1000000000)) := by
  obtain ⟨t, e⟩ := T.g_GREATEST
  exact pe_glob hg e ⟨_, rfl⟩ (by decide +kernel)
theorem Env.pe_LETTERS {X : Cx} {pos : Pos} (T : Env X.K X.mg) (hg : Gl X "LETTERS" := by rfl) : PE X (.Name "LETTERS" pos) (tC (.str "abcdefghijklmnopqrstuvwxyz")) := by
  obtain ⟨t, e⟩ := T.g_LETTERS
  exact pe_glob hg e ⟨_, rfl⟩ (by decide +kernel)
theorem Env.pe_ASKS {X : Cx} {pos : Pos} (T : Env X.K X.mg) (hg : Gl X "ASKS" := by rfl) : PE X (.Name "ASKS" pos) (tKT X.K [.str "take", .str "box", .str "down"]) := by
  obtain ⟨a, e, k⟩ := T.g_ASKS
  exact pe_ktup (pe_glob hg e rfl (by decide +kernel)) k

theorem Env.pe_MOST {X : Cx} {pos : Pos} (T : Env X.K X.mg) (hg : Gl X "MOST" := by rfl) : PE X (.Name "MOST" pos) (tC (.int 20)) := by
  obtain ⟨t, e⟩ := T.g_MOST
  exact pe_glob hg e ⟨_, rfl⟩ (by decide +kernel)
structure Tabs (w : World) (K : PySem.W.Frag) (mg : Str → Option Value) : Prop where
  t_MANY : ∃ a, mg "MANY" = some (.ref a) ∧ KTb K w a [(("add" : Str), (2 : Int)), (("times" : Str), (2 : Int)), (("less" : Str), (2 : Int)), (("pick" : Str), (3 : Int))]
theorem Tabs.pe_MANY {X : Cx} {pos : Pos} (M : Tabs X.w X.K X.mg) (hg : Gl X "MANY" := by rfl) : PE X (.Name "MANY" pos) (tTab X.K X.w [(("add" : Str), (2 : Int)), (("times" : Str), (2 : Int)), (("less" : Str), (2 : Int)), (("pick" : Str), (3 : Int))]) := by
  obtain ⟨a, e, k⟩ := M.t_MANY
  exact pe_tab (pe_glob hg e rfl (by decide +kernel)) k
local macro_rules | `(tactic| walk_at "s") => `(tactic| first
  | ((with_reducible refine' w_var ?h ?q); (case h => exact rfl))
  | (with_reducible refine' w_c ?_)
  | (with_reducible refine' w_name ?_)
  | (with_reducible refine' w_op ?_)
  | (with_reducible refine' w_nil ?_)
  | (with_reducible refine' w_cons ?_)
  | (with_reducible refine' w_seq ?_)
  | (with_reducible refine' w_asg ?_)
  | (with_reducible refine' w_ret ?_)
  | (with_reducible refine' w_ifS ?_)
  | (with_reducible refine' w_call ?_)
  | (with_reducible refine' w_cb ?_)
  | (with_reducible refine' w_test ?_)
  | (with_reducible refine' w_B ?_)
  | (with_reducible refine' w_addI ?_)
  | (with_reducible refine' w_rI0 ?_)
  | (with_reducible refine' w_eqI ?_)
  | (with_reducible refine' w_eqS ?_)
  | (with_reducible refine' w_eqB ?_)
  | (with_reducible refine' w_neI ?_)
  | (with_reducible refine' w_neS ?_)
  | (with_reducible refine' w_neB ?_)
  | (with_reducible refine' w_bl ?_)
  | (with_reducible refine' w_and ?_)
  | (with_reducible refine' w_or ?_)
  | (with_reducible refine' w_not ?_)
  | (with_reducible refine' w_andV ?_)
  | (with_reducible refine' w_orV ?_)
  | (with_reducible refine' w_notV ?_)
  | (with_reducible refine' w_if ?_)
  | (with_reducible refine' w_isN ?_)
  | (with_reducible refine' w_notN ?_)
  | (with_reducible refine' w_tup ?_)
  | (with_reducible refine' w_lst ?_)
  | (with_reducible refine' w_un ?_)
  | (with_reducible refine' w_rU ?_)
  | (with_reducible refine' w_chain ?_)
  | (with_reducible refine' w_retN ?_)
  | (with_reducible refine' w_drop ?_)
  | (with_reducible refine' w_next ?_)
  | (with_reducible refine' w_sub' ?_)
  | (with_reducible refine' w_for ?_)
  | (with_reducible refine' w_sl ?_)
  | (with_reducible refine' w_part ?_)
  | (with_reducible refine' w_partI ?_)
  | (with_reducible refine' w_nopart ?_)
  | (with_reducible refine' w_bm ?_)
  | (with_reducible refine' w_bm0 ?_)
  | (with_reducible refine' w_lc ?_)
  | ((with_reducible refine' w_wipe ?h ?q); (case h => exact rfl))
  | (with_reducible refine' w_yes ?_)
  | (with_reducible refine' w_N ?_)
  | (with_reducible refine' w_gcons ?_)
  | (with_reducible refine' w_gnil ?_)
  | (with_reducible refine' w_isB ?_)
  | (with_reducible refine' w_nisB ?_)
  | (with_reducible refine' w_iRev ?_)
  | (with_reducible refine' w_iEnum ?_)
  | (with_reducible refine' w_iR1 ?_)
  | (with_reducible refine' w_max ?_)
  | (with_reducible refine' w_min ?_)
  | (with_reducible refine' w_abs ?_)
  | (with_reducible refine' w_intI ?_)
  | (with_reducible refine' w_intB ?_)
  | (with_reducible refine' w_pow9 ?_)
  | (with_reducible refine' w_pow18 ?_)
  | (with_reducible refine' w_pow6 ?_)
  | (with_reducible refine' w_pow59 ?_)
  | (with_reducible refine' w_iR2 ?_)
  | (with_reducible refine' w_iL ?_)
  | (with_reducible refine' w_iT ?_)
  | (with_reducible refine' is_non_int ?_)
  | (with_reducible refine' is_non_bool ?_)
  | (with_reducible refine' is_non_str ?_)
  | (with_reducible refine' is_non_tuple ?_)
  | (with_reducible refine' is_non_list ?_)
  | (with_reducible refine' is_non_dict ?_)
  | (with_reducible refine' is_bl_int ?_)
  | (with_reducible refine' is_bl_bool ?_)
  | (with_reducible refine' is_bl_str ?_)
  | (with_reducible refine' is_bl_tuple ?_)
  | (with_reducible refine' is_bl_list ?_)
  | (with_reducible refine' is_bl_dict ?_)
  | (with_reducible refine' is_int_int ?_)
  | (with_reducible refine' is_int_bool ?_)
  | (with_reducible refine' is_int_str ?_)
  | (with_reducible refine' is_int_tuple ?_)
  | (with_reducible refine' is_int_list ?_)
  | (with_reducible refine' is_int_dict ?_)
  | (with_reducible refine' is_str_int ?_)
  | (with_reducible refine' is_str_bool ?_)
  | (with_reducible refine' is_str_str ?_)
  | (with_reducible refine' is_str_tuple ?_)
  | (with_reducible refine' is_str_list ?_)
  | (with_reducible refine' is_str_dict ?_)
  | (with_reducible refine' w_inSign ?_)
  | (with_reducible refine' w_ninSign ?_)
  | (with_reducible refine' w_mG ?_)
  | (with_reducible refine' w_dget ?_)
  | (with_reducible refine' w_iZip ?_)
  | (with_reducible refine' w_iItemsN ?_)
  | (with_reducible refine' w_iValsN ?_)
  | (with_reducible refine' w_dnew ?_)
  | (with_reducible refine' w_iS ?_)
  | (with_reducible refine' w_iRevR ?_)
  | (with_reducible refine' iteT ?_)
  | (with_reducible refine' iteF ?_)
  | (with_reducible refine' iteNT ?_)
  | (with_reducible refine' iteNF ?_))
local macro_rules | `(tactic| walk_at "go") => `(tactic| repeat walk_at "s")

/-! ### the law's own draws: nothing is known of a number drawn but its bounds -/
/-- a tape: script, count, rest, place; all that stood at first stands -/
def Tape (K : PySem.W.Frag) (H0 H : Hp) (t : Addr) : Prop := (∃ (a : Addr) (ns : List Int) (n d p : Int), H t = some (.lst [.ref a, .int n, .int d, .int p]) ∧ SqL K H0 a (ns.map V.int) ∧ 0 ≤ p) ∧ Fr [] H0 H ∧ H0 t = none
section
variable {K : PySem.W.Frag} {H0 H H' : Hp} {t q : Addr}
theorem Tape.fr (T : Tape K H0 H t) (e : Fr [] H H') : Tape K H0 H' t := by
  obtain ⟨⟨a, ns, n, d, p, h1, h2, h3⟩, h4, h5⟩ := T
  exact ⟨⟨a, ns, n, d, p, e _ _ h1 (by simp), h2, h3⟩, h4.trans e, h5⟩
theorem Tape.new (T : Tape K H0 H t) {o : HO} (h : H q = none) : Tape K H0 (upd H q o) t := T.fr (Fr.new h)
theorem Tape.ne (T : Tape K H0 H t) (h : H q = none) : q ≠ t := by
  rintro rfl
  obtain ⟨⟨_, _, _, _, _, e, _⟩, _⟩ := T
  rw [h] at e
  cases e
theorem Tape.no (T : Tape K H0 H t) (h : H q = none) : H0 q = none := T.2.1.free h
/-- what is new changes -/
theorem Tape.mut (T : Tape K H0 H t) {o : HO} (nq : q ≠ t) (n0 : H0 q = none) : Tape K H0 (upd H q o) t := by
  obtain ⟨⟨a, zs, n, d, p, h1, h2, h4⟩, f, h5⟩ := T
  refine ⟨⟨a, zs, n, d, p, ?_, h2, h4⟩, fun b u e z => ?_, h5⟩
  · rw [upd_ne nq.symm]; exact h1
  · rw [upd_ne (by rintro rfl; rw [n0] at e; cases e)]
    exact f b u e z
theorem Tape.fr1 (T : Tape K H0 H t) (e : Fr [q] H H') (nq : q ≠ t) (n0 : H0 q = none) : Tape K H0 H' t := by
  obtain ⟨⟨a, zs, n, d, p, h1, h2, h4⟩, f, h5⟩ := T
  exact ⟨⟨a, zs, n, d, p, e _ _ h1 (by simpa using nq.symm), h2, h4⟩, Fr.drop1 n0 f e, h5⟩
theorem Tape.free1 (T : Tape K H0 H t) (f : Fr [t] H H') (h : H' q = none) (nq : q ≠ t) : H q = none := by
  cases e : H q with
  | none => rfl
  | some o =>
    have z := f q o e (by simpa using nq)
    rw [h] at z
    cases z
theorem Tape.tu (T : Tape K H0 H t) (f : Fr [t] H H') : Tu H H' := by
  obtain ⟨⟨a, zs, n, d, p, h1, _⟩, _⟩ := T
  exact f.tu1 h1
end
def sp_law_tape (K : PySem.W.Frag) : Sp := fun vs H Q _ => ∃ (a : Addr) (ns : List Int), vs = [.ref a] ∧ SqL K H a (ns.map V.int) ∧ ∀ t H', H t = none → Fr [] H H' → Tape K H H' t → Q (.ref t) H'
def sp_law_draw (K : PySem.W.Frag) : Sp := fun vs H Q _ => ∃ (t : Addr) (m : Int) (H0 : Hp), vs = [.ref t, .int m] ∧ Tape K H0 H t ∧ 0 < m ∧ m < 2 ^ 64 ∧ ∀ r H', 0 ≤ r → r < m → Fr [t] H H' → Tape K H0 H' t → Q (.int r) H'
section
variable {P : Program} {w : World} {K : PySem.W.Frag} {mg : Str → Option Value} {base : Heap}
theorem ok_law_tape (T : Env K mg) : Fx P w K mg base 1 "_law_tape" p_law_tape (sp_law_tape K) := by
  refine T.l_law_tape.ok sc_law_tape (fun vs H Q E h => ?_) (fun f cdv A outer s H vs Q E hr h => ?_)
  · obtain ⟨a, ns, rfl, _⟩ := h
    rfl
  · obtain ⟨a, ns, rfl, hS, k⟩ := h
    refine ⟨_, (pss_one (ps_ret (pe_lst (pa_cons (pv 0) (pa_cons pe_int (pa_cons pe_int (pa_cons pe_int pa_nil))))))), ?_⟩
    walk_at "go"
    refine ⟨by show 4 ≤ sizeLine; decide, fun t ht => ?_⟩
    exact k t _ ht (Fr.new ht) ⟨⟨a, ns, 0, 0, 0, upd_same, hS, Int.le_refl 0⟩, Fr.new ht, ht⟩
theorem ok_law_draw (T : Env K mg) : Fx P w K mg base 1 "_law_draw" p_law_draw (sp_law_draw K) := by
  refine T.l_law_draw.ok sc_law_draw (fun vs H Q E h => ?_) (fun f cdv A outer s H vs Q E hr h => ?_)
  · obtain ⟨t, m, _, rfl, _⟩ := h
    rfl
  · obtain ⟨t, m, H0, rfl, hT, m0, m64, k⟩ := h
    obtain ⟨⟨a, ns, n, d, p, ht, hS0, hp⟩, f0, n0⟩ := hT
    have hS : SqL K H a (ns.map V.int) := f0.seqL hS0 (by simp)
    have keep : ∀ H', Fr [t] H H' → Fr [] H0 H' := fun H' f b o e _ => f b o (f0 b o e (by simp)) (by
      intro z
      rw [List.mem_singleton.mp z, n0] at e
      cases e)
    refine ⟨_, (pss_cons (ps_set (i := 2) sc_law_draw.nd rfl (Or.inl rfl) (pe_ix (ix_U (K := K) rfl) (pv 0) pe_int (fun _ _ => rfl)))
      (pss_cons (ps_asg (pe_op (op_addU (K := K) rfl) (pe_ix (ix_U (K := K) rfl) (pv 0) pe_int (fun _ _ => rfl)) pe_int) (pg_sub (pv 0) pe_int set_list))
      (C8.pss_cut (ps_if (PW.pt (pw_and (pt_cmpR (op_eqU (K := K) rfl (u64 hr)) (pe_ix (ix_U (K := K) rfl) (pv 0) pe_int (fun _ _ => rfl)) pe_int (nomark _)) (pw_and1 (pt_cmpR op_lt (pe_ix (ix_U (K := K) rfl) (pv 0) pe_int (fun _ _ => rfl)) (pe_callB (call_lenU (K := K) rfl) (by rfl) T.m_len (by decide +kernel) (pa_cons (pv 2) pa_nil)) (nomark _))))) (pss_cons (ps_asg (pe_op op_fdivW (pe_callB call_absU (by rfl) T.m_abs (by decide +kernel) (pa_cons (pe_ix (ix_U (K := K) rfl) (pv 2) (pe_ix (ix_U (K := K) rfl) (pv 0) pe_int (fun _ _ => rfl)) (fun _ _ => rfl)) pa_nil)) (pe_op op_pow pe_int pe_int)) (pg_sub (pv 0) pe_int set_list))
      (pss_one (ps_asg (pe_op (op_addU (K := K) rfl) (pe_ix (ix_U (K := K) rfl) (pv 0) pe_int (fun _ _ => rfl)) pe_int) (pg_sub (pv 0) pe_int set_list)))) pss_nil)
      (pss_cons (ps_if (pt_cmpR op_gt (pe_ix (ix_U (K := K) rfl) (pv 0) pe_int (fun _ _ => rfl)) pe_int (nomark _)) (pss_cons (ps_set (i := 3) sc_law_draw.nd rfl (Or.inl rfl) (pe_op op_mod (pe_ix (ix_U (K := K) rfl) (pv 0) pe_int (fun _ _ => rfl)) (pv 1)))
      (pss_cons (ps_asg (pe_op op_fdivW (pe_ix (ix_U (K := K) rfl) (pv 0) pe_int (fun _ _ => rfl)) (pv 1)) (pg_sub (pv 0) pe_int set_list))
      (pss_one (ps_ret (pv 3))))) pss_nil)
      (pss_cons (ps_set (i := 4) sc_law_draw.nd rfl (Or.inl rfl) pe_int)
      (C8.pss_cut (ps_if (pt_cmpR op_gt (pe_callB (call_lenU (K := K) rfl) (by rfl) T.m_len (by decide +kernel) (pa_cons (pv 2) pa_nil)) pe_int (nomark _)) (pss_one (ps_set (i := 4) sc_law_draw.nd rfl (Or.inl rfl) (pe_ix (ix_U (K := K) rfl) (pv 2) (pe_op op_mod (pe_ix (ix_U (K := K) rfl) (pv 0) pe_int (fun _ _ => rfl)) (pe_callB (call_lenU (K := K) rfl) (by rfl) T.m_len (by decide +kernel) (pa_cons (pv 2) pa_nil))) (fun _ _ => rfl)))) pss_nil)
      (pss_cons (ps_set (i := 5) sc_law_draw.nd rfl (Or.inl rfl) (pe_op op_mod (pe_op (op_addU (K := K) rfl) (pe_op (op_addU (K := K) rfl) (pe_op op_mulU (pe_op op_mod (pv 4) pe_int) pe_int) (pe_op op_mulU (pe_ix (ix_U (K := K) rfl) (pv 0) pe_int (fun _ _ => rfl)) pe_int)) pe_int) pe_int))
      (pss_cons (ps_set (i := 5) sc_law_draw.nd rfl (Or.inl rfl) (pe_op op_mod (pe_op op_mulU (pv 5) (pe_op (op_addU (K := K) rfl) (pv 5) pe_int)) pe_int))
      (pss_one (ps_ret (pe_op op_mod (pe_op op_mod (pe_op op_mulU (pv 5) pe_int) pe_int) (pv 1)))))))))))), ?_⟩
    walk_at "go"
    refine w_ixL (SqL.of ht) rfl ?_
    walk_at "go"
    refine w_ixL (SqL.of ht) rfl ?_
    walk_at "go"
    refine w_setL ht rfl ?_
    generalize hH1 : upd H t _ = H1
    have f1 : Fr [t] H H1 := by rw [← hH1]; exact Fr.mut (by simp)
    have t1 : H1 t = some (.lst [.ref a, .int (n + 1), .int d, .int p]) := by rw [← hH1]; exact upd_same
    refine w_cut (fun σ' H' => σ' = [some (.ref t), some (.int m), some (.ref a), none, none, none] ∧ Fr [t] H H' ∧ ∃ d p, H' t = some (.lst [.ref a, .int (n + 1), .int d, .int p]) ∧ 0 ≤ p) ?_ ?_
    · walk_at "go"
      refine w_ixL (SqL.of t1) rfl ?_
      walk_at "go"
      have end0 : ∀ d p, 0 ≤ p → ∀ H', Fr [t] H H' → H' t = some (.lst [.ref a, .int (n + 1), .int d, .int p]) → ([some (.ref t), some (.int m), some (.ref a), none, none, none] : L2.St) = [some (.ref t), some (.int m), some (.ref a), none, none, none] ∧ Fr [t] H H' ∧ ∃ d p, H' t = some (.lst [.ref a, .int (n + 1), .int d, .int p]) ∧ 0 ≤ p :=
        fun d p hp H' f e => ⟨rfl, f, d, p, e, hp⟩
      refine ite_d (fun h0 => ?_) (fun h0 => ?_)
      · walk_at "go"
        refine w_ixL (SqL.of t1) rfl ?_
        walk_at "go"
        have hS1 : SqL K H1 a (ns.map V.int) := (keep _ f1).seqL hS0 (by simp)
        refine w_lenL hS1 ?_
        walk_at "go"
        refine ite_d (fun h1 => ?_) (fun h1 => ?_)
        · rw [List.length_map] at h1
          obtain ⟨z, hz, _⟩ := at_int hp h1
          walk_at "go"
          refine w_ixL (SqL.of t1) rfl ?_
          walk_at "go"
          refine w_ixL hS1 hz ?_
          walk_at "go"
          refine w_rI ⟨by decide, by decide +kernel⟩ ?_
          walk_at "go"
          refine w_setL t1 rfl ?_
          walk_at "go"
          refine w_ixL (SqL.of upd_same) rfl ?_
          walk_at "go"
          refine w_setL upd_same rfl ?_
          refine end0 _ (p + 1) (by omega) _ ?_ upd_same
          exact (f1.trans (Fr.mut (by simp))).trans (Fr.mut (by simp))
        · walk_at "go"
          exact end0 d p hp H1 f1 t1
      · walk_at "go"
        exact end0 d p hp H1 f1 t1
    · rintro σ' H2 ⟨rfl, f2, d, p, t2, hp⟩
      have hS2 : SqL K H2 a (ns.map V.int) := (keep _ f2).seqL hS0 (by simp)
      have fin : ∀ x, Q (.int (x % m)) H2 := fun x => k _ H2 (Int.emod_nonneg _ (by omega)) (Int.emod_lt_of_pos _ m0) f2 ⟨⟨a, ns, n + 1, d, p, t2, hS0, hp⟩, keep _ f2, n0⟩
      walk_at "go"
      refine w_ixL (SqL.of t2) rfl ?_
      walk_at "go"
      refine ite_d (fun h0 => ?_) (fun h0 => ?_)
      · walk_at "go"
        refine w_ixL (SqL.of t2) rfl ?_
        walk_at "go"
        refine w_rI m0 ?_
        walk_at "go"
        refine w_ixL (SqL.of t2) rfl ?_
        walk_at "go"
        refine w_rI (wide_div m0 (b := 64) (by omega) (by decide) (by decide)) ?_
        walk_at "go"
        refine w_setL t2 rfl ?_
        walk_at "go"
        have f3 : Fr [t] H (upd H2 t (.lst [.ref a, .int (n + 1), .int (d / m), .int p])) := f2.trans (Fr.mut (by simp))
        exact k _ _ (Int.emod_nonneg _ (by omega)) (Int.emod_lt_of_pos _ m0) f3 ⟨⟨a, ns, n + 1, d / m, p, upd_same, hS0, hp⟩, keep _ f3, n0⟩
      · walk_at "go"
        refine w_cut (fun σ' H' => H' = H2 ∧ ∃ z, σ' = [some (.ref t), some (.int m), some (.ref a), none, some (.int z), none]) ?_ ?_
        · walk_at "go"
          refine w_lenL hS2 ?_
          walk_at "go"
          refine ite_d (fun h1 => ?_) (fun h1 => ?_)
          · rw [List.length_map] at h1
            walk_at "go"
            refine w_ixL (SqL.of t2) rfl ?_
            walk_at "go"
            refine w_lenL hS2 ?_
            rw [List.length_map]
            refine w_rI h1 ?_
            obtain ⟨z, hz, _⟩ := at_int (ns := ns) (p := (n + 1) % (ns.length : Int)) (Int.emod_nonneg _ (by omega)) (Int.emod_lt_of_pos _ h1)
            refine w_ixL hS2 hz ?_
            walk_at "go"
            exact ⟨rfl, z, rfl⟩
          · walk_at "go"
            exact ⟨rfl, 0, rfl⟩
        · rintro σ' H' ⟨rfl, z, rfl⟩
          walk_at "go"
          refine w_rI (by show (0 : Int) < 2147483647; decide) ?_
          refine w_mulI (.inr (by decide)) ?_
          walk_at "go"
          refine w_ixL (SqL.of t2) rfl ?_
          walk_at "go"
          refine w_mulI (.inr (by decide)) ?_
          walk_at "go"
          refine w_rI (by show (0 : Int) < 2147483629; decide) ?_
          walk_at "go"
          have b1 : ∀ y : Int, 0 ≤ y % 2147483629 ∧ y % 2147483629 < 2147483629 := fun y => ⟨Int.emod_nonneg _ (by decide), Int.emod_lt_of_pos _ (by decide)⟩
          generalize he : (_ : Int) % 2147483629 = e
          have b2 : 0 ≤ e ∧ e < 2147483629 := by rw [← he]; exact b1 _
          refine w_mulI (.inl (by constructor <;> omega)) ?_
          walk_at "go"
          refine w_rI (by show (0 : Int) < 2147483587; decide) ?_
          walk_at "go"
          refine w_mulI (.inr (by decide)) ?_
          walk_at "go"
          refine w_rI (by show (0 : Int) < 2147483563; decide) ?_
          walk_at "go"
          refine w_rI m0 ?_
          exact fin _
end

/-! ### comprehensions that draw -/
section
variable {K : PySem.W.Frag} {H0 H : Hp} {t : Addr}
theorem LC_tape {m : Int} {j : Nat} {ws : List Nat} {σ : L2.St} {te : TE} {Q : VK} (n : Nat) (P : PyData → Prop) (T : Tape K H0 H t) (hn : m.toNat = n) (h1 : -(2 ^ 62) ≤ m) (h2 : m < 2 ^ 62) (ln : n ≤ 100000)
    (hw : ∀ v, wipe ((wipe σ ws).set j (some v)) ws = wipe σ ws)
    (he : ∀ (i : Nat) H', i < n → Tape K H0 H' t → Fr [t] H H' → ∀ Q : VK, (∀ y d H2, Fr [t] H' H2 → Tape K H0 H2 t → Dt K H2 y d → P d → Q y H2) → te ((wipe σ ws).set j (some (.int i))) H' Q)
    (k : ∀ D H' ds, H D = none → Fr [t] H H' → Tape K H0 H' t → Lq K H' D ds → ds.length = n → (∀ d ∈ ds, P d) → Q (.ref D) H') :
    ∃ j' : Int, [V.int m] = [.int j'] ∧ -(2 ^ 62) ≤ j' ∧ j' < 2 ^ 62 ∧ ∀ D, H D = none → LC (Itr 0 j'.toNat) (gName j) tYes te ws σ D Q (upd H D (.lst [])) := by
  refine LC_R1 n hn h1 h2 fun D hD => ⟨fun i H' => Fr [t] H H' ∧ Tape K H0 H' t ∧ ∃ ds, Lq K H' D ds ∧ ds.length = i ∧ ∀ d ∈ ds, P d, ⟨Fr.new hD, T.new hD, [], ⟨[], upd_same, .nil⟩, rfl, by simp⟩, ?_, ?_⟩
  · rintro i H' hi ⟨f', T', ds, L, ld, pd⟩
    refine ⟨hw _, ?_⟩
    refine w_yes (iteT ?_)
    have nD := T.ne hD
    refine he i H' hi T' f' _ fun y d H2 f2 T2 dy py => ?_
    have L2' := L.fr f2 (by simpa using nD) (T'.tu f2)
    obtain ⟨ys, hys, dys⟩ := L2'
    refine ⟨ys, hys, Nat.lt_of_le_of_lt (show ys.length ≤ 100000 by rw [dys.length]; omega) (by decide), Fr.drop1 hD (f'.trans f2) (Fr.mut (by simp)), T2.mut nD (T.no hD), ds ++ [d], ⟨_, upd_same, (dys.append (.cons dy .nil)).mono (Tu.mut hys)⟩, by simp [ld], ?_⟩
    intro z hz
    rcases List.mem_append.mp hz with a | a
    · exact pd z a
    · rw [List.mem_singleton.mp a]; exact py
  · rintro H' ⟨f', T', ds, L, ld, pd⟩
    exact k D H' ds hD f' T' L ld pd
theorem _root_.U.Fr.free1' {H H' : Hp} {t a : Addr} (f : Fr [t] H H') (h : H' a = none) (n : a ≠ t) : H a = none := by
  cases e : H a with
  | none => rfl
  | some o =>
    have z := f a o e (by simpa using n)
    rw [h] at z
    cases z
end

/-! ### whole numbers, numbers, of any plain thing -/
def isWholeD : PyData → Bool
  | .int _ => true
  | _ => false
def isNumD : PyData → Bool
  | .int i => decide (-1000000000 ≤ i) && decide (i ≤ 1000000000)
  | _ => false
def isRankD : PyData → Bool
  | .int i => decide (1 ≤ i) && decide (i ≤ 3)
  | _ => false
section
variable {P : Program} {w : World} {K : PySem.W.Frag} {mg : Str → Option Value} {base : Heap}

def sp_is_whole (K : PySem.W.Frag) : Sp := fun vs H Q _ => ∃ v d, vs = [v] ∧ Dg K H v d ∧ Q (.bl (isWholeD d)) H
theorem ok_is_whole (T : Env K mg) : Fx P w K mg base 1 "is_whole" p_is_whole (sp_is_whole K) := by
  refine T.l_is_whole.ok sc_is_whole (fun vs H Q E h => ?_) (fun f cdv A outer s H vs Q E hr h => ?_)
  · obtain ⟨v, d, rfl, _⟩ := h
    rfl
  · obtain ⟨v, d, rfl, D, k⟩ := h
    refine ⟨_, (pss_one (ps_ret (pe_and (pe_callB (call_isiU (K := K) rfl) (by rfl) T.m_isinstance (by decide +kernel) (pa_cons (pv 0) (pa_cons (pe_bltn (v := .ty "int") (u := .type "int") rfl T.m_int (by decide +kernel) rfl) pa_nil))) (pe_one (pe_not (pe_callB (call_isiU (K := K) rfl) (by rfl) T.m_isinstance (by decide +kernel) (pa_cons (pv 0) (pa_cons (pe_bltn (v := .ty "bool") (u := .type "bool") rfl T.m_bool (by decide +kernel) rfl) pa_nil)))))))), ?_⟩
    walk_at "go"
    cases D with
    | non => walk_at "go"; exact k
    | bl b => walk_at "go"; exact k
    | int i => walk_at "go"; exact k
    | str x => walk_at "go"; exact k
    | tup s _ => refine isT_int s ?_; walk_at "go"; exact k
    | lst s _ => refine isL_int s ?_; walk_at "go"; exact k
    | dct s => refine isD_int s ?_; walk_at "go"; exact k


def sp_is_number (K : PySem.W.Frag) : Sp := fun vs H Q _ => ∃ v d, vs = [v] ∧ Dg K H v d ∧ Q (.bl (isNumD d)) H
theorem ok_is_number (T : Env K mg) : Fx P w K mg base 2 "is_number" p_is_number (sp_is_number K) := by
  refine T.l_is_number.ok sc_is_number (fun vs H Q E h => ?_) (fun f cdv A outer s H vs Q E hr h => ?_)
  · obtain ⟨v, d, rfl, _⟩ := h
    rfl
  · obtain ⟨v, d, rfl, D, k⟩ := h
    refine ⟨_, (pss_one (ps_ret (pe_and (pe_fx (ok_is_whole (P := P) (w := w) T) hr (by decide) (pa_cons (pv 0) pa_nil)) (pe_one (pe_chain op_le op_le (pe_op op_sub pe_int T.pe_GREATEST) (pv 0) T.pe_GREATEST))))), ?_⟩
    walk_at "go"
    refine ⟨v, d, rfl, D, ?_⟩
    cases D with
    | int i =>
      have k : Q (.bl (decide (-1000000000 ≤ i) && decide (i ≤ 1000000000))) H := k
      rw [show isWholeD (.int i) = true from rfl]
      walk_at "go"
      refine ite_d (fun h0 => ?_) (fun h0 => ?_)
      · rw [decide_eq_true (by omega : (-1000000000 : Int) ≤ i), Bool.true_and] at k
        walk_at "go"
        exact k
      · rw [decide_eq_false (by omega : ¬ (-1000000000 : Int) ≤ i), Bool.false_and] at k
        exact k
    | non => walk_at "go"; exact k
    | bl b => walk_at "go"; exact k
    | str x => walk_at "go"; exact k
    | tup s _ => walk_at "go"; exact k
    | lst s _ => walk_at "go"; exact k
    | dct s => walk_at "go"; exact k


def sp_law_is_number (K : PySem.W.Frag) : Sp := fun vs H Q _ => ∃ v d, vs = [v] ∧ Dg K H v d ∧ Q (.bl (isNumD d)) H
theorem ok_law_is_number (T : Env K mg) : Fx P w K mg base 1 "_law_is_number" p_law_is_number (sp_law_is_number K) := by
  refine T.l_law_is_number.ok sc_law_is_number (fun vs H Q E h => ?_) (fun f cdv A outer s H vs Q E hr h => ?_)
  · obtain ⟨v, d, rfl, _⟩ := h
    rfl
  · obtain ⟨v, d, rfl, D, k⟩ := h
    refine ⟨_, (pss_one (ps_ret (pe_and (pe_callB (call_isiU (K := K) rfl) (by rfl) T.m_isinstance (by decide +kernel) (pa_cons (pv 0) (pa_cons (pe_bltn (v := .ty "int") (u := .type "int") rfl T.m_int (by decide +kernel) rfl) pa_nil))) (pe_and (pe_not (pe_callB (call_isiU (K := K) rfl) (by rfl) T.m_isinstance (by decide +kernel) (pa_cons (pv 0) (pa_cons (pe_bltn (v := .ty "bool") (u := .type "bool") rfl T.m_bool (by decide +kernel) rfl) pa_nil)))) (pe_one (pe_chain op_le op_le (pe_un un_neg (pe_op op_pow pe_int pe_int)) (pv 0) (pe_op op_pow pe_int pe_int))))))), ?_⟩
    walk_at "go"
    cases D with
    | int i =>
      have k : Q (.bl (decide (-1000000000 ≤ i) && decide (i ≤ 1000000000))) H := k
      walk_at "go"
      refine ite_d (fun h0 => ?_) (fun h0 => ?_)
      · rw [decide_eq_true h0, Bool.true_and] at k
        walk_at "go"
        exact k
      · rw [decide_eq_false h0, Bool.false_and] at k
        exact k
    | non => walk_at "go"; exact k
    | bl b => walk_at "go"; exact k
    | str x => walk_at "go"; exact k
    | tup s _ => refine isT_int s ?_; walk_at "go"; exact k
    | lst s _ => refine isL_int s ?_; walk_at "go"; exact k
    | dct s => refine isD_int s ?_; walk_at "go"; exact k



end

/-! ### names -/
def letters : Str := "abcdefghijklmnopqrstuvwxyz"
def isNameD : PyData → Bool
  | .str x => decide (1 ≤ x.length) && decide (x.length ≤ 8) && x.cps.toList.all (fun c => decide (c ∈ letters.cps.toList))
  | _ => false

section
variable {P : Program} {w : World} {K : PySem.W.Frag} {mg : Str → Option Value} {base : Heap}
def sp_is_name (K : PySem.W.Frag) : Sp := fun vs H Q _ => ∃ v d, vs = [v] ∧ Dg K H v d ∧ (∀ x, d = .str x → TxOk 1000 x) ∧ ∀ H', Fr [] H H' → Q (.bl (isNameD d)) H'
theorem ok_is_name (T : Env K mg) : Fx P w K mg base 1 "is_name" p_is_name (sp_is_name K) := by
  refine T.l_is_name.ok sc_is_name (fun vs H Q E h => ?_) (fun f cdv A outer s H vs Q E hr h => ?_)
  · obtain ⟨v, d, rfl, _⟩ := h
    rfl
  · obtain ⟨v, d, rfl, D, lx, k⟩ := h
    refine ⟨_, (pss_cons (ps_if (PW.pt (pw_or (pt_not (pt_val (pe_callB (call_isiU (K := K) rfl) (by rfl) T.m_isinstance (by decide +kernel) (pa_cons (pv 0) (pa_cons (pe_bltn (v := .ty "str") (u := .type "str") rfl T.m_str (by decide +kernel) rfl) pa_nil))))) (pw_or (pt_cmpR op_lt (pe_callB (call_lenU (K := K) rfl) (by rfl) T.m_len (by decide +kernel) (pa_cons (pv 0) pa_nil)) pe_int (nomark _)) (pw_or1 (pt_cmpR op_gt (pe_callB (call_lenU (K := K) rfl) (by rfl) T.m_len (by decide +kernel) (pa_cons (pv 0) pa_nil)) pe_int (nomark _)))))) (pss_one (ps_ret pe_bl)) pss_nil)
      (pss_one (ps_ret (pe_callB (call_allU (K := K) rfl rfl) (by rfl) T.m_all (by decide +kernel) (pa_cons (pe_lc (own := [("sign", 1)]) (g := (gName 1)) (tt := tYes) rfl sc_is_name.nd (pi_str (pv 0)) (blkOk_by (N := N_is_name) (sc := defScope s_is_name) (by decide +kernel)) (fun _ _ _ _ _ => (pg_name (i := 1) sc_is_name.nd rfl (Or.inl rfl))) (fun _ _ _ _ _ => pts_nil) (fun _ _ _ _ _ => (pe_cmpR (op_inU (K := K) rfl (u65 hr)) (pv 1) T.pe_LETTERS (by rfl)))) pa_nil))))), ?_⟩
    walk_at "go"
    cases D with
    | str x =>
      have k : ∀ H', Fr [] H H' → Q (.bl (decide (1 ≤ x.length) && decide (x.length ≤ 8) && x.cps.toList.all (fun c => decide (c ∈ letters.cps.toList)))) H' := k
      have lx : x.length ≤ 1000 := (lx x rfl).1
      have lz : x.length ≤ sizeLine := Nat.le_trans lx (by decide)
      walk_at "go"
      refine w_lenS lz ?_
      walk_at "go"
      refine ite_d (fun h0 => ?_) (fun h0 => ?_)
      · rw [decide_eq_false (by omega : ¬ 1 ≤ x.length)] at k
        walk_at "go"
        exact k H Fr.refl
      · walk_at "go"
        refine w_lenS lz ?_
        walk_at "go"
        refine ite_d (fun h1 => ?_) (fun h1 => ?_)
        · rw [decide_eq_false (by omega : ¬ x.length ≤ 8), Bool.and_false] at k
          walk_at "go"
          exact k H Fr.refl
        · rw [decide_eq_true (by omega : 1 ≤ x.length), decide_eq_true (by omega : x.length ≤ 8)] at k
          walk_at "go"
          refine LCS (K := K) (x := x) (fun _ => true) (fun c => .bool (decide (c ∈ letters.cps.toList))) (by omega) ?_ ?_ ?_ fun D H1 nD f1 L1 => ?_
          · intro v; rfl
          · intro c H' f' QB q
            walk_at "go"
            exact q
          · intro c H' f' _ Q q
            walk_at "go"
            exact q _ (.bl _)
          · rw [List.filter_eq_self.mpr (by simp)] at L1
            rw [show (List.map (fun c => PyData.bool (decide (c ∈ letters.cps.toList))) x.cps.toList) = (x.cps.toList.map fun c => decide (c ∈ letters.cps.toList)).map PyData.bool by rw [List.map_map]; rfl] at L1
            walk_at "go"
            refine L1.allB ?_
            have z := k H1 f1
            rw [List.all_map]
            exact z
    | non => walk_at "go"; exact k H Fr.refl
    | bl b => walk_at "go"; exact k H Fr.refl
    | int i => walk_at "go"; exact k H Fr.refl
    | tup s _ => refine isT_str s ?_; walk_at "go"; exact k H Fr.refl
    | lst s _ => refine isL_str s ?_; walk_at "go"; exact k H Fr.refl
    | dct s => refine isD_str s ?_; walk_at "go"; exact k H Fr.refl
end


/-! ### reckonings: which things are one, and how many there are within -/
def many : List (Str × Int) := [("add", 2), ("times", 2), ("less", 2), ("pick", 3)]
/-- what stands within; none where it is no reckoning by itself -/
def shp : PyData → Option (List PyData)
  | .tuple (.str a :: r) => if r = [] then none else if a = "num" then (if (decide (r.length = 1) && isNumD (r.headD .none)) = true then some [] else none)
      else if a = "turn" ∨ a = "take" ∨ a = "box" ∨ a = "down" then (if (decide (r.length = 1) && isNameD (r.headD .none)) = true then some [] else none)
      else match tab many a with
        | none => none
        | some k => if (r.length : Int) = k then some r else none
  | _ => none
def cnt : Nat → PyData → Nat
  | 0, _ => 0
  | n + 1, d => match shp d with
    | none => 0
    | some cs => if 0 ∈ cs.map (cnt n) then 0 else 1 + (cs.map (cnt n)).sum
mutual
def tsz : PyData → Nat
  | .tuple ds => 1 + tszs ds
  | .list ds => 1 + tszs ds
  | _ => 1
def tszs : List PyData → Nat
  | [] => 0
  | d :: r => tsz d + tszs r
end
theorem tszs_map : ∀ ds : List PyData, tszs ds = (ds.map tsz).sum
  | [] => by simp [tszs]
  | d :: r => by rw [tszs, tszs_map r, List.map_cons, List.sum_cons]
theorem tsz_pos (d : PyData) : 1 ≤ tsz d := by
  cases d <;> simp [tsz]
/-- data within bounds: m of lengths, n of depth -/
def od (m : Nat) : Nat → PyData → Bool
  | 0, _ => false
  | _ + 1, .none => true
  | _ + 1, .bool _ => true
  | _ + 1, .int i => decide (i.natAbs ≤ 10000000000000 + m)
  | _ + 1, .str x => decide (x.length ≤ 140 + m) && x.cps.toList.all fun c => decide (c < 128)
  | n + 1, .tuple ds => decide (ds.length ≤ 40 + m) && ds.all (od m n)
  | n + 1, .list ds => decide (ds.length ≤ 40 + m) && ds.all (od m n)
  | _ + 1, .dict kvs => kvs.isEmpty
theorem od_mono {m m' : Nat} (hm : m ≤ m') : ∀ {n n' : Nat} {d : PyData}, n ≤ n' → od m n d = true → od m' n' d = true
  | 0, _, _, _, h => by simp [od] at h
  | n + 1, 0, _, l, _ => by omega
  | n + 1, n' + 1, d, l, h => by
    cases d with
    | tuple ds =>
      simp only [od, Bool.and_eq_true, decide_eq_true_eq, List.all_eq_true] at h ⊢
      exact ⟨by omega, fun x hx => od_mono hm (by omega) (h.2 x hx)⟩
    | list ds =>
      simp only [od, Bool.and_eq_true, decide_eq_true_eq, List.all_eq_true] at h ⊢
      exact ⟨by omega, fun x hx => od_mono hm (by omega) (h.2 x hx)⟩
    | dict kvs => exact h
    | int i =>
      simp only [od, decide_eq_true_eq] at h ⊢
      omega
    | str x =>
      simp only [od, Bool.and_eq_true, decide_eq_true_eq] at h ⊢
      exact ⟨by omega, h.2⟩
    | _ => rfl
theorem od_tuple {m n : Nat} {ds : List PyData} (h : od m (n + 1) (.tuple ds) = true) : ds.length ≤ 40 + m ∧ ∀ d ∈ ds, od m n d = true := by
  simpa only [od, Bool.and_eq_true, decide_eq_true_eq, List.all_eq_true] using h
theorem od_list {m n : Nat} {ds : List PyData} (h : od m (n + 1) (.list ds) = true) : ds.length ≤ 40 + m ∧ ∀ d ∈ ds, od m n d = true := by
  simpa only [od, Bool.and_eq_true, decide_eq_true_eq, List.all_eq_true] using h
theorem od_mkT {m n : Nat} {ds : List PyData} (l : ds.length ≤ 40 + m) (h : ∀ d ∈ ds, od m n d = true) : od m (n + 1) (.tuple ds) = true := by
  simpa only [od, Bool.and_eq_true, decide_eq_true_eq, List.all_eq_true] using ⟨l, h⟩
theorem od_mkL {m n : Nat} {ds : List PyData} (l : ds.length ≤ 40 + m) (h : ∀ d ∈ ds, od m n d = true) : od m (n + 1) (.list ds) = true := by
  simpa only [od, Bool.and_eq_true, decide_eq_true_eq, List.all_eq_true] using ⟨l, h⟩
theorem shp_od {m n : Nat} {d : PyData} {cs : List PyData} (h : od m (n + 1) d = true) (e : shp d = some cs) : (∀ c ∈ cs, od m n c = true) ∧ 1 + tszs cs ≤ tsz d := by
  unfold shp at e
  split at e
  · rename_i a r
    obtain ⟨_, h2⟩ := od_tuple h
    have hs : tsz (.tuple (.str a :: r)) = 1 + (1 + tszs r) := by simp [tsz, tszs]
    split at e
    · cases e
    · split at e
      · split at e
        · cases e
          exact ⟨by simp, by rw [hs, tszs]; omega⟩
        · cases e
      · split at e
        · split at e
          · cases e
            exact ⟨by simp, by rw [hs, tszs]; omega⟩
          · cases e
        · split at e
          · cases e
          · split at e
            · cases e
              exact ⟨fun c hc => h2 c (List.mem_cons_of_mem _ hc), by rw [hs]; omega⟩
            · cases e
  · cases e
theorem cnt_stable {m : Nat} : ∀ {n n' : Nat} {d : PyData}, n ≤ n' → od m n d = true → cnt n' d = cnt n d
  | 0, _, _, _, h => by simp [od] at h
  | n + 1, 0, _, l, _ => by omega
  | n + 1, n' + 1, d, l, h => by
    rw [cnt, cnt]
    cases e : shp d with
    | none => rfl
    | some cs =>
      have ec : cs.map (cnt n') = cs.map (cnt n) := List.map_congr_left fun c hc => cnt_stable (by omega) ((shp_od h e).1 c hc)
      show (if 0 ∈ cs.map (cnt n') then 0 else 1 + (cs.map (cnt n')).sum) = if 0 ∈ cs.map (cnt n) then 0 else 1 + (cs.map (cnt n)).sum
      rw [ec]
theorem cnt_le {m : Nat} : ∀ {n : Nat} {d : PyData}, od m n d = true → cnt n d ≤ tsz d
  | 0, _, h => by simp [od] at h
  | n + 1, d, h => by
    rw [cnt]
    cases e : shp d with
    | none => exact Nat.zero_le _
    | some cs =>
      obtain ⟨h1, h2⟩ := shp_od h e
      show (if 0 ∈ cs.map (cnt n) then 0 else 1 + (cs.map (cnt n)).sum) ≤ tsz d
      have h3 : (cs.map (cnt n)).sum ≤ tszs cs := by
        clear h2 e
        induction cs with
        | nil => exact Nat.zero_le _
        | cons c r ih =>
          rw [List.map_cons, List.sum_cons, tszs]
          have := cnt_le (h1 c (by simp))
          have := ih fun x hx => h1 x (by simp [hx])
          omega
      split
      · exact Nat.zero_le _
      · omega
def isRecD (n : Nat) (d : PyData) : Bool := decide (1 ≤ cnt n d) && decide (cnt n d ≤ 20)

theorem cnt_num {n : Nat} {d1 : PyData} {dr : List PyData} : cnt (n + 1) (.tuple (.str "num" :: d1 :: dr)) = if (decide ((d1 :: dr).length = 1) && isNumD d1) = true then 1 else 0 := by
  have e : shp (.tuple (.str "num" :: d1 :: dr)) = if (decide ((d1 :: dr).length = 1) && isNumD d1) = true then some [] else none := by
    unfold shp
    exact (if_neg (by simp)).trans (if_pos rfl)
  rw [cnt, e]
  by_cases h : (decide ((d1 :: dr).length = 1) && isNumD d1) = true
  · rw [if_pos h, if_pos h]
    rfl
  · rw [if_neg h, if_neg h]
theorem cnt_name {n : Nat} {a : Str} {d1 : PyData} {dr : List PyData} (hn : a ≠ "num") (ha : a = "turn" ∨ a = "take" ∨ a = "box" ∨ a = "down") : cnt (n + 1) (.tuple (.str a :: d1 :: dr)) = if (decide ((d1 :: dr).length = 1) && isNameD d1) = true then 1 else 0 := by
  have e : shp (.tuple (.str a :: d1 :: dr)) = if (decide ((d1 :: dr).length = 1) && isNameD d1) = true then some [] else none := by
    show (if d1 :: dr = [] then none else if a = "num" then _ else if a = "turn" ∨ a = "take" ∨ a = "box" ∨ a = "down" then (if (decide ((d1 :: dr).length = 1) && isNameD d1) = true then some [] else none) else _) = _
    rw [if_neg (by simp), if_neg hn, if_pos ha]
  rw [cnt, e]
  by_cases h : (decide ((d1 :: dr).length = 1) && isNameD d1) = true
  · rw [if_pos h, if_pos h]
    rfl
  · rw [if_neg h, if_neg h]
theorem shp_many {a : Str} {d1 : PyData} {dr : List PyData} (hn : a ≠ "num") (ha : ¬ (a = "turn" ∨ a = "take" ∨ a = "box" ∨ a = "down")) : shp (.tuple (.str a :: d1 :: dr)) = match tab many a with
    | none => none
    | some k => if ((d1 :: dr).length : Int) = k then some (d1 :: dr) else none := by
  show (if d1 :: dr = [] then none else if a = "num" then _ else if a = "turn" ∨ a = "take" ∨ a = "box" ∨ a = "down" then _ else _) = _
  rw [if_neg (by simp), if_neg hn, if_neg ha]
theorem cnt_none {n : Nat} {a : Str} {d1 : PyData} {dr : List PyData} (hn : a ≠ "num") (ha : ¬ (a = "turn" ∨ a = "take" ∨ a = "box" ∨ a = "down")) (hm : tab many a = none) : cnt (n + 1) (.tuple (.str a :: d1 :: dr)) = 0 := by
  rw [cnt, shp_many hn ha, hm]
theorem cnt_len {n : Nat} {a : Str} {d1 : PyData} {dr : List PyData} {k : Int} (hn : a ≠ "num") (ha : ¬ (a = "turn" ∨ a = "take" ∨ a = "box" ∨ a = "down")) (hm : tab many a = some k) (hl : ((d1 :: dr).length : Int) ≠ k) : cnt (n + 1) (.tuple (.str a :: d1 :: dr)) = 0 := by
  rw [cnt, shp_many hn ha, hm]
  show (match (if ((d1 :: dr).length : Int) = k then some (d1 :: dr) else none) with | none => 0 | some cs => if 0 ∈ cs.map (cnt n) then 0 else 1 + (cs.map (cnt n)).sum) = 0
  rw [if_neg hl]
theorem cnt_all {n : Nat} {a : Str} {d1 : PyData} {dr : List PyData} {k : Int} (hn : a ≠ "num") (ha : ¬ (a = "turn" ∨ a = "take" ∨ a = "box" ∨ a = "down")) (hm : tab many a = some k) (hl : ((d1 :: dr).length : Int) = k) : cnt (n + 1) (.tuple (.str a :: d1 :: dr)) = if 0 ∈ (d1 :: dr).map (cnt n) then 0 else 1 + ((d1 :: dr).map (cnt n)).sum := by
  rw [cnt, shp_many hn ha, hm]
  show (match (if ((d1 :: dr).length : Int) = k then some (d1 :: dr) else none) with | none => 0 | some cs => if 0 ∈ cs.map (cnt n) then 0 else 1 + (cs.map (cnt n)).sum) = _
  rw [if_pos hl]

section
variable {P : Program} {w : World} {K : PySem.W.Frag} {mg : Str → Option Value} {base : Heap}
/-- a comprehension over a tuple of any data -/
theorem LCG {q : Addr} {H : Hp} {vs : List V} {ds : List PyData} {j : Nat} {ws : List Nat} {σ : L2.St} {te : TE} {Q : VK} (s : SqT K H q vs) (a : DgAll K H vs ds) (ld : ds.length ≤ 100000) (g : PyData → PyData)
    (hw : ∀ x, wipe ((wipe σ ws).set j (some x)) ws = wipe σ ws)
    (he : ∀ d x H', d ∈ ds → Fr [] H H' → Dg K H' x d → ∀ Q : VK, (∀ y H2, Fr [] H' H2 → Dt K H2 y (g d) → Q y H2) → te ((wipe σ ws).set j (some x)) H' Q)
    (k : ∀ D H', H D = none → Fr [] H H' → Lq K H' D (ds.map g) → Q (.ref D) H') :
    ∃ a', V.ref q = .ref a' ∧ (∃ ys, SqT K H a' ys) ∧ ∀ D, H D = none → LC (Itt K a') (gName j) tYes te ws σ D Q (upd H D (.lst [])) := by
  have lu := DgAll.length a
  refine LC_T s fun D hD => ?_
  refine lc_it (walk_tup (K := K) (a := q) (xs := vs)) (fun i H' => Fr [] H H' ∧ Lq K H' D ((ds.take i).map g)) ⟨Fr.new hD, [], upd_same, .nil⟩ (fun i H' _ h => h.1.seqT s (by simp)) ?_ ?_
  · rintro i x H0' H' hi ⟨f', ys, hys, dys⟩ ⟨rfl, hx⟩
    obtain ⟨d, h1, h2⟩ := DgAll.get (a.fr f') hx
    have ly : ys.length ≤ i := by
      rw [dys.length, List.length_map, List.length_take]
      omega
    refine ⟨hw x, w_yes (iteT (he d x _ (List.mem_of_getElem? h1) f' h2 _ fun y H4 f4 dy => ?_))⟩
    have e3 := f4 _ _ hys (by simp)
    refine ⟨ys, e3, Nat.lt_of_le_of_lt (show ys.length ≤ 100000 by omega) (by decide), Fr.new_mut hD ((f'.trans f4).mono (by simp) |>.trans (Fr.mut (by simp))), _, upd_same, ?_⟩
    rw [List.take_add_one, h1, List.map_append]
    exact ((dys.mono f4.tu).append (.cons dy .nil)).mono (Tu.mut e3)
  · rintro H' ⟨f', L⟩
    rw [lu, List.take_length] at L
    exact k D H' hD f' L
theorem Lq.ints {H : Hp} {l : Addr} {ns : List Int} (h : Lq K H l (ns.map .int)) : H l = some (.lst (ns.map V.int)) := by
  obtain ⟨vs, e, a⟩ := h
  have : ∀ {vs : List V} {ns : List Int}, DtAll K H vs (ns.map .int) → vs = ns.map V.int := by
    intro vs ns
    induction ns generalizing vs with
    | nil => intro a; cases a; rfl
    | cons n r ih =>
      intro a
      cases a with
      | cons a b =>
      cases a
      rw [List.map_cons, ih b]
  rw [e, this a]
theorem txok {m n : Nat} {x : Str} (h : od m n (.str x) = true) (hm : m ≤ 100) : TxOk 1000 x := by
  cases n with
  | zero => simp [od] at h
  | succ n =>
    simp only [od, Bool.and_eq_true, decide_eq_true_eq, List.all_eq_true] at h
    refine ⟨by omega, ?_⟩
    exact strOk_mem.mpr fun c hc => Nat.lt_trans (h.2 c hc) (by decide)
/-- t[1:], t of one thing or more -/
theorem tup_from1 {p : Addr} {v0 : V} {vr : List V} {H : Hp} {Q : VK} (s : SqT K H p (v0 :: vr)) (q : ∀ p' H', H p' = none → Fr [] H H' → SqT K H' p' vr → Q (.ref p') H') : rSlU K (.ref p) (some 1) none H Q := by
  have ec : cutV (v0 :: vr) (some 1) none = vr := cut_drop (xs := v0 :: vr) 1
  refine .inl (.inr ⟨p, _, rfl, s, fun z => ?_, fun _ p' hp => ?_⟩)
  · have z1 : HT.sIx (v0 :: vr).length 0 (some 1) = 0 := z.1
    exfalso
    have : HT.sIx (v0 :: vr).length 0 (some 1) = 1 := by
      simp [HT.sIx]
      try omega
    omega
  · rw [ec]
    exact q p' _ hp (Fr.new hp) (.inl (.inl upd_same))
def sp_count_of (K : PySem.W.Frag) (n : Nat) : Sp := fun vs H Q _ => ∃ (v : V) (d : PyData) (m : Nat), vs = [v] ∧ (od m n d = true ∧ m ≤ 100) ∧ Dg K H v d ∧ ∀ H', Fr [] H H' → Q (.int (cnt n d : Nat)) H'
theorem ok_count_of (T : Env K mg) (M : Tabs w K mg) : ∀ n, Fx P w K mg base (3 + n) "count_of" p_count_of (sp_count_of K n)
  | 0 => T.l_count_of.ok (k := 3 - 1) sc_count_of (fun vs H Q E h => by
      obtain ⟨_, _, _, _, h, _⟩ := h
      exact absurd h.1 (by simp [od])) (fun f cdv A outer s H vs Q E hr h => by
      obtain ⟨_, _, _, _, h, _⟩ := h
      exact absurd h.1 (by simp [od]))
  | n + 1 => by
    have IH := ok_count_of T M n
    refine T.l_count_of.ok sc_count_of (fun vs H Q E h => ?_) (fun f cdv A outer s H vs Q E hr h => ?_)
    · obtain ⟨_, _, _, rfl, _⟩ := h
      rfl
    · obtain ⟨v, d, m, rfl, ⟨o, hm⟩, D, k⟩ := h
      refine ⟨_, (pss_cons (ps_if (PW.pt (pw_or (pt_not (pt_val (pe_callB (call_isiU (K := K) rfl) (by rfl) T.m_isinstance (by decide +kernel) (pa_cons (pv 0) (pa_cons (pe_bltn (v := .ty "tuple") (u := .type "tuple") rfl T.m_tuple (by decide +kernel) rfl) pa_nil))))) (pw_or (pt_cmpR op_lt (pe_callB (call_lenU (K := K) rfl) (by rfl) T.m_len (by decide +kernel) (pa_cons (pv 0) pa_nil)) pe_int (nomark _)) (pw_or1 (pt_not (pt_val (pe_callB (call_isiU (K := K) rfl) (by rfl) T.m_isinstance (by decide +kernel) (pa_cons (pe_ix (ix_U (K := K) rfl) (pv 0) pe_int (fun _ _ => rfl)) (pa_cons (pe_bltn (v := .ty "str") (u := .type "str") rfl T.m_str (by decide +kernel) rfl) pa_nil))))))))) (pss_one (ps_ret pe_int)) pss_nil)
      (pss_cons (ps_if (pt_cmpR (op_eqU (K := K) rfl (u64 hr)) (pe_ix (ix_U (K := K) rfl) (pv 0) pe_int (fun _ _ => rfl)) pe_str (nomark _)) (pss_one (ps_ret (pe_callTy call_intU (by rfl) T.m_int (by decide +kernel) (pa_cons (pe_and (pe_cmpR (op_eqU (K := K) rfl (u64 hr)) (pe_callB (call_lenU (K := K) rfl) (by rfl) T.m_len (by decide +kernel) (pa_cons (pv 0) pa_nil)) pe_int (nomark _)) (pe_one (pe_fx (ok_is_number (P := P) (w := w) T) hr (Nat.le_trans (m := 3) (by decide) (Nat.le_add_right 3 _)) (pa_cons (pe_ix (ix_U (K := K) rfl) (pv 0) pe_int (fun _ _ => rfl)) pa_nil)))) pa_nil)))) pss_nil)
      (pss_cons (ps_if (PW.pt (pw_or (pt_cmpR (op_eqU (K := K) rfl (u64 hr)) (pe_ix (ix_U (K := K) rfl) (pv 0) pe_int (fun _ _ => rfl)) pe_str (nomark _)) (pw_or1 (pt_cmpR (op_inU (K := K) rfl (u65 hr)) (pe_ix (ix_U (K := K) rfl) (pv 0) pe_int (fun _ _ => rfl)) T.pe_ASKS (by rfl))))) (pss_one (ps_ret (pe_callTy call_intU (by rfl) T.m_int (by decide +kernel) (pa_cons (pe_and (pe_cmpR (op_eqU (K := K) rfl (u64 hr)) (pe_callB (call_lenU (K := K) rfl) (by rfl) T.m_len (by decide +kernel) (pa_cons (pv 0) pa_nil)) pe_int (nomark _)) (pe_one (pe_fx (ok_is_name (P := P) (w := w) T) hr (Nat.le_trans (m := 3) (by decide) (Nat.le_add_right 3 _)) (pa_cons (pe_ix (ix_U (K := K) rfl) (pv 0) pe_int (fun _ _ => rfl)) pa_nil)))) pa_nil)))) pss_nil)
      (pss_cons (ps_if (PW.pt (pw_or (pt_cmpR (op_ninTabU rfl rfl) (pe_ix (ix_U (K := K) rfl) (pv 0) pe_int (fun _ _ => rfl)) M.pe_MANY (by rfl)) (pw_or1 (pt_cmpR (op_neU (K := K) rfl (u64 hr)) (pe_callB (call_lenU (K := K) rfl) (by rfl) T.m_len (by decide +kernel) (pa_cons (pv 0) pa_nil)) (pe_op (op_addU (K := K) rfl) pe_int (pe_ix (ix_TabU rfl rfl) M.pe_MANY (pe_ix (ix_U (K := K) rfl) (pv 0) pe_int (fun _ _ => rfl)) (fun _ _ => rfl))) (nomark _))))) (pss_one (ps_ret pe_int)) pss_nil)
      (pss_cons (ps_setLc (i := 1) (own := [("one", 2)]) (g := (gName 2)) (tt := tYes) rfl sc_count_of.nd rfl rfl (sw_true rfl rfl rfl (by decide +kernel)) (pi_tupU (K := K) rfl (pe_slice (sl_U (K := K) rfl) (pv 0) (po_some pe_int) po_none)) (blkOk_by (N := N_count_of) (sc := defScope s_count_of) (by decide +kernel)) (fun _ _ _ _ _ => (pg_name (i := 2) sc_count_of.nd rfl (Or.inl rfl))) (fun _ _ _ _ _ => pts_nil) (fun _ _ _ _ _ => (pe_fx (IH) hr (Nat.le_refl _) (pa_cons (pv 2) pa_nil))))
      (pss_cons (ps_if (pt_cmpR (op_inU (K := K) rfl (u65 hr)) pe_int (pv 1) (by rfl)) (pss_one (ps_ret pe_int)) pss_nil)
      (pss_one (ps_ret (pe_op (op_addU (K := K) rfl) pe_int (pe_callB (call_sumU (K := K) rfl rfl) (by rfl) T.m_sum (by decide +kernel) (pa_cons (pv 1) pa_nil))))))))))), ?_⟩
      walk_at "go"
      cases D with
      | non => walk_at "go"; exact k H Fr.refl
      | bl b => walk_at "go"; exact k H Fr.refl
      | int i => walk_at "go"; exact k H Fr.refl
      | str x => walk_at "go"; exact k H Fr.refl
      | lst s _ => refine isL_tuple s ?_; walk_at "go"; exact k H Fr.refl
      | dct s => refine isD_tuple s ?_; walk_at "go"; exact k H Fr.refl
      | tup s a =>
        rename_i p vs ds
        obtain ⟨ld, od'⟩ := od_tuple o
        refine isT_tuple s ?_
        walk_at "go"
        refine w_lenT s ?_
        walk_at "go"
        refine ite_d (fun h2 => ?_) fun h2 => ?_
        · walk_at "go"
          have e0 : cnt (n + 1) (.tuple ds) = 0 := by
            rw [cnt]
            have l2 := DgAll.length a
            have : shp (.tuple ds) = none := by
              match ds, l2 with
              | [], _ => rfl
              | [d], _ => cases d <;> rfl
              | _ :: _ :: _, l2 => simp at l2; omega
            rw [this]
          rw [e0] at k
          exact k H Fr.refl
        · cases a with
          | nil => simp at h2
          | cons a0 a =>
          cases a with
          | nil => simp at h2
          | cons a1 a =>
          rename_i v0 d0 v1 vr d1 dr
          walk_at "go"
          refine w_ixT s (atI_nat (j := 0) rfl) ?_
          walk_at "go"
          refine a0.isStr ?_
          by_cases hs : isStr d0 = true
          · obtain ⟨z, rfl⟩ : ∃ z, d0 = .str z := by
              cases d0 <;> first | exact ⟨_, rfl⟩ | cases hs
            cases a0
            have lr := DgAll.length a
            rw [show isStr (.str z) = true from rfl]
            walk_at "go"
            have i0 : atI (V.str z :: v1 :: vr) 0 = some (V.str z) := atI_nat (j := 0) rfl
            have i1 : atI (V.str z :: v1 :: vr) 1 = some v1 := atI_nat (j := 1) rfl
            have len2 : ∀ {B : Bool}, (decide (((V.str z :: v1 :: vr).length : Int) = 2) = B) → decide ((d1 :: dr).length = 1) = B := fun {B} h => by
              rw [← h]
              refine decide_eq_decide.mpr ?_
              rw [List.length_cons, List.length_cons, List.length_cons, lr]
              omega
            refine w_ixT s i0 ?_
            walk_at "go"
            refine ite_d (fun h3 => ?_) fun h3 => ?_
            · subst h3
              rw [cnt_num] at k
              walk_at "go"
              refine w_lenT s ?_
              walk_at "go"
              cases hl : decide (((V.str "num" :: v1 :: vr).length : Int) = 2) with
              | false =>
                rw [len2 hl] at k
                walk_at "go"
                exact k H Fr.refl
              | true =>
                rw [len2 hl] at k
                walk_at "go"
                refine w_ixT s i1 ?_
                walk_at "go"
                refine ⟨v1, d1, rfl, a1, ?_⟩
                refine w_intB ?_
                rw [Bool.true_and] at k
                have := k H Fr.refl
                cases hb : isNumD d1 with
                | false => rw [hb] at this; exact this
                | true => rw [hb] at this; exact this
            · walk_at "go"
              refine w_ixT s i0 ?_
              walk_at "go"
              refine ite_d (fun h4 => ?_) fun h4 => ?_
              · have ha : z = "turn" ∨ z = "take" ∨ z = "box" ∨ z = "down" := .inl h4
                rw [cnt_name h3 ha] at k
                walk_at "go"
                refine w_lenT s ?_
                walk_at "go"
                cases hl : decide (((V.str z :: v1 :: vr).length : Int) = 2) with
                | false =>
                  rw [len2 hl] at k
                  walk_at "go"
                  exact k H Fr.refl
                | true =>
                  rw [len2 hl] at k
                  walk_at "go"
                  refine w_ixT s i1 ?_
                  walk_at "go"
                  refine ⟨v1, d1, rfl, a1, fun x ex => ?_, fun H1 f1 => ?_⟩
                  · subst ex
                    exact txok (od' _ (by simp)) hm
                  refine w_intB ?_
                  rw [Bool.true_and] at k
                  have := k H1 f1
                  cases hb : isNameD d1 with
                  | false => rw [hb] at this; exact this
                  | true => rw [hb] at this; exact this
              · walk_at "go"
                refine w_ixT s i0 ?_
                walk_at "go"
                intro qk KT
                have ein : inV (.str z) [V.str "take", .str "box", .str "down"] = decide (z = "take" ∨ z = "box" ∨ z = "down") := by
                  show ((("take" : Str) == z) || ((("box" : Str) == z) || ((("down" : Str) == z) || false))) = _
                  refine Bool.eq_iff_iff.mpr ?_
                  simp only [Bool.or_eq_true, beq_iff_eq, decide_eq_true_eq, Bool.or_false]
                  constructor
                  · rintro (rfl | rfl | rfl)
                    · exact .inl rfl
                    · exact .inr (.inl rfl)
                    · exact .inr (.inr rfl)
                  · rintro (rfl | rfl | rfl)
                    · exact .inl rfl
                    · exact .inr (.inl rfl)
                    · exact .inr (.inr rfl)
                refine w_inT (KT H) rfl rfl ?_
                rw [ein]
                walk_at "go"
                refine ite_d (fun h5 => ?_) fun h5 => ?_
                · have ha : z = "turn" ∨ z = "take" ∨ z = "box" ∨ z = "down" := .inr h5
                  rw [cnt_name h3 ha] at k
                  walk_at "go"
                  refine w_lenT s ?_
                  walk_at "go"
                  cases hl : decide (((V.str z :: v1 :: vr).length : Int) = 2) with
                  | false =>
                    rw [len2 hl] at k
                    walk_at "go"
                    exact k H Fr.refl
                  | true =>
                    rw [len2 hl] at k
                    walk_at "go"
                    refine w_ixT s i1 ?_
                    walk_at "go"
                    refine ⟨v1, d1, rfl, a1, fun x ex => ?_, fun H1 f1 => ?_⟩
                    · subst ex
                      exact txok (od' _ (by simp)) hm
                    refine w_intB ?_
                    rw [Bool.true_and] at k
                    have := k H1 f1
                    cases hb : isNameD d1 with
                    | false => rw [hb] at this; exact this
                    | true => rw [hb] at this; exact this
                · have ha : ¬ (z = "turn" ∨ z = "take" ∨ z = "box" ∨ z = "down") := by
                    rintro (h | h)
                    · exact h4 h
                    · exact h5 h
                  walk_at "go"
                  refine w_ixT s i0 ?_
                  walk_at "go"
                  intro am TM
                  refine ⟨z, am, many, rfl, rfl, TM, ?_⟩
                  cases ht : tab many z with
                  | none =>
                    rw [cnt_none h3 ha ht] at k
                    rw [show (!(none : Option Int).isSome) = true from rfl]
                    walk_at "go"
                    exact k H Fr.refl
                  | some kk =>
                    rw [show (!(some kk).isSome) = false from rfl]
                    walk_at "go"
                    refine w_lenT s ?_
                    walk_at "go"
                    intro am2 TM2
                    walk_at "go"
                    refine w_ixT s i0 ?_
                    refine ⟨z, am2, many, kk, rfl, rfl, TM2, ht, ?_⟩
                    walk_at "go"
                    by_cases hl : ((d1 :: dr).length : Int) = kk
                    · have hl' : ((V.str z :: v1 :: vr).length : Int) = 1 + kk := by
                        rw [List.length_cons, List.length_cons, lr, ← hl, List.length_cons]
                        omega
                      rw [cnt_all h3 ha ht hl] at k
                      rw [hl', decide_eq_true rfl]
                      walk_at "go"
                      refine tup_from1 s fun p2 H2 n2 f2 s2 => ?_
                      have D2 : DgAll K H2 (v1 :: vr) (d1 :: dr) := .cons (Dg.fr f2 a1) (DgAll.fr f2 a)
                      refine LCG s2 D2 (by simp at ld ⊢; omega) (fun d => .int (cnt n d : Nat)) (fun _ => rfl) ?_ ?_
                      · intro d x H3 hd f3 dx Q2 kq
                        walk_at "go"
                        refine ⟨x, d, m, rfl, ⟨od' d (by simp [List.mem_cons.mp hd]), hm⟩, dx, fun H4 f4 => ?_⟩
                        exact kq _ _ f4 (.int _)
                      · intro D H3 nD f3 L3
                        have e3 : (d1 :: dr).map (fun d => PyData.int (cnt n d : Nat)) = (((d1 :: dr).map (cnt n)).map fun (x : Nat) => (x : Int)).map PyData.int := by
                          rw [List.map_map, List.map_map]
                          rfl
                        rw [e3] at L3
                        have e4 := L3.ints
                        generalize (d1 :: dr).map (cnt n) = cs at e4 k
                        have zin : inV (.int 0) ((cs.map fun (x : Nat) => (x : Int)).map V.int) = decide (0 ∈ cs) := by
                          clear e4 k L3 e3
                          unfold inV
                          rw [List.any_map, List.any_map]
                          refine Bool.eq_iff_iff.mpr ?_
                          rw [List.any_eq_true, decide_eq_true_eq]
                          constructor
                          · rintro ⟨x, hx, e⟩
                            have e' : ((x : Int) == 0) = true := e
                            have : x = 0 := by simpa using e'
                            rw [← this]
                            exact hx
                          · intro hx
                            exact ⟨0, hx, rfl⟩
                        walk_at "go"
                        refine w_inL (SqL.of e4) rfl (by simp [flatV]) ?_
                        rw [zin]
                        walk_at "go"
                        refine ite_d (fun h6 => ?_) fun h6 => ?_
                        · rw [if_pos h6] at k
                          walk_at "go"
                          exact k H3 (f2.trans f3)
                        · rw [if_neg h6] at k
                          walk_at "go"
                          refine ⟨D, _, rfl, SqL.of e4, ?_⟩
                          have es : (cs.map fun (x : Nat) => (x : Int)).sum = ((cs.sum : Nat) : Int) := by
                            clear e4 k zin h6 L3 e3
                            induction cs with
                            | nil => rfl
                            | cons c r ih => rw [List.map_cons, List.sum_cons, List.sum_cons, ih]; omega
                          rw [es]
                          walk_at "go"
                          have := k H3 (f2.trans f3)
                          rw [show (1 : Int) + ((cs.sum : Nat) : Int) = ((1 + cs.sum : Nat) : Int) by omega]
                          exact this
                    · rw [cnt_len h3 ha ht hl] at k
                      have hl' : ¬ ((V.str z :: v1 :: vr).length : Int) = 1 + kk := fun h => hl (by
                        rw [List.length_cons, List.length_cons, lr] at h
                        rw [List.length_cons]
                        omega)
                      rw [decide_eq_false hl']
                      walk_at "go"
                      exact k H Fr.refl
          · have e0 : cnt (n + 1) (.tuple (d0 :: d1 :: dr)) = 0 := by
              rw [cnt]
              have : shp (.tuple (d0 :: d1 :: dr)) = none := by
                cases d0 <;> first | rfl | exact absurd rfl hs
              rw [this]
            rw [e0] at k
            rw [Bool.eq_false_iff.mpr hs]
            walk_at "go"
            exact k H Fr.refl
end

section
variable {P : Program} {w : World} {K : PySem.W.Frag} {mg : Str → Option Value} {base : Heap}
def sp_law_is_name (K : PySem.W.Frag) : Sp := fun vs H Q _ => ∃ v d, vs = [v] ∧ Dg K H v d ∧ (∀ x, d = .str x → TxOk 1000 x) ∧ ∀ H', Fr [] H H' → Q (.bl (isNameD d)) H'
theorem ok_law_is_name (T : Env K mg) : Fx P w K mg base 1 "_law_is_name" p_law_is_name (sp_law_is_name K) := by
  refine T.l_law_is_name.ok sc_law_is_name (fun vs H Q E h => ?_) (fun f cdv A outer s H vs Q E hr h => ?_)
  · obtain ⟨v, d, rfl, _⟩ := h
    rfl
  · obtain ⟨v, d, rfl, D, lx, k⟩ := h
    refine ⟨_, (pss_cons (ps_if (PW.pt (pw_or (pt_not (pt_val (pe_callB (call_isiU (K := K) rfl) (by rfl) T.m_isinstance (by decide +kernel) (pa_cons (pv 0) (pa_cons (pe_bltn (v := .ty "str") (u := .type "str") rfl T.m_str (by decide +kernel) rfl) pa_nil))))) (pw_or (pt_cmpR op_lt (pe_callB (call_lenU (K := K) rfl) (by rfl) T.m_len (by decide +kernel) (pa_cons (pv 0) pa_nil)) pe_int (nomark _)) (pw_or1 (pt_cmpR op_gt (pe_callB (call_lenU (K := K) rfl) (by rfl) T.m_len (by decide +kernel) (pa_cons (pv 0) pa_nil)) pe_int (nomark _)))))) (pss_one (ps_ret pe_bl)) pss_nil)
      (pss_one (ps_ret (pe_cmpR (op_eqU (K := K) rfl (u64 hr)) (pe_lc (own := [("_law_sign", 1)]) (g := (gName 1)) rfl sc_law_is_name.nd (pi_str (pv 0)) (blkOk_by (N := N_law_is_name) (sc := defScope s_law_is_name) (by decide +kernel)) (fun _ _ _ _ _ => (pg_name (i := 1) sc_law_is_name.nd rfl (Or.inl rfl))) (fun _ _ _ _ _ => (pts_one (pt_cmpR (op_ninU (K := K) rfl (u65 hr)) (pv 1) pe_str (by rfl)))) (fun _ _ _ _ _ => (pv 1))) (pe_lst pa_nil) (nomark _))))), ?_⟩
    walk_at "go"
    cases D with
    | str x =>
      have k : ∀ H', Fr [] H H' → Q (.bl (decide (1 ≤ x.length) && decide (x.length ≤ 8) && x.cps.toList.all (fun c => decide (c ∈ letters.cps.toList)))) H' := k
      obtain ⟨lx, okx⟩ := lx x rfl
      have lz : x.length ≤ sizeLine := Nat.le_trans lx (by decide)
      walk_at "go"
      refine w_lenS lz ?_
      walk_at "go"
      refine ite_d (fun h0 => ?_) (fun h0 => ?_)
      · rw [decide_eq_false (by omega : ¬ 1 ≤ x.length)] at k
        walk_at "go"
        exact k H Fr.refl
      · walk_at "go"
        refine w_lenS lz ?_
        walk_at "go"
        refine ite_d (fun h1 => ?_) (fun h1 => ?_)
        · rw [decide_eq_false (by omega : ¬ x.length ≤ 8), Bool.and_false] at k
          walk_at "go"
          exact k H Fr.refl
        · rw [decide_eq_true (by omega : 1 ≤ x.length), decide_eq_true (by omega : x.length ≤ 8)] at k
          walk_at "go"
          refine LCS (K := K) (x := x) (fun c => !decide (c ∈ letters.cps.toList)) (fun c => .str ⟨#[c]⟩) (by omega) ?_ ?_ ?_ fun D H1 nD f1 L1 => ?_
          · intro v; rfl
          · intro c H' f' QB q
            walk_at "go"
            exact q
          · intro c H' f' _ Q q
            walk_at "go"
            exact q _ (.str _)
          · walk_at "go"
            refine mkL (K := K) .nil fun q2 H2 n2 f2 L2 => ?_
            have f12 := f1.trans f2
            have sg : SeqAt.shaped (.list ((x.cps.toList.filter fun c => !decide (c ∈ letters.cps.toList)).map fun c => PyData.str ⟨#[c]⟩)) = true := shaped_list (n := 0) (by decide) fun y hy => by
              obtain ⟨c, hc, rfl⟩ := List.mem_map.mp hy
              refine ⟨?_, Nat.le_refl _⟩
              show PyData.strOk ⟨#[c]⟩ = true
              refine strOk_mem.mpr fun e he => ?_
              have : e = c := by simpa using he
              rw [this]
              exact strOk_mem.mp okx c (List.mem_filter.mp hc).1
            refine w_eqNil (L1.fr0 f2).dp (by obtain ⟨vs, e, a⟩ := L2; cases a; exact e) sg ?_
            have e5 : ((x.cps.toList.filter fun c => !decide (c ∈ letters.cps.toList)).map fun c => PyData.str ⟨#[c]⟩).isEmpty = x.cps.toList.all fun c => decide (c ∈ letters.cps.toList) := by
              generalize x.cps.toList = cs
              induction cs with
              | nil => rfl
              | cons c r ih =>
                rw [List.filter_cons, List.all_cons]
                cases decide (c ∈ letters.cps.toList) with
                | true => exact ih
                | false => rfl
            rw [e5]
            have := k H2 f12
            rwa [Bool.true_and, Bool.true_and] at this
    | non => walk_at "go"; exact k H Fr.refl
    | bl b => walk_at "go"; exact k H Fr.refl
    | int i => walk_at "go"; exact k H Fr.refl
    | tup s _ => refine isT_str s ?_; walk_at "go"; exact k H Fr.refl
    | lst s _ => refine isL_str s ?_; walk_at "go"; exact k H Fr.refl
    | dct s => refine isD_str s ?_; walk_at "go"; exact k H Fr.refl
end

section
variable {P : Program} {w : World} {K : PySem.W.Frag} {mg : Str → Option Value} {base : Heap}
def sp_is_reckoning (K : PySem.W.Frag) : Sp := fun vs H Q _ => ∃ (v : V) (d : PyData) (m : Nat), vs = [v] ∧ (od m 22 d = true ∧ m ≤ 100) ∧ Dg K H v d ∧ ∀ H', Fr [] H H' → Q (.bl (isRecD 22 d)) H'
theorem ok_is_reckoning (T : Env K mg) (M : Tabs w K mg) : Fx P w K mg base 26 "is_reckoning" p_is_reckoning (sp_is_reckoning K) := by
  refine T.l_is_reckoning.ok sc_is_reckoning (fun vs H Q E h => ?_) (fun f cdv A outer s H vs Q E hr h => ?_)
  · obtain ⟨_, _, _, rfl, _⟩ := h
    rfl
  · obtain ⟨v, d, m, rfl, o, D, k⟩ := h
    refine ⟨_, (pss_one (ps_ret (pe_chain op_le op_le pe_int (pe_fx (ok_count_of (P := P) (w := w) T M 22) hr (by decide) (pa_cons (pv 0) pa_nil)) T.pe_MOST))), ?_⟩
    walk_at "go"
    refine ⟨v, d, m, rfl, o, D, fun H1 f1 => ?_⟩
    have k1 := k H1 f1
    unfold isRecD at k1
    walk_at "go"
    refine ite_d (fun h0 => ?_) (fun h0 => ?_)
    · rw [decide_eq_true (by omega : 1 ≤ cnt 22 d), Bool.true_and] at k1
      walk_at "go"
      have e : decide (((cnt 22 d : Nat) : Int) ≤ 20) = decide (cnt 22 d ≤ 20) := decide_eq_decide.mpr (by omega)
      rw [e]
      exact k1
    · rw [decide_eq_false (by omega : ¬ 1 ≤ cnt 22 d), Bool.false_and] at k1
      exact k1
theorem od_stable {m : Nat} {n : Nat} {d : PyData} (h : od m n d = true) (l : n ≤ 22) : cnt 22 d = cnt n d := cnt_stable l h
theorem w_pairs {σ : L2.St} {H : Hp} {tk tv : TE} {r : List (TE × TE)} {Q : List (V × V) → Hp → Prop} (q : tk σ H fun x H1 => tv σ H1 fun y H2 => tPairs r σ H2 fun ps H3 => Q ((x, y) :: ps) H3) : tPairs ((tk, tv) :: r) σ H Q := q
theorem w_pnil {σ : L2.St} {H : Hp} {Q : List (V × V) → Hp → Prop} (q : Q [] H) : tPairs [] σ H Q := q
theorem w_disp {σ : L2.St} {H : Hp} {trs : List (TE × TE)} {Q : VK} (q : ∀ p, H p = none → tPairs trs σ (upd H p (.dK [])) fun ps H2 => H2 p = some (.dK []) ∧ ∃ kvs : List (Key × V), ps = kvs.map (fun kv => (kV kv.1, kv.2)) ∧ kvs.length ≤ 15 ∧ Q (.ref p) (upd H2 p (.dK (mergeK [] kvs)))) : tDisp trs σ H Q := q
theorem w_dget2 {σ : L2.St} {H : Hp} {td ty tx : TE} {Q : VK} (q : td σ H fun x H1 => ∃ a, x = .ref a ∧ IsD H1 a ∧ ty σ H1 fun y H2 => tx σ H2 fun z H3 => ∃ o, DGet H3 a y o ∧ Q (o.getD z) H3) : tDGet2 td ty tx σ H Q := q
def many4 : List (Key × V) := [(.inr "add", .int 3), (.inr "times", .int 3), (.inr "less", .int 3), (.inr "pick", .int 4)]
theorem many4_get (z : Str) : (valV (mergeK [] many4) (.inr z)).getD (.int 2) = .int (match tab many z with | none => 2 | some k => k + 1) := by
  have e : mergeK [] many4 = many4 := by decide +kernel
  rw [e]
  by_cases h1 : z = "add"
  · subst h1; decide +kernel
  by_cases h2 : z = "times"
  · subst h2; decide +kernel
  by_cases h3 : z = "less"
  · subst h3; decide +kernel
  by_cases h4 : z = "pick"
  · subst h4; decide +kernel
  have n1 : ∀ {a : Str}, z ≠ a → ¬ ((Sum.inr a : Key) = Sum.inr z) := fun h e => h (by injection e with e; exact e.symm)
  have e1 : valV many4 (.inr z) = none := by
    unfold many4
    rw [valV_neg (n1 h1), valV_neg (n1 h2), valV_neg (n1 h3), valV_neg (n1 h4)]
    rfl
  have e2 : tab many z = none := by
    unfold tab many
    rw [List.find?_cons, decide_eq_false (fun e => h1 e.symm), List.find?_cons, decide_eq_false (fun e => h2 e.symm), List.find?_cons, decide_eq_false (fun e => h3 e.symm), List.find?_cons, decide_eq_false (fun e => h4 e.symm)]
    rfl
  rw [e1, e2]
  rfl
theorem tab_many {z : Str} {k : Int} (h : tab many z = some k) : (k = 2 ∨ k = 3) ∧ z ≠ "num" ∧ ¬ (z = "turn" ∨ z = "take" ∨ z = "box" ∨ z = "down") := by
  refine ⟨?_, ?_, ?_⟩
  · unfold tab at h
    obtain ⟨p, hp, rfl⟩ := Option.map_eq_some_iff.mp h
    have := List.mem_of_find?_eq_some hp
    simp only [many, List.mem_cons, List.not_mem_nil, or_false] at this
    rcases this with rfl | rfl | rfl | rfl
    · exact .inl rfl
    · exact .inl rfl
    · exact .inl rfl
    · exact .inr rfl
  · rintro rfl
    have : tab many "num" = none := by decide +kernel
    rw [this] at h
    cases h
  · have t : ∀ a : Str, tab many a = none → z ≠ a := fun a ha e => by
      rw [e, ha] at h
      cases h
    rintro (h' | h' | h' | h')
    · exact t _ (by decide +kernel) h'
    · exact t _ (by decide +kernel) h'
    · exact t _ (by decide +kernel) h'
    · exact t _ (by decide +kernel) h'
theorem shp_num {d1 : PyData} {dr : List PyData} : shp (.tuple (.str "num" :: d1 :: dr)) = if (decide ((d1 :: dr).length = 1) && isNumD d1) = true then some [] else none := by
  unfold shp
  exact (if_neg (by simp)).trans (if_pos rfl)
theorem shp_name {a : Str} {d1 : PyData} {dr : List PyData} (hn : a ≠ "num") (ha : a = "turn" ∨ a = "take" ∨ a = "box" ∨ a = "down") : shp (.tuple (.str a :: d1 :: dr)) = if (decide ((d1 :: dr).length = 1) && isNameD d1) = true then some [] else none := by
  unfold shp
  exact (if_neg (by simp)).trans ((if_neg hn).trans (if_pos ha))
theorem tszs_len : ∀ ds : List PyData, ds.length ≤ tszs ds
  | [] => Nat.zero_le _
  | d :: r => by
    have := tszs_len r
    have := tsz_pos d
    rw [tszs, List.length_cons]
    omega
/-- what comes of a heap of things still to be looked at, k having been looked at -/
def Res (K : PySem.W.Frag) (H0 : Hp) (Q : VK) (tot : Nat) (bad : Prop) : Prop := (bad → ∀ H', Fr [] H0 H' → Q .non H') ∧ (¬ bad → ∀ p xs H', Fr [] H0 H' → H' p = some (.lst xs) → xs.length = tot → Q (.ref p) H')
def sp_law_nodes (K : PySem.W.Frag) : Sp := fun vs H Q _ => ∃ (v : V) (d : PyData) (m : Nat), vs = [v] ∧ (od m 22 d = true ∧ m ≤ 100) ∧ tsz d ≤ 50000 ∧ Dg K H v d ∧ Res K H Q (cnt 22 d) (cnt 22 d = 0)
theorem ok_law_nodes (T : Env K mg) : Fx P w K mg base 2 "_law_nodes" p_law_nodes (sp_law_nodes K) := by
  refine T.l_law_nodes.ok sc_law_nodes (fun vs H Q E h => ?_) (fun f cdv A outer s H vs Q E hr h => ?_)
  · obtain ⟨_, _, _, rfl, _⟩ := h
    rfl
  · obtain ⟨v, d, m, rfl, ⟨o, hm⟩, sz, D, k⟩ := h
    refine ⟨_, (pss_cons (ps_set (i := 1) sc_law_nodes.nd rfl (Or.inl rfl) (pe_lst (pa_cons (pv 0) pa_nil)))
      (pss_cons (ps_set (i := 2) sc_law_nodes.nd rfl (Or.inl rfl) (pe_lst pa_nil))
      (pss_cons (ps_while PassesOwn.never (pt_cmpR (op_neUL (K := K) rfl (u64 hr)) (pv 1) (pe_lst pa_nil) (nomark _)) (pss_cons (ps_set (i := 3) sc_law_nodes.nd rfl (Or.inl rfl) (pe_bm0 PySem.F.plainAttrs_list PySem.F.slot_list_pop PySem.F.type_list_pop mt_pop (pv 1)))
      (pss_cons (ps_expr (pe_bm PySem.F.plainAttrs_list PySem.F.slot_list_append PySem.F.type_list_append mt_append (pv 2) (pa_cons (pv 3) pa_nil)))
      (pss_cons (ps_if (PW.pt (pw_or (pt_not (pt_val (pe_callB (call_isiU (K := K) rfl) (by rfl) T.m_isinstance (by decide +kernel) (pa_cons (pv 3) (pa_cons (pe_bltn (v := .ty "tuple") (u := .type "tuple") rfl T.m_tuple (by decide +kernel) rfl) pa_nil))))) (pw_or (pt_cmpR op_lt (pe_callB (call_lenU (K := K) rfl) (by rfl) T.m_len (by decide +kernel) (pa_cons (pv 3) pa_nil)) pe_int (nomark _)) (pw_or1 (pt_not (pt_val (pe_callB (call_isiU (K := K) rfl) (by rfl) T.m_isinstance (by decide +kernel) (pa_cons (pe_ix (ix_U (K := K) rfl) (pv 3) pe_int (fun _ _ => rfl)) (pa_cons (pe_bltn (v := .ty "str") (u := .type "str") rfl T.m_str (by decide +kernel) rfl) pa_nil))))))))) (pss_one (ps_ret pe_non)) pss_nil)
      (pss_cons (ps_set (i := 4) sc_law_nodes.nd rfl (Or.inl rfl) (pe_dget2 (u1 hr) (pe_disp (pps_cons pe_str pe_int (pps_cons pe_str pe_int (pps_cons pe_str pe_int (pps_cons pe_str pe_int pps_nil)))) (by rfl) (by rfl) (by exact List.cons_ne_nil _ _) (by exact Nat.le_of_ble_eq_true rfl)) (pe_ix (ix_U (K := K) rfl) (pv 3) pe_int (fun _ _ => rfl)) pe_int ⟨rfl, rfl, rfl, rfl⟩))
      (pss_cons (ps_if (pt_cmpR (op_neU (K := K) rfl (u64 hr)) (pe_callB (call_lenU (K := K) rfl) (by rfl) T.m_len (by decide +kernel) (pa_cons (pv 3) pa_nil)) (pv 4) (nomark _)) (pss_one (ps_ret pe_non)) pss_nil)
      (pss_one (ps_if (pt_cmpR op_gt (pv 4) pe_int (nomark _)) (pss_one (ps_expr (pe_bm PySem.F.plainAttrs_list PySem.F.slot_list_extend PySem.F.type_list_extend mt_extP (pv 1) (pa_cons (pe_slice (sl_PU (K := K) rfl) (pv 3) (po_some pe_int) po_none) pa_nil)))) (pss_one (ps_if (pt_cmpR (op_eqU (K := K) rfl (u64 hr)) (pe_ix (ix_U (K := K) rfl) (pv 3) pe_int (fun _ _ => rfl)) pe_str (nomark _)) (pss_one (ps_if (pt_not (pt_val (pe_fx (ok_law_is_number (P := P) (w := w) T) hr (by decide) (pa_cons (pe_ix (ix_U (K := K) rfl) (pv 3) pe_int (fun _ _ => rfl)) pa_nil)))) (pss_one (ps_ret pe_non)) pss_nil)) (pss_one (ps_if (PW.pt (pw_or (pt_cmpR (op_ninU (K := K) rfl (u65 hr)) (pe_ix (ix_U (K := K) rfl) (pv 3) pe_int (fun _ _ => rfl)) (pe_tup (pa_cons pe_str (pa_cons pe_str (pa_cons pe_str (pa_cons pe_str pa_nil))))) (by rfl)) (pw_or1 (pt_not (pt_val (pe_fx (ok_law_is_name (P := P) (w := w) T) hr (by decide) (pa_cons (pe_ix (ix_U (K := K) rfl) (pv 3) pe_int (fun _ _ => rfl)) pa_nil))))))) (pss_one (ps_ret pe_non)) pss_nil))))))))))))
      (pss_one (ps_ret (pv 2)))))), ?_⟩
    walk_at "go"
    refine ⟨by exact Nat.le_of_ble_eq_true rfl, fun qt n1 => ?_⟩
    have f1 : Fr [] H (upd H qt (.lst [v])) := Fr.new n1
    have e1 : upd H qt (.lst [v]) qt = some (.lst [v]) := upd_same
    have D1 : DyAll K (upd H qt (.lst [v])) [qt] [v] [d] := by
      have : DyAll K H [] [v] [d] := .cons (by
        show Dg K (ws H []) v d
        have : ws H [] = H := by funext a; rw [ws_at (by simp)]
        rw [this]
        exact D) .nil
      exact this.more n1
    generalize upd H qt (.lst [v]) = H1 at f1 e1 D1
    walk_at "go"
    refine ⟨by exact Nat.le_of_ble_eq_true rfl, fun qf n2 => ?_⟩
    have f2 : Fr [] H1 (upd H1 qf (.lst [])) := Fr.new n2
    have e2 : upd H1 qf (.lst []) qf = some (.lst []) := upd_same
    have D2 : DyAll K (upd H1 qf (.lst [])) [qf, qt] [v] [d] := D1.more n2
    have e12 := f2 _ _ e1 (by simp)
    have nf : qf ≠ qt := by
      rintro rfl
      rw [n2] at e1
      cases e1
    have nt0 : H qt = none := n1
    have nf0 : H qf = none := f1.free n2
    have f02 := f1.trans f2
    generalize upd H1 qf (.lst []) = H2 at f02 e2 e12 D2
    walk_at "go"
    refine w_whileN (fun mm σ' H' => ∃ (vs us : List V) (ds : List PyData) (v3 v4 : Option V), mm = tszs ds ∧ σ' = [some v, some (.ref qt), some (.ref qf), v3, v4] ∧ Fr [] H H' ∧ H' qt = some (.lst vs) ∧ H' qf = some (.lst us) ∧ DyAll K H' [qf, qt] vs ds ∧ (∀ x ∈ ds, od m 22 x = true) ∧
      us.length + tszs ds ≤ 50000 ∧ (cnt 22 d = 0 ↔ 0 ∈ ds.map (cnt 22)) ∧ (¬ 0 ∈ ds.map (cnt 22) → cnt 22 d = us.length + (ds.map (cnt 22)).sum)) _ ⟨[v], [], [d], _, _, rfl, rfl, f02, e12, e2, D2, by simpa using o, by simp [tszs]; omega, by simp [eq_comm], by simp⟩ ?_
    rintro mm σ' H3 ⟨vs, us, ds, v3, v4, rfl, rfl, f3, et, ef, Dt, ods, szs, hbad, hsum⟩
    walk_at "go"
    refine ⟨by exact Nat.le_of_ble_eq_true rfl, fun q3 n3 => ?_⟩
    have f34 : Fr [] H3 (upd H3 q3 (.lst [])) := Fr.new n3
    have e3 : upd H3 q3 (.lst []) q3 = some (.lst []) := upd_same
    generalize upd H3 q3 (.lst []) = H4 at f34 e3
    have et4 := f34 _ _ et (by simp)
    have ef4 := f34 _ _ ef (by simp)
    have D4 : DyAll K H4 [qf, qt] vs ds := DyAll.fr (R := []) Dt f34 (by simp)
    have lv : vs.length = ds.length := DgAll.length D4
    rcases List.eq_nil_or_concat ds with rfl | ⟨ds', x, rfl⟩
    · obtain rfl : vs = [] := List.eq_nil_of_length_eq_zero lv
      refine .inl (w_neNil (K := K) (Lq.dp ⟨[], et4, .nil⟩) e3 (by decide) ?_)
      rw [show (!([] : List PyData).isEmpty) = false from rfl]
      walk_at "go"
      refine k.2 (fun h => ?_) qf us H4 (f3.trans f34) ef4 ?_
      · have := hbad.mp h
        simp at this
      · have := hsum (by simp)
        simpa using this.symm
    · rw [List.concat_eq_append] at *
      rcases List.eq_nil_or_concat vs with rfl | ⟨vs', y, rfl⟩
      · simp at lv
      rw [List.concat_eq_append] at *
      have lv' : vs'.length = ds'.length := by simpa using lv
      have D4a : DyAll K H4 [qf, qt] vs' ds' := by
        have := DgAll.take ds'.length D4
        rw [List.take_left' (by rw [lv']), List.take_left] at this
        exact this
      have D4b : Dy K H4 [qf, qt] y x := by
        have := DgAll.drop ds'.length D4
        rw [List.drop_left' (by rw [lv']), List.drop_left] at this
        cases this with
        | cons a b => exact a
      refine .inr ⟨qt, q3, vs' ++ [y], [], rfl, rfl, et4, e3, by simp, ?_⟩
      walk_at "go"
      refine ⟨.inl ⟨rfl, _, SqL.of et4⟩, ?_⟩
      walk_at "go"
      refine ⟨qt, vs' ++ [y], y, rfl, rfl, et4, by simp, ?_⟩
      rw [List.dropLast_concat]
      have f45 : Fr [qt] H4 (upd H4 qt (.lst vs')) := Fr.mut (by simp)
      have e5 : upd H4 qt (.lst vs') qt = some (.lst vs') := upd_same
      generalize upd H4 qt (.lst vs') = H5 at f45 e5
      have ef5 := f45 _ _ ef4 (by simpa using nf)
      walk_at "go"
      refine ⟨.inl ⟨rfl, _, SqL.of ef5⟩, ?_⟩
      walk_at "go"
      have lus : us.length ≤ 50000 := by omega
      refine ⟨qf, us, y, rfl, rfl, ef5, Nat.lt_of_le_of_lt (show us.length ≤ 100000 by omega) (by decide), ?_⟩
      have f56 : Fr [qf] H5 (upd H5 qf (.lst (us ++ [y]))) := Fr.mut (by simp)
      have e6 : upd H5 qf (.lst (us ++ [y])) qf = some (.lst (us ++ [y])) := upd_same
      generalize upd H5 qf (.lst (us ++ [y])) = H6 at f56 e6
      have et6 := f56 _ _ e5 (by simpa using nf.symm)
      have f06 : Fr [] H H6 := Fr.drop1 nf0 (Fr.drop1 nt0 (f3.trans f34) f45) f56
      have D6a : DyAll K H6 [qf, qt] vs' ds' := (D4a.fr f45 (by simp)).fr f56 (by simp)
      have D6b : Dy K H6 [qf, qt] y x := (D4b.fr f45 (by simp)).fr f56 (by simp)
      have ox : od m 22 x = true := ods x (by simp)
      have ods' : ∀ c ∈ ds', od m 22 c = true := fun c hc => ods c (by simp [hc])
      have tsa : tszs (ds' ++ [x]) = tszs ds' + tsz x := by
        rw [tszs_map, tszs_map, List.map_append, List.sum_append]
        simp
      have fail : ∀ H7, Fr [] H6 H7 → shp x = none → Q .non H7 := fun H7 f7 hx => by
        refine k.1 (hbad.mpr ?_) H7 (f06.trans f7)
        have : cnt 22 x = 0 := by
          rw [cnt, hx]
        rw [List.map_append, List.mem_append]
        exact .inr (by simp [this])
      have next : ∀ (cs : List PyData) (H7 : Hp) (vs7 : List V) (s4 s5 : Option V), shp x = some cs → Fr [] H H7 → H7 qt = some (.lst vs7) → H7 qf = some (.lst (us ++ [y])) → DyAll K H7 [qf, qt] vs7 (ds' ++ cs) →
          ∃ m', m' < tszs (ds' ++ [x]) ∧ ∃ (vs us : List V) (ds : List PyData) (v3 v4 : Option V), m' = tszs ds ∧ ([some v, some (.ref qt), some (.ref qf), s4, s5] : L2.St) = [some v, some (.ref qt), some (.ref qf), v3, v4] ∧ Fr [] H H7 ∧ H7 qt = some (.lst vs) ∧ H7 qf = some (.lst us) ∧ DyAll K H7 [qf, qt] vs ds ∧ (∀ x ∈ ds, od m 22 x = true) ∧
            us.length + tszs ds ≤ 50000 ∧ (cnt 22 d = 0 ↔ 0 ∈ ds.map (cnt 22)) ∧ (¬ 0 ∈ ds.map (cnt 22) → cnt 22 d = us.length + (ds.map (cnt 22)).sum) := by
        intro cs H7 vs7 s4 s5 hx f7 et7 ef7 D7
        obtain ⟨oc, sc⟩ := shp_od ox hx
        have tcs : tszs (ds' ++ cs) = tszs ds' + tszs cs := by
          rw [tszs_map, tszs_map, tszs_map, List.map_append, List.sum_append]
        have ecs : cs.map (cnt 21) = cs.map (cnt 22) := List.map_congr_left fun c hc => (cnt_stable (m := m) (by omega) (oc c hc)).symm
        have ecx : cnt 22 x = if 0 ∈ cs.map (cnt 22) then 0 else 1 + (cs.map (cnt 22)).sum := by
          rw [← ecs]
          rw [cnt, hx]
        refine ⟨_, ?_, vs7, us ++ [y], ds' ++ cs, s4, s5, rfl, rfl, f7, et7, ef7, D7, ?_, ?_, ?_, ?_⟩
        · omega
        · intro c hc
          rcases List.mem_append.mp hc with z | z
          · exact ods' c z
          · exact od_mono (Nat.le_refl _) (by omega) (oc c z)
        · rw [List.length_append, List.length_singleton]
          omega
        · rw [hbad, List.map_append, List.map_append, List.mem_append, List.mem_append]
          have : 0 ∈ [x].map (cnt 22) ↔ 0 ∈ cs.map (cnt 22) := by
            rw [List.map_singleton, List.mem_singleton, ecx]
            by_cases h : 0 ∈ cs.map (cnt 22)
            · rw [if_pos h]
              simp [h]
            · rw [if_neg h]
              simp only [h, iff_false]
              omega
          rw [this]
        · intro h
          rw [List.map_append, List.mem_append] at h
          have h2 : ¬ 0 ∈ cs.map (cnt 22) := fun z => h (.inr z)
          rw [if_neg h2] at ecx
          have := hsum (by
            rw [List.map_append, List.mem_append, List.map_singleton, List.mem_singleton]
            rintro (z | z)
            · exact h (.inl z)
            · omega)
          rw [this, List.map_append, List.map_append, List.sum_append, List.sum_append, List.length_append, List.length_singleton, List.map_singleton, List.sum_singleton, ecx]
          omega
      have Dx6 : Dg K (ws H6 [qf, qt]) y x := D6b
      clear D6b
      walk_at "go"
      cases Dx6 with
      | non => walk_at "go"; exact fail _ Fr.refl rfl
      | bl b => walk_at "go"; exact fail _ Fr.refl rfl
      | int i => walk_at "go"; exact fail _ Fr.refl rfl
      | str x => walk_at "go"; exact fail _ Fr.refl rfl
      | lst s _ => refine isL_tuple (ws_fr.seqL s (by simp)) ?_; walk_at "go"; exact fail _ Fr.refl rfl
      | dct s => refine isD_tuple (ws_fr _ _ s (by simp)) ?_; walk_at "go"; exact fail _ Fr.refl rfl
      | tup s0 a =>
        rename_i p wv es
        have s : SqT K H6 p wv := ws_fr.seqT s0 (by simp)
        obtain ⟨le, oe⟩ := od_tuple ox
        have la := DgAll.length a
        refine isT_tuple s ?_
        walk_at "go"
        refine w_lenT s ?_
        walk_at "go"
        refine ite_d (fun h2 => ?_) fun h2 => ?_
        · walk_at "go"
          refine fail _ Fr.refl ?_
          match es, la with
          | [], _ => rfl
          | [d], _ => cases d <;> rfl
          | _ :: _ :: _, l2 => simp at l2; omega
        · cases a with
          | nil => simp at h2
          | cons a0 a =>
          cases a with
          | nil => simp at h2
          | cons a1 a =>
          rename_i v0 d0 v1 vr d1 dr
          have lr := DgAll.length a
          walk_at "go"
          refine w_ixT s (atI_nat (j := 0) rfl) ?_
          walk_at "go"
          refine (Dy.dg a0).isStr ?_
          by_cases hs : isStr d0 = true
          · obtain ⟨z, rfl⟩ : ∃ z, d0 = .str z := by
              cases d0 <;> first | exact ⟨_, rfl⟩ | cases hs
            cases a0
            have i0 : atI (V.str z :: v1 :: vr) 0 = some (V.str z) := atI_nat (j := 0) rfl
            have i1 : atI (V.str z :: v1 :: vr) 1 = some v1 := atI_nat (j := 1) rfl
            rw [show isStr (.str z) = true from rfl]
            walk_at "go"
            refine w_dget2 (w_disp fun pd hpd => ?_)
            refine w_pairs ?_
            walk_at "go"
            refine w_pairs ?_
            walk_at "go"
            refine w_pairs ?_
            walk_at "go"
            refine w_pairs ?_
            walk_at "go"
            refine w_pnil ?_
            refine ⟨upd_same, many4, rfl, by decide, ?_⟩
            have f67 : Fr [] H6 (upd (upd H6 pd (.dK [])) pd (.dK (mergeK [] many4))) := Fr.new_mut hpd ((Fr.new (S := [pd]) hpd).trans (Fr.mut (by simp)))
            have e7 : upd (upd H6 pd (.dK [])) pd (.dK (mergeK [] many4)) pd = some (.dK (mergeK [] many4)) := upd_same
            generalize upd (upd H6 pd (.dK [])) pd (.dK (mergeK [] many4)) = H7 at f67 e7
            have s7 := f67.seqT s (by simp)
            have a17 := Dg.fr f67 (Dy.dg a1)
            refine ⟨pd, rfl, .inl ⟨_, .inl e7⟩, ?_⟩
            walk_at "go"
            refine w_ixT s7 i0 ?_
            walk_at "go"
            refine ⟨_, DGet.k (k := .inr z) e7, ?_⟩
            obtain ⟨mv, hmv⟩ : ∃ mv : Int, (match tab many z with | none => 2 | some k => k + 1) = mv := ⟨_, rfl⟩
            rw [many4_get z, hmv]
            walk_at "go"
            refine w_lenT s7 ?_
            walk_at "go"
            have ln : ((V.str z :: v1 :: vr).length : Int) = (d1 :: dr).length + 1 := by
              rw [List.length_cons, List.length_cons, List.length_cons, lr]
              omega
            rw [ln]
            have f07 := f06.trans f67
            have et7 := f67 _ _ et6 (by simp)
            have ef7 := f67 _ _ e6 (by simp)
            have D7a : DyAll K H7 [qf, qt] vs' ds' := DyAll.fr (R := []) D6a f67 (by simp)
            have leaf : ∀ (H8 : Hp) (s4 s5 : Option V), Fr [] H7 H8 → shp (.tuple (.str z :: d1 :: dr)) = some [] → _ := fun H8 s4 s5 f8 hx => next [] H8 vs' s4 s5 hx (f07.trans f8) (f8 _ _ et7 (by simp)) (f8 _ _ ef7 (by simp)) (by rw [List.append_nil]; exact DyAll.fr (R := []) D7a f8 (by simp))
            cases ht : tab many z with
            | some kk =>
              obtain ⟨hk, hn, ha⟩ := tab_many ht
              rw [ht] at hmv
              have hmv : kk + 1 = mv := hmv
              by_cases hl : ((d1 :: dr).length : Int) = kk
              · rw [decide_eq_true (by omega : ((d1 :: dr).length : Int) + 1 = mv)]
                walk_at "go"
                refine ite_d (fun _ => ?_) fun h => absurd (by omega : (2 : Int) < mv) h
                walk_at "go"
                refine ⟨.inl ⟨rfl, _, SqL.of et7⟩, ?_⟩
                walk_at "go"
                have hw : ¬ (HT.sIx (V.str z :: v1 :: vr).length 0 (some 1) = 0 ∧ HT.sIx (V.str z :: v1 :: vr).length (V.str z :: v1 :: vr).length none = (V.str z :: v1 :: vr).length) := fun h => by
                  have h1 := h.1
                  simp [HT.sIx] at h1
                refine ⟨p, _, rfl, s7, hw, fun p8 us8 hp8 => ?_⟩
                have ec : cutV (V.str z :: v1 :: vr) (some 1) none = v1 :: vr := cut_drop (xs := V.str z :: v1 :: vr) 1
                rw [ec]
                have f78 : Fr [] H7 (upd H7 p8 (.frz (tfz us8) (.tup (v1 :: vr)))) := Fr.new hp8
                have e8 : PTup (upd H7 p8 (.frz (tfz us8) (.tup (v1 :: vr)))) p8 (v1 :: vr) := ⟨us8, upd_same⟩
                generalize upd H7 p8 (.frz (tfz us8) (.tup (v1 :: vr))) = H8 at f78 e8
                have et8 := f78 _ _ et7 (by simp)
                have ef8 := f78 _ _ ef7 (by simp)
                have Dr6 : DyAll K H6 [qf, qt] (v1 :: vr) (d1 :: dr) := .cons a1 a
                have Dr8 : DyAll K H8 [qf, qt] (v1 :: vr) (d1 :: dr) := (Dr6.fr (R := []) f67 (by simp)).fr (R := []) f78 (by simp)
                have D8a : DyAll K H8 [qf, qt] vs' ds' := DyAll.fr (R := []) D7a f78 (by simp)
                refine ⟨qt, p8, vs', v1 :: vr, rfl, rfl, et8, e8, ?_, ?_⟩
                · have l1 := DgAll.length D8a
                  have l2 := DgAll.length Dr8
                  have : ds'.length ≤ tszs ds' := tszs_len ds'
                  have : (d1 :: dr).length ≤ 140 := by
                    have := le
                    simp only [List.length_cons] at this ⊢
                    omega
                  omega
                · have f89 : Fr [qt] H8 (upd H8 qt (.lst (vs' ++ (v1 :: vr)))) := Fr.mut (by simp)
                  refine next (d1 :: dr) _ (vs' ++ (v1 :: vr)) _ _ ?_ (Fr.drop1 nt0 (f07.trans f78) f89) upd_same (f89 _ _ ef8 (by simpa using nf)) (DyAll.fr (R := [qt]) (D8a.append Dr8) f89 (by simp))
                  rw [shp_many hn ha, ht]
                  exact if_pos hl
              · rw [decide_eq_false (by omega : ¬ ((d1 :: dr).length : Int) + 1 = mv)]
                walk_at "go"
                refine fail _ f67 ?_
                rw [shp_many hn ha, ht]
                exact if_neg hl
            | none =>
              rw [ht] at hmv
              have hmv : 2 = mv := hmv
              subst hmv
              by_cases hl : (d1 :: dr).length = 1
              · rw [decide_eq_true (by omega : ((d1 :: dr).length : Int) + 1 = 2)]
                walk_at "go"
                refine ite_d (fun h => absurd h (by decide)) fun _ => ?_
                walk_at "go"
                refine w_ixT s7 i0 ?_
                walk_at "go"
                refine ite_d (fun h3 => ?_) fun h3 => ?_
                · subst h3
                  have es := shp_num (d1 := d1) (dr := dr)
                  rw [decide_eq_true hl, Bool.true_and] at es
                  walk_at "go"
                  refine w_ixT s7 i1 ?_
                  walk_at "go"
                  refine ⟨v1, d1, rfl, a17, ?_⟩
                  cases hb : isNumD d1 with
                  | false =>
                    walk_at "go"
                    exact fail _ f67 (es.trans (if_neg (by rw [hb]; decide)))
                  | true =>
                    walk_at "go"
                    exact leaf _ _ _ Fr.refl (es.trans (if_pos hb))
                · walk_at "go"
                  refine w_ixT s7 i0 ?_
                  walk_at "go"
                  refine ⟨by exact Nat.le_of_ble_eq_true rfl, fun p9 n9 => ?_⟩
                  have f79 : Fr [] H7 (upd H7 p9 (.tup [.str "take", .str "box", .str "down", .str "turn"])) := Fr.new n9
                  have e9 : SqT K (upd H7 p9 (.tup [.str "take", .str "box", .str "down", .str "turn"])) p9 [.str "take", .str "box", .str "down", .str "turn"] := .inl (.inl upd_same)
                  generalize upd H7 p9 (.tup [.str "take", .str "box", .str "down", .str "turn"]) = H9 at f79 e9
                  have ein : inV (.str z) [V.str "take", .str "box", .str "down", .str "turn"] = decide (z = "turn" ∨ z = "take" ∨ z = "box" ∨ z = "down") := by
                    show ((("take" : Str) == z) || ((("box" : Str) == z) || ((("down" : Str) == z) || ((("turn" : Str) == z) || false)))) = _
                    refine Bool.eq_iff_iff.mpr ?_
                    simp only [Bool.or_eq_true, beq_iff_eq, decide_eq_true_eq, Bool.or_false]
                    constructor
                    · rintro (rfl | rfl | rfl | rfl)
                      · exact .inr (.inl rfl)
                      · exact .inr (.inr (.inl rfl))
                      · exact .inr (.inr (.inr rfl))
                      · exact .inl rfl
                    · rintro (rfl | rfl | rfl | rfl)
                      · exact .inr (.inr (.inr rfl))
                      · exact .inl rfl
                      · exact .inr (.inl rfl)
                      · exact .inr (.inr (.inl rfl))
                  refine w_ninT e9 rfl rfl ?_
                  rw [ein]
                  by_cases ha : z = "turn" ∨ z = "take" ∨ z = "box" ∨ z = "down"
                  · have es := shp_name (d1 := d1) (dr := dr) h3 ha
                    rw [decide_eq_true hl, Bool.true_and] at es
                    rw [decide_eq_true ha]
                    walk_at "go"
                    refine w_ixT (f79.seqT s7 (by simp)) i1 ?_
                    walk_at "go"
                    refine ⟨v1, d1, rfl, Dg.fr f79 a17, fun x ex => ?_, fun H10 f10 => ?_⟩
                    · subst ex
                      exact txok (oe _ (by simp)) hm
                    cases hb : isNameD d1 with
                    | false =>
                      walk_at "go"
                      exact fail _ ((f67.trans f79).trans f10) (es.trans (if_neg (by rw [hb]; decide)))
                    | true =>
                      walk_at "go"
                      exact leaf _ _ _ (f79.trans f10) (es.trans (if_pos hb))
                  · rw [decide_eq_false ha]
                    walk_at "go"
                    refine fail _ (f67.trans f79) ?_
                    rw [shp_many h3 ha, ht]
              · rw [decide_eq_false (by omega : ¬ ((d1 :: dr).length : Int) + 1 = 2)]
                walk_at "go"
                refine fail _ f67 ?_
                by_cases h3 : z = "num"
                · subst h3
                  rw [shp_num, if_neg (by rw [decide_eq_false hl]; simp)]
                · by_cases ha : z = "turn" ∨ z = "take" ∨ z = "box" ∨ z = "down"
                  · rw [shp_name h3 ha, if_neg (by rw [decide_eq_false hl]; simp)]
                  · rw [shp_many h3 ha, ht]
          · rw [Bool.eq_false_iff.mpr hs]
            walk_at "go"
            refine fail _ Fr.refl ?_
            cases d0 <;> first | rfl | exact absurd rfl hs
def sp_law_is_sum (K : PySem.W.Frag) : Sp := fun vs H Q _ => ∃ (v : V) (d : PyData) (m : Nat), vs = [v] ∧ (od m 22 d = true ∧ m ≤ 100) ∧ tsz d ≤ 50000 ∧ Dg K H v d ∧ ∀ H', Fr [] H H' → Q (.bl (isRecD 22 d)) H'
theorem ok_law_is_sum (T : Env K mg) : Fx P w K mg base 3 "_law_is_sum" p_law_is_sum (sp_law_is_sum K) := by
  refine T.l_law_is_sum.ok sc_law_is_sum (fun vs H Q E h => ?_) (fun f cdv A outer s H vs Q E hr h => ?_)
  · obtain ⟨_, _, _, rfl, _⟩ := h
    rfl
  · obtain ⟨v, d, m, rfl, o, sz, D, k⟩ := h
    refine ⟨_, (pss_cons (ps_set (i := 1) sc_law_is_sum.nd rfl (Or.inl rfl) (pe_fx (ok_law_nodes (P := P) (w := w) T) hr (by decide) (pa_cons (pv 0) pa_nil)))
      (pss_one (ps_ret (pe_and (pe_cmp (pc_notN (pv 1))) (pe_one (pe_cmpR op_le (pe_callB (call_lenU (K := K) rfl) (by rfl) T.m_len (by decide +kernel) (pa_cons (pv 1) pa_nil)) pe_int (nomark _))))))), ?_⟩
    walk_at "go"
    unfold isRecD at k
    refine ⟨v, d, m, rfl, o, sz, D, fun hb H1 f1 => ?_, fun hb p xs H1 f1 e1 l1 => ?_⟩
    · have k1 := k H1 f1
      rw [hb] at k1
      walk_at "go"
      rw [decide_eq_true rfl]
      walk_at "go"
      exact k1
    · have k1 := k H1 f1
      rw [decide_eq_true (by omega : 1 ≤ cnt 22 d), Bool.true_and] at k1
      walk_at "go"
      rw [decide_eq_false (by intro h; cases h)]
      walk_at "go"
      refine w_lenL (SqL.of e1) ?_
      walk_at "go"
      rw [l1]
      have e : decide (((cnt 22 d : Nat) : Int) ≤ 20) = decide (cnt 22 d ≤ 20) := decide_eq_decide.mpr (by omega)
      rw [e]
      exact k1
def sp_law_right (K : PySem.W.Frag) : Sp := fun vs H Q _ => ∃ (v : V) (d : PyData) (m : Nat), vs = [v] ∧ (od m 22 d = true ∧ m ≤ 100) ∧ tsz d ≤ 50000 ∧ Dg K H v d ∧ ∀ H', Fr [] H H' → Q (.bl true) H'
theorem ok_law_right (T : Env K mg) (M : Tabs w K mg) : Fx P w K mg base 27 "_law_right" p_law_right (sp_law_right K) := by
  refine T.l_law_right.ok sc_law_right (fun vs H Q E h => ?_) (fun f cdv A outer s H vs Q E hr h => ?_)
  · obtain ⟨_, _, _, rfl, _⟩ := h
    rfl
  · obtain ⟨v, d, m, rfl, o, sz, D, k⟩ := h
    refine ⟨_, (pss_cons (ps_set (i := 1) sc_law_right.nd rfl (Or.inl rfl) (pe_fx (ok_is_reckoning (P := P) (w := w) T M) hr (by decide) (pa_cons (pv 0) pa_nil)))
      (pss_one (ps_ret (pe_and (pe_callB (call_isiU (K := K) rfl) (by rfl) T.m_isinstance (by decide +kernel) (pa_cons (pv 1) (pa_cons (pe_bltn (v := .ty "bool") (u := .type "bool") rfl T.m_bool (by decide +kernel) rfl) pa_nil))) (pe_one (pe_cmpR (op_eqU (K := K) rfl (u64 hr)) (pv 1) (pe_fx (ok_law_is_sum (P := P) (w := w) T) hr (by decide) (pa_cons (pv 0) pa_nil)) (nomark _))))))), ?_⟩
    walk_at "go"
    refine ⟨v, d, m, rfl, o, D, fun H1 f1 => ?_⟩
    walk_at "go"
    refine ⟨v, d, m, rfl, o, sz, Dg.fr f1 D, fun H2 f2 => ?_⟩
    walk_at "go"
    rw [decide_eq_true rfl]
    exact k H2 (f1.trans f2)
end

section
variable {P : Program} {w : World} {K : PySem.W.Frag} {mg : Str → Option Value} {base : Heap}
/-- a small number, or one of four -/
def sp_law_number (K : PySem.W.Frag) : Sp := fun vs H Q _ => ∃ (t : Addr) (H0 : Hp), vs = [.ref t] ∧ Tape K H0 H t ∧ ∀ r H', -1000000000 ≤ r ∧ r ≤ 1000000000 → Fr [t] H H' → Tape K H0 H' t → Q (.int r) H'
theorem ok_law_number (T : Env K mg) : Fx P w K mg base 2 "_law_number" p_law_number (sp_law_number K) := by
  refine T.l_law_number.ok sc_law_number (fun vs H Q E h => ?_) (fun f cdv A outer s H vs Q E hr h => ?_)
  · obtain ⟨t, _, rfl, _⟩ := h
    rfl
  · obtain ⟨t, H0, rfl, hT, k⟩ := h
    refine ⟨_, (pss_cons (ps_if (pt_cmpR op_gt (pe_fx (ok_law_draw (P := P) (w := w) T) hr (by decide) (pa_cons (pv 0) (pa_cons pe_int pa_nil))) pe_int (nomark _)) (pss_one (ps_ret (pe_op op_sub (pe_fx (ok_law_draw (P := P) (w := w) T) hr (by decide) (pa_cons (pv 0) (pa_cons pe_int pa_nil))) pe_int))) pss_nil)
      (pss_one (ps_ret (pe_ix (ix_U (K := K) rfl) (pe_lst (pa_cons (pe_op op_pow pe_int pe_int) (pa_cons (pe_un un_neg (pe_op op_pow pe_int pe_int)) (pa_cons pe_int (pa_cons (pe_un un_neg pe_int) pa_nil))))) (pe_fx (ok_law_draw (P := P) (w := w) T) hr (by decide) (pa_cons (pv 0) (pa_cons pe_int pa_nil))) (fun _ _ => rfl))))), ?_⟩
    walk_at "go"
    refine ⟨t, 8, H0, rfl, hT, by decide, by decide, fun r H1 r0 r1 f1 T1 => ?_⟩
    walk_at "go"
    refine ite_d (fun h0 => ?_) (fun h0 => ?_)
    · walk_at "go"
      refine ⟨t, 9, H0, rfl, T1, by decide, by decide, fun r2 H2 r20 r21 f2 T2 => ?_⟩
      walk_at "go"
      exact k _ _ (by omega) (f1.trans f2) T2
    · walk_at "go"
      refine ⟨by show 4 ≤ sizeLine; decide, fun l hl => ?_⟩
      walk_at "go"
      refine ⟨t, 4, H0, rfl, T1.new hl, by decide, by decide, fun r2 H2 r20 r21 f2 T2 => ?_⟩
      have e2 : H2 l = some (.lst (([1000000000, -1000000000, 999983, -70001] : List Int).map V.int)) := f2 _ _ upd_same (by simpa using T1.ne hl)
      obtain ⟨z, hz, hb⟩ := at_all (ns := [1000000000, -1000000000, 999983, -70001]) (P := fun r => -1000000000 ≤ r ∧ r ≤ 1000000000) (by decide) r20 r21
      refine w_ixL (SqL.of e2) hz ?_
      exact k _ _ hb ((f1.trans (Fr.new hl)).trans f2) T2
end

section
variable {P : Program} {w : World} {K : PySem.W.Frag} {mg : Str → Option Value} {base : Heap}
/-- a kit of boxes: a dict with a list of two names -/
def Kit (H : Hp) (t d : Addr) : Prop := ∃ qb, H d = some (.dK [(.inr "boxes", .ref qb)]) ∧ H qb = some (.lst [.str "a", .str "ab"]) ∧ d ≠ t ∧ qb ≠ t
theorem Kit.fr {H H' : Hp} {t d : Addr} (h : Kit H t d) (f : Fr [t] H H') : Kit H' t d := by
  obtain ⟨qb, e1, e2, n1, n2⟩ := h
  exact ⟨qb, f _ _ e1 (by simpa using n1), f _ _ e2 (by simpa using n2), n1, n2⟩
def bd (m n B : Nat) (d : PyData) : Prop := od m n d = true ∧ tsz d ≤ B
theorem bd.mono {m m' n n' B B' : Nat} {d : PyData} (h : bd m n B d) (h1 : m ≤ m') (h2 : n ≤ n') (h3 : B ≤ B') : bd m' n' B' d := ⟨od_mono h1 h2 h.1, Nat.le_trans h.2 h3⟩
theorem bd_two {a b : Str} {n : Nat} (ha : od 0 1 (.str a) = true) (hb : od 0 1 (.str b) = true) : bd 0 (n + 2) 3 (.tuple [.str a, .str b]) := by
  refine ⟨od_mkT (by simp) fun d hd => ?_, by simp [tsz, tszs]⟩
  simp only [List.mem_cons, List.not_mem_nil, or_false] at hd
  rcases hd with rfl | rfl
  · exact od_mono (Nat.le_refl _) (by omega) ha
  · exact od_mono (Nat.le_refl _) (by omega) hb
theorem bd_num {r : Int} {n : Nat} (h : -1000000000 ≤ r ∧ r ≤ 1000000000) : bd 0 (n + 2) 3 (.tuple [.str "num", .int r]) := by
  refine ⟨od_mkT (by simp) fun d hd => ?_, by simp [tsz, tszs]⟩
  simp only [List.mem_cons, List.not_mem_nil, or_false] at hd
  rcases hd with rfl | rfl
  · simp only [od]
    decide +kernel
  · simp only [od, decide_eq_true_eq]
    omega
theorem st_abb {r : Int} (h0 : 0 ≤ r) (h1 : r < 3) : ∃ z : Str, atI ([V.str "a", .str "ab", .str "b"]) r = some (.str z) ∧ od 0 1 (.str z) = true := by
  have : r = 0 ∨ r = 1 ∨ r = 2 := by omega
  rcases this with rfl | rfl | rfl
  · exact ⟨"a", rfl, by decide +kernel⟩
  · exact ⟨"ab", rfl, by decide +kernel⟩
  · exact ⟨"b", rfl, by decide +kernel⟩
def sp_law_leaf (K : PySem.W.Frag) : Sp := fun vs H Q _ => ∃ (t d q : Addr) (H0 : Hp), vs = [.ref t, .ref d, .ref q] ∧ Tape K H0 H t ∧ Kit H t d ∧ H q = some (.lst [.str "t"]) ∧ q ≠ t ∧ ∀ v D H', bd 0 2 3 D → Fr [t] H H' → Tape K H0 H' t → Dt K H' v D → Q v H'
theorem ok_law_leaf (T : Env K mg) : Fx P w K mg base 3 "_law_leaf" p_law_leaf (sp_law_leaf K) := by
  refine T.l_law_leaf.ok sc_law_leaf (fun vs H Q E h => ?_) (fun f cdv A outer s H vs Q E hr h => ?_)
  · obtain ⟨t, d, q, _, rfl, _⟩ := h
    rfl
  · obtain ⟨t, d, q, H0, rfl, T0, KT, eq, nq, k⟩ := h
    refine ⟨_, (pss_cons (ps_set (i := 3) sc_law_leaf.nd rfl (Or.inl rfl) (pe_fx (ok_law_draw (P := P) (w := w) T) hr (by decide) (pa_cons (pv 0) (pa_cons pe_int pa_nil))))
      (pss_cons (ps_if (pt_cmpR (op_eqU (K := K) rfl (u64 hr)) (pv 3) pe_int (nomark _)) (pss_one (ps_ret (pe_tup (pa_cons pe_str (pa_cons (pe_ix (ix_U (K := K) rfl) (pe_lst (pa_cons pe_str (pa_cons pe_str (pa_cons pe_str pa_nil)))) (pe_fx (ok_law_draw (P := P) (w := w) T) hr (by decide) (pa_cons (pv 0) (pa_cons pe_int pa_nil))) (fun _ _ => rfl)) pa_nil))))) pss_nil)
      (pss_cons (ps_if (pt_cmpR (op_eqU (K := K) rfl (u64 hr)) (pv 3) pe_int (nomark _)) (pss_one (ps_ret (pe_tup (pa_cons pe_str (pa_cons (pe_ix (ix_U (K := K) rfl) (pe_lst (pa_cons pe_str (pa_cons pe_str (pa_cons pe_str pa_nil)))) (pe_fx (ok_law_draw (P := P) (w := w) T) hr (by decide) (pa_cons (pv 0) (pa_cons pe_int pa_nil))) (fun _ _ => rfl)) pa_nil))))) pss_nil)
      (pss_cons (ps_if (PW.pt (pw_and (pt_cmpR op_lt (pv 3) pe_int (nomark _)) (pw_and1 (pt_cmpR op_gt (pe_callB (call_lenU (K := K) rfl) (by rfl) T.m_len (by decide +kernel) (pa_cons (pe_dget (u1 hr) (pv 1) pe_str (fun _ _ => rfl)) pa_nil)) pe_int (nomark _))))) (pss_one (ps_ret (pe_tup (pa_cons pe_str (pa_cons (pe_ix (ix_U (K := K) rfl) (pe_dget (u1 hr) (pv 1) pe_str (fun _ _ => rfl)) (pe_fx (ok_law_draw (P := P) (w := w) T) hr (by decide) (pa_cons (pv 0) (pa_cons (pe_callB (call_lenU (K := K) rfl) (by rfl) T.m_len (by decide +kernel) (pa_cons (pe_dget (u1 hr) (pv 1) pe_str (fun _ _ => rfl)) pa_nil)) pa_nil))) (fun _ _ => rfl)) pa_nil))))) pss_nil)
      (pss_cons (ps_if (PW.pt (pw_and (pt_cmpR (op_eqU (K := K) rfl (u64 hr)) (pv 3) pe_int (nomark _)) (pw_and1 (pt_cmpR op_gt (pe_callB (call_lenU (K := K) rfl) (by rfl) T.m_len (by decide +kernel) (pa_cons (pv 2) pa_nil)) pe_int (nomark _))))) (pss_one (ps_ret (pe_tup (pa_cons pe_str (pa_cons (pe_ix (ix_U (K := K) rfl) (pv 2) (pe_fx (ok_law_draw (P := P) (w := w) T) hr (by decide) (pa_cons (pv 0) (pa_cons (pe_callB (call_lenU (K := K) rfl) (by rfl) T.m_len (by decide +kernel) (pa_cons (pv 2) pa_nil)) pa_nil))) (fun _ _ => rfl)) pa_nil))))) pss_nil)
      (pss_one (ps_ret (pe_tup (pa_cons pe_str (pa_cons (pe_fx (ok_law_number (P := P) (w := w) T) hr (by decide) (pa_cons (pv 0) pa_nil)) pa_nil)))))))))), ?_⟩
    walk_at "go"
    refine ⟨t, 6, H0, rfl, T0, by decide, by decide, fun way H1 a1 b1 f1 T1 => ?_⟩
    have K1 := KT.fr f1
    have eq1 := f1 _ _ eq (by simpa using nq)
    obtain ⟨qb, ed, eb, nd, nb⟩ := id K1
    have num : ∀ H2, Fr [t] H H2 → Tape K H0 H2 t → ∀ r H3, -1000000000 ≤ r ∧ r ≤ 1000000000 → Fr [t] H2 H3 → Tape K H0 H3 t → MkT [.str "num", .int r] Q H3 := fun H2 f2 T2 r H3 hr f3 T3 =>
      mkT (K := K) (.cons (.str _) (.cons (.int _) .nil)) fun p4 H4 n4 f4 d4 => k _ _ H4 (bd_num hr) ((f2.trans f3).trans f4.to1) (T3.fr f4) d4
    walk_at "go"
    refine ite_d (fun h0 => ?_) (fun h0 => ?_)
    · walk_at "go"
      refine ⟨by show 3 ≤ sizeLine; decide, fun l hl => ?_⟩
      walk_at "go"
      refine ⟨t, 3, H0, rfl, T1.new hl, by decide, by decide, fun r2 H2 r20 r21 f2 T2 => ?_⟩
      obtain ⟨z, hz, oz⟩ := st_abb r20 r21
      refine w_ixL (SqL.of (f2 _ _ upd_same (by simpa using T1.ne hl))) hz ?_
      walk_at "go"
      refine mkT (K := K) (.cons (.str _) (.cons (.str _) .nil)) fun p3 H3 n3 f3 d3 => ?_
      exact k _ _ H3 (bd_two (n := 0) (by decide +kernel) oz) (((f1.trans (Fr.new hl)).trans f2).trans f3.to1) (T2.fr f3) d3
    · walk_at "go"
      refine ite_d (fun h1 => ?_) (fun h1 => ?_)
      · walk_at "go"
        refine ⟨by show 3 ≤ sizeLine; decide, fun l hl => ?_⟩
        walk_at "go"
        refine ⟨t, 3, H0, rfl, T1.new hl, by decide, by decide, fun r2 H2 r20 r21 f2 T2 => ?_⟩
        obtain ⟨z, hz, oz⟩ := st_abb r20 r21
        refine w_ixL (SqL.of (f2 _ _ upd_same (by simpa using T1.ne hl))) hz ?_
        walk_at "go"
        refine mkT (K := K) (.cons (.str _) (.cons (.str _) .nil)) fun p3 H3 n3 f3 d3 => ?_
        exact k _ _ H3 (bd_two (n := 0) (by decide +kernel) oz) (((f1.trans (Fr.new hl)).trans f2).trans f3.to1) (T2.fr f3) d3
      · walk_at "go"
        refine ite_d (fun h2 => ?_) (fun h2 => ?_)
        · walk_at "go"
          refine ⟨d, .ref qb, rfl, DGet.k (k := .inr "boxes") ed, ?_⟩
          walk_at "go"
          refine w_lenL (SqL.of eb) ?_
          walk_at "go"
          refine ite_d (fun _ => ?_) fun h => absurd (by decide) h
          walk_at "go"
          refine ⟨d, .ref qb, rfl, DGet.k (k := .inr "boxes") ed, ?_⟩
          walk_at "go"
          refine ⟨d, .ref qb, rfl, DGet.k (k := .inr "boxes") ed, ?_⟩
          walk_at "go"
          refine w_lenL (SqL.of eb) ?_
          walk_at "go"
          refine ⟨t, 2, H0, rfl, T1, by decide, by decide, fun r2 H2 r20 r21 f2 T2 => ?_⟩
          obtain ⟨z, hz, oz⟩ : ∃ z : Str, atI ([V.str "a", .str "ab"]) r2 = some (.str z) ∧ od 0 1 (.str z) = true := by
            have : r2 = 0 ∨ r2 = 1 := by omega
            rcases this with rfl | rfl
            · exact ⟨"a", rfl, by decide +kernel⟩
            · exact ⟨"ab", rfl, by decide +kernel⟩
          refine w_ixL (SqL.of (f2 _ _ eb (by simpa using nb))) hz ?_
          walk_at "go"
          refine mkT (K := K) (.cons (.str _) (.cons (.str _) .nil)) fun p3 H3 n3 f3 d3 => ?_
          exact k _ _ H3 (bd_two (n := 0) (by decide +kernel) oz) ((f1.trans f2).trans f3.to1) (T2.fr f3) d3
        · walk_at "go"
          refine ite_d (fun h3 => ?_) (fun h3 => ?_)
          · walk_at "go"
            refine w_lenL (SqL.of eq1) ?_
            walk_at "go"
            refine ite_d (fun _ => ?_) fun h => absurd (by decide) h
            walk_at "go"
            refine w_lenL (SqL.of eq1) ?_
            walk_at "go"
            refine ⟨t, 1, H0, rfl, T1, by decide, by decide, fun r2 H2 r20 r21 f2 T2 => ?_⟩
            obtain rfl : r2 = 0 := by omega
            refine w_ixL (SqL.of (f2 _ _ eq1 (by simpa using nq))) rfl ?_
            walk_at "go"
            refine mkT (K := K) (.cons (.str _) (.cons (.str _) .nil)) fun p3 H3 n3 f3 d3 => ?_
            exact k _ _ H3 (bd_two (n := 0) (by decide +kernel) (by decide +kernel)) ((f1.trans f2).trans f3.to1) (T2.fr f3) d3
          · walk_at "go"
            refine ⟨t, H0, rfl, T1, fun r H2 br f2 T2 => ?_⟩
            walk_at "go"
            exact num H1 f1 T1 r H2 br f2 T2
def TS : Nat → Nat
  | 0 => 3
  | k + 1 => 2 + 3 * TS k
theorem tszs_le {B : Nat} : ∀ {ds : List PyData}, (∀ d ∈ ds, tsz d ≤ B) → tszs ds ≤ ds.length * B
  | [], _ => by simp [tszs]
  | d :: r, h => by
    have h1 := h d (by simp)
    have h2 := tszs_le (ds := r) fun x hx => h x (by simp [hx])
    rw [tszs, List.length_cons, Nat.succ_mul]
    omega
def sp_law_sum (K : PySem.W.Frag) (n : Nat) : Sp := fun vs H Q _ => ∃ (t d q : Addr) (k : Nat) (H0 : Hp), vs = [.ref t, .ref d, .ref q, .int k] ∧ (k < n ∧ k ≤ 3) ∧ Tape K H0 H t ∧ Kit H t d ∧ H q = some (.lst [.str "t"]) ∧ q ≠ t ∧
  ∀ v D H', bd 0 (k + 2) (TS k) D → Fr [t] H H' → Tape K H0 H' t → Dt K H' v D → Q v H'
theorem ok_law_sum (T : Env K mg) : ∀ n, Fx P w K mg base (4 + n) "_law_sum" p_law_sum (sp_law_sum K n)
  | 0 => T.l_law_sum.ok (k := 4 - 1) sc_law_sum (fun vs H Q E h => by
      obtain ⟨_, _, _, _, _, _, h, _⟩ := h
      exact absurd h.1 (by omega)) (fun f cdv A outer s H vs Q E hr h => by
      obtain ⟨_, _, _, _, _, _, h, _⟩ := h
      exact absurd h.1 (by omega))
  | n + 1 => by
    have IH := ok_law_sum T n
    refine T.l_law_sum.ok sc_law_sum (fun vs H Q E h => ?_) (fun f cdv A outer s H vs Q E hr h => ?_)
    · obtain ⟨_, _, _, _, _, rfl, _⟩ := h
      rfl
    · obtain ⟨t, d, q, kk, H0, rfl, ⟨hk, hk3⟩, T0, KT, eq, nq, k⟩ := h
      refine ⟨_, (pss_cons (ps_set (i := 4) sc_law_sum.nd rfl (Or.inl rfl) (pe_fx (ok_law_draw (P := P) (w := w) T) hr (Nat.le_trans (m := 4) (by decide) (Nat.le_add_right 4 _)) (pa_cons (pv 0) (pa_cons pe_int pa_nil))))
      (pss_cons (ps_if (PW.pt (pw_or (pt_cmpR (op_eqU (K := K) rfl (u64 hr)) (pv 3) pe_int (nomark _)) (pw_or1 (pt_cmpR op_lt (pv 4) pe_int (nomark _))))) (pss_one (ps_ret (pe_fx (ok_law_leaf (P := P) (w := w) T) hr (Nat.le_trans (m := 4) (by decide) (Nat.le_add_right 4 _)) (pa_cons (pv 0) (pa_cons (pv 1) (pa_cons (pv 2) pa_nil)))))) pss_nil)
      (pss_cons (ps_set (i := 5) sc_law_sum.nd rfl (Or.inl rfl) (pe_ix (ix_U (K := K) rfl) (pe_lst (pa_cons pe_str (pa_cons pe_str (pa_cons pe_str (pa_cons pe_str pa_nil))))) (pe_op op_sub (pv 4) pe_int) (fun _ _ => rfl)))
      (pss_cons (ps_set (i := 6) sc_law_sum.nd rfl (Or.inl rfl) (pe_ix (ix_U (K := K) rfl) (pe_lst (pa_cons pe_int (pa_cons pe_int pa_nil))) (pe_callTy call_intU (by rfl) T.m_int (by decide +kernel) (pa_cons (pe_cmpR (op_eqU (K := K) rfl (u64 hr)) (pv 5) pe_str (nomark _)) pa_nil)) (fun _ _ => rfl)))
      (pss_one (ps_ret (pe_op (op_addU (K := K) rfl) (pe_tup (pa_cons (pv 5) pa_nil)) (pe_callTy (call_tupleU (K := K) rfl) (by rfl) T.m_tuple (by decide +kernel) (pa_cons (pe_lc (own := [("_law_k", 7)]) (g := (gName 7)) (tt := tYes) rfl sc_law_sum.nd (pi_range1 rfl T.m_range (pa_cons (pv 6) pa_nil)) (blkOk_by (N := N_law_sum) (sc := defScope s_law_sum) (by decide +kernel)) (fun _ _ _ _ _ => (pg_name (i := 7) sc_law_sum.nd rfl (Or.inl rfl))) (fun _ _ _ _ _ => pts_nil) (fun _ _ _ _ _ => (pe_fx (IH) hr (Nat.le_refl _) (pa_cons (pv 0) (pa_cons (pv 1) (pa_cons (pv 2) (pa_cons (pe_op op_sub (pv 3) pe_int) pa_nil))))))) pa_nil))))))))), ?_⟩
      walk_at "go"
      refine ⟨t, 8, H0, rfl, T0, by decide, by decide, fun way H1 a1 b1 f1 T1 => ?_⟩
      have K1 := KT.fr f1
      have eq1 := f1 _ _ eq (by simpa using nq)
      have ts3 : 3 ≤ TS kk := by
        cases kk with
        | zero => exact Nat.le_refl _
        | succ j =>
          have : 1 ≤ TS j := by cases j <;> simp [TS] <;> omega
          show 3 ≤ 2 + 3 * TS j
          omega
      have leaf : ∀ v D H', bd 0 2 3 D → Fr [t] H1 H' → Tape K H0 H' t → Dt K H' v D → Q v H' := fun v D H' b f T d => k v D H' (b.mono (Nat.le_refl _) (by omega) ts3) (f1.trans f) T d
      walk_at "go"
      refine ite_d (fun h0 => ?_) (fun h0 => ?_)
      · walk_at "go"
        exact ⟨t, d, q, H0, rfl, T1, K1, eq1, nq, leaf⟩
      · walk_at "go"
        refine ite_d (fun h1 => ?_) (fun h1 => ?_)
        · walk_at "go"
          exact ⟨t, d, q, H0, rfl, T1, K1, eq1, nq, leaf⟩
        · obtain ⟨kp, rfl⟩ : ∃ kp, kk = kp + 1 := ⟨kk - 1, by omega⟩
          walk_at "go"
          refine ⟨by show 4 ≤ sizeLine; decide, fun l hl => ?_⟩
          have fl : Fr [] H1 (upd H1 l (.lst [.str "add", .str "times", .str "less", .str "pick"])) := Fr.new hl
          have el : upd H1 l (.lst [.str "add", .str "times", .str "less", .str "pick"]) l = some (.lst [.str "add", .str "times", .str "less", .str "pick"]) := upd_same
          generalize upd H1 l (.lst [.str "add", .str "times", .str "less", .str "pick"]) = H2 at fl el
          obtain ⟨z, hz, oz⟩ : ∃ z : Str, atI ([V.str "add", .str "times", .str "less", .str "pick"]) (way - 4) = some (.str z) ∧ od 0 1 (.str z) = true := by
            have : way = 4 ∨ way = 5 ∨ way = 6 ∨ way = 7 := by omega
            rcases this with rfl | rfl | rfl | rfl
            · exact ⟨"add", rfl, by decide +kernel⟩
            · exact ⟨"times", rfl, by decide +kernel⟩
            · exact ⟨"less", rfl, by decide +kernel⟩
            · exact ⟨"pick", rfl, by decide +kernel⟩
          walk_at "go"
          refine w_ixL (SqL.of el) hz ?_
          walk_at "go"
          refine ⟨by show 2 ≤ sizeLine; decide, fun l3 hl3 => ?_⟩
          have fl3 : Fr [] H2 (upd H2 l3 (.lst [.int 2, .int 3])) := Fr.new hl3
          have el3 : upd H2 l3 (.lst [.int 2, .int 3]) l3 = some (.lst [.int 2, .int 3]) := upd_same
          generalize upd H2 l3 (.lst [.int 2, .int 3]) = H3 at fl3 el3
          walk_at "go"
          obtain ⟨my, hm, hm2⟩ : ∃ my : Nat, atI [V.int 2, .int 3] (if decide (z = "pick") then 1 else 0) = some (.int my) ∧ my ≤ 3 := by
            cases decide (z = "pick") with
            | true => exact ⟨3, rfl, by decide⟩
            | false => exact ⟨2, rfl, by decide⟩
          refine w_ixL (SqL.of el3) hm ?_
          walk_at "go"
          refine mkT (K := K) (.cons (.str _) .nil) fun p4 H4 n4 f4 d4 => ?_
          have T4 := ((T1.fr fl).fr fl3).fr f4
          have f14 : Fr [t] H1 H4 := ((fl.trans fl3).trans f4).to1
          have K4 := K1.fr f14
          have eq4 := f14 _ _ eq1 (by simpa using nq)
          walk_at "go"
          refine LC_tape (K := K) (H0 := H0) my (bd 0 (kp + 2) (TS kp)) T4 (by simp) (by omega) (by omega) (by omega) (fun _ => rfl) ?_ ?_
          · intro i H5 hi T5 f5 Q5 kq
            walk_at "go"
            refine ⟨t, d, q, kp, H0, by simp, ⟨by omega, by omega⟩, T5, K4.fr f5, f5 _ _ eq4 (by simpa using nq), nq, fun v D H6 bD f6 T6 dD => ?_⟩
            exact kq _ _ H6 f6 T6 dD bD
          · intro D H5 ds nD f5 T5 L5 lds pds
            walk_at "go"
            refine L5.tuple fun p6 H6 f6 d6 => ?_
            refine Dt.cat (((d4.mono (T4.tu f5)).mono f6.tu)) d6 (by show 1 + ds.length ≤ 1000; omega) fun p7 H7 f7 d7 => ?_
            walk_at "go"
            refine k _ _ H7 ⟨od_mkT (by rw [List.length_append, List.length_singleton]; omega) ?_, ?_⟩ (((f1.trans f14).trans f5).trans (f6.trans f7).to1) ((T5.fr f6).fr f7) d7
            · intro x hx
              rcases List.mem_append.mp hx with y | y
              · rw [List.mem_singleton.mp y]
                exact od_mono (Nat.le_refl _) (by omega) oz
              · exact (pds x y).1
            · have := tszs_le fun x hx => (pds x hx).2
              have h3 : ds.length * TS kp ≤ 3 * TS kp := Nat.mul_le_mul_right _ (by omega)
              show 1 + tszs (.str z :: ds) ≤ 2 + 3 * TS kp
              rw [tszs]
              show 1 + (1 + tszs ds) ≤ _
              omega
end

section
variable {P : Program} {w : World} {K : PySem.W.Frag} {mg : Str → Option Value} {base : Heap}
theorem Tape.lst {H0 H : Hp} {t : Addr} (T : Tape K H0 H t) : ∃ xs, H t = some (.lst xs) := by
  obtain ⟨⟨_, _, _, _, _, e, _⟩, _⟩ := T
  exact ⟨_, e⟩
def oddA : List PyData := [.none, .bool true, .bool false, .int 0, .int 1, .int 1000000001, .int (-1000000001), .str "", .str "a", .str "abcdefghi", .str "A", .tuple [], .list [], .dict []]
def oddB : List PyData := [.tuple [.str "num", .int 0], .tuple [.str "num", .bool true], .tuple [.str "turn", .str "a"], .tuple [.str "box", .str "zz"], .list [.str "num", .int 0], .tuple [.str "add", .tuple [.str "num", .int 1]]]
theorem odd_bd : ∀ d ∈ oddA ++ oddB, bd 0 4 6 d := by
  have h : (oddA ++ oddB).all (fun d => od 0 4 d && decide (tsz d ≤ 6)) = true := by decide +kernel
  intro d hd
  have := List.all_eq_true.mp h d hd
  rw [Bool.and_eq_true, decide_eq_true_eq] at this
  exact this
def sp_law_odd (K : PySem.W.Frag) : Sp := fun vs H Q _ => ∃ (t : Addr) (S : List Addr) (H0 : Hp), vs = [.ref t] ∧ Tape K H0 H t ∧ (t ∈ S ∧ AllL H S) ∧ ∀ u e H', Fr [t] H H' → Tape K H0 H' t → Dy K H' S u e → bd 0 4 6 e → Q u H'
theorem ok_law_odd (T : Env K mg) : Fx P w K mg base 2 "_law_odd" p_law_odd (sp_law_odd K) := by
  refine T.l_law_odd.ok sc_law_odd (fun vs H Q E h => ?_) (fun f cdv A outer s H vs Q E hr h => ?_)
  · obtain ⟨t, _, _, rfl, _⟩ := h
    rfl
  · obtain ⟨t, S, H0, rfl, T0, ⟨tS, AS⟩, k⟩ := h
    refine ⟨_, (pss_cons (ps_set (i := 1) sc_law_odd.nd rfl (Or.inl rfl) (pe_lst (pa_cons pe_non (pa_cons pe_bl (pa_cons pe_bl (pa_cons pe_int (pa_cons pe_int (pa_cons (pe_op (op_addU (K := K) rfl) (pe_op op_pow pe_int pe_int) pe_int) (pa_cons (pe_op op_sub (pe_un un_neg (pe_op op_pow pe_int pe_int)) pe_int) (pa_cons pe_str (pa_cons pe_str (pa_cons pe_str (pa_cons pe_str (pa_cons (pe_tup pa_nil) (pa_cons (pe_lst pa_nil) (pa_cons pe_dnewK pa_nil))))))))))))))))
      (pss_cons (ps_set (i := 1) sc_law_odd.nd rfl (Or.inl rfl) (pe_op (op_addU (K := K) rfl) (pv 1) (pe_lst (pa_cons (pe_tup (pa_cons pe_str (pa_cons pe_int pa_nil))) (pa_cons (pe_tup (pa_cons pe_str (pa_cons pe_bl pa_nil))) (pa_cons (pe_tup (pa_cons pe_str (pa_cons pe_str pa_nil))) (pa_cons (pe_tup (pa_cons pe_str (pa_cons pe_str pa_nil))) (pa_cons (pe_lst (pa_cons pe_str (pa_cons pe_int pa_nil))) (pa_cons (pe_tup (pa_cons pe_str (pa_cons (pe_tup (pa_cons pe_str (pa_cons pe_int pa_nil))) pa_nil))) pa_nil)))))))))
      (pss_one (ps_ret (pe_ix (ix_U (K := K) rfl) (pv 1) (pe_fx (ok_law_draw (P := P) (w := w) T) hr (by decide) (pa_cons (pv 0) (pa_cons pe_int pa_nil))) (fun _ _ => rfl)))))), ?_⟩
    walk_at "go"
    refine mkT (K := K) .nil fun p1 H1 n1 f1 d1 => ?_
    have A1 := AS.fr f1
    have y1 := Dt.dy A1 d1
    walk_at "go"
    refine mkLy (K := K) (S := S) (ds := []) .nil fun q2 H2 n2 f2 L2 => ?_
    have A2 := A1.fr f2
    have y2 := L2.dy (A1.new n2)
    walk_at "go"
    refine mkD fun p3 H3 n3 f3 e3 => ?_
    have A3 := A2.fr f3
    have y3 : Dy K H3 S (.ref p3) (.dict []) := .dct (by rw [ws_at (A2.new n3)]; exact e3)
    walk_at "go"
    refine mkLy (K := K) (S := S) (ds := oddA) (.cons .non (.cons (.bl _) (.cons (.bl _) (.cons (.int _) (.cons (.int _) (.cons (.int _) (.cons (.int _) (.cons (.str _) (.cons (.str _) (.cons (.str _) (.cons (.str _) (.cons ((y1.fr0 f2).fr0 f3) (.cons (y2.fr0 f3) (.cons y3 .nil)))))))))))))) fun q4 H4 n4 f4 L4 => ?_
    have A4 := A3.fr f4
    have f04 := ((f1.trans f2).trans f3).trans f4
    walk_at "go"
    refine mkT (K := K) (.cons (.str _) (.cons (.int _) .nil)) fun p5 H5 n5 f5 d5 => ?_
    walk_at "go"
    refine mkT (K := K) (.cons (.str _) (.cons (.bl _) .nil)) fun p6 H6 n6 f6 d6 => ?_
    walk_at "go"
    refine mkT (K := K) (.cons (.str _) (.cons (.str _) .nil)) fun p7 H7 n7 f7 d7 => ?_
    walk_at "go"
    refine mkT (K := K) (.cons (.str _) (.cons (.str _) .nil)) fun p8 H8 n8 f8 d8 => ?_
    have A8 := (((A4.fr f5).fr f6).fr f7).fr f8
    walk_at "go"
    refine mkLy (K := K) (S := S) (ds := [.str "num", .int 0]) (.cons (.str _) (.cons (.int _) .nil)) fun q9 H9 n9 f9 L9 => ?_
    have A9 := A8.fr f9
    have y9 := L9.dy (A8.new n9)
    walk_at "go"
    refine mkT (K := K) (.cons (.str _) (.cons (.int _) .nil)) fun p10 H10 n10 f10 d10 => ?_
    walk_at "go"
    refine mkT (K := K) (.cons (.str _) (.cons d10 .nil)) fun p11 H11 n11 f11 d11 => ?_
    have A11 := (A9.fr f10).fr f11
    have g9 := f10.trans f11
    have g8 := f9.trans g9
    have g7 := f8.trans g8
    have g6 := f7.trans g7
    have g5 := f6.trans g6
    walk_at "go"
    refine mkLy (K := K) (S := S) (ds := oddB) (.cons (Dt.dy A11 (d5.mono g5.tu)) (.cons (Dt.dy A11 (d6.mono g6.tu)) (.cons (Dt.dy A11 (d7.mono g7.tu)) (.cons (Dt.dy A11 (d8.mono g8.tu)) (.cons (y9.fr0 g9) (.cons (Dt.dy A11 d11) .nil)))))) fun q12 H12 n12 f12 L12 => ?_
    have g4 := (f5.trans g5).trans f12
    walk_at "go"
    refine (L4.fr0 g4).cat L12 (by exact Nat.le_of_ble_eq_true rfl) fun q13 H13 n13 f13 L13 => ?_
    have A13 := (A11.fr f12).fr f13
    have T13 := (((T0.fr f04).fr g4).fr f13)
    have f013 := (f04.trans g4).trans f13
    walk_at "go"
    refine ⟨t, 20, H0, rfl, T13, by decide, by decide, fun r H14 a14 b14 f14 T14 => ?_⟩
    have n13t : q13 ≠ t := ((T0.fr f04).fr g4).ne n13
    have L14 := L13.fr f14 (by simpa using tS) (by simpa using n13t)
    refine L14.ix a14 (by exact b14) fun u e du he => ?_
    exact k u e H14 (f013.to1.trans f14) T14 du.less (odd_bd e (List.mem_of_getElem? he))
end

section
variable {P : Program} {w : World} {K : PySem.W.Frag} {mg : Str → Option Value} {base : Heap}
theorem len_ofString (s : String) : (PySem.Str.ofString s).length = s.length := by
  rw [PySem.Str.ofString_eq_toList]
  show (List.toArray _).size = _
  rw [List.size_toArray, List.length_map, String.length_toList]
theorem len_int {i : Int} (h : i.natAbs < 10 ^ 14) : (PySem.Str.ofString (toString i)).length ≤ 100 := by
  rw [len_ofString, Int.toString_eq_repr]
  cases i with
  | ofNat m =>
    have : m.repr.length ≤ 14 := (Nat.length_repr_le_iff (by decide)).mpr (by simpa using h)
    show (m.repr).length ≤ 100
    omega
  | negSucc m =>
    have : (m + 1).repr.length ≤ 14 := (Nat.length_repr_le_iff (by decide)).mpr (by
      have e : (Int.negSucc m).natAbs = m + 1 := rfl
      rw [e] at h
      exact h)
    show ("-" ++ (m + 1).repr).length ≤ 100
    rw [String.length_append]
    have e1 : ("-" : String).length = 1 := rfl
    omega
theorem ascii_of {s : String} (h : ∀ c ∈ s.toList, c.val.toNat < 128) : ∀ c ∈ (PySem.Str.ofString s).cps.toList, c < 128 := by
  rw [PySem.Str.ofString_eq_toList]
  intro c hc
  rw [List.toList_toArray] at hc
  obtain ⟨ch, hm, rfl⟩ := List.mem_map.mp hc
  exact h ch hm
theorem repr_ascii (m : Nat) : ∀ c ∈ m.repr.toList, c.val.toNat < 128 := by
  intro c hc
  have hc' : c ∈ Nat.toDigits 10 m := by
    rw [Nat.repr] at hc
    simpa using hc
  have := Nat.isDigit_of_mem_toDigits (by decide) (by decide) hc'
  rw [Char.isDigit, Bool.and_eq_true, decide_eq_true_eq, decide_eq_true_eq] at this
  have h2 : c.val ≤ '9'.val := this.2
  have h3 : c.val.toNat ≤ '9'.val.toNat := h2
  exact Nat.lt_of_le_of_lt h3 (by decide)
theorem int_ascii (i : Int) : ∀ c ∈ (PySem.Str.ofString (toString i)).cps.toList, c < 128 := by
  refine ascii_of ?_
  rw [Int.toString_eq_repr]
  cases i with
  | ofNat m => exact repr_ascii m
  | negSucc m =>
    intro c hc
    have hc' : c ∈ ("-" ++ (m + 1).repr).toList := hc
    rw [String.toList_append] at hc'
    rcases List.mem_append.mp hc' with z | z
    · have : c = '-' := by simpa using z
      rw [this]
      decide
    · exact repr_ascii (m + 1) c z
theorem od_s {m n : Nat} {x : Str} (h1 : 1 ≤ n) (l : x.length ≤ 140 + m) (a : ∀ c ∈ x.cps.toList, c < 128) : od m n (.str x) = true := by
  cases n with
  | zero => omega
  | succ n =>
    simp only [od, Bool.and_eq_true, decide_eq_true_eq, List.all_eq_true]
    exact ⟨l, a⟩
theorem od_i {m n : Nat} {i : Int} (h1 : 1 ≤ n) (l : i.natAbs ≤ 10000000000000 + m) : od m n (.int i) = true := by
  cases n with
  | zero => omega
  | succ n =>
    simp only [od, decide_eq_true_eq]
    exact l
theorem od_b {m n : Nat} {b : Bool} (h1 : 1 ≤ n) : od m n (.bool b) = true := by
  cases n with
  | zero => omega
  | succ n => rfl
theorem s_of {m n : Nat} {x : Str} (h : od m n (.str x) = true) : x.length ≤ 140 + m ∧ ∀ c ∈ x.cps.toList, c < 128 := by
  cases n with
  | zero => simp [od] at h
  | succ n => simpa only [od, Bool.and_eq_true, decide_eq_true_eq, List.all_eq_true] using h
theorem i_of {m n : Nat} {i : Int} (h : od m n (.int i) = true) : i.natAbs ≤ 10000000000000 + m := by
  cases n with
  | zero => simp [od] at h
  | succ n => simpa only [od, decide_eq_true_eq] using h
theorem isiTL {H : Hp} {v : V} {d : PyData} {tp : Addr} {Q : VK} (D : Dg K H v d) (h : H tp = some (.tup [.ty "tuple", .ty "list"])) (q : Q (.bl (isTup d || isLst d)) H) : rIsiT K [v, .ref tp] H Q := by
  cases D with
  | non => exact w_isiT (r := false) (s := false) h (Dg.ty (d := .none) .non) (by exact (by decide +kernel : kitB "NoneType" "tuple" = some false)) (by exact (by decide +kernel : kitB "NoneType" "list" = some false)) q
  | bl b => exact w_isiT (r := false) (s := false) h (Dg.ty (d := .bool b) (.bl b)) (by exact (by decide +kernel : kitB "bool" "tuple" = some false)) (by exact (by decide +kernel : kitB "bool" "list" = some false)) q
  | int i => exact w_isiT (r := false) (s := false) h (Dg.ty (d := .int i) (.int i)) (by exact (by decide +kernel : kitB "int" "tuple" = some false)) (by exact (by decide +kernel : kitB "int" "list" = some false)) q
  | str x => exact w_isiT (r := false) (s := false) h (Dg.ty (d := .str x) (.str x)) (by exact (by decide +kernel : kitB "str" "tuple" = some false)) (by exact (by decide +kernel : kitB "str" "list" = some false)) q
  | tup s a => exact w_isiT (r := true) (s := false) h (Dg.ty (.tup s a)) (by exact (by decide +kernel : kitB "tuple" "tuple" = some true)) (by exact (by decide +kernel : kitB "tuple" "list" = some false)) q
  | lst s a => exact w_isiT (r := false) (s := true) h (Dg.ty (.lst s a)) (by exact (by decide +kernel : kitB "list" "tuple" = some false)) (by exact (by decide +kernel : kitB "list" "list" = some true)) q
  | dct s => exact w_isiT (t := "dict") (r := false) (s := false) h (Dg.ty (d := .dict []) (.dct s)) (by exact (by decide +kernel : kitB "dict" "tuple" = some false)) (by exact (by decide +kernel : kitB "dict" "list" = some false)) q
theorem w_m0 {r : V → List V → Hp → VK → Prop} {to : TE} {σ : L2.St} {H : Hp} {Q : VK} (q : to σ H fun x H1 => (∃ a, x = .str a) ∧ r x [] H1 Q) : tM0 r to σ H Q := q
theorem tszs_take (k : Nat) : ∀ ds : List PyData, tszs (ds.take k) ≤ tszs ds := by
  induction k with
  | zero => intro ds; rw [List.take_zero, tszs]; exact Nat.zero_le _
  | succ k ih =>
    intro ds
    cases ds with
    | nil => exact Nat.le_refl _
    | cons d r =>
      rw [List.take_succ_cons, tszs, tszs]
      have := ih r
      omega
theorem tszs_drop (k : Nat) : ∀ ds : List PyData, tszs (ds.drop k) ≤ tszs ds := by
  induction k with
  | zero => intro ds; exact Nat.le_refl _
  | succ k ih =>
    intro ds
    cases ds with
    | nil => exact Nat.le_refl _
    | cons d r =>
      rw [List.drop_succ_cons, tszs]
      have := ih r
      omega
theorem tszs_app (a b : List PyData) : tszs (a ++ b) = tszs a + tszs b := by
  rw [tszs_map, tszs_map, tszs_map, List.map_append, List.sum_append]
theorem tszs_rev (a : List PyData) : tszs a.reverse = tszs a := by
  rw [tszs_map, tszs_map, List.map_reverse, List.sum_reverse]
theorem _root_.U.Ly.ins {H : Hp} {S : List Addr} {l : Addr} {ds : List PyData} {i : Int} {y : V} {d : PyData} {Q : VK} (A : AllL H (l :: S)) (h : Ly K H S l ds) (hy : Dy K H (l :: S) y d) (n : ds.length ≤ 100000) (h0 : 0 ≤ i) (h1 : i < 2 ^ 63) (q : ∀ H', Fr [l] H H' → Ly K H' S l (ds.take i.toNat ++ [d] ++ ds.drop i.toNat) → Q .non H') : rIns (.ref l) [.int i, y] H Q := by
  obtain ⟨vs, e, a⟩ := h
  refine ⟨l, vs, i, y, rfl, rfl, e, Nat.lt_of_le_of_lt (show vs.length ≤ 100000 by rw [DgAll.length a]; exact n) (by decide), h0, h1, ?_⟩
  exact q _ (Fr.mut (by simp)) (Ly.put A (DgAll.append (DgAll.append (DgAll.take _ a) (.cons hy .nil)) (DgAll.drop _ a)))
/-- what the items of a bent row keep within -/
def Row3 (m n B : Nat) (ds : List PyData) : Prop := ds.length ≤ 40 + m ∧ (∀ x ∈ ds, od m n x = true) ∧ tszs ds ≤ B
theorem Row3.tup {m n B : Nat} {ds : List PyData} (h : Row3 m n B ds) : bd m (n + 1) (1 + B) (.tuple ds) := ⟨od_mkT h.1 h.2.1, by rw [tsz]; have := h.2.2; omega⟩
theorem Row3.lst {m n B : Nat} {ds : List PyData} (h : Row3 m n B ds) : bd m (n + 1) (1 + B) (.list ds) := ⟨od_mkL h.1 h.2.1, by rw [tsz]; have := h.2.2; omega⟩
theorem Row3.of {m n : Nat} {ds es : List PyData} (l : ds.length ≤ 40 + m) (o : ∀ x ∈ ds, od m n x = true) (le : es.length ≤ ds.length + 1) (oe : ∀ x ∈ es, x ∈ ds ∨ bd 0 4 6 x) (te : tszs es ≤ 2 * tszs ds + 6) : Row3 (m + 1) (n + 4) (2 * tszs ds + 6) es := by
  refine ⟨by omega, fun x hx => ?_, te⟩
  rcases oe x hx with z | z
  · exact od_mono (by omega) (by omega) (o x z)
  · exact od_mono (by omega) (by omega) z.1
def sp_law_other (K : PySem.W.Frag) : Sp := fun vs H Q _ => ∃ (t : Addr) (S : List Addr) (v : V) (d : PyData) (m n : Nat) (H0 : Hp), vs = [.ref t, v] ∧ Tape K H0 H t ∧ (t ∈ S ∧ AllL H S) ∧ Dy K H S v d ∧ (od m n d = true ∧ m ≤ 50) ∧
  ∀ u e H', Fr [t] H H' → Tape K H0 H' t → Dy K H' S u e → bd (m + 1) (n + 4) (2 * tsz d + 10) e → Q u H'
theorem ok_law_other (T : Env K mg) : Fx P w K mg base 3 "_law_other" p_law_other (sp_law_other K) := by
  refine T.l_law_other.ok sc_law_other (fun vs H Q E h => ?_) (fun f cdv A outer s H vs Q E hr h => ?_)
  · obtain ⟨t, _, _, _, _, _, _, rfl, _⟩ := h
    rfl
  · obtain ⟨t, S, v, d, m, n, H0, rfl, T0, ⟨tS, AS⟩, D0, ⟨o, hm⟩, k⟩ := h
    refine ⟨_, (pss_cons (ps_set (i := 2) sc_law_other.nd rfl (Or.inl rfl) (pe_fx (ok_law_draw (P := P) (w := w) T) hr (by decide) (pa_cons (pv 0) (pa_cons pe_int pa_nil))))
      (pss_cons (ps_if (PW.pt (pw_and (pt_val (pe_callB (call_isiTU (K := K) rfl) (by rfl) T.m_isinstance (by decide +kernel) (pa_cons (pv 1) (pa_cons (pe_tup (pa_cons (pe_bltn (v := .ty "tuple") (u := .type "tuple") rfl T.m_tuple (by decide +kernel) rfl) (pa_cons (pe_bltn (v := .ty "list") (u := .type "list") rfl T.m_list (by decide +kernel) rfl) pa_nil))) pa_nil)))) (pw_and1 (pt_cmpR op_lt (pv 2) pe_int (nomark _))))) (pss_cons (ps_set (i := 3) sc_law_other.nd rfl (Or.inl rfl) (pe_callTy (call_listU (K := K) rfl) (by rfl) T.m_list (by decide +kernel) (pa_cons (pv 1) pa_nil)))
      (pss_cons (ps_set (i := 4) sc_law_other.nd rfl (Or.inl rfl) (pe_fx (ok_law_draw (P := P) (w := w) T) hr (by decide) (pa_cons (pv 0) (pa_cons (pe_op (op_addU (K := K) rfl) (pe_callB (call_lenU (K := K) rfl) (by rfl) T.m_len (by decide +kernel) (pa_cons (pv 3) pa_nil)) pe_int) pa_nil))))
      (pss_cons (ps_if (PW.pt (pw_and (pt_cmpR (op_eqU (K := K) rfl (u64 hr)) (pv 2) pe_int (nomark _)) (pw_and1 (pt_val (pe_callB (call_isiU (K := K) rfl) (by rfl) T.m_isinstance (by decide +kernel) (pa_cons (pv 1) (pa_cons (pe_bltn (v := .ty "tuple") (u := .type "tuple") rfl T.m_tuple (by decide +kernel) rfl) pa_nil))))))) (pss_one (ps_ret (pv 3))) pss_nil)
      (pss_cons (ps_if (pt_cmpR (op_eqU (K := K) rfl (u64 hr)) (pv 2) pe_int (nomark _)) (pss_one (ps_expr (pe_bm PySem.F.plainAttrs_list PySem.F.slot_list_insert PySem.F.type_list_insert mt_insU (pv 3) (pa_cons (pv 4) (pa_cons (pe_fx (ok_law_odd (P := P) (w := w) T) hr (by decide) (pa_cons (pv 0) pa_nil)) pa_nil))))) pss_nil)
      (pss_cons (ps_if (pt_cmpR (op_eqU (K := K) rfl (u64 hr)) (pv 2) pe_int (nomark _)) (pss_one (ps_set (i := 3) sc_law_other.nd rfl (Or.inl rfl) (pe_op (op_addU (K := K) rfl) (pe_slice (sl_U (K := K) rfl) (pv 3) po_none (po_some (pv 4))) (pe_slice (sl_U (K := K) rfl) (pv 3) (po_some (pe_op (op_addU (K := K) rfl) (pv 4) pe_int)) po_none)))) pss_nil)
      (pss_cons (ps_if (pt_cmpR (op_eqU (K := K) rfl (u64 hr)) (pv 2) pe_int (nomark _)) (pss_one (ps_set (i := 3) sc_law_other.nd rfl (Or.inl rfl) (pe_op (op_addU (K := K) rfl) (pe_slice (sl_U (K := K) rfl) (pv 3) po_none (po_some (pv 4))) (pe_slice (sl_U (K := K) rfl) (pv 3) (po_some (pe_callB (call_maxU rfl) (by rfl) T.m_max (by decide +kernel) (pa_cons pe_int (pa_cons (pe_op op_sub (pv 4) pe_int) pa_nil)))) po_none)))) pss_nil)
      (pss_cons (ps_if (pt_cmpR (op_eqU (K := K) rfl (u64 hr)) (pv 2) pe_int (nomark _)) (pss_one (ps_expr (pe_bm0 PySem.F.plainAttrs_list PySem.F.slot_list_reverse PySem.F.type_list_reverse mt_reverse (pv 3)))) pss_nil)
      (pss_cons (ps_if (pt_cmpR (op_eqU (K := K) rfl (u64 hr)) (pv 2) pe_int (nomark _)) (pss_one (ps_set (i := 3) sc_law_other.nd rfl (Or.inl rfl) (pe_op (op_addU (K := K) rfl) (pe_slice (sl_U (K := K) rfl) (pv 3) (po_some (pv 4)) po_none) (pe_slice (sl_U (K := K) rfl) (pv 3) po_none (po_some (pv 4)))))) pss_nil)
      (pss_one (ps_ret (pe_callTy (call_tupleU (K := K) rfl) (by rfl) T.m_tuple (by decide +kernel) (pa_cons (pv 3) pa_nil)))))))))))) pss_nil)
      (pss_cons (ps_if (pt_val (pe_callB (call_isiU (K := K) rfl) (by rfl) T.m_isinstance (by decide +kernel) (pa_cons (pv 1) (pa_cons (pe_bltn (v := .ty "bool") (u := .type "bool") rfl T.m_bool (by decide +kernel) rfl) pa_nil)))) (pss_one (ps_ret (pe_ix (ix_U (K := K) rfl) (pe_lst (pa_cons (pe_callTy call_intU (by rfl) T.m_int (by decide +kernel) (pa_cons (pv 1) pa_nil)) (pa_cons (pe_not (pv 1)) pa_nil))) (pe_op op_mod (pv 2) pe_int) (fun _ _ => rfl)))) pss_nil)
      (pss_cons (ps_if (PW.pt (pw_and (pt_val (pe_callB (call_isiU (K := K) rfl) (by rfl) T.m_isinstance (by decide +kernel) (pa_cons (pv 1) (pa_cons (pe_bltn (v := .ty "int") (u := .type "int") rfl T.m_int (by decide +kernel) rfl) pa_nil)))) (pw_and1 (pt_cmpR op_lt (pv 2) pe_int (nomark _))))) (pss_one (ps_ret (pe_ix (ix_U (K := K) rfl) (pe_lst (pa_cons (pe_op (op_addU (K := K) rfl) (pv 1) pe_int) (pa_cons (pe_cmpR (op_eqU (K := K) rfl (u64 hr)) (pv 1) pe_int (nomark _)) (pa_cons (pe_callTy call_strU (by rfl) T.m_str (by decide +kernel) (pa_cons (pv 1) pa_nil)) (pa_cons (pe_un un_neg (pv 1)) (pa_cons (pe_op op_sub (pv 1) pe_int) pa_nil)))))) (pv 2) (fun _ _ => rfl)))) pss_nil)
      (pss_cons (ps_if (PW.pt (pw_and (pt_val (pe_callB (call_isiU (K := K) rfl) (by rfl) T.m_isinstance (by decide +kernel) (pa_cons (pv 1) (pa_cons (pe_bltn (v := .ty "str") (u := .type "str") rfl T.m_str (by decide +kernel) rfl) pa_nil)))) (pw_and1 (pt_cmpR op_lt (pv 2) pe_int (nomark _))))) (pss_one (ps_ret (pe_ix (ix_U (K := K) rfl) (pe_lst (pa_cons (pe_op (op_addU (K := K) rfl) (pv 1) pe_str) (pa_cons (pe_slice (sl_U (K := K) rfl) (pv 1) po_none (po_some (pe_un un_neg pe_int))) (pa_cons (pe_upper (pv 1)) (pa_cons pe_str (pa_cons pe_str pa_nil)))))) (pv 2) (fun _ _ => rfl)))) pss_nil)
      (pss_one (ps_ret (pe_fx (ok_law_odd (P := P) (w := w) T) hr (by decide) (pa_cons (pv 0) pa_nil))))))))), ?_⟩
    walk_at "go"
    refine ⟨t, 8, H0, rfl, T0, by decide, by decide, fun way H1 a1 b1 f1 T1 => ?_⟩
    have A1 := AS.fr1 f1 T1.lst
    have D1 := D0.fr f1 (by simpa using tS)
    walk_at "go"
    refine ⟨by exact Nat.le_of_ble_eq_true rfl, fun tp ntp => ?_⟩
    have f2 : Fr [] H1 (upd H1 tp (.tup [.ty "tuple", .ty "list"])) := Fr.new ntp
    have e2 : upd H1 tp (.tup [.ty "tuple", .ty "list"]) tp = some (.tup [.ty "tuple", .ty "list"]) := upd_same
    generalize upd H1 tp (.tup [.ty "tuple", .ty "list"]) = H2 at f2 e2
    have A2 := A1.fr f2
    have T2 := T1.fr f2
    have D2 := D1.fr0 f2
    have f02 : Fr [t] H H2 := f1.trans f2.to1
    walk_at "go"
    refine isiTL D2.dg e2 ?_
    have odd : ∀ u e H', Fr [t] H2 H' → Tape K H0 H' t → Dy K H' S u e → bd 0 4 6 e → Q u H' := fun u e H' f T d b =>
      k u e H' (f02.trans f) T d (b.mono (by omega) (by omega) (by omega))
    have n1 : 1 ≤ n := by
      cases n with
      | zero => simp [od] at o
      | succ n => omega
    have pick : ∀ (vs : List V) (ds : List PyData) (q : Addr) (H' : Hp) (r : Int), Fr [] H2 H' → H' q = some (.lst vs) → DtAll K H' vs ds → (∀ e ∈ ds, bd (m + 1) (n + 4) (2 * tsz d + 10) e) → 0 ≤ r → r < vs.length → rIx K (.ref q) (.int r) H' Q := by
      intro vs ds q H' r f' e' a' b' h0 h1
      have lv := a'.length
      have hk : r.toNat < ds.length := by omega
      obtain ⟨y, hy, dy⟩ := a'.get' (List.getElem?_eq_getElem hk)
      refine w_ixL (SqL.of e') ?_ (k y _ H' (f02.trans f'.to1) (T2.fr f') (Dt.dy (A2.fr f') dy) (b' _ (List.getElem_mem hk)))
      rw [show r = ((r.toNat : Nat) : Int) by omega]
      exact atI_nat hy
    cases d with
    | none =>
      cases D2
      rw [show (isTup PyData.none || isLst PyData.none) = false from rfl]
      walk_at "go"
      exact ⟨t, S, H0, rfl, T2, ⟨tS, A2⟩, odd⟩
    | dict kvs =>
      cases D2 with
      | dct s =>
      have s := ws_fr _ _ s (by simp)
      rw [show (isTup (PyData.dict kvs) || isLst (PyData.dict kvs)) = false from rfl]
      walk_at "go"
      refine isD_bool s ?_
      walk_at "go"
      refine isD_int s ?_
      walk_at "go"
      refine isD_str s ?_
      walk_at "go"
      exact ⟨t, S, H0, rfl, T2, ⟨tS, A2⟩, odd⟩
    | bool b =>
      cases D2
      rw [show (isTup (PyData.bool b) || isLst (PyData.bool b)) = false from rfl]
      walk_at "go"
      refine ⟨by exact Nat.le_of_ble_eq_true rfl, fun q n => ?_⟩
      walk_at "go"
      refine w_rI (by show (0 : Int) < 2; decide) ?_
      refine pick _ [.int (if b then 1 else 0), .bool (!b)] q _ _ (Fr.new n) upd_same (.cons (.int _) (.cons (.bl _) .nil)) (fun e he => ?_) (Int.emod_nonneg _ (by decide)) (Int.emod_lt_of_pos _ (by decide))
      simp only [List.mem_cons, List.not_mem_nil, or_false] at he
      rcases he with rfl | rfl
      · exact ⟨od_i (by omega) (by cases b <;> simp <;> omega), by simp [tsz]⟩
      · exact ⟨od_b (by omega), by simp [tsz]⟩
    | int i =>
      cases D2
      have oi := i_of o
      rw [show (isTup (PyData.int i) || isLst (PyData.int i)) = false from rfl]
      walk_at "go"
      refine ite_d (fun h5 => ?_) fun h5 => ?_
      · walk_at "go"
        refine .inl ⟨i, rfl, ?_, ?_⟩
        · have : i.natAbs < 2 ^ 64 := by omega
          by_cases z : i.natAbs = 0
          · rw [z]; decide
          · exact Nat.lt_of_lt_of_le ((Nat.log2_lt z).mpr this) (by decide)
        walk_at "go"
        refine ⟨by exact Nat.le_of_ble_eq_true rfl, fun q n => ?_⟩
        walk_at "go"
        refine pick _ [.int (i + 1), .bool (decide (i = 1)), .str (toString i), .int (-i), .int (i - 1)] q _ _ (Fr.new n) upd_same (.cons (.int _) (.cons (.bl _) (.cons (.str _) (.cons (.int _) (.cons (.int _) .nil))))) (fun e he => ?_) a1 (by exact h5)
        simp only [List.mem_cons, List.not_mem_nil, or_false] at he
        rcases he with rfl | rfl | rfl | rfl | rfl
        · exact ⟨od_i (by omega) (by omega), by simp [tsz]⟩
        · exact ⟨od_b (by omega), by simp [tsz]⟩
        · exact ⟨od_s (by omega) (by have := len_int (i := i) (by omega); omega) (int_ascii i), by simp [tsz]⟩
        · exact ⟨od_i (by omega) (by omega), by simp [tsz]⟩
        · exact ⟨od_i (by omega) (by omega), by simp [tsz]⟩
      · walk_at "go"
        exact ⟨t, S, H0, rfl, T2, ⟨tS, A2⟩, odd⟩
    | str x =>
      cases D2
      obtain ⟨lx, ax⟩ := s_of o
      have lz : x.length ≤ sizeLine := Nat.le_trans (show x.length ≤ 1000 by omega) (by decide)
      rw [show (isTup (PyData.str x) || isLst (PyData.str x)) = false from rfl]
      walk_at "go"
      refine ite_d (fun h5 => ?_) fun h5 => ?_
      · walk_at "go"
        refine w_addS (Nat.le_trans (show x.length + 1 ≤ 1000 by omega) (by decide)) ?_
        walk_at "go"
        refine w_slS lz ?_
        walk_at "go"
        refine w_m0 ?_
        walk_at "go"
        refine ⟨⟨x, rfl⟩, x, rfl, rfl, by omega, ?_⟩
        walk_at "go"
        refine ⟨by exact Nat.le_of_ble_eq_true rfl, fun q n => ?_⟩
        walk_at "go"
        refine pick _ [.str (x ++ "a"), .str (cutS x none (some (-1))), .str (Txt.upper x), .str "take", .str "b"] q _ _ (Fr.new n) upd_same (.cons (.str _) (.cons (.str _) (.cons (.str _) (.cons (.str _) (.cons (.str _) .nil))))) (fun e he => ?_) a1 (by exact h5)
        simp only [List.mem_cons, List.not_mem_nil, or_false] at he
        rcases he with rfl | rfl | rfl | rfl | rfl
        · refine ⟨od_s (by omega) ?_ ?_, by simp [tsz]⟩
          · show (x.cps ++ _).size ≤ _
            rw [Array.size_append]
            have : ("a" : Str).cps.size = 1 := by decide +kernel
            have l2 : x.cps.size ≤ 140 + m := lx
            omega
          · intro c hc
            have hc' : c ∈ (x.cps ++ ("a" : Str).cps).toList := hc
            rw [Array.toList_append] at hc'
            rcases List.mem_append.mp hc' with z | z
            · exact ax c z
            · have : ("a" : Str).cps.toList = [97] := by decide +kernel
              rw [this] at z
              rw [List.mem_singleton.mp z]
              decide
        · refine ⟨od_s (by omega) ?_ ?_, by simp [tsz]⟩
          · have : (cutS x none (some (-1))).length ≤ x.length := by
              show (List.toArray _).size ≤ _
              rw [List.size_toArray, List.length_take, List.length_drop, Array.length_toList]
              show _ ≤ x.cps.size
              omega
            omega
          · intro c hc
            have hc' : c ∈ (x.cps.toList.drop (HT.sIx x.length 0 none)).take (HT.sIx x.length x.length (some (-1)) - HT.sIx x.length 0 none) := by
              unfold cutS at hc
              rwa [List.toList_toArray] at hc
            exact ax c (List.mem_of_mem_drop (List.mem_of_mem_take hc'))
        · rw [PyProof.Rows.upper_ascii ax]
          refine ⟨od_s (by omega) ?_ ?_, by simp [tsz]⟩
          · show (x.cps.map _).size ≤ _
            rw [Array.size_map]
            have l2 : x.cps.size ≤ 140 + m := lx
            omega
          · intro c hc
            have hc' : c ∈ (x.cps.map PyProof.Rows.up1).toList := hc
            rw [Array.toList_map] at hc'
            obtain ⟨c0, h0, rfl⟩ := List.mem_map.mp hc'
            have := ax c0 h0
            unfold PyProof.Rows.up1
            split <;> omega
        · exact ⟨od_mono (n := 1) (Nat.zero_le _) (by omega) (by decide +kernel), by simp [tsz]⟩
        · exact ⟨od_mono (n := 1) (Nat.zero_le _) (by omega) (by decide +kernel), by simp [tsz]⟩
      · walk_at "go"
        exact ⟨t, S, H0, rfl, T2, ⟨tS, A2⟩, odd⟩
    | tuple ds =>
      obtain ⟨n', rfl⟩ : ∃ n', n = n' + 1 := ⟨n - 1, by omega⟩
      obtain ⟨ld, od'⟩ := od_tuple o
      obtain ⟨vt, rfl, s⟩ : ∃ vt, v = .ref vt ∧ ∃ vs, SqT K H2 vt vs := by
        obtain ⟨p, vs, e, s, _⟩ := D2.tuple
        exact ⟨p, e, vs, s⟩
      obtain ⟨vs, s⟩ := s
      have R : ∀ es : List PyData, es.length ≤ ds.length + 1 → (∀ x ∈ es, x ∈ ds ∨ bd 0 4 6 x) → tszs es ≤ 2 * tszs ds + 6 → Row3 (m + 1) (n' + 4) (2 * tszs ds + 6) es := fun es h1 h2 h3 => Row3.of ld od' h1 h2 h3
      have etz : tsz (.tuple ds) = 1 + tszs ds := by rw [tsz]
      have fin : ∀ (p' : Addr) (es : List PyData) (H' : Hp), Ly K H' S p' es → Fr [t] H2 H' → Tape K H0 H' t → Row3 (m + 1) (n' + 4) (2 * tszs ds + 6) es → rTupleU K [.ref p'] H' Q := fun p' es H' L f T r =>
        Ly.toT (A2.fr1 f T.lst) L fun p H'' f' d' => k _ _ H'' ((f02.trans f).trans f'.to1) (T.fr f') d' (r.tup.mono (Nat.le_refl _) (by omega) (by omega))
      rw [show (isTup (PyData.tuple ds) || isLst (PyData.tuple ds)) = true from rfl]
      walk_at "go"
      refine ite_d (fun h6 => ?_) fun h6 => ?_
      · walk_at "go"
        refine D2.listOf (.inl rfl) fun p3 H3 n3 f3 L3 => ?_
        have T3 := T2.fr f3
        have n3t : p3 ≠ t := T2.ne n3
        have n3S : p3 ∉ S := A2.new n3
        walk_at "go"
        refine L3.len ?_
        walk_at "go"
        refine ⟨t, _, H0, rfl, T3, by omega, by omega, fun at' H4 a4 b4 f4 T4 => ?_⟩
        obtain ⟨k4, rfl⟩ : ∃ k4 : Nat, at' = (k4 : Int) := ⟨at'.toNat, by omega⟩
        have L4 := L3.fr f4 (by simpa using tS) (by simpa using n3t)
        have f24 : Fr [t] H2 H4 := f3.to1.trans f4
        have A4 := A2.fr1 f24 T4.lst
        obtain ⟨xs4, e4⟩ := L4.at_
        have s4 := Tu.seqT (T2.tu f24) s
        have rsub : ∀ es : List PyData, es.length ≤ ds.length + 1 → (∀ x ∈ es, x ∈ ds) → tszs es ≤ 2 * tszs ds + 6 → Row3 (m + 1) (n' + 4) (2 * tszs ds + 6) es := fun es h1 h2 h3 => R es h1 (fun x hx => .inl (h2 x hx)) h3
        walk_at "go"
        have hw : way = 0 ∨ way = 1 ∨ way = 2 ∨ way = 3 ∨ way = 4 ∨ way = 5 := by omega
        rcases hw with rfl | rfl | rfl | rfl | rfl | rfl
        · refine ite_d (fun _ => ?_) (fun h => absurd (by decide) h)
          walk_at "go"
          refine isT_tuple s4 ?_
          walk_at "go"
          exact k _ _ H4 (f02.trans f24) T4 (L4.dy n3S) ((rsub ds (by omega) (fun x hx => hx) (by omega)).lst.mono (Nat.le_refl _) (by omega) (by omega))
        · refine ite_d (fun h => absurd h (by decide)) fun _ => ?_
          walk_at "go"
          refine ite_d (fun _ => ?_) (fun h => absurd (by decide) h)
          walk_at "go"
          refine ⟨.inl ⟨rfl, _, SqL.of e4⟩, ?_⟩
          walk_at "go"
          refine ⟨t, p3 :: S, H0, rfl, T4, ⟨by simp [tS], A4.cons e4⟩, fun u e H5 f5 T5 du be => ?_⟩
          have L5 := L4.fr f5 (by simpa using tS) (by simpa using n3t)
          walk_at "go"
          refine Ly.ins ((A4.cons e4).fr1 f5 T5.lst) L5 du (by omega) (by omega) (by omega) fun H6 f6 L6 => ?_
          have T6 := T5.fr1 f6 n3t (T2.no n3)
          walk_at "go"
          refine ite_d (fun h => absurd h (by decide)) fun _ => ?_
          walk_at "go"
          refine ite_d (fun h => absurd h (by decide)) fun _ => ?_
          walk_at "go"
          refine ite_d (fun h => absurd h (by decide)) fun _ => ?_
          walk_at "go"
          refine ite_d (fun h => absurd h (by decide)) fun _ => ?_
          walk_at "go"
          refine fin p3 _ H6 L6 (Fr.drop1 n3 (f24.trans f5) f6) T6 (R _ ?_ ?_ ?_)
          · rw [List.length_append, List.length_append, List.length_singleton, List.length_take, List.length_drop]
            omega
          · intro x hx
            rcases List.mem_append.mp hx with z | z
            · rcases List.mem_append.mp z with z | z
              · exact .inl (List.mem_of_mem_take z)
              · rw [List.mem_singleton.mp z]
                exact .inr be
            · exact .inl (List.mem_of_mem_drop z)
          · rw [tszs_app, tszs_app, tszs, tszs]
            have := tszs_take (k4 : Int).toNat ds
            have := tszs_drop (k4 : Int).toNat ds
            have := be.2
            omega
        · refine ite_d (fun h => absurd h (by decide)) fun _ => ?_
          walk_at "go"
          refine ite_d (fun h => absurd h (by decide)) fun _ => ?_
          walk_at "go"
          refine ite_d (fun _ => ?_) (fun h => absurd (by decide) h)
          walk_at "go"
          refine L4.slice fun p5 H5 n5 f5 L5 => ?_
          walk_at "go"
          refine (L4.fr0 f5).slice fun p6 H6 n6 f6 L6 => ?_
          refine (L5.fr0 f6).cat L6 (by have := cutA_len (xs := ds) (lo := none) (hi := some (k4 : Int)); have := cutA_len (xs := ds) (lo := some ((k4 : Int) + 1)) (hi := none); omega) fun p7 H7 n7 f7 L7 => ?_
          rw [cutA_take k4, show cutA ds (some ((k4 : Int) + 1)) none = ds.drop (k4 + 1) from cutA_drop (k4 + 1)] at L7
          have f27 : Fr [t] H2 H7 := f24.trans ((f5.trans f6).trans f7).to1
          have T7 := ((T4.fr f5).fr f6).fr f7
          walk_at "go"
          refine ite_d (fun h => absurd h (by decide)) fun _ => ?_
          walk_at "go"
          refine ite_d (fun h => absurd h (by decide)) fun _ => ?_
          walk_at "go"
          refine ite_d (fun h => absurd h (by decide)) fun _ => ?_
          walk_at "go"
          refine fin p7 _ H7 L7 f27 T7 (rsub _ ?_ ?_ ?_)
          · rw [List.length_append]
            simp only [List.length_take, List.length_drop]
            omega
          · intro x hx
            rcases List.mem_append.mp hx with z | z
            · exact List.mem_of_mem_take z
            · exact List.mem_of_mem_drop z
          · rw [tszs_app]
            have := tszs_take k4 ds
            have := tszs_drop (k4 + 1) ds
            omega
        · refine ite_d (fun h => absurd h (by decide)) fun _ => ?_
          walk_at "go"
          refine ite_d (fun h => absurd h (by decide)) fun _ => ?_
          walk_at "go"
          refine ite_d (fun h => absurd h (by decide)) fun _ => ?_
          walk_at "go"
          refine ite_d (fun _ => ?_) (fun h => absurd (by decide) h)
          walk_at "go"
          refine L4.slice fun p5 H5 n5 f5 L5 => ?_
          walk_at "go"
          rw [show (if (k4 : Int) - 1 > 0 then (k4 : Int) - 1 else 0) = ((k4 - 1 : Nat) : Int) by split <;> omega]
          refine (L4.fr0 f5).slice fun p6 H6 n6 f6 L6 => ?_
          refine (L5.fr0 f6).cat L6 (by have := cutA_len (xs := ds) (lo := none) (hi := some (k4 : Int)); have := cutA_len (xs := ds) (lo := some ((k4 - 1 : Nat) : Int)) (hi := none); omega) fun p7 H7 n7 f7 L7 => ?_
          rw [cutA_take k4, cutA_drop (k4 - 1)] at L7
          have f27 : Fr [t] H2 H7 := f24.trans ((f5.trans f6).trans f7).to1
          have T7 := ((T4.fr f5).fr f6).fr f7
          walk_at "go"
          refine ite_d (fun h => absurd h (by decide)) fun _ => ?_
          walk_at "go"
          refine ite_d (fun h => absurd h (by decide)) fun _ => ?_
          walk_at "go"
          refine fin p7 _ H7 L7 f27 T7 (rsub _ ?_ ?_ ?_)
          · rw [List.length_append]
            simp only [List.length_take, List.length_drop]
            omega
          · intro x hx
            rcases List.mem_append.mp hx with z | z
            · exact List.mem_of_mem_take z
            · exact List.mem_of_mem_drop z
          · rw [tszs_app]
            have := tszs_take k4 ds
            have := tszs_drop (k4 - 1) ds
            omega
        · refine ite_d (fun h => absurd h (by decide)) fun _ => ?_
          walk_at "go"
          refine ite_d (fun h => absurd h (by decide)) fun _ => ?_
          walk_at "go"
          refine ite_d (fun h => absurd h (by decide)) fun _ => ?_
          walk_at "go"
          refine ite_d (fun h => absurd h (by decide)) fun _ => ?_
          walk_at "go"
          refine ite_d (fun _ => ?_) (fun h => absurd (by decide) h)
          walk_at "go"
          refine ⟨.inl ⟨rfl, _, SqL.of e4⟩, ?_⟩
          refine Ly.rev (A4.cons e4) L4 fun H5 f5 L5 => ?_
          have T5 := T4.fr1 f5 n3t (T2.no n3)
          walk_at "go"
          refine ite_d (fun h => absurd h (by decide)) fun _ => ?_
          walk_at "go"
          exact fin p3 _ H5 L5 (Fr.drop1 n3 f24 f5) T5 (rsub _ (by rw [List.length_reverse]; omega) (fun x hx => List.mem_reverse.mp hx) (by rw [tszs_rev]; omega))
        · refine ite_d (fun h => absurd h (by decide)) fun _ => ?_
          walk_at "go"
          refine ite_d (fun h => absurd h (by decide)) fun _ => ?_
          walk_at "go"
          refine ite_d (fun h => absurd h (by decide)) fun _ => ?_
          walk_at "go"
          refine ite_d (fun h => absurd h (by decide)) fun _ => ?_
          walk_at "go"
          refine ite_d (fun h => absurd h (by decide)) fun _ => ?_
          walk_at "go"
          refine ite_d (fun _ => ?_) (fun h => absurd (by decide) h)
          walk_at "go"
          refine L4.slice fun p5 H5 n5 f5 L5 => ?_
          walk_at "go"
          refine (L4.fr0 f5).slice fun p6 H6 n6 f6 L6 => ?_
          refine (L5.fr0 f6).cat L6 (by have := cutA_len (xs := ds) (lo := some (k4 : Int)) (hi := none); have := cutA_len (xs := ds) (lo := none) (hi := some (k4 : Int)); omega) fun p7 H7 n7 f7 L7 => ?_
          rw [cutA_drop k4, cutA_take k4] at L7
          have f27 : Fr [t] H2 H7 := f24.trans ((f5.trans f6).trans f7).to1
          have T7 := ((T4.fr f5).fr f6).fr f7
          walk_at "go"
          refine fin p7 _ H7 L7 f27 T7 (rsub _ ?_ ?_ ?_)
          · rw [List.length_append]
            simp only [List.length_take, List.length_drop]
            omega
          · intro x hx
            rcases List.mem_append.mp hx with z | z
            · exact List.mem_of_mem_drop z
            · exact List.mem_of_mem_take z
          · rw [tszs_app]
            have := tszs_drop k4 ds
            have := tszs_take k4 ds
            omega
      · walk_at "go"
        refine isT_bool s ?_
        walk_at "go"
        refine isT_int s ?_
        walk_at "go"
        refine isT_str s ?_
        walk_at "go"
        exact ⟨t, S, H0, rfl, T2, ⟨tS, A2⟩, odd⟩
    | list ds =>
      obtain ⟨n', rfl⟩ : ∃ n', n = n' + 1 := ⟨n - 1, by omega⟩
      obtain ⟨ld, od'⟩ := od_list o
      obtain ⟨vt, rfl, s⟩ : ∃ vt, v = .ref vt ∧ ∃ vs, SqL K H2 vt vs := by
        obtain ⟨p, vs, e, s, _⟩ := D2.list
        exact ⟨p, e, vs, s⟩
      obtain ⟨vs, s⟩ := s
      have R : ∀ es : List PyData, es.length ≤ ds.length + 1 → (∀ x ∈ es, x ∈ ds ∨ bd 0 4 6 x) → tszs es ≤ 2 * tszs ds + 6 → Row3 (m + 1) (n' + 4) (2 * tszs ds + 6) es := fun es h1 h2 h3 => Row3.of ld od' h1 h2 h3
      have etz : tsz (.list ds) = 1 + tszs ds := by rw [tsz]
      have fin : ∀ (p' : Addr) (es : List PyData) (H' : Hp), Ly K H' S p' es → Fr [t] H2 H' → Tape K H0 H' t → Row3 (m + 1) (n' + 4) (2 * tszs ds + 6) es → rTupleU K [.ref p'] H' Q := fun p' es H' L f T r =>
        Ly.toT (A2.fr1 f T.lst) L fun p H'' f' d' => k _ _ H'' ((f02.trans f).trans f'.to1) (T.fr f') d' (r.tup.mono (Nat.le_refl _) (by omega) (by omega))
      rw [show (isTup (PyData.list ds) || isLst (PyData.list ds)) = true from rfl]
      walk_at "go"
      refine ite_d (fun h6 => ?_) fun h6 => ?_
      · walk_at "go"
        refine D2.listOf (.inr rfl) fun p3 H3 n3 f3 L3 => ?_
        have T3 := T2.fr f3
        have n3t : p3 ≠ t := T2.ne n3
        have n3S : p3 ∉ S := A2.new n3
        walk_at "go"
        refine L3.len ?_
        walk_at "go"
        refine ⟨t, _, H0, rfl, T3, by omega, by omega, fun at' H4 a4 b4 f4 T4 => ?_⟩
        obtain ⟨k4, rfl⟩ : ∃ k4 : Nat, at' = (k4 : Int) := ⟨at'.toNat, by omega⟩
        have L4 := L3.fr f4 (by simpa using tS) (by simpa using n3t)
        have f24 : Fr [t] H2 H4 := f3.to1.trans f4
        have A4 := A2.fr1 f24 T4.lst
        obtain ⟨xs4, e4⟩ := L4.at_
        obtain ⟨vs4, s4⟩ : ∃ vs4, SqL K H4 vt vs4 := by
          obtain ⟨p, vs, e, s, _⟩ := (D2.fr f24 (by simpa using tS)).list
          cases e
          exact ⟨vs, s⟩
        have rsub : ∀ es : List PyData, es.length ≤ ds.length + 1 → (∀ x ∈ es, x ∈ ds) → tszs es ≤ 2 * tszs ds + 6 → Row3 (m + 1) (n' + 4) (2 * tszs ds + 6) es := fun es h1 h2 h3 => R es h1 (fun x hx => .inl (h2 x hx)) h3
        walk_at "go"
        have hw : way = 0 ∨ way = 1 ∨ way = 2 ∨ way = 3 ∨ way = 4 ∨ way = 5 := by omega
        rcases hw with rfl | rfl | rfl | rfl | rfl | rfl
        · refine ite_d (fun _ => ?_) (fun h => absurd (by decide) h)
          walk_at "go"
          refine isL_tuple s4 ?_
          walk_at "go"
          refine ite_d (fun h => absurd h (by decide)) fun _ => ?_
          walk_at "go"
          refine ite_d (fun h => absurd h (by decide)) fun _ => ?_
          walk_at "go"
          refine ite_d (fun h => absurd h (by decide)) fun _ => ?_
          walk_at "go"
          refine ite_d (fun h => absurd h (by decide)) fun _ => ?_
          walk_at "go"
          refine ite_d (fun h => absurd h (by decide)) fun _ => ?_
          walk_at "go"
          exact fin p3 ds H4 L4 f24 T4 (rsub ds (by omega) (fun x hx => hx) (by omega))
        · refine ite_d (fun h => absurd h (by decide)) fun _ => ?_
          walk_at "go"
          refine ite_d (fun _ => ?_) (fun h => absurd (by decide) h)
          walk_at "go"
          refine ⟨.inl ⟨rfl, _, SqL.of e4⟩, ?_⟩
          walk_at "go"
          refine ⟨t, p3 :: S, H0, rfl, T4, ⟨by simp [tS], A4.cons e4⟩, fun u e H5 f5 T5 du be => ?_⟩
          have L5 := L4.fr f5 (by simpa using tS) (by simpa using n3t)
          walk_at "go"
          refine Ly.ins ((A4.cons e4).fr1 f5 T5.lst) L5 du (by omega) (by omega) (by omega) fun H6 f6 L6 => ?_
          have T6 := T5.fr1 f6 n3t (T2.no n3)
          walk_at "go"
          refine ite_d (fun h => absurd h (by decide)) fun _ => ?_
          walk_at "go"
          refine ite_d (fun h => absurd h (by decide)) fun _ => ?_
          walk_at "go"
          refine ite_d (fun h => absurd h (by decide)) fun _ => ?_
          walk_at "go"
          refine ite_d (fun h => absurd h (by decide)) fun _ => ?_
          walk_at "go"
          refine fin p3 _ H6 L6 (Fr.drop1 n3 (f24.trans f5) f6) T6 (R _ ?_ ?_ ?_)
          · rw [List.length_append, List.length_append, List.length_singleton, List.length_take, List.length_drop]
            omega
          · intro x hx
            rcases List.mem_append.mp hx with z | z
            · rcases List.mem_append.mp z with z | z
              · exact .inl (List.mem_of_mem_take z)
              · rw [List.mem_singleton.mp z]
                exact .inr be
            · exact .inl (List.mem_of_mem_drop z)
          · rw [tszs_app, tszs_app, tszs, tszs]
            have := tszs_take (k4 : Int).toNat ds
            have := tszs_drop (k4 : Int).toNat ds
            have := be.2
            omega
        · refine ite_d (fun h => absurd h (by decide)) fun _ => ?_
          walk_at "go"
          refine ite_d (fun h => absurd h (by decide)) fun _ => ?_
          walk_at "go"
          refine ite_d (fun _ => ?_) (fun h => absurd (by decide) h)
          walk_at "go"
          refine L4.slice fun p5 H5 n5 f5 L5 => ?_
          walk_at "go"
          refine (L4.fr0 f5).slice fun p6 H6 n6 f6 L6 => ?_
          refine (L5.fr0 f6).cat L6 (by have := cutA_len (xs := ds) (lo := none) (hi := some (k4 : Int)); have := cutA_len (xs := ds) (lo := some ((k4 : Int) + 1)) (hi := none); omega) fun p7 H7 n7 f7 L7 => ?_
          rw [cutA_take k4, show cutA ds (some ((k4 : Int) + 1)) none = ds.drop (k4 + 1) from cutA_drop (k4 + 1)] at L7
          have f27 : Fr [t] H2 H7 := f24.trans ((f5.trans f6).trans f7).to1
          have T7 := ((T4.fr f5).fr f6).fr f7
          walk_at "go"
          refine ite_d (fun h => absurd h (by decide)) fun _ => ?_
          walk_at "go"
          refine ite_d (fun h => absurd h (by decide)) fun _ => ?_
          walk_at "go"
          refine ite_d (fun h => absurd h (by decide)) fun _ => ?_
          walk_at "go"
          refine fin p7 _ H7 L7 f27 T7 (rsub _ ?_ ?_ ?_)
          · rw [List.length_append]
            simp only [List.length_take, List.length_drop]
            omega
          · intro x hx
            rcases List.mem_append.mp hx with z | z
            · exact List.mem_of_mem_take z
            · exact List.mem_of_mem_drop z
          · rw [tszs_app]
            have := tszs_take k4 ds
            have := tszs_drop (k4 + 1) ds
            omega
        · refine ite_d (fun h => absurd h (by decide)) fun _ => ?_
          walk_at "go"
          refine ite_d (fun h => absurd h (by decide)) fun _ => ?_
          walk_at "go"
          refine ite_d (fun h => absurd h (by decide)) fun _ => ?_
          walk_at "go"
          refine ite_d (fun _ => ?_) (fun h => absurd (by decide) h)
          walk_at "go"
          refine L4.slice fun p5 H5 n5 f5 L5 => ?_
          walk_at "go"
          rw [show (if (k4 : Int) - 1 > 0 then (k4 : Int) - 1 else 0) = ((k4 - 1 : Nat) : Int) by split <;> omega]
          refine (L4.fr0 f5).slice fun p6 H6 n6 f6 L6 => ?_
          refine (L5.fr0 f6).cat L6 (by have := cutA_len (xs := ds) (lo := none) (hi := some (k4 : Int)); have := cutA_len (xs := ds) (lo := some ((k4 - 1 : Nat) : Int)) (hi := none); omega) fun p7 H7 n7 f7 L7 => ?_
          rw [cutA_take k4, cutA_drop (k4 - 1)] at L7
          have f27 : Fr [t] H2 H7 := f24.trans ((f5.trans f6).trans f7).to1
          have T7 := ((T4.fr f5).fr f6).fr f7
          walk_at "go"
          refine ite_d (fun h => absurd h (by decide)) fun _ => ?_
          walk_at "go"
          refine ite_d (fun h => absurd h (by decide)) fun _ => ?_
          walk_at "go"
          refine fin p7 _ H7 L7 f27 T7 (rsub _ ?_ ?_ ?_)
          · rw [List.length_append]
            simp only [List.length_take, List.length_drop]
            omega
          · intro x hx
            rcases List.mem_append.mp hx with z | z
            · exact List.mem_of_mem_take z
            · exact List.mem_of_mem_drop z
          · rw [tszs_app]
            have := tszs_take k4 ds
            have := tszs_drop (k4 - 1) ds
            omega
        · refine ite_d (fun h => absurd h (by decide)) fun _ => ?_
          walk_at "go"
          refine ite_d (fun h => absurd h (by decide)) fun _ => ?_
          walk_at "go"
          refine ite_d (fun h => absurd h (by decide)) fun _ => ?_
          walk_at "go"
          refine ite_d (fun h => absurd h (by decide)) fun _ => ?_
          walk_at "go"
          refine ite_d (fun _ => ?_) (fun h => absurd (by decide) h)
          walk_at "go"
          refine ⟨.inl ⟨rfl, _, SqL.of e4⟩, ?_⟩
          refine Ly.rev (A4.cons e4) L4 fun H5 f5 L5 => ?_
          have T5 := T4.fr1 f5 n3t (T2.no n3)
          walk_at "go"
          refine ite_d (fun h => absurd h (by decide)) fun _ => ?_
          walk_at "go"
          exact fin p3 _ H5 L5 (Fr.drop1 n3 f24 f5) T5 (rsub _ (by rw [List.length_reverse]; omega) (fun x hx => List.mem_reverse.mp hx) (by rw [tszs_rev]; omega))
        · refine ite_d (fun h => absurd h (by decide)) fun _ => ?_
          walk_at "go"
          refine ite_d (fun h => absurd h (by decide)) fun _ => ?_
          walk_at "go"
          refine ite_d (fun h => absurd h (by decide)) fun _ => ?_
          walk_at "go"
          refine ite_d (fun h => absurd h (by decide)) fun _ => ?_
          walk_at "go"
          refine ite_d (fun h => absurd h (by decide)) fun _ => ?_
          walk_at "go"
          refine ite_d (fun _ => ?_) (fun h => absurd (by decide) h)
          walk_at "go"
          refine L4.slice fun p5 H5 n5 f5 L5 => ?_
          walk_at "go"
          refine (L4.fr0 f5).slice fun p6 H6 n6 f6 L6 => ?_
          refine (L5.fr0 f6).cat L6 (by have := cutA_len (xs := ds) (lo := some (k4 : Int)) (hi := none); have := cutA_len (xs := ds) (lo := none) (hi := some (k4 : Int)); omega) fun p7 H7 n7 f7 L7 => ?_
          rw [cutA_drop k4, cutA_take k4] at L7
          have f27 : Fr [t] H2 H7 := f24.trans ((f5.trans f6).trans f7).to1
          have T7 := ((T4.fr f5).fr f6).fr f7
          walk_at "go"
          refine fin p7 _ H7 L7 f27 T7 (rsub _ ?_ ?_ ?_)
          · rw [List.length_append]
            simp only [List.length_take, List.length_drop]
            omega
          · intro x hx
            rcases List.mem_append.mp hx with z | z
            · exact List.mem_of_mem_drop z
            · exact List.mem_of_mem_take z
          · rw [tszs_app]
            have := tszs_drop k4 ds
            have := tszs_take k4 ds
            omega
      · walk_at "go"
        refine isL_bool s ?_
        walk_at "go"
        refine isL_int s ?_
        walk_at "go"
        refine isL_str s ?_
        walk_at "go"
        exact ⟨t, S, H0, rfl, T2, ⟨tS, A2⟩, odd⟩
end


section
variable {P : Program} {w : World} {K : PySem.W.Frag} {mg : Str → Option Value} {base : Heap}
theorem tszs_set : ∀ (ds : List PyData) (j : Nat) (d e : PyData), ds[j]? = some d → tszs (ds.set j e) + tsz d = tszs ds + tsz e
  | [], j, d, e, h => by simp at h
  | x :: r, 0, d, e, h => by
    have : x = d := by simpa using h
    subst this
    show tszs (e :: r) + _ = _
    rw [tszs, tszs]
    omega
  | x :: r, j + 1, d, e, h => by
    have := tszs_set r j d e (by simpa using h)
    show tszs (x :: r.set j e) + _ = _
    rw [tszs, tszs]
    omega
theorem tszs_mem {ds : List PyData} {j : Nat} {d : PyData} (h : ds[j]? = some d) : tsz d ≤ tszs ds := by
  induction ds generalizing j with
  | nil => simp at h
  | cons x r ih =>
    cases j with
    | zero =>
      have : x = d := by simpa using h
      subst this
      rw [tszs]
      omega
    | succ j =>
      have := ih (j := j) (by simpa using h)
      rw [tszs]
      omega
def sp_law_bent (K : PySem.W.Frag) (n : Nat) : Sp := fun vs H Q _ => ∃ (t : Addr) (S : List Addr) (v : V) (d : PyData) (m nd : Nat) (H0 : Hp), vs = [.ref t, v] ∧ (od m nd d = true ∧ m ≤ 50 ∧ nd ≤ n) ∧ Tape K H0 H t ∧ (t ∈ S ∧ AllL H S) ∧ Dy K H S v d ∧
  ∀ u e H', Fr [t] H H' → Tape K H0 H' t → Dy K H' S u e → bd (m + 1) (nd + 4) (2 * tsz d + 10) e → Q u H'
theorem ok_law_bent (T : Env K mg) : ∀ n, Fx P w K mg base (4 + n) "_law_bent" p_law_bent (sp_law_bent K n)
  | 0 => T.l_law_bent.ok (k := 4 - 1) sc_law_bent (fun vs H Q E h => by
      obtain ⟨_, _, _, _, _, nd, _, _, h, _⟩ := h
      have : nd = 0 := by omega
      rw [this] at h
      exact absurd h.1 (by simp [od])) (fun f cdv A outer s H vs Q E hr h => by
      obtain ⟨_, _, _, _, _, nd, _, _, h, _⟩ := h
      have : nd = 0 := by omega
      rw [this] at h
      exact absurd h.1 (by simp [od]))
  | n + 1 => by
    have IH := ok_law_bent T n
    refine T.l_law_bent.ok sc_law_bent (fun vs H Q E h => ?_) (fun f cdv A outer s H vs Q E hr h => ?_)
    · obtain ⟨_, _, _, _, _, _, _, rfl, _⟩ := h
      rfl
    · obtain ⟨t, S, v, d, m, nd, H0, rfl, ⟨o, hm, hn⟩, T0, ⟨tS, AS⟩, D0, k⟩ := h
      obtain ⟨n2, rfl⟩ : ∃ n2, nd = n2 + 1 := ⟨nd - 1, by
        have : nd ≠ 0 := by
          rintro rfl
          simp [od] at o
        omega⟩
      refine ⟨_, (pss_cons (ps_if (PW.pt (pw_or (pt_not (pt_val (pe_callB (call_isiTU (K := K) rfl) (by rfl) T.m_isinstance (by decide +kernel) (pa_cons (pv 1) (pa_cons (pe_tup (pa_cons (pe_bltn (v := .ty "tuple") (u := .type "tuple") rfl T.m_tuple (by decide +kernel) rfl) (pa_cons (pe_bltn (v := .ty "list") (u := .type "list") rfl T.m_list (by decide +kernel) rfl) pa_nil))) pa_nil))))) (pw_or (pt_cmpR (op_eqU (K := K) rfl (u64 hr)) (pe_callB (call_lenU (K := K) rfl) (by rfl) T.m_len (by decide +kernel) (pa_cons (pv 1) pa_nil)) pe_int (nomark _)) (pw_or1 (pt_cmpR (op_eqU (K := K) rfl (u64 hr)) (pe_fx (ok_law_draw (P := P) (w := w) T) hr (Nat.le_trans (m := 4) (by decide) (Nat.le_add_right 4 _)) (pa_cons (pv 0) (pa_cons pe_int pa_nil))) pe_int (nomark _)))))) (pss_one (ps_ret (pe_fx (ok_law_other (P := P) (w := w) T) hr (Nat.le_trans (m := 4) (by decide) (Nat.le_add_right 4 _)) (pa_cons (pv 0) (pa_cons (pv 1) pa_nil))))) pss_nil)
      (pss_cons (ps_set (i := 2) sc_law_bent.nd rfl (Or.inl rfl) (pe_callTy (call_listU (K := K) rfl) (by rfl) T.m_list (by decide +kernel) (pa_cons (pv 1) pa_nil)))
      (pss_cons (ps_set (i := 3) sc_law_bent.nd rfl (Or.inl rfl) (pe_fx (ok_law_draw (P := P) (w := w) T) hr (Nat.le_trans (m := 4) (by decide) (Nat.le_add_right 4 _)) (pa_cons (pv 0) (pa_cons (pe_callB (call_lenU (K := K) rfl) (by rfl) T.m_len (by decide +kernel) (pa_cons (pv 2) pa_nil)) pa_nil))))
      (pss_cons (ps_asg (pe_fx (IH) hr (Nat.le_refl _) (pa_cons (pv 0) (pa_cons (pe_ix (ix_U (K := K) rfl) (pv 2) (pv 3) (fun _ _ => rfl)) pa_nil))) (pg_sub (pv 2) (pv 3) set_list))
      (pss_one (ps_ret (pe_ifExp (pt_val (pe_callB (call_isiU (K := K) rfl) (by rfl) T.m_isinstance (by decide +kernel) (pa_cons (pv 1) (pa_cons (pe_bltn (v := .ty "tuple") (u := .type "tuple") rfl T.m_tuple (by decide +kernel) rfl) pa_nil)))) (pe_callTy (call_tupleU (K := K) rfl) (by rfl) T.m_tuple (by decide +kernel) (pa_cons (pv 2) pa_nil)) (pv 2)))))))), ?_⟩
      walk_at "go"
      refine ⟨by exact Nat.le_of_ble_eq_true rfl, fun tp ntp => ?_⟩
      have f1 : Fr [] H (upd H tp (.tup [.ty "tuple", .ty "list"])) := Fr.new ntp
      have e1 : upd H tp (.tup [.ty "tuple", .ty "list"]) tp = some (.tup [.ty "tuple", .ty "list"]) := upd_same
      generalize upd H tp (.tup [.ty "tuple", .ty "list"]) = H1 at f1 e1
      have A1 := AS.fr f1
      have T1 := T0.fr f1
      have D1 := D0.fr0 f1
      have other : ∀ (H' : Hp), Fr [t] H1 H' → Tape K H0 H' t → sp_law_other K ([.ref t, v] ++ []) H' Q E0 := fun H' f' T' =>
        ⟨t, S, v, d, m, n2 + 1, H0, rfl, T', ⟨tS, A1.fr1 f' T'.lst⟩, D1.fr f' (by simpa using tS), ⟨o, hm⟩, fun u e H'' f'' T'' d'' b'' => k u e H'' ((f1.to1.trans f').trans f'') T'' d'' b''⟩
      walk_at "go"
      refine isiTL D1.dg e1 ?_
      by_cases hs : (isTup d || isLst d) = true
      · obtain ⟨ds, e⟩ : ∃ ds, d = .tuple ds ∨ d = .list ds := by
          cases d <;> first | exact ⟨_, .inl rfl⟩ | exact ⟨_, .inr rfl⟩ | cases hs
        have od' : ds.length ≤ 40 + m ∧ ∀ x ∈ ds, od m n2 x = true := by
          rcases e with rfl | rfl
          · exact od_tuple o
          · exact od_list o
        have etz : tsz d = 1 + tszs ds := by
          rcases e with rfl | rfl <;> rw [tsz]
        rw [hs]
        walk_at "go"
        refine D1.len e ?_
        walk_at "go"
        refine ite_d (fun h0 => ?_) fun h0 => ?_
        · walk_at "go"
          exact other H1 Fr.refl T1
        · walk_at "go"
          refine ⟨t, 4, H0, rfl, T1, by decide, by decide, fun r2 H2 a2 b2 f2 T2 => ?_⟩
          walk_at "go"
          refine ite_d (fun h2 => ?_) fun h2 => ?_
          · walk_at "go"
            exact other H2 f2 T2
          · have D2 := D1.fr f2 (by simpa using tS)
            have A2 := A1.fr1 f2 T2.lst
            walk_at "go"
            refine D2.listOf e fun p3 H3 n3 f3 L3 => ?_
            have T3 := T2.fr f3
            have n3t : p3 ≠ t := T2.ne n3
            have n3S : p3 ∉ S := A2.new n3
            walk_at "go"
            refine L3.len ?_
            walk_at "go"
            refine ⟨t, _, H0, rfl, T3, by omega, by omega, fun at' H4 a4 b4 f4 T4 => ?_⟩
            have L4 := L3.fr f4 (by simpa using tS) (by simpa using n3t)
            have A4 := (A2.fr f3).fr1 f4 T4.lst
            obtain ⟨xs4, e4⟩ := L4.at_
            have f14 : Fr [t] H1 H4 := (f2.trans f3.to1).trans f4
            walk_at "go"
            refine L4.ix a4 b4 fun u x du hx => ?_
            walk_at "go"
            have ox := od'.2 x (List.mem_of_getElem? hx)
            refine ⟨t, p3 :: S, u, x, m, n2, H0, rfl, ⟨ox, hm, by omega⟩, T4, ⟨by simp [tS], A4.cons e4⟩, du, fun y x2 H5 f5 T5 dy b5 => ?_⟩
            have L5 := L4.fr f5 (by simpa using tS) (by simpa using n3t)
            have A5 := (A4.cons e4).fr1 f5 T5.lst
            obtain ⟨vs5, e5, a5⟩ := L5
            have l5 : vs5.length = ds.length := DgAll.length a5
            walk_at "go"
            refine w_setL e5 (j := at'.toNat) ?_ ?_
            · unfold ixN
              rw [if_pos a4, if_pos (by omega)]
            · have f56 : Fr [p3] H5 (upd H5 p3 (.lst (vs5.set at'.toNat y))) := Fr.mut (by simp)
              have L6 : Ly K (upd H5 p3 (.lst (vs5.set at'.toNat y))) S p3 (ds.set at'.toNat x2) := Ly.put A5 (DyAll.set a5 dy at'.toNat)
              have T6 := T5.fr1 f56 n3t (T2.no n3)
              generalize upd H5 p3 (.lst (vs5.set at'.toNat y)) = H6 at f56 L6 T6
              have f02 : Fr [t] H H2 := f1.to1.trans f2
              have f06 : Fr [t] H H6 := Fr.drop1 (f02.free1' n3 n3t) (((f02.trans f3.to1).trans f4).trans f5) f56
              have D6 := D0.fr f06 (by simpa using tS)
              have R : Row3 (m + 1) (n2 + 4) (tsz x + 10 + tszs ds) (ds.set at'.toNat x2) := by
                refine ⟨by rw [List.length_set]; omega, fun z hz => ?_, ?_⟩
                · rcases List.mem_or_eq_of_mem_set hz with h | h
                  · exact od_mono (by omega) (by omega) (od'.2 z h)
                  · rw [h]; exact b5.1
                · have := tszs_set ds at'.toNat x x2 hx
                  have := b5.2
                  omega
              have tx := tszs_mem hx
              walk_at "go"
              refine D6.dg.isTup ?_
              rcases e with rfl | rfl
              · rw [show isTup (PyData.tuple ds) = true from rfl]
                walk_at "go"
                refine Ly.toT (AS.fr1 f06 T6.lst) L6 fun p7 H7 f7 d7 => ?_
                exact k _ _ H7 (f06.trans f7.to1) (T6.fr f7) d7 (R.tup.mono (Nat.le_refl _) (by omega) (by omega))
              · rw [show isTup (PyData.list ds) = false from rfl]
                walk_at "go"
                exact k _ _ H6 f06 T6 (L6.dy n3S) (R.lst.mono (Nat.le_refl _) (by omega) (by omega))
      · have hs' : (isTup d || isLst d) = false := Bool.eq_false_iff.mpr hs
        rw [hs']
        walk_at "go"
        exact other H1 Fr.refl T1
theorem bd_w {a : Str} {x y : PyData} {n B C : Nat} (ha : od 0 1 (.str a) = true) (hx : bd 0 (n + 1) B x) (hy : bd 0 (n + 1) C y) : bd 0 (n + 2) (2 + B + C) (.tuple [.str a, x, y]) := by
  refine ⟨od_mkT (by show 3 ≤ 40 + 0; omega) fun d hd => ?_, ?_⟩
  · simp only [List.mem_cons, List.not_mem_nil, or_false] at hd
    rcases hd with rfl | rfl | rfl
    · exact od_mono (Nat.le_refl _) (by omega) ha
    · exact hx.1
    · exact hy.1
  · have := hx.2
    have := hy.2
    simp only [tsz, tszs]
    omega
def sp_law_long (K : PySem.W.Frag) : Sp := fun vs H Q _ => ∃ (t : Addr) (c : Int) (H0 : Hp), vs = [.ref t, .int c] ∧ c ≤ 24 ∧ Tape K H0 H t ∧ ∀ v D H', bd 0 14 70 D → Fr [t] H H' → Tape K H0 H' t → Dt K H' v D → Q v H'
theorem ok_law_long (T : Env K mg) : Fx P w K mg base 3 "_law_long" p_law_long (sp_law_long K) := by
  refine T.l_law_long.ok sc_law_long (fun vs H Q E h => ?_) (fun f cdv A outer s H vs Q E hr h => ?_)
  · obtain ⟨t, _, _, rfl, _⟩ := h
    rfl
  · obtain ⟨t, c, H0, rfl, hc, T0, k⟩ := h
    refine ⟨_, (pss_cons (ps_set (i := 2) sc_law_long.nd rfl (Or.inl rfl) (pe_tup (pa_cons pe_str (pa_cons (pe_fx (ok_law_number (P := P) (w := w) T) hr (by decide) (pa_cons (pv 0) pa_nil)) pa_nil))))
      (pss_cons (ps_while PassesOwn.never (pt_cmpR op_gt (pv 1) pe_int (nomark _)) (pss_cons (ps_set (i := 3) sc_law_long.nd rfl (Or.inl rfl) (pe_ix (ix_U (K := K) rfl) (pe_lst (pa_cons pe_str (pa_cons pe_str (pa_cons pe_str pa_nil)))) (pe_fx (ok_law_draw (P := P) (w := w) T) hr (by decide) (pa_cons (pv 0) (pa_cons pe_int pa_nil))) (fun _ _ => rfl)))
      (C8.pss_cut (ps_if (pt_cmpR (op_eqU (K := K) rfl (u64 hr)) (pe_fx (ok_law_draw (P := P) (w := w) T) hr (by decide) (pa_cons (pv 0) (pa_cons pe_int pa_nil))) pe_int (nomark _)) (pss_one (ps_set (i := 2) sc_law_long.nd rfl (Or.inl rfl) (pe_tup (pa_cons (pv 3) (pa_cons (pv 2) (pa_cons (pe_tup (pa_cons pe_str (pa_cons pe_str pa_nil))) pa_nil)))))) (pss_one (ps_set (i := 2) sc_law_long.nd rfl (Or.inl rfl) (pe_tup (pa_cons (pv 3) (pa_cons (pe_tup (pa_cons pe_str (pa_cons pe_str pa_nil))) (pa_cons (pv 2) pa_nil)))))))
      (pss_one (ps_set (i := 1) sc_law_long.nd rfl (Or.inl rfl) (pe_op op_sub (pv 1) pe_int))))))
      (pss_one (ps_ret (pv 2))))), ?_⟩
    walk_at "go"
    refine ⟨t, H0, rfl, T0, fun r H1 br f1 T1 => ?_⟩
    walk_at "go"
    refine mkT (K := K) (.cons (.str _) (.cons (.int _) .nil)) fun p2 H2 n2 f2 d2 => ?_
    walk_at "go"
    refine w_whileN (fun mm σ' H' => ∃ (j : Nat) (c' : Int) (v : V) (D : PyData) (v3 : Option V), (j ≤ 12 ∧ c' + 2 * j ≤ 24 ∧ mm = 12 - j) ∧ σ' = [some (.ref t), some (.int c'), some v, v3] ∧ bd 0 (j + 2) (3 + 5 * j) D ∧ Fr [t] H H' ∧ Tape K H0 H' t ∧ Dt K H' v D) _ ⟨0, c, .ref p2, _, _, ⟨by omega, by omega, rfl⟩, rfl, bd_num (n := 0) br, f1.trans f2.to1, T1.fr f2, d2⟩ ?_
    rintro mm σ' H3 ⟨j, c', v, D, v3, ⟨hj, hc', rfl⟩, rfl, bD, f3, T3, d3⟩
    walk_at "go"
    refine ite_d (fun h => ?_) fun h => ?_
    · walk_at "go"
      refine ⟨by show 3 ≤ sizeLine; decide, fun l hl => ?_⟩
      walk_at "go"
      refine ⟨t, 3, H0, rfl, T3.new hl, by decide, by decide, fun r4 H4 a4 b4 f4 T4 => ?_⟩
      obtain ⟨z, hz, oz⟩ : ∃ z : Str, atI ([V.str "add", .str "times", .str "less"]) r4 = some (.str z) ∧ od 0 1 (.str z) = true := by
        have : r4 = 0 ∨ r4 = 1 ∨ r4 = 2 := by omega
        rcases this with rfl | rfl | rfl
        · exact ⟨"add", rfl, by decide +kernel⟩
        · exact ⟨"times", rfl, by decide +kernel⟩
        · exact ⟨"less", rfl, by decide +kernel⟩
      refine w_ixL (SqL.of (f4 _ _ upd_same (by simpa using T3.ne hl))) hz ?_
      walk_at "go"
      have f34 : Fr [t] H3 H4 := (Fr.new hl).to1.trans f4
      refine w_cut (fun σ' H' => ∃ (u : V) (E : PyData), σ' = [some (.ref t), some (.int c'), some u, some (.str z)] ∧ Fr [t] H4 H' ∧ Tape K H0 H' t ∧ Dt K H' u E ∧ bd 0 (j + 1 + 2) (3 + 5 * (j + 1)) E) ?_ ?_
      · walk_at "go"
        refine ⟨t, 2, H0, rfl, T4, by decide, by decide, fun r5 H5 a5 b5 f5 T5 => ?_⟩
        have d5 := d3.mono (T3.tu (f34.trans f5))
        walk_at "go"
        refine ite_d (fun h1 => ?_) fun h1 => ?_
        · walk_at "go"
          refine mkT (K := K) (.cons (.str _) (.cons (.str _) .nil)) fun p6 H6 n6 f6 d6 => ?_
          walk_at "go"
          refine mkT (K := K) (.cons (.str _) (.cons (d5.mono f6.tu) (.cons d6 .nil))) fun p7 H7 n7 f7 d7 => ?_
          exact ⟨_, _, rfl, f5.trans (f6.trans f7).to1, (T5.fr f6).fr f7, d7, (bd_w (n := j + 1) oz bD ((bd_two (n := 0) (by decide +kernel) (by decide +kernel)).mono (Nat.le_refl _) (by omega) (Nat.le_refl _))).mono (Nat.le_refl _) (by omega) (by omega)⟩
        · walk_at "go"
          refine mkT (K := K) (.cons (.str _) (.cons (.str _) .nil)) fun p6 H6 n6 f6 d6 => ?_
          walk_at "go"
          refine mkT (K := K) (.cons (.str _) (.cons d6 (.cons (d5.mono f6.tu) .nil))) fun p7 H7 n7 f7 d7 => ?_
          exact ⟨_, _, rfl, f5.trans (f6.trans f7).to1, (T5.fr f6).fr f7, d7, (bd_w (n := j + 1) oz ((bd_two (n := 0) (by decide +kernel) (by decide +kernel)).mono (Nat.le_refl _) (by omega) (Nat.le_refl _)) bD).mono (Nat.le_refl _) (by omega) (by omega)⟩
      · rintro σ' H7 ⟨u, E, rfl, f7, T7, d7, b7⟩
        walk_at "go"
        exact ⟨12 - (j + 1), by omega, j + 1, _, u, E, _, ⟨by omega, by omega, rfl⟩, rfl, b7, (f3.trans f34).trans f7, T7, d7⟩
    · walk_at "go"
      exact k v D H3 (bD.mono (Nat.le_refl _) (by omega) (by omega)) f3 T3 d3
end

def sp_law (K : PySem.W.Frag) : Sp := fun vs H Q _ => ∃ (a : Addr) (ns : List Int), vs = [.ref a] ∧ SqL K H a (ns.map V.int) ∧ ns.length ≤ 63 ∧ ∀ H', Q (.bl true) H'

section
variable {P : Program} {w : World} {K : PySem.W.Frag} {mg : Str → Option Value} {base : Heap}
theorem Tape.all {H0 H : Hp} {t : Addr} (T : Tape K H0 H t) : AllL H [t] := fun a ha => by
  rw [List.mem_singleton.mp ha]
  exact T.lst
theorem ok_law (T : Env K mg) (M : Tabs w K mg) {f : Addr} {fd : FuncData} (F : Fun K "law" "law" s_law f fd) : FnOk P w K mg base CX0 29 f fd p_law (sp_law K) := by
  refine F.ok sc_law (fun vs H Q E h => ?_) (fun cdv A outer s H vs Q E hr h => ?_)
  · obtain ⟨a, ns, rfl, _⟩ := h
    rfl
  · obtain ⟨a, ns, rfl, hS, hl, k⟩ := h
    refine ⟨_, (pss_cons (ps_set (i := 1) sc_law.nd rfl (Or.inl rfl) (pe_fx (ok_law_tape (P := P) (w := w) T) hr (by decide) (pa_cons (pv 0) pa_nil)))
      (pss_cons (ps_set (i := 2) sc_law.nd rfl (Or.inl rfl) (pe_disp (pps_cons pe_str (pe_lst (pa_cons pe_str (pa_cons pe_str pa_nil))) pps_nil) (by rfl) (by rfl) (by exact List.cons_ne_nil _ _) (by exact Nat.le_of_ble_eq_true rfl)))
      (pss_cons (ps_for PassesOwn.never rfl (pi_range1 rfl T.m_range (pa_cons pe_int pa_nil)) (pg_name (i := 3) sc_law.nd rfl (Or.inl rfl)) (pss_cons (ps_set (i := 4) sc_law.nd rfl (Or.inl rfl) (pe_fx (ok_law_sum (P := P) (w := w) T 5) hr (by decide) (pa_cons (pv 1) (pa_cons (pv 2) (pa_cons (pe_lst (pa_cons pe_str pa_nil)) (pa_cons pe_int pa_nil))))))
      (C8.pss_cut (ps_if (pt_cmpR (op_eqU (K := K) rfl (u64 hr)) (pv 3) pe_int (nomark _)) (pss_one (ps_set (i := 4) sc_law.nd rfl (Or.inl rfl) (pe_fx (ok_law_long (P := P) (w := w) T) hr (by decide) (pa_cons (pv 1) (pa_cons (pe_op (op_addU (K := K) rfl) pe_int (pe_fx (ok_law_draw (P := P) (w := w) T) hr (by decide) (pa_cons (pv 1) (pa_cons pe_int pa_nil)))) pa_nil))))) pss_nil)
      (pss_cons (ps_set (i := 5) sc_law.nd rfl (Or.inl rfl) (pe_fx (ok_law_bent (P := P) (w := w) T 24) hr (by decide) (pa_cons (pv 1) (pa_cons (pv 4) pa_nil))))
      (pss_one (ps_if (PW.pt (pw_or (pt_not (pt_val (pe_fx (ok_law_right (P := P) (w := w) T M) hr (by decide) (pa_cons (pv 4) pa_nil)))) (pw_or (pt_not (pt_val (pe_fx (ok_law_right (P := P) (w := w) T M) hr (by decide) (pa_cons (pv 5) pa_nil)))) (pw_or1 (pt_not (pt_val (pe_fx (ok_law_right (P := P) (w := w) T M) hr (by decide) (pa_cons (pe_fx (ok_law_bent (P := P) (w := w) T 24) hr (by decide) (pa_cons (pv 1) (pa_cons (pv 5) pa_nil))) pa_nil)))))))) (pss_one (ps_ret pe_bl)) pss_nil))))))
      (pss_cons (ps_set (i := 6) sc_law.nd rfl (Or.inl rfl) (pe_tup (pa_cons pe_str (pa_cons (pe_tup (pa_cons pe_str (pa_cons (pe_op op_pow pe_int pe_int) pa_nil))) (pa_cons (pe_tup (pa_cons pe_str (pa_cons (pe_tup (pa_cons pe_str (pa_cons pe_str pa_nil))) (pa_cons (pe_tup (pa_cons pe_str (pa_cons pe_str pa_nil))) (pa_cons (pe_tup (pa_cons pe_str (pa_cons (pe_un un_neg (pe_op op_pow pe_int pe_int)) pa_nil))) pa_nil))))) pa_nil)))))
      (pss_one (ps_ret (pe_and (pe_fx (ok_law_right (P := P) (w := w) T M) hr (by decide) (pa_cons (pv 6) pa_nil)) (pe_and (pe_fx (ok_law_right (P := P) (w := w) T M) hr (by decide) (pa_cons (pe_fx (ok_law_odd (P := P) (w := w) T) hr (by decide) (pa_cons (pv 1) pa_nil)) pa_nil)) (pe_one (pe_fx (ok_law_right (P := P) (w := w) T M) hr (by decide) (pa_cons (pe_tup pa_nil) pa_nil))))))))))), ?_⟩
    walk_at "go"
    refine ⟨a, ns, rfl, hS, fun t H1 ht f1 T1 => ?_⟩
    walk_at "go"
    refine w_disp fun d hd => ?_
    refine w_pairs ?_
    walk_at "go"
    have f2 : Fr [] H1 (upd H1 d (.dK [])) := Fr.new hd
    have e2 : upd H1 d (.dK []) d = some (.dK []) := upd_same
    have T2 := T1.fr f2
    have ndt : d ≠ t := T1.ne hd
    generalize upd H1 d (.dK []) = H2 at f2 e2 T2
    refine ⟨by exact Nat.le_of_ble_eq_true rfl, fun qb nqb => ?_⟩
    refine w_pnil ?_
    refine ⟨Fr.new (S := []) nqb _ _ e2 (by simp), [(.inr "boxes", .ref qb)], rfl, by exact Nat.le_of_ble_eq_true rfl, ?_⟩
    have e3 := Fr.new (S := []) (o := .lst [.str "a", .str "ab"]) nqb _ _ e2 (by simp)
    have T3 := T2.new (o := .lst [.str "a", .str "ab"]) nqb
    have nbt : qb ≠ t := T2.ne nqb
    have nbd : qb ≠ d := by
      rintro rfl
      rw [nqb] at e2
      cases e2
    have eb3 : upd H2 qb (.lst [.str "a", .str "ab"]) qb = some (.lst [.str "a", .str "ab"]) := upd_same
    generalize upd H2 qb (.lst [.str "a", .str "ab"]) = H3 at e3 T3 eb3
    have T4 : Tape K H (upd H3 d (.dK (mergeK [] [(.inr "boxes", .ref qb)]))) t := T3.fr1 (q := d) (Fr.mut (by simp)) ndt (T1.no hd)
    have K4 : Kit (upd H3 d (.dK (mergeK [] [(.inr "boxes", .ref qb)]))) t d := ⟨qb, upd_same, by rw [upd_ne nbd]; exact eb3, ndt, nbt⟩
    generalize upd H3 d (.dK (mergeK [] [(.inr "boxes", .ref qb)])) = H4 at T4 K4
    walk_at "go"
    refine F_R1 10 rfl (by decide) (by decide) (fun i σ H' => Tape K H H' t ∧ Kit H' t d ∧ ∃ v3 v4 v5 v6, σ = [some (.ref a), some (.ref t), some (.ref d), v3, v4, v5, v6]) ?_ ?_ ?_
    · exact ⟨T4, K4, _, _, _, _, rfl⟩
    · rintro i σ H5 hi ⟨T5, K5, v3, v4, v5, v6, rfl⟩
      walk_at "go"
      refine ⟨by exact Nat.le_of_ble_eq_true rfl, fun qt nqt => ?_⟩
      have f6 : Fr [] H5 (upd H5 qt (.lst [.str "t"])) := Fr.new nqt
      have e6 : upd H5 qt (.lst [.str "t"]) qt = some (.lst [.str "t"]) := upd_same
      have nqtt : qt ≠ t := T5.ne nqt
      generalize upd H5 qt (.lst [.str "t"]) = H6 at f6 e6
      have T6 := T5.fr f6
      have K6 := K5.fr f6.to1
      walk_at "go"
      refine ⟨t, d, qt, 3, H, rfl, ⟨by decide, by decide⟩, T6, K6, e6, nqtt, fun v D H7 b7 f7 T7 d7 => ?_⟩
      have K7 := K6.fr f7
      walk_at "go"
      refine w_cut (fun σ' H' => ∃ (u : V) (E : PyData), σ' = [some (.ref a), some (.ref t), some (.ref d), some (.int i), some u, v5, v6] ∧ Tape K H H' t ∧ Kit H' t d ∧ Dt K H' u E ∧ bd 0 14 107 E) ?_ ?_
      · walk_at "go"
        refine ite_d (fun h => ?_) fun h => ?_
        · walk_at "go"
          refine ⟨t, 8, H, rfl, T7, by decide, by decide, fun r8 H8 a8 b8 f8 T8 => ?_⟩
          walk_at "go"
          refine ⟨t, _, H, rfl, by omega, T8, fun u E H9 b9 f9 T9 d9 => ?_⟩
          exact ⟨u, E, rfl, T9, (K7.fr f8).fr f9, d9, b9.mono (Nat.le_refl _) (Nat.le_refl _) (by omega)⟩
        · walk_at "go"
          exact ⟨v, D, rfl, T7, K7, d7, b7.mono (Nat.le_refl _) (by omega) (by decide)⟩
      · rintro σ' H8 ⟨u, E, rfl, T8, K8, d8, b8⟩
        walk_at "go"
        refine ⟨t, [t], u, E, 0, 14, H, rfl, ⟨b8.1, by decide, by decide⟩, T8, ⟨by simp, T8.all⟩, Dt.dy T8.all d8, fun u2 E2 H9 f9 T9 y9 b9 => ?_⟩
        have s8 := b8.2
        have s9 := b9.2
        have d9 := d8.mono (T8.tu f9)
        have K9 := K8.fr f9
        walk_at "go"
        refine ⟨u, E, 0, rfl, ⟨od_mono (Nat.le_refl _) (by decide) b8.1, by decide⟩, by omega, d9.dg, fun H10 f10 => ?_⟩
        walk_at "go"
        refine ⟨u2, E2, 1, rfl, ⟨od_mono (by omega) (by omega) b9.1, by decide⟩, by omega, (y9.fr0 f10).dg, fun H11 f11 => ?_⟩
        have T11 := (T9.fr f10).fr f11
        walk_at "go"
        refine ⟨t, [t], u2, E2, 1, 18, H, rfl, ⟨b9.1, by decide, by decide⟩, T11, ⟨by simp, T11.all⟩, (y9.fr0 f10).fr0 f11, fun u3 E3 H12 f12 T12 y12 b12 => ?_⟩
        have s12 := b12.2
        walk_at "go"
        refine ⟨u3, E3, 2, rfl, ⟨od_mono (by omega) (by omega) b12.1, by decide⟩, by omega, y12.dg, fun H13 f13 => ?_⟩
        walk_at "go"
        exact ⟨T12.fr f13, (((K9.fr f10.to1).fr f11.to1).fr f12).fr f13.to1, _, _, _, _, rfl⟩
    · rintro σ H5 ⟨T5, K5, v3, v4, v5, v6, rfl⟩
      walk_at "go"
      refine mkT (K := K) (.cons (.str _) (.cons (.int _) .nil)) fun p1 H6 n6 f6 d6 => ?_
      walk_at "go"
      refine mkT (K := K) (.cons (.str _) (.cons (.str _) .nil)) fun p2 H7 n7 f7 d7 => ?_
      walk_at "go"
      refine mkT (K := K) (.cons (.str _) (.cons (.str _) .nil)) fun p3 H8 n8 f8 d8 => ?_
      walk_at "go"
      refine mkT (K := K) (.cons (.str _) (.cons (.int _) .nil)) fun p4 H9 n9 f9 d9 => ?_
      walk_at "go"
      refine mkT (K := K) (.cons (.str _) (.cons (d7.mono (f8.trans f9).tu) (.cons (d8.mono f9.tu) (.cons d9 .nil)))) fun p5 H10 n10 f10 d10 => ?_
      walk_at "go"
      refine mkT (K := K) (.cons (.str _) (.cons (d6.mono (((f7.trans f8).trans f9).trans f10).tu) (.cons d10 .nil))) fun p6 H11 n11 f11 d11 => ?_
      have T11 := (((((T5.fr f6).fr f7).fr f8).fr f9).fr f10).fr f11
      walk_at "go"
      refine ⟨_, _, 0, rfl, ⟨by decide +kernel, by decide⟩, by decide +kernel, d11.dg, fun H12 f12 => ?_⟩
      have T12 := T11.fr f12
      walk_at "go"
      refine ⟨t, [t], H, rfl, T12, ⟨by simp, T12.all⟩, fun u e H13 f13 T13 y13 b13 => ?_⟩
      have s13 := b13.2
      walk_at "go"
      refine ⟨u, e, 0, rfl, ⟨od_mono (Nat.le_refl _) (by omega) b13.1, by decide⟩, by omega, y13.dg, fun H14 f14 => ?_⟩
      walk_at "go"
      refine mkT (K := K) .nil fun p7 H15 n15 f15 d15 => ?_
      walk_at "go"
      refine ⟨_, _, 0, rfl, ⟨by decide +kernel, by decide⟩, by decide +kernel, d15.dg, fun H16 f16 => ?_⟩
      exact k _
end

section
variable {w : World} {K : PySem.W.Frag} {h : Heap} {mg : Str → Option Value}
theorem mk_is_whole (X : K.In h) (G : h.Ns mainGlobals mg) {f : Addr} {od an : Option Addr} {sl : Array (Option Value)} {oc kV dc pm cd ct : Value} (a : PySem.W.nsIn K mainGlobals "is_whole" = some (some (.ref f))) (l : K.lookup f = some ⟨oc, od, .func (PySem.W.fnOf "is_whole" "is_whole" (defArgs s_is_whole) (defBody s_is_whole) (defScope s_is_whole) .none kV dc pm an cd ct), sl⟩) (c : PySem.W.codeIn K cd "is_whole" = true) (k : PySem.W.keepIn K (.ref f) = true) : Loc K mg "is_whole" p_is_whole s_is_whole :=
  have F := fun_mk (st := s_is_whole) l c k
  ⟨f, _, F, PySem.W.mg_of X G a, F.binds (ps := p_is_whole) fun _ _ _ _ _ _ us hl => match us, hl with | [_], _ => rfl⟩
theorem mk_is_number (X : K.In h) (G : h.Ns mainGlobals mg) {f : Addr} {od an : Option Addr} {sl : Array (Option Value)} {oc kV dc pm cd ct : Value} (a : PySem.W.nsIn K mainGlobals "is_number" = some (some (.ref f))) (l : K.lookup f = some ⟨oc, od, .func (PySem.W.fnOf "is_number" "is_number" (defArgs s_is_number) (defBody s_is_number) (defScope s_is_number) .none kV dc pm an cd ct), sl⟩) (c : PySem.W.codeIn K cd "is_number" = true) (k : PySem.W.keepIn K (.ref f) = true) : Loc K mg "is_number" p_is_number s_is_number :=
  have F := fun_mk (st := s_is_number) l c k
  ⟨f, _, F, PySem.W.mg_of X G a, F.binds (ps := p_is_number) fun _ _ _ _ _ _ us hl => match us, hl with | [_], _ => rfl⟩
theorem mk_is_name (X : K.In h) (G : h.Ns mainGlobals mg) {f : Addr} {od an : Option Addr} {sl : Array (Option Value)} {oc kV dc pm cd ct : Value} (a : PySem.W.nsIn K mainGlobals "is_name" = some (some (.ref f))) (l : K.lookup f = some ⟨oc, od, .func (PySem.W.fnOf "is_name" "is_name" (defArgs s_is_name) (defBody s_is_name) (defScope s_is_name) .none kV dc pm an cd ct), sl⟩) (c : PySem.W.codeIn K cd "is_name" = true) (k : PySem.W.keepIn K (.ref f) = true) : Loc K mg "is_name" p_is_name s_is_name :=
  have F := fun_mk (st := s_is_name) l c k
  ⟨f, _, F, PySem.W.mg_of X G a, F.binds (ps := p_is_name) fun _ _ _ _ _ _ us hl => match us, hl with | [_], _ => rfl⟩
theorem mk_count_of (X : K.In h) (G : h.Ns mainGlobals mg) {f : Addr} {od an : Option Addr} {sl : Array (Option Value)} {oc kV dc pm cd ct : Value} (a : PySem.W.nsIn K mainGlobals "count_of" = some (some (.ref f))) (l : K.lookup f = some ⟨oc, od, .func (PySem.W.fnOf "count_of" "count_of" (defArgs s_count_of) (defBody s_count_of) (defScope s_count_of) .none kV dc pm an cd ct), sl⟩) (c : PySem.W.codeIn K cd "count_of" = true) (k : PySem.W.keepIn K (.ref f) = true) : Loc K mg "count_of" p_count_of s_count_of :=
  have F := fun_mk (st := s_count_of) l c k
  ⟨f, _, F, PySem.W.mg_of X G a, F.binds (ps := p_count_of) fun _ _ _ _ _ _ us hl => match us, hl with | [_], _ => rfl⟩
theorem mk_is_reckoning (X : K.In h) (G : h.Ns mainGlobals mg) {f : Addr} {od an : Option Addr} {sl : Array (Option Value)} {oc kV dc pm cd ct : Value} (a : PySem.W.nsIn K mainGlobals "is_reckoning" = some (some (.ref f))) (l : K.lookup f = some ⟨oc, od, .func (PySem.W.fnOf "is_reckoning" "is_reckoning" (defArgs s_is_reckoning) (defBody s_is_reckoning) (defScope s_is_reckoning) .none kV dc pm an cd ct), sl⟩) (c : PySem.W.codeIn K cd "is_reckoning" = true) (k : PySem.W.keepIn K (.ref f) = true) : Loc K mg "is_reckoning" p_is_reckoning s_is_reckoning :=
  have F := fun_mk (st := s_is_reckoning) l c k
  ⟨f, _, F, PySem.W.mg_of X G a, F.binds (ps := p_is_reckoning) fun _ _ _ _ _ _ us hl => match us, hl with | [_], _ => rfl⟩
theorem mk_law_tape (X : K.In h) (G : h.Ns mainGlobals mg) {f : Addr} {od an : Option Addr} {sl : Array (Option Value)} {oc kV dc pm cd ct : Value} (a : PySem.W.nsIn K mainGlobals "_law_tape" = some (some (.ref f))) (l : K.lookup f = some ⟨oc, od, .func (PySem.W.fnOf "_law_tape" "_law_tape" (defArgs s_law_tape) (defBody s_law_tape) (defScope s_law_tape) .none kV dc pm an cd ct), sl⟩) (c : PySem.W.codeIn K cd "_law_tape" = true) (k : PySem.W.keepIn K (.ref f) = true) : Loc K mg "_law_tape" p_law_tape s_law_tape :=
  have F := fun_mk (st := s_law_tape) l c k
  ⟨f, _, F, PySem.W.mg_of X G a, F.binds (ps := p_law_tape) fun _ _ _ _ _ _ us hl => match us, hl with | [_], _ => rfl⟩
theorem mk_law_draw (X : K.In h) (G : h.Ns mainGlobals mg) {f : Addr} {od an : Option Addr} {sl : Array (Option Value)} {oc kV dc pm cd ct : Value} (a : PySem.W.nsIn K mainGlobals "_law_draw" = some (some (.ref f))) (l : K.lookup f = some ⟨oc, od, .func (PySem.W.fnOf "_law_draw" "_law_draw" (defArgs s_law_draw) (defBody s_law_draw) (defScope s_law_draw) .none kV dc pm an cd ct), sl⟩) (c : PySem.W.codeIn K cd "_law_draw" = true) (k : PySem.W.keepIn K (.ref f) = true) : Loc K mg "_law_draw" p_law_draw s_law_draw :=
  have F := fun_mk (st := s_law_draw) l c k
  ⟨f, _, F, PySem.W.mg_of X G a, F.binds (ps := p_law_draw) fun _ _ _ _ _ _ us hl => match us, hl with | [_, _], _ => rfl⟩
theorem mk_law_number (X : K.In h) (G : h.Ns mainGlobals mg) {f : Addr} {od an : Option Addr} {sl : Array (Option Value)} {oc kV dc pm cd ct : Value} (a : PySem.W.nsIn K mainGlobals "_law_number" = some (some (.ref f))) (l : K.lookup f = some ⟨oc, od, .func (PySem.W.fnOf "_law_number" "_law_number" (defArgs s_law_number) (defBody s_law_number) (defScope s_law_number) .none kV dc pm an cd ct), sl⟩) (c : PySem.W.codeIn K cd "_law_number" = true) (k : PySem.W.keepIn K (.ref f) = true) : Loc K mg "_law_number" p_law_number s_law_number :=
  have F := fun_mk (st := s_law_number) l c k
  ⟨f, _, F, PySem.W.mg_of X G a, F.binds (ps := p_law_number) fun _ _ _ _ _ _ us hl => match us, hl with | [_], _ => rfl⟩
theorem mk_law_leaf (X : K.In h) (G : h.Ns mainGlobals mg) {f : Addr} {od an : Option Addr} {sl : Array (Option Value)} {oc kV dc pm cd ct : Value} (a : PySem.W.nsIn K mainGlobals "_law_leaf" = some (some (.ref f))) (l : K.lookup f = some ⟨oc, od, .func (PySem.W.fnOf "_law_leaf" "_law_leaf" (defArgs s_law_leaf) (defBody s_law_leaf) (defScope s_law_leaf) .none kV dc pm an cd ct), sl⟩) (c : PySem.W.codeIn K cd "_law_leaf" = true) (k : PySem.W.keepIn K (.ref f) = true) : Loc K mg "_law_leaf" p_law_leaf s_law_leaf :=
  have F := fun_mk (st := s_law_leaf) l c k
  ⟨f, _, F, PySem.W.mg_of X G a, F.binds (ps := p_law_leaf) fun _ _ _ _ _ _ us hl => match us, hl with | [_, _, _], _ => rfl⟩
theorem mk_law_sum (X : K.In h) (G : h.Ns mainGlobals mg) {f : Addr} {od an : Option Addr} {sl : Array (Option Value)} {oc kV dc pm cd ct : Value} (a : PySem.W.nsIn K mainGlobals "_law_sum" = some (some (.ref f))) (l : K.lookup f = some ⟨oc, od, .func (PySem.W.fnOf "_law_sum" "_law_sum" (defArgs s_law_sum) (defBody s_law_sum) (defScope s_law_sum) .none kV dc pm an cd ct), sl⟩) (c : PySem.W.codeIn K cd "_law_sum" = true) (k : PySem.W.keepIn K (.ref f) = true) : Loc K mg "_law_sum" p_law_sum s_law_sum :=
  have F := fun_mk (st := s_law_sum) l c k
  ⟨f, _, F, PySem.W.mg_of X G a, F.binds (ps := p_law_sum) fun _ _ _ _ _ _ us hl => match us, hl with | [_, _, _, _], _ => rfl⟩
theorem mk_law_is_name (X : K.In h) (G : h.Ns mainGlobals mg) {f : Addr} {od an : Option Addr} {sl : Array (Option Value)} {oc kV dc pm cd ct : Value} (a : PySem.W.nsIn K mainGlobals "_law_is_name" = some (some (.ref f))) (l : K.lookup f = some ⟨oc, od, .func (PySem.W.fnOf "_law_is_name" "_law_is_name" (defArgs s_law_is_name) (defBody s_law_is_name) (defScope s_law_is_name) .none kV dc pm an cd ct), sl⟩) (c : PySem.W.codeIn K cd "_law_is_name" = true) (k : PySem.W.keepIn K (.ref f) = true) : Loc K mg "_law_is_name" p_law_is_name s_law_is_name :=
  have F := fun_mk (st := s_law_is_name) l c k
  ⟨f, _, F, PySem.W.mg_of X G a, F.binds (ps := p_law_is_name) fun _ _ _ _ _ _ us hl => match us, hl with | [_], _ => rfl⟩
theorem mk_law_is_number (X : K.In h) (G : h.Ns mainGlobals mg) {f : Addr} {od an : Option Addr} {sl : Array (Option Value)} {oc kV dc pm cd ct : Value} (a : PySem.W.nsIn K mainGlobals "_law_is_number" = some (some (.ref f))) (l : K.lookup f = some ⟨oc, od, .func (PySem.W.fnOf "_law_is_number" "_law_is_number" (defArgs s_law_is_number) (defBody s_law_is_number) (defScope s_law_is_number) .none kV dc pm an cd ct), sl⟩) (c : PySem.W.codeIn K cd "_law_is_number" = true) (k : PySem.W.keepIn K (.ref f) = true) : Loc K mg "_law_is_number" p_law_is_number s_law_is_number :=
  have F := fun_mk (st := s_law_is_number) l c k
  ⟨f, _, F, PySem.W.mg_of X G a, F.binds (ps := p_law_is_number) fun _ _ _ _ _ _ us hl => match us, hl with | [_], _ => rfl⟩
theorem mk_law_nodes (X : K.In h) (G : h.Ns mainGlobals mg) {f : Addr} {od an : Option Addr} {sl : Array (Option Value)} {oc kV dc pm cd ct : Value} (a : PySem.W.nsIn K mainGlobals "_law_nodes" = some (some (.ref f))) (l : K.lookup f = some ⟨oc, od, .func (PySem.W.fnOf "_law_nodes" "_law_nodes" (defArgs s_law_nodes) (defBody s_law_nodes) (defScope s_law_nodes) .none kV dc pm an cd ct), sl⟩) (c : PySem.W.codeIn K cd "_law_nodes" = true) (k : PySem.W.keepIn K (.ref f) = true) : Loc K mg "_law_nodes" p_law_nodes s_law_nodes :=
  have F := fun_mk (st := s_law_nodes) l c k
  ⟨f, _, F, PySem.W.mg_of X G a, F.binds (ps := p_law_nodes) fun _ _ _ _ _ _ us hl => match us, hl with | [_], _ => rfl⟩
theorem mk_law_is_sum (X : K.In h) (G : h.Ns mainGlobals mg) {f : Addr} {od an : Option Addr} {sl : Array (Option Value)} {oc kV dc pm cd ct : Value} (a : PySem.W.nsIn K mainGlobals "_law_is_sum" = some (some (.ref f))) (l : K.lookup f = some ⟨oc, od, .func (PySem.W.fnOf "_law_is_sum" "_law_is_sum" (defArgs s_law_is_sum) (defBody s_law_is_sum) (defScope s_law_is_sum) .none kV dc pm an cd ct), sl⟩) (c : PySem.W.codeIn K cd "_law_is_sum" = true) (k : PySem.W.keepIn K (.ref f) = true) : Loc K mg "_law_is_sum" p_law_is_sum s_law_is_sum :=
  have F := fun_mk (st := s_law_is_sum) l c k
  ⟨f, _, F, PySem.W.mg_of X G a, F.binds (ps := p_law_is_sum) fun _ _ _ _ _ _ us hl => match us, hl with | [_], _ => rfl⟩
theorem mk_law_odd (X : K.In h) (G : h.Ns mainGlobals mg) {f : Addr} {od an : Option Addr} {sl : Array (Option Value)} {oc kV dc pm cd ct : Value} (a : PySem.W.nsIn K mainGlobals "_law_odd" = some (some (.ref f))) (l : K.lookup f = some ⟨oc, od, .func (PySem.W.fnOf "_law_odd" "_law_odd" (defArgs s_law_odd) (defBody s_law_odd) (defScope s_law_odd) .none kV dc pm an cd ct), sl⟩) (c : PySem.W.codeIn K cd "_law_odd" = true) (k : PySem.W.keepIn K (.ref f) = true) : Loc K mg "_law_odd" p_law_odd s_law_odd :=
  have F := fun_mk (st := s_law_odd) l c k
  ⟨f, _, F, PySem.W.mg_of X G a, F.binds (ps := p_law_odd) fun _ _ _ _ _ _ us hl => match us, hl with | [_], _ => rfl⟩
theorem mk_law_other (X : K.In h) (G : h.Ns mainGlobals mg) {f : Addr} {od an : Option Addr} {sl : Array (Option Value)} {oc kV dc pm cd ct : Value} (a : PySem.W.nsIn K mainGlobals "_law_other" = some (some (.ref f))) (l : K.lookup f = some ⟨oc, od, .func (PySem.W.fnOf "_law_other" "_law_other" (defArgs s_law_other) (defBody s_law_other) (defScope s_law_other) .none kV dc pm an cd ct), sl⟩) (c : PySem.W.codeIn K cd "_law_other" = true) (k : PySem.W.keepIn K (.ref f) = true) : Loc K mg "_law_other" p_law_other s_law_other :=
  have F := fun_mk (st := s_law_other) l c k
  ⟨f, _, F, PySem.W.mg_of X G a, F.binds (ps := p_law_other) fun _ _ _ _ _ _ us hl => match us, hl with | [_, _], _ => rfl⟩
theorem mk_law_bent (X : K.In h) (G : h.Ns mainGlobals mg) {f : Addr} {od an : Option Addr} {sl : Array (Option Value)} {oc kV dc pm cd ct : Value} (a : PySem.W.nsIn K mainGlobals "_law_bent" = some (some (.ref f))) (l : K.lookup f = some ⟨oc, od, .func (PySem.W.fnOf "_law_bent" "_law_bent" (defArgs s_law_bent) (defBody s_law_bent) (defScope s_law_bent) .none kV dc pm an cd ct), sl⟩) (c : PySem.W.codeIn K cd "_law_bent" = true) (k : PySem.W.keepIn K (.ref f) = true) : Loc K mg "_law_bent" p_law_bent s_law_bent :=
  have F := fun_mk (st := s_law_bent) l c k
  ⟨f, _, F, PySem.W.mg_of X G a, F.binds (ps := p_law_bent) fun _ _ _ _ _ _ us hl => match us, hl with | [_, _], _ => rfl⟩
theorem mk_law_long (X : K.In h) (G : h.Ns mainGlobals mg) {f : Addr} {od an : Option Addr} {sl : Array (Option Value)} {oc kV dc pm cd ct : Value} (a : PySem.W.nsIn K mainGlobals "_law_long" = some (some (.ref f))) (l : K.lookup f = some ⟨oc, od, .func (PySem.W.fnOf "_law_long" "_law_long" (defArgs s_law_long) (defBody s_law_long) (defScope s_law_long) .none kV dc pm an cd ct), sl⟩) (c : PySem.W.codeIn K cd "_law_long" = true) (k : PySem.W.keepIn K (.ref f) = true) : Loc K mg "_law_long" p_law_long s_law_long :=
  have F := fun_mk (st := s_law_long) l c k
  ⟨f, _, F, PySem.W.mg_of X G a, F.binds (ps := p_law_long) fun _ _ _ _ _ _ us hl => match us, hl with | [_, _], _ => rfl⟩
theorem mk_law_right (X : K.In h) (G : h.Ns mainGlobals mg) {f : Addr} {od an : Option Addr} {sl : Array (Option Value)} {oc kV dc pm cd ct : Value} (a : PySem.W.nsIn K mainGlobals "_law_right" = some (some (.ref f))) (l : K.lookup f = some ⟨oc, od, .func (PySem.W.fnOf "_law_right" "_law_right" (defArgs s_law_right) (defBody s_law_right) (defScope s_law_right) .none kV dc pm an cd ct), sl⟩) (c : PySem.W.codeIn K cd "_law_right" = true) (k : PySem.W.keepIn K (.ref f) = true) : Loc K mg "_law_right" p_law_right s_law_right :=
  have F := fun_mk (st := s_law_right) l c k
  ⟨f, _, F, PySem.W.mg_of X G a, F.binds (ps := p_law_right) fun _ _ _ _ _ _ us hl => match us, hl with | [_], _ => rfl⟩
theorem mk_law (X : K.In h) (G : h.Ns mainGlobals mg) {f : Addr} {od an : Option Addr} {sl : Array (Option Value)} {oc kV dc pm cd ct : Value} (a : PySem.W.nsIn K mainGlobals "law" = some (some (.ref f))) (l : K.lookup f = some ⟨oc, od, .func (PySem.W.fnOf "law" "law" (defArgs s_law) (defBody s_law) (defScope s_law) .none kV dc pm an cd ct), sl⟩) (c : PySem.W.codeIn K cd "law" = true) (k : PySem.W.keepIn K (.ref f) = true) : Loc K mg "law" p_law s_law :=
  have F := fun_mk (st := s_law) l c k
  ⟨f, _, F, PySem.W.mg_of X G a, F.binds (ps := p_law) fun _ _ _ _ _ _ us hl => match us, hl with | [_], _ => rfl⟩
theorem all_env (X : K.In h) (G : h.Ns mainGlobals mg)
    {f0 : Addr} {od0 an0 : Option Addr} {sl0 : Array (Option Value)} {oc0 kV0 dc0 pm0 cd0 ct0 : Value}
    (a0 : PySem.W.nsIn K mainGlobals "is_whole" = some (some (.ref f0))) (l0 : K.lookup f0 = some ⟨oc0, od0, .func (PySem.W.fnOf "is_whole" "is_whole" (defArgs s_is_whole) (defBody s_is_whole) (defScope s_is_whole) .none kV0 dc0 pm0 an0 cd0 ct0), sl0⟩) (c0 : PySem.W.codeIn K cd0 "is_whole" = true) (k0 : PySem.W.keepIn K (.ref f0) = true)
    {f1 : Addr} {od1 an1 : Option Addr} {sl1 : Array (Option Value)} {oc1 kV1 dc1 pm1 cd1 ct1 : Value}
    (a1 : PySem.W.nsIn K mainGlobals "is_number" = some (some (.ref f1))) (l1 : K.lookup f1 = some ⟨oc1, od1, .func (PySem.W.fnOf "is_number" "is_number" (defArgs s_is_number) (defBody s_is_number) (defScope s_is_number) .none kV1 dc1 pm1 an1 cd1 ct1), sl1⟩) (c1 : PySem.W.codeIn K cd1 "is_number" = true) (k1 : PySem.W.keepIn K (.ref f1) = true)
    {f2 : Addr} {od2 an2 : Option Addr} {sl2 : Array (Option Value)} {oc2 kV2 dc2 pm2 cd2 ct2 : Value}
    (a2 : PySem.W.nsIn K mainGlobals "is_name" = some (some (.ref f2))) (l2 : K.lookup f2 = some ⟨oc2, od2, .func (PySem.W.fnOf "is_name" "is_name" (defArgs s_is_name) (defBody s_is_name) (defScope s_is_name) .none kV2 dc2 pm2 an2 cd2 ct2), sl2⟩) (c2 : PySem.W.codeIn K cd2 "is_name" = true) (k2 : PySem.W.keepIn K (.ref f2) = true)
    {f3 : Addr} {od3 an3 : Option Addr} {sl3 : Array (Option Value)} {oc3 kV3 dc3 pm3 cd3 ct3 : Value}
    (a3 : PySem.W.nsIn K mainGlobals "count_of" = some (some (.ref f3))) (l3 : K.lookup f3 = some ⟨oc3, od3, .func (PySem.W.fnOf "count_of" "count_of" (defArgs s_count_of) (defBody s_count_of) (defScope s_count_of) .none kV3 dc3 pm3 an3 cd3 ct3), sl3⟩) (c3 : PySem.W.codeIn K cd3 "count_of" = true) (k3 : PySem.W.keepIn K (.ref f3) = true)
    {f4 : Addr} {od4 an4 : Option Addr} {sl4 : Array (Option Value)} {oc4 kV4 dc4 pm4 cd4 ct4 : Value}
    (a4 : PySem.W.nsIn K mainGlobals "is_reckoning" = some (some (.ref f4))) (l4 : K.lookup f4 = some ⟨oc4, od4, .func (PySem.W.fnOf "is_reckoning" "is_reckoning" (defArgs s_is_reckoning) (defBody s_is_reckoning) (defScope s_is_reckoning) .none kV4 dc4 pm4 an4 cd4 ct4), sl4⟩) (c4 : PySem.W.codeIn K cd4 "is_reckoning" = true) (k4 : PySem.W.keepIn K (.ref f4) = true)
    {f5 : Addr} {od5 an5 : Option Addr} {sl5 : Array (Option Value)} {oc5 kV5 dc5 pm5 cd5 ct5 : Value}
    (a5 : PySem.W.nsIn K mainGlobals "_law_tape" = some (some (.ref f5))) (l5 : K.lookup f5 = some ⟨oc5, od5, .func (PySem.W.fnOf "_law_tape" "_law_tape" (defArgs s_law_tape) (defBody s_law_tape) (defScope s_law_tape) .none kV5 dc5 pm5 an5 cd5 ct5), sl5⟩) (c5 : PySem.W.codeIn K cd5 "_law_tape" = true) (k5 : PySem.W.keepIn K (.ref f5) = true)
    {f6 : Addr} {od6 an6 : Option Addr} {sl6 : Array (Option Value)} {oc6 kV6 dc6 pm6 cd6 ct6 : Value}
    (a6 : PySem.W.nsIn K mainGlobals "_law_draw" = some (some (.ref f6))) (l6 : K.lookup f6 = some ⟨oc6, od6, .func (PySem.W.fnOf "_law_draw" "_law_draw" (defArgs s_law_draw) (defBody s_law_draw) (defScope s_law_draw) .none kV6 dc6 pm6 an6 cd6 ct6), sl6⟩) (c6 : PySem.W.codeIn K cd6 "_law_draw" = true) (k6 : PySem.W.keepIn K (.ref f6) = true)
    {f7 : Addr} {od7 an7 : Option Addr} {sl7 : Array (Option Value)} {oc7 kV7 dc7 pm7 cd7 ct7 : Value}
    (a7 : PySem.W.nsIn K mainGlobals "_law_number" = some (some (.ref f7))) (l7 : K.lookup f7 = some ⟨oc7, od7, .func (PySem.W.fnOf "_law_number" "_law_number" (defArgs s_law_number) (defBody s_law_number) (defScope s_law_number) .none kV7 dc7 pm7 an7 cd7 ct7), sl7⟩) (c7 : PySem.W.codeIn K cd7 "_law_number" = true) (k7 : PySem.W.keepIn K (.ref f7) = true)
    {f8 : Addr} {od8 an8 : Option Addr} {sl8 : Array (Option Value)} {oc8 kV8 dc8 pm8 cd8 ct8 : Value}
    (a8 : PySem.W.nsIn K mainGlobals "_law_leaf" = some (some (.ref f8))) (l8 : K.lookup f8 = some ⟨oc8, od8, .func (PySem.W.fnOf "_law_leaf" "_law_leaf" (defArgs s_law_leaf) (defBody s_law_leaf) (defScope s_law_leaf) .none kV8 dc8 pm8 an8 cd8 ct8), sl8⟩) (c8 : PySem.W.codeIn K cd8 "_law_leaf" = true) (k8 : PySem.W.keepIn K (.ref f8) = true)
    {f9 : Addr} {od9 an9 : Option Addr} {sl9 : Array (Option Value)} {oc9 kV9 dc9 pm9 cd9 ct9 : Value}
    (a9 : PySem.W.nsIn K mainGlobals "_law_sum" = some (some (.ref f9))) (l9 : K.lookup f9 = some ⟨oc9, od9, .func (PySem.W.fnOf "_law_sum" "_law_sum" (defArgs s_law_sum) (defBody s_law_sum) (defScope s_law_sum) .none kV9 dc9 pm9 an9 cd9 ct9), sl9⟩) (c9 : PySem.W.codeIn K cd9 "_law_sum" = true) (k9 : PySem.W.keepIn K (.ref f9) = true)
    {f10 : Addr} {od10 an10 : Option Addr} {sl10 : Array (Option Value)} {oc10 kV10 dc10 pm10 cd10 ct10 : Value}
    (a10 : PySem.W.nsIn K mainGlobals "_law_is_name" = some (some (.ref f10))) (l10 : K.lookup f10 = some ⟨oc10, od10, .func (PySem.W.fnOf "_law_is_name" "_law_is_name" (defArgs s_law_is_name) (defBody s_law_is_name) (defScope s_law_is_name) .none kV10 dc10 pm10 an10 cd10 ct10), sl10⟩) (c10 : PySem.W.codeIn K cd10 "_law_is_name" = true) (k10 : PySem.W.keepIn K (.ref f10) = true)
    {f11 : Addr} {od11 an11 : Option Addr} {sl11 : Array (Option Value)} {oc11 kV11 dc11 pm11 cd11 ct11 : Value}
    (a11 : PySem.W.nsIn K mainGlobals "_law_is_number" = some (some (.ref f11))) (l11 : K.lookup f11 = some ⟨oc11, od11, .func (PySem.W.fnOf "_law_is_number" "_law_is_number" (defArgs s_law_is_number) (defBody s_law_is_number) (defScope s_law_is_number) .none kV11 dc11 pm11 an11 cd11 ct11), sl11⟩) (c11 : PySem.W.codeIn K cd11 "_law_is_number" = true) (k11 : PySem.W.keepIn K (.ref f11) = true)
    {f12 : Addr} {od12 an12 : Option Addr} {sl12 : Array (Option Value)} {oc12 kV12 dc12 pm12 cd12 ct12 : Value}
    (a12 : PySem.W.nsIn K mainGlobals "_law_nodes" = some (some (.ref f12))) (l12 : K.lookup f12 = some ⟨oc12, od12, .func (PySem.W.fnOf "_law_nodes" "_law_nodes" (defArgs s_law_nodes) (defBody s_law_nodes) (defScope s_law_nodes) .none kV12 dc12 pm12 an12 cd12 ct12), sl12⟩) (c12 : PySem.W.codeIn K cd12 "_law_nodes" = true) (k12 : PySem.W.keepIn K (.ref f12) = true)
    {f13 : Addr} {od13 an13 : Option Addr} {sl13 : Array (Option Value)} {oc13 kV13 dc13 pm13 cd13 ct13 : Value}
    (a13 : PySem.W.nsIn K mainGlobals "_law_is_sum" = some (some (.ref f13))) (l13 : K.lookup f13 = some ⟨oc13, od13, .func (PySem.W.fnOf "_law_is_sum" "_law_is_sum" (defArgs s_law_is_sum) (defBody s_law_is_sum) (defScope s_law_is_sum) .none kV13 dc13 pm13 an13 cd13 ct13), sl13⟩) (c13 : PySem.W.codeIn K cd13 "_law_is_sum" = true) (k13 : PySem.W.keepIn K (.ref f13) = true)
    {f14 : Addr} {od14 an14 : Option Addr} {sl14 : Array (Option Value)} {oc14 kV14 dc14 pm14 cd14 ct14 : Value}
    (a14 : PySem.W.nsIn K mainGlobals "_law_odd" = some (some (.ref f14))) (l14 : K.lookup f14 = some ⟨oc14, od14, .func (PySem.W.fnOf "_law_odd" "_law_odd" (defArgs s_law_odd) (defBody s_law_odd) (defScope s_law_odd) .none kV14 dc14 pm14 an14 cd14 ct14), sl14⟩) (c14 : PySem.W.codeIn K cd14 "_law_odd" = true) (k14 : PySem.W.keepIn K (.ref f14) = true)
    {f15 : Addr} {od15 an15 : Option Addr} {sl15 : Array (Option Value)} {oc15 kV15 dc15 pm15 cd15 ct15 : Value}
    (a15 : PySem.W.nsIn K mainGlobals "_law_other" = some (some (.ref f15))) (l15 : K.lookup f15 = some ⟨oc15, od15, .func (PySem.W.fnOf "_law_other" "_law_other" (defArgs s_law_other) (defBody s_law_other) (defScope s_law_other) .none kV15 dc15 pm15 an15 cd15 ct15), sl15⟩) (c15 : PySem.W.codeIn K cd15 "_law_other" = true) (k15 : PySem.W.keepIn K (.ref f15) = true)
    {f16 : Addr} {od16 an16 : Option Addr} {sl16 : Array (Option Value)} {oc16 kV16 dc16 pm16 cd16 ct16 : Value}
    (a16 : PySem.W.nsIn K mainGlobals "_law_bent" = some (some (.ref f16))) (l16 : K.lookup f16 = some ⟨oc16, od16, .func (PySem.W.fnOf "_law_bent" "_law_bent" (defArgs s_law_bent) (defBody s_law_bent) (defScope s_law_bent) .none kV16 dc16 pm16 an16 cd16 ct16), sl16⟩) (c16 : PySem.W.codeIn K cd16 "_law_bent" = true) (k16 : PySem.W.keepIn K (.ref f16) = true)
    {f17 : Addr} {od17 an17 : Option Addr} {sl17 : Array (Option Value)} {oc17 kV17 dc17 pm17 cd17 ct17 : Value}
    (a17 : PySem.W.nsIn K mainGlobals "_law_long" = some (some (.ref f17))) (l17 : K.lookup f17 = some ⟨oc17, od17, .func (PySem.W.fnOf "_law_long" "_law_long" (defArgs s_law_long) (defBody s_law_long) (defScope s_law_long) .none kV17 dc17 pm17 an17 cd17 ct17), sl17⟩) (c17 : PySem.W.codeIn K cd17 "_law_long" = true) (k17 : PySem.W.keepIn K (.ref f17) = true)
    {f18 : Addr} {od18 an18 : Option Addr} {sl18 : Array (Option Value)} {oc18 kV18 dc18 pm18 cd18 ct18 : Value}
    (a18 : PySem.W.nsIn K mainGlobals "_law_right" = some (some (.ref f18))) (l18 : K.lookup f18 = some ⟨oc18, od18, .func (PySem.W.fnOf "_law_right" "_law_right" (defArgs s_law_right) (defBody s_law_right) (defScope s_law_right) .none kV18 dc18 pm18 an18 cd18 ct18), sl18⟩) (c18 : PySem.W.codeIn K cd18 "_law_right" = true) (k18 : PySem.W.keepIn K (.ref f18) = true)
    {f19 : Addr} {od19 an19 : Option Addr} {sl19 : Array (Option Value)} {oc19 kV19 dc19 pm19 cd19 ct19 : Value}
    (a19 : PySem.W.nsIn K mainGlobals "law" = some (some (.ref f19))) (l19 : K.lookup f19 = some ⟨oc19, od19, .func (PySem.W.fnOf "law" "law" (defArgs s_law) (defBody s_law) (defScope s_law) .none kV19 dc19 pm19 an19 cd19 ct19), sl19⟩) (c19 : PySem.W.codeIn K cd19 "law" = true) (k19 : PySem.W.keepIn K (.ref f19) = true)
    (z_abs : PySem.W.nsIn K mainGlobals "abs" = some none)
    (z_all : PySem.W.nsIn K mainGlobals "all" = some none)
    (z_bool : PySem.W.nsIn K mainGlobals "bool" = some none)
    (z_int : PySem.W.nsIn K mainGlobals "int" = some none)
    (z_isinstance : PySem.W.nsIn K mainGlobals "isinstance" = some none)
    (z_len : PySem.W.nsIn K mainGlobals "len" = some none)
    (z_list : PySem.W.nsIn K mainGlobals "list" = some none)
    (z_max : PySem.W.nsIn K mainGlobals "max" = some none)
    (z_range : PySem.W.nsIn K mainGlobals "range" = some none)
    (z_str : PySem.W.nsIn K mainGlobals "str" = some none)
    (z_sum : PySem.W.nsIn K mainGlobals "sum" = some none)
    (z_tuple : PySem.W.nsIn K mainGlobals "tuple" = some none)
    {t_GREATEST : Tok} (g_GREATEST : PySem.W.nsIn K mainGlobals "GREATEST" = some (some (.int 1000000000 t_GREATEST)))
    {t_LETTERS : Tok} (g_LETTERS : PySem.W.nsIn K mainGlobals "LETTERS" = some (some (.str "abcdefghijklmnopqrstuvwxyz" t_LETTERS)))
    {q_ASKS : Addr} {t0_ASKS t1_ASKS t2_ASKS : Tok} {od_ASKS : Option Addr} {n_ASKS : Nat} {sl_ASKS : Array (Option Value)} (g_ASKS : PySem.W.nsIn K mainGlobals "ASKS" = some (some (.ref q_ASKS))) (h_ASKS : K.lookup q_ASKS = some ⟨.type "tuple", od_ASKS, .seq #[.str "take" t0_ASKS, .str "box" t1_ASKS, .str "down" t2_ASKS] n_ASKS, sl_ASKS⟩)
    {t_MOST : Tok} (g_MOST : PySem.W.nsIn K mainGlobals "MOST" = some (some (.int 20 t_MOST))) : Env K mg :=
  { l_is_whole := mk_is_whole X G a0 l0 c0 k0,
    l_is_number := mk_is_number X G a1 l1 c1 k1,
    l_is_name := mk_is_name X G a2 l2 c2 k2,
    l_count_of := mk_count_of X G a3 l3 c3 k3,
    l_is_reckoning := mk_is_reckoning X G a4 l4 c4 k4,
    l_law_tape := mk_law_tape X G a5 l5 c5 k5,
    l_law_draw := mk_law_draw X G a6 l6 c6 k6,
    l_law_number := mk_law_number X G a7 l7 c7 k7,
    l_law_leaf := mk_law_leaf X G a8 l8 c8 k8,
    l_law_sum := mk_law_sum X G a9 l9 c9 k9,
    l_law_is_name := mk_law_is_name X G a10 l10 c10 k10,
    l_law_is_number := mk_law_is_number X G a11 l11 c11 k11,
    l_law_nodes := mk_law_nodes X G a12 l12 c12 k12,
    l_law_is_sum := mk_law_is_sum X G a13 l13 c13 k13,
    l_law_odd := mk_law_odd X G a14 l14 c14 k14,
    l_law_other := mk_law_other X G a15 l15 c15 k15,
    l_law_bent := mk_law_bent X G a16 l16 c16 k16,
    l_law_long := mk_law_long X G a17 l17 c17 k17,
    l_law_right := mk_law_right X G a18 l18 c18 k18,
    l_law := mk_law X G a19 l19 c19 k19,
    m_abs := PySem.W.mg_none_of X G z_abs,
    m_all := PySem.W.mg_none_of X G z_all,
    m_bool := PySem.W.mg_none_of X G z_bool,
    m_int := PySem.W.mg_none_of X G z_int,
    m_isinstance := PySem.W.mg_none_of X G z_isinstance,
    m_len := PySem.W.mg_none_of X G z_len,
    m_list := PySem.W.mg_none_of X G z_list,
    m_max := PySem.W.mg_none_of X G z_max,
    m_range := PySem.W.mg_none_of X G z_range,
    m_str := PySem.W.mg_none_of X G z_str,
    m_sum := PySem.W.mg_none_of X G z_sum,
    m_tuple := PySem.W.mg_none_of X G z_tuple,
    g_GREATEST := ⟨_, PySem.W.mg_of X G g_GREATEST⟩,
    g_LETTERS := ⟨_, PySem.W.mg_of X G g_LETTERS⟩,
    g_ASKS := ⟨_, PySem.W.mg_of X G g_ASKS, ktup_of h_ASKS (vs_str (vs_str (vs_str vs_nil)))⟩,
    g_MANY := trivial,
    g_MOST := ⟨_, PySem.W.mg_of X G g_MOST⟩ }
theorem all_tabs (X : K.In h) (G : h.Ns mainGlobals mg)
    {q_MANY : Addr} {h0_MANY h1_MANY h2_MANY h3_MANY : Int} {t0_MANY u0_MANY t1_MANY u1_MANY t2_MANY u2_MANY t3_MANY u3_MANY : Tok} {n_MANY : Nat} (g_MANY : PySem.W.nsIn K mainGlobals "MANY" = some (some (.ref q_MANY))) (h_MANY : K.lookup q_MANY = some ⟨.type "dict", none, .dict #[⟨h0_MANY, .str "add" t0_MANY, .int 2 u0_MANY⟩, ⟨h1_MANY, .str "times" t1_MANY, .int 2 u1_MANY⟩, ⟨h2_MANY, .str "less" t2_MANY, .int 2 u2_MANY⟩, ⟨h3_MANY, .str "pick" t3_MANY, .int 3 u3_MANY⟩] n_MANY, #[]⟩) (d_MANY : h0_MANY = PyData.keyHash w.params "add" ∧ h1_MANY = PyData.keyHash w.params "times" ∧ h2_MANY = PyData.keyHash w.params "less" ∧ h3_MANY = PyData.keyHash w.params "pick" ∧ (q_MANY == sysModules) = false) : Tabs w K mg :=
  { t_MANY := ⟨_, PySem.W.mg_of X G g_MANY, _, _, ⟨h_MANY, ⟨⟨_, _, rfl, d_MANY.1⟩, ⟨⟨_, _, rfl, d_MANY.2.1⟩, ⟨⟨_, _, rfl, d_MANY.2.2.1⟩, ⟨⟨_, _, rfl, d_MANY.2.2.2.1⟩, trivial⟩⟩⟩⟩, d_MANY.2.2.2.2⟩, (.cons ⟨⟨_, rfl⟩, ⟨_, rfl⟩⟩ (.cons ⟨⟨_, rfl⟩, ⟨_, rfl⟩⟩ (.cons ⟨⟨_, rfl⟩, ⟨_, rfl⟩⟩ (.cons ⟨⟨_, rfl⟩, ⟨_, rfl⟩⟩ .nil))))⟩ }
theorem walk {l : PySem.W.OpenLaw} {q : Program} {loose : List Str} {XP : (Str → Option Value) → Heap → Prop} {YP : World → Heap → Prop} {d : DefRec} {K : Params → PySem.W.Frag} (hn : l.most = some 63) (hdf : d.params.defaults = [])
    (hY : ∀ (w : World) (h : Heap), YP w h → (K w.params).In h) (hd : d.name = "law")
    (F : ∀ (w : World) (mg : Str → Option Value) (h : Heap), (K w.params).In h → h.Ns mainGlobals mg → Env (K w.params) mg) (FM : ∀ (w : World) (mg : Str → Option Value) (h : Heap), (K w.params).In h → h.Ns mainGlobals mg → Tabs w (K w.params) mg) :
    PySem.W.WalkO q loose XP YP l.row.toRowW d [] (fun f vs => PySem.call f vs) :=
  L2.walk_of (n := 63) (k := 29) (x := "_law_script") (CX := fun _ => CX0) (sp := fun w => sp_law (K w.params)) hn (by decide) hdf ⟨rfl, by decide, by decide⟩ hY (fun w mg fa h KX G hmg => by
    have T := F w mg h KX G
    obtain ⟨f, fd, F1, m, b⟩ := T.l_law.ex
    rw [hd] at hmg
    have e := hmg.symm.trans m
    cases e
    refine ⟨fd, fun s v => ?_, fun base _ _ => ?_⟩
    · obtain ⟨oc, od, kV, doc, pm, an, cdv, ct, osl, rfl, lk, hcd⟩ := F1.ex
      exact .of_eq rfl
    · exact ok_law T (FM w mg h KX G) F1) (fun _ _ a ns hl _ hS => ⟨a, ns, rfl, hS, hl, fun _ => rfl⟩) fun _ _ _ _ _ z => z
end
end LW
open PySem PySem.W PyProof.Rows
set_option maxRecDepth 100000 in
set_option maxHeartbeats 0 in
theorem PySem.Challenge.cw_viewwood_k03_what_is_a_reckoning_holds : PySem.Challenge.rw_viewwood_k03_what_is_a_reckoning.Holds := by
  w_on; o_law; k_head; (case hw => w_witness2)
  k_fill
  refine LW.walk (l := PySem.Challenge.rw_viewwood_k03_what_is_a_reckoning) rfl rfl (fun w h Y => PySem.W.kIn_of Y) rfl ?F ?FM
  case F =>
    intro w mg h KX G
    refine' LW.all_env KX G ?a0 ?l0 ?c0 ?k0 ?a1 ?l1 ?c1 ?k1 ?a2 ?l2 ?c2 ?k2 ?a3 ?l3 ?c3 ?k3 ?a4 ?l4 ?c4 ?k4 ?a5 ?l5 ?c5 ?k5 ?a6 ?l6 ?c6 ?k6 ?a7 ?l7 ?c7 ?k7 ?a8 ?l8 ?c8 ?k8 ?a9 ?l9 ?c9 ?k9 ?a10 ?l10 ?c10 ?k10 ?a11 ?l11 ?c11 ?k11 ?a12 ?l12 ?c12 ?k12 ?a13 ?l13 ?c13 ?k13 ?a14 ?l14 ?c14 ?k14 ?a15 ?l15 ?c15 ?k15 ?a16 ?l16 ?c16 ?k16 ?a17 ?l17 ?c17 ?k17 ?a18 ?l18 ?c18 ?k18 ?a19 ?l19 ?c19 ?k19 ?z_abs ?z_all ?z_bool ?z_int ?z_isinstance ?z_len ?z_list ?z_max ?z_range ?z_str ?z_sum ?z_tuple ?g_GREATEST ?g_LETTERS ?g_ASKS ?h_ASKS ?g_MOST
    (case a0 => k_is)
    (case l0 => k_is)
    (case c0 => k_is)
    (case k0 => k_is)
    (case a1 => k_is)
    (case l1 => k_is)
    (case c1 => k_is)
    (case k1 => k_is)
    (case a2 => k_is)
    (case l2 => k_is)
    (case c2 => k_is)
    (case k2 => k_is)
    (case a3 => k_is)
    (case l3 => k_is)
    (case c3 => k_is)
    (case k3 => k_is)
    (case a4 => k_is)
    (case l4 => k_is)
    (case c4 => k_is)
    (case k4 => k_is)
    (case a5 => k_is)
    (case l5 => k_is)
    (case c5 => k_is)
    (case k5 => k_is)
    (case a6 => k_is)
    (case l6 => k_is)
    (case c6 => k_is)
    (case k6 => k_is)
    (case a7 => k_is)
    (case l7 => k_is)
    (case c7 => k_is)
    (case k7 => k_is)
    (case a8 => k_is)
    (case l8 => k_is)
    (case c8 => k_is)
    (case k8 => k_is)
    (case a9 => k_is)
    (case l9 => k_is)
    (case c9 => k_is)
    (case k9 => k_is)
    (case a10 => k_is)
    (case l10 => k_is)
    (case c10 => k_is)
    (case k10 => k_is)
    (case a11 => k_is)
    (case l11 => k_is)
    (case c11 => k_is)
    (case k11 => k_is)
    (case a12 => k_is)
    (case l12 => k_is)
    (case c12 => k_is)
    (case k12 => k_is)
    (case a13 => k_is)
    (case l13 => k_is)
    (case c13 => k_is)
    (case k13 => k_is)
    (case a14 => k_is)
    (case l14 => k_is)
    (case c14 => k_is)
    (case k14 => k_is)
    (case a15 => k_is)
    (case l15 => k_is)
    (case c15 => k_is)
    (case k15 => k_is)
    (case a16 => k_is)
    (case l16 => k_is)
    (case c16 => k_is)
    (case k16 => k_is)
    (case a17 => k_is)
    (case l17 => k_is)
    (case c17 => k_is)
    (case k17 => k_is)
    (case a18 => k_is)
    (case l18 => k_is)
    (case c18 => k_is)
    (case k18 => k_is)
    (case a19 => k_is)
    (case l19 => k_is)
    (case c19 => k_is)
    (case k19 => k_is)
    (case z_abs => k_is)
    (case z_all => k_is)
    (case z_bool => k_is)
    (case z_int => k_is)
    (case z_isinstance => k_is)
    (case z_len => k_is)
    (case z_list => k_is)
    (case z_max => k_is)
    (case z_range => k_is)
    (case z_str => k_is)
    (case z_sum => k_is)
    (case z_tuple => k_is)
    (case g_GREATEST => k_is)
    (case g_LETTERS => k_is)
    (case g_ASKS => k_is)
    (case h_ASKS => k_is)
    (case g_MOST => k_is)
  case FM =>
    intro w mg h KX G
    refine' LW.all_tabs KX G ?g_MANY ?h_MANY ?d_MANY
    (case g_MANY => k_is)
    (case h_MANY => k_is)
    (case d_MANY => exact ⟨rfl, rfl, rfl, rfl, rfl⟩)

