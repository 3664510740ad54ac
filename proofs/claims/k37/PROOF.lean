import PyProof.Rows.All
import Wide.All
import OpenK.AllK
import Wide.FinOn
import HandS.ForMost
import HandS.Wide
import HandS.IsInst
import HandS.TupAny
import HandS.Codes
import HandS.Deep
import HandS.Rev
import HandS.TupLe
import PyProof.NeKinds
import PyProof.FactsAll.dict_1
import PyProof.FactsAll.dict_2
import HandS.More
import HandS.Walk
import HandS.RevRange
import HandS.Conv
import HandS.DictTup
import HandS.ReCall
import HandS.Iter
import KE.KDictKeyed
import KE.KDictLaw
import KE.KDictWalk
import PyProof.DictRoadsH
import PyProof.Rows.RegStrCode
import KE.SortData
import KE.KDictSum
import KE.KDictCopyH
import KE.KDictPairs
import HandS.HeadHook3
import HandS.ForExc
import HandS.ExcInit
import HandS.ExcField
import HandS.ExcIs
import KE.KExcIs
import HandS.RevTup
import PyProof.ListNew
import HandS.Strs
import HandS.Text
import PyProof.Rows.SetFrom
import HandS.TupSets
import PySem.Challenge.RW_viewwood_k37_trees_by_kind
set_option Elab.async false
set_option linter.all false
set_option maxRecDepth 100000
/-! a dict against a text: == is false, != true -/
namespace U
open PySem PySem.SeqAt
open PySem.AutoSeq1 (wpAny_loadPart')
open PySem.MeetsSeq PySem.MeetsSeq2 PySem.MeetsSeq3
theorem dict_ne_declines_str (l : Addr) (o : Obj) (b : Str) (u : Tok) (hc : o.cls = .type "dict") (es : Array DictEntry) (ep : Nat) (hd : o.data = .dict es ep) :
    Meets (Builtin.«dict.__ne__» ⟨[.ref l, .str b u], []⟩) (fun _ R s => s.heap.get? l = some o ∧ R (.ok (.ret .notImplemented)) s) :=
  .of_wp fun prog w A R s h => by
    obtain ⟨hp, g, d, tk, os⟩ := s; obtain ⟨hl, h⟩ := h; have f1 := F.sub_str_dict
    obtain ⟨cls, dd, data, sl⟩ := o
    simp only at hc hd
    subst hc hd
    wp_walk using wpAny_loadPart' hl, wpAny_load hl
    exact ⟨_, rfl, h⟩
theorem str_ne_declines_dict (b : Str) (u : Tok) (l : Addr) (o : Obj) (hc : o.cls = .type "dict") (es : Array DictEntry) (ep : Nat) (hd : o.data = .dict es ep) :
    Meets (Builtin.«str.__ne__» ⟨[.str b u, .ref l], []⟩) (fun _ R s => s.heap.get? l = some o ∧ R (.ok (.ret .notImplemented)) s) :=
  .of_wp fun prog w A R s h => by
    obtain ⟨hp, g, d, tk, os⟩ := s; obtain ⟨hl, h⟩ := h
    obtain ⟨cls, dd, data, sl⟩ := o
    simp only at hc hd
    subst hc hd
    wp_walk using wpAny_loadPart' hl, wpAny_load hl
    exact ⟨_, rfl, h⟩
section
variable {A : Around} {s : Shared}
theorem rcNe_dict_str {l : Addr} {o : Obj} {es : Array DictEntry} {ep : Nat} (b : Str) (u : Tok) (ho : s.heap.get? l = some o) (hc : o.cls = .type "dict") (hd : o.data = .dict es ep) (hu : A.units < cLine) : RcNeAt A s (.ref l) (.str b u) true := fun prog w E Q h =>
  rc_ne_decline_or (k := false) ⟨_, ho, hc⟩ (typeIs_str s b u) (by decide) F.sub_str_dict F.slot_dict_ne F.slot_str_ne_refl
    (fun _ hq => call_meets F.slot_dict_ne ⟨_, ho, hc⟩ F.entry_dict_ne (F.args_dict_ne_2 _ _) (dict_ne_declines_str l o b u hc es ep hd) ⟨ho, hq⟩)
    (fun _ hq => call_meets F.slot_str_ne_refl (typeIs_str s b u) F.entry_str_ne (F.args_str_ne_2 _ _) (str_ne_declines_dict b u l o hc es ep hd) ⟨ho, hq⟩)
    (fun _ hq => wpAny_of_eq (rfl : isSame (.ref l) (.str b u) = pure false) hq) (.inr hu) h
end
theorem dict_eq_declines_str (l : Addr) (o : Obj) (b : Str) (u : Tok) (hc : o.cls = .type "dict") (es : Array DictEntry) (ep : Nat) (hd : o.data = .dict es ep) :
    Meets (Builtin.«dict.__eq__» ⟨[.ref l, .str b u], []⟩) (fun _ R s => s.heap.get? l = some o ∧ R (.ok (.ret .notImplemented)) s) :=
  .of_wp fun prog w A R s h => by
    obtain ⟨hp, g, d, tk, os⟩ := s; obtain ⟨hl, h⟩ := h; have f1 := F.sub_str_dict
    obtain ⟨cls, dd, data, sl⟩ := o
    simp only at hc hd
    subst hc hd
    wp_walk using wpAny_loadPart' hl, wpAny_load hl
    exact ⟨_, rfl, h⟩
theorem str_eq_declines_dict (b : Str) (u : Tok) (l : Addr) (o : Obj) (hc : o.cls = .type "dict") (es : Array DictEntry) (ep : Nat) (hd : o.data = .dict es ep) :
    Meets (Builtin.«str.__eq__» ⟨[.str b u, .ref l], []⟩) (fun _ R s => s.heap.get? l = some o ∧ R (.ok (.ret .notImplemented)) s) :=
  .of_wp fun prog w A R s h => by
    obtain ⟨hp, g, d, tk, os⟩ := s; obtain ⟨hl, h⟩ := h
    obtain ⟨cls, dd, data, sl⟩ := o
    simp only at hc hd
    subst hc hd
    wp_walk using wpAny_loadPart' hl, wpAny_load hl
    exact ⟨_, rfl, h⟩
section
variable {A : Around} {s : Shared}
theorem rcEq_dict_str {l : Addr} {o : Obj} {es : Array DictEntry} {ep : Nat} (b : Str) (u : Tok) (ho : s.heap.get? l = some o) (hc : o.cls = .type "dict") (hd : o.data = .dict es ep) (hu : A.units < cLine) : RcAt A s (.ref l) (.str b u) false := fun prog w E Q h =>
  rc_eq_decline_or (k := false) ⟨_, ho, hc⟩ (typeIs_str s b u) (by decide) F.sub_str_dict F.slot_dict_eq F.slot_str_eq_refl
    (fun _ hq => call_meets F.slot_dict_eq ⟨_, ho, hc⟩ F.entry_dict_eq (F.args_dict_eq_2 _ _) (dict_eq_declines_str l o b u hc es ep hd) ⟨ho, hq⟩)
    (fun _ hq => call_meets F.slot_str_eq_refl (typeIs_str s b u) F.entry_str_eq (F.args_str_eq_2 _ _) (str_eq_declines_dict b u l o hc es ep hd) ⟨ho, hq⟩)
    (fun _ hq => wpAny_of_eq (rfl : isSame (.ref l) (.str b u) = pure false) hq) (.inr hu) h
end
end U
namespace U
open PySem PySem.Spec PyProof.Rows L2
def rNeDS : R2 := fun x y H Q => ∃ p kvs z, x = .ref p ∧ H p = some (.dK kvs) ∧ y = .str z ∧ Q (.bl true) H
theorem op_neDS {X : Cx} (hu : X.A.units + 64 < cLine) : OpR X (compareOp .NotEq) rNeDS := by
  intro pins s σ H x y v u Q I rx ry h
  obtain ⟨p, kvs, z, rfl, hp, rfl, q⟩ := h
  obtain ⟨t, rfl⟩ := ry
  cases rx
  obtain ⟨_, _, _, _, o, es, ep, ho, hex, hd, _⟩ := I.hok p _ hp
  exact rcNe_dict_str z t ho hex.1 hd (by omega) _ _ _ _ ⟨.bl true, H, I, rfl, q⟩
def rEqDS : R2 := fun x y H Q => ∃ p kvs z, x = .ref p ∧ H p = some (.dK kvs) ∧ y = .str z ∧ Q (.bl false) H
theorem op_eqDS {X : Cx} (hu : X.A.units + 64 < cLine) : OpR X (compareOp .Eq) rEqDS := by
  intro pins s σ H x y v u Q I rx ry h
  obtain ⟨p, kvs, z, rfl, hp, rfl, q⟩ := h
  obtain ⟨t, rfl⟩ := ry
  cases rx
  obtain ⟨_, _, _, _, o, es, ep, ho, hex, hd, _⟩ := I.hok p _ hp
  exact rcEq_dict_str z t ho hex.1 hd (by omega) _ _ _ _ ⟨.bl false, H, I, rfl, q⟩
end U

/-! Uni: one rule for each construct whatever its values are, and short steps of readings. -/
namespace U
open PySem PySem.Spec PyProof.Rows L2
/-! ### a def that stands in the text, with its promise -/
structure Loc (K : PySem.W.Frag) (mg : Str → Option Value) (x : Str) (ps : List Str) (st : Stmt) : Prop where
  ex : ∃ f fd, Fun K x x st f fd ∧ mg x = some (.ref f) ∧ Binds K fd ps []
structure Fx (P : Program) (w : World) (K : PySem.W.Frag) (mg : Str → Option Value) (base : Heap) (k : Nat) (x : Str) (ps : List Str) (sp : Sp) : Prop where
  ex : ∃ f fd, FnOk P w K mg base CX0 k f fd ps sp ∧ mg x = some (.ref f) ∧ PySem.W.keepIn K (.ref f) = true ∧ Binds K fd ps []
theorem Fx.mono {P : Program} {w : World} {K : PySem.W.Frag} {mg : Str → Option Value} {base : Heap} {j k : Nat} {x : Str} {ps : List Str} {sp : Sp} (F : Fx P w K mg base j x ps sp) (h : j ≤ k) : Fx P w K mg base k x ps sp := by
  obtain ⟨f, fd, a, b, c, d⟩ := F.ex
  exact ⟨f, fd, a.mono h, b, c, d⟩
theorem Loc.ok {P : Program} {w : World} {K : PySem.W.Frag} {mg : Str → Option Value} {base : Heap} {x : Str} {st : Stmt} {N ps : List Str} {k : Nat} {sp : Sp} (L : Loc K mg x ps st) (S : FnScope N ps (defScope st)) (len : ∀ vs H Q E, sp vs H Q E → vs.length = ps.length)
    (hbody : ∀ (f : Addr) (cdv : Value) (A : Around) (outer : List Env) (s : Shared) (H : Hp) (vs : List V) (Q : VK) (E : XK), Room k (A.deeper (envOfC x (defScope st) s.heap.objs.size f cdv)) → sp vs H Q E →
      ∃ t, PSs (cxOf CX0 P w K mg base N x (defScope st) f cdv A outer s H E).nox (defBody st) t ∧ t ⟨fun _ H' => Q .non H', Q, fun _ _ => False, fun _ _ => False⟩ (start N vs) H) : Fx P w K mg base (k + 1) x ps sp := by
  obtain ⟨f, fd, F, m, b⟩ := L.ex
  exact ⟨f, fd, F.ok S len fun cdv A outer s H vs Q E hr h => hbody f cdv A outer s H vs Q E hr h, m, F.kp, b⟩
theorem pe_fx {X : Cx} {k j : Nat} {x : Str} {ps : List Str} {sp : Sp} {e : Expr} {es : List Expr} {t : TA} {p pos : Pos} (G : Fx X.prog X.w X.K X.mg X.base k x ps sp) (hr : Room j X.A) (hkj : k ≤ j) (ha : PA X (e :: es) t) (hg : Gl X x := by rfl)
    (hdb : (x == ("__debug__" : Str)) = false := by decide +kernel)
    (he : starEach (e :: es) X.env = (false, eval e X.env) :: starEach es X.env := by rfl) (hpl : (backTo pos (starEach es X.env)).any (·.1) = false := by rfl) : PE X (.Call (.Name x p) (e :: es) [] pos) (tCall sp [] E0 t) := by
  obtain ⟨f, fd, a, b, c, d⟩ := G.ex
  exact pe_call a (hr.mono hkj) hg b c d .nil pass0 ha (hdb := hdb) (he := he) (hpl := hpl)

/-! ### a constant tuple of the top -/
def KTup (K : PySem.W.Frag) (a : Addr) (xs : List V) : Prop := ∀ H, SqT K H a xs
def tKT (K : PySem.W.Frag) (xs : List V) : TE := fun _ H Q => ∀ a, KTup K a xs → Q (.ref a) H
theorem pe_ktup {X : Cx} {e : Expr} {a : Addr} {xs : List V} (h : PE X e (tC (.ref a))) (k : KTup X.K a xs) : PE X e (tKT X.K xs) := ⟨fun pins s σ H Q I q => h.run pins s σ H Q I (q a k)⟩
theorem ktup_of {K : PySem.W.Frag} {a : Addr} {xs : List V} {od : Option Addr} {its : Array Value} {n : Nat} {sl : Array (Option Value)} (h : K.lookup a = some ⟨.type "tuple", od, .seq its n, sl⟩) (v : Vals xs its.toList) (z : its.size ≤ 1000 := by exact Nat.le_of_ble_eq_true rfl) : KTup K a xs := fun _ =>
  .inr ⟨_, its, n, h, rfl, rfl, Nat.le_trans z (by decide), v⟩
theorem vs_nil : Vals [] [] := .nil
theorem vs_str {x : Str} {t : Tok} {xs : List V} {us : List Value} (h : Vals xs us) : Vals (.str x :: xs) (.str x t :: us) := .cons ⟨t, rfl⟩ h
theorem vs_int {x : Int} {t : Tok} {xs : List V} {us : List Value} (h : Vals xs us) : Vals (.int x :: xs) (.int x t :: us) := .cons ⟨t, rfl⟩ h
/-! ### one rule a construct -/
section
variable {X : Cx}
abbrev r2or (r r' : R2) : R2 := fun x y H Q => r x y H Q ∨ r' x y H Q
def rStrCat : R2 := fun x y H Q => ∃ i j, x = .str i ∧ y = .str j ∧ i.length + j.length ≤ sizeLine ∧ Q (.str (i ++ j)) H
def rAddU (K : PySem.W.Frag) : R2 := r2or (r2or (rI0 fun i j => .int (i + j)) rStrCat) (r2or (rCatA K) rCat)
theorem op_addU {K} (hK : X.K = K) : OpR X (binaryOp .Add) (rAddU K) := by subst hK; exact (op_add.or op_add_str).or (op_catA.or op_cat)
def rMaxU : List V → Hp → VK → Prop := fun xs H Q => ∃ i j, xs = [.int i, .int j] ∧ Q (.int (if j > i then j else i)) H
def rMinU : List V → Hp → VK → Prop := fun xs H Q => ∃ i j, xs = [.int i, .int j] ∧ Q (.int (if j < i then j else i)) H
def rAbsU : List V → Hp → VK → Prop := fun xs H Q => ∃ i, xs = [.int i] ∧ Q (.int (if i < 0 then -i else i)) H
def rIntU : List V → Hp → VK → Prop := fun xs H Q => (∃ i, xs = [.int i] ∧ Q (.int i) H) ∨ ∃ k, xs = [.bl k] ∧ Q (.int (if k then 1 else 0)) H
theorem call_maxU (hc : X.calm = true) : CallR X (.builtin "max") rMaxU := call_max2 hc
theorem call_minU (hc : X.calm = true) : CallR X (.builtin "min") rMinU := call_min2 hc
theorem call_absU : CallR X (.builtin "abs") rAbsU := call_abs
theorem call_intU : CallR X (.type "int") rIntU := call_int1
def rLenU (K : PySem.W.Frag) : List V → Hp → VK → Prop := fun xs H Q => (∃ p ys, xs = [.ref p] ∧ (SqL K H p ys ∨ SqT K H p ys) ∧ Q (.int ys.length) H) ∨ (∃ z, xs = [.str z] ∧ z.length ≤ sizeLine ∧ Q (.int z.length) H)
theorem call_lenU {K} (hK : X.K = K) : CallR X (.builtin "len") (rLenU K) := by subst hK; exact call_len_seq.or call_len_str
theorem call_isiU {K} (hK : X.K = K) : CallR X (.builtin "isinstance") (rIsi K) := by subst hK; exact call_isi
theorem ix_U {K} (hK : X.K = K) : IxR X (rIx K) := by subst hK; exact ix_seq
theorem call_allU {K} (hK : X.K = K) (hc : X.calm = true) : CallR X (.builtin "all") (rAll K) := by subst hK; exact cr_all hc
theorem call_anyU {K} (hK : X.K = K) (hc : X.calm = true) : CallR X (.builtin "any") (rAny K) := by subst hK; exact cr_any hc
theorem call_sumU {K} (hK : X.K = K) (hc : X.calm = true) : CallR X (.builtin "sum") (rSum K) := by subst hK; exact cr_sum hc
def rListU (K : PySem.W.Frag) : List V → Hp → VK → Prop := fun xs H Q => ∃ p ys, xs = [.ref p] ∧ (SqL K H p ys ∨ SqT K H p ys) ∧ ∀ l, H l = none → Q (.ref l) (upd H l (.lst ys))
theorem call_listU {K} (hK : X.K = K) : CallR X (.type "list") (rListU K) := by subst hK; exact call_list_of
def rTupleU (K : PySem.W.Frag) : List V → Hp → VK → Prop := fun xs H Q => ∃ p ys, xs = [.ref p] ∧ ((SqL K H p ys ∧ ∀ l, H l = none → Q (.ref l) (upd H l (.tup ys))) ∨ (SqT K H p ys ∧ Q (.ref p) H))
theorem call_tupleU {K} (hK : X.K = K) : CallR X (.type "tuple") (rTupleU K) := by subst hK; exact call_tuple_of
theorem pg_tupU {K} {es : List Expr} {k : Nat} {t : TGs} {n : Nat} {pos : Pos} (hK : X.K = K) (hc : X.calm = true) (h : PGs X es t)
    (hn : (assignEach es X.env).length = n := by rfl) (hst : (assignEach es X.env).findIdx? (·.1) = none := by rfl) : PG X (.Tuple es k pos) (gTup K n t) := by subst hK; exact pg_tup hc h hn hst
theorem pi_listU {K} {tg l : Expr} {tl : TE} (hK : X.K = K) (hl : PE X l tl) : PI X tg l (iList K tl) := by subst hK; exact pi_list hl
theorem pi_tupU {K} {tg l : Expr} {tl : TE} (hK : X.K = K) (hl : PE X l tl) : PI X tg l (iTup K tl) := by subst hK; exact pi_tup hl
def rMulU : R2 := r2or (r2or (rI CMul fun i j => .int (i * j)) (rI CMulW fun i j => .int (i * j))) rRep
theorem op_mulU : OpR X (binaryOp .Mult) rMulU := (op_mul.or op_mulW).or op_rep
def rSignIn : R2 := fun x y H Q => ∃ (c : Nat) (z : Str), x = .str ⟨#[c]⟩ ∧ y = .str z ∧ Q (.bl (decide (c ∈ z.cps.toList))) H
def rSignNin : R2 := fun x y H Q => ∃ (c : Nat) (z : Str), x = .str ⟨#[c]⟩ ∧ y = .str z ∧ Q (.bl (!decide (c ∈ z.cps.toList))) H
def rInU (K : PySem.W.Frag) : R2 := r2or (r2or (rIn K false) (rInD K)) rSignIn
def rNinU (K : PySem.W.Frag) : R2 := r2or (r2or (rIn K true) (rNotInD K)) rSignNin
theorem op_inU {K} (hK : X.K = K) (hu : X.A.units + 65 < cLine) : OpR X (compareOp .In) (rInU K) := by subst hK; exact (op_in_seq.or (op_inD hu)).or op_in_sign
theorem op_ninU {K} (hK : X.K = K) (hu : X.A.units + 65 < cLine) : OpR X (compareOp .NotIn) (rNinU K) := by subst hK; exact (op_notIn_seq.or (op_notInD hu)).or op_notIn_sign
def rMaxL (K : PySem.W.Frag) : List V → Hp → VK → Prop := rMax K
theorem call_maxL {K} (hK : X.K = K) (hc : X.calm = true) : CallR X (.builtin "max") (rMaxL K) := by subst hK; exact cr_max hc
def rMinL (K : PySem.W.Frag) : List V → Hp → VK → Prop := rMin K
theorem call_minL {K} (hK : X.K = K) (hc : X.calm = true) : CallR X (.builtin "min") (rMinL K) := by subst hK; exact cr_min hc
def rIsB : R2 := fun x y H Q => ∃ a b, x = .bl a ∧ y = .bl b ∧ Q (.bl (decide (a = b))) H
def rNisB : R2 := fun x y H Q => ∃ a b, x = .bl a ∧ y = .bl b ∧ Q (.bl (!decide (a = b))) H
theorem op_isB : OpR X (compareOp .Is) rIsB := op_is_bl
theorem op_nisB : OpR X (compareOp .IsNot) rNisB := op_isnot_bl
def iRevU (K : PySem.W.Frag) (te : TE) : TI := RT.iRevA K te
theorem pi_revU {K} {tg e : Expr} {te : TE} {p pos : Pos} (hK : X.K = K) (hg : Gl X "reversed") (hm : X.mg "reversed" = none) (he : PE X e te) (hs : starEach [e] X.env = (false, eval e X.env) :: starEach [] X.env := by rfl) : PI X tg (.Call (.Name "reversed" p) [e] [] pos) (iRevU K te) := by
  subst hK; exact RT.pi_revA hg hm he hs
def iEnumU (K : PySem.W.Frag) (ta : TA) : TI := iEnum K ta
theorem pi_enumU {K} {e : Expr} {ta : TA} {p pos tpos : Pos} {elts : List Expr} {kk : Nat} (hK : X.K = K) (hg : Gl X "enumerate") (hm : X.mg "enumerate" = none) (ha : PA X [e] ta) (hs : starEach [e] X.env = [(false, eval e X.env)] := by rfl) :
    PI X (.Tuple elts kk tpos) (.Call (.Name "enumerate" p) [e] [] pos) (iEnumU K ta) := by subst hK; exact pi_enum hg hm ha hs
/-- a slice -/
def rSlU (K : PySem.W.Frag) : V → Option Int → Option Int → Hp → VK → Prop := fun x lo hi H Q => (rSlL K x lo hi H Q ∨ rSlA K x lo hi H Q) ∨ rSlS x lo hi H Q
theorem sl_U {K} (hK : X.K = K) : SlR X (rSlU K) := by subst hK; exact (sl_list.or sl_tupA).or sl_str
def rEqU (K : PySem.W.Frag) : R2 := r2or (r2or rEq (rEqD K)) rEqDS
theorem op_eqU {K} (hK : X.K = K) (hu : X.A.units + 64 < cLine) : OpR X (compareOp .Eq) (rEqU K) := by subst hK; exact (op_eq.or (op_eqD hu)).or (op_eqDS hu)
def rNeU (K : PySem.W.Frag) : R2 := r2or (r2or rNe (rNeD K)) rNeDS
theorem op_neU {K} (hK : X.K = K) (hu : X.A.units + 64 < cLine) : OpR X (compareOp .NotEq) (rNeU K) := by subst hK; exact (op_ne.or (op_neD hu)).or (op_neDS hu)
end
theorem u65 {A : Around} {k : Nat} (hr : Room k A) : A.units + 65 < cLine := by have := hr.un; omega
theorem u64 {A : Around} {k : Nat} (hr : Room k A) : A.units + 64 < cLine := hr.units
section
variable {K : PySem.W.Frag} {H : Hp} {Q : VK} {i j : Int}
theorem w_addI (q : Q (.int (i + j)) H) : rAddU K (.int i) (.int j) H Q := .inl (.inl ⟨i, j, rfl, rfl, q⟩)
theorem w_addS {a b : Str} (h : a.length + b.length ≤ sizeLine) (q : Q (.str (a ++ b)) H) : rAddU K (.str a) (.str b) H Q := .inl (.inr ⟨a, b, rfl, rfl, h, q⟩)
theorem w_addL {l b : Addr} {xs zs : List V} (h1 : H l = some (.lst xs)) (h2 : H b = some (.lst zs)) (hl : xs.length + zs.length ≤ 1000000) (q : ∀ p, H p = none → Q (.ref p) (upd H p (.lst (xs ++ zs)))) : rAddU K (.ref l) (.ref b) H Q := .inr (.inr ⟨l, b, xs, zs, rfl, rfl, h1, h2, Nat.le_trans hl (by decide), q⟩)
theorem w_sub (q : Q (.int (i - j)) H) : rI0 (fun i j => .int (i - j)) (.int i) (.int j) H Q := ⟨i, j, rfl, rfl, q⟩
theorem w_rI0 {g : Int → Int → V} (q : Q (g i j) H) : rI0 g (.int i) (.int j) H Q := ⟨i, j, rfl, rfl, q⟩
theorem w_rI {C : Int → Int → Prop} {g : Int → Int → V} (c : C i j) (q : Q (g i j) H) : rI C g (.int i) (.int j) H Q := ⟨i, j, rfl, rfl, c, q⟩
theorem w_mulI (c : (-(2 ^ 64) < i ∧ i < 2 ^ 64) ∨ (-(2 ^ 64) < j ∧ j < 2 ^ 64)) (q : Q (.int (i * j)) H) : rMulU (.int i) (.int j) H Q := .inl (.inl ⟨i, j, rfl, rfl, c, q⟩)
theorem w_max (q : Q (.int (if j > i then j else i)) H) : rMaxU [.int i, .int j] H Q := ⟨i, j, rfl, q⟩
theorem w_min (q : Q (.int (if j < i then j else i)) H) : rMinU [.int i, .int j] H Q := ⟨i, j, rfl, q⟩
theorem w_abs (q : Q (.int (if i < 0 then -i else i)) H) : rAbsU [.int i] H Q := ⟨i, rfl, q⟩
theorem w_intI (q : Q (.int i) H) : rIntU [.int i] H Q := .inl ⟨i, rfl, q⟩
theorem w_intB {k : Bool} (q : Q (.int (if k then 1 else 0)) H) : rIntU [.bl k] H Q := .inr ⟨k, rfl, q⟩
theorem w_pow9 (q : Q (.int 1000000000) H) : rI CPow (fun i j => .int (i ^ j.toNat)) (.int 10) (.int 9) H Q := ⟨10, 9, rfl, rfl, ⟨by decide, by decide, by decide⟩, q⟩
theorem w_pow18 (q : Q (.int 1000000000000000000) H) : rI CPow (fun i j => .int (i ^ j.toNat)) (.int 10) (.int 18) H Q := ⟨10, 18, rfl, rfl, ⟨by decide, by decide, by decide⟩, q⟩
theorem w_pow6 (q : Q (.int 1000000) H) : rI CPow (fun i j => .int (i ^ j.toNat)) (.int 10) (.int 6) H Q := ⟨10, 6, rfl, rfl, ⟨by decide, by decide, by decide⟩, q⟩
theorem w_pow59 (q : Q (.int 100000000000000000000000000000000000000000000000000000000000) H) : rI CPow (fun i j => .int (i ^ j.toNat)) (.int 10) (.int 59) H Q := ⟨10, 59, rfl, rfl, ⟨by decide, by decide, by decide⟩, q⟩
theorem w_slL {p : Addr} {xs : List V} {lo hi : Option Int} (h : SqL K H p xs) (q : ∀ l, H l = none → Q (.ref l) (upd H l (.lst (cutV xs lo hi)))) : rSlU K (.ref p) lo hi H Q := .inl (.inl ⟨p, xs, rfl, h, q⟩)
theorem w_part {σ : L2.St} {te : TE} {Q : Option Int → Hp → Prop} (q : te σ H fun x H1 => ∃ i, x = .int i ∧ Q (some i) H1) : tPart te σ H Q := q
theorem w_partI {P : Int → Prop} (q : P i) : ∃ k, V.int i = .int k ∧ P k := ⟨i, rfl, q⟩
theorem w_nopart {σ : L2.St} {Q : Option Int → Hp → Prop} (q : Q none H) : tNoPart σ H Q := q
theorem w_sl {σ : L2.St} {r : V → Option Int → Option Int → Hp → VK → Prop} {te : TE} {tl th : TO} (q : te σ H fun x H1 => tl σ H1 fun l H2 => th σ H2 fun u H3 => r x l u H3 Q) : tSl r te tl th σ H Q := q
theorem w_listL {p : Addr} {ys : List V} (h : SqL K H p ys) (q : ∀ l, H l = none → Q (.ref l) (upd H l (.lst ys))) : rListU K [.ref p] H Q := ⟨p, ys, rfl, .inl h, q⟩
theorem w_listT {p : Addr} {ys : List V} (h : SqT K H p ys) (q : ∀ l, H l = none → Q (.ref l) (upd H l (.lst ys))) : rListU K [.ref p] H Q := ⟨p, ys, rfl, .inr h, q⟩
theorem w_tupleL {p : Addr} {ys : List V} (h : SqL K H p ys) (q : ∀ l, H l = none → Q (.ref l) (upd H l (.tup ys))) : rTupleU K [.ref p] H Q := ⟨p, ys, rfl, .inl ⟨h, q⟩⟩
theorem w_isB {a b : Bool} (q : Q (.bl (decide (a = b))) H) : rIsB (.bl a) (.bl b) H Q := ⟨a, b, rfl, rfl, q⟩
theorem w_nisB {a b : Bool} (q : Q (.bl (!decide (a = b))) H) : rNisB (.bl a) (.bl b) H Q := ⟨a, b, rfl, rfl, q⟩
theorem w_inT {x : V} {p : Addr} {xs : List V} (h : SqT K H p xs) (hx : flatV x = true) (ha : xs.all flatV = true) (q : Q (.bl (inV x xs)) H) : rInU K x (.ref p) H Q := .inl (.inl ⟨p, xs, rfl, .inr h, hx, ha, q⟩)
theorem w_inL {x : V} {p : Addr} {xs : List V} (h : SqL K H p xs) (hx : flatV x = true) (ha : xs.all flatV = true) (q : Q (.bl (inV x xs)) H) : rInU K x (.ref p) H Q := .inl (.inl ⟨p, xs, rfl, .inl h, hx, ha, q⟩)
theorem w_ninT {x : V} {p : Addr} {xs : List V} (h : SqT K H p xs) (hx : flatV x = true) (ha : xs.all flatV = true) (q : Q (.bl (!inV x xs)) H) : rNinU K x (.ref p) H Q := .inl (.inl ⟨p, xs, rfl, .inr h, hx, ha, q⟩)
theorem w_ninL {x : V} {p : Addr} {xs : List V} (h : SqL K H p xs) (hx : flatV x = true) (ha : xs.all flatV = true) (q : Q (.bl (!inV x xs)) H) : rNinU K x (.ref p) H Q := .inl (.inl ⟨p, xs, rfl, .inl h, hx, ha, q⟩)
theorem w_lenL {p : Addr} {ys : List V} (h : SqL K H p ys) (q : Q (.int ys.length) H) : rLenU K [.ref p] H Q := .inl ⟨p, ys, rfl, .inl h, q⟩
theorem w_lenT {p : Addr} {ys : List V} (h : SqT K H p ys) (q : Q (.int ys.length) H) : rLenU K [.ref p] H Q := .inl ⟨p, ys, rfl, .inr h, q⟩
theorem w_lenS {z : Str} (h : z.length ≤ sizeLine) (q : Q (.int z.length) H) : rLenU K [.str z] H Q := .inr ⟨z, rfl, h, q⟩
theorem w_ixL {p : Addr} {xs : List V} {v : V} (h : SqL K H p xs) (e : atI xs i = some v) (q : Q v H) : rIx K (.ref p) (.int i) H Q := .inl ⟨p, xs, i, v, rfl, rfl, h, e, q⟩
theorem w_ixT {p : Addr} {xs : List V} {v : V} (h : SqT K H p xs) (e : atI xs i = some v) (q : Q v H) : rIx K (.ref p) (.int i) H Q := .inr (.inl ⟨p, xs, i, v, rfl, rfl, h, e, q⟩)
theorem w_setL {p : Addr} {xs : List V} {v : V} {j : Nat} {Q : Hp → Prop} (h : H p = some (.lst xs)) (e : ixN xs.length i = some j) (q : Q (upd H p (.lst (xs.set j v)))) : rSetL (.ref p) (.int i) v H Q := ⟨p, xs, i, j, rfl, rfl, h, e, q⟩
theorem w_isi {x : V} {n : String} {t : Value} {b : Bool} (ty : TyX K H x t) (e : PySem.W.kitOne K t (.type n) = some b) (q : Q (.bl b) H) : rIsi K [x, .ty n] H Q := ⟨x, .ty n, t, .type n, b, rfl, .ty n, ty, e, q⟩
/-! isinstance of plain values -/
theorem ty_T {a : Addr} {xs : List V} (h : SqT K H a xs) : TyX K H (.ref a) (.type "tuple") := by
  rcases h with (h | ⟨o, h⟩) | ⟨o, its, n, h, hc, _⟩
  · exact .base (.tup h)
  · exact .fTuple h
  · exact .kTuple h hc
theorem ty_L {a : Addr} {xs : List V} (h : SqL K H a xs) : TyX K H (.ref a) (.type "list") := by
  rcases h with (h | ⟨o, h⟩) | ⟨o, its, n, h, hc, _⟩
  · exact .base (.lst h)
  · exact .base (.frz h)
  · exact .kList h hc
theorem isD_int {a : Addr} {kvs : List (Key × V)} (h : H a = some (.dK kvs)) (q : Q (.bl false) H) : rIsi K [.ref a, .ty "int"] H Q := w_isi (.base (.dK h)) (kit_ty (by decide +kernel)) q
theorem isD_bool {a : Addr} {kvs : List (Key × V)} (h : H a = some (.dK kvs)) (q : Q (.bl false) H) : rIsi K [.ref a, .ty "bool"] H Q := w_isi (.base (.dK h)) (kit_ty (by decide +kernel)) q
theorem isD_str {a : Addr} {kvs : List (Key × V)} (h : H a = some (.dK kvs)) (q : Q (.bl false) H) : rIsi K [.ref a, .ty "str"] H Q := w_isi (.base (.dK h)) (kit_ty (by decide +kernel)) q
theorem isD_tuple {a : Addr} {kvs : List (Key × V)} (h : H a = some (.dK kvs)) (q : Q (.bl false) H) : rIsi K [.ref a, .ty "tuple"] H Q := w_isi (.base (.dK h)) (kit_ty (by decide +kernel)) q
theorem isD_list {a : Addr} {kvs : List (Key × V)} (h : H a = some (.dK kvs)) (q : Q (.bl false) H) : rIsi K [.ref a, .ty "list"] H Q := w_isi (.base (.dK h)) (kit_ty (by decide +kernel)) q
theorem isD_dict {a : Addr} {kvs : List (Key × V)} (h : H a = some (.dK kvs)) (q : Q (.bl true) H) : rIsi K [.ref a, .ty "dict"] H Q := w_isi (.base (.dK h)) (kit_ty (by decide +kernel)) q
theorem isT_int {a : Addr} {xs : List V} (h : SqT K H a xs) (q : Q (.bl false) H) : rIsi K [.ref a, .ty "int"] H Q := w_isi (ty_T h) (kit_ty (by decide +kernel)) q
theorem isT_bool {a : Addr} {xs : List V} (h : SqT K H a xs) (q : Q (.bl false) H) : rIsi K [.ref a, .ty "bool"] H Q := w_isi (ty_T h) (kit_ty (by decide +kernel)) q
theorem isT_str {a : Addr} {xs : List V} (h : SqT K H a xs) (q : Q (.bl false) H) : rIsi K [.ref a, .ty "str"] H Q := w_isi (ty_T h) (kit_ty (by decide +kernel)) q
theorem isT_tuple {a : Addr} {xs : List V} (h : SqT K H a xs) (q : Q (.bl true) H) : rIsi K [.ref a, .ty "tuple"] H Q := w_isi (ty_T h) (kit_ty (by decide +kernel)) q
theorem isT_list {a : Addr} {xs : List V} (h : SqT K H a xs) (q : Q (.bl false) H) : rIsi K [.ref a, .ty "list"] H Q := w_isi (ty_T h) (kit_ty (by decide +kernel)) q
theorem isT_dict {a : Addr} {xs : List V} (h : SqT K H a xs) (q : Q (.bl false) H) : rIsi K [.ref a, .ty "dict"] H Q := w_isi (ty_T h) (kit_ty (by decide +kernel)) q
theorem isL_int {a : Addr} {xs : List V} (h : SqL K H a xs) (q : Q (.bl false) H) : rIsi K [.ref a, .ty "int"] H Q := w_isi (ty_L h) (kit_ty (by decide +kernel)) q
theorem isL_bool {a : Addr} {xs : List V} (h : SqL K H a xs) (q : Q (.bl false) H) : rIsi K [.ref a, .ty "bool"] H Q := w_isi (ty_L h) (kit_ty (by decide +kernel)) q
theorem isL_str {a : Addr} {xs : List V} (h : SqL K H a xs) (q : Q (.bl false) H) : rIsi K [.ref a, .ty "str"] H Q := w_isi (ty_L h) (kit_ty (by decide +kernel)) q
theorem isL_tuple {a : Addr} {xs : List V} (h : SqL K H a xs) (q : Q (.bl false) H) : rIsi K [.ref a, .ty "tuple"] H Q := w_isi (ty_L h) (kit_ty (by decide +kernel)) q
theorem isL_list {a : Addr} {xs : List V} (h : SqL K H a xs) (q : Q (.bl true) H) : rIsi K [.ref a, .ty "list"] H Q := w_isi (ty_L h) (kit_ty (by decide +kernel)) q
theorem isL_dict {a : Addr} {xs : List V} (h : SqL K H a xs) (q : Q (.bl false) H) : rIsi K [.ref a, .ty "dict"] H Q := w_isi (ty_L h) (kit_ty (by decide +kernel)) q
theorem is_non_int (q : Q (.bl false) H) : rIsi K [.non, .ty "int"] H Q := w_isi (.base .non) (kit_ty (by decide +kernel)) q
theorem is_non_bool (q : Q (.bl false) H) : rIsi K [.non, .ty "bool"] H Q := w_isi (.base .non) (kit_ty (by decide +kernel)) q
theorem is_non_str (q : Q (.bl false) H) : rIsi K [.non, .ty "str"] H Q := w_isi (.base .non) (kit_ty (by decide +kernel)) q
theorem is_non_tuple (q : Q (.bl false) H) : rIsi K [.non, .ty "tuple"] H Q := w_isi (.base .non) (kit_ty (by decide +kernel)) q
theorem is_non_list (q : Q (.bl false) H) : rIsi K [.non, .ty "list"] H Q := w_isi (.base .non) (kit_ty (by decide +kernel)) q
theorem is_non_dict (q : Q (.bl false) H) : rIsi K [.non, .ty "dict"] H Q := w_isi (.base .non) (kit_ty (by decide +kernel)) q
theorem is_bl_int {u : Bool} (q : Q (.bl true) H) : rIsi K [(.bl u), .ty "int"] H Q := w_isi (.base (.bl _)) (kit_ty (by decide +kernel)) q
theorem is_bl_bool {u : Bool} (q : Q (.bl true) H) : rIsi K [(.bl u), .ty "bool"] H Q := w_isi (.base (.bl _)) (kit_ty (by decide +kernel)) q
theorem is_bl_str {u : Bool} (q : Q (.bl false) H) : rIsi K [(.bl u), .ty "str"] H Q := w_isi (.base (.bl _)) (kit_ty (by decide +kernel)) q
theorem is_bl_tuple {u : Bool} (q : Q (.bl false) H) : rIsi K [(.bl u), .ty "tuple"] H Q := w_isi (.base (.bl _)) (kit_ty (by decide +kernel)) q
theorem is_bl_list {u : Bool} (q : Q (.bl false) H) : rIsi K [(.bl u), .ty "list"] H Q := w_isi (.base (.bl _)) (kit_ty (by decide +kernel)) q
theorem is_bl_dict {u : Bool} (q : Q (.bl false) H) : rIsi K [(.bl u), .ty "dict"] H Q := w_isi (.base (.bl _)) (kit_ty (by decide +kernel)) q
theorem is_int_int {u : Int} (q : Q (.bl true) H) : rIsi K [(.int u), .ty "int"] H Q := w_isi (.base (.int _)) (kit_ty (by decide +kernel)) q
theorem is_int_bool {u : Int} (q : Q (.bl false) H) : rIsi K [(.int u), .ty "bool"] H Q := w_isi (.base (.int _)) (kit_ty (by decide +kernel)) q
theorem is_int_str {u : Int} (q : Q (.bl false) H) : rIsi K [(.int u), .ty "str"] H Q := w_isi (.base (.int _)) (kit_ty (by decide +kernel)) q
theorem is_int_tuple {u : Int} (q : Q (.bl false) H) : rIsi K [(.int u), .ty "tuple"] H Q := w_isi (.base (.int _)) (kit_ty (by decide +kernel)) q
theorem is_int_list {u : Int} (q : Q (.bl false) H) : rIsi K [(.int u), .ty "list"] H Q := w_isi (.base (.int _)) (kit_ty (by decide +kernel)) q
theorem is_int_dict {u : Int} (q : Q (.bl false) H) : rIsi K [(.int u), .ty "dict"] H Q := w_isi (.base (.int _)) (kit_ty (by decide +kernel)) q
theorem is_str_int {u : Str} (q : Q (.bl false) H) : rIsi K [(.str u), .ty "int"] H Q := w_isi (.base (.str _)) (kit_ty (by decide +kernel)) q
theorem is_str_bool {u : Str} (q : Q (.bl false) H) : rIsi K [(.str u), .ty "bool"] H Q := w_isi (.base (.str _)) (kit_ty (by decide +kernel)) q
theorem is_str_str {u : Str} (q : Q (.bl true) H) : rIsi K [(.str u), .ty "str"] H Q := w_isi (.base (.str _)) (kit_ty (by decide +kernel)) q
theorem is_str_tuple {u : Str} (q : Q (.bl false) H) : rIsi K [(.str u), .ty "tuple"] H Q := w_isi (.base (.str _)) (kit_ty (by decide +kernel)) q
theorem is_str_list {u : Str} (q : Q (.bl false) H) : rIsi K [(.str u), .ty "list"] H Q := w_isi (.base (.str _)) (kit_ty (by decide +kernel)) q
theorem is_str_dict {u : Str} (q : Q (.bl false) H) : rIsi K [(.str u), .ty "dict"] H Q := w_isi (.base (.str _)) (kit_ty (by decide +kernel)) q
theorem w_rU {g : Int → V} (q : Q (g i) H) : rU g (.int i) H Q := ⟨i, rfl, q⟩
theorem dec_int {a b : Int} : decide (V.int a = V.int b) = decide (a = b) := by
  by_cases h : a = b
  · subst h; simp
  · rw [decide_eq_false h, decide_eq_false fun e => h (V.int.inj e)]
theorem dec_str {a b : Str} : decide (V.str a = V.str b) = decide (a = b) := by
  by_cases h : a = b
  · subst h; simp
  · rw [decide_eq_false h, decide_eq_false fun e => h (V.str.inj e)]
theorem dec_bl {a b : Bool} : decide (V.bl a = V.bl b) = decide (a = b) := by
  by_cases h : a = b
  · subst h; simp
  · rw [decide_eq_false h, decide_eq_false fun e => h (V.bl.inj e)]
theorem w_eqI (q : Q (.bl (decide (i = j))) H) : rEqU K (.int i) (.int j) H Q := .inl (.inl ⟨rfl, by rw [dec_int]; exact q⟩)
theorem w_eqS {a b : Str} (q : Q (.bl (decide (a = b))) H) : rEqU K (.str a) (.str b) H Q := .inl (.inl ⟨rfl, by rw [dec_str]; exact q⟩)
theorem w_eqB {a b : Bool} (q : Q (.bl (decide (a = b))) H) : rEqU K (.bl a) (.bl b) H Q := .inl (.inl ⟨rfl, by rw [dec_bl]; exact q⟩)
theorem w_neI (q : Q (.bl (!decide (i = j))) H) : rNeU K (.int i) (.int j) H Q := .inl (.inl ⟨rfl, by rw [dec_int]; exact q⟩)
theorem w_neS {a b : Str} (q : Q (.bl (!decide (a = b))) H) : rNeU K (.str a) (.str b) H Q := .inl (.inl ⟨rfl, by rw [dec_str]; exact q⟩)
theorem w_neB {a b : Bool} (q : Q (.bl (!decide (a = b))) H) : rNeU K (.bl a) (.bl b) H Q := .inl (.inl ⟨rfl, by rw [dec_bl]; exact q⟩)
theorem w_eqDS {p : Addr} {kvs : List (Key × V)} {z : Str} (h : H p = some (.dK kvs)) (q : Q (.bl false) H) : rEqU K (.ref p) (.str z) H Q := .inr ⟨p, kvs, z, rfl, h, rfl, q⟩
theorem w_neDS {p : Addr} {kvs : List (Key × V)} {z : Str} (h : H p = some (.dK kvs)) (q : Q (.bl true) H) : rNeU K (.ref p) (.str z) H Q := .inr ⟨p, kvs, z, rfl, h, rfl, q⟩
theorem w_eqD {x y : V} {d e : PyData} (hx : Dp K H x d) (hy : Dp K H y e) (sx : SeqAt.shaped d = true) (sy : SeqAt.shaped e = true) (q : Q (.bl (PyData.eqv d e)) H) : rEqU K x y H Q := .inl (.inr ⟨d, e, hx, hy, sx, sy, q⟩)
theorem w_neD {x y : V} {d e : PyData} (hx : Dp K H x d) (hy : Dp K H y e) (sx : SeqAt.shaped d = true) (sy : SeqAt.shaped e = true) (q : Q (.bl (!PyData.eqv d e)) H) : rNeU K x y H Q := .inl (.inr ⟨d, e, hx, hy, sx, sy, q⟩)
end
/-- a new tuple, a new list -/
def MkT (xs : List V) (Q : VK) (H : Hp) : Prop := xs.length ≤ sizeLine ∧ ∀ p, H p = none → Q (.ref p) (upd H p (.tup xs))
def MkL (xs : List V) (Q : VK) (H : Hp) : Prop := xs.length ≤ sizeLine ∧ ∀ p, H p = none → Q (.ref p) (upd H p (.lst xs))
/-! ### steps of a reading -/
section
variable {K : PySem.W.Frag} {σ : L2.St} {H : Hp} {Q : VK} {QB : Bool → Hp → Prop} {QA : List V → Hp → Prop} {ta tb tc : TE} {t u : TT} {v : V} {i : Nat} {r r' : R2}
theorem w_var (h : σ[i]? = some (some v)) (q : Q v H) : tVar i σ H Q := ⟨v, h, q⟩
theorem w_c (q : Q v H) : tC v σ H Q := q
theorem w_op (q : ta σ H fun x H1 => tb σ H1 fun y H2 => r x y H2 Q) : tOp r ta tb σ H Q := q
theorem w_un {r : V → Hp → VK → Prop} (q : ta σ H fun x H1 => r x H1 Q) : tUn r ta σ H Q := q
theorem w_chain (q : ta σ H fun x H1 => tb σ H1 fun y H2 => r x y H2 fun z H3 => ∃ k, z = .bl k ∧ (if k = true then tc σ H3 fun w' H4 => r' y w' H4 Q else Q (.bl false) H3)) : tChain r r' ta tb tc σ H Q := q
theorem w_bl {b : Bool} {P : Bool → Prop} (q : P b) : ∃ k, V.bl b = .bl k ∧ P k := ⟨b, rfl, q⟩
theorem w_test (q : ta σ H fun x H' => ∃ k, x = .bl k ∧ QB k H') : tTest ta σ H QB := q
theorem w_B (q : ta σ H fun x H' => ∃ k, x = .bl k ∧ QB k H') : tB ta σ H QB := q
theorem w_and (q : t σ H fun c H1 => if c = true then u σ H1 QB else QB false H1) : tAnd t u σ H QB := q
theorem w_or (q : t σ H fun c H1 => if c = true then QB true H1 else u σ H1 QB) : tOr t u σ H QB := q
theorem w_not (q : t σ H fun c H1 => QB (!c) H1) : tNot t σ H QB := q
theorem w_andV (q : ta σ H fun x H1 => ∃ c, x = .bl c ∧ if c = true then tb σ H1 Q else Q (.bl false) H1) : tAndV ta tb σ H Q := q
theorem w_orV (q : ta σ H fun x H1 => ∃ c, x = .bl c ∧ if c = true then Q (.bl true) H1 else tb σ H1 Q) : tOrV ta tb σ H Q := q
theorem w_notV (q : ta σ H fun x H1 => ∃ c, x = .bl c ∧ Q (.bl (!c)) H1) : tNotV ta σ H Q := q
theorem w_if (q : t σ H fun c H1 => if c = true then ta σ H1 Q else tb σ H1 Q) : tIf t ta tb σ H Q := q
theorem w_isN (q : ta σ H fun x H1 => Q (.bl (decide (x = .non))) H1) : tIsN ta σ H Q := q
theorem w_notN (q : ta σ H fun x H1 => Q (.bl (!decide (x = .non))) H1) : tNotN ta σ H Q := q
theorem w_nil (q : QA [] H) : tNil σ H QA := q
theorem w_cons {tr : TA} (q : ta σ H fun x H1 => tr σ H1 fun xs H2 => QA (x :: xs) H2) : tCons ta tr σ H QA := q
theorem w_tup {tr : TA} (q : tr σ H fun xs H1 => MkT xs Q H1) : tTup tr σ H Q := q
theorem w_lst {tr : TA} (q : tr σ H fun xs H1 => MkL xs Q H1) : tLst tr σ H Q := q
theorem w_call {sp : Sp} {dvs : List V} {E : XK} {tr : TA} (q : tr σ H fun vs H1 => sp (vs ++ dvs) H1 Q E) : tCall sp dvs E tr σ H Q := q
theorem w_cb {rc : List V → Hp → VK → Prop} {tr : TA} (q : tr σ H fun vs H1 => rc vs H1 Q) : tCB rc tr σ H Q := q
theorem w_bm {T : String} {rm : V → List V → Hp → VK → Prop} {tr : TA} (q : ta σ H fun x H1 => tyV K T x H1 ∧ tr σ H1 fun xs H2 => rm x xs H2 Q) : tBM K T rm ta tr σ H Q := q
theorem w_bm0 {T : String} {rm : V → List V → Hp → VK → Prop} (q : ta σ H fun x H1 => tyV K T x H1 ∧ rm x [] H1 Q) : tBM0 K T rm ta σ H Q := q
end
section
variable {σ : L2.St} {H : Hp} {n b c : L2.St → Hp → Prop} {r : VK} {t u : TS} {te : TE} {tt : TT} {g : TG} {v : V} {i : Nat}
theorem w_cut (M : L2.St → Hp → Prop) (h1 : t ⟨M, r, b, c⟩ σ H) (h2 : ∀ σ' H', M σ' H' → u ⟨n, r, b, c⟩ σ' H') : C8.tCut t u ⟨n, r, b, c⟩ σ H := ⟨M, h1, h2⟩
theorem w_sub' {Q : L2.St → Hp → Prop} {to ti : TE} {ts : TSet} (q : to σ H fun o H1 => ti σ H1 fun i H2 => ts o i v H2 fun H3 => Q σ H3) : gSub to ti ts v σ H Q := q
theorem w_seq (q : t ⟨u ⟨n, r, b, c⟩, r, b, c⟩ σ H) : tSeq t u ⟨n, r, b, c⟩ σ H := q
theorem w_asg (q : te σ H fun x H1 => g x σ H1 n) : tAsg te g ⟨n, r, b, c⟩ σ H := q
theorem w_name {Q : L2.St → Hp → Prop} (q : Q (σ.set i (some v)) H) : gName i v σ H Q := q
theorem w_gcons {t1 : TG} {u1 : TGs} {vs : List V} {Q : L2.St → Hp → Prop} (q : t1 v σ H fun σ' H' => u1 vs σ' H' Q) : gCons t1 u1 (v :: vs) σ H Q := ⟨v, vs, rfl, q⟩
theorem w_gnil {Q : L2.St → Hp → Prop} (q : Q σ H) : gNil [] σ H Q := ⟨rfl, q⟩
theorem w_gtup {K : PySem.W.Frag} {t1 : TGs} {p : Addr} {xs : List V} {m : Nat} {Q : L2.St → Hp → Prop} (h : SqT K H p xs) (hl : xs.length = m) (q : t1 xs σ H Q) : gTup K m t1 (.ref p) σ H Q := ⟨p, xs, rfl, h, hl, q⟩
theorem w_ret (q : te σ H r) : tRet te ⟨n, r, b, c⟩ σ H := q
theorem w_retN (q : r .non H) : tRetN ⟨n, r, b, c⟩ σ H := q
theorem w_drop (q : te σ H fun _ H1 => n σ H1) : tDrop te ⟨n, r, b, c⟩ σ H := q
theorem w_ifS (q : tt σ H fun k H1 => if k = true then t ⟨n, r, b, c⟩ σ H1 else u ⟨n, r, b, c⟩ σ H1) : tIfS tt t u ⟨n, r, b, c⟩ σ H := q
theorem w_next (q : n σ H) : tNext ⟨n, r, b, c⟩ σ H := q
theorem w_break (q : b σ H) : tBreak ⟨n, r, b, c⟩ σ H := q
theorem w_cont (q : c σ H) : tCont ⟨n, r, b, c⟩ σ H := q
end
/-! ### loops -/
/-- the turns of a for over J -/
def FOR (J : It) (g : TG) (tb : TS) (D : Ends) (σ : L2.St) (H1 : Hp) : Prop :=
  ∃ W : Nat → Nat → L2.St → Hp → Prop, (∃ m, W 0 m σ H1) ∧
    ∀ i m σ H, W i m σ H → (J.stop i H ∧ D.nx σ H) ∨ (J.go i H ∧
      ∃ N : L2.St → Hp → Prop, (∀ σ' H', N σ' H' → ∃ m', m' < m ∧ W (i + 1) m' σ' H') ∧
        ∀ x H', J.yld i H x H' → g x σ H' fun σ2 H2 => tb { D with nx := N, ct := N, bk := D.nx } σ2 H2)
section
variable {K : PySem.W.Frag} {σ : L2.St} {H : Hp} {nx b c : L2.St → Hp → Prop} {rt : VK} {g : TG} {tb : TS} {D : Ends}
theorem w_for {wi : TI} (q : wi σ H fun J H1 => FOR J g tb D σ H1) : tFor wi g tb D σ H := q
theorem w_iR1 {ta : TA} {R : It → Hp → Prop} (q : ta σ H fun vs H1 => ∃ j : Int, vs = [.int j] ∧ -(2 ^ 62) ≤ j ∧ j < 2 ^ 62 ∧ R (Itr 0 j.toNat) H1) : iRng1 ta σ H R := q
theorem w_iR2 {ta : TA} {R : It → Hp → Prop} (q : ta σ H fun vs H1 => ∃ i j : Int, vs = [.int i, .int j] ∧ (-(2 ^ 62) ≤ i ∧ i < 2 ^ 62 ∧ -(2 ^ 62) ≤ j ∧ j < 2 ^ 62) ∧ R (Itr i (j - i).toNat) H1) : iRng2 ta σ H R := q
theorem w_iRev {te : TE} {R : It → Hp → Prop} (q : te σ H fun v H1 => ∃ (a : Addr) (xs : List V), v = .ref a ∧ ((SqL K H1 a xs ∧ R (Itv K a xs.length) H1) ∨ (SqT K H1 a xs ∧ R (RT.ItvT K a xs.length) H1))) : iRevU K te σ H R := q
theorem w_iEnum {ta : TA} {R : It → Hp → Prop} (q : ta σ H fun vs H1 => ∃ a xs, vs = [.ref a] ∧ SqL K H1 a xs ∧ R (Ite K a) H1) : iEnumU K ta σ H R := q
theorem w_iL {tl : TE} {R : It → Hp → Prop} (q : tl σ H fun x H1 => ∃ a, x = .ref a ∧ (∃ xs, SqL K H1 a xs) ∧ R (Itl K a) H1) : iList K tl σ H R := q
theorem w_iT {tl : TE} {R : It → Hp → Prop} (q : tl σ H fun x H1 => ∃ a, x = .ref a ∧ (∃ xs, SqT K H1 a xs) ∧ R (Itt K a) H1) : iTup K tl σ H R := q
theorem F_R1 {j : Int} (n : Nat) (hn : j.toNat = n) (h1 : -(2 ^ 62) ≤ j) (h2 : j < 2 ^ 62) (Pv : Nat → L2.St → Hp → Prop) (h0 : Pv 0 σ H)
    (hs : ∀ i σ H, i < n → Pv i σ H → g (.int i) σ H fun σ2 H2 => tb ⟨Pv (i + 1), rt, nx, Pv (i + 1)⟩ σ2 H2) (hd : ∀ σ H, Pv n σ H → nx σ H) :
    ∃ j' : Int, [V.int j] = [.int j'] ∧ -(2 ^ 62) ≤ j' ∧ j' < 2 ^ 62 ∧ FOR (Itr 0 j'.toNat) g tb ⟨nx, rt, b, c⟩ σ H := by
  subst hn
  refine ⟨j, rfl, h1, h2, ?_⟩
  exact for_range (D := ⟨nx, rt, b, c⟩) Pv h0 (fun i σ H hi p => by rw [Int.zero_add]; exact hs i σ H hi p) hd
theorem F_L {a : Addr} {xs : List V} (h : SqL K H a xs) (Pv : Nat → L2.St → Hp → Prop) (h0 : Pv 0 σ H) (hl : ∀ i σ H, i ≤ xs.length → Pv i σ H → SqL K H a xs)
    (hs : ∀ i x σ H, xs[i]? = some x → Pv i σ H → g x σ H fun σ2 H2 => tb ⟨Pv (i + 1), rt, nx, Pv (i + 1)⟩ σ2 H2) (hd : ∀ σ H, Pv xs.length σ H → nx σ H) :
    ∃ a', V.ref a = .ref a' ∧ (∃ ys, SqL K H a' ys) ∧ FOR (Itl K a') g tb ⟨nx, rt, b, c⟩ σ H :=
  ⟨a, rfl, ⟨xs, h⟩, for_list (D := ⟨nx, rt, b, c⟩) Pv h0 hl hs hd⟩
theorem F_T {a : Addr} {xs : List V} (h : SqT K H a xs) (Pv : Nat → L2.St → Hp → Prop) (h0 : Pv 0 σ H) (hl : ∀ i σ H, i ≤ xs.length → Pv i σ H → SqT K H a xs)
    (hs : ∀ i x σ H, xs[i]? = some x → Pv i σ H → g x σ H fun σ2 H2 => tb ⟨Pv (i + 1), rt, nx, Pv (i + 1)⟩ σ2 H2) (hd : ∀ σ H, Pv xs.length σ H → nx σ H) :
    ∃ a', V.ref a = .ref a' ∧ (∃ ys, SqT K H a' ys) ∧ FOR (Itt K a') g tb ⟨nx, rt, b, c⟩ σ H :=
  ⟨a, rfl, ⟨xs, h⟩, for_tup (D := ⟨nx, rt, b, c⟩) Pv h0 hl hs hd⟩
/-- a while by an invariant with a measure -/
theorem w_while {tt : TT} (W : Nat → L2.St → Hp → Prop) (m0 : Nat) (h0 : W m0 σ H)
    (hs : ∀ m σ' H', W m σ' H' → tt σ' H' fun k H1 => if k = true then tb ⟨fun σ2 H2 => ∃ m', m' < m ∧ W m' σ2 H2, rt, nx, fun σ2 H2 => ∃ m', m' < m ∧ W m' σ2 H2⟩ σ' H1 else nx σ' H1)
    (mono : ∀ σ H (Q Q' : Bool → Hp → Prop), (∀ k H1, Q k H1 → Q' k H1) → tt σ H Q → tt σ H Q') : tWhile tt tb ⟨nx, rt, b, c⟩ σ H := by
  refine ⟨W, ⟨m0, h0⟩, fun m σ' H' w => mono σ' H' _ _ (fun k H1 q => ?_) (hs m σ' H' w)⟩
  cases k with
  | true => exact ⟨_, fun _ _ z => z, q⟩
  | false => exact q
/-- .. the measure's step told at the test's end -/
theorem w_whileN {tt : TT} (W : Nat → L2.St → Hp → Prop) (m0 : Nat) (h0 : W m0 σ H)
    (hs : ∀ m σ' H', W m σ' H' → tt σ' H' fun k H1 => if k = true then ∃ N : L2.St → Hp → Prop, (∀ σ2 H2, N σ2 H2 → ∃ m', m' < m ∧ W m' σ2 H2) ∧ tb ⟨N, rt, nx, N⟩ σ' H1 else nx σ' H1) : tWhile tt tb ⟨nx, rt, b, c⟩ σ H := ⟨W, ⟨m0, h0⟩, hs⟩
theorem w_N {m : Nat} {W : Nat → L2.St → Hp → Prop} (q : tb ⟨fun σ2 H2 => ∃ m', m' < m ∧ W m' σ2 H2, rt, nx, fun σ2 H2 => ∃ m', m' < m ∧ W m' σ2 H2⟩ σ H) : ∃ N : L2.St → Hp → Prop, (∀ σ2 H2, N σ2 H2 → ∃ m', m' < m ∧ W m' σ2 H2) ∧ tb ⟨N, rt, nx, N⟩ σ H := ⟨_, fun _ _ z => z, q⟩
/-- the turns of a comprehension over J -/
def LC (J : It) (g : TG) (tt : TT) (te : TE) (vs : List Nat) (σ : L2.St) (D : Addr) (Q : VK) (H1 : Hp) : Prop :=
  ∃ W : Nat → Nat → Hp → Prop, (∃ m, W 0 m H1) ∧ ∀ i m H, W i m H → (J.stop i H ∧ Q (.ref D) H) ∨ (J.go i H ∧
    ∃ Nx : Hp → Prop, (∀ H', Nx H' → ∃ m', m' < m ∧ W (i + 1) m' H') ∧ ∀ x H', J.yld i H x H' → g x (wipe σ vs) H' fun σ2 H2 => wipe σ2 vs = wipe σ vs ∧
      tt σ2 H2 fun k H3 => if k = true then te σ2 H3 fun y H4 => ∃ acc, H4 D = some (.lst acc) ∧ acc.length < sizeLine ∧ Nx (upd H4 D (.lst (acc ++ [y]))) else Nx H3)
theorem w_lc {wi : TI} {tt : TT} {te : TE} {vs : List Nat} {Q : VK} (q : wi σ H fun J H1 => ∀ D, H1 D = none → LC J g tt te vs σ D Q (upd H1 D (.lst []))) : tLc wi g tt te vs σ H Q := q
theorem LC_L {a : Addr} {xs : List V} {tt : TT} {te : TE} {vs : List Nat} {Q : VK} (h : SqL K H a xs) (q : ∀ D, H D = none → LC (Itl K a) g tt te vs σ D Q (upd H D (.lst []))) :
    ∃ a', V.ref a = .ref a' ∧ (∃ ys, SqL K H a' ys) ∧ ∀ D, H D = none → LC (Itl K a') g tt te vs σ D Q (upd H D (.lst [])) := ⟨a, rfl, ⟨xs, h⟩, q⟩
theorem LC_T {a : Addr} {xs : List V} {tt : TT} {te : TE} {vs : List Nat} {Q : VK} (h : SqT K H a xs) (q : ∀ D, H D = none → LC (Itt K a) g tt te vs σ D Q (upd H D (.lst []))) :
    ∃ a', V.ref a = .ref a' ∧ (∃ ys, SqT K H a' ys) ∧ ∀ D, H D = none → LC (Itt K a') g tt te vs σ D Q (upd H D (.lst [])) := ⟨a, rfl, ⟨xs, h⟩, q⟩
theorem LC_by {a D : Addr} {xs : List V} {tt : TT} {te : TE} {vs : List Nat} {Q : VK} (Pv : Nat → Hp → Prop) (h0 : Pv 0 (upd H D (.lst []))) (hl : ∀ i H, i ≤ xs.length → Pv i H → SqL K H a xs)
    (hs : ∀ i x H, xs[i]? = some x → Pv i H → g x (wipe σ vs) H fun σ2 H2 => wipe σ2 vs = wipe σ vs ∧ tt σ2 H2 fun k H3 =>
      if k = true then te σ2 H3 fun y H4 => ∃ acc, H4 D = some (.lst acc) ∧ acc.length < sizeLine ∧ Pv (i + 1) (upd H4 D (.lst (acc ++ [y]))) else Pv (i + 1) H3)
    (hd : ∀ H, Pv xs.length H → Q (.ref D) H) : LC (Itl K a) g tt te vs σ D Q (upd H D (.lst [])) := lc_list (xs := xs) Pv h0 hl hs hd
theorem LC_R1 {j : Int} {tt : TT} {te : TE} {vs : List Nat} {Q : VK} (n : Nat) (hn : j.toNat = n) (h1 : -(2 ^ 62) ≤ j) (h2 : j < 2 ^ 62)
    (q : ∀ D, H D = none → ∃ Pv : Nat → Hp → Prop, Pv 0 (upd H D (.lst [])) ∧ (∀ (i : Nat) H', i < n → Pv i H' → g (.int i) (wipe σ vs) H' fun σ2 H2 => wipe σ2 vs = wipe σ vs ∧ tt σ2 H2 fun k H3 =>
      if k = true then te σ2 H3 fun y H4 => ∃ acc, H4 D = some (.lst acc) ∧ acc.length < sizeLine ∧ Pv (i + 1) (upd H4 D (.lst (acc ++ [y]))) else Pv (i + 1) H3) ∧ ∀ H', Pv n H' → Q (.ref D) H') :
    ∃ j' : Int, [V.int j] = [.int j'] ∧ -(2 ^ 62) ≤ j' ∧ j' < 2 ^ 62 ∧ ∀ D, H D = none → LC (Itr 0 j'.toNat) g tt te vs σ D Q (upd H D (.lst [])) := by
  subst hn
  refine ⟨j, rfl, h1, h2, fun D hD => ?_⟩
  obtain ⟨Pv, p0, ps, pd⟩ := q D hD
  exact lc_range Pv p0 (fun i H hi p => by rw [Int.zero_add]; exact ps i H hi p) pd
theorem w_wipe {σ1 σ2 : L2.St} {vs : List Nat} {B : Prop} (h : wipe σ2 vs = wipe σ1 vs) (q : B) : wipe σ2 vs = wipe σ1 vs ∧ B := ⟨h, q⟩
theorem w_yes {Q : Bool → Hp → Prop} (q : Q true H) : tYes σ H Q := q
end
/-- a test's outcome, as a proposition -/
theorem ite_d {c : Prop} [Decidable c] {A B : Prop} (h1 : c → A) (h2 : ¬ c → B) : if decide c = true then A else B := by
  by_cases h : c
  · rw [if_pos (decide_eq_true h)]; exact h1 h
  · rw [if_neg (by rw [decide_eq_false h]; decide)]; exact h2 h
theorem ite_nd {c : Prop} [Decidable c] {A B : Prop} (h1 : ¬ c → A) (h2 : c → B) : if (!decide c) = true then A else B := by
  by_cases h : c
  · rw [if_neg (by rw [decide_eq_true h]; decide)]; exact h2 h
  · rw [if_pos (by rw [decide_eq_false h]; decide)]; exact h1 h
theorem iteNT {A B : Prop} (h : B) : if (!true) = true then A else B := h
theorem iteNF {A B : Prop} (h : A) : if (!false) = true then A else B := h
theorem ite_b {k : Bool} {A B : Prop} (h1 : k = true → A) (h2 : k = false → B) : if k = true then A else B := by
  cases k
  · exact h2 rfl
  · exact h1 rfl
/-! ### heaps -/
/-- all that was tracked, but for S, is as it was -/
def Fr (S : List Addr) (H H' : Hp) : Prop := ∀ a o, H a = some o → a ∉ S → H' a = some o
theorem Fr.refl {S : List Addr} {H : Hp} : Fr S H H := fun _ _ h _ => h
theorem Fr.trans {S : List Addr} {H H1 H2 : Hp} (a : Fr S H H1) (b : Fr S H1 H2) : Fr S H H2 := fun x o h n => b x o (a x o h n) n
theorem Fr.new {S : List Addr} {H : Hp} {p : Addr} {o : HO} (h : H p = none) : Fr S H (upd H p o) := fun a u e _ => by
  rw [upd_ne (ne_of_none e h)]
  exact e
theorem Fr.mut {S : List Addr} {H : Hp} {p : Addr} {o : HO} (h : p ∈ S) : Fr S H (upd H p o) := fun a u e n => by
  rw [upd_ne (by rintro rfl; exact n h)]
  exact e
theorem Fr.mono {S S' : List Addr} {H H' : Hp} (a : Fr S H H') (h : ∀ x ∈ S, x ∈ S') : Fr S' H H' := fun x o e n => a x o e fun z => n (h x z)
theorem Fr.free {H H' : Hp} (e : Fr [] H H') {l : Addr} (h : H' l = none) : H l = none := by
  cases q : H l with
  | none => rfl
  | some o =>
    rw [e l o q (by simp)] at h
    cases h
/-- what is new may change -/
theorem Fr.new_mut {S : List Addr} {H H' : Hp} {p : Addr} (hp : H p = none) (a : Fr (p :: S) H H') : Fr S H H' := fun x o e n => a x o e (by
  intro z
  rcases List.mem_cons.mp z with z | z
  · subst z; rw [hp] at e; cases e
  · exact n z)
theorem Fr.seqL {S : List Addr} {K : PySem.W.Frag} {H H' : Hp} {a : Addr} {xs : List V} (e : Fr S H H') (h : SqL K H a xs) (n : a ∉ S) : SqL K H' a xs := by
  rcases h with (h | ⟨o, h⟩) | h
  · exact .inl (.inl (e _ _ h n))
  · exact .inl (.inr ⟨o, e _ _ h n⟩)
  · exact .inr h
theorem Fr.seqT {S : List Addr} {K : PySem.W.Frag} {H H' : Hp} {a : Addr} {xs : List V} (e : Fr S H H') (h : SqT K H a xs) (n : a ∉ S) : SqT K H' a xs := by
  rcases h with (h | ⟨o, h⟩) | h
  · exact .inl (.inl (e _ _ h n))
  · exact .inl (.inr ⟨o, e _ _ h n⟩)
  · exact .inr h
/-- an open place of a list of ints all of which hold P -/
theorem at_all {ns : List Int} {P : Int → Prop} (hP : ∀ z ∈ ns, P z) {p : Int} (h0 : 0 ≤ p) (h : p < ns.length) : ∃ z, atI (ns.map V.int) p = some (.int z) ∧ P z := by
  have hk : p.toNat < ns.length := by omega
  have ek : p = ((p.toNat : Nat) : Int) := by omega
  have key : atI (ns.map V.int) ((p.toNat : Nat) : Int) = some (.int ns[p.toNat]) := atI_nat (by rw [List.getElem?_map, List.getElem?_eq_getElem hk] <;> rfl)
  rw [← ek] at key
  exact ⟨_, key, hP _ (List.getElem_mem hk)⟩
theorem at_str {ns : List Str} {P : Str → Prop} (hP : ∀ z ∈ ns, P z) {p : Int} (h0 : 0 ≤ p) (h : p < ns.length) : ∃ z, atI (ns.map V.str) p = some (.str z) ∧ P z := by
  have hk : p.toNat < ns.length := by omega
  have ek : p = ((p.toNat : Nat) : Int) := by omega
  have key : atI (ns.map V.str) ((p.toNat : Nat) : Int) = some (.str ns[p.toNat]) := atI_nat (by rw [List.getElem?_map, List.getElem?_eq_getElem hk] <;> rfl)
  rw [← ek] at key
  exact ⟨_, key, hP _ (List.getElem_mem hk)⟩
theorem at_int {ns : List Int} {p : Int} (h0 : 0 ≤ p) (h : p < ns.length) : ∃ z, atI (ns.map V.int) p = some (.int z) ∧ ns[p.toNat]? = some z := by
  have hk : p.toNat < ns.length := by omega
  have ek : p = ((p.toNat : Nat) : Int) := by omega
  have key : atI (ns.map V.int) ((p.toNat : Nat) : Int) = some (.int ns[p.toNat]) := atI_nat (by rw [List.getElem?_map, List.getElem?_eq_getElem hk] <;> rfl)
  rw [← ek] at key
  exact ⟨_, key, List.getElem?_eq_getElem hk⟩
end U

namespace U
open PySem PySem.Spec PyProof.Rows L2
/-! ### data of tuples all the way down: nothing changes it -/
mutual
inductive Dt (K : PySem.W.Frag) (H : Hp) : V → PyData → Prop
  | non : Dt K H .non .none
  | bl (b : Bool) : Dt K H (.bl b) (.bool b)
  | int (i : Int) : Dt K H (.int i) (.int i)
  | str (x : Str) : Dt K H (.str x) (.str x)
  | tup {p : Addr} {vs : List V} {es : List PyData} : SqT K H p vs → DtAll K H vs es → Dt K H (.ref p) (.tuple es)
inductive DtAll (K : PySem.W.Frag) (H : Hp) : List V → List PyData → Prop
  | nil : DtAll K H [] []
  | cons {v : V} {vs : List V} {e : PyData} {es : List PyData} : Dt K H v e → DtAll K H vs es → DtAll K H (v :: vs) (e :: es)
end
/-- tuples stand -/
def Tu (H H' : Hp) : Prop := ∀ a xs, (H a = some (.tup xs) → H' a = some (.tup xs)) ∧ ∀ o, H a = some (.frz o (.tup xs)) → H' a = some (.frz o (.tup xs))
theorem Tu.refl {H : Hp} : Tu H H := fun _ _ => ⟨id, fun _ => id⟩
theorem Tu.trans {H H1 H2 : Hp} (a : Tu H H1) (b : Tu H1 H2) : Tu H H2 := fun x xs => ⟨fun h => (b x xs).1 ((a x xs).1 h), fun o h => (b x xs).2 o ((a x xs).2 o h)⟩
theorem Fr.tu {H H' : Hp} (f : Fr [] H H') : Tu H H' := fun a xs => ⟨fun h => f a _ h (by simp), fun o h => f a _ h (by simp)⟩
theorem Fr.tu1 {H H' : Hp} {t : Addr} {xs : List V} (f : Fr [t] H H') (h : H t = some (.lst xs)) : Tu H H' := fun a ys =>
  ⟨fun e => f a _ e (by intro z; rw [List.mem_singleton.mp z, h] at e; cases e), fun o e => f a _ e (by intro z; rw [List.mem_singleton.mp z, h] at e; cases e)⟩
theorem Tu.mut {H : Hp} {q : Addr} {xs : List V} {o : HO} (h : H q = some (.lst xs)) : Tu H (upd H q o) := fun a ys =>
  ⟨fun e => by rw [upd_ne (by rintro rfl; rw [h] at e; cases e)]; exact e, fun o e => by rw [upd_ne (by rintro rfl; rw [h] at e; cases e)]; exact e⟩
theorem Tu.new {H : Hp} {q : Addr} {o : HO} (h : H q = none) : Tu H (upd H q o) := (Fr.new h).tu
theorem Tu.seqT {K : PySem.W.Frag} {H H' : Hp} {a : Addr} {xs : List V} (e : Tu H H') (h : SqT K H a xs) : SqT K H' a xs := by
  rcases h with (h | ⟨o, h⟩) | h
  · exact .inl (.inl ((e a xs).1 h))
  · exact .inl (.inr ⟨o, (e a xs).2 o h⟩)
  · exact .inr h
section
variable {K : PySem.W.Frag} {H H' : Hp}
mutual
theorem Dt.mono (f : Tu H H') : ∀ {v : V} {d : PyData}, Dt K H v d → Dt K H' v d
  | _, _, .non => .non
  | _, _, .bl b => .bl b
  | _, _, .int i => .int i
  | _, _, .str x => .str x
  | _, _, .tup s a => .tup (f.seqT s) (DtAll.mono f a)
theorem DtAll.mono (f : Tu H H') : ∀ {vs : List V} {ds : List PyData}, DtAll K H vs ds → DtAll K H' vs ds
  | _, _, .nil => .nil
  | _, _, .cons a b => .cons (Dt.mono f a) (DtAll.mono f b)
end
mutual
theorem Dt.dp : ∀ {v : V} {d : PyData}, Dt K H v d → Dp K H v d
  | _, _, .non => .non
  | _, _, .bl b => .bl b
  | _, _, .int i => .int i
  | _, _, .str x => .str x
  | _, _, .tup s a => .tup s (DtAll.dp a)
theorem DtAll.dp : ∀ {vs : List V} {ds : List PyData}, DtAll K H vs ds → DpAll K H vs ds
  | _, _, .nil => .nil
  | _, _, .cons a b => .cons (Dt.dp a) (DtAll.dp b)
end
theorem DtAll.length : ∀ {vs : List V} {ds : List PyData}, DtAll K H vs ds → vs.length = ds.length
  | _, _, .nil => rfl
  | _, _, .cons _ b => by rw [List.length_cons, List.length_cons, DtAll.length b]
theorem DtAll.append : ∀ {vs us : List V} {ds es : List PyData}, DtAll K H vs ds → DtAll K H us es → DtAll K H (vs ++ us) (ds ++ es)
  | _, _, _, _, .nil, h => h
  | _, _, _, _, .cons a b, h => .cons a (DtAll.append b h)
theorem DtAll.take : ∀ {vs : List V} {ds : List PyData} (n : Nat), DtAll K H vs ds → DtAll K H (vs.take n) (ds.take n)
  | _, _, 0, _ => .nil
  | _, _, _ + 1, .nil => .nil
  | _, _, n + 1, .cons a b => .cons a (DtAll.take n b)
theorem DtAll.drop : ∀ {vs : List V} {ds : List PyData} (n : Nat), DtAll K H vs ds → DtAll K H (vs.drop n) (ds.drop n)
  | _, _, 0, h => h
  | _, _, _ + 1, .nil => .nil
  | _, _, n + 1, .cons a b => DtAll.drop n b
theorem DtAll.get : ∀ {vs : List V} {ds : List PyData} {i : Nat} {v : V}, DtAll K H vs ds → vs[i]? = some v → ∃ d, ds[i]? = some d ∧ Dt K H v d
  | _, _, i, _, .nil, h => by simp at h
  | _, _, 0, v, .cons a b, h => by
    simp at h
    subst h
    exact ⟨_, rfl, a⟩
  | _, _, i + 1, v, .cons a b, h => by
    obtain ⟨d, h1, h2⟩ := DtAll.get (i := i) b (by simpa using h)
    exact ⟨d, by simpa using h1, h2⟩
theorem DtAll.get' {vs : List V} {ds : List PyData} {i : Nat} {d : PyData} (h : DtAll K H vs ds) (e : ds[i]? = some d) : ∃ v, vs[i]? = some v ∧ Dt K H v d := by
  have hi := (List.getElem?_eq_some_iff.mp e).1
  rw [← h.length] at hi
  obtain ⟨d', h1, h2⟩ := h.get (List.getElem?_eq_getElem hi)
  rw [e] at h1
  cases h1
  exact ⟨_, List.getElem?_eq_getElem hi, h2⟩
theorem Dt.tuple {v : V} {ds : List PyData} (h : Dt K H v (.tuple ds)) : ∃ p vs, v = .ref p ∧ SqT K H p vs ∧ DtAll K H vs ds := by
  cases h with
  | tup s a => exact ⟨_, _, rfl, s, a⟩
theorem Dt.of_int {v : V} {i : Int} (h : Dt K H v (.int i)) : v = .int i := by cases h; rfl
theorem Dt.of_str {v : V} {x : Str} (h : Dt K H v (.str x)) : v = .str x := by cases h; rfl
theorem Dt.of_bl {v : V} {b : Bool} (h : Dt K H v (.bool b)) : v = .bl b := by cases h; rfl
theorem Dt.of_non {v : V} (h : Dt K H v .none) : v = .non := by cases h; rfl
theorem DtAll.ints : ∀ (ns : List Int), DtAll K H (ns.map V.int) (ns.map PyData.int)
  | [] => .nil
  | n :: r => .cons (.int n) (DtAll.ints r)
end
/-! ### a list of such -/
def Lq (K : PySem.W.Frag) (H : Hp) (q : Addr) (ds : List PyData) : Prop := ∃ vs, H q = some (.lst vs) ∧ DtAll K H vs ds
section
variable {K : PySem.W.Frag} {H H' : Hp} {q : Addr} {ds : List PyData}
theorem Lq.fr {S : List Addr} (h : Lq K H q ds) (f : Fr S H H') (n : q ∉ S) (t : Tu H H') : Lq K H' q ds := by
  obtain ⟨vs, e, a⟩ := h
  exact ⟨vs, f _ _ e n, a.mono t⟩
theorem Lq.fr0 (h : Lq K H q ds) (f : Fr [] H H') : Lq K H' q ds := h.fr f (by simp) f.tu
theorem Lq.dp (h : Lq K H q ds) : Dp K H (.ref q) (.list ds) := by
  obtain ⟨vs, e, a⟩ := h
  exact .lst (SqL.of e) a.dp
theorem lay_list {n : Nat} (h : ∀ d ∈ ds, d.canLay0 = true ∧ d.depth ≤ n) : PyData.canLayAll0 ds = true ∧ PyData.depthAll ds ≤ n := by
  induction ds with
  | nil => exact ⟨by simp [PyData.canLayAll0], by simp [PyData.depthAll]⟩
  | cons d r ih =>
    have h1 := h d List.mem_cons_self
    have h2 := ih fun x hx => h x (List.mem_cons_of_mem _ hx)
    constructor
    · simp [PyData.canLayAll0, h1.1, h2.1]
    · simp only [PyData.depthAll]
      exact Nat.max_le.mpr ⟨h1.2, h2.2⟩
theorem shaped_list {n : Nat} (hn : n < 64) (h : ∀ d ∈ ds, d.canLay0 = true ∧ d.depth ≤ n) : SeqAt.shaped (.list ds) = true := by
  have k := lay_list h
  unfold SeqAt.shaped
  rw [Bool.and_eq_true]
  refine ⟨by simp only [PyData.canLay0]; exact k.1, decide_eq_true ?_⟩
  simp only [PyData.depth]
  omega
theorem shaped_tuple {n : Nat} (hn : n < 64) (h : ∀ d ∈ ds, d.canLay0 = true ∧ d.depth ≤ n) : SeqAt.shaped (.tuple ds) = true := by
  have k := lay_list h
  unfold SeqAt.shaped
  rw [Bool.and_eq_true]
  refine ⟨by simp only [PyData.canLay0]; exact k.1, decide_eq_true ?_⟩
  simp only [PyData.depth]
  omega
theorem lay_shaped {d : PyData} (h : d.canLay0 = true ∧ d.depth ≤ 64) : SeqAt.shaped d = true := by
  unfold SeqAt.shaped
  rw [Bool.and_eq_true]
  exact ⟨h.1, decide_eq_true h.2⟩
theorem shaped_refl {d : PyData} (h : SeqAt.shaped d = true) : PyData.eqv d d = true := SeqAt.eqv_refl d (SeqAt.canLay_of_shaped h)
theorem w_eqR {Q : VK} {x y : V} {d : PyData} (hx : Dp K H x d) (hy : Dp K H y d) (s : SeqAt.shaped d = true) (q : Q (.bl true) H) : rEqU K x y H Q := w_eqD hx hy s s (by rw [shaped_refl s]; exact q)
theorem w_neR {Q : VK} {x y : V} {d : PyData} (hx : Dp K H x d) (hy : Dp K H y d) (s : SeqAt.shaped d = true) (q : Q (.bl false) H) : rNeU K x y H Q := w_neD hx hy s s (by rw [shaped_refl s]; exact q)
theorem w_app {l : Addr} {xs : List V} {y : V} {Q : VK} (h : H l = some (.lst xs)) (n : xs.length ≤ 1000000) (q : Q .non (upd H l (.lst (xs ++ [y])))) : tyV K "list" (.ref l) H ∧ rAppend (.ref l) [y] H Q :=
  ⟨.inl ⟨rfl, _, SqL.of h⟩, l, xs, y, rfl, rfl, h, Nat.lt_of_le_of_lt n (by decide), q⟩
end
theorem cut_take {xs : List V} (n : Nat) : cutV xs none (some (n : Int)) = xs.take n := by
  unfold cutV
  rw [HT.sIx_none, HT.sIx_nat, List.drop_zero, Nat.sub_zero]
  by_cases h : n ≤ xs.length
  · rw [Nat.min_eq_left h]
  · rw [Nat.min_eq_right (by omega), List.take_length, List.take_of_length_le (by omega)]
theorem cut_drop {xs : List V} (n : Nat) : cutV xs (some (n : Int)) none = xs.drop n := by
  unfold cutV
  rw [HT.sIx_none, HT.sIx_nat]
  by_cases h : n ≤ xs.length
  · rw [Nat.min_eq_left h, List.take_of_length_le (by rw [List.length_drop]; omega)]
  · rw [Nat.min_eq_right (by omega), Nat.sub_self, List.take_zero, List.drop_eq_nil_of_le (by omega)]
/-- == with an empty list -/
theorem w_eqNil {Q : VK} {K : PySem.W.Frag} {H : Hp} {x e : Addr} {ds : List PyData} (hx : Dp K H (.ref x) (.list ds)) (he : H e = some (.lst [])) (s : SeqAt.shaped (.list ds) = true) (q : Q (.bl ds.isEmpty) H) : rEqU K (.ref x) (.ref e) H Q :=
  w_eqD hx (.lst (SqL.of he) .nil) s (by decide) (by
    cases ds with
    | nil => exact q
    | cons d r => exact q)
theorem w_neNil {Q : VK} {K : PySem.W.Frag} {H : Hp} {x e : Addr} {ds : List PyData} (hx : Dp K H (.ref x) (.list ds)) (he : H e = some (.lst [])) (s : SeqAt.shaped (.list ds) = true) (q : Q (.bl (!ds.isEmpty)) H) : rNeU K (.ref x) (.ref e) H Q :=
  w_neD hx (.lst (SqL.of he) .nil) s (by decide) (by
    cases ds with
    | nil => exact q
    | cons d r => exact q)
theorem take_fold {α β : Type} {f : β → α → β} {b : β} {xs : List α} {i : Nat} {x : α} (h : xs[i]? = some x) : (xs.take (i + 1)).foldl f b = f ((xs.take i).foldl f b) x := by
  rw [List.take_add_one, h, List.foldl_append]
  rfl
theorem take_map {α β : Type} {f : α → β} {xs : List α} {i : Nat} {x : α} (h : xs[i]? = some x) : (xs.take (i + 1)).map f = (xs.take i).map f ++ [f x] := by
  rw [List.take_add_one, h, List.map_append]
  rfl
theorem take_filt {α : Type} {f : α → Bool} {xs : List α} {i : Nat} {x : α} (h : xs[i]? = some x) : (xs.take (i + 1)).filter f = (xs.take i).filter f ++ (if f x then [x] else []) := by
  rw [List.take_add_one, h, List.filter_append]
  show _ ++ List.filter f [x] = _
  rw [List.filter_cons, List.filter_nil]
/-! ### any plain data (a dict: that it is one) -/
mutual
inductive Dg (K : PySem.W.Frag) (H : Hp) : V → PyData → Prop
  | non : Dg K H .non .none
  | bl (b : Bool) : Dg K H (.bl b) (.bool b)
  | int (i : Int) : Dg K H (.int i) (.int i)
  | str (x : Str) : Dg K H (.str x) (.str x)
  | tup {p : Addr} {vs : List V} {es : List PyData} : SqT K H p vs → DgAll K H vs es → Dg K H (.ref p) (.tuple es)
  | lst {p : Addr} {vs : List V} {es : List PyData} : SqL K H p vs → DgAll K H vs es → Dg K H (.ref p) (.list es)
  | dct {p : Addr} {kvs : List (Key × V)} {es : List (PyData × PyData)} : H p = some (.dK kvs) → Dg K H (.ref p) (.dict es)
inductive DgAll (K : PySem.W.Frag) (H : Hp) : List V → List PyData → Prop
  | nil : DgAll K H [] []
  | cons {v : V} {vs : List V} {e : PyData} {es : List PyData} : Dg K H v e → DgAll K H vs es → DgAll K H (v :: vs) (e :: es)
end
section
variable {K : PySem.W.Frag} {H H' : Hp}
mutual
theorem Dg.fr (f : Fr [] H H') : ∀ {v : V} {d : PyData}, Dg K H v d → Dg K H' v d
  | _, _, .non => .non
  | _, _, .bl b => .bl b
  | _, _, .int i => .int i
  | _, _, .str x => .str x
  | _, _, .tup s a => .tup (f.seqT s (by simp)) (DgAll.fr f a)
  | _, _, .lst s a => .lst (f.seqL s (by simp)) (DgAll.fr f a)
  | _, _, .dct h => .dct (f _ _ h (by simp))
theorem DgAll.fr (f : Fr [] H H') : ∀ {vs : List V} {ds : List PyData}, DgAll K H vs ds → DgAll K H' vs ds
  | _, _, .nil => .nil
  | _, _, .cons a b => .cons (Dg.fr f a) (DgAll.fr f b)
end
mutual
theorem Dt.dg : ∀ {v : V} {d : PyData}, Dt K H v d → Dg K H v d
  | _, _, .non => .non
  | _, _, .bl b => .bl b
  | _, _, .int i => .int i
  | _, _, .str x => .str x
  | _, _, .tup s a => .tup s (DtAll.dg a)
theorem DtAll.dg : ∀ {vs : List V} {ds : List PyData}, DtAll K H vs ds → DgAll K H vs ds
  | _, _, .nil => .nil
  | _, _, .cons a b => .cons (Dt.dg a) (DtAll.dg b)
end
theorem DgAll.length : ∀ {vs : List V} {ds : List PyData}, DgAll K H vs ds → vs.length = ds.length
  | _, _, .nil => rfl
  | _, _, .cons _ b => by rw [List.length_cons, List.length_cons, DgAll.length b]
theorem DgAll.get : ∀ {vs : List V} {ds : List PyData} {i : Nat} {v : V}, DgAll K H vs ds → vs[i]? = some v → ∃ d, ds[i]? = some d ∧ Dg K H v d
  | _, _, i, _, .nil, h => by simp at h
  | _, _, 0, v, .cons a b, h => by
    simp at h
    subst h
    exact ⟨_, rfl, a⟩
  | _, _, i + 1, v, .cons a b, h => by
    obtain ⟨d, h1, h2⟩ := DgAll.get (i := i) b (by simpa using h)
    exact ⟨d, by simpa using h1, h2⟩
end
theorem Lq.dg {K : PySem.W.Frag} {H : Hp} {l : Addr} {ds : List PyData} (h : Lq K H l ds) : Dg K H (.ref l) (.list ds) := by
  obtain ⟨vs, e, a⟩ := h
  exact .lst (SqL.of e) a.dg
/-! ### displays, append: what is known of them behind -/
theorem mkT {K : PySem.W.Frag} {H : Hp} {xs : List V} {ds : List PyData} {Q : VK} (d : DtAll K H xs ds) (q : ∀ p H', H p = none → Fr [] H H' → Dt K H' (.ref p) (.tuple ds) → Q (.ref p) H') (n : xs.length ≤ 1000 := by exact Nat.le_of_ble_eq_true rfl) : MkT xs Q H :=
  ⟨Nat.le_trans n (by decide), fun p hp => q p _ hp (Fr.new hp) (.tup (.inl (.inl upd_same)) (d.mono (Tu.new hp)))⟩
theorem mkL {K : PySem.W.Frag} {H : Hp} {xs : List V} {ds : List PyData} {Q : VK} (d : DtAll K H xs ds) (q : ∀ p H', H p = none → Fr [] H H' → Lq K H' p ds → Q (.ref p) H') (n : xs.length ≤ 1000 := by exact Nat.le_of_ble_eq_true rfl) : MkL xs Q H :=
  ⟨Nat.le_trans n (by decide), fun p hp => q p _ hp (Fr.new hp) ⟨xs, upd_same, d.mono (Tu.new hp)⟩⟩
/-- a list of ints, of texts -/
theorem mkI {H : Hp} {ns : List Int} {xs : List V} {Q : VK} (e : xs = ns.map V.int) (q : ∀ p H', H p = none → Fr [] H H' → H' p = some (.lst (ns.map V.int)) → Q (.ref p) H') (n : xs.length ≤ 1000 := by exact Nat.le_of_ble_eq_true rfl) : MkL xs Q H :=
  ⟨Nat.le_trans n (by decide), fun p hp => q p _ hp (Fr.new hp) (by rw [upd_same, e])⟩
theorem mkS {H : Hp} {ns : List Str} {xs : List V} {Q : VK} (e : xs = ns.map V.str) (q : ∀ p H', H p = none → Fr [] H H' → H' p = some (.lst (ns.map V.str)) → Q (.ref p) H') (n : xs.length ≤ 1000 := by exact Nat.le_of_ble_eq_true rfl) : MkL xs Q H :=
  ⟨Nat.le_trans n (by decide), fun p hp => q p _ hp (Fr.new hp) (by rw [upd_same, e])⟩
theorem Lq.ty {K : PySem.W.Frag} {H : Hp} {l : Addr} {ds : List PyData} (h : Lq K H l ds) : tyV K "list" (.ref l) H := by
  obtain ⟨vs, e, _⟩ := h
  exact .inl ⟨rfl, _, SqL.of e⟩
theorem Lq.app {K : PySem.W.Frag} {H : Hp} {l : Addr} {ds : List PyData} {y : V} {d : PyData} {Q : VK} (h : Lq K H l ds) (hy : Dt K H y d) (n : ds.length ≤ 100000) (q : ∀ H', Fr [l] H H' → Tu H H' → Lq K H' l (ds ++ [d]) → Q .non H') : rAppend (.ref l) [y] H Q := by
  obtain ⟨vs, e, a⟩ := h
  refine ⟨l, vs, y, rfl, rfl, e, Nat.lt_of_le_of_lt (show vs.length ≤ 100000 by rw [a.length]; exact n) (by decide), ?_⟩
  exact q _ (Fr.mut (by simp)) (Tu.mut e) ⟨_, upd_same, (a.append (.cons hy .nil)).mono (Tu.mut e)⟩
theorem Lq.copy {K : PySem.W.Frag} {H : Hp} {l : Addr} {ds : List PyData} {Q : VK} (h : Lq K H l ds) (q : ∀ p H', H p = none → Fr [] H H' → Lq K H' p ds → Q (.ref p) H') : rListU K [.ref l] H Q := by
  obtain ⟨vs, e, a⟩ := h
  exact w_listL (SqL.of e) fun p hp => q p _ hp (Fr.new hp) ⟨vs, upd_same, a.mono (Tu.new hp)⟩
theorem Lq.isList {K : PySem.W.Frag} {H : Hp} {l : Addr} {ds : List PyData} {Q : VK} (h : Lq K H l ds) (q : Q (.bl true) H) : rIsi K [.ref l, .ty "list"] H Q := by
  obtain ⟨vs, e, a⟩ := h
  exact isL_list (SqL.of e) q
theorem Lq.len {K : PySem.W.Frag} {H : Hp} {l : Addr} {ds : List PyData} {Q : VK} (h : Lq K H l ds) (q : Q (.int ds.length) H) : rLenU K [.ref l] H Q := by
  obtain ⟨vs, e, a⟩ := h
  rw [← a.length] at q
  exact w_lenL (SqL.of e) q
theorem DtAll.rev {K : PySem.W.Frag} {H : Hp} : ∀ {vs : List V} {ds : List PyData}, DtAll K H vs ds → DtAll K H vs.reverse ds.reverse
  | _, _, .nil => .nil
  | _, _, .cons a b => by
    rw [List.reverse_cons, List.reverse_cons]
    exact (DtAll.rev b).append (.cons a .nil)
theorem Lq.reverse {K : PySem.W.Frag} {H : Hp} {l : Addr} {ds : List PyData} {Q : VK} (h : Lq K H l ds) (q : ∀ H', Fr [l] H H' → Tu H H' → Lq K H' l ds.reverse → Q .non H') : rReverse (.ref l) [] H Q := by
  obtain ⟨vs, e, a⟩ := h
  exact ⟨l, vs, rfl, rfl, e, q _ (Fr.mut (by simp)) (Tu.mut e) ⟨_, upd_same, (a.rev).mono (Tu.mut e)⟩⟩
/-! ### slices, sums -/
def cutA {α : Type} (xs : List α) (lo hi : Option Int) : List α := (xs.drop (HT.sIx xs.length 0 lo)).take (HT.sIx xs.length xs.length hi - HT.sIx xs.length 0 lo)
theorem cutA_take {α : Type} {xs : List α} (n : Nat) : cutA xs none (some (n : Int)) = xs.take n := by
  unfold cutA
  rw [HT.sIx_none, HT.sIx_nat, List.drop_zero, Nat.sub_zero]
  by_cases h : n ≤ xs.length
  · rw [Nat.min_eq_left h]
  · rw [Nat.min_eq_right (by omega), List.take_length, List.take_of_length_le (by omega)]
theorem cutA_drop {α : Type} {xs : List α} (n : Nat) : cutA xs (some (n : Int)) none = xs.drop n := by
  unfold cutA
  rw [HT.sIx_none, HT.sIx_nat]
  by_cases h : n ≤ xs.length
  · rw [Nat.min_eq_left h, List.take_of_length_le (by rw [List.length_drop]; omega)]
  · rw [Nat.min_eq_right (by omega), Nat.sub_self, List.take_zero, List.drop_eq_nil_of_le (by omega)]
theorem cutA_mem {α : Type} {xs : List α} {lo hi : Option Int} {x : α} (h : x ∈ cutA xs lo hi) : x ∈ xs := List.mem_of_mem_drop (List.mem_of_mem_take h)
theorem cutA_map {α β : Type} {f : α → β} {xs : List α} {lo hi : Option Int} : cutA (xs.map f) lo hi = (cutA xs lo hi).map f := by
  unfold cutA
  rw [List.length_map, ← List.map_drop, ← List.map_take]
theorem cutA_len {α : Type} {xs : List α} {lo hi : Option Int} : (cutA xs lo hi).length ≤ xs.length := by
  unfold cutA
  rw [List.length_take, List.length_drop]
  omega
theorem DtAll.cut {K : PySem.W.Frag} {H : Hp} {vs : List V} {ds : List PyData} (h : DtAll K H vs ds) (lo hi : Option Int) : DtAll K H (cutV vs lo hi) (cutA ds lo hi) := by
  unfold cutV cutA
  rw [h.length]
  exact (h.drop _).take _
theorem Lq.slice {K : PySem.W.Frag} {H : Hp} {l : Addr} {ds : List PyData} {lo hi : Option Int} {Q : VK} (h : Lq K H l ds) (q : ∀ p H', H p = none → Fr [] H H' → Lq K H' p (cutA ds lo hi) → Q (.ref p) H') : rSlU K (.ref l) lo hi H Q := by
  obtain ⟨vs, e, a⟩ := h
  exact w_slL (SqL.of e) fun p hp => q p _ hp (Fr.new hp) ⟨_, upd_same, (a.cut lo hi).mono (Tu.new hp)⟩
theorem cutA_full {α : Type} {xs : List α} {lo hi : Option Int} (h : HT.sIx xs.length 0 lo = 0 ∧ HT.sIx xs.length xs.length hi = xs.length) : cutA xs lo hi = xs := by
  unfold cutA
  rw [h.1, h.2, List.drop_zero, Nat.sub_zero, List.take_length]
theorem Dt.slice {K : PySem.W.Frag} {H : Hp} {v : V} {ds : List PyData} {lo hi : Option Int} {Q : VK} (h : Dt K H v (.tuple ds)) (q : ∀ p H', Fr [] H H' → Dt K H' (.ref p) (.tuple (cutA ds lo hi)) → Q (.ref p) H') : rSlU K v lo hi H Q := by
  obtain ⟨p, vs, rfl, s, a⟩ := h.tuple
  refine .inl (.inr ⟨p, vs, rfl, s, fun z => ?_, fun _ p' hp => ?_⟩)
  · rw [a.length] at z
    refine q p H Fr.refl ?_
    rw [cutA_full z]
    exact h
  · exact q p' _ (Fr.new hp) (.tup (.inl (.inl upd_same)) ((a.cut lo hi).mono (Tu.new hp)))
theorem Dt.cat {K : PySem.W.Frag} {H : Hp} {v u : V} {ds es : List PyData} {Q : VK} (h : Dt K H v (.tuple ds)) (h' : Dt K H u (.tuple es)) (n : ds.length + es.length ≤ 1000) (q : ∀ p H', Fr [] H H' → Dt K H' (.ref p) (.tuple (ds ++ es)) → Q (.ref p) H') : rAddU K v u H Q := by
  obtain ⟨p, vs, rfl, s, a⟩ := h.tuple
  obtain ⟨p', us, rfl, s', a'⟩ := h'.tuple
  refine .inr (.inl ⟨p, p', vs, us, rfl, rfl, s, s', Nat.le_trans (show _ ≤ 1000 by rw [a.length, a'.length]; exact n) (by decide), fun z => ?_, fun _ z => ?_, fun _ _ r hr => ?_⟩)
  · subst z
    cases a
    exact q p' H Fr.refl h'
  · subst z
    cases a'
    refine q p H Fr.refl ?_
    rw [List.append_nil]
    exact h
  · exact q r _ (Fr.new hr) (.tup (.inl (.inl upd_same)) ((a.append a').mono (Tu.new hr)))
theorem Lq.cat {K : PySem.W.Frag} {H : Hp} {l m : Addr} {ds es : List PyData} {Q : VK} (h : Lq K H l ds) (h' : Lq K H m es) (n : ds.length + es.length ≤ 100000) (q : ∀ p H', H p = none → Fr [] H H' → Lq K H' p (ds ++ es) → Q (.ref p) H') : rAddU K (.ref l) (.ref m) H Q := by
  obtain ⟨vs, e, a⟩ := h
  obtain ⟨us, e', a'⟩ := h'
  exact w_addL e e' (by rw [a.length, a'.length]; omega) fun p hp => q p _ hp (Fr.new hp) ⟨_, upd_same, (a.append a').mono (Tu.new hp)⟩
theorem Lq.allB {K : PySem.W.Frag} {H : Hp} {l : Addr} {bs : List Bool} {Q : VK} (h : Lq K H l (bs.map PyData.bool)) (q : Q (.bl (bs.all id)) H) : rAll K [.ref l] H Q := by
  obtain ⟨vs, e, a⟩ := h
  have z : vs = bs.map V.bl := by
    clear e q
    induction bs generalizing vs with
    | nil => cases a; rfl
    | cons b r ih =>
      cases a with
      | cons a1 a2 => rw [a1.of_bl, ih _ a2]; rfl
  exact ⟨l, bs, rfl, SqL.of (by rw [e, z]), q⟩
theorem Lq.ints {K : PySem.W.Frag} {H : Hp} {l : Addr} {ns : List Int} (h : Lq K H l (ns.map PyData.int)) : H l = some (.lst (ns.map V.int)) := by
  obtain ⟨vs, e, a⟩ := h
  have z : vs = ns.map V.int := by
    clear e
    induction ns generalizing vs with
    | nil => cases a; rfl
    | cons b r ih =>
      cases a with
      | cons a1 a2 => rw [a1.of_int, ih _ a2]; rfl
  rw [e, z]
/-- what changed is new -/
theorem Fr.drop1 {S : List Addr} {H H1 H2 : Hp} {p : Addr} (hp : H p = none) (a : Fr S H H1) (b : Fr [p] H1 H2) : Fr S H H2 := fun x o e n => b x o (a x o e n) (by
  intro z
  rw [List.mem_singleton.mp z, hp] at e
  cases e)
/-- a comprehension with a test over a list of data: what is kept is the data's own filter -/
theorem LCF {K : PySem.W.Frag} {α : Type} {q : Addr} {H : Hp} {us : List V} {cs : List α} {dS : α → PyData} {j : Nat} {ws : List Nat} {σ : L2.St} {tt : TT} {te : TE} {Q : VK} (f : α → Bool) (g : α → PyData)
    (hq : H q = some (.lst us)) (hd : DtAll K H us (cs.map dS)) (lc : cs.length ≤ 100000) (hw : ∀ x, wipe ((wipe σ ws).set j (some x)) ws = wipe σ ws)
    (ht : ∀ c x H', c ∈ cs → Fr [] H H' → Dt K H' x (dS c) → ∀ QB : Bool → Hp → Prop, (∀ H2, Fr [] H' H2 → QB (f c) H2) → tt ((wipe σ ws).set j (some x)) H' QB)
    (he : ∀ c x H', c ∈ cs → Fr [] H H' → Dt K H' x (dS c) → f c = true → ∀ Q : VK, (∀ y H2, Fr [] H' H2 → Dt K H2 y (g c) → Q y H2) → te ((wipe σ ws).set j (some x)) H' Q)
    (k : ∀ D H', H D = none → Fr [] H H' → Lq K H' D ((cs.filter f).map g) → Q (.ref D) H') :
    ∃ a', V.ref q = .ref a' ∧ (∃ ys, SqL K H a' ys) ∧ ∀ D, H D = none → LC (Itl K a') (gName j) tt te ws σ D Q (upd H D (.lst [])) := by
  have lu : us.length = cs.length := by rw [hd.length, List.length_map]
  refine LC_L (SqL.of hq) fun D hD => LC_by (a := q) (xs := us) (fun i H' => Fr [] H H' ∧ Lq K H' D (((cs.take i).filter f).map g)) ⟨Fr.new hD, [], upd_same, .nil⟩ (fun i H' _ h => SqL.of (h.1 _ _ hq (by simp))) ?_ ?_
  · rintro i x H' hx ⟨f', ys, hys, dys⟩
    obtain ⟨d, h1, h2⟩ := (hd.mono f'.tu).get hx
    obtain ⟨c, h3, rfl⟩ := (by
      rw [List.getElem?_map] at h1
      cases e : cs[i]? with
      | none => rw [e] at h1; cases h1
      | some x => rw [e] at h1; exact ⟨x, rfl, Option.some.inj h1⟩ : ∃ c, cs[i]? = some c ∧ dS c = d)
    have mc := List.mem_of_getElem? h3
    have hi : i < us.length := (List.getElem?_eq_some_iff.mp hx).1
    have ly : ys.length ≤ i := by
      rw [dys.length, List.length_map]
      refine Nat.le_trans (List.length_filter_le _ _) ?_
      rw [List.length_take]
      omega
    refine ⟨hw x, ht c x H' mc f' h2 _ fun H2 f2 => ?_⟩
    cases hf : f c with
    | false =>
      rw [if_neg Bool.false_ne_true]
      refine ⟨f'.trans f2, ?_⟩
      rw [take_filt h3, hf]
      show Lq K H2 D ((List.filter f (cs.take i) ++ []).map g)
      rw [List.append_nil]
      exact Lq.fr0 ⟨ys, hys, dys⟩ f2
    | true =>
      rw [if_pos rfl]
      refine he c x H2 mc (f'.trans f2) (h2.mono f2.tu) hf _ fun y H3 f3 dy => ?_
      have f23 := f2.trans f3
      have e3 := f23 _ _ hys (by simp)
      refine ⟨ys, e3, Nat.lt_of_le_of_lt (show ys.length ≤ 100000 by omega) (by decide), Fr.new_mut hD ((f'.trans f23).mono (by simp) |>.trans (Fr.mut (by simp))), _, upd_same, ?_⟩
      rw [take_filt h3, hf, List.map_append]
      exact ((dys.mono f23.tu).append (.cons dy .nil)).mono (Tu.mut e3)
  · rintro H' ⟨f', L⟩
    rw [lu, List.take_length] at L
    exact k D H' hD f' L
theorem Lq.at {K : PySem.W.Frag} {H : Hp} {l : Addr} {ds : List PyData} {P : PyData → Prop} (h : Lq K H l ds) (hP : ∀ d ∈ ds, P d) {i : Int} (h0 : 0 ≤ i) (h1 : i < ds.length) {Q : VK} (q : ∀ v d, Dt K H v d → P d → ds[i.toNat]? = some d → Q v H) : rIx K (.ref l) (.int i) H Q := by
  obtain ⟨vs, e, a⟩ := h
  have ek : i = ((i.toNat : Nat) : Int) := by omega
  have hk : i.toNat < ds.length := by omega
  obtain ⟨v, hv, dv⟩ := a.get' (List.getElem?_eq_getElem hk)
  refine w_ixL (SqL.of e) ?_ (q v _ dv (hP _ (List.getElem_mem hk)) (List.getElem?_eq_getElem hk))
  rw [ek]
  exact atI_nat hv
/-- the last -/
theorem Lq.last {K : PySem.W.Frag} {H : Hp} {l : Addr} {ds : List PyData} {d : PyData} {Q : VK} (h : Lq K H l (ds ++ [d])) (q : ∀ v, Dt K H v d → Q v H) : rIx K (.ref l) (.int (-1)) H Q := by
  obtain ⟨vs, e, a⟩ := h
  have hl := a.length
  rw [List.length_append] at hl
  have hl : vs.length = ds.length + 1 := hl
  obtain ⟨v, hv, dv⟩ := a.get' (i := ds.length) (d := d) (by rw [List.getElem?_append_right (Nat.le_refl _), Nat.sub_self]; rfl)
  refine w_ixL (SqL.of e) ?_ (q v dv)
  unfold atI ixN
  rw [if_neg (by decide), if_pos (by omega)]
  show vs[((-1 : Int) + vs.length).toNat]? = some v
  rw [show ((-1 : Int) + vs.length).toNat = ds.length by omega]
  exact hv
/-- a for over such a list -/
theorem Lq.walk {K : PySem.W.Frag} {H : Hp} {l : Addr} {ds : List PyData} {σ : L2.St} {nx b c : L2.St → Hp → Prop} {rt : VK} {g : TG} {tb : TS} (h : Lq K H l ds) (Pv : Nat → L2.St → Hp → Prop) (h0 : Pv 0 σ H) (hl : ∀ i σ H', Pv i σ H' → Lq K H' l ds)
    (hs : ∀ i v d σ H', ds[i]? = some d → Dt K H' v d → Pv i σ H' → g v σ H' fun σ2 H2 => tb ⟨Pv (i + 1), rt, nx, Pv (i + 1)⟩ σ2 H2) (hd : ∀ σ H', Pv ds.length σ H' → nx σ H') :
    ∃ a', V.ref l = .ref a' ∧ (∃ ys, SqL K H a' ys) ∧ FOR (Itl K a') g tb ⟨nx, rt, b, c⟩ σ H := by
  obtain ⟨vs, e, a⟩ := id h
  refine ⟨l, rfl, ⟨vs, SqL.of e⟩, fun i m σ H => m = ds.length - i ∧ i ≤ ds.length ∧ Pv i σ H, ⟨_, rfl, Nat.zero_le _, h0⟩, ?_⟩
  rintro i m σ' H' ⟨rfl, hi, p⟩
  obtain ⟨us, eu, au⟩ := hl i σ' H' p
  by_cases hlt : i < ds.length
  · obtain ⟨v, hv, dv⟩ := au.get' (List.getElem?_eq_getElem hlt)
    refine .inr ⟨⟨us, v, SqL.of eu, hv⟩, Pv (i + 1), fun σ2 H2 p' => ⟨ds.length - (i + 1), by omega, rfl, hlt, p'⟩, fun x H2 y => ?_⟩
    obtain ⟨z, y⟩ := y
    subst z
    have ex : x = v := Option.some.inj ((y us (SqL.of eu)).symm.trans hv)
    subst ex
    exact hs i x _ σ' _ (List.getElem?_eq_getElem hlt) dv p
  · have z : i = ds.length := by omega
    subst z
    exact .inl ⟨⟨us, SqL.of eu, by rw [au.length]; exact Nat.le_refl _⟩, hd σ' H' p⟩
/-- .. backwards -/
theorem Lq.walkRev {K : PySem.W.Frag} {H : Hp} {l : Addr} {ds : List PyData} {σ : L2.St} {nx b c : L2.St → Hp → Prop} {rt : VK} {g : TG} {tb : TS} (h : Lq K H l ds) (Pv : Nat → L2.St → Hp → Prop) (h0 : Pv 0 σ H) (hl : ∀ i σ H', Pv i σ H' → Lq K H' l ds)
    (hs : ∀ i v d σ H', i < ds.length → ds[ds.length - 1 - i]? = some d → Dt K H' v d → Pv i σ H' → g v σ H' fun σ2 H2 => tb ⟨Pv (i + 1), rt, nx, Pv (i + 1)⟩ σ2 H2) (hd : ∀ σ H', Pv ds.length σ H' → nx σ H') :
    ∃ (a : Addr) (xs : List V), V.ref l = .ref a ∧ ((SqL K H a xs ∧ FOR (Itv K a xs.length) g tb ⟨nx, rt, b, c⟩ σ H) ∨ (SqT K H a xs ∧ FOR (RT.ItvT K a xs.length) g tb ⟨nx, rt, b, c⟩ σ H)) := by
  obtain ⟨vs, e, a⟩ := id h
  have lv := a.length
  refine ⟨l, vs, rfl, .inl ⟨SqL.of e, fun i m σ H => m = ds.length - i ∧ i ≤ ds.length ∧ Pv i σ H, ⟨_, rfl, Nat.zero_le _, h0⟩, ?_⟩⟩
  rintro i m σ' H' ⟨rfl, hi, p⟩
  obtain ⟨us, eu, au⟩ := hl i σ' H' p
  by_cases hlt : i < ds.length
  · have hj : ds.length - 1 - i < ds.length := by omega
    obtain ⟨v, hv, dv⟩ := au.get' (List.getElem?_eq_getElem hj)
    refine .inr ⟨⟨by omega, us, v, SqL.of eu, by rw [lv]; exact hv⟩, Pv (i + 1), fun σ2 H2 p' => ⟨ds.length - (i + 1), by omega, rfl, hlt, p'⟩, fun x H2 y => ?_⟩
    obtain ⟨z, y⟩ := y
    subst z
    have y2 := y us (SqL.of eu)
    rw [lv] at y2
    have ex : x = v := Option.some.inj (y2.symm.trans hv)
    subst ex
    exact hs i x _ σ' _ hlt (List.getElem?_eq_getElem hj) dv p
  · have z : i = ds.length := by omega
    subst z
    exact .inl ⟨by show vs.length ≤ _; omega, hd σ' H' p⟩
/-- .. with its number -/
theorem Lq.walkEnum {K : PySem.W.Frag} {H : Hp} {l : Addr} {ds : List PyData} {σ : L2.St} {nx b c : L2.St → Hp → Prop} {rt : VK} {g : TG} {tb : TS} (h : Lq K H l ds) (Pv : Nat → L2.St → Hp → Prop) (h0 : Pv 0 σ H) (hl : ∀ i σ H', Pv i σ H' → Lq K H' l ds)
    (hs : ∀ i t v d σ H' H2, ds[i]? = some d → Dt K H2 v d → Fr [] H' H2 → Pv i σ H' → SqT K H2 t [.int i, v] → g (.ref t) σ H2 fun σ2 H3 => tb ⟨Pv (i + 1), rt, nx, Pv (i + 1)⟩ σ2 H3) (hd : ∀ σ H', Pv ds.length σ H' → nx σ H') :
    ∃ a xs, [V.ref l] = [.ref a] ∧ SqL K H a xs ∧ FOR (Ite K a) g tb ⟨nx, rt, b, c⟩ σ H := by
  obtain ⟨vs, e, a⟩ := id h
  refine ⟨l, vs, rfl, SqL.of e, fun i m σ H => m = ds.length - i ∧ i ≤ ds.length ∧ Pv i σ H, ⟨_, rfl, Nat.zero_le _, h0⟩, ?_⟩
  rintro i m σ' H' ⟨rfl, hi, p⟩
  obtain ⟨us, eu, au⟩ := hl i σ' H' p
  by_cases hlt : i < ds.length
  · obtain ⟨v, hv, dv⟩ := au.get' (List.getElem?_eq_getElem hlt)
    refine .inr ⟨⟨us, v, SqL.of eu, hv⟩, Pv (i + 1), fun σ2 H2 p' => ⟨ds.length - (i + 1), by omega, rfl, hlt, p'⟩, fun x H2 y => ?_⟩
    obtain ⟨t, z, e1, ht, e2, y⟩ := y
    subst e1 e2
    have ex : z = v := Option.some.inj ((y us (SqL.of eu)).symm.trans hv)
    subst ex
    exact hs i t z _ σ' H' _ (List.getElem?_eq_getElem hlt) (dv.mono (Tu.new ht)) (Fr.new ht) p (.inl (.inl upd_same))
  · have z : i = ds.length := by omega
    subst z
    exact .inl ⟨⟨us, SqL.of eu, by rw [au.length]; exact Nat.le_refl _⟩, hd σ' H' p⟩
theorem map_get {α β : Type} {f : α → β} {xs : List α} {i : Nat} {y : β} (h : (xs.map f)[i]? = some y) : ∃ x, xs[i]? = some x ∧ f x = y := by
  rw [List.getElem?_map] at h
  cases e : xs[i]? with
  | none => rw [e] at h; cases h
  | some x => rw [e] at h; exact ⟨x, rfl, Option.some.inj h⟩
end U

namespace U
open PySem PySem.Spec PyProof.Rows L2
/-! ### texts: a sign, a part, sign by sign -/
section
variable {K : PySem.W.Frag} {H : Hp} {Q : VK} {i j : Int}
theorem w_ixS {z : Str} {c : Nat} (h : z.length ≤ sizeLine) (e : atI z.cps.toList i = some c) (q : Q (.str ⟨#[c]⟩) H) : rIx K (.str z) (.int i) H Q := .inr (.inr ⟨z, i, c, rfl, rfl, h, e, q⟩)
theorem w_inSign {c : Nat} {z : Str} (q : Q (.bl (decide (c ∈ z.cps.toList))) H) : rInU K (.str ⟨#[c]⟩) (.str z) H Q := .inr ⟨c, z, rfl, rfl, q⟩
theorem w_ninSign {c : Nat} {z : Str} (q : Q (.bl (!decide (c ∈ z.cps.toList))) H) : rNinU K (.str ⟨#[c]⟩) (.str z) H Q := .inr ⟨c, z, rfl, rfl, q⟩
theorem w_slS {z : Str} {lo hi : Option Int} (h : z.length ≤ sizeLine) (q : Q (.str (cutS z lo hi)) H) : rSlU K (.str z) lo hi H Q := .inr ⟨z, rfl, h, q⟩
def MkD (Q : VK) (H : Hp) : Prop := ∀ p, H p = none → Q (.ref p) (upd H p (.dK []))
theorem w_dnew {σ : L2.St} (q : MkD Q H) : tDNewK σ H Q := q
theorem w_iS {σ : L2.St} {te : TE} {R : It → Hp → Prop} (q : te σ H fun v H1 => ∃ x, v = .str x ∧ R (Its x) H1) : iStr te σ H R := q
theorem at_sign {z : Str} {p : Int} (h0 : 0 ≤ p) (h : p < z.length) : ∃ c, atI z.cps.toList p = some c ∧ c ∈ z.cps.toList := by
  have h1 : p.toNat < z.cps.toList.length := by
    rw [Array.length_toList]
    have : z.length = z.cps.size := rfl
    omega
  have ek : p = ((p.toNat : Nat) : Int) := by omega
  have key : atI z.cps.toList ((p.toNat : Nat) : Int) = some z.cps.toList[p.toNat] := atI_nat (List.getElem?_eq_getElem h1)
  rw [← ek] at key
  exact ⟨_, key, List.getElem_mem h1⟩
end
/-- a text of at most n signs, each of them one -/
def TxOk (n : Nat) (x : Str) : Prop := x.length ≤ n ∧ PyData.strOk x = true
theorem strOk_mem {x : Str} : PyData.strOk x = true ↔ ∀ c ∈ x.cps.toList, c < 0x110000 := by
  unfold PyData.strOk
  rw [← Array.all_toList, List.all_eq_true]
  constructor
  · intro h c hc; simpa using h c hc
  · intro h c hc; simpa using h c hc
theorem TxOk.mono {n m : Nat} {x : Str} (h : TxOk n x) (l : n ≤ m) : TxOk m x := ⟨Nat.le_trans h.1 l, h.2⟩
theorem TxOk.cat {n m : Nat} {a b : Str} (ha : TxOk n a) (hb : TxOk m b) : TxOk (n + m) (a ++ b) := by
  refine ⟨?_, strOk_mem.mpr fun c hc => ?_⟩
  · have e : (a ++ b).length = a.length + b.length := by
      show (a ++ b).cps.size = a.cps.size + b.cps.size
      rw [PySem.Str.cps_append, Array.size_append]
    have := ha.1
    have := hb.1
    omega
  · rw [PySem.Str.cps_append, Array.toList_append] at hc
    rcases List.mem_append.mp hc with h | h
    · exact strOk_mem.mp ha.2 c h
    · exact strOk_mem.mp hb.2 c h
theorem TxOk.cut {n : Nat} {a : Str} {lo hi : Option Int} (ha : TxOk n a) : TxOk n (cutS a lo hi) := by
  refine ⟨Nat.le_trans (cutS_length a lo hi) ha.1, strOk_mem.mpr fun c hc => ?_⟩
  unfold cutS at hc
  rw [List.toList_toArray] at hc
  exact strOk_mem.mp ha.2 c (List.mem_of_mem_drop (List.mem_of_mem_take hc))
theorem TxOk.sign {n : Nat} {a : Str} {c : Nat} (ha : TxOk n a) (h : c ∈ a.cps.toList) : TxOk 1 ⟨#[c]⟩ := by
  refine ⟨Nat.le_refl _, strOk_mem.mpr fun d hd => ?_⟩
  rw [List.mem_singleton.mp hd]
  exact strOk_mem.mp ha.2 c h
/-- a comprehension over a text, sign by sign -/
theorem LCS {K : PySem.W.Frag} {x : Str} {H : Hp} {j : Nat} {ws : List Nat} {σ : L2.St} {tt : TT} {te : TE} {Q : VK} (f : Nat → Bool) (g : Nat → PyData) (lx : x.length ≤ 100000)
    (hw : ∀ v, wipe ((wipe σ ws).set j (some v)) ws = wipe σ ws)
    (ht : ∀ c H', Fr [] H H' → ∀ QB : Bool → Hp → Prop, QB (f c) H' → tt ((wipe σ ws).set j (some (.str ⟨#[c]⟩))) H' QB)
    (he : ∀ c H', Fr [] H H' → f c = true → ∀ Q : VK, (∀ y, Dt K H' y (g c) → Q y H') → te ((wipe σ ws).set j (some (.str ⟨#[c]⟩))) H' Q)
    (k : ∀ D H', H D = none → Fr [] H H' → Lq K H' D ((x.cps.toList.filter f).map g) → Q (.ref D) H') :
    ∃ x', V.str x = .str x' ∧ ∀ D, H D = none → LC (Its x') (gName j) tt te ws σ D Q (upd H D (.lst [])) := by
  refine ⟨x, rfl, fun D hD => ?_⟩
  refine lc_it (walk_str (z := x)) (fun i H' => Fr [] H H' ∧ Lq K H' D (((x.cps.toList.take i).filter f).map g)) ⟨Fr.new hD, [], upd_same, .nil⟩ (fun _ _ _ _ => trivial) ?_ ?_
  · rintro i v H1 H' hi ⟨f', ys, hys, dys⟩ ⟨rfl, c, hc, rfl⟩
    have hcl : x.cps.toList[i]? = some c := by rw [Array.getElem?_toList]; exact hc
    have ly : ys.length ≤ i := by
      rw [dys.length, List.length_map]
      refine Nat.le_trans (List.length_filter_le _ _) ?_
      rw [List.length_take]
      omega
    have lz : x.cps.size ≤ 100000 := lx
    refine ⟨hw _, ht c H' f' _ ?_⟩
    cases hf : f c with
    | false =>
      rw [if_neg Bool.false_ne_true]
      refine ⟨f', ?_⟩
      rw [take_filt hcl, hf]
      show Lq K H' D ((List.filter f (x.cps.toList.take i) ++ []).map g)
      rw [List.append_nil]
      exact ⟨ys, hys, dys⟩
    | true =>
      rw [if_pos rfl]
      refine he c H' f' hf _ fun y dy => ?_
      refine ⟨ys, hys, Nat.lt_of_le_of_lt (show ys.length ≤ 100000 by omega) (by decide), Fr.new_mut hD ((f'.mono (by simp)).trans (Fr.mut (by simp))), _, upd_same, ?_⟩
      rw [take_filt hcl, hf, List.map_append]
      exact (dys.append (.cons dy .nil)).mono (Tu.mut hys)
  · rintro H' ⟨f', L⟩
    have e : List.take x.cps.size x.cps.toList = x.cps.toList := by
      rw [← Array.length_toList, List.take_length]
    rw [e] at L
    exact k D H' hD f' L
/-- a new list of any data -/
theorem mkG {K : PySem.W.Frag} {H : Hp} {xs : List V} {ds : List PyData} {Q : VK} (d : DgAll K H xs ds) (q : ∀ p H' vs, H p = none → Fr [] H H' → H' p = some (.lst vs) → DgAll K H' vs ds → Q (.ref p) H') (n : xs.length ≤ 1000 := by exact Nat.le_of_ble_eq_true rfl) : MkL xs Q H :=
  ⟨Nat.le_trans n (by decide), fun p hp => q p _ xs hp (Fr.new hp) upd_same (d.fr (Fr.new hp))⟩
theorem mkD {H : Hp} {Q : VK} (q : ∀ p H', H p = none → Fr [] H H' → H' p = some (.dK []) → Q (.ref p) H') : MkD Q H := fun p hp => q p _ hp (Fr.new hp) upd_same
end U

namespace U
open PySem PySem.Spec PyProof.Rows L2
/-! ### a for over a tuple of data, comprehensions with any target and test -/
section
variable {K : PySem.W.Frag}
theorem Dt.walk {H : Hp} {v : V} {ds : List PyData} {σ : L2.St} {nx b c : L2.St → Hp → Prop} {rt : VK} {g : TG} {tb : TS} (h : Dt K H v (.tuple ds)) (Pv : Nat → L2.St → Hp → Prop) (h0 : Pv 0 σ H) (hl : ∀ i σ H', Pv i σ H' → Tu H H')
    (hs : ∀ i u d σ H', ds[i]? = some d → Dt K H' u d → Pv i σ H' → g u σ H' fun σ2 H2 => tb ⟨Pv (i + 1), rt, nx, Pv (i + 1)⟩ σ2 H2) (hd : ∀ σ H', Pv ds.length σ H' → nx σ H') :
    ∃ a, v = .ref a ∧ (∃ xs, SqT K H a xs) ∧ FOR (Itt K a) g tb ⟨nx, rt, b, c⟩ σ H := by
  obtain ⟨a, vs, rfl, s, av⟩ := h.tuple
  have e := av.length
  refine ⟨a, rfl, ⟨vs, s⟩, for_tup (D := ⟨nx, rt, b, c⟩) (xs := vs) Pv h0 (fun i σ H' _ p => (hl i σ H' p).seqT s) (fun i x σ H' hx p => ?_) (fun σ H' p => hd σ H' (by rw [← e]; exact p))⟩
  obtain ⟨d, h1, h2⟩ := (av.mono (hl i σ H' p)).get hx
  exact hs i x d σ H' h1 h2 p
theorem LCX_L {α : Type} {q : Addr} {H : Hp} {cs : List α} {dS : α → PyData} {ws : List Nat} {σ : L2.St} {tg : TG} {tt : TT} {te : TE} {Q : VK} (f : α → Bool) (g : α → PyData)
    (h : Lq K H q (cs.map dS)) (lc : cs.length ≤ 100000)
    (hs : ∀ (c : α) (x : V) (H' : Hp) (KEEP : VK) (DROP : Hp → Prop), c ∈ cs → Fr [] H H' → Dt K H' x (dS c) → (f c = true → ∀ y H4, Fr [] H' H4 → Dt K H4 y (g c) → KEEP y H4) → (f c = false → ∀ H4, Fr [] H' H4 → DROP H4) →
      tg x (wipe σ ws) H' fun σ2 H2 => wipe σ2 ws = wipe σ ws ∧ tt σ2 H2 fun k H3 => if k = true then te σ2 H3 KEEP else DROP H3)
    (k : ∀ D H', H D = none → Fr [] H H' → Lq K H' D ((cs.filter f).map g) → Q (.ref D) H') :
    ∃ a', V.ref q = .ref a' ∧ (∃ ys, SqL K H a' ys) ∧ ∀ D, H D = none → LC (Itl K a') tg tt te ws σ D Q (upd H D (.lst [])) := by
  obtain ⟨us, hq, hd⟩ := h
  have lu : us.length = cs.length := by rw [hd.length, List.length_map]
  refine LC_L (SqL.of hq) fun D hD => LC_by (a := q) (xs := us) (fun i H' => Fr [] H H' ∧ Lq K H' D (((cs.take i).filter f).map g)) ⟨Fr.new hD, [], upd_same, .nil⟩ (fun i H' _ h => SqL.of (h.1 _ _ hq (by simp))) ?_ ?_
  · rintro i x H' hx ⟨f', ys, hys, dys⟩
    obtain ⟨d, h1, h2⟩ := (hd.mono f'.tu).get hx
    obtain ⟨c, h3, rfl⟩ := map_get h1
    have hi : i < us.length := (List.getElem?_eq_some_iff.mp hx).1
    have ly : ys.length ≤ i := by
      rw [dys.length, List.length_map]
      refine Nat.le_trans (List.length_filter_le _ _) ?_
      rw [List.length_take]
      omega
    refine hs c x H' _ _ (List.mem_of_getElem? h3) f' h2 (fun hf y H4 f4 dy => ?_) (fun hf H4 f4 => ?_)
    · have e3 := f4 _ _ hys (by simp)
      refine ⟨ys, e3, Nat.lt_of_le_of_lt (show ys.length ≤ 100000 by omega) (by decide), Fr.new_mut hD ((f'.trans f4).mono (by simp) |>.trans (Fr.mut (by simp))), _, upd_same, ?_⟩
      rw [take_filt h3, hf, List.map_append]
      exact ((dys.mono f4.tu).append (.cons dy .nil)).mono (Tu.mut e3)
    · refine ⟨f'.trans f4, ?_⟩
      rw [take_filt h3, hf]
      show Lq K H4 D ((List.filter f (cs.take i) ++ []).map g)
      rw [List.append_nil]
      exact Lq.fr0 ⟨ys, hys, dys⟩ f4
  · rintro H' ⟨f', L⟩
    rw [lu, List.take_length] at L
    exact k D H' hD f' L
theorem LCX_T {α : Type} {v : V} {H : Hp} {cs : List α} {dS : α → PyData} {ws : List Nat} {σ : L2.St} {tg : TG} {tt : TT} {te : TE} {Q : VK} (f : α → Bool) (g : α → PyData)
    (h : Dt K H v (.tuple (cs.map dS))) (lc : cs.length ≤ 100000)
    (hs : ∀ (c : α) (x : V) (H' : Hp) (KEEP : VK) (DROP : Hp → Prop), c ∈ cs → Fr [] H H' → Dt K H' x (dS c) → (f c = true → ∀ y H4, Fr [] H' H4 → Dt K H4 y (g c) → KEEP y H4) → (f c = false → ∀ H4, Fr [] H' H4 → DROP H4) →
      tg x (wipe σ ws) H' fun σ2 H2 => wipe σ2 ws = wipe σ ws ∧ tt σ2 H2 fun k H3 => if k = true then te σ2 H3 KEEP else DROP H3)
    (k : ∀ D H', H D = none → Fr [] H H' → Lq K H' D ((cs.filter f).map g) → Q (.ref D) H') :
    ∃ a', v = .ref a' ∧ (∃ ys, SqT K H a' ys) ∧ ∀ D, H D = none → LC (Itt K a') tg tt te ws σ D Q (upd H D (.lst [])) := by
  obtain ⟨q, us, rfl, hq, hd⟩ := h.tuple
  have lu : us.length = cs.length := by rw [hd.length, List.length_map]
  refine LC_T hq fun D hD => ?_
  refine lc_it (walk_tup (K := K) (a := q) (xs := us)) (fun i H' => Fr [] H H' ∧ Lq K H' D (((cs.take i).filter f).map g)) ⟨Fr.new hD, [], upd_same, .nil⟩ (fun i H' _ h => h.1.seqT hq (by simp)) ?_ ?_
  · rintro i x H0' H' hi ⟨f', ys, hys, dys⟩ ⟨rfl, hx⟩
    obtain ⟨d, h1, h2⟩ := (hd.mono f'.tu).get hx
    obtain ⟨c, h3, rfl⟩ := map_get h1
    have ly : ys.length ≤ i := by
      rw [dys.length, List.length_map]
      refine Nat.le_trans (List.length_filter_le _ _) ?_
      rw [List.length_take]
      omega
    refine hs c x _ _ _ (List.mem_of_getElem? h3) f' h2 (fun hf y H4 f4 dy => ?_) (fun hf H4 f4 => ?_)
    · have e3 := f4 _ _ hys (by simp)
      refine ⟨ys, e3, Nat.lt_of_le_of_lt (show ys.length ≤ 100000 by omega) (by decide), Fr.new_mut hD ((f'.trans f4).mono (by simp) |>.trans (Fr.mut (by simp))), _, upd_same, ?_⟩
      rw [take_filt h3, hf, List.map_append]
      exact ((dys.mono f4.tu).append (.cons dy .nil)).mono (Tu.mut e3)
    · refine ⟨f'.trans f4, ?_⟩
      rw [take_filt h3, hf]
      show Lq K H4 D ((List.filter f (cs.take i) ++ []).map g)
      rw [List.append_nil]
      exact Lq.fr0 ⟨ys, hys, dys⟩ f4
  · rintro H' ⟨f', L⟩
    rw [lu, List.take_length] at L
    exact k D H' hD f' L
/-- extend by a list of data -/
theorem Lq.extend {H : Hp} {l m : Addr} {ds es : List PyData} {Q : VK} (h : Lq K H l ds) (h' : Lq K H m es) (n : ds.length + es.length ≤ 100000) (q : ∀ H', Fr [l] H H' → Tu H H' → Lq K H' l (ds ++ es) → Q .non H') : rExtend (.ref l) [.ref m] H Q := by
  obtain ⟨vs, e, a⟩ := h
  obtain ⟨us, e', a'⟩ := h'
  refine ⟨l, m, vs, us, rfl, rfl, e, e', Nat.le_trans (show _ ≤ 100000 by rw [a.length, a'.length]; exact n) (by decide), ?_⟩
  exact q _ (Fr.mut (by simp)) (Tu.mut e) ⟨_, upd_same, (a.append a').mono (Tu.mut e)⟩
/-- tuple(list) -/
theorem Lq.tuple {H : Hp} {l : Addr} {ds : List PyData} {Q : VK} (h : Lq K H l ds) (q : ∀ p H', Fr [] H H' → Dt K H' (.ref p) (.tuple ds) → Q (.ref p) H') : rTupleU K [.ref l] H Q := by
  obtain ⟨vs, e, a⟩ := h
  exact w_tupleL (SqL.of e) fun p hp => q p _ (Fr.new hp) (.tup (.inl (.inl upd_same)) (a.mono (Tu.new hp)))
/-- a part of a tuple, the first of a list -/
theorem Dt.ix {H : Hp} {v : V} {ds : List PyData} {d : PyData} {i : Int} {Q : VK} (n : Nat) (h : Dt K H v (.tuple ds)) (e : ds[n]? = some d) (q : ∀ u, Dt K H u d → Q u H) (hi : i = (n : Int) := by rfl) : rIx K v (.int i) H Q := by
  obtain ⟨p, vs, rfl, s, a⟩ := h.tuple
  obtain ⟨u, hu, du⟩ := a.get' e
  subst hi
  exact w_ixT s (atI_nat hu) (q u du)
theorem Lq.ix {H : Hp} {l : Addr} {ds : List PyData} {d : PyData} {i : Int} {Q : VK} (n : Nat) (h : Lq K H l ds) (e : ds[n]? = some d) (q : ∀ u, Dt K H u d → Q u H) (hi : i = (n : Int) := by rfl) : rIx K (.ref l) (.int i) H Q := by
  obtain ⟨vs, s, a⟩ := h
  obtain ⟨u, hu, du⟩ := a.get' e
  subst hi
  exact w_ixL (SqL.of s) (atI_nat hu) (q u du)
theorem Lq.nin {H : Hp} {l : Addr} {x : V} {ds : List PyData} {d : PyData} {Q : VK} (h : Lq K H l ds) (hx : Dt K H x d) (sd : SeqAt.shaped d = true) (sl : SeqAt.shaped (.list ds) = true) (q : Q (.bl (!ds.any fun z => PyData.eqv z d)) H) : rNinU K x (.ref l) H Q := .inl (.inr ⟨d, ds, hx.dp, h.dp, sd, sl, q⟩)
theorem Lq.isin {H : Hp} {l : Addr} {x : V} {ds : List PyData} {d : PyData} {Q : VK} (h : Lq K H l ds) (hx : Dt K H x d) (sd : SeqAt.shaped d = true) (sl : SeqAt.shaped (.list ds) = true) (q : Q (.bl (ds.any fun z => PyData.eqv z d)) H) : rInU K x (.ref l) H Q := .inl (.inr ⟨d, ds, hx.dp, h.dp, sd, sl, q⟩)
theorem Dt.isTuple {H : Hp} {v : V} {ds : List PyData} {Q : VK} (h : Dt K H v (.tuple ds)) (q : Q (.bl true) H) : rIsi K [v, .ty "tuple"] H Q := by
  obtain ⟨p, vs, rfl, s, a⟩ := h.tuple
  exact isT_tuple s q
theorem w_iRevR {σ : L2.St} {H : Hp} {te : TE} {R : It → Hp → Prop} (q : te σ H fun x H1 => ∃ n, x = .int n ∧ (-(2 ^ 62) ≤ (0 : Int) ∧ (0 : Int) < 2 ^ 62 ∧ -(2 ^ 62) ≤ n ∧ n < 2 ^ 62 ∧ R (Itc (0 + (((n - 0).toNat : Nat) : Int) - 1) (-1) (n - 0).toNat) H1)) : iRevR (tRg1 te) σ H R := q
theorem F_RevR {σ : L2.St} {H : Hp} {nx b c : L2.St → Hp → Prop} {rt : VK} {g : TG} {tb : TS} (n : Nat) (hn : n ≤ 100000) (Pv : Nat → L2.St → Hp → Prop) (h0 : Pv 0 σ H)
    (hs : ∀ i σ H, i < n → Pv i σ H → g (.int ((n - 1 - i : Nat) : Int)) σ H fun σ2 H2 => tb ⟨Pv (i + 1), rt, nx, Pv (i + 1)⟩ σ2 H2) (hd : ∀ σ H, Pv n σ H → nx σ H) :
    -(2 ^ 62) ≤ (0 : Int) ∧ (0 : Int) < 2 ^ 62 ∧ -(2 ^ 62) ≤ (n : Int) ∧ (n : Int) < 2 ^ 62 ∧ FOR (Itc (0 + ((((n : Int) - 0).toNat : Nat) : Int) - 1) (-1) ((n : Int) - 0).toNat) g tb ⟨nx, rt, b, c⟩ σ H := by
  refine ⟨by decide, by decide, by omega, by omega, ?_⟩
  have e : ((n : Int) - 0).toNat = n := by omega
  rw [e]
  refine for_it (D := ⟨nx, rt, b, c⟩) (walk_rangeC (lo := 0 + (n : Int) - 1) (c := -1) (n := n)) Pv h0 (fun _ _ _ _ _ => trivial) (fun i x σ H H' hi p y => ?_) (fun σ H p => hd σ H p)
  obtain ⟨rfl, rfl⟩ := y
  have z := hs i σ H' hi p
  rw [show ((n - 1 - i : Nat) : Int) = 0 + (n : Int) - 1 + ((i : Nat) : Int) * -1 by omega] at z
  exact z
def rIns : V → List V → Hp → VK → Prop := fun x vs H Q => ∃ (l : Addr) (xs : List V) (i : Int) (y : V), x = .ref l ∧ vs = [.int i, y] ∧ H l = some (.lst xs) ∧ xs.length < sizeLine ∧ 0 ≤ i ∧ i < 2 ^ 63 ∧ Q .non (upd H l (.lst (xs.take i.toNat ++ [y] ++ xs.drop i.toNat)))
theorem mt_insU {X : Cx} : MtR X "list.insert" rIns := mt_insert
theorem Lq.insert {H : Hp} {l : Addr} {ds : List PyData} {i : Int} {y : V} {d : PyData} {Q : VK} (h : Lq K H l ds) (hy : Dt K H y d) (n : ds.length ≤ 100000) (h0 : 0 ≤ i) (h1 : i < 2 ^ 63) (q : ∀ H', Fr [l] H H' → Tu H H' → Lq K H' l (ds.take i.toNat ++ [d] ++ ds.drop i.toNat) → Q .non H') : rIns (.ref l) [.int i, y] H Q := by
  obtain ⟨vs, e, a⟩ := h
  refine ⟨l, vs, i, y, rfl, rfl, e, Nat.lt_of_le_of_lt (show vs.length ≤ 100000 by rw [a.length]; exact n) (by decide), h0, h1, ?_⟩
  exact q _ (Fr.mut (by simp)) (Tu.mut e) ⟨_, upd_same, (((a.take _).append (.cons hy .nil)).append (a.drop _)).mono (Tu.mut e)⟩
end
end U

/-! dicts whose keys are tuples of data, nested -/
namespace U
open PySem PySem.Spec PyProof.Rows L2
mutual
/-- data as a key of the library -/
def nk : PyData → NestedKey
  | .none => .none
  | .bool b => .num (if b then 1 else 0)
  | .int i => .num i
  | .str x => .text x
  | .tuple ds => .tup (nkAll ds)
  | _ => .none
def nkAll : List PyData → List NestedKey
  | [] => []
  | d :: r => nk d :: nkAll r
end
mutual
/-- data that is a key, no truths in it -/
def kd : PyData → Bool
  | .none => true
  | .int _ => true
  | .str _ => true
  | .tuple ds => kdAll ds
  | _ => false
def kdAll : List PyData → Bool
  | [] => true
  | d :: r => kd d && kdAll r
end
mutual
theorem nk_depth : ∀ d : PyData, kd d = true → NestedKey.depth (nk d) ≤ d.depth
  | .none, _ => by simp [nk, NestedKey.depth]
  | .int _, _ => by simp [nk, NestedKey.depth]
  | .str _, _ => by simp [nk, NestedKey.depth]
  | .tuple ds, h => by
    have := nkAll_depth ds (by simpa [kd] using h)
    simp only [nk, NestedKey.depth, PyData.depth]
    omega
theorem nkAll_depth : ∀ ds : List PyData, kdAll ds = true → NestedKey.depthAll (nkAll ds) ≤ PyData.depthAll ds
  | [], _ => by simp [nkAll, NestedKey.depthAll]
  | d :: r, h => by
    simp only [kdAll, Bool.and_eq_true] at h
    have h1 := nk_depth d h.1
    have h2 := nkAll_depth r h.2
    simp only [nkAll, NestedKey.depthAll, PyData.depthAll]
    omega
end
mutual
theorem nk_inj : ∀ a b : PyData, kd a = true → kd b = true → nk a = nk b → a = b
  | .none, b, _, hb, h => by cases b <;> simp [nk, kd] at h hb ⊢
  | .int i, b, _, hb, h => by cases b <;> simp [nk, kd] at h hb ⊢; exact h
  | .str x, b, _, hb, h => by cases b <;> simp [nk, kd] at h hb ⊢; exact h
  | .tuple ds, b, ha, hb, h => by
    cases b <;> simp [nk, kd] at h hb ha ⊢
    exact nkAll_inj ds _ ha hb h
theorem nkAll_inj : ∀ a b : List PyData, kdAll a = true → kdAll b = true → nkAll a = nkAll b → a = b
  | [], b, _, _, h => by cases b <;> simp [nkAll] at h ⊢
  | d :: r, b, ha, hb, h => by
    cases b with
    | nil => simp [nkAll] at h
    | cons e t =>
      simp only [kdAll, Bool.and_eq_true] at ha hb
      simp only [nkAll, List.cons.injEq] at h
      rw [nk_inj d e ha.1 hb.1 h.1, nkAll_inj r t ha.2 hb.2 h.2]
end
mutual
theorem nested_of {h : Heap} : ∀ {u : Value} {d : PyData} {as : List Addr}, Reads h u d as → kd d = true → NestedIs h (nk d) u
  | _, _, _, .none, _ => .none
  | _, _, _, .bool b, k => by simp [kd] at k
  | _, _, _, .int i t, _ => .int i t
  | _, _, _, .str x t, _ => .text x t
  | _, _, _, .list _ _ _ _, k => by simp [kd] at k
  | _, _, _, .tuple g c e a, k => .tup g c e (nestedAll_of a (by simpa [kd] using k))
  | _, _, _, .dict _ _ _ _ _, k => by simp [kd] at k
theorem nestedAll_of {h : Heap} : ∀ {us : List Value} {ds : List PyData} {as : List Addr}, ReadsAll h us ds as → kdAll ds = true → NestedAll h (nkAll ds) us
  | _, _, _, .nil, _ => .nil
  | _, _, _, .cons a b, k => by
    simp only [kdAll, Bool.and_eq_true] at k
    exact .cons (nested_of a k.1) (nestedAll_of b k.2)
end
/-- keys told as data -/
structure KeyD {α : Type} (dS : α → PyData) : Prop where
  kd : ∀ a, kd (dS a) = true
  dp : ∀ a, (dS a).depth ≤ 8
  inj : ∀ a b, dS a = dS b → a = b
theorem KeyD.nk {α : Type} {dS : α → PyData} (D : KeyD dS) {a b : α} (h : nk (dS a) = nk (dS b)) : a = b := D.inj a b (nk_inj _ _ (D.kd a) (D.kd b) h)
section
variable {α : Type} [DecidableEq α]
def atN (kvs : List (α × V)) (a : α) : Option V := (kvs.find? fun kv => decide (kv.1 = a)).map (·.2)
def putN (kvs : List (α × V)) (a : α) (v : V) : List (α × V) := if (atN kvs a).isSome then kvs.map (fun kv => if kv.1 = a then (kv.1, v) else kv) else kvs ++ [(a, v)]
def dropN (kvs : List (α × V)) (a : α) : List (α × V) := kvs.filter fun kv => decide (kv.1 ≠ a)
end
def atO (d : Addr) (o : Obj) : HO := .ext fun h => h.get? d = some o
/-- an entry and what stands in the heap -/
def RkN {α : Type} (K : PySem.W.Frag) (H : Hp) (dS : α → PyData) (kv : α × V) (x : NestedKey × Addr × Value) : Prop := Dt K H (.ref x.2.1) (dS kv.1) ∧ x.1 = nk (dS kv.1) ∧ RelV kv.2 x.2.2
structure DNx {α : Type} (P : Program) (w : World) (K : PySem.W.Frag) (dS : α → PyData) (H : Hp) (d : Addr) (kvs : List (α × V)) (xs : List (NestedKey × Addr × Value)) (o : Obj) : Prop where
  there : H d = some (atO d o)
  nosys : (d == sysModules) = false
  exact : o.ExactDict
  data : ∃ es ep, o.data = .dict es ep ∧ es.toList = xs.map (entryOfKey (nestedKind P w))
  keys : Paired (RkN K H dS) kvs xs
  nodup : (xs.map (·.1)).Nodup
/-- at d a dict of kvs, in order -/
def DN {α : Type} (P : Program) (w : World) (K : PySem.W.Frag) (dS : α → PyData) (H : Hp) (d : Addr) (kvs : List (α × V)) : Prop := (kvs = [] ∧ H d = some (.dK [])) ∨ ∃ xs o, DNx P w K dS H d kvs xs o
section
variable {α : Type} {P : Program} {w : World} {K : PySem.W.Frag} {dS : α → PyData} {H H' : Hp} {d : Addr} {kvs : List (α × V)}
theorem Paired.imp {α β : Type} {F G : α → β → Prop} (h : ∀ a b, F a b → G a b) : ∀ {xs : List α} {ys : List β}, Paired F xs ys → Paired G xs ys
  | _, _, .nil => .nil
  | _, _, .cons a b => .cons (h _ _ a) (Paired.imp h b)
theorem RkN.mono (t : Tu H H') {kv : α × V} {x : NestedKey × Addr × Value} (h : RkN K H dS kv x) : RkN K H' dS kv x := ⟨h.1.mono t, h.2.1, h.2.2⟩
theorem DN.fr {S : List Addr} (h : DN P w K dS H d kvs) (f : Fr S H H') (n : d ∉ S) (t : Tu H H') : DN P w K dS H' d kvs := by
  rcases h with ⟨rfl, e⟩ | ⟨xs, o, D⟩
  · exact .inl ⟨rfl, f _ _ e n⟩
  · exact .inr ⟨xs, o, f _ _ D.there n, D.nosys, D.exact, D.data, Paired.imp (fun _ _ => RkN.mono t) D.keys, D.nodup⟩
theorem DN.fr0 (h : DN P w K dS H d kvs) (f : Fr [] H H') : DN P w K dS H' d kvs := h.fr f (by simp) f.tu
theorem Tu.dn (h : DN P w K dS H d kvs) (o : HO) : Tu H (upd H d o) := fun a ys => by
  have e : H d = some (.dK []) ∨ ∃ o, H d = some (atO d o) := by
    rcases h with ⟨_, e⟩ | ⟨xs, o, D⟩
    · exact .inl e
    · exact .inr ⟨_, D.there⟩
  refine ⟨fun z => ?_, fun o' z => ?_⟩ <;>
  · rw [upd_ne (by
      rintro rfl
      rcases e with e | ⟨_, e⟩ <;> rw [z] at e <;> cases e)]
    exact z
end
section
variable {α : Type} {X : Cx} {pins : List (Addr × Obj)} {σ : L2.St} {H : Hp} {s : Shared} {dS : α → PyData} {d a : Addr} {kvs : List (α × V)} {k : α}
theorem KeyD.is (D : KeyD dS) (I : Inv X pins σ H s) (h : Dt X.K H (.ref a) (dS k)) : (nestedKind X.prog X.w).is s.heap (U.nk (dS k)) a := by
  obtain ⟨as, r⟩ := Dp.reads I (dS k) (.ref a) (.ref a) h.dp rfl
  exact ⟨nested_of r (D.kd k), Nat.le_trans (nk_depth _ (D.kd k)) (D.dp k)⟩
theorem Paired.right {α β : Type} {F : α → β → Prop} : ∀ {xs : List α} {ys : List β}, Paired F xs ys → ∀ y ∈ ys, ∃ x, F x y
  | _, _, .nil, y, h => by simp at h
  | _, _, .cons a b, y, h => by
    rcases List.mem_cons.mp h with rfl | h
    · exact ⟨_, a⟩
    · exact Paired.right b y h
theorem DN.heap (D : KeyD dS) (I : Inv X pins σ H s) (h : DN X.prog X.w X.K dS H d kvs) : ∃ xs, s.heap.DictOfH (nestedKind X.prog X.w) d xs ∧ Paired (RkN X.K H dS) kvs xs ∧ (d == sysModules) = false ∧ Mut (H d) := by
  rcases h with ⟨rfl, e⟩ | ⟨xs, o, N⟩
  · obtain ⟨_, n, vs, kv, o, es, ep, ho, hex, hd, _, pr, _⟩ := I.hok d _ e
    cases kv
    have z : es.toList = [] := by
      generalize es.toList = l at pr
      cases pr
      rfl
    exact ⟨[], ⟨o, es, ep, ho, hex, hd, by rw [z]; rfl, by simp, by simp⟩, .nil, n, by rw [e]; trivial⟩
  · obtain ⟨ho, _⟩ := I.hok d _ N.there
    obtain ⟨es, ep, hd, ht⟩ := N.data
    refine ⟨xs, ⟨o, es, ep, ho, N.exact, hd, ht, ?_, N.nodup⟩, N.keys, N.nosys, by rw [N.there]; trivial⟩
    intro x hx
    obtain ⟨kv, r⟩ := Paired.right N.keys x hx
    rw [r.2.1]
    exact D.is I r.1
end
section
variable {α : Type} [DecidableEq α] {K : PySem.W.Frag} {H : Hp} {dS : α → PyData}
theorem at_paired (D : KeyD dS) (k : α) : ∀ {kvs : List (α × V)} {xs : List (NestedKey × Addr × Value)}, Paired (RkN K H dS) kvs xs → (atN kvs k = none ∧ atKey xs (nk (dS k)) = none) ∨ ∃ v p u, atN kvs k = some v ∧ atKey xs (nk (dS k)) = some (p, u) ∧ RelV v u
  | _, _, .nil => .inl ⟨rfl, rfl⟩
  | _, _, .cons (a := kv) (b := x) r b => by
    unfold atN atKey
    rw [List.find?_cons, List.find?_cons]
    by_cases h : kv.1 = k
    · have h2 : x.1 = nk (dS k) := by rw [r.2.1, h]
      rw [decide_eq_true h, decide_eq_true h2]
      exact .inr ⟨kv.2, x.2.1, x.2.2, rfl, rfl, r.2.2⟩
    · have h2 : ¬ x.1 = nk (dS k) := fun z => h (D.nk (r.2.1.symm.trans z))
      rw [decide_eq_false h, decide_eq_false h2]
      exact at_paired D k b
theorem atN_isSome (D : KeyD dS) (k : α) {kvs : List (α × V)} {xs : List (NestedKey × Addr × Value)} (h : Paired (RkN K H dS) kvs xs) : (atKey xs (nk (dS k))).isSome = (atN kvs k).isSome := by
  rcases at_paired D k h with ⟨e, f⟩ | ⟨v, p, u, e, f, _⟩ <;> rw [e, f] <;> rfl
theorem Paired.snoc {α β : Type} {F : α → β → Prop} {x : α} {y : β} (h : F x y) : ∀ {xs : List α} {ys : List β}, Paired F xs ys → Paired F (xs ++ [x]) (ys ++ [y])
  | _, _, .nil => .cons h .nil
  | _, _, .cons a b => .cons a (Paired.snoc h b)
theorem put_map (D : KeyD dS) (k : α) {v : V} {u : Value} (rv : RelV v u) : ∀ {kvs : List (α × V)} {xs : List (NestedKey × Addr × Value)}, Paired (RkN K H dS) kvs xs → Paired (RkN K H dS) (kvs.map (fun kv => if kv.1 = k then (kv.1, v) else kv)) (xs.map (putAt (nk (dS k)) u))
  | _, _, .nil => .nil
  | _, _, .cons (a := kv) (b := x) r b => by
    refine .cons ?_ (put_map D k rv b)
    show RkN K H dS (if kv.1 = k then (kv.1, v) else kv) (if x.1 = nk (dS k) then (x.1, x.2.1, u) else x)
    by_cases h : kv.1 = k
    · have h2 : x.1 = nk (dS k) := by rw [r.2.1, h]
      rw [if_pos h, if_pos h2]
      exact ⟨r.1, r.2.1, rv⟩
    · have h2 : ¬ x.1 = nk (dS k) := fun z => h (D.nk (r.2.1.symm.trans z))
      rw [if_neg h, if_neg h2]
      exact r
theorem put_paired (D : KeyD dS) {k : α} {a : Addr} {v : V} {u : Value} (hk : Dt K H (.ref a) (dS k)) (rv : RelV v u) {kvs : List (α × V)} {xs : List (NestedKey × Addr × Value)} (h : Paired (RkN K H dS) kvs xs) : Paired (RkN K H dS) (putN kvs k v) (storedH xs (nk (dS k)) a u) := by
  unfold putN storedH
  rw [atN_isSome D k h]
  by_cases e : (atN kvs k).isSome = true
  · rw [if_pos e, if_pos e]
    exact put_map D k rv h
  · rw [if_neg e, if_neg e]
    exact Paired.snoc ⟨hk, rfl, rv⟩ h
theorem drop_paired (D : KeyD dS) {k : α} : ∀ {kvs : List (α × V)} {xs : List (NestedKey × Addr × Value)}, Paired (RkN K H dS) kvs xs → Paired (RkN K H dS) (dropN kvs k) (withoutH xs (nk (dS k)))
  | _, _, .nil => .nil
  | _, _, .cons (a := kv) (b := x) r b => by
    unfold dropN withoutH
    rw [List.filter_cons, List.filter_cons]
    by_cases h : kv.1 = k
    · have h2 : x.1 = nk (dS k) := by rw [r.2.1, h]
      rw [if_neg (by simpa using h), if_neg (by simpa using h2)]
      exact drop_paired D b
    · have h2 : ¬ x.1 = nk (dS k) := fun z => h (D.nk (r.2.1.symm.trans z))
      rw [if_pos (by simpa using h), if_pos (by simpa using h2)]
      exact .cons r (drop_paired D b)
end
/-! ### rules -/
section
variable {α : Type} [DecidableEq α] {X : Cx} {P : Program} {w : World} {K : PySem.W.Frag} {dS : α → PyData}
theorem Paired.len {α β : Type} {F : α → β → Prop} : ∀ {xs : List α} {ys : List β}, Paired F xs ys → xs.length = ys.length
  | _, _, .nil => rfl
  | _, _, .cons _ b => by rw [List.length_cons, List.length_cons, Paired.len b]
theorem valueAt_pairs (k : NestedKey) : ∀ xs : List (NestedKey × Addr × Value), (valueAt (pairsH xs) k).isSome = (atKey xs k).isSome
  | [] => rfl
  | x :: r => by
    have ih := valueAt_pairs k r
    unfold valueAt atKey pairsH at *
    rw [List.map_cons, List.find?_cons, List.find?_cons]
    by_cases h : x.1 = k
    · rw [decide_eq_true h]
      rfl
    · rw [decide_eq_false h]
      exact ih
def rInN (P : Program) (w : World) (K : PySem.W.Frag) (dS : α → PyData) : R2 := fun x y H Q => ∃ (d a : Addr) (kvs : List (α × V)) (k : α), x = .ref a ∧ y = .ref d ∧ DN P w K dS H d kvs ∧ Dt K H (.ref a) (dS k) ∧ Q (.bl (atN kvs k).isSome) H
def rNinN (P : Program) (w : World) (K : PySem.W.Frag) (dS : α → PyData) : R2 := fun x y H Q => ∃ (d a : Addr) (kvs : List (α × V)) (k : α), x = .ref a ∧ y = .ref d ∧ DN P w K dS H d kvs ∧ Dt K H (.ref a) (dS k) ∧ Q (.bl (!(atN kvs k).isSome)) H
theorem roomN {A : Around} (hu : A.units + 65 < cLine) : (nestedKind P w).room A.in1 := by
  show A.units + 1 + 8 < cLine
  omega
theorem op_inN (D : KeyD dS) (hu : X.A.units + 65 < cLine) : OpR X (compareOp .In) (rInN X.prog X.w X.K dS) := by
  intro pins s σ H x y v u Q I rx ry h
  obtain ⟨d, a, kvs, k, rfl, rfl, hd, hk, q⟩ := h
  cases rx
  cases ry
  obtain ⟨xs, hD, pr, ns, _⟩ := hd.heap D I
  refine wpAny_in_heap (roomN hu) (D.is I hk) ns hD ?_
  exact ⟨_, H, I.tok _, by rw [atN_isSome D k pr]; rfl, q⟩
theorem op_ninN (D : KeyD dS) (hu : X.A.units + 65 < cLine) : OpR X (compareOp .NotIn) (rNinN X.prog X.w X.K dS) := by
  intro pins s σ H x y v u Q I rx ry h
  obtain ⟨d, a, kvs, k, rfl, rfl, hd, hk, q⟩ := h
  cases rx
  cases ry
  obtain ⟨xs, hD, pr, ns, _⟩ := hd.heap D I
  refine notIn_keyed (knd := nestedKind X.prog X.w) (roomN hu) (D.is I hk) ns ⟨xs, hD, rfl⟩ ?_
  exact ⟨_, H, I.tok _, by rw [valueAt_pairs, atN_isSome D k pr]; rfl, q⟩
def rIxN (P : Program) (w : World) (K : PySem.W.Frag) (dS : α → PyData) : R2 := fun x y H Q => ∃ (d a : Addr) (kvs : List (α × V)) (k : α) (v : V), x = .ref d ∧ y = .ref a ∧ DN P w K dS H d kvs ∧ Dt K H (.ref a) (dS k) ∧ atN kvs k = some v ∧ Q v H
theorem ix_N (D : KeyD dS) (hu : X.A.units + 65 < cLine) : IxR X (rIxN X.prog X.w X.K dS) := by
  intro value slice pins s σ H x y v u Q I rx ry h hs
  obtain ⟨d, a, kvs, k, z, rfl, rfl, hd, hk, hv, q⟩ := h
  cases rx
  cases ry
  obtain ⟨xs, hD, pr, ns, _⟩ := hd.heap D I
  obtain ⟨o, es, ep, ho, hex, _⟩ := id hD
  rcases at_paired D k pr with ⟨e, f⟩ | ⟨v', p, u, e, f, r⟩
  · rw [hv] at e; cases e
  · rw [hv] at e
    cases e
    refine subscriptTail_builtinR (x := u) ⟨o, ho, hex.1⟩ F.slot_dict_getitem.lookup ?_ hs
    refine wpAny_getItem_heap (roomN hu) (D.is I hk) hD f ?_
    exact ⟨rfl, _, H, I.tok _, r, q⟩
def rSetN (P : Program) (w : World) (K : PySem.W.Frag) (dS : α → PyData) : TSet := fun o i v H Q => ∃ (d a : Addr) (kvs : List (α × V)) (k : α), o = .ref d ∧ i = .ref a ∧ DN P w K dS H d kvs ∧ Dt K H (.ref a) (dS k) ∧ kvs.length ≤ 100000 ∧ ∀ H', Fr [d] H H' → Tu H H' → DN P w K dS H' d (putN kvs k v) → Q H'
/-- behind a change -/
theorem DN.write {pins : List (Addr × Obj)} {σ : L2.St} {H : Hp} {s : Shared} {h' : Heap} {d : Addr} {kvs kvs' : List (α × V)} {xs' : List (NestedKey × Addr × Value)} {t' : Nat} (I : Inv X pins σ H s) (hd : DN X.prog X.w X.K dS H d kvs) (ns : (d == sysModules) = false) (m : Mut (H d)) (hD : h'.DictOfH (nestedKind X.prog X.w) d xs') (sb : Heap.SameBut d s.heap h') (pr : Paired (RkN X.K H dS) kvs' xs') :
    ∃ H', Inv X pins σ H' { s with heap := h', toks := t' } ∧ Fr [d] H H' ∧ Tu H H' ∧ DN X.prog X.w X.K dS H' d kvs' := by
  obtain ⟨o, es, ep, ho, hex, hda, hl, hi, hn⟩ := hD
  have t := Tu.dn hd (atO d o)
  refine ⟨upd H d (atO d o), I.write m (.inl rfl) (fun b u hb hu => ?_) ⟨o, ho⟩ ⟨ho, ⟨o, ho⟩, fun h1 h2 e f => f _ e⟩, Fr.mut (by simp), t, .inr ⟨xs', o, upd_same, ns, hex, ⟨es, ep, hda, hl⟩, Paired.imp (fun _ _ => RkN.mono t) pr, hn⟩⟩
  rw [sb.2 b hb]
  exact hu
theorem set_N (D : KeyD dS) (hu : X.A.units + 65 < cLine) : PSet X (rSetN X.prog X.w X.K dS) := by
  intro pins s σ H o i v ov iv u Q I ro ri rv h
  obtain ⟨d, a, kvs, k, rfl, rfl, hd, hk, n, q⟩ := h
  cases ro
  cases ri
  obtain ⟨xs, hD, pr, ns, m⟩ := hd.heap D I
  refine wpAny_setItem_heap (roomN hu) (D.is I hk) hD (fun h' hD' sb => ?_) (by rw [← Paired.len pr]; exact Nat.le_trans n (by decide))
  obtain ⟨H', I', f, t, d'⟩ := DN.write I hd ns m hD' sb (put_paired D hk rv pr)
  exact ⟨H', I', q H' f t d'⟩
def dictN (P : Program) (w : World) (K : PySem.W.Frag) (dS : α → PyData) : V → Hp → Prop := fun x H => ∃ (d : Addr) (kvs : List (α × V)), x = .ref d ∧ DN P w K dS H d kvs
theorem ty_N (D : KeyD dS) : TyOk X "dict" (dictN X.prog X.w X.K dS) := by
  intro pins σ H s x v I rx h
  obtain ⟨d, kvs, rfl, hd⟩ := h
  cases rx
  obtain ⟨xs, ⟨o, es, ep, ho, hex, _⟩, _⟩ := hd.heap D I
  refine ⟨⟨o, ho, hex.1⟩, fun a e => ?_⟩
  cases e
  exact ⟨o, ho, hex.2.1⟩
def rPopN (P : Program) (w : World) (K : PySem.W.Frag) (dS : α → PyData) : V → List V → Hp → VK → Prop := fun x vs H Q => ∃ (d a : Addr) (kvs : List (α × V)) (k : α) (v : V), x = .ref d ∧ vs = [.ref a] ∧ DN P w K dS H d kvs ∧ Dt K H (.ref a) (dS k) ∧ kvs.length ≤ 100000 ∧ atN kvs k = some v ∧ ∀ H', Fr [d] H H' → Tu H H' → DN P w K dS H' d (dropN kvs k) → Q v H'
theorem mt_popN (D : KeyD dS) (hu : X.A.units + 65 < cLine) : MtR X "dict.pop" (rPopN X.prog X.w X.K dS) := by
  intro pins s σ H x vs v us Q I rx rvs h
  obtain ⟨d, a, kvs, k, z, rfl, rfl, hd, hk, n, hv, q⟩ := h
  cases rx
  obtain ⟨_, _, ra, rn, rfl⟩ : ∃ u us', RelV (.ref a) u ∧ Vals [] us' ∧ us = u :: us' := by
    cases rvs with
    | cons r t => exact ⟨_, _, r, t, rfl⟩
  cases ra
  cases rn
  obtain ⟨xs, hD, pr, ns, m⟩ := hd.heap D I
  obtain ⟨o, es, ep, ho, hex, _⟩ := id hD
  rcases at_paired D k pr with ⟨e, f⟩ | ⟨v', p, u, e, f, r⟩
  · rw [hv] at e; cases e
  · rw [hv] at e
    cases e
    refine call_meetsIn F.slot_dict_pop ⟨o, ho, hex.1⟩ F.entry_dict_pop (F.args_dict_pop_2 _ _) (meetsH_dict_pop (nestedKind X.prog X.w) d a ns [] (.inl rfl)) ?_
    refine ⟨roomN hu, nk (dS k), xs, D.is I hk, hD, by rw [← Paired.len pr]; exact Nat.le_trans n (by decide), fun p' e' h' hD' sb => ?_, fun e' => ?_⟩
    · rw [f] at e'
      cases e'
      obtain ⟨H', I', f', t, d'⟩ := DN.write I hd ns m hD' sb (drop_paired D pr)
      exact ⟨_, H', I', r, q H' f' t d'⟩
    · rw [f] at e'
      cases e'
theorem get_size {h : Heap} {u : Obj} (e : h.get? h.objs.size = some u) : False := by
  unfold Heap.get? at e
  rw [Array.getElem?_eq_none (Nat.le_refl _)] at e
  cases e
theorem Paired.get {α β : Type} {F : α → β → Prop} : ∀ {xs : List α} {ys : List β}, Paired F xs ys → ∀ {i : Nat} {y : β}, ys[i]? = some y → ∃ x, xs[i]? = some x ∧ F x y
  | _, _, .nil, i, y, h => by simp at h
  | _, _, .cons a b, 0, y, h => by
    simp at h
    subst h
    exact ⟨_, rfl, a⟩
  | _, _, .cons a b, i + 1, y, h => by
    obtain ⟨x, h1, h2⟩ := Paired.get b (i := i) (by simpa using h)
    exact ⟨x, by simpa using h1, h2⟩
def rItemsN (P : Program) (w : World) (K : PySem.W.Frag) (dS : α → PyData) : V → List V → Hp → VK → Prop := fun x vs H Q => ∃ (d : Addr) (kvs : List (α × V)), x = .ref d ∧ vs = [] ∧ DN P w K dS H d kvs ∧ ∀ p, H p = none → Q (.ref p) (upd H p (DX.itemsO p d))
theorem mt_itemsN (D : KeyD dS) : MtR X "dict.items" (rItemsN X.prog X.w X.K dS) := by
  intro pins s σ H x vs v us Q I rx rvs h
  obtain ⟨d, kvs, rfl, rfl, hd, q⟩ := h
  cases rx
  cases rvs
  obtain ⟨xs, ⟨o, es, ep, ho, hex, hda, _⟩, _, ns, _⟩ := hd.heap D I
  refine call_meetsIn F.slot_dict_items ⟨o, ho, hex.1⟩ F.entry_dict_items (F.args_dict_items_1 _) (meets_dict_items_raw d ns) ⟨⟨es, ep, o, ho, hex, hda⟩, ?_⟩
  have hp := I.fresh
  have hg : Heap.get? (Heap.push s.heap { cls := Value.type "dict_items", data := Data.fields #[Value.ref d] }) s.heap.objs.size = some { cls := Value.type "dict_items", data := Data.fields #[Value.ref d] } := Heap.get?_push_size _ rfl
  refine ⟨.ref _, _, I.laid (a := s.heap.objs.size) (o := DX.itemsO s.heap.objs.size d) (fun b u hb => ?_) (Nat.le_refl _) (DX.itemsO_ok hg), rfl, q _ hp⟩
  rw [Heap.get?_push_ne]
  · exact hb
  · rintro rfl
    exact get_size hb
/-- the turns over its items -/
def ItN (d : Addr) (o : Obj) (ks : List (Addr × V)) : It where
  go i H := H d = some (atO d o) ∧ i < ks.length
  yld i H x H' := ∃ T b v, ks[i]? = some (b, v) ∧ x = .ref T ∧ H T = none ∧ H' = upd H T (.tup [.ref b, v])
  stop i H := H d = some (atO d o) ∧ i = ks.length
theorem turn_itemsN {elts : List Expr} {kk : Nat} {tpos : Pos} {d it : Addr} {o : Obj} {es : Array DictEntry} {ep : Nat} {ks : List (Addr × V)} (hex : o.ExactDict) (hda : o.data = .dict es ep) (hk : Paired (fun (k : Addr × V) (e : DictEntry) => e.key = .ref k.1 ∧ RelV k.2 e.val) ks es.toList) :
    Turn P w K (.Tuple elts kk tpos) (ItN d o ks) [it] it fun i h => ∃ ok ov, IsItemIter h it d i es.size ep ok ov where
  mem := by simp
  obj := fun i h t b hb => by
    obtain ⟨ok, ov, e⟩ := t
    rw [List.mem_singleton.mp hb]
    exact ⟨_, e, fun v z => by cases z⟩
  keep := fun i h h' t k => by
    obtain ⟨ok, ov, e⟩ := t
    exact ⟨ok, ov, k it (by simp) _ e⟩
  item := by
    rintro X rfl rfl rfl hc i pins s σ H E I fp t ⟨hd, hi⟩
    obtain ⟨ho, _⟩ := I.hok d _ hd
    have hne : d ≠ it := by
      rintro rfl
      rw [(fp d (by simp)).1] at hd
      cases hd
    have wk := WalksT.rawItems (prog := X.prog) (w := X.w) (A := X.A) (I.ok.hd hc) it d hne es ep
    have sz : ks.length = es.size := by rw [Paired.len hk, Array.length_toList]
    refine wk.item i s _ E (by omega) ⟨t, o, ho, hex, hda⟩ fun T vals h' tk pt hT tup mid kp => ⟨_, rfl, ?_⟩
    obtain ⟨hi2, rfl⟩ := pt
    have hTn := wk.apart i T h' mid
    refine wk.go elts kk tpos i T _ _ E mid fun h2 st kp2 => ?_
    have hb : ∃ b v, ks[i]? = some (b, v) ∧ es[i].key = .ref b ∧ RelV v es[i].val := by
      obtain ⟨x, h1, h2, h3⟩ := Paired.get hk (i := i) (y := es[i]) (by rw [Array.getElem?_toList, Array.getElem?_eq_getElem hi2])
      exact ⟨x.1, x.2, h1, h2, h3⟩
    obtain ⟨b, v, hks, hkey, hv⟩ := hb
    obtain ⟨ob, hob, hc1, n, hc2⟩ := tup
    have hob2 := kp2 T ob hTn hob
    refine ⟨.ref T, upd H T (.tup [.ref b, v]), I.turnedNew (ch := [it]) (fun a u ha hu => kp2 a u ha (kp a u ha hu)) fp hT ⟨by exact Nat.le_of_ble_eq_true rfl, [es[i].key, es[i].val], .cons (by rw [hkey]; rfl) (.cons hv .nil), ob, hob2, hc1, n, hc2⟩, rfl, ⟨T, b, v, hks, rfl, ?_, rfl⟩, st.1, fun b' hb' => ?_⟩
    · exact HOk.fresh I.hok hT
    · rw [List.mem_singleton.mp hb', upd_ne (by rintro rfl; exact hTn (by simp))]
      exact (fp it (by simp)).1
  done := by
    rintro X rfl rfl rfl hc i pins s σ H E I fp t ⟨hd, hi⟩
    obtain ⟨ho, _⟩ := I.hok d _ hd
    have hne : d ≠ it := by
      rintro rfl
      rw [(fp d (by simp)).1] at hd
      cases hd
    have wk := WalksT.rawItems (prog := X.prog) (w := X.w) (A := X.A) (I.ok.hd hc) it d hne es ep
    have sz : ks.length = es.size := by rw [Paired.len hk, Array.length_toList]
    rw [hi, sz] at t
    exact wk.done s _ E ⟨t, o, ho, hex, hda⟩ fun h' tk kp => ⟨rfl, I.turnedL (ch := [it]) kp fp⟩
  self := by
    have z := (turn_items (P := P) (w := w) (K := K) (d := d) (o := o) (kvs := List.replicate es.size (Sum.inl 0, V.non)) (elts := elts) (kk := kk) (tpos := tpos) it hda).self
    rw [List.length_replicate] at z
    exact z
/-- what is asked of the dict and of what follows -/
def ITEMS (P : Program) (w : World) (K : PySem.W.Frag) (dS : α → PyData) (R : It → Hp → Prop) (x : V) (H1 : Hp) : Prop := dictN P w K dS x H1 ∧ rItemsN P w K dS x [] H1 fun v H' => ∃ (p d : Addr) (kvs : List (α × V)), v = .ref p ∧ H' p = some (DX.itemsO p d) ∧ DN P w K dS H' d kvs ∧
  ∀ H2 o ks, Fr [d] H' H2 → Tu H' H2 → H2 d = some (atO d o) → Paired (fun (kv : α × V) (k : Addr × V) => Dt K H2 (.ref k.1) (dS kv.1) ∧ k.2 = kv.2) kvs ks → R (ItN d o ks) H2
theorem ITEMS.of {R : It → Hp → Prop} {H1 : Hp} {d : Addr} {kvs : List (α × V)} (hd : DN P w K dS H1 d kvs) (k : ∀ H2 o ks, Fr [d] H1 H2 → Tu H1 H2 → H2 d = some (atO d o) → Paired (fun (kv : α × V) (k : Addr × V) => Dt K H2 (.ref k.1) (dS kv.1) ∧ k.2 = kv.2) kvs ks → R (ItN d o ks) H2) : ITEMS P w K dS R (.ref d) H1 :=
  ⟨⟨d, kvs, rfl, hd⟩, d, kvs, rfl, rfl, hd, fun p hp => ⟨p, d, kvs, rfl, upd_same, hd.fr0 (Fr.new hp), fun H2 o ks f t h1 h2 => k H2 o ks (Fr.trans (Fr.new hp) f) ((Tu.new hp).trans t) h1 h2⟩⟩
def iItemsN (P : Program) (w : World) (K : PySem.W.Frag) (dS : α → PyData) (te : TE) : TI := fun σ H R => te σ H fun x H1 => ITEMS P w K dS R x H1
theorem w_iItemsN {σ : L2.St} {H : Hp} {te : TE} {R : It → Hp → Prop} (q : te σ H fun x H1 => ITEMS P w K dS R x H1) : iItemsN P w K dS te σ H R := q
theorem ks_of {K : PySem.W.Frag} {H : Hp} : ∀ {kvs : List (α × V)} {xs : List (NestedKey × Addr × Value)}, Paired (RkN K H dS) kvs xs → ∃ ks : List (Addr × V), Paired (fun (kv : α × V) (k : Addr × V) => Dt K H (.ref k.1) (dS kv.1) ∧ k.2 = kv.2) kvs ks ∧ Paired (fun (k : Addr × V) (e : DictEntry) => e.key = .ref k.1 ∧ RelV k.2 e.val) ks (xs.map (entryOfKey (nestedKind P w)))
  | _, _, .nil => ⟨[], .nil, .nil⟩
  | _, _, .cons (a := kv) (b := x) r b => by
    obtain ⟨ks, h1, h2⟩ := ks_of b
    exact ⟨(x.2.1, kv.2) :: ks, .cons ⟨r.1, rfl⟩ h1, .cons ⟨rfl, r.2.2⟩ h2⟩
theorem pi_itemsN {e : Expr} {te : TE} {apos cpos : Pos} {elts : List Expr} {kk : Nat} {tpos : Pos} (D : KeyD dS) (hP : X.prog = P) (hw : X.w = w) (hK : X.K = K) (he : PE X e te) (hb : attributeBase e "items" X.env (eval e X.env) = eval e X.env := by rfl) (hl : (apos.endLine == cpos.line) = true := by rfl) :
    PI X (.Tuple elts kk tpos) (.Call (.Attribute e "items" apos) [] [] cpos) (iItemsN P w K dS te) := by
  subst hP hw hK
  have P1 : PE X (.Call (.Attribute e "items" apos) [] [] cpos) (tMG0 (dictN X.prog X.w X.K dS) (rItemsN X.prog X.w X.K dS) te) := pe_mG0 (ty_N D) F.plainAttrs_dict F.slot_dict_items F.type_dict_items (mt_itemsN D) he hb hl
  refine ⟨fun pins s σ H R I q => ?_⟩
  refine wpAny_mono (P1.run pins s σ H _ I q) ?_ fun _ _ z => z
  · rintro v s1 ⟨v', H1, I1, rv, p, d, kvs, rfl, hp, hd, k⟩
    cases rv
    have hv : Heap.IsItemsView s1.heap p d := (I1.hok p _ hp).1
    obtain ⟨xs, ⟨o, es, ep, ho, hex, hda, hl, hi, hn⟩, pr, ns, m⟩ := hd.heap D I1
    have raw : Heap.DictRaw s1.heap d es ep := ⟨o, ho, hex, hda⟩
    refine wpAny_pyIter_items_raw hv raw ?_
    have t := Tu.dn hd (atO d o)
    have I2 : Inv X pins σ (upd H1 d (atO d o)) { s1 with toks := s1.toks } := I1.write m (.inl rfl) (fun b u hb hu => hu) ⟨o, ho⟩ ⟨ho, ⟨o, ho⟩, fun h1 h2 e f => f _ e⟩
    obtain ⟨ks, k1, k2⟩ := ks_of (P := X.prog) (w := X.w) (Paired.imp (fun _ _ => RkN.mono t) pr)
    rw [← hl] at k2
    have hfr : (upd H1 d (atO d o)) s1.heap.objs.size = none := by
      have := I2.fresh
      exact this
    refine ⟨s1.heap.objs.size, [s1.heap.objs.size], _, ItN d o ks, upd H1 d (atO d o), rfl, I2.turnedL (ch := []) (fun b u _ hb => ?_) (fun b hb => by simp at hb), turn_itemsN (es := es) (ep := ep) hex hda k2, ⟨_, _, Heap.get?_push_size _ rfl⟩, fun b hb => ?_, k _ o ks (Fr.mut (by simp)) t upd_same k1⟩
    · rw [Heap.get?_push_ne]
      · exact hb
      · rintro rfl
        exact get_size hb
    · rw [List.mem_singleton.mp hb]
      exact I2.fpOk (Nat.le_refl _) hfr
end
/-- a comprehension over items -/
theorem LC_N {α : Type} {K : PySem.W.Frag} {dS : α → PyData} {d D : Addr} {o : Obj} {kvs : List (α × V)} {ks : List (Addr × V)} {H : Hp} {ws : List Nat} {σ : L2.St} {tg : TG} {tt : TT} {te : TE} {Q : VK} (f : α × V → Bool) (g : α × V → PyData)
    (hd : H d = some (atO d o)) (hk : Paired (fun (kv : α × V) (k : Addr × V) => Dt K H (.ref k.1) (dS kv.1) ∧ k.2 = kv.2) kvs ks) (lc : kvs.length ≤ 100000) (hD : H D = none)
    (hs : ∀ (kv : α × V) (b T : Addr) (H' : Hp) (KEEP : VK) (DROP : Hp → Prop), kv ∈ kvs → Fr [] H H' → SqT K H' T [.ref b, kv.2] → Dt K H' (.ref b) (dS kv.1) → (f kv = true → ∀ y H4, Fr [] H' H4 → Dt K H4 y (g kv) → KEEP y H4) → (f kv = false → ∀ H4, Fr [] H' H4 → DROP H4) →
      tg (.ref T) (wipe σ ws) H' fun σ2 H2 => wipe σ2 ws = wipe σ ws ∧ tt σ2 H2 fun k H3 => if k = true then te σ2 H3 KEEP else DROP H3)
    (k : ∀ D H', H D = none → Fr [] H H' → Lq K H' D ((kvs.filter f).map g) → Q (.ref D) H') :
    LC (ItN d o ks) tg tt te ws σ D Q (upd H D (.lst [])) := by
  have lk : kvs.length = ks.length := Paired.len hk
  refine ⟨fun i m H' => m = ks.length - i ∧ i ≤ ks.length ∧ Fr [] H H' ∧ Lq K H' D (((kvs.take i).filter f).map g), ⟨_, rfl, Nat.zero_le _, Fr.new hD, [], upd_same, .nil⟩, ?_⟩
  rintro i m H' ⟨rfl, hi, f', L⟩
  have hd' := f' _ _ hd (by simp)
  by_cases hlt : i < ks.length
  · refine .inr ⟨⟨hd', hlt⟩, fun H2 => Fr [] H H2 ∧ Lq K H2 D (((kvs.take (i + 1)).filter f).map g), fun H2 z => ⟨ks.length - (i + 1), by omega, rfl, hlt, z⟩, fun x H2 y => ?_⟩
    obtain ⟨T, b, v, hks, rfl, hT, rfl⟩ := y
    obtain ⟨kv, hkv, hb, hv⟩ := Paired.get hk hks
    have hv : v = kv.2 := hv
    subst hv
    have fT : Fr [] H' (upd H' T (.tup [.ref b, kv.2])) := Fr.new hT
    have L2 := L.fr0 fT
    obtain ⟨ys, hys, dys⟩ := L2
    have ly : ys.length ≤ i := by
      rw [dys.length, List.length_map]
      refine Nat.le_trans (List.length_filter_le _ _) ?_
      rw [List.length_take]
      omega
    refine hs kv b T _ _ _ (List.mem_of_getElem? hkv) (f'.trans fT) (.inl (.inl upd_same)) (hb.mono (f'.trans fT).tu) (fun hf y H4 f4 dy => ?_) (fun hf H4 f4 => ?_)
    · have e3 := f4 _ _ hys (by simp)
      refine ⟨ys, e3, Nat.lt_of_le_of_lt (show ys.length ≤ 100000 by omega) (by decide), Fr.new_mut hD (((f'.trans fT).trans f4).mono (by simp) |>.trans (Fr.mut (by simp))), _, upd_same, ?_⟩
      rw [take_filt hkv, hf, List.map_append]
      exact ((dys.mono f4.tu).append (.cons dy .nil)).mono (Tu.mut e3)
    · refine ⟨(f'.trans fT).trans f4, ?_⟩
      rw [take_filt hkv, hf]
      show Lq K H4 D ((List.filter f (kvs.take i) ++ []).map g)
      rw [List.append_nil]
      exact Lq.fr0 ⟨ys, hys, dys⟩ f4
  · have z : i = ks.length := by omega
    subst z
    refine .inl ⟨⟨hd', rfl⟩, ?_⟩
    rw [← lk, List.take_length] at L
    exact k D H' hD f' L
/-! ### the same, told for the places where one stands -/
section
variable {α : Type} [DecidableEq α] {X : Cx} {P : Program} {w : World} {K : PySem.W.Frag} {dS : α → PyData}
theorem op_inNU (D : KeyD dS) (hP : X.prog = P) (hw : X.w = w) (hK : X.K = K) (hu : X.A.units + 65 < cLine) : OpR X (compareOp .In) (rInN P w K dS) := by subst hP hw hK; exact op_inN D hu
theorem op_ninNU (D : KeyD dS) (hP : X.prog = P) (hw : X.w = w) (hK : X.K = K) (hu : X.A.units + 65 < cLine) : OpR X (compareOp .NotIn) (rNinN P w K dS) := by subst hP hw hK; exact op_ninN D hu
theorem ix_NU (D : KeyD dS) (hP : X.prog = P) (hw : X.w = w) (hK : X.K = K) (hu : X.A.units + 65 < cLine) : IxR X (rIxN P w K dS) := by subst hP hw hK; exact ix_N D hu
theorem set_NU (D : KeyD dS) (hP : X.prog = P) (hw : X.w = w) (hK : X.K = K) (hu : X.A.units + 65 < cLine) : PSet X (rSetN P w K dS) := by subst hP hw hK; exact set_N D hu
theorem ty_NU (D : KeyD dS) (hP : X.prog = P) (hw : X.w = w) (hK : X.K = K) : TyOk X "dict" (dictN P w K dS) := by subst hP hw hK; exact ty_N D
theorem mt_popNU (D : KeyD dS) (hP : X.prog = P) (hw : X.w = w) (hK : X.K = K) (hu : X.A.units + 65 < cLine) : MtR X "dict.pop" (rPopN P w K dS) := by subst hP hw hK; exact mt_popN D hu
variable {H : Hp} {Q : VK} {a d : Addr} {kvs : List (α × V)} {k : α}
theorem w_inN (hd : DN P w K dS H d kvs) (hk : Dt K H (.ref a) (dS k)) (q : Q (.bl (atN kvs k).isSome) H) : rInN P w K dS (.ref a) (.ref d) H Q := ⟨d, a, kvs, k, rfl, rfl, hd, hk, q⟩
theorem w_ninN (hd : DN P w K dS H d kvs) (hk : Dt K H (.ref a) (dS k)) (q : Q (.bl (!(atN kvs k).isSome)) H) : rNinN P w K dS (.ref a) (.ref d) H Q := ⟨d, a, kvs, k, rfl, rfl, hd, hk, q⟩
theorem w_ixN {v : V} (hd : DN P w K dS H d kvs) (hk : Dt K H (.ref a) (dS k)) (hv : atN kvs k = some v) (q : Q v H) : rIxN P w K dS (.ref d) (.ref a) H Q := ⟨d, a, kvs, k, v, rfl, rfl, hd, hk, hv, q⟩
theorem w_setN {v : V} {Q : Hp → Prop} (hd : DN P w K dS H d kvs) (hk : Dt K H (.ref a) (dS k)) (n : kvs.length ≤ 100000) (q : ∀ H', Fr [d] H H' → Tu H H' → DN P w K dS H' d (putN kvs k v) → Q H') : rSetN P w K dS (.ref d) (.ref a) v H Q := ⟨d, a, kvs, k, rfl, rfl, hd, hk, n, q⟩
theorem w_popN {v : V} (hd : DN P w K dS H d kvs) (hk : Dt K H (.ref a) (dS k)) (n : kvs.length ≤ 100000) (hv : atN kvs k = some v) (q : ∀ H', Fr [d] H H' → Tu H H' → DN P w K dS H' d (dropN kvs k) → Q v H') : rPopN P w K dS (.ref d) [.ref a] H Q := ⟨d, a, kvs, k, v, rfl, rfl, hd, hk, n, hv, q⟩
theorem DN.dict (hd : DN P w K dS H d kvs) : dictN P w K dS (.ref d) H := ⟨d, kvs, rfl, hd⟩
theorem w_mG {σ : L2.St} {ty : V → Hp → Prop} {rm : V → List V → Hp → VK → Prop} {ta : TE} {tr : TA} (q : ta σ H fun x H1 => ty x H1 ∧ tr σ H1 fun xs H2 => rm x xs H2 Q) : tMG ty rm ta tr σ H Q := q
end
/-! ### isinstance(x, (a, b)) -/
section
variable {K : PySem.W.Frag} {H : Hp} {Q : VK}
theorem kit_two {t a b : String} {r s : Bool} (h1 : kitB t a = some r) (h2 : kitB t b = some s) : PySem.W.kitAny K (.type t) [.type a, .type b] = some (r || s) := by
  have e1 := kit_ty (K := K) h1
  have e2 := kit_ty (K := K) h2
  simp only [PySem.W.kitAny, e1, e2]
  cases r <;> cases s <;> rfl
theorem call_isiTU {X : Cx} (hK : X.K = K) : CallR X (.builtin "isinstance") (rIsiT K) := by subst hK; exact call_isiT
theorem w_isiT {x : V} {tp : Addr} {t a b : String} {r s : Bool} (h : H tp = some (.tup [.ty a, .ty b])) (ty : TyX K H x (.type t)) (h1 : kitB t a = some r) (h2 : kitB t b = some s) (q : Q (.bl (r || s)) H) : rIsiT K [x, .ref tp] H Q :=
  ⟨x, tp, [.ty a, .ty b], .type t, [.type a, .type b], r || s, rfl, h, .cons (.ty a) (.cons (.ty b) .nil), ty, kit_two h1 h2, q⟩
/-- the type's name of plain data -/
def tyn : PyData → String
  | .none => "NoneType"
  | .bool _ => "bool"
  | .int _ => "int"
  | .str _ => "str"
  | .tuple _ => "tuple"
  | .list _ => "list"
  | _ => "dict"
theorem Dg.ty {v : V} {d : PyData} (h : Dg K H v d) : TyX K H v (.type (tyn d)) := by
  cases h with
  | non => exact .base .non
  | bl b => exact .base (.bl _)
  | int i => exact .base (.int _)
  | str x => exact .base (.str _)
  | tup s _ => exact ty_T s
  | lst s _ => exact ty_L s
  | dct h => exact .base (.dK h)
end
end U

/-! any plain data, away from one list that changes (the tape) -/
namespace U
open PySem PySem.Spec PyProof.Rows L2
section
variable {K : PySem.W.Frag} {H H' : Hp}
mutual
theorem Dg.dp : ∀ {v : V} {d : PyData}, Dg K H v d → d.canLay0 = true → Dp K H v d
  | _, _, .non, _ => .non
  | _, _, .bl b, _ => .bl b
  | _, _, .int i, _ => .int i
  | _, _, .str x, _ => .str x
  | _, _, .tup s a, h => .tup s (DgAll.dp a h)
  | _, _, .lst s a, h => .lst s (DgAll.dp a h)
  | _, _, .dct _, h => by cases h
theorem DgAll.dp : ∀ {vs : List V} {ds : List PyData}, DgAll K H vs ds → PyData.canLayAll0 ds = true → DpAll K H vs ds
  | _, _, .nil, _ => .nil
  | _, _, .cons a b, h => by
    have z := Bool.and_eq_true_iff.mp h
    exact .cons (Dg.dp a z.1) (DgAll.dp b z.2)
end
theorem DgAll.take : ∀ {vs : List V} {ds : List PyData} (n : Nat), DgAll K H vs ds → DgAll K H (vs.take n) (ds.take n)
  | _, _, 0, _ => by simpa using DgAll.nil
  | _, _, _ + 1, .nil => by simpa using DgAll.nil
  | _, _, n + 1, .cons a b => by simpa using DgAll.cons a (DgAll.take n b)
theorem DgAll.drop : ∀ {vs : List V} {ds : List PyData} (n : Nat), DgAll K H vs ds → DgAll K H (vs.drop n) (ds.drop n)
  | _, _, 0, h => by simpa using h
  | _, _, _ + 1, .nil => by simpa using DgAll.nil
  | _, _, n + 1, .cons a b => by simpa using DgAll.drop n b
theorem DgAll.append : ∀ {vs us : List V} {ds es : List PyData}, DgAll K H vs ds → DgAll K H us es → DgAll K H (vs ++ us) (ds ++ es)
  | _, _, _, _, .nil, h => h
  | _, _, _, _, .cons a b, h => .cons a (DgAll.append b h)
theorem DgAll.cut {vs : List V} {ds : List PyData} (h : DgAll K H vs ds) (lo hi : Option Int) : DgAll K H (cutV vs lo hi) (cutA ds lo hi) := by
  unfold cutV cutA
  rw [DgAll.length h]
  exact DgAll.take _ (DgAll.drop _ h)
theorem DgAll.at : ∀ {vs : List V} {ds : List PyData} {i : Nat} {d : PyData}, DgAll K H vs ds → ds[i]? = some d → ∃ v, vs[i]? = some v ∧ Dg K H v d
  | _, _, i, _, .nil, h => by simp at h
  | _, _, 0, d, .cons a b, h => by
    simp at h
    subst h
    exact ⟨_, rfl, a⟩
  | _, _, i + 1, d, .cons a b, h => by
    obtain ⟨v, h1, h2⟩ := DgAll.at (i := i) b (by simpa using h)
    exact ⟨v, by simpa using h1, h2⟩
theorem Dg.tuple {v : V} {ds : List PyData} (h : Dg K H v (.tuple ds)) : ∃ p vs, v = .ref p ∧ SqT K H p vs ∧ DgAll K H vs ds := by
  cases h with
  | tup s a => exact ⟨_, _, rfl, s, a⟩
theorem Dg.list {v : V} {ds : List PyData} (h : Dg K H v (.list ds)) : ∃ p vs, v = .ref p ∧ SqL K H p vs ∧ DgAll K H vs ds := by
  cases h with
  | lst s a => exact ⟨_, _, rfl, s, a⟩
theorem Dg.isi {v : V} {d : PyData} {n : String} {b : Bool} {Q : VK} (h : Dg K H v d) (e : kitB (tyn d) n = some b) (q : Q (.bl b) H) : rIsi K [v, .ty n] H Q := w_isi h.ty (kit_ty e) q
end
/-- what is a tuple, list, whole number or truth, truth, text -/
def isTup : PyData → Bool | .tuple _ => true | _ => false
def isLst : PyData → Bool | .list _ => true | _ => false
def isInt : PyData → Bool | .int _ => true | .bool _ => true | _ => false
def isBool : PyData → Bool | .bool _ => true | _ => false
def isStr : PyData → Bool | .str _ => true | _ => false
section
variable {K : PySem.W.Frag} {H : Hp} {v : V} {d : PyData} {Q : VK}
theorem Dg.isTup (h : Dg K H v d) (q : Q (.bl (isTup d)) H) : rIsi K [v, .ty "tuple"] H Q := by
  cases h with
  | non => exact Dg.isi (d := .none) (by constructor <;> assumption) (by exact (by decide +kernel : kitB "NoneType" "tuple" = some false)) q
  | bl b => exact Dg.isi (d := .bool b) (by constructor <;> assumption) (by exact (by decide +kernel : kitB "bool" "tuple" = some false)) q
  | int i => exact Dg.isi (d := .int i) (by constructor <;> assumption) (by exact (by decide +kernel : kitB "int" "tuple" = some false)) q
  | str x => exact Dg.isi (d := .str x) (by constructor <;> assumption) (by exact (by decide +kernel : kitB "str" "tuple" = some false)) q
  | tup _ _ => exact Dg.isi (d := .tuple _) (by constructor <;> assumption) (by exact (by decide +kernel : kitB "tuple" "tuple" = some true)) q
  | lst _ _ => exact Dg.isi (d := .list _) (by constructor <;> assumption) (by exact (by decide +kernel : kitB "list" "tuple" = some false)) q
  | dct _ => exact Dg.isi (d := .dict []) (by constructor <;> assumption) (by exact (by decide +kernel : kitB "dict" "tuple" = some false)) q
theorem Dg.isLst (h : Dg K H v d) (q : Q (.bl (isLst d)) H) : rIsi K [v, .ty "list"] H Q := by
  cases h with
  | non => exact Dg.isi (d := .none) (by constructor <;> assumption) (by exact (by decide +kernel : kitB "NoneType" "list" = some false)) q
  | bl b => exact Dg.isi (d := .bool b) (by constructor <;> assumption) (by exact (by decide +kernel : kitB "bool" "list" = some false)) q
  | int i => exact Dg.isi (d := .int i) (by constructor <;> assumption) (by exact (by decide +kernel : kitB "int" "list" = some false)) q
  | str x => exact Dg.isi (d := .str x) (by constructor <;> assumption) (by exact (by decide +kernel : kitB "str" "list" = some false)) q
  | tup _ _ => exact Dg.isi (d := .tuple _) (by constructor <;> assumption) (by exact (by decide +kernel : kitB "tuple" "list" = some false)) q
  | lst _ _ => exact Dg.isi (d := .list _) (by constructor <;> assumption) (by exact (by decide +kernel : kitB "list" "list" = some true)) q
  | dct _ => exact Dg.isi (d := .dict []) (by constructor <;> assumption) (by exact (by decide +kernel : kitB "dict" "list" = some false)) q
theorem Dg.isInt (h : Dg K H v d) (q : Q (.bl (isInt d)) H) : rIsi K [v, .ty "int"] H Q := by
  cases h with
  | non => exact Dg.isi (d := .none) (by constructor <;> assumption) (by exact (by decide +kernel : kitB "NoneType" "int" = some false)) q
  | bl b => exact Dg.isi (d := .bool b) (by constructor <;> assumption) (by exact (by decide +kernel : kitB "bool" "int" = some true)) q
  | int i => exact Dg.isi (d := .int i) (by constructor <;> assumption) (by exact (by decide +kernel : kitB "int" "int" = some true)) q
  | str x => exact Dg.isi (d := .str x) (by constructor <;> assumption) (by exact (by decide +kernel : kitB "str" "int" = some false)) q
  | tup _ _ => exact Dg.isi (d := .tuple _) (by constructor <;> assumption) (by exact (by decide +kernel : kitB "tuple" "int" = some false)) q
  | lst _ _ => exact Dg.isi (d := .list _) (by constructor <;> assumption) (by exact (by decide +kernel : kitB "list" "int" = some false)) q
  | dct _ => exact Dg.isi (d := .dict []) (by constructor <;> assumption) (by exact (by decide +kernel : kitB "dict" "int" = some false)) q
theorem Dg.isBool (h : Dg K H v d) (q : Q (.bl (isBool d)) H) : rIsi K [v, .ty "bool"] H Q := by
  cases h with
  | non => exact Dg.isi (d := .none) (by constructor <;> assumption) (by exact (by decide +kernel : kitB "NoneType" "bool" = some false)) q
  | bl b => exact Dg.isi (d := .bool b) (by constructor <;> assumption) (by exact (by decide +kernel : kitB "bool" "bool" = some true)) q
  | int i => exact Dg.isi (d := .int i) (by constructor <;> assumption) (by exact (by decide +kernel : kitB "int" "bool" = some false)) q
  | str x => exact Dg.isi (d := .str x) (by constructor <;> assumption) (by exact (by decide +kernel : kitB "str" "bool" = some false)) q
  | tup _ _ => exact Dg.isi (d := .tuple _) (by constructor <;> assumption) (by exact (by decide +kernel : kitB "tuple" "bool" = some false)) q
  | lst _ _ => exact Dg.isi (d := .list _) (by constructor <;> assumption) (by exact (by decide +kernel : kitB "list" "bool" = some false)) q
  | dct _ => exact Dg.isi (d := .dict []) (by constructor <;> assumption) (by exact (by decide +kernel : kitB "dict" "bool" = some false)) q
theorem Dg.isStr (h : Dg K H v d) (q : Q (.bl (isStr d)) H) : rIsi K [v, .ty "str"] H Q := by
  cases h with
  | non => exact Dg.isi (d := .none) (by constructor <;> assumption) (by exact (by decide +kernel : kitB "NoneType" "str" = some false)) q
  | bl b => exact Dg.isi (d := .bool b) (by constructor <;> assumption) (by exact (by decide +kernel : kitB "bool" "str" = some false)) q
  | int i => exact Dg.isi (d := .int i) (by constructor <;> assumption) (by exact (by decide +kernel : kitB "int" "str" = some false)) q
  | str x => exact Dg.isi (d := .str x) (by constructor <;> assumption) (by exact (by decide +kernel : kitB "str" "str" = some true)) q
  | tup _ _ => exact Dg.isi (d := .tuple _) (by constructor <;> assumption) (by exact (by decide +kernel : kitB "tuple" "str" = some false)) q
  | lst _ _ => exact Dg.isi (d := .list _) (by constructor <;> assumption) (by exact (by decide +kernel : kitB "list" "str" = some false)) q
  | dct _ => exact Dg.isi (d := .dict []) (by constructor <;> assumption) (by exact (by decide +kernel : kitB "dict" "str" = some false)) q
/-- text or no text, against a text -/
def Fine (d : PyData) : Prop := (∃ es, d = .dict es) ∨ SeqAt.shaped d = true
def isStrB (z : Str) : PyData → Bool
  | .str y => decide (y = z)
  | _ => false
theorem Dg.neStr {z : Str} (D : Dg K H v d) (f : Fine d) (oz : PyData.strOk z = true) (q : Q (.bl (!isStrB z d)) H) : rNeU K v (.str z) H Q := by
  rcases f with ⟨es, rfl⟩ | f
  · cases D with
    | dct s => exact w_neDS s q
  · have hl := SeqAt.canLay_of_shaped f
    have sz : SeqAt.shaped (.str z) = true := lay_shaped ⟨oz, Nat.zero_le _⟩
    cases D with
    | str x => exact w_neS q
    | dct s => cases hl
    | non => exact w_neD .non (.str z) f sz q
    | bl b => exact w_neD (.bl b) (.str z) f sz q
    | int i => exact w_neD (.int i) (.str z) f sz q
    | tup s a => exact w_neD (.tup s (DgAll.dp a hl)) (.str z) f sz q
    | lst s a => exact w_neD (.lst s (DgAll.dp a hl)) (.str z) f sz q
theorem Dg.eqStr {z : Str} (D : Dg K H v d) (f : Fine d) (oz : PyData.strOk z = true) (q : Q (.bl (isStrB z d)) H) : rEqU K v (.str z) H Q := by
  rcases f with ⟨es, rfl⟩ | f
  · cases D with
    | dct s => exact w_eqDS s q
  · have hl := SeqAt.canLay_of_shaped f
    have sz : SeqAt.shaped (.str z) = true := lay_shaped ⟨oz, Nat.zero_le _⟩
    cases D with
    | str x => exact w_eqS q
    | dct s => cases hl
    | non => exact w_eqD .non (.str z) f sz q
    | bl b => exact w_eqD (.bl b) (.str z) f sz q
    | int i => exact w_eqD (.int i) (.str z) f sz q
    | tup s a => exact w_eqD (.tup s (DgAll.dp a hl)) (.str z) f sz q
    | lst s a => exact w_eqD (.lst s (DgAll.dp a hl)) (.str z) f sz q
end
/-! ### the heap without t -/
def wo (H : Hp) (t : Addr) : Hp := fun a => if a = t then none else H a
section
variable {K : PySem.W.Frag} {H H' : Hp} {t : Addr}
theorem wo_fr : Fr [] (wo H t) H := fun a o e _ => by
  unfold wo at e
  by_cases h : a = t
  · rw [if_pos h] at e; cases e
  · rw [if_neg h] at e; exact e
theorem Fr.wo (f : Fr [t] H H') : Fr [] (wo H t) (wo H' t) := fun a o e _ => by
  unfold U.wo at *
  by_cases h : a = t
  · rw [if_pos h] at e; cases e
  · rw [if_neg h] at e
    rw [if_neg h]
    exact f a o e (by simpa using h)
theorem wo_upd {p : Addr} {o : HO} (n : p ≠ t) : wo (upd H p o) t = upd (wo H t) p o := by
  funext a
  unfold wo
  by_cases h : a = t
  · subst h
    rw [if_pos rfl, upd_ne n.symm, if_pos rfl]
  · rw [if_neg h]
    by_cases e : a = p
    · subst e
      rw [upd_same, upd_same]
    · rw [upd_ne e, upd_ne e, if_neg h]
theorem wo_at {p : Addr} (n : p ≠ t) : wo H t p = H p := by unfold wo; rw [if_neg n]
theorem wo_tu {xs : List V} (h : H t = some (.lst xs)) : Tu H (wo H t) := fun a ys =>
  ⟨fun e => by rw [wo_at (by rintro rfl; rw [h] at e; cases e)]; exact e, fun o e => by rw [wo_at (by rintro rfl; rw [h] at e; cases e)]; exact e⟩
/-- data away from t -/
def Dx (K : PySem.W.Frag) (H : Hp) (t : Addr) (v : V) (d : PyData) : Prop := Dg K (wo H t) v d
theorem Dx.dg {v : V} {d : PyData} (h : Dx K H t v d) : Dg K H v d := Dg.fr wo_fr h
theorem Dx.fr {v : V} {d : PyData} (h : Dx K H t v d) (f : Fr [t] H H') : Dx K H' t v d := Dg.fr f.wo h
theorem Fr.to1 (f : Fr [] H H') : Fr [t] H H' := f.mono (by simp)
theorem Dx.fr0 {v : V} {d : PyData} (h : Dx K H t v d) (f : Fr [] H H') : Dx K H' t v d := h.fr f.to1
theorem Dt.dx {v : V} {d : PyData} {xs : List V} (ht : H t = some (.lst xs)) (h : Dt K H v d) : Dx K H t v d := (h.mono (wo_tu ht)).dg
def DxAll (K : PySem.W.Frag) (H : Hp) (t : Addr) (vs : List V) (ds : List PyData) : Prop := DgAll K (wo H t) vs ds
theorem DxAll.dg {vs : List V} {ds : List PyData} (h : DxAll K H t vs ds) : DgAll K H vs ds := DgAll.fr wo_fr h
theorem DxAll.fr {vs : List V} {ds : List PyData} (h : DxAll K H t vs ds) (f : Fr [t] H H') : DxAll K H' t vs ds := DgAll.fr f.wo h
theorem mkTx {xs : List V} {ds : List PyData} {Q : VK} (ht : ∃ o, H t = some o) (d : DgAll K (wo H t) xs ds) (q : ∀ p H', H p = none → Fr [] H H' → Dx K H' t (.ref p) (.tuple ds) → Q (.ref p) H') (n : xs.length ≤ 1000 := by exact Nat.le_of_ble_eq_true rfl) : MkT xs Q H :=
  ⟨Nat.le_trans n (by decide), fun p hp => q p _ hp (Fr.new hp) (by
    have np : p ≠ t := by
      rintro rfl
      obtain ⟨o, e⟩ := ht
      rw [hp] at e
      cases e
    unfold Dx
    rw [wo_upd np]
    exact .tup (.inl (.inl upd_same)) (DgAll.fr (Fr.new (by rw [wo_at np]; exact hp)) d))⟩
/-- a list of such, that may change -/
def Lx (K : PySem.W.Frag) (H : Hp) (t q : Addr) (ds : List PyData) : Prop := ∃ vs, H q = some (.lst vs) ∧ q ≠ t ∧ DgAll K (wo H t) vs ds
theorem Lx.fr {q : Addr} {ds : List PyData} (h : Lx K H t q ds) (f : Fr [t] H H') : Lx K H' t q ds := by
  obtain ⟨vs, e, n, a⟩ := h
  exact ⟨vs, f _ _ e (by simpa using n), n, DgAll.fr f.wo a⟩
theorem Lx.fr0 {q : Addr} {ds : List PyData} (h : Lx K H t q ds) (f : Fr [] H H') : Lx K H' t q ds := h.fr f.to1
theorem Lx.dx {q : Addr} {ds : List PyData} (h : Lx K H t q ds) : Dx K H t (.ref q) (.list ds) := by
  obtain ⟨vs, e, n, a⟩ := h
  exact .lst (.inl (.inl (by rw [wo_at n]; exact e))) a
theorem Lq.lx {q : Addr} {ds : List PyData} {xs : List V} (ht : H t = some (.lst xs)) (n : q ≠ t) (h : Lq K H q ds) : Lx K H t q ds := by
  obtain ⟨vs, e, a⟩ := h
  exact ⟨vs, e, n, (a.mono (wo_tu ht)).dg⟩
theorem lx_new {p : Addr} {vs : List V} {ds : List PyData} (ht : ∃ o, H t = some o) (hp : H p = none) (a : DgAll K (wo H t) vs ds) : Lx K (upd H p (.lst vs)) t p ds := by
  have np : p ≠ t := by
    rintro rfl
    obtain ⟨o, e⟩ := ht
    rw [hp] at e
    cases e
  refine ⟨vs, upd_same, np, ?_⟩
  rw [wo_upd np]
  exact DgAll.fr (Fr.new (by rw [wo_at np]; exact hp)) a
theorem mkLx {xs : List V} {ds : List PyData} {Q : VK} (ht : ∃ o, H t = some o) (d : DgAll K (wo H t) xs ds) (q : ∀ p H', H p = none → Fr [] H H' → Lx K H' t p ds → Q (.ref p) H') (n : xs.length ≤ 1000 := by exact Nat.le_of_ble_eq_true rfl) : MkL xs Q H :=
  ⟨Nat.le_trans n (by decide), fun p hp => q p _ hp (Fr.new hp) (lx_new ht hp d)⟩
theorem Lx.len {q : Addr} {ds : List PyData} {Q : VK} (h : Lx K H t q ds) (k : Q (.int ds.length) H) : rLenU K [.ref q] H Q := by
  obtain ⟨vs, e, _, a⟩ := h
  rw [← DgAll.length a] at k
  exact w_lenL (SqL.of e) k
theorem Lx.slice {q : Addr} {ds : List PyData} {lo hi : Option Int} {Q : VK} (ht : ∃ o, H t = some o) (h : Lx K H t q ds) (k : ∀ p H', H p = none → Fr [] H H' → Lx K H' t p (cutA ds lo hi) → Q (.ref p) H') : rSlU K (.ref q) lo hi H Q := by
  obtain ⟨vs, e, _, a⟩ := h
  exact w_slL (SqL.of e) fun p hp => k p _ hp (Fr.new hp) (lx_new ht hp (DgAll.cut a lo hi))
theorem Lx.cat {q r : Addr} {ds es : List PyData} {Q : VK} (ht : ∃ o, H t = some o) (h : Lx K H t q ds) (h' : Lx K H t r es) (n : ds.length + es.length ≤ 100000) (k : ∀ p H', H p = none → Fr [] H H' → Lx K H' t p (ds ++ es) → Q (.ref p) H') : rAddU K (.ref q) (.ref r) H Q := by
  obtain ⟨vs, e, _, a⟩ := h
  obtain ⟨us, e', _, a'⟩ := h'
  exact w_addL e e' (by rw [DgAll.length a, DgAll.length a']; omega) fun p hp => k p _ hp (Fr.new hp) (lx_new ht hp (DgAll.append a a'))
theorem Lx.at {q : Addr} {ds : List PyData} {i : Int} {Q : VK} (h : Lx K H t q ds) (h0 : 0 ≤ i) (h1 : i < ds.length) (k : ∀ v d, Dx K H t v d → ds[i.toNat]? = some d → Q v H) : rIx K (.ref q) (.int i) H Q := by
  obtain ⟨vs, e, _, a⟩ := h
  have ek : i = ((i.toNat : Nat) : Int) := by omega
  have hk : i.toNat < ds.length := by omega
  obtain ⟨v, hv, dv⟩ := DgAll.at a (List.getElem?_eq_getElem hk)
  refine w_ixL (SqL.of e) ?_ (k v _ dv (List.getElem?_eq_getElem hk))
  rw [ek]
  exact atI_nat hv
theorem Lx.list {q : Addr} {ds : List PyData} {Q : VK} (ht : ∃ o, H t = some o) (h : Lx K H t q ds) (k : ∀ p H', H p = none → Fr [] H H' → Lx K H' t p ds → Q (.ref p) H') : rListU K [.ref q] H Q := by
  obtain ⟨vs, e, _, a⟩ := h
  exact w_listL (SqL.of e) fun p hp => k p _ hp (Fr.new hp) (lx_new ht hp a)
/-! tuples -/
theorem sqT_wo {p : Addr} {vs : List V} (s : SqT K (wo H t) p vs) : SqT K H p vs := wo_fr.seqT s (by simp)
theorem Dx.tuple {v : V} {ds : List PyData} (h : Dx K H t v (.tuple ds)) : ∃ p vs, v = .ref p ∧ SqT K H p vs ∧ DgAll K (wo H t) vs ds := by
  obtain ⟨p, vs, e, s, a⟩ := Dg.tuple h
  exact ⟨p, vs, e, sqT_wo s, a⟩
theorem tx_new {p : Addr} {vs : List V} {ds : List PyData} (ht : ∃ o, H t = some o) (hp : H p = none) (a : DgAll K (wo H t) vs ds) : Dx K (upd H p (.tup vs)) t (.ref p) (.tuple ds) := by
  have np : p ≠ t := by
    rintro rfl
    obtain ⟨o, e⟩ := ht
    rw [hp] at e
    cases e
  unfold Dx
  rw [wo_upd np]
  exact .tup (.inl (.inl upd_same)) (DgAll.fr (Fr.new (by rw [wo_at np]; exact hp)) a)
theorem Dx.slice {v : V} {ds : List PyData} {lo hi : Option Int} {Q : VK} (ht : ∃ o, H t = some o) (h : Dx K H t v (.tuple ds)) (q : ∀ p H', Fr [] H H' → Dx K H' t (.ref p) (.tuple (cutA ds lo hi)) → Q (.ref p) H') : rSlU K v lo hi H Q := by
  obtain ⟨p, vs, rfl, s, a⟩ := h.tuple
  refine .inl (.inr ⟨p, vs, rfl, s, fun z => ?_, fun _ p' hp => ?_⟩)
  · rw [DgAll.length a] at z
    refine q p H Fr.refl ?_
    rw [cutA_full z]
    exact h
  · exact q p' _ (Fr.new hp) (tx_new ht hp (DgAll.cut a lo hi))
theorem Dx.cat {v u : V} {ds es : List PyData} {Q : VK} (ht : ∃ o, H t = some o) (h : Dx K H t v (.tuple ds)) (h' : Dx K H t u (.tuple es)) (n : ds.length + es.length ≤ 1000) (q : ∀ p H', Fr [] H H' → Dx K H' t (.ref p) (.tuple (ds ++ es)) → Q (.ref p) H') : rAddU K v u H Q := by
  obtain ⟨p, vs, rfl, s, a⟩ := h.tuple
  obtain ⟨p', us, rfl, s', a'⟩ := h'.tuple
  refine .inr (.inl ⟨p, p', vs, us, rfl, rfl, s, s', Nat.le_trans (show _ ≤ 1000 by rw [DgAll.length a, DgAll.length a']; exact n) (by decide), fun z => ?_, fun _ z => ?_, fun _ _ r hr => ?_⟩)
  · subst z
    cases a
    exact q p' H Fr.refl h'
  · subst z
    cases a'
    refine q p H Fr.refl ?_
    rw [List.append_nil]
    exact h
  · exact q r _ (Fr.new hr) (tx_new ht hr (DgAll.append a a'))
theorem Dx.ix {v : V} {ds : List PyData} {i : Int} {Q : VK} (h : Dx K H t v (.tuple ds)) (h0 : 0 ≤ i) (h1 : i < ds.length) (k : ∀ u d, Dx K H t u d → ds[i.toNat]? = some d → Q u H) : rIx K v (.int i) H Q := by
  obtain ⟨p, vs, rfl, s, a⟩ := h.tuple
  have ek : i = ((i.toNat : Nat) : Int) := by omega
  have hk : i.toNat < ds.length := by omega
  obtain ⟨u, hu, du⟩ := DgAll.at a (List.getElem?_eq_getElem hk)
  refine w_ixT s ?_ (k u _ du (List.getElem?_eq_getElem hk))
  rw [ek]
  exact atI_nat hu
theorem Dx.len {v : V} {ds : List PyData} {Q : VK} (h : Dx K H t v (.tuple ds)) (k : Q (.int ds.length) H) : rLenU K [v] H Q := by
  obtain ⟨p, vs, rfl, s, a⟩ := h.tuple
  rw [← DgAll.length a] at k
  exact w_lenT s k
theorem Dx.list {v : V} {ds : List PyData} {Q : VK} (ht : ∃ o, H t = some o) (h : Dx K H t v (.tuple ds)) (k : ∀ p H', H p = none → Fr [] H H' → Lx K H' t p ds → Q (.ref p) H') : rListU K [v] H Q := by
  obtain ⟨p, vs, rfl, s, a⟩ := h.tuple
  exact w_listT s fun p hp => k p _ hp (Fr.new hp) (lx_new ht hp a)
theorem Lx.tuple' {q : Addr} {ds : List PyData} {Q : VK} (ht : ∃ o, H t = some o) (h : Lx K H t q ds) (k : ∀ p H', Fr [] H H' → Dx K H' t (.ref p) (.tuple ds) → Q (.ref p) H') : rTupleU K [.ref q] H Q := by
  obtain ⟨vs, e, _, a⟩ := h
  exact w_tupleL (SqL.of e) fun p hp => k p _ (Fr.new hp) (tx_new ht hp a)
end
/-- an empty dict away from t -/
theorem dx_dict {K : PySem.W.Frag} {H : Hp} {t p : Addr} {kvs : List (Key × V)} {es : List (PyData × PyData)} (h : H p = some (.dK kvs)) (n : p ≠ t) : Dx K H t (.ref p) (.dict es) := .dct (by rw [wo_at n]; exact h)
/-! ### str of a truth, lists of other lengths -/
section
variable {X : Cx}
def rStrU : List V → Hp → VK → Prop := fun xs H Q => (∃ i, xs = [.int i] ∧ i.natAbs.log2 < 1920 ∧ Q (.str (toString i)) H) ∨ ∃ b : Bool, xs = [.bl b] ∧ Q (.str (if b then "True" else "False")) H
theorem call_str_bl : CallR X (.type "str") (fun xs H Q => ∃ b : Bool, xs = [.bl b] ∧ Q (.str (if b then "True" else "False")) H) := by
  intro pins s σ H xs us Q I rx h
  obtain ⟨b, rfl, q⟩ := h
  cases rx with
  | cons r t =>
  cases t
  cases r
  exact P.str_of_bool ⟨.str (if b then "True" else "False"), H, I.tok _, ⟨_, rfl⟩, q⟩
theorem call_strU : CallR X (.type "str") rStrU := call_str_int.or call_str_bl
def rNeLen : R2 := fun x y H Q => ∃ l m xs ys, x = .ref l ∧ y = .ref m ∧ H l = some (.lst xs) ∧ H m = some (.lst ys) ∧ xs.length ≠ ys.length ∧ Q (.bl true) H
theorem op_neLen (hu : X.A.units + 64 < cLine) : OpR X (compareOp .NotEq) rNeLen := by
  intro pins s σ H x y v u Q I rx ry h
  obtain ⟨l, m, xs, ys, rfl, rfl, hl, hm, n, q⟩ := h
  cases rx
  cases ry
  obtain ⟨_, its, c, v1, g1⟩ := I.hok l _ hl
  obtain ⟨_, its2, c2, v2, g2⟩ := I.hok m _ hm
  refine SeqAt.RcNeAt.lists_lengths ⟨_, g1, rfl, _, rfl⟩ ⟨_, g2, rfl, _, rfl⟩ ?_ (by omega) _ _ _ _ ⟨.bl true, H, I, rfl, q⟩
  rw [List.size_toArray, List.size_toArray, ← Paired.len v1, ← Paired.len v2]
  simpa using n
def rNeUL (K : PySem.W.Frag) : R2 := r2or (rNeU K) rNeLen
theorem op_neUL {K} (hK : X.K = K) (hu : X.A.units + 64 < cLine) : OpR X (compareOp .NotEq) (rNeUL K) := (op_neU hK hu).or (op_neLen hu)
end
/-! ### comprehensions of truths over any data -/
section
variable {K : PySem.W.Frag}
theorem LCB {q : Addr} {H : Hp} {vs : List V} {ds : List PyData} {j : Nat} {ws : List Nat} {σ : L2.St} {te : TE} {Q : VK} (s : SqL K H q vs) (a : DgAll K H vs ds) (ld : ds.length ≤ 100000) (f : PyData → Bool)
    (hw : ∀ x, wipe ((wipe σ ws).set j (some x)) ws = wipe σ ws)
    (he : ∀ d x H', d ∈ ds → Fr [] H H' → Dg K H' x d → ∀ Q : VK, (∀ H2, Fr [] H' H2 → Q (.bl (f d)) H2) → te ((wipe σ ws).set j (some x)) H' Q)
    (k : ∀ D H', H D = none → Fr [] H H' → Lq K H' D ((ds.map f).map PyData.bool) → Q (.ref D) H') :
    ∃ a', V.ref q = .ref a' ∧ (∃ ys, SqL K H a' ys) ∧ ∀ D, H D = none → LC (Itl K a') (gName j) tYes te ws σ D Q (upd H D (.lst [])) := by
  have lu := DgAll.length a
  refine LC_L s fun D hD => LC_by (a := q) (xs := vs) (fun i H' => Fr [] H H' ∧ Lq K H' D (((ds.take i).map f).map PyData.bool)) ⟨Fr.new hD, [], upd_same, .nil⟩ (fun i H' _ h => h.1.seqL s (by simp)) ?_ ?_
  · rintro i x H' hx ⟨f', ys, hys, dys⟩
    obtain ⟨d, h1, h2⟩ := DgAll.get (a.fr f') hx
    have hi : i < vs.length := (List.getElem?_eq_some_iff.mp hx).1
    have ly : ys.length ≤ i := by
      rw [dys.length, List.length_map, List.length_map, List.length_take]
      omega
    refine ⟨hw x, w_yes (iteT ?_)⟩
    refine he d x H' (List.mem_of_getElem? h1) f' h2 _ fun H2 f2 => ?_
    have e3 := f2 _ _ hys (by simp)
    refine ⟨ys, e3, Nat.lt_of_le_of_lt (show ys.length ≤ 100000 by omega) (by decide), Fr.new_mut hD ((f'.trans f2).mono (by simp) |>.trans (Fr.mut (by simp))), _, upd_same, ?_⟩
    rw [List.take_add_one, h1, List.map_append, List.map_append]
    exact ((dys.mono f2.tu).append (.cons (.bl _) .nil)).mono (Tu.mut e3)
  · rintro H' ⟨f', L⟩
    rw [lu, List.take_length] at L
    exact k D H' hD f' L
theorem LCBT {q : Addr} {H : Hp} {vs : List V} {ds : List PyData} {j : Nat} {ws : List Nat} {σ : L2.St} {te : TE} {Q : VK} (s : SqT K H q vs) (a : DgAll K H vs ds) (ld : ds.length ≤ 100000) (f : PyData → Bool)
    (hw : ∀ x, wipe ((wipe σ ws).set j (some x)) ws = wipe σ ws)
    (he : ∀ d x H', d ∈ ds → Fr [] H H' → Dg K H' x d → ∀ Q : VK, (∀ H2, Fr [] H' H2 → Q (.bl (f d)) H2) → te ((wipe σ ws).set j (some x)) H' Q)
    (k : ∀ D H', H D = none → Fr [] H H' → Lq K H' D ((ds.map f).map PyData.bool) → Q (.ref D) H') :
    ∃ a', V.ref q = .ref a' ∧ (∃ ys, SqT K H a' ys) ∧ ∀ D, H D = none → LC (Itt K a') (gName j) tYes te ws σ D Q (upd H D (.lst [])) := by
  have lu := DgAll.length a
  refine LC_T s fun D hD => ?_
  refine lc_it (walk_tup (K := K) (a := q) (xs := vs)) (fun i H' => Fr [] H H' ∧ Lq K H' D (((ds.take i).map f).map PyData.bool)) ⟨Fr.new hD, [], upd_same, .nil⟩ (fun i H' _ h => h.1.seqT s (by simp)) ?_ ?_
  · rintro i x H0' H' hi ⟨f', ys, hys, dys⟩ ⟨rfl, hx⟩
    obtain ⟨d, h1, h2⟩ := DgAll.get (a.fr f') hx
    have ly : ys.length ≤ i := by
      rw [dys.length, List.length_map, List.length_map, List.length_take]
      omega
    refine ⟨hw x, w_yes (iteT ?_)⟩
    refine he d x _ (List.mem_of_getElem? h1) f' h2 _ fun H2 f2 => ?_
    have e3 := f2 _ _ hys (by simp)
    refine ⟨ys, e3, Nat.lt_of_le_of_lt (show ys.length ≤ 100000 by omega) (by decide), Fr.new_mut hD ((f'.trans f2).mono (by simp) |>.trans (Fr.mut (by simp))), _, upd_same, ?_⟩
    rw [List.take_add_one, h1, List.map_append, List.map_append]
    exact ((dys.mono f2.tu).append (.cons (.bl _) .nil)).mono (Tu.mut e3)
  · rintro H' ⟨f', L⟩
    rw [lu, List.take_length] at L
    exact k D H' hD f' L
end
end U

/-! sorted(a dict), sorted(its items), sorted(a list), of data -/
namespace U
open PySem PySem.Spec PyProof.Rows L2
mutual
/-- tuples all the way down -/
def kdb : PyData → Bool
  | .none => true
  | .bool _ => true
  | .int _ => true
  | .str _ => true
  | .tuple ds => kdbAll ds
  | _ => false
def kdbAll : List PyData → Bool
  | [] => true
  | d :: r => kdb d && kdbAll r
end
mutual
theorem Dt.kdb {K : PySem.W.Frag} {H : Hp} : ∀ {v : V} {d : PyData}, Dt K H v d → U.kdb d = true
  | _, _, .non => rfl
  | _, _, .bl _ => rfl
  | _, _, .int _ => rfl
  | _, _, .str _ => rfl
  | _, _, .tup _ a => by rw [U.kdb]; exact DtAll.kdb a
theorem DtAll.kdb {K : PySem.W.Frag} {H : Hp} : ∀ {vs : List V} {ds : List PyData}, DtAll K H vs ds → kdbAll ds = true
  | _, _, .nil => rfl
  | _, _, .cons a b => by rw [kdbAll, Dt.kdb a, DtAll.kdb b]; rfl
end
mutual
theorem reads_nil {h : Heap} : ∀ {u : Value} {d : PyData} {as : List Addr}, Reads h u d as → kdb d = true → as = []
  | _, _, _, .none, _ => rfl
  | _, _, _, .bool b, _ => rfl
  | _, _, _, .int i t, _ => rfl
  | _, _, _, .str x t, _ => rfl
  | _, _, _, .list _ _ _ _, k => by simp [kdb] at k
  | _, _, _, .tuple g c e a, k => readsAll_nil a (by simpa [kdb] using k)
  | _, _, _, .dict _ _ _ _ _, k => by simp [kdb] at k
theorem readsAll_nil {h : Heap} : ∀ {us : List Value} {ds : List PyData} {as : List Addr}, ReadsAll h us ds as → kdbAll ds = true → as = []
  | _, _, _, .nil, _ => rfl
  | _, _, _, .cons a b, k => by
    simp only [kdbAll, Bool.and_eq_true] at k
    rw [reads_nil a k.1, readsAll_nil b k.2]
    rfl
end
theorem each_of {α β : Type} {F : α → β → Prop} : ∀ {xs : List α} {ys : List β}, Paired F xs ys → PySem.W.EachIs F xs ys
  | _, _, .nil => .nil
  | _, _, .cons a b => .cons a (each_of b)
theorem of_each {α β : Type} {F : α → β → Prop} : ∀ {xs : List α} {ys : List β}, PySem.W.EachIs F xs ys → Paired F xs ys
  | _, _, .nil => .nil
  | _, _, .cons a b => .cons a (of_each b)
/-- a value in the heap and its data -/
def IsD (K : PySem.W.Frag) (H : Hp) {β : Type} (enc : β → PyData) (u : Value) (b : β) : Prop := ∃ v, RelV v u ∧ Dt K H v (enc b)
theorem vals_of {K : PySem.W.Frag} {H : Hp} {β : Type} {enc : β → PyData} : ∀ {us : List Value} {bs : List β}, Paired (IsD K H enc) us bs → ∃ ys, Vals ys us ∧ DtAll K H ys (bs.map enc)
  | _, _, .nil => ⟨[], .nil, .nil⟩
  | _, _, .cons ⟨v, r, d⟩ b => by
    obtain ⟨ys, h1, h2⟩ := vals_of b
    exact ⟨v :: ys, .cons r h1, .cons d h2⟩
section
variable {X : Cx} {pins : List (Addr × Obj)} {σ : L2.St} {H : Hp} {s : Shared}
theorem get_lt {h : Heap} {b : Addr} {o : Obj} (e : h.get? b = some o) : b < h.objs.size := by
  by_cases n : b < h.objs.size
  · exact n
  · exfalso
    unfold Heap.get? at e
    rw [Array.getElem?_eq_none (Nat.le_of_not_lt n)] at e
    cases e
/-- the sort of a list that was just made, all that stood stands -/
theorem sort_new {β : Type} {bs : List β} {enc : β → PyData} {us : List Value} {h' : Heap} {tk : Nat} {A : Around} {Q : Value → Shared → Prop} {E : Value → Shared → Prop} (I : Inv X pins σ H s)
    (old : ∀ (b : Addr) (o : Obj), s.heap.get? b = some o → h'.get? b = some o) (grow : s.heap.objs.size ≤ h'.objs.size)
    (h : Paired (IsD X.K H enc) us bs) (al : PySem.W.AllAlike (bs.map enc)) (so : PySem.W.Sortable (bs.map enc)) (n : bs.length ≤ 100000)
    (hu : A.units + 65 < cLine) (dp : ∀ b ∈ bs, (enc b).depth ≤ 10)
    (q : ∀ (p : Addr) (s' : Shared) (H' : Hp), H p = none → Fr [] H H' → Inv X pins σ H' s' → Lq X.K H' p ((bs.mergeSort (PySem.W.dataLe false enc)).map enc) → Q (.ref p) s') :
    wpAny (model X.prog X.w) A (call (.builtin "list.sort") [.ref h'.objs.size]) (fun _ s' => Q (.ref h'.objs.size) s') E { s with heap := h'.push { cls := .type "list", data := .seq us.toArray }, toks := tk } := by
  have hg : (h'.push { cls := .type "list", data := .seq us.toArray }).get? h'.objs.size = some (seqObj "list" us.toArray 0) := Heap.get?_push_size _ rfl
  have hp : H h'.objs.size = none := HOk.fresh I.hok grow
  have lsz : ∀ (b : Addr) (o : Obj), s.heap.get? b = some o → b ≠ h'.objs.size ∧ b < (h'.push { cls := Value.type "list", data := .seq us.toArray }).objs.size := fun b o hb => by
    have := get_lt (old b o hb)
    refine ⟨Nat.ne_of_lt this, ?_⟩
    show b < (h'.objs.push _).size
    rw [Array.size_push]
    exact Nat.lt_succ_of_lt this
  obtain ⟨xs, vx, dx⟩ := vals_of h
  have lx : xs.length = bs.length := by
    rw [Paired.len vx, Paired.len h]
  have I1 : Inv X pins σ (upd H h'.objs.size (.lst xs)) { s with heap := h'.push { cls := .type "list", data := .seq us.toArray }, toks := tk } := I.laid (fun b o hb => by
    rw [Heap.get?_push_ne _ _ _ (lsz b o hb).1]
    exact old b o hb) grow ⟨by rw [lx]; exact Nat.le_trans n (by decide), us, 0, vx, hg⟩
  refine PySem.W.list_sort_data (n := 0) (R := IsD X.K H enc) (bs := bs) (enc := enc) (vs := us) hg (each_of h) (each_of (Paired.imp (fun u b z => ?_) h)) al so (Nat.le_trans n (by decide)) (fun b hb => by have := dp b hb; omega) fun out lo eo => ?_
  · obtain ⟨v, rv, d⟩ := z
    obtain ⟨as, r⟩ := Dp.reads I1 (enc b) v u (d.mono (Tu.new hp)).dp rv
    exact ⟨as, r, by rw [reads_nil r d.kdb]; simp⟩
  · obtain ⟨ys, vy, dy⟩ := vals_of (of_each eo)
    obtain ⟨e, he⟩ := sortedHeap_at (out := out.toArray) hg
    refine q h'.objs.size _ (upd H h'.objs.size (.lst ys)) hp (Fr.new hp) (I.laid (fun b o hb => ?_) grow ⟨?_, out, e, vy, he⟩) ⟨ys, upd_same, dy.mono (Tu.new hp)⟩
    · obtain ⟨n1, n2⟩ := lsz b o hb
      rw [sortedHeap_old n1 n2, Heap.get?_push_ne _ _ _ n1]
      exact old b o hb
    · have : ys.length = out.length := Paired.len vy
      rw [this, lo]
      exact Nat.le_trans n (by decide)
end
section
variable {α : Type} [DecidableEq α] {X : Cx} {P : Program} {w : World} {K : PySem.W.Frag} {dS : α → PyData}
/-- data in a row that can be sorted: tuples, none of them empty, alike place by place -/
def Sorty (ds : List PyData) : Prop := PySem.W.AllAlike ds ∧ PySem.W.Sortable ds
def rSortKN (P : Program) (w : World) (K : PySem.W.Frag) (dS : α → PyData) : List V → Hp → VK → Prop := fun xs H Q => ∃ (d : Addr) (kvs : List (α × V)), xs = [.ref d] ∧ DN P w K dS H d kvs ∧ kvs.length ≤ 100000 ∧ Sorty ((kvs.map (·.1)).map dS) ∧
  ∀ p H', H p = none → Fr [] H H' → Lq K H' p (((kvs.map (·.1)).mergeSort (PySem.W.dataLe false dS)).map dS) → Q (.ref p) H'
theorem Paired.flip {α β : Type} {F : α → β → Prop} : ∀ {xs : List α} {ys : List β}, Paired F xs ys → Paired (fun y x => F x y) ys xs
  | _, _, .nil => .nil
  | _, _, .cons a b => .cons a (Paired.flip b)
theorem paired_at {α β : Type} {F : α → β → Prop} : ∀ {xs : List α} {ys : List β}, xs.length = ys.length → (∀ (i : Nat) (x : α) (y : β), xs[i]? = some x → ys[i]? = some y → F x y) → Paired F xs ys
  | [], [], _, _ => .nil
  | [], _ :: _, h, _ => by simp at h
  | _ :: _, [], h, _ => by simp at h
  | x :: xs, y :: ys, h, k => .cons (k 0 x y rfl rfl) (paired_at (by simpa using h) fun i a b ha hb => k (i + 1) a b (by simpa using ha) (by simpa using hb))
theorem Paired.at {α β : Type} {F : α → β → Prop} : ∀ {xs : List α} {ys : List β}, Paired F xs ys → ∀ {i : Nat} {x : α}, xs[i]? = some x → ∃ y, ys[i]? = some y ∧ F x y
  | _, _, h, i, x, hx => Paired.get (Paired.flip h) hx
theorem call_sortedKN (D : KeyD dS) (hc : X.calm = true) (hu : X.A.units + 70 < cLine) : CallR X (.builtin "sorted") (rSortKN X.prog X.w X.K dS) := by
  intro pins s σ H xs us Q I rx h
  obtain ⟨d, kvs, rfl, hd, n, so, q⟩ := h
  cases rx with
  | cons r t =>
  cases t
  cases r
  obtain ⟨ks, ⟨o, es, ep, ho, hex, hda, hl, hi, hn⟩, pr, ns, m⟩ := hd.heap D I
  have sz : es.size = kvs.length := by rw [← Array.length_toList, hl, List.length_map, Paired.len pr]
  refine Calls.call_function_entry kind_sorted plain_sorted entry_sorted (args_sorted1 _) ?_
  show wpAny _ _ (do
    let vs ← collect (.ref d)
    let l ← newList vs
    let _ ← holding [l] (call (.builtin "list.sort") [l] [])
    ret l) _ _ _
  refine wpAny_bind (PySem.W.kdu_collect (KdlSrc.rawDict (prog := X.prog) (w := X.w) (es := es) (ep := ep) ns) (I.ok.hd hc) ⟨o, ho, hex, hda⟩ (by rw [sz]; exact Nat.le_trans n (by decide)) fun h' tk acc old its => ?_)
  have la : acc.size = kvs.length := its.1.trans sz
  have hk : Paired (IsD X.K H dS) acc.toList (kvs.map (·.1)) := by
    refine paired_at (by rw [Array.length_toList, List.length_map, la]) fun i x y hx hy => ?_
    rw [Array.getElem?_toList] at hx
    obtain ⟨hi', rfl⟩ := its.2 i x hx
    rw [List.getElem?_map] at hy
    cases ek : kvs[i]? with
    | none => rw [ek] at hy; cases hy
    | some kv =>
      rw [ek] at hy
      cases hy
      obtain ⟨e, he, rk⟩ := Paired.at pr ek
      have h3 : es.toList[i]? = some (entryOfKey (nestedKind X.prog X.w) e) := by rw [hl, List.getElem?_map, he]; rfl
      rw [Array.getElem?_toList, Array.getElem?_eq_getElem hi'] at h3
      rw [Option.some.inj h3]
      exact ⟨.ref e.2.1, rfl, rk.1⟩
  have I2 := I.turnedL (ch := []) (t' := tk) (fun b o _ hb => old b o hb) (fun b hb => by simp at hb)
  refine wpAny_bind (wpAny_newList ?_ (by rw [Array.length_toList, la]; exact Nat.le_trans n (by decide)))
  refine wpAny_bind (wpAny_holding ?_)
  have hu' : X.A.in1.units + 65 < cLine := by
    show X.A.units + 1 + 65 < cLine
    omega
  refine sort_new (bs := kvs.map (·.1)) (enc := dS) (us := acc.toList) (Q := fun v s' => wpAny (model X.prog X.w) X.A.in1 (ret v) _ _ s') I2 (fun _ _ z => z) (Nat.le_refl _) hk so.1 so.2 (by rw [List.length_map]; exact n) hu' (fun b _ => Nat.le_trans (D.dp b) (by decide)) fun p s' H' np f' I' L' => ?_
  exact wpAny_of_eq rfl ⟨_, rfl, .ref p, H', I', rfl, q p H' np f' L'⟩
theorem call_sortedKNU (D : KeyD dS) (hP : X.prog = P) (hw : X.w = w) (hK : X.K = K) (hc : X.calm = true) (hu : X.A.units + 70 < cLine) : CallR X (.builtin "sorted") (rSortKN P w K dS) := by subst hP hw hK; exact call_sortedKN D hc hu
/-- sorted(a list of data) -/
def rSortL (K : PySem.W.Frag) : List V → Hp → VK → Prop := fun xs H Q => ∃ (l : Addr) (ds : List PyData), xs = [.ref l] ∧ Lq K H l ds ∧ ds.length ≤ 100000 ∧ Sorty ds ∧ (∀ d ∈ ds, d.depth ≤ 10) ∧
  ∀ p H', H p = none → Fr [] H H' → Lq K H' p (ds.mergeSort (PySem.W.dataLe false id)) → Q (.ref p) H'
/-- d.get(k, x) -/
def rGetN (P : Program) (w : World) (K : PySem.W.Frag) (dS : α → PyData) : V → List V → Hp → VK → Prop := fun x vs H Q => ∃ (d a : Addr) (kvs : List (α × V)) (k : α) (z : V), x = .ref d ∧ vs = [.ref a, z] ∧ DN P w K dS H d kvs ∧ Dt K H (.ref a) (dS k) ∧ Q ((atN kvs k).getD z) H
theorem mt_getN (D : KeyD dS) (hu : X.A.units + 65 < cLine) : MtR X "dict.get" (rGetN X.prog X.w X.K dS) := by
  intro pins s σ H x vs v us Q I rx rvs h
  obtain ⟨d, a, kvs, k, z, rfl, rfl, hd, hk, q⟩ := h
  cases rx
  cases rvs with
  | cons ra rvs =>
  cases rvs with
  | cons rz rvs =>
  cases rvs
  cases ra
  obtain ⟨xs, hD, pr, ns, m⟩ := hd.heap D I
  obtain ⟨o, es, ep, ho, hex, _⟩ := id hD
  refine call_meetsIn F.slot_dict_get ⟨o, ho, hex.1⟩ F.entry_dict_get (F.args_dict_get_3 _ _ _) (meetsH_dict_get_default (nestedKind X.prog X.w) d a ns _) ?_
  refine ⟨roomN hu, U.nk (dS k), xs, D.is I hk, hD, ?_⟩
  rcases at_paired D k pr with ⟨e, f⟩ | ⟨v', p, u, e, f, r⟩
  · rw [f]
    rw [e] at q
    exact ⟨z, H, I.tok _, rz, q⟩
  · rw [f]
    rw [e] at q
    exact ⟨v', H, I.tok _, r, q⟩
theorem mt_getNU (D : KeyD dS) (hP : X.prog = P) (hw : X.w = w) (hK : X.K = K) (hu : X.A.units + 65 < cLine) : MtR X "dict.get" (rGetN P w K dS) := by subst hP hw hK; exact mt_getN D hu
theorem w_getN {H : Hp} {Q : VK} {a d : Addr} {kvs : List (α × V)} {k : α} {z : V} (hd : DN P w K dS H d kvs) (hk : Dt K H (.ref a) (dS k)) (q : Q ((atN kvs k).getD z) H) : rGetN P w K dS (.ref d) [.ref a, z] H Q := ⟨d, a, kvs, k, z, rfl, rfl, hd, hk, q⟩
end
theorem u1 {A : Around} {k : Nat} (hr : Room k A) : A.units + 1 < cLine := by have := hr.un; omega
theorem w_dget {σ : L2.St} {H : Hp} {td ty : TE} {Q : VK} (q : td σ H fun x H1 => ty σ H1 fun y H2 => ∃ a v, x = V.ref a ∧ DGet H2 a y (some v) ∧ Q v H2) : tDGet td ty σ H Q := q
theorem pi_zipU {X : Cx} {K} {e e2 : Expr} {ta : TA} {p pos tpos : Pos} {elts : List Expr} {kk : Nat} (hK : X.K = K) (hg : Gl X "zip") (hm : X.mg "zip" = none) (ha : PA X [e, e2] ta)
    (h1 : starEach [e, e2] X.env = (false, eval e X.env) :: starEach [e2] X.env := by rfl) (h2 : ((backTo pos (starEach [e2] X.env)).any fun x => x.1) = false := by rfl) :
    PI X (.Tuple elts kk tpos) (.Call (.Name "zip" p) [e, e2] [] pos) (iZip K ta) := by subst hK; exact pi_zip hg hm ha h1 h2
theorem w_iZip {K} {σ : L2.St} {H : Hp} {ta : TA} {R : It → Hp → Prop} (q : ta σ H fun vs H1 => ∃ a b xs ys, vs = [V.ref a, V.ref b] ∧ SqL K H1 a xs ∧ SqL K H1 b ys ∧ R (Itz K a b) H1) : iZip K ta σ H R := q
end U

/-! dicts keyed by nested tuples: setdefault, walks over keys and values -/
namespace U
open PySem PySem.Spec PyProof.Rows L2
section
variable {α : Type} [DecidableEq α] {X : Cx} {P : Program} {w : World} {K : PySem.W.Frag} {dS : α → PyData}
def rSetdN (P : Program) (w : World) (K : PySem.W.Frag) (dS : α → PyData) : V → List V → Hp → VK → Prop := fun x vs H Q => ∃ (d a : Addr) (kvs : List (α × V)) (k : α) (y : V), x = .ref d ∧ vs = [.ref a, y] ∧ DN P w K dS H d kvs ∧ Dt K H (.ref a) (dS k) ∧ kvs.length ≤ 100000 ∧
  (∀ v, atN kvs k = some v → Q v H) ∧ (atN kvs k = none → ∀ H', Fr [d] H H' → Tu H H' → DN P w K dS H' d (putN kvs k y) → Q y H')
theorem mt_setdN (D : KeyD dS) (hu : X.A.units + 65 < cLine) : MtR X "dict.setdefault" (rSetdN X.prog X.w X.K dS) := by
  intro pins s σ H x vs v us Q I rx rvs h
  obtain ⟨d, a, kvs, k, y, rfl, rfl, hd, hk, n, q1, q2⟩ := h
  cases rx
  obtain ⟨_, u, ra, ry, rfl⟩ : ∃ u u', RelV (.ref a) u ∧ RelV y u' ∧ us = [u, u'] := by
    cases rvs with
    | cons r t =>
      cases t with
      | cons r2 t2 =>
        cases t2
        exact ⟨_, _, r, r2, rfl⟩
  cases ra
  obtain ⟨xs, hD, pr, ns, m⟩ := hd.heap D I
  obtain ⟨o, es, ep, ho, hex, _⟩ := id hD
  refine call_meetsIn F.slot_dict_setdefault ⟨o, ho, hex.1⟩ F.entry_dict_setdefault (F.args_dict_setdefault_3 _ _ _) (meetsH_dict_setdefault (nestedKind X.prog X.w) d a ns u) ?_
  refine ⟨roomN hu, nk (dS k), xs, D.is I hk, hD, by rw [← Paired.len pr]; exact Nat.le_trans n (by decide), fun p hp => ?_, fun hn h' hD' sb => ?_⟩
  · rcases at_paired D k pr with ⟨e, f⟩ | ⟨v', p', u', e, f, r⟩
    · rw [f] at hp; cases hp
    · rw [f] at hp
      cases hp
      exact ⟨v', H, I.tok _, r, q1 v' e⟩
  · rcases at_paired D k pr with ⟨e, f⟩ | ⟨v', p', u', e, f, r⟩
    · obtain ⟨H', I', f', t, d'⟩ := DN.write I hd ns m hD' sb (put_paired D hk ry pr)
      exact ⟨y, H', I', ry, q2 e H' f' t d'⟩
    · rw [f] at hn; cases hn
theorem mt_setdNU (D : KeyD dS) (hP : X.prog = P) (hw : X.w = w) (hK : X.K = K) (hu : X.A.units + 65 < cLine) : MtR X "dict.setdefault" (rSetdN P w K dS) := by subst hP hw hK; exact mt_setdN D hu
theorem w_setdN {H : Hp} {Q : VK} {a d : Addr} {kvs : List (α × V)} {k : α} {y : V} (hd : DN P w K dS H d kvs) (hk : Dt K H (.ref a) (dS k)) (n : kvs.length ≤ 100000) (q1 : ∀ v, atN kvs k = some v → Q v H) (q2 : atN kvs k = none → ∀ H', Fr [d] H H' → Tu H H' → DN P w K dS H' d (putN kvs k y) → Q y H') : rSetdN P w K dS (.ref d) [.ref a, y] H Q := ⟨d, a, kvs, k, y, rfl, rfl, hd, hk, n, q1, q2⟩
/-! ### values -/
def valsO (p d : Addr) : HO := .ext fun h => h.IsValuesView p d
theorem valsO_ok {H : Hp} {h : Heap} {p d : Addr} (e : h.get? p = some { cls := .type "dict_values", data := .fields #[.ref d] }) : ObjOk P w H h p (valsO p d) :=
  ⟨⟨_, e, rfl, rfl⟩, ⟨_, e⟩, fun h1 h2 x k => let ⟨o, ho, r⟩ := x; ⟨o, k o ho, r⟩⟩
def rValsN (P : Program) (w : World) (K : PySem.W.Frag) (dS : α → PyData) : V → List V → Hp → VK → Prop := fun x vs H Q => ∃ (d : Addr) (kvs : List (α × V)), x = .ref d ∧ vs = [] ∧ DN P w K dS H d kvs ∧ ∀ p, H p = none → Q (.ref p) (upd H p (valsO p d))
theorem mt_valsN (D : KeyD dS) : MtR X "dict.values" (rValsN X.prog X.w X.K dS) := by
  intro pins s σ H x vs v us Q I rx rvs h
  obtain ⟨d, kvs, rfl, rfl, hd, q⟩ := h
  cases rx
  cases rvs
  obtain ⟨xs, ⟨o, es, ep, ho, hex, hda, _⟩, _, ns, _⟩ := hd.heap D I
  refine call_meetsIn F.slot_dict_values ⟨o, ho, hex.1⟩ F.entry_dict_values (F.args_dict_values_1 _) (meets_dict_values_raw d ns) ⟨⟨es, ep, o, ho, hex, hda⟩, ?_⟩
  have hp := I.fresh
  have hg : Heap.get? (Heap.push s.heap { cls := Value.type "dict_values", data := Data.fields #[Value.ref d] }) s.heap.objs.size = some { cls := Value.type "dict_values", data := Data.fields #[Value.ref d] } := Heap.get?_push_size _ rfl
  refine ⟨.ref _, _, I.laid (a := s.heap.objs.size) (o := valsO s.heap.objs.size d) (fun b u hb => ?_) (Nat.le_refl _) (valsO_ok hg), rfl, q _ hp⟩
  rw [Heap.get?_push_ne]
  · exact hb
  · rintro rfl
    exact get_size hb
/-- the turns over its values -/
def ItV (d : Addr) (o : Obj) (vs : List V) : It where
  go i H := H d = some (atO d o) ∧ i < vs.length
  yld i H x H' := H' = H ∧ vs[i]? = some x
  stop i H := H d = some (atO d o) ∧ i = vs.length
theorem turn_valsN {tg : Expr} {d it : Addr} {o : Obj} {es : Array DictEntry} {ep : Nat} {vs : List V} (hex : o.ExactDict) (hda : o.data = .dict es ep) (hk : Paired (fun (v : V) (e : DictEntry) => RelV v e.val) vs es.toList) :
    Turn P w K tg (ItV d o vs) [it] it fun i h => h.IsValIter it d i es.size ep where
  mem := by simp
  obj := fun i h st b hb => by
    have e : b = it := by simpa using hb
    subst e
    obtain ⟨oi, e, c, dd⟩ := st
    exact ⟨oi, e, fun v z => by rw [dd] at z; cases z⟩
  keep := fun i h h' st k => st.at fun oi e => k it (by simp) oi e
  item := by
    rintro X rfl rfl rfl hc i pins s σ H E I hf st ⟨hd, hi⟩
    obtain ⟨ho, _⟩ := I.hok d _ hd
    obtain ⟨f0, f1, f2, f3, f4, f5⟩ := hf it (by simp)
    have raw : Heap.DictRaw s.heap d es ep := ⟨o, ho, hex, hda⟩
    have sz : vs.length = es.size := by rw [Paired.len hk, Array.length_toList]
    have hi2 : i < es.size := by omega
    obtain ⟨v, hv, rv⟩ := Paired.get hk (i := i) (y := es[i]) (by rw [Array.getElem?_toList, Array.getElem?_eq_getElem hi2])
    refine wpAny_pyNext_values_item_raw st raw hi2 fun h' st' sb => ?_
    have I1 : Inv X pins σ H { s with heap := h' } := I.turned (t' := s.toks) (fun b ob hb e => (sb.2 b hb).trans e) f0 f1 f3 f4 f5
    obtain ⟨oi, e, c, dd⟩ := id st'
    exact ⟨es[i].val, rfl, go_of (s := { s with heap := h' }) e c dd (by decide) ⟨v, H, I1, rv, ⟨rfl, hv⟩, st', fun b hb => (hf b hb).1⟩⟩
  done := by
    rintro X rfl rfl rfl hc i pins s σ H E I hf st ⟨hd, hi⟩
    obtain ⟨ho, _⟩ := I.hok d _ hd
    obtain ⟨f0, f1, f2, f3, f4, f5⟩ := hf it (by simp)
    have raw : Heap.DictRaw s.heap d es ep := ⟨o, ho, hex, hda⟩
    have sz : vs.length = es.size := by rw [Paired.len hk, Array.length_toList]
    exact wpAny_pyNext_values_end_raw (I.ok.hd hc) st raw (by omega) fun h' eb => ⟨rfl, I.turned (t' := s.toks) (fun b ob hb e => eb b ob hb e) f0 f1 f3 f4 f5⟩
  self := fun A i s Q E st h => wpAny_pyIter_valiter st h
theorem walk_valsN {d : Addr} {o : Obj} {vs : List V} : Walk (ItV d o vs) vs.length (fun H => H d = some (atO d o)) (fun i H x H' => H' = H ∧ vs[i]? = some x) :=
  ⟨fun _ _ hi q => ⟨q, hi⟩, fun _ q => ⟨q, rfl⟩, fun _ _ _ _ _ _ y => y⟩
def VALS (P : Program) (w : World) (K : PySem.W.Frag) (dS : α → PyData) (R : It → Hp → Prop) (x : V) (H1 : Hp) : Prop := dictN P w K dS x H1 ∧ rValsN P w K dS x [] H1 fun v H' => ∃ (p d : Addr) (kvs : List (α × V)), v = .ref p ∧ H' p = some (valsO p d) ∧ DN P w K dS H' d kvs ∧
  ∀ H2 o, Fr [d] H' H2 → Tu H' H2 → H2 d = some (atO d o) → R (ItV d o (kvs.map (·.2))) H2
theorem VALS.of {R : It → Hp → Prop} {H1 : Hp} {d : Addr} {kvs : List (α × V)} (hd : DN P w K dS H1 d kvs) (k : ∀ H2 o, Fr [d] H1 H2 → Tu H1 H2 → H2 d = some (atO d o) → R (ItV d o (kvs.map (·.2))) H2) : VALS P w K dS R (.ref d) H1 :=
  ⟨⟨d, kvs, rfl, hd⟩, d, kvs, rfl, rfl, hd, fun p hp => ⟨p, d, kvs, rfl, upd_same, hd.fr0 (Fr.new hp), fun H2 o f t h1 => k H2 o (Fr.trans (Fr.new hp) f) ((Tu.new hp).trans t) h1⟩⟩
def iValsN (P : Program) (w : World) (K : PySem.W.Frag) (dS : α → PyData) (te : TE) : TI := fun σ H R => te σ H fun x H1 => VALS P w K dS R x H1
theorem w_iValsN {σ : L2.St} {H : Hp} {te : TE} {R : It → Hp → Prop} (q : te σ H fun x H1 => VALS P w K dS R x H1) : iValsN P w K dS te σ H R := q
theorem valsN_of {H : Hp} : ∀ {kvs : List (α × V)} {xs : List (NestedKey × Addr × Value)}, Paired (RkN K H dS) kvs xs → Paired (fun (v : V) (e : DictEntry) => RelV v e.val) (kvs.map (·.2)) (xs.map (entryOfKey (nestedKind P w)))
  | _, _, .nil => .nil
  | _, _, .cons r b => .cons r.2.2 (valsN_of b)
theorem pi_valsN {e tg : Expr} {te : TE} {apos cpos : Pos} (D : KeyD dS) (hP : X.prog = P) (hw : X.w = w) (hK : X.K = K) (he : PE X e te) (hb : attributeBase e "values" X.env (eval e X.env) = eval e X.env := by rfl) (hl : (apos.endLine == cpos.line) = true := by rfl) :
    PI X tg (.Call (.Attribute e "values" apos) [] [] cpos) (iValsN P w K dS te) := by
  subst hP hw hK
  have P1 : PE X (.Call (.Attribute e "values" apos) [] [] cpos) (tMG0 (dictN X.prog X.w X.K dS) (rValsN X.prog X.w X.K dS) te) := pe_mG0 (ty_N D) F.plainAttrs_dict F.slot_dict_values F.type_dict_values (mt_valsN D) he hb hl
  refine ⟨fun pins s σ H R I q => ?_⟩
  refine wpAny_mono (P1.run pins s σ H _ I q) ?_ fun _ _ z => z
  · rintro v s1 ⟨v', H1, I1, rv, p, d, kvs, rfl, hp, hd, k⟩
    cases rv
    have hv : Heap.IsValuesView s1.heap p d := (I1.hok p _ hp).1
    obtain ⟨xs, ⟨o, es, ep, ho, hex, hda, hl, hi, hn⟩, pr, ns, m⟩ := hd.heap D I1
    have raw : Heap.DictRaw s1.heap d es ep := ⟨o, ho, hex, hda⟩
    refine wpAny_pyIter_values_raw hv raw ?_
    have t := Tu.dn hd (atO d o)
    have I2 : Inv X pins σ (upd H1 d (atO d o)) { s1 with toks := s1.toks } := I1.write m (.inl rfl) (fun b u hb hu => hu) ⟨o, ho⟩ ⟨ho, ⟨o, ho⟩, fun h1 h2 e f => f _ e⟩
    have k2 := valsN_of (P := X.prog) (w := X.w) pr
    rw [← hl] at k2
    have hfr : (upd H1 d (atO d o)) s1.heap.objs.size = none := I2.fresh
    refine ⟨s1.heap.objs.size, [s1.heap.objs.size], _, ItV d o (kvs.map (·.2)), upd H1 d (atO d o), rfl, I2.turnedL (ch := []) (fun b u _ hb => ?_) (fun b hb => by simp at hb), turn_valsN (es := es) (ep := ep) hex hda k2, ⟨_, Heap.get?_push_size _ rfl, rfl, rfl⟩, fun b hb => ?_, k _ o (Fr.mut (by simp)) t upd_same⟩
    · rw [Heap.get?_push_ne]
      · exact hb
      · rintro rfl
        exact get_size hb
    · rw [List.mem_singleton.mp hb]
      exact I2.fpOk (Nat.le_refl _) hfr
end
end U

/-! plain tuples, dict(a tuple of pairs), dicts keyed by None, numbers, texts; sorted(a list), sorted(items) -/
namespace U
open PySem PySem.Spec PyProof.Rows L2
/-! ### tuples of which it is known that they bear nothing else -/
def tfz (us : List Value) : Obj := { cls := .type "tuple", data := .seq us.toArray }
def PTup (H : Hp) (a : Addr) (xs : List V) : Prop := ∃ us, H a = some (.frz (tfz us) (.tup xs))
theorem PTup.sq {K : PySem.W.Frag} {H : Hp} {a : Addr} {xs : List V} (h : PTup H a xs) : SqT K H a xs := by
  obtain ⟨us, e⟩ := h
  exact .inl (.inr ⟨_, e⟩)
theorem PTup.fr {S : List Addr} {H H' : Hp} {a : Addr} {xs : List V} (h : PTup H a xs) (f : Fr S H H') (n : a ∉ S) : PTup H' a xs := by
  obtain ⟨us, e⟩ := h
  exact ⟨us, f _ _ e n⟩
section
variable {X : Cx}
def MkTP (xs : List V) (Q : VK) : Hp → Prop := fun H => xs.length ≤ sizeLine ∧ ∀ (p : Addr) (us : List Value), H p = none → Q (.ref p) (upd H p (.frz (tfz us) (.tup xs)))
def tTupP (ta : TA) : TE := fun σ H Q => ta σ H fun xs H1 => MkTP xs Q H1
theorem pe_tupP {es : List Expr} {t : TA} {x1 : Nat} {pos : Pos} (h : PA X es t) : PE X (.Tuple es x1 pos) (tTupP t) := by
  refine ⟨fun pins s σ H Q I hq => ?_⟩
  refine wpAny_Tuple_spliced (thn (h.run pos pins s σ H _ I hq) fun us s1 ⟨xs, H1, I1, r, z, q⟩ => ⟨by rw [← r.length]; exact z, ?_⟩)
  have hf : H1 s1.heap.objs.size = none := I1.hok.fresh (Nat.le_refl _)
  refine ⟨.ref s1.heap.objs.size, upd H1 s1.heap.objs.size (.frz (tfz us) (.tup xs)), I1.laid (t' := s1.toks) (fun b u e => Heap.get?_push_of_some _ e) (Nat.le_refl _) ?_, rfl, q _ us hf⟩
  exact ⟨Heap.get?_push_size _ rfl, z, us, r, ⟨_, Heap.get?_push_size _ rfl, rfl, _, rfl⟩⟩
theorem w_tupP {σ : L2.St} {H : Hp} {ta : TA} {Q : VK} (q : ta σ H fun xs H1 => MkTP xs Q H1) : tTupP ta σ H Q := q
def rTupleP (K : PySem.W.Frag) : List V → Hp → VK → Prop := fun xs H Q => ∃ p ys, xs = [.ref p] ∧ SqL K H p ys ∧ ∀ (l : Addr) (us : List Value), H l = none → Q (.ref l) (upd H l (.frz (tfz us) (.tup ys)))
theorem call_tupleP : CallR X (.type "tuple") (rTupleP X.K) := by
  intro pins s σ H xs us Q I r h
  obtain ⟨p, ys, rfl, hq, q⟩ := h
  obtain ⟨u, rfl, rx⟩ := vals1 r
  cases rx
  obtain ⟨its, r', pl, hz⟩ := I.list hq
  have hlen := r'.length
  refine call_tuple_list pl.isList (fun h' kp => ?_) (by simp only [List.size_toArray] <;> omega)
  have I1 : Inv X pins σ H { s with heap := h' } := I.kept (t' := s.toks) kp
  have I2 : Inv X pins σ (upd H h'.objs.size (.frz (tfz its) (.tup ys))) { s with heap := h'.push { cls := .type "tuple", data := .seq its.toArray } } :=
    I1.laid (t' := s.toks) (fun b o e => Heap.get?_push_of_some _ e) (Nat.le_refl _) (show ObjOk X.prog X.w _ _ _ (.frz (tfz its) (.tup ys)) from ⟨Heap.get?_push_size _ rfl, hz, its, r', IsTup.new _ _⟩)
  exact ⟨.ref h'.objs.size, _, I2, rfl, q _ its (I1.hok.fresh (Nat.le_refl _))⟩
theorem call_tuplePU {K} (hK : X.K = K) : CallR X (.type "tuple") (rTupleP K) := by subst hK; exact call_tupleP
/-! ### dict(a tuple of pairs) -/
theorem pv_of {h : Heap} : ∀ {prs : List (Key × Value)} {ps : List Addr}, prs.length = ps.length → (∀ (j : Nat) (q : Key × Value), prs[j]? = some q → ∃ (b : Addr) (u : Value), ps[j]? = some b ∧ IsTup h b #[u, q.2] ∧ keyIs q.1 u = true) →
    ∃ pv : List (Value × Value), pv.length = prs.length ∧ ∀ (j : Nat) (k v : Value), pv[j]? = some (k, v) → ∃ (b : Addr) (q : Key × Value), ps[j]? = some b ∧ prs[j]? = some q ∧ v = q.2 ∧ IsTup h b #[k, v] ∧ keyIs q.1 k = true
  | [], [], _, _ => ⟨[], rfl, fun j k v h => by simp at h⟩
  | [], _ :: _, l, _ => by simp at l
  | _ :: _, [], l, _ => by simp at l
  | q :: prs, b :: ps, l, hp => by
    obtain ⟨pv, l2, h2⟩ := pv_of (prs := prs) (ps := ps) (by simpa using l) fun j q' e => by
      obtain ⟨b', u, e1, e2⟩ := hp (j + 1) q' (by simpa using e)
      exact ⟨b', u, by simpa using e1, e2⟩
    obtain ⟨b0, u, e1, e2, e3⟩ := hp 0 q rfl
    have : b = b0 := by simpa using e1
    subst this
    refine ⟨(u, q.2) :: pv, by rw [List.length_cons, List.length_cons, l2], fun j k v hj => ?_⟩
    cases j with
    | zero =>
      have hj : (u, q.2) = (k, v) := by simpa using hj
      cases hj
      exact ⟨b, q, rfl, rfl, rfl, e2, e3⟩
    | succ j =>
      obtain ⟨b', q', r1, r2, r3⟩ := h2 j k v (by simpa using hj)
      exact ⟨b', q', by simpa using r1, by simpa using r2, r3⟩
def rDictT (K : PySem.W.Frag) : List V → Hp → VK → Prop := fun xs H Q => ∃ (a : Addr) (ps : List Addr) (kvs : List (Key × V)), xs = [.ref a] ∧ PTup H a (ps.map V.ref) ∧ Paired (fun p kv => SqT K H p [kV kv.1, kv.2]) ps kvs ∧
    ∀ p, H p = none → Q (.ref p) (upd H p (.dK (mergeK [] kvs)))
theorem call_dictT (hcalm : X.calm = true) : CallR X (.type "dict") (rDictT X.K) := by
  intro pins s σ H xs us Q I r q
  obtain ⟨a, ps, kvs, ex, ⟨us0, hq⟩, hp, q⟩ := q
  subst ex
  obtain ⟨u, eu, rx⟩ := vals1 r
  subst eu
  cases rx
  obtain ⟨ho, hz, its, rv, ot, hot, hct, nt, hdt⟩ := (show ObjOk X.prog X.w H s.heap a (.frz (tfz us0) (.tup (ps.map V.ref))) from I.hok a _ hq)
  rw [ho] at hot
  cases hot
  have ei := refs_at rv
  subst ei
  rw [List.length_map] at hz
  obtain ⟨prs, rel, hl, hpr⟩ := pairs_of I hp
  have eits : us0.toArray = (ps.map Value.ref).toArray := by
    have z : Data.seq us0.toArray 0 = Data.seq (ps.map Value.ref).toArray nt := hdt
    injection z
  obtain ⟨pv, lpv, hpv⟩ := pv_of hl hpr
  have ok : PlainSeq "tuple" s.heap a (ps.map Value.ref).toArray ∧ PairItems s.heap (ps.map Value.ref).toArray (fun j => ps.getD j 0) pv := by
    refine ⟨⟨_, 0, ho, rfl, rfl, by rw [← eits]; rfl⟩, by rw [List.size_toArray, List.length_map]; omega, fun j k v hj => ?_⟩
    obtain ⟨b, q', e1, e2, e3, ⟨o, h1, h2, n, h3⟩, _⟩ := hpv j k v hj
    have gb : ps.getD j 0 = b := by rw [List.getD_eq_getElem?_getD, e1]; rfl
    refine ⟨?_, .inl ?_⟩
    · show (ps.map Value.ref).toArray[j]? = some (.ref (ps.getD j 0))
      rw [gb, List.getElem?_toArray, List.getElem?_map, e1]
      rfl
    · show s.heap.IsTuple (ps.getD j 0) #[k, v]
      rw [gb]
      exact ⟨o, h1, h2, n, h3⟩
  refine PySem.call_dict_pairs (knd := mixKind X.prog X.w) (kvs := prs) (PairArg.tuple (prog := X.prog) (w := X.w) a _ _ pv) (I.ok.hd hcalm) ok ⟨by omega, fun i key v hk => ?_⟩ (by rw [lpv, hl]; exact hz) fun h' tk hd' k => ?_
  · obtain ⟨b, q', e1, e2, e3, _, e5⟩ := hpv i key v hk
    exact ⟨q'.1, by rw [e2, e3], e5⟩
  · have hm : (s.heap.objs.size == sysModules) = false := beq_eq_false_iff_ne.mpr (Nat.ne_of_gt I.big)
    have hlen : (mergeK [] kvs).length ≤ sizeLine := by
      refine Nat.le_trans (length_mergeK kvs []) ?_
      rw [List.length_nil, Nat.zero_add, rel.length, hl]
      exact hz
    exact ⟨.ref s.heap.objs.size, upd H s.heap.objs.size (.dK (mergeK [] kvs)), I.laid (t' := tk) (fun b o e => k b o (by simp) e) (Nat.le_refl _) (show ObjOk X.prog X.w _ _ _ (.dK (mergeK [] kvs)) from ⟨hlen, hm, merged [] prs, KV.merge rel .nil, hd'⟩), rfl, q _ (I.hok.fresh (Nat.le_refl _))⟩
end
/-! ### sorted(a list of data) -/
section
variable {X : Cx}
theorem paired_isD {K : PySem.W.Frag} {H : Hp} : ∀ {vs : List V} {us : List Value} {ds : List PyData}, Vals vs us → DtAll K H vs ds → Paired (IsD K H id) us ds
  | _, _, _, .nil, .nil => .nil
  | _, _, _, .cons r t, .cons a b => .cons ⟨_, r, a⟩ (paired_isD t b)
theorem call_sortL (hu : X.A.units + 70 < cLine) : CallR X (.builtin "sorted") (rSortL X.K) := by
  intro pins s σ H xs us Q I rx h
  obtain ⟨l, ds, rfl, L, n, so, dp, q⟩ := h
  cases rx with
  | cons r t =>
  cases t
  cases r
  obtain ⟨vs, el, dl⟩ := L
  obtain ⟨its, rv, pl, hz⟩ := I.list (SqL.of el)
  have pe := paired_isD rv dl
  refine PySem.W.sorted_data (vs := its) (bs := ds) (enc := id) (R := IsD X.K H id) pl.isList (each_of pe) (each_of (Paired.imp (fun u b z => ?_) pe)) (by rw [List.map_id]; exact so.1) (by rw [List.map_id]; exact so.2) (Nat.le_trans n (by decide)) (fun b hb => ?_) fun out lo eo => ?_
  · obtain ⟨v, rv', d⟩ := z
    obtain ⟨as, r⟩ := Dp.reads I b v u d.dp rv'
    exact ⟨as, r⟩
  · have := dp b hb
    show X.A.units + 2 + b.depth < cLine
    omega
  · obtain ⟨ys, vy, dy⟩ := vals_of (of_each eo)
    obtain ⟨e, he⟩ := sortedAll_at s.heap its out.toArray
    have hp : H (s.heap.objs.size + 1) = none := HOk.fresh I.hok (Nat.le_succ _)
    rw [List.map_id] at dy
    refine ⟨.ref (s.heap.objs.size + 1), upd H (s.heap.objs.size + 1) (.lst ys), I.laid (t' := s.toks) (fun b o hb => sortedAll_old hb) (Nat.le_succ _) ⟨?_, out, e, vy, he⟩, rfl, q _ _ hp (Fr.new hp) ⟨ys, upd_same, dy.mono (Tu.new hp)⟩⟩
    have : ys.length = out.length := Paired.len vy
    rw [this, lo]
    exact Nat.le_trans n (by decide)
theorem call_sortLU {K} (hK : X.K = K) (hu : X.A.units + 70 < cLine) : CallR X (.builtin "sorted") (rSortL K) := by subst hK; exact call_sortL hu
theorem w_sortL {K} {H : Hp} {Q : VK} {l : Addr} {ds : List PyData} (L : Lq K H l ds) (n : ds.length ≤ 100000) (so : Sorty ds) (dp : ∀ d ∈ ds, d.depth ≤ 10) (q : ∀ p H', H p = none → Fr [] H H' → Lq K H' p (ds.mergeSort (PySem.W.dataLe false id)) → Q (.ref p) H') : rSortL K [.ref l] H Q := ⟨l, ds, rfl, L, n, so, dp, q⟩
end
/-! ### sorted(d.items()), d keyed by texts and numbers, its values numbers -/
section
variable {X : Cx} {pins : List (Addr × Obj)} {σ : L2.St} {H : Hp} {s : Shared}
/-- many new things at once -/
def plus (H G : Hp) : Hp := fun a => match G a with
  | some o => some o
  | none => H a
theorem plus_new {G : Hp} {a : Addr} {o : HO} (h : G a = some o) : plus H G a = some o := by unfold plus; rw [h]
theorem plus_old {G : Hp} {a : Addr} (h : G a = none) : plus H G a = H a := by unfold plus; rw [h]
theorem Inv.lays {G : Hp} {h' : Heap} {t' : Nat} (I : Inv X pins σ H s) (k : ∀ b u, s.heap.get? b = some u → h'.get? b = some u) (far : ∀ a o, G a = some o → s.heap.objs.size ≤ a) (new : ∀ a o, G a = some o → ObjOk X.prog X.w (plus H G) h' a o) :
    Inv X pins σ (plus H G) { s with heap := h', toks := t' } := by
  have gn : ∀ {b u}, s.heap.get? b = some u → G b = none := fun {b u} q => by
    cases e : G b with
    | none => rfl
    | some o => exact absurd (far b o e) (Nat.not_le_of_lt (get_lt q))
  have hn : ∀ {b o}, H b = some o → G b = none := fun {b o} q => by
    cases e : G b with
    | none => rfl
    | some o' =>
      have := HOk.fresh I.hok (far b o' e)
      rw [q] at this
      cases this
  refine I.un (t' := t') ⟨fun b u q _ _ _ => k b u q, fun b u q _ _ _ => ⟨u.slots, k b u q⟩, fun b u q n _ => by rw [plus_old (gn q)]; exact n, fun b u q _ => ⟨u, k b u q⟩, fun b xs q => by rw [plus_old (hn q)]; exact q, fun b u xs q => by rw [plus_old (hn q)]; exact q, fun b ps q => ⟨#[], by rw [plus_old (hn q), q]; simp⟩⟩ fun b u e => ?_
  cases eg : G b with
  | some o =>
    rw [plus_new eg] at e
    cases e
    exact new b _ eg
  | none =>
    rw [plus_old eg] at e
    exact (I.hok b u e).stay (fun c v _ q => k c v q) (fun c q => by rw [plus_old (hn q)]; exact q) fun c xs q => by rw [plus_old (hn q)]; exact q
def keyD : Key → PyData
  | .inl i => .int i
  | .inr x => .str x
def pairD (kv : Key × V) : PyData := .tuple [keyD kv.1, match kv.2 with | .int n => .int n | _ => .none]
def rItemsK : V → List V → Hp → VK → Prop := fun x xs H Q => ∃ (a : Addr) (kvs : List (Key × V)), x = .ref a ∧ xs = [] ∧ H a = some (.dK kvs) ∧ ∀ p, H p = none → Q (.ref p) (upd H p (DX.itemsO p a))
theorem mt_itemsK : MtR X "dict.items" rItemsK := by
  intro pins s σ H x xs v us Q I rx rxs h
  obtain ⟨a, kvs, rfl, rfl, ha, q⟩ := h
  cases rx
  cases rxs
  obtain ⟨z, hd, vs, rel, o, es, ep, ho, hx, hdat, _⟩ := dk_of I.hok ha
  refine DT.callItems (es := es) (ep := ep) hd ⟨o, ho, hx, hdat⟩ ?_
  have hf : H s.heap.objs.size = none := I.hok.fresh (Nat.le_refl _)
  exact ⟨.ref s.heap.objs.size, upd H s.heap.objs.size (DX.itemsO s.heap.objs.size a), I.laid (t' := s.toks) (fun b u e => Heap.get?_push_of_some _ e) (Nat.le_refl _) (DX.itemsO_ok (Heap.get?_push_size _ rfl)), rfl, q _ hf⟩
theorem at_es {P : Program} {w : World} : ∀ {es : List DictEntry} {vs : List (Key × Value)} {kvs : List (Key × V)}, Pairs (mixKind P w) es vs → KV kvs vs → ∀ {j : Nat} {e : DictEntry}, es[j]? = some e → ∃ kv, kvs[j]? = some kv ∧ RelV (kV kv.1) e.key ∧ RelV kv.2 e.val
  | _, _, _, .nil, _, j, e, h => by simp at h
  | _, _, _, .cons hk hv t, @Paired.cons _ _ _ kv _ _ _ r t2, 0, e, h => by
    cases (show _ = e by simpa using h)
    obtain ⟨r1, r2⟩ := r
    refine ⟨kv, rfl, ?_, ?_⟩
    · rw [r1]; exact relV_key hk
    · rw [hv]; exact r2
  | _, _, _, .cons hk hv t, .cons r t2, j + 1, e, h => by
    obtain ⟨kv, h1, h2⟩ := at_es t t2 (j := j) (e := e) (by simpa using h)
    exact ⟨kv, by simpa using h1, h2⟩
def AllInt (kvs : List (Key × V)) : Prop := ∀ kv ∈ kvs, ∃ n : Int, kv.2 = .int n
def rSortItK (K : PySem.W.Frag) : List V → Hp → VK → Prop := fun vs H Q => ∃ (p a : Addr) (kvs : List (Key × V)), vs = [.ref p] ∧ H p = some (DX.itemsO p a) ∧ H a = some (.dK kvs) ∧ kvs.length ≤ 100000 ∧ AllInt kvs ∧ Sorty (kvs.map pairD) ∧
  ∀ p' H', H p' = none → Fr [] H H' → Lq K H' p' ((kvs.map pairD).mergeSort (PySem.W.dataLe false id)) → Q (.ref p') H'
theorem call_sortItK (hc : X.calm = true) (hu : X.A.units + 70 < cLine) : CallR X (.builtin "sorted") (rSortItK X.K) := by
  intro pins s σ H xs us Q I r h
  obtain ⟨p, a, kvs, rfl, hp, ha, n, ai, so, q⟩ := h
  obtain rfl := Vals.ref1 r
  have view : s.heap.IsItemsView p a := (show ObjOk X.prog X.w H s.heap p (DX.itemsO p a) from I.hok p _ hp).1
  obtain ⟨z, hd, vs, rel, o, es, ep, ho, hx, hdat, hks, hpr, hn⟩ := dk_of I.hok ha
  have l1 : kvs.length = vs.length := Paired.length rel
  have l2 : es.size = vs.length := by rw [← Array.length_toList]; exact hpr.length
  refine DT.sortedI (es := es) (ep := ep) (I.ok.hd hc) view ⟨o, ho, hx, hdat⟩ (by omega) fun h' tk as hk hlt hl hG => ?_
  have I1 : Inv X pins σ H { s with heap := h', toks := tk } := I.kept (t' := tk) hk
  have nd : as.Nodup := List.Pairwise.imp (fun h => Nat.ne_of_lt h) hG.rise
  obtain ⟨H2, I2, gr, qt⟩ := DX.takeT (P := fun b vs => ∃ (j : Nat) (kv : Key × V), as[j]? = some b ∧ kvs[j]? = some kv ∧ vs = [kV kv.1, kv.2]) I as H I1 nd fun b hb => by
    obtain ⟨j, hj⟩ := List.mem_iff_getElem?.mp hb
    obtain ⟨e, he, hg⟩ := hG.pairs j b hj
    obtain ⟨kv, hkv, r1, r2⟩ := at_es hpr rel (j := j) (e := e) (by rw [Array.getElem?_toList]; exact he)
    have hbl : s.heap.objs.size ≤ b := Nat.le_of_lt (hG.above b hb)
    exact ⟨hbl, I.hok.fresh hbl, [kV kv.1, kv.2], ⟨j, kv, hj, hkv, rfl⟩, fun H3 => ⟨(by rw [sizeLine_eq]; show 2 ≤ 16777216; omega), [e.key, e.val], .cons r1 (.cons r2 .nil), ⟨_, hg, rfl, 0, rfl⟩⟩⟩
  refine sort_new (s := { s with heap := h', toks := tk }) (bs := kvs.map pairD) (enc := id) (us := as.map Value.ref) I2 (fun b o e => e) (Nat.le_refl _) (paired_at (by rw [List.length_map, List.length_map]; omega) fun i u d hu' hd' => ?_) (by rw [List.map_id]; exact so.1) (by rw [List.map_id]; exact so.2) (by rw [List.length_map]; exact n) (by show X.A.units + 1 + 65 < cLine; omega) (fun d hd' => ?_) fun p' s' H' hp' fr I' L => ?_
  · rw [List.getElem?_map] at hu' hd'
    obtain ⟨b, hb, rfl⟩ := Option.map_eq_some_iff.mp hu'
    obtain ⟨kv, hkv, rfl⟩ := Option.map_eq_some_iff.mp hd'
    obtain ⟨ws, ⟨j, kv', hj, hkv', rfl⟩, hH⟩ := qt b (List.mem_of_getElem? hb)
    have eij : i = j := (List.getElem?_inj (List.getElem?_eq_some_iff.mp hb).1 nd).mp (hb.trans hj.symm)
    subst eij
    rw [hkv] at hkv'
    cases hkv'
    refine ⟨.ref b, rfl, ?_⟩
    obtain ⟨m, hm⟩ := ai kv (List.mem_of_getElem? hkv)
    obtain ⟨k, v⟩ := kv
    cases hm
    refine Dt.tup (.inl (.inl hH)) (.cons ?_ (.cons (.int _) .nil))
    cases k with
    | inl i => exact .int i
    | inr x => exact .str x
  · obtain ⟨kv, hkv, rfl⟩ := List.mem_map.mp hd'
    obtain ⟨m, hm⟩ := ai kv hkv
    obtain ⟨k, v⟩ := kv
    cases hm
    cases k <;> simp [pairD, keyD, PyData.depth, PyData.depthAll]
  · rw [List.map_id] at L
    refine ⟨.ref p', H', I', rfl, q p' H' ?_ (fun b o e n' => fr b o (gr b o e) n') L⟩
    cases e : H p' with
    | none => rfl
    | some o =>
      rw [gr _ _ e] at hp'
      cases hp'
end
theorem call_sortItKU {X : Cx} {K} (hK : X.K = K) (hc : X.calm = true) (hu : X.A.units + 70 < cLine) : CallR X (.builtin "sorted") (rSortItK K) := by subst hK; exact call_sortItK hc hu
theorem call_dictTU {X : Cx} {K} (hK : X.K = K) (hcalm : X.calm = true) : CallR X (.type "dict") (rDictT K) := by subst hK; exact call_dictT hcalm
theorem ne_free {H : Hp} {a b : Addr} (h : H a ≠ none) (h' : H b = none) : a ≠ b := by
  rintro rfl
  exact h h'
theorem Fr.tuK {H H' : Hp} {d : Addr} {kvs : List (Key × V)} (f : Fr [d] H H') (h : H d = some (.dK kvs)) : Tu H H' := fun a ys =>
  ⟨fun e => f _ _ e (by rintro z; rw [List.mem_singleton.mp z, h] at e; cases e), fun o e => f _ _ e (by rintro z; rw [List.mem_singleton.mp z, h] at e; cases e)⟩
/-! ### a dict's keys in a comprehension: the dict is held as it is -/
section
variable {X : Cx}
def tFrz (td : TE) : TE := fun σ H Q => td σ H fun x H1 => ∃ (d : Addr) (kvs : List (Key × V)), x = .ref d ∧ H1 d = some (.dK kvs) ∧ ∀ o, Q x (upd H1 d (.frz o (.dK kvs)))
theorem pe_frz {e : Expr} {td : TE} (h : PE X e td) : PE X e (tFrz td) := by
  refine ⟨fun pins s σ H Q I hq => ?_⟩
  refine thn (h.run pins s σ H _ I hq) fun u s1 ⟨x, H1, I1, rx, d, kvs, ex, hd, q⟩ => ?_
  obtain ⟨od, I2⟩ := I1.lock hd True.intro
  exact ⟨x, _, I2, rx, q od⟩
theorem w_frz {σ : L2.St} {H : Hp} {td : TE} {Q : VK} (q : td σ H fun x H1 => ∃ (d : Addr) (kvs : List (Key × V)), x = .ref d ∧ H1 d = some (.dK kvs) ∧ ∀ o, Q x (upd H1 d (.frz o (.dK kvs)))) : tFrz td σ H Q := q
theorem LCX_K {K : PySem.W.Frag} {d : Addr} {o : Obj} {H : Hp} {kvs : List (Key × V)} {ws : List Nat} {σ : L2.St} {tg : TG} {tt : TT} {te : TE} {Q : VK} (g : Key × V → PyData)
    (hd : H d = some (.frz o (.dK kvs))) (lc : kvs.length ≤ 100000)
    (hs : ∀ (kv : Key × V) (H' : Hp) (KEEP : VK) (DROP : Hp → Prop), kv ∈ kvs → Fr [] H H' → (∀ y H4, Fr [] H' H4 → Dt K H4 y (g kv) → KEEP y H4) →
      tg (kV kv.1) (wipe σ ws) H' fun σ2 H2 => wipe σ2 ws = wipe σ ws ∧ tt σ2 H2 fun k H3 => if k = true then te σ2 H3 KEEP else DROP H3)
    (k : ∀ D H', H D = none → Fr [] H H' → Lq K H' D (kvs.map g) → Q (.ref D) H') :
    ∀ D, H D = none → LC (Itk d o kvs) tg tt te ws σ D Q (upd H D (.lst [])) := by
  intro D hD
  refine lc_it (walk_keys (d := d) (o := o) (kvs := kvs)) (fun i H' => Fr [] H H' ∧ Lq K H' D ((kvs.take i).map g)) ⟨Fr.new hD, [], upd_same, .nil⟩ (fun i H' _ h => h.1 _ _ hd (by simp)) ?_ ?_
  · rintro i x H0' H' hi ⟨f', ys, hys, dys⟩ ⟨rfl, kk, vv, hx, rfl⟩
    have hi' : i < kvs.length := (List.getElem?_eq_some_iff.mp hx).1
    have ly : ys.length ≤ i := by
      rw [dys.length, List.length_map, List.length_take]
      omega
    refine hs (kk, vv) _ _ _ (List.mem_of_getElem? hx) f' (fun y H4 f4 dy => ?_)
    have e3 := f4 _ _ hys (by simp)
    refine ⟨ys, e3, Nat.lt_of_le_of_lt (show ys.length ≤ 100000 by omega) (by decide), Fr.new_mut hD ((f'.trans f4).mono (by simp) |>.trans (Fr.mut (by simp))), _, upd_same, ?_⟩
    rw [List.take_add_one, hx, List.map_append]
    exact ((dys.mono f4.tu).append (.cons dy .nil)).mono (Tu.mut e3)
  · rintro H' ⟨f', L⟩
    rw [List.take_length] at L
    exact k D H' hD f' L
end
/-! ### dicts keyed by None, numbers, texts -/
def lfV : Leaf → V
  | .none => .non
  | .num i => .int i
  | .text x => .str x
theorem lf_is {P : Program} {w : World} {k : Leaf} {u : Value} (r : RelV (lfV k) u) : (leafKind P w).is k u = true := by
  cases k with
  | none =>
    cases (show u = Value.none from r)
    rfl
  | num i =>
    obtain ⟨t, e⟩ := (show ∃ t, u = Value.int i t from r)
    subst e
    exact decide_eq_true rfl
  | text x =>
    obtain ⟨t, e⟩ := (show ∃ t, u = Value.str x t from r)
    subst e
    show (x == x) = true
    simp
def LfO (P : Program) (w : World) (d : Addr) (kvs : List (Leaf × V)) : HO := .ext fun h => kvs.length ≤ sizeLine ∧ (d == sysModules) = false ∧ ∃ vs, KV kvs vs ∧ h.DictOf (leafKind P w) d vs
def DL (P : Program) (w : World) (H : Hp) (d : Addr) (kvs : List (Leaf × V)) : Prop := (kvs = [] ∧ H d = some (.dK [])) ∨ H d = some (LfO P w d kvs)
section
variable {X : Cx} {pins : List (Addr × Obj)} {σ : L2.St} {H : Hp} {s : Shared} {d : Addr} {kvs : List (Leaf × V)}
theorem DL.fr {P : Program} {w : World} {H H' : Hp} {S : List Addr} (h : DL P w H d kvs) (f : Fr S H H') (n : d ∉ S) : DL P w H' d kvs := by
  rcases h with ⟨e, h⟩ | h
  · exact .inl ⟨e, f _ _ h n⟩
  · exact .inr (f _ _ h n)
theorem DL.heap (I : Inv X pins σ H s) (h : DL X.prog X.w H d kvs) : kvs.length ≤ sizeLine ∧ (d == sysModules) = false ∧ (∃ vs, KV kvs vs ∧ s.heap.DictOf (leafKind X.prog X.w) d vs) ∧ Mut (H d) := by
  rcases h with ⟨rfl, e⟩ | e
  · obtain ⟨z, n, vs, rel, o, es, ep, ho, hx, hdat, hks, hpr, hn⟩ := dk_of I.hok e
    have rel' : KV ([] : List (Leaf × V)) ([] : List (Leaf × Value)) := .nil
    have ev : vs = [] := by
      have := KV.length rel
      exact List.eq_nil_of_length_eq_zero this.symm
    subst ev
    have ee : es.toList = [] := List.eq_nil_of_length_eq_zero hpr.length
    refine ⟨Nat.zero_le _, n, ⟨[], rel', o, es, ep, ho, hx, hdat, fun x hx' => ?_, by rw [ee]; exact .nil, .nil⟩, by rw [e]; exact True.intro⟩
    have : x ∈ es.toList := Array.mem_toList_iff.mpr hx'
    rw [ee] at this
    cases this
  · obtain ⟨z, n, k⟩ := (I.hok d _ e).1
    exact ⟨z, n, k, by rw [e]; exact True.intro⟩
theorem lfo_ok {P : Program} {w : World} {H : Hp} {h : Heap} (hz : kvs.length ≤ sizeLine) (hsm : (d == sysModules) = false) {vs : List (Leaf × Value)} (r : KV kvs vs) (x : h.DictOf (leafKind P w) d vs) : ObjOk P w H h d (LfO P w d kvs) := by
  refine ⟨⟨hz, hsm, vs, r, x⟩, ?_, fun h1 h2 q st => ?_⟩
  · obtain ⟨o, es, ep, ho, _⟩ := x
    exact ⟨o, ho⟩
  · obtain ⟨z1, z2, vs', r', o, es, ep, ho, x'⟩ := q
    exact ⟨z1, z2, vs', r', o, es, ep, st _ ho, x'⟩
def rIxL (P : Program) (w : World) : R2 := fun x y H Q => ∃ (d : Addr) (kvs : List (Leaf × V)) (k : Leaf) (v : V), x = .ref d ∧ y = lfV k ∧ DL P w H d kvs ∧ valV kvs k = some v ∧ Q v H
theorem ix_L : IxR X (rIxL X.prog X.w) := by
  intro value slice pins s σ H x y v u Q I rx ry h hs
  obtain ⟨d, kvs, k, z, rfl, rfl, hd, hv, q⟩ := h
  cases rx
  obtain ⟨_, ns, ⟨vs, rel, dd⟩, _⟩ := hd.heap I
  obtain ⟨o, es, ep, ho, hex, _⟩ := id dd
  obtain ⟨w', hw, rw'⟩ := RelO.some_of (v := z) (o := valueAt vs k) (by rw [← hv]; exact rel.val k)
  refine subscriptTail_builtinR (x := w') ⟨o, ho, hex.1⟩ F.slot_dict_getitem.lookup ?_ hs
  exact wpAny_getItem_of (lf_is ry) dd.mapOf hw ⟨rfl, _, H, I.tok _, rw', q⟩
theorem ix_LU {P : Program} {w : World} (hP : X.prog = P) (hw : X.w = w) : IxR X (rIxL P w) := by subst hP hw; exact ix_L
theorem w_ixLf {P : Program} {w : World} {H : Hp} {Q : VK} {y v : V} {k : Leaf} (hd : DL P w H d kvs) (ey : y = lfV k) (hv : valV kvs k = some v) (q : Q v H) : rIxL P w (.ref d) y H Q := ⟨d, kvs, k, v, rfl, ey, hd, hv, q⟩
def rGetL (P : Program) (w : World) : V → List V → Hp → VK → Prop := fun x vs H Q => ∃ (d : Addr) (kvs : List (Leaf × V)) (k : Leaf) (y z : V), x = .ref d ∧ vs = [y, z] ∧ y = lfV k ∧ DL P w H d kvs ∧ Q ((valV kvs k).getD z) H
theorem mt_getL : MtR X "dict.get" (rGetL X.prog X.w) := by
  intro pins s σ H x vs v us Q I rx rvs h
  obtain ⟨d, kvs, k, y, z, rfl, rfl, rfl, hd, q⟩ := h
  cases rx
  obtain ⟨u1, u2, rfl, r1, r2⟩ := vals2 rvs
  obtain ⟨_, ns, ⟨xs, rel, dd⟩, _⟩ := hd.heap I
  refine call_meetsIn F.slot_dict_get dd.typeIs F.entry_dict_get (F.args_dict_get_3 _ _ _) (meets_dict_get_default (leafKind X.prog X.w) d (lf_is r1) ns u2) ⟨_, dd.mapOf, ?_⟩
  have r := rel.val k
  cases e : valV kvs k with
  | none =>
    rw [e] at r q
    rw [RelO.none_of r]
    exact ⟨z, H, I.tok _, r2, q⟩
  | some v0 =>
    rw [e] at r q
    obtain ⟨w', hw, rw'⟩ := RelO.some_of r
    rw [hw]
    exact ⟨v0, H, I.tok _, rw', q⟩
theorem mt_getLU {P : Program} {w : World} (hP : X.prog = P) (hw : X.w = w) : MtR X "dict.get" (rGetL P w) := by subst hP hw; exact mt_getL
theorem w_getL {P : Program} {w : World} {H : Hp} {Q : VK} {y z : V} {k : Leaf} (hd : DL P w H d kvs) (ey : y = lfV k) (q : Q ((valV kvs k).getD z) H) : rGetL P w (.ref d) [y, z] H Q := ⟨d, kvs, k, y, z, rfl, rfl, ey, hd, q⟩
def rSetL (P : Program) (w : World) : TSet := fun o i v H Q => ∃ (d : Addr) (kvs : List (Leaf × V)) (k : Leaf), o = .ref d ∧ i = lfV k ∧ DL P w H d kvs ∧ kvs.length ≤ 100000 ∧ ∀ H', Fr [d] H H' → Tu H H' → DL P w H' d (putK kvs k v) → Q H'
theorem DL.not_tup {P : Program} {w : World} (h : DL P w H d kvs) (o : HO) : Tu H (upd H d o) := fun a ys => by
  have n1 : ∀ ys, H d ≠ some (.tup ys) := fun ys e => by
    rcases h with ⟨_, h⟩ | h <;> rw [e] at h <;> cases h
  have n2 : ∀ o ys, H d ≠ some (.frz o (.tup ys)) := fun o ys e => by
    rcases h with ⟨_, h⟩ | h <;> rw [e] at h <;> cases h
  refine ⟨fun z => ?_, fun o' z => ?_⟩ <;>
  · rw [upd_ne (by
      rintro rfl
      first | exact n1 _ z | exact n2 _ _ z)]
    exact z
theorem set_L : PSet X (rSetL X.prog X.w) := by
  intro pins s σ H o i v ov iv u Q I ro ri rv h
  obtain ⟨d, kvs, k, rfl, rfl, hd, n, q⟩ := h
  cases ro
  obtain ⟨z, ns, ⟨vs, rel, dd⟩, m⟩ := hd.heap I
  refine wpAny_setItem_pairs (lf_is ri) dd (fun h' dd' sb => ?_) (by rw [← rel.length]; exact z)
  have rel' := rel.put k rv
  have hl : (putK kvs k v).length ≤ sizeLine := by
    have h1 : (putK kvs k v).length ≤ kvs.length + 1 := by
      unfold putK
      split
      · rw [List.length_map]; omega
      · rw [List.length_append]; exact Nat.le_refl _
    exact Nat.le_trans h1 (Nat.le_trans (show kvs.length + 1 ≤ 100001 by omega) (show 100001 ≤ sizeLine by decide))
  obtain ⟨o', es, ep, ho, hr⟩ := id dd'
  refine ⟨_, d_write I (ob := LfO X.prog X.w d (putK kvs k v)) m sb ⟨o', ho⟩ (lfo_ok hl ns rel' dd'), q _ (Fr.mut (by simp)) (hd.not_tup _) (.inr upd_same)⟩
theorem set_LU {P : Program} {w : World} (hP : X.prog = P) (hw : X.w = w) : PSet X (rSetL P w) := by subst hP hw; exact set_L
theorem w_setLf {P : Program} {w : World} {v y : V} {k : Leaf} {Q : Hp → Prop} (hd : DL P w H d kvs) (ey : y = lfV k) (n : kvs.length ≤ 100000) (q : ∀ H', Fr [d] H H' → Tu H H' → DL P w H' d (putK kvs k v) → Q H') : rSetL P w (.ref d) y v H Q := ⟨d, kvs, k, rfl, ey, hd, n, q⟩
def dictLf (P : Program) (w : World) : V → Hp → Prop := fun x H => ∃ (d : Addr) (kvs : List (Leaf × V)), x = .ref d ∧ DL P w H d kvs
theorem ty_L' : TyOk X "dict" (dictLf X.prog X.w) := by
  intro pins σ H s x v I rx h
  obtain ⟨d, kvs, rfl, hd⟩ := h
  cases rx
  obtain ⟨_, _, ⟨vs, _, o, es, ep, ho, hex, _⟩, _⟩ := hd.heap I
  refine ⟨⟨o, ho, hex.1⟩, fun a e => ?_⟩
  cases e
  exact ⟨o, ho, hex.2.1⟩
theorem ty_LU {P : Program} {w : World} (hP : X.prog = P) (hw : X.w = w) : TyOk X "dict" (dictLf P w) := by subst hP hw; exact ty_L'
theorem DL.dict {P : Program} {w : World} (hd : DL P w H d kvs) : dictLf P w (.ref d) H := ⟨d, kvs, rfl, hd⟩
end
end U

/-! slices that are plain tuples, extend by a tuple, written dicts of the module, data away from several lists that change -/
namespace U
open PySem PySem.Spec PyProof.Rows L2
section
variable {X : Cx}
/-- t[lo:hi], not the whole of it: a plain tuple -/
def rSlP (K : PySem.W.Frag) : V → Option Int → Option Int → Hp → VK → Prop := fun x lo hi H Q => ∃ a xs, x = .ref a ∧ SqT K H a xs ∧
  ¬ (HT.sIx xs.length 0 lo = 0 ∧ HT.sIx xs.length xs.length hi = xs.length) ∧ ∀ (p : Addr) (us : List Value), H p = none → Q (.ref p) (upd H p (.frz (tfz us) (.tup (cutV xs lo hi))))
theorem sl_P : SlR X (rSlP X.K) := by
  intro pins s σ H x v vl vu lo hi sl Q I rx hs pl pu h
  obtain ⟨a, xs, rfl, hx, hw, q⟩ := h
  cases rx
  obtain ⟨its, r, ht, hz⟩ := I.tuple hx
  have el : its.toArray.size = xs.length := by rw [List.size_toArray]; exact r.length.symm
  refine ⟨"tuple", _, PyProof.Rows.slot_tuple_getitem.lookup, ht.typeIs, HT.getItem_tuple_cut ht hs pl pu (by rw [el]; exact hw) ?_ (by rw [el]; exact hz)⟩
  rw [el]
  have rv : Vals (cutV xs lo hi) ((its.drop (HT.sIx xs.length 0 lo)).take (HT.sIx xs.length xs.length hi - HT.sIx xs.length 0 lo)) := (r.drop _).take _
  exact ⟨.ref s.heap.objs.size, _, I.laid (t' := s.toks) (o := .frz (tfz _) (.tup (cutV xs lo hi))) (fun b ob q => Heap.get?_push_of_some _ q) (Nat.le_refl _) (show ObjOk X.prog X.w _ _ _ _ from ⟨Heap.get?_push_size _ rfl, Nat.le_trans (cutV_length xs lo hi) hz, _, rv, IsTup.new _ _⟩), rfl, q _ _ (I.hok.fresh (Nat.le_refl _))⟩
theorem sl_PU {K} (hK : X.K = K) : SlR X (rSlP K) := by subst hK; exact sl_P
/-- l.extend(t), t a plain tuple -/
def rExtP : V → List V → Hp → VK → Prop := fun x vs H Q => ∃ l b xs zs, x = .ref l ∧ vs = [.ref b] ∧ H l = some (.lst xs) ∧ PTup H b zs ∧ xs.length + zs.length ≤ 1000000 ∧ Q .non (upd H l (.lst (xs ++ zs)))
theorem mt_extP : MtM X "list.extend" rExtP := by
  intro pins s σ H x vs v us Q I rx rv h
  obtain ⟨l, b, xs, zs, rfl, rfl, hH, ⟨us2, hB⟩, hz, q⟩ := h
  cases rx
  obtain ⟨u, rfl, ru⟩ := rv.one
  cases ru
  obtain ⟨z, its, n, r, hl, e⟩ := I.lstM hH
  obtain ⟨e2, _, its2, r2, o2, ho2, hc2, n2, hd2⟩ := (show ObjOk X.prog X.w H s.heap b (.frz (tfz us2) (.tup zs)) from I.hok b _ hB)
  rw [e2] at ho2
  cases ho2
  have hlen : us2.length = zs.length := by
    have z : Data.seq us2.toArray 0 = Data.seq its2.toArray n2 := hd2
    injection z with z1 z2
    have z3 : us2 = its2 := by simpa using z1
    rw [z3]
    exact r2.length.symm
  have r2' : Vals zs us2 := by
    have z : Data.seq us2.toArray 0 = Data.seq its2.toArray n2 := hd2
    injection z with z1 z2
    have z3 : us2 = its2 := by simpa using z1
    rw [z3]
    exact r2
  have big : (1000000 : Nat) ≤ sizeLine := by decide
  have hsz : its.toArray.size + us2.toArray.size ≤ sizeLine := by rw [List.size_toArray, List.size_toArray]; omega
  have hlong : ¬ (!its.toArray.isEmpty && Builtin.List.listTooLong (its.toArray.size + us2.toArray.size)) = true := by
    rw [notLongL hsz, Bool.and_false]
    exact Bool.false_ne_true
  refine call_meets F.slot_list_extend ⟨_, e, rfl⟩ F.entry_list_extend (F.args_list_extend_2 _ _)
    (AutoSeq1.list_extend_list_tuple_0 l its.toArray n b us2.toArray 0 hlong (by rw [List.size_toArray]; omega) (by omega)) ⟨e, e2, ?_⟩
  refine ⟨.non, _, I.lset (its' := its ++ us2) hH e (by simp) (r.append r2') ?_, rfl, q⟩
  rw [List.length_append]
  omega
end
/-! ### a written dict of the module: texts to numbers -/
def KTab (es : List DictEntry) (kvs : List (Str × Int)) : Prop := Paired (fun (e : DictEntry) (kv : Str × Int) => (∃ t, e.key = .str kv.1 t) ∧ ∃ t, e.val = .int kv.2 t) es kvs
def KTb (K : PySem.W.Frag) (w : World) (a : Addr) (kvs : List (Str × Int)) : Prop := ∃ es n, KDict K w a es n ∧ KTab es.toList kvs
def tab (kvs : List (Str × Int)) (z : Str) : Option Int := (kvs.find? fun p => decide (p.1 = z)).map (·.2)
theorem tab_find : ∀ {es : List DictEntry} {kvs : List (Str × Int)} (z : Str), KTab es kvs → (tab kvs z = none ∧ es.find? (·.key.isStr z) = none) ∨ ∃ i e t, tab kvs z = some i ∧ es.find? (·.key.isStr z) = some e ∧ e.val = .int i t
  | _, _, z, .nil => .inl ⟨rfl, rfl⟩
  | e :: es, kv :: kvs, z, .cons ⟨⟨t, h1⟩, ⟨u, h2⟩⟩ b => by
    have hk : e.key.isStr z = decide (kv.1 = z) := by
      rw [h1]
      show (kv.1 == z) = decide (kv.1 = z)
      exact Bool.eq_iff_iff.mpr (by simp)
    by_cases c : kv.1 = z
    · refine .inr ⟨kv.2, e, u, ?_, ?_, h2⟩
      · unfold tab
        rw [List.find?_cons, decide_eq_true c]
        rfl
      · rw [List.find?_cons, hk, decide_eq_true c]
    · rcases tab_find z b with ⟨g1, g2⟩ | ⟨i, e', t', g1, g2, g3⟩
      · refine .inl ⟨?_, ?_⟩
        · unfold tab at *
          rw [List.find?_cons, decide_eq_false c]
          exact g1
        · rw [List.find?_cons, hk, decide_eq_false c]
          exact g2
      · refine .inr ⟨i, e', t', ?_, ?_, g3⟩
        · unfold tab at *
          rw [List.find?_cons, decide_eq_false c]
          exact g1
        · rw [List.find?_cons, hk, decide_eq_false c]
          exact g2
theorem tab_norefs : ∀ {es : List DictEntry} {kvs : List (Str × Int)}, KTab es kvs → es.any (·.refKey) = false
  | _, _, .nil => rfl
  | e :: es, kv :: kvs, .cons ⟨⟨t, h1⟩, _⟩ b => by
    rw [List.any_cons, tab_norefs b]
    have : e.refKey = false := by
      unfold DictEntry.refKey
      rw [h1]
    rw [this]
    rfl
theorem KTb.ns {K : PySem.W.Frag} {w : World} {a : Addr} {kvs : List (Str × Int)} (h : KTb K w a kvs) (z : Str) : ∃ es n, KDict K w a es n ∧ ((tab kvs z = none ∧ PySem.W.nsIn K a z = some none) ∨ ∃ i t, tab kvs z = some i ∧ PySem.W.nsIn K a z = some (some (.int i t))) := by
  obtain ⟨es, n, D, T⟩ := h
  refine ⟨es, n, D, ?_⟩
  rcases tab_find z T with ⟨g1, g2⟩ | ⟨i, e, t, g1, g2, g3⟩
  · refine .inl ⟨g1, ?_⟩
    unfold PySem.W.nsIn
    rw [D.at_]
    show (match es.toList.find? (·.key.isStr z) with
      | some e => some (some e.val)
      | none => if es.toList.any (·.refKey) then none else some none) = _
    rw [g2, tab_norefs T]
    rfl
  · refine .inr ⟨i, t, g1, ?_⟩
    unfold PySem.W.nsIn
    rw [D.at_]
    show (match es.toList.find? (·.key.isStr z) with
      | some e => some (some e.val)
      | none => if es.toList.any (·.refKey) then none else some none) = _
    rw [g2]
    show some (some e.val) = _
    rw [g3]
def tTab (K : PySem.W.Frag) (w : World) (kvs : List (Str × Int)) : TE := fun _ H Q => ∀ a, KTb K w a kvs → Q (.ref a) H
theorem pe_tab {X : Cx} {e : Expr} {a : Addr} {kvs : List (Str × Int)} (h : PE X e (tC (.ref a))) (k : KTb X.K X.w a kvs) : PE X e (tTab X.K X.w kvs) := ⟨fun pins s σ H Q I q => h.run pins s σ H Q I (q a k)⟩
theorem w_tab {K : PySem.W.Frag} {w : World} {kvs : List (Str × Int)} {σ : L2.St} {H : Hp} {Q : VK} (q : ∀ a, KTb K w a kvs → Q (.ref a) H) : tTab K w kvs σ H Q := q
def rNinTab (K : PySem.W.Frag) (w : World) : R2 := fun x y H Q => ∃ (z : Str) (a : Addr) (kvs : List (Str × Int)), x = .str z ∧ y = .ref a ∧ KTb K w a kvs ∧ Q (.bl (!(tab kvs z).isSome)) H
def rIxTab (K : PySem.W.Frag) (w : World) : R2 := fun x y H Q => ∃ (z : Str) (a : Addr) (kvs : List (Str × Int)) (i : Int), x = .ref a ∧ y = .str z ∧ KTb K w a kvs ∧ tab kvs z = some i ∧ Q (.int i) H
section
variable {X : Cx}
theorem op_ninTab : OpR X (compareOp .NotIn) (rNinTab X.K X.w) := by
  intro pins s σ H x y v u Q I rx ry h
  obtain ⟨z, a, kvs, rfl, rfl, T, q⟩ := h
  obtain ⟨es, n, D, c⟩ := T.ns z
  rcases c with ⟨g1, g2⟩ | ⟨i, t, g1, g2⟩
  · exact op_notIn_kd D pins s σ H _ _ v u Q I rx ry ⟨z, none, rfl, rfl, g2, by rw [g1] at q; exact q⟩
  · exact op_notIn_kd D pins s σ H _ _ v u Q I rx ry ⟨z, some _, rfl, rfl, g2, by rw [g1] at q; exact q⟩
theorem op_ninTabU {K} {w} (hK : X.K = K) (hw : X.w = w) : OpR X (compareOp .NotIn) (rNinTab K w) := by subst hK hw; exact op_ninTab
theorem ix_Tab : IxR X (rIxTab X.K X.w) := by
  intro value slice pins s σ H x y v u Q I rx ry h hs
  obtain ⟨z, a, kvs, i, rfl, rfl, T, e, q⟩ := h
  obtain ⟨es, n, D, c⟩ := T.ns z
  rcases c with ⟨g1, g2⟩ | ⟨j, t, g1, g2⟩
  · rw [e] at g1
    cases g1
  · rw [e] at g1
    cases g1
    exact ix_kdict value slice pins s σ H _ _ v u Q I rx ry ⟨a, z, .int i, rfl, rfl, ⟨es, n, _, D.at_, D.lit, g2, ⟨t, rfl⟩⟩, q⟩ hs
theorem ix_TabU {K} {w} (hK : X.K = K) (hw : X.w = w) : IxR X (rIxTab K w) := by subst hK hw; exact ix_Tab
end
theorem ktb_of {K : PySem.W.Frag} {w : World} {a : Addr} {es : Array DictEntry} {n : Nat} {sl : Array (Option Value)} {kvs : List (Str × Int)} {ks : List Str} (h : K.lookup a = some ⟨.type "dict", none, .dict es n, sl⟩) (d : He.dicW K a = some (He.keysIn w.params ks)) (T : KTab es.toList kvs) : KTb K w a kvs := by
  obtain ⟨es', n', D⟩ := He.dicW_ok d
  have e := D.at_
  rw [h] at e
  have e2 : es = es' := by
    injection e with e
    injection e with _ _ e3 _
    injection e3
  exact ⟨es', n', D, by rw [← e2]; exact T⟩
end U

/-! any plain data, away from the places of S (lists that change) -/
namespace U
open PySem PySem.Spec PyProof.Rows L2
def ws (H : Hp) (S : List Addr) : Hp := fun a => if a ∈ S then none else H a
/-- all of S are lists now -/
def AllL (H : Hp) (S : List Addr) : Prop := ∀ a ∈ S, ∃ xs, H a = some (.lst xs)
section
variable {K : PySem.W.Frag} {H H' : Hp} {S : List Addr}
theorem ws_at {p : Addr} (n : p ∉ S) : ws H S p = H p := by unfold ws; rw [if_neg n]
theorem ws_fr : Fr [] (ws H S) H := fun a o e _ => by
  unfold ws at e
  by_cases h : a ∈ S
  · rw [if_pos h] at e; cases e
  · rw [if_neg h] at e; exact e
theorem Fr.ws {R : List Addr} (f : Fr R H H') (h : ∀ a ∈ R, a ∈ S) : Fr [] (ws H S) (ws H' S) := fun a o e _ => by
  unfold U.ws at *
  by_cases c : a ∈ S
  · rw [if_pos c] at e; cases e
  · rw [if_neg c] at e
    rw [if_neg c]
    exact f a o e fun z => c (h a z)
theorem ws_upd {p : Addr} {o : HO} (n : p ∉ S) : ws (upd H p o) S = upd (ws H S) p o := by
  funext a
  by_cases c : a ∈ S
  · have e : a ≠ p := fun z => n (z ▸ c)
    rw [upd_ne e]
    unfold ws
    rw [if_pos c, if_pos c]
  · rw [ws_at c]
    by_cases e : a = p
    · subst e
      rw [upd_same, upd_same]
    · rw [upd_ne e, upd_ne e, ws_at c]
theorem AllL.new (A : AllL H S) {p : Addr} (hp : H p = none) : p ∉ S := fun z => by
  obtain ⟨xs, e⟩ := A p z
  rw [hp] at e
  cases e
theorem AllL.fr (A : AllL H S) (f : Fr [] H H') : AllL H' S := fun a ha => by
  obtain ⟨xs, e⟩ := A a ha
  exact ⟨xs, f _ _ e (by simp)⟩
theorem AllL.fr1 {t : Addr} (A : AllL H S) (f : Fr [t] H H') (ht : ∃ xs, H' t = some (.lst xs)) : AllL H' S := fun a ha => by
  by_cases c : a = t
  · rw [c]; exact ht
  · obtain ⟨xs, e⟩ := A a ha
    exact ⟨xs, f _ _ e (by simpa using c)⟩
theorem AllL.cons (A : AllL H S) {q : Addr} {xs : List V} (e : H q = some (.lst xs)) : AllL H (q :: S) := fun a ha => by
  rcases List.mem_cons.mp ha with rfl | z
  · exact ⟨xs, e⟩
  · exact A a z
theorem AllL.tail {q : Addr} (A : AllL H (q :: S)) : AllL H S := fun a ha => A a (List.mem_cons_of_mem _ ha)
theorem AllL.wtu (A : AllL H S) : Tu H (ws H S) := fun a ys => by
  have n : ∀ o, H a = some o → (∀ xs, o ≠ .lst xs) → a ∉ S := fun o e h z => by
    obtain ⟨xs, e'⟩ := A a z
    rw [e] at e'
    exact h xs (Option.some.inj e')
  exact ⟨fun e => by rw [ws_at (n _ e fun xs z => by cases z)]; exact e, fun o e => by rw [ws_at (n _ e fun xs z => by cases z)]; exact e⟩
/-- data away from S -/
def Dy (K : PySem.W.Frag) (H : Hp) (S : List Addr) (v : V) (d : PyData) : Prop := Dg K (ws H S) v d
def DyAll (K : PySem.W.Frag) (H : Hp) (S : List Addr) (vs : List V) (ds : List PyData) : Prop := DgAll K (ws H S) vs ds
theorem Dy.dg {v : V} {d : PyData} (h : Dy K H S v d) : Dg K H v d := Dg.fr ws_fr h
theorem Dy.fr {R : List Addr} {v : V} {d : PyData} (h : Dy K H S v d) (f : Fr R H H') (r : ∀ a ∈ R, a ∈ S) : Dy K H' S v d := Dg.fr (f.ws r) h
theorem Dy.fr0 {v : V} {d : PyData} (h : Dy K H S v d) (f : Fr [] H H') : Dy K H' S v d := h.fr f (by simp)
theorem DyAll.fr {R : List Addr} {vs : List V} {ds : List PyData} (h : DyAll K H S vs ds) (f : Fr R H H') (r : ∀ a ∈ R, a ∈ S) : DyAll K H' S vs ds := DgAll.fr (f.ws r) h
theorem DyAll.dg {vs : List V} {ds : List PyData} (h : DyAll K H S vs ds) : DgAll K H vs ds := DgAll.fr ws_fr h
/-- away from a place more, that is not reached since it was not there -/
theorem ws_cons {q : Addr} (hq : H q = none) : ws H (q :: S) = ws H S := by
  funext a
  unfold ws
  by_cases c : a ∈ S
  · rw [if_pos c, if_pos (List.mem_cons_of_mem _ c)]
  · by_cases e : a = q
    · rw [if_neg c, e, hq]
      split <;> rfl
    · rw [if_neg c, if_neg (by simp [e, c])]
theorem Fr.wsc {q : Addr} : Fr [] (U.ws H (q :: S)) (U.ws H S) := fun a o e _ => by
  unfold U.ws at *
  by_cases c : a ∈ q :: S
  · rw [if_pos c] at e; cases e
  · rw [if_neg c] at e
    rw [if_neg fun z => c (List.mem_cons_of_mem _ z)]
    exact e
theorem Dy.less {q : Addr} {v : V} {d : PyData} (h : Dy K H (q :: S) v d) : Dy K H S v d := Dg.fr Fr.wsc h
theorem DyAll.less {q : Addr} {vs : List V} {ds : List PyData} (h : DyAll K H (q :: S) vs ds) : DyAll K H S vs ds := DgAll.fr Fr.wsc h
theorem Dy.more {q : Addr} {o : HO} {v : V} {d : PyData} (h : Dy K H S v d) (hq : H q = none) : Dy K (upd H q o) (q :: S) v d := by
  have h1 : Dy K H (q :: S) v d := by
    unfold Dy
    rw [ws_cons hq]
    exact h
  exact h1.fr (R := []) (Fr.new hq) (by simp)
theorem DyAll.more {q : Addr} {o : HO} {vs : List V} {ds : List PyData} (h : DyAll K H S vs ds) (hq : H q = none) : DyAll K (upd H q o) (q :: S) vs ds := by
  have h1 : DyAll K H (q :: S) vs ds := by
    unfold DyAll
    rw [ws_cons hq]
    exact h
  exact h1.fr (R := []) (Fr.new hq) (by simp)
theorem Dt.dy {v : V} {d : PyData} (A : AllL H S) (h : Dt K H v d) : Dy K H S v d := (h.mono A.wtu).dg
theorem DyAll.append {vs us : List V} {ds es : List PyData} (h : DyAll K H S vs ds) (h' : DyAll K H S us es) : DyAll K H S (vs ++ us) (ds ++ es) := DgAll.append h h'
theorem Dy.tuple {v : V} {ds : List PyData} (h : Dy K H S v (.tuple ds)) : ∃ p vs, v = .ref p ∧ SqT K H p vs ∧ DyAll K H S vs ds := by
  obtain ⟨p, vs, e, s, a⟩ := Dg.tuple h
  exact ⟨p, vs, e, ws_fr.seqT s (by simp), a⟩
theorem Dy.list {v : V} {ds : List PyData} (h : Dy K H S v (.list ds)) : ∃ p vs, v = .ref p ∧ SqL K H p vs ∧ DyAll K H S vs ds := by
  obtain ⟨p, vs, e, s, a⟩ := Dg.list h
  exact ⟨p, vs, e, ws_fr.seqL s (by simp), a⟩
theorem dy_tup {p : Addr} {vs : List V} {ds : List PyData} (A : AllL H S) (hp : H p = none) (a : DyAll K H S vs ds) : Dy K (upd H p (.tup vs)) S (.ref p) (.tuple ds) := by
  have np := A.new hp
  unfold Dy
  rw [ws_upd np]
  exact .tup (.inl (.inl upd_same)) (DgAll.fr (Fr.new (by rw [ws_at np]; exact hp)) a)
theorem dy_lst {p : Addr} {vs : List V} {ds : List PyData} (A : AllL H S) (hp : H p = none) (a : DyAll K H S vs ds) : Dy K (upd H p (.lst vs)) S (.ref p) (.list ds) := by
  have np := A.new hp
  unfold Dy
  rw [ws_upd np]
  exact .lst (SqL.of upd_same) (DgAll.fr (Fr.new (by rw [ws_at np]; exact hp)) a)
theorem mkTy {xs : List V} {ds : List PyData} {Q : VK} (A : AllL H S) (d : DyAll K H S xs ds) (q : ∀ p H', H p = none → Fr [] H H' → Dy K H' S (.ref p) (.tuple ds) → Q (.ref p) H') (n : xs.length ≤ 1000 := by exact Nat.le_of_ble_eq_true rfl) : MkT xs Q H :=
  ⟨Nat.le_trans n (by decide), fun p hp => q p _ hp (Fr.new hp) (dy_tup A hp d)⟩
/-- a list that changes, its items away from itself and from S -/
def Ly (K : PySem.W.Frag) (H : Hp) (S : List Addr) (q : Addr) (ds : List PyData) : Prop := ∃ vs, H q = some (.lst vs) ∧ DyAll K H (q :: S) vs ds
theorem ly_new {p : Addr} {vs : List V} {ds : List PyData} (hp : H p = none) (a : DyAll K H S vs ds) : Ly K (upd H p (.lst vs)) S p ds := ⟨vs, upd_same, a.more hp⟩
theorem mkLy {xs : List V} {ds : List PyData} {Q : VK} (d : DyAll K H S xs ds) (q : ∀ p H', H p = none → Fr [] H H' → Ly K H' S p ds → Q (.ref p) H') (n : xs.length ≤ 1000 := by exact Nat.le_of_ble_eq_true rfl) : MkL xs Q H :=
  ⟨Nat.le_trans n (by decide), fun p hp => q p _ hp (Fr.new hp) (ly_new hp d)⟩
theorem Ly.fr {R : List Addr} {q : Addr} {ds : List PyData} (h : Ly K H S q ds) (f : Fr R H H') (r : ∀ a ∈ R, a ∈ S) (n : q ∉ R) : Ly K H' S q ds := by
  obtain ⟨vs, e, a⟩ := h
  exact ⟨vs, f _ _ e n, a.fr f fun b hb => List.mem_cons_of_mem _ (r b hb)⟩
theorem Ly.fr0 {q : Addr} {ds : List PyData} (h : Ly K H S q ds) (f : Fr [] H H') : Ly K H' S q ds := h.fr f (by simp) (by simp)
theorem Ly.at_ {q : Addr} {ds : List PyData} (h : Ly K H S q ds) : ∃ xs, H q = some (.lst xs) := by
  obtain ⟨vs, e, _⟩ := h
  exact ⟨vs, e⟩
theorem Ly.dy {q : Addr} {ds : List PyData} (h : Ly K H S q ds) (n : q ∉ S) : Dy K H S (.ref q) (.list ds) := by
  obtain ⟨vs, e, a⟩ := h
  exact .lst (SqL.of (by rw [ws_at n]; exact e)) a.less
theorem Ly.len {q : Addr} {ds : List PyData} {Q : VK} (h : Ly K H S q ds) (k : Q (.int ds.length) H) : rLenU K [.ref q] H Q := by
  obtain ⟨vs, e, a⟩ := h
  rw [← DgAll.length a] at k
  exact w_lenL (SqL.of e) k
theorem Ly.slice {q : Addr} {ds : List PyData} {lo hi : Option Int} {Q : VK} (h : Ly K H S q ds) (k : ∀ p H', H p = none → Fr [] H H' → Ly K H' S p (cutA ds lo hi) → Q (.ref p) H') : rSlU K (.ref q) lo hi H Q := by
  obtain ⟨vs, e, a⟩ := h
  exact w_slL (SqL.of e) fun p hp => k p _ hp (Fr.new hp) (ly_new hp (DgAll.cut a.less lo hi))
theorem Ly.cat {q r : Addr} {ds es : List PyData} {Q : VK} (h : Ly K H S q ds) (h' : Ly K H S r es) (n : ds.length + es.length ≤ 100000) (k : ∀ p H', H p = none → Fr [] H H' → Ly K H' S p (ds ++ es) → Q (.ref p) H') : rAddU K (.ref q) (.ref r) H Q := by
  obtain ⟨vs, e, a⟩ := h
  obtain ⟨us, e', a'⟩ := h'
  exact w_addL e e' (by rw [DgAll.length a, DgAll.length a']; omega) fun p hp => k p _ hp (Fr.new hp) (ly_new hp (a.less.append a'.less))
theorem Ly.ix {q : Addr} {ds : List PyData} {i : Int} {Q : VK} (h : Ly K H S q ds) (h0 : 0 ≤ i) (h1 : i < ds.length) (k : ∀ v d, Dy K H (q :: S) v d → ds[i.toNat]? = some d → Q v H) : rIx K (.ref q) (.int i) H Q := by
  obtain ⟨vs, e, a⟩ := h
  have ek : i = ((i.toNat : Nat) : Int) := by omega
  have hk : i.toNat < ds.length := by omega
  obtain ⟨v, hv, dv⟩ := DgAll.at a (List.getElem?_eq_getElem hk)
  refine w_ixL (SqL.of e) ?_ (k v _ dv (List.getElem?_eq_getElem hk))
  rw [ek]
  exact atI_nat hv
/-- a change of the list itself -/
theorem Ly.put {q : Addr} {vs : List V} {ds : List PyData} (A : AllL H (q :: S)) (a : DyAll K H (q :: S) vs ds) : Ly K (upd H q (.lst vs)) S q ds := ⟨vs, upd_same, a.fr (R := [q]) (Fr.mut (by simp)) (by simp)⟩
theorem DgAll.set : ∀ {vs : List V} {ds : List PyData} {v : V} {d : PyData} (j : Nat), DgAll K H vs ds → Dg K H v d → DgAll K H (vs.set j v) (ds.set j d)
  | _, _, _, _, _, .nil, _ => .nil
  | _, _, _, _, 0, .cons x y, b => .cons b y
  | _, _, _, _, j + 1, .cons x y, b => .cons x (DgAll.set j y b)
theorem DyAll.set {vs : List V} {ds : List PyData} {v : V} {d : PyData} (a : DyAll K H S vs ds) (b : Dy K H S v d) (j : Nat) : DyAll K H S (vs.set j v) (ds.set j d) := DgAll.set j a b
theorem DgAll.rev : ∀ {vs : List V} {ds : List PyData}, DgAll K H vs ds → DgAll K H vs.reverse ds.reverse
  | _, _, .nil => .nil
  | _, _, .cons x y => by
    rw [List.reverse_cons, List.reverse_cons]
    exact DgAll.append (DgAll.rev y) (.cons x .nil)
theorem DyAll.reverse {vs : List V} {ds : List PyData} (a : DyAll K H S vs ds) : DyAll K H S vs.reverse ds.reverse := DgAll.rev a
theorem Ly.rev {q : Addr} {ds : List PyData} {Q : VK} (A : AllL H (q :: S)) (h : Ly K H S q ds) (k : ∀ H', Fr [q] H H' → Ly K H' S q ds.reverse → Q .non H') : rReverse (.ref q) [] H Q := by
  obtain ⟨vs, e, a⟩ := h
  exact ⟨q, vs, rfl, rfl, e, k _ (Fr.mut (by simp)) (Ly.put A a.reverse)⟩
theorem Ly.toT {q : Addr} {ds : List PyData} {Q : VK} (A : AllL H S) (h : Ly K H S q ds) (k : ∀ p H', Fr [] H H' → Dy K H' S (.ref p) (.tuple ds) → Q (.ref p) H') : rTupleU K [.ref q] H Q := by
  obtain ⟨vs, e, a⟩ := h
  exact w_tupleL (SqL.of e) fun p hp => k p _ (Fr.new hp) (dy_tup A hp a.less)
theorem Dy.listOf {v : V} {d : PyData} {ds : List PyData} {Q : VK} (h : Dy K H S v d) (e : d = .tuple ds ∨ d = .list ds) (k : ∀ p H', H p = none → Fr [] H H' → Ly K H' S p ds → Q (.ref p) H') : rListU K [v] H Q := by
  rcases e with rfl | rfl
  · obtain ⟨p, vs, rfl, s, a⟩ := h.tuple
    exact w_listT s fun p hp => k p _ hp (Fr.new hp) (ly_new hp a)
  · obtain ⟨p, vs, rfl, s, a⟩ := h.list
    exact w_listL s fun p hp => k p _ hp (Fr.new hp) (ly_new hp a)
theorem Dy.len {v : V} {d : PyData} {ds : List PyData} {Q : VK} (h : Dy K H S v d) (e : d = .tuple ds ∨ d = .list ds) (k : Q (.int ds.length) H) : rLenU K [v] H Q := by
  rcases e with rfl | rfl
  · obtain ⟨p, vs, rfl, s, a⟩ := h.tuple
    rw [← DgAll.length a] at k
    exact w_lenT s k
  · obtain ⟨p, vs, rfl, s, a⟩ := h.list
    rw [← DgAll.length a] at k
    exact w_lenL s k
end
end U

/-! own exceptions whose __init__ calls the __init__ of the own class above; isinstance of a caught one that has its dict -/
namespace U
open PySem PySem.Spec PyProof.Rows L2
/-- what the class above says: its __init__ is ValueError's -/
structure UpC (K : PySem.W.Frag) (C : Addr) : Prop where
  rd : PySem.W.readsIn K C (.type "type") = true
  sp : PySem.W.specialIn K (.ref C) "__getattribute__" = some (some (.builtin "type.__getattribute__"))
  ini : PySem.W.findCls K (.ref C) (.type "type") "__init__" = some (.val (.builtin "ValueError.__init__"))
/-- what a class says, whose instances are caught and asked -/
structure AskC (K : PySem.W.Frag) (C : Addr) : Prop where
  cl : (PySem.W.clsIn K C).isSome = true
  ga : PySem.W.findIn K (.ref C) "__getattribute__" = some (some (.builtin "BaseException.__getattribute__"))
  gg : PySem.W.findIn K (.ref C) "__getattr__" = some none
  ex : PySem.W.subIn K (.ref C) (.type "BaseException") = some true
  hd : PySem.W.hasDictIn K C = true
  cc : PySem.W.findIn K (.ref C) "__class__" = some (some (.builtin "object.__class__"))
  gt : PySem.W.specialIn K (.builtin "object.__class__") "__get__" = some (some (.builtin "getset_descriptor.__get__"))
  tk : PySem.W.takesIn K (.builtin "object.__class__") = some true
  mo : PySem.W.mroIn K C (.type "object") = some true
theorem AskC.xf {K : PySem.W.Frag} {C : Addr} (A : AskC K C) : XfC K C := ⟨A.ga, A.gg, A.ex, A.hd⟩
section
variable {X : Cx} {e : Expr} {es : List Expr} {ta : TA} {p1 p2 pos : Pos}
theorem pe_upinit {x : Str} {CV : Addr} {pl : Sem Bool} (up : UpC X.K CV) (hg : Gl X x) (hm : X.mg x = some (.ref CV)) (ha : PA X (e :: es) ta) (hdb : (x == ("__debug__" : Str)) = false := by decide +kernel)
    (hc : eval (.Call (.Attribute (.Name x p1) "__init__" p2) (e :: es) [] pos) X.env = (do
      let ov ← eval (.Name x p1) X.env
      standAt p2.atName
      let (f, first) ← holding [ov] (getMethod ov "__init__" pl)
      callWith pos f first (backTo pos (starEach (e :: es) X.env)) (backToKw pos (keywordEach [] X.env))) := by rfl)
    (he : starEach (e :: es) X.env = (false, eval e X.env) :: starEach es X.env := by rfl) (hpl : (backTo pos (starEach es X.env)).any (·.1) = false := by rfl) :
    PE X (.Call (.Attribute (.Name x p1) "__init__" p2) (e :: es) [] pos) (tVeI X.K ta) := by
  refine ⟨fun pins s σ H Q I q => ?_⟩
  refine PySem.W.methodCall_KW (ld_glob I hg hm ?_ hdb) hc
  refine PySem.W.method_cls I.kIn up.sp (PySem.W.cls_value I.kIn up.rd up.ini (by decide +kernel) ?_)
  refine PyProof.Rows.callWith_method1 (thn (ha.run pos pins _ σ H _ (I.tok _) q) fun us s1 ⟨vs, H1, I1, rv, a, C, ws, ev, lw, T, ea, q1⟩ => ?_) he hpl
  subst ev
  cases rv with
  | @cons _ u0 _ ur ra rw' =>
    obtain rfl : u0 = Value.ref a := ra
    exact oinit_ok T I1 ea (by rw [← Paired.length rw', sizeLine_eq]; omega) fun s' J => ⟨.non, H1, J, rfl, q1⟩
/-- isinstance(e, c), isinstance(e, (c, ..)): e caught, with its dict -/
def rIsED (K : PySem.W.Frag) (a : Addr) (cls : Value) (d : Option Addr) : List V → Hp → VK → Prop := fun xs H Q => ∃ (D dx : Addr) (fs : List (Str × V)) (b : Bool), cls = .ref D ∧ d = some dx ∧ H dx = some (.xd fs) ∧ AskC K D ∧
  ((∃ (c : V) (cv : Value), xs = [.ref a, c] ∧ (∀ u, RelV c u → u = cv) ∧ PySem.W.kitOne K (.ref D) cv = some b) ∨
    ∃ (tp : Addr) (cs : List Addr), xs = [.ref a, .ref tp] ∧ PTup H tp (cs.map V.ref) ∧ PySem.W.kitAny K (.ref D) (cs.map Value.ref) = some b) ∧ Q (.bl b) H
theorem call_isED {a : Addr} {oe : Obj} {cls : Value} {d : Option Addr} {pn : List (Addr × Obj)} (hz : Zc cls d oe) (hf : ∃ vs, oe.data = .fields vs) : CallR (X.suite a ((a, oe) :: pn)) (.builtin "isinstance") (rIsED X.K a cls d) := by
  intro pins s σ H xs us Q I rx h
  obtain ⟨D, dx, fs, b, rfl, rfl, hdx, A, hc, q⟩ := h
  obtain ⟨hget, _⟩ := I.pin (a, oe) (List.mem_append.mpr (.inl List.mem_cons_self))
  obtain ⟨vs, hv⟩ := hf
  obtain ⟨mA, hns, _⟩ := (show ObjOk X.prog X.w H s.heap dx (.xd fs) from I.hok dx _ hdx)
  obtain ⟨od, ho, _⟩ := lookIn_ns hns
  have J : PySem.W.InstAt s.heap a oe D (some od) := ⟨hget, hz.1, by unfold PySem.W.notCls; rw [hv], by rw [hz.2]; exact ho⟩
  have Z := PySem.W.kitx_exc (x := a) (ox := oe) (od := some od) A.cl A.ga A.gg A.ex A.cc A.gt A.tk A.mo
  rcases hc with ⟨c, cv, rfl, hcv, hk⟩ | ⟨tp, cs, rfl, ⟨us0, ht⟩, hk⟩
  · obtain ⟨u1, u2, rfl, r1, r2⟩ := vals2 rx
    obtain rfl : u1 = Value.ref a := r1
    have ec := hcv _ r2
    subst ec
    exact PySem.W.kia_one Z I.kIn J hk (fun z => nomatch z) fun tk => ⟨.bl b, H, I.kept (t' := tk) fun _ _ z => z, rfl, q⟩
  · obtain ⟨u1, u2, rfl, r1, r2⟩ := vals2 rx
    obtain rfl : u1 = Value.ref a := r1
    obtain rfl : u2 = Value.ref tp := r2
    obtain ⟨g0, _, its, rv, o', ho', hc', n', hd'⟩ := (show ObjOk X.prog X.w H s.heap tp (.frz (tfz us0) (.tup (cs.map V.ref))) from I.hok tp _ ht)
    rw [g0] at ho'
    cases ho'
    have eits : us0 = cs.map Value.ref := by
      have z : Data.seq us0.toArray 0 = Data.seq its.toArray n' := hd'
      injection z with z1 _
      have z2 : us0 = its := by simpa using z1
      rw [z2]
      exact refs_at rv
    rw [eits] at g0
    exact PySem.W.kia_tup (its := cs.map Value.ref) (n := 0) (dd := none) (sl := #[]) Z I.kIn J g0 hk (fun z => nomatch z) fun tk => ⟨.bl b, H, I.kept (t' := tk) fun _ _ z => z, rfl, q⟩
end
/-! ### defs that may raise -/
structure Fxx (P : Program) (w : World) (K : PySem.W.Frag) (mg : Str → Option Value) (base : Heap) (k : Nat) (x : Str) (ps : List Str) (sp : Sp) : Prop where
  ex : ∃ f fd, FnOk P w K mg base (L2.CX P w) k f fd ps sp ∧ mg x = some (.ref f) ∧ PySem.W.keepIn K (.ref f) = true ∧ Binds K fd ps []
theorem Loc.okX {P : Program} {w : World} {K : PySem.W.Frag} {mg : Str → Option Value} {base : Heap} {x : Str} {st : Stmt} {N ps : List Str} {k : Nat} {sp : Sp} (L : Loc K mg x ps st) (S : FnScope N ps (defScope st)) (len : ∀ vs H Q E, sp vs H Q E → vs.length = ps.length)
    (hbody : ∀ (f : Addr) (cdv : Value) (A : Around) (outer : List Env) (s : Shared) (H : Hp) (vs : List V) (Q : VK) (E : XK), Room k (A.deeper (envOfC x (defScope st) s.heap.objs.size f cdv)) → sp vs H Q E →
      ∃ t, PSs (cxOf (L2.CX P w) P w K mg base N x (defScope st) f cdv A outer s H E) (defBody st) t ∧ t ⟨fun _ H' => Q .non H', Q, fun _ _ => False, fun _ _ => False⟩ (start N vs) H) : Fxx P w K mg base (k + 1) x ps sp := by
  obtain ⟨f, fd, F, m, b⟩ := L.ex
  exact ⟨f, fd, F.okX S len fun cdv A outer s H vs Q E hr h => hbody f cdv A outer s H vs Q E hr h, m, F.kp, b⟩
theorem pe_fxx {X : Cx} {k j : Nat} {x : Str} {ps : List Str} {sp : Sp} {W : WX} {e : Expr} {es : List Expr} {t : TA} {p pos : Pos} (G : Fxx X.prog X.w X.K X.mg X.base k x ps sp) (hr : Room j X.A) (hkj : k ≤ j) (tk : Takes X W) (ha : PA X (e :: es) t) (hg : Gl X x := by rfl)
    (hdb : (x == ("__debug__" : Str)) = false := by decide +kernel)
    (he : starEach (e :: es) X.env = (false, eval e X.env) :: starEach es X.env := by rfl) (hpl : (backTo pos (starEach es X.env)).any (·.1) = false := by rfl) : PE X (.Call (.Name x p) (e :: es) [] pos) (tCallS sp (WE W) t) := by
  obtain ⟨f, fd, a, b, c, d⟩ := G.ex
  exact pe_callS (a.mono hkj) hr hg b c d (fun σ => passAt tk σ) ha hdb he hpl
theorem w_callS {sp : Sp} {E : L2.St → XK} {t : TA} {σ : L2.St} {H : Hp} {Q : VK} (q : t σ H fun vs H1 => sp vs H1 Q (E σ)) : tCallS sp E t σ H Q := q
/-- the j-th statement of a class -/
def clsS : Stmt → Nat → Stmt
  | .ClassDef _ _ _ body _ _ _ _ _ _ _, j => body.getD j (.Pass ⟨0, 0, 0, 0⟩)
  | _, _ => .Pass ⟨0, 0, 0, 0⟩
end U

set_option maxHeartbeats 1000000
/-! list(reversed(a tuple)): a new list -/
namespace U
open PySem PySem.Spec PyProof.Rows L2 RT
theorem nolen_rt : typeLookup (.type "reversed") "__len__" = pure none := by rw [typeLookup_type, builtinLookup_eq_fast]; kernel_rfl
theorem slot_rt_hint : Slot "reversed" "__length_hint__" "reversed.__length_hint__" :=
  .of (owner := "reversed") (n := "__length_hint__") (by rw [typeLookup_type, builtinLookup_eq_fast]; kernel_rfl) (by decide +kernel) (by decide +kernel) (by decide +kernel)
    (by first | exact .inl (by decide +kernel) | exact .inr (by decide +kernel)) (by rw [isSubtype_type]; kernel_rfl)
theorem entry_rt_hint : entryFor table "reversed.__length_hint__" = some Builtin.«reversed.__length_hint__» := entryFor_of_tree (by kernel_rfl)
theorem args_rt_hint (a : Value) : argsOk "reversed.__length_hint__" ⟨[a], []⟩ := by
  unfold argsOk; rw [signature?_of (id := "reversed.__length_hint__") (n := ['_', '_', 't', 'n', 'i', 'h', '_', 'h', 't', 'g', 'n', 'e', 'l', '_', '_']) (o := ['d', 'e', 's', 'r', 'e', 'v', 'e', 'r']) (by kernel_rfl) owner_rt]; kernel_rfl
section
variable {prog : Program} {w : World} {A : Around} {E : Value → Shared → Prop} {s : Shared}
theorem call_hint_rt {it t : Addr} {items : Array Value} {Q : Value → Shared → Prop} (hit : IsRt s.heap it t ((items.size : Int) - 1)) (ht : IsTup s.heap t items) (hz : items.size ≤ sizeLine)
    (h : ∀ tk tk', s.toks ≤ tk' → Q (.int (items.size : Int) tk) { s with toks := tk' }) : wpAny (model prog w) A (call (.builtin "reversed.__length_hint__") [.ref it]) Q E s := by
  obtain ⟨o, ho, hc, hd⟩ := id hit
  have hn := line63
  refine wpAny_call_entry slot_rt_hint hit.typeIs entry_rt_hint ?_ (args_rt_hint _)
  unfold Builtin.«reversed.__length_hint__»
  refine wpAny_bind (wpAny_of_eq (a := Value.ref it) rfl ?_)
  try dsimp only
  refine wpAny_bind (wpAny_field ho hd (x := .ref t) rfl ?_)
  try dsimp only
  try rw [if_neg (by decide)]
  try dsimp only
  refine wpAny_bind (len_tuple ht (by omega) ?_)
  refine wpAny_bind (wpAny_of_eq (a := some ((items.size : Nat) : Int)) rfl ?_)
  try dsimp only
  refine wpAny_bind (wpAny_field (s := { s with toks := s.toks + 1 + 1 }) ho hd (x := rawInt ((items.size : Int) - 1)) rfl ?_)
  try dsimp only
  show wpAny _ _ (if (items.size : Int) < (items.size : Int) - 1 + 1 then _ else retInt ((items.size : Int) - 1 + 1)) _ _ _
  rw [if_neg (by omega)]
  rw [show (items.size : Int) - 1 + 1 = (items.size : Int) by omega]
  unfold retInt
  refine wpAny_bind (wpAny_mkInt ?_)
  exact wpAny_pure ⟨_, rfl, h _ _ (by show s.toks ≤ s.toks + 1 + 1 + 1; omega)⟩
theorem hint_rt {it t : Addr} {items : Array Value} {Q : Bool → Shared → Prop} (hit : IsRt s.heap it t ((items.size : Int) - 1)) (ht : IsTup s.heap t items) (hz : items.size ≤ sizeLine)
    (h : ∀ b tk', s.toks ≤ tk' → Q b { s with toks := tk' }) : wpAny (model prog w) A (Builtin.List.listLengthHint (.ref it)) Q E s := by
  have hT := hit.typeIs
  have hn := line63
  unfold Builtin.List.listLengthHint
  refine wpAny_bind (wpAny_specialOf hT nolen_rt ?_)
  show wpAny _ A (specialOf (Value.ref it) (Str.ofString "__length_hint__") >>= _) _ _ _
  refine wpAny_bind (wpAny_specialOf hT slot_rt_hint.lookup ?_)
  generalize hid : ("reversed.__length_hint__" : String) = id0
  wp_delta
  rw [show splitId id0 = some ("reversed", "__length_hint__") from by subst hid; decide +kernel]
  subst hid
  refine wpAny_bind (wpAny_isInstance (b := true) hT (by rw [isSubtype_type]; kernel_rfl) ?_)
  rw [if_neg (by decide)]
  show wpAny _ A (if _ then _ else _) _ _ _
  rw [if_neg (by decide +kernel)]
  refine wpAny_bind (wpAny_rule ?_)
  refine wpAny_bind (wpAny_of_eq (slot_rt_hint.bind _) ?_)
  try dsimp only
  refine wpAny_bind (wpAny_attempt (call_hint_rt hit ht hz fun tk tk' ht' => ?_))
  show wpAny _ _ (asInt? (Value.int ((items.size : Nat) : Int) tk) >>= _) _ _ _
  have hai : asInt? (Value.int ((items.size : Nat) : Int) tk) = pure (some ((items.size : Nat) : Int)) := rfl
  rw [hai, pure_bind]
  try dsimp only
  have hfi : Builtin.List.listFitsIndex (items.size : Int) = true := by
    unfold Builtin.List.listFitsIndex
    rw [decide_eq_true (show -(2 ^ 63 : Int) ≤ (items.size : Int) by omega), decide_eq_true (show (items.size : Int) < 2 ^ 63 by omega)]
    rfl
  rw [if_neg (by rw [hfi]; exact Bool.false_ne_true)]
  rw [if_neg (by omega)]
  rw [if_neg (by unfold Builtin.List.listTooLong; rw [decide_eq_true_eq, Int.toNat_natCast]; omega)]
  exact wpAny_pure (h _ _ ht')
theorem walks_rt (hh : A.handled = none) (it t : Addr) (hne : t ≠ it) (items : Array Value) (hz : items.size ≤ sizeLine) :
    WalksS prog w A it [it, t] [it] (fun a b => b = a) items.size (fun i v => items[items.size - 1 - i]? = some v) (fun i s => i ≤ items.size ∧ IsRt s.heap it t ((items.size : Int) - 1 - (i : Nat)) ∧ IsTup s.heap t items) where
  sub := by simp
  grefl := fun _ => rfl
  gtrans := fun a b c h1 h2 => by rw [h2, h1]
  frame := fun i s h' tk st _ k => ⟨st.1, st.2.1.at fun o e => k it (by simp) o e, by
    obtain ⟨o, e, r⟩ := st.2.2
    exact ⟨o, k t (by simp) o e, r⟩⟩
  item := fun i s Q E hi st h => by
    obtain ⟨_, h1, h2⟩ := st
    have hlt : items.size - 1 - i < items.size := by omega
    have e1 : (items.size : Int) - 1 - ((i : Nat) : Int) = ((items.size - 1 - i : Nat) : Int) := by omega
    rw [e1] at h1
    refine next_rt_item h1 h2 (x := items[items.size - 1 - i]) (Array.getElem?_eq_getElem hlt) hz fun h' st' sb => ?_
    have e2 : ((items.size - 1 - i : Nat) : Int) - 1 = (items.size : Int) - 1 - ((i + 1 : Nat) : Int) := by omega
    rw [e2] at st'
    refine h _ _ (Array.getElem?_eq_getElem hlt) ⟨hi, st', ?_⟩ ⟨fun b o hb e => (sb.2 b (by simpa using hb)).trans e, rfl, rfl, rfl, Nat.le_succ _⟩
    obtain ⟨o, e, r⟩ := h2
    exact ⟨o, (sb.2 t hne).trans e, r⟩
  done := fun s Q E st h => by
    obtain ⟨_, h1, h2⟩ := st
    have e1 : (items.size : Int) - 1 - ((items.size : Nat) : Int) = -1 := by omega
    rw [e1] at h1
    refine next_rt_end hh h1 fun h' eb => h _ ⟨fun b o hb e => eb b o (by simpa using hb) e, rfl, rfl, rfl, Nat.le_refl _⟩
  self := fun i s Q E st h => iter_rt st.2.1 h
end
section
variable {prog : Program} {w : World} {A : Around} {s : Shared} {R : Result → Shared → Prop}
theorem extend_rt {it t : Addr} {items : Array Value} (hh : A.handled = none) (hit : IsRt s.heap it t ((items.size : Int) - 1)) (ht : IsTup s.heap t items) (hz : items.size ≤ sizeLine) (hne : t ≠ it) (S : Addr) (res : Value) (c₀ : Nat) (hSi : S ≠ it) (hSt : S ≠ t)
    (hS : s.heap.get? S = some { cls := .type "list", data := .seq #[] c₀ })
    (hR : ∀ s' acc' c', Moved (S :: [it]) (fun a b => b = a) s s' → s'.heap.get? S = some { cls := .type "list", dict := none, data := .seq acc' c', slots := #[] } → ItemsOf (fun i v => items[items.size - 1 - i]? = some v) acc' items.size → R (.ok (.ret res)) s') :
    wpAny (model prog w) A.in1 (Builtin.List.listExtendWith (.ref S) (.ref it) res)
      (fun fin s' => match fin with | .done f => R (.ok f) s' | .again c' => c'.quiet = true ∧ codeAny (model prog w) A c' R s') (fun e s' => R (.error e) s') s := by
  have hSf : S ∉ [it, t] := by simp [hSi, hSt]
  have W := walks_rt (prog := prog) (w := w) (A := A.in1) hh it t hne items hz
  have hT := hit.typeIs
  unfold Builtin.List.listExtendWith
  refine wpAny_bind (wpAny_typeOf hT ?_)
  have h1 : Builtin.List.listSameRef (.ref S) (.ref it) = false := by simp [Builtin.List.listSameRef, hSi]
  have h2 : (Value.type "reversed" == Value.type "list") = false := by decide
  have h3 : (Value.type "reversed" == Value.type "tuple") = false := by decide
  simp only [h1, h2, h3, Bool.or_false, Bool.false_eq_true, if_false]
  refine wpAny_bind (iter_rt hit ?_)
  refine wpAny_bind (wpAny_holding (hint_rt hit ht hz fun b tk' htk => ?_))
  have hit' : IsRt s.heap it t ((items.size : Int) - 1 - ((0 : Nat) : Int)) := by rw [show (items.size : Int) - 1 - ((0 : Nat) : Int) = (items.size : Int) - 1 by omega]; exact hit
  cases b with
  | false =>
    show wpAny _ A.in1 (again (.builtin "list.extend.loop" ⟨[.ref S, .ref it, res], []⟩)) _ _ _
    refine wpAny_pure ⟨plainId_quiet F.plain_extend_loop _, codeAny_extend_loopS W hz _ hSf _ items.size 0 _ _ _ rfl (Nat.zero_le _) ⟨Nat.zero_le _, hit', ht⟩ hS (ItemsOf.nil _) fun s' acc' c' hm hS' hacc => ?_⟩
    exact hR s' acc' c' (Moved.trans (s' := { s with toks := tk' }) (fun a b c h1 h2 => by rw [h2, h1]) ⟨fun _ _ _ e => e, rfl, rfl, rfl, htk⟩ hm) hS' hacc
  | true =>
    show wpAny _ A.in1 (rule "list.extend.makes-room" >>= fun _ => Builtin.List.listTouch (.ref S) >>= fun _ =>
      again (.builtin "list.extend.loop" ⟨[.ref S, .ref it, res], []⟩)) _ _ _
    refine wpAny_bind (wpAny_rule ?_)
    refine wpAny_bind ?_
    show wpAny _ A.in1 (updateSeq S (·.push .none) >>= fun _ => updateSeq S (·.pop)) _ _ _
    refine wpAny_bind (wpAny_updateSeq hS rfl ?_)
    have hS₂ := Heap.get?_update_self (Obj.mapSeq (·.push Value.none)) hS rfl
    refine wpAny_updateSeq (hz := by seq_fits) hS₂ rfl ?_
    have hS₃ := Heap.get?_update_self (Obj.mapSeq (·.pop)) hS₂ rfl
    have oth : ∀ b o, b ≠ S → s.heap.get? b = some o → ((s.heap.update S (Obj.mapSeq (·.push Value.none))).update S (Obj.mapSeq (·.pop))).get? b = some o :=
      fun b o hb e => (Heap.get?_update_other _ _ (Ne.symm hb)).trans ((Heap.get?_update_other _ _ (Ne.symm hb)).trans e)
    have st0 := W.frame 0 s _ tk' ⟨Nat.zero_le _, hit', ht⟩ htk fun b hb o e => oth b o (fun h => hSf (h ▸ hb)) e
    refine wpAny_pure ⟨plainId_quiet F.plain_extend_loop _, codeAny_extend_loopS W hz _ hSf _ items.size 0 _ _ _ rfl (Nat.zero_le _) st0 hS₃ (ItemsOf.nil _) fun s' acc' c' hm hS' hacc => ?_⟩
    refine hR s' acc' c' (Moved.trans (s' := { s with heap := (s.heap.update S (Obj.mapSeq (·.push Value.none))).update S (Obj.mapSeq (·.pop)), toks := tk' }) (fun a b c h1 h2 => by rw [h2, h1]) ⟨fun b o hb e => oth b o (fun h => hb (h ▸ List.mem_cons_self)) e, rfl, rfl, rfl, htk⟩ hm) hS' hacc
end
section
variable {prog : Program} {w : World} {A : Around} {E : Value → Shared → Prop} {s : Shared}
theorem call_list_rt {it t : Addr} {items : Array Value} {Q : Value → Shared → Prop} (hh : A.handled = none) (hit : IsRt s.heap it t ((items.size : Int) - 1)) (ht : IsTup s.heap t items) (hz : items.size ≤ sizeLine) (hne : t ≠ it)
    (hQ : ∀ h' tk acc' c', (∀ b o, b ≠ it → s.heap.get? b = some o → h'.get? b = some o) → h'.get? s.heap.objs.size = some { cls := .type "list", dict := none, data := .seq acc' c', slots := #[] } →
      ItemsOf (fun i v => items[items.size - 1 - i]? = some v) acc' items.size → Q (.ref s.heap.objs.size) { s with heap := h', toks := tk }) :
    wpAny (model prog w) A (call (.type "list") [.ref it]) Q E s := by
  obtain ⟨oi, hoi, _⟩ := id hit
  obtain ⟨ot, hot, _⟩ := id ht
  have hSi : s.heap.objs.size ≠ it := Nat.ne_of_gt (Heap.lt_size hoi)
  have hSt : s.heap.objs.size ≠ t := Nat.ne_of_gt (Heap.lt_size hot)
  refine callType_codes (Q₁ := fun obj s₁ => obj = .ref s.heap.objs.size ∧ s₁ = { s with heap := s.heap.push { cls := .type "list", data := .seq #[] } }) F.called_list (F.typeCall_list_1 _) F.entry_list_init
    (code_list_new _ ⟨rfl, rfl⟩) fun obj s₁ h₁ => ?_
  obtain ⟨rfl, rfl⟩ := h₁
  have hS : (s.heap.push { cls := .type "list", data := .seq #[] }).get? s.heap.objs.size = some { cls := .type "list", data := .seq #[] } := Heap.get?_push_size _ rfl
  refine ⟨⟨_, hS, rfl⟩, F.args_list_init_2 _ _, ?_⟩
  show wpAny _ A.in1.in1 (do let old ← Builtin.List.listItems (.ref s.heap.objs.size); Builtin.List.listUpdate (.ref s.heap.objs.size) (fun _ => #[]); letGo old.toList.reverse; Builtin.List.listExtendWith (.ref s.heap.objs.size) (.ref it) .none) _ _ _
  refine wpAny_bind ?_
  unfold Builtin.List.listItems
  refine wpAny_bind (wpAny_seqItems hS rfl (wpAny_pure ?_))
  show wpAny _ A.in1.in1 (updateSeq s.heap.objs.size (fun _ => #[]) >>= fun _ => letGo (#[] : Array Value).toList.reverse >>= fun _ => Builtin.List.listExtendWith (.ref s.heap.objs.size) (.ref it) .none) _ _ _
  refine wpAny_bind (wpAny_updateSeq hS rfl ?_)
  have hS₂ := Heap.get?_update_self (Obj.mapSeq (fun _ => (#[] : Array Value))) hS rfl
  have oth : ∀ b o, s.heap.get? b = some o → ((s.heap.push { cls := .type "list", data := .seq #[] }).update s.heap.objs.size (Obj.mapSeq (fun _ => (#[] : Array Value)))).get? b = some o :=
    fun b o e => (Heap.get?_update_other _ _ (Nat.ne_of_gt (Heap.lt_size e))).trans (Heap.get?_push_of_some _ e)
  refine wpAny_bind (wpAny_letGo ?_)
  refine extend_rt (A := A.in1) hh (hit.at fun o e => oth it o e) ?_ hz hne _ _ _ hSi hSt hS₂ fun s' acc' c' hm hS' hacc => ?_
  · obtain ⟨o, e, r⟩ := ht
    exact ⟨o, oth t o e, r⟩
  · refine ⟨rfl, ?_⟩
    rw [Moved.eq_with hm]
    refine hQ s'.heap s'.toks acc' c' (fun b o hb e => hm.heap b o (fun hmem => ?_) (oth b o e)) hS' hacc
    rcases List.mem_cons.mp hmem with e' | hmem
    · exact absurd (Heap.lt_size e) (by rw [e']; exact Nat.lt_irrefl _)
    · exact hb (List.mem_singleton.mp hmem)
end
def rListRevT (K : PySem.W.Frag) (v : V) (H1 : Hp) (Q : VK) : Prop := ∃ (a : Addr) (xs : List V), v = .ref a ∧ SqT K H1 a xs ∧ ∀ q, H1 q = none → Q (.ref q) (upd H1 q (.lst xs.reverse))
def tListRevT (K : PySem.W.Frag) (te : TE) : TE := fun σ H Q => te σ H fun v H1 => rListRevT K v H1 Q
section
variable {X : Cx}
theorem pe_listRevT {e : Expr} {te : TE} {p p2 pos pos2 : Pos} (hc : X.calm = true) (hg : Gl X "list") (hm : X.mg "list" = none) (hg2 : Gl X "reversed") (hm2 : X.mg "reversed" = none) (he : PE X e te)
    (hs : starEach [e] X.env = (false, eval e X.env) :: starEach [] X.env := by rfl)
    (hs2 : starEach [.Call (.Name "reversed" p2) [e] [] pos2] X.env = (false, eval (.Call (.Name "reversed" p2) [e] [] pos2) X.env) :: starEach [] X.env := by rfl) :
    PE X (.Call (.Name "list" p) [.Call (.Name "reversed" p2) [e] [] pos2] [] pos) (tListRevT X.K te) := by
  refine ⟨fun pins s σ H Q I h => ?_⟩
  refine Call_ (ld_blt I hg hm boot_list (PyProof.Rows.callWith_type1 (args_cons (Call_ (ld_blt I hg2 hm2 PyProof.Rows.boot_reversed (PyProof.Rows.callWith_type1 (args_cons (thn (he.run pins s σ H _ I h) fun u s1 ⟨v, H1, I1, r1, q1⟩ => args_nil ?_) hs) hs rfl))) hs2) hs2 rfl))
  obtain ⟨a, xs, ev, hq, q⟩ := q1
  subst ev
  obtain rfl : u = Value.ref a := r1
  obtain ⟨its, rv, p', hz⟩ := I1.tuple hq
  have hl := rv.length
  have hn := line63
  refine call_reversed_tup p' (fun A E Q k => len_tuple p' (by simp only [List.size_toArray] <;> omega) k) (args_nil ?_)
  have k0 : ∀ b o, s1.heap.get? b = some o → (s1.heap.push (rtObj a ((its.toArray.size : Int) - 1))).get? b = some o := fun b o e => Heap.get?_push_of_some _ e
  have I2 : Inv X pins σ H1 { s1 with heap := s1.heap.push (rtObj a ((its.toArray.size : Int) - 1)), toks := s1.toks + 1 + 1 } := I1.kept (t' := s1.toks + 1 + 1) k0
  obtain ⟨f0, f1, f2, f3, f4, f5⟩ := I1.fpOk (H' := H1) (b := s1.heap.objs.size) (Nat.le_refl _) (I1.hok.fresh (Nat.le_refl _))
  obtain ⟨ot, hot, _⟩ := id p'
  have hne : a ≠ s1.heap.objs.size := Nat.ne_of_lt (Heap.lt_size hot)
  have hn' : its.toArray.size ≤ sizeLine := by rw [List.size_toArray, ← rv.length]; exact hz
  refine call_list_rt (s := { s1 with heap := s1.heap.push (rtObj a ((its.toArray.size : Int) - 1)), toks := s1.toks + 1 + 1 }) (I1.ok.hd hc) ⟨_, Heap.get?_push_size _ rfl, rfl, rfl⟩ (by
    obtain ⟨o, e, r⟩ := p'
    exact ⟨o, Heap.get?_push_of_some _ e, r⟩) hn' hne fun h' tk acc c' hk e' hi => ?_
  have hfr : (s1.heap.push (rtObj a ((its.toArray.size : Int) - 1))).objs.size = s1.heap.objs.size + 1 := by simp [Heap.push]
  have hfresh : H1 (s1.heap.push (rtObj a ((its.toArray.size : Int) - 1))).objs.size = none := I1.hok.fresh (by rw [hfr]; exact Nat.le_succ _)
  refine ⟨.ref _, upd H1 _ (.lst xs.reverse), I2.turnedNew (ch := [s1.heap.objs.size]) (t' := tk) (fun b o hb e => hk b o (fun z => hb (by simp [z])) e) (fun b hb => ?_) (Nat.le_refl _) (show ObjOk X.prog X.w _ _ _ (.lst xs.reverse) from ⟨by rw [List.length_reverse]; exact hz, acc.toList, c', vals_rev rv hi, ?_⟩), rfl, q _ hfresh⟩
  · rw [List.mem_singleton.mp hb]
    exact ⟨f0, f1, f2, f3, f4, f5⟩
  · rw [Array.toArray_toList]
    exact e'
end
theorem pe_listRevU {X : Cx} {K : PySem.W.Frag} {e : Expr} {te : TE} {p p2 pos pos2 : Pos} (hK : X.K = K) (hc : X.calm = true) (hg : Gl X "list") (hm : X.mg "list" = none) (hg2 : Gl X "reversed") (hm2 : X.mg "reversed" = none) (he : PE X e te)
    (hs : starEach [e] X.env = (false, eval e X.env) :: starEach [] X.env := by rfl)
    (hs2 : starEach [.Call (.Name "reversed" p2) [e] [] pos2] X.env = (false, eval (.Call (.Name "reversed" p2) [e] [] pos2) X.env) :: starEach [] X.env := by rfl) :
    PE X (.Call (.Name "list" p) [.Call (.Name "reversed" p2) [e] [] pos2] [] pos) (tListRevT K te) := by
  subst hK
  exact pe_listRevT hc hg hm hg2 hm2 he hs hs2
theorem w_listRevT {K : PySem.W.Frag} {te : TE} {σ : L2.St} {H : Hp} {Q : VK} (q : te σ H fun v H1 => rListRevT K v H1 Q) : tListRevT K te σ H Q := q
theorem Dt.listRev {K : PySem.W.Frag} {H : Hp} {v : V} {ds : List PyData} {Q : VK} (h : Dt K H v (.tuple ds)) (q : ∀ p H', H p = none → Fr [] H H' → Lq K H' p ds.reverse → Q (.ref p) H') : rListRevT K v H Q := by
  obtain ⟨p, vs, rfl, s, a⟩ := h.tuple
  exact ⟨p, vs, rfl, s, fun l hl => q l _ hl (Fr.new hl) ⟨_, upd_same, (a.rev).mono (Tu.new hl)⟩⟩
end U

/-! readings by data: what is in the slots and in the own objects, no heap in sight -/
namespace U
open PySem PySem.Spec PyProof.Rows L2
structure Cz where
  P : Program
  w : World
  K : PySem.W.Frag
/-- what a slot holds: data that never changes, or just this value -/
inductive DV
  | d (x : PyData)
  | v (x : V)
/-- an own object: what is true of it -/
structure DO where
  fp : List Addr
  ok : Cz → Hp → Hp → Addr → Prop
  live : ∀ {C F H a}, ok C F H a → ∀ b ∈ a :: fp, ∃ o, H b = some o
  loc : ∀ {C F F' H H' a}, Fr [] F F' → (∀ b ∈ a :: fp, H' b = H b) → ok C F H a → ok C F' H' a
abbrev DS := List (Addr × DO)
def dom : DS → List Addr
  | [] => []
  | x :: r => (x.1 :: x.2.fp) ++ dom r
def fz (H : Hp) (Z : List Addr) (S : DS) : Hp := ws H (Z ++ dom S)
theorem dom_append : ∀ (S T : DS), dom (S ++ T) = dom S ++ dom T
  | [], T => rfl
  | x :: r, T => by rw [List.cons_append, dom, dom, dom_append r T, List.append_assoc]
theorem mem_dom {S : DS} {a : Addr} : a ∈ dom S ↔ ∃ x ∈ S, a ∈ x.1 :: x.2.fp := by
  induction S with
  | nil => simp [dom]
  | cons y r ih =>
    rw [dom, List.mem_append, ih]
    constructor
    · rintro (h | ⟨x, h1, h2⟩)
      · exact ⟨y, List.mem_cons_self, h⟩
      · exact ⟨x, List.mem_cons_of_mem _ h1, h2⟩
    · rintro ⟨x, h1, h2⟩
      rcases List.mem_cons.mp h1 with rfl | h1
      · exact .inl h2
      · exact .inr ⟨x, h1, h2⟩
theorem dom_perm {S T : DS} (h : S.Perm T) : (dom S).Perm (dom T) := by
  induction h with
  | nil => exact .refl _
  | cons x _ ih => exact List.Perm.append_left _ ih
  | swap x y l =>
    rw [dom, dom, dom, dom, ← List.append_assoc, ← List.append_assoc]
    exact List.Perm.append_right _ List.perm_append_comm
  | trans _ _ i1 i2 => exact i1.trans i2
structure SOk (C : Cz) (Z : List Addr) (H : Hp) (S : DS) : Prop where
  nd : (dom S).Nodup
  z : ∀ a ∈ dom S, a ∉ Z
  zl : ∀ a ∈ Z, ∃ o, H a = some o
  ok : ∀ x ∈ S, x.2.ok C (fz H Z S) H x.1
theorem ws_congr {H : Hp} {S T : List Addr} (h : ∀ a, a ∈ S ↔ a ∈ T) : ws H S = ws H T := by
  funext a
  unfold ws
  by_cases e : a ∈ S
  · rw [if_pos e, if_pos ((h a).mp e)]
  · rw [if_neg e, if_neg fun z => e ((h a).mpr z)]
theorem SOk.perm {C : Cz} {Z : List Addr} {H : Hp} {S T : DS} (h : SOk C Z H S) (p : S.Perm T) : SOk C Z H T := by
  have pd := dom_perm p
  have e : fz H Z T = fz H Z S := ws_congr fun a => by rw [List.mem_append, List.mem_append, pd.mem_iff]
  exact ⟨pd.nodup_iff.mp h.nd, fun a ha => h.z a (pd.mem_iff.mpr ha), h.zl, fun x hx => by rw [e]; exact h.ok x (p.mem_iff.mpr hx)⟩
theorem SOk.live {C : Cz} {Z : List Addr} {H : Hp} {S : DS} (h : SOk C Z H S) {a : Addr} (ha : a ∈ dom S) : ∃ o, H a = some o := by
  obtain ⟨x, h1, h2⟩ := mem_dom.mp ha
  exact x.2.live (h.ok x h1) a h2
theorem SOk.new {C : Cz} {Z : List Addr} {H : Hp} {S : DS} (h : SOk C Z H S) {p : Addr} (hp : H p = none) : p ∉ Z ∧ p ∉ dom S := by
  constructor
  · intro z
    obtain ⟨o, e⟩ := h.zl p z
    rw [hp] at e
    cases e
  · intro z
    obtain ⟨o, e⟩ := h.live z
    rw [hp] at e
    cases e
/-- from one state to a later one -/
structure Stp (C : Cz) (Z : List Addr) (H : Hp) (S : DS) (H' : Hp) (S' : DS) : Prop where
  so : SOk C Z H' S'
  fr : Fr (dom S) H H'
  nw : ∀ a ∈ dom S', a ∈ dom S ∨ H a = none
section
variable {C : Cz} {Z : List Addr} {H H1 H2 H' : Hp} {S S1 S2 S' : DS}
theorem fz_at {a : Addr} {o : HO} (h : fz H Z S a = some o) : H a = some o ∧ a ∉ Z ∧ a ∉ dom S := by
  unfold fz ws at h
  by_cases e : a ∈ Z ++ dom S
  · rw [if_pos e] at h; cases h
  · rw [if_neg e] at h
    exact ⟨h, fun z => e (List.mem_append_left _ z), fun z => e (List.mem_append_right _ z)⟩
theorem fz_in {a : Addr} {o : HO} (h : H a = some o) (hz : a ∉ Z) (hs : a ∉ dom S) : fz H Z S a = some o := by
  unfold fz ws
  rw [if_neg fun z => (List.mem_append.mp z).elim hz hs]
  exact h
theorem fz_fr : Fr [] (fz H Z S) H := fun a o e _ => (fz_at e).1
theorem Stp.refl (so : SOk C Z H S) : Stp C Z H S H S := ⟨so, Fr.refl, fun _ h => .inl h⟩
theorem Stp.fz (s : Stp C Z H S H' S') : Fr [] (fz H Z S) (fz H' Z S') := fun a o e _ => by
  obtain ⟨h1, h2, h3⟩ := fz_at e
  refine fz_in (s.fr a o h1 h3) h2 fun z => ?_
  rcases s.nw a z with z | z
  · exact h3 z
  · rw [h1] at z; cases z
theorem Stp.trans (s : Stp C Z H S H1 S1) (t : Stp C Z H1 S1 H2 S2) : Stp C Z H S H2 S2 := by
  refine ⟨t.so, fun a o e n => ?_, fun a ha => ?_⟩
  · refine t.fr a o (s.fr a o e n) fun z => ?_
    rcases s.nw a z with z | z
    · exact n z
    · rw [e] at z; cases z
  · rcases t.nw a ha with z | z
    · exact s.nw a z
    · cases e : H a with
      | none => exact .inr rfl
      | some o =>
        refine .inl (Classical.byContradiction fun n => ?_)
        rw [s.fr a o e n] at z
        cases z
/-- own objects in another order -/
theorem Stp.permL (s : Stp C Z H S H' S') (p : S1.Perm S) : Stp C Z H S1 H' S' := ⟨s.so, fun a o e n => s.fr a o e fun z => n ((dom_perm p).mem_iff.mpr z), fun a ha => (s.nw a ha).imp (fun z => (dom_perm p).mem_iff.mpr z) id⟩
theorem Stp.permR (s : Stp C Z H S H' S') (p : S'.Perm S1) : Stp C Z H S H' S1 := ⟨s.so.perm p, s.fr, fun a ha => s.nw a ((dom_perm p).mem_iff.mpr ha)⟩
/-- some are let go -/
theorem SOk.sub {R : DS} (so : SOk C Z H (S ++ R)) : SOk C Z H S := by
  have e : Fr [] (U.fz H Z (S ++ R)) (U.fz H Z S) := fun a o e _ => by
    obtain ⟨h1, h2, h3⟩ := fz_at e
    exact fz_in h1 h2 fun z => h3 (by rw [dom_append]; exact List.mem_append_left _ z)
  refine ⟨?_, fun a ha => so.z a (by rw [dom_append]; exact List.mem_append_left _ ha), so.zl, fun x hx => x.2.loc e (fun _ _ => rfl) (so.ok x (List.mem_append_left _ hx))⟩
  have := so.nd
  rw [dom_append] at this
  exact (List.nodup_append.mp this).1
theorem Stp.sub {R : DS} (so : SOk C Z H (S ++ R)) : Stp C Z H (S ++ R) H S := ⟨so.sub, Fr.refl, fun a ha => .inl (by rw [dom_append]; exact List.mem_append_left _ ha)⟩
/-- a part of the own objects, the others away -/
theorem SOk.part {R : DS} (so : SOk C Z H (S ++ R)) : SOk C (Z ++ dom R) H S := by
  have e : fz H (Z ++ dom R) S = fz H Z (S ++ R) := ws_congr fun a => by
    rw [dom_append]
    simp only [List.mem_append]
    constructor
    · rintro ((h | h) | h)
      · exact .inl h
      · exact .inr (.inr h)
      · exact .inr (.inl h)
    · rintro (h | h | h)
      · exact .inl (.inl h)
      · exact .inr h
      · exact .inl (.inr h)
  have nd := so.nd
  rw [dom_append] at nd
  have nd := List.nodup_append.mp nd
  refine ⟨nd.1, fun a ha z => ?_, fun a ha => ?_, fun x hx => by rw [e]; exact so.ok x (List.mem_append_left _ hx)⟩
  · rcases List.mem_append.mp z with z | z
    · exact so.z a (by rw [dom_append]; exact List.mem_append_left _ ha) z
    · exact nd.2.2 a ha a z rfl
  · rcases List.mem_append.mp ha with z | z
    · exact so.zl a z
    · exact so.live (by rw [dom_append]; exact List.mem_append_right _ z)
theorem fz_part {R : DS} : fz H (Z ++ dom R) S = fz H Z (S ++ R) := ws_congr fun a => by
  rw [dom_append]
  simp only [List.mem_append]
  constructor
  · rintro ((h | h) | h)
    · exact .inl h
    · exact .inr (.inr h)
    · exact .inr (.inl h)
  · rintro (h | h | h)
    · exact .inl (.inl h)
    · exact .inr h
    · exact .inl (.inr h)
/-- .. and back -/
theorem Stp.whole {R : DS} (so : SOk C Z H (S ++ R)) (s : Stp C (Z ++ dom R) H S H' S') : Stp C Z H (S ++ R) H' (S' ++ R) := by
  have nd := so.nd
  rw [dom_append] at nd
  have nd := List.nodup_append.mp nd
  have keepR : ∀ a ∈ dom R, H' a = H a := fun a ha => by
    obtain ⟨o, e⟩ := so.live (a := a) (by rw [dom_append]; exact List.mem_append_right _ ha)
    rw [e]
    exact s.fr a o e fun z => nd.2.2 a z a ha rfl
  have hz : ∀ a ∈ dom S', a ∉ Z ∧ a ∉ dom R := fun a ha => ⟨fun z => s.so.z a ha (List.mem_append_left _ z), fun z => s.so.z a ha (List.mem_append_right _ z)⟩
  have efz : Fr [] (U.fz H Z (S ++ R)) (U.fz H' Z (S' ++ R)) := by
    rw [← fz_part, ← fz_part]
    exact s.fz
  refine ⟨⟨?_, ?_, ?_, ?_⟩, ?_, ?_⟩
  · rw [dom_append]
    exact List.nodup_append.mpr ⟨s.so.nd, nd.2.1, fun a ha b hb e => (hz a ha).2 (e ▸ hb)⟩
  · intro a ha
    rw [dom_append] at ha
    rcases List.mem_append.mp ha with z | z
    · exact (hz a z).1
    · exact so.z a (by rw [dom_append]; exact List.mem_append_right _ z)
  · intro a ha
    exact s.so.zl a (List.mem_append_left _ ha)
  · intro x hx
    rcases List.mem_append.mp hx with z | z
    · have := s.so.ok x z
      rw [fz_part] at this
      exact this
    · refine x.2.loc efz (fun b hb => keepR b (mem_dom.mpr ⟨x, z, hb⟩)) (so.ok x (List.mem_append_right _ z))
  · intro a o e n
    exact s.fr a o e fun z => n (by rw [dom_append]; exact List.mem_append_left _ z)
  · intro a ha
    rw [dom_append] at ha
    rw [dom_append]
    rcases List.mem_append.mp ha with z | z
    · exact (s.nw a z).imp (fun z => List.mem_append_left _ z) id
    · exact .inl (List.mem_append_right _ z)
end
/-! ### values -/
def DvR (K : PySem.W.Frag) (F : Hp) (v : V) : DV → Prop
  | .d x => Dg K F v x
  | .v u => v = u
theorem DvR.fr {K : PySem.W.Frag} {F F' : Hp} {v : V} {dv : DV} (f : Fr [] F F') (h : DvR K F v dv) : DvR K F' v dv := by
  cases dv with
  | d x => exact Dg.fr f h
  | v u => exact h
inductive DvAll (K : PySem.W.Frag) (F : Hp) : List V → List DV → Prop
  | nil : DvAll K F [] []
  | cons {v : V} {x : DV} {vs : List V} {xs : List DV} : DvR K F v x → DvAll K F vs xs → DvAll K F (v :: vs) (x :: xs)
section
variable {K : PySem.W.Frag} {F F' : Hp}
theorem DvAll.fr (f : Fr [] F F') : ∀ {vs : List V} {xs : List DV}, DvAll K F vs xs → DvAll K F' vs xs
  | _, _, .nil => .nil
  | _, _, .cons a b => .cons (a.fr f) (DvAll.fr f b)
theorem DvAll.length : ∀ {vs : List V} {xs : List DV}, DvAll K F vs xs → vs.length = xs.length
  | _, _, .nil => rfl
  | _, _, .cons _ b => by rw [List.length_cons, List.length_cons, DvAll.length b]
theorem DvAll.append : ∀ {vs us : List V} {xs ys : List DV}, DvAll K F vs xs → DvAll K F us ys → DvAll K F (vs ++ us) (xs ++ ys)
  | _, _, _, _, .nil, h => h
  | _, _, _, _, .cons a b, h => .cons a (DvAll.append b h)
theorem DvAll.take : ∀ {vs : List V} {xs : List DV} (n : Nat), DvAll K F vs xs → DvAll K F (vs.take n) (xs.take n)
  | _, _, 0, _ => .nil
  | _, _, _ + 1, .nil => .nil
  | _, _, n + 1, .cons a b => .cons a (DvAll.take n b)
theorem DvAll.drop : ∀ {vs : List V} {xs : List DV} (n : Nat), DvAll K F vs xs → DvAll K F (vs.drop n) (xs.drop n)
  | _, _, 0, h => h
  | _, _, _ + 1, .nil => .nil
  | _, _, n + 1, .cons a b => DvAll.drop n b
theorem DvAll.get : ∀ {vs : List V} {xs : List DV} {i : Nat} {x : DV}, DvAll K F vs xs → xs[i]? = some x → ∃ v, vs[i]? = some v ∧ DvR K F v x
  | _, _, i, _, .nil, h => by simp at h
  | _, _, 0, x, .cons a b, h => by
    simp at h
    subst h
    exact ⟨_, rfl, a⟩
  | _, _, i + 1, x, .cons a b, h => by
    obtain ⟨v, h1, h2⟩ := DvAll.get (i := i) b (by simpa using h)
    exact ⟨v, by simpa using h1, h2⟩
theorem DvAll.getL : ∀ {vs : List V} {xs : List DV} {i : Nat} {v : V}, DvAll K F vs xs → vs[i]? = some v → ∃ x, xs[i]? = some x ∧ DvR K F v x
  | _, _, i, _, .nil, h => by simp at h
  | _, _, 0, x, .cons a b, h => by
    simp at h
    subst h
    exact ⟨_, rfl, a⟩
  | _, _, i + 1, x, .cons a b, h => by
    obtain ⟨v, h1, h2⟩ := DvAll.getL (i := i) b (by simpa using h)
    exact ⟨v, by simpa using h1, h2⟩
theorem DvAll.set : ∀ {vs : List V} {xs : List DV} {v : V} {x : DV} (j : Nat), DvAll K F vs xs → DvR K F v x → DvAll K F (vs.set j v) (xs.set j x)
  | _, _, _, _, _, .nil, _ => .nil
  | _, _, _, _, 0, .cons a b, h => .cons h b
  | _, _, _, _, j + 1, .cons a b, h => .cons a (DvAll.set j b h)
theorem DvAll.reverse : ∀ {vs : List V} {xs : List DV}, DvAll K F vs xs → DvAll K F vs.reverse xs.reverse
  | _, _, .nil => .nil
  | _, _, .cons a b => by
    rw [List.reverse_cons, List.reverse_cons]
    exact (DvAll.reverse b).append (.cons a .nil)
theorem DvAll.of : ∀ {vs : List V} {ds : List PyData}, DgAll K F vs ds → DvAll K F vs (ds.map DV.d)
  | _, _, .nil => .nil
  | _, _, .cons a b => .cons a (DvAll.of b)
theorem DvAll.dg : ∀ {ds : List PyData} {vs : List V}, DvAll K F vs (ds.map DV.d) → DgAll K F vs ds
  | [], _, .nil => .nil
  | _ :: _, _, .cons a b => .cons a (DvAll.dg b)
/-- slots -/
def ER (K : PySem.W.Frag) (F : Hp) : L2.St → List (Option DV) → Prop
  | [], [] => True
  | ov :: σ, oe :: E => (match oe with | none => True | some dv => ∃ v, ov = some v ∧ DvR K F v dv) ∧ ER K F σ E
  | _, _ => False
theorem ER.get : ∀ {σ : L2.St} {E : List (Option DV)} {i : Nat} {x : DV}, ER K F σ E → E[i]? = some (some x) → ∃ v, σ[i]? = some (some v) ∧ DvR K F v x
  | [], [], i, _, _, h => by simp at h
  | [], _ :: _, _, _, h, _ => h.elim
  | _ :: _, [], _, _, h, _ => h.elim
  | ov :: σ, oe :: E, 0, x, h, e => by
    simp at e
    subst e
    obtain ⟨v, rfl, r⟩ := h.1
    exact ⟨v, rfl, r⟩
  | ov :: σ, oe :: E, i + 1, x, h, e => by
    obtain ⟨v, h1, h2⟩ := ER.get (i := i) h.2 (by simpa using e)
    exact ⟨v, by simpa using h1, h2⟩
theorem ER.set : ∀ {σ : L2.St} {E : List (Option DV)} {v : V} {x : DV} (i : Nat), ER K F σ E → DvR K F v x → ER K F (σ.set i (some v)) (E.set i (some x))
  | [], [], _, _, _, _, _ => trivial
  | [], _ :: _, _, _, _, h, _ => h.elim
  | _ :: _, [], _, _, _, h, _ => h.elim
  | ov :: σ, oe :: E, v, x, 0, h, r => ⟨⟨v, rfl, r⟩, h.2⟩
  | ov :: σ, oe :: E, v, x, i + 1, h, r => ⟨h.1, ER.set i h.2 r⟩
theorem ER.wipe1 : ∀ {σ : L2.St} {E : List (Option DV)} (i : Nat), ER K F σ E → ER K F (σ.set i none) (E.set i none)
  | [], [], _, _ => trivial
  | [], _ :: _, _, h => h.elim
  | _ :: _, [], _, h => h.elim
  | ov :: σ, oe :: E, 0, h => ⟨trivial, h.2⟩
  | ov :: σ, oe :: E, i + 1, h => ⟨h.1, ER.wipe1 i h.2⟩
def wipeE (E : List (Option DV)) : List Nat → List (Option DV)
  | [] => E
  | v :: vs => (wipeE E vs).set v none
theorem ER.wipe {σ : L2.St} {E : List (Option DV)} (h : ER K F σ E) : ∀ ws : List Nat, ER K F (wipe σ ws) (wipeE E ws)
  | [] => h
  | v :: vs => (ER.wipe h vs).wipe1 v
theorem ER.fr (f : Fr [] F F') : ∀ {σ : L2.St} {E : List (Option DV)}, ER K F σ E → ER K F' σ E
  | [], [], _ => trivial
  | [], _ :: _, h => h.elim
  | _ :: _, [], h => h.elim
  | ov :: σ, oe :: E, h => ⟨by
    cases oe with
    | none => trivial
    | some dv =>
      obtain ⟨v, e, r⟩ := h.1
      exact ⟨v, e, r.fr f⟩, ER.fr f h.2⟩
/-- slots of which less is known -/
def Le : List (Option DV) → List (Option DV) → Prop
  | [], [] => True
  | a :: r, b :: s => (b = none ∨ a = b) ∧ Le r s
  | _, _ => False
theorem Le.refl : ∀ {E : List (Option DV)}, Le E E
  | [] => trivial
  | _ :: _ => ⟨.inr rfl, Le.refl⟩
theorem Le.n {r s : List (Option DV)} {a : Option DV} (h : Le r s) : Le (a :: r) (none :: s) := ⟨.inl rfl, h⟩
theorem Le.s {r s : List (Option DV)} {a : Option DV} (h : Le r s) : Le (a :: r) (a :: s) := ⟨.inr rfl, h⟩
theorem Le.z : Le [] [] := trivial
theorem ER.le : ∀ {σ : L2.St} {E E' : List (Option DV)}, ER K F σ E → Le E E' → ER K F σ E'
  | [], [], [], _, _ => trivial
  | [], [], _ :: _, _, l => l.elim
  | [], _ :: _, _, h, _ => h.elim
  | _ :: _, [], _, h, _ => h.elim
  | ov :: σ, oe :: E, [], _, l => l.elim
  | ov :: σ, oe :: E, oe' :: E', h, l => ⟨by
    rcases l.1 with rfl | rfl
    · trivial
    · exact h.1, ER.le h.2 l.2⟩
theorem ER.start : ∀ {vs : List V} {xs : List DV} (n : Nat), DvAll K F vs xs → ER K F (vs.map some ++ List.replicate n none) (xs.map some ++ List.replicate n none)
  | _, _, 0, .nil => trivial
  | _, _, n + 1, .nil => ⟨trivial, ER.start (vs := []) (xs := []) n .nil⟩
  | _, _, n, .cons a b => ⟨⟨_, rfl, a⟩, ER.start n b⟩
def startE (N : List Str) (xs : List DV) : List (Option DV) := xs.map some ++ List.replicate (N.length - xs.length) none
end
/-! ### readings -/
abbrev EnvD := List (Option DV)
section
variable (C : Cz)
def DE (te : TE) (E : EnvD) (S : DS) (Q : DV → DS → Prop) : Prop := ∀ (Z : List Addr) (σ : L2.St) (H : Hp), SOk C Z H S → ER C.K (fz H Z S) σ E → ∀ QV : VK, (∀ v H' dv S', Stp C Z H S H' S' → DvR C.K (fz H' Z S') v dv → Q dv S' → QV v H') → te σ H QV
def DT (tt : TT) (E : EnvD) (S : DS) (Q : Bool → DS → Prop) : Prop := ∀ (Z : List Addr) (σ : L2.St) (H : Hp), SOk C Z H S → ER C.K (fz H Z S) σ E → ∀ QB : Bool → Hp → Prop, (∀ b H' S', Stp C Z H S H' S' → Q b S' → QB b H') → tt σ H QB
def DA (ta : TA) (E : EnvD) (S : DS) (Q : List DV → DS → Prop) : Prop := ∀ (Z : List Addr) (σ : L2.St) (H : Hp), SOk C Z H S → ER C.K (fz H Z S) σ E → ∀ QA : List V → Hp → Prop, (∀ vs H' xs S', Stp C Z H S H' S' → DvAll C.K (fz H' Z S') vs xs → Q xs S' → QA vs H') → ta σ H QA
def DPt (to : TO) (E : EnvD) (S : DS) (Q : Option Int → DS → Prop) : Prop := ∀ (Z : List Addr) (σ : L2.St) (H : Hp), SOk C Z H S → ER C.K (fz H Z S) σ E → ∀ QO : Option Int → Hp → Prop, (∀ i H' S', Stp C Z H S H' S' → Q i S' → QO i H') → to σ H QO
/-- what is made of values -/
def DR1 (r : V → Hp → VK → Prop) (x : DV) (S : DS) (Q : DV → DS → Prop) : Prop := ∀ (Z : List Addr) (H : Hp), SOk C Z H S → ∀ v, DvR C.K (fz H Z S) v x → ∀ QV : VK, (∀ v H' dv S', Stp C Z H S H' S' → DvR C.K (fz H' Z S') v dv → Q dv S' → QV v H') → r v H QV
def DR2 (r : R2) (x y : DV) (S : DS) (Q : DV → DS → Prop) : Prop := ∀ (Z : List Addr) (H : Hp), SOk C Z H S → ∀ v u, DvR C.K (fz H Z S) v x → DvR C.K (fz H Z S) u y → ∀ QV : VK, (∀ v H' dv S', Stp C Z H S H' S' → DvR C.K (fz H' Z S') v dv → Q dv S' → QV v H') → r v u H QV
def DRs (r : List V → Hp → VK → Prop) (xs : List DV) (S : DS) (Q : DV → DS → Prop) : Prop := ∀ (Z : List Addr) (H : Hp), SOk C Z H S → ∀ vs, DvAll C.K (fz H Z S) vs xs → ∀ QV : VK, (∀ v H' dv S', Stp C Z H S H' S' → DvR C.K (fz H' Z S') v dv → Q dv S' → QV v H') → r vs H QV
def DRm (r : V → List V → Hp → VK → Prop) (x : DV) (xs : List DV) (S : DS) (Q : DV → DS → Prop) : Prop := ∀ (Z : List Addr) (H : Hp), SOk C Z H S → ∀ v vs, DvR C.K (fz H Z S) v x → DvAll C.K (fz H Z S) vs xs → ∀ QV : VK, (∀ v H' dv S', Stp C Z H S H' S' → DvR C.K (fz H' Z S') v dv → Q dv S' → QV v H') → r v vs H QV
def DRsl (r : V → Option Int → Option Int → Hp → VK → Prop) (x : DV) (lo hi : Option Int) (S : DS) (Q : DV → DS → Prop) : Prop := ∀ (Z : List Addr) (H : Hp), SOk C Z H S → ∀ v, DvR C.K (fz H Z S) v x → ∀ QV : VK, (∀ v H' dv S', Stp C Z H S H' S' → DvR C.K (fz H' Z S') v dv → Q dv S' → QV v H') → r v lo hi H QV
def DTy (p : V → Hp → Prop) (x : DV) (S : DS) : Prop := ∀ (Z : List Addr) (H : Hp), SOk C Z H S → ∀ v, DvR C.K (fz H Z S) v x → p v H
/-- a target -/
def DG (tg : TG) (x : DV) (E : EnvD) (S : DS) (N : EnvD → DS → Prop) : Prop := ∀ (Z : List Addr) (σ : L2.St) (H : Hp), SOk C Z H S → ER C.K (fz H Z S) σ E → ∀ v, DvR C.K (fz H Z S) v x → ∀ QN : L2.St → Hp → Prop, (∀ σ' H' E' S', Stp C Z H S H' S' → ER C.K (fz H' Z S') σ' E' → N E' S' → QN σ' H') → tg v σ H QN
def DGs (tg : TGs) (xs : List DV) (E : EnvD) (S : DS) (N : EnvD → DS → Prop) : Prop := ∀ (Z : List Addr) (σ : L2.St) (H : Hp), SOk C Z H S → ER C.K (fz H Z S) σ E → ∀ vs, DvAll C.K (fz H Z S) vs xs → ∀ QN : L2.St → Hp → Prop, (∀ σ' H' E' S', Stp C Z H S H' S' → ER C.K (fz H' Z S') σ' E' → N E' S' → QN σ' H') → tg vs σ H QN
def DSet (t : TSet) (o i v : DV) (S : DS) (N : DS → Prop) : Prop := ∀ (Z : List Addr) (H : Hp), SOk C Z H S → ∀ vo vi vv, DvR C.K (fz H Z S) vo o → DvR C.K (fz H Z S) vi i → DvR C.K (fz H Z S) vv v → ∀ QN : Hp → Prop, (∀ H' S', Stp C Z H S H' S' → N S' → QN H') → t vo vi vv H QN
structure DEnds where
  nx : EnvD → DS → Prop
  rt : DV → DS → Prop
  bk : EnvD → DS → Prop
  ct : EnvD → DS → Prop
structure EOk (Z : List Addr) (H : Hp) (S : DS) (D : Ends) (M : DEnds) : Prop where
  nx : ∀ σ' H' E' S', Stp C Z H S H' S' → ER C.K (fz H' Z S') σ' E' → M.nx E' S' → D.nx σ' H'
  rt : ∀ v H' dv S', Stp C Z H S H' S' → DvR C.K (fz H' Z S') v dv → M.rt dv S' → D.rt v H'
  bk : ∀ σ' H' E' S', Stp C Z H S H' S' → ER C.K (fz H' Z S') σ' E' → M.bk E' S' → D.bk σ' H'
  ct : ∀ σ' H' E' S', Stp C Z H S H' S' → ER C.K (fz H' Z S') σ' E' → M.ct E' S' → D.ct σ' H'
def DSt (ts : TS) (E : EnvD) (S : DS) (M : DEnds) : Prop := ∀ (Z : List Addr) (σ : L2.St) (H : Hp), SOk C Z H S → ER C.K (fz H Z S) σ E → ∀ D : Ends, EOk C Z H S D M → ts D σ H
end
theorem EOk.step {C : Cz} {Z : List Addr} {H H1 : Hp} {S S1 : DS} {D : Ends} {M : DEnds} (e : EOk C Z H S D M) (s : Stp C Z H S H1 S1) : EOk C Z H1 S1 D M :=
  ⟨fun σ' H' E' S' t => e.nx σ' H' E' S' (s.trans t), fun v H' dv S' t => e.rt v H' dv S' (s.trans t), fun σ' H' E' S' t => e.bk σ' H' E' S' (s.trans t), fun σ' H' E' S' t => e.ct σ' H' E' S' (s.trans t)⟩
/-! ### steps -/
section
variable {C : Cz} {E : EnvD} {S : DS} {Q : DV → DS → Prop} {QB : Bool → DS → Prop} {QA : List DV → DS → Prop} {ta tb tc te : TE} {tt tu : TT} {tr : TA} {M : DEnds}
theorem d_var {i : Nat} {x : DV} (h : E[i]? = some (some x)) (q : Q x S) : DE C (tVar i) E S Q := fun Z σ H so er QV k => by
  obtain ⟨v, e, r⟩ := er.get h
  exact ⟨v, e, k v H x S (Stp.refl so) r q⟩
theorem d_ret1 {v : V} {x : DV} (r : ∀ F, DvR C.K F v x) (q : Q x S) : DE C (tC v) E S Q := fun Z σ H so er QV k => k v H x S (Stp.refl so) (r _) q
theorem d_cI {i : Int} (q : Q (.d (.int i)) S) : DE C (tC (.int i)) E S Q := d_ret1 (x := .d (.int i)) (fun _ => Dg.int i) q
theorem d_cS {x : Str} (q : Q (.d (.str x)) S) : DE C (tC (.str x)) E S Q := d_ret1 (x := .d (.str x)) (fun _ => Dg.str x) q
theorem d_cB {b : Bool} (q : Q (.d (.bool b)) S) : DE C (tC (.bl b)) E S Q := d_ret1 (x := .d (.bool b)) (fun _ => Dg.bl b) q
theorem d_cN (q : Q (.d .none) S) : DE C (tC .non) E S Q := d_ret1 (x := .d .none) (fun _ => Dg.non) q
theorem d_cT {n : String} (q : Q (.v (.ty n)) S) : DE C (tC (.ty n)) E S Q := d_ret1 (x := .v (.ty n)) (fun _ => rfl) q
theorem d_cR {a : Addr} (q : Q (.v (.ref a)) S) : DE C (tC (.ref a)) E S Q := d_ret1 (x := .v (.ref a)) (fun _ => rfl) q
theorem d_op {r : R2} (q : DE C ta E S fun x S1 => DE C tb E S1 fun y S2 => DR2 C r x y S2 Q) : DE C (tOp r ta tb) E S Q := fun Z σ H so er QV k =>
  q Z σ H so er _ fun v H1 x S1 s1 rv q1 => q1 Z σ H1 s1.so (er.fr s1.fz) _ fun u H2 y S2 s2 ru q2 => q2 Z H2 s2.so v u (rv.fr s2.fz) ru QV fun z H3 dz S3 s3 rz qz => k z H3 dz S3 ((s1.trans s2).trans s3) rz qz
theorem d_un {r : V → Hp → VK → Prop} (q : DE C ta E S fun x S1 => DR1 C r x S1 Q) : DE C (tUn r ta) E S Q := fun Z σ H so er QV k =>
  q Z σ H so er _ fun v H1 x S1 s1 rv q1 => q1 Z H1 s1.so v rv QV fun z H3 dz S3 s3 rz qz => k z H3 dz S3 (s1.trans s3) rz qz
theorem d_nil (q : QA [] S) : DA C tNil E S QA := fun Z σ H so er QV k => k [] H [] S (Stp.refl so) .nil q
theorem d_cons (q : DE C ta E S fun x S1 => DA C tr E S1 fun xs S2 => QA (x :: xs) S2) : DA C (tCons ta tr) E S QA := fun Z σ H so er QV k =>
  q Z σ H so er _ fun v H1 x S1 s1 rv q1 => q1 Z σ H1 s1.so (er.fr s1.fz) _ fun vs H2 xs S2 s2 rs q2 => k (v :: vs) H2 (x :: xs) S2 (s1.trans s2) (.cons (rv.fr s2.fz) rs) q2
theorem d_cb {r : List V → Hp → VK → Prop} (q : DA C tr E S fun xs S1 => DRs C r xs S1 Q) : DE C (tCB r tr) E S Q := fun Z σ H so er QV k =>
  q Z σ H so er _ fun vs H1 xs S1 s1 rs q1 => q1 Z H1 s1.so vs rs QV fun z H3 dz S3 s3 rz qz => k z H3 dz S3 (s1.trans s3) rz qz
theorem d_bm {T : String} {r : V → List V → Hp → VK → Prop} (q : DE C ta E S fun x S1 => DTy C (tyV C.K T) x S1 ∧ DA C tr E S1 fun xs S2 => DRm C r x xs S2 Q) : DE C (tBM C.K T r ta tr) E S Q := fun Z σ H so er QV k =>
  q Z σ H so er _ fun v H1 x S1 s1 rv q1 => ⟨q1.1 Z H1 s1.so v rv, q1.2 Z σ H1 s1.so (er.fr s1.fz) _ fun vs H2 xs S2 s2 rs q2 => q2 Z H2 s2.so v vs (rv.fr s2.fz) rs QV fun z H3 dz S3 s3 rz qz => k z H3 dz S3 ((s1.trans s2).trans s3) rz qz⟩
theorem d_bm0 {T : String} {r : V → List V → Hp → VK → Prop} (q : DE C ta E S fun x S1 => DTy C (tyV C.K T) x S1 ∧ DRm C r x [] S1 Q) : DE C (tBM0 C.K T r ta) E S Q := fun Z σ H so er QV k =>
  q Z σ H so er _ fun v H1 x S1 s1 rv q1 => ⟨q1.1 Z H1 s1.so v rv, q1.2 Z H1 s1.so v [] rv .nil QV fun z H3 dz S3 s3 rz qz => k z H3 dz S3 (s1.trans s3) rz qz⟩
theorem d_mG {ty : V → Hp → Prop} {r : V → List V → Hp → VK → Prop} (q : DE C ta E S fun x S1 => DTy C ty x S1 ∧ DA C tr E S1 fun xs S2 => DRm C r x xs S2 Q) : DE C (tMG ty r ta tr) E S Q := fun Z σ H so er QV k =>
  q Z σ H so er _ fun v H1 x S1 s1 rv q1 => ⟨q1.1 Z H1 s1.so v rv, q1.2 Z σ H1 s1.so (er.fr s1.fz) _ fun vs H2 xs S2 s2 rs q2 => q2 Z H2 s2.so v vs (rv.fr s2.fz) rs QV fun z H3 dz S3 s3 rz qz => k z H3 dz S3 ((s1.trans s2).trans s3) rz qz⟩
theorem bool_of {K : PySem.W.Frag} {F : Hp} {v : V} {b : Bool} (h : DvR K F v (.d (.bool b))) : v = .bl b := by cases h; rfl
theorem int_of {K : PySem.W.Frag} {F : Hp} {v : V} {b : Int} (h : DvR K F v (.d (.int b))) : v = .int b := by cases h; rfl
theorem str_of {K : PySem.W.Frag} {F : Hp} {v : V} {b : Str} (h : DvR K F v (.d (.str b))) : v = .str b := by cases h; rfl
theorem non_of {K : PySem.W.Frag} {F : Hp} {v : V} (h : DvR K F v (.d .none)) : v = .non := by cases h; rfl
/-- a truth is asked for -/
def BL (x : DV) (p : Bool → Prop) : Prop := ∃ b, x = .d (.bool b) ∧ p b
theorem d_bl {b : Bool} {p : Bool → Prop} (q : p b) : BL (.d (.bool b)) p := ⟨b, rfl, q⟩
theorem d_test (q : DE C ta E S fun x S1 => BL x fun b => QB b S1) : DT C (tTest ta) E S QB := fun Z σ H so er k1 k =>
  q Z σ H so er _ fun v H1 x S1 s1 rv q1 => by
    obtain ⟨b, rfl, q2⟩ := q1
    exact ⟨b, bool_of rv, k b H1 S1 s1 q2⟩
theorem d_B (q : DE C ta E S fun x S1 => BL x fun b => QB b S1) : DT C (tB ta) E S QB := fun Z σ H so er k1 k =>
  q Z σ H so er _ fun v H1 x S1 s1 rv q1 => by
    obtain ⟨b, rfl, q2⟩ := q1
    exact ⟨b, bool_of rv, k b H1 S1 s1 q2⟩
theorem d_and (q : DT C tt E S fun c S1 => if c = true then DT C tu E S1 QB else QB false S1) : DT C (tAnd tt tu) E S QB := fun Z σ H so er k1 k =>
  q Z σ H so er _ fun b H1 S1 s1 q1 => by
    cases b with
    | true => exact (q1 : DT C tu E S1 QB) Z σ H1 s1.so (er.fr s1.fz) _ fun c H2 S2 s2 q2 => k c H2 S2 (s1.trans s2) q2
    | false => exact k false H1 S1 s1 q1
theorem d_or (q : DT C tt E S fun c S1 => if c = true then QB true S1 else DT C tu E S1 QB) : DT C (tOr tt tu) E S QB := fun Z σ H so er k1 k =>
  q Z σ H so er _ fun b H1 S1 s1 q1 => by
    cases b with
    | false => exact (q1 : DT C tu E S1 QB) Z σ H1 s1.so (er.fr s1.fz) _ fun c H2 S2 s2 q2 => k c H2 S2 (s1.trans s2) q2
    | true => exact k true H1 S1 s1 q1
theorem d_not (q : DT C tt E S fun c S1 => QB (!c) S1) : DT C (tNot tt) E S QB := fun Z σ H so er k1 k =>
  q Z σ H so er _ fun b H1 S1 s1 q1 => k (!b) H1 S1 s1 q1
theorem d_yes (q : QB true S) : DT C tYes E S QB := fun Z σ H so er k1 k => k true H S (Stp.refl so) q
theorem d_andV (q : DE C ta E S fun x S1 => BL x fun c => if c = true then DE C tb E S1 Q else Q (.d (.bool false)) S1) : DE C (tAndV ta tb) E S Q := fun Z σ H so er QV k =>
  q Z σ H so er _ fun v H1 x S1 s1 rv q1 => by
    obtain ⟨b, rfl, q2⟩ := q1
    refine ⟨b, bool_of rv, ?_⟩
    cases b with
    | true => exact (q2 : DE C tb E S1 Q) Z σ H1 s1.so (er.fr s1.fz) _ fun c H2 x S2 s2 r2 q3 => k c H2 x S2 (s1.trans s2) r2 q3
    | false => exact k _ H1 (.d (.bool false)) S1 s1 (Dg.bl false) q2
theorem d_orV (q : DE C ta E S fun x S1 => BL x fun c => if c = true then Q (.d (.bool true)) S1 else DE C tb E S1 Q) : DE C (tOrV ta tb) E S Q := fun Z σ H so er QV k =>
  q Z σ H so er _ fun v H1 x S1 s1 rv q1 => by
    obtain ⟨b, rfl, q2⟩ := q1
    refine ⟨b, bool_of rv, ?_⟩
    cases b with
    | false => exact (q2 : DE C tb E S1 Q) Z σ H1 s1.so (er.fr s1.fz) _ fun c H2 x S2 s2 r2 q3 => k c H2 x S2 (s1.trans s2) r2 q3
    | true => exact k _ H1 (.d (.bool true)) S1 s1 (Dg.bl true) q2
theorem d_notV (q : DE C ta E S fun x S1 => BL x fun c => Q (.d (.bool (!c))) S1) : DE C (tNotV ta) E S Q := fun Z σ H so er QV k =>
  q Z σ H so er _ fun v H1 x S1 s1 rv q1 => by
    obtain ⟨b, rfl, q2⟩ := q1
    exact ⟨b, bool_of rv, k _ H1 (.d (.bool (!b))) S1 s1 (Dg.bl (!b)) q2⟩
theorem d_if (q : DT C tt E S fun c S1 => if c = true then DE C ta E S1 Q else DE C tb E S1 Q) : DE C (tIf tt ta tb) E S Q := fun Z σ H so er QV k =>
  q Z σ H so er _ fun b H1 S1 s1 q1 => by
    cases b with
    | true => exact (q1 : DE C ta E S1 Q) Z σ H1 s1.so (er.fr s1.fz) _ fun c H2 x S2 s2 r2 q3 => k c H2 x S2 (s1.trans s2) r2 q3
    | false => exact (q1 : DE C tb E S1 Q) Z σ H1 s1.so (er.fr s1.fz) _ fun c H2 x S2 s2 r2 q3 => k c H2 x S2 (s1.trans s2) r2 q3
def isN : DV → Bool
  | .d .none => true
  | .v .non => true
  | _ => false
theorem isN_of {K : PySem.W.Frag} {F : Hp} {v : V} {x : DV} (h : DvR K F v x) : decide (v = .non) = isN x := by
  cases x with
  | d x => cases h <;> rfl
  | v u =>
    have e : v = u := h
    subst e
    cases v <;> rfl
theorem d_isN (q : DE C ta E S fun x S1 => Q (.d (.bool (isN x))) S1) : DE C (tIsN ta) E S Q := fun Z σ H so er QV k =>
  q Z σ H so er _ fun v H1 x S1 s1 rv q1 => k _ H1 (.d (.bool (isN x))) S1 s1 (by rw [isN_of rv]; exact Dg.bl _) q1
theorem d_notN (q : DE C ta E S fun x S1 => Q (.d (.bool (!isN x))) S1) : DE C (tNotN ta) E S Q := fun Z σ H so er QV k =>
  q Z σ H so er _ fun v H1 x S1 s1 rv q1 => k _ H1 (.d (.bool (!isN x))) S1 s1 (by rw [isN_of rv]; exact Dg.bl _) q1
theorem d_chain {r r' : R2} (q : DE C ta E S fun x S1 => DE C tb E S1 fun y S2 => DR2 C r x y S2 fun z S3 => BL z fun c => if c = true then DE C tc E S3 (fun u S4 => DR2 C r' y u S4 Q) else Q (.d (.bool false)) S3) : DE C (tChain r r' ta tb tc) E S Q := fun Z σ H so er QV k =>
  q Z σ H so er _ fun v H1 x S1 s1 rv q1 => q1 Z σ H1 s1.so (er.fr s1.fz) _ fun u H2 y S2 s2 ru q2 => q2 Z H2 s2.so v u (rv.fr s2.fz) ru _ fun z H3 dz S3 s3 rz qz => by
    obtain ⟨b, rfl, q4⟩ := qz
    refine ⟨b, bool_of rz, ?_⟩
    have s13 := (s1.trans s2).trans s3
    cases b with
    | true => exact (q4 : DE C tc E S3 _) Z σ H3 s3.so (er.fr s13.fz) _ fun w H4 dw S4 s4 rw q5 => q5 Z H4 s4.so u w ((ru.fr s3.fz).fr s4.fz) rw QV fun a H5 da S5 s5 ra qa => k a H5 da S5 ((s13.trans s4).trans s5) ra qa
    | false => exact k _ H3 (.d (.bool false)) S3 s13 (Dg.bl false) q4
/-! statements -/
theorem d_seq {t u : TS} (q : DSt C t E S ⟨fun E1 S1 => DSt C u E1 S1 M, M.rt, M.bk, M.ct⟩) : DSt C (tSeq t u) E S M := fun Z σ H so er D e =>
  q Z σ H so er _ ⟨fun σ' H' E' S' s r n => n Z σ' H' s.so r D (e.step s), e.rt, e.bk, e.ct⟩
theorem d_cut {t u : TS} (W : EnvD → DS → Prop) (q : DSt C t E S ⟨W, M.rt, M.bk, M.ct⟩) (h : ∀ E1 S1, W E1 S1 → DSt C u E1 S1 M) : DSt C (C8.tCut t u) E S M := fun Z σ H so er D e =>
  ⟨fun σ' H' => ∃ E' S', Stp C Z H S H' S' ∧ ER C.K (fz H' Z S') σ' E' ∧ W E' S', q Z σ H so er _ ⟨fun σ' H' E' S' s r n => ⟨E', S', s, r, n⟩, e.rt, e.bk, e.ct⟩, fun σ' H' ⟨E', S', s, r, n⟩ => h E' S' n Z σ' H' s.so r D (e.step s)⟩
theorem d_asg {tg : TG} (q : DE C te E S fun x S1 => DG C tg x E S1 M.nx) : DSt C (tAsg te tg) E S M := fun Z σ H so er D e =>
  q Z σ H so er _ fun v H1 x S1 s1 rv q1 => q1 Z σ H1 s1.so (er.fr s1.fz) v rv _ fun σ' H' E' S' s r n => e.nx σ' H' E' S' (s1.trans s) r n
theorem d_ret (q : DE C te E S M.rt) : DSt C (tRet te) E S M := fun Z σ H so er D e => q Z σ H so er _ e.rt
theorem d_retN (q : M.rt (.d .none) S) : DSt C tRetN E S M := fun Z σ H so er D e => e.rt _ H (.d .none) S (Stp.refl so) Dg.non q
theorem d_drop (q : DE C te E S fun _ S1 => M.nx E S1) : DSt C (tDrop te) E S M := fun Z σ H so er D e =>
  q Z σ H so er _ fun v H1 x S1 s1 rv q1 => e.nx σ H1 E S1 s1 (er.fr s1.fz) q1
theorem d_next (q : M.nx E S) : DSt C tNext E S M := fun Z σ H so er D e => e.nx σ H E S (Stp.refl so) er q
theorem d_break (q : M.bk E S) : DSt C tBreak E S M := fun Z σ H so er D e => e.bk σ H E S (Stp.refl so) er q
theorem d_cont (q : M.ct E S) : DSt C tCont E S M := fun Z σ H so er D e => e.ct σ H E S (Stp.refl so) er q
theorem d_ifS {t u : TS} (q : DT C tt E S fun c S1 => if c = true then DSt C t E S1 M else DSt C u E S1 M) : DSt C (tIfS tt t u) E S M := fun Z σ H so er D e =>
  q Z σ H so er _ fun b H1 S1 s1 q1 => by
    cases b with
    | true => exact (q1 : DSt C t E S1 M) Z σ H1 s1.so (er.fr s1.fz) D (e.step s1)
    | false => exact (q1 : DSt C u E S1 M) Z σ H1 s1.so (er.fr s1.fz) D (e.step s1)
theorem d_name {i : Nat} {x : DV} {N : EnvD → DS → Prop} (q : N (E.set i (some x)) S) : DG C (gName i) x E S N := fun Z σ H so er v rv QN k => k _ H _ S (Stp.refl so) (er.set i rv) q
theorem d_gsub {to ti : TE} {t : TSet} {x : DV} {N : EnvD → DS → Prop} (q : DE C to E S fun o S1 => DE C ti E S1 fun i S2 => DSet C t o i x S2 fun S3 => N E S3) : DG C (gSub to ti t) x E S N := fun Z σ H so er v rv QN k =>
  q Z σ H so er _ fun vo H1 o S1 s1 ro q1 => q1 Z σ H1 s1.so (er.fr s1.fz) _ fun vi H2 i S2 s2 ri q2 => q2 Z H2 s2.so vo vi v (ro.fr s2.fz) ri (rv.fr (s1.trans s2).fz) _ fun H3 S3 s3 n => k σ H3 E S3 ((s1.trans s2).trans s3) (er.fr ((s1.trans s2).trans s3).fz) n
theorem d_gcons {t : TG} {u : TGs} {x : DV} {xs : List DV} {N : EnvD → DS → Prop} (q : DG C t x E S fun E1 S1 => DGs C u xs E1 S1 N) : DGs C (gCons t u) (x :: xs) E S N := fun Z σ H so er vs rv QN k => by
  cases rv with
  | cons a b => exact ⟨_, _, rfl, q Z σ H so er _ a _ fun σ' H' E' S' s r n => n Z σ' H' s.so r _ (b.fr s.fz) _ fun σ2 H2 E2 S2 s2 r2 n2 => k σ2 H2 E2 S2 (s.trans s2) r2 n2⟩
theorem d_gnil {N : EnvD → DS → Prop} (q : N E S) : DGs C gNil [] E S N := fun Z σ H so er vs rv QN k => by
  cases rv
  exact ⟨rfl, k σ H E S (Stp.refl so) er q⟩
theorem d_gtup {n : Nat} {t : TGs} {ds : List PyData} {N : EnvD → DS → Prop} (hl : ds.length = n) (q : DGs C t (ds.map DV.d) E S N) : DG C (gTup C.K n t) (.d (.tuple ds)) E S N := fun Z σ H so er v rv QN k => by
  obtain ⟨p, vs, rfl, s, a⟩ := Dg.tuple rv
  exact ⟨p, vs, rfl, fz_fr.seqT s (by simp), by rw [DgAll.length a]; exact hl, q Z σ H so er vs (DvAll.of a) QN k⟩
theorem d_part {QO : Option Int → DS → Prop} (q : DE C te E S fun x S1 => ∃ i, x = .d (.int i) ∧ QO (some i) S1) : DPt C (tPart te) E S QO := fun Z σ H so er k1 k =>
  q Z σ H so er _ fun v H1 x S1 s1 rv q1 => by
    obtain ⟨i, rfl, q2⟩ := q1
    exact ⟨i, int_of rv, k _ H1 S1 s1 q2⟩
theorem d_pI {P : Int → Prop} {i : Int} (q : P i) : ∃ k, DV.d (.int i) = .d (.int k) ∧ P k := ⟨i, rfl, q⟩
theorem d_nopart {QO : Option Int → DS → Prop} (q : QO none S) : DPt C tNoPart E S QO := fun Z σ H so er k1 k => k _ H S (Stp.refl so) q
theorem d_sl {r : V → Option Int → Option Int → Hp → VK → Prop} {tl th : TO} (q : DE C te E S fun x S1 => DPt C tl E S1 fun l S2 => DPt C th E S2 fun u S3 => DRsl C r x l u S3 Q) : DE C (tSl r te tl th) E S Q := fun Z σ H so er QV k =>
  q Z σ H so er _ fun v H1 x S1 s1 rv q1 => q1 Z σ H1 s1.so (er.fr s1.fz) _ fun l H2 S2 s2 q2 => q2 Z σ H2 s2.so (er.fr (s1.trans s2).fz) _ fun u H3 S3 s3 q3 =>
    q3 Z H3 s3.so v (rv.fr (s2.trans s3).fz) QV fun z H4 dz S4 s4 rz qz => k z H4 dz S4 (((s1.trans s2).trans s3).trans s4) rz qz
/-- weaker knowledge -/
theorem DSt.le {ts : TS} {E' : EnvD} (h : DSt C ts E' S M) (l : Le E E') : DSt C ts E S M := fun Z σ H so er D e => h Z σ H so (er.le l) D e
theorem DSt.imp {ts : TS} {M' : DEnds} (h : DSt C ts E S M) (n : ∀ E S, M.nx E S → M'.nx E S) (r : ∀ v S, M.rt v S → M'.rt v S) (b : ∀ E S, M.bk E S → M'.bk E S) (c : ∀ E S, M.ct E S → M'.ct E S) : DSt C ts E S M' := fun Z σ H so er D e =>
  h Z σ H so er D ⟨fun σ' H' E' S' s r z => e.nx σ' H' E' S' s r (n _ _ z), fun v H' dv S' s rv z => e.rt v H' dv S' s rv (r _ _ z), fun σ' H' E' S' s r z => e.bk σ' H' E' S' s r (b _ _ z), fun σ' H' E' S' s r z => e.ct σ' H' E' S' s r (c _ _ z)⟩
end
/-- own objects picked out -/
inductive Pick : DS → Addr → DO → DS → Prop
  | here {a : Addr} {o : DO} {S : DS} : Pick ((a, o) :: S) a o S
  | there {a : Addr} {o : DO} {x : Addr × DO} {S R : DS} : Pick S a o R → Pick (x :: S) a o (x :: R)
theorem Pick.perm : ∀ {S R : DS} {a : Addr} {o : DO}, Pick S a o R → S.Perm ((a, o) :: R)
  | _, _, _, _, .here => .refl _
  | _, _, _, _, .there h => (List.Perm.cons _ (Pick.perm h)).trans (.swap _ _ _)
inductive Sub : DS → DS → Prop
  | nil {S : DS} : Sub S []
  | cons {S R S' : DS} {a : Addr} {o : DO} : Pick S a o R → Sub R S' → Sub S ((a, o) :: S')
theorem Sub.perm : ∀ {S S' : DS}, Sub S S' → ∃ R, S.Perm (S' ++ R)
  | S, _, .nil => ⟨S, .refl _⟩
  | _, _, .cons p h => by
    obtain ⟨R, q⟩ := Sub.perm h
    exact ⟨R, p.perm.trans (List.Perm.cons _ q)⟩
theorem Sub.refl : ∀ {S : DS}, Sub S S
  | [] => .nil
  | _ :: _ => .cons .here Sub.refl
theorem Sub.stp {C : Cz} {Z : List Addr} {H : Hp} {S S' : DS} (h : Sub S S') (so : SOk C Z H S) : Stp C Z H S H S' := by
  obtain ⟨R, p⟩ := h.perm
  exact (Stp.sub (so.perm p)).permL p
theorem DSt.sub {C : Cz} {ts : TS} {E : EnvD} {S S' : DS} {M : DEnds} (h : DSt C ts E S' M) (l : Sub S S') : DSt C ts E S M := fun Z σ H so er D e =>
  h Z σ H (l.stp so).so (er.fr (l.stp so).fz) D (e.step (l.stp so))
/-! ### promises -/
abbrev DSp := List DV → DS → (DV → DS → Prop) → Prop
/-- a value and own objects of which less is known -/
structure Wk (dv : DV) (S : DS) (dv' : DV) (S' : DS) : Prop where
  run : ∀ {C : Cz} {Z : List Addr} {H : Hp} {v : V}, SOk C Z H S → DvR C.K (fz H Z S) v dv → Stp C Z H S H S' ∧ DvR C.K (fz H Z S') v dv'
theorem Wk.sub {dv : DV} {S S' : DS} (h : Sub S S') : Wk dv S dv S' := ⟨fun so r => ⟨h.stp so, r.fr (h.stp so).fz⟩⟩
def KW (Kt : DV → DS → Prop) : DV → DS → Prop := fun dv S => ∃ dv' S', Wk dv S dv' S' ∧ Kt dv' S'
theorem KW.sub {Kt : DV → DS → Prop} {dv : DV} {S S' : DS} (h : Sub S S') (k : Kt dv S') : KW Kt dv S := ⟨dv, S', .sub h, k⟩
theorem KW.pure {Kt : DV → DS → Prop} {dv : DV} {S : DS} (k : Kt dv []) : KW Kt dv S := KW.sub .nil k
theorem KW.one {Kt : DV → DS → Prop} {dv : DV} {S R : DS} {a : Addr} {o : DO} (p : Pick S a o R) (k : Kt dv [(a, o)]) : KW Kt dv S := KW.sub (.cons p .nil) k
theorem KW.two {Kt : DV → DS → Prop} {dv : DV} {S R R' : DS} {a b : Addr} {o o' : DO} (p : Pick S a o R) (p' : Pick R b o' R') (k : Kt dv [(a, o), (b, o')]) : KW Kt dv S := KW.sub (.cons p (.cons p' .nil)) k
def toSp (C : Cz) (sp : DSp) : Sp := fun vs H Q _ => ∃ (Z : List Addr) (xs : List DV) (S : DS) (Kt : DV → DS → Prop), SOk C Z H S ∧ DvAll C.K (fz H Z S) vs xs ∧ sp xs S Kt ∧ ∀ dv S', Kt dv S' → ∀ v H', Stp C Z H S H' S' → DvR C.K (fz H' Z S') v dv → Q v H'
abbrev Fd (C : Cz) (mg : Str → Option Value) (base : Heap) (k : Nat) (x : Str) (ps : List Str) (sp : DSp) : Prop := Fx C.P C.w C.K mg base k x ps (toSp C sp)
theorem Loc.okD {C : Cz} {mg : Str → Option Value} {base : Heap} {x : Str} {st : Stmt} {N ps : List Str} {k : Nat} {sp : DSp} (L : Loc C.K mg x ps st) (Sc : FnScope N ps (defScope st)) (len : ∀ xs S Kt, sp xs S Kt → xs.length = ps.length)
    (hbody : ∀ (f : Addr) (cdv : Value) (A : Around) (outer : List Env) (s : Shared) (H : Hp) (E : XK), Room k (A.deeper (envOfC x (defScope st) s.heap.objs.size f cdv)) →
      ∃ t, PSs (cxOf CX0 C.P C.w C.K mg base N x (defScope st) f cdv A outer s H E).nox (defBody st) t ∧ ∀ xs S Kt, sp xs S Kt → DSt C t (startE N xs) S ⟨fun _ S' => KW Kt (.d .none) S', KW Kt, fun _ _ => False, fun _ _ => False⟩) : Fd C mg base (k + 1) x ps sp := by
  refine L.ok Sc (fun vs H Q E h => ?_) (fun f cdv A outer s H vs Q E hr h => ?_)
  · obtain ⟨Z, xs, S, Kt, so, rv, hs, _⟩ := h
    rw [rv.length]
    exact len _ _ _ hs
  · obtain ⟨t, ht, q⟩ := hbody f cdv A outer s H E hr
    obtain ⟨Z, xs, S, Kt, so, rv, hs, kk⟩ := h
    refine ⟨t, ht, ?_⟩
    have fin : ∀ v H' dv S', Stp C Z H S H' S' → DvR C.K (fz H' Z S') v dv → KW Kt dv S' → Q v H' := fun v H' dv S' st r ⟨dv', S2, wk, k⟩ => by
      obtain ⟨s2, r2⟩ := wk.run st.so r
      exact kk _ _ k v H' (st.trans s2) r2
    refine q xs S _ hs Z _ H so ?_ _ ⟨fun σ' H' E' S' st r n => fin .non H' (.d .none) S' st Dg.non n, fin, fun _ _ _ _ _ _ z => z.elim, fun _ _ _ _ _ _ z => z.elim⟩
    show ER C.K (fz H Z S) (vs.map some ++ List.replicate (N.length - vs.length) none) (xs.map some ++ List.replicate (N.length - xs.length) none)
    rw [rv.length]
    exact ER.start _ rv
/-- the own objects that a call needs, the others -/
def DCall (sp : DSp) (xs : List DV) (S : DS) (Q : DV → DS → Prop) : Prop := ∃ S1 S2, S.Perm (S1 ++ S2) ∧ sp xs S1 fun dv S1' => ∃ S', (S1' ++ S2).Perm S' ∧ Q dv S'
theorem d_call {C : Cz} {E : EnvD} {S : DS} {Q : DV → DS → Prop} {sp : DSp} {tr : TA} {X : XK} (q : DA C tr E S fun xs S1 => DCall sp xs S1 Q) : DE C (tCall (toSp C sp) [] X tr) E S Q := fun Z σ H so er QV k =>
  q Z σ H so er _ fun vs H1 xs S1 s1 rs q1 => by
    obtain ⟨Sa, Sb, p, q2⟩ := q1
    have so1 := s1.so.perm p
    rw [List.append_nil]
    refine ⟨Z ++ dom Sb, xs, Sa, _, so1.part, ?_, q2, fun dv S1' ⟨S', p', hq⟩ v H' st r => ?_⟩
    · rw [fz_part]
      exact rs.fr (Stp.permR (Stp.refl s1.so) p).fz
    · have w := Stp.whole so1 st
      rw [fz_part] at r
      exact k v H' dv S' (s1.trans ((w.permL p).permR p')) (r.fr (Stp.permR (Stp.refl w.so) p').fz) hq
end U

/-! own lists, operators, built-ins by data -/
namespace U
open PySem PySem.Spec PyProof.Rows L2
theorem DvAll.cons_inv {K : PySem.W.Frag} {F : Hp} {vs : List V} {x : DV} {xs : List DV} (h : DvAll K F vs (x :: xs)) : ∃ v r, vs = v :: r ∧ DvR K F v x ∧ DvAll K F r xs := by
  cases h with
  | cons a b => exact ⟨_, _, rfl, a, b⟩
theorem DvAll.nil_inv {K : PySem.W.Frag} {F : Hp} {vs : List V} (h : DvAll K F vs []) : vs = [] := by cases h; rfl
theorem DvAll.one {K : PySem.W.Frag} {F : Hp} {vs : List V} {x : DV} (h : DvAll K F vs [x]) : ∃ v, vs = [v] ∧ DvR K F v x := by
  obtain ⟨v, r, rfl, a, b⟩ := h.cons_inv
  rw [b.nil_inv]
  exact ⟨v, rfl, a⟩
theorem DvAll.two {K : PySem.W.Frag} {F : Hp} {vs : List V} {x y : DV} (h : DvAll K F vs [x, y]) : ∃ v u, vs = [v, u] ∧ DvR K F v x ∧ DvR K F u y := by
  obtain ⟨v, r, rfl, a, b⟩ := h.cons_inv
  obtain ⟨u, rfl, c⟩ := b.one
  exact ⟨v, u, rfl, a, c⟩
/-! ### objects -/
def LST (xs : List DV) : DO where
  fp := []
  ok := fun C F H a => ∃ vs, H a = some (.lst vs) ∧ DvAll C.K F vs xs
  live := fun {C F H a} h b hb => by
    obtain ⟨vs, e, _⟩ := h
    rw [List.mem_singleton.mp hb]
    exact ⟨_, e⟩
  loc := fun {C F F' H H' a} f e h => by
    obtain ⟨vs, e1, d⟩ := h
    exact ⟨vs, by rw [e a (by simp)]; exact e1, d.fr f⟩
abbrev LD (ds : List PyData) : DO := LST (ds.map DV.d)
/-- a tuple with own objects in it -/
def TP (xs : List DV) : DO where
  fp := []
  ok := fun C F H a => ∃ vs, H a = some (.tup vs) ∧ DvAll C.K F vs xs
  live := fun {C F H a} h b hb => by
    obtain ⟨vs, e, _⟩ := h
    rw [List.mem_singleton.mp hb]
    exact ⟨_, e⟩
  loc := fun {C F F' H H' a} f e h => by
    obtain ⟨vs, e1, d⟩ := h
    exact ⟨vs, by rw [e a (by simp)]; exact e1, d.fr f⟩
section
variable {C : Cz} {Z : List Addr} {H : Hp} {S R : DS} {p a : Addr} {o : HO} {O O' : DO}
/-- something new, not one's own: data -/
theorem Stp.data (so : SOk C Z H S) (hp : H p = none) : Stp C Z H S (upd H p o) S := by
  have keep : ∀ a, a ∈ dom S → upd H p o a = H a := fun a ha => upd_ne (by rintro rfl; exact (so.new hp).2 ha)
  have f : Fr [] (U.fz H Z S) (U.fz (upd H p o) Z S) := fun b u e _ => by
    obtain ⟨h1, h2, h3⟩ := fz_at e
    exact fz_in (by rw [upd_ne (by rintro rfl; rw [hp] at h1; cases h1)]; exact h1) h2 h3
  exact ⟨⟨so.nd, so.z, fun a ha => by
    obtain ⟨u, e⟩ := so.zl a ha
    exact ⟨u, by rw [upd_ne (by rintro rfl; rw [hp] at e; cases e)]; exact e⟩, fun x hx => x.2.loc f (fun b hb => keep b (mem_dom.mpr ⟨x, hx, hb⟩)) (so.ok x hx)⟩, Fr.new hp, fun a ha => .inl ha⟩
/-- .. one's own -/
theorem Stp.new (so : SOk C Z H S) (hp : H p = none) (hf : O.fp = []) (ok : ∀ F', Fr [] (U.fz H Z S) F' → O.ok C F' (upd H p o) p) : Stp C Z H S (upd H p o) ((p, O) :: S) := by
  have st := Stp.data (o := o) so hp
  have ed : dom ((p, O) :: S) = p :: dom S := by rw [dom, hf]; rfl
  have f : Fr [] (U.fz H Z S) (U.fz (upd H p o) Z ((p, O) :: S)) := fun b u e _ => by
    obtain ⟨h1, h2, h3⟩ := fz_at e
    have n : b ≠ p := by rintro rfl; rw [hp] at h1; cases h1
    exact fz_in (by rw [upd_ne n]; exact h1) h2 (by rw [ed]; intro z; rcases List.mem_cons.mp z with z | z; exact n z; exact h3 z)
  refine ⟨⟨by rw [ed]; exact List.nodup_cons.mpr ⟨(so.new hp).2, so.nd⟩, fun a ha => ?_, st.so.zl, fun x hx => ?_⟩, Fr.new hp, fun a ha => ?_⟩
  · rw [ed] at ha
    rcases List.mem_cons.mp ha with rfl | h
    · exact (so.new hp).1
    · exact so.z a h
  · rcases List.mem_cons.mp hx with rfl | h
    · exact ok _ f
    · exact x.2.loc f (fun b hb => upd_ne (by rintro rfl; exact (so.new hp).2 (mem_dom.mpr ⟨x, h, hb⟩))) (so.ok x h)
  · rw [ed] at ha
    rcases List.mem_cons.mp ha with rfl | h
    · exact .inr hp
    · exact .inl h
theorem SOk.pick (so : SOk C Z H S) (p : Pick S a O R) : O.ok C (fz H Z S) H a := so.ok (a, O) (p.perm.mem_iff.mpr List.mem_cons_self)
/-- one's own changes -/
theorem Stp.mut (so : SOk C Z H S) (pk : Pick S a O R) (hf : O.fp = []) (hf' : O'.fp = []) (ok : O'.ok C (U.fz H Z S) (upd H a o) a) : Stp C Z H S (upd H a o) ((a, O') :: R) := by
  have pd := dom_perm pk.perm
  have e1 : dom ((a, O) :: R) = a :: dom R := by rw [dom, hf]; rfl
  have e2 : dom ((a, O') :: R) = a :: dom R := by rw [dom, hf']; rfl
  rw [e1] at pd
  have ef : U.fz (upd H a o) Z ((a, O') :: R) = U.fz H Z S := by
    funext b
    unfold U.fz ws
    by_cases h : b ∈ Z ++ dom S
    · rw [if_pos h, if_pos (by
        rw [e2]
        rcases List.mem_append.mp h with h | h
        · exact List.mem_append_left _ h
        · exact List.mem_append_right _ (pd.mem_iff.mp h))]
    · rw [if_neg h, if_neg (by
        rw [e2]
        intro z
        rcases List.mem_append.mp z with z | z
        · exact h (List.mem_append_left _ z)
        · exact h (List.mem_append_right _ (pd.mem_iff.mpr z)))]
      exact upd_ne (by rintro rfl; exact h (List.mem_append_right _ (pd.mem_iff.mpr List.mem_cons_self)))
  have nd := pd.nodup_iff.mp so.nd
  refine ⟨⟨by rw [e2]; exact nd, fun b hb => so.z b (pd.mem_iff.mpr (by rw [e2] at hb; exact hb)), fun b hb => ?_, fun x hx => ?_⟩, Fr.mut (pd.mem_iff.mpr List.mem_cons_self), fun b hb => .inl (pd.mem_iff.mpr (by rw [e2] at hb; exact hb))⟩
  · obtain ⟨u, e⟩ := so.zl b hb
    by_cases n : b = a
    · subst n; exact ⟨o, upd_same⟩
    · exact ⟨u, by rw [upd_ne n]; exact e⟩
  · rw [ef]
    rcases List.mem_cons.mp hx with rfl | h
    · exact ok
    · refine x.2.loc Fr.refl (fun b hb => upd_ne ?_) (so.ok x (pk.perm.mem_iff.mpr (List.mem_cons_of_mem _ h)))
      rintro rfl
      exact (List.nodup_cons.mp nd).1 (mem_dom.mpr ⟨x, h, hb⟩)
end
/-! ### displays -/
inductive AllD : List DV → List PyData → Prop
  | nil : AllD [] []
  | cons {x : PyData} {r : List DV} {ds : List PyData} : AllD r ds → AllD (.d x :: r) (x :: ds)
theorem AllD.eq : ∀ {xs : List DV} {ds : List PyData}, AllD xs ds → xs = ds.map DV.d
  | _, _, .nil => rfl
  | _, _, .cons h => by rw [List.map_cons, ← AllD.eq h]
section
variable {C : Cz} {E : EnvD} {S R R' : DS} {Q : DV → DS → Prop} {tr : TA} {a b : Addr}
def NEWT (xs : List DV) (S : DS) (Q : DV → DS → Prop) : Prop := xs.length ≤ 1000 ∧ ((∃ ds, xs = ds.map DV.d ∧ Q (.d (.tuple ds)) S) ∨ ∀ p, Q (.v (.ref p)) ((p, TP xs) :: S))
def NEWL (xs : List DV) (S : DS) (Q : DV → DS → Prop) : Prop := xs.length ≤ 1000 ∧ ((∃ ds, xs = ds.map DV.d ∧ Q (.d (.list ds)) S) ∨ ∃ ys, xs = ys ∧ ∀ p, Q (.v (.ref p)) ((p, LST ys) :: S))
theorem newT_D {xs : List DV} {ds : List PyData} (h : AllD xs ds) (q : Q (.d (.tuple ds)) S) (n : ds.length ≤ 1000 := by exact Nat.le_of_ble_eq_true rfl) : NEWT xs S Q := ⟨by rw [h.eq, List.length_map]; exact n, .inl ⟨ds, h.eq, q⟩⟩
theorem newT_any {xs : List DV} (q : ∀ p, Q (.v (.ref p)) ((p, TP xs) :: S)) (n : xs.length ≤ 1000 := by exact Nat.le_of_ble_eq_true rfl) : NEWT xs S Q := ⟨n, .inr q⟩
theorem newL_D {xs : List DV} {ds : List PyData} (h : AllD xs ds) (q : ∀ p, Q (.v (.ref p)) ((p, LD ds) :: S)) (n : ds.length ≤ 1000 := by exact Nat.le_of_ble_eq_true rfl) : NEWL xs S Q := ⟨by rw [h.eq, List.length_map]; exact n, .inr ⟨_, h.eq, q⟩⟩
/-- a list that nobody changes -/
theorem newL_F {xs : List DV} {ds : List PyData} (h : AllD xs ds) (q : Q (.d (.list ds)) S) (n : ds.length ≤ 1000 := by exact Nat.le_of_ble_eq_true rfl) : NEWL xs S Q := ⟨by rw [h.eq, List.length_map]; exact n, .inl ⟨ds, h.eq, q⟩⟩
theorem newL_any {xs : List DV} (q : ∀ p, Q (.v (.ref p)) ((p, LST xs) :: S)) (n : xs.length ≤ 1000 := by exact Nat.le_of_ble_eq_true rfl) : NEWL xs S Q := ⟨n, .inr ⟨_, rfl, q⟩⟩
theorem d_tup (q : DA C tr E S fun xs S1 => NEWT xs S1 Q) : DE C (tTup tr) E S Q := fun Z σ H so er QV k =>
  q Z σ H so er _ fun vs H1 xs S1 s1 rs q1 => by
    obtain ⟨n, q2⟩ := q1
    refine ⟨Nat.le_trans (show _ ≤ 1000 by rw [rs.length]; exact n) (by decide), fun p hp => ?_⟩
    rcases q2 with ⟨ds, rfl, q3⟩ | q3
    · have st := Stp.data (o := .tup vs) s1.so hp
      refine k _ _ _ S1 (s1.trans st) ?_ q3
      refine Dg.tup (.inl (.inl ?_)) (DgAll.fr st.fz (rs.dg))
      exact fz_in upd_same (s1.so.new hp).1 (s1.so.new hp).2
    · have st := Stp.new (O := TP xs) (o := .tup vs) s1.so hp rfl fun F' f => ⟨vs, upd_same, rs.fr f⟩
      exact k _ _ (.v (.ref p)) _ (s1.trans st) rfl (q3 p)
theorem d_lst (q : DA C tr E S fun xs S1 => NEWL xs S1 Q) : DE C (tLst tr) E S Q := fun Z σ H so er QV k =>
  q Z σ H so er _ fun vs H1 xs S1 s1 rs q1 => by
    obtain ⟨n, q2⟩ := q1
    refine ⟨Nat.le_trans (show _ ≤ 1000 by rw [rs.length]; exact n) (by decide), fun p hp => ?_⟩
    rcases q2 with ⟨ds, rfl, q3⟩ | ⟨ys, rfl, q3⟩
    · have st := Stp.data (o := .lst vs) s1.so hp
      refine k _ _ (.d (.list ds)) S1 (s1.trans st) ?_ q3
      refine Dg.lst (.inl (.inl ?_)) (DgAll.fr st.fz (rs.dg))
      exact fz_in upd_same (s1.so.new hp).1 (s1.so.new hp).2
    have st := Stp.new (O := LST xs) (o := .lst vs) s1.so hp rfl fun F' f => ⟨vs, upd_same, rs.fr f⟩
    exact k _ _ (.v (.ref p)) _ (s1.trans st) rfl (q3 p)
/-! ### a result that changes nothing -/
theorem k0 {Z : List Addr} {H : Hp} {QV : VK} (so : SOk C Z H S) (k : ∀ v H' dv S', Stp C Z H S H' S' → DvR C.K (fz H' Z S') v dv → Q dv S' → QV v H') {v : V} {x : DV} (r : DvR C.K (fz H Z S) v x) (q : Q x S) : QV v H := k v H x S (Stp.refl so) r q
theorem kI {Z : List Addr} {H : Hp} {QV : VK} (so : SOk C Z H S) (k : ∀ v H' dv S', Stp C Z H S H' S' → DvR C.K (fz H' Z S') v dv → Q dv S' → QV v H') {i : Int} (q : Q (.d (.int i)) S) : QV (.int i) H := k0 (x := .d (.int i)) so k (Dg.int i) q
theorem kB {Z : List Addr} {H : Hp} {QV : VK} (so : SOk C Z H S) (k : ∀ v H' dv S', Stp C Z H S H' S' → DvR C.K (fz H' Z S') v dv → Q dv S' → QV v H') {b : Bool} (q : Q (.d (.bool b)) S) : QV (.bl b) H := k0 (x := .d (.bool b)) so k (Dg.bl b) q
theorem kS {Z : List Addr} {H : Hp} {QV : VK} (so : SOk C Z H S) (k : ∀ v H' dv S', Stp C Z H S H' S' → DvR C.K (fz H' Z S') v dv → Q dv S' → QV v H') {b : Str} (q : Q (.d (.str b)) S) : QV (.str b) H := k0 (x := .d (.str b)) so k (Dg.str b) q
theorem kN {Z : List Addr} {H : Hp} {QV : VK} (so : SOk C Z H S) (k : ∀ v H' dv S', Stp C Z H S H' S' → DvR C.K (fz H' Z S') v dv → Q dv S' → QV v H') (q : Q (.d .none) S) : QV .non H := k0 (x := .d .none) so k Dg.non q
/-- new data -/
theorem kT {Z : List Addr} {H : Hp} {QV : VK} (so : SOk C Z H S) (k : ∀ v H' dv S', Stp C Z H S H' S' → DvR C.K (fz H' Z S') v dv → Q dv S' → QV v H') {p : Addr} {vs : List V} {ds : List PyData} (hp : H p = none) (r : DgAll C.K (fz H Z S) vs ds) (q : Q (.d (.tuple ds)) S) : QV (.ref p) (upd H p (.tup vs)) := by
  have st := Stp.data (o := .tup vs) so hp
  exact k _ _ (.d (.tuple ds)) S st (Dg.tup (.inl (.inl (fz_in upd_same (so.new hp).1 (so.new hp).2))) (DgAll.fr st.fz r)) q
theorem kL {Z : List Addr} {H : Hp} {QV : VK} (so : SOk C Z H S) (k : ∀ v H' dv S', Stp C Z H S H' S' → DvR C.K (fz H' Z S') v dv → Q dv S' → QV v H') {p : Addr} {vs : List V} {xs : List DV} (hp : H p = none) (r : DvAll C.K (fz H Z S) vs xs) (q : ∀ p, Q (.v (.ref p)) ((p, LST xs) :: S)) : QV (.ref p) (upd H p (.lst vs)) := by
  have st := Stp.new (O := LST xs) (o := .lst vs) so hp rfl fun F' f => ⟨vs, upd_same, r.fr f⟩
  exact k _ _ (.v (.ref p)) _ st rfl (q p)
theorem kM {Z : List Addr} {H : Hp} {QV : VK} (so : SOk C Z H S) (k : ∀ v H' dv S', Stp C Z H S H' S' → DvR C.K (fz H' Z S') v dv → Q dv S' → QV v H') {xs ys : List DV} {vs : List V} (pk : Pick S a (LST xs) R) {v : V} {x : DV} (r : DvAll C.K (fz H Z S) vs ys) (rv : DvR C.K (fz H Z S) v x) (q : Q x ((a, LST ys) :: R)) : QV v (upd H a (.lst vs)) := by
  have st := Stp.mut (O' := LST ys) (o := .lst vs) so pk rfl rfl ⟨vs, upd_same, r⟩
  exact k v _ x _ st (rv.fr st.fz) q
/-! ### operators -/
theorem d_rI0 {g : Int → Int → V} {i j : Int} {x : DV} (h : ∀ F, DvR C.K F (g i j) x) (q : Q x S) : DR2 C (rI0 g) (.d (.int i)) (.d (.int j)) S Q := fun Z H so v u rv ru QV k => by
  cases int_of rv; cases int_of ru
  exact ⟨i, j, rfl, rfl, k0 so k (h _) q⟩
theorem d_rI {c : Int → Int → Prop} {g : Int → Int → V} {i j : Int} {x : DV} (hc : c i j) (h : ∀ F, DvR C.K F (g i j) x) (q : Q x S) : DR2 C (rI c g) (.d (.int i)) (.d (.int j)) S Q := fun Z H so v u rv ru QV k => by
  cases int_of rv; cases int_of ru
  exact ⟨i, j, rfl, rfl, hc, k0 so k (h _) q⟩
theorem d_rU {g : Int → V} {i : Int} {x : DV} (h : ∀ F, DvR C.K F (g i) x) (q : Q x S) : DR1 C (rU g) (.d (.int i)) S Q := fun Z H so v rv QV k => by
  cases int_of rv
  exact ⟨i, rfl, k0 so k (h _) q⟩
theorem dvI {K : PySem.W.Frag} {i : Int} (F : Hp) : DvR K F (.int i) (.d (.int i)) := Dg.int i
theorem dvB {K : PySem.W.Frag} {i : Bool} (F : Hp) : DvR K F (.bl i) (.d (.bool i)) := Dg.bl i
theorem d_sub {i j : Int} (q : Q (.d (.int (i - j))) S) : DR2 C (rI0 fun i j => .int (i - j)) (.d (.int i)) (.d (.int j)) S Q := d_rI0 dvI q
theorem d_cmp {f : Int → Int → Bool} {i j : Int} (q : Q (.d (.bool (f i j))) S) : DR2 C (rI0 fun i j => .bl (f i j)) (.d (.int i)) (.d (.int j)) S Q := d_rI0 (x := .d (.bool (f i j))) dvB q
theorem d_addI {i j : Int} (q : Q (.d (.int (i + j))) S) : DR2 C (rAddU C.K) (.d (.int i)) (.d (.int j)) S Q := fun Z H so v u rv ru QV k => by
  cases int_of rv; cases int_of ru
  exact w_addI (kI so k q)
theorem d_addS {x y : Str} (h : x.length + y.length ≤ sizeLine) (q : Q (.d (.str (x ++ y))) S) : DR2 C (rAddU C.K) (.d (.str x)) (.d (.str y)) S Q := fun Z H so v u rv ru QV k => by
  cases str_of rv; cases str_of ru
  exact w_addS h (kS so k q)
theorem d_addT {ds es : List PyData} (n : ds.length + es.length ≤ 100000) (q : Q (.d (.tuple (ds ++ es))) S) : DR2 C (rAddU C.K) (.d (.tuple ds)) (.d (.tuple es)) S Q := fun Z H so v u rv ru QV k => by
  obtain ⟨p, vs, rfl, s, a⟩ := Dg.tuple rv
  obtain ⟨p', us, rfl, s', a'⟩ := Dg.tuple ru
  refine .inr (.inl ⟨p, p', vs, us, rfl, rfl, fz_fr.seqT s (by simp), fz_fr.seqT s' (by simp), Nat.le_trans (show _ ≤ 100000 by rw [DgAll.length a, DgAll.length a']; exact n) (by decide), fun z => ?_, fun _ z => ?_, fun _ _ r hr => kT so k hr (DgAll.append a a') q⟩)
  · subst z
    cases a
    exact k0 so k ru q
  · subst z
    cases a'
    rw [List.append_nil] at q
    exact k0 so k rv q
theorem SOk.lst {Z : List Addr} {H : Hp} {xs : List DV} (so : SOk C Z H S) (pk : Pick S a (LST xs) R) : ∃ vs, H a = some (.lst vs) ∧ DvAll C.K (fz H Z S) vs xs := so.pick pk
theorem d_addL {xs ys : List DV} (pa : Pick S a (LST xs) R) (pb : Pick S b (LST ys) R') (n : xs.length + ys.length ≤ 100000) (q : ∀ p, Q (.v (.ref p)) ((p, LST (xs ++ ys)) :: S)) : DR2 C (rAddU C.K) (.v (.ref a)) (.v (.ref b)) S Q := fun Z H so v u rv ru QV k => by
  cases rv; cases ru
  obtain ⟨vs, e, r⟩ := so.lst pa
  obtain ⟨us, e', r'⟩ := so.lst pb
  exact w_addL e e' (by rw [r.length, r'.length]; omega) fun p hp => kL so k hp (r.append r') q
theorem d_addLD {ds es : List PyData} (pa : Pick S a (LD ds) R) (pb : Pick S b (LD es) R') (n : ds.length + es.length ≤ 100000) (q : ∀ p, Q (.v (.ref p)) ((p, LD (ds ++ es)) :: S)) : DR2 C (rAddU C.K) (.v (.ref a)) (.v (.ref b)) S Q :=
  d_addL pa pb (by rw [List.length_map, List.length_map]; exact n) fun p => by
    have := q p
    rw [LD, List.map_append] at this
    exact this
theorem d_mulI {i j : Int} (c : (-(2 ^ 64) < i ∧ i < 2 ^ 64) ∨ (-(2 ^ 64) < j ∧ j < 2 ^ 64)) (q : Q (.d (.int (i * j))) S) : DR2 C rMulU (.d (.int i)) (.d (.int j)) S Q := fun Z H so v u rv ru QV k => by
  cases int_of rv; cases int_of ru
  exact w_mulI c (kI so k q)
theorem d_pow9 (q : Q (.d (.int 1000000000)) S) : DR2 C (rI CPow (fun i j => .int (i ^ j.toNat))) (.d (.int 10)) (.d (.int 9)) S Q := d_rI (x := .d (.int 1000000000)) ⟨by decide, by decide, by decide⟩ dvI q
theorem d_pow18 (q : Q (.d (.int 1000000000000000000)) S) : DR2 C (rI CPow (fun i j => .int (i ^ j.toNat))) (.d (.int 10)) (.d (.int 18)) S Q := d_rI (x := .d (.int 1000000000000000000)) ⟨by decide, by decide, by decide⟩ dvI q
theorem d_pow6 (q : Q (.d (.int 1000000)) S) : DR2 C (rI CPow (fun i j => .int (i ^ j.toNat))) (.d (.int 10)) (.d (.int 6)) S Q := d_rI (x := .d (.int 1000000)) ⟨by decide, by decide, by decide⟩ dvI q
theorem d_pow8 (q : Q (.d (.int 100000000)) S) : DR2 C (rI CPow (fun i j => .int (i ^ j.toNat))) (.d (.int 10)) (.d (.int 8)) S Q := d_rI (x := .d (.int 100000000)) ⟨by decide, by decide, by decide⟩ dvI q
theorem d_pow12 (q : Q (.d (.int 1000000000000)) S) : DR2 C (rI CPow (fun i j => .int (i ^ j.toNat))) (.d (.int 10)) (.d (.int 12)) S Q := d_rI (x := .d (.int 1000000000000)) ⟨by decide, by decide, by decide⟩ dvI q
theorem d_pow60 (q : Q (.d (.int (10 ^ 60))) S) : DR2 C (rI CPow (fun i j => .int (i ^ j.toNat))) (.d (.int 10)) (.d (.int 60)) S Q := d_rI (x := .d (.int (10 ^ 60))) ⟨by decide, by decide, by decide⟩ dvI q
theorem d_pow59 (q : Q (.d (.int 100000000000000000000000000000000000000000000000000000000000)) S) : DR2 C (rI CPow (fun i j => .int (i ^ j.toNat))) (.d (.int 10)) (.d (.int 59)) S Q := d_rI (x := .d (.int 100000000000000000000000000000000000000000000000000000000000)) ⟨by decide, by decide, by decide⟩ dvI q
/-! == -/
theorem d_eqI {i j : Int} (q : Q (.d (.bool (decide (i = j)))) S) : DR2 C (rEqU C.K) (.d (.int i)) (.d (.int j)) S Q := fun Z H so v u rv ru QV k => by
  cases int_of rv; cases int_of ru
  exact w_eqI (kB so k q)
theorem d_eqS {i j : Str} (q : Q (.d (.bool (decide (i = j)))) S) : DR2 C (rEqU C.K) (.d (.str i)) (.d (.str j)) S Q := fun Z H so v u rv ru QV k => by
  cases str_of rv; cases str_of ru
  exact w_eqS (kB so k q)
theorem d_eqB {i j : Bool} (q : Q (.d (.bool (decide (i = j)))) S) : DR2 C (rEqU C.K) (.d (.bool i)) (.d (.bool j)) S Q := fun Z H so v u rv ru QV k => by
  cases bool_of rv; cases bool_of ru
  exact w_eqB (kB so k q)
theorem d_neI {i j : Int} (q : Q (.d (.bool (!decide (i = j)))) S) : DR2 C (rNeU C.K) (.d (.int i)) (.d (.int j)) S Q := fun Z H so v u rv ru QV k => by
  cases int_of rv; cases int_of ru
  exact w_neI (kB so k q)
theorem d_neS {i j : Str} (q : Q (.d (.bool (!decide (i = j)))) S) : DR2 C (rNeU C.K) (.d (.str i)) (.d (.str j)) S Q := fun Z H so v u rv ru QV k => by
  cases str_of rv; cases str_of ru
  exact w_neS (kB so k q)
theorem d_neB {i j : Bool} (q : Q (.d (.bool (!decide (i = j)))) S) : DR2 C (rNeU C.K) (.d (.bool i)) (.d (.bool j)) S Q := fun Z H so v u rv ru QV k => by
  cases bool_of rv; cases bool_of ru
  exact w_neB (kB so k q)
/-- data that can be laid out, so deep at most -/
def Lay (n : Nat) (d : PyData) : Prop := d.canLay0 = true ∧ d.depth ≤ n
theorem Lay.mono {n m : Nat} {d : PyData} (h : Lay n d) (l : n ≤ m) : Lay m d := ⟨h.1, Nat.le_trans h.2 l⟩
theorem lay_tup {n : Nat} {ds : List PyData} (h : ∀ d ∈ ds, Lay n d) : Lay (n + 1) (.tuple ds) := by
  have k := lay_list h
  refine ⟨by simp only [PyData.canLay0]; exact k.1, ?_⟩
  simp only [PyData.depth]
  omega
theorem lay_lst {n : Nat} {ds : List PyData} (h : ∀ d ∈ ds, Lay n d) : Lay (n + 1) (.list ds) := by
  have k := lay_list h
  refine ⟨by simp only [PyData.canLay0]; exact k.1, ?_⟩
  simp only [PyData.depth]
  omega
theorem lay_int (n : Nat) (i : Int) : Lay n (.int i) := ⟨rfl, Nat.zero_le _⟩
theorem lay_str (n : Nat) {x : Str} (h : PyData.strOk x = true) : Lay n (.str x) := ⟨h, Nat.zero_le _⟩
theorem lay_none (n : Nat) : Lay n .none := ⟨rfl, Nat.zero_le _⟩
theorem lay_bool (n : Nat) (b : Bool) : Lay n (.bool b) := ⟨rfl, Nat.zero_le _⟩
theorem Lay.sh {n : Nat} {d : PyData} (h : Lay n d) (hn : n ≤ 64 := by decide) : SeqAt.shaped d = true := lay_shaped ⟨h.1, Nat.le_trans h.2 hn⟩
theorem dp_of {Z : List Addr} {H : Hp} {v : V} {d : PyData} (h : DvR C.K (fz H Z S) v (.d d)) (l : d.canLay0 = true) : Dp C.K H v d := Dg.dp (Dg.fr fz_fr h) l
theorem d_eqD {x y : PyData} (n : Nat) (hx : Lay n x) (hy : Lay n y) (q : Q (.d (.bool (PyData.eqv x y))) S) (hn : n ≤ 64 := by decide) : DR2 C (rEqU C.K) (.d x) (.d y) S Q := fun Z H so v u rv ru QV k =>
  w_eqD (dp_of rv hx.1) (dp_of ru hy.1) (hx.sh hn) (hy.sh hn) (kB so k q)
theorem d_neD {x y : PyData} (n : Nat) (hx : Lay n x) (hy : Lay n y) (q : Q (.d (.bool (!PyData.eqv x y))) S) (hn : n ≤ 64 := by decide) : DR2 C (rNeU C.K) (.d x) (.d y) S Q := fun Z H so v u rv ru QV k =>
  w_neD (dp_of rv hx.1) (dp_of ru hy.1) (hx.sh hn) (hy.sh hn) (kB so k q)
theorem SOk.dpL {Z : List Addr} {H : Hp} {ds : List PyData} (so : SOk C Z H S) (pk : Pick S a (LD ds) R) (l : (PyData.list ds).canLay0 = true) : Dp C.K H (.ref a) (.list ds) := by
  obtain ⟨vs, e, r⟩ := so.lst pk
  have l' : PyData.canLayAll0 ds = true := by simpa only [PyData.canLay0] using l
  exact .lst (SqL.of e) (DgAll.dp (DgAll.fr fz_fr r.dg) l')
/-- lists one owns -/
theorem d_eqL {ds es : List PyData} (pa : Pick S a (LD ds) R) (pb : Pick S b (LD es) R') (n : Nat) (hx : Lay n (.list ds)) (hy : Lay n (.list es)) (q : Q (.d (.bool (PyData.eqv (.list ds) (.list es)))) S) (hn : n ≤ 64 := by decide) : DR2 C (rEqU C.K) (.v (.ref a)) (.v (.ref b)) S Q := fun Z H so v u rv ru QV k => by
  cases rv; cases ru
  exact w_eqD (so.dpL pa hx.1) (so.dpL pb hy.1) (hx.sh hn) (hy.sh hn) (kB so k q)
theorem d_neL {ds es : List PyData} (pa : Pick S a (LD ds) R) (pb : Pick S b (LD es) R') (n : Nat) (hx : Lay n (.list ds)) (hy : Lay n (.list es)) (q : Q (.d (.bool (!PyData.eqv (.list ds) (.list es)))) S) (hn : n ≤ 64 := by decide) : DR2 C (rNeU C.K) (.v (.ref a)) (.v (.ref b)) S Q := fun Z H so v u rv ru QV k => by
  cases rv; cases ru
  exact w_neD (so.dpL pa hx.1) (so.dpL pb hy.1) (hx.sh hn) (hy.sh hn) (kB so k q)
theorem eqv_nil {ds : List PyData} : PyData.eqv (.list ds) (.list []) = ds.isEmpty := by cases ds <;> rfl
theorem eqv_nilT {ds : List PyData} : PyData.eqv (.tuple ds) (.tuple []) = ds.isEmpty := by cases ds <;> rfl
/-! in -/
end
end U

/-! places, slices, methods, loops, comprehensions, calls by data -/
namespace U
open PySem PySem.Spec PyProof.Rows L2
/-- flat data as a value -/
def vd : PyData → V
  | .none => .non
  | .bool b => .bl b
  | .int i => .int i
  | .str x => .str x
  | _ => .non
def flD : PyData → Bool
  | .none => true
  | .bool _ => true
  | .int _ => true
  | .str _ => true
  | _ => false
theorem flat_of {K : PySem.W.Frag} {F : Hp} {v : V} {d : PyData} (h : Dg K F v d) (f : flD d = true) : v = vd d ∧ flatV v = true := by
  cases h <;> first | exact ⟨rfl, rfl⟩ | cases f
theorem flats_of {K : PySem.W.Frag} {F : Hp} : ∀ {ds : List PyData} {vs : List V}, DgAll K F vs ds → ds.all flD = true → vs = ds.map vd ∧ vs.all flatV = true
  | [], _, .nil, _ => ⟨rfl, rfl⟩
  | d :: ds, _, .cons a b, f => by
    have f' := Bool.and_eq_true_iff.mp f
    obtain ⟨h1, h2⟩ := flat_of a f'.1
    obtain ⟨h3, h4⟩ := flats_of b f'.2
    rw [h3] at h4
    rw [h1] at h2
    subst h1 h3
    exact ⟨rfl, by rw [List.all_cons, h2, h4]; rfl⟩
theorem eqV_vd {x y : PyData} (hx : flD x = true) (hy : flD y = true) : eqV (vd x) (vd y) = PyData.eqv x y := by
  cases x with
  | none => cases y with
    | none => rfl
    | bool _ => rfl
    | int _ => rfl
    | str _ => rfl
    | _ => cases hy
  | bool _ => cases y with
    | none => rfl
    | bool _ => rfl
    | int _ => rfl
    | str _ => rfl
    | _ => cases hy
  | int _ => cases y with
    | none => rfl
    | bool _ => rfl
    | int _ => rfl
    | str _ => rfl
    | _ => cases hy
  | str _ => cases y with
    | none => rfl
    | bool _ => rfl
    | int _ => rfl
    | str _ => rfl
    | _ => cases hy
  | _ => cases hx
theorem inV_vd {x : PyData} {ds : List PyData} (hx : flD x = true) (h : ds.all flD = true) : inV (vd x) (ds.map vd) = ds.any fun z => PyData.eqv z x := by
  unfold inV
  rw [List.any_map]
  induction ds with
  | nil => rfl
  | cons d r ih =>
    have f := Bool.and_eq_true_iff.mp h
    rw [List.any_cons, List.any_cons, ih f.2]
    show (eqV (vd d) (vd x) || _) = _
    rw [eqV_vd f.1 hx]
theorem dg_flat {K : PySem.W.Frag} {F : Hp} {d : PyData} (f : flD d = true) : Dg K F (vd d) d := by
  cases d with
  | none => exact .non
  | bool _ => exact .bl _
  | int _ => exact .int _
  | str _ => exact .str _
  | _ => cases f
theorem dgs_flat {K : PySem.W.Frag} {F : Hp} : ∀ {ds : List PyData}, ds.all flD = true → DgAll K F (ds.map vd) ds
  | [], _ => .nil
  | d :: r, f => by
    have f' := Bool.and_eq_true_iff.mp f
    exact .cons (dg_flat f'.1) (dgs_flat f'.2)
inductive AllV : List V → List PyData → Prop
  | nil : AllV [] []
  | int {i : Int} {r : List V} {ds : List PyData} : AllV r ds → AllV (.int i :: r) (.int i :: ds)
  | str {i : Str} {r : List V} {ds : List PyData} : AllV r ds → AllV (.str i :: r) (.str i :: ds)
theorem AllV.dg {K : PySem.W.Frag} {F : Hp} : ∀ {vs : List V} {ds : List PyData}, AllV vs ds → DgAll K F vs ds
  | _, _, .nil => .nil
  | _, _, .int h => .cons (.int _) (AllV.dg h)
  | _, _, .str h => .cons (.str _) (AllV.dg h)
section
variable {C : Cz} {E : EnvD} {S R R' : DS} {Q : DV → DS → Prop} {tr : TA} {te tl : TE} {a b : Addr} {M : DEnds}
theorem d_kt {xs : List V} {ds : List PyData} (h : AllV xs ds) (q : Q (.d (.tuple ds)) S) : DE C (tKT C.K xs) E S Q := fun Z σ H so er QV k => fun a kt =>
  k (.ref a) H (.d (.tuple ds)) S (Stp.refl so) (Dg.tup (kt _) h.dg) q
/-! in, flat -/
theorem d_inF {x : PyData} {ds : List PyData} (hx : flD x = true) (hd : ds.all flD = true) (q : Q (.d (.bool (ds.any fun z => PyData.eqv z x))) S) : DR2 C (rInU C.K) (.d x) (.d (.tuple ds)) S Q := fun Z H so v u rv ru QV k => by
  obtain ⟨p, us, rfl, s, aa⟩ := Dg.tuple ru
  obtain ⟨rfl, fx⟩ := flat_of rv hx
  obtain ⟨rfl, fs⟩ := flats_of aa hd
  exact w_inT (fz_fr.seqT s (by simp)) fx fs (by rw [inV_vd hx hd]; exact kB so k q)
theorem d_ninF {x : PyData} {ds : List PyData} (hx : flD x = true) (hd : ds.all flD = true) (q : Q (.d (.bool (!ds.any fun z => PyData.eqv z x))) S) : DR2 C (rNinU C.K) (.d x) (.d (.tuple ds)) S Q := fun Z H so v u rv ru QV k => by
  obtain ⟨p, us, rfl, s, aa⟩ := Dg.tuple ru
  obtain ⟨rfl, fx⟩ := flat_of rv hx
  obtain ⟨rfl, fs⟩ := flats_of aa hd
  exact w_ninT (fz_fr.seqT s (by simp)) fx fs (by rw [inV_vd hx hd]; exact kB so k q)
theorem any_str {ns : List Str} {z : Str} : ((ns.map PyData.str).any fun y => PyData.eqv y (.str z)) = decide (z ∈ ns) := by
  induction ns with
  | nil => rfl
  | cons n r ih =>
    rw [List.map_cons, List.any_cons, ih]
    show ((n == z) || _) = _
    by_cases h : n = z
    · subst h; simp
    · have h' : ¬ z = n := fun e => h e.symm
      simp [h, h']
theorem fl_strs : ∀ (ns : List Str), (ns.map PyData.str).all flD = true
  | [] => rfl
  | _ :: r => by rw [List.map_cons, List.all_cons, fl_strs r]; rfl
inductive AllS : List PyData → List Str → Prop
  | nil : AllS [] []
  | cons {x : Str} {r : List PyData} {ns : List Str} : AllS r ns → AllS (.str x :: r) (x :: ns)
theorem AllS.eq : ∀ {ds : List PyData} {ns : List Str}, AllS ds ns → ds = ns.map PyData.str
  | _, _, .nil => rfl
  | _, _, .cons h => by rw [List.map_cons, ← AllS.eq h]
theorem d_inS {z : Str} {ds : List PyData} {ns : List Str} (h : AllS ds ns) (q : Q (.d (.bool (decide (z ∈ ns)))) S) : DR2 C (rInU C.K) (.d (.str z)) (.d (.tuple ds)) S Q := by
  rw [h.eq]
  exact d_inF rfl (fl_strs _) (by rw [any_str]; exact q)
theorem d_ninS {z : Str} {ds : List PyData} {ns : List Str} (h : AllS ds ns) (q : Q (.d (.bool (!decide (z ∈ ns)))) S) : DR2 C (rNinU C.K) (.d (.str z)) (.d (.tuple ds)) S Q := by
  rw [h.eq]
  exact d_ninF rfl (fl_strs _) (by rw [any_str]; exact q)
/-! in own lists -/
theorem d_inL {x : PyData} {ds : List PyData} (pa : Pick S a (LD ds) R) (n : Nat) (hx : Lay n x) (hl : Lay n (.list ds)) (q : Q (.d (.bool (ds.any fun z => PyData.eqv z x))) S) (hn : n ≤ 64 := by decide) : DR2 C (rInU C.K) (.d x) (.v (.ref a)) S Q := fun Z H so v u rv ru QV k => by
  cases ru
  exact .inl (.inr ⟨x, ds, dp_of rv hx.1, so.dpL pa hl.1, hx.sh hn, hl.sh hn, kB so k q⟩)
theorem d_ninL {x : PyData} {ds : List PyData} (pa : Pick S a (LD ds) R) (n : Nat) (hx : Lay n x) (hl : Lay n (.list ds)) (q : Q (.d (.bool (!ds.any fun z => PyData.eqv z x))) S) (hn : n ≤ 64 := by decide) : DR2 C (rNinU C.K) (.d x) (.v (.ref a)) S Q := fun Z H so v u rv ru QV k => by
  cases ru
  exact .inl (.inr ⟨x, ds, dp_of rv hx.1, so.dpL pa hl.1, hx.sh hn, hl.sh hn, kB so k q⟩)
/-- in own lists of texts -/
theorem strs_vals {K : PySem.W.Frag} {F : Hp} {ns : List Str} {vs : List V} (h : DvAll K F vs ((ns.map PyData.str).map DV.d)) : vs = ns.map V.str := by
  have z := (flats_of h.dg (fl_strs ns)).1
  rw [z, List.map_map]
  rfl
theorem flat_vstrs : ∀ (ns : List Str), (ns.map V.str).all flatV = true
  | [] => rfl
  | _ :: r => by rw [List.map_cons, List.all_cons, flat_vstrs r]; rfl
theorem inV_strs {ns : List Str} {z : Str} : inV (.str z) (ns.map V.str) = decide (z ∈ ns) := by
  have := inV_vd (x := .str z) (ds := ns.map PyData.str) rfl (fl_strs ns)
  rw [any_str, List.map_map] at this
  exact this
theorem d_inLS {z : Str} {ns : List Str} (pa : Pick S a (LD (ns.map PyData.str)) R) (q : Q (.d (.bool (decide (z ∈ ns)))) S) : DR2 C (rInU C.K) (.d (.str z)) (.v (.ref a)) S Q := fun Z H so v u rv ru QV k => by
  cases ru; cases str_of rv
  obtain ⟨vs, e, r⟩ := so.lst pa
  rw [strs_vals r] at e
  exact w_inL (SqL.of e) rfl (flat_vstrs ns) (by rw [inV_strs]; exact kB so k q)
theorem d_ninLS {z : Str} {ns : List Str} (pa : Pick S a (LD (ns.map PyData.str)) R) (q : Q (.d (.bool (!decide (z ∈ ns)))) S) : DR2 C (rNinU C.K) (.d (.str z)) (.v (.ref a)) S Q := fun Z H so v u rv ru QV k => by
  cases ru; cases str_of rv
  obtain ⟨vs, e, r⟩ := so.lst pa
  rw [strs_vals r] at e
  exact w_ninL (SqL.of e) rfl (flat_vstrs ns) (by rw [inV_strs]; exact kB so k q)
/-! ### places -/
theorem atI_j {α : Type} {xs : List α} {i : Int} {j : Nat} {x : α} (hj : ixN xs.length i = some j) (h : xs[j]? = some x) : atI xs i = some x := by
  unfold atI
  rw [hj]
  exact h
theorem ixN_nat {n i : Nat} (h : i < n) : ixN n (i : Int) = some i := by
  unfold ixN
  rw [if_pos (by omega), if_pos (by omega)]
  rfl
theorem d_ixj {ds : List PyData} {d : PyData} {i : Int} (j : Nat) (hj : ixN ds.length i = some j) (h : ds[j]? = some d) (q : Q (.d d) S) : DR2 C (rIx C.K) (.d (.tuple ds)) (.d (.int i)) S Q := fun Z H so v u rv ru QV k => by
  cases int_of ru
  obtain ⟨p, us, rfl, s, aa⟩ := Dg.tuple rv
  obtain ⟨w, hw, rw_⟩ := DgAll.at aa h
  exact w_ixT (fz_fr.seqT s (by simp)) (atI_j (by rw [DgAll.length aa]; exact hj) hw) (k0 (x := .d d) so k rw_ q)
theorem d_ix {ds : List PyData} {d : PyData} {i : Int} (j : Nat) (h : ds[j]? = some d) (q : Q (.d d) S) (hi : i = (j : Int) := by rfl) : DR2 C (rIx C.K) (.d (.tuple ds)) (.d (.int i)) S Q := by
  subst hi
  exact d_ixj j (ixN_nat (List.getElem?_eq_some_iff.mp h).1) h q
theorem d_ixLj {ds : List PyData} {d : PyData} {i : Int} (j : Nat) (hj : ixN ds.length i = some j) (h : ds[j]? = some d) (q : Q (.d d) S) : DR2 C (rIx C.K) (.d (.list ds)) (.d (.int i)) S Q := fun Z H so v u rv ru QV k => by
  cases int_of ru
  obtain ⟨p, us, rfl, s, aa⟩ := Dg.list rv
  obtain ⟨w, hw, rw_⟩ := DgAll.at aa h
  exact w_ixL (fz_fr.seqL s (by simp)) (atI_j (by rw [DgAll.length aa]; exact hj) hw) (k0 (x := .d d) so k rw_ q)
theorem d_ixO {xs : List DV} {x : DV} {i : Int} (pa : Pick S a (LST xs) R) (j : Nat) (hj : ixN xs.length i = some j) (h : xs[j]? = some x) (q : Q x S) : DR2 C (rIx C.K) (.v (.ref a)) (.d (.int i)) S Q := fun Z H so v u rv ru QV k => by
  cases int_of ru; cases rv
  obtain ⟨vs, e, r⟩ := so.lst pa
  obtain ⟨w, hw, rw_⟩ := r.get h
  exact w_ixL (SqL.of e) (atI_j (by rw [r.length]; exact hj) hw) (k0 so k rw_ q)
theorem d_ixLD {ds : List PyData} {d : PyData} {i : Int} (pa : Pick S a (LD ds) R) (j : Nat) (h : ds[j]? = some d) (q : Q (.d d) S) (hi : i = (j : Int) := by rfl) : DR2 C (rIx C.K) (.v (.ref a)) (.d (.int i)) S Q := by
  subst hi
  refine d_ixO pa j (ixN_nat ?_) (x := .d d) ?_ q
  · rw [List.length_map]; exact (List.getElem?_eq_some_iff.mp h).1
  · rw [List.getElem?_map, h]; rfl
theorem ixN_last {n : Nat} (h : 0 < n) : ixN n (-1) = some (n - 1) := by
  unfold ixN
  rw [if_neg (by decide), if_pos (by omega)]
  congr 1
  omega
theorem d_ixLast {ds : List PyData} {d : PyData} (pa : Pick S a (LD (ds ++ [d])) R) (q : Q (.d d) S) : DR2 C (rIx C.K) (.v (.ref a)) (.d (.int (-1))) S Q := by
  refine d_ixO pa ds.length ?_ (x := .d d) ?_ q
  · rw [List.length_map, List.length_append]
    exact ixN_last (by simp)
  · rw [List.getElem?_map, List.getElem?_append_right (Nat.le_refl _), Nat.sub_self]
    rfl
/-- an open place -/
theorem get_open {ds : List PyData} {i : Int} (h0 : 0 ≤ i) (h1 : i < ds.length) : ∃ d, ds[i.toNat]? = some d ∧ d ∈ ds ∧ ixN ds.length i = some i.toNat := by
  have hk : i.toNat < ds.length := by omega
  refine ⟨ds[i.toNat], List.getElem?_eq_getElem hk, List.getElem_mem hk, ?_⟩
  have := ixN_nat hk
  rw [show ((i.toNat : Nat) : Int) = i by omega] at this
  exact this
/-! ### lengths, slices -/
theorem d_lenT {ds : List PyData} (q : Q (.d (.int ds.length)) S) : DRs C (rLenU C.K) [.d (.tuple ds)] S Q := fun Z H so vs rs QV k => by
  obtain ⟨v, rfl, rv⟩ := rs.one
  obtain ⟨p, us, rfl, s, aa⟩ := Dg.tuple rv
  rw [← DgAll.length aa] at q
  exact w_lenT (fz_fr.seqT s (by simp)) (kI so k q)
theorem d_lenD {ds : List PyData} (q : Q (.d (.int ds.length)) S) : DRs C (rLenU C.K) [.d (.list ds)] S Q := fun Z H so vs rs QV k => by
  obtain ⟨v, rfl, rv⟩ := rs.one
  obtain ⟨p, us, rfl, s, aa⟩ := Dg.list rv
  rw [← DgAll.length aa] at q
  exact w_lenL (fz_fr.seqL s (by simp)) (kI so k q)
theorem d_lenS {z : Str} (h : z.length ≤ sizeLine) (q : Q (.d (.int z.length)) S) : DRs C (rLenU C.K) [.d (.str z)] S Q := fun Z H so vs rs QV k => by
  obtain ⟨v, rfl, rv⟩ := rs.one
  cases str_of rv
  exact w_lenS h (kI so k q)
theorem d_lenO {xs : List DV} (pa : Pick S a (LST xs) R) (q : Q (.d (.int xs.length)) S) : DRs C (rLenU C.K) [.v (.ref a)] S Q := fun Z H so vs rs QV k => by
  obtain ⟨v, rfl, rv⟩ := rs.one
  cases rv
  obtain ⟨us, e, r⟩ := so.lst pa
  rw [← r.length] at q
  exact w_lenL (SqL.of e) (kI so k q)
theorem d_lenLD {ds : List PyData} (pa : Pick S a (LD ds) R) (q : Q (.d (.int ds.length)) S) : DRs C (rLenU C.K) [.v (.ref a)] S Q := d_lenO pa (by rw [List.length_map]; exact q)
theorem d_slT {ds : List PyData} {lo hi : Option Int} (q : Q (.d (.tuple (cutA ds lo hi))) S) : DRsl C (rSlU C.K) (.d (.tuple ds)) lo hi S Q := fun Z H so v rv QV k => by
  obtain ⟨p, us, rfl, s, aa⟩ := Dg.tuple rv
  refine .inl (.inr ⟨p, us, rfl, fz_fr.seqT s (by simp), fun z => ?_, fun _ p' hp => kT so k hp (DgAll.cut aa lo hi) q⟩)
  rw [DgAll.length aa] at z
  rw [cutA_full z] at q
  exact k0 so k rv q
theorem DvAll.cut {K : PySem.W.Frag} {F : Hp} {vs : List V} {xs : List DV} (h : DvAll K F vs xs) (lo hi : Option Int) : DvAll K F (cutV vs lo hi) (cutA xs lo hi) := by
  unfold cutV cutA
  rw [h.length]
  exact (h.drop _).take _
theorem d_slO {xs : List DV} {lo hi : Option Int} (pa : Pick S a (LST xs) R) (q : ∀ p, Q (.v (.ref p)) ((p, LST (cutA xs lo hi)) :: S)) : DRsl C (rSlU C.K) (.v (.ref a)) lo hi S Q := fun Z H so v rv QV k => by
  cases rv
  obtain ⟨us, e, r⟩ := so.lst pa
  exact w_slL (SqL.of e) fun p hp => kL so k hp (r.cut lo hi) q
theorem d_slLD {ds : List PyData} {lo hi : Option Int} (pa : Pick S a (LD ds) R) (q : ∀ p, Q (.v (.ref p)) ((p, LD (cutA ds lo hi)) :: S)) : DRsl C (rSlU C.K) (.v (.ref a)) lo hi S Q := d_slO pa fun p => by
  rw [cutA_map]; exact q p
theorem d_slD {ds : List PyData} {lo hi : Option Int} (q : ∀ p, Q (.v (.ref p)) ((p, LD (cutA ds lo hi)) :: S)) : DRsl C (rSlU C.K) (.d (.list ds)) lo hi S Q := fun Z H so v rv QV k => by
  obtain ⟨p, us, rfl, s, aa⟩ := Dg.list rv
  exact w_slL (fz_fr.seqL s (by simp)) fun p hp => kL so k hp (DvAll.of (DgAll.cut aa lo hi)) q
theorem d_slS {z : Str} {lo hi : Option Int} (h : z.length ≤ sizeLine) (q : Q (.d (.str (cutS z lo hi))) S) : DRsl C (rSlU C.K) (.d (.str z)) lo hi S Q := fun Z H so v rv QV k => by
  cases str_of rv
  exact .inr ⟨z, rfl, h, kS so k q⟩
/-! ### isinstance -/
theorem d_isi {x : PyData} {n : String} {b : Bool} (h : ∀ {v : V} {F : Hp} {QV : VK}, Dg C.K F v x → QV (.bl b) F → rIsi C.K [v, .ty n] F QV) (q : Q (.d (.bool b)) S) : DRs C (rIsi C.K) [.d x, .v (.ty n)] S Q := fun Z H so vs rs QV k => by
  obtain ⟨v, u, rfl, rv, ru⟩ := rs.two
  cases ru
  exact h (Dg.fr fz_fr rv) (kB so k q)
theorem d_isTup {x : PyData} (q : Q (.d (.bool (isTup x))) S) : DRs C (rIsi C.K) [.d x, .v (.ty "tuple")] S Q := d_isi (fun h q => Dg.isTup h q) q
theorem d_isLst {x : PyData} (q : Q (.d (.bool (isLst x))) S) : DRs C (rIsi C.K) [.d x, .v (.ty "list")] S Q := d_isi (fun h q => Dg.isLst h q) q
theorem d_isInt {x : PyData} (q : Q (.d (.bool (isInt x))) S) : DRs C (rIsi C.K) [.d x, .v (.ty "int")] S Q := d_isi (fun h q => Dg.isInt h q) q
theorem d_isBool {x : PyData} (q : Q (.d (.bool (isBool x))) S) : DRs C (rIsi C.K) [.d x, .v (.ty "bool")] S Q := d_isi (fun h q => Dg.isBool h q) q
theorem d_isStr {x : PyData} (q : Q (.d (.bool (isStr x))) S) : DRs C (rIsi C.K) [.d x, .v (.ty "str")] S Q := d_isi (fun h q => Dg.isStr h q) q
theorem d_isOL {xs : List DV} {n : String} (pa : Pick S a (LST xs) R) {b : Bool} (h : kitB "list" n = some b) (q : Q (.d (.bool b)) S) : DRs C (rIsi C.K) [.v (.ref a), .v (.ty n)] S Q := fun Z H so vs rs QV k => by
  obtain ⟨v, u, rfl, rv, ru⟩ := rs.two
  cases rv; cases ru
  obtain ⟨us, e, r⟩ := so.lst pa
  exact w_isi (ty_L (SqL.of e)) (kit_ty h) (kB so k q)
/-! ### methods of lists -/
theorem d_tyL {xs : List DV} (pa : Pick S a (LST xs) R) : DTy C (tyV C.K "list") (.v (.ref a)) S := fun Z H so v rv => by
  cases rv
  obtain ⟨us, e, r⟩ := so.lst pa
  exact .inl ⟨rfl, _, SqL.of e⟩
theorem d_app {xs : List DV} {y : DV} (pa : Pick S a (LST xs) R) (n : xs.length ≤ 1000000) (q : Q (.d .none) ((a, LST (xs ++ [y])) :: R)) : DRm C rAppend (.v (.ref a)) [y] S Q := fun Z H so v vs rv rs QV k => by
  cases rv
  obtain ⟨u, rfl, ru⟩ := rs.one
  obtain ⟨us, e, r⟩ := so.lst pa
  exact ⟨a, us, u, rfl, rfl, e, Nat.lt_of_le_of_lt (show _ ≤ 1000000 by rw [r.length]; exact n) (by decide), kM so k pa (r.append (.cons ru .nil)) (x := .d .none) Dg.non q⟩
theorem d_appD {ds : List PyData} {y : PyData} (pa : Pick S a (LD ds) R) (n : ds.length ≤ 1000000) (q : Q (.d .none) ((a, LD (ds ++ [y])) :: R)) : DRm C rAppend (.v (.ref a)) [.d y] S Q := d_app pa (by rw [List.length_map]; exact n) (by
  rw [LD, List.map_append] at q
  exact q)
theorem d_ext {xs ys : List DV} (pa : Pick S a (LST xs) R) (pb : Pick S b (LST ys) R') (n : xs.length + ys.length ≤ 1000000) (q : Q (.d .none) ((a, LST (xs ++ ys)) :: R)) : DRm C rExtend (.v (.ref a)) [.v (.ref b)] S Q := fun Z H so v vs rv rs QV k => by
  cases rv
  obtain ⟨u, rfl, ru⟩ := rs.one
  cases ru
  obtain ⟨us, e, r⟩ := so.lst pa
  obtain ⟨us', e', r'⟩ := so.lst pb
  exact ⟨a, b, us, us', rfl, rfl, e, e', Nat.le_trans (show _ ≤ 1000000 by rw [r.length, r'.length]; exact n) (by decide), kM so k pa (r.append r') (x := .d .none) Dg.non q⟩
theorem d_extD {ds es : List PyData} (pa : Pick S a (LD ds) R) (pb : Pick S b (LD es) R') (n : ds.length + es.length ≤ 1000000) (q : Q (.d .none) ((a, LD (ds ++ es)) :: R)) : DRm C rExtend (.v (.ref a)) [.v (.ref b)] S Q := d_ext pa pb (by rw [List.length_map, List.length_map]; exact n) (by
  rw [LD, List.map_append] at q
  exact q)
theorem d_pop {xs : List DV} {x : DV} (pa : Pick S a (LST (xs ++ [x])) R) (q : Q x ((a, LST xs) :: R)) : DRm C rPop (.v (.ref a)) [] S Q := fun Z H so v vs rv rs QV k => by
  cases rv
  cases rs.nil_inv
  obtain ⟨us, e, r⟩ := so.lst pa
  have hl := r.length
  rw [List.length_append] at hl
  have hl : us.length = xs.length + 1 := hl
  obtain ⟨u, hu, ru⟩ := r.get (i := xs.length) (x := x) (by rw [List.getElem?_append_right (Nat.le_refl _), Nat.sub_self]; rfl)
  have ed : DvAll C.K (fz H Z S) us.dropLast xs := by
    have := r.take xs.length
    rw [List.take_left'] at this
    · rw [List.dropLast_eq_take, hl]; exact this
    · rfl
  exact ⟨a, us, u, rfl, rfl, e, by rw [hl]; exact hu, kM so k pa ed ru q⟩
theorem d_rev {xs : List DV} (pa : Pick S a (LST xs) R) (q : Q (.d .none) ((a, LST xs.reverse) :: R)) : DRm C rReverse (.v (.ref a)) [] S Q := fun Z H so v vs rv rs QV k => by
  cases rv
  cases rs.nil_inv
  obtain ⟨us, e, r⟩ := so.lst pa
  exact ⟨a, us, rfl, rfl, e, kM so k pa r.reverse (x := .d .none) Dg.non q⟩
theorem d_revD {ds : List PyData} (pa : Pick S a (LD ds) R) (q : Q (.d .none) ((a, LD ds.reverse) :: R)) : DRm C rReverse (.v (.ref a)) [] S Q := d_rev pa (by rw [← List.map_reverse]; exact q)
theorem d_ins {xs : List DV} {y : DV} {i : Int} (pa : Pick S a (LST xs) R) (n : xs.length ≤ 1000000) (h0 : 0 ≤ i) (h1 : i < 2 ^ 63) (q : Q (.d .none) ((a, LST (xs.take i.toNat ++ [y] ++ xs.drop i.toNat)) :: R)) : DRm C rIns (.v (.ref a)) [.d (.int i), y] S Q := fun Z H so v vs rv rs QV k => by
  cases rv
  obtain ⟨u, w, rfl, ru, rw_⟩ := rs.two
  cases int_of ru
  obtain ⟨us, e, r⟩ := so.lst pa
  refine ⟨a, us, i, w, rfl, rfl, e, Nat.lt_of_le_of_lt (show _ ≤ 1000000 by rw [r.length]; exact n) (by decide), h0, h1, ?_⟩
  have := kM so k pa (((r.take i.toNat).append (.cons rw_ .nil)).append (r.drop i.toNat)) (x := .d .none) Dg.non q
  simpa [List.append_assoc] using this
theorem d_setL {xs : List DV} {y : DV} {i : Int} {N : DS → Prop} (pa : Pick S a (LST xs) R) (j : Nat) (hj : ixN xs.length i = some j) (q : N ((a, LST (xs.set j y)) :: R)) : DSet C L2.rSetL (.v (.ref a)) (.d (.int i)) y S N := fun Z H so vo vi vv ro ri rv QN k => by
  cases ro
  cases int_of ri
  obtain ⟨us, e, r⟩ := so.lst pa
  have st := Stp.mut (O' := LST (xs.set j y)) (o := .lst (us.set j vv)) so pa rfl rfl ⟨_, upd_same, r.set j rv⟩
  exact ⟨a, us, i, j, rfl, rfl, e, by rw [r.length]; exact hj, k _ _ st q⟩
theorem d_setLD {ds : List PyData} {y : PyData} {i : Int} {N : DS → Prop} (pa : Pick S a (LD ds) R) (j : Nat) (hj : ixN ds.length i = some j) (q : N ((a, LD (ds.set j y)) :: R)) : DSet C L2.rSetL (.v (.ref a)) (.d (.int i)) (.d y) S N := d_setL pa j (by rw [List.length_map]; exact hj) (by
  rw [LD, List.map_set] at q
  exact q)
/-! ### list(..), tuple(..) -/
theorem d_listT {ds : List PyData} (q : ∀ p, Q (.v (.ref p)) ((p, LD ds) :: S)) : DRs C (rListU C.K) [.d (.tuple ds)] S Q := fun Z H so vs rs QV k => by
  obtain ⟨v, rfl, rv⟩ := rs.one
  obtain ⟨p, us, rfl, s, aa⟩ := Dg.tuple rv
  exact w_listT (fz_fr.seqT s (by simp)) fun p hp => kL so k hp (DvAll.of aa) q
theorem d_listD {ds : List PyData} (q : ∀ p, Q (.v (.ref p)) ((p, LD ds) :: S)) : DRs C (rListU C.K) [.d (.list ds)] S Q := fun Z H so vs rs QV k => by
  obtain ⟨v, rfl, rv⟩ := rs.one
  obtain ⟨p, us, rfl, s, aa⟩ := Dg.list rv
  exact w_listL (fz_fr.seqL s (by simp)) fun p hp => kL so k hp (DvAll.of aa) q
theorem d_listO {xs : List DV} (pa : Pick S a (LST xs) R) (q : ∀ p, Q (.v (.ref p)) ((p, LST xs) :: S)) : DRs C (rListU C.K) [.v (.ref a)] S Q := fun Z H so vs rs QV k => by
  obtain ⟨v, rfl, rv⟩ := rs.one
  cases rv
  obtain ⟨us, e, r⟩ := so.lst pa
  exact w_listL (SqL.of e) fun p hp => kL so k hp r q
theorem d_tupleO {ds : List PyData} (pa : Pick S a (LD ds) R) (q : Q (.d (.tuple ds)) S) : DRs C (rTupleU C.K) [.v (.ref a)] S Q := fun Z H so vs rs QV k => by
  obtain ⟨v, rfl, rv⟩ := rs.one
  cases rv
  obtain ⟨us, e, r⟩ := so.lst pa
  exact w_tupleL (SqL.of e) fun p hp => kT so k hp r.dg q
theorem d_tupleT {ds : List PyData} (q : Q (.d (.tuple ds)) S) : DRs C (rTupleU C.K) [.d (.tuple ds)] S Q := fun Z H so vs rs QV k => by
  obtain ⟨v, rfl, rv⟩ := rs.one
  obtain ⟨p, us, rfl, s, aa⟩ := Dg.tuple rv
  exact ⟨p, us, rfl, .inr ⟨fz_fr.seqT s (by simp), k0 so k rv q⟩⟩
theorem d_tupleD {ds : List PyData} (q : Q (.d (.tuple ds)) S) : DRs C (rTupleU C.K) [.d (.list ds)] S Q := fun Z H so vs rs QV k => by
  obtain ⟨v, rfl, rv⟩ := rs.one
  obtain ⟨p, us, rfl, s, aa⟩ := Dg.list rv
  exact w_tupleL (fz_fr.seqL s (by simp)) fun p hp => kT so k hp aa q
/-! all, any, sum, max, min, abs, int -/
theorem bools_vals {K : PySem.W.Frag} {F : Hp} : ∀ {bs : List Bool} {vs : List V}, DvAll K F vs ((bs.map PyData.bool).map DV.d) → vs = bs.map V.bl
  | [], _, .nil => rfl
  | b :: r, _, .cons h t => by rw [bool_of h, bools_vals t]; rfl
theorem ints_vals {K : PySem.W.Frag} {F : Hp} : ∀ {bs : List Int} {vs : List V}, DvAll K F vs ((bs.map PyData.int).map DV.d) → vs = bs.map V.int
  | [], _, .nil => rfl
  | b :: r, _, .cons h t => by rw [int_of h, ints_vals t]; rfl
theorem d_all {bs : List Bool} (pa : Pick S a (LD (bs.map PyData.bool)) R) (q : Q (.d (.bool (bs.all id))) S) : DRs C (rAll C.K) [.v (.ref a)] S Q := fun Z H so vs rs QV k => by
  obtain ⟨v, rfl, rv⟩ := rs.one
  cases rv
  obtain ⟨us, e, r⟩ := so.lst pa
  rw [bools_vals r] at e
  exact ⟨a, bs, rfl, SqL.of e, kB so k q⟩
theorem d_any {bs : List Bool} (pa : Pick S a (LD (bs.map PyData.bool)) R) (q : Q (.d (.bool (bs.any id))) S) : DRs C (rAny C.K) [.v (.ref a)] S Q := fun Z H so vs rs QV k => by
  obtain ⟨v, rfl, rv⟩ := rs.one
  cases rv
  obtain ⟨us, e, r⟩ := so.lst pa
  rw [bools_vals r] at e
  exact ⟨a, bs, rfl, SqL.of e, kB so k q⟩
theorem d_sum {bs : List Int} (pa : Pick S a (LD (bs.map PyData.int)) R) (q : Q (.d (.int bs.sum)) S) : DRs C (rSum C.K) [.v (.ref a)] S Q := fun Z H so vs rs QV k => by
  obtain ⟨v, rfl, rv⟩ := rs.one
  cases rv
  obtain ⟨us, e, r⟩ := so.lst pa
  rw [ints_vals r] at e
  exact ⟨a, bs, rfl, SqL.of e, kI so k q⟩
theorem d_max2 {i j : Int} (q : Q (.d (.int (if j > i then j else i))) S) : DRs C rMaxU [.d (.int i), .d (.int j)] S Q := fun Z H so vs rs QV k => by
  obtain ⟨v, u, rfl, rv, ru⟩ := rs.two
  cases int_of rv; cases int_of ru
  exact w_max (kI so k q)
theorem d_min2 {i j : Int} (q : Q (.d (.int (if j < i then j else i))) S) : DRs C rMinU [.d (.int i), .d (.int j)] S Q := fun Z H so vs rs QV k => by
  obtain ⟨v, u, rfl, rv, ru⟩ := rs.two
  cases int_of rv; cases int_of ru
  exact w_min (kI so k q)
theorem d_abs {i : Int} (q : Q (.d (.int (if i < 0 then -i else i))) S) : DRs C rAbsU [.d (.int i)] S Q := fun Z H so vs rs QV k => by
  obtain ⟨v, rfl, rv⟩ := rs.one
  cases int_of rv
  exact w_abs (kI so k q)
theorem d_intI {i : Int} (q : Q (.d (.int i)) S) : DRs C rIntU [.d (.int i)] S Q := fun Z H so vs rs QV k => by
  obtain ⟨v, rfl, rv⟩ := rs.one
  cases int_of rv
  exact w_intI (kI so k q)
theorem d_intB {i : Bool} (q : Q (.d (.int (if i then 1 else 0))) S) : DRs C rIntU [.d (.bool i)] S Q := fun Z H so vs rs QV k => by
  obtain ⟨v, rfl, rv⟩ := rs.one
  cases bool_of rv
  exact w_intB (kI so k q)
/-! ### loops -/
/-- n turns, the i-th item as it says, what has to stay -/
def FORI (C : Cz) (n : Nat) (it : Nat → DV → Prop) (keep : DS → Prop) (tg : TG) (tb : TS) (E : EnvD) (S : DS) (M : DEnds) : Prop :=
  ∃ W : Nat → EnvD → DS → Prop, (∃ E0 S0, Le E E0 ∧ Sub S S0 ∧ W 0 E0 S0) ∧ (∀ i E0 S0, W i E0 S0 → keep S0) ∧
    (∀ i x E0 S0, i < n → it i x → W i E0 S0 → DG C tg x E0 S0 fun E1 S1 => DSt C tb E1 S1 ⟨fun E2 S2 => ∃ E3 S3, Le E2 E3 ∧ Sub S2 S3 ∧ W (i + 1) E3 S3, M.rt, M.nx, fun E2 S2 => ∃ E3 S3, Le E2 E3 ∧ Sub S2 S3 ∧ W (i + 1) E3 S3⟩) ∧
    ∀ E0 S0, W n E0 S0 → M.nx E0 S0
theorem FORI.run {J : It} {n : Nat} {G : Hp → Prop} {Y : Nat → Hp → V → Hp → Prop} {it : Nat → DV → Prop} {keep : DS → Prop} {tg : TG} {tb : TS} {Z : List Addr} {H : Hp} {σ : L2.St} {D : Ends} (w : Walk J n G Y) (f : FORI C n it keep tg tb E S M) (so : SOk C Z H S) (er : ER C.K (fz H Z S) σ E) (e : EOk C Z H S D M)
    (hG : ∀ H' S', Stp C Z H S H' S' → keep S' → G H') (hY : ∀ i H' S' x H2, i < n → Stp C Z H S H' S' → keep S' → Y i H' x H2 → ∃ dv, Stp C Z H' S' H2 S' ∧ DvR C.K (fz H2 Z S') x dv ∧ it i dv) : FOR J tg tb D σ H := by
  obtain ⟨W, ⟨E0, S0, l0, s0, w0⟩, kp, hs, hd⟩ := f
  refine for_it w (D := D) (fun i σ' H' => ∃ E' S', Stp C Z H S H' S' ∧ ER C.K (fz H' Z S') σ' E' ∧ W i E' S') ?_ ?_ ?_ ?_
  · have st := s0.stp so
    exact ⟨E0, S0, st, (er.fr st.fz).le l0, w0⟩
  · rintro i σ' H' _ ⟨E', S', st, er', w'⟩
    exact hG H' S' st (kp _ _ _ w')
  · rintro i x σ' H' H2 hi ⟨E', S', st, er', w'⟩ hy
    obtain ⟨dv, st2, rv, hit⟩ := hY i H' S' x H2 hi st (kp _ _ _ w') hy
    have st02 := st.trans st2
    refine hs i dv E' S' hi hit w' Z σ' H2 st2.so (er'.fr st2.fz) x rv _ fun σ3 H3 E3 S3 st3 er3 n3 => ?_
    have st03 := st02.trans st3
    have back : ∀ σ' H' E' S', Stp C Z H3 S3 H' S' → ER C.K (fz H' Z S') σ' E' → (∃ E3 S3, Le E' E3 ∧ Sub S' S3 ∧ W (i + 1) E3 S3) → ∃ E4 S4, Stp C Z H S H' S4 ∧ ER C.K (fz H' Z S4) σ' E4 ∧ W (i + 1) E4 S4 := fun σ' H' E' S' st er ⟨E4, S4, l4, s4, w4⟩ => by
      have st4 := s4.stp st.so
      exact ⟨E4, S4, (st03.trans st).trans st4, (er.fr st4.fz).le l4, w4⟩
    exact n3 Z σ3 H3 st3.so er3 _ ⟨back, fun v H' dv S' st => e.rt v H' dv S' (st03.trans st), fun σ' H' E' S' st => e.nx σ' H' E' S' (st03.trans st), back⟩
  · rintro σ' H' ⟨E', S', st, er', w'⟩
    exact e.nx σ' H' E' S' st er' (hd _ _ w')
/-- .. over a tuple -/
theorem d_forT {tg : TG} {tb : TS} (q : DE C tl E S fun x S1 => ∃ ds, x = .d (.tuple ds) ∧ FORI C ds.length (fun i x => ∃ d, ds[i]? = some d ∧ x = .d d) (fun _ => True) tg tb E S1 M) : DSt C (tFor (iTup C.K tl) tg tb) E S M := fun Z σ H so er D e =>
  q Z σ H so er _ fun v H1 x S1 s1 rv q1 => by
    obtain ⟨ds, rfl, f⟩ := q1
    obtain ⟨p, vs, rfl, s, aa⟩ := Dg.tuple rv
    have hl := DgAll.length aa
    rw [← hl] at f
    refine ⟨p, rfl, ⟨vs, fz_fr.seqT s (by simp)⟩, f.run walk_tup s1.so (er.fr s1.fz) (e.step s1) (fun H' S' st _ => fz_fr.seqT (st.fz.seqT s (by simp)) (by simp)) fun i H' S' x H2 hi st _ y => ?_⟩
    obtain ⟨rfl, hx⟩ := y
    obtain ⟨d, h1, h2⟩ := DgAll.get (DgAll.fr st.fz aa) hx
    exact ⟨.d d, Stp.refl st.so, h2, d, h1, rfl⟩
/-- .. over a list that never changes -/
theorem d_forD {tg : TG} {tb : TS} (q : DE C tl E S fun x S1 => ∃ ds, x = .d (.list ds) ∧ FORI C ds.length (fun i x => ∃ d, ds[i]? = some d ∧ x = .d d) (fun _ => True) tg tb E S1 M) : DSt C (tFor (iList C.K tl) tg tb) E S M := fun Z σ H so er D e =>
  q Z σ H so er _ fun v H1 x S1 s1 rv q1 => by
    obtain ⟨ds, rfl, f⟩ := q1
    obtain ⟨p, vs, rfl, s, aa⟩ := Dg.list rv
    have hl := DgAll.length aa
    rw [← hl] at f
    refine ⟨p, rfl, ⟨vs, fz_fr.seqL s (by simp)⟩, f.run walk_list s1.so (er.fr s1.fz) (e.step s1) (fun H' S' st _ => fz_fr.seqL (st.fz.seqL s (by simp)) (by simp)) fun i H' S' x H2 hi st _ y => ?_⟩
    obtain ⟨rfl, hx⟩ := y
    obtain ⟨d, h1, h2⟩ := DgAll.get (DgAll.fr st.fz aa) hx
    exact ⟨.d d, Stp.refl st.so, h2, d, h1, rfl⟩
/-- .. over an own list that stays -/
theorem d_forL {tg : TG} {tb : TS} (q : DE C tl E S fun x S1 => ∃ p xs, x = .v (.ref p) ∧ (∃ R, Pick S1 p (LST xs) R) ∧ FORI C xs.length (fun i x => xs[i]? = some x) (fun S' => ∃ R, Pick S' p (LST xs) R) tg tb E S1 M) : DSt C (tFor (iList C.K tl) tg tb) E S M := fun Z σ H so er D e =>
  q Z σ H so er _ fun v H1 x S1 s1 rv q1 => by
    obtain ⟨p, xs, rfl, ⟨R, pk⟩, f⟩ := q1
    cases rv
    obtain ⟨vs, ev, r⟩ := s1.so.lst pk
    refine ⟨p, rfl, ⟨vs, SqL.of ev⟩, ?_⟩
    have key : ∀ H' S', Stp C Z H1 S1 H' S' → (∃ R, Pick S' p (LST xs) R) → ∃ us, H' p = some (.lst us) ∧ DvAll C.K (fz H' Z S') us xs := fun H' S' st ⟨R, pk⟩ => st.so.lst pk
    have wk : Walk (Itl C.K p) xs.length (fun H => ∃ us, H p = some (.lst us) ∧ us.length = xs.length) (fun i H x H' => H' = H ∧ ∀ us, H p = some (.lst us) → us[i]? = some x) :=
      ⟨fun i H hi ⟨us, h1, h2⟩ => ⟨us, us[i]'(by omega), SqL.of h1, List.getElem?_eq_getElem _⟩, fun H ⟨us, h1, h2⟩ => ⟨us, SqL.of h1, by omega⟩, fun i H x H' hi _ y => ⟨y.1, fun us h => y.2 us (SqL.of h)⟩⟩
    refine f.run wk s1.so (er.fr s1.fz) (e.step s1) (fun H' S' st kp => ?_) fun i H' S' x H2 hi st kp y => ?_
    · obtain ⟨us, h1, h2⟩ := key H' S' st kp
      exact ⟨us, h1, h2.length⟩
    · obtain ⟨us, h1, h2⟩ := key H' S' st kp
      obtain ⟨rfl, hx⟩ := y
      obtain ⟨dv, h3, h4⟩ := h2.getL (hx us h1)
      exact ⟨dv, Stp.refl st.so, h4, h3⟩
/-- .. over whole numbers -/
theorem d_forR1 {tg : TG} {tb : TS} (q : DA C tr E S fun xs S1 => ∃ j : Int, xs = [.d (.int j)] ∧ j ≤ 2 ^ 61 ∧ -(2 ^ 61) ≤ j ∧ FORI C j.toNat (fun i x => x = .d (.int i)) (fun _ => True) tg tb E S1 M) : DSt C (tFor (iRng1 tr) tg tb) E S M := fun Z σ H so er D e =>
  q Z σ H so er _ fun vs H1 xs S1 s1 rs q1 => by
    obtain ⟨j, rfl, h1, h2, f⟩ := q1
    obtain ⟨v, rfl, rv⟩ := rs.one
    cases int_of rv
    refine ⟨j, rfl, by omega, by omega, f.run walk_range s1.so (er.fr s1.fz) (e.step s1) (fun _ _ _ _ => trivial) fun i H' S' x H2 hi st _ y => ?_⟩
    obtain ⟨rfl, rfl⟩ := y
    refine ⟨.d (.int i), Stp.refl st.so, ?_, rfl⟩
    show DvR _ _ (V.int (0 + (i : Int))) _
    rw [Int.zero_add]
    exact Dg.int _
theorem d_forR2 {tg : TG} {tb : TS} (q : DA C tr E S fun xs S1 => ∃ l j : Int, xs = [.d (.int l), .d (.int j)] ∧ (-(2 ^ 61) ≤ l ∧ l ≤ 2 ^ 61 ∧ -(2 ^ 61) ≤ j ∧ j ≤ 2 ^ 61) ∧ FORI C (j - l).toNat (fun i x => x = .d (.int (l + i))) (fun _ => True) tg tb E S1 M) : DSt C (tFor (iRng2 tr) tg tb) E S M := fun Z σ H so er D e =>
  q Z σ H so er _ fun vs H1 xs S1 s1 rs q1 => by
    obtain ⟨l, j, rfl, h1, f⟩ := q1
    obtain ⟨v, u, rfl, rv, ru⟩ := rs.two
    cases int_of rv; cases int_of ru
    refine ⟨l, j, rfl, ⟨by omega, by omega, by omega, by omega⟩, f.run walk_range s1.so (er.fr s1.fz) (e.step s1) (fun _ _ _ _ => trivial) fun i H' S' x H2 hi st _ y => ?_⟩
    obtain ⟨rfl, rfl⟩ := y
    exact ⟨.d (.int (l + i)), Stp.refl st.so, Dg.int _, rfl⟩
/-- a while by a measure -/
theorem d_while {tt : TT} {tb : TS} (W : Nat → EnvD → DS → Prop) (m0 : Nat) (h0 : ∃ E0 S0, Le E E0 ∧ Sub S S0 ∧ W m0 E0 S0)
    (hs : ∀ m E0 S0, W m E0 S0 → DT C tt E0 S0 fun c S1 => if c = true then DSt C tb E0 S1 ⟨fun E2 S2 => ∃ E3 S3 m', Le E2 E3 ∧ Sub S2 S3 ∧ m' < m ∧ W m' E3 S3, M.rt, M.nx, fun E2 S2 => ∃ E3 S3 m', Le E2 E3 ∧ Sub S2 S3 ∧ m' < m ∧ W m' E3 S3⟩ else M.nx E0 S1) : DSt C (tWhile tt tb) E S M := fun Z σ H so er D e => by
  obtain ⟨E0, S0, l0, s0, w0⟩ := h0
  refine ⟨fun m σ' H' => ∃ E' S', Stp C Z H S H' S' ∧ ER C.K (fz H' Z S') σ' E' ∧ W m E' S', ⟨m0, E0, S0, s0.stp so, (er.fr (s0.stp so).fz).le l0, w0⟩, ?_⟩
  rintro m σ' H' ⟨E', S', st, er', w'⟩
  refine hs m E' S' w' Z σ' H' st.so er' _ fun b H1 S1 s1 q1 => ?_
  have st1 := st.trans s1
  cases b with
  | false => exact e.nx σ' H1 E' S1 st1 (er'.fr s1.fz) q1
  | true =>
    have q1 : DSt C tb E' S1 _ := q1
    refine ⟨fun σ' H' => ∃ m', m' < m ∧ ∃ E' S', Stp C Z H S H' S' ∧ ER C.K (fz H' Z S') σ' E' ∧ W m' E' S', fun _ _ z => z, ?_⟩
    have back : ∀ σ' H' E' S', Stp C Z H1 S1 H' S' → ER C.K (fz H' Z S') σ' E' → (∃ E3 S3 m', Le E' E3 ∧ Sub S' S3 ∧ m' < m ∧ W m' E3 S3) → ∃ m', m' < m ∧ ∃ E' S', Stp C Z H S H' S' ∧ ER C.K (fz H' Z S') σ' E' ∧ W m' E' S' := fun σ' H' E' S' st2 er ⟨E4, S4, m', l4, s4, hm, w4⟩ => by
      have st4 := s4.stp st2.so
      exact ⟨m', hm, E4, S4, (st1.trans st2).trans st4, (er.fr st4.fz).le l4, w4⟩
    exact q1 Z σ' H1 s1.so (er'.fr s1.fz) _ ⟨back, fun v H' dv S' st => e.rt v H' dv S' (st1.trans st), fun σ' H' E' S' st => e.nx σ' H' E' S' (st1.trans st), back⟩
/-! ### comprehensions -/
theorem wipe_get {σ : L2.St} : ∀ {ws : List Nat} (i : Nat), (wipe σ ws)[i]? = if i ∈ ws then (σ[i]?).map (fun _ => none) else σ[i]?
  | [], i => by simp [wipe]
  | v :: vs, i => by
    unfold wipe
    rw [List.getElem?_set, wipe_get i, wipe_length]
    by_cases h : v = i
    · subst h
      simp only [List.mem_cons, true_or, if_true]
      by_cases hl : v < σ.length
      · rw [if_pos hl, List.getElem?_eq_getElem hl]; rfl
      · rw [if_neg hl, List.getElem?_eq_none (by omega)]; rfl
    · rw [if_neg h]
      have e : (i ∈ v :: vs) ↔ i ∈ vs := by
        rw [List.mem_cons]
        exact ⟨fun z => z.resolve_left fun z => h z.symm, .inr⟩
      by_cases hi : i ∈ vs
      · rw [if_pos hi, if_pos (e.mpr hi)]
      · rw [if_neg hi, if_neg fun z => hi (e.mp z)]
theorem wipe_set {σ : L2.St} {ws : List Nat} {j : Nat} {x : Option V} (h : j ∈ ws) : wipe (σ.set j x) ws = wipe σ ws := by
  apply List.ext_getElem?
  intro i
  rw [wipe_get, wipe_get]
  by_cases hi : i ∈ ws
  · rw [if_pos hi, if_pos hi]
    by_cases e : j = i
    · subst e
      rw [List.getElem?_set]
      by_cases hl : j < σ.length
      · rw [if_pos rfl, if_pos hl, List.getElem?_eq_getElem hl]; rfl
      · rw [if_pos rfl, if_neg hl, List.getElem?_eq_none (by omega)]
    · rw [List.getElem?_set_ne e]
  · rw [if_neg hi, if_neg hi]
    rw [List.getElem?_set_ne (by rintro rfl; exact hi h)]
theorem wipe_wipe {σ : L2.St} {ws : List Nat} : wipe (wipe σ ws) ws = wipe σ ws := by
  apply List.ext_getElem?
  intro i
  rw [wipe_get, wipe_get]
  by_cases hi : i ∈ ws
  · rw [if_pos hi, if_pos hi, Option.map_map]; rfl
  · rw [if_neg hi, if_neg hi]
/-- a target turns slots of ws alone -/
def OW (tg : TG) (ws : List Nat) : Prop := ∀ x σ0 σ H (Q : L2.St → Hp → Prop), wipe σ ws = wipe σ0 ws → tg x σ H Q → tg x σ H fun σ2 H2 => wipe σ2 ws = wipe σ0 ws ∧ Q σ2 H2
def OWs (tg : TGs) (ws : List Nat) : Prop := ∀ xs σ0 σ H (Q : L2.St → Hp → Prop), wipe σ ws = wipe σ0 ws → tg xs σ H Q → tg xs σ H fun σ2 H2 => wipe σ2 ws = wipe σ0 ws ∧ Q σ2 H2
theorem ow_name {j : Nat} {ws : List Nat} (h : j ∈ ws := by decide) : OW (gName j) ws := fun x σ0 σ H Q e q => ⟨by rw [wipe_set h]; exact e, q⟩
theorem ow_nil {ws : List Nat} : OWs gNil ws := fun xs σ0 σ H Q e q => ⟨q.1, e, q.2⟩
theorem gName_mono {j : Nat} {x : V} {σ : L2.St} {H : Hp} {Q Q' : L2.St → Hp → Prop} (h : ∀ σ H, Q σ H → Q' σ H) (q : gName j x σ H Q) : gName j x σ H Q' := h _ _ q
/-- targets are monotone -/
def MonoG (tg : TG) : Prop := ∀ x σ H (Q Q' : L2.St → Hp → Prop), (∀ σ H, Q σ H → Q' σ H) → tg x σ H Q → tg x σ H Q'
def MonoGs (tg : TGs) : Prop := ∀ xs σ H (Q Q' : L2.St → Hp → Prop), (∀ σ H, Q σ H → Q' σ H) → tg xs σ H Q → tg xs σ H Q'
structure GOk (tg : TG) (ws : List Nat) : Prop where
  ow : OW tg ws
  mono : MonoG tg
structure GsOk (tg : TGs) (ws : List Nat) : Prop where
  ow : OWs tg ws
  mono : MonoGs tg
theorem gk_name {j : Nat} {ws : List Nat} (h : j ∈ ws := by decide) : GOk (gName j) ws := ⟨ow_name h, fun x σ H Q Q' h q => h _ _ q⟩
theorem gk_nil {ws : List Nat} : GsOk gNil ws := ⟨ow_nil, fun x σ H Q Q' h q => ⟨q.1, h _ _ q.2⟩⟩
theorem gk_cons {t : TG} {u : TGs} {ws : List Nat} (a : GOk t ws) (b : GsOk u ws) : GsOk (gCons t u) ws := ⟨fun xs σ0 σ H Q e ⟨v, r, h1, q⟩ => ⟨v, r, h1, a.mono _ _ _ _ _ (fun σ2 H2 z => b.ow _ σ0 σ2 H2 Q z.1 z.2) (a.ow _ σ0 σ H _ e q)⟩,
  fun xs σ H Q Q' h ⟨v, r, h1, q⟩ => ⟨v, r, h1, a.mono _ _ _ _ _ (fun σ2 H2 z => b.mono _ _ _ _ _ h z) q⟩⟩
theorem gk_tup {K : PySem.W.Frag} {n : Nat} {t : TGs} {ws : List Nat} (a : GsOk t ws) : GOk (gTup K n t) ws := ⟨fun x σ0 σ H Q e ⟨p, xs, h1, h2, h3, q⟩ => ⟨p, xs, h1, h2, h3, a.ow _ σ0 σ H Q e q⟩, fun x σ H Q Q' h ⟨p, xs, h1, h2, h3, q⟩ => ⟨p, xs, h1, h2, h3, a.mono _ _ _ _ _ h q⟩⟩
/-- what a comprehension makes: W by the turns and what is there so far -/
def LCI (C : Cz) (n : Nat) (it : Nat → DV → Prop) (tg : TG) (tt : TT) (te : TE) (ws : List Nat) (E : EnvD) (S : DS) (Q : DV → DS → Prop) : Prop :=
  GOk tg ws ∧ n ≤ 100000 ∧ ∃ W : Nat → List PyData → Prop, W 0 [] ∧
    (∀ i x acc, i < n → it i x → W i acc → DG C tg x (wipeE E ws) S fun E1 S1 => DT C tt E1 S1 fun b S2 => if b = true then DE C te E1 S2 fun y S3 => ∃ d, y = .d d ∧ Sub S3 S ∧ W (i + 1) (acc ++ [d]) else Sub S2 S ∧ W (i + 1) acc) ∧
    ∀ acc, W n acc → ∀ p, Q (.v (.ref p)) ((p, LD acc) :: S)
theorem LCI.run {J : It} {n : Nat} {G : Hp → Prop} {Y : Nat → Hp → V → Hp → Prop} {it : Nat → DV → Prop} {tg : TG} {tt : TT} {te : TE} {ws : List Nat} {Z : List Addr} {H : Hp} {σ : L2.St} {QV : VK} (w : Walk J n G Y) (f : LCI C n it tg tt te ws E S Q) (so : SOk C Z H S) (er : ER C.K (fz H Z S) σ E)
    (k : ∀ v H' dv S', Stp C Z H S H' S' → DvR C.K (fz H' Z S') v dv → Q dv S' → QV v H')
    (hG : ∀ Z' H', SOk C Z' H' S → Fr [] (fz H Z S) (fz H' Z' S) → G H') (hY : ∀ i Z' H' x H2, i < n → SOk C Z' H' S → Fr [] (fz H Z S) (fz H' Z' S) → Y i H' x H2 → ∃ dv, Stp C Z' H' S H2 S ∧ DvR C.K (fz H2 Z' S) x dv ∧ it i dv) : ∀ D, H D = none → LC J tg tt te ws σ D QV (upd H D (.lst [])) := by
  intro D hD
  obtain ⟨gk, hn, W, w0, hs, hd⟩ := f
  have nD := so.new hD
  have efz : ∀ (H' : Hp) (o : HO), fz (upd H' D o) (D :: Z) S = fz H' (D :: Z) S := fun H' o => by
    funext b
    unfold fz U.ws
    by_cases h : b ∈ D :: Z ++ dom S
    · rw [if_pos h, if_pos h]
    · rw [if_neg h, if_neg h]
      exact upd_ne (by rintro rfl; exact h (by simp))
  have efz0 : fz H (D :: Z) S = fz H Z S := by
    funext b
    unfold fz U.ws
    by_cases h : b ∈ Z ++ dom S
    · rw [if_pos h, if_pos (by rw [List.cons_append]; exact List.mem_cons_of_mem _ h)]
    · rw [if_neg h]
      by_cases e : b = D
      · subst e; rw [if_pos (by simp), hD]
      · rw [if_neg (by rw [List.cons_append]; intro z; rcases List.mem_cons.mp z with z | z; exact e z; exact h z)]
  have sup : ∀ H' o, SOk C (D :: Z) H' S → SOk C (D :: Z) (upd H' D o) S := fun H' o s => by
    refine ⟨s.nd, s.z, fun a ha => ?_, fun x hx => ?_⟩
    · by_cases e : a = D
      · subst e; exact ⟨o, upd_same⟩
      · obtain ⟨u, eu⟩ := s.zl a ha
        exact ⟨u, by rw [upd_ne e]; exact eu⟩
    · rw [efz]
      exact x.2.loc Fr.refl (fun b hb => upd_ne (by rintro rfl; exact s.z _ (mem_dom.mpr ⟨x, hx, hb⟩) List.mem_cons_self)) (s.ok x hx)
  have so1 : SOk C (D :: Z) (upd H D (.lst [])) S := by
    refine ⟨so.nd, fun a ha z => ?_, fun a ha => ?_, fun x hx => ?_⟩
    · rcases List.mem_cons.mp z with rfl | z
      · exact nD.2 ha
      · exact so.z a ha z
    · rcases List.mem_cons.mp ha with rfl | z
      · exact ⟨_, upd_same⟩
      · obtain ⟨u, eu⟩ := so.zl a z
        exact ⟨u, by rw [upd_ne (by rintro rfl; rw [hD] at eu; cases eu)]; exact eu⟩
    · rw [efz, efz0]
      exact x.2.loc Fr.refl (fun b hb => upd_ne (by rintro rfl; exact nD.2 (mem_dom.mpr ⟨x, hx, hb⟩))) (so.ok x hx)
  refine lc_it w (fun i H' => ∃ acc us, SOk C (D :: Z) H' S ∧ Fr [] (fz H Z S) (fz H' (D :: Z) S) ∧ Fr (dom S) H H' ∧ H' D = some (.lst us) ∧ DgAll C.K (fz H' (D :: Z) S) us acc ∧ acc.length ≤ i ∧ W i acc) ?_ ?_ ?_ ?_
  · exact ⟨[], [], so1, by rw [efz, efz0]; exact Fr.refl, Fr.new hD, upd_same, .nil, Nat.le_refl _, w0⟩
  · rintro i H' _ ⟨acc, us, s, f, _⟩
    exact hG _ H' s f
  · rintro i x H' H2 hi ⟨acc, us, s, f, fr, eD, a, la, w1⟩ y
    obtain ⟨dv, st2, rv, hit⟩ := hY i (D :: Z) H' x H2 hi s f y
    have nDS : D ∉ dom S := nD.2
    refine gk.ow x σ (wipe σ ws) H2 _ wipe_wipe ?_
    have f2 := f.trans st2.fz
    have keepD : ∀ H4 S4, Stp C (D :: Z) H2 S H4 S4 → H4 D = some (.lst us) := fun H4 S4 st => st.fr D _ (st2.fr D _ eD nDS) nDS
    have frs : ∀ H4 S4, Stp C (D :: Z) H2 S H4 S4 → Sub S4 S → SOk C (D :: Z) H4 S ∧ Fr [] (fz H Z S) (fz H4 (D :: Z) S) ∧ Fr (dom S) H H4 ∧ Fr [] (fz H' (D :: Z) S) (fz H4 (D :: Z) S) := fun H4 S4 st sb => by
      have w := st2.trans (st.trans (sb.stp st.so))
      exact ⟨w.so, f.trans w.fz, fr.trans w.fr, w.fz⟩
    refine hs i dv acc hi hit w1 (D :: Z) (wipe σ ws) H2 st2.so ((er.wipe ws).fr f2) x rv _ fun σ3 H3 E3 S3 st3 er3 n3 => ?_
    refine n3 (D :: Z) σ3 H3 st3.so er3 _ fun b H4 S4 st4 q4 => ?_
    have st24 := st3.trans st4
    cases b with
    | false =>
      obtain ⟨sb, w2⟩ := (q4 : Sub S4 S ∧ W (i + 1) acc)
      obtain ⟨g1, g2, g3, g4⟩ := frs H4 S4 st24 sb
      rw [if_neg Bool.false_ne_true]
      exact ⟨acc, us, g1, g2, g3, keepD H4 S4 st24, DgAll.fr g4 a, by omega, w2⟩
    | true =>
      rw [if_pos rfl]
      refine (q4 : DE C te E3 S4 _) (D :: Z) σ3 H4 st4.so (er3.fr st4.fz) _ fun y H5 dy S5 st5 ry q5 => ?_
      obtain ⟨d, rfl, sb, w2⟩ := q5
      have st25 := st24.trans st5
      obtain ⟨g1, g2, g3, g4⟩ := frs H5 S5 st25 sb
      have eD5 := keepD H5 S5 st25
      have lu : us.length = acc.length := DgAll.length a
      refine ⟨us, eD5, Nat.lt_of_le_of_lt (show us.length ≤ 100000 by omega) (by decide), acc ++ [d], us ++ [y], sup _ _ g1, by rw [efz]; exact g2, fun a o e n => by rw [upd_ne (by rintro rfl; rw [hD] at e; cases e)]; exact g3 a o e n, upd_same, ?_, by simp only [List.length_append, List.length_cons, List.length_nil]; omega, w2⟩
      · rw [efz]
        exact DgAll.append (DgAll.fr g4 a) (.cons (DvR.fr (sb.stp st5.so).fz ry) .nil)
  · rintro H' ⟨acc, us, s, f, fr, eD, a, la, w1⟩
    have ed : dom ((D, LD acc) :: S) = D :: dom S := rfl
    have ez : fz H' Z ((D, LD acc) :: S) = fz H' (D :: Z) S := ws_congr fun b => by
      rw [ed]
      simp only [List.mem_append, List.mem_cons]
      constructor
      · rintro (h | h | h)
        · exact .inl (.inr h)
        · exact .inl (.inl h)
        · exact .inr h
      · rintro ((h | h) | h)
        · exact .inr (.inl h)
        · exact .inl h
        · exact .inr (.inr h)
    refine k _ H' (.v (.ref D)) ((D, LD acc) :: S) ⟨⟨?_, ?_, ?_, ?_⟩, fr, ?_⟩ rfl (hd acc w1 D)
    · rw [ed]; exact List.nodup_cons.mpr ⟨nD.2, so.nd⟩
    · intro b hb
      rw [ed] at hb
      rcases List.mem_cons.mp hb with rfl | h
      · exact nD.1
      · exact so.z b h
    · intro b hb
      exact s.zl b (List.mem_cons_of_mem _ hb)
    · intro x hx
      rw [ez]
      rcases List.mem_cons.mp hx with rfl | h
      · exact ⟨us, eD, DvAll.of a⟩
      · exact s.ok x h
    · intro b hb
      rw [ed] at hb
      rcases List.mem_cons.mp hb with rfl | h
      · exact .inr hD
      · exact .inl h

theorem d_lcT {tg : TG} {tt : TT} {ws : List Nat} (q : DE C tl E S fun x S1 => ∃ ds, x = .d (.tuple ds) ∧ LCI C ds.length (fun i x => ∃ d, ds[i]? = some d ∧ x = .d d) tg tt te ws E S1 Q) : DE C (tLc (iTup C.K tl) tg tt te ws) E S Q := fun Z σ H so er QV k =>
  q Z σ H so er _ fun v H1 x S1 s1 rv q1 => by
    obtain ⟨ds, rfl, f⟩ := q1
    obtain ⟨p, vs, rfl, s, aa⟩ := Dg.tuple rv
    have hl := DgAll.length aa
    rw [← hl] at f
    refine ⟨p, rfl, ⟨vs, fz_fr.seqT s (by simp)⟩, f.run walk_tup s1.so (er.fr s1.fz) (fun v H' dv S' st => k v H' dv S' (s1.trans st)) (fun Z' H' _ f => fz_fr.seqT (f.seqT s (by simp)) (by simp)) fun i Z' H' x H2 hi so' f y => ?_⟩
    obtain ⟨rfl, hx⟩ := y
    obtain ⟨d, h1, h2⟩ := DgAll.get (DgAll.fr f aa) hx
    exact ⟨.d d, Stp.refl so', h2, d, h1, rfl⟩
theorem d_lcD {tg : TG} {tt : TT} {ws : List Nat} (q : DE C tl E S fun x S1 => ∃ ds, x = .d (.list ds) ∧ LCI C ds.length (fun i x => ∃ d, ds[i]? = some d ∧ x = .d d) tg tt te ws E S1 Q) : DE C (tLc (iList C.K tl) tg tt te ws) E S Q := fun Z σ H so er QV k =>
  q Z σ H so er _ fun v H1 x S1 s1 rv q1 => by
    obtain ⟨ds, rfl, f⟩ := q1
    obtain ⟨p, vs, rfl, s, aa⟩ := Dg.list rv
    have hl := DgAll.length aa
    rw [← hl] at f
    refine ⟨p, rfl, ⟨vs, fz_fr.seqL s (by simp)⟩, f.run walk_list s1.so (er.fr s1.fz) (fun v H' dv S' st => k v H' dv S' (s1.trans st)) (fun Z' H' _ f => fz_fr.seqL (f.seqL s (by simp)) (by simp)) fun i Z' H' x H2 hi so' f y => ?_⟩
    obtain ⟨rfl, hx⟩ := y
    obtain ⟨d, h1, h2⟩ := DgAll.get (DgAll.fr f aa) hx
    exact ⟨.d d, Stp.refl so', h2, d, h1, rfl⟩
theorem d_lcL {tg : TG} {tt : TT} {ws : List Nat} (q : DE C tl E S fun x S1 => ∃ p xs, x = .v (.ref p) ∧ (∃ R, Pick S1 p (LST xs) R) ∧ LCI C xs.length (fun i x => xs[i]? = some x) tg tt te ws E S1 Q) : DE C (tLc (iList C.K tl) tg tt te ws) E S Q := fun Z σ H so er QV k =>
  q Z σ H so er _ fun v H1 x S1 s1 rv q1 => by
    obtain ⟨p, xs, rfl, ⟨R, pk⟩, f⟩ := q1
    cases rv
    obtain ⟨vs, ev, r⟩ := s1.so.lst pk
    refine ⟨p, rfl, ⟨vs, SqL.of ev⟩, ?_⟩
    have wk : Walk (Itl C.K p) xs.length (fun H => ∃ us, H p = some (.lst us) ∧ us.length = xs.length) (fun i H x H' => H' = H ∧ ∀ us, H p = some (.lst us) → us[i]? = some x) :=
      ⟨fun i H hi ⟨us, h1, h2⟩ => ⟨us, us[i]'(by omega), SqL.of h1, List.getElem?_eq_getElem _⟩, fun H ⟨us, h1, h2⟩ => ⟨us, SqL.of h1, by omega⟩, fun i H x H' hi _ y => ⟨y.1, fun us h => y.2 us (SqL.of h)⟩⟩
    refine f.run wk s1.so (er.fr s1.fz) (fun v H' dv S' st => k v H' dv S' (s1.trans st)) (fun Z' H' so' f => ?_) fun i Z' H' x H2 hi so' f y => ?_
    · obtain ⟨us, h1, h2⟩ := so'.lst pk
      exact ⟨us, h1, h2.length⟩
    · obtain ⟨us, h1, h2⟩ := so'.lst pk
      obtain ⟨rfl, hx⟩ := y
      obtain ⟨dv, h3, h4⟩ := h2.getL (hx us h1)
      exact ⟨dv, Stp.refl so', h4, h3⟩
theorem d_lcR1 {tg : TG} {tt : TT} {ws : List Nat} (q : DA C tr E S fun xs S1 => ∃ j : Int, xs = [.d (.int j)] ∧ j ≤ 100000 ∧ -(2 ^ 61) ≤ j ∧ LCI C j.toNat (fun i x => x = .d (.int i)) tg tt te ws E S1 Q) : DE C (tLc (iRng1 tr) tg tt te ws) E S Q := fun Z σ H so er QV k =>
  q Z σ H so er _ fun vs H1 xs S1 s1 rs q1 => by
    obtain ⟨j, rfl, h1, h2, f⟩ := q1
    obtain ⟨v, rfl, rv⟩ := rs.one
    cases int_of rv
    refine ⟨j, rfl, by omega, by omega, f.run walk_range s1.so (er.fr s1.fz) (fun v H' dv S' st => k v H' dv S' (s1.trans st)) (fun _ _ _ _ => trivial) fun i Z' H' x H2 hi so' f y => ?_⟩
    obtain ⟨rfl, rfl⟩ := y
    refine ⟨.d (.int i), Stp.refl so', ?_, rfl⟩
    show DvR _ _ (V.int (0 + (i : Int))) _
    rw [Int.zero_add]
    exact Dg.int _
theorem d_lcR2 {tg : TG} {tt : TT} {ws : List Nat} (q : DA C tr E S fun xs S1 => ∃ l j : Int, xs = [.d (.int l), .d (.int j)] ∧ (-(2 ^ 61) ≤ l ∧ l ≤ 2 ^ 61 ∧ -(2 ^ 61) ≤ j ∧ j ≤ 2 ^ 61) ∧ LCI C (j - l).toNat (fun i x => x = .d (.int (l + i))) tg tt te ws E S1 Q) : DE C (tLc (iRng2 tr) tg tt te ws) E S Q := fun Z σ H so er QV k =>
  q Z σ H so er _ fun vs H1 xs S1 s1 rs q1 => by
    obtain ⟨l, j, rfl, h1, f⟩ := q1
    obtain ⟨v, u, rfl, rv, ru⟩ := rs.two
    cases int_of rv; cases int_of ru
    refine ⟨l, j, rfl, ⟨by omega, by omega, by omega, by omega⟩, f.run walk_range s1.so (er.fr s1.fz) (fun v H' dv S' st => k v H' dv S' (s1.trans st)) (fun _ _ _ _ => trivial) fun i Z' H' x H2 hi so' f y => ?_⟩
    obtain ⟨rfl, rfl⟩ := y
    exact ⟨.d (.int (l + i)), Stp.refl so', Dg.int _, rfl⟩
theorem DE.imp {Q' : DV → DS → Prop} (h : DE C te E S Q) (i : ∀ x S, Q x S → Q' x S) : DE C te E S Q' := fun Z σ H so er QV k => h Z σ H so er QV fun v H' dv S' s r q => k v H' dv S' s r (i _ _ q)
theorem DT.imp {tt : TT} {QB QB' : Bool → DS → Prop} (h : DT C tt E S QB) (i : ∀ x S, QB x S → QB' x S) : DT C tt E S QB' := fun Z σ H so er Q1 k => h Z σ H so er Q1 fun b H' S' s q => k b H' S' s (i _ _ q)
theorem DG.imp {tg : TG} {x : DV} {N N' : EnvD → DS → Prop} (h : DG C tg x E S N) (i : ∀ x S, N x S → N' x S) : DG C tg x E S N' := fun Z σ H so er v rv Q1 k => h Z σ H so er v rv Q1 fun b H' E' S' s r q => k b H' E' S' s r (i _ _ q)
/-- a pure map with a test over data -/
theorem lci_map {ds : List PyData} {tg : TG} {tt : TT} {ws : List Nat} (f : PyData → Bool) (g : PyData → PyData) (gk : GOk tg ws) (hn : ds.length ≤ 100000)
    (hs : ∀ d, d ∈ ds → DG C tg (.d d) (wipeE E ws) S fun E1 S1 => DT C tt E1 S1 fun b S2 => b = f d ∧ (f d = false → Sub S2 S) ∧ (f d = true → DE C te E1 S2 fun y S3 => y = .d (g d) ∧ Sub S3 S))
    (hq : ∀ p, Q (.v (.ref p)) ((p, LD ((ds.filter f).map g)) :: S)) : LCI C ds.length (fun i x => ∃ d, ds[i]? = some d ∧ x = .d d) tg tt te ws E S Q := by
  refine ⟨gk, hn, fun i acc => acc = ((ds.take i).filter f).map g, rfl, ?_, fun acc h p => ?_⟩
  · rintro i x acc hi ⟨d, hd, rfl⟩ rfl
    refine (hs d (List.mem_of_getElem? hd)).imp fun E1 S1 h1 => h1.imp fun b S2 ⟨hb, sb, he⟩ => ?_
    subst hb
    cases hf : f d with
    | false =>
      rw [if_neg Bool.false_ne_true]
      refine ⟨sb hf, ?_⟩
      show _ = List.map g (List.filter f (List.take (i + 1) ds))
      rw [take_filt hd, hf]
      show _ = List.map g (List.filter f (List.take i ds) ++ [])
      rw [List.append_nil]
    | true =>
      rw [if_pos rfl]
      refine (he hf).imp fun y S3 ⟨hy, sb3⟩ => ⟨g d, hy, sb3, ?_⟩
      show _ = List.map g (List.filter f (List.take (i + 1) ds))
      rw [take_filt hd, hf, List.map_append]
      rfl
  · rw [h, List.take_length]
    exact hq p
end
/-! ### calls -/
section
variable {S R R' : DS} {Q : DV → DS → Prop} {sp : DSp} {xs : List DV} {a b : Addr} {o o' : DO}
/-- nothing of one's own is handed over -/
theorem call0 (h : sp xs [] fun dv S1' => ∃ S', (S1' ++ S).Perm S' ∧ Q dv S') : DCall sp xs S Q := ⟨[], S, .refl _, h⟩
theorem call1 (p : Pick S a o R) (h : sp xs [(a, o)] fun dv S1' => ∃ S', (S1' ++ R).Perm S' ∧ Q dv S') : DCall sp xs S Q := ⟨[(a, o)], R, p.perm, h⟩
theorem call2 (p : Pick S a o R) (p' : Pick R b o' R') (h : sp xs [(a, o), (b, o')] fun dv S1' => ∃ S', (S1' ++ R').Perm S' ∧ Q dv S') : DCall sp xs S Q := ⟨[(a, o), (b, o')], R', p.perm.trans (List.Perm.cons _ p'.perm), h⟩
theorem ret0 {dv : DV} (q : Q dv S) : ∃ S', (([] : DS) ++ S).Perm S' ∧ Q dv S' := ⟨S, .refl _, q⟩
theorem retN {dv : DV} (q : Q dv ((a, o) :: S)) : ∃ S', (([(a, o)] : DS) ++ S).Perm S' ∧ Q dv S' := ⟨_, .refl _, q⟩
theorem ret1 {dv : DV} (p : Pick S a o R) (q : Q dv S) : ∃ S', (([(a, o)] : DS) ++ R).Perm S' ∧ Q dv S' := ⟨S, p.perm.symm, q⟩
theorem ret1N {dv : DV} (p : Pick S a o R) (q : Q dv ((b, o') :: S)) : ∃ S', (([(b, o'), (a, o)] : DS) ++ R).Perm S' ∧ Q dv S' := ⟨(b, o') :: S, List.Perm.cons _ p.perm.symm, q⟩
end
end U

/-! one reading for a walk whatever is walked; texts -/
namespace U
open PySem PySem.Spec PyProof.Rows L2
section
variable {X : Cx} {tg : Expr}
def altL (K : PySem.W.Frag) (x : V) (H1 : Hp) (R : It → Hp → Prop) : Prop := ∃ a, x = .ref a ∧ (∃ xs, SqL K H1 a xs) ∧ R (Itl K a) H1
def altT (K : PySem.W.Frag) (x : V) (H1 : Hp) (R : It → Hp → Prop) : Prop := ∃ a, x = .ref a ∧ (∃ xs, SqT K H1 a xs) ∧ R (Itt K a) H1
def altS (x : V) (H1 : Hp) (R : It → Hp → Prop) : Prop := ∃ z, x = .str z ∧ R (Its z) H1
/-- a list, a tuple, a text -/
def iU (K : PySem.W.Frag) (te : TE) : TI := fun σ H R => te σ H fun x H1 => altL K x H1 R ∨ altT K x H1 R ∨ altS x H1 R
theorem pi_U {e : Expr} {te : TE} (he : PE X e te) : PI X tg e (iU X.K te) := by
  refine ⟨fun pins s σ H R I h => ?_⟩
  refine thn (he.run pins s σ H _ I h) fun v s1 ⟨x, H1, I1, r1, q1⟩ => ?_
  rcases q1 with ⟨a, rfl, ⟨xs, hq⟩, q⟩ | ⟨a, rfl, ⟨xs, hq⟩, q⟩ | ⟨z, rfl, q⟩
  · cases r1
    obtain ⟨its, rv, p, hz⟩ := I1.list hq
    refine wpAny_pyIter_list p.isList ?_
    refine ⟨s1.heap.objs.size, [s1.heap.objs.size], _, _, H1, rfl, I1.kept (t' := s1.toks) fun b o e => Heap.get?_push_of_some _ e, turn_list a _, ⟨_, Heap.get?_push_size _ rfl, rfl, rfl⟩, fun b hb => ?_, q⟩
    have e : b = s1.heap.objs.size := by simpa using hb
    subst e
    exact I1.fpOk (Nat.le_refl _) (I1.hok.fresh (Nat.le_refl _))
  · cases r1
    obtain ⟨its, rv, p, hz⟩ := I1.tuple hq
    refine wpAny_pyIter_tuple (show s1.heap.IsTuple a its.toArray from p) ?_
    refine ⟨s1.heap.objs.size, [s1.heap.objs.size], _, _, H1, rfl, I1.kept (t' := s1.toks) fun b o e => Heap.get?_push_of_some _ e, turn_tuple a _, ⟨_, Heap.get?_push_size _ rfl, rfl, rfl⟩, fun b hb => ?_, q⟩
    have e : b = s1.heap.objs.size := by simpa using hb
    subst e
    exact I1.fpOk (Nat.le_refl _) (I1.hok.fresh (Nat.le_refl _))
  · obtain ⟨t, rfl⟩ := r1
    cases ha : z.cps.all (· < 128)
    · exact wpAny_pyIter_wide ha (pi_one (tk := s1.toks) I1 _ (turn_str _ z t "str_iterator" (.inr rfl)) ⟨_, Heap.get?_push_size _ rfl, rfl, rfl⟩ q)
    · exact wpAny_pyIter_ascii ha (pi_one (tk := s1.toks) I1 _ (turn_str _ z t "str_ascii_iterator" (.inl rfl)) ⟨_, Heap.get?_push_size _ rfl, rfl, rfl⟩ q)
theorem pi_UU {K : PySem.W.Frag} {e : Expr} {te : TE} (hK : X.K = K) (he : PE X e te) : PI X tg e (iU K te) := by subst hK; exact pi_U he
end
section
variable {C : Cz} {E : EnvD} {S : DS} {Q : DV → DS → Prop} {tl te : TE} {M : DEnds} {n : Nat}
/-- what is walked: how many turns, the items, what has to stay -/
inductive Itm (S : DS) : DV → (Nat) → (Nat → DV → Prop) → (DS → Prop) → Prop
  | tup {ds : List PyData} : Itm S (.d (.tuple ds)) ds.length (fun i x => ∃ d, ds[i]? = some d ∧ x = .d d) (fun _ => True)
  | lst {ds : List PyData} : Itm S (.d (.list ds)) ds.length (fun i x => ∃ d, ds[i]? = some d ∧ x = .d d) (fun _ => True)
  | str {z : Str} : Itm S (.d (.str z)) z.cps.size (fun i x => ∃ c, z.cps[i]? = some c ∧ x = .d (.str ⟨#[c]⟩)) (fun _ => True)
  | own {p : Addr} {xs : List DV} {R : DS} : Pick S p (LST xs) R → Itm S (.v (.ref p)) xs.length (fun i x => xs[i]? = some x) (fun S' => ∃ R, Pick S' p (LST xs) R)
  | ownD {p : Addr} {ds : List PyData} {R : DS} : Pick S p (LD ds) R → Itm S (.v (.ref p)) ds.length (fun i x => ∃ d, ds[i]? = some d ∧ x = .d d) (fun S' => ∃ R, Pick S' p (LD ds) R)
/-- how to go over it -/
structure Going (C : Cz) (Z : List Addr) (H : Hp) (S : DS) (n : Nat) (it : Nat → DV → Prop) (keep : DS → Prop) (J : It) : Prop where
  ex : ∃ (G : Hp → Prop) (Y : Nat → Hp → V → Hp → Prop), Walk J n G Y ∧ (∀ Z' H' S', SOk C Z' H' S' → Fr [] (fz H Z S) (fz H' Z' S') → keep S' → G H') ∧
    ∀ i Z' H' S' x H2, i < n → SOk C Z' H' S' → Fr [] (fz H Z S) (fz H' Z' S') → keep S' → Y i H' x H2 → ∃ dv, Stp C Z' H' S' H2 S' ∧ DvR C.K (fz H2 Z' S') x dv ∧ it i dv
theorem own_walk {K : PySem.W.Frag} {p : Addr} {n : Nat} : Walk (Itl K p) n (fun H => ∃ us, H p = some (.lst us) ∧ us.length = n) (fun i H x H' => H' = H ∧ ∀ us, H p = some (.lst us) → us[i]? = some x) :=
  ⟨fun i H hi ⟨us, h1, h2⟩ => ⟨us, us[i]'(by omega), SqL.of h1, List.getElem?_eq_getElem _⟩, fun H ⟨us, h1, h2⟩ => ⟨us, SqL.of h1, by omega⟩, fun i H x H' hi _ y => ⟨y.1, fun us h => y.2 us (SqL.of h)⟩⟩
theorem Itm.go {Z : List Addr} {H : Hp} {x : DV} {it : Nat → DV → Prop} {keep : DS → Prop} {v : V} {R : It → Hp → Prop} (m : Itm S x n it keep) (so : SOk C Z H S) (rv : DvR C.K (fz H Z S) v x) (k : ∀ J, Going C Z H S n it keep J → R J H) : altL C.K v H R ∨ altT C.K v H R ∨ altS v H R := by
  cases m with
  | tup =>
    obtain ⟨p, vs, rfl, s, aa⟩ := Dg.tuple rv
    have hl := DgAll.length aa
    refine .inr (.inl ⟨p, rfl, ⟨vs, fz_fr.seqT s (by simp)⟩, k _ ⟨_, _, by rw [← hl]; exact walk_tup, fun Z' H' S' _ f _ => fz_fr.seqT (f.seqT s (by simp)) (by simp), fun i Z' H' S' x H2 hi so' f _ y => ?_⟩⟩)
    obtain ⟨rfl, hx⟩ := y
    obtain ⟨d, h1, h2⟩ := DgAll.get (DgAll.fr f aa) hx
    exact ⟨.d d, Stp.refl so', h2, d, h1, rfl⟩
  | lst =>
    obtain ⟨p, vs, rfl, s, aa⟩ := Dg.list rv
    have hl := DgAll.length aa
    refine .inl ⟨p, rfl, ⟨vs, fz_fr.seqL s (by simp)⟩, k _ ⟨_, _, by rw [← hl]; exact walk_list, fun Z' H' S' _ f _ => fz_fr.seqL (f.seqL s (by simp)) (by simp), fun i Z' H' S' x H2 hi so' f _ y => ?_⟩⟩
    obtain ⟨rfl, hx⟩ := y
    obtain ⟨d, h1, h2⟩ := DgAll.get (DgAll.fr f aa) hx
    exact ⟨.d d, Stp.refl so', h2, d, h1, rfl⟩
  | str =>
    cases str_of rv
    refine .inr (.inr ⟨_, rfl, k _ ⟨_, _, walk_str, fun _ _ _ _ _ _ => trivial, fun i Z' H' S' x H2 hi so' f _ y => ?_⟩⟩)
    obtain ⟨rfl, c, hc, rfl⟩ := y
    exact ⟨.d (.str ⟨#[c]⟩), Stp.refl so', Dg.str _, c, hc, rfl⟩
  | own pk =>
    cases rv
    obtain ⟨vs, ev, r⟩ := so.lst pk
    refine .inl ⟨_, rfl, ⟨vs, SqL.of ev⟩, k _ ⟨_, _, own_walk, fun Z' H' S' so' f ⟨R, pk⟩ => ?_, fun i Z' H' S' x H2 hi so' f ⟨R, pk⟩ y => ?_⟩⟩
    · obtain ⟨us, h1, h2⟩ := so'.lst pk
      exact ⟨us, h1, h2.length⟩
    · obtain ⟨us, h1, h2⟩ := so'.lst pk
      obtain ⟨rfl, hx⟩ := y
      obtain ⟨dv, h3, h4⟩ := h2.getL (hx us h1)
      exact ⟨dv, Stp.refl so', h4, h3⟩
  | @ownD p ds R0 pk =>
    cases rv
    obtain ⟨vs, ev, r⟩ := so.lst pk
    refine .inl ⟨_, rfl, ⟨vs, SqL.of ev⟩, k _ ⟨_, _, own_walk, fun Z' H' S' so' f ⟨R, pk⟩ => ?_, fun i Z' H' S' x H2 hi so' f ⟨R, pk⟩ y => ?_⟩⟩
    · obtain ⟨us, h1, h2⟩ := so'.lst pk
      exact ⟨us, h1, by rw [h2.length, List.length_map]⟩
    · obtain ⟨us, h1, h2⟩ := so'.lst pk
      obtain ⟨rfl, hx⟩ := y
      obtain ⟨dv, h3, h4⟩ := h2.getL (hx us h1)
      obtain ⟨d, h5, rfl⟩ := map_get h3
      exact ⟨.d d, Stp.refl so', h4, d, h5, rfl⟩
/-- the turns of a for, of a comprehension, over a value -/
def FORX (C : Cz) (x : DV) (tg : TG) (tb : TS) (E : EnvD) (S : DS) (M : DEnds) : Prop := ∃ n it keep, Itm S x n it keep ∧ FORI C n it keep tg tb E S M
def LCX (C : Cz) (x : DV) (tg : TG) (tt : TT) (te : TE) (ws : List Nat) (E : EnvD) (S : DS) (Q : DV → DS → Prop) : Prop := ∃ n it keep, Itm S x n it keep ∧ keep S ∧ LCI C n it tg tt te ws E S Q
theorem d_forU {tg : TG} {tb : TS} (q : DE C tl E S fun x S1 => FORX C x tg tb E S1 M) : DSt C (tFor (iU C.K tl) tg tb) E S M := fun Z σ H so er D e =>
  q Z σ H so er _ fun v H1 x S1 s1 rv q1 => by
    obtain ⟨n, it, keep, im, f⟩ := q1
    refine im.go s1.so rv fun J ⟨G, Y, w, hg, hy⟩ => ?_
    exact f.run w s1.so (er.fr s1.fz) (e.step s1) (fun H' S' st kp => hg Z H' S' st.so st.fz kp) fun i H' S' x H2 hi st kp y => hy i Z H' S' x H2 hi st.so st.fz kp y
theorem d_lcU {tg : TG} {tt : TT} {ws : List Nat} (q : DE C tl E S fun x S1 => LCX C x tg tt te ws E S1 Q) : DE C (tLc (iU C.K tl) tg tt te ws) E S Q := fun Z σ H so er QV k =>
  q Z σ H so er _ fun v H1 x S1 s1 rv q1 => by
    obtain ⟨n, it, keep, im, kp, f⟩ := q1
    refine im.go s1.so rv fun J ⟨G, Y, w, hg, hy⟩ => ?_
    exact f.run w s1.so (er.fr s1.fz) (fun v H' dv S' st => k v H' dv S' (s1.trans st)) (fun Z' H' so' f => hg Z' H' S1 so' f kp) fun i Z' H' x H2 hi so' f y => hy i Z' H' S1 x H2 hi so' f kp y
theorem forT {ds : List PyData} {tg : TG} {tb : TS} (f : FORI C ds.length (fun i x => ∃ d, ds[i]? = some d ∧ x = .d d) (fun _ => True) tg tb E S M) : FORX C (.d (.tuple ds)) tg tb E S M := ⟨_, _, _, .tup, f⟩
theorem forD {ds : List PyData} {tg : TG} {tb : TS} (f : FORI C ds.length (fun i x => ∃ d, ds[i]? = some d ∧ x = .d d) (fun _ => True) tg tb E S M) : FORX C (.d (.list ds)) tg tb E S M := ⟨_, _, _, .lst, f⟩
theorem forLD {ds : List PyData} {p : Addr} {R : DS} {tg : TG} {tb : TS} (pk : Pick S p (LD ds) R) (f : FORI C ds.length (fun i x => ∃ d, ds[i]? = some d ∧ x = .d d) (fun S' => ∃ R, Pick S' p (LD ds) R) tg tb E S M) : FORX C (.v (.ref p)) tg tb E S M := ⟨_, _, _, .ownD pk, f⟩
theorem lcT {ds : List PyData} {tg : TG} {tt : TT} {ws : List Nat} (f : LCI C ds.length (fun i x => ∃ d, ds[i]? = some d ∧ x = .d d) tg tt te ws E S Q) : LCX C (.d (.tuple ds)) tg tt te ws E S Q := ⟨_, _, _, .tup, trivial, f⟩
theorem lcD {ds : List PyData} {tg : TG} {tt : TT} {ws : List Nat} (f : LCI C ds.length (fun i x => ∃ d, ds[i]? = some d ∧ x = .d d) tg tt te ws E S Q) : LCX C (.d (.list ds)) tg tt te ws E S Q := ⟨_, _, _, .lst, trivial, f⟩
theorem lcLD {ds : List PyData} {p : Addr} {R : DS} {tg : TG} {tt : TT} {ws : List Nat} (pk : Pick S p (LD ds) R) (f : LCI C ds.length (fun i x => ∃ d, ds[i]? = some d ∧ x = .d d) tg tt te ws E S Q) : LCX C (.v (.ref p)) tg tt te ws E S Q := ⟨_, _, _, .ownD pk, ⟨R, pk⟩, f⟩
/-- sign by sign -/
theorem lcS {z : Str} {tg : TG} {tt : TT} {ws : List Nat} (f : PyData → Bool) (g : PyData → PyData) (gk : GOk tg ws) (hn : z.length ≤ 100000)
    (hs : ∀ c, c ∈ z.cps.toList → DG C tg (.d (.str ⟨#[c]⟩)) (wipeE E ws) S fun E1 S1 => DT C tt E1 S1 fun b S2 => b = f (.str ⟨#[c]⟩) ∧ (f (.str ⟨#[c]⟩) = false → Sub S2 S) ∧ (f (.str ⟨#[c]⟩) = true → DE C te E1 S2 fun y S3 => y = .d (g (.str ⟨#[c]⟩)) ∧ Sub S3 S))
    (hq : ∀ p, Q (.v (.ref p)) ((p, LD (((z.cps.toList.map fun c => PyData.str ⟨#[c]⟩).filter f).map g)) :: S)) : LCX C (.d (.str z)) tg tt te ws E S Q := by
  refine ⟨_, _, _, .str, trivial, ?_⟩
  have := lci_map (C := C) (E := E) (S := S) (Q := Q) (te := te) (ds := z.cps.toList.map fun c => PyData.str ⟨#[c]⟩) (tg := tg) (tt := tt) (ws := ws) f g gk (by rw [List.length_map]; exact hn) (fun d hd => by
    obtain ⟨c, hc, rfl⟩ := List.mem_map.mp hd
    exact hs c hc) hq
  rw [List.length_map] at this
  have e : (fun (i : Nat) (x : DV) => ∃ d, (z.cps.toList.map fun c => PyData.str ⟨#[c]⟩)[i]? = some d ∧ x = .d d) = fun i x => ∃ c, z.cps[i]? = some c ∧ x = .d (.str ⟨#[c]⟩) := by
    funext i x
    apply propext
    constructor
    · rintro ⟨d, h, rfl⟩
      obtain ⟨c, h1, rfl⟩ := map_get h
      exact ⟨c, by simpa using h1, rfl⟩
    · rintro ⟨c, h, rfl⟩
      exact ⟨_, by rw [List.getElem?_map, show z.cps.toList[i]? = some c by simpa using h]; rfl, rfl⟩
  rw [e] at this
  exact this
theorem d_signIn {c : Nat} {z : Str} (q : Q (.d (.bool (decide (c ∈ z.cps.toList)))) S) : DR2 C (rInU C.K) (.d (.str ⟨#[c]⟩)) (.d (.str z)) S Q := fun Z H so v u rv ru QV k => by
  cases str_of rv; cases str_of ru
  exact .inr ⟨c, z, rfl, rfl, kB so k q⟩
end
/-! ### promises of old -/
theorem Fx.imp {P : Program} {w : World} {K : PySem.W.Frag} {mg : Str → Option Value} {base : Heap} {k : Nat} {x : Str} {ps : List Str} {sp sp' : Sp} (F : Fx P w K mg base k x ps sp) (h : ∀ vs H Q E, sp' vs H Q E → sp vs H Q E) : Fx P w K mg base k x ps sp' := by
  obtain ⟨f, fd, a, b, c, d⟩ := F.ex
  exact ⟨f, fd, a.imp h, b, c, d⟩
theorem Fun.okD {C : Cz} {mg : Str → Option Value} {base : Heap} {x : Str} {st : Stmt} {N ps : List Str} {k : Nat} {sp : DSp} {f : Addr} {fd : FuncData} (F : Fun C.K x x st f fd) (Sc : FnScope N ps (defScope st)) (len : ∀ xs S Kt, sp xs S Kt → xs.length = ps.length)
    (hbody : ∀ (cdv : Value) (A : Around) (outer : List Env) (s : Shared) (H : Hp) (E : XK), Room k (A.deeper (envOfC x (defScope st) s.heap.objs.size f cdv)) →
      ∃ t, PSs (cxOf CX0 C.P C.w C.K mg base N x (defScope st) f cdv A outer s H E).nox (defBody st) t ∧ ∀ xs S Kt, sp xs S Kt → DSt C t (startE N xs) S ⟨fun _ S' => KW Kt (.d .none) S', KW Kt, fun _ _ => False, fun _ _ => False⟩) : FnOk C.P C.w C.K mg base CX0 (k + 1) f fd ps (toSp C sp) := by
  refine F.ok Sc (fun vs H Q E h => ?_) (fun cdv A outer s H vs Q E hr h => ?_)
  · obtain ⟨Z, xs, S, Kt, so, rv, hs, _⟩ := h
    rw [rv.length]
    exact len _ _ _ hs
  · obtain ⟨t, ht, q⟩ := hbody cdv A outer s H E hr
    obtain ⟨Z, xs, S, Kt, so, rv, hs, kk⟩ := h
    refine ⟨t, ht, ?_⟩
    have fin : ∀ v H' dv S', Stp C Z H S H' S' → DvR C.K (fz H' Z S') v dv → KW Kt dv S' → Q v H' := fun v H' dv S' st r ⟨dv', S2, wk, k⟩ => by
      obtain ⟨s2, r2⟩ := wk.run st.so r
      exact kk _ _ k v H' (st.trans s2) r2
    refine q xs S _ hs Z _ H so ?_ _ ⟨fun σ' H' E' S' st r n => fin .non H' (.d .none) S' st Dg.non n, fin, fun _ _ _ _ _ _ z => z.elim, fun _ _ _ _ _ _ z => z.elim⟩
    show ER C.K (fz H Z S) (vs.map some ++ List.replicate (N.length - vs.length) none) (xs.map some ++ List.replicate (N.length - xs.length) none)
    rw [rv.length]
    exact ER.start _ rv
/-- the law itself -/
def dsp_law : DSp := fun xs S Kt => ∃ ns : List Int, xs = [.d (.list (ns.map PyData.int))] ∧ S = [] ∧ ns.length ≤ 63 ∧ Kt (.d (.bool true)) []
theorem ints_dg {K : PySem.W.Frag} {F : Hp} : ∀ ns : List Int, DgAll K F (ns.map V.int) (ns.map PyData.int)
  | [] => .nil
  | n :: r => .cons (.int n) (ints_dg r)
theorem law_of {P : Program} {w : World} {K : PySem.W.Frag} {vs : List V} {H : Hp} {Q : VK} {E : XK} (h : ∃ (a : Addr) (ns : List Int), vs = [.ref a] ∧ SqL K H a (ns.map V.int) ∧ ns.length ≤ 63 ∧ ∀ H', Q (.bl true) H') : toSp ⟨P, w, K⟩ dsp_law vs H Q E := by
  obtain ⟨a, ns, rfl, hS, hl, k⟩ := h
  have e : fz H [] [] = H := by
    funext b
    unfold fz U.ws
    rw [if_neg (by simp [dom])]
  refine ⟨[], [.d (.list (ns.map PyData.int))], [], fun dv S' => dv = .d (.bool true), ⟨by simp [dom], fun a ha => absurd ha (by simp [dom]), fun a ha => absurd ha (by simp), fun x hx => absurd hx (by simp)⟩, ?_, ⟨ns, rfl, rfl, hl, rfl⟩, fun dv S' hd v H' _ r => ?_⟩
  · rw [e]
    exact .cons (Dg.lst hS (ints_dg ns)) .nil
  · subst hd
    cases bool_of r
    exact k H'
/-! ### the tape -/
def TAPE : DO where
  fp := []
  ok := fun C F H t => ∃ (a : Addr) (ns : List Int) (n d p : Int), H t = some (.lst [.ref a, .int n, .int d, .int p]) ∧ SqL C.K F a (ns.map V.int) ∧ 0 ≤ p
  live := fun {C F H a} h b hb => by
    obtain ⟨_, _, _, _, _, e, _⟩ := h
    rw [List.mem_singleton.mp hb]
    exact ⟨_, e⟩
  loc := fun {C F F' H H' t} f e h => by
    obtain ⟨a, ns, n, d, p, e1, s, hp⟩ := h
    exact ⟨a, ns, n, d, p, by rw [e t (by simp)]; exact e1, f.seqL s (by simp), hp⟩
/-- another sight of an own object -/
theorem Wk.obj {dv : DV} {S : DS} {p : Addr} {O O' : DO} (hf : O.fp = O'.fp) (h : ∀ C F H, O.ok C F H p → O'.ok C F H p) : Wk dv ((p, O) :: S) dv ((p, O') :: S) := ⟨fun {C Z H v} so r => by
  have ed : dom ((p, O) :: S) = dom ((p, O') :: S) := by rw [dom, dom, hf]
  have ef : fz H Z ((p, O) :: S) = fz H Z ((p, O') :: S) := by unfold fz; rw [ed]
  refine ⟨⟨⟨by rw [← ed]; exact so.nd, by rw [← ed]; exact so.z, so.zl, fun x hx => ?_⟩, Fr.refl, fun a ha => .inl (by rw [ed]; exact ha)⟩, by rw [← ef]; exact r⟩
  rw [← ef]
  rcases List.mem_cons.mp hx with rfl | hx
  · exact h _ _ _ (so.ok (p, O) List.mem_cons_self)
  · exact so.ok x (List.mem_cons_of_mem _ hx)⟩
theorem tape_of {C : Cz} {F H : Hp} {t : Addr} {ns : List Int} (h : (LD [.list (ns.map PyData.int), .int 0, .int 0, .int 0]).ok C F H t) : TAPE.ok C F H t := by
  obtain ⟨vs, e, r⟩ := h
  obtain ⟨v, r1, rfl, d1, r⟩ := r.cons_inv
  obtain ⟨v2, r2, rfl, d2, r⟩ := DvAll.cons_inv r
  obtain ⟨v3, r3, rfl, d3, r⟩ := DvAll.cons_inv r
  obtain ⟨v4, r4, rfl, d4, r⟩ := DvAll.cons_inv r
  cases DvAll.nil_inv r
  cases int_of d2; cases int_of d3; cases int_of d4
  obtain ⟨a, us, rfl, s, aa⟩ := Dg.list d1
  rw [ints_vals (DvAll.of aa)] at s
  exact ⟨a, ns, 0, 0, 0, e, s, Int.le_refl _⟩
def dsp_law_tape : DSp := fun xs S Kt => ∃ ns : List Int, xs = [.d (.list (ns.map PyData.int))] ∧ S = [] ∧ ∀ t, Kt (.v (.ref t)) [(t, TAPE)]
def dsp_law_draw : DSp := fun xs S Kt => ∃ (t : Addr) (m : Int), xs = [.v (.ref t), .d (.int m)] ∧ S = [(t, TAPE)] ∧ 0 < m ∧ m < 2 ^ 64 ∧ ∀ r, 0 ≤ r → r < m → Kt (.d (.int r)) [(t, TAPE)]
/-- a draw -/
theorem d_draw {xs : List DV} {S R : DS} {Q : DV → DS → Prop} {t : Addr} {m : Int} (p : Pick S t TAPE R) (h0 : 0 < m) (h1 : m < 2 ^ 64) (k : ∀ r, 0 ≤ r → r < m → Q (.d (.int r)) S) (hx : xs = [.v (.ref t), .d (.int m)] := by rfl) : DCall dsp_law_draw xs S Q :=
  call1 p ⟨t, m, hx, rfl, h0, h1, fun r a b => ret1 p (k r a b)⟩
end U

/-! promises of plain functions -/
namespace U
open PySem PySem.Spec PyProof.Rows L2
def pure1 (pre : PyData → Prop) (f : PyData → PyData) : DSp := fun xs S Kt => ∃ d, xs = [.d d] ∧ S = [] ∧ pre d ∧ Kt (.d (f d)) []
def pure2 (pre : PyData → PyData → Prop) (f : PyData → PyData → PyData) : DSp := fun xs S Kt => ∃ d e, xs = [.d d, .d e] ∧ S = [] ∧ pre d e ∧ Kt (.d (f d e)) []
def pure3 (pre : PyData → PyData → PyData → Prop) (f : PyData → PyData → PyData → PyData) : DSp := fun xs S Kt => ∃ d e g, xs = [.d d, .d e, .d g] ∧ S = [] ∧ pre d e g ∧ Kt (.d (f d e g)) []
/-- a plain function that answers with a list of its own -/
def fresh1 (pre : PyData → Prop) (f : PyData → List PyData) : DSp := fun xs S Kt => ∃ d, xs = [.d d] ∧ S = [] ∧ pre d ∧ ∀ p, Kt (.v (.ref p)) [(p, LD (f d))]
def fresh2 (pre : PyData → PyData → Prop) (f : PyData → PyData → List PyData) : DSp := fun xs S Kt => ∃ d e, xs = [.d d, .d e] ∧ S = [] ∧ pre d e ∧ ∀ p, Kt (.v (.ref p)) [(p, LD (f d e))]
section
variable {S R : DS} {Q : DV → DS → Prop} {d e g : PyData}
theorem call_p1 {pre : PyData → Prop} {f : PyData → PyData} (h : pre d) (q : Q (.d (f d)) S) : DCall (pure1 pre f) [.d d] S Q := call0 ⟨d, rfl, rfl, h, ret0 q⟩
theorem call_p2 {pre : PyData → PyData → Prop} {f : PyData → PyData → PyData} (h : pre d e) (q : Q (.d (f d e)) S) : DCall (pure2 pre f) [.d d, .d e] S Q := call0 ⟨d, e, rfl, rfl, h, ret0 q⟩
theorem call_p3 {pre : PyData → PyData → PyData → Prop} {f : PyData → PyData → PyData → PyData} (h : pre d e g) (q : Q (.d (f d e g)) S) : DCall (pure3 pre f) [.d d, .d e, .d g] S Q := call0 ⟨d, e, g, rfl, rfl, h, ret0 q⟩
theorem call_f1 {pre : PyData → Prop} {f : PyData → List PyData} (h : pre d) (q : ∀ p, Q (.v (.ref p)) ((p, LD (f d)) :: S)) : DCall (fresh1 pre f) [.d d] S Q := call0 ⟨d, rfl, rfl, h, fun p => retN (q p)⟩
theorem call_f2 {pre : PyData → PyData → Prop} {f : PyData → PyData → List PyData} (h : pre d e) (q : ∀ p, Q (.v (.ref p)) ((p, LD (f d e)) :: S)) : DCall (fresh2 pre f) [.d d, .d e] S Q := call0 ⟨d, e, rfl, rfl, h, fun p => retN (q p)⟩
theorem len_p1 {pre : PyData → Prop} {f : PyData → PyData} {xs : List DV} {S : DS} {Kt : DV → DS → Prop} (h : pure1 pre f xs S Kt) : xs.length = 1 := by obtain ⟨d, rfl, _⟩ := h; rfl
theorem len_p2 {pre : PyData → PyData → Prop} {f : PyData → PyData → PyData} {xs : List DV} {S : DS} {Kt : DV → DS → Prop} (h : pure2 pre f xs S Kt) : xs.length = 2 := by obtain ⟨d, e, rfl, _⟩ := h; rfl
theorem len_p3 {pre : PyData → PyData → PyData → Prop} {f : PyData → PyData → PyData → PyData} {xs : List DV} {S : DS} {Kt : DV → DS → Prop} (h : pure3 pre f xs S Kt) : xs.length = 3 := by obtain ⟨d, e, g, rfl, _⟩ := h; rfl
theorem len_f1 {pre : PyData → Prop} {f : PyData → List PyData} {xs : List DV} {S : DS} {Kt : DV → DS → Prop} (h : fresh1 pre f xs S Kt) : xs.length = 1 := by obtain ⟨d, rfl, _⟩ := h; rfl
theorem len_f2 {pre : PyData → PyData → Prop} {f : PyData → PyData → List PyData} {xs : List DV} {S : DS} {Kt : DV → DS → Prop} (h : fresh2 pre f xs S Kt) : xs.length = 2 := by obtain ⟨d, e, rfl, _⟩ := h; rfl
end
section
variable {C : Cz} {mg : Str → Option Value} {base : Heap} {x : Str} {st : Stmt} {N ps : List Str} {k : Nat}
abbrev MRet (Kt : DV → DS → Prop) : DEnds := ⟨fun _ S' => KW Kt (.d .none) S', KW Kt, fun _ _ => False, fun _ _ => False⟩
/-- a plain function of one thing -/
theorem Loc.ok1 {pre : PyData → Prop} {f : PyData → PyData} (L : Loc C.K mg x ps st) (Sc : FnScope N ps (defScope st)) (hp : ps.length = 1)
    (hbody : ∀ (fa : Addr) (cdv : Value) (A : Around) (outer : List Env) (s : Shared) (H : Hp) (E : XK), Room k (A.deeper (envOfC x (defScope st) s.heap.objs.size fa cdv)) →
      ∃ t, PSs (cxOf CX0 C.P C.w C.K mg base N x (defScope st) fa cdv A outer s H E).nox (defBody st) t ∧ ∀ d, pre d → ∀ Kt : DV → DS → Prop, (∀ S, KW Kt (.d (f d)) S) → DSt C t (startE N [.d d]) [] (MRet Kt)) : Fd C mg base (k + 1) x ps (pure1 pre f) :=
  L.okD Sc (fun xs S Kt h => by rw [hp]; exact len_p1 h) fun fa cdv A outer s H E hr => by
    obtain ⟨t, ht, q⟩ := hbody fa cdv A outer s H E hr
    refine ⟨t, ht, fun xs S Kt h => ?_⟩
    obtain ⟨d, rfl, rfl, hpre, hk⟩ := h
    exact q d hpre Kt fun S => KW.pure hk
theorem Loc.ok2 {pre : PyData → PyData → Prop} {f : PyData → PyData → PyData} (L : Loc C.K mg x ps st) (Sc : FnScope N ps (defScope st)) (hp : ps.length = 2)
    (hbody : ∀ (fa : Addr) (cdv : Value) (A : Around) (outer : List Env) (s : Shared) (H : Hp) (E : XK), Room k (A.deeper (envOfC x (defScope st) s.heap.objs.size fa cdv)) →
      ∃ t, PSs (cxOf CX0 C.P C.w C.K mg base N x (defScope st) fa cdv A outer s H E).nox (defBody st) t ∧ ∀ d e, pre d e → ∀ Kt : DV → DS → Prop, (∀ S, KW Kt (.d (f d e)) S) → DSt C t (startE N [.d d, .d e]) [] (MRet Kt)) : Fd C mg base (k + 1) x ps (pure2 pre f) :=
  L.okD Sc (fun xs S Kt h => by rw [hp]; exact len_p2 h) fun fa cdv A outer s H E hr => by
    obtain ⟨t, ht, q⟩ := hbody fa cdv A outer s H E hr
    refine ⟨t, ht, fun xs S Kt h => ?_⟩
    obtain ⟨d, e, rfl, rfl, hpre, hk⟩ := h
    exact q d e hpre Kt fun S => KW.pure hk
theorem Loc.ok3 {pre : PyData → PyData → PyData → Prop} {f : PyData → PyData → PyData → PyData} (L : Loc C.K mg x ps st) (Sc : FnScope N ps (defScope st)) (hp : ps.length = 3)
    (hbody : ∀ (fa : Addr) (cdv : Value) (A : Around) (outer : List Env) (s : Shared) (H : Hp) (E : XK), Room k (A.deeper (envOfC x (defScope st) s.heap.objs.size fa cdv)) →
      ∃ t, PSs (cxOf CX0 C.P C.w C.K mg base N x (defScope st) fa cdv A outer s H E).nox (defBody st) t ∧ ∀ d e g, pre d e g → ∀ Kt : DV → DS → Prop, (∀ S, KW Kt (.d (f d e g)) S) → DSt C t (startE N [.d d, .d e, .d g]) [] (MRet Kt)) : Fd C mg base (k + 1) x ps (pure3 pre f) :=
  L.okD Sc (fun xs S Kt h => by rw [hp]; exact len_p3 h) fun fa cdv A outer s H E hr => by
    obtain ⟨t, ht, q⟩ := hbody fa cdv A outer s H E hr
    refine ⟨t, ht, fun xs S Kt h => ?_⟩
    obtain ⟨d, e, g, rfl, rfl, hpre, hk⟩ := h
    exact q d e g hpre Kt fun S => KW.pure hk
end
/-! ### comprehensions without a test -/
section
variable {C : Cz} {E : EnvD} {S R : DS} {Q : DV → DS → Prop} {te : TE} {ds : List PyData} {tg : TG} {ws : List Nat} {q : Addr}
theorem lci_yes (g : PyData → PyData) (gk : GOk tg ws) (hn : ds.length ≤ 100000) (hs : ∀ d, d ∈ ds → DG C tg (.d d) (wipeE E ws) S fun E1 S1 => DE C te E1 S1 fun y S3 => y = .d (g d) ∧ Sub S3 S)
    (hq : ∀ p, Q (.v (.ref p)) ((p, LD (ds.map g)) :: S)) : LCI C ds.length (fun i x => ∃ d, ds[i]? = some d ∧ x = .d d) tg tYes te ws E S Q := by
  refine ⟨gk, hn, fun i acc => acc = (ds.take i).map g, rfl, ?_, fun acc h p => by rw [h, List.take_length]; exact hq p⟩
  rintro i x acc hi ⟨d, hd, rfl⟩ rfl
  refine (hs d (List.mem_of_getElem? hd)).imp fun E1 S1 h1 => d_yes ?_
  rw [if_pos rfl]
  refine h1.imp fun y S3 ⟨hy, sb⟩ => ⟨g d, hy, sb, ?_⟩
  show _ = List.map g (List.take (i + 1) ds)
  rw [take_map hd]
theorem lciR_map {n : Nat} (g : Nat → PyData) (gk : GOk tg ws) (hn : n ≤ 100000) (hs : ∀ i, i < n → DG C tg (.d (.int i)) (wipeE E ws) S fun E1 S1 => DE C te E1 S1 fun y S3 => y = .d (g i) ∧ Sub S3 S)
    (hq : ∀ p, Q (.v (.ref p)) ((p, LD ((List.range n).map g)) :: S)) : LCI C n (fun i x => x = .d (.int i)) tg tYes te ws E S Q := by
  refine ⟨gk, hn, fun i acc => acc = (List.range i).map g, rfl, ?_, fun acc h p => by rw [h]; exact hq p⟩
  rintro i x acc hi rfl rfl
  refine (hs i hi).imp fun E1 S1 h1 => d_yes ?_
  rw [if_pos rfl]
  refine h1.imp fun y S3 ⟨hy, sb⟩ => ⟨g i, hy, sb, ?_⟩
  show _ = List.map g (List.range (i + 1))
  rw [List.range_succ, List.map_append]
  rfl
/-- whatever comes, each as it should be -/
theorem lci_P {n : Nat} {it : Nat → DV → Prop} (P : PyData → Prop) (gk : GOk tg ws) (hn : n ≤ 100000) (hs : ∀ i x, i < n → it i x → DG C tg x (wipeE E ws) S fun E1 S1 => DE C te E1 S1 fun y S3 => ∃ d, y = .d d ∧ P d ∧ Sub S3 S)
    (hq : ∀ ds, ds.length = n → (∀ d ∈ ds, P d) → ∀ p, Q (.v (.ref p)) ((p, LD ds) :: S)) : LCI C n it tg tYes te ws E S Q := by
  refine ⟨gk, hn, fun i acc => acc.length = i ∧ ∀ d ∈ acc, P d, ⟨rfl, fun d hd => by cases hd⟩, ?_, fun acc h p => hq acc h.1 h.2 p⟩
  rintro i x acc hi hit ⟨h1, h2⟩
  refine (hs i x hi hit).imp fun E1 S1 h => d_yes ?_
  rw [if_pos rfl]
  refine h.imp fun y S3 ⟨d, hy, hp, sb⟩ => ⟨d, hy, sb, by rw [List.length_append, h1]; rfl, fun e he => ?_⟩
  rcases List.mem_append.mp he with z | z
  · exact h2 e z
  · rw [List.mem_singleton.mp z]; exact hp
theorem lcT_map (g : PyData → PyData) (gk : GOk tg ws) (hn : ds.length ≤ 100000) (hs : ∀ d, d ∈ ds → DG C tg (.d d) (wipeE E ws) S fun E1 S1 => DE C te E1 S1 fun y S3 => y = .d (g d) ∧ Sub S3 S)
    (hq : ∀ p, Q (.v (.ref p)) ((p, LD (ds.map g)) :: S)) : LCX C (.d (.tuple ds)) tg tYes te ws E S Q := lcT (lci_yes g gk hn hs hq)
theorem lcLD_map (pk : Pick S q (LD ds) R) (g : PyData → PyData) (gk : GOk tg ws) (hn : ds.length ≤ 100000) (hs : ∀ d, d ∈ ds → DG C tg (.d d) (wipeE E ws) S fun E1 S1 => DE C te E1 S1 fun y S3 => y = .d (g d) ∧ Sub S3 S)
    (hq : ∀ p, Q (.v (.ref p)) ((p, LD (ds.map g)) :: S)) : LCX C (.v (.ref q)) tg tYes te ws E S Q := lcLD pk (lci_yes g gk hn hs hq)
theorem lcT_bool (g : PyData → Bool) (gk : GOk tg ws) (hn : ds.length ≤ 100000) (hs : ∀ d, d ∈ ds → DG C tg (.d d) (wipeE E ws) S fun E1 S1 => DE C te E1 S1 fun y S3 => y = .d (.bool (g d)) ∧ Sub S3 S)
    (hq : ∀ p, Q (.v (.ref p)) ((p, LD ((ds.map g).map PyData.bool)) :: S)) : LCX C (.d (.tuple ds)) tg tYes te ws E S Q := lcT_map (fun d => .bool (g d)) gk hn hs fun p => by
  have := hq p
  rw [List.map_map] at this
  exact this
theorem lcLD_bool (pk : Pick S q (LD ds) R) (g : PyData → Bool) (gk : GOk tg ws) (hn : ds.length ≤ 100000) (hs : ∀ d, d ∈ ds → DG C tg (.d d) (wipeE E ws) S fun E1 S1 => DE C te E1 S1 fun y S3 => y = .d (.bool (g d)) ∧ Sub S3 S)
    (hq : ∀ p, Q (.v (.ref p)) ((p, LD ((ds.map g).map PyData.bool)) :: S)) : LCX C (.v (.ref q)) tg tYes te ws E S Q := lcLD_map pk (fun d => .bool (g d)) gk hn hs fun p => by
  have := hq p
  rw [List.map_map] at this
  exact this
theorem lcS_bool {z : Str} (g : Nat → Bool) (gk : GOk tg ws) (hn : z.length ≤ 100000) (hs : ∀ c, c ∈ z.cps.toList → DG C tg (.d (.str ⟨#[c]⟩)) (wipeE E ws) S fun E1 S1 => DE C te E1 S1 fun y S3 => y = .d (.bool (g c)) ∧ Sub S3 S)
    (hq : ∀ p, Q (.v (.ref p)) ((p, LD ((z.cps.toList.map g).map PyData.bool)) :: S)) : LCX C (.d (.str z)) tg tYes te ws E S Q := by
  refine lcS (fun _ => true) (fun d => .bool (match d with | .str s => g (s.cps[0]?.getD 0) | _ => false)) gk hn (fun c hc => (hs c hc).imp fun E1 S1 h => d_yes ⟨rfl, (fun h => nomatch h), fun _ => h.imp fun y S3 ⟨h1, h2⟩ => ⟨h1, h2⟩⟩) fun p => ?_
  rw [List.filter_eq_self.mpr (by simp), List.map_map]
  have := hq p
  rw [List.map_map] at this
  exact this
end
/-! ### functions that draw -/
def tp0 (post : PyData → Prop) : DSp := fun xs S Kt => ∃ t, xs = [.v (.ref t)] ∧ S = [(t, TAPE)] ∧ ∀ d, post d → Kt (.d d) [(t, TAPE)]
def tp1 (pre : PyData → Prop) (post : PyData → PyData → Prop) : DSp := fun xs S Kt => ∃ t e, xs = [.v (.ref t), .d e] ∧ S = [(t, TAPE)] ∧ pre e ∧ ∀ d, post e d → Kt (.d d) [(t, TAPE)]
def tp2 (pre : PyData → PyData → Prop) (post : PyData → PyData → PyData → Prop) : DSp := fun xs S Kt => ∃ t e g, xs = [.v (.ref t), .d e, .d g] ∧ S = [(t, TAPE)] ∧ pre e g ∧ ∀ d, post e g d → Kt (.d d) [(t, TAPE)]
def tl1 (pre : PyData → Prop) (post : PyData → List PyData → Prop) : DSp := fun xs S Kt => ∃ t e, xs = [.v (.ref t), .d e] ∧ S = [(t, TAPE)] ∧ pre e ∧ ∀ ds, post e ds → ∀ p, Kt (.v (.ref p)) [(p, LD ds), (t, TAPE)]
section
variable {S R : DS} {Q : DV → DS → Prop} {e g : PyData} {t : Addr}
theorem call_t0 {post : PyData → Prop} (p : Pick S t TAPE R) (q : ∀ d, post d → Q (.d d) S) : DCall (tp0 post) [.v (.ref t)] S Q := call1 p ⟨t, rfl, rfl, fun d h => ret1 p (q d h)⟩
theorem call_t1 {pre : PyData → Prop} {post : PyData → PyData → Prop} (p : Pick S t TAPE R) (h : pre e) (q : ∀ d, post e d → Q (.d d) S) : DCall (tp1 pre post) [.v (.ref t), .d e] S Q := call1 p ⟨t, e, rfl, rfl, h, fun d h => ret1 p (q d h)⟩
theorem call_t2 {pre : PyData → PyData → Prop} {post : PyData → PyData → PyData → Prop} (p : Pick S t TAPE R) (h : pre e g) (q : ∀ d, post e g d → Q (.d d) S) : DCall (tp2 pre post) [.v (.ref t), .d e, .d g] S Q := call1 p ⟨t, e, g, rfl, rfl, h, fun d h => ret1 p (q d h)⟩
theorem call_l1 {pre : PyData → Prop} {post : PyData → List PyData → Prop} (p : Pick S t TAPE R) (h : pre e) (q : ∀ ds, post e ds → ∀ a, Q (.v (.ref a)) ((a, LD ds) :: S)) : DCall (tl1 pre post) [.v (.ref t), .d e] S Q := call1 p ⟨t, e, rfl, rfl, h, fun ds h a => ret1N p (q ds h a)⟩
end
section
variable {C : Cz} {mg : Str → Option Value} {base : Heap} {x : Str} {st : Stmt} {N ps : List Str} {k : Nat}
theorem Loc.okT0 {post : PyData → Prop} (L : Loc C.K mg x ps st) (Sc : FnScope N ps (defScope st)) (hp : ps.length = 1)
    (hbody : ∀ (fa : Addr) (cdv : Value) (A : Around) (outer : List Env) (s : Shared) (H : Hp) (E : XK), Room k (A.deeper (envOfC x (defScope st) s.heap.objs.size fa cdv)) →
      ∃ t, PSs (cxOf CX0 C.P C.w C.K mg base N x (defScope st) fa cdv A outer s H E).nox (defBody st) t ∧ ∀ tp, ∀ Kt : DV → DS → Prop, (∀ d, post d → ∀ S R, Pick S tp TAPE R → KW Kt (.d d) S) → DSt C t (startE N [.v (.ref tp)]) [(tp, TAPE)] (MRet Kt)) : Fd C mg base (k + 1) x ps (tp0 post) :=
  L.okD Sc (fun xs S Kt h => by obtain ⟨t, rfl, _⟩ := h; rw [hp]; rfl) fun fa cdv A outer s H E hr => by
    obtain ⟨t, ht, q⟩ := hbody fa cdv A outer s H E hr
    refine ⟨t, ht, fun xs S Kt h => ?_⟩
    obtain ⟨tp, rfl, rfl, hk⟩ := h
    exact q tp Kt fun d hd S R p => KW.one p (hk d hd)
theorem Loc.okT1 {pre : PyData → Prop} {post : PyData → PyData → Prop} (L : Loc C.K mg x ps st) (Sc : FnScope N ps (defScope st)) (hp : ps.length = 2)
    (hbody : ∀ (fa : Addr) (cdv : Value) (A : Around) (outer : List Env) (s : Shared) (H : Hp) (E : XK), Room k (A.deeper (envOfC x (defScope st) s.heap.objs.size fa cdv)) →
      ∃ t, PSs (cxOf CX0 C.P C.w C.K mg base N x (defScope st) fa cdv A outer s H E).nox (defBody st) t ∧ ∀ tp e, pre e → ∀ Kt : DV → DS → Prop, (∀ d, post e d → ∀ S R, Pick S tp TAPE R → KW Kt (.d d) S) → DSt C t (startE N [.v (.ref tp), .d e]) [(tp, TAPE)] (MRet Kt)) : Fd C mg base (k + 1) x ps (tp1 pre post) :=
  L.okD Sc (fun xs S Kt h => by obtain ⟨t, e, rfl, _⟩ := h; rw [hp]; rfl) fun fa cdv A outer s H E hr => by
    obtain ⟨t, ht, q⟩ := hbody fa cdv A outer s H E hr
    refine ⟨t, ht, fun xs S Kt h => ?_⟩
    obtain ⟨tp, e, rfl, rfl, he, hk⟩ := h
    exact q tp e he Kt fun d hd S R p => KW.one p (hk d hd)
theorem Loc.okT2 {pre : PyData → PyData → Prop} {post : PyData → PyData → PyData → Prop} (L : Loc C.K mg x ps st) (Sc : FnScope N ps (defScope st)) (hp : ps.length = 3)
    (hbody : ∀ (fa : Addr) (cdv : Value) (A : Around) (outer : List Env) (s : Shared) (H : Hp) (E : XK), Room k (A.deeper (envOfC x (defScope st) s.heap.objs.size fa cdv)) →
      ∃ t, PSs (cxOf CX0 C.P C.w C.K mg base N x (defScope st) fa cdv A outer s H E).nox (defBody st) t ∧ ∀ tp e g, pre e g → ∀ Kt : DV → DS → Prop, (∀ d, post e g d → ∀ S R, Pick S tp TAPE R → KW Kt (.d d) S) → DSt C t (startE N [.v (.ref tp), .d e, .d g]) [(tp, TAPE)] (MRet Kt)) : Fd C mg base (k + 1) x ps (tp2 pre post) :=
  L.okD Sc (fun xs S Kt h => by obtain ⟨t, e, g, rfl, _⟩ := h; rw [hp]; rfl) fun fa cdv A outer s H E hr => by
    obtain ⟨t, ht, q⟩ := hbody fa cdv A outer s H E hr
    refine ⟨t, ht, fun xs S Kt h => ?_⟩
    obtain ⟨tp, e, g, rfl, rfl, he, hk⟩ := h
    exact q tp e g he Kt fun d hd S R p => KW.one p (hk d hd)
theorem Loc.okL1 {pre : PyData → Prop} {post : PyData → List PyData → Prop} (L : Loc C.K mg x ps st) (Sc : FnScope N ps (defScope st)) (hp : ps.length = 2)
    (hbody : ∀ (fa : Addr) (cdv : Value) (A : Around) (outer : List Env) (s : Shared) (H : Hp) (E : XK), Room k (A.deeper (envOfC x (defScope st) s.heap.objs.size fa cdv)) →
      ∃ t, PSs (cxOf CX0 C.P C.w C.K mg base N x (defScope st) fa cdv A outer s H E).nox (defBody st) t ∧ ∀ tp e, pre e → ∀ Kt : DV → DS → Prop, (∀ ds, post e ds → ∀ a S R R', Pick S a (LD ds) R → Pick R tp TAPE R' → KW Kt (.v (.ref a)) S) → DSt C t (startE N [.v (.ref tp), .d e]) [(tp, TAPE)] (MRet Kt)) : Fd C mg base (k + 1) x ps (tl1 pre post) :=
  L.okD Sc (fun xs S Kt h => by obtain ⟨t, e, rfl, _⟩ := h; rw [hp]; rfl) fun fa cdv A outer s H E hr => by
    obtain ⟨t, ht, q⟩ := hbody fa cdv A outer s H E hr
    refine ⟨t, ht, fun xs S Kt h => ?_⟩
    obtain ⟨tp, e, rfl, rfl, he, hk⟩ := h
    exact q tp e he Kt fun ds hd a S R R' p p' => KW.two p p' (hk ds hd a)
end
theorem d_ixAny {C : Cz} {S R : DS} {Q : DV → DS → Prop} {a : Addr} {ds : List PyData} {i : Int} (pa : Pick S a (LD ds) R) (h0 : 0 ≤ i) (h1 : i < ds.length) (q : ∀ d, d ∈ ds → ds[i.toNat]? = some d → Q (.d d) S) : DR2 C (rIx C.K) (.v (.ref a)) (.d (.int i)) S Q := by
  obtain ⟨d, hd, hm, hj⟩ := get_open h0 h1
  refine d_ixO pa i.toNat (by rw [List.length_map]; exact hj) (x := .d d) ?_ (q d hm hd)
  rw [List.getElem?_map, hd]
  rfl
theorem d_ixAnyT {C : Cz} {S : DS} {Q : DV → DS → Prop} {ds : List PyData} {i : Int} (h0 : 0 ≤ i) (h1 : i < ds.length) (q : ∀ d, d ∈ ds → ds[i.toNat]? = some d → Q (.d d) S) : DR2 C (rIx C.K) (.d (.tuple ds)) (.d (.int i)) S Q := by
  obtain ⟨d, hd, hm, hj⟩ := get_open h0 h1
  exact d_ixj i.toNat hj hd (q d hm hd)
/-! ### written dicts of the module -/
section
variable {C : Cz} {E : EnvD} {S : DS} {Q : DV → DS → Prop} {kvs : List (Str × Int)} {a : Addr} {z : Str}
theorem d_tab (q : ∀ a, KTb C.K C.w a kvs → Q (.v (.ref a)) S) : DE C (tTab C.K C.w kvs) E S Q := fun Z σ H so er QV k a ka => k (.ref a) H (.v (.ref a)) S (Stp.refl so) rfl (q a ka)
theorem d_ninTab (ka : KTb C.K C.w a kvs) (q : Q (.d (.bool (!(tab kvs z).isSome))) S) : DR2 C (rNinTab C.K C.w) (.d (.str z)) (.v (.ref a)) S Q := fun Z H so v u rv ru QV k => by
  cases ru; cases str_of rv
  exact ⟨z, a, kvs, rfl, rfl, ka, kB so k q⟩
theorem d_ixTab {i : Int} (ka : KTb C.K C.w a kvs) (h : tab kvs z = some i) (q : Q (.d (.int i)) S) : DR2 C (rIxTab C.K C.w) (.v (.ref a)) (.d (.str z)) S Q := fun Z H so v u rv ru QV k => by
  cases rv; cases str_of ru
  exact ⟨z, a, kvs, i, rfl, rfl, ka, h, kI so k q⟩
end
theorem d_gconsM {C : Cz} {E : EnvD} {S : DS} {t : TG} {u : TGs} {d : PyData} {ds : List PyData} {N : EnvD → DS → Prop} (q : DG C t (.d d) E S fun E1 S1 => DGs C u (ds.map DV.d) E1 S1 N) : DGs C (gCons t u) ((d :: ds).map DV.d) E S N := d_gcons q
theorem d_gnilM {C : Cz} {E : EnvD} {S : DS} {N : EnvD → DS → Prop} (q : N E S) : DGs C gNil (([] : List PyData).map DV.d) E S N := d_gnil q
theorem ite_nb {k : Bool} {A B : Prop} (h1 : k = false → A) (h2 : k = true → B) : if (!k) = true then A else B := by
  cases k
  · exact h1 rfl
  · exact h2 rfl
theorem d_neg {C : Cz} {S : DS} {Q : DV → DS → Prop} {i : Int} (q : Q (.d (.int (-i))) S) : DR1 C (rU fun i => .int (-i)) (.d (.int i)) S Q := d_rU dvI q
theorem d_drawX {xs : List DV} {S R : DS} {Q : DV → DS → Prop} {t : Addr} {m : Int} (hx : xs = [.v (.ref t), .d (.int m)]) (p : Pick S t TAPE R) (h0 : 0 < m) (h1 : m < 2 ^ 64) (k : ∀ r, 0 ≤ r → r < m → Q (.d (.int r)) S) : DCall dsp_law_draw xs S Q := d_draw p h0 h1 k hx
/-- one's own, the rest not named -/
def Pk (S : DS) (a : Addr) (o : DO) : Prop := ∃ R, Pick S a o R
theorem call_t0k {S : DS} {Q : DV → DS → Prop} {t : Addr} {post : PyData → Prop} (p : Pk S t TAPE) (q : ∀ d, post d → Q (.d d) S) : DCall (tp0 post) [.v (.ref t)] S Q := by
  obtain ⟨R, p⟩ := p
  exact call_t0 p q
theorem d_lenLDk {C : Cz} {S : DS} {Q : DV → DS → Prop} {a : Addr} {ds : List PyData} (pa : Pk S a (LD ds)) (q : Q (.d (.int ds.length)) S) : DRs C (rLenU C.K) [.v (.ref a)] S Q := by
  obtain ⟨R, p⟩ := pa
  exact d_lenLD p q
theorem d_bmK {C : Cz} {E : EnvD} {S : DS} {Q : DV → DS → Prop} {K' : PySem.W.Frag} {T : String} {r : V → List V → Hp → VK → Prop} {ta : TE} {tr : TA} (hK : K' = C.K) (q : DE C ta E S fun x S1 => DTy C (tyV C.K T) x S1 ∧ DA C tr E S1 fun xs S2 => DRm C r x xs S2 Q) : DE C (tBM K' T r ta tr) E S Q := by
  subst hK
  exact d_bm q
theorem d_bm0K {C : Cz} {E : EnvD} {S : DS} {Q : DV → DS → Prop} {K' : PySem.W.Frag} {T : String} {r : V → List V → Hp → VK → Prop} {ta : TE} (hK : K' = C.K) (q : DE C ta E S fun x S1 => DTy C (tyV C.K T) x S1 ∧ DRm C r x [] S1 Q) : DE C (tBM0 K' T r ta) E S Q := by
  subst hK
  exact d_bm0 q
theorem d_tyLk {C : Cz} {S : DS} {a : Addr} {xs : List DV} {B : Prop} (p : Pk S a (LST xs)) (q : B) : DTy C (tyV C.K "list") (.v (.ref a)) S ∧ B := by
  obtain ⟨R, p⟩ := p
  exact ⟨d_tyL p, q⟩
theorem iteTc {c : Bool} {A B : Prop} (h : c = true) (q : A) : if c = true then A else B := by rw [if_pos h]; exact q
theorem iteFc {c : Bool} {A B : Prop} (h : c = false) (q : B) : if c = true then A else B := by rw [h]; exact q
end U

/-! own sets of texts: their length -/
namespace U
open PySem PySem.Spec PyProof.Rows L2
/-! ### own sets of texts -/
def SetSO (P : Program) (w : World) (a : Addr) (ns : List Str) : HO := .ext fun h => h.SetOf (strKind P w) a (fun z => decide (z ∈ ns)) ns.length
section
variable {X : Cx}
theorem setS_at {P : Program} {w : World} {h h' : Heap} {a : Addr} {S : Str → Bool} {n : Nat} (R : h.SetOf (strKind P w) a S n) (k : ∀ o, h.get? a = some o → h'.get? a = some o) : h'.SetOf (strKind P w) a S n := by
  obtain ⟨o, es, ep, t, ho, r⟩ := R
  exact ⟨o, es, ep, t, k o ho, r⟩
theorem setS_new {P : Program} {w : World} {H : Hp} {h : Heap} {a : Addr} {ns : List Str} (R : h.SetOf (strKind P w) a (fun z => decide (z ∈ ns)) ns.length) : ObjOk P w H h a (SetSO P w a ns) := by
  have ⟨o, _, _, _, ho, _⟩ := R
  exact ⟨R, ⟨o, ho⟩, fun h1 h2 p k => setS_at p k⟩
def rLenSet (P : Program) (w : World) : List V → Hp → VK → Prop := fun xs H Q => ∃ (p : Addr) (ns : List Str), xs = [.ref p] ∧ H p = some (SetSO P w p ns) ∧ Q (.int ns.length) H
theorem call_lenSet : CallR X (.builtin "len") (rLenSet X.prog X.w) := by
  intro pins s σ H xs us Q I r h
  obtain ⟨p, ns, rfl, hp, q⟩ := h
  obtain ⟨u, rfl, ru⟩ : ∃ u, us = [u] ∧ RelV (.ref p) u := by
    cases r with
    | cons a b => cases b; exact ⟨_, rfl, a⟩
  cases ru
  obtain ⟨o, es, ep, t, ho, hex, hd, _, _, hb, hf, hn⟩ := (I.hok p _ hp).1
  refine call_len_set ho hex hd hf (by rw [hn] at hb ⊢; unfold scanBound at hb; omega) ⟨.int ns.length, H, I.tok _, ⟨_, by rw [hn]⟩, q⟩
/-- a set of so many things -/
def SetLenO (a : Addr) (n : Nat) : HO := .ext fun h => ∃ o es ep t, h.get? a = some o ∧ o.ExactSet ∧ o.data = .set es ep t ∧ es.size = n ∧ t.fits n = true ∧ n ≤ 1000
def rLenK : List V → Hp → VK → Prop := fun xs H Q => ∃ (p : Addr) (n : Nat), xs = [.ref p] ∧ H p = some (SetLenO p n) ∧ Q (.int n) H
theorem call_lenK : CallR X (.builtin "len") rLenK := by
  intro pins s σ H xs us Q I r h
  obtain ⟨p, n, rfl, hp, q⟩ := h
  obtain ⟨u, rfl, ru⟩ : ∃ u, us = [u] ∧ RelV (.ref p) u := by
    cases r with
    | cons a b => cases b; exact ⟨_, rfl, a⟩
  cases ru
  obtain ⟨o, es, ep, t, ho, hex, hd, hn, hf, hb⟩ := (I.hok p _ hp).1
  refine call_len_set ho hex hd (by rw [hn]; exact hf) (by rw [hn]; omega) ⟨.int n, H, I.tok _, ⟨_, by rw [hn]⟩, q⟩
def rLenX (C : Cz) : List V → Hp → VK → Prop := fun xs H Q => rLenU C.K xs H Q ∨ rLenSet C.P C.w xs H Q ∨ rLenK xs H Q
theorem call_lenX {C : Cz} (hP : X.prog = C.P) (hw : X.w = C.w) (hK : X.K = C.K) : CallR X (.builtin "len") (rLenX C) := by
  unfold rLenX
  rw [← hP, ← hw]
  exact (call_lenU hK).or (call_lenSet.or call_lenK)
end
/-- by data -/
def SETS (ns : List Str) : DO where
  fp := []
  ok := fun C F H a => H a = some (SetSO C.P C.w a ns)
  live := fun {C F H a} h b hb => by rw [List.mem_singleton.mp hb]; exact ⟨_, h⟩
  loc := fun {C F F' H H' a} f e h => by rw [e a (by simp)]; exact h
def SETN (n : Nat) : DO where
  fp := []
  ok := fun C F H a => H a = some (SetLenO a n)
  live := fun {C F H a} h b hb => by rw [List.mem_singleton.mp hb]; exact ⟨_, h⟩
  loc := fun {C F F' H H' a} f e h => by rw [e a (by simp)]; exact h
section
variable {C : Cz} {S R : DS} {Q : DV → DS → Prop} {a : Addr}
theorem d_lenSet {ns : List Str} (pa : Pick S a (SETS ns) R) (q : Q (.d (.int ns.length)) S) : DRs C (rLenX C) [.v (.ref a)] S Q := fun Z H so vs rs QV k => by
  obtain ⟨v, rfl, rv⟩ := rs.one
  cases rv
  exact .inr (.inl ⟨a, ns, rfl, so.pick pa, kI so k q⟩)
theorem d_lenSetk {ns : List Str} (pa : Pk S a (SETS ns)) (q : Q (.d (.int ns.length)) S) : DRs C (rLenX C) [.v (.ref a)] S Q := by
  obtain ⟨R, p⟩ := pa
  exact d_lenSet p q
theorem d_lenSetN {n : Nat} (pa : Pick S a (SETN n) R) (q : Q (.d (.int n)) S) : DRs C (rLenX C) [.v (.ref a)] S Q := fun Z H so vs rs QV k => by
  obtain ⟨v, rfl, rv⟩ := rs.one
  cases rv
  exact .inr (.inr ⟨a, n, rfl, so.pick pa, kI so k q⟩)
theorem d_lenX {xs : List DV} (h : DRs C (rLenU C.K) xs S Q) : DRs C (rLenX C) xs S Q := fun Z H so vs rs QV k => .inl (h Z H so vs rs QV k)
end
end U

/-! own dicts keyed by None, numbers, texts -/
namespace U
open PySem PySem.Spec PyProof.Rows L2
def lfD : Leaf → PyData
  | .none => .none
  | .num i => .int i
  | .text x => .str x
theorem lf_of {K : PySem.W.Frag} {F : Hp} {v : V} {k : Leaf} (h : DvR K F v (.d (lfD k))) : v = lfV k := by
  cases k <;> (cases h; rfl)
/-- a new view of a written dict -/
def lfK : Key → Leaf
  | .inl i => .num i
  | .inr x => .text x
section
variable {X : Cx} {P : Program} {w : World}
theorem lfK_inj {a b : Key} (h : lfK a = lfK b) : a = b := by
  cases a <;> cases b <;> simp [lfK] at h <;> rw [h]
theorem lfK_is {k : Key} {v : Value} (h : keyIs k v = true) : (leafKind P w).is (lfK k) v = true := by
  rcases keyIs_shape h with ⟨i, t, rfl, rfl⟩ | ⟨x, t, rfl, rfl⟩
  · exact lf_is (k := .num i) ⟨t, rfl⟩
  · exact lf_is (k := .text x) ⟨t, rfl⟩
theorem lfK_pairs : ∀ {es : List DictEntry} {vs : List (Key × Value)}, Pairs (mixKind P w) es vs → Pairs (leafKind P w) es (vs.map fun kv => (lfK kv.1, kv.2))
  | _, _, .nil => .nil
  | _, _, .cons h e r => .cons (lfK_is h) e (lfK_pairs r)
theorem lfK_kv : ∀ {kvs : List (Key × V)} {vs : List (Key × Value)}, KV kvs vs → KV (kvs.map fun kv => (lfK kv.1, kv.2)) (vs.map fun kv => (lfK kv.1, kv.2))
  | _, _, .nil => .nil
  | _, _, .cons h r => .cons ⟨congrArg lfK h.1, h.2⟩ (lfK_kv r)
theorem lfK_dict {h : Heap} {a : Addr} {vs : List (Key × Value)} (d : h.DictOf (mixKind P w) a vs) : h.DictOf (leafKind P w) a (vs.map fun kv => (lfK kv.1, kv.2)) := by
  obtain ⟨o, es, ep, ho, hx, hd, hk, hp, hn⟩ := d
  refine ⟨o, es, ep, ho, hx, hd, fun e he => ?_, lfK_pairs hp, ?_⟩
  · obtain ⟨k, h1, h2⟩ := hk e he
    refine ⟨lfK k, lfK_is h1, ?_⟩
    rw [h2]
    cases k <;> rfl
  · rw [List.map_map]
    rw [show ((fun x : Leaf × Value => x.1) ∘ fun kv : Key × Value => (lfK kv.1, kv.2)) = lfK ∘ fun x => x.1 from rfl, ← List.map_map]
    exact List.Pairwise.map _ (fun a b h e => h (lfK_inj e)) hn
def tLf (P : Program) (w : World) (te : TE) : TE := fun σ H Q => te σ H fun x H1 => ∃ (d : Addr) (kvs : List (Key × V)), x = .ref d ∧ H1 d = some (.dK kvs) ∧ Q x (upd H1 d (LfO P w d (kvs.map fun kv => (lfK kv.1, kv.2))))
theorem pe_lf {e : Expr} {te : TE} (h : PE X e te) : PE X e (tLf X.prog X.w te) := by
  refine ⟨fun pins s σ H Q I hq => ?_⟩
  refine thn (h.run pins s σ H _ I hq) fun u s1 ⟨x, H1, I1, rx, d, kvs, ex, hd, q⟩ => ?_
  obtain ⟨z, n, vs, rel, dd⟩ := dk_of I1.hok hd
  obtain ⟨o, _, _, ho, _⟩ := id dd
  refine ⟨x, _, I1.write (e := d) (t' := s1.toks) (by rw [hd]; exact True.intro) (.inl rfl) (fun b u _ q => q) ⟨o, ho⟩ (lfo_ok (by rw [List.length_map]; exact z) n (lfK_kv rel) (lfK_dict dd)), rx, q⟩
theorem pe_lfU {P : Program} {w : World} {e : Expr} {te : TE} (hP : X.prog = P) (hw : X.w = w) (h : PE X e te) : PE X e (tLf P w te) := by
  subst hP hw
  exact pe_lf h
/-! in, not in -/
def rInL (P : Program) (w : World) (neg : Bool) : R2 := fun x y H Q => ∃ (d : Addr) (kvs : List (Leaf × V)) (k : Leaf), x = lfV k ∧ y = .ref d ∧ DL P w H d kvs ∧ Q (.bl (if neg then !(valV kvs k).isSome else (valV kvs k).isSome)) H
theorem op_inL : OpR X (compareOp .In) (rInL X.prog X.w false) := by
  intro pins s σ H x y v u Q I rx ry h
  obtain ⟨d, kvs, k, rfl, rfl, hd, q⟩ := h
  cases ry
  obtain ⟨_, ns, ⟨xs, rel, dd⟩, _⟩ := hd.heap I
  refine wpAny_in_of (lf_is rx) ns dd.mapOf ?_
  have r := rel.val k
  refine ⟨.bl (valV kvs k).isSome, H, I.tok _, ?_, q⟩
  cases e : valV kvs k with
  | none =>
    rw [e] at r
    rw [RelO.none_of r]
    rfl
  | some v0 =>
    rw [e] at r
    obtain ⟨w', hw, rw'⟩ := RelO.some_of r
    rw [hw]
    rfl
theorem op_ninL : OpR X (compareOp .NotIn) (rInL X.prog X.w true) := by
  intro pins s σ H x y v u Q I rx ry h
  obtain ⟨d, kvs, k, rfl, rfl, hd, q⟩ := h
  cases ry
  obtain ⟨_, ns, ⟨xs, rel, dd⟩, _⟩ := hd.heap I
  refine wpAny_notIn_of (lf_is rx) ns dd.mapOf ?_
  have r := rel.val k
  refine ⟨.bl (!(valV kvs k).isSome), H, I.tok _, ?_, q⟩
  cases e : valV kvs k with
  | none =>
    rw [e] at r
    rw [RelO.none_of r]
    rfl
  | some v0 =>
    rw [e] at r
    obtain ⟨w', hw, rw'⟩ := RelO.some_of r
    rw [hw]
    rfl
end
theorem op_inLU {X : Cx} {P : Program} {w : World} (hP : X.prog = P) (hw : X.w = w) : OpR X (compareOp .In) (rInL P w false) := by subst hP hw; exact op_inL
theorem op_ninLU {X : Cx} {P : Program} {w : World} (hP : X.prog = P) (hw : X.w = w) : OpR X (compareOp .NotIn) (rInL P w true) := by subst hP hw; exact op_ninL
/-! ### by data -/
inductive KvD (K : PySem.W.Frag) (F : Hp) {κ : Type} : List (κ × DV) → List (κ × V) → Prop
  | nil : KvD K F [] []
  | cons {k : κ} {x : DV} {v : V} {r : List (κ × DV)} {s : List (κ × V)} : DvR K F v x → KvD K F r s → KvD K F ((k, x) :: r) ((k, v) :: s)
theorem KvD.fr {K : PySem.W.Frag} {F F' : Hp} {κ : Type} (f : Fr [] F F') : ∀ {r : List (κ × DV)} {s : List (κ × V)}, KvD K F r s → KvD K F' r s
  | _, _, .nil => .nil
  | _, _, .cons a b => .cons (a.fr f) (KvD.fr f b)
theorem KvD.length {K : PySem.W.Frag} {F : Hp} {κ : Type} : ∀ {r : List (κ × DV)} {s : List (κ × V)}, KvD K F r s → r.length = s.length
  | _, _, .nil => rfl
  | _, _, .cons a b => by rw [List.length_cons, List.length_cons, KvD.length b]
section
variable {κ : Type} [DecidableEq κ]
def atL (kvs : List (κ × DV)) (k : κ) : Option DV := (kvs.find? fun kv => decide (kv.1 = k)).map (·.2)
def putL (kvs : List (κ × DV)) (k : κ) (v : DV) : List (κ × DV) := if (kvs.any fun kv => decide (kv.1 = k)) = true then kvs.map (fun kv => if kv.1 = k then (kv.1, v) else kv) else kvs ++ [(k, v)]
theorem KvD.at {K : PySem.W.Frag} {F : Hp} (k : κ) : ∀ {r : List (κ × DV)} {s : List (κ × V)}, KvD K F r s → (atL r k = none ∧ valV s k = none) ∨ ∃ x v, atL r k = some x ∧ valV s k = some v ∧ DvR K F v x
  | _, _, .nil => .inl ⟨rfl, rfl⟩
  | _, _, .cons (k := k') (x := x) (v := v) a b => by
    unfold atL valV
    rw [List.find?_cons, List.find?_cons]
    by_cases h : k' = k
    · rw [decide_eq_true (show ((k', x) : κ × DV).1 = k from h)]
      exact .inr ⟨x, v, rfl, rfl, a⟩
    · rw [decide_eq_false (show ¬ ((k', x) : κ × DV).1 = k from h)]
      exact KvD.at k b
theorem KvD.some {K : PySem.W.Frag} {F : Hp} {k : κ} {r : List (κ × DV)} {s : List (κ × V)} (h : KvD K F r s) : (valV s k).isSome = (atL r k).isSome := by
  rcases h.at k with ⟨h1, h2⟩ | ⟨x, v, h1, h2, _⟩ <;> rw [h1, h2] <;> rfl
theorem KvD.any {K : PySem.W.Frag} {F : Hp} {k : κ} : ∀ {r : List (κ × DV)} {s : List (κ × V)}, KvD K F r s → (r.any fun kv => decide (kv.1 = k)) = s.any fun kv => decide (kv.1 = k)
  | _, _, .nil => rfl
  | _, _, .cons a b => by rw [List.any_cons, List.any_cons, KvD.any b]
theorem KvD.map {K : PySem.W.Frag} {F : Hp} {k : κ} {x : DV} {v : V} (hv : DvR K F v x) : ∀ {r : List (κ × DV)} {s : List (κ × V)}, KvD K F r s → KvD K F (r.map fun kv => if kv.1 = k then (kv.1, x) else kv) (s.map fun kv => if kv.1 = k then (kv.1, v) else kv)
  | _, _, .nil => .nil
  | _, _, .cons (k := k') a b => by
    rw [List.map_cons, List.map_cons]
    by_cases h : k' = k
    · rw [if_pos h, if_pos h]; exact .cons hv (KvD.map hv b)
    · rw [if_neg h, if_neg h]; exact .cons a (KvD.map hv b)
theorem KvD.snoc {K : PySem.W.Frag} {F : Hp} {k : κ} {x : DV} {v : V} (hv : DvR K F v x) : ∀ {r : List (κ × DV)} {s : List (κ × V)}, KvD K F r s → KvD K F (r ++ [(k, x)]) (s ++ [(k, v)])
  | _, _, .nil => .cons hv .nil
  | _, _, .cons a b => .cons a (KvD.snoc hv b)
theorem KvD.put {K : PySem.W.Frag} {F : Hp} {k : κ} {x : DV} {v : V} {r : List (κ × DV)} {s : List (κ × V)} (h : KvD K F r s) (hv : DvR K F v x) : KvD K F (putL r k x) (putK s k v) := by
  unfold putL putK
  rw [h.any]
  split
  · exact h.map hv
  · exact h.snoc hv
end
/-- one's own changes, the rest stays -/
theorem Stp.mutF {C : Cz} {Z : List Addr} {H H' : Hp} {S R : DS} {a : Addr} {O O' : DO} (so : SOk C Z H S) (pk : Pick S a O R) (hf : O.fp = []) (hf' : O'.fp = []) (f : Fr [a] H H') (ok : ∀ F', Fr [] (U.fz H Z S) F' → O'.ok C F' H' a) : Stp C Z H S H' ((a, O') :: R) := by
  have pd := dom_perm pk.perm
  have e1 : dom ((a, O) :: R) = a :: dom R := by rw [dom, hf]; rfl
  have e2 : dom ((a, O') :: R) = a :: dom R := by rw [dom, hf']; rfl
  rw [e1] at pd
  have nd := pd.nodup_iff.mp so.nd
  have ain : a ∈ dom S := pd.mem_iff.mpr List.mem_cons_self
  have ef : Fr [] (U.fz H Z S) (U.fz H' Z ((a, O') :: R)) := fun b o e _ => by
    obtain ⟨h1, h2, h3⟩ := fz_at e
    have n : b ≠ a := by rintro rfl; exact h3 ain
    refine fz_in (f b o h1 (by simpa using n)) h2 fun z => h3 (pd.mem_iff.mpr ?_)
    rw [e2] at z
    exact z
  refine ⟨⟨by rw [e2]; exact nd, fun b hb => so.z b (pd.mem_iff.mpr (by rw [e2] at hb; exact hb)), fun b hb => ?_, fun x hx => ?_⟩, f.mono (by simpa using ain), fun b hb => .inl (pd.mem_iff.mpr (by rw [e2] at hb; exact hb))⟩
  · obtain ⟨u, e⟩ := so.zl b hb
    exact ⟨u, f b u e (by intro z; rw [List.mem_singleton.mp z] at hb; exact so.z a ain hb)⟩
  · rcases List.mem_cons.mp hx with rfl | h
    · exact ok _ ef
    · have hS : x ∈ S := pk.perm.mem_iff.mpr (List.mem_cons_of_mem _ h)
      refine x.2.loc ef (fun b hb => ?_) (so.ok x hS)
      obtain ⟨o, e⟩ := x.2.live (so.ok x hS) b hb
      rw [e]
      refine f b o e fun z => ?_
      rw [List.mem_singleton.mp z] at hb
      exact (List.nodup_cons.mp nd).1 (mem_dom.mpr ⟨x, h, hb⟩)
/-- the dict itself -/
def DCL (kvs : List (Leaf × DV)) : DO where
  fp := []
  ok := fun C F H a => ∃ vs : List (Leaf × V), DL C.P C.w H a vs ∧ KvD C.K F kvs vs
  live := fun {C F H a} h b hb => by
    obtain ⟨vs, h, _⟩ := h
    rw [List.mem_singleton.mp hb]
    rcases h with ⟨_, e⟩ | e
    · exact ⟨_, e⟩
    · exact ⟨_, e⟩
  loc := fun {C F F' H H' a} f e h => by
    obtain ⟨vs, h, r⟩ := h
    refine ⟨vs, ?_, r.fr f⟩
    have e' := e a (by simp)
    rcases h with ⟨h1, h2⟩ | h2
    · exact .inl ⟨h1, by rw [e']; exact h2⟩
    · exact .inr (by rw [e']; exact h2)
section
variable {C : Cz} {E : EnvD} {S R : DS} {Q : DV → DS → Prop} {a : Addr} {kvs : List (Leaf × DV)}
/-- {} -/
theorem d_dnew (q : ∀ p, Q (.v (.ref p)) ((p, DCL []) :: S)) : DE C tDNewK E S Q := fun Z σ H so er QV k => fun p hp => by
  have st := Stp.new (O := DCL []) (o := .dK []) so hp rfl fun F' f => ⟨[], .inl ⟨rfl, upd_same⟩, .nil⟩
  exact k _ _ (.v (.ref p)) _ st rfl (q p)
/-- .. as data -/
theorem d_dnewD (q : Q (.d (.dict [])) S) : DE C tDNewK E S Q := fun Z σ H so er QV k => fun p hp => by
  have st := Stp.data (o := .dK []) so hp
  exact k _ _ (.d (.dict [])) S st (Dg.dct (fz_in upd_same (so.new hp).1 (so.new hp).2)) q
theorem d_ixLf {k : Leaf} {x : DV} (pa : Pick S a (DCL kvs) R) (h : atL kvs k = some x) (q : Q x S) : DR2 C (rIxL C.P C.w) (.v (.ref a)) (.d (lfD k)) S Q := fun Z H so v u rv ru QV kk => by
  cases rv
  obtain ⟨vs, hd, r⟩ := so.pick pa
  rcases r.at k with ⟨h1, _⟩ | ⟨x', v', h1, h2, h3⟩
  · rw [h] at h1; cases h1
  · rw [h] at h1
    cases h1
    exact w_ixLf hd (lf_of ru) h2 (k0 so kk h3 q)
theorem d_inLf {k : Leaf} (pa : Pick S a (DCL kvs) R) (q : Q (.d (.bool (atL kvs k).isSome)) S) : DR2 C (rInL C.P C.w false) (.d (lfD k)) (.v (.ref a)) S Q := fun Z H so v u rv ru QV kk => by
  cases ru
  obtain ⟨vs, hd, r⟩ := so.pick pa
  exact ⟨a, vs, k, lf_of rv, rfl, hd, by rw [if_neg Bool.false_ne_true, r.some]; exact kB so kk q⟩
theorem d_ninLf {k : Leaf} (pa : Pick S a (DCL kvs) R) (q : Q (.d (.bool (!(atL kvs k).isSome))) S) : DR2 C (rInL C.P C.w true) (.d (lfD k)) (.v (.ref a)) S Q := fun Z H so v u rv ru QV kk => by
  cases ru
  obtain ⟨vs, hd, r⟩ := so.pick pa
  exact ⟨a, vs, k, lf_of rv, rfl, hd, by rw [if_pos rfl, r.some]; exact kB so kk q⟩
theorem d_getLf {k : Leaf} {y : DV} (pa : Pick S a (DCL kvs) R) (q : Q ((atL kvs k).getD y) S) : DRm C (rGetL C.P C.w) (.v (.ref a)) [.d (lfD k), y] S Q := fun Z H so v vs rv rs QV kk => by
  cases rv
  obtain ⟨u, z, rfl, ru, rz⟩ := rs.two
  obtain ⟨ws, hd, r⟩ := so.pick pa
  refine w_getL hd (lf_of ru) ?_
  rcases r.at k with ⟨h1, h2⟩ | ⟨x', v', h1, h2, h3⟩
  · rw [h2]
    rw [h1] at q
    exact k0 so kk rz q
  · rw [h2]
    rw [h1] at q
    exact k0 so kk h3 q
theorem d_getLx {k : Leaf} {y x : DV} (pa : Pick S a (DCL kvs) R) (h : (atL kvs k).getD y = x) (q : Q x S) : DRm C (rGetL C.P C.w) (.v (.ref a)) [.d (lfD k), y] S Q := d_getLf pa (by rw [h]; exact q)
theorem d_setLf {k : Leaf} {y : DV} {N : DS → Prop} (pa : Pick S a (DCL kvs) R) (n : kvs.length ≤ 100000) (q : N ((a, DCL (putL kvs k y)) :: R)) : DSet C (U.rSetL C.P C.w) (.v (.ref a)) (.d (lfD k)) y S N := fun Z H so vo vi vv ro ri rv QN kk => by
  cases ro
  obtain ⟨ws, hd, r⟩ := so.pick pa
  refine w_setLf hd (lf_of ri) (by rw [← r.length]; exact n) fun H' f t hd' => ?_
  exact kk H' _ (Stp.mutF (O' := DCL (putL kvs k y)) so pa rfl rfl f fun F' ff => ⟨_, hd', (r.put rv).fr ff⟩) q
theorem d_tyLf (pa : Pick S a (DCL kvs) R) : DTy C (dictLf C.P C.w) (.v (.ref a)) S := fun Z H so v rv => by
  cases rv
  obtain ⟨ws, hd, r⟩ := so.pick pa
  exact ⟨a, ws, rfl, hd⟩
end
/-! ### written out -/
/-- keys and values, one after another -/
def DPr (C : Cz) : List (TE × TE) → EnvD → DS → (List (DV × DV) → DS → Prop) → Prop
  | [], _, S, Q => Q [] S
  | (tk, tv) :: r, E, S, Q => DE C tk E S fun x S1 => DE C tv E S1 fun y S2 => DPr C r E S2 fun ps S3 => Q ((x, y) :: ps) S3
inductive PvAll (K : PySem.W.Frag) (F : Hp) : List (V × V) → List (DV × DV) → Prop
  | nil : PvAll K F [] []
  | cons {v u : V} {x y : DV} {r : List (V × V)} {s : List (DV × DV)} : DvR K F v x → DvR K F u y → PvAll K F r s → PvAll K F ((v, u) :: r) ((x, y) :: s)
theorem DPr.run {C : Cz} : ∀ (trs : List (TE × TE)) {E : EnvD} {S : DS} {Q : List (DV × DV) → DS → Prop}, DPr C trs E S Q → ∀ (Z : List Addr) (σ : L2.St) (H : Hp), SOk C Z H S → ER C.K (fz H Z S) σ E → ∀ QP : List (V × V) → Hp → Prop,
    (∀ ps H' xs S', Stp C Z H S H' S' → PvAll C.K (fz H' Z S') ps xs → Q xs S' → QP ps H') → tPairs trs σ H QP
  | [], E, S, Q, q, Z, σ, H, so, er, QP, k => k [] H [] S (Stp.refl so) .nil q
  | (tk, tv) :: r, E, S, Q, q, Z, σ, H, so, er, QP, k => by
    refine (q : DE C tk E S _) Z σ H so er _ fun v H1 x S1 s1 rv q1 => ?_
    refine q1 Z σ H1 s1.so (er.fr s1.fz) _ fun u H2 y S2 s2 ru q2 => ?_
    refine DPr.run r q2 Z σ H2 s2.so (er.fr (s1.trans s2).fz) _ fun ps H3 xs S3 s3 rs q3 => ?_
    exact k _ H3 _ S3 ((s1.trans s2).trans s3) (.cons (rv.fr (s2.trans s3).fz) (ru.fr s3.fz) rs) q3
/-- a number or a text as a key -/
def kD : Key → PyData
  | .inl i => .int i
  | .inr x => .str x
inductive KeysA : List (DV × DV) → List (Key × DV) → Prop
  | nil : KeysA [] []
  | int {i : Int} {y : DV} {r : List (DV × DV)} {s : List (Key × DV)} : KeysA r s → KeysA ((.d (.int i), y) :: r) ((.inl i, y) :: s)
  | str {i : Str} {y : DV} {r : List (DV × DV)} {s : List (Key × DV)} : KeysA r s → KeysA ((.d (.str i), y) :: r) ((.inr i, y) :: s)
theorem KeysA.vals {K : PySem.W.Frag} {F : Hp} : ∀ {xs : List (DV × DV)} {ks : List (Key × DV)} {ps : List (V × V)}, KeysA xs ks → PvAll K F ps xs → ∃ kvs : List (Key × V), ps = kvs.map (fun kv => (kV kv.1, kv.2)) ∧ KvD K F ks kvs
  | _, _, _, .nil, .nil => ⟨[], rfl, .nil⟩
  | _, _, _, .int h, .cons (u := u) a b c => by
    obtain ⟨kvs, rfl, r⟩ := KeysA.vals h c
    cases int_of a
    exact ⟨(.inl _, u) :: kvs, rfl, .cons b r⟩
  | _, _, _, .str h, .cons (u := u) a b c => by
    obtain ⟨kvs, rfl, r⟩ := KeysA.vals h c
    cases str_of a
    exact ⟨(.inr _, u) :: kvs, rfl, .cons b r⟩
theorem KvD.merge {K : PySem.W.Frag} {F : Hp} : ∀ {ks : List (Key × DV)} {kvs : List (Key × V)}, KvD K F ks kvs → (ks.map (·.1)).Nodup → ∀ {as : List (Key × DV)} {bs : List (Key × V)}, KvD K F as bs → (∀ a ∈ as, ∀ k ∈ ks, a.1 ≠ k.1) → KvD K F (as ++ ks) (mergeK bs kvs)
  | [], [], .nil, _, as, bs, h, _ => by rw [List.append_nil]; exact h
  | (k, x) :: r, (_, v) :: s, .cons a b, nd, as, bs, h, off => by
    have nd' := List.nodup_cons.mp nd
    have hany : (bs.any fun kv => decide (kv.1 = k)) = false := by
      rw [← h.any]
      rw [Bool.eq_false_iff]
      intro z
      obtain ⟨p, hp, e⟩ := List.any_eq_true.mp z
      exact off p hp (k, x) List.mem_cons_self (of_decide_eq_true e)
    have ep : putK bs k v = bs ++ [(k, v)] := by unfold putK; rw [hany]; rfl
    show KvD K F _ (mergeK (putK bs k v) s)
    rw [ep, show as ++ (k, x) :: r = (as ++ [(k, x)]) ++ r by simp]
    refine KvD.merge b nd'.2 (h.snoc a) fun p hp q hq e => ?_
    rcases List.mem_append.mp hp with z | z
    · exact off p z q (List.mem_cons_of_mem _ hq) e
    · rw [List.mem_singleton.mp z] at e
      exact nd'.1 (List.mem_map.mpr ⟨q, hq, e.symm⟩)
theorem KvD.lf {K : PySem.W.Frag} {F : Hp} : ∀ {ks : List (Key × DV)} {kvs : List (Key × V)}, KvD K F ks kvs → KvD K F (ks.map fun kv => (lfK kv.1, kv.2)) (kvs.map fun kv => (lfK kv.1, kv.2))
  | _, _, .nil => .nil
  | _, _, .cons a b => .cons a (KvD.lf b)
/-- what is known of the pairs -/
def NEWD (ps : List (DV × DV)) (S : DS) (Q : DV → DS → Prop) : Prop := ∃ ks, KeysA ps ks ∧ ks.length ≤ 15 ∧ (ks.map (·.1)).Nodup ∧ ∀ p, Q (.v (.ref p)) ((p, DCL (ks.map fun kv => (lfK kv.1, kv.2))) :: S)
theorem d_pnil {C : Cz} {E : EnvD} {S : DS} {Q : List (DV × DV) → DS → Prop} (q : Q [] S) : DPr C [] E S Q := q
theorem d_pcons {C : Cz} {tk tv : TE} {r : List (TE × TE)} {E : EnvD} {S : DS} {Q : List (DV × DV) → DS → Prop} (q : DE C tk E S fun x S1 => DE C tv E S1 fun y S2 => DPr C r E S2 fun ps S3 => Q ((x, y) :: ps) S3) : DPr C ((tk, tv) :: r) E S Q := q
theorem newD {ps : List (DV × DV)} {S : DS} {Q : DV → DS → Prop} {ks : List (Key × DV)} (h : KeysA ps ks) (hl : ks.length ≤ 15) (nd : (ks.map (·.1)).Nodup) (q : ∀ p, Q (.v (.ref p)) ((p, DCL (ks.map fun kv => (lfK kv.1, kv.2))) :: S)) : NEWD ps S Q := ⟨ks, h, hl, nd, q⟩
theorem d_tyLfk {C : Cz} {S : DS} {a : Addr} {kvs : List (Leaf × DV)} {B : Prop} (p : Pk S a (DCL kvs)) (q : B) : DTy C (dictLf C.P C.w) (.v (.ref a)) S ∧ B := by
  obtain ⟨R, p⟩ := p
  exact ⟨d_tyLf p, q⟩
theorem d_disp {C : Cz} {E : EnvD} {S : DS} {Q : DV → DS → Prop} {trs : List (TE × TE)} (q : DPr C trs E S fun ps S1 => NEWD ps S1 Q) : DE C (tLf C.P C.w (tDisp trs)) E S Q := fun Z σ H so er QV k => fun p hp => by
  have nP := so.new hp
  -- the new dict is another's while the pairs are made
  have so1 : SOk C (p :: Z) (upd H p (.dK [])) S := by
    have st := Stp.data (o := .dK []) so hp
    refine ⟨so.nd, fun a ha z => ?_, fun a ha => ?_, fun x hx => ?_⟩
    · rcases List.mem_cons.mp z with rfl | z
      · exact nP.2 ha
      · exact so.z a ha z
    · rcases List.mem_cons.mp ha with rfl | z
      · exact ⟨_, upd_same⟩
      · exact st.so.zl a z
    · have e : fz (upd H p (.dK [])) (p :: Z) S = fz H Z S := by
        funext b
        unfold fz U.ws
        by_cases h : b ∈ Z ++ dom S
        · rw [if_pos h, if_pos (by rw [List.cons_append]; exact List.mem_cons_of_mem _ h)]
        · rw [if_neg h]
          by_cases e : b = p
          · subst e; rw [if_pos (by simp), hp]
          · rw [if_neg (by rw [List.cons_append]; intro z; rcases List.mem_cons.mp z with z | z; exact e z; exact h z), upd_ne e]
      rw [e]
      exact x.2.loc Fr.refl (fun b hb => upd_ne (by rintro rfl; exact nP.2 (mem_dom.mpr ⟨x, hx, hb⟩))) (so.ok x hx)
  have er1 : ER C.K (fz (upd H p (.dK [])) (p :: Z) S) σ E := by
    refine er.fr fun b o e _ => ?_
    obtain ⟨h1, h2, h3⟩ := fz_at e
    have n : b ≠ p := by rintro rfl; rw [hp] at h1; cases h1
    exact fz_in (by rw [upd_ne n]; exact h1) (by intro z; rcases List.mem_cons.mp z with z | z; exact n z; exact h2 z) h3
  refine DPr.run trs q (p :: Z) σ _ so1 er1 _ fun ps H2 xs S2 st rs ⟨ks, hk, hl, nd, q2⟩ => ?_
  have e2 : H2 p = some (.dK []) := st.fr p _ upd_same nP.2
  obtain ⟨kvs, rfl, r⟩ := hk.vals rs
  refine ⟨e2, kvs, rfl, by rw [← r.length]; exact hl, p, _, rfl, upd_same, ?_⟩
  have rm := KvD.merge r nd (as := []) (bs := []) .nil (fun a ha => by cases ha)
  rw [List.nil_append] at rm
  have p2 : p ∉ dom S2 := fun z => st.so.z p z List.mem_cons_self
  have frH : Fr (dom S) H H2 := fun a o e n => st.fr a o (by rw [upd_ne (by rintro rfl; rw [hp] at e; cases e)]; exact e) n
  generalize hH3 : upd (upd H2 p (.dK (mergeK [] kvs))) p _ = H3
  have e3 : ∀ b, b ≠ p → H3 b = H2 b := fun b n => by rw [← hH3, upd_ne n, upd_ne n]
  have ed : dom ((p, DCL (ks.map fun kv => (lfK kv.1, kv.2))) :: S2) = p :: dom S2 := rfl
  have ez : Fr [] (fz H2 (p :: Z) S2) (fz H3 Z ((p, DCL (ks.map fun kv => (lfK kv.1, kv.2))) :: S2)) := fun b o e _ => by
    obtain ⟨h1, h2, h3⟩ := fz_at e
    have n : b ≠ p := fun z => h2 (z ▸ List.mem_cons_self)
    exact fz_in (by rw [e3 b n]; exact h1) (fun z => h2 (List.mem_cons_of_mem _ z)) (by rw [ed]; intro z; rcases List.mem_cons.mp z with z | z; exact n z; exact h3 z)
  refine k _ H3 (.v (.ref p)) _ ⟨⟨?_, ?_, ?_, ?_⟩, ?_, ?_⟩ rfl (q2 p)
  · rw [ed]; exact List.nodup_cons.mpr ⟨p2, st.so.nd⟩
  · intro b hb
    rw [ed] at hb
    rcases List.mem_cons.mp hb with rfl | h
    · exact nP.1
    · exact fun z => st.so.z b h (List.mem_cons_of_mem _ z)
  · intro b hb
    obtain ⟨o, e⟩ := st.so.zl b (List.mem_cons_of_mem _ hb)
    exact ⟨o, by rw [e3 b (by rintro rfl; exact nP.1 hb)]; exact e⟩
  · intro x hx
    rcases List.mem_cons.mp hx with rfl | h
    · exact ⟨_, .inr (by rw [← hH3]; exact upd_same), (rm.lf).fr ez⟩
    · exact x.2.loc ez (fun b hb => e3 b (by rintro rfl; exact p2 (mem_dom.mpr ⟨x, h, hb⟩))) (st.so.ok x h)
  · intro a o e n
    rw [e3 a (by rintro rfl; rw [hp] at e; cases e)]
    exact frH a o e n
  · intro b hb
    rw [ed] at hb
    rcases List.mem_cons.mp hb with rfl | h
    · exact .inr hp
    · refine (st.nw b h).imp id fun z => ?_
      by_cases n : b = p
      · subst n; exact hp
      · rw [upd_ne n] at z; exact z
end U

/-! an own object that a rule lays by itself -/
namespace U
open PySem PySem.Spec PyProof.Rows L2
section
variable {C : Cz} {Z : List Addr} {H H' : Hp} {S : DS} {O : DO} {p : Addr}
theorem Stp.newF (so : SOk C Z H S) (hp : H p = none) (fr : Fr [] H H') (hf : O.fp = []) (ok : ∀ F', Fr [] (U.fz H Z S) F' → O.ok C F' H' p) : Stp C Z H S H' ((p, O) :: S) := by
  have ed : dom ((p, O) :: S) = p :: dom S := by rw [dom, hf]; rfl
  have f : Fr [] (U.fz H Z S) (U.fz H' Z ((p, O) :: S)) := fun b u e _ => by
    obtain ⟨h1, h2, h3⟩ := fz_at e
    have n : b ≠ p := by rintro rfl; rw [hp] at h1; cases h1
    exact fz_in (fr b u h1 (by simp)) h2 (by rw [ed]; intro z; rcases List.mem_cons.mp z with z | z; exact n z; exact h3 z)
  refine ⟨⟨by rw [ed]; exact List.nodup_cons.mpr ⟨(so.new hp).2, so.nd⟩, fun a ha => ?_, fun a ha => ?_, fun x hx => ?_⟩, fun a o e _ => fr a o e (by simp), fun a ha => ?_⟩
  · rw [ed] at ha
    rcases List.mem_cons.mp ha with rfl | h
    · exact (so.new hp).1
    · exact so.z a h
  · obtain ⟨u, e⟩ := so.zl a ha
    exact ⟨u, fr a u e (by simp)⟩
  · rcases List.mem_cons.mp hx with rfl | h
    · exact ok _ f
    · refine x.2.loc f (fun b hb => ?_) (so.ok x h)
      obtain ⟨u, e⟩ := x.2.live (so.ok x h) b hb
      rw [e, fr b u e (by simp)]
  · rw [ed] at ha
    rcases List.mem_cons.mp ha with rfl | h
    · exact .inr hp
    · exact .inl h
theorem strs_dt {K : PySem.W.Frag} {H : Hp} : ∀ ns : List Str, DtAll K H (ns.map V.str) (ns.map PyData.str)
  | [] => .nil
  | n :: r => .cons (.str n) (strs_dt r)
theorem strs_dv {K : PySem.W.Frag} {F H : Hp} : ∀ {vs : List V} {ds : List PyData}, DtAll K H vs ds → (∀ d ∈ ds, ∃ x, d = .str x) → DvAll K F vs (ds.map DV.d)
  | _, _, .nil, _ => .nil
  | _, _, .cons a b, h => by
    obtain ⟨x, rfl⟩ := h _ (.head _)
    cases a
    exact .cons (Dg.str x) (strs_dv b fun d hd => h d (.tail _ hd))
/-- sorted(an own list of texts) -/
theorem d_sortS {R : DS} {Q : DV → DS → Prop} {a : Addr} {ns : List Str} (pa : Pick S a (LD (ns.map PyData.str)) R) (n : ns.length ≤ 100000) (so' : Sorty (ns.map PyData.str)) (q : ∀ p, Q (.v (.ref p)) ((p, LD ((ns.map PyData.str).mergeSort (PySem.W.dataLe false id))) :: S)) : DRs C (rSortL C.K) [.v (.ref a)] S Q := fun Z H so vs rs QV k => by
  obtain ⟨v, rfl, rv⟩ := rs.one
  cases rv
  obtain ⟨us, e, r⟩ := so.lst pa
  rw [strs_vals r] at e
  refine w_sortL ⟨_, e, strs_dt ns⟩ (by rw [List.length_map]; exact n) so' (fun d hd => ?_) fun p H' hp fr L => ?_
  · obtain ⟨x, _, rfl⟩ := List.mem_map.mp hd
    exact Nat.zero_le _
  · obtain ⟨ws, e', all⟩ := L
    have st := Stp.newF (O := LD ((ns.map PyData.str).mergeSort (PySem.W.dataLe false id))) so hp fr rfl fun F' _ => ⟨ws, e', strs_dv all fun d hd => by
      obtain ⟨x, _, rfl⟩ := List.mem_map.mp ((List.mergeSort_perm _ _).mem_iff.mp hd)
      exact ⟨x, rfl⟩⟩
    exact k _ _ (.v (.ref p)) _ st rfl (q p)
theorem u70d {A : Around} {k : Nat} (hr : Room k A) : A.units + 70 < cLine := by have := hr.un; omega
end
end U

/-! t[::-1], t a tuple -/
namespace U
open PySem PySem.Spec PyProof.Rows L2 HT
section
variable {prog : Program} {w : World} {A : Around} {E : Value → Shared → Prop} {s : Shared}
theorem adjust_back (n : Nat) : Builtin.Slice.sliceAdjust none none (-1) (n : Int) = ((n : Int) - 1, -1) := by
  unfold Builtin.Slice.sliceAdjust
  rfl
theorem places_back (n : Nat) : Builtin.Slice.slicePlaces ((n : Int) - 1) (-1) (-1) = n := by
  unfold Builtin.Slice.slicePlaces
  have h1 : ¬ ((-1 : Int) > 0) := by omega
  simp only [h1, if_false, Int.neg_neg, Int.ediv_one]
  split <;> omega
theorem sliceApplied_back {sl : Addr} {tk : Tok} {n : Nat} {Q : Int × Int × Nat → Shared → Prop} (hs : s.heap.IsSliceOf sl .none .none (.int (-1) tk))
    (h : Q ((n : Int) - 1, -1, n) s) : wpAny (model prog w) A (Builtin.Slice.sliceApplied (.ref sl) (pure (n : Int))) Q E s := by
  obtain ⟨os, hos, hcs, hds⟩ := id hs
  unfold Builtin.Slice.sliceApplied Builtin.Slice.sliceFields
  refine wpAny_bind (wpAny_bind (wpAny_field hos hds (x := .none) rfl (wpAny_bind (wpAny_field hos hds (x := .none) rfl (wpAny_bind (wpAny_field hos hds (x := .int (-1) tk) rfl (wpAny_pure ?_)))))))
  refine wpAny_bind (slicePart_int ?_)
  show wpAny _ _ (if ((-1 : Int) == 0) = true then _ else _) _ _ s
  rw [if_neg (by decide)]
  refine wpAny_bind (slicePart_none (wpAny_bind (slicePart_none (wpAny_bind (wpAny_pure ?_)))))
  show wpAny _ _ (match Builtin.Slice.sliceAdjust none none (-1) (n : Int) with | (lo, hi) => pure (lo, (-1 : Int), Builtin.Slice.slicePlaces lo hi (-1))) _ _ s
  rw [adjust_back n]
  show wpAny _ _ (pure ((n : Int) - 1, (-1 : Int), Builtin.Slice.slicePlaces ((n : Int) - 1) (-1) (-1))) _ _ s
  rw [places_back]
  exact wpAny_pure h
theorem filterMap_all {α β : Type} {f : α → Option β} {g : α → β} : ∀ {l : List α}, (∀ m ∈ l, f m = some (g m)) → l.filterMap f = l.map g
  | [], _ => rfl
  | m :: r, h => by
    rw [List.filterMap_cons, h m List.mem_cons_self, List.map_cons, filterMap_all fun x hx => h x (List.mem_cons_of_mem _ hx)]
theorem pick_back (xs : Array Value) : ((List.range xs.size).filterMap fun (m : Nat) => xs[(((xs.size : Int) - 1) + (m : Int) * (-1)).toNat]?).toArray = xs.toList.reverse.toArray := by
  congr 1
  apply List.ext_getElem?
  intro i
  have e : ((List.range xs.size).filterMap fun (m : Nat) => xs[(((xs.size : Int) - 1) + (m : Int) * (-1)).toNat]?) = (List.range xs.size).map fun m => xs[xs.size - 1 - m]?.getD default := by
    refine filterMap_all fun m hm => ?_
    have hm' := List.mem_range.mp hm
    have e1 : (((xs.size : Int) - 1) + (m : Int) * (-1)).toNat = xs.size - 1 - m := by omega
    rw [e1]
    have h2 : xs.size - 1 - m < xs.size := by omega
    show xs[xs.size - 1 - m]? = some (xs[xs.size - 1 - m]?.getD default)
    rw [Array.getElem?_eq_getElem h2]
    rfl
  rw [e, List.getElem?_map]
  by_cases hi : i < xs.size
  · rw [List.getElem?_range hi, List.getElem?_reverse (by simpa using hi)]
    show some (xs[xs.size - 1 - i]?.getD default) = _
    have h2 : xs.size - 1 - i < xs.size := by omega
    rw [Array.getElem?_eq_getElem h2, Array.length_toList, Array.getElem?_toList, Array.getElem?_eq_getElem h2]
    rfl
  · rw [List.getElem?_eq_none (by simpa using hi), List.getElem?_eq_none (by simpa using hi)]
    rfl
theorem getItem_tuple_back {t sl : Addr} {items : Array Value} {tk : Tok} {Q : Value → Shared → Prop} (ht : IsTup s.heap t items) (hs : s.heap.IsSliceOf sl .none .none (.int (-1) tk))
    (h : Q (.ref s.heap.objs.size) { s with heap := s.heap.push { cls := .type "tuple", data := .seq items.toList.reverse.toArray } }) (hsz : items.size ≤ sizeLine) : wpAny (model prog w) A (getItem (.ref t) (.ref sl)) Q E s := by
  have hfit : sizeOk (.seq items.toList.reverse.toArray) := by
    show items.toList.reverse.toArray.size ≤ sizeLine
    rw [List.size_toArray, List.length_reverse, Array.length_toList]
    exact hsz
  obtain ⟨os, hos, hcs, hds⟩ := id hs
  have hTs : s.TypeIs (.ref sl) "slice" := ⟨os, hos, hcs⟩
  unfold getItem
  try with_reducible refine wpAny_holding ?_
  first | refine wpAny_bind (wpAny_pure ?_) | skip
  refine wpAny_bind (wpAny_sequenceKey ht.typeIs (by decide) ?_)
  refine wpAny_bind (wpAny_callSpecial?_slot (name := Str.ofString "__getitem__") ht.typeIs PyProof.Rows.slot_tuple_getitem
    (wpAny_call_entry PyProof.Rows.slot_tuple_getitem ht.typeIs entry_tuple_getitem ?_ (args_tuple_getitem _ _)))
  show wpAny _ _ (Builtin.Tuple.tupleItemsOf (.ref t) >>= _) _ _ s
  refine wpAny_bind (tupleItemsOf_ ht ?_)
  refine wpAny_bind (wpAny_typeOf hTs ?_)
  rw [if_pos (by decide)]
  refine wpAny_bind (sliceApplied_back hs ?_)
  have hno : ¬ ((((items.size : Int) - 1) == 0 && (-1 : Int) == 1 && items.size == items.size) = true) := by
    intro q
    rw [Bool.and_eq_true, Bool.and_eq_true] at q
    exact absurd q.1.2 (by decide)
  show wpAny _ _ (if (((items.size : Int) - 1) == 0 && (-1 : Int) == 1 && items.size == items.size) = true then _ else _) _ _ s
  rw [if_neg hno, pick_back]
  first
    | exact wpAny_bind (m := Builtin.Tuple.tupleExact _) (wpAny_newObj_type (wpAny_pure ⟨_, rfl, wpAny_pure h⟩) hfit)
    | exact wpAny_bind (m := Builtin.Tuple.tupleExact _) (wpAny_newObj_type (wpAny_bind (wpAny_pure (wpAny_pure ⟨_, rfl, wpAny_pure h⟩))) hfit)
    | exact wpAny_bind (wpAny_bind (m := Builtin.Tuple.tupleExact _) (wpAny_newObj_type (wpAny_pure (wpAny_pure ⟨_, rfl, wpAny_pure h⟩)) hfit))
    | exact wpAny_bind (wpAny_bind (m := Builtin.Tuple.tupleExact _) (wpAny_newObj_type (wpAny_pure ⟨_, rfl, wpAny_pure h⟩) hfit))
end
def rBack (K : PySem.W.Frag) : V → Hp → VK → Prop := fun x H Q => ∃ a xs, x = .ref a ∧ SqT K H a xs ∧ ∀ p, H p = none → Q (.ref p) (upd H p (.tup xs.reverse))
section
variable {X : Cx}
theorem vals_rev : ∀ {xs : List V} {us : List Value}, Vals xs us → Vals xs.reverse us.reverse
  | _, _, .nil => .nil
  | _, _, .cons a b => by
    rw [List.reverse_cons, List.reverse_cons]
    exact (vals_rev b).append (.cons a .nil)
theorem pe_back {e : Expr} {te : TE} {p2 p3 p4 pos : Pos} {n1 : Nat} (he : PE X e te) : PE X (.Subscript e (.Slice none none (some (.UnaryOp .USub (.Constant (.int 1) n1 p3) p4)) p2) pos) (tUn (rBack X.K) te) := by
  have hst : PE X (.UnaryOp .USub (.Constant (.int 1) n1 p3) p4) (tUn (rU fun i => .int (-i)) (tC (.int 1))) := pe_un un_neg pe_int
  refine ⟨fun pins s σ H Q I h => ?_⟩
  refine Subscript_ (thn (he.run pins s σ H _ I h) fun v s1 ⟨x, H1, I1, r1, a, xs, ex, hx, q⟩ => ?_)
  subst ex
  cases r1
  refine wpAny_Slice ?_
  rw [evalPart_none]
  refine wpAny_pure (wpAny_pure ?_)
  refine thn ((po_some hst).run pins s1 σ H1 (fun o H' => o = some (-1) ∧ H' = H1) I1 ⟨1, rfl, _, rfl, rfl, rfl⟩) fun u s2 ⟨o, H2, I2, pp, eo, eH⟩ => ?_
  subst eo eH
  cases pp with
  | int i tk =>
    obtain ⟨its, r, ht, hz⟩ := I2.tuple hx
    have I4 : Inv X pins σ H2 { s2 with heap := s2.heap.push { cls := .type "slice", data := .fields #[.none, .none, .int (-1) tk] } } := I2.kept (t' := s2.toks) fun b ob q => Heap.get?_push_of_some _ q
    obtain ⟨its, r, ht, hz⟩ := I4.tuple hx
    show wpAny (model X.prog X.w) X.A (subscriptTail e (.Slice none none (some (.UnaryOp .USub (.Constant (.int 1) n1 p3) p4)) p2) (.ref a) (.ref s2.heap.objs.size)) (EP X pins σ Q) X.xe { s2 with heap := s2.heap.push { cls := .type "slice", data := .fields #[.none, .none, .int (-1) tk] } }
    refine tail_any (ops := [.ref a, .ref s2.heap.objs.size]) ht.typeIs PyProof.Rows.slot_tuple_getitem.lookup (getItem_tuple_back ht (Heap.IsSliceOf.new ..) ?_ (by rw [List.size_toArray, ← r.length]; exact hz)) (by with_unfolding_all rfl)
    refine ⟨.ref _, _, I4.laid (t' := s2.toks) (o := .tup xs.reverse) (fun b ob q => Heap.get?_push_of_some _ q) (Nat.le_refl _) ?_, rfl, q _ (I4.hok.fresh (Nat.le_refl _))⟩
    refine ⟨by rw [List.length_reverse]; exact hz, _, vals_rev r, ?_⟩
    have z := IsTup.new { s2 with heap := s2.heap.push { cls := .type "slice", data := .fields #[.none, .none, .int (-1) tk] } }.heap its.reverse.toArray
    simpa using z
theorem pe_backU {K : PySem.W.Frag} {e : Expr} {te : TE} {p2 p3 p4 pos : Pos} {n1 : Nat} (hK : X.K = K) (he : PE X e te) : PE X (.Subscript e (.Slice none none (some (.UnaryOp .USub (.Constant (.int 1) n1 p3) p4)) p2) pos) (tUn (rBack K) te) := by
  subst hK
  exact pe_back he
end
theorem DgAll.revd {K : PySem.W.Frag} {F : Hp} {vs : List V} {ds : List PyData} (h : DgAll K F vs ds) : DgAll K F vs.reverse ds.reverse := DgAll.rev h
theorem d_back {C : Cz} {S : DS} {Q : DV → DS → Prop} {ds : List PyData} (q : Q (.d (.tuple ds.reverse)) S) : DR1 C (rBack C.K) (.d (.tuple ds)) S Q := fun Z H so v rv QV k => by
  obtain ⟨p, us, rfl, s, aa⟩ := Dg.tuple rv
  exact ⟨p, us, rfl, fz_fr.seqT s (by simp), fun p' hp => kT so k hp (DgAll.rev aa) q⟩
theorem d_listTF {C : Cz} {S : DS} {Q : DV → DS → Prop} {ds : List PyData} (q : Q (.d (.list ds)) S) : DRs C (rListU C.K) [.d (.tuple ds)] S Q := fun Z H so vs rs QV k => by
  obtain ⟨v, rfl, rv⟩ := rs.one
  obtain ⟨p, us, rfl, s, aa⟩ := Dg.tuple rv
  refine w_listT (fz_fr.seqT s (by simp)) fun p hp => ?_
  have st := Stp.data (o := .lst us) so hp
  exact k _ _ (.d (.list ds)) S st (Dg.lst (.inl (.inl (fz_in upd_same (so.new hp).1 (so.new hp).2))) (DgAll.fr st.fz aa)) q
end U

/-! the mirror: what a def computes, as a plain function; readings by it -/
namespace U
open PySem PySem.Spec PyProof.Rows L2
/-- it ends well, with something of which k is true -/
def go {α : Type} (o : Option α) (k : α → Prop) : Prop := ∃ a, o = some a ∧ k a
section
variable {α β ρ σ : Type}
theorem gs {a : α} {k : α → Prop} (h : go (some a) k) : k a := by
  obtain ⟨b, e, h⟩ := h
  cases e
  exact h
theorem go_some {a : α} {k : α → Prop} : go (some a) k = k a := propext ⟨gs, fun h => ⟨a, rfl, h⟩⟩
theorem gb {o : Option α} {f : α → Option β} {k : β → Prop} (h : go (o.bind f) k) : ∃ a, o = some a ∧ go (f a) k := by
  cases o with
  | none => obtain ⟨b, e, _⟩ := h; cases e
  | some a => exact ⟨a, rfl, h⟩
theorem gc {o : Option α} {f : α → Option β} {k : β → Prop} (h : go (o.bind f) k) : go o fun a => go (f a) k := gb h
theorem go_bind {o : Option α} {f : α → Option β} {k : β → Prop} : go (o.bind f) k = go o fun a => go (f a) k := propext ⟨gc, fun ⟨a, e, h⟩ => by rw [e]; exact h⟩
theorem go.imp {o : Option α} {k k' : α → Prop} (h : go o k) (i : ∀ a, k a → k' a) : go o k' := by
  obtain ⟨a, e, h⟩ := h
  exact ⟨a, e, i a h⟩
/-- what is told of all that may be drawn -/
abbrev DM (α : Type) := (α → Prop) → Prop
def DM.bind (m : DM α) (f : α → DM β) : DM β := fun k => m fun a => f a k
abbrev DM.of (o : Option α) : DM α := go o
def DM.ret (a : α) : DM α := fun k => k a
def DM.draw (m : Int) : DM Int := fun k => 0 < m ∧ m < 2 ^ 64 ∧ ∀ r, 0 ≤ r → r < m → k r
theorem db {m : DM α} {f : α → DM β} {k : β → Prop} (h : DM.bind m f k) : m fun a => f a k := h
theorem dgb {o : Option α} {f : α → DM β} {k : β → Prop} (h : DM.bind (DM.of o) f k) : ∃ a, o = some a ∧ f a k := h
theorem dr {a : α} {k : α → Prop} (h : DM.ret a k) : k a := h
/-! what a row of statements comes to: it answers, or goes on -/
inductive Fl (ρ σ : Type)
  | rt (r : ρ)
  | nx (s : σ)
def Fl.k {γ : Type} (v : ρ → γ) (n : σ → γ) : Fl ρ σ → γ
  | .rt r => v r
  | .nx s => n s
theorem rt1 {r : ρ} {V : ρ → Prop} {R : σ → Prop} (h : go (some (Fl.rt r)) (Fl.k V R)) : V r := gs (k := Fl.k V R) h
theorem nx1 {s : σ} {V : ρ → Prop} {R : σ → Prop} (h : go (some (Fl.nx s)) (Fl.k V R)) : R s := gs (k := Fl.k V R) h
theorem drt1 {r : ρ} {V : ρ → Prop} {R : σ → Prop} (h : DM.ret (Fl.rt r) (Fl.k V R)) : V r := h
theorem dnx1 {s : σ} {V : ρ → Prop} {R : σ → Prop} (h : DM.ret (Fl.nx s) (Fl.k V R)) : R s := h
def Fl.on {γ : Type} (o : Fl ρ σ) (v : ρ → γ) (n : σ → γ) : γ := Fl.k v n o
theorem fl_nx {v : ρ → Option β} {n : σ → Option β} {s : σ} {k : β → Prop} (h : go (Fl.on (.nx s) v n) k) : go (n s) k := h
theorem fl_rt {v : ρ → Option β} {n : σ → Option β} {r : ρ} {k : β → Prop} (h : go (Fl.on (.rt r) v n) k) : go (v r) k := h
theorem dfl_nx {v : ρ → DM β} {n : σ → DM β} {s : σ} {k : β → Prop} (h : Fl.on (.nx s) v n k) : n s k := h
theorem dfl_rt {v : ρ → DM β} {n : σ → DM β} {r : ρ} {k : β → Prop} (h : Fl.on (.rt r) v n k) : v r k := h
/-! loops -/
def forO (f : α → σ → Option (Fl ρ σ)) : List α → σ → Option (Fl ρ σ)
  | [], s => some (.nx s)
  | x :: r, s => (f x s).bind fun o => Fl.k (fun v => some (.rt v)) (fun s' => forO f r s') o
def foldO (f : α → σ → Option σ) : List α → σ → Option σ
  | [], s => some s
  | x :: r, s => (f x s).bind fun s' => foldO f r s'
def forM (f : α → σ → DM (Fl ρ σ)) : List α → σ → DM (Fl ρ σ)
  | [], s => fun k => k (.nx s)
  | x :: r, s => fun k => f x s fun o => Fl.k (fun v => k (.rt v)) (fun s' => forM f r s' k) o
def foldM' (f : α → σ → DM σ) : List α → σ → DM σ
  | [], s => fun k => k s
  | x :: r, s => fun k => f x s fun s' => foldM' f r s' k
theorem forO_M {f : α → σ → Option (Fl ρ σ)} : ∀ {xs : List α} {s : σ} {k : Fl ρ σ → Prop}, go (forO f xs s) k → forM (fun x s => go (f x s)) xs s k
  | [], s, k, h => gs (k := k) h
  | x :: r, s, k, h => by
    obtain ⟨o, e, h⟩ := gb h
    refine ⟨o, e, ?_⟩
    cases o with
    | rt v => exact gs (k := k) h
    | nx s' => exact forO_M h
theorem foldO_M {f : α → σ → Option σ} : ∀ {xs : List α} {s : σ} {k : σ → Prop}, go (foldO f xs s) k → foldM' (fun x s => go (f x s)) xs s k
  | [], s, k, h => gs (k := k) h
  | x :: r, s, k, h => by
    obtain ⟨o, e, h⟩ := gb h
    exact ⟨o, e, foldO_M h⟩
def nxK (k : σ → Prop) : Fl ρ σ → Prop := Fl.k (fun _ => False) k
theorem foldM_M {f : α → σ → DM σ} : ∀ {xs : List α} {s : σ} {k : σ → Prop}, foldM' f xs s k → (∀ x s k k', (∀ a, k a → k' a) → f x s k → f x s k') → forM (ρ := Unit) (fun x s k => f x s fun s' => k (.nx s')) xs s (nxK k)
  | [], s, k, h, mo => h
  | x :: r, s, k, h, mo => mo _ _ _ _ (fun a h => foldM_M h mo) h
/-! comprehensions -/
def opc (o : Option β) (ys : List β) : List β := match o with | none => ys | some y => y :: ys
def mapO (f : α → Option β) : List α → Option (List β)
  | [] => some []
  | x :: r => (f x).bind fun y => (mapO f r).bind fun ys => some (y :: ys)
def fmO (f : α → Option (Option β)) : List α → Option (List β)
  | [] => some []
  | x :: r => (f x).bind fun o => (fmO f r).bind fun ys => some (opc o ys)
def mapM' (f : α → DM β) : List α → DM (List β)
  | [] => fun k => k []
  | x :: r => fun k => f x fun y => mapM' f r fun ys => k (y :: ys)
def fmM (f : α → DM (Option β)) : List α → DM (List β)
  | [] => fun k => k []
  | x :: r => fun k => f x fun o => fmM f r fun ys => k (opc o ys)
theorem mapO_M {f : α → Option β} : ∀ {xs : List α} {k : List β → Prop}, go (mapO f xs) k → mapM' (fun x => go (f x)) xs k
  | [], k, h => gs (k := k) h
  | x :: r, k, h => by
    obtain ⟨o, e, h⟩ := gb h
    exact ⟨o, e, mapO_M (k := fun ys => k (o :: ys)) ((gc h).imp fun ys h => gs (k := k) h)⟩
theorem fmO_M {f : α → Option (Option β)} : ∀ {xs : List α} {k : List β → Prop}, go (fmO f xs) k → fmM (fun x => go (f x)) xs k
  | [], k, h => gs (k := k) h
  | x :: r, k, h => by
    obtain ⟨o, e, h⟩ := gb h
    exact ⟨o, e, fmO_M (k := fun ys => k (opc o ys)) ((gc h).imp fun ys h => gs (k := k) h)⟩
end
/-! ### ways -/
section
variable {α β : Type} {k : β → Prop} {P R : Prop}
theorem ite_go {c : Bool} {a b : Option β} (h : go (if c = true then a else b) k) (h1 : c = true → go a k → P) (h2 : c = false → go b k → R) : if c = true then P else R := by
  cases c with
  | true => exact h1 rfl h
  | false => exact h2 rfl h
theorem ite_dm {c : Bool} {a b : DM β} (h : (if c = true then a else b) k) (h1 : c = true → a k → P) (h2 : c = false → b k → R) : if c = true then P else R := by
  cases c with
  | true => exact h1 rfl h
  | false => exact h2 rfl h
def andO (a : Option Bool) (b : Option Bool) : Option Bool := a.bind fun x => if x = true then b else some false
def orO (a : Option Bool) (b : Option Bool) : Option Bool := a.bind fun x => if x = true then some true else b
@[simp] theorem andO_tt {b : Option Bool} : andO (some true) b = b := rfl
@[simp] theorem andO_ff {b : Option Bool} : andO (some false) b = some false := rfl
@[simp] theorem orO_tt {b : Option Bool} : orO (some true) b = some true := rfl
@[simp] theorem orO_ff {b : Option Bool} : orO (some false) b = b := rfl
@[simp] theorem andO_ss {a b : Bool} : andO (some a) (some b) = some (a && b) := by cases a <;> rfl
@[simp] theorem orO_ss {a b : Bool} : orO (some a) (some b) = some (a || b) := by cases a <;> rfl
end
/-! ### a list that is not changed from here on -/
section
variable {C : Cz} {E : EnvD} {S R : DS} {Q : DV → DS → Prop}
theorem frz_run {Z : List Addr} {H : Hp} {p : Addr} {ds : List PyData} (so : SOk C Z H S) (pk : Pick S p (LD ds) R) : Stp C Z H S H R ∧ DvR C.K (fz H Z R) (.ref p) (.d (.list ds)) := by
  have st : Stp C Z H S H R := by
    have pp : S.Perm (R ++ [(p, LD ds)]) := pk.perm.trans (List.perm_append_comm (l₁ := [(p, LD ds)]))
    exact (Stp.sub (so.perm pp)).permL pp
  refine ⟨st, ?_⟩
  obtain ⟨vs, e, r⟩ := so.lst pk
  have pd := dom_perm pk.perm
  have nd := pd.nodup_iff.mp so.nd
  have hp : p ∉ dom R := fun z => (List.nodup_cons.mp (show (p :: dom R).Nodup from nd)).1 z
  have hz : p ∉ Z := so.z p (pd.mem_iff.mpr List.mem_cons_self)
  exact Dg.lst (.inl (.inl (fz_in e hz hp))) (DgAll.fr st.fz r.dg)
def FRZ (x : DV) (S : DS) (Q : DV → DS → Prop) : Prop := ∃ p R ds, x = .v (.ref p) ∧ Pick S p (LD ds) R ∧ Q (.d (.list ds)) R
theorem d_frz {te : TE} (q : DE C te E S fun x S1 => FRZ x S1 Q) : DE C te E S Q := fun Z σ H so er QV k =>
  q Z σ H so er _ fun v H1 x S1 s1 rv q1 => by
    obtain ⟨p, R, ds, rfl, pk, q2⟩ := q1
    cases rv
    obtain ⟨st, rr⟩ := frz_run s1.so pk
    exact k _ _ _ _ (s1.trans st) rr q2
theorem frzI {p : Addr} {ds : List PyData} (pk : Pick S p (LD ds) R) (q : Q (.d (.list ds)) R) : FRZ (.v (.ref p)) S Q := ⟨p, R, ds, rfl, pk, q⟩
/-- where ways come together -/
theorem d_cutG {t u : TS} {τ σ : Type} {π : τ → σ} {Ef : τ → EnvD} {Sf : τ → DS} {m : DM σ} {K : σ → Prop} {M : DEnds} (k : m K) (q : ∀ R : σ → Prop, m R → DSt C t E S ⟨fun E' S' => ∃ s, Le E' (Ef s) ∧ Sub S' (Sf s) ∧ R (π s), M.rt, M.bk, M.ct⟩) (h : ∀ s, K (π s) → DSt C u (Ef s) (Sf s) M) : DSt C (C8.tCut t u) E S M :=
  d_cut _ (q K k) fun E1 S1 ⟨s, l, b, k⟩ => ((h s k).sub b).le l
theorem d_cutF {t u : TS} {τ σ ρ : Type} {π : τ → σ} {Ef : τ → EnvD} {Sf : τ → DS} {m : DM (Fl ρ σ)} {K : Fl ρ σ → Prop} {M : DEnds} (k : m K) (q : ∀ R : σ → Prop, m (Fl.k (fun v => K (.rt v)) R) → DSt C t E S ⟨fun E' S' => ∃ s, Le E' (Ef s) ∧ Sub S' (Sf s) ∧ R (π s), M.rt, M.bk, M.ct⟩) (h : ∀ s, K (.nx (π s)) → DSt C u (Ef s) (Sf s) M) : DSt C (C8.tCut t u) E S M := by
  refine d_cut _ (q (fun s => K (.nx s)) ?_) fun E1 S1 ⟨s, l, b, k⟩ => ((h s k).sub b).le l
  have e : Fl.k (fun v => K (.rt v)) (fun s => K (.nx s)) = K := by
    funext o
    cases o <;> rfl
  rw [e]
  exact k
/-- where the ways of a value come together -/
theorem d_valM {te : TE} {σ : Type} {f : σ → PyData} {m : DM σ} {K : σ → Prop} (k : m K) (q : ∀ R : σ → Prop, m R → DE C te E S fun x S1 => ∃ s, x = .d (f s) ∧ Sub S1 S ∧ R s) (h : ∀ s, K s → Q (.d (f s)) S) : DE C te E S Q := fun Z σ H so er QV kk =>
  q K k Z σ H so er _ fun v H1 x S1 s1 rv q1 => by
    obtain ⟨s, rfl, sb, ks⟩ := q1
    have st := sb.stp s1.so
    exact kk _ _ _ _ (s1.trans st) (rv.fr st.fz) (h s ks)
theorem d_testM {tt : TT} {QB : Bool → DS → Prop} {m : DM Bool} {K : Bool → Prop} (k : m K) (q : ∀ R : Bool → Prop, m R → DT C tt E S fun b S1 => Sub S1 S ∧ R b) (h : ∀ b, K b → QB b S) : DT C tt E S QB := fun Z σ H so er QV kk =>
  q K k Z σ H so er _ fun b H1 S1 s1 q1 => by
    obtain ⟨sb, ks⟩ := q1
    have st := sb.stp s1.so
    exact kk _ _ _ (s1.trans st) (h b ks)
def andM (a b : DM Bool) : DM Bool := DM.bind a fun x => if x = true then b else DM.ret false
def orM (a b : DM Bool) : DM Bool := DM.bind a fun x => if x = true then DM.ret true else b
/-! ### loops by a mirror -/
theorem forG {α σ ρ τ : Type} {emb : α → DV} {xs : List α} {f : α → σ → DM (Fl ρ σ)} {π : τ → σ} {Ef : τ → EnvD} {Sf : τ → DS} {K : Fl ρ σ → Prop} {keep : DS → Prop} {tg : TG} {tb : TS} {M : DEnds}
    (t0 : τ) (k : forM f xs (π t0) K) (l0 : Le E (Ef t0)) (s0 : Sub S (Sf t0)) (kp : ∀ t, keep (Sf t))
    (hs : ∀ x, x ∈ xs → ∀ t (R : σ → Prop), f x (π t) (Fl.k (fun v => K (.rt v)) R) → DG C tg (emb x) (Ef t) (Sf t) fun E1 S1 => DSt C tb E1 S1 ⟨fun E2 S2 => ∃ t', Le E2 (Ef t') ∧ Sub S2 (Sf t') ∧ R (π t'), M.rt, M.nx, fun E2 S2 => ∃ t', Le E2 (Ef t') ∧ Sub S2 (Sf t') ∧ R (π t')⟩)
    (hd : ∀ t, K (.nx (π t)) → M.nx (Ef t) (Sf t)) : FORI C xs.length (fun i x => ∃ a, xs[i]? = some a ∧ x = emb a) keep tg tb E S M := by
  refine ⟨fun i E' S' => ∃ t, E' = Ef t ∧ S' = Sf t ∧ forM f (xs.drop i) (π t) K, ⟨Ef t0, Sf t0, l0, s0, t0, rfl, rfl, k⟩, ?_, ?_, ?_⟩
  · rintro i E' S' ⟨t, rfl, rfl, _⟩
    exact kp t
  · rintro i x E' S' hi ⟨a, ha, rfl⟩ ⟨t, rfl, rfl, h⟩
    have hd : xs.drop i = a :: xs.drop (i + 1) := by
      rw [List.drop_eq_getElem_cons hi]
      congr 1
      exact Option.some.inj ((List.getElem?_eq_getElem hi).symm.trans ha)
    rw [hd] at h
    have h : f a (π t) (Fl.k (fun v => K (.rt v)) fun s' => forM f (xs.drop (i + 1)) s' K) := h
    have hb := hs a (List.mem_of_getElem? ha) t _ h
    refine hb.imp fun E1 S1 q => DSt.imp q ?_ (fun _ _ z => z) (fun _ _ z => z) ?_
    · rintro E2 S2 ⟨t', l, s, r⟩
      exact ⟨_, _, l, s, t', rfl, rfl, r⟩
    · rintro E2 S2 ⟨t', l, s, r⟩
      exact ⟨_, _, l, s, t', rfl, rfl, r⟩
  · rintro E' S' ⟨t, rfl, rfl, h⟩
    rw [List.drop_length] at h
    exact hd t h
/-- a loop that never answers -/
theorem forF {α σ τ : Type} {emb : α → DV} {xs : List α} {f : α → σ → DM σ} {π : τ → σ} {Ef : τ → EnvD} {Sf : τ → DS} {K : σ → Prop} {keep : DS → Prop} {tg : TG} {tb : TS} {M : DEnds}
    (t0 : τ) (k : foldM' f xs (π t0) K) (l0 : Le E (Ef t0)) (s0 : Sub S (Sf t0)) (kp : ∀ t, keep (Sf t))
    (hs : ∀ x, x ∈ xs → ∀ t (R : σ → Prop), f x (π t) R → DG C tg (emb x) (Ef t) (Sf t) fun E1 S1 => DSt C tb E1 S1 ⟨fun E2 S2 => ∃ t', Le E2 (Ef t') ∧ Sub S2 (Sf t') ∧ R (π t'), M.rt, M.nx, fun E2 S2 => ∃ t', Le E2 (Ef t') ∧ Sub S2 (Sf t') ∧ R (π t')⟩)
    (hd : ∀ t, K (π t) → M.nx (Ef t) (Sf t)) : FORI C xs.length (fun i x => ∃ a, xs[i]? = some a ∧ x = emb a) keep tg tb E S M := by
  refine ⟨fun i E' S' => ∃ t, E' = Ef t ∧ S' = Sf t ∧ foldM' f (xs.drop i) (π t) K, ⟨Ef t0, Sf t0, l0, s0, t0, rfl, rfl, k⟩, ?_, ?_, ?_⟩
  · rintro i E' S' ⟨t, rfl, rfl, _⟩
    exact kp t
  · rintro i x E' S' hi ⟨a, ha, rfl⟩ ⟨t, rfl, rfl, h⟩
    have hd : xs.drop i = a :: xs.drop (i + 1) := by
      rw [List.drop_eq_getElem_cons hi]
      congr 1
      exact Option.some.inj ((List.getElem?_eq_getElem hi).symm.trans ha)
    rw [hd] at h
    have hb := hs a (List.mem_of_getElem? ha) t (fun s' => foldM' f (xs.drop (i + 1)) s' K) h
    refine hb.imp fun E1 S1 q => DSt.imp q ?_ (fun _ _ z => z) (fun _ _ z => z) ?_
    · rintro E2 S2 ⟨t', l, s, r⟩
      exact ⟨_, _, l, s, t', rfl, rfl, r⟩
    · rintro E2 S2 ⟨t', l, s, r⟩
      exact ⟨_, _, l, s, t', rfl, rfl, r⟩
  · rintro E' S' ⟨t, rfl, rfl, h⟩
    rw [List.drop_length] at h
    exact hd t h
end
/-! ### what is walked -/
def seqP : PyData → Option (List PyData)
  | .tuple ds => some ds
  | .list ds => some ds
  | .str z => some (z.cps.toList.map fun c => .str ⟨#[c]⟩)
  | _ => none
def rngP (n : Int) : List Int := (List.range n.toNat).map Int.ofNat
def rng2P (l j : Int) : List Int := (List.range (j - l).toNat).map fun i => l + Int.ofNat i
section
variable {C : Cz} {E : EnvD} {S R : DS} {Q : DV → DS → Prop} {M : DEnds} {tg : TG} {tb : TS} {tt : TT} {te : TE} {ws : List Nat}
theorem itm_seq {d : PyData} {ds : List PyData} (h : seqP d = some ds) : Itm S (.d d) ds.length (fun i x => ∃ a, ds[i]? = some a ∧ x = .d a) (fun _ => True) := by
  cases d with
  | tuple es => cases h; exact .tup
  | list es => cases h; exact .lst
  | str z =>
    cases h
    have := Itm.str (S := S) (z := z)
    have e : (fun (i : Nat) (x : DV) => ∃ d, (z.cps.toList.map fun c => PyData.str ⟨#[c]⟩)[i]? = some d ∧ x = .d d) = fun i x => ∃ c, z.cps[i]? = some c ∧ x = .d (.str ⟨#[c]⟩) := by
      funext i x
      apply propext
      constructor
      · rintro ⟨d, h, rfl⟩
        obtain ⟨c, h1, rfl⟩ := map_get h
        exact ⟨c, by simpa using h1, rfl⟩
      · rintro ⟨c, h, rfl⟩
        exact ⟨_, by rw [List.getElem?_map, show z.cps.toList[i]? = some c by simpa using h]; rfl, rfl⟩
    rw [e, List.length_map]
    exact this
  | _ => cases h
theorem for_seq {d : PyData} {ds : List PyData} (h : seqP d = some ds) (f : FORI C ds.length (fun i x => ∃ a, ds[i]? = some a ∧ x = .d a) (fun _ => True) tg tb E S M) : FORX C (.d d) tg tb E S M := ⟨_, _, _, itm_seq h, f⟩
theorem for_own {p : Addr} {ds : List PyData} (pk : Pick S p (LD ds) R) (f : FORI C ds.length (fun i x => ∃ a, ds[i]? = some a ∧ x = .d a) (fun S' => ∃ R, Pick S' p (LD ds) R) tg tb E S M) : FORX C (.v (.ref p)) tg tb E S M := ⟨_, _, _, .ownD pk, f⟩
theorem for_rng {j : Int} (b : -100000 ≤ j ∧ j ≤ 100000) (f : FORI C (rngP j).length (fun i x => ∃ a, (rngP j)[i]? = some a ∧ x = .d (.int a)) (fun _ => True) tg tb E S M) : ∃ j' : Int, [DV.d (.int j)] = [.d (.int j')] ∧ j' ≤ 2 ^ 61 ∧ -(2 ^ 61) ≤ j' ∧ FORI C j'.toNat (fun i x => x = .d (.int i)) (fun _ => True) tg tb E S M := by
  refine ⟨j, rfl, by omega, by omega, ?_⟩
  have e : (rngP j).length = j.toNat := by simp [rngP]
  rw [e] at f
  obtain ⟨W, a, b, c, d⟩ := f
  refine ⟨W, a, b, fun i x E0 S0 hi hx w => c i x E0 S0 hi ⟨i, ?_, hx⟩ w, d⟩
  subst hx
  rw [rngP, List.getElem?_map, List.getElem?_range hi]
  rfl
theorem for_rng2 {l j : Int} (b : (-100000 ≤ l ∧ l ≤ 100000) ∧ -100000 ≤ j ∧ j ≤ 100000) (f : FORI C (rng2P l j).length (fun i x => ∃ a, (rng2P l j)[i]? = some a ∧ x = .d (.int a)) (fun _ => True) tg tb E S M) : ∃ l' j' : Int, [DV.d (.int l), .d (.int j)] = [.d (.int l'), .d (.int j')] ∧ (-(2 ^ 61) ≤ l' ∧ l' ≤ 2 ^ 61 ∧ -(2 ^ 61) ≤ j' ∧ j' ≤ 2 ^ 61) ∧ FORI C (j' - l').toNat (fun i x => x = .d (.int (l' + i))) (fun _ => True) tg tb E S M := by
  refine ⟨l, j, rfl, ⟨by omega, by omega, by omega, by omega⟩, ?_⟩
  have e : (rng2P l j).length = (j - l).toNat := by simp [rng2P]
  rw [e] at f
  obtain ⟨W, a, b, c, d⟩ := f
  refine ⟨W, a, b, fun i x E0 S0 hi hx w => c i x E0 S0 hi ⟨l + i, ?_, hx⟩ w, d⟩
  subst hx
  rw [rng2P, List.getElem?_map, List.getElem?_range hi]
  rfl
/-! comprehensions by a mirror; nothing of one's own is changed -/
theorem lcG {α : Type} {emb : α → DV} {xs : List α} {f : α → DM PyData} {K : List PyData → Prop} (k : mapM' f xs K) (gk : GOk tg ws) (hn : xs.length ≤ 100000)
    (hs : ∀ x, x ∈ xs → ∀ R : PyData → Prop, f x R → DG C tg (emb x) (wipeE E ws) S fun E1 S1 => DE C te E1 S1 fun y S3 => ∃ d, y = .d d ∧ Sub S3 S ∧ R d)
    (hq : ∀ ys, K ys → ∀ p, Q (.v (.ref p)) ((p, LD ys) :: S)) : LCI C xs.length (fun i x => ∃ a, xs[i]? = some a ∧ x = emb a) tg tYes te ws E S Q := by
  refine ⟨gk, hn, fun i acc => mapM' f (xs.drop i) fun ys => K (acc ++ ys), by simpa using k, ?_, fun acc h p => ?_⟩
  · rintro i x acc hi ⟨a, ha, rfl⟩ h
    have hd : xs.drop i = a :: xs.drop (i + 1) := by
      rw [List.drop_eq_getElem_cons hi]
      congr 1
      exact Option.some.inj ((List.getElem?_eq_getElem hi).symm.trans ha)
    rw [hd] at h
    refine (hs a (List.mem_of_getElem? ha) (fun y => mapM' f (xs.drop (i + 1)) fun ys => K (acc ++ y :: ys)) h).imp fun E1 S1 q => d_yes ?_
    rw [if_pos rfl]
    refine q.imp fun y S3 ⟨d, hy, sb, r⟩ => ⟨d, hy, sb, ?_⟩
    simpa using r
  · have h : mapM' f (xs.drop xs.length) (fun ys => K (acc ++ ys)) := h
    rw [List.drop_length] at h
    have h : K (acc ++ []) := h
    rw [List.append_nil] at h
    exact hq acc h p
theorem lcGf {α : Type} {emb : α → DV} {xs : List α} {f : α → DM (Option PyData)} {K : List PyData → Prop} (k : fmM f xs K) (gk : GOk tg ws) (hn : xs.length ≤ 100000)
    (hs : ∀ x, x ∈ xs → ∀ R : Option PyData → Prop, f x R → DG C tg (emb x) (wipeE E ws) S fun E1 S1 => DT C tt E1 S1 fun b S2 => if b = true then DE C te E1 S2 fun y S3 => ∃ d, y = .d d ∧ Sub S3 S ∧ R (some d) else Sub S2 S ∧ R none)
    (hq : ∀ ys, K ys → ∀ p, Q (.v (.ref p)) ((p, LD ys) :: S)) : LCI C xs.length (fun i x => ∃ a, xs[i]? = some a ∧ x = emb a) tg tt te ws E S Q := by
  refine ⟨gk, hn, fun i acc => fmM f (xs.drop i) fun ys => K (acc ++ ys), by simpa using k, ?_, fun acc h p => ?_⟩
  · rintro i x acc hi ⟨a, ha, rfl⟩ h
    have hd : xs.drop i = a :: xs.drop (i + 1) := by
      rw [List.drop_eq_getElem_cons hi]
      congr 1
      exact Option.some.inj ((List.getElem?_eq_getElem hi).symm.trans ha)
    have h : fmM f (xs.drop i) (fun ys => K (acc ++ ys)) := h
    rw [hd] at h
    refine (hs a (List.mem_of_getElem? ha) (fun o => fmM f (xs.drop (i + 1)) fun ys => K (acc ++ (opc o ys))) h).imp fun E1 S1 q => q.imp fun b S2 q2 => ?_
    cases b with
    | true =>
      refine (q2 : DE C te E1 S2 _).imp fun y S3 ⟨d, hy, sb, r⟩ => ⟨d, hy, sb, ?_⟩
      have r : fmM f (xs.drop (i + 1)) (fun ys => K (acc ++ (d :: ys))) := r
      simpa using r
    | false =>
      have q2 : Sub S2 S ∧ _ := q2
      exact q2
  · have h : fmM f (xs.drop xs.length) (fun ys => K (acc ++ ys)) := h
    rw [List.drop_length] at h
    have h : K (acc ++ []) := h
    rw [List.append_nil] at h
    exact hq acc h p
theorem lc_seq {d : PyData} {ds : List PyData} (h : seqP d = some ds) (f : LCI C ds.length (fun i x => ∃ a, ds[i]? = some a ∧ x = .d a) tg tt te ws E S Q) : LCX C (.d d) tg tt te ws E S Q := ⟨_, _, _, itm_seq h, trivial, f⟩
theorem lc_own {p : Addr} {ds : List PyData} (pk : Pick S p (LD ds) R) (f : LCI C ds.length (fun i x => ∃ a, ds[i]? = some a ∧ x = .d a) tg tt te ws E S Q) : LCX C (.v (.ref p)) tg tt te ws E S Q := ⟨_, _, _, .ownD pk, ⟨R, pk⟩, f⟩
theorem lc_rng {j : Int} (b : -100000 ≤ j ∧ j ≤ 100000) (f : LCI C (rngP j).length (fun i x => ∃ a, (rngP j)[i]? = some a ∧ x = .d (.int a)) tg tt te ws E S Q) : ∃ j' : Int, [DV.d (.int j)] = [.d (.int j')] ∧ j' ≤ 100000 ∧ -(2 ^ 61) ≤ j' ∧ LCI C j'.toNat (fun i x => x = .d (.int i)) tg tt te ws E S Q := by
  refine ⟨j, rfl, by omega, by omega, ?_⟩
  have e : (rngP j).length = j.toNat := by simp [rngP]
  rw [e] at f
  obtain ⟨g, hn, W, a, c, d⟩ := f
  refine ⟨g, hn, W, a, fun i x acc hi hx w => c i x acc hi ⟨i, ?_, hx⟩ w, d⟩
  subst hx
  rw [rngP, List.getElem?_map, List.getElem?_range hi]
  rfl
theorem lc_rng2 {l j : Int} (b : (-100000 ≤ l ∧ l ≤ 100000) ∧ -100000 ≤ j ∧ j ≤ 100000) (f : LCI C (rng2P l j).length (fun i x => ∃ a, (rng2P l j)[i]? = some a ∧ x = .d (.int a)) tg tt te ws E S Q) : ∃ l' j' : Int, [DV.d (.int l), .d (.int j)] = [.d (.int l'), .d (.int j')] ∧ (-(2 ^ 61) ≤ l' ∧ l' ≤ 2 ^ 61 ∧ -(2 ^ 61) ≤ j' ∧ j' ≤ 2 ^ 61) ∧ LCI C (j' - l').toNat (fun i x => x = .d (.int (l' + i))) tg tt te ws E S Q := by
  refine ⟨l, j, rfl, ⟨by omega, by omega, by omega, by omega⟩, ?_⟩
  have e : (rng2P l j).length = (j - l).toNat := by simp [rng2P]
  rw [e] at f
  obtain ⟨g, hn, W, a, c, d⟩ := f
  refine ⟨g, hn, W, a, fun i x acc hi hx w => c i x acc hi ⟨l + i, ?_, hx⟩ w, d⟩
  subst hx
  rw [rng2P, List.getElem?_map, List.getElem?_range hi]
  rfl
end
end U

/-! operators and built-ins of the mirror -/
namespace U
open PySem PySem.Spec PyProof.Rows L2
def isNonD : PyData → Bool | .none => true | _ => false
theorem isN_d {x : PyData} : isN (.d x) = isNonD x := by cases x <;> rfl
def okD (d : PyData) : Bool := d.canLay0 && decide (d.depth ≤ 60)
theorem okD_lay {d : PyData} (h : okD d = true) : Lay 60 d := by
  have := Bool.and_eq_true_iff.mp h
  exact ⟨this.1, of_decide_eq_true this.2⟩
def asI : PyData → Option Int | .int i => some i | _ => none
def asB : PyData → Option Bool | .bool i => some i | _ => none
@[simp] theorem asI_i {i : Int} : asI (.int i) = some i := rfl
@[simp] theorem asB_b {i : Bool} : asB (.bool i) = some i := rfl
theorem asI_of {d : PyData} {i : Int} (h : asI d = some i) : d = .int i := by
  cases d <;> first | (cases h; rfl) | cases h
theorem asB_of {d : PyData} {i : Bool} (h : asB d = some i) : d = .bool i := by
  cases d <;> first | (cases h; rfl) | cases h
def addP : PyData → PyData → Option PyData
  | .int a, .int b => some (.int (a + b))
  | .str a, .str b => if a.length + b.length ≤ sizeLine then some (.str (a ++ b)) else none
  | .tuple a, .tuple b => if a.length + b.length ≤ 100000 then some (.tuple (a ++ b)) else none
  | _, _ => none
def eqP (x y : PyData) : Option Bool :=
  match x, y with
  | .str a, .str b => some (decide (a = b))
  | .int a, .int b => some (decide (a = b))
  | x, y => if okD x && okD y then some (PyData.eqv x y) else none
def ltP : PyData → PyData → Option Bool
  | .int a, .int b => some (decide (a < b))
  | .str a, .str b => some (decide (a.cps.toList < b.cps.toList))
  | _, _ => none
def inP (x : PyData) : PyData → Option Bool
  | .str z => match x with
    | .str ⟨⟨[c]⟩⟩ => some (decide (c ∈ z.cps.toList))
    | _ => none
  | .tuple ds => if flD x && ds.all flD then some (ds.any fun z => PyData.eqv z x) else none
  | .list ds => if okD x && okD (.list ds) then some (ds.any fun z => PyData.eqv z x) else none
  | _ => none
def inL (x : PyData) (ds : List PyData) : Option Bool := if (okD x && okD (.list ds)) || (flD x && ds.all flD) then some (ds.any fun z => PyData.eqv z x) else none
def ixL {α : Type} (xs : List α) (i : Int) : Option α := (ixN xs.length i).bind fun j => xs[j]?
def ixP (d : PyData) (i : Int) : Option PyData :=
  match d with
  | .tuple ds => ixL ds i
  | .list ds => ixL ds i
  | .str z => if z.length ≤ sizeLine then (ixL z.cps.toList i).bind fun c => some (.str ⟨#[c]⟩) else none
  | _ => none
def lenP : PyData → Option Int
  | .tuple ds => some ds.length
  | .list ds => some ds.length
  | .str z => if z.length ≤ sizeLine then some z.length else none
  | _ => none
def slP (d : PyData) (lo hi : Option Int) : Option PyData :=
  match d with
  | .tuple ds => some (.tuple (cutA ds lo hi))
  | .list ds => some (.list (cutA ds lo hi))
  | .str z => if z.length ≤ sizeLine then some (.str (cutS z lo hi)) else none
  | _ => none
def mulG (i j : Int) : Bool := decide ((-(2 ^ 64) < i ∧ i < 2 ^ 64) ∨ (-(2 ^ 64) < j ∧ j < 2 ^ 64))
def seqT : PyData → Option (List PyData) | .tuple ds => some ds | .list ds => some ds | _ => none
def tupN (n : Nat) : PyData → Option (List PyData) | .tuple ds => if ds.length = n then some ds else none | _ => none
/-- so it goes on, or there is nothing -/
def okIf (c : Bool) : Option Unit := if c = true then some () else none
theorem okIf_of {c : Bool} {u : Unit} (h : okIf c = some u) : c = true := by
  cases c
  · cases h
  · rfl
@[simp] theorem okIf_tt : okIf true = some () := rfl
section
variable {C : Cz} {E : EnvD} {S R R' : DS} {Q : DV → DS → Prop} {QB : Bool → DS → Prop} {a b : Addr} {x y z : PyData}
theorem bl_D {p : Bool → Prop} {b : Bool} (h : asB x = some b) (q : p b) : BL (.d x) p := ⟨b, by rw [asB_of h], q⟩
theorem d_addP (h : addP x y = some z) (q : Q (.d z) S) : DR2 C (rAddU C.K) (.d x) (.d y) S Q := by
  cases x with
  | int i => cases y with
    | int j => cases h; exact d_addI q
    | _ => cases h
  | str i => cases y with
    | str j =>
      simp only [addP] at h
      split at h
      · cases h; rename_i c; exact d_addS c q
      · cases h
    | _ => cases h
  | tuple i => cases y with
    | tuple j =>
      simp only [addP] at h
      split at h
      · cases h; rename_i c; exact d_addT c q
      · cases h
    | _ => cases h
  | _ => cases h
theorem d_eqP {b : Bool} (h : eqP x y = some b) (q : Q (.d (.bool b)) S) : DR2 C (rEqU C.K) (.d x) (.d y) S Q := by
  unfold eqP at h
  split at h
  · cases h; exact d_eqS q
  · cases h; exact d_eqI q
  · split at h
    · cases h
      rename_i c
      have c := Bool.and_eq_true_iff.mp c
      exact d_eqD 60 (okD_lay c.1) (okD_lay c.2) q
    · cases h
theorem d_neP {b : Bool} (h : eqP x y = some b) (q : Q (.d (.bool (!b))) S) : DR2 C (rNeU C.K) (.d x) (.d y) S Q := by
  unfold eqP at h
  split at h
  · cases h; exact d_neS q
  · cases h; exact d_neI q
  · split at h
    · cases h
      rename_i c
      have c := Bool.and_eq_true_iff.mp c
      exact d_neD 60 (okD_lay c.1) (okD_lay c.2) q
    · cases h
theorem d_inP {b : Bool} (h : inP x y = some b) (q : Q (.d (.bool b)) S) : DR2 C (rInU C.K) (.d x) (.d y) S Q := by
  cases y with
  | str z =>
    simp only [inP] at h
    split at h
    · cases h; exact d_signIn q
    · cases h
  | tuple ds =>
    simp only [inP] at h
    split at h
    · cases h
      rename_i c
      have c := Bool.and_eq_true_iff.mp c
      exact d_inF c.1 c.2 q
    · cases h
  | list ds =>
    simp only [inP] at h
    split at h
    · cases h
      rename_i c
      have c := Bool.and_eq_true_iff.mp c
      have l1 := okD_lay c.1
      have l2 := okD_lay c.2
      exact fun Z H so v u rv ru QV k => .inl (.inr ⟨x, ds, dp_of rv l1.1, dp_of ru l2.1, l1.sh, l2.sh, kB so k q⟩)
    · cases h
  | _ => cases h
theorem d_signNin {c : Nat} {z : Str} (q : Q (.d (.bool (!decide (c ∈ z.cps.toList)))) S) : DR2 C (rNinU C.K) (.d (.str ⟨#[c]⟩)) (.d (.str z)) S Q := fun Z H so v u rv ru QV k => by
  cases str_of rv; cases str_of ru
  exact .inr ⟨c, z, rfl, rfl, kB so k q⟩
theorem d_ninP {b : Bool} (h : inP x y = some b) (q : Q (.d (.bool (!b))) S) : DR2 C (rNinU C.K) (.d x) (.d y) S Q := by
  cases y with
  | str z =>
    simp only [inP] at h
    split at h
    · cases h; exact d_signNin q
    · cases h
  | tuple ds =>
    simp only [inP] at h
    split at h
    · cases h
      rename_i c
      have c := Bool.and_eq_true_iff.mp c
      exact d_ninF c.1 c.2 q
    · cases h
  | list ds =>
    simp only [inP] at h
    split at h
    · cases h
      rename_i c
      have c := Bool.and_eq_true_iff.mp c
      have l1 := okD_lay c.1
      have l2 := okD_lay c.2
      exact fun Z H so v u rv ru QV k => .inl (.inr ⟨x, ds, dp_of rv l1.1, dp_of ru l2.1, l1.sh, l2.sh, kB so k q⟩)
    · cases h
  | _ => cases h
theorem flats_L {ds : List PyData} {Z : List Addr} {H : Hp} (so : SOk C Z H S) (pa : Pick S a (LD ds) R) (hd : ds.all flD = true) : H a = some (.lst (ds.map vd)) ∧ (ds.map vd).all flatV = true := by
  obtain ⟨vs, e, r⟩ := so.lst pa
  obtain ⟨rfl, fs⟩ := flats_of r.dg hd
  exact ⟨e, fs⟩
theorem d_inO {ds : List PyData} {b : Bool} (pa : Pick S a (LD ds) R) (h : inL x ds = some b) (q : Q (.d (.bool b)) S) : DR2 C (rInU C.K) (.d x) (.v (.ref a)) S Q := by
  unfold inL at h
  split at h
  · cases h
    rename_i c
    rcases Bool.or_eq_true_iff.mp c with c | c
    · have c := Bool.and_eq_true_iff.mp c
      exact d_inL pa 60 (okD_lay c.1) (okD_lay c.2) q
    · have c := Bool.and_eq_true_iff.mp c
      refine fun Z H so v u rv ru QV k => ?_
      cases ru
      obtain ⟨rfl, fx⟩ := flat_of rv c.1
      obtain ⟨e, fs⟩ := flats_L so pa c.2
      exact w_inL (SqL.of e) fx fs (by rw [inV_vd c.1 c.2]; exact kB so k q)
  · cases h
theorem d_ninO {ds : List PyData} {b : Bool} (pa : Pick S a (LD ds) R) (h : inL x ds = some b) (q : Q (.d (.bool (!b))) S) : DR2 C (rNinU C.K) (.d x) (.v (.ref a)) S Q := by
  unfold inL at h
  split at h
  · cases h
    rename_i c
    rcases Bool.or_eq_true_iff.mp c with c | c
    · have c := Bool.and_eq_true_iff.mp c
      exact d_ninL pa 60 (okD_lay c.1) (okD_lay c.2) q
    · have c := Bool.and_eq_true_iff.mp c
      refine fun Z H so v u rv ru QV k => ?_
      cases ru
      obtain ⟨rfl, fx⟩ := flat_of rv c.1
      obtain ⟨e, fs⟩ := flats_L so pa c.2
      exact w_ninL (SqL.of e) fx fs (by rw [inV_vd c.1 c.2]; exact kB so k q)
  · cases h
theorem ixL_at {α : Type} {xs : List α} {i : Int} {v : α} (h : ixL xs i = some v) : ∃ j, ixN xs.length i = some j ∧ xs[j]? = some v := by
  unfold ixL at h
  cases e : ixN xs.length i with
  | none => rw [e] at h; cases h
  | some j => rw [e] at h; exact ⟨j, rfl, h⟩
theorem d_ixP {i : Int} (h : ixP x i = some z) (q : Q (.d z) S) : DR2 C (rIx C.K) (.d x) (.d (.int i)) S Q := by
  cases x with
  | tuple ds =>
    obtain ⟨j, h1, h2⟩ := ixL_at h
    exact d_ixj j h1 h2 q
  | list ds =>
    obtain ⟨j, h1, h2⟩ := ixL_at h
    exact d_ixLj j h1 h2 q
  | str s =>
    simp only [ixP] at h
    split at h
    · rename_i c
      cases e : ixL s.cps.toList i with
      | none => rw [e] at h; cases h
      | some d =>
        rw [e] at h
        cases h
        obtain ⟨j, h1, h2⟩ := ixL_at e
        refine fun Z H so v u rv ru QV k => ?_
        cases str_of rv; cases int_of ru
        exact w_ixS c (atI_j h1 h2) (kS so k q)
    · cases h
  | _ => cases h
theorem d_ixD {i : PyData} {j : Int} (e : asI i = some j) (h : ixP x j = some z) (q : Q (.d z) S) : DR2 C (rIx C.K) (.d x) (.d i) S Q := by
  rw [asI_of e]
  exact d_ixP h q
theorem d_ixOL {i : Int} {ds : List PyData} (pa : Pick S a (LD ds) R) (h : ixL ds i = some z) (q : Q (.d z) S) : DR2 C (rIx C.K) (.v (.ref a)) (.d (.int i)) S Q := by
  obtain ⟨j, h1, h2⟩ := ixL_at h
  exact d_ixO pa j (by rw [List.length_map]; exact h1) (x := .d z) (by rw [List.getElem?_map, h2]; rfl) q
theorem d_lenP {i : Int} (h : lenP x = some i) (q : Q (.d (.int i)) S) : DRs C (rLenU C.K) [.d x] S Q := by
  cases x with
  | tuple ds => cases h; exact d_lenT q
  | list ds => cases h; exact d_lenD q
  | str s =>
    simp only [lenP] at h
    split at h
    · cases h; rename_i c; exact d_lenS c q
    · cases h
  | _ => cases h
theorem kLf {Z : List Addr} {H : Hp} {QV : VK} (so : SOk C Z H S) (k : ∀ v H' dv S', Stp C Z H S H' S' → DvR C.K (fz H' Z S') v dv → Q dv S' → QV v H') {p : Addr} {vs : List V} {ds : List PyData} (hp : H p = none) (r : DgAll C.K (fz H Z S) vs ds) (q : Q (.d (.list ds)) S) : QV (.ref p) (upd H p (.lst vs)) := by
  have st := Stp.data (o := .lst vs) so hp
  exact k _ _ (.d (.list ds)) S st (Dg.lst (.inl (.inl (fz_in upd_same (so.new hp).1 (so.new hp).2))) (DgAll.fr st.fz r)) q
theorem d_slP {lo hi : Option Int} (h : slP x lo hi = some z) (q : Q (.d z) S) : DRsl C (rSlU C.K) (.d x) lo hi S Q := by
  cases x with
  | tuple ds => cases h; exact d_slT q
  | list ds =>
    cases h
    exact fun Z H so v rv QV k => by
      obtain ⟨p, us, rfl, s, aa⟩ := Dg.list rv
      exact w_slL (fz_fr.seqL s (by simp)) fun p hp => kLf so k hp (DgAll.cut aa lo hi) q
  | str s =>
    simp only [slP] at h
    split at h
    · cases h; rename_i c; exact d_slS c q
    · cases h
  | _ => cases h
theorem d_partD {te : TE} {QO : Option Int → DS → Prop} (q : DE C te E S fun x S1 => ∃ d i, x = .d d ∧ asI d = some i ∧ QO (some i) S1) : DPt C (tPart te) E S QO := d_part (q.imp fun x S1 ⟨d, i, h, e, q⟩ => ⟨i, by rw [h, asI_of e], q⟩)
/-! own lists -/
def appP (xs : List PyData) (y : PyData) : Option (List PyData) := if xs.length ≤ 1000000 then some (xs ++ [y]) else none
def extP (xs ys : List PyData) : Option (List PyData) := if xs.length + ys.length ≤ 1000000 then some (xs ++ ys) else none
def insP (xs : List PyData) (i : Int) (y : PyData) : Option (List PyData) := if xs.length ≤ 1000000 ∧ 0 ≤ i ∧ i < 2 ^ 63 then some (xs.take i.toNat ++ [y] ++ xs.drop i.toNat) else none
def popP (xs : List PyData) : Option (PyData × List PyData) := xs.getLast?.bind fun x => some (x, xs.dropLast)
def setP (xs : List PyData) (i : Int) (y : PyData) : Option (List PyData) := (ixN xs.length i).bind fun j => some (xs.set j y)
def catP (xs ys : List PyData) : Option (List PyData) := if xs.length + ys.length ≤ 100000 then some (xs ++ ys) else none
theorem d_appP {xs ys : List PyData} (pa : Pick S a (LD xs) R) (h : appP xs y = some ys) (q : Q (.d .none) ((a, LD ys) :: R)) : DRm C rAppend (.v (.ref a)) [.d y] S Q := by
  unfold appP at h
  split at h
  · cases h; rename_i c; exact d_appD pa c q
  · cases h
theorem d_extP {xs ys zs : List PyData} (pa : Pick S a (LD xs) R) (pb : Pick S b (LD ys) R') (h : extP xs ys = some zs) (q : Q (.d .none) ((a, LD zs) :: R)) : DRm C rExtend (.v (.ref a)) [.v (.ref b)] S Q := by
  unfold extP at h
  split at h
  · cases h; rename_i c; exact d_extD pa pb c q
  · cases h
theorem d_insP {xs ys : List PyData} {i : Int} (pa : Pick S a (LD xs) R) (h : insP xs i y = some ys) (q : Q (.d .none) ((a, LD ys) :: R)) : DRm C rIns (.v (.ref a)) [.d (.int i), .d y] S Q := by
  unfold insP at h
  split at h
  · cases h
    rename_i c
    refine d_ins pa (by rw [List.length_map]; exact c.1) c.2.1 c.2.2 ?_
    rw [LD, List.map_append, List.map_append, List.map_take, List.map_drop] at q
    exact q
  · cases h
theorem d_popP {xs ys : List PyData} {y : PyData} (pa : Pick S a (LD xs) R) (h : popP xs = some (y, ys)) (q : Q (.d y) ((a, LD ys) :: R)) : DRm C rPop (.v (.ref a)) [] S Q := by
  unfold popP at h
  cases e : xs.getLast? with
  | none => rw [e] at h; cases h
  | some w =>
    rw [e] at h
    obtain ⟨zs, rfl⟩ := List.getLast?_eq_some_iff.mp e
    simp only [Option.bind_some, List.dropLast_concat, Option.some.injEq, Prod.mk.injEq] at h
    obtain ⟨rfl, rfl⟩ := h
    rw [LD, List.map_append] at pa
    exact d_pop (xs := zs.map DV.d) (x := .d w) pa q
theorem d_setP {xs ys : List PyData} {i : Int} {N : DS → Prop} (pa : Pick S a (LD xs) R) (h : setP xs i y = some ys) (q : N ((a, LD ys) :: R)) : DSet C L2.rSetL (.v (.ref a)) (.d (.int i)) (.d y) S N := by
  unfold setP at h
  cases e : ixN xs.length i with
  | none => rw [e] at h; cases h
  | some j => rw [e] at h; cases h; exact d_setLD pa j e q
theorem d_catP {xs ys zs : List PyData} (pa : Pick S a (LD xs) R) (pb : Pick S b (LD ys) R') (h : catP xs ys = some zs) (q : ∀ p, Q (.v (.ref p)) ((p, LD zs) :: S)) : DR2 C (rAddU C.K) (.v (.ref a)) (.v (.ref b)) S Q := by
  unfold catP at h
  split at h
  · cases h; rename_i c; exact d_addLD pa pb c q
  · cases h
/-! list(..), tuple(..) -/
theorem d_listP {ds : List PyData} (h : seqT x = some ds) (q : ∀ p, Q (.v (.ref p)) ((p, LD ds) :: S)) : DRs C (rListU C.K) [.d x] S Q := by
  cases x with
  | tuple es => cases h; exact d_listT q
  | list es => cases h; exact d_listD q
  | _ => cases h
theorem d_listOL {ds : List PyData} (pa : Pick S a (LD ds) R) (q : ∀ p, Q (.v (.ref p)) ((p, LD ds) :: S)) : DRs C (rListU C.K) [.v (.ref a)] S Q := d_listO pa q
theorem d_tupP {ds : List PyData} (h : seqT x = some ds) (q : Q (.d (.tuple ds)) S) : DRs C (rTupleU C.K) [.d x] S Q := by
  cases x with
  | tuple es => cases h; exact d_tupleT q
  | list es => cases h; exact d_tupleD q
  | _ => cases h
/-! displays -/
theorem newT_P {xs : List DV} {ds : List PyData} (h : AllD xs ds) (n : ds.length ≤ 1000) (q : Q (.d (.tuple ds)) S) : NEWT xs S Q := newT_D h q n
theorem newL_P {xs : List DV} {ds : List PyData} (h : AllD xs ds) (n : ds.length ≤ 1000) (q : ∀ p, Q (.v (.ref p)) ((p, LD ds) :: S)) : NEWL xs S Q := newL_D h q n
theorem newL_Z {xs : List DV} {ds : List PyData} (h : AllD xs ds) (n : ds.length ≤ 1000) (q : Q (.d (.list ds)) S) : NEWL xs S Q := newL_F h q n
/-! unpacking -/
theorem d_gtupP {n : Nat} {t : TGs} {ds : List PyData} {N : EnvD → DS → Prop} (h : tupN n x = some ds) (q : DGs C t (ds.map DV.d) E S N) : DG C (gTup C.K n t) (.d x) E S N := by
  cases x with
  | tuple es =>
    simp only [tupN] at h
    split at h
    · cases h; rename_i c; exact d_gtup c q
    · cases h
  | _ => cases h
theorem tupN_of {n : Nat} {ds : List PyData} (h : tupN n x = some ds) : ds.length = n := by
  cases x with
  | tuple es =>
    simp only [tupN] at h
    split at h
    · cases h; assumption
    · cases h
  | _ => cases h
/-! all, any, sum over what was just made -/
theorem d_allP {bs : List Bool} (q : Q (.d (.bool (bs.all id))) ((a, LD (bs.map PyData.bool)) :: S)) : DRs C (rAll C.K) [.v (.ref a)] ((a, LD (bs.map PyData.bool)) :: S) Q := d_all .here q
theorem d_anyP {bs : List Bool} (q : Q (.d (.bool (bs.any id))) ((a, LD (bs.map PyData.bool)) :: S)) : DRs C (rAny C.K) [.v (.ref a)] ((a, LD (bs.map PyData.bool)) :: S) Q := d_any .here q
/-! comprehensions of truths, of anything -/
theorem lcGb {α β : Type} {tg : TG} {te : TE} {ws : List Nat} {emb : α → DV} {eb : β → PyData} {xs : List α} {f : α → DM β} {K : List β → Prop} (k : mapM' f xs K) (gk : GOk tg ws) (hn : xs.length ≤ 100000)
    (hs : ∀ x, x ∈ xs → ∀ R : β → Prop, f x R → DG C tg (emb x) (wipeE E ws) S fun E1 S1 => DE C te E1 S1 fun y S3 => ∃ d, y = .d (eb d) ∧ Sub S3 S ∧ R d)
    (hq : ∀ ys, K ys → ∀ p, Q (.v (.ref p)) ((p, LD (ys.map eb)) :: S)) : LCI C xs.length (fun i x => ∃ a, xs[i]? = some a ∧ x = emb a) tg tYes te ws E S Q := by
  refine ⟨gk, hn, fun i acc => ∃ bs, acc = bs.map eb ∧ mapM' f (xs.drop i) fun ys => K (bs ++ ys), ⟨[], rfl, by simpa using k⟩, ?_, fun acc h p => ?_⟩
  · rintro i x acc hi ⟨a, ha, rfl⟩ ⟨bs, rfl, h⟩
    have hd : xs.drop i = a :: xs.drop (i + 1) := by
      rw [List.drop_eq_getElem_cons hi]
      congr 1
      exact Option.some.inj ((List.getElem?_eq_getElem hi).symm.trans ha)
    rw [hd] at h
    refine (hs a (List.mem_of_getElem? ha) (fun y => mapM' f (xs.drop (i + 1)) fun ys => K (bs ++ y :: ys)) h).imp fun E1 S1 q => d_yes ?_
    rw [if_pos rfl]
    refine q.imp fun y S3 ⟨d, hy, sb, r⟩ => ⟨eb d, hy, sb, bs ++ [d], by rw [List.map_append]; rfl, ?_⟩
    simpa using r
  · obtain ⟨bs, rfl, h⟩ := h
    rw [List.drop_length] at h
    have h : K (bs ++ []) := h
    rw [List.append_nil] at h
    exact hq bs h p
end
/-! more rules for the printed walks -/
section
variable {C : Cz} {E : EnvD} {S R R' : DS} {Q : DV → DS → Prop} {a b : Addr} {x y z : PyData}
theorem d_ltI {i j : Int} (q : Q (.d (.bool (decide (i < j)))) S) : DR2 C (rI0 fun i j => .bl (decide (i < j))) (.d (.int i)) (.d (.int j)) S Q := d_rI0 (x := .d (.bool (decide (i < j)))) dvB q
def rLtS : R2 := fun x y H Q => ∃ i j, x = .str i ∧ y = .str j ∧ Q (.bl (decide (i.cps.toList < j.cps.toList))) H
def rLtU : R2 := r2or (rI0 fun i j => .bl (decide (i < j))) rLtS
theorem op_ltU {X : Cx} : OpR X (compareOp .Lt) rLtU := op_lt.or op_lt_str
theorem d_ltUI {i j : Int} (q : Q (.d (.bool (decide (i < j)))) S) : DR2 C rLtU (.d (.int i)) (.d (.int j)) S Q := fun Z H so v u rv ru QV k => by
  cases int_of rv; cases int_of ru
  exact .inl ⟨i, j, rfl, rfl, kB so k q⟩
theorem d_ltP {b : Bool} (h : ltP x y = some b) (q : Q (.d (.bool b)) S) : DR2 C rLtU (.d x) (.d y) S Q := by
  cases x with
  | int i => cases y with
    | int j => cases h; exact d_ltUI q
    | _ => cases h
  | str i => cases y with
    | str j =>
      cases h
      exact fun Z H so v u rv ru QV k => by
        cases str_of rv; cases str_of ru
        exact .inr ⟨i, j, rfl, rfl, kB so k q⟩
    | _ => cases h
  | _ => cases h
theorem d_cmpP {f : Int → Int → Bool} {i j : Int} (hx : asI x = some i) (hy : asI y = some j) (q : Q (.d (.bool (f i j))) S) : DR2 C (rI0 fun i j => .bl (f i j)) (.d x) (.d y) S Q := by
  rw [asI_of hx, asI_of hy]
  exact d_cmp q
theorem d_subP {i j : Int} (hx : asI x = some i) (hy : asI y = some j) (q : Q (.d (.int (i - j))) S) : DR2 C (rI0 fun i j => .int (i - j)) (.d x) (.d y) S Q := by
  rw [asI_of hx, asI_of hy]
  exact d_sub q
theorem d_mulP {i j : Int} {u : Unit} (hx : asI x = some i) (hy : asI y = some j) (h : okIf (mulG i j) = some u) (q : Q (.d (.int (i * j))) S) : DR2 C rMulU (.d x) (.d y) S Q := by
  rw [asI_of hx, asI_of hy]
  exact d_mulI (of_decide_eq_true (okIf_of h)) q
theorem d_modP {c : Int → Int → Prop} {g : Int → Int → V} {i j r : Int} (hx : asI x = some i) (hc : c i j) (hg : g i j = .int r) (q : Q (.d (.int r)) S) : DR2 C (rI c g) (.d x) (.d (.int j)) S Q := by
  rw [asI_of hx]
  exact d_rI (x := .d (.int r)) hc (fun F => by rw [hg]; exact Dg.int _) q
theorem d_negP {i : Int} (hx : asI x = some i) (q : Q (.d (.int (-i))) S) : DR1 C (rU fun i => .int (-i)) (.d x) S Q := by
  rw [asI_of hx]
  exact d_neg q
theorem d_min2P {i j : Int} (hx : asI x = some i) (hy : asI y = some j) (q : Q (.d (.int (if j < i then j else i))) S) : DRs C rMinU [.d x, .d y] S Q := by
  rw [asI_of hx, asI_of hy]
  exact d_min2 q
theorem d_max2P {i j : Int} (hx : asI x = some i) (hy : asI y = some j) (q : Q (.d (.int (if j > i then j else i))) S) : DRs C rMaxU [.d x, .d y] S Q := by
  rw [asI_of hx, asI_of hy]
  exact d_max2 q
theorem d_absP {i : Int} (hx : asI x = some i) (q : Q (.d (.int (if i < 0 then -i else i))) S) : DRs C rAbsU [.d x] S Q := by
  rw [asI_of hx]
  exact d_abs q
theorem d_pD {P : Int → Prop} {i : Int} (hx : asI x = some i) (q : P i) : ∃ k, DV.d x = .d (.int k) ∧ P k := ⟨i, by rw [asI_of hx], q⟩
def revP : PyData → Option PyData | .tuple ds => some (.tuple ds.reverse) | _ => none
theorem d_backP (h : revP x = some z) (q : Q (.d z) S) : DR1 C (rBack C.K) (.d x) S Q := by
  cases x with
  | tuple ds => cases h; exact d_back q
  | _ => cases h
def isDict : PyData → Bool | .dict _ => true | _ => false
theorem Dg.isDict {K : PySem.W.Frag} {H : Hp} {v : V} {d : PyData} {Q : VK} (h : Dg K H v d) (q : Q (.bl (isDict d)) H) : rIsi K [v, .ty "dict"] H Q := by
  cases h with
  | non => exact Dg.isi (d := .none) (by constructor <;> assumption) (by exact (by decide +kernel : kitB "NoneType" "dict" = some false)) q
  | bl b => exact Dg.isi (d := .bool b) (by constructor <;> assumption) (by exact (by decide +kernel : kitB "bool" "dict" = some false)) q
  | int i => exact Dg.isi (d := .int i) (by constructor <;> assumption) (by exact (by decide +kernel : kitB "int" "dict" = some false)) q
  | str x => exact Dg.isi (d := .str x) (by constructor <;> assumption) (by exact (by decide +kernel : kitB "str" "dict" = some false)) q
  | tup _ _ => exact Dg.isi (d := .tuple _) (by constructor <;> assumption) (by exact (by decide +kernel : kitB "tuple" "dict" = some false)) q
  | lst _ _ => exact Dg.isi (d := .list _) (by constructor <;> assumption) (by exact (by decide +kernel : kitB "list" "dict" = some false)) q
  | dct _ => exact Dg.isi (d := .dict []) (by constructor <;> assumption) (by exact (by decide +kernel : kitB "dict" "dict" = some true)) q
theorem d_isDict (q : Q (.d (.bool (isDict x))) S) : DRs C (rIsi C.K) [.d x, .v (.ty "dict")] S Q := d_isi (fun h q => Dg.isDict h q) q
/-! unpacking, so many -/
def tup2 (d : PyData) : Option (PyData × PyData) := match d with | .tuple [a, b] => some (a, b) | _ => none
def tup3 (d : PyData) : Option (PyData × PyData × PyData) := match d with | .tuple [a, b, c] => some (a, b, c) | _ => none
def tup4 (d : PyData) : Option (PyData × PyData × PyData × PyData) := match d with | .tuple [a, b, c, e] => some (a, b, c, e) | _ => none
def tup5 (d : PyData) : Option (PyData × PyData × PyData × PyData × PyData) := match d with | .tuple [a, b, c, e, f] => some (a, b, c, e, f) | _ => none
def tup6 (d : PyData) : Option (PyData × PyData × PyData × PyData × PyData × PyData) := match d with | .tuple [a, b, c, e, f, g] => some (a, b, c, e, f, g) | _ => none
theorem tup2_of {p : PyData × PyData} (h : tup2 x = some p) : x = .tuple [p.1, p.2] := by
  unfold tup2 at h
  split at h <;> first | (cases h; rfl) | cases h
theorem tup3_of {p : PyData × PyData × PyData} (h : tup3 x = some p) : x = .tuple [p.1, p.2.1, p.2.2] := by
  unfold tup3 at h
  split at h <;> first | (cases h; rfl) | cases h
theorem tup4_of {p : PyData × PyData × PyData × PyData} (h : tup4 x = some p) : x = .tuple [p.1, p.2.1, p.2.2.1, p.2.2.2] := by
  unfold tup4 at h
  split at h <;> first | (cases h; rfl) | cases h
theorem tup5_of {p : PyData × PyData × PyData × PyData × PyData} (h : tup5 x = some p) : x = .tuple [p.1, p.2.1, p.2.2.1, p.2.2.2.1, p.2.2.2.2] := by
  unfold tup5 at h
  split at h <;> first | (cases h; rfl) | cases h
theorem tup6_of {p : PyData × PyData × PyData × PyData × PyData × PyData} (h : tup6 x = some p) : x = .tuple [p.1, p.2.1, p.2.2.1, p.2.2.2.1, p.2.2.2.2.1, p.2.2.2.2.2] := by
  unfold tup6 at h
  split at h <;> first | (cases h; rfl) | cases h
theorem d_gt2 {t : TGs} {p : PyData × PyData} {N : EnvD → DS → Prop} (h : tup2 x = some p) (q : DGs C t [.d p.1, .d p.2] E S N) : DG C (gTup C.K 2 t) (.d x) E S N := by rw [tup2_of h]; exact d_gtup rfl q
theorem d_gt3 {t : TGs} {p : PyData × PyData × PyData} {N : EnvD → DS → Prop} (h : tup3 x = some p) (q : DGs C t [.d p.1, .d p.2.1, .d p.2.2] E S N) : DG C (gTup C.K 3 t) (.d x) E S N := by rw [tup3_of h]; exact d_gtup rfl q
theorem d_gt4 {t : TGs} {p : PyData × PyData × PyData × PyData} {N : EnvD → DS → Prop} (h : tup4 x = some p) (q : DGs C t [.d p.1, .d p.2.1, .d p.2.2.1, .d p.2.2.2] E S N) : DG C (gTup C.K 4 t) (.d x) E S N := by rw [tup4_of h]; exact d_gtup rfl q
theorem d_gt5 {t : TGs} {p : PyData × PyData × PyData × PyData × PyData} {N : EnvD → DS → Prop} (h : tup5 x = some p) (q : DGs C t [.d p.1, .d p.2.1, .d p.2.2.1, .d p.2.2.2.1, .d p.2.2.2.2] E S N) : DG C (gTup C.K 5 t) (.d x) E S N := by rw [tup5_of h]; exact d_gtup rfl q
theorem d_gt6 {t : TGs} {p : PyData × PyData × PyData × PyData × PyData × PyData} {N : EnvD → DS → Prop} (h : tup6 x = some p) (q : DGs C t [.d p.1, .d p.2.1, .d p.2.2.1, .d p.2.2.2.1, .d p.2.2.2.2.1, .d p.2.2.2.2.2] E S N) : DG C (gTup C.K 6 t) (.d x) E S N := by rw [tup6_of h]; exact d_gtup rfl q
/-! the script's tape, drawing -/
theorem call_drawM {t : Addr} {i : Int} {f : Int → Prop} (pk : Pick S t TAPE R) (hx : asI x = some i) (k : DM.draw i f) (q : ∀ r, f r → Q (.d (.int r)) S) : DCall dsp_law_draw [.v (.ref t), .d x] S Q := by
  rw [asI_of hx]
  obtain ⟨h0, h1, k⟩ := k
  exact d_drawX rfl pk h0 h1 fun r a b => q r (k r a b)
/-! own lists and data compared -/
theorem d_eqOP {ds : List PyData} {b : Bool} (pa : Pick S a (LD ds) R) (h : eqP (.list ds) y = some b) (q : Q (.d (.bool b)) S) : DR2 C (rEqU C.K) (.v (.ref a)) (.d y) S Q := by
  have h : (if okD (.list ds) && okD y then some (PyData.eqv (.list ds) y) else none) = some b := h
  split at h
  · cases h
    rename_i c
    have c := Bool.and_eq_true_iff.mp c
    have l1 := okD_lay c.1
    have l2 := okD_lay c.2
    refine fun Z H so v u rv ru QV k => ?_
    cases rv
    exact w_eqD (so.dpL pa l1.1) (dp_of ru l2.1) l1.sh l2.sh (kB so k q)
  · cases h
theorem d_neOP {ds : List PyData} {b : Bool} (pa : Pick S a (LD ds) R) (h : eqP (.list ds) y = some b) (q : Q (.d (.bool (!b))) S) : DR2 C (rNeU C.K) (.v (.ref a)) (.d y) S Q := by
  have h : (if okD (.list ds) && okD y then some (PyData.eqv (.list ds) y) else none) = some b := h
  split at h
  · cases h
    rename_i c
    have c := Bool.and_eq_true_iff.mp c
    have l1 := okD_lay c.1
    have l2 := okD_lay c.2
    refine fun Z H so v u rv ru QV k => ?_
    cases rv
    exact w_neD (so.dpL pa l1.1) (dp_of ru l2.1) l1.sh l2.sh (kB so k q)
  · cases h
theorem rng_len {n : Int} {u : Unit} (h : okIf (decide (-100000 ≤ n ∧ n ≤ 100000)) = some u) : (rngP n).length ≤ 100000 := by
  have := of_decide_eq_true (okIf_of h)
  simp only [rngP, List.length_map, List.length_range]
  omega
theorem rng2_len {l n : Int} {u : Unit} (h : okIf (decide ((-100000 ≤ l ∧ l ≤ 100000) ∧ -100000 ≤ n ∧ n ≤ 100000)) = some u) (h2 : okIf (decide (n - l ≤ 100000)) = some u) : (rng2P l n).length ≤ 100000 := by
  have := of_decide_eq_true (okIf_of h2)
  simp only [rng2P, List.length_map, List.length_range]
  omega
theorem okIf_d {p : Prop} [Decidable p] {u : Unit} (h : okIf (decide p) = some u) : p := of_decide_eq_true (okIf_of h)
/-- the numbers in a list are summed -/
theorem d_sumP {bs : List Int} (q : Q (.d (.int bs.sum)) ((a, LD (bs.map PyData.int)) :: S)) : DRs C (rSum C.K) [.v (.ref a)] ((a, LD (bs.map PyData.int)) :: S) Q := d_sum .here q
end
section
variable {α β : Type} {k : β → Prop} {P R : Prop}
theorem ite_goF {c : Bool} {a b : Option β} (h : go (if c = true then a else b) k) (h2 : c = false → go b k → R) (h1 : c = true → go a k → P) : if c = true then P else R := ite_go h h1 h2
theorem ite_dmF {c : Bool} {a b : DM β} (h : (if c = true then a else b) k) (h2 : c = false → b k → R) (h1 : c = true → a k → P) : if c = true then P else R := ite_dm h h1 h2
def asS : PyData → Option Str | .str i => some i | _ => none
@[simp] theorem asS_s {i : Str} : asS (.str i) = some i := rfl
theorem asS_of {d : PyData} {i : Str} (h : asS d = some i) : d = .str i := by
  cases d <;> first | (cases h; rfl) | cases h
end
theorem call_tapeM {ns : List Int} {S : DS} {Q : DV → DS → Prop} (q : ∀ p, Q (.v (.ref p)) ((p, TAPE) :: S)) : DCall dsp_law_tape [.d (.list (ns.map PyData.int))] S Q := call0 ⟨ns, rfl, rfl, fun p => retN (q p)⟩
theorem Loc.okD0 {C : Cz} {mg : Str → Option Value} {base : Heap} {x : Str} {st : Stmt} {N ps : List Str} {k : Nat} {sp : DSp} (L : Loc C.K mg x ps st) (Sc : FnScope N ps (defScope st)) (h : ∀ xs S Kt, ¬ sp xs S Kt) : Fd C mg base (k + 1) x ps sp :=
  L.ok Sc (fun vs H Q E hs => by obtain ⟨_, _, _, _, _, _, z, _⟩ := hs; exact absurd z (h _ _ _)) (fun f cdv A outer s H vs Q E hr hs => by obtain ⟨_, _, _, _, _, _, z, _⟩ := hs; exact absurd z (h _ _ _))
section
variable {C : Cz} {E : EnvD} {S R : DS} {Q : DV → DS → Prop} {M : DEnds} {tg : TG} {tb : TS} {tt : TT} {te : TE} {ws : List Nat} {x y z : PyData} {a : Addr}
theorem for_rngP {j : Int} (hx : asI x = some j) (b : -100000 ≤ j ∧ j ≤ 100000) (f : FORI C (rngP j).length (fun i x => ∃ a, (rngP j)[i]? = some a ∧ x = .d (.int a)) (fun _ => True) tg tb E S M) : ∃ j' : Int, [DV.d x] = [.d (.int j')] ∧ j' ≤ 2 ^ 61 ∧ -(2 ^ 61) ≤ j' ∧ FORI C j'.toNat (fun i x => x = .d (.int i)) (fun _ => True) tg tb E S M := by
  rw [asI_of hx]
  exact for_rng b f
theorem for_rng2P {l j : Int} (hx : asI x = some l) (hy : asI y = some j) (b : (-100000 ≤ l ∧ l ≤ 100000) ∧ -100000 ≤ j ∧ j ≤ 100000) (f : FORI C (rng2P l j).length (fun i x => ∃ a, (rng2P l j)[i]? = some a ∧ x = .d (.int a)) (fun _ => True) tg tb E S M) : ∃ l' j' : Int, [DV.d x, .d y] = [.d (.int l'), .d (.int j')] ∧ (-(2 ^ 61) ≤ l' ∧ l' ≤ 2 ^ 61 ∧ -(2 ^ 61) ≤ j' ∧ j' ≤ 2 ^ 61) ∧ FORI C (j' - l').toNat (fun i x => x = .d (.int (l' + i))) (fun _ => True) tg tb E S M := by
  rw [asI_of hx, asI_of hy]
  exact for_rng2 b f
theorem lc_rngP {j : Int} (hx : asI x = some j) (b : -100000 ≤ j ∧ j ≤ 100000) (f : LCI C (rngP j).length (fun i x => ∃ a, (rngP j)[i]? = some a ∧ x = .d (.int a)) tg tt te ws E S Q) : ∃ j' : Int, [DV.d x] = [.d (.int j')] ∧ j' ≤ 100000 ∧ -(2 ^ 61) ≤ j' ∧ LCI C j'.toNat (fun i x => x = .d (.int i)) tg tt te ws E S Q := by
  rw [asI_of hx]
  exact lc_rng b f
theorem lc_rng2P {l j : Int} (hx : asI x = some l) (hy : asI y = some j) (b : (-100000 ≤ l ∧ l ≤ 100000) ∧ -100000 ≤ j ∧ j ≤ 100000) (f : LCI C (rng2P l j).length (fun i x => ∃ a, (rng2P l j)[i]? = some a ∧ x = .d (.int a)) tg tt te ws E S Q) : ∃ l' j' : Int, [DV.d x, .d y] = [.d (.int l'), .d (.int j')] ∧ (-(2 ^ 61) ≤ l' ∧ l' ≤ 2 ^ 61 ∧ -(2 ^ 61) ≤ j' ∧ j' ≤ 2 ^ 61) ∧ LCI C (j' - l').toNat (fun i x => x = .d (.int (l' + i))) tg tt te ws E S Q := by
  rw [asI_of hx, asI_of hy]
  exact lc_rng2 b f
theorem d_ixOLP {i : Int} {ds : List PyData} (hx : asI x = some i) (pa : Pick S a (LD ds) R) (h : ixL ds i = some z) (q : Q (.d z) S) : DR2 C (rIx C.K) (.v (.ref a)) (.d x) S Q := by
  rw [asI_of hx]
  exact d_ixOL pa h q
theorem d_insPP {xs ys : List PyData} {i : Int} (hx : asI x = some i) (pa : Pick S a (LD xs) R) (h : insP xs i y = some ys) (q : Q (.d .none) ((a, LD ys) :: R)) : DRm C rIns (.v (.ref a)) [.d x, .d y] S Q := by
  rw [asI_of hx]
  exact d_insP pa h q
theorem d_setPP {xs ys : List PyData} {i : Int} {N : DS → Prop} (hx : asI x = some i) (pa : Pick S a (LD xs) R) (h : setP xs i y = some ys) (q : N ((a, LD ys) :: R)) : DSet C L2.rSetL (.v (.ref a)) (.d x) (.d y) S N := by
  rw [asI_of hx]
  exact d_setP pa h q
theorem d_intP {i : Int} (hx : asI x = some i) (q : Q (.d (.int i)) S) : DRs C rIntU [.d x] S Q := by
  rw [asI_of hx]
  exact d_intI q
theorem d_ninTabP {kvs : List (Str × Int)} {s : Str} (hx : asS x = some s) (ka : KTb C.K C.w a kvs) (q : Q (.d (.bool (!(tab kvs s).isSome))) S) : DR2 C (rNinTab C.K C.w) (.d x) (.v (.ref a)) S Q := by
  rw [asS_of hx]
  exact d_ninTab ka q
theorem d_ixTabP {kvs : List (Str × Int)} {s : Str} {i : Int} (hx : asS x = some s) (ka : KTb C.K C.w a kvs) (h : tab kvs s = some i) (q : Q (.d (.int i)) S) : DR2 C (rIxTab C.K C.w) (.v (.ref a)) (.d x) S Q := by
  rw [asS_of hx]
  exact d_ixTab ka h q
end
end U

/-! own dicts keyed by None, numbers, texts: the mirror -/
namespace U
open PySem PySem.Spec PyProof.Rows L2
abbrev Lfs := List (Leaf × PyData)
def lfE (kvs : Lfs) : List (Leaf × DV) := kvs.map fun kv => (kv.1, .d kv.2)
def LFD (kvs : Lfs) : DO := DCL (lfE kvs)
def lfP : PyData → Option Leaf
  | .none => some .none
  | .int i => some (.num i)
  | .str x => some (.text x)
  | _ => none
theorem lfP_of {d : PyData} {k : Leaf} (h : lfP d = some k) : d = lfD k := by
  cases d <;> first | (cases h; rfl) | cases h
def atF (kvs : Lfs) (k : Leaf) : Option PyData := (kvs.find? fun kv => decide (kv.1 = k)).map (·.2)
def putF (kvs : Lfs) (k : Leaf) (v : PyData) : Lfs := if (kvs.any fun kv => decide (kv.1 = k)) = true then kvs.map (fun kv => if kv.1 = k then (kv.1, v) else kv) else kvs ++ [(k, v)]
theorem atF_at {k : Leaf} : ∀ {kvs : Lfs}, atL (lfE kvs) k = (atF kvs k).map DV.d
  | [] => rfl
  | (k', v) :: r => by
    unfold atL atF lfE
    rw [List.map_cons, List.find?_cons, List.find?_cons]
    by_cases h : k' = k
    · simp [h]
    · have := atF_at (k := k) (kvs := r)
      unfold atL atF lfE at this
      simpa [h] using this
theorem putF_put {k : Leaf} {v : PyData} {kvs : Lfs} : putL (lfE kvs) k (.d v) = lfE (putF kvs k v) := by
  unfold putL putF lfE
  rw [List.any_map]
  have e : ((fun kv : Leaf × DV => decide (kv.1 = k)) ∘ fun kv : Leaf × PyData => (kv.1, DV.d kv.2)) = fun kv => decide (kv.1 = k) := rfl
  rw [e]
  split
  · rw [List.map_map, List.map_map]
    refine List.map_congr_left fun kv _ => ?_
    show (if kv.1 = k then (kv.1, DV.d v) else (kv.1, DV.d kv.2)) = ((if kv.1 = k then (kv.1, v) else kv).1, DV.d (if kv.1 = k then (kv.1, v) else kv).2)
    split <;> rfl
  · simp
/-- put, with room for it -/
def putO (kvs : Lfs) (k : Leaf) (v : PyData) : Option Lfs := if kvs.length ≤ 100000 then some (putF kvs k v) else none
section
variable {C : Cz} {E : EnvD} {S R : DS} {Q : DV → DS → Prop} {a : Addr} {kvs : Lfs} {x y z : PyData} {k : Leaf}
theorem d_dnewP (q : ∀ p, Q (.v (.ref p)) ((p, LFD []) :: S)) : DE C tDNewK E S Q := d_dnew q
theorem d_ixFP (pa : Pick S a (LFD kvs) R) (hk : lfP x = some k) (h : atF kvs k = some z) (q : Q (.d z) S) : DR2 C (rIxL C.P C.w) (.v (.ref a)) (.d x) S Q := by
  rw [lfP_of hk]
  exact d_ixLf pa (x := .d z) (by rw [atF_at, h]; rfl) q
theorem d_inFP (pa : Pick S a (LFD kvs) R) (hk : lfP x = some k) (q : Q (.d (.bool (atF kvs k).isSome)) S) : DR2 C (rInL C.P C.w false) (.d x) (.v (.ref a)) S Q := by
  rw [lfP_of hk]
  exact d_inLf pa (by rw [atF_at, Option.isSome_map]; exact q)
theorem d_ninFP (pa : Pick S a (LFD kvs) R) (hk : lfP x = some k) (q : Q (.d (.bool (!(atF kvs k).isSome))) S) : DR2 C (rInL C.P C.w true) (.d x) (.v (.ref a)) S Q := by
  rw [lfP_of hk]
  exact d_ninLf pa (by rw [atF_at, Option.isSome_map]; exact q)
theorem d_getFP (pa : Pick S a (LFD kvs) R) (hk : lfP x = some k) (q : Q (.d ((atF kvs k).getD y)) S) : DRm C (rGetL C.P C.w) (.v (.ref a)) [.d x, .d y] S Q := by
  rw [lfP_of hk]
  refine d_getLf pa ?_
  rw [atF_at]
  have e : ((atF kvs k).map DV.d).getD (.d y) = .d ((atF kvs k).getD y) := by cases atF kvs k <;> rfl
  rw [e]
  exact q
theorem d_setFP {kvs' : Lfs} {N : DS → Prop} (pa : Pick S a (LFD kvs) R) (hk : lfP x = some k) (h : putO kvs k y = some kvs') (q : N ((a, LFD kvs') :: R)) : DSet C (U.rSetL C.P C.w) (.v (.ref a)) (.d x) (.d y) S N := by
  rw [lfP_of hk]
  unfold putO at h
  split at h
  · rename_i c
    cases h
    refine d_setLf pa (by rw [lfE, List.length_map]; exact c) ?_
    rw [putF_put]
    exact q
  · cases h
theorem d_tyFP {B : Prop} (pa : Pick S a (LFD kvs) R) (q : B) : DTy C (dictLf C.P C.w) (.v (.ref a)) S ∧ B := ⟨d_tyLf pa, q⟩
/-- written out: keys and values -/
inductive KeysB : List (DV × DV) → List (Key × PyData) → Prop
  | nil : KeysB [] []
  | int {i : Int} {y : PyData} {r : List (DV × DV)} {s : List (Key × PyData)} : KeysB r s → KeysB ((.d (.int i), .d y) :: r) ((.inl i, y) :: s)
  | str {i : Str} {y : PyData} {r : List (DV × DV)} {s : List (Key × PyData)} : KeysB r s → KeysB ((.d (.str i), .d y) :: r) ((.inr i, y) :: s)
theorem KeysB.toA : ∀ {ps : List (DV × DV)} {ks : List (Key × PyData)}, KeysB ps ks → KeysA ps (ks.map fun kv => (kv.1, .d kv.2))
  | _, _, .nil => .nil
  | _, _, .int h => .int h.toA
  | _, _, .str h => .str h.toA
theorem newFP {ps : List (DV × DV)} {ks : List (Key × PyData)} (h : KeysB ps ks) (hl : ks.length ≤ 15) (nd : (ks.map (·.1)).Nodup) (q : ∀ p, Q (.v (.ref p)) ((p, LFD (ks.map fun kv => (lfK kv.1, kv.2))) :: S)) : NEWD ps S Q := by
  refine newD h.toA (by rw [List.length_map]; exact hl) (by rw [List.map_map]; exact nd) fun p => ?_
  have := q p
  rw [LFD, lfE, List.map_map] at this
  rw [List.map_map]
  exact this
end
/-! sorted(an own list) -/
def isStrsB (ds : List PyData) : Bool := ds.all isStr
def strsOf : List PyData → List Str
  | [] => []
  | .str x :: r => x :: strsOf r
  | _ :: r => strsOf r
theorem strs_of : ∀ {ds : List PyData}, isStrsB ds = true → ds = (strsOf ds).map PyData.str
  | [], _ => rfl
  | d :: r, h => by
    have h := Bool.and_eq_true_iff.mp (show (isStr d && isStrsB r) = true from h)
    cases d with
    | str x => simp only [strsOf, List.map_cons]; rw [← strs_of h.2]
    | _ => cases h.1
theorem sorty_txt (ns : List Str) : Sorty (ns.map PyData.str) := by
  refine ⟨fun d hd d' hd' => ?_, .inr fun d hd => ?_⟩
  · obtain ⟨x, _, rfl⟩ := List.mem_map.mp hd
    obtain ⟨y, _, rfl⟩ := List.mem_map.mp hd'
    rfl
  · obtain ⟨x, _, rfl⟩ := List.mem_map.mp hd
    exact ⟨fun z => (by cases z), fun xs z => (by cases z)⟩
def sortD (ds : List PyData) : List PyData := ds.mergeSort (PySem.W.dataLe false id)
def sortP (ds : List PyData) : Option (List PyData) := if (isStrsB ds && decide (ds.length ≤ 100000)) = true then some (sortD ds) else none
theorem d_sortP {C : Cz} {S R : DS} {Q : DV → DS → Prop} {a : Addr} {ds es : List PyData} (pa : Pick S a (LD ds) R) (h : sortP ds = some es) (q : ∀ p, Q (.v (.ref p)) ((p, LD es) :: S)) : DRs C (rSortL C.K) [.v (.ref a)] S Q := by
  unfold sortP at h
  split at h
  · rename_i c
    have c := Bool.and_eq_true_iff.mp c
    cases h
    have e := strs_of c.1
    have l := of_decide_eq_true c.2
    rw [e] at pa
    have el := congrArg List.length e
    rw [List.length_map] at el
    refine d_sortS pa (by omega) (sorty_txt _) fun p => ?_
    have := q p
    rw [sortD, e] at this
    exact this
  · cases h
end U

/-! plain reasoning about mirrors -/
namespace U
open PySem PySem.Spec PyProof.Rows L2
section
variable {α β γ ρ σ : Type}
/-- all that may come of it is so -/
def Sp (m : DM α) (P : α → Prop) : Prop := ∀ k : α → Prop, (∀ a, P a → k a) → m k
theorem Sp.run {m : DM α} {P : α → Prop} (h : Sp m P) : m P := h P fun _ p => p
theorem Sp.ret {a : α} {P : α → Prop} (h : P a) : Sp (DM.ret a) P := fun k q => q a h
theorem Sp.bind {m : DM α} {f : α → DM β} {P : α → Prop} {Q : β → Prop} (h : Sp m P) (g : ∀ a, P a → Sp (f a) Q) : Sp (DM.bind m f) Q := fun k q => h _ fun a p => g a p k q
theorem Sp.of {o : Option α} {f : α → DM β} {a : α} {Q : β → Prop} (e : o = some a) (g : Sp (f a) Q) : Sp (DM.bind (DM.of o) f) Q := fun k q => ⟨a, e, g k q⟩
theorem Sp.draw {m : Int} {f : Int → DM β} {Q : β → Prop} (h0 : 0 < m) (h1 : m < 2 ^ 64) (g : ∀ r, 0 ≤ r → r < m → Sp (f r) Q) : Sp (DM.bind (DM.draw m) f) Q := fun k q => ⟨h0, h1, fun r a b => g r a b k q⟩
theorem Sp.ite {c : Bool} {a b : DM α} {P : α → Prop} (h1 : c = true → Sp a P) (h2 : c = false → Sp b P) : Sp (if c = true then a else b) P := by
  cases c
  · exact h2 rfl
  · exact h1 rfl
theorem Sp.imp {m : DM α} {P Q : α → Prop} (h : Sp m P) (i : ∀ a, P a → Q a) : Sp m Q := fun k q => h k fun a p => q a (i a p)
theorem Sp.retb {a : α} {f : α → DM β} {Q : β → Prop} (h : Sp (f a) Q) : Sp (DM.bind (DM.ret a) f) Q := h
theorem Sp.assoc {m : DM α} {f : α → DM β} {g : β → DM γ} {Q : γ → Prop} (h : Sp (DM.bind m fun a => DM.bind (f a) g) Q) : Sp (DM.bind (DM.bind m f) g) Q := h
theorem Sp.iteb {c : Bool} {a b : DM α} {f : α → DM β} {Q : β → Prop} (h1 : c = true → Sp (DM.bind a f) Q) (h2 : c = false → Sp (DM.bind b f) Q) : Sp (DM.bind (if c = true then a else b) f) Q := by
  cases c
  · exact h2 rfl
  · exact h1 rfl
theorem Sp.mapb {f : α → DM β} {xs : List α} {g : List β → DM γ} {P : β → Prop} {Q : γ → Prop} (h : ∀ x ∈ xs, Sp (f x) P) (q : ∀ ys, ys.length = xs.length → (∀ y ∈ ys, P y) → Sp (g ys) Q) : Sp (DM.bind (mapM' f xs) g) Q := by
  refine Sp.bind (P := fun ys => ys.length = xs.length ∧ ∀ y ∈ ys, P y) ?_ fun ys h => q ys h.1 h.2
  clear q
  induction xs with
  | nil => exact fun k q => q [] ⟨rfl, fun y hy => by cases hy⟩
  | cons x r ih =>
    intro k q
    refine h x (.head _) _ fun y py => ih (fun x hx => h x (.tail _ hx)) _ fun ys hy => q _ ⟨by rw [List.length_cons, List.length_cons, hy.1], fun z hz => ?_⟩
    rcases List.mem_cons.mp hz with rfl | hz
    · exact py
    · exact hy.2 z hz
/-- a loop with what is true ahead of each turn -/
theorem Sp.foldi {f : α → σ → DM σ} {xs : List α} {s : σ} (I : Nat → σ → Prop) (h0 : I 0 s) (h : ∀ i x s, xs[i]? = some x → I i s → Sp (f x s) (I (i + 1))) : Sp (foldM' f xs s) (I xs.length) := by
  suffices g : ∀ (ys : List α) (i : Nat) (s : σ), xs.drop i = ys → i ≤ xs.length → I i s → Sp (foldM' f ys s) (I xs.length) from g xs 0 s rfl (Nat.zero_le _) h0
  intro ys
  induction ys with
  | nil =>
    intro i s e l hi
    have : i = xs.length := by
      have := congrArg List.length e
      rw [List.length_drop, List.length_nil] at this
      omega
    subst this
    exact fun k q => q s hi
  | cons y r ih =>
    intro i s e l hi
    have lt : i < xs.length := by
      have := congrArg List.length e
      rw [List.length_drop, List.length_cons] at this
      omega
    rw [List.drop_eq_getElem_cons lt] at e
    cases e
    intro k q
    exact h i _ s (List.getElem?_eq_getElem lt) hi _ fun s' hs => ih (i + 1) s' rfl lt hs k q
theorem Sp.foldb {f : α → σ → DM σ} {xs : List α} {s : σ} {g : σ → DM γ} {Q : γ → Prop} (I : Nat → σ → Prop) (h0 : I 0 s) (h : ∀ i x s, xs[i]? = some x → I i s → Sp (f x s) (I (i + 1))) (q : ∀ s, I xs.length s → Sp (g s) Q) : Sp (DM.bind (foldM' f xs s) g) Q := (Sp.foldi I h0 h).bind q
/-- .. that may answer -/
theorem Sp.fori {f : α → σ → DM (Fl ρ σ)} {xs : List α} {s : σ} (I : Nat → σ → Prop) (V : ρ → Prop) (h0 : I 0 s) (h : ∀ i x s, xs[i]? = some x → I i s → Sp (f x s) (Fl.k V (I (i + 1)))) : Sp (forM f xs s) (Fl.k V (I xs.length)) := by
  suffices g : ∀ (ys : List α) (i : Nat) (s : σ), xs.drop i = ys → i ≤ xs.length → I i s → Sp (forM f ys s) (Fl.k V (I xs.length)) from g xs 0 s rfl (Nat.zero_le _) h0
  intro ys
  induction ys with
  | nil =>
    intro i s e l hi
    have : i = xs.length := by
      have := congrArg List.length e
      rw [List.length_drop, List.length_nil] at this
      omega
    subst this
    exact fun k q => q (.nx s) hi
  | cons y r ih =>
    intro i s e l hi
    have lt : i < xs.length := by
      have := congrArg List.length e
      rw [List.length_drop, List.length_cons] at this
      omega
    rw [List.drop_eq_getElem_cons lt] at e
    cases e
    intro k q
    refine h i _ s (List.getElem?_eq_getElem lt) hi _ fun o ho => ?_
    cases o with
    | rt v => exact q _ ho
    | nx s' => exact ih (i + 1) s' rfl lt ho k q
theorem Sp.forb {f : α → σ → DM (Fl ρ σ)} {xs : List α} {s : σ} {v : ρ → DM γ} {n : σ → DM γ} {Q : γ → Prop} (I : Nat → σ → Prop) (V : ρ → Prop) (h0 : I 0 s) (h : ∀ i x s, xs[i]? = some x → I i s → Sp (f x s) (Fl.k V (I (i + 1)))) (hv : ∀ r, V r → Sp (v r) Q) (q : ∀ s, I xs.length s → Sp (n s) Q) : Sp (DM.bind (forM f xs s) fun o => Fl.on o v n) Q :=
  (Sp.fori I V h0 h).bind fun o ho => by
    cases o with
    | rt r => exact hv r ho
    | nx s => exact q s ho
/-! lists by places -/
@[simp] theorem ixL_0 {a : α} {r : List α} : ixL (a :: r) 0 = some a := by
  unfold ixL ixN
  rw [if_pos (by decide), if_pos (by simp)]
  rfl
theorem ixL_nat {xs : List α} {n : Nat} : ixL xs (n : Int) = xs[n]? := by
  unfold ixL
  by_cases h : n < xs.length
  · rw [ixN_nat h]; rfl
  · unfold ixN
    rw [if_pos (by omega), if_neg (by omega), List.getElem?_eq_none (by omega)]
    rfl
@[simp] theorem ixL_1 {a b : α} {r : List α} : ixL (a :: b :: r) 1 = some b := ixL_nat (n := 1)
@[simp] theorem ixL_2 {a b c : α} {r : List α} : ixL (a :: b :: c :: r) 2 = some c := ixL_nat (n := 2)
@[simp] theorem ixL_3 {a b c d : α} {r : List α} : ixL (a :: b :: c :: d :: r) 3 = some d := ixL_nat (n := 3)
@[simp] theorem ixL_4 {a b c d e : α} {r : List α} : ixL (a :: b :: c :: d :: e :: r) 4 = some e := ixL_nat (n := 4)
@[simp] theorem ixL_5 {a b c d e f : α} {r : List α} : ixL (a :: b :: c :: d :: e :: f :: r) 5 = some f := ixL_nat (n := 5)
theorem ixL_in {xs : List α} {i : Int} (h0 : 0 ≤ i) (h1 : i < xs.length) : ∃ x, ixL xs i = some x ∧ x ∈ xs := by
  obtain ⟨n, rfl⟩ : ∃ n : Nat, i = n := ⟨i.toNat, by omega⟩
  refine ⟨xs[n]'(by omega), ?_, List.getElem_mem _⟩
  rw [ixL_nat, List.getElem?_eq_getElem (by omega)]
theorem Sp.ix {xs : List α} {i : Int} {f : α → DM β} {Q : β → Prop} (h0 : 0 ≤ i) (h1 : i < xs.length) (g : ∀ x ∈ xs, Sp (f x) Q) : Sp (DM.bind (DM.of (ixL xs i)) f) Q := by
  obtain ⟨x, e, m⟩ := ixL_in h0 h1
  exact Sp.of e (g x m)
@[simp] theorem ixP_t {ds : List PyData} {i : Int} : ixP (.tuple ds) i = ixL ds i := rfl
@[simp] theorem ixP_l {ds : List PyData} {i : Int} : ixP (.list ds) i = ixL ds i := rfl
@[simp] theorem lenP_t {ds : List PyData} : lenP (.tuple ds) = some (ds.length : Int) := rfl
@[simp] theorem lenP_l {ds : List PyData} : lenP (.list ds) = some (ds.length : Int) := rfl
@[simp] theorem seqP_t {ds : List PyData} : seqP (.tuple ds) = some ds := rfl
@[simp] theorem seqP_l {ds : List PyData} : seqP (.list ds) = some ds := rfl
@[simp] theorem seqT_t {ds : List PyData} : seqT (.tuple ds) = some ds := rfl
@[simp] theorem seqT_l {ds : List PyData} : seqT (.list ds) = some ds := rfl
@[simp] theorem eqP_s {a b : Str} : eqP (.str a) (.str b) = some (decide (a = b)) := rfl
@[simp] theorem eqP_i {a b : Int} : eqP (.int a) (.int b) = some (decide (a = b)) := rfl
theorem eqP_ok {x y : PyData} (hx : okD x = true) (hy : okD y = true) : eqP x y = some (PyData.eqv x y) := by
  unfold eqP
  split
  · simp only [PyData.eqv, Option.some.injEq]; rw [Bool.eq_iff_iff]; simp
  · simp only [PyData.eqv, Option.some.injEq]; rw [Bool.eq_iff_iff]; simp
  · rw [hx, hy]; rfl
@[simp] theorem addP_i {a b : Int} : addP (.int a) (.int b) = some (.int (a + b)) := rfl
theorem addP_t {a b : List PyData} (h : a.length + b.length ≤ 100000) : addP (.tuple a) (.tuple b) = some (.tuple (a ++ b)) := by simp [addP, h]
@[simp] theorem okIf_dec {p : Prop} [Decidable p] : (okIf (decide p) = some ()) ↔ p := by
  by_cases h : p <;> simp [okIf, h]
theorem okIf_p {p : Prop} [Decidable p] (h : p) : okIf (decide p) = some () := by simp [h]
theorem mapO_some {f : α → Option β} {g : α → β} : ∀ {xs : List α}, (∀ x ∈ xs, f x = some (g x)) → mapO f xs = some (xs.map g)
  | [], _ => rfl
  | x :: r, h => by
    rw [mapO, h x (.head _), Option.bind_some, mapO_some (fun y hy => h y (.tail _ hy))]
    rfl
theorem mapO_mem {f : α → Option β} : ∀ {xs : List α} {ys : List β}, mapO f xs = some ys → ys.length = xs.length ∧ ∀ (i : Nat) (x : α), xs[i]? = some x → ∃ y, f x = some y ∧ ys[i]? = some y
  | [], ys, h => by cases h; exact ⟨rfl, fun i x h => by simp at h⟩
  | x :: r, ys, h => by
    rw [mapO] at h
    cases e : f x with
    | none => rw [e] at h; cases h
    | some y =>
      rw [e, Option.bind_some] at h
      cases e2 : mapO f r with
      | none => rw [e2] at h; cases h
      | some zs =>
        rw [e2] at h
        cases h
        obtain ⟨l, g⟩ := mapO_mem e2
        refine ⟨by simp [l], fun i x' hx => ?_⟩
        cases i with
        | zero => simp at hx; subst hx; exact ⟨y, e, rfl⟩
        | succ j => simpa using g j x' (by simpa using hx)
@[simp] theorem length_rngP {n : Int} : (rngP n).length = n.toNat := by simp [rngP]
theorem mem_rngP {n i : Int} : i ∈ rngP n ↔ 0 ≤ i ∧ i < n := by
  simp only [rngP, List.mem_map, List.mem_range]
  constructor
  · rintro ⟨k, h, rfl⟩
    simp only [Int.ofNat_eq_natCast]
    omega
  · rintro ⟨a, b⟩
    exact ⟨i.toNat, by omega, by simp only [Int.ofNat_eq_natCast]; omega⟩
theorem get_rngP {n i : Int} {k : Nat} (h : (rngP n)[k]? = some i) : i = k ∧ (k : Int) < n := by
  obtain ⟨j, h1, rfl⟩ := map_get h
  obtain ⟨l, e⟩ := List.getElem?_eq_some_iff.mp h1
  simp only [List.length_range, List.getElem_range] at l e
  subst e
  exact ⟨rfl, by omega⟩
@[simp] theorem rngP_nat {n : Nat} : rngP (n : Int) = (List.range n).map Int.ofNat := by simp [rngP]
theorem okD_tup {ds : List PyData} {n : Nat} (hn : n < 60) (h : ∀ d ∈ ds, Lay n d) : okD (.tuple ds) = true := by
  have := lay_tup h
  simp only [okD, this.1, Bool.true_and, decide_eq_true_eq]
  have := this.2
  omega
theorem okD_lst {ds : List PyData} {n : Nat} (hn : n < 60) (h : ∀ d ∈ ds, Lay n d) : okD (.list ds) = true := by
  have := lay_lst h
  simp only [okD, this.1, Bool.true_and, decide_eq_true_eq]
  have := this.2
  omega
theorem okD_of {d : PyData} {n : Nat} (h : Lay n d) (hn : n ≤ 60 := by decide) : okD d = true := by
  simp only [okD, h.1, Bool.true_and, decide_eq_true_eq]
  exact Nat.le_trans h.2 hn
end
/-! texts -/
theorem ofString_inj {a b : String} : (Str.ofString a = Str.ofString b) = (a = b) := by
  refine propext ⟨fun h => ?_, fun h => by rw [h]⟩
  have e := congrArg (fun z : Str => z.cps.toList) h
  simp only [PyProof.Rows.signs_ofString] at e
  have inj : ∀ x y : List Char, x.map Char.toNat = y.map Char.toNat → x = y := by
    intro x
    induction x with
    | nil => intro y h; cases y <;> first | rfl | cases h
    | cons c r ih =>
      intro y h
      cases y with
      | nil => cases h
      | cons d t =>
        simp only [List.map_cons, List.cons.injEq] at h
        rw [ih t h.2, Char.toNat_inj.mp h.1]
  exact String.toList_inj.mp (inj _ _ e)
@[simp] theorem eqv_s {a b : Str} : PyData.eqv (.str a) (.str b) = decide (a = b) := by
  simp only [PyData.eqv]; rw [Bool.eq_iff_iff]; simp
@[simp] theorem eqv_i {a b : Int} : PyData.eqv (.int a) (.int b) = decide (a = b) := by
  simp only [PyData.eqv]; rw [Bool.eq_iff_iff]; simp
theorem inP_strs {z : Str} {ns : List Str} : inP (.str z) (.tuple (ns.map PyData.str)) = some (decide (z ∈ ns)) := by
  unfold inP
  have e : (flD (.str z) && (ns.map PyData.str).all flD) = true := by rw [fl_strs]; rfl
  simp only [e, if_true, any_str]
theorem inL_strs {z : Str} {ns : List Str} : inL (.str z) (ns.map PyData.str) = some (decide (z ∈ ns)) := by
  unfold inL
  have e : (flD (.str z) && (ns.map PyData.str).all flD) = true := by rw [fl_strs]; rfl
  rw [e, Bool.or_true, if_pos rfl, any_str]
theorem inP_ok {x : PyData} {ds : List PyData} (hx : okD x = true) (h : okD (.list ds) = true) : inP x (.list ds) = some (ds.any fun z => PyData.eqv z x) := by
  unfold inP
  simp only [hx, h, Bool.and_self, if_true]
theorem inL_ok {x : PyData} {ds : List PyData} (hx : okD x = true) (h : okD (.list ds) = true) : inL x ds = some (ds.any fun z => PyData.eqv z x) := by
  unfold inL
  simp only [hx, h, Bool.and_self, Bool.true_or, if_true]
/-! data without truths: alike is the same -/
mutual
def noB : PyData → Bool
  | .bool _ => false
  | .list xs => noBs xs
  | .tuple xs => noBs xs
  | .dict _ => false
  | _ => true
def noBs : List PyData → Bool
  | [] => true
  | x :: r => noB x && noBs r
end
mutual
theorem eqv_same : ∀ {x y : PyData}, noB x = true → noB y = true → (PyData.eqv x y = true ↔ x = y)
  | .none, y, _, hy => by cases y <;> simp [PyData.eqv]
  | .bool _, y, hx, _ => by cases hx
  | .int i, y, _, hy => by
    cases y with
    | bool b => cases hy
    | _ => simp [PyData.eqv]
  | .str i, y, _, hy => by cases y <;> simp [PyData.eqv]
  | .list xs, y, hx, hy => by
    cases y with
    | list ys =>
      simp only [noB] at hx hy
      simp only [PyData.eqv, PyData.list.injEq]
      exact eqvAll_same hx hy
    | _ => simp [PyData.eqv]
  | .tuple xs, y, hx, hy => by
    cases y with
    | tuple ys =>
      simp only [noB] at hx hy
      simp only [PyData.eqv, PyData.tuple.injEq]
      exact eqvAll_same hx hy
    | _ => simp [PyData.eqv]
  | .dict _, y, hx, _ => by cases hx
theorem eqvAll_same : ∀ {x y : List PyData}, noBs x = true → noBs y = true → (PyData.eqvAll x y = true ↔ x = y)
  | [], [], _, _ => by simp [PyData.eqvAll]
  | [], _ :: _, _, _ => by simp [PyData.eqvAll]
  | _ :: _, [], _, _ => by simp [PyData.eqvAll]
  | a :: r, b :: s, hx, hy => by
    have hx := Bool.and_eq_true_iff.mp (show (noB a && noBs r) = true from hx)
    have hy := Bool.and_eq_true_iff.mp (show (noB b && noBs s) = true from hy)
    rw [PyData.eqvAll, Bool.and_eq_true, eqv_same hx.1 hy.1, eqvAll_same hx.2 hy.2]
    simp
end
theorem noBs_iff {ds : List PyData} : noBs ds = true ↔ ∀ d ∈ ds, noB d = true := by
  induction ds with
  | nil => simp [noBs]
  | cons d r ih => simp [noBs, ih]
theorem isTup_none_ : U.isTup .none = false := rfl
theorem isTup_bool_ {b : Bool} : U.isTup (.bool b) = false := rfl
theorem isTup_int_ {i : Int} : U.isTup (.int i) = false := rfl
theorem isTup_str_ {s : Str} : U.isTup (.str s) = false := rfl
theorem isTup_list_ {ds : List PyData} : U.isTup (.list ds) = false := rfl
theorem isTup_tuple_ {ds : List PyData} : U.isTup (.tuple ds) = true := rfl
theorem isTup_dict_ {ds : List (PyData × PyData)} : U.isTup (.dict ds) = false := rfl
theorem isLst_none_ : U.isLst .none = false := rfl
theorem isLst_bool_ {b : Bool} : U.isLst (.bool b) = false := rfl
theorem isLst_int_ {i : Int} : U.isLst (.int i) = false := rfl
theorem isLst_str_ {s : Str} : U.isLst (.str s) = false := rfl
theorem isLst_list_ {ds : List PyData} : U.isLst (.list ds) = true := rfl
theorem isLst_tuple_ {ds : List PyData} : U.isLst (.tuple ds) = false := rfl
theorem isLst_dict_ {ds : List (PyData × PyData)} : U.isLst (.dict ds) = false := rfl
theorem isInt_none_ : U.isInt .none = false := rfl
theorem isInt_bool_ {b : Bool} : U.isInt (.bool b) = true := rfl
theorem isInt_int_ {i : Int} : U.isInt (.int i) = true := rfl
theorem isInt_str_ {s : Str} : U.isInt (.str s) = false := rfl
theorem isInt_list_ {ds : List PyData} : U.isInt (.list ds) = false := rfl
theorem isInt_tuple_ {ds : List PyData} : U.isInt (.tuple ds) = false := rfl
theorem isInt_dict_ {ds : List (PyData × PyData)} : U.isInt (.dict ds) = false := rfl
theorem isBool_none_ : U.isBool .none = false := rfl
theorem isBool_bool_ {b : Bool} : U.isBool (.bool b) = true := rfl
theorem isBool_int_ {i : Int} : U.isBool (.int i) = false := rfl
theorem isBool_str_ {s : Str} : U.isBool (.str s) = false := rfl
theorem isBool_list_ {ds : List PyData} : U.isBool (.list ds) = false := rfl
theorem isBool_tuple_ {ds : List PyData} : U.isBool (.tuple ds) = false := rfl
theorem isBool_dict_ {ds : List (PyData × PyData)} : U.isBool (.dict ds) = false := rfl
theorem isStr_none_ : U.isStr .none = false := rfl
theorem isStr_bool_ {b : Bool} : U.isStr (.bool b) = false := rfl
theorem isStr_int_ {i : Int} : U.isStr (.int i) = false := rfl
theorem isStr_str_ {s : Str} : U.isStr (.str s) = true := rfl
theorem isStr_list_ {ds : List PyData} : U.isStr (.list ds) = false := rfl
theorem isStr_tuple_ {ds : List PyData} : U.isStr (.tuple ds) = false := rfl
theorem isStr_dict_ {ds : List (PyData × PyData)} : U.isStr (.dict ds) = false := rfl
theorem isDict_none_ : U.isDict .none = false := rfl
theorem isDict_bool_ {b : Bool} : U.isDict (.bool b) = false := rfl
theorem isDict_int_ {i : Int} : U.isDict (.int i) = false := rfl
theorem isDict_str_ {s : Str} : U.isDict (.str s) = false := rfl
theorem isDict_list_ {ds : List PyData} : U.isDict (.list ds) = false := rfl
theorem isDict_tuple_ {ds : List PyData} : U.isDict (.tuple ds) = false := rfl
theorem isDict_dict_ {ds : List (PyData × PyData)} : U.isDict (.dict ds) = true := rfl
theorem isNonD_none_ : U.isNonD .none = true := rfl
theorem isNonD_bool_ {b : Bool} : U.isNonD (.bool b) = false := rfl
theorem isNonD_int_ {i : Int} : U.isNonD (.int i) = false := rfl
theorem isNonD_str_ {s : Str} : U.isNonD (.str s) = false := rfl
theorem isNonD_list_ {ds : List PyData} : U.isNonD (.list ds) = false := rfl
theorem isNonD_tuple_ {ds : List PyData} : U.isNonD (.tuple ds) = false := rfl
theorem isNonD_dict_ {ds : List (PyData × PyData)} : U.isNonD (.dict ds) = false := rfl
theorem iteS {c b : Bool} : (if c = true then some b else some false) = some (c && b) := by cases c <;> rfl
theorem iteT_ {c b : Bool} : (if c = true then some true else some b) = some (c || b) := by cases c <;> rfl
theorem iteI_ {c : Bool} {b : Bool} : (if c = true then some false else some b) = some (!c && b) := by cases c <;> rfl
theorem bind_some_ {α : Type} {o : Option α} : (o.bind fun x => some x) = o := by cases o <;> rfl
end U

/-! set(a list), len of it: keys by value, however many -/
namespace U
open PySem PySem.Spec PyProof.Rows L2
/-- what is met, each once, in order -/
def ddS {α : Type} [DecidableEq α] (acc : List α) : List α → List α
  | [] => acc
  | x :: r => ddS (if x ∈ acc then acc else acc ++ [x]) r
theorem ddS_snoc {α : Type} [DecidableEq α] : ∀ (xs acc : List α) (x : α), ddS acc (xs ++ [x]) = if x ∈ ddS acc xs then ddS acc xs else ddS acc xs ++ [x]
  | [], acc, x => rfl
  | y :: r, acc, x => ddS_snoc r _ x
theorem ddS_mem {α : Type} [DecidableEq α] : ∀ (xs acc : List α) (z : α), z ∈ ddS acc xs ↔ z ∈ acc ∨ z ∈ xs
  | [], acc, z => by simp [ddS]
  | y :: r, acc, z => by
    rw [ddS, ddS_mem r]
    by_cases h : y ∈ acc
    · rw [if_pos h]
      constructor
      · rintro (h1 | h1)
        · exact .inl h1
        · exact .inr (List.mem_cons_of_mem _ h1)
      · rintro (h1 | h1)
        · exact .inl h1
        · rcases List.mem_cons.mp h1 with rfl | h1
          · exact .inl h
          · exact .inr h1
    · rw [if_neg h]
      simp only [List.mem_append, List.mem_cons, List.not_mem_nil, or_false, or_assoc]
theorem ddS_len {α : Type} [DecidableEq α] : ∀ (xs acc : List α), (ddS acc xs).length ≤ acc.length + xs.length
  | [], acc => Nat.le_refl _
  | y :: r, acc => by
    rw [ddS]
    have := ddS_len r (if y ∈ acc then acc else acc ++ [y])
    split at this
    · rw [if_pos (by assumption), List.length_cons]; omega
    · rw [if_neg (by assumption), List.length_cons]
      rw [List.length_append] at this
      have e : [y].length = 1 := rfl
      omega
section
variable {P : Program} {w : World} {A : Around} {R : Result → Shared → Prop} {I : Addr} {fp wr : List Addr} {G : Array GenState → Array GenState → Prop} {n : Nat} {Pv : Nat → Value → Prop} {St : Nat → Shared → Prop} {κ : Type} [DecidableEq κ] {knd : KeyKind P w κ}
theorem set_loop (W : WalksS P w A.in1 I fp wr G n Pv St) (D : Addr) (off : D ∉ fp) (xs : List κ) (few : n + 1 < scanBound) (hv : ∀ (i : Nat) (v : Value), Pv i v → ∃ k, xs[i]? = some k ∧ knd.is k v = true ∧ v.scannable = true) :
    ∀ (left i : Nat) (s : Shared), n - i = left → i ≤ n → St i s → s.heap.SetOf knd D (fun z => decide (z ∈ ddS [] (xs.take i))) (ddS [] (xs.take i)).length →
      (∀ s', Moved (D :: wr) G s s' → s'.heap.SetOf knd D (fun z => decide (z ∈ ddS [] (xs.take n))) (ddS [] (xs.take n)).length → R (.ok (.ret .none)) s') →
      codeAny (model P w) A (.builtin "set.update.loop" ⟨[.ref D, .ref I], []⟩) R s := by
  have offW : D ∉ wr := fun h => off (W.sub _ h)
  have wider : ∀ b ∈ wr, b ∈ D :: wr := fun b hb => List.mem_cons_of_mem _ hb
  intro left
  induction left with
  | zero =>
    intro i s hk hi hst hS hR
    obtain rfl : i = n := by omega
    refine codeAny_builtin PyProof.Rows.F.entry_set_update_loop ?_
    rw [Around.under_plainId PyProof.Rows.F.plain_set_update_loop _]
    show wpAny _ A.in1 (pyNext (.ref I) >>= _) _ _ s
    refine wpAny_bind (W.done s _ _ hst fun s' hm => ?_)
    show wpAny _ A.in1 (ret Value.none) _ _ s'
    refine wpAny_pure (hR s' (hm.mono wider) ?_)
    obtain ⟨o, es, ep, t, ho, more⟩ := hS
    exact ⟨o, es, ep, t, hm.heap D _ offW ho, more⟩
  | succ left ih =>
    intro i s hk hi hst hS hR
    have hlt : i < n := by omega
    refine codeAny_builtin PyProof.Rows.F.entry_set_update_loop ?_
    rw [Around.under_plainId PyProof.Rows.F.plain_set_update_loop _]
    show wpAny _ A.in1 (pyNext (.ref I) >>= _) _ _ s
    refine wpAny_bind (W.item i s _ _ hlt hst fun v s' hP hst' hm => ?_)
    obtain ⟨k, hx, hik, hsc⟩ := hv i v hP
    have hS' : s'.heap.SetOf knd D (fun z => decide (z ∈ ddS [] (xs.take i))) (ddS [] (xs.take i)).length := by
      obtain ⟨o, es, ep, t, ho, more⟩ := hS
      exact ⟨o, es, ep, t, hm.heap D _ offW ho, more⟩
    show wpAny _ A.in1 (holding [v] (setAdd D v) >>= _) _ _ s'
    refine wpAny_bind (wpAny_holding ?_)
    unfold setAdd
    refine wpAny_holding (wpAny_bind (knd.pyHash (k := k) hik ?_))
    have room : (ddS [] (xs.take i)).length + 1 < scanBound := by
      have h1 := ddS_len (xs.take i) []
      have h2 : (xs.take i).length ≤ i := List.length_take_le _ _
      have h3 : ([] : List κ).length = 0 := rfl
      omega
    refine wpAny_setAddHashed_of (knd := knd) (s := { s' with toks := s'.toks + 1 }) hik hsc hS' room fun h' hsb hS2 => ?_
    have et : xs.take (i + 1) = xs.take i ++ [k] := by rw [List.take_add_one, hx]; rfl
    have hSi : h'.SetOf knd D (fun z => decide (z ∈ ddS [] (xs.take (i + 1)))) (ddS [] (xs.take (i + 1))).length := by
      have e1 : (fun z => decide (z ∈ ddS [] (xs.take (i + 1)))) = fun z => decide (z ∈ ddS [] (xs.take i)) || decide (z = k) := by
        funext z
        rw [et, ddS_snoc]
        by_cases h : k ∈ ddS [] (xs.take i)
        · rw [if_pos h]
          by_cases e : z = k
          · subst e; simp [h]
          · simp [e]
        · rw [if_neg h]; simp
      have e2 : (ddS [] (xs.take (i + 1))).length = if decide (k ∈ ddS [] (xs.take i)) = true then (ddS [] (xs.take i)).length else (ddS [] (xs.take i)).length + 1 := by
        rw [et, ddS_snoc]
        by_cases h : k ∈ ddS [] (xs.take i)
        · rw [if_pos h, if_pos (decide_eq_true h)]
        · rw [if_neg h, if_neg (by simpa using h), List.length_append]; rfl
      rw [e1, e2]
      exact hS2
    refine wpAny_pure ⟨plainId_quiet PyProof.Rows.F.plain_set_update_loop _, ih (i + 1) _ (by omega) hlt (W.frame _ s' _ _ hst' (Nat.le_succ _) fun b hb o e => ?_) hSi fun s2 hm2 hS3 => ?_⟩
    · exact (hsb.2 b (fun z => off (z ▸ hb))).trans e
    · refine hR s2 (Moved.trans W.gtrans ((hm.mono wider).then_heap (Nat.le_succ _) fun b o hb e => ?_) hm2) hS3
      exact (hsb.2 b (fun z => hb (z ▸ List.mem_cons_self))).trans e
end
section
variable {P : Program} {w : World} {A : Around} {E : Value → Shared → Prop} {s : Shared} {κ : Type} [DecidableEq κ] {knd : KeyKind P w κ}
set_option maxHeartbeats 3200000 in
theorem call_set_of {l : Addr} {its : Array Value} {xs : List κ} {Q : Value → Shared → Prop} (hh : A.handled = none) (hl : s.heap.IsList l its) (few : its.size + 1 < scanBound)
    (hv : ∀ (i : Nat) (v : Value), its[i]? = some v → ∃ k, xs[i]? = some k ∧ knd.is k v = true ∧ v.scannable = true)
    (k : ∀ (h' : Heap) (tk : Nat), h'.SetOf knd s.heap.objs.size (fun z => decide (z ∈ ddS [] (xs.take its.size))) (ddS [] (xs.take its.size)).length → (∀ b o, b < s.heap.objs.size → s.heap.get? b = some o → h'.get? b = some o) → Q (.ref s.heap.objs.size) { s with heap := h', toks := tk }) :
    wpAny (model P w) A (call (.type "set") [.ref l]) Q E s := by
  obtain ⟨c, tl, hmro⟩ := PySem.F.called_set.mro
  have hmade := PySem.F.called_set.made
  have hsub := PySem.F.called_set.sub
  refine wpAny_call (codeAny_of_tree ?_)
  show wpAny _ _ (callAny (.type "set") _) _ _ _
  refine wpAny_pure ⟨Code.quiet_builtin _ (by decide +kernel), codeAny_builtin PySem.F.entry_type_call ?_⟩
  rw [Around.under_plain (weight_type_call_type "set" [.ref l] []) rfl]
  have h1 := PySem.F.called_set.notType
  have h2 := PySem.F.called_set.canCreate
  have hct := PySem.F.typeCall_set_1 (.ref l)
  repeat (any_goals (first | assumption | wp_step))
  generalize hD : s.heap.objs.size = D at *
  let mk (led : Bool) : Heap := s.heap.push { cls := .type "set", dict := none, data := .set #[] 0 (.fresh 0 0 led) }
  refine codeAny_mono (code_set_new_1 (.ref l) (E := E) (Q₁ := fun obj s₁ => ∃ led : Bool, obj = .ref D ∧ s₁ = { s with heap := mk led }) fun led => ⟨led, by rw [hD], rfl⟩) fun r s₁ hr => ?_
  cases r with
  | error e => exact hr
  | ok fl =>
    cases fl with
    | ret obj =>
      obtain ⟨led, rfl, rfl⟩ := hr
      have hnew : (mk led).get? D = some { cls := .type "set", dict := none, data := .set #[] 0 (.fresh 0 0 led) } := by rw [← hD]; exact Heap.get?_push_size _ rfl
      have hT : Shared.TypeIs { s with heap := mk led } (.ref D) "set" := ⟨_, hnew, rfl⟩
      have hli := PySem.F.called_set.init.lookup
      have hbi := PySem.F.called_set.init.bind (.ref D)
      repeat (any_goals (first | assumption | wp_step))
      refine codeAny_mono (codeAny_call_builtin (R := wants (fun r s₂ => r = .none ∧ ∃ h' tk, s₂ = { s with heap := h', toks := tk } ∧ h'.SetOf knd D (fun z => decide (z ∈ ddS [] (xs.take its.size))) (ddS [] (xs.take its.size)).length ∧
          (∀ b o, b < D → s.heap.get? b = some o → h'.get? b = some o)) E) PySem.F.called_set.init.plain PySem.F.entry_set_init (check_set_init_1 hT ?_)) fun r₂ s₂ hr₂ => ?_
      · obtain ⟨⟨ocls, odict, odata, oslots⟩, hol, hcl, nl, hdl⟩ := hl
        simp only at hcl hdl
        subst hcl hdl
        have hol' : (mk led).get? l = some { cls := .type "list", dict := odict, data := .seq its nl, slots := oslots } := Heap.get?_push_of_some _ hol
        have hsls := PySem.F.sub_list_set
        have hslf := PySem.F.sub_list_frozenset
        have hne : (Value.type "list" == Value.type "dict") = false := by decide
        have hl1 : (mk led).IsList l its := ⟨_, hol', rfl, nl, rfl⟩
        unfold Builtin.«set.__init__» noKeywords Builtin.Frozenset.updateFrom
        generalize hPI : pyIter = PI
        wp_walk
        subst hPI
        refine wpAny_pyIter_list hl1 (wpAny_bind (wpAny_runValue ?_))
        have hlS : l < D := by rw [← hD]; exact Heap.lt_size hol
        have hh3 : A.in1.in1.in1.handled = none := by simp [hh]
        have sz : (mk led).objs.size = D + 1 := by rw [← hD]; exact Heap.size_push _ _
        have hneI : l ≠ (mk led).objs.size := by rw [sz]; exact Nat.ne_of_lt (Nat.lt_succ_of_lt hlS)
        have off : D ∉ [(mk led).objs.size, l] := by
          rw [sz]
          simp only [List.mem_cons, List.not_mem_nil, or_false, not_or]
          exact ⟨Nat.ne_of_lt (Nat.lt_succ_self _), Nat.ne_of_gt hlS⟩
        refine set_loop (knd := knd) ((Walks.list hh3 _ l hneI its).toS) D off xs few hv (its.size - 0) 0 _ (by omega) (Nat.zero_le _) ⟨⟨_, Heap.get?_push_size _ rfl, rfl, rfl⟩, (hl1.push _)⟩ ?hS0 ?hR
        case hS0 =>
          have hget : ((mk led).push { cls := .type "list_iterator", data := .fields #[.ref l, .int 0 0] }).get? D = some { cls := .type "set", dict := none, data := .set #[] 0 (.fresh 0 0 led) } := Heap.get?_push_of_some _ hnew
          have z := (PyProof.Rows.setObjOf_fresh (knd := knd) led).setOf hget (by unfold scanBound; omega)
          have e : (fun x : κ => decide (x ∈ ddS [] (xs.take 0))) = fun _ => false := by funext x; simp [ddS]
          rw [e]
          exact z
        case hR =>
          intro s' hm hS'
          obtain ⟨h', g', d', tk', os'⟩ := s'
          have eg : g' = s.gens := hm.gens
          have ed : d' = s.drawn := hm.drawn
          have eo : os' = s.os := hm.os
          subst eg ed eo
          show wpAny _ _ _ _ _ _
          refine wpAny_pure ?_
          show wpAny _ _ (ret Value.none) _ _ _
          refine wpAny_pure ⟨rfl, h', tk', rfl, hS', fun b o hb e => ?_⟩
          refine hm.heap b o ?_ (Heap.get?_push_of_some _ (Heap.get?_push_of_some _ e))
          rw [sz]
          simp only [List.mem_cons, List.not_mem_nil, or_false, not_or]
          exact ⟨Nat.ne_of_lt hb, Nat.ne_of_lt (Nat.lt_succ_of_lt hb)⟩
      · cases r₂ with
        | error e => exact hr₂
        | ok fl₂ =>
          cases fl₂ with
          | ret r =>
            obtain ⟨rfl, h', tk, rfl, hS', hk'⟩ := hr₂
            repeat (any_goals (first | assumption | wp_step))
            exact k _ _ hS' hk'
          | _ => exact hr₂.elim
    | _ => exact hr.elim
end
end U

/-! set(a list of tuples), the tuples nested: how an element is sought and put -/
namespace U
open PySem PySem.Spec PyProof.Rows L2
/-- keys of a set, told by what is asked of them -/
structure SetKind (P : Program) (w : World) (κ : Type) [DecidableEq κ] where
  is : Heap → κ → Addr → Prop
  hash : κ → Int
  draws : κ → Nat
  room : Around → Prop
  keeps : ∀ {h h' : Heap} {k : κ} {a : Addr}, is h k a → (∀ b o vs n, h.get? b = some o → o.data = .seq vs n → h'.get? b = some o) → is h' k a
  pyHash : ∀ {A : Around} {E : Value → Shared → Prop} {s : Shared} {k : κ} {a : Addr} {Q : Int → Shared → Prop}, room A → is s.heap k a → Q (hash k) { s with toks := s.toks + draws k } → wpAny (model P w) A (PySem.pyHash (.ref a)) Q E s
  eqBool : ∀ {A : Around} {E : Value → Shared → Prop} {s : Shared} {x y : κ} {a b : Addr} {Q : Bool → Shared → Prop}, room A → is s.heap x a → is s.heap y b → Q (decide (x = y)) s → wpAny (model P w) A (PySem.eqBool (.ref a) (.ref b)) Q E s
  quiet : ∀ {A : Around} {E : Value → Shared → Prop} {s : Shared} {k : κ} {a : Addr} {Q : Bool → Shared → Prop}, is s.heap k a → Q true s → wpAny (model P w) A (eqIsQuiet 8 (.ref a)) Q E s
  ofA : ∀ {A : Around} {E : Value → Shared → Prop} {s : Shared} {k : κ} {a : Addr} {Q : Bool → Shared → Prop}, is s.heap k a → Q false s → wpAny (model P w) A (ofAClassStatement 8 (.ref a)) Q E s
  byv : ∀ {A : Around} {E : Value → Shared → Prop} {s : Shared} {k : κ} {a : Addr} {Q : Bool → Shared → Prop}, is s.heap k a → Q true s → wpAny (model P w) A (hashByValue 8 (.ref a)) Q E s
section
variable {P : Program} {w : World} {A : Around} {E : Value → Shared → Prop} {s : Shared} {κ : Type} [DecidableEq κ] {N : SetKind P w κ}
/-- nobody can see the search -/
theorem SetKind.unseen {k : κ} {b : Addr} {Q : Bool → Shared → Prop} (hk : N.is s.heap k b) (h : Q false s) : ∀ ys : List Value, (∀ y ∈ ys, ∃ k' c, y = .ref c ∧ N.is s.heap k' c) → wpAny (model P w) A (searchCouldBeSeen (.ref b) ys) Q E s := fun ys hy => by
  unfold searchCouldBeSeen
  refine wpAny_bind (wpAny_forIn_list _ (fun rest r s' => r.1 = none ∧ s' = s ∧ ∀ y ∈ rest, ∃ k' c, y = .ref c ∧ N.is s.heap k' c) _ ?step ?done _ _ ⟨rfl, rfl, hy⟩)
  case done =>
    rintro ⟨r1, r2⟩ s' ⟨e, rfl, _⟩
    cases e
    exact wpAny_pure h
  case step =>
    rintro v rest r s' ⟨e, rfl, all⟩
    obtain ⟨k', c, rfl, hc⟩ := all _ (.head _)
    have more := fun y hy => all y (.tail _ hy)
    dsimp only
    split
    · exact wpAny_pure ⟨rfl, rfl, more⟩
    · have no : (!true) = false := rfl
      refine wpAny_bind (N.quiet hk ?_)
      simp only [no, Bool.false_eq_true, if_false]
      refine wpAny_bind (N.quiet hc ?_)
      simp only [no, Bool.false_eq_true, if_false]
      refine wpAny_bind (N.ofA hk ?_)
      simp only [Bool.false_eq_true, if_false]
      refine wpAny_bind (N.ofA hc ?_)
      simp only [Bool.false_eq_true, if_false]
      exact wpAny_pure ⟨rfl, rfl, more⟩
/-- what lies in the table: key and place of each, in the table's order -/
structure TblN (N : SetKind P w κ) (L : List (κ × Addr)) (es : Array (Int × Value)) (t : SetTable) : Prop where
  rows : es.toList = L.map fun p => (N.hash p.1, Value.ref p.2)
  tab : TabOk t (L.map fun p => N.hash p.1)
  plain : t.plain = true
  led : w.params.followText "set-order" = true ∨ t.led = true
  nd : (L.map (·.1)).Nodup
  few : L.length < 64
/-- .. with a slot to spare -/
def TblN.Wide (L : List (κ × Addr)) (t : SetTable) : Prop := L.length * 5 < t.mask * 3
section
variable {L : List (κ × Addr)} {es : Array (Int × Value)} {t : SetTable}
theorem TblN.size (T : TblN N L es t) : es.size = L.length := by
  rw [← Array.length_toList, T.rows, List.length_map]
theorem TblN.get (T : TblN N L es t) (i : Nat) : es[i]? = L[i]?.map fun p => (N.hash p.1, Value.ref p.2) := by
  rw [← Array.getElem?_toList, T.rows, List.getElem?_map]
theorem TblN.places (T : TblN N L es t) : t.place.size = L.length := by
  rw [T.tab.sz, List.length_map]
theorem TblN.fits (T : TblN N L es t) (wide : L.length ≤ t.mask) : t.fits es.size = true := by
  have e1 := T.places
  have e2 := T.size
  simp only [SetTable.fits, SetTable.fill, T.tab.dm, Bool.and_eq_true, beq_iff_eq, decide_eq_true_eq, List.size_toArray, List.length_nil]
  omega
theorem TblN.whole (T : TblN N L es t) : (t.gaveWay = true) = False := by
  simp only [SetTable.gaveWay, mask_odd T.tab.mok]
  decide
theorem TblN.hashAt (T : TblN N L es t) {i : Nat} {p : κ × Addr} (h : L[i]? = some p) : (es[i]?.map (·.1)).getD 0 = N.hash p.1 := by
  rw [T.get, h]
  rfl
end
section
variable {L : List (κ × Addr)} {es : Array (Int × Value)} {ep : Nat} {t : SetTable} {a : Addr} {o : Obj}
/-- the q-th place that is looked at -/
abbrev pr (t : SetTable) (H : Int) (q : Nat) : SetTable.Probe := nth t.mask (t.probeStart H) q
theorem pr_dummy (t : SetTable) (H : Int) : ∀ q, (pr t H q).dummy = none
  | 0 => rfl
  | q + 1 => by
    have ih := pr_dummy t H q
    unfold pr at ih ⊢
    rw [nth_succ, adv]
    split <;> exact ih
theorem pr_add (t : SetTable) (H : Int) (c q : Nat) : nth t.mask (pr t H c) q = pr t H (c + q) := (nth_add t.mask c _ q).symm
/-- THE SEARCH, from its c-th place on -/
theorem TblN.seek (T : TblN N L es t) (ho : s.heap.get? a = some o) (hd : o.data = .set es ep t) (wide : L.length ≤ t.mask) (at_ : ∀ p ∈ L, N.is s.heap p.1 p.2) {x : Addr} {k : κ} (hx : N.is s.heap k x) (room : N.room A)
    {K : Nat} (small : K < 10 * SetTable.turns t.mask) (out : (pr t (N.hash k) K).j ∉ t.place.toList) (within : ∀ q, q < K → (pr t (N.hash k) q).j ∈ t.place.toList)
    {Q : SetFound → Shared → Prop} (hin : k ∈ L.map (·.1) → Q (.there none) s) (hout : k ∉ L.map (·.1) → Q (.free (pr t (N.hash k) K).j false) s) :
    ∀ (f c : Nat) (stand : Option SetTable.Probe), stand.getD (t.probeStart (N.hash k)) = pr t (N.hash k) c → c ≤ K → K < c + f →
      (∀ (i : Nat) (p : κ × Addr), L[i]? = some p → p.1 = k → ∃ q, c ≤ q ∧ q < K ∧ t.place.toList[i]? = some (pr t (N.hash k) q).j) →
      wpAny (model P w) A (setSearchFrom a (.ref x) (N.hash k) true f stand) Q E s := by
  intro f
  induction f with
  | zero => intro c _ _ h1 h2; omega
  | succ f ih =>
    intro c stand hs hc hf ahead
    rw [setSearchFrom_succ]
    refine wpAny_bind (wpAny_setState_of ho hd (T.fits wide) ?_)
    simp only [T.whole, if_false]
    have go := go_spec t T.tab.ris T.tab.dm (fun i => (es[i]?.map (·.1)).getD 0) (N.hash k) (10 * SetTable.turns t.mask) (K - c) (pr t (N.hash k) c) (pr_dummy t _ c) (by omega)
      (fun q hq => by rw [pr_add]; exact within _ (by omega)) (by rw [pr_add, Nat.add_sub_cancel' hc]; exact out)
    simp only [pr_add, Nat.add_sub_cancel' hc] at go
    rcases go with ⟨q, i, hq, hi, hh, none_before, e⟩ | ⟨none_at, e⟩
    · have e' : t.probe (fun i => (es[i]?.map (·.1)).getD 0) (N.hash k) (stand.getD (t.probeStart (N.hash k))) = some (.candidate (pr t (N.hash k) (c + q)).j i (pr t (N.hash k) (c + (q + 1)))) := by rw [hs]; exact e
      simp only [e']
      have il : i < L.length := by
        have := (List.getElem?_eq_some_iff.mp hi).1
        rw [Array.length_toList, T.places] at this
        exact this
      obtain ⟨p, hp⟩ : ∃ p, L[i]? = some p := ⟨_, List.getElem?_eq_getElem il⟩
      have pm := List.mem_of_getElem? hp
      have ent : es[i]? = some (N.hash p.1, Value.ref p.2) := by rw [T.get, hp]; rfl
      have lies : t.slot (pr t (N.hash k) (c + q)).j = .live i := slot_live T.tab.ris hi
      have cont : wpAny (model P w) A (searchRest a (.ref x) (N.hash k) true f es t (pr t (N.hash k) (c + q)).j i (pr t (N.hash k) (c + (q + 1)))) Q E s := by
        unfold searchRest
        simp only [ent]
        refine wpAny_bind (wpAny_holding (N.eqBool room (at_ p pm) hx ?_))
        refine wpAny_bind (wpAny_setState_of ho hd (T.fits wide) ?_)
        by_cases same : p.1 = k
        · simp only [same, decide_true, Bool.and_self, if_true]
          exact wpAny_pure (hin (List.mem_map.mpr ⟨p, pm, same⟩))
        · simp only [same, decide_false, Bool.and_false, Bool.false_eq_true, if_false, sameMem, lies, ent, if_true]
          refine wpAny_bind (wpAny_isSame_ref_self (wpAny_bind (wpAny_pure ?_)))
          refine ih (c + (q + 1)) _ rfl (by omega) (by omega) fun i' p' hp' hk' => ?_
          obtain ⟨q', a1, a2, a3⟩ := ahead i' p' hp' hk'
          refine ⟨q', ?_, a2, a3⟩
          rcases Nat.lt_trichotomy q' (c + q) with lt | rfl | gt
          · refine (none_before (q' - c) i' (by omega) (by rw [Nat.add_sub_cancel' a1]; exact a3) ?_).elim
            rw [T.hashAt hp', hk']
          · have l2 := slot_live T.tab.ris a3
            rw [lies] at l2
            injection l2 with l2
            rw [← l2, hp] at hp'
            cases hp'
            exact (same hk').elim
          · omega
      by_cases led : t.led = true
      · simp only [led, Bool.not_true, Bool.false_eq_true, if_false]
        exact cont
      · simp only [led, Bool.not_false, if_true]
        refine wpAny_bind (SetKind.unseen hx ?_ _ fun y hy => ?_)
        · simp only [Bool.false_eq_true, if_false]
          exact cont
        · obtain ⟨e0, he, rfl⟩ := List.mem_map.mp hy
          have he' : e0 ∈ es.toList := by
            have : e0 ∈ es := (Array.mem_filter.mp (Array.mem_toList_iff.mp he)).1
            exact Array.mem_toList_iff.mpr this
          rw [T.rows] at he'
          obtain ⟨p', hp', rfl⟩ := List.mem_map.mp he'
          exact ⟨p'.1, p'.2, rfl, at_ p' hp'⟩
    · have e' : t.probe (fun i => (es[i]?.map (·.1)).getD 0) (N.hash k) (stand.getD (t.probeStart (N.hash k))) = some (.empty (pr t (N.hash k) K).j none) := by rw [hs]; exact e
      simp only [e']
      refine wpAny_pure (hout fun mem => ?_)
      obtain ⟨p, hp, rfl⟩ := List.mem_map.mp mem
      obtain ⟨i, hi⟩ := List.mem_iff_getElem?.mp hp
      obtain ⟨q, q1, q2, q3⟩ := ahead i p hi rfl
      exact none_at (q - c) i (by omega) (by rw [Nat.add_sub_cancel' q1]; exact q3) (T.hashAt hi)
end
theorem fm_congr {α β : Type} {f g : α → Option β} : ∀ {l : List α}, (∀ x ∈ l, f x = g x) → l.filterMap f = l.filterMap g
  | [], _ => rfl
  | x :: r, h => by
    rw [List.filterMap_cons, List.filterMap_cons, h x (.head _), fm_congr fun y hy => h y (.tail _ hy)]
/-- a list picked out of itself, all of it -/
theorem picked_all {α : Type} : ∀ (L M : List α), (List.range' M.length L.length).filterMap (fun i => (M ++ L)[i]?) = L
  | [], M => rfl
  | x :: r, M => by
    have ih := picked_all r (M ++ [x])
    rw [List.length_append, List.length_singleton, List.append_assoc] at ih
    have hx : (M ++ x :: r)[M.length]? = some x := by simp
    rw [List.length_cons, List.range'_succ, List.filterMap_cons_some hx]
    exact congrArg (x :: ·) ih
theorem picked {α : Type} (L : List α) : (List.range L.length).filterMap (fun i => L[i]?) = L := by
  have := picked_all L []
  rwa [List.nil_append, List.length_nil, ← List.range_eq_range'] at this
section
variable {L : List (κ × Addr)} {es : Array (Int × Value)} {ep : Nat} {t : SetTable} {a : Addr} {o : Obj}
/-- at a the set of these -/
structure SN (N : SetKind P w κ) (h : Heap) (a : Addr) (L : List (κ × Addr)) : Prop where
  ex : ∃ o es ep t, h.get? a = some o ∧ o.ExactSet ∧ o.data = .set es ep t ∧ TblN N L es t ∧ TblN.Wide L t
  keys : ∀ p ∈ L, N.is h p.1 p.2
theorem keys_step {h h' : Heap} {p : κ × Addr} (k : N.is h p.1 p.2) (ho : h.get? a = some o) (hd : o.data = .set es ep t) (hs : Heap.SameBut a h h') : N.is h' p.1 p.2 :=
  N.keeps k fun b ob vs n e d => (hs.2 b fun z => by
    subst z
    rw [ho] at e
    cases e
    rw [hd] at d
    cases d).trans e
/-- the table laid anew -/
theorem TblN.relay (T : TblN N L es t) (ho : s.heap.get? a = some o) (hx : o.ExactSet) (hd : o.data = .set es ep t) (wide : L.length ≤ t.mask) (keys : ∀ p ∈ L, N.is s.heap p.1 p.2) {wanted M : Nat} (hw : SetTable.sizeAbove wanted - 1 = M) (hM : MaskOk M)
    (fit : SetTable.sizeAbove wanted ≤ 128) (wide' : L.length * 5 < M * 3) {Q : Unit → Shared → Prop} (q : ∀ h' L', Heap.SameBut a s.heap h' → SN N h' a L' → L'.Perm L → Q () { s with heap := h' }) : wpAny (model P w) A (setRelay a wanted) Q E s := by
  have sz := T.size
  obtain ⟨t', order, e, perm, tab, m, l, pl, dm⟩ := relaid_ok t (hs := es.map (·.1)) hw hM (by rw [Array.size_map, sz]; omega)
  rw [Array.size_map, sz] at perm
  have inb : ∀ i ∈ order.toList, i < L.length := fun i hi => List.mem_range.mp (perm.mem_iff.mp hi)
  obtain ⟨L', eL⟩ : ∃ L', L' = order.toList.filterMap fun i => L[i]? := ⟨_, rfl⟩
  have permL : L'.Perm L := by
    have := perm.filterMap fun i => L[i]?
    rw [picked] at this
    rw [eL]
    exact this
  have rows' : (order.filterMap (es[·]?)).toList = L'.map fun p => (N.hash p.1, Value.ref p.2) := by
    rw [Array.toList_filterMap, eL, List.map_filterMap]
    exact congrArg (List.filterMap · order.toList) (funext fun i => T.get i)
  have hashes : (order.toList.map fun i => (es.map (·.1)).getD i 0) = L'.map fun p => N.hash p.1 := by
    rw [eL, List.map_filterMap, ← List.filterMap_eq_map]
    refine fm_congr fun i hi => ?_
    have hl := List.getElem?_eq_getElem (inb i hi)
    have h1 : (es.map (·.1))[i]? = some (N.hash (L[i]'(inb i hi)).1) := by rw [Array.getElem?_map, T.get, hl]; rfl
    show some ((es.map (·.1)).getD i 0) = _
    rw [hl, Array.getD_eq_getD_getElem?, h1]
    rfl
  have sz' : (order.filterMap (es[·]?)).size = es.size := by
    rw [← Array.length_toList, rows', List.length_map, permL.length_eq, sz]
  rw [setRelay_eq]
  refine wpAny_bind (wpAny_setState_of ho hd (T.fits wide) ?_)
  have room : ¬ SetTable.sizeAbove wanted > sizeLine := by rw [sizeLine_eq]; omega
  simp only [room, if_false, e, sz', bne_self_eq_false, Bool.false_eq_true]
  refine wpAny_bind (wpAny_pure ?_)
  refine wpAny_storeSet_of ho hd ?_ (by rw [sz', sz, sizeLine_eq]; have := T.few; omega)
  have sb : Heap.SameBut a s.heap (s.heap.update a (Obj.putSet (order.filterMap (es[·]?)) t')) := Heap.SameBut.update ..
  refine q _ L' sb ⟨⟨_, _, _, t', store_at ho hd, ⟨hx.1, hx.2.1, hx.2.2⟩, rfl, ⟨rows', by rw [← hashes]; exact tab, by rw [pl]; exact T.plain, by rw [l]; exact T.led, (permL.map (·.1)).nodup_iff.mpr T.nd, by rw [permL.length_eq]; exact T.few⟩, ?_⟩, fun p hp => keys_step (keys p (permL.mem_iff.mp hp)) ho hd sb⟩ permL
  show _ < _
  rw [permL.length_eq, m]
  exact wide'
/-- one more -/
theorem SN.add (S : SN N s.heap a L) {x : Addr} {k : κ} (hx : N.is s.heap k x) (room : N.room A) (few : L.length + 1 < 64) {Q : Bool → Shared → Prop}
    (q : ∀ b h' L', Heap.SameBut a s.heap h' → SN N h' a L' → (k ∈ L.map (·.1) → L' = L) → (k ∉ L.map (·.1) → L'.Perm ((k, x) :: L)) → Q b { s with heap := h' }) : wpAny (model P w) A (setAddHashed a (.ref x) (N.hash k)) Q E s := by
  obtain ⟨⟨o, es, ep, t, ho, ex, hd, T, wide⟩, keys⟩ := S
  have wide : L.length * 5 < t.mask * 3 := wide
  have wide1 : L.length ≤ t.mask := by omega
  have sz := T.size
  obtain ⟨K, small, out, within⟩ := T.tab.first (by rw [List.length_map]; exact wide1) (N.hash k)
  have turns : SetTable.turns t.mask ≤ 142 := by
    unfold SetTable.turns
    rcases T.tab.mok with e | e | e <;> omega
  unfold setAddHashed
  refine wpAny_holding ?_
  rw [show (100000 : Nat) = 99999 + 1 from rfl, setAddHashedIn_succ]
  refine wpAny_bind (wpAny_setState_of ho hd (T.fits wide1) ?_)
  have scan : byScan (.ref x) es = false := by simp [byScan, Value.scannable]
  simp only [scan, Bool.false_eq_true, if_false]
  unfold setSearch
  refine wpAny_bind (T.seek ho hd wide1 keys hx room small out within (fun mem => ?_) (fun new => ?_) 100000 0 none rfl (Nat.zero_le _) (by omega) fun i p hp hk => ?_)
  · exact wpAny_pure (q false s.heap L (.refl a s.heap) ⟨⟨o, es, ep, t, ho, ex, hd, T, wide⟩, keys⟩ (fun _ => rfl) fun z => absurd mem z)
  · refine wpAny_bind (wpAny_setState_of ho hd (T.fits wide1) ?_)
    have z := T.tab.put out within
    rw [show (pr t (N.hash k) K).j = way t.mask (N.hash k) K from rfl]
    generalize hj : way t.mask (N.hash k) K = j at z ⊢
    generalize ht : t.put j = tp at z ⊢
    obtain ⟨t1, p⟩ := tp
    obtain ⟨z1, z2, z3, z4, z5, z6, z7, z8, z9⟩ := z
    simp only at z1 z3 z4 z5 z6 z7 z8 z9
    rw [← z1] at z2 z3
    rw [List.length_map] at z2 z9
    obtain ⟨L1, eL⟩ : ∃ L1, L1 = L.take p ++ (k, x) :: L.drop p := ⟨_, rfl⟩
    have perm : L1.Perm ((k, x) :: L) := by
      rw [eL]
      refine List.perm_middle.trans ?_
      rw [List.take_append_drop]
    have len1 : L1.length = L.length + 1 := perm.length_eq
    have T1 : TblN N L1 (SetTable.insertAt es p (N.hash k, Value.ref x)) t1 := by
      refine ⟨?_, ?_, z6.trans T.plain, by rw [z5]; exact T.led, (perm.map (·.1)).nodup_iff.mpr (List.nodup_cons.mpr ⟨new, T.nd⟩), by rw [len1]; exact few⟩
      · rw [SetTable.toList_insertAt, T.rows, eL, List.map_append, List.map_cons, List.map_take, List.map_drop]
      · rw [eL, List.map_append, List.map_cons, List.map_take, List.map_drop]
        exact z3
    simp only [T1.plain, if_true]
    refine wpAny_bind (N.byv hx ?_)
    simp only [if_true]
    refine wpAny_bind (wpAny_storeSet_of ho hd ?_ (by rw [T1.size, len1, sizeLine_eq]; omega))
    have sb : Heap.SameBut a s.heap (s.heap.update a (Obj.putSet (SetTable.insertAt es p (N.hash k, Value.ref x)) t1)) := Heap.SameBut.update ..
    have ho1 := store_at (es' := SetTable.insertAt es p (N.hash k, Value.ref x)) (t' := t1) ho hd
    generalize s.heap.update a (Obj.putSet (SetTable.insertAt es p (N.hash k, Value.ref x)) t1) = h1 at sb ho1 ⊢
    have keys1 : ∀ p ∈ L1, N.is h1 p.1 p.2 := fun p hp => by
      rcases List.mem_cons.mp (perm.mem_iff.mp hp) with e | hp
      · subst e
        exact keys_step (p := (k, x)) hx ho hd sb
      · exact keys_step (keys p hp) ho hd sb
    have full : t1.tooFull = decide ((L.length + 1) * 5 ≥ t.mask * 3) := by
      unfold SetTable.tooFull
      rw [z9, z4]
    by_cases f : (L.length + 1) * 5 ≥ t.mask * 3
    · simp only [full, f, decide_true, Bool.not_false, Bool.and_self, if_true, sz]
      have both : (t.mask = 7 ∧ L.length = 4) ∨ (t.mask = 31 ∧ L.length = 18) := by
        rcases T.tab.mok with e | e | e <;> rw [e] at wide f
        · exact .inl ⟨e, by omega⟩
        · exact .inr ⟨e, by omega⟩
        · omega
      have go : ∀ M, MaskOk M → SetTable.sizeAbove (SetTable.grown (L.length + 1)) = M + 1 → M + 1 ≤ 128 → (L.length + 1) * 5 < M * 3 → wpAny (model P w) A (setRelay a (SetTable.grown (L.length + 1)) >>= fun _ => pure true) Q E { s with heap := h1 } := fun M hM e le lt =>
        wpAny_bind (T1.relay (s := { s with heap := h1 }) ho1 ⟨ex.1, ex.2.1, ex.2.2⟩ rfl (by rw [len1, z4]; omega) keys1 (by rw [e]; rfl) hM (by rw [e]; exact le) (by rw [len1]; exact lt) fun h2 L2 sb2 S2 perm2 =>
          wpAny_pure (q true h2 L2 (sb.trans sb2) S2 (fun z => absurd z new) fun _ => perm2.trans perm))
      rcases both with ⟨e1, e2⟩ | ⟨e1, e2⟩
      · exact go 31 (.inr (.inl rfl)) (by rw [e2, size_20]) (by decide) (by omega)
      · exact go 127 (.inr (.inr rfl)) (by rw [e2, size_76]) (by decide) (by omega)
    · simp only [full, f, decide_false, Bool.and_false, Bool.false_eq_true, if_false]
      refine wpAny_pure (q true h1 L1 sb ⟨⟨_, _, _, t1, ho1, ⟨ex.1, ex.2.1, ex.2.2⟩, rfl, T1, ?_⟩, keys1⟩ (fun z => absurd z new) fun _ => perm)
      show _ < _
      rw [len1, z4]
      omega
  · have hi : (L.map fun p => N.hash p.1)[i]? = some (N.hash k) := by rw [List.getElem?_map, hp, ← hk]; rfl
    have il : i < t.place.toList.length := by
      rw [Array.length_toList, T.places]
      exact (List.getElem?_eq_some_iff.mp hp).1
    obtain ⟨c, lt, e⟩ := T.tab.before out hi (List.getElem?_eq_getElem il)
    exact ⟨c, Nat.zero_le _, lt, by rw [List.getElem?_eq_getElem il, ← e]; rfl⟩
end
section
variable {l D I : Addr} {its : Array Value} {ks : List (κ × Addr)} {h0 : Heap}
theorem SN.ext {h h' : Heap} {L : List (κ × Addr)} {i : Nat} (S : SN N h D L) (it : h.IsListIter I l i) (dI : D ≠ I) (ex : Heap.ExtBut I h h') : SN N h' D L := by
  obtain ⟨⟨o, es, ep, t, ho, r⟩, keys⟩ := S
  obtain ⟨oi, hi, _, hdi⟩ := it
  refine ⟨⟨o, es, ep, t, ex D o dI ho, r⟩, fun p hp => N.keeps (keys p hp) fun b ob vs n e d => ex b ob (fun z => ?_) e⟩
  subst z
  rw [hi] at e
  cases e
  rw [hdi] at d
  cases d
/-- all of a list put into a set, one by one -/
theorem SN.fill (hh : A.handled = none) (room : N.room A.in1) (eq : its.toList = ks.map fun p => Value.ref p.2) (few : ks.length < 64) (keys : ∀ p ∈ ks, N.is h0 p.1 p.2) (newD : h0.get? D = none) (newI : h0.get? I = none) (li : h0.IsList l its) (dI : D ≠ I)
    {R : Result → Shared → Prop} : ∀ (m i : Nat) (s : Shared) (L : List (κ × Addr)), its.size = i + m → (∀ b o, h0.get? b = some o → s.heap.get? b = some o) → s.heap.IsListIter I l i → SN N s.heap D L → (L.map (·.1)).Perm (ddS [] ((ks.map (·.1)).take i)) →
      (∀ h' tk L', s.toks ≤ tk → (∀ b o, h0.get? b = some o → h'.get? b = some o) → SN N h' D L' → (L'.map (·.1)).Perm (ddS [] (ks.map (·.1))) → R (.ok (.ret .none)) { s with heap := h', toks := tk }) →
      codeAny (model P w) A (.builtin "set.update.loop" ⟨[.ref D, .ref I], []⟩) R s := by
  have size : its.size = ks.length := by rw [← Array.length_toList, eq, List.length_map]
  intro m
  induction m with
  | zero =>
    intro i s L e old it S perm r
    refine codeAny_builtin PyProof.Rows.F.entry_set_update_loop ?_
    rw [Around.under_plainId PyProof.Rows.F.plain_set_update_loop _]
    obtain ⟨ol, hol, rl⟩ := li
    have full : (ks.map (·.1)).take i = ks.map (·.1) := List.take_of_length_le (by rw [List.length_map]; omega)
    rw [full] at perm
    refine wpAny_bind (m := pyNext (.ref I)) (wpAny_pyNext_list_end (by simpa using hh) it ⟨ol, old _ _ hol, rl⟩ (Array.getElem?_eq_none (by omega)) fun h' ex => ?_)
    exact wpAny_pure (r h' s.toks L (Nat.le_refl _) (fun b o hb => ex b o (fun z => by rw [z, newI] at hb; cases hb) (old b o hb)) (S.ext it dI ex) perm)
  | succ m ih =>
    intro i s L e old it S perm r
    refine codeAny_builtin PyProof.Rows.F.entry_set_update_loop ?_
    rw [Around.under_plainId PyProof.Rows.F.plain_set_update_loop _]
    obtain ⟨p, hp⟩ : ∃ p, ks[i]? = some p := ⟨_, List.getElem?_eq_getElem (show i < ks.length by omega)⟩
    have hx : its[i]? = some (Value.ref p.2) := by rw [← Array.getElem?_toList, eq, List.getElem?_map, hp]; rfl
    have li' : s.heap.IsList l its := by
      obtain ⟨ol, hol, rl⟩ := li
      exact ⟨ol, old _ _ hol, rl⟩
    refine wpAny_bind (m := pyNext (.ref I)) (wpAny_pyNext_list_item it li' hx fun h1 it1 sb => ?_)
    have old1 : ∀ b o, h0.get? b = some o → h1.get? b = some o := fun b o hb => sb.extBut b o (fun z => by rw [z, newI] at hb; cases hb) (old b o hb)
    have S1 : SN N h1 D L := S.ext it dI sb.extBut
    have key1 : N.is h1 p.1 p.2 := N.keeps (keys p (List.mem_of_getElem? hp)) fun b o _ _ hb _ => old1 b o hb
    have take1 : (ks.map (·.1)).take (i + 1) = (ks.map (·.1)).take i ++ [p.1] := by
      rw [List.take_add_one, List.getElem?_map, hp]
      rfl
    have len : L.length < 63 := by
      have h1 := perm.length_eq
      have h2 := ddS_len ((ks.map (·.1)).take i) []
      rw [List.length_map] at h1
      rw [List.length_take, List.length_map, List.length_nil] at h2
      omega
    show wpAny _ _ (holding [Value.ref p.2] (setAdd D (.ref p.2)) >>= _) _ _ _
    refine wpAny_bind (wpAny_holding ?_)
    unfold setAdd
    refine wpAny_holding (wpAny_bind (N.pyHash (s := { s with heap := h1 }) room key1 ?_))
    refine SN.add (s := { s with heap := h1, toks := s.toks + N.draws p.1 }) S1 key1 room (by omega) fun b h2 L2 sb2 S2 c1 c2 => ?_
    refine wpAny_pure ⟨plainId_quiet PyProof.Rows.F.plain_set_update_loop _, ih (i + 1) _ L2 (by omega) (fun b o hb => (sb2.2 b fun z => by rw [z, newD] at hb; cases hb).trans (old1 b o hb)) ?_ S2 ?_ fun h3 tk L3 t3 old3 S3 perm3 => ?_⟩
    · obtain ⟨oi, hi, ri⟩ := it1
      exact ⟨oi, (sb2.2 I (Ne.symm dI)).trans hi, ri⟩
    · rw [take1, ddS_snoc]
      by_cases mem : p.1 ∈ L.map (·.1)
      · rw [if_pos (perm.mem_iff.mp mem), c1 mem]
        exact perm
      · rw [if_neg fun z => mem (perm.mem_iff.mpr z)]
        refine ((c2 mem).map (·.1)).trans ?_
        rw [List.map_cons]
        exact (perm.cons _).trans (List.perm_append_singleton _ _).symm
    · exact r h3 tk L3 (Nat.le_trans (Nat.le_add_right _ _) t3) old3 S3 perm3
end
/-- the set that is made first, and the walk over the list -/
def madeSet (w : World) (h : Heap) : Heap := h.push { cls := .type "set", dict := none, data := .set #[] 0 (.fresh 0 0 (!w.params.followText "set-order")) }
def madeIt (w : World) (h : Heap) (l : Addr) : Heap := (madeSet w h).push { cls := .type "list_iterator", data := .fields #[.ref l, .int 0 0] }
theorem SN.empty {h : Heap} {D : Addr} (ho : h.get? D = some { cls := .type "set", dict := none, data := .set #[] 0 (.fresh 0 0 (!w.params.followText "set-order")) }) : SN N h D [] := by
  have tab : TabOk (.fresh 0 0 (!w.params.followText "set-order")) [] := by
    refine ⟨List.Pairwise.nil, rfl, rfl, .inl rfl, fun x hx => ?_, fun i h j hi => ?_⟩
    · cases hx
    · simp at hi
  refine ⟨⟨_, _, _, _, ho, ⟨rfl, rfl, rfl⟩, rfl, ⟨rfl, tab, rfl, ?_, .nil, by simp⟩, ?_⟩, fun p hp => by cases hp⟩
  · show _ ∨ (!w.params.followText "set-order") = true
    cases w.params.followText "set-order" <;> simp
  · show 0 * 5 < 7 * 3
    decide
theorem none_new {h : Heap} : h.get? h.objs.size = none := by
  cases e : h.get? h.objs.size with
  | none => rfl
  | some o => exact absurd (Heap.lt_size e) (Nat.lt_irrefl _)
set_option maxHeartbeats 3200000 in
/-- set(a list): what the filling promises -/
theorem call_set_by {l : Addr} {its : Array Value} {Q : Value → Shared → Prop} {F : Heap → Nat → Prop} (hl : s.heap.IsList l its)
    (fill : ∀ {R : Result → Shared → Prop}, (∀ h' tk, F h' tk → R (.ok (.ret .none)) { s with heap := h', toks := tk }) →
      codeAny (model P w) A.in1.in1 (.builtin "set.update.loop" ⟨[.ref s.heap.objs.size, .ref (madeSet w s.heap).objs.size], []⟩) R { s with heap := madeIt w s.heap l })
    (q : ∀ h' tk, F h' tk → Q (.ref s.heap.objs.size) { s with heap := h', toks := tk }) : wpAny (model P w) A (call (.type "set") [.ref l]) Q E s := by
  obtain ⟨c, tl, mro⟩ := PySem.F.called_set.mro
  have made := PySem.F.called_set.made
  have sub := PySem.F.called_set.sub
  have no := PySem.F.called_set.notType
  have can := PySem.F.called_set.canCreate
  have chk := PySem.F.typeCall_set_1 (.ref l)
  refine wpAny_call (codeAny_of_tree (wpAny_pure ⟨Code.quiet_builtin _ (by decide +kernel), codeAny_builtin PySem.F.entry_type_call ?_⟩))
  rw [Around.under_plain (weight_type_call_type "set" [.ref l] []) rfl]
  repeat' (first | assumption | wp_step)
  refine codeAny_mono (code_set_led1 (.ref l) (E := E) (Q₁ := fun v s1 => v = .ref s.heap.objs.size ∧ s1 = { s with heap := madeSet w s.heap }) ⟨rfl, rfl⟩) fun r s1 hr => ?_
  match r, hr with
  | .error e, hr => exact hr
  | .ok (.ret v), ⟨hv, hs⟩ =>
    subst hv hs
    have there : (madeSet w s.heap).get? s.heap.objs.size = some { cls := .type "set", dict := none, data := .set #[] 0 (.fresh 0 0 (!w.params.followText "set-order")) } := Heap.get?_push_size _ rfl
    have ty : Shared.TypeIs { s with heap := madeSet w s.heap } (.ref s.heap.objs.size) "set" := ⟨_, there, rfl⟩
    have look := PySem.F.called_set.init.lookup
    have bind := PySem.F.called_set.init.bind (.ref s.heap.objs.size)
    repeat' (first | assumption | wp_step)
    refine codeAny_mono (codeAny_call_builtin (R := wants (fun r s2 => r = .none ∧ ∃ h' tk, F h' tk ∧ s2 = { s with heap := h', toks := tk }) E) PySem.F.called_set.init.plain PySem.F.entry_set_init (check_set_init_1 ty ?init)) fun r s2 hr => ?out
    case out =>
      match r, hr with
      | .error e, hr => exact hr
      | .ok (.ret v), ⟨hv, h', tk, hF, hs⟩ =>
        subst hv hs
        repeat' (first | assumption | wp_step)
        exact q h' tk hF
    case init =>
      obtain ⟨ol, hol, cl, nl, dl⟩ := hl
      have hol' : (madeSet w s.heap).get? l = some ol := Heap.get?_push_of_some _ hol
      have isl : (madeSet w s.heap).IsList l its := ⟨ol, hol', cl, nl, dl⟩
      have tl : Shared.TypeIs { s with heap := madeSet w s.heap } (.ref l) "list" := ⟨ol, hol', cl⟩
      have s1 := PySem.F.sub_list_set
      have s2 := PySem.F.sub_list_frozenset
      have nd : (Value.type "list" == Value.type "dict") = false := by decide
      unfold Builtin.«set.__init__» noKeywords Builtin.Frozenset.updateFrom
      generalize hP : pyIter = PI
      wp_walk
      subst hP
      refine wpAny_pyIter_list isl (wpAny_bind (wpAny_runValue (fill fun h' tk hF => ?_)))
      refine wpAny_pure ?_
      show wpAny _ _ (ret Value.none) _ _ _
      exact wpAny_pure ⟨rfl, h', tk, hF, rfl⟩
/-- set(a list of keys) -/
theorem call_set_keys {l : Addr} {its : Array Value} {ks : List (κ × Addr)} {Q : Value → Shared → Prop} (hh : A.handled = none) (room : N.room A.in1.in1.in1) (hl : s.heap.IsList l its) (eq : its.toList = ks.map fun p => Value.ref p.2) (few : ks.length < 64) (keys : ∀ p ∈ ks, N.is s.heap p.1 p.2)
    (q : ∀ h' tk L, (∀ b o, s.heap.get? b = some o → h'.get? b = some o) → SN N h' s.heap.objs.size L → (L.map (·.1)).Perm (ddS [] (ks.map (·.1))) → Q (.ref s.heap.objs.size) { s with heap := h', toks := tk }) : wpAny (model P w) A (call (.type "set") [.ref l]) Q E s := by
  have size : (madeSet w s.heap).objs.size = s.heap.objs.size + 1 := Heap.size_push ..
  have there : (madeSet w s.heap).get? s.heap.objs.size = some { cls := .type "set", dict := none, data := .set #[] 0 (.fresh 0 0 (!w.params.followText "set-order")) } := Heap.get?_push_size _ rfl
  refine call_set_by (F := fun h' _ => ∃ L, (∀ b o, s.heap.get? b = some o → h'.get? b = some o) ∧ SN N h' s.heap.objs.size L ∧ (L.map (·.1)).Perm (ddS [] (ks.map (·.1)))) hl (fun {R} r => ?_) fun h' tk ⟨L, a, b, c⟩ => q h' tk L a b c
  refine SN.fill (A := A.in1.in1) (l := l) (h0 := s.heap) (by simpa using hh) room eq few keys none_new ?_ hl (by rw [size]; exact Nat.ne_of_lt (Nat.lt_succ_self _)) its.size 0 { s with heap := madeIt w s.heap l } [] (by omega) (fun b o e => Heap.get?_push_of_some _ (Heap.get?_push_of_some _ e)) ⟨_, Heap.get?_push_size _ rfl, rfl, rfl⟩ (SN.empty (Heap.get?_push_of_some _ there)) (.refl _) fun h' tk L _ old S perm => r h' tk ⟨L, old, S, perm⟩
  rw [size]
  cases e : s.heap.get? (s.heap.objs.size + 1) with
  | none => rfl
  | some o => exact absurd (Heap.lt_size e) (Nat.not_lt.mpr (Nat.le_succ _))
end
end U

/-! nested tuples of numbers and None as keys of a set -/
namespace U
open PySem PySem.Spec PyProof.Rows L2
mutual
/-- no text in it -/
def noText : NestedKey → Bool
  | .text _ => false
  | .tup ks => noTexts ks
  | _ => true
def noTexts : List NestedKey → Bool
  | [] => true
  | k :: r => noText k && noTexts r
end
section
variable {P : Program} {w : World}
def AnsAt (P : Program) (w : World) (m : Sem Bool) (b : Bool) (s : Shared) : Prop := ∀ (A : Around) (E : Value → Shared → Prop) (Q : Bool → Shared → Prop), Q b s → wpAny (model P w) A m Q E s
theorem AnsAt.pure {b : Bool} {s : Shared} {m : Sem Bool} (h : m = Pure.pure b) : AnsAt P w m b s := fun A E Q q => by
  rw [h]
  exact wpAny_pure q
theorem ofA_tuple {n : Nat} {s : Shared} {a : Addr} {o : Obj} {vs : Array Value} {m : Nat} (ho : s.heap.get? a = some o) (hc : o.cls = .type "tuple") (hd : o.data = .seq vs m) (each : ∀ v ∈ vs.toList, AnsAt P w (ofAClassStatement n v) false s) : AnsAt P w (ofAClassStatement (n + 1) (.ref a)) false s := fun A E Q q => by
  have ty : s.TypeIs (.ref a) "tuple" := ⟨o, ho, hc⟩
  unfold ofAClassStatement
  refine wpAny_bind (wpAny_typeOf ty ?_)
  have e : (("tuple" : String) == "tuple") = true := by decide
  simp only [e, if_true]
  refine wpAny_bind (wpAny_pure ?_)
  simp only [Bool.not_true, Bool.false_eq_true, if_false]
  refine wpAny_bind (wpAny_seqItems ho hd ?_)
  refine wpAny_bind ?_
  show wpAny _ _ (forIn vs _ _) _ _ s
  rw [← Array.forIn_toList]
  refine wpAny_forIn_list _ (fun rest r s' => r.1 = none ∧ s' = s ∧ ∀ v ∈ rest, AnsAt P w (ofAClassStatement n v) false s) _ ?step ?done _ _ ⟨rfl, rfl, each⟩
  case step =>
    rintro v rest r s' ⟨e, rfl, all⟩
    refine wpAny_bind (all v (.head _) _ _ _ ?_)
    simp only [Bool.false_eq_true, if_false]
    exact wpAny_pure ⟨rfl, rfl, fun y hy => all y (.tail _ hy)⟩
  case done =>
    rintro ⟨r1, r2⟩ s' ⟨e, rfl, _⟩
    cases e
    exact wpAny_pure q
theorem byv_tuple {n : Nat} {s : Shared} {a : Addr} {o : Obj} {vs : Array Value} {m : Nat} (ho : s.heap.get? a = some o) (hc : o.cls = .type "tuple") (hd : o.data = .seq vs m) (each : ∀ v ∈ vs.toList, AnsAt P w (hashByValue n v) true s) : AnsAt P w (hashByValue (n + 1) (.ref a)) true s := fun A E Q q => by
  have ty : s.TypeIs (.ref a) "tuple" := ⟨o, ho, hc⟩
  unfold hashByValue
  refine wpAny_bind (wpAny_specialOf ty PySem.F.slot_tuple_hash.lookup ?_)
  refine wpAny_bind (wpAny_seqItems ho hd ?_)
  refine wpAny_bind ?_
  show wpAny _ _ (forIn vs _ _) _ _ s
  rw [← Array.forIn_toList]
  refine wpAny_forIn_list _ (fun rest r s' => r.1 = none ∧ s' = s ∧ ∀ v ∈ rest, AnsAt P w (hashByValue n v) true s) _ ?step ?done _ _ ⟨rfl, rfl, each⟩
  case step =>
    rintro v rest r s' ⟨e, rfl, all⟩
    refine wpAny_bind (all v (.head _) _ _ _ ?_)
    simp only [Bool.not_true, Bool.false_eq_true, if_false]
    exact wpAny_pure ⟨rfl, rfl, fun y hy => all y (.tail _ hy)⟩
  case done =>
    rintro ⟨r1, r2⟩ s' ⟨e, rfl, _⟩
    cases e
    exact wpAny_pure q
mutual
theorem ofA_key : ∀ (k : NestedKey) (v : Value) (n : Nat) (s : Shared), NestedIs s.heap k v → k.depth ≤ n → AnsAt P w (ofAClassStatement n v) false s
  | .none, _, n, s, x, _ => by cases x; exact .pure (by cases n <;> rfl)
  | .num i, _, n, s, x, _ => by cases x <;> exact .pure (by cases n <;> rfl)
  | .text y, _, n, s, x, _ => by cases x; exact .pure (by cases n <;> rfl)
  | .tup ks, _, n, s, x, hn => by
    cases x with
    | tup ho hc hd hk =>
      simp only [NestedKey.depth] at hn
      cases n with
      | zero => omega
      | succ n => exact ofA_tuple ho hc hd (ofA_keys ks _ n s hk (by omega))
theorem ofA_keys : ∀ (ks : List NestedKey) (vs : List Value) (n : Nat) (s : Shared), NestedAll s.heap ks vs → NestedKey.depthAll ks ≤ n → ∀ v ∈ vs, AnsAt P w (ofAClassStatement n v) false s
  | [], _, n, s, x, _, v, hv => by cases x; cases hv
  | k :: ks, _, n, s, x, hn, v, hv => by
    cases x with
    | cons x1 x2 =>
      simp only [NestedKey.depthAll] at hn
      rcases List.mem_cons.mp hv with rfl | hv
      · exact ofA_key k _ n s x1 (by omega)
      · exact ofA_keys ks _ n s x2 (by omega) v hv
end
mutual
theorem byv_key : ∀ (k : NestedKey) (v : Value) (n : Nat) (s : Shared), NestedIs s.heap k v → k.depth ≤ n → noText k = true → AnsAt P w (hashByValue n v) true s
  | .none, _, n, s, x, _, _ => by cases x; exact .pure (by cases n <;> rfl)
  | .num i, _, n, s, x, _, _ => by cases x <;> exact .pure (by cases n <;> rfl)
  | .text y, _, n, s, x, _, h => by simp [noText] at h
  | .tup ks, _, n, s, x, hn, h => by
    cases x with
    | tup ho hc hd hk =>
      simp only [NestedKey.depth] at hn
      cases n with
      | zero => omega
      | succ n => exact byv_tuple ho hc hd (byv_keys ks _ n s hk (by omega) (by simpa [noText] using h))
theorem byv_keys : ∀ (ks : List NestedKey) (vs : List Value) (n : Nat) (s : Shared), NestedAll s.heap ks vs → NestedKey.depthAll ks ≤ n → noTexts ks = true → ∀ v ∈ vs, AnsAt P w (hashByValue n v) true s
  | [], _, n, s, x, _, _, v, hv => by cases x; cases hv
  | k :: ks, _, n, s, x, hn, h, v, hv => by
    cases x with
    | cons x1 x2 =>
      simp only [NestedKey.depthAll] at hn
      simp only [noTexts, Bool.and_eq_true] at h
      rcases List.mem_cons.mp hv with rfl | hv
      · exact byv_key k _ n s x1 (by omega) h.1
      · exact byv_keys ks _ n s x2 (by omega) h.2 v hv
end
/-- nested tuples of numbers and None -/
def numKeys (P : Program) (w : World) : SetKind P w NestedKey where
  is := fun h k a => NestedIs h k (.ref a) ∧ k.depth ≤ 8 ∧ noText k = true
  hash := fun k => k.hash w
  draws := fun k => k.draws
  room := fun A => A.units + 8 < cLine
  keeps := fun x hk => ⟨NestedIs.at hk _ _ x.1, x.2⟩
  pyHash := fun hu hk h => pyHash_key _ _ _ _ _ hk.1 (by omega) h
  eqBool := fun {A E s x y a b Q} hu hx hy h => (nestedKind P w).eqBool hu ⟨hx.1, hx.2.1⟩ ⟨hy.1, hy.2.1⟩ h
  quiet := fun {A E s k a Q} hk h => (nestedKind P w).quiet ⟨hk.1, hk.2.1⟩ h
  ofA := fun {A E s k a Q} hk h => ofA_key k _ 8 s hk.1 hk.2.1 A E Q h
  byv := fun {A E s k a Q} hk h => byv_key k _ 8 s hk.1 hk.2.1 hk.2.2 A E Q h
end
end U

/-! set(a list of nested tuples) and its length -/
namespace U
open PySem PySem.Spec PyProof.Rows L2
/-- data that is such a key -/
structure NumKey (d : PyData) : Prop where
  kd : kd d = true
  dep : d.depth ≤ 8
  no : noText (nk d) = true
  tup : ∃ ds, d = .tuple ds
theorem keys_of {P : Program} {w : World} {h : Heap} : ∀ {us : List Value} {ds : List PyData} {as : List Addr}, ReadsAll h us ds as → (∀ d ∈ ds, NumKey d) → ∃ ks : List (NestedKey × Addr), us = ks.map (fun p => Value.ref p.2) ∧ ks.map (·.1) = ds.map nk ∧ ∀ p ∈ ks, (numKeys P w).is h p.1 p.2
  | _, _, _, .nil, _ => ⟨[], rfl, rfl, fun p hp => by cases hp⟩
  | _, _, _, .cons (d := d) a b, g => by
    obtain ⟨ks, e1, e2, e3⟩ := keys_of (P := P) (w := w) b fun d hd => g d (.tail _ hd)
    have gd := g d (.head _)
    have ni := nested_of a gd.kd
    obtain ⟨ds, rfl⟩ := gd.tup
    cases a with
    | tuple x1 x2 x3 x4 =>
      refine ⟨(_, _) :: ks, by rw [e1]; rfl, by rw [List.map_cons, e2]; rfl, fun p hp => ?_⟩
      rcases List.mem_cons.mp hp with rfl | hp
      · exact ⟨ni, Nat.le_trans (nk_depth _ gd.kd) gd.dep, gd.no⟩
      · exact e3 p hp
def rSetK (K : PySem.W.Frag) : List V → Hp → VK → Prop := fun xs H Q => ∃ (l : Addr) (ds : List PyData), xs = [.ref l] ∧ Dp K H (.ref l) (.list ds) ∧ (∀ d ∈ ds, NumKey d) ∧ ds.length < 64 ∧ ∀ p, H p = none → Q (.ref p) (upd H p (SetLenO p (ddS [] (ds.map nk)).length))
section
variable {X : Cx}
theorem call_setK (hc : X.calm = true) (hu : X.A.units + 65 < cLine) : CallR X (.type "set") (rSetK X.K) := by
  intro pins s σ H xs us Q I r h
  obtain ⟨l, ds, rfl, hp, g, few, q⟩ := h
  obtain ⟨u, rfl, ru⟩ : ∃ u, us = [u] ∧ RelV (.ref l) u := by
    cases r with
    | cons a b => cases b; exact ⟨_, rfl, a⟩
  cases ru
  obtain ⟨as, rd⟩ := Dp.reads I (.list ds) (.ref l) (.ref l) hp rfl
  cases rd with
  | list ho hcl hd all =>
    obtain ⟨ks, e1, e2, e3⟩ := keys_of (P := X.prog) (w := X.w) all g
    have kl : ks.length = ds.length := by
      have := congrArg List.length e2
      rwa [List.length_map, List.length_map] at this
    refine call_set_keys (N := numKeys X.prog X.w) (I.ok.hd hc) (show X.A.units + 1 + 1 + 1 + 8 < cLine by omega) ⟨_, ho, hcl, _, hd⟩ e1 (by omega) e3 fun h' tk L old S perm => ?_
    have len : L.length = (ddS [] (ds.map nk)).length := by
      rw [← e2, ← perm.length_eq, List.length_map]
    have hf : H s.heap.objs.size = none := I.hok.fresh (Nat.le_refl _)
    refine ⟨.ref _, upd H s.heap.objs.size (SetLenO s.heap.objs.size (ddS [] (ds.map nk)).length), I.laid (t' := tk) old (Nat.le_refl _) ?_, rfl, q _ hf⟩
    obtain ⟨⟨o, es, ep, t, ho', ex, hd', T, wide⟩, _⟩ := S
    have wide : L.length * 5 < t.mask * 3 := wide
    have fit := T.fits (by omega)
    rw [T.size] at fit
    have few' := T.few
    refine ⟨⟨o, es, ep, t, ho', ex, hd', by rw [T.size, len], by rw [← len]; exact fit, by omega⟩, ⟨o, ho'⟩, fun h1 h2 p k => ?_⟩
    obtain ⟨o, es, ep, t, ho, r⟩ := p
    exact ⟨o, es, ep, t, k o ho, r⟩
end
end U

/-! set(a list of texts) -/
namespace U
open PySem PySem.Spec PyProof.Rows L2
section
variable {X : Cx}
theorem strs_each : ∀ {ns : List Str} {us : List Value}, Vals (ns.map V.str) us → ∀ (i : Nat) (v : Value), us[i]? = some v → ∃ z t, ns[i]? = some z ∧ v = .str z t
  | [], _, .nil, i, v, h => by simp at h
  | n :: r, _, .cons a b, 0, v, h => by
    simp at h
    subst h
    obtain ⟨t, e⟩ := a
    exact ⟨n, t, rfl, e⟩
  | n :: r, _, .cons a b, i + 1, v, h => by
    obtain ⟨z, t, h1, h2⟩ := strs_each b i v (by simpa using h)
    exact ⟨z, t, by simpa using h1, h2⟩
def rSetS (P : Program) (w : World) (K : PySem.W.Frag) : List V → Hp → VK → Prop := fun xs H Q => ∃ (l : Addr) (ns : List Str), xs = [.ref l] ∧ SqL K H l (ns.map V.str) ∧ ns.length ≤ 3000 ∧ ∀ p, H p = none → Q (.ref p) (upd H p (SetSO P w p (ddS [] ns)))
theorem call_setS (hc : X.calm = true) : CallR X (.type "set") (rSetS X.prog X.w X.K) := by
  intro pins s σ H xs us Q I r h
  obtain ⟨l, ns, rfl, hq, few, q⟩ := h
  obtain ⟨u, rfl, ru⟩ : ∃ u, us = [u] ∧ RelV (.ref l) u := by
    cases r with
    | cons a b => cases b; exact ⟨_, rfl, a⟩
  cases ru
  obtain ⟨its, rv, pl, hz⟩ := I.list hq
  have hl : its.toArray.size = ns.length := by rw [List.size_toArray, ← rv.length, List.length_map]
  refine call_set_of (knd := strKind X.prog X.w) (xs := ns) (I.ok.hd hc) pl.isList (by rw [hl]; unfold scanBound; omega) (fun i v hv => ?_) fun h' tk hS hk => ?_
  · obtain ⟨z, t, h1, rfl⟩ := strs_each rv i v (by simpa using hv)
    exact ⟨z, h1, strKind_is _ _ _ _, rfl⟩
  · rw [hl, List.take_length] at hS
    exact ⟨.ref _, upd H s.heap.objs.size (SetSO X.prog X.w s.heap.objs.size (ddS [] ns)), I.laid (t' := tk) (fun b u e => hk b u (Heap.lt_size e) e) (Nat.le_refl _) (setS_new hS), rfl, q _ (I.hok.fresh (Nat.le_refl _))⟩
def rSetX (C : Cz) : List V → Hp → VK → Prop := fun xs H Q => rSetS C.P C.w C.K xs H Q ∨ rSetK C.K xs H Q
theorem call_setX {C : Cz} (hP : X.prog = C.P) (hw : X.w = C.w) (hK : X.K = C.K) (hc : X.calm = true) (hu : X.A.units + 65 < cLine) : CallR X (.type "set") (rSetX C) := by
  unfold rSetX
  rw [← hP, ← hw, ← hK]
  exact (call_setS hc).or (call_setK hc hu)
end
section
variable {C : Cz} {S R : DS} {Q : DV → DS → Prop} {a : Addr}
theorem d_setS {ns : List Str} (pa : Pick S a (LD (ns.map PyData.str)) R) (few : ns.length ≤ 3000) (q : ∀ p, Q (.v (.ref p)) ((p, SETS (ddS [] ns)) :: S)) : DRs C (rSetX C) [.v (.ref a)] S Q := fun Z H so vs rs QV k => by
  obtain ⟨v, rfl, rv⟩ := rs.one
  cases rv
  obtain ⟨us, e, r⟩ := so.lst pa
  rw [strs_vals r] at e
  refine .inl ⟨a, ns, rfl, SqL.of e, few, fun p hp => ?_⟩
  have st := Stp.new (O := SETS (ddS [] ns)) (o := SetSO C.P C.w p (ddS [] ns)) so hp rfl fun F' f => upd_same
  exact k _ _ (.v (.ref p)) _ st rfl (q p)
/-- .. of nested tuples of numbers and None -/
theorem d_setK {ds : List PyData} (pa : Pick S a (LD ds) R) (lay : (PyData.list ds).canLay0 = true) (g : ∀ d ∈ ds, NumKey d) (few : ds.length < 64) (q : ∀ p, Q (.v (.ref p)) ((p, SETN (ddS [] (ds.map nk)).length) :: S)) : DRs C (rSetX C) [.v (.ref a)] S Q := fun Z H so vs rs QV k => by
  obtain ⟨v, rfl, rv⟩ := rs.one
  cases rv
  refine .inr ⟨a, ds, rfl, so.dpL pa lay, g, few, fun p hp => ?_⟩
  have st := Stp.new (O := SETN (ddS [] (ds.map nk)).length) (o := SetLenO p (ddS [] (ds.map nk)).length) so hp rfl fun F' f => upd_same
  exact k _ _ (.v (.ref p)) _ st rfl (q p)
end
end U

/-! how many unlike things a list has -/
namespace U
open PySem PySem.Spec PyProof.Rows L2
def numKeyB (d : PyData) : Bool := kd d && decide (d.depth ≤ 8) && noText (nk d) && isTup d
theorem numKey_of {d : PyData} (h : numKeyB d = true) : NumKey d := by
  simp only [numKeyB, Bool.and_eq_true, decide_eq_true_eq] at h
  refine ⟨h.1.1.1, h.1.1.2, h.1.2, ?_⟩
  cases d with
  | tuple ds => exact ⟨ds, rfl⟩
  | _ => exact absurd h.2 (by simp [isTup])
def setLenP (ds : List PyData) : Option Nat :=
  if (isStrsB ds && decide (ds.length ≤ 3000)) = true then some (ddS [] (strsOf ds)).length
  else if (ds.all numKeyB && (PyData.list ds).canLay0 && decide (ds.length < 64)) = true then some (ddS [] (ds.map nk)).length else none
def LenO (O : DO) (n : Nat) : Prop := (∃ ns : List Str, O = SETS ns ∧ ns.length = n) ∨ O = SETN n
section
variable {C : Cz} {S R : DS} {Q : DV → DS → Prop} {a : Addr}
theorem d_setLP {ds : List PyData} {n : Nat} (pa : Pick S a (LD ds) R) (h : setLenP ds = some n) (q : ∀ p O, LenO O n → Q (.v (.ref p)) ((p, O) :: S)) : DRs C (rSetX C) [.v (.ref a)] S Q := by
  unfold setLenP at h
  split at h
  · rename_i c
    have c := Bool.and_eq_true_iff.mp c
    cases h
    rw [strs_of c.1] at pa
    have l := of_decide_eq_true c.2
    have e := congrArg List.length (strs_of c.1)
    rw [List.length_map] at e
    exact d_setS pa (by omega) fun p => q p _ (.inl ⟨_, rfl, rfl⟩)
  · split at h
    · rename_i c
      simp only [Bool.and_eq_true, decide_eq_true_eq] at c
      cases h
      exact d_setK pa c.1.2 (fun d hd => numKey_of (List.all_eq_true.mp c.1.1 d hd)) c.2 fun p => q p _ (.inr rfl)
    · cases h
theorem d_lenSP {O : DO} {n : Nat} (pa : Pick S a O R) (h : LenO O n) (q : Q (.d (.int n)) S) : DRs C (rLenX C) [.v (.ref a)] S Q := by
  rcases h with ⟨ns, rfl, rfl⟩ | rfl
  · exact d_lenSet pa q
  · exact d_lenSetN pa q
end
end U

set_option maxHeartbeats 4000000


namespace LW
open PySem PySem.Spec PyProof.Rows L2 U
def topS (i : Nat) : Stmt := PySem.Challenge.pw_viewwood_k37_trees_by_kind.main.body.getD i (.Pass ⟨0, 0, 0, 0⟩)
abbrev s_is_whole : Stmt := topS 3
abbrev N_is_whole : List Str := ["thing"]
abbrev p_is_whole : List Str := ["thing"]
theorem sc_is_whole : FnScope N_is_whole p_is_whole (defScope s_is_whole) := ⟨rfl, rfl, rfl, by decide +kernel, rfl, by decide +kernel, by decide +kernel⟩
abbrev s_is_number : Stmt := topS 4
abbrev N_is_number : List Str := ["thing"]
abbrev p_is_number : List Str := ["thing"]
theorem sc_is_number : FnScope N_is_number p_is_number (defScope s_is_number) := ⟨rfl, rfl, rfl, by decide +kernel, rfl, by decide +kernel, by decide +kernel⟩
abbrev s_is_name : Stmt := topS 5
abbrev N_is_name : List Str := ["thing", "sign"]
abbrev p_is_name : List Str := ["thing"]
theorem sc_is_name : FnScope N_is_name p_is_name (defScope s_is_name) := ⟨rfl, rfl, rfl, by decide +kernel, rfl, by decide +kernel, by decide +kernel⟩
abbrev s_is_count : Stmt := topS 8
abbrev N_is_count : List Str := ["thing"]
abbrev p_is_count : List Str := ["thing"]
theorem sc_is_count : FnScope N_is_count p_is_count (defScope s_is_count) := ⟨rfl, rfl, rfl, by decide +kernel, rfl, by decide +kernel, by decide +kernel⟩
abbrev s_is_spot : Stmt := topS 9
abbrev N_is_spot : List Str := ["thing"]
abbrev p_is_spot : List Str := ["thing"]
theorem sc_is_spot : FnScope N_is_spot p_is_spot (defScope s_is_spot) := ⟨rfl, rfl, rfl, by decide +kernel, rfl, by decide +kernel, by decide +kernel⟩
abbrev s_is_path : Stmt := topS 10
abbrev N_is_path : List Str := ["thing", "one"]
abbrev p_is_path : List Str := ["thing"]
theorem sc_is_path : FnScope N_is_path p_is_path (defScope s_is_path) := ⟨rfl, rfl, rfl, by decide +kernel, rfl, by decide +kernel, by decide +kernel⟩
abbrev s_is_label : Stmt := topS 11
abbrev N_is_label : List Str := ["thing"]
abbrev p_is_label : List Str := ["thing"]
theorem sc_is_label : FnScope N_is_label p_is_label (defScope s_is_label) := ⟨rfl, rfl, rfl, by decide +kernel, rfl, by decide +kernel, by decide +kernel⟩
abbrev s_is_setting : Stmt := topS 12
abbrev N_is_setting : List Str := ["thing"]
abbrev p_is_setting : List Str := ["thing"]
theorem sc_is_setting : FnScope N_is_setting p_is_setting (defScope s_is_setting) := ⟨rfl, rfl, rfl, by decide +kernel, rfl, by decide +kernel, by decide +kernel⟩
abbrev s_is_sets : Stmt := topS 13
abbrev N_is_sets : List Str := ["thing", "one", "k"]
abbrev p_is_sets : List Str := ["thing"]
theorem sc_is_sets : FnScope N_is_sets p_is_sets (defScope s_is_sets) := ⟨rfl, rfl, rfl, by decide +kernel, rfl, by decide +kernel, by decide +kernel⟩
abbrev s_is_hand_change : Stmt := topS 14
abbrev N_is_hand_change : List Str := ["thing"]
abbrev p_is_hand_change : List Str := ["thing"]
theorem sc_is_hand_change : FnScope N_is_hand_change p_is_hand_change (defScope s_is_hand_change) := ⟨rfl, rfl, rfl, by decide +kernel, rfl, by decide +kernel, by decide +kernel⟩
abbrev s_is_hand : Stmt := topS 15
abbrev N_is_hand : List Str := ["thing", "event", "rank", "last", "path", "changes", "one"]
abbrev p_is_hand : List Str := ["thing"]
theorem sc_is_hand : FnScope N_is_hand p_is_hand (defScope s_is_hand) := ⟨rfl, rfl, rfl, by decide +kernel, rfl, by decide +kernel, by decide +kernel⟩
abbrev s_is_hands : Stmt := topS 16
abbrev N_is_hands : List Str := ["thing", "one", "hand"]
abbrev p_is_hands : List Str := ["thing"]
theorem sc_is_hands : FnScope N_is_hands p_is_hands (defScope s_is_hands) := ⟨rfl, rfl, rfl, by decide +kernel, rfl, by decide +kernel, by decide +kernel⟩
abbrev s_is_box : Stmt := topS 17
abbrev N_is_box : List Str := ["thing"]
abbrev p_is_box : List Str := ["thing"]
theorem sc_is_box : FnScope N_is_box p_is_box (defScope s_is_box) := ⟨rfl, rfl, rfl, by decide +kernel, rfl, by decide +kernel, by decide +kernel⟩
abbrev s_is_labelled : Stmt := topS 18
abbrev N_is_labelled : List Str := ["thing"]
abbrev p_is_labelled : List Str := ["thing"]
theorem sc_is_labelled : FnScope N_is_labelled p_is_labelled (defScope s_is_labelled) := ⟨rfl, rfl, rfl, by decide +kernel, rfl, by decide +kernel, by decide +kernel⟩
abbrev s_is_tree : Stmt := topS 19
abbrev N_is_tree : List Str := ["thing", "one"]
abbrev p_is_tree : List Str := ["thing"]
theorem sc_is_tree : FnScope N_is_tree p_is_tree (defScope s_is_tree) := ⟨rfl, rfl, rfl, by decide +kernel, rfl, by decide +kernel, by decide +kernel⟩
abbrev s_law_tape : Stmt := topS 21
abbrev N_law_tape : List Str := ["_law_script"]
abbrev p_law_tape : List Str := ["_law_script"]
theorem sc_law_tape : FnScope N_law_tape p_law_tape (defScope s_law_tape) := ⟨rfl, rfl, rfl, by decide +kernel, rfl, by decide +kernel, by decide +kernel⟩
abbrev s_law_draw : Stmt := topS 22
abbrev N_law_draw : List Str := ["_law_tape_here", "_law_many", "_law_script", "_law_digit", "_law_cell", "_law_mixed"]
abbrev p_law_draw : List Str := ["_law_tape_here", "_law_many"]
theorem sc_law_draw : FnScope N_law_draw p_law_draw (defScope s_law_draw) := ⟨rfl, rfl, rfl, by decide +kernel, rfl, by decide +kernel, by decide +kernel⟩
abbrev s_law_number : Stmt := topS 23
abbrev N_law_number : List Str := ["_law_tape_here"]
abbrev p_law_number : List Str := ["_law_tape_here"]
theorem sc_law_number : FnScope N_law_number p_law_number (defScope s_law_number) := ⟨rfl, rfl, rfl, by decide +kernel, rfl, by decide +kernel, by decide +kernel⟩
abbrev s_law_names : Stmt := topS 24
abbrev N_law_names : List Str := ["_law_tape_here", "_law_many", "_law_pool", "_law_start", "_law_stride", "_law_k"]
abbrev p_law_names : List Str := ["_law_tape_here", "_law_many"]
theorem sc_law_names : FnScope N_law_names p_law_names (defScope s_law_names) := ⟨rfl, rfl, rfl, by decide +kernel, rfl, by decide +kernel, by decide +kernel⟩
abbrev s_law_spot : Stmt := topS 25
abbrev N_law_spot : List Str := ["_law_tape_here", "_law_key"]
abbrev p_law_spot : List Str := ["_law_tape_here"]
theorem sc_law_spot : FnScope N_law_spot p_law_spot (defScope s_law_spot) := ⟨rfl, rfl, rfl, by decide +kernel, rfl, by decide +kernel, by decide +kernel⟩
abbrev s_law_label : Stmt := topS 26
abbrev N_law_label : List Str := ["_law_tape_here", "_law_k"]
abbrev p_law_label : List Str := ["_law_tape_here"]
theorem sc_law_label : FnScope N_law_label p_law_label (defScope s_law_label) := ⟨rfl, rfl, rfl, by decide +kernel, rfl, by decide +kernel, by decide +kernel⟩
abbrev s_law_sets : Stmt := topS 27
abbrev N_law_sets : List Str := ["_law_tape_here", "_law_names_here", "_law_name"]
abbrev p_law_sets : List Str := ["_law_tape_here"]
theorem sc_law_sets : FnScope N_law_sets p_law_sets (defScope s_law_sets) := ⟨rfl, rfl, rfl, by decide +kernel, rfl, by decide +kernel, by decide +kernel⟩
abbrev s_law_hands : Stmt := topS 28
abbrev N_law_hands : List Str := ["_law_tape_here", "_law_hands_here", "_law_event", "_law_path", "_law_changes", "_law_name", "_law_k"]
abbrev p_law_hands : List Str := ["_law_tape_here"]
theorem sc_law_hands : FnScope N_law_hands p_law_hands (defScope s_law_hands) := ⟨rfl, rfl, rfl, by decide +kernel, rfl, by decide +kernel, by decide +kernel⟩
abbrev s_law_box : Stmt := topS 29
abbrev N_law_box : List Str := ["_law_tape_here", "_law_deep", "_law_tag", "_law_sets_here", "_law_hands_here", "_law_row_here"]
abbrev p_law_box : List Str := ["_law_tape_here", "_law_deep"]
theorem sc_law_box : FnScope N_law_box p_law_box (defScope s_law_box) := ⟨rfl, rfl, rfl, by decide +kernel, rfl, by decide +kernel, by decide +kernel⟩
abbrev s_law_row : Stmt := topS 30
abbrev N_law_row : List Str := ["_law_tape_here", "_law_deep", "_law_many", "_law_row_here", "_law_k", "_law_label_here", "_law_one"]
abbrev p_law_row : List Str := ["_law_tape_here", "_law_deep"]
theorem sc_law_row : FnScope N_law_row p_law_row (defScope s_law_row) := ⟨rfl, rfl, rfl, by decide +kernel, rfl, by decide +kernel, by decide +kernel⟩
abbrev s_law_is : Stmt := topS 31
abbrev N_law_is : List Str := ["_law_thing", "_law_kind", "_law_one", "_law_k"]
abbrev p_law_is : List Str := ["_law_thing", "_law_kind"]
theorem sc_law_is : FnScope N_law_is p_law_is (defScope s_law_is) := ⟨rfl, rfl, rfl, by decide +kernel, rfl, by decide +kernel, by decide +kernel⟩
abbrev s_law_is_small : Stmt := topS 32
abbrev N_law_is_small : List Str := ["_law_thing", "_law_kind", "_law_letters", "_law_least", "_law_most", "_law_sign"]
abbrev p_law_is_small : List Str := ["_law_thing", "_law_kind"]
theorem sc_law_is_small : FnScope N_law_is_small p_law_is_small (defScope s_law_is_small) := ⟨rfl, rfl, rfl, by decide +kernel, rfl, by decide +kernel, by decide +kernel⟩
abbrev s_law_is_great : Stmt := topS 33
abbrev N_law_is_great : List Str := ["_law_thing", "_law_kind", "_law_spot_here", "_law_k", "_law_one"]
abbrev p_law_is_great : List Str := ["_law_thing", "_law_kind"]
theorem sc_law_is_great : FnScope N_law_is_great p_law_is_great (defScope s_law_is_great) := ⟨rfl, rfl, rfl, by decide +kernel, rfl, by decide +kernel, by decide +kernel⟩
abbrev s_law_is_deed : Stmt := topS 34
abbrev N_law_is_deed : List Str := ["_law_thing", "_law_kinds"]
abbrev p_law_is_deed : List Str := ["_law_thing"]
theorem sc_law_is_deed : FnScope N_law_is_deed p_law_is_deed (defScope s_law_is_deed) := ⟨rfl, rfl, rfl, by decide +kernel, rfl, by decide +kernel, by decide +kernel⟩
abbrev s_law_bent : Stmt := topS 35
abbrev N_law_bent : List Str := ["_law_tape_here", "_law_thing", "_law_k", "_law_some"]
abbrev p_law_bent : List Str := ["_law_tape_here", "_law_thing"]
theorem sc_law_bent : FnScope N_law_bent p_law_bent (defScope s_law_bent) := ⟨rfl, rfl, rfl, by decide +kernel, rfl, by decide +kernel, by decide +kernel⟩
abbrev s_law_asked : Stmt := topS 36
abbrev N_law_asked : List Str := ["_law_thing", "_law_due", "_law_found"]
abbrev p_law_asked : List Str := ["_law_thing", "_law_due"]
theorem sc_law_asked : FnScope N_law_asked p_law_asked (defScope s_law_asked) := ⟨rfl, rfl, rfl, by decide +kernel, rfl, by decide +kernel, by decide +kernel⟩
abbrev s_law : Stmt := topS 37
abbrev N_law : List Str := ["_law_script", "_law_tape_here", "_law_tree", "_law_k", "_law_bent_here", "_law_j", "_law_odd"]
abbrev p_law : List Str := ["_law_script"]
theorem sc_law : FnScope N_law p_law (defScope s_law) := ⟨rfl, rfl, rfl, by decide +kernel, rfl, by decide +kernel, by decide +kernel⟩
/-- what the top has left -/
structure Env (K : PySem.W.Frag) (mg : Str → Option Value) : Prop where
  l_is_whole : Loc K mg "is_whole" p_is_whole s_is_whole
  l_is_number : Loc K mg "is_number" p_is_number s_is_number
  l_is_name : Loc K mg "is_name" p_is_name s_is_name
  l_is_count : Loc K mg "is_count" p_is_count s_is_count
  l_is_spot : Loc K mg "is_spot" p_is_spot s_is_spot
  l_is_path : Loc K mg "is_path" p_is_path s_is_path
  l_is_label : Loc K mg "is_label" p_is_label s_is_label
  l_is_setting : Loc K mg "is_setting" p_is_setting s_is_setting
  l_is_sets : Loc K mg "is_sets" p_is_sets s_is_sets
  l_is_hand_change : Loc K mg "is_hand_change" p_is_hand_change s_is_hand_change
  l_is_hand : Loc K mg "is_hand" p_is_hand s_is_hand
  l_is_hands : Loc K mg "is_hands" p_is_hands s_is_hands
  l_is_box : Loc K mg "is_box" p_is_box s_is_box
  l_is_labelled : Loc K mg "is_labelled" p_is_labelled s_is_labelled
  l_is_tree : Loc K mg "is_tree" p_is_tree s_is_tree
  l_law_tape : Loc K mg "_law_tape" p_law_tape s_law_tape
  l_law_draw : Loc K mg "_law_draw" p_law_draw s_law_draw
  l_law_number : Loc K mg "_law_number" p_law_number s_law_number
  l_law_names : Loc K mg "_law_names" p_law_names s_law_names
  l_law_spot : Loc K mg "_law_spot" p_law_spot s_law_spot
  l_law_label : Loc K mg "_law_label" p_law_label s_law_label
  l_law_sets : Loc K mg "_law_sets" p_law_sets s_law_sets
  l_law_hands : Loc K mg "_law_hands" p_law_hands s_law_hands
  l_law_box : Loc K mg "_law_box" p_law_box s_law_box
  l_law_row : Loc K mg "_law_row" p_law_row s_law_row
  l_law_is : Loc K mg "_law_is" p_law_is s_law_is
  l_law_is_small : Loc K mg "_law_is_small" p_law_is_small s_law_is_small
  l_law_is_great : Loc K mg "_law_is_great" p_law_is_great s_law_is_great
  l_law_is_deed : Loc K mg "_law_is_deed" p_law_is_deed s_law_is_deed
  l_law_bent : Loc K mg "_law_bent" p_law_bent s_law_bent
  l_law_asked : Loc K mg "_law_asked" p_law_asked s_law_asked
  l_law : Loc K mg "law" p_law s_law
  m_abs : mg "abs" = none
  m_all : mg "all" = none
  m_bool : mg "bool" = none
  m_int : mg "int" = none
  m_isinstance : mg "isinstance" = none
  m_len : mg "len" = none
  m_list : mg "list" = none
  m_range : mg "range" = none
  m_set : mg "set" = none
  m_sorted : mg "sorted" = none
  m_str : mg "str" = none
  m_tuple : mg "tuple" = none
  g_GREATEST : ∃ t, mg "GREATEST" = some (.int 1000000000 t)
  g_LETTERS : ∃ t, mg "LETTERS" = some (.str "abcdefghijklmnopqrstuvwxyz" t)
  g_WORDS : ∃ a, mg "WORDS" = some (.ref a) ∧ KTup K a [.str "set", .str "add", .str "times"]
theorem Env.pe_GREATEST {X : Cx} {pos : Pos} (T : Env X.K X.mg) (hg : Gl X "GREATEST" := by rfl) : PE X (.Name "GREATEST" pos) (tC (.int 1000000000)) := by
  obtain ⟨t, e⟩ := T.g_GREATEST
  exact pe_glob hg e ⟨_, rfl⟩ (by decide +kernel)
theorem Env.pe_LETTERS {X : Cx} {pos : Pos} (T : Env X.K X.mg) (hg : Gl X "LETTERS" := by rfl) : PE X (.Name "LETTERS" pos) (tC (.str "abcdefghijklmnopqrstuvwxyz")) := by
  obtain ⟨t, e⟩ := T.g_LETTERS
  exact pe_glob hg e ⟨_, rfl⟩ (by decide +kernel)
theorem Env.pe_WORDS {X : Cx} {pos : Pos} {K : PySem.W.Frag} (hK : X.K = K) (T : Env K X.mg) (hg : Gl X "WORDS" := by rfl) : PE X (.Name "WORDS" pos) (tKT K [.str "set", .str "add", .str "times"]) := by
  subst hK
  obtain ⟨a, e, k⟩ := T.g_WORDS
  exact pe_ktup (pe_glob hg e rfl (by decide +kernel)) k
local macro_rules | `(tactic| walk_at "s") => `(tactic| first
  | ((with_reducible refine' w_var ?h ?q); (case h => exact rfl))
  | (with_reducible refine' w_c ?_)
  | (with_reducible refine' w_name ?_)
  | (with_reducible refine' w_op ?_)
  | (with_reducible refine' w_nil ?_)
  | (with_reducible refine' w_cons ?_)
  | (with_reducible refine' w_seq ?_)
  | (with_reducible refine' w_asg ?_)
  | (with_reducible refine' w_ret ?_)
  | (with_reducible refine' w_ifS ?_)
  | (with_reducible refine' w_call ?_)
  | (with_reducible refine' w_cb ?_)
  | (with_reducible refine' w_test ?_)
  | (with_reducible refine' w_B ?_)
  | (with_reducible refine' w_addI ?_)
  | (with_reducible refine' w_rI0 ?_)
  | (with_reducible refine' w_eqI ?_)
  | (with_reducible refine' w_eqS ?_)
  | (with_reducible refine' w_eqB ?_)
  | (with_reducible refine' w_neI ?_)
  | (with_reducible refine' w_neS ?_)
  | (with_reducible refine' w_neB ?_)
  | (with_reducible refine' w_bl ?_)
  | (with_reducible refine' w_and ?_)
  | (with_reducible refine' w_or ?_)
  | (with_reducible refine' w_not ?_)
  | (with_reducible refine' w_andV ?_)
  | (with_reducible refine' w_orV ?_)
  | (with_reducible refine' w_notV ?_)
  | (with_reducible refine' w_if ?_)
  | (with_reducible refine' w_isN ?_)
  | (with_reducible refine' w_notN ?_)
  | (with_reducible refine' w_tup ?_)
  | (with_reducible refine' w_lst ?_)
  | (with_reducible refine' w_un ?_)
  | (with_reducible refine' w_rU ?_)
  | (with_reducible refine' w_chain ?_)
  | (with_reducible refine' w_retN ?_)
  | (with_reducible refine' w_drop ?_)
  | (with_reducible refine' w_next ?_)
  | (with_reducible refine' w_sub' ?_)
  | (with_reducible refine' w_for ?_)
  | (with_reducible refine' w_sl ?_)
  | (with_reducible refine' w_part ?_)
  | (with_reducible refine' w_partI ?_)
  | (with_reducible refine' w_nopart ?_)
  | (with_reducible refine' w_bm ?_)
  | (with_reducible refine' w_bm0 ?_)
  | (with_reducible refine' w_lc ?_)
  | ((with_reducible refine' w_wipe ?h ?q); (case h => exact rfl))
  | (with_reducible refine' w_yes ?_)
  | (with_reducible refine' w_N ?_)
  | (with_reducible refine' w_gcons ?_)
  | (with_reducible refine' w_gnil ?_)
  | (with_reducible refine' w_isB ?_)
  | (with_reducible refine' w_nisB ?_)
  | (with_reducible refine' w_iRev ?_)
  | (with_reducible refine' w_iEnum ?_)
  | (with_reducible refine' w_iR1 ?_)
  | (with_reducible refine' w_max ?_)
  | (with_reducible refine' w_min ?_)
  | (with_reducible refine' w_abs ?_)
  | (with_reducible refine' w_intI ?_)
  | (with_reducible refine' w_intB ?_)
  | (with_reducible refine' w_pow9 ?_)
  | (with_reducible refine' w_pow18 ?_)
  | (with_reducible refine' w_pow6 ?_)
  | (with_reducible refine' w_pow59 ?_)
  | (with_reducible refine' w_iR2 ?_)
  | (with_reducible refine' w_iL ?_)
  | (with_reducible refine' w_iT ?_)
  | (with_reducible refine' is_non_int ?_)
  | (with_reducible refine' is_non_bool ?_)
  | (with_reducible refine' is_non_str ?_)
  | (with_reducible refine' is_non_tuple ?_)
  | (with_reducible refine' is_non_list ?_)
  | (with_reducible refine' is_non_dict ?_)
  | (with_reducible refine' is_bl_int ?_)
  | (with_reducible refine' is_bl_bool ?_)
  | (with_reducible refine' is_bl_str ?_)
  | (with_reducible refine' is_bl_tuple ?_)
  | (with_reducible refine' is_bl_list ?_)
  | (with_reducible refine' is_bl_dict ?_)
  | (with_reducible refine' is_int_int ?_)
  | (with_reducible refine' is_int_bool ?_)
  | (with_reducible refine' is_int_str ?_)
  | (with_reducible refine' is_int_tuple ?_)
  | (with_reducible refine' is_int_list ?_)
  | (with_reducible refine' is_int_dict ?_)
  | (with_reducible refine' is_str_int ?_)
  | (with_reducible refine' is_str_bool ?_)
  | (with_reducible refine' is_str_str ?_)
  | (with_reducible refine' is_str_tuple ?_)
  | (with_reducible refine' is_str_list ?_)
  | (with_reducible refine' is_str_dict ?_)
  | (with_reducible refine' w_inSign ?_)
  | (with_reducible refine' w_ninSign ?_)
  | (with_reducible refine' w_mG ?_)
  | (with_reducible refine' w_dget ?_)
  | (with_reducible refine' w_iZip ?_)
  | (with_reducible refine' w_iItemsN ?_)
  | (with_reducible refine' w_iValsN ?_)
  | (with_reducible refine' w_dnew ?_)
  | (with_reducible refine' w_iS ?_)
  | (with_reducible refine' w_iRevR ?_)
  | (with_reducible refine' iteT ?_)
  | (with_reducible refine' iteF ?_)
  | (with_reducible refine' iteNT ?_)
  | (with_reducible refine' iteNF ?_))
local macro_rules | `(tactic| walk_at "go") => `(tactic| repeat walk_at "s")

local macro_rules | `(tactic| walk_at "d") => `(tactic| first
  | ((with_reducible refine' d_var ?h ?q); (case h => exact rfl))
  | (with_reducible refine' d_nil ?_)
  | (with_reducible refine' d_cR ?_)
  | (with_reducible refine' d_lcU ?_)
  | (with_reducible refine' d_lcR1 ?_)
  | (with_reducible refine' d_forR1 ?_)
  | (with_reducible refine' d_forR2 ?_)
  | (with_reducible refine' d_lcR2 ?_)
  | (with_reducible refine' d_forU ?_)
  | (with_reducible refine' d_cons ?_)
  | (with_reducible refine' d_op ?_)
  | (with_reducible refine' d_un ?_)
  | (with_reducible refine' d_seq ?_)
  | (with_reducible refine' d_asg ?_)
  | (with_reducible refine' d_ret ?_)
  | (with_reducible refine' d_ifS ?_)
  | (with_reducible refine' d_call ?_)
  | (with_reducible refine' d_cb ?_)
  | (with_reducible refine' d_test ?_)
  | (with_reducible refine' d_B ?_)
  | (with_reducible refine' d_name ?_)
  | (with_reducible refine' d_cI ?_)
  | (with_reducible refine' d_cS ?_)
  | (with_reducible refine' d_cB ?_)
  | (with_reducible refine' d_cN ?_)
  | (with_reducible refine' d_cT ?_)
  | (with_reducible refine' d_bl ?_)
  | (with_reducible refine' d_tup ?_)
  | (with_reducible refine' d_lst ?_)
  | (with_reducible refine' d_addI ?_)
  | (with_reducible refine' d_sub ?_)
  | (with_reducible refine' d_neg ?_)
  | (with_reducible refine' d_back ?_)
  | (with_reducible refine' d_cmp ?_)
  | (with_reducible refine' d_eqI ?_)
  | (with_reducible refine' d_eqS ?_)
  | (with_reducible refine' d_eqB ?_)
  | (with_reducible refine' d_neI ?_)
  | (with_reducible refine' d_neS ?_)
  | (with_reducible refine' d_neB ?_)
  | (with_reducible refine' d_and ?_)
  | (with_reducible refine' d_or ?_)
  | (with_reducible refine' d_not ?_)
  | (with_reducible refine' d_andV ?_)
  | (with_reducible refine' d_orV ?_)
  | (with_reducible refine' d_notV ?_)
  | (with_reducible refine' d_if ?_)
  | (with_reducible refine' d_isN ?_)
  | (with_reducible refine' d_notN ?_)
  | (with_reducible refine' d_retN ?_)
  | (with_reducible refine' d_drop ?_)
  | (with_reducible refine' d_next ?_)
  | (with_reducible refine' d_break ?_)
  | (with_reducible refine' d_cont ?_)
  | (with_reducible refine' d_gcons ?_)
  | (with_reducible refine' d_gconsM ?_)
  | (with_reducible refine' d_gnilM ?_)
  | (with_reducible refine' d_gnil ?_)
  | (with_reducible refine' d_gsub ?_)
  | (with_reducible refine' d_yes ?_)
  | (with_reducible refine' d_part ?_)
  | (with_reducible refine' d_nopart ?_)
  | (with_reducible refine' d_pI ?_)
  | (with_reducible refine' d_sl ?_)
  | (with_reducible refine' d_chain ?_)
  | ((with_reducible refine' d_bmK ?h ?q); (case h => exact rfl))
  | ((with_reducible refine' d_bm0K ?h ?q); (case h => exact rfl))
  | (with_reducible refine' d_disp ?_)
  | (with_reducible refine' d_pcons ?_)
  | (with_reducible refine' d_pnil ?_)
  | ((with_reducible refine' d_tyLfk ?p ?q); (case p => (apply Exists.intro; walk_at "p")))
  | ((with_reducible refine' newD ?h ?l ?n ?q); (case h => repeat' constructor); (case l => exact Nat.le_of_ble_eq_true rfl); (case n => decide +kernel))
  | ((with_reducible refine' d_tyLk ?p ?q); (case p => (apply Exists.intro; walk_at "p")))
  | (with_reducible refine' d_mG ?_)
  | (with_reducible refine' d_lenX (d_lenT ?_))
  | (with_reducible refine' d_lenX (d_lenD ?_))
  | (with_reducible refine' d_slT ?_)
  | (with_reducible refine' d_isTup ?_)
  | (with_reducible refine' d_isLst ?_)
  | (with_reducible refine' d_isInt ?_)
  | (with_reducible refine' d_isBool ?_)
  | (with_reducible refine' d_isStr ?_)
  | (with_reducible refine' d_max2 ?_)
  | (with_reducible refine' d_min2 ?_)
  | (with_reducible refine' d_abs ?_)
  | (with_reducible refine' d_intI ?_)
  | (with_reducible refine' d_intB ?_)
  | (with_reducible refine' d_pow9 ?_)
  | (with_reducible refine' d_pow18 ?_)
  | (with_reducible refine' d_pow6 ?_)
  | (with_reducible refine' d_pow8 ?_)
  | (with_reducible refine' d_pow12 ?_)
  | (with_reducible refine' d_pow59 ?_)
  | (with_reducible refine' d_pow60 ?_)
  | (with_reducible refine' d_listT ?_)
  | (with_reducible refine' d_listD ?_)
  | (with_reducible refine' d_tupleT ?_)
  | (with_reducible refine' d_tupleD ?_)
  | (with_reducible refine' iteT ?_)
  | (with_reducible refine' iteF ?_)
  | (with_reducible refine' iteNT ?_)
  | (with_reducible refine' iteNF ?_)
  | ((with_reducible refine' newT_D ?h ?q ?n); (case h => repeat' constructor); (case n => exact Nat.le_of_ble_eq_true rfl))
  | ((with_reducible refine' newL_D ?h ?q ?n); (case h => repeat' constructor); (case n => exact Nat.le_of_ble_eq_true rfl))
  | ((with_reducible refine' d_kt ?h ?q); (case h => repeat' constructor))
  | ((with_reducible refine' d_gtup ?h ?q); (case h => exact rfl))
  | ((with_reducible refine' d_inS ?h ?q); (case h => repeat' constructor))
  | ((with_reducible refine' d_ninS ?h ?q); (case h => repeat' constructor))
  | (with_reducible refine' d_signIn ?_)
  | ((with_reducible refine' d_lenX (d_lenLDk ?p ?q)); (case p => (apply Exists.intro; walk_at "p")))
  | ((with_reducible refine' d_lenSetk ?p ?q); (case p => (apply Exists.intro; walk_at "p")))
  | ((with_reducible refine' call_t0k ?p ?q); (case p => (apply Exists.intro; walk_at "p")))
  | ((with_reducible refine' call_p1 ?h ?q); (case h => exact trivial))
  | ((with_reducible refine' call_p2 ?h ?q); (case h => exact trivial))
  | ((with_reducible refine' call_p3 ?h ?q); (case h => exact trivial))
  | ((with_reducible refine' iteTc ?h ?q); (case h => first | exact rfl | decide +kernel))
  | ((with_reducible refine' iteFc ?h ?q); (case h => first | exact rfl | decide +kernel)))
local macro_rules | `(tactic| walk_at "e") => `(tactic| first
  | ((with_reducible refine' d_var ?h ?q); (case h => exact rfl))
  | (with_reducible refine' d_nil ?_)
  | (with_reducible refine' d_cR ?_)
  | (with_reducible refine' d_lcU ?_)
  | (with_reducible refine' d_lcR1 ?_)
  | (with_reducible refine' d_forR1 ?_)
  | (with_reducible refine' d_forR2 ?_)
  | (with_reducible refine' d_lcR2 ?_)
  | (with_reducible refine' d_forU ?_)
  | (with_reducible refine' d_cons ?_)
  | (with_reducible refine' d_op ?_)
  | (with_reducible refine' d_un ?_)
  | (with_reducible refine' d_seq ?_)
  | (with_reducible refine' d_asg ?_)
  | (with_reducible refine' d_ret ?_)
  | (with_reducible refine' d_ifS ?_)
  | (with_reducible refine' d_call ?_)
  | (with_reducible refine' d_cb ?_)
  | (with_reducible refine' d_test ?_)
  | (with_reducible refine' d_B ?_)
  | (with_reducible refine' d_name ?_)
  | (with_reducible refine' d_cI ?_)
  | (with_reducible refine' d_cS ?_)
  | (with_reducible refine' d_cB ?_)
  | (with_reducible refine' d_cN ?_)
  | (with_reducible refine' d_cT ?_)
  | (with_reducible refine' d_bl ?_)
  | (with_reducible refine' d_tup ?_)
  | (with_reducible refine' d_lst ?_)
  | (with_reducible refine' d_addI ?_)
  | (with_reducible refine' d_sub ?_)
  | (with_reducible refine' d_neg ?_)
  | (with_reducible refine' d_back ?_)
  | (with_reducible refine' d_cmp ?_)
  | (with_reducible refine' d_eqI ?_)
  | (with_reducible refine' d_eqS ?_)
  | (with_reducible refine' d_eqB ?_)
  | (with_reducible refine' d_neI ?_)
  | (with_reducible refine' d_neS ?_)
  | (with_reducible refine' d_neB ?_)
  | (with_reducible refine' d_and ?_)
  | (with_reducible refine' d_or ?_)
  | (with_reducible refine' d_not ?_)
  | (with_reducible refine' d_andV ?_)
  | (with_reducible refine' d_orV ?_)
  | (with_reducible refine' d_notV ?_)
  | (with_reducible refine' d_if ?_)
  | (with_reducible refine' d_isN ?_)
  | (with_reducible refine' d_notN ?_)
  | (with_reducible refine' d_retN ?_)
  | (with_reducible refine' d_drop ?_)
  | (with_reducible refine' d_next ?_)
  | (with_reducible refine' d_break ?_)
  | (with_reducible refine' d_cont ?_)
  | (with_reducible refine' d_gcons ?_)
  | (with_reducible refine' d_gconsM ?_)
  | (with_reducible refine' d_gnilM ?_)
  | (with_reducible refine' d_gnil ?_)
  | (with_reducible refine' d_gsub ?_)
  | (with_reducible refine' d_yes ?_)
  | (with_reducible refine' d_part ?_)
  | (with_reducible refine' d_nopart ?_)
  | (with_reducible refine' d_pI ?_)
  | (with_reducible refine' d_sl ?_)
  | (with_reducible refine' d_chain ?_)
  | ((with_reducible refine' d_bmK ?h ?q); (case h => exact rfl))
  | ((with_reducible refine' d_bm0K ?h ?q); (case h => exact rfl))
  | (with_reducible refine' d_disp ?_)
  | (with_reducible refine' d_pcons ?_)
  | (with_reducible refine' d_pnil ?_)
  | ((with_reducible refine' d_tyLfk ?p ?q); (case p => (apply Exists.intro; walk_at "p")))
  | ((with_reducible refine' newD ?h ?l ?n ?q); (case h => repeat' constructor); (case l => exact Nat.le_of_ble_eq_true rfl); (case n => decide +kernel))
  | ((with_reducible refine' d_tyLk ?p ?q); (case p => (apply Exists.intro; walk_at "p")))
  | (with_reducible refine' d_mG ?_)
  | (with_reducible refine' d_lenX (d_lenT ?_))
  | (with_reducible refine' d_lenX (d_lenD ?_))
  | (with_reducible refine' d_slT ?_)
  | (with_reducible refine' d_isTup ?_)
  | (with_reducible refine' d_isLst ?_)
  | (with_reducible refine' d_isInt ?_)
  | (with_reducible refine' d_isBool ?_)
  | (with_reducible refine' d_isStr ?_)
  | (with_reducible refine' d_max2 ?_)
  | (with_reducible refine' d_min2 ?_)
  | (with_reducible refine' d_abs ?_)
  | (with_reducible refine' d_intI ?_)
  | (with_reducible refine' d_intB ?_)
  | (with_reducible refine' d_pow9 ?_)
  | (with_reducible refine' d_pow18 ?_)
  | (with_reducible refine' d_pow6 ?_)
  | (with_reducible refine' d_pow8 ?_)
  | (with_reducible refine' d_pow12 ?_)
  | (with_reducible refine' d_pow59 ?_)
  | (with_reducible refine' d_pow60 ?_)
  | (with_reducible refine' d_listD ?_)
  | (with_reducible refine' d_tupleT ?_)
  | (with_reducible refine' d_tupleD ?_)
  | (with_reducible refine' iteT ?_)
  | (with_reducible refine' iteF ?_)
  | (with_reducible refine' iteNT ?_)
  | (with_reducible refine' iteNF ?_)
  | ((with_reducible refine' newT_D ?h ?q ?n); (case h => repeat' constructor); (case n => exact Nat.le_of_ble_eq_true rfl))
  | ((with_reducible refine' d_kt ?h ?q); (case h => repeat' constructor))
  | ((with_reducible refine' d_gtup ?h ?q); (case h => exact rfl))
  | ((with_reducible refine' d_inS ?h ?q); (case h => repeat' constructor))
  | ((with_reducible refine' d_ninS ?h ?q); (case h => repeat' constructor))
  | (with_reducible refine' d_signIn ?_)
  | ((with_reducible refine' d_lenX (d_lenLDk ?p ?q)); (case p => (apply Exists.intro; walk_at "p")))
  | ((with_reducible refine' d_lenSetk ?p ?q); (case p => (apply Exists.intro; walk_at "p")))
  | ((with_reducible refine' call_t0k ?p ?q); (case p => (apply Exists.intro; walk_at "p")))
  | ((with_reducible refine' call_p1 ?h ?q); (case h => exact trivial))
  | ((with_reducible refine' call_p2 ?h ?q); (case h => exact trivial))
  | ((with_reducible refine' call_p3 ?h ?q); (case h => exact trivial))
  | ((with_reducible refine' iteTc ?h ?q); (case h => first | exact rfl | decide +kernel))
  | ((with_reducible refine' iteFc ?h ?q); (case h => first | exact rfl | decide +kernel)))
local macro_rules | `(tactic| walk_at "D") => `(tactic| repeat walk_at "d")
local macro_rules | `(tactic| walk_at "E") => `(tactic| repeat walk_at "e")
local macro_rules | `(tactic| walk_at "f") => `(tactic| (refine' newL_F ?h ?q ?n; (case h => repeat' constructor); (case n => exact Nat.le_of_ble_eq_true rfl)))
local macro_rules | `(tactic| walk_at "p") => `(tactic| first | exact Pick.here | (apply Pick.there; walk_at "p"))
local macro_rules | `(tactic| walk_at "u") => `(tactic| first | exact Sub.nil | exact Sub.refl | (apply Sub.cons (by walk_at "p"); walk_at "u"))
local macro_rules | `(tactic| walk_at "l") => `(tactic| first | exact Le.z | (refine Le.n ?_; walk_at "l") | (refine Le.s ?_; walk_at "l"))
local macro_rules | `(tactic| walk_at "w") => `(tactic| refine d_drawX rfl (by walk_at "p") (by first | decide | omega) (by first | decide | omega) ?_)


/-! ### the law's own draws: nothing is known of a number drawn but its bounds -/
/-- a tape: script, count, rest, place; all that stood at first stands -/
def Tape (K : PySem.W.Frag) (H0 H : Hp) (t : Addr) : Prop := (∃ (a : Addr) (ns : List Int) (n d p : Int), H t = some (.lst [.ref a, .int n, .int d, .int p]) ∧ SqL K H0 a (ns.map V.int) ∧ 0 ≤ p) ∧ Fr [] H0 H ∧ H0 t = none
section
variable {K : PySem.W.Frag} {H0 H H' : Hp} {t q : Addr}
theorem Tape.fr (T : Tape K H0 H t) (e : Fr [] H H') : Tape K H0 H' t := by
  obtain ⟨⟨a, ns, n, d, p, h1, h2, h3⟩, h4, h5⟩ := T
  exact ⟨⟨a, ns, n, d, p, e _ _ h1 (by simp), h2, h3⟩, h4.trans e, h5⟩
theorem Tape.new (T : Tape K H0 H t) {o : HO} (h : H q = none) : Tape K H0 (upd H q o) t := T.fr (Fr.new h)
theorem Tape.ne (T : Tape K H0 H t) (h : H q = none) : q ≠ t := by
  rintro rfl
  obtain ⟨⟨_, _, _, _, _, e, _⟩, _⟩ := T
  rw [h] at e
  cases e
theorem Tape.no (T : Tape K H0 H t) (h : H q = none) : H0 q = none := T.2.1.free h
/-- what is new changes -/
theorem Tape.mut (T : Tape K H0 H t) {o : HO} (nq : q ≠ t) (n0 : H0 q = none) : Tape K H0 (upd H q o) t := by
  obtain ⟨⟨a, zs, n, d, p, h1, h2, h4⟩, f, h5⟩ := T
  refine ⟨⟨a, zs, n, d, p, ?_, h2, h4⟩, fun b u e z => ?_, h5⟩
  · rw [upd_ne nq.symm]; exact h1
  · rw [upd_ne (by rintro rfl; rw [n0] at e; cases e)]
    exact f b u e z
theorem Tape.fr1 (T : Tape K H0 H t) (e : Fr [q] H H') (nq : q ≠ t) (n0 : H0 q = none) : Tape K H0 H' t := by
  obtain ⟨⟨a, zs, n, d, p, h1, h2, h4⟩, f, h5⟩ := T
  exact ⟨⟨a, zs, n, d, p, e _ _ h1 (by simpa using nq.symm), h2, h4⟩, Fr.drop1 n0 f e, h5⟩
theorem Tape.free1 (T : Tape K H0 H t) (f : Fr [t] H H') (h : H' q = none) (nq : q ≠ t) : H q = none := by
  cases e : H q with
  | none => rfl
  | some o =>
    have z := f q o e (by simpa using nq)
    rw [h] at z
    cases z
theorem Tape.tu (T : Tape K H0 H t) (f : Fr [t] H H') : Tu H H' := by
  obtain ⟨⟨a, zs, n, d, p, h1, _⟩, _⟩ := T
  exact f.tu1 h1
end
def sp_law_tape (K : PySem.W.Frag) : Sp := fun vs H Q _ => ∃ (a : Addr) (ns : List Int), vs = [.ref a] ∧ SqL K H a (ns.map V.int) ∧ ∀ t H', H t = none → Fr [] H H' → Tape K H H' t → Q (.ref t) H'
def sp_law_draw (K : PySem.W.Frag) : Sp := fun vs H Q _ => ∃ (t : Addr) (m : Int) (H0 : Hp), vs = [.ref t, .int m] ∧ Tape K H0 H t ∧ 0 < m ∧ m < 2 ^ 64 ∧ ∀ r H', 0 ≤ r → r < m → Fr [t] H H' → Tape K H0 H' t → Q (.int r) H'
section
variable {P : Program} {w : World} {K : PySem.W.Frag} {mg : Str → Option Value} {base : Heap}
theorem ok_law_tape (T : Env K mg) : Fx P w K mg base 1 "_law_tape" p_law_tape (sp_law_tape K) := by
  refine T.l_law_tape.ok sc_law_tape (fun vs H Q E h => ?_) (fun f cdv A outer s H vs Q E hr h => ?_)
  · obtain ⟨a, ns, rfl, _⟩ := h
    rfl
  · obtain ⟨a, ns, rfl, hS, k⟩ := h
    refine ⟨_, (pss_one (ps_ret (pe_lst (pa_cons (pv 0) (pa_cons pe_int (pa_cons pe_int (pa_cons pe_int pa_nil))))))), ?_⟩
    walk_at "go"
    refine ⟨by show 4 ≤ sizeLine; decide, fun t ht => ?_⟩
    exact k t _ ht (Fr.new ht) ⟨⟨a, ns, 0, 0, 0, upd_same, hS, Int.le_refl 0⟩, Fr.new ht, ht⟩
theorem ok_law_draw (T : Env K mg) : Fx P w K mg base 1 "_law_draw" p_law_draw (sp_law_draw K) := by
  refine T.l_law_draw.ok sc_law_draw (fun vs H Q E h => ?_) (fun f cdv A outer s H vs Q E hr h => ?_)
  · obtain ⟨t, m, _, rfl, _⟩ := h
    rfl
  · obtain ⟨t, m, H0, rfl, hT, m0, m64, k⟩ := h
    obtain ⟨⟨a, ns, n, d, p, ht, hS0, hp⟩, f0, n0⟩ := hT
    have hS : SqL K H a (ns.map V.int) := f0.seqL hS0 (by simp)
    have keep : ∀ H', Fr [t] H H' → Fr [] H0 H' := fun H' f b o e _ => f b o (f0 b o e (by simp)) (by
      intro z
      rw [List.mem_singleton.mp z, n0] at e
      cases e)
    refine ⟨_, (pss_cons (ps_set (i := 2) sc_law_draw.nd rfl (Or.inl rfl) (pe_ix (ix_U (K := K) rfl) (pv 0) pe_int (fun _ _ => rfl)))
      (pss_cons (ps_asg (pe_op (op_addU (K := K) rfl) (pe_ix (ix_U (K := K) rfl) (pv 0) pe_int (fun _ _ => rfl)) pe_int) (pg_sub (pv 0) pe_int set_list))
      (C8.pss_cut (ps_if (PW.pt (pw_and (pt_cmpR (op_eqU (K := K) rfl (u64 hr)) (pe_ix (ix_U (K := K) rfl) (pv 0) pe_int (fun _ _ => rfl)) pe_int (nomark _)) (pw_and1 (pt_cmpR op_lt (pe_ix (ix_U (K := K) rfl) (pv 0) pe_int (fun _ _ => rfl)) (pe_callB (call_lenU (K := K) rfl) (by rfl) T.m_len (by decide +kernel) (pa_cons (pv 2) pa_nil)) (nomark _))))) (pss_cons (ps_asg (pe_op op_fdivW (pe_callB call_absU (by rfl) T.m_abs (by decide +kernel) (pa_cons (pe_ix (ix_U (K := K) rfl) (pv 2) (pe_ix (ix_U (K := K) rfl) (pv 0) pe_int (fun _ _ => rfl)) (fun _ _ => rfl)) pa_nil)) (pe_op op_pow pe_int pe_int)) (pg_sub (pv 0) pe_int set_list))
      (pss_one (ps_asg (pe_op (op_addU (K := K) rfl) (pe_ix (ix_U (K := K) rfl) (pv 0) pe_int (fun _ _ => rfl)) pe_int) (pg_sub (pv 0) pe_int set_list)))) pss_nil)
      (pss_cons (ps_if (pt_cmpR op_gt (pe_ix (ix_U (K := K) rfl) (pv 0) pe_int (fun _ _ => rfl)) pe_int (nomark _)) (pss_cons (ps_set (i := 3) sc_law_draw.nd rfl (Or.inl rfl) (pe_op op_mod (pe_ix (ix_U (K := K) rfl) (pv 0) pe_int (fun _ _ => rfl)) (pv 1)))
      (pss_cons (ps_asg (pe_op op_fdivW (pe_ix (ix_U (K := K) rfl) (pv 0) pe_int (fun _ _ => rfl)) (pv 1)) (pg_sub (pv 0) pe_int set_list))
      (pss_one (ps_ret (pv 3))))) pss_nil)
      (pss_cons (ps_set (i := 4) sc_law_draw.nd rfl (Or.inl rfl) pe_int)
      (C8.pss_cut (ps_if (pt_cmpR op_gt (pe_callB (call_lenU (K := K) rfl) (by rfl) T.m_len (by decide +kernel) (pa_cons (pv 2) pa_nil)) pe_int (nomark _)) (pss_one (ps_set (i := 4) sc_law_draw.nd rfl (Or.inl rfl) (pe_ix (ix_U (K := K) rfl) (pv 2) (pe_op op_mod (pe_ix (ix_U (K := K) rfl) (pv 0) pe_int (fun _ _ => rfl)) (pe_callB (call_lenU (K := K) rfl) (by rfl) T.m_len (by decide +kernel) (pa_cons (pv 2) pa_nil))) (fun _ _ => rfl)))) pss_nil)
      (pss_cons (ps_set (i := 5) sc_law_draw.nd rfl (Or.inl rfl) (pe_op op_mod (pe_op (op_addU (K := K) rfl) (pe_op (op_addU (K := K) rfl) (pe_op op_mulU (pe_op op_mod (pv 4) pe_int) pe_int) (pe_op op_mulU (pe_ix (ix_U (K := K) rfl) (pv 0) pe_int (fun _ _ => rfl)) pe_int)) pe_int) pe_int))
      (pss_cons (ps_set (i := 5) sc_law_draw.nd rfl (Or.inl rfl) (pe_op op_mod (pe_op op_mulU (pv 5) (pe_op (op_addU (K := K) rfl) (pv 5) pe_int)) pe_int))
      (pss_one (ps_ret (pe_op op_mod (pe_op op_mod (pe_op op_mulU (pv 5) pe_int) pe_int) (pv 1)))))))))))), ?_⟩
    walk_at "go"
    refine w_ixL (SqL.of ht) rfl ?_
    walk_at "go"
    refine w_ixL (SqL.of ht) rfl ?_
    walk_at "go"
    refine w_setL ht rfl ?_
    generalize hH1 : upd H t _ = H1
    have f1 : Fr [t] H H1 := by rw [← hH1]; exact Fr.mut (by simp)
    have t1 : H1 t = some (.lst [.ref a, .int (n + 1), .int d, .int p]) := by rw [← hH1]; exact upd_same
    refine w_cut (fun σ' H' => σ' = [some (.ref t), some (.int m), some (.ref a), none, none, none] ∧ Fr [t] H H' ∧ ∃ d p, H' t = some (.lst [.ref a, .int (n + 1), .int d, .int p]) ∧ 0 ≤ p) ?_ ?_
    · walk_at "go"
      refine w_ixL (SqL.of t1) rfl ?_
      walk_at "go"
      have end0 : ∀ d p, 0 ≤ p → ∀ H', Fr [t] H H' → H' t = some (.lst [.ref a, .int (n + 1), .int d, .int p]) → ([some (.ref t), some (.int m), some (.ref a), none, none, none] : L2.St) = [some (.ref t), some (.int m), some (.ref a), none, none, none] ∧ Fr [t] H H' ∧ ∃ d p, H' t = some (.lst [.ref a, .int (n + 1), .int d, .int p]) ∧ 0 ≤ p :=
        fun d p hp H' f e => ⟨rfl, f, d, p, e, hp⟩
      refine ite_d (fun h0 => ?_) (fun h0 => ?_)
      · walk_at "go"
        refine w_ixL (SqL.of t1) rfl ?_
        walk_at "go"
        have hS1 : SqL K H1 a (ns.map V.int) := (keep _ f1).seqL hS0 (by simp)
        refine w_lenL hS1 ?_
        walk_at "go"
        refine ite_d (fun h1 => ?_) (fun h1 => ?_)
        · rw [List.length_map] at h1
          obtain ⟨z, hz, _⟩ := at_int hp h1
          walk_at "go"
          refine w_ixL (SqL.of t1) rfl ?_
          walk_at "go"
          refine w_ixL hS1 hz ?_
          walk_at "go"
          refine w_rI ⟨by decide, by decide +kernel⟩ ?_
          walk_at "go"
          refine w_setL t1 rfl ?_
          walk_at "go"
          refine w_ixL (SqL.of upd_same) rfl ?_
          walk_at "go"
          refine w_setL upd_same rfl ?_
          refine end0 _ (p + 1) (by omega) _ ?_ upd_same
          exact (f1.trans (Fr.mut (by simp))).trans (Fr.mut (by simp))
        · walk_at "go"
          exact end0 d p hp H1 f1 t1
      · walk_at "go"
        exact end0 d p hp H1 f1 t1
    · rintro σ' H2 ⟨rfl, f2, d, p, t2, hp⟩
      have hS2 : SqL K H2 a (ns.map V.int) := (keep _ f2).seqL hS0 (by simp)
      have fin : ∀ x, Q (.int (x % m)) H2 := fun x => k _ H2 (Int.emod_nonneg _ (by omega)) (Int.emod_lt_of_pos _ m0) f2 ⟨⟨a, ns, n + 1, d, p, t2, hS0, hp⟩, keep _ f2, n0⟩
      walk_at "go"
      refine w_ixL (SqL.of t2) rfl ?_
      walk_at "go"
      refine ite_d (fun h0 => ?_) (fun h0 => ?_)
      · walk_at "go"
        refine w_ixL (SqL.of t2) rfl ?_
        walk_at "go"
        refine w_rI m0 ?_
        walk_at "go"
        refine w_ixL (SqL.of t2) rfl ?_
        walk_at "go"
        refine w_rI (wide_div m0 (b := 64) (by omega) (by decide) (by decide)) ?_
        walk_at "go"
        refine w_setL t2 rfl ?_
        walk_at "go"
        have f3 : Fr [t] H (upd H2 t (.lst [.ref a, .int (n + 1), .int (d / m), .int p])) := f2.trans (Fr.mut (by simp))
        exact k _ _ (Int.emod_nonneg _ (by omega)) (Int.emod_lt_of_pos _ m0) f3 ⟨⟨a, ns, n + 1, d / m, p, upd_same, hS0, hp⟩, keep _ f3, n0⟩
      · walk_at "go"
        refine w_cut (fun σ' H' => H' = H2 ∧ ∃ z, σ' = [some (.ref t), some (.int m), some (.ref a), none, some (.int z), none]) ?_ ?_
        · walk_at "go"
          refine w_lenL hS2 ?_
          walk_at "go"
          refine ite_d (fun h1 => ?_) (fun h1 => ?_)
          · rw [List.length_map] at h1
            walk_at "go"
            refine w_ixL (SqL.of t2) rfl ?_
            walk_at "go"
            refine w_lenL hS2 ?_
            rw [List.length_map]
            refine w_rI h1 ?_
            obtain ⟨z, hz, _⟩ := at_int (ns := ns) (p := (n + 1) % (ns.length : Int)) (Int.emod_nonneg _ (by omega)) (Int.emod_lt_of_pos _ h1)
            refine w_ixL hS2 hz ?_
            walk_at "go"
            exact ⟨rfl, z, rfl⟩
          · walk_at "go"
            exact ⟨rfl, 0, rfl⟩
        · rintro σ' H' ⟨rfl, z, rfl⟩
          walk_at "go"
          refine w_rI (by show (0 : Int) < 2147483647; decide) ?_
          refine w_mulI (.inr (by decide)) ?_
          walk_at "go"
          refine w_ixL (SqL.of t2) rfl ?_
          walk_at "go"
          refine w_mulI (.inr (by decide)) ?_
          walk_at "go"
          refine w_rI (by show (0 : Int) < 2147483629; decide) ?_
          walk_at "go"
          have b1 : ∀ y : Int, 0 ≤ y % 2147483629 ∧ y % 2147483629 < 2147483629 := fun y => ⟨Int.emod_nonneg _ (by decide), Int.emod_lt_of_pos _ (by decide)⟩
          generalize he : (_ : Int) % 2147483629 = e
          have b2 : 0 ≤ e ∧ e < 2147483629 := by rw [← he]; exact b1 _
          refine w_mulI (.inl (by constructor <;> omega)) ?_
          walk_at "go"
          refine w_rI (by show (0 : Int) < 2147483587; decide) ?_
          walk_at "go"
          refine w_mulI (.inr (by decide)) ?_
          walk_at "go"
          refine w_rI (by show (0 : Int) < 2147483563; decide) ?_
          walk_at "go"
          refine w_rI m0 ?_
          exact fin _
end

section
variable {C : Cz} {mg : Str → Option Value} {base : Heap}
theorem okd_law_tape0 (T : Env C.K mg) : Fd C mg base 1 "_law_tape" p_law_tape dsp_law_tape := by
  refine T.l_law_tape.okD sc_law_tape (fun xs S Kt h => ?_) (fun f cdv A outer s H E hr => ⟨_, (pss_one (ps_ret (pe_lst (pa_cons (pv 0) (pa_cons pe_int (pa_cons pe_int (pa_cons pe_int pa_nil))))))), fun xs S Kt h => ?_⟩)
  · obtain ⟨ns, rfl, _⟩ := h
    rfl
  · obtain ⟨ns, rfl, rfl, k⟩ := h
    walk_at "D"
    exact fun p => ⟨_, _, Wk.obj (O' := TAPE) rfl (fun C F H h => tape_of (ns := ns) h), k _⟩
theorem okd_law_tape (T : Env C.K mg) : Fd C mg base 1 "_law_tape" p_law_tape dsp_law_tape := okd_law_tape0 T
theorem okd_law_draw (T : Env C.K mg) : Fd C mg base 1 "_law_draw" p_law_draw dsp_law_draw := (ok_law_draw (P := C.P) (w := C.w) (K := C.K) T).imp fun vs H Q E ⟨Z, xs, S, Kt, so, rv, ⟨t, m, hx, hS, m0, m1, k⟩, kk⟩ => by
  subst hx hS
  obtain ⟨v, u, rfl, h1, h2⟩ := rv.two
  cases h1
  cases int_of h2
  obtain ⟨a, ns, n, d, p, e, s, hp⟩ := so.ok (t, TAPE) (by simp)
  refine ⟨t, m, fz H Z [(t, TAPE)], rfl, ⟨⟨a, ns, n, d, p, e, s, hp⟩, fz_fr, ?_⟩, m0, m1, fun r H' a b f T' => ?_⟩
  · unfold fz U.ws
    rw [if_pos (by simp [dom])]
  · obtain ⟨⟨a', ns', n', d', p', e', s', hp'⟩, f', _⟩ := T'
    have ff : Fr [] (fz H Z [(t, TAPE)]) (fz H' Z [(t, TAPE)]) := fun b o eb _ => by
      obtain ⟨g1, g2, g3⟩ := fz_at eb
      exact fz_in (f' b o eb (by simp)) g2 g3
    refine kk _ _ (k r a b) (.int r) H' ⟨⟨so.nd, so.z, fun b hb => ?_, fun x hx => ?_⟩, f, fun b hb => .inl hb⟩ (Dg.int r)
    · obtain ⟨o, eo⟩ := so.zl b hb
      exact ⟨o, f b o eo (by intro z; exact so.z b z hb)⟩
    · rw [List.mem_singleton.mp hx]
      exact ⟨a', ns', n', d', p', e', ff.seqL s' (by simp), hp'⟩
end




def m_is_whole (thing_ : PyData) : Option (Bool) :=
(andO (some (isInt thing_)) (some (!(isBool thing_)))).bind fun b1 =>
some b1
def sp_is_whole : DSp := fun xs S Kt => ∃ (thing_ : PyData) (K : (Bool) → Prop), xs = [.d thing_] ∧ S = [] ∧ go (m_is_whole thing_) K ∧ ∀ r, K r → Kt (.d (PyData.bool r)) []
theorem call_is_whole {S : DS} {Q : DV → DS → Prop} {thing_ : PyData} {K : (Bool) → Prop}  (k : go (m_is_whole thing_) K) (q : ∀ r, K r → Q (.d (PyData.bool r)) (S)) : DCall (sp_is_whole) [.d thing_] S Q := call0 ⟨thing_, K, rfl, rfl, k, fun r h => ⟨_, .refl _, q r h⟩⟩
theorem okd_is_whole {C : Cz} {mg : Str → Option Value} {base : Heap} (T : Env C.K mg) : Fd C mg base 1 "is_whole" p_is_whole sp_is_whole := by
  refine T.l_is_whole.okD sc_is_whole (fun xs S Kt h => ?_) (fun f cdv A outer s H E hr => ⟨_, (pss_one (ps_ret (pe_and (pe_callB (call_isiU (K := C.K) rfl) (by rfl) T.m_isinstance (by decide +kernel) (pa_cons (pv 0) (pa_cons (pe_bltn (v := .ty "int") (u := .type "int") rfl T.m_int (by decide +kernel) rfl) pa_nil))) (pe_one (pe_not (pe_callB (call_isiU (K := C.K) rfl) (by rfl) T.m_isinstance (by decide +kernel) (pa_cons (pv 0) (pa_cons (pe_bltn (v := .ty "bool") (u := .type "bool") rfl T.m_bool (by decide +kernel) rfl) pa_nil)))))))), fun xs S Kt h => ?_⟩)
  · obtain ⟨_, _, rfl, _⟩ := h
    rfl
  · obtain ⟨thing_, K, rfl, rfl, k, hK⟩ := h
    unfold m_is_whole at k
    show DSt C _ [some (.d thing_)] _ _
    refine d_ret ?_
    refine d_valM (f := PyData.bool) (gc k) (fun R k => ?_) (fun b1 k => ?_)
    · skip
      have k := gc k
      refine d_andV ?_
      refine d_cb ?_
      refine d_cons ?_
      refine d_var rfl ?_
      refine d_cons ?_
      refine d_cT ?_
      refine d_nil ?_
      refine d_isInt ?_
      refine d_bl ?_
      have k := gs k
      refine ite_goF k (fun _ k => ?_) (fun _ k => ?_)
      · exact ⟨_, rfl, by walk_at "u", gs k⟩
      refine d_notV ?_
      refine d_cb ?_
      refine d_cons ?_
      refine d_var rfl ?_
      refine d_cons ?_
      refine d_cT ?_
      refine d_nil ?_
      refine d_isBool ?_
      refine d_bl ?_
      have k := gs k
      exact ⟨_, rfl, by walk_at "u", k⟩
    have k := gs k
    exact KW.sub (by walk_at "u") (hK _ k)
def m_is_number (thing_ : PyData) : Option (Bool) :=
(andO ((m_is_whole thing_).bind fun r2 =>
some r2) (((asI thing_).bind fun z4 =>
if (decide (((0 : Int) - (1000000000 : Int)) ≤ z4)) = true then ((asI thing_).bind fun z5 =>
some (decide (z5 ≤ (1000000000 : Int)))) else some false).bind fun b3 =>
some b3)).bind fun b1 =>
some b1
def sp_is_number : DSp := fun xs S Kt => ∃ (thing_ : PyData) (K : (Bool) → Prop), xs = [.d thing_] ∧ S = [] ∧ go (m_is_number thing_) K ∧ ∀ r, K r → Kt (.d (PyData.bool r)) []
theorem call_is_number {S : DS} {Q : DV → DS → Prop} {thing_ : PyData} {K : (Bool) → Prop}  (k : go (m_is_number thing_) K) (q : ∀ r, K r → Q (.d (PyData.bool r)) (S)) : DCall (sp_is_number) [.d thing_] S Q := call0 ⟨thing_, K, rfl, rfl, k, fun r h => ⟨_, .refl _, q r h⟩⟩
theorem okd_is_number {C : Cz} {mg : Str → Option Value} {base : Heap} (T : Env C.K mg) : Fd C mg base 2 "is_number" p_is_number sp_is_number := by
  refine T.l_is_number.okD sc_is_number (fun xs S Kt h => ?_) (fun f cdv A outer s H E hr => ⟨_, (pss_one (ps_ret (pe_and (pe_fx (okd_is_whole (C := C) T) hr (by decide) (pa_cons (pv 0) pa_nil)) (pe_one (pe_chain op_le op_le (pe_op op_sub pe_int T.pe_GREATEST) (pv 0) T.pe_GREATEST))))), fun xs S Kt h => ?_⟩)
  · obtain ⟨_, _, rfl, _⟩ := h
    rfl
  · obtain ⟨thing_, K, rfl, rfl, k, hK⟩ := h
    unfold m_is_number at k
    show DSt C _ [some (.d thing_)] _ _
    refine d_ret ?_
    refine d_valM (f := PyData.bool) (gc k) (fun R k => ?_) (fun b1 k => ?_)
    · skip
      have k := gc k
      refine d_andV ?_
      refine d_call ?_
      refine d_cons ?_
      refine d_var rfl ?_
      refine d_nil ?_
      refine call_is_whole  (gc k) fun r2 k => ?_
      refine d_bl ?_
      have k := gs k
      refine ite_goF k (fun _ k => ?_) (fun _ k => ?_)
      · exact ⟨_, rfl, by walk_at "u", gs k⟩
      refine d_valM (f := PyData.bool) (gc k) (fun R k => ?_) (fun b3 k => ?_)
      · skip
        refine d_chain ?_
        refine d_op ?_
        refine d_cI ?_
        refine d_cI ?_
        refine d_subP rfl rfl ?_
        refine d_var rfl ?_
        obtain ⟨z4, hz4, k⟩ := gb k
        refine d_cmpP rfl hz4 ?_
        refine d_bl ?_
        refine ite_goF k (fun _ k => ?_) (fun _ k => ?_)
        · exact ⟨_, rfl, by walk_at "u", gs k⟩
        refine d_cI ?_
        obtain ⟨z5, hz5, k⟩ := gb k
        refine d_cmpP hz5 rfl ?_
        have k := gs k
        exact ⟨_, rfl, by walk_at "u", k⟩
      have k := gs k
      exact ⟨_, rfl, by walk_at "u", k⟩
    have k := gs k
    exact KW.sub (by walk_at "u") (hK _ k)
def m_is_name (thing_ : PyData) : Option (Bool) :=
(orO (some (!(isStr thing_))) (orO ((lenP thing_).bind fun z2 =>
some (decide (z2 < (1 : Int)))) ((lenP thing_).bind fun z3 =>
some (decide (z3 > (8 : Int)))))).bind fun b1 =>
if b1 = true then (some false) else ((seqP thing_).bind fun z4 =>
(okIf (decide (z4.length ≤ 100000))).bind fun z5 =>
(mapO (fun x8 =>
(inP x8 (PyData.str ("abcdefghijklmnopqrstuvwxyz" : Str))).bind fun z9 =>
some z9) z4).bind fun ys6 =>
some (ys6.all id))
def sp_is_name : DSp := fun xs S Kt => ∃ (thing_ : PyData) (K : (Bool) → Prop), xs = [.d thing_] ∧ S = [] ∧ go (m_is_name thing_) K ∧ ∀ r, K r → Kt (.d (PyData.bool r)) []
theorem call_is_name {S : DS} {Q : DV → DS → Prop} {thing_ : PyData} {K : (Bool) → Prop}  (k : go (m_is_name thing_) K) (q : ∀ r, K r → Q (.d (PyData.bool r)) (S)) : DCall (sp_is_name) [.d thing_] S Q := call0 ⟨thing_, K, rfl, rfl, k, fun r h => ⟨_, .refl _, q r h⟩⟩
theorem okd_is_name {C : Cz} {mg : Str → Option Value} {base : Heap} (T : Env C.K mg) : Fd C mg base 1 "is_name" p_is_name sp_is_name := by
  refine T.l_is_name.okD sc_is_name (fun xs S Kt h => ?_) (fun f cdv A outer s H E hr => ⟨_, (pss_cons (ps_if (PW.pt (pw_or (pt_not (pt_val (pe_callB (call_isiU (K := C.K) rfl) (by rfl) T.m_isinstance (by decide +kernel) (pa_cons (pv 0) (pa_cons (pe_bltn (v := .ty "str") (u := .type "str") rfl T.m_str (by decide +kernel) rfl) pa_nil))))) (pw_or (pt_cmpR op_ltU (pe_callB (call_lenX (C := C) rfl rfl rfl) (by rfl) T.m_len (by decide +kernel) (pa_cons (pv 0) pa_nil)) pe_int (nomark _)) (pw_or1 (pt_cmpR op_gt (pe_callB (call_lenX (C := C) rfl rfl rfl) (by rfl) T.m_len (by decide +kernel) (pa_cons (pv 0) pa_nil)) pe_int (nomark _)))))) (pss_one (ps_ret pe_bl)) pss_nil)
      (pss_one (ps_ret (pe_callB (call_allU (K := C.K) rfl rfl) (by rfl) T.m_all (by decide +kernel) (pa_cons (pe_lc (own := [("sign", 1)]) (g := (gName 1)) (tt := tYes) rfl sc_is_name.nd (pi_UU (K := C.K) rfl (pv 0)) (blkOk_by (N := N_is_name) (sc := defScope s_is_name) (by decide +kernel)) (fun _ _ _ _ _ => (pg_name (i := 1) sc_is_name.nd rfl (Or.inl rfl))) (fun _ _ _ _ _ => pts_nil) (fun _ _ _ _ _ => (pe_cmpR (op_inU (K := C.K) rfl (u65 hr)) (pv 1) T.pe_LETTERS (by rfl)))) pa_nil))))), fun xs S Kt h => ?_⟩)
  · obtain ⟨_, _, rfl, _⟩ := h
    rfl
  · obtain ⟨thing_, K, rfl, rfl, k, hK⟩ := h
    unfold m_is_name at k
    show DSt C _ [some (.d thing_), none] _ _
    refine d_seq ?_
    refine d_ifS ?_
    refine d_testM (gc k) (fun R k => ?_) (fun b1 k => ?_)
    · skip
      have k := gc k
      refine d_or ?_
      refine d_not ?_
      first | refine d_test ?_ | refine d_B ?_
      refine d_cb ?_
      refine d_cons ?_
      refine d_var rfl ?_
      refine d_cons ?_
      refine d_cT ?_
      refine d_nil ?_
      refine d_isStr ?_
      refine d_bl ?_
      have k := gs k
      refine ite_go k (fun _ k => ?_) (fun _ k => ?_)
      · exact ⟨by walk_at "u", gs k⟩
      have k := gc k
      refine d_or ?_
      first | refine d_test ?_ | refine d_B ?_
      refine d_op ?_
      refine d_cb ?_
      refine d_cons ?_
      refine d_var rfl ?_
      refine d_nil ?_
      obtain ⟨z2, hz2, k⟩ := gb k
      refine d_lenX (d_lenP hz2 ?_)
      refine d_cI ?_
      refine d_ltUI ?_
      refine d_bl ?_
      have k := gs k
      refine ite_go k (fun _ k => ?_) (fun _ k => ?_)
      · exact ⟨by walk_at "u", gs k⟩
      first | refine d_test ?_ | refine d_B ?_
      refine d_op ?_
      refine d_cb ?_
      refine d_cons ?_
      refine d_var rfl ?_
      refine d_nil ?_
      obtain ⟨z3, hz3, k⟩ := gb k
      refine d_lenX (d_lenP hz3 ?_)
      refine d_cI ?_
      refine d_cmpP rfl rfl ?_
      refine d_bl ?_
      have k := gs k
      exact ⟨by walk_at "u", k⟩
    refine ite_go k (fun _ k => ?_) (fun _ k => ?_)
    · skip
      refine d_ret ?_
      refine d_cB ?_
      have k := gs k
      exact KW.sub (by walk_at "u") (hK _ k)
    · skip
      refine d_next ?_
      refine d_ret ?_
      refine d_cb ?_
      refine d_cons ?_
      refine d_lcU ?_
      refine d_var rfl ?_
      obtain ⟨z4, hz4, k⟩ := gb k
      obtain ⟨z5, hz5, k⟩ := gb k
      refine lc_seq hz4 ?_
      refine lcGb (eb := PyData.bool) (emb := DV.d) (mapO_M (gc k)) gk_name (okIf_d hz5) (fun x8 _ R k => ?_) (fun ys6 k p7 => ?_)
      · skip
        refine d_name ?_
        refine d_op ?_
        refine d_var rfl ?_
        refine d_cS ?_
        obtain ⟨z9, hz9, k⟩ := gb k
        refine d_inP hz9 ?_
        have k := gs k
        exact ⟨_, rfl, by walk_at "u", k⟩
      refine d_nil ?_
      refine d_allP ?_
      have k := gs k
      exact KW.sub (by walk_at "u") (hK _ k)
def m_is_count (thing_ : PyData) : Option (Bool) :=
(andO (some (isInt thing_)) (andO (some (!(isBool thing_))) ((asI thing_).bind fun z2 =>
some (decide (z2 ≥ (0 : Int)))))).bind fun b1 =>
some b1
def sp_is_count : DSp := fun xs S Kt => ∃ (thing_ : PyData) (K : (Bool) → Prop), xs = [.d thing_] ∧ S = [] ∧ go (m_is_count thing_) K ∧ ∀ r, K r → Kt (.d (PyData.bool r)) []
theorem call_is_count {S : DS} {Q : DV → DS → Prop} {thing_ : PyData} {K : (Bool) → Prop}  (k : go (m_is_count thing_) K) (q : ∀ r, K r → Q (.d (PyData.bool r)) (S)) : DCall (sp_is_count) [.d thing_] S Q := call0 ⟨thing_, K, rfl, rfl, k, fun r h => ⟨_, .refl _, q r h⟩⟩
theorem okd_is_count {C : Cz} {mg : Str → Option Value} {base : Heap} (T : Env C.K mg) : Fd C mg base 1 "is_count" p_is_count sp_is_count := by
  refine T.l_is_count.okD sc_is_count (fun xs S Kt h => ?_) (fun f cdv A outer s H E hr => ⟨_, (pss_one (ps_ret (pe_and (pe_callB (call_isiU (K := C.K) rfl) (by rfl) T.m_isinstance (by decide +kernel) (pa_cons (pv 0) (pa_cons (pe_bltn (v := .ty "int") (u := .type "int") rfl T.m_int (by decide +kernel) rfl) pa_nil))) (pe_and (pe_not (pe_callB (call_isiU (K := C.K) rfl) (by rfl) T.m_isinstance (by decide +kernel) (pa_cons (pv 0) (pa_cons (pe_bltn (v := .ty "bool") (u := .type "bool") rfl T.m_bool (by decide +kernel) rfl) pa_nil)))) (pe_one (pe_cmpR op_ge (pv 0) pe_int (nomark _))))))), fun xs S Kt h => ?_⟩)
  · obtain ⟨_, _, rfl, _⟩ := h
    rfl
  · obtain ⟨thing_, K, rfl, rfl, k, hK⟩ := h
    unfold m_is_count at k
    show DSt C _ [some (.d thing_)] _ _
    refine d_ret ?_
    refine d_valM (f := PyData.bool) (gc k) (fun R k => ?_) (fun b1 k => ?_)
    · skip
      have k := gc k
      refine d_andV ?_
      refine d_cb ?_
      refine d_cons ?_
      refine d_var rfl ?_
      refine d_cons ?_
      refine d_cT ?_
      refine d_nil ?_
      refine d_isInt ?_
      refine d_bl ?_
      have k := gs k
      refine ite_goF k (fun _ k => ?_) (fun _ k => ?_)
      · exact ⟨_, rfl, by walk_at "u", gs k⟩
      have k := gc k
      refine d_andV ?_
      refine d_notV ?_
      refine d_cb ?_
      refine d_cons ?_
      refine d_var rfl ?_
      refine d_cons ?_
      refine d_cT ?_
      refine d_nil ?_
      refine d_isBool ?_
      refine d_bl ?_
      refine d_bl ?_
      have k := gs k
      refine ite_goF k (fun _ k => ?_) (fun _ k => ?_)
      · exact ⟨_, rfl, by walk_at "u", gs k⟩
      refine d_op ?_
      refine d_var rfl ?_
      refine d_cI ?_
      obtain ⟨z2, hz2, k⟩ := gb k
      refine d_cmpP hz2 rfl ?_
      have k := gs k
      exact ⟨_, rfl, by walk_at "u", k⟩
    have k := gs k
    exact KW.sub (by walk_at "u") (hK _ k)
def m_is_spot (thing_ : PyData) : Option (Bool) :=
(orO (some (!(isTup thing_))) ((lenP thing_).bind fun z2 =>
some (!(decide (z2 = (2 : Int)))))).bind fun b1 =>
if b1 = true then (some false) else ((andO ((orO ((ixP thing_ (0 : Int)).bind fun z5 =>
some (isNonD z5)) ((ixP thing_ (0 : Int)).bind fun z6 =>
(m_is_number z6).bind fun r7 =>
some r7)).bind fun b4 =>
some b4) ((ixP thing_ (1 : Int)).bind fun z8 =>
(m_is_count z8).bind fun r9 =>
some r9)).bind fun b3 =>
some b3)
def sp_is_spot : DSp := fun xs S Kt => ∃ (thing_ : PyData) (K : (Bool) → Prop), xs = [.d thing_] ∧ S = [] ∧ go (m_is_spot thing_) K ∧ ∀ r, K r → Kt (.d (PyData.bool r)) []
theorem call_is_spot {S : DS} {Q : DV → DS → Prop} {thing_ : PyData} {K : (Bool) → Prop}  (k : go (m_is_spot thing_) K) (q : ∀ r, K r → Q (.d (PyData.bool r)) (S)) : DCall (sp_is_spot) [.d thing_] S Q := call0 ⟨thing_, K, rfl, rfl, k, fun r h => ⟨_, .refl _, q r h⟩⟩
theorem okd_is_spot {C : Cz} {mg : Str → Option Value} {base : Heap} (T : Env C.K mg) : Fd C mg base 3 "is_spot" p_is_spot sp_is_spot := by
  refine T.l_is_spot.okD sc_is_spot (fun xs S Kt h => ?_) (fun f cdv A outer s H E hr => ⟨_, (pss_cons (ps_if (PW.pt (pw_or (pt_not (pt_val (pe_callB (call_isiU (K := C.K) rfl) (by rfl) T.m_isinstance (by decide +kernel) (pa_cons (pv 0) (pa_cons (pe_bltn (v := .ty "tuple") (u := .type "tuple") rfl T.m_tuple (by decide +kernel) rfl) pa_nil))))) (pw_or1 (pt_cmpR (op_neU (K := C.K) rfl (u64 hr)) (pe_callB (call_lenX (C := C) rfl rfl rfl) (by rfl) T.m_len (by decide +kernel) (pa_cons (pv 0) pa_nil)) pe_int (nomark _))))) (pss_one (ps_ret pe_bl)) pss_nil)
      (pss_one (ps_ret (pe_and (pe_or (pe_cmp (pc_isN (pe_ix (ix_U (K := C.K) rfl) (pv 0) pe_int (fun _ _ => rfl)))) (pe_one (pe_fx (okd_is_number (C := C) T) hr (by decide) (pa_cons (pe_ix (ix_U (K := C.K) rfl) (pv 0) pe_int (fun _ _ => rfl)) pa_nil)))) (pe_one (pe_fx (okd_is_count (C := C) T) hr (by decide) (pa_cons (pe_ix (ix_U (K := C.K) rfl) (pv 0) pe_int (fun _ _ => rfl)) pa_nil))))))), fun xs S Kt h => ?_⟩)
  · obtain ⟨_, _, rfl, _⟩ := h
    rfl
  · obtain ⟨thing_, K, rfl, rfl, k, hK⟩ := h
    unfold m_is_spot at k
    show DSt C _ [some (.d thing_)] _ _
    refine d_seq ?_
    refine d_ifS ?_
    refine d_testM (gc k) (fun R k => ?_) (fun b1 k => ?_)
    · skip
      have k := gc k
      refine d_or ?_
      refine d_not ?_
      first | refine d_test ?_ | refine d_B ?_
      refine d_cb ?_
      refine d_cons ?_
      refine d_var rfl ?_
      refine d_cons ?_
      refine d_cT ?_
      refine d_nil ?_
      refine d_isTup ?_
      refine d_bl ?_
      have k := gs k
      refine ite_go k (fun _ k => ?_) (fun _ k => ?_)
      · exact ⟨by walk_at "u", gs k⟩
      first | refine d_test ?_ | refine d_B ?_
      refine d_op ?_
      refine d_cb ?_
      refine d_cons ?_
      refine d_var rfl ?_
      refine d_nil ?_
      obtain ⟨z2, hz2, k⟩ := gb k
      refine d_lenX (d_lenP hz2 ?_)
      refine d_cI ?_
      refine d_neI ?_
      refine d_bl ?_
      have k := gs k
      exact ⟨by walk_at "u", k⟩
    refine ite_go k (fun _ k => ?_) (fun _ k => ?_)
    · skip
      refine d_ret ?_
      refine d_cB ?_
      have k := gs k
      exact KW.sub (by walk_at "u") (hK _ k)
    · skip
      refine d_next ?_
      refine d_ret ?_
      refine d_valM (f := PyData.bool) (gc k) (fun R k => ?_) (fun b3 k => ?_)
      · skip
        have k := gc k
        refine d_andV ?_
        refine d_valM (f := PyData.bool) (gc k) (fun R k => ?_) (fun b4 k => ?_)
        · skip
          have k := gc k
          refine d_orV ?_
          refine d_isN ?_
          refine d_op ?_
          refine d_var rfl ?_
          refine d_cI ?_
          obtain ⟨z5, hz5, k⟩ := gb k
          refine d_ixD rfl hz5 ?_
          rw [isN_d]
          refine d_bl ?_
          have k := gs k
          refine ite_go k (fun _ k => ?_) (fun _ k => ?_)
          · exact ⟨_, rfl, by walk_at "u", gs k⟩
          refine d_call ?_
          refine d_cons ?_
          refine d_op ?_
          refine d_var rfl ?_
          refine d_cI ?_
          obtain ⟨z6, hz6, k⟩ := gb k
          refine d_ixD rfl hz6 ?_
          refine d_nil ?_
          refine call_is_number  (gc k) fun r7 k => ?_
          have k := gs k
          exact ⟨_, rfl, by walk_at "u", k⟩
        refine d_bl ?_
        have k := gs k
        refine ite_goF k (fun _ k => ?_) (fun _ k => ?_)
        · exact ⟨_, rfl, by walk_at "u", gs k⟩
        refine d_call ?_
        refine d_cons ?_
        refine d_op ?_
        refine d_var rfl ?_
        refine d_cI ?_
        obtain ⟨z8, hz8, k⟩ := gb k
        refine d_ixD rfl hz8 ?_
        refine d_nil ?_
        refine call_is_count  (gc k) fun r9 k => ?_
        have k := gs k
        exact ⟨_, rfl, by walk_at "u", k⟩
      have k := gs k
      exact KW.sub (by walk_at "u") (hK _ k)
def m_is_path (thing_ : PyData) : Option (Bool) :=
(andO (some (isTup thing_)) ((seqP thing_).bind fun z2 =>
(okIf (decide (z2.length ≤ 100000))).bind fun z3 =>
(mapO (fun x6 =>
(m_is_spot x6).bind fun r7 =>
some r7) z2).bind fun ys4 =>
some (ys4.all id))).bind fun b1 =>
some b1
def sp_is_path : DSp := fun xs S Kt => ∃ (thing_ : PyData) (K : (Bool) → Prop), xs = [.d thing_] ∧ S = [] ∧ go (m_is_path thing_) K ∧ ∀ r, K r → Kt (.d (PyData.bool r)) []
theorem call_is_path {S : DS} {Q : DV → DS → Prop} {thing_ : PyData} {K : (Bool) → Prop}  (k : go (m_is_path thing_) K) (q : ∀ r, K r → Q (.d (PyData.bool r)) (S)) : DCall (sp_is_path) [.d thing_] S Q := call0 ⟨thing_, K, rfl, rfl, k, fun r h => ⟨_, .refl _, q r h⟩⟩
theorem okd_is_path {C : Cz} {mg : Str → Option Value} {base : Heap} (T : Env C.K mg) : Fd C mg base 4 "is_path" p_is_path sp_is_path := by
  refine T.l_is_path.okD sc_is_path (fun xs S Kt h => ?_) (fun f cdv A outer s H E hr => ⟨_, (pss_one (ps_ret (pe_and (pe_callB (call_isiU (K := C.K) rfl) (by rfl) T.m_isinstance (by decide +kernel) (pa_cons (pv 0) (pa_cons (pe_bltn (v := .ty "tuple") (u := .type "tuple") rfl T.m_tuple (by decide +kernel) rfl) pa_nil))) (pe_one (pe_callB (call_allU (K := C.K) rfl rfl) (by rfl) T.m_all (by decide +kernel) (pa_cons (pe_lc (own := [("one", 1)]) (g := (gName 1)) (tt := tYes) rfl sc_is_path.nd (pi_UU (K := C.K) rfl (pv 0)) (blkOk_by (N := N_is_path) (sc := defScope s_is_path) (by decide +kernel)) (fun _ _ _ _ _ => (pg_name (i := 1) sc_is_path.nd rfl (Or.inl rfl))) (fun _ _ _ _ _ => pts_nil) (fun _ _ _ _ _ => (pe_fx (okd_is_spot (C := C) T) hr (by decide) (pa_cons (pv 1) pa_nil)))) pa_nil)))))), fun xs S Kt h => ?_⟩)
  · obtain ⟨_, _, rfl, _⟩ := h
    rfl
  · obtain ⟨thing_, K, rfl, rfl, k, hK⟩ := h
    unfold m_is_path at k
    show DSt C _ [some (.d thing_), none] _ _
    refine d_ret ?_
    refine d_valM (f := PyData.bool) (gc k) (fun R k => ?_) (fun b1 k => ?_)
    · skip
      have k := gc k
      refine d_andV ?_
      refine d_cb ?_
      refine d_cons ?_
      refine d_var rfl ?_
      refine d_cons ?_
      refine d_cT ?_
      refine d_nil ?_
      refine d_isTup ?_
      refine d_bl ?_
      have k := gs k
      refine ite_goF k (fun _ k => ?_) (fun _ k => ?_)
      · exact ⟨_, rfl, by walk_at "u", gs k⟩
      refine d_cb ?_
      refine d_cons ?_
      refine d_lcU ?_
      refine d_var rfl ?_
      obtain ⟨z2, hz2, k⟩ := gb k
      obtain ⟨z3, hz3, k⟩ := gb k
      refine lc_seq hz2 ?_
      refine lcGb (eb := PyData.bool) (emb := DV.d) (mapO_M (gc k)) gk_name (okIf_d hz3) (fun x6 _ R k => ?_) (fun ys4 k p5 => ?_)
      · skip
        refine d_name ?_
        refine d_call ?_
        refine d_cons ?_
        refine d_var rfl ?_
        refine d_nil ?_
        refine call_is_spot  (gc k) fun r7 k => ?_
        have k := gs k
        exact ⟨_, rfl, by walk_at "u", k⟩
      refine d_nil ?_
      refine d_allP ?_
      have k := gs k
      exact ⟨_, rfl, by walk_at "u", k⟩
    have k := gs k
    exact KW.sub (by walk_at "u") (hK _ k)
def m_is_label (thing_ : PyData) : Option (Bool) :=
(andO ((m_is_path thing_).bind fun r2 =>
some r2) ((lenP thing_).bind fun z3 =>
some (decide (z3 > (0 : Int))))).bind fun b1 =>
some b1
def sp_is_label : DSp := fun xs S Kt => ∃ (thing_ : PyData) (K : (Bool) → Prop), xs = [.d thing_] ∧ S = [] ∧ go (m_is_label thing_) K ∧ ∀ r, K r → Kt (.d (PyData.bool r)) []
theorem call_is_label {S : DS} {Q : DV → DS → Prop} {thing_ : PyData} {K : (Bool) → Prop}  (k : go (m_is_label thing_) K) (q : ∀ r, K r → Q (.d (PyData.bool r)) (S)) : DCall (sp_is_label) [.d thing_] S Q := call0 ⟨thing_, K, rfl, rfl, k, fun r h => ⟨_, .refl _, q r h⟩⟩
theorem okd_is_label {C : Cz} {mg : Str → Option Value} {base : Heap} (T : Env C.K mg) : Fd C mg base 5 "is_label" p_is_label sp_is_label := by
  refine T.l_is_label.okD sc_is_label (fun xs S Kt h => ?_) (fun f cdv A outer s H E hr => ⟨_, (pss_one (ps_ret (pe_and (pe_fx (okd_is_path (C := C) T) hr (by decide) (pa_cons (pv 0) pa_nil)) (pe_one (pe_cmpR op_gt (pe_callB (call_lenX (C := C) rfl rfl rfl) (by rfl) T.m_len (by decide +kernel) (pa_cons (pv 0) pa_nil)) pe_int (nomark _)))))), fun xs S Kt h => ?_⟩)
  · obtain ⟨_, _, rfl, _⟩ := h
    rfl
  · obtain ⟨thing_, K, rfl, rfl, k, hK⟩ := h
    unfold m_is_label at k
    show DSt C _ [some (.d thing_)] _ _
    refine d_ret ?_
    refine d_valM (f := PyData.bool) (gc k) (fun R k => ?_) (fun b1 k => ?_)
    · skip
      have k := gc k
      refine d_andV ?_
      refine d_call ?_
      refine d_cons ?_
      refine d_var rfl ?_
      refine d_nil ?_
      refine call_is_path  (gc k) fun r2 k => ?_
      refine d_bl ?_
      have k := gs k
      refine ite_goF k (fun _ k => ?_) (fun _ k => ?_)
      · exact ⟨_, rfl, by walk_at "u", gs k⟩
      refine d_op ?_
      refine d_cb ?_
      refine d_cons ?_
      refine d_var rfl ?_
      refine d_nil ?_
      obtain ⟨z3, hz3, k⟩ := gb k
      refine d_lenX (d_lenP hz3 ?_)
      refine d_cI ?_
      refine d_cmpP rfl rfl ?_
      have k := gs k
      exact ⟨_, rfl, by walk_at "u", k⟩
    have k := gs k
    exact KW.sub (by walk_at "u") (hK _ k)
def m_is_setting (thing_ : PyData) : Option (Bool) :=
(andO (some (isTup thing_)) (andO ((lenP thing_).bind fun z2 =>
some (decide (z2 = (2 : Int)))) (andO ((ixP thing_ (0 : Int)).bind fun z3 =>
(m_is_name z3).bind fun r4 =>
some r4) ((ixP thing_ (1 : Int)).bind fun z5 =>
(m_is_number z5).bind fun r6 =>
some r6)))).bind fun b1 =>
some b1
def sp_is_setting : DSp := fun xs S Kt => ∃ (thing_ : PyData) (K : (Bool) → Prop), xs = [.d thing_] ∧ S = [] ∧ go (m_is_setting thing_) K ∧ ∀ r, K r → Kt (.d (PyData.bool r)) []
theorem call_is_setting {S : DS} {Q : DV → DS → Prop} {thing_ : PyData} {K : (Bool) → Prop}  (k : go (m_is_setting thing_) K) (q : ∀ r, K r → Q (.d (PyData.bool r)) (S)) : DCall (sp_is_setting) [.d thing_] S Q := call0 ⟨thing_, K, rfl, rfl, k, fun r h => ⟨_, .refl _, q r h⟩⟩
theorem okd_is_setting {C : Cz} {mg : Str → Option Value} {base : Heap} (T : Env C.K mg) : Fd C mg base 3 "is_setting" p_is_setting sp_is_setting := by
  refine T.l_is_setting.okD sc_is_setting (fun xs S Kt h => ?_) (fun f cdv A outer s H E hr => ⟨_, (pss_one (ps_ret (pe_and (pe_callB (call_isiU (K := C.K) rfl) (by rfl) T.m_isinstance (by decide +kernel) (pa_cons (pv 0) (pa_cons (pe_bltn (v := .ty "tuple") (u := .type "tuple") rfl T.m_tuple (by decide +kernel) rfl) pa_nil))) (pe_and (pe_cmpR (op_eqU (K := C.K) rfl (u64 hr)) (pe_callB (call_lenX (C := C) rfl rfl rfl) (by rfl) T.m_len (by decide +kernel) (pa_cons (pv 0) pa_nil)) pe_int (nomark _)) (pe_and (pe_fx (okd_is_name (C := C) T) hr (by decide) (pa_cons (pe_ix (ix_U (K := C.K) rfl) (pv 0) pe_int (fun _ _ => rfl)) pa_nil)) (pe_one (pe_fx (okd_is_number (C := C) T) hr (by decide) (pa_cons (pe_ix (ix_U (K := C.K) rfl) (pv 0) pe_int (fun _ _ => rfl)) pa_nil)))))))), fun xs S Kt h => ?_⟩)
  · obtain ⟨_, _, rfl, _⟩ := h
    rfl
  · obtain ⟨thing_, K, rfl, rfl, k, hK⟩ := h
    unfold m_is_setting at k
    show DSt C _ [some (.d thing_)] _ _
    refine d_ret ?_
    refine d_valM (f := PyData.bool) (gc k) (fun R k => ?_) (fun b1 k => ?_)
    · skip
      have k := gc k
      refine d_andV ?_
      refine d_cb ?_
      refine d_cons ?_
      refine d_var rfl ?_
      refine d_cons ?_
      refine d_cT ?_
      refine d_nil ?_
      refine d_isTup ?_
      refine d_bl ?_
      have k := gs k
      refine ite_goF k (fun _ k => ?_) (fun _ k => ?_)
      · exact ⟨_, rfl, by walk_at "u", gs k⟩
      have k := gc k
      refine d_andV ?_
      refine d_op ?_
      refine d_cb ?_
      refine d_cons ?_
      refine d_var rfl ?_
      refine d_nil ?_
      obtain ⟨z2, hz2, k⟩ := gb k
      refine d_lenX (d_lenP hz2 ?_)
      refine d_cI ?_
      refine d_eqI ?_
      refine d_bl ?_
      have k := gs k
      refine ite_goF k (fun _ k => ?_) (fun _ k => ?_)
      · exact ⟨_, rfl, by walk_at "u", gs k⟩
      have k := gc k
      refine d_andV ?_
      refine d_call ?_
      refine d_cons ?_
      refine d_op ?_
      refine d_var rfl ?_
      refine d_cI ?_
      obtain ⟨z3, hz3, k⟩ := gb k
      refine d_ixD rfl hz3 ?_
      refine d_nil ?_
      refine call_is_name  (gc k) fun r4 k => ?_
      refine d_bl ?_
      have k := gs k
      refine ite_goF k (fun _ k => ?_) (fun _ k => ?_)
      · exact ⟨_, rfl, by walk_at "u", gs k⟩
      refine d_call ?_
      refine d_cons ?_
      refine d_op ?_
      refine d_var rfl ?_
      refine d_cI ?_
      obtain ⟨z5, hz5, k⟩ := gb k
      refine d_ixD rfl hz5 ?_
      refine d_nil ?_
      refine call_is_number  (gc k) fun r6 k => ?_
      have k := gs k
      exact ⟨_, rfl, by walk_at "u", k⟩
    have k := gs k
    exact KW.sub (by walk_at "u") (hK _ k)
def m_is_sets (thing_ : PyData) : Option (Bool) :=
(orO (some (!(isTup thing_))) ((seqP thing_).bind fun z2 =>
(okIf (decide (z2.length ≤ 100000))).bind fun z3 =>
(mapO (fun x6 =>
(m_is_setting x6).bind fun r7 =>
some r7) z2).bind fun ys4 =>
some (!(ys4.all id)))).bind fun b1 =>
if b1 = true then (some false) else ((lenP thing_).bind fun z8 =>
(okIf (decide ((-100000 ≤ (1 : Int) ∧ (1 : Int) ≤ 100000) ∧ -100000 ≤ z8 ∧ z8 ≤ 100000))).bind fun z9 =>
(okIf (decide (z8 - (1 : Int) ≤ 100000))).bind fun z10 =>
(mapO (fun x13 =>
(ixP thing_ (x13 - (1 : Int))).bind fun z14 =>
(ixP z14 (0 : Int)).bind fun z15 =>
(ixP thing_ x13).bind fun z16 =>
(ixP z16 (0 : Int)).bind fun z17 =>
(ltP z15 z17).bind fun z18 =>
some z18) (rng2P (1 : Int) z8)).bind fun ys11 =>
some (ys11.all id))
def sp_is_sets : DSp := fun xs S Kt => ∃ (thing_ : PyData) (K : (Bool) → Prop), xs = [.d thing_] ∧ S = [] ∧ go (m_is_sets thing_) K ∧ ∀ r, K r → Kt (.d (PyData.bool r)) []
theorem call_is_sets {S : DS} {Q : DV → DS → Prop} {thing_ : PyData} {K : (Bool) → Prop}  (k : go (m_is_sets thing_) K) (q : ∀ r, K r → Q (.d (PyData.bool r)) (S)) : DCall (sp_is_sets) [.d thing_] S Q := call0 ⟨thing_, K, rfl, rfl, k, fun r h => ⟨_, .refl _, q r h⟩⟩
theorem okd_is_sets {C : Cz} {mg : Str → Option Value} {base : Heap} (T : Env C.K mg) : Fd C mg base 4 "is_sets" p_is_sets sp_is_sets := by
  refine T.l_is_sets.okD sc_is_sets (fun xs S Kt h => ?_) (fun f cdv A outer s H E hr => ⟨_, (pss_cons (ps_if (PW.pt (pw_or (pt_not (pt_val (pe_callB (call_isiU (K := C.K) rfl) (by rfl) T.m_isinstance (by decide +kernel) (pa_cons (pv 0) (pa_cons (pe_bltn (v := .ty "tuple") (u := .type "tuple") rfl T.m_tuple (by decide +kernel) rfl) pa_nil))))) (pw_or1 (pt_not (pt_val (pe_callB (call_allU (K := C.K) rfl rfl) (by rfl) T.m_all (by decide +kernel) (pa_cons (pe_lc (own := [("one", 1)]) (g := (gName 1)) (tt := tYes) rfl sc_is_sets.nd (pi_UU (K := C.K) rfl (pv 0)) (blkOk_by (N := N_is_sets) (sc := defScope s_is_sets) (by decide +kernel)) (fun _ _ _ _ _ => (pg_name (i := 1) sc_is_sets.nd rfl (Or.inl rfl))) (fun _ _ _ _ _ => pts_nil) (fun _ _ _ _ _ => (pe_fx (okd_is_setting (C := C) T) hr (by decide) (pa_cons (pv 1) pa_nil)))) pa_nil))))))) (pss_one (ps_ret pe_bl)) pss_nil)
      (pss_one (ps_ret (pe_callB (call_allU (K := C.K) rfl rfl) (by rfl) T.m_all (by decide +kernel) (pa_cons (pe_lc (own := [("k", 2)]) (g := (gName 2)) (tt := tYes) rfl sc_is_sets.nd (pi_range2 rfl T.m_range (pa_cons pe_int (pa_cons (pe_callB (call_lenX (C := C) rfl rfl rfl) (by rfl) T.m_len (by decide +kernel) (pa_cons (pv 0) pa_nil)) pa_nil))) (blkOk_by (N := N_is_sets) (sc := defScope s_is_sets) (by decide +kernel)) (fun _ _ _ _ _ => (pg_name (i := 2) sc_is_sets.nd rfl (Or.inl rfl))) (fun _ _ _ _ _ => pts_nil) (fun _ _ _ _ _ => (pe_cmpR op_ltU (pe_ix (ix_U (K := C.K) rfl) (pe_ix (ix_U (K := C.K) rfl) (pv 0) (pe_op op_sub (pv 2) pe_int) (fun _ _ => rfl)) pe_int (fun _ _ => rfl)) (pe_ix (ix_U (K := C.K) rfl) (pe_ix (ix_U (K := C.K) rfl) (pv 0) (pv 2) (fun _ _ => rfl)) pe_int (fun _ _ => rfl)) (nomark _)))) pa_nil))))), fun xs S Kt h => ?_⟩)
  · obtain ⟨_, _, rfl, _⟩ := h
    rfl
  · obtain ⟨thing_, K, rfl, rfl, k, hK⟩ := h
    unfold m_is_sets at k
    show DSt C _ [some (.d thing_), none, none] _ _
    refine d_seq ?_
    refine d_ifS ?_
    refine d_testM (gc k) (fun R k => ?_) (fun b1 k => ?_)
    · skip
      have k := gc k
      refine d_or ?_
      refine d_not ?_
      first | refine d_test ?_ | refine d_B ?_
      refine d_cb ?_
      refine d_cons ?_
      refine d_var rfl ?_
      refine d_cons ?_
      refine d_cT ?_
      refine d_nil ?_
      refine d_isTup ?_
      refine d_bl ?_
      have k := gs k
      refine ite_go k (fun _ k => ?_) (fun _ k => ?_)
      · exact ⟨by walk_at "u", gs k⟩
      refine d_not ?_
      first | refine d_test ?_ | refine d_B ?_
      refine d_cb ?_
      refine d_cons ?_
      refine d_lcU ?_
      refine d_var rfl ?_
      obtain ⟨z2, hz2, k⟩ := gb k
      obtain ⟨z3, hz3, k⟩ := gb k
      refine lc_seq hz2 ?_
      refine lcGb (eb := PyData.bool) (emb := DV.d) (mapO_M (gc k)) gk_name (okIf_d hz3) (fun x6 _ R k => ?_) (fun ys4 k p5 => ?_)
      · skip
        refine d_name ?_
        refine d_call ?_
        refine d_cons ?_
        refine d_var rfl ?_
        refine d_nil ?_
        refine call_is_setting  (gc k) fun r7 k => ?_
        have k := gs k
        exact ⟨_, rfl, by walk_at "u", k⟩
      refine d_nil ?_
      refine d_allP ?_
      refine d_bl ?_
      have k := gs k
      exact ⟨by walk_at "u", k⟩
    refine ite_go k (fun _ k => ?_) (fun _ k => ?_)
    · skip
      refine d_ret ?_
      refine d_cB ?_
      have k := gs k
      exact KW.sub (by walk_at "u") (hK _ k)
    · skip
      refine d_next ?_
      refine d_ret ?_
      refine d_cb ?_
      refine d_cons ?_
      refine d_lcR2 ?_
      refine d_cons ?_
      refine d_cI ?_
      refine d_cons ?_
      refine d_cb ?_
      refine d_cons ?_
      refine d_var rfl ?_
      refine d_nil ?_
      obtain ⟨z8, hz8, k⟩ := gb k
      refine d_lenX (d_lenP hz8 ?_)
      refine d_nil ?_
      obtain ⟨z9, hz9, k⟩ := gb k
      obtain ⟨z10, hz10, k⟩ := gb k
      refine lc_rng2P rfl rfl (okIf_d hz9) ?_
      refine lcGb (eb := PyData.bool) (emb := fun i => DV.d (PyData.int i)) (mapO_M (gc k)) gk_name (rng2_len hz9 hz10) (fun x13 _ R k => ?_) (fun ys11 k p12 => ?_)
      · skip
        refine d_name ?_
        refine d_op ?_
        refine d_op ?_
        refine d_op ?_
        refine d_var rfl ?_
        refine d_op ?_
        refine d_var rfl ?_
        refine d_cI ?_
        refine d_subP rfl rfl ?_
        obtain ⟨z14, hz14, k⟩ := gb k
        refine d_ixD rfl hz14 ?_
        refine d_cI ?_
        obtain ⟨z15, hz15, k⟩ := gb k
        refine d_ixD rfl hz15 ?_
        refine d_op ?_
        refine d_op ?_
        refine d_var rfl ?_
        refine d_var rfl ?_
        obtain ⟨z16, hz16, k⟩ := gb k
        refine d_ixD rfl hz16 ?_
        refine d_cI ?_
        obtain ⟨z17, hz17, k⟩ := gb k
        refine d_ixD rfl hz17 ?_
        obtain ⟨z18, hz18, k⟩ := gb k
        refine d_ltP hz18 ?_
        have k := gs k
        exact ⟨_, rfl, by walk_at "u", k⟩
      refine d_nil ?_
      refine d_allP ?_
      have k := gs k
      exact KW.sub (by walk_at "u") (hK _ k)
def m_is_hand_change (thing_ : PyData) : Option (Bool) :=
(orO (some (!(isTup thing_))) (orO ((lenP thing_).bind fun z2 =>
some (!(decide (z2 = (3 : Int))))) ((ixP thing_ (1 : Int)).bind fun z3 =>
some (!(isStr z3))))).bind fun b1 =>
if b1 = true then (some false) else ((andO ((ixP thing_ (0 : Int)).bind fun z5 =>
(m_is_name z5).bind fun r6 =>
some r6) (andO ((ixP thing_ (1 : Int)).bind fun z7 =>
(inP z7 (PyData.tuple [PyData.str "set", PyData.str "add", PyData.str "times"])).bind fun z8 =>
some z8) ((ixP thing_ (2 : Int)).bind fun z9 =>
(m_is_number z9).bind fun r10 =>
some r10))).bind fun b4 =>
some b4)
def sp_is_hand_change : DSp := fun xs S Kt => ∃ (thing_ : PyData) (K : (Bool) → Prop), xs = [.d thing_] ∧ S = [] ∧ go (m_is_hand_change thing_) K ∧ ∀ r, K r → Kt (.d (PyData.bool r)) []
theorem call_is_hand_change {S : DS} {Q : DV → DS → Prop} {thing_ : PyData} {K : (Bool) → Prop}  (k : go (m_is_hand_change thing_) K) (q : ∀ r, K r → Q (.d (PyData.bool r)) (S)) : DCall (sp_is_hand_change) [.d thing_] S Q := call0 ⟨thing_, K, rfl, rfl, k, fun r h => ⟨_, .refl _, q r h⟩⟩
theorem okd_is_hand_change {C : Cz} {mg : Str → Option Value} {base : Heap} (T : Env C.K mg) : Fd C mg base 3 "is_hand_change" p_is_hand_change sp_is_hand_change := by
  refine T.l_is_hand_change.okD sc_is_hand_change (fun xs S Kt h => ?_) (fun f cdv A outer s H E hr => ⟨_, (pss_cons (ps_if (PW.pt (pw_or (pt_not (pt_val (pe_callB (call_isiU (K := C.K) rfl) (by rfl) T.m_isinstance (by decide +kernel) (pa_cons (pv 0) (pa_cons (pe_bltn (v := .ty "tuple") (u := .type "tuple") rfl T.m_tuple (by decide +kernel) rfl) pa_nil))))) (pw_or (pt_cmpR (op_neU (K := C.K) rfl (u64 hr)) (pe_callB (call_lenX (C := C) rfl rfl rfl) (by rfl) T.m_len (by decide +kernel) (pa_cons (pv 0) pa_nil)) pe_int (nomark _)) (pw_or1 (pt_not (pt_val (pe_callB (call_isiU (K := C.K) rfl) (by rfl) T.m_isinstance (by decide +kernel) (pa_cons (pe_ix (ix_U (K := C.K) rfl) (pv 0) pe_int (fun _ _ => rfl)) (pa_cons (pe_bltn (v := .ty "str") (u := .type "str") rfl T.m_str (by decide +kernel) rfl) pa_nil))))))))) (pss_one (ps_ret pe_bl)) pss_nil)
      (pss_one (ps_ret (pe_and (pe_fx (okd_is_name (C := C) T) hr (by decide) (pa_cons (pe_ix (ix_U (K := C.K) rfl) (pv 0) pe_int (fun _ _ => rfl)) pa_nil)) (pe_and (pe_cmpR (op_inU (K := C.K) rfl (u65 hr)) (pe_ix (ix_U (K := C.K) rfl) (pv 0) pe_int (fun _ _ => rfl)) (Env.pe_WORDS (K := C.K) rfl T) (by rfl)) (pe_one (pe_fx (okd_is_number (C := C) T) hr (by decide) (pa_cons (pe_ix (ix_U (K := C.K) rfl) (pv 0) pe_int (fun _ _ => rfl)) pa_nil)))))))), fun xs S Kt h => ?_⟩)
  · obtain ⟨_, _, rfl, _⟩ := h
    rfl
  · obtain ⟨thing_, K, rfl, rfl, k, hK⟩ := h
    unfold m_is_hand_change at k
    show DSt C _ [some (.d thing_)] _ _
    refine d_seq ?_
    refine d_ifS ?_
    refine d_testM (gc k) (fun R k => ?_) (fun b1 k => ?_)
    · skip
      have k := gc k
      refine d_or ?_
      refine d_not ?_
      first | refine d_test ?_ | refine d_B ?_
      refine d_cb ?_
      refine d_cons ?_
      refine d_var rfl ?_
      refine d_cons ?_
      refine d_cT ?_
      refine d_nil ?_
      refine d_isTup ?_
      refine d_bl ?_
      have k := gs k
      refine ite_go k (fun _ k => ?_) (fun _ k => ?_)
      · exact ⟨by walk_at "u", gs k⟩
      have k := gc k
      refine d_or ?_
      first | refine d_test ?_ | refine d_B ?_
      refine d_op ?_
      refine d_cb ?_
      refine d_cons ?_
      refine d_var rfl ?_
      refine d_nil ?_
      obtain ⟨z2, hz2, k⟩ := gb k
      refine d_lenX (d_lenP hz2 ?_)
      refine d_cI ?_
      refine d_neI ?_
      refine d_bl ?_
      have k := gs k
      refine ite_go k (fun _ k => ?_) (fun _ k => ?_)
      · exact ⟨by walk_at "u", gs k⟩
      refine d_not ?_
      first | refine d_test ?_ | refine d_B ?_
      refine d_cb ?_
      refine d_cons ?_
      refine d_op ?_
      refine d_var rfl ?_
      refine d_cI ?_
      obtain ⟨z3, hz3, k⟩ := gb k
      refine d_ixD rfl hz3 ?_
      refine d_cons ?_
      refine d_cT ?_
      refine d_nil ?_
      refine d_isStr ?_
      refine d_bl ?_
      have k := gs k
      exact ⟨by walk_at "u", k⟩
    refine ite_go k (fun _ k => ?_) (fun _ k => ?_)
    · skip
      refine d_ret ?_
      refine d_cB ?_
      have k := gs k
      exact KW.sub (by walk_at "u") (hK _ k)
    · skip
      refine d_next ?_
      refine d_ret ?_
      refine d_valM (f := PyData.bool) (gc k) (fun R k => ?_) (fun b4 k => ?_)
      · skip
        have k := gc k
        refine d_andV ?_
        refine d_call ?_
        refine d_cons ?_
        refine d_op ?_
        refine d_var rfl ?_
        refine d_cI ?_
        obtain ⟨z5, hz5, k⟩ := gb k
        refine d_ixD rfl hz5 ?_
        refine d_nil ?_
        refine call_is_name  (gc k) fun r6 k => ?_
        refine d_bl ?_
        have k := gs k
        refine ite_goF k (fun _ k => ?_) (fun _ k => ?_)
        · exact ⟨_, rfl, by walk_at "u", gs k⟩
        have k := gc k
        refine d_andV ?_
        refine d_op ?_
        refine d_op ?_
        refine d_var rfl ?_
        refine d_cI ?_
        obtain ⟨z7, hz7, k⟩ := gb k
        refine d_ixD rfl hz7 ?_
        refine d_kt (by repeat' constructor) ?_
        obtain ⟨z8, hz8, k⟩ := gb k
        refine d_inP hz8 ?_
        refine d_bl ?_
        have k := gs k
        refine ite_goF k (fun _ k => ?_) (fun _ k => ?_)
        · exact ⟨_, rfl, by walk_at "u", gs k⟩
        refine d_call ?_
        refine d_cons ?_
        refine d_op ?_
        refine d_var rfl ?_
        refine d_cI ?_
        obtain ⟨z9, hz9, k⟩ := gb k
        refine d_ixD rfl hz9 ?_
        refine d_nil ?_
        refine call_is_number  (gc k) fun r10 k => ?_
        have k := gs k
        exact ⟨_, rfl, by walk_at "u", k⟩
      have k := gs k
      exact KW.sub (by walk_at "u") (hK _ k)
def m_is_hand (thing_ : PyData) : Option (Bool) :=
(orO (some (!(isTup thing_))) ((lenP thing_).bind fun z2 =>
some (!(decide (z2 = (5 : Int)))))).bind fun b1 =>
if b1 = true then (some false) else ((tup5 thing_).bind fun z3 =>
(orO ((m_is_name z3.1).bind fun r5 =>
some (!r5)) (orO ((m_is_number z3.2.1).bind fun r6 =>
some (!r6)) (orO (((asI z3.2.1).bind fun z8 =>
if (decide ((1 : Int) ≤ z8)) = true then ((asI z3.2.1).bind fun z9 =>
some (decide (z9 ≤ (3 : Int)))) else some false).bind fun b7 =>
some (!b7)) (some (!(isBool z3.2.2.1)))))).bind fun b4 =>
if b4 = true then (some false) else ((andO ((m_is_path z3.2.2.2.1).bind fun r11 =>
some r11) (andO (some (isTup z3.2.2.2.2)) ((seqP z3.2.2.2.2).bind fun z12 =>
(okIf (decide (z12.length ≤ 100000))).bind fun z13 =>
(mapO (fun x16 =>
(m_is_hand_change x16).bind fun r17 =>
some r17) z12).bind fun ys14 =>
some (ys14.all id)))).bind fun b10 =>
some b10))
def sp_is_hand : DSp := fun xs S Kt => ∃ (thing_ : PyData) (K : (Bool) → Prop), xs = [.d thing_] ∧ S = [] ∧ go (m_is_hand thing_) K ∧ ∀ r, K r → Kt (.d (PyData.bool r)) []
theorem call_is_hand {S : DS} {Q : DV → DS → Prop} {thing_ : PyData} {K : (Bool) → Prop}  (k : go (m_is_hand thing_) K) (q : ∀ r, K r → Q (.d (PyData.bool r)) (S)) : DCall (sp_is_hand) [.d thing_] S Q := call0 ⟨thing_, K, rfl, rfl, k, fun r h => ⟨_, .refl _, q r h⟩⟩
theorem okd_is_hand {C : Cz} {mg : Str → Option Value} {base : Heap} (T : Env C.K mg) : Fd C mg base 5 "is_hand" p_is_hand sp_is_hand := by
  refine T.l_is_hand.okD sc_is_hand (fun xs S Kt h => ?_) (fun f cdv A outer s H E hr => ⟨_, (pss_cons (ps_if (PW.pt (pw_or (pt_not (pt_val (pe_callB (call_isiU (K := C.K) rfl) (by rfl) T.m_isinstance (by decide +kernel) (pa_cons (pv 0) (pa_cons (pe_bltn (v := .ty "tuple") (u := .type "tuple") rfl T.m_tuple (by decide +kernel) rfl) pa_nil))))) (pw_or1 (pt_cmpR (op_neU (K := C.K) rfl (u64 hr)) (pe_callB (call_lenX (C := C) rfl rfl rfl) (by rfl) T.m_len (by decide +kernel) (pa_cons (pv 0) pa_nil)) pe_int (nomark _))))) (pss_one (ps_ret pe_bl)) pss_nil)
      (pss_cons (ps_asg (pv 0) (pg_tupU (K := C.K) (n := 5) rfl rfl (pgs_cons (pg_name (i := 1) sc_is_hand.nd rfl (Or.inl rfl)) (pgs_cons (pg_name (i := 2) sc_is_hand.nd rfl (Or.inl rfl)) (pgs_cons (pg_name (i := 3) sc_is_hand.nd rfl (Or.inl rfl)) (pgs_cons (pg_name (i := 4) sc_is_hand.nd rfl (Or.inl rfl)) (pgs_cons (pg_name (i := 5) sc_is_hand.nd rfl (Or.inl rfl)) pgs_nil)))))))
      (pss_cons (ps_if (PW.pt (pw_or (pt_not (pt_val (pe_fx (okd_is_name (C := C) T) hr (by decide) (pa_cons (pv 1) pa_nil)))) (pw_or (pt_not (pt_val (pe_fx (okd_is_number (C := C) T) hr (by decide) (pa_cons (pv 2) pa_nil)))) (pw_or (pt_not (pt_chain op_le op_le pe_int (pv 2) pe_int)) (pw_or1 (pt_not (pt_val (pe_callB (call_isiU (K := C.K) rfl) (by rfl) T.m_isinstance (by decide +kernel) (pa_cons (pv 3) (pa_cons (pe_bltn (v := .ty "bool") (u := .type "bool") rfl T.m_bool (by decide +kernel) rfl) pa_nil)))))))))) (pss_one (ps_ret pe_bl)) pss_nil)
      (pss_one (ps_ret (pe_and (pe_fx (okd_is_path (C := C) T) hr (by decide) (pa_cons (pv 4) pa_nil)) (pe_and (pe_callB (call_isiU (K := C.K) rfl) (by rfl) T.m_isinstance (by decide +kernel) (pa_cons (pv 5) (pa_cons (pe_bltn (v := .ty "tuple") (u := .type "tuple") rfl T.m_tuple (by decide +kernel) rfl) pa_nil))) (pe_one (pe_callB (call_allU (K := C.K) rfl rfl) (by rfl) T.m_all (by decide +kernel) (pa_cons (pe_lc (own := [("one", 6)]) (g := (gName 6)) (tt := tYes) rfl sc_is_hand.nd (pi_UU (K := C.K) rfl (pv 5)) (blkOk_by (N := N_is_hand) (sc := defScope s_is_hand) (by decide +kernel)) (fun _ _ _ _ _ => (pg_name (i := 6) sc_is_hand.nd rfl (Or.inl rfl))) (fun _ _ _ _ _ => pts_nil) (fun _ _ _ _ _ => (pe_fx (okd_is_hand_change (C := C) T) hr (by decide) (pa_cons (pv 6) pa_nil)))) pa_nil)))))))))), fun xs S Kt h => ?_⟩)
  · obtain ⟨_, _, rfl, _⟩ := h
    rfl
  · obtain ⟨thing_, K, rfl, rfl, k, hK⟩ := h
    unfold m_is_hand at k
    show DSt C _ [some (.d thing_), none, none, none, none, none, none] _ _
    refine d_seq ?_
    refine d_ifS ?_
    refine d_testM (gc k) (fun R k => ?_) (fun b1 k => ?_)
    · skip
      have k := gc k
      refine d_or ?_
      refine d_not ?_
      first | refine d_test ?_ | refine d_B ?_
      refine d_cb ?_
      refine d_cons ?_
      refine d_var rfl ?_
      refine d_cons ?_
      refine d_cT ?_
      refine d_nil ?_
      refine d_isTup ?_
      refine d_bl ?_
      have k := gs k
      refine ite_go k (fun _ k => ?_) (fun _ k => ?_)
      · exact ⟨by walk_at "u", gs k⟩
      first | refine d_test ?_ | refine d_B ?_
      refine d_op ?_
      refine d_cb ?_
      refine d_cons ?_
      refine d_var rfl ?_
      refine d_nil ?_
      obtain ⟨z2, hz2, k⟩ := gb k
      refine d_lenX (d_lenP hz2 ?_)
      refine d_cI ?_
      refine d_neI ?_
      refine d_bl ?_
      have k := gs k
      exact ⟨by walk_at "u", k⟩
    refine ite_go k (fun _ k => ?_) (fun _ k => ?_)
    · skip
      refine d_ret ?_
      refine d_cB ?_
      have k := gs k
      exact KW.sub (by walk_at "u") (hK _ k)
    · skip
      refine d_next ?_
      refine d_seq ?_
      refine d_asg ?_
      refine d_var rfl ?_
      obtain ⟨z3, hz3, k⟩ := gb k
      refine d_gt5 hz3 ?_
      refine d_gcons ?_
      refine d_name ?_
      refine d_gcons ?_
      refine d_name ?_
      refine d_gcons ?_
      refine d_name ?_
      refine d_gcons ?_
      refine d_name ?_
      refine d_gcons ?_
      refine d_name ?_
      refine d_gnil ?_
      refine d_seq ?_
      refine d_ifS ?_
      refine d_testM (gc k) (fun R k => ?_) (fun b4 k => ?_)
      · skip
        have k := gc k
        refine d_or ?_
        refine d_not ?_
        first | refine d_test ?_ | refine d_B ?_
        refine d_call ?_
        refine d_cons ?_
        refine d_var rfl ?_
        refine d_nil ?_
        refine call_is_name  (gc k) fun r5 k => ?_
        refine d_bl ?_
        have k := gs k
        refine ite_go k (fun _ k => ?_) (fun _ k => ?_)
        · exact ⟨by walk_at "u", gs k⟩
        have k := gc k
        refine d_or ?_
        refine d_not ?_
        first | refine d_test ?_ | refine d_B ?_
        refine d_call ?_
        refine d_cons ?_
        refine d_var rfl ?_
        refine d_nil ?_
        refine call_is_number  (gc k) fun r6 k => ?_
        refine d_bl ?_
        have k := gs k
        refine ite_go k (fun _ k => ?_) (fun _ k => ?_)
        · exact ⟨by walk_at "u", gs k⟩
        have k := gc k
        refine d_or ?_
        refine d_not ?_
        first | refine d_test ?_ | refine d_B ?_
        refine d_valM (f := PyData.bool) (gc k) (fun R k => ?_) (fun b7 k => ?_)
        · skip
          refine d_chain ?_
          refine d_cI ?_
          refine d_var rfl ?_
          obtain ⟨z8, hz8, k⟩ := gb k
          refine d_cmpP rfl hz8 ?_
          refine d_bl ?_
          refine ite_goF k (fun _ k => ?_) (fun _ k => ?_)
          · exact ⟨_, rfl, by walk_at "u", gs k⟩
          refine d_cI ?_
          obtain ⟨z9, hz9, k⟩ := gb k
          refine d_cmpP hz9 rfl ?_
          have k := gs k
          exact ⟨_, rfl, by walk_at "u", k⟩
        refine d_bl ?_
        have k := gs k
        refine ite_go k (fun _ k => ?_) (fun _ k => ?_)
        · exact ⟨by walk_at "u", gs k⟩
        refine d_not ?_
        first | refine d_test ?_ | refine d_B ?_
        refine d_cb ?_
        refine d_cons ?_
        refine d_var rfl ?_
        refine d_cons ?_
        refine d_cT ?_
        refine d_nil ?_
        refine d_isBool ?_
        refine d_bl ?_
        have k := gs k
        exact ⟨by walk_at "u", k⟩
      refine ite_go k (fun _ k => ?_) (fun _ k => ?_)
      · skip
        refine d_ret ?_
        refine d_cB ?_
        have k := gs k
        exact KW.sub (by walk_at "u") (hK _ k)
      · skip
        refine d_next ?_
        refine d_ret ?_
        refine d_valM (f := PyData.bool) (gc k) (fun R k => ?_) (fun b10 k => ?_)
        · skip
          have k := gc k
          refine d_andV ?_
          refine d_call ?_
          refine d_cons ?_
          refine d_var rfl ?_
          refine d_nil ?_
          refine call_is_path  (gc k) fun r11 k => ?_
          refine d_bl ?_
          have k := gs k
          refine ite_goF k (fun _ k => ?_) (fun _ k => ?_)
          · exact ⟨_, rfl, by walk_at "u", gs k⟩
          have k := gc k
          refine d_andV ?_
          refine d_cb ?_
          refine d_cons ?_
          refine d_var rfl ?_
          refine d_cons ?_
          refine d_cT ?_
          refine d_nil ?_
          refine d_isTup ?_
          refine d_bl ?_
          have k := gs k
          refine ite_goF k (fun _ k => ?_) (fun _ k => ?_)
          · exact ⟨_, rfl, by walk_at "u", gs k⟩
          refine d_cb ?_
          refine d_cons ?_
          refine d_lcU ?_
          refine d_var rfl ?_
          obtain ⟨z12, hz12, k⟩ := gb k
          obtain ⟨z13, hz13, k⟩ := gb k
          refine lc_seq hz12 ?_
          refine lcGb (eb := PyData.bool) (emb := DV.d) (mapO_M (gc k)) gk_name (okIf_d hz13) (fun x16 _ R k => ?_) (fun ys14 k p15 => ?_)
          · skip
            refine d_name ?_
            refine d_call ?_
            refine d_cons ?_
            refine d_var rfl ?_
            refine d_nil ?_
            refine call_is_hand_change  (gc k) fun r17 k => ?_
            have k := gs k
            exact ⟨_, rfl, by walk_at "u", k⟩
          refine d_nil ?_
          refine d_allP ?_
          have k := gs k
          exact ⟨_, rfl, by walk_at "u", k⟩
        have k := gs k
        exact KW.sub (by walk_at "u") (hK _ k)
def m_is_hands (thing_ : PyData) : Option (Bool) :=
(orO (some (!(isTup thing_))) ((seqP thing_).bind fun z2 =>
(okIf (decide (z2.length ≤ 100000))).bind fun z3 =>
(mapO (fun x6 =>
(m_is_hand x6).bind fun r7 =>
some r7) z2).bind fun ys4 =>
some (!(ys4.all id)))).bind fun b1 =>
if b1 = true then (some false) else ((seqP thing_).bind fun z8 =>
(okIf (decide (z8.length ≤ 100000))).bind fun z9 =>
(mapO (fun x12 =>
(ixP x12 (0 : Int)).bind fun z13 =>
some z13) z8).bind fun ys10 =>
(setLenP ys10).bind fun z14 =>
(lenP thing_).bind fun z17 =>
some (decide ((z14 : Int) = z17)))
def sp_is_hands : DSp := fun xs S Kt => ∃ (thing_ : PyData) (K : (Bool) → Prop), xs = [.d thing_] ∧ S = [] ∧ go (m_is_hands thing_) K ∧ ∀ r, K r → Kt (.d (PyData.bool r)) []
theorem call_is_hands {S : DS} {Q : DV → DS → Prop} {thing_ : PyData} {K : (Bool) → Prop}  (k : go (m_is_hands thing_) K) (q : ∀ r, K r → Q (.d (PyData.bool r)) (S)) : DCall (sp_is_hands) [.d thing_] S Q := call0 ⟨thing_, K, rfl, rfl, k, fun r h => ⟨_, .refl _, q r h⟩⟩
theorem okd_is_hands {C : Cz} {mg : Str → Option Value} {base : Heap} (T : Env C.K mg) : Fd C mg base 6 "is_hands" p_is_hands sp_is_hands := by
  refine T.l_is_hands.okD sc_is_hands (fun xs S Kt h => ?_) (fun f cdv A outer s H E hr => ⟨_, (pss_cons (ps_if (PW.pt (pw_or (pt_not (pt_val (pe_callB (call_isiU (K := C.K) rfl) (by rfl) T.m_isinstance (by decide +kernel) (pa_cons (pv 0) (pa_cons (pe_bltn (v := .ty "tuple") (u := .type "tuple") rfl T.m_tuple (by decide +kernel) rfl) pa_nil))))) (pw_or1 (pt_not (pt_val (pe_callB (call_allU (K := C.K) rfl rfl) (by rfl) T.m_all (by decide +kernel) (pa_cons (pe_lc (own := [("one", 1)]) (g := (gName 1)) (tt := tYes) rfl sc_is_hands.nd (pi_UU (K := C.K) rfl (pv 0)) (blkOk_by (N := N_is_hands) (sc := defScope s_is_hands) (by decide +kernel)) (fun _ _ _ _ _ => (pg_name (i := 1) sc_is_hands.nd rfl (Or.inl rfl))) (fun _ _ _ _ _ => pts_nil) (fun _ _ _ _ _ => (pe_fx (okd_is_hand (C := C) T) hr (by decide) (pa_cons (pv 1) pa_nil)))) pa_nil))))))) (pss_one (ps_ret pe_bl)) pss_nil)
      (pss_one (ps_ret (pe_cmpR (op_eqU (K := C.K) rfl (u64 hr)) (pe_callB (call_lenX (C := C) rfl rfl rfl) (by rfl) T.m_len (by decide +kernel) (pa_cons (pe_callTy (call_setX (C := C) rfl rfl rfl rfl (u65 hr)) (by rfl) T.m_set (by decide +kernel) (pa_cons (pe_lc (own := [("hand", 2)]) (g := (gName 2)) (tt := tYes) rfl sc_is_hands.nd (pi_UU (K := C.K) rfl (pv 0)) (blkOk_by (N := N_is_hands) (sc := defScope s_is_hands) (by decide +kernel)) (fun _ _ _ _ _ => (pg_name (i := 2) sc_is_hands.nd rfl (Or.inl rfl))) (fun _ _ _ _ _ => pts_nil) (fun _ _ _ _ _ => (pe_ix (ix_U (K := C.K) rfl) (pv 2) pe_int (fun _ _ => rfl)))) pa_nil)) pa_nil)) (pe_callB (call_lenX (C := C) rfl rfl rfl) (by rfl) T.m_len (by decide +kernel) (pa_cons (pv 0) pa_nil)) (nomark _))))), fun xs S Kt h => ?_⟩)
  · obtain ⟨_, _, rfl, _⟩ := h
    rfl
  · obtain ⟨thing_, K, rfl, rfl, k, hK⟩ := h
    unfold m_is_hands at k
    show DSt C _ [some (.d thing_), none, none] _ _
    refine d_seq ?_
    refine d_ifS ?_
    refine d_testM (gc k) (fun R k => ?_) (fun b1 k => ?_)
    · skip
      have k := gc k
      refine d_or ?_
      refine d_not ?_
      first | refine d_test ?_ | refine d_B ?_
      refine d_cb ?_
      refine d_cons ?_
      refine d_var rfl ?_
      refine d_cons ?_
      refine d_cT ?_
      refine d_nil ?_
      refine d_isTup ?_
      refine d_bl ?_
      have k := gs k
      refine ite_go k (fun _ k => ?_) (fun _ k => ?_)
      · exact ⟨by walk_at "u", gs k⟩
      refine d_not ?_
      first | refine d_test ?_ | refine d_B ?_
      refine d_cb ?_
      refine d_cons ?_
      refine d_lcU ?_
      refine d_var rfl ?_
      obtain ⟨z2, hz2, k⟩ := gb k
      obtain ⟨z3, hz3, k⟩ := gb k
      refine lc_seq hz2 ?_
      refine lcGb (eb := PyData.bool) (emb := DV.d) (mapO_M (gc k)) gk_name (okIf_d hz3) (fun x6 _ R k => ?_) (fun ys4 k p5 => ?_)
      · skip
        refine d_name ?_
        refine d_call ?_
        refine d_cons ?_
        refine d_var rfl ?_
        refine d_nil ?_
        refine call_is_hand  (gc k) fun r7 k => ?_
        have k := gs k
        exact ⟨_, rfl, by walk_at "u", k⟩
      refine d_nil ?_
      refine d_allP ?_
      refine d_bl ?_
      have k := gs k
      exact ⟨by walk_at "u", k⟩
    refine ite_go k (fun _ k => ?_) (fun _ k => ?_)
    · skip
      refine d_ret ?_
      refine d_cB ?_
      have k := gs k
      exact KW.sub (by walk_at "u") (hK _ k)
    · skip
      refine d_next ?_
      refine d_ret ?_
      refine d_op ?_
      refine d_cb ?_
      refine d_cons ?_
      refine d_cb ?_
      refine d_cons ?_
      refine d_lcU ?_
      refine d_var rfl ?_
      obtain ⟨z8, hz8, k⟩ := gb k
      obtain ⟨z9, hz9, k⟩ := gb k
      refine lc_seq hz8 ?_
      refine lcG (emb := DV.d) (mapO_M (gc k)) gk_name (okIf_d hz9) (fun x12 _ R k => ?_) (fun ys10 k p11 => ?_)
      · skip
        refine d_name ?_
        refine d_op ?_
        refine d_var rfl ?_
        refine d_cI ?_
        obtain ⟨z13, hz13, k⟩ := gb k
        refine d_ixD rfl hz13 ?_
        have k := gs k
        exact ⟨_, rfl, by walk_at "u", k⟩
      refine d_nil ?_
      obtain ⟨z14, hz14, k⟩ := gb k
      refine d_setLP (by walk_at "p") hz14 fun p15 O16 hO16 => ?_
      refine d_nil ?_
      refine d_lenSP (by walk_at "p") hO16 ?_
      refine d_cb ?_
      refine d_cons ?_
      refine d_var rfl ?_
      refine d_nil ?_
      obtain ⟨z17, hz17, k⟩ := gb k
      refine d_lenX (d_lenP hz17 ?_)
      refine d_eqI ?_
      have k := gs k
      exact KW.sub (by walk_at "u") (hK _ k)
mutual
def m_is_box : Nat → PyData → Option (Bool)
  | 0, _ => none
  | n + 1, thing_ =>
    (orO (some (!(isTup thing_))) ((lenP thing_).bind fun z2 =>
    some (!(decide (z2 = (4 : Int)))))).bind fun b1 =>
    if b1 = true then (some false) else ((andO ((ixP thing_ (0 : Int)).bind fun z4 =>
    (m_is_name z4).bind fun r5 =>
    some r5) (andO ((ixP thing_ (1 : Int)).bind fun z6 =>
    (m_is_sets z6).bind fun r7 =>
    some r7) (andO ((ixP thing_ (2 : Int)).bind fun z8 =>
    (m_is_hands z8).bind fun r9 =>
    some r9) ((ixP thing_ (3 : Int)).bind fun z10 =>
    (m_is_tree n z10).bind fun r11 =>
    some r11)))).bind fun b3 =>
    some b3)
def m_is_labelled : Nat → PyData → Option (Bool)
  | 0, _ => none
  | n + 1, thing_ =>
    (andO (some (isTup thing_)) (andO ((lenP thing_).bind fun z2 =>
    some (decide (z2 = (2 : Int)))) (andO ((ixP thing_ (0 : Int)).bind fun z3 =>
    (m_is_label z3).bind fun r4 =>
    some r4) ((ixP thing_ (1 : Int)).bind fun z5 =>
    (m_is_box n z5).bind fun r6 =>
    some r6)))).bind fun b1 =>
    some b1
def m_is_tree : Nat → PyData → Option (Bool)
  | 0, _ => none
  | n + 1, thing_ =>
    (orO (some (!(isTup thing_))) ((seqP thing_).bind fun z2 =>
    (okIf (decide (z2.length ≤ 100000))).bind fun z3 =>
    (mapO (fun x6 =>
    (m_is_labelled n x6).bind fun r7 =>
    some r7) z2).bind fun ys4 =>
    some (!(ys4.all id)))).bind fun b1 =>
    if b1 = true then (some false) else ((seqP thing_).bind fun z8 =>
    (okIf (decide (z8.length ≤ 100000))).bind fun z9 =>
    (mapO (fun x12 =>
    (ixP x12 (0 : Int)).bind fun z13 =>
    some z13) z8).bind fun ys10 =>
    (setLenP ys10).bind fun z14 =>
    (lenP thing_).bind fun z17 =>
    some (decide ((z14 : Int) = z17)))
end
def sp_is_box (n : Nat) : DSp := fun xs S Kt => ∃ (thing_ : PyData) (K : (Bool) → Prop), xs = [.d thing_] ∧ S = [] ∧ go (m_is_box n thing_) K ∧ ∀ r, K r → Kt (.d (PyData.bool r)) []
theorem call_is_box {n : Nat} {S : DS} {Q : DV → DS → Prop} {thing_ : PyData} {K : (Bool) → Prop}  (k : go (m_is_box n thing_) K) (q : ∀ r, K r → Q (.d (PyData.bool r)) (S)) : DCall (sp_is_box n) [.d thing_] S Q := call0 ⟨thing_, K, rfl, rfl, k, fun r h => ⟨_, .refl _, q r h⟩⟩
def sp_is_labelled (n : Nat) : DSp := fun xs S Kt => ∃ (thing_ : PyData) (K : (Bool) → Prop), xs = [.d thing_] ∧ S = [] ∧ go (m_is_labelled n thing_) K ∧ ∀ r, K r → Kt (.d (PyData.bool r)) []
theorem call_is_labelled {n : Nat} {S : DS} {Q : DV → DS → Prop} {thing_ : PyData} {K : (Bool) → Prop}  (k : go (m_is_labelled n thing_) K) (q : ∀ r, K r → Q (.d (PyData.bool r)) (S)) : DCall (sp_is_labelled n) [.d thing_] S Q := call0 ⟨thing_, K, rfl, rfl, k, fun r h => ⟨_, .refl _, q r h⟩⟩
def sp_is_tree (n : Nat) : DSp := fun xs S Kt => ∃ (thing_ : PyData) (K : (Bool) → Prop), xs = [.d thing_] ∧ S = [] ∧ go (m_is_tree n thing_) K ∧ ∀ r, K r → Kt (.d (PyData.bool r)) []
theorem call_is_tree {n : Nat} {S : DS} {Q : DV → DS → Prop} {thing_ : PyData} {K : (Bool) → Prop}  (k : go (m_is_tree n thing_) K) (q : ∀ r, K r → Q (.d (PyData.bool r)) (S)) : DCall (sp_is_tree n) [.d thing_] S Q := call0 ⟨thing_, K, rfl, rfl, k, fun r h => ⟨_, .refl _, q r h⟩⟩
theorem okn_is_box {C : Cz} {mg : Str → Option Value} {base : Heap} (T : Env C.K mg) : ∀ n, Fd C mg base (7 + n) "is_box" p_is_box (sp_is_box n) ∧ Fd C mg base (7 + n) "is_labelled" p_is_labelled (sp_is_labelled n) ∧ Fd C mg base (7 + n) "is_tree" p_is_tree (sp_is_tree n)
  | 0 => ⟨(T.l_is_box.okD0 sc_is_box fun xs S Kt ⟨thing_, K, _, _, k, _⟩ => (by unfold m_is_box at k; obtain ⟨_, e, _⟩ := k; cases e)), (T.l_is_labelled.okD0 sc_is_labelled fun xs S Kt ⟨thing_, K, _, _, k, _⟩ => (by unfold m_is_labelled at k; obtain ⟨_, e, _⟩ := k; cases e)), (T.l_is_tree.okD0 sc_is_tree fun xs S Kt ⟨thing_, K, _, _, k, _⟩ => (by unfold m_is_tree at k; obtain ⟨_, e, _⟩ := k; cases e))⟩
  | n + 1 => by
    have IHs := okn_is_box (C := C) (base := base) T n
    obtain ⟨IH_is_box, IH_is_labelled, IH_is_tree⟩ := IHs
    refine ⟨?_, ?_, ?_⟩
    · refine T.l_is_box.okD sc_is_box (fun xs S Kt h => ?_) (fun f cdv A outer s H E hr => ⟨_, (pss_cons (ps_if (PW.pt (pw_or (pt_not (pt_val (pe_callB (call_isiU (K := C.K) rfl) (by rfl) T.m_isinstance (by decide +kernel) (pa_cons (pv 0) (pa_cons (pe_bltn (v := .ty "tuple") (u := .type "tuple") rfl T.m_tuple (by decide +kernel) rfl) pa_nil))))) (pw_or1 (pt_cmpR (op_neU (K := C.K) rfl (u64 hr)) (pe_callB (call_lenX (C := C) rfl rfl rfl) (by rfl) T.m_len (by decide +kernel) (pa_cons (pv 0) pa_nil)) pe_int (nomark _))))) (pss_one (ps_ret pe_bl)) pss_nil)
      (pss_one (ps_ret (pe_and (pe_fx (okd_is_name (C := C) T) hr (Nat.le_trans (m := 7) (by decide) (Nat.le_add_right 7 _)) (pa_cons (pe_ix (ix_U (K := C.K) rfl) (pv 0) pe_int (fun _ _ => rfl)) pa_nil)) (pe_and (pe_fx (okd_is_sets (C := C) T) hr (Nat.le_trans (m := 7) (by decide) (Nat.le_add_right 7 _)) (pa_cons (pe_ix (ix_U (K := C.K) rfl) (pv 0) pe_int (fun _ _ => rfl)) pa_nil)) (pe_and (pe_fx (okd_is_hands (C := C) T) hr (Nat.le_trans (m := 7) (by decide) (Nat.le_add_right 7 _)) (pa_cons (pe_ix (ix_U (K := C.K) rfl) (pv 0) pe_int (fun _ _ => rfl)) pa_nil)) (pe_one (pe_fx (IH_is_tree) hr (Nat.le_refl _) (pa_cons (pe_ix (ix_U (K := C.K) rfl) (pv 0) pe_int (fun _ _ => rfl)) pa_nil))))))))), fun xs S Kt h => ?_⟩)
      · obtain ⟨_, _, rfl, _⟩ := h
        rfl
      · obtain ⟨thing_, K, rfl, rfl, k, hK⟩ := h
        unfold m_is_box at k
        show DSt C _ [some (.d thing_)] _ _
        refine d_seq ?_
        refine d_ifS ?_
        refine d_testM (gc k) (fun R k => ?_) (fun b1 k => ?_)
        · skip
          have k := gc k
          refine d_or ?_
          refine d_not ?_
          first | refine d_test ?_ | refine d_B ?_
          refine d_cb ?_
          refine d_cons ?_
          refine d_var rfl ?_
          refine d_cons ?_
          refine d_cT ?_
          refine d_nil ?_
          refine d_isTup ?_
          refine d_bl ?_
          have k := gs k
          refine ite_go k (fun _ k => ?_) (fun _ k => ?_)
          · exact ⟨by walk_at "u", gs k⟩
          first | refine d_test ?_ | refine d_B ?_
          refine d_op ?_
          refine d_cb ?_
          refine d_cons ?_
          refine d_var rfl ?_
          refine d_nil ?_
          obtain ⟨z2, hz2, k⟩ := gb k
          refine d_lenX (d_lenP hz2 ?_)
          refine d_cI ?_
          refine d_neI ?_
          refine d_bl ?_
          have k := gs k
          exact ⟨by walk_at "u", k⟩
        refine ite_go k (fun _ k => ?_) (fun _ k => ?_)
        · skip
          refine d_ret ?_
          refine d_cB ?_
          have k := gs k
          exact KW.sub (by walk_at "u") (hK _ k)
        · skip
          refine d_next ?_
          refine d_ret ?_
          refine d_valM (f := PyData.bool) (gc k) (fun R k => ?_) (fun b3 k => ?_)
          · skip
            have k := gc k
            refine d_andV ?_
            refine d_call ?_
            refine d_cons ?_
            refine d_op ?_
            refine d_var rfl ?_
            refine d_cI ?_
            obtain ⟨z4, hz4, k⟩ := gb k
            refine d_ixD rfl hz4 ?_
            refine d_nil ?_
            refine call_is_name  (gc k) fun r5 k => ?_
            refine d_bl ?_
            have k := gs k
            refine ite_goF k (fun _ k => ?_) (fun _ k => ?_)
            · exact ⟨_, rfl, by walk_at "u", gs k⟩
            have k := gc k
            refine d_andV ?_
            refine d_call ?_
            refine d_cons ?_
            refine d_op ?_
            refine d_var rfl ?_
            refine d_cI ?_
            obtain ⟨z6, hz6, k⟩ := gb k
            refine d_ixD rfl hz6 ?_
            refine d_nil ?_
            refine call_is_sets  (gc k) fun r7 k => ?_
            refine d_bl ?_
            have k := gs k
            refine ite_goF k (fun _ k => ?_) (fun _ k => ?_)
            · exact ⟨_, rfl, by walk_at "u", gs k⟩
            have k := gc k
            refine d_andV ?_
            refine d_call ?_
            refine d_cons ?_
            refine d_op ?_
            refine d_var rfl ?_
            refine d_cI ?_
            obtain ⟨z8, hz8, k⟩ := gb k
            refine d_ixD rfl hz8 ?_
            refine d_nil ?_
            refine call_is_hands  (gc k) fun r9 k => ?_
            refine d_bl ?_
            have k := gs k
            refine ite_goF k (fun _ k => ?_) (fun _ k => ?_)
            · exact ⟨_, rfl, by walk_at "u", gs k⟩
            refine d_call ?_
            refine d_cons ?_
            refine d_op ?_
            refine d_var rfl ?_
            refine d_cI ?_
            obtain ⟨z10, hz10, k⟩ := gb k
            refine d_ixD rfl hz10 ?_
            refine d_nil ?_
            refine call_is_tree  (gc k) fun r11 k => ?_
            have k := gs k
            exact ⟨_, rfl, by walk_at "u", k⟩
          have k := gs k
          exact KW.sub (by walk_at "u") (hK _ k)
    · refine T.l_is_labelled.okD sc_is_labelled (fun xs S Kt h => ?_) (fun f cdv A outer s H E hr => ⟨_, (pss_one (ps_ret (pe_and (pe_callB (call_isiU (K := C.K) rfl) (by rfl) T.m_isinstance (by decide +kernel) (pa_cons (pv 0) (pa_cons (pe_bltn (v := .ty "tuple") (u := .type "tuple") rfl T.m_tuple (by decide +kernel) rfl) pa_nil))) (pe_and (pe_cmpR (op_eqU (K := C.K) rfl (u64 hr)) (pe_callB (call_lenX (C := C) rfl rfl rfl) (by rfl) T.m_len (by decide +kernel) (pa_cons (pv 0) pa_nil)) pe_int (nomark _)) (pe_and (pe_fx (okd_is_label (C := C) T) hr (Nat.le_trans (m := 7) (by decide) (Nat.le_add_right 7 _)) (pa_cons (pe_ix (ix_U (K := C.K) rfl) (pv 0) pe_int (fun _ _ => rfl)) pa_nil)) (pe_one (pe_fx (IH_is_box) hr (Nat.le_refl _) (pa_cons (pe_ix (ix_U (K := C.K) rfl) (pv 0) pe_int (fun _ _ => rfl)) pa_nil)))))))), fun xs S Kt h => ?_⟩)
      · obtain ⟨_, _, rfl, _⟩ := h
        rfl
      · obtain ⟨thing_, K, rfl, rfl, k, hK⟩ := h
        unfold m_is_labelled at k
        show DSt C _ [some (.d thing_)] _ _
        refine d_ret ?_
        refine d_valM (f := PyData.bool) (gc k) (fun R k => ?_) (fun b1 k => ?_)
        · skip
          have k := gc k
          refine d_andV ?_
          refine d_cb ?_
          refine d_cons ?_
          refine d_var rfl ?_
          refine d_cons ?_
          refine d_cT ?_
          refine d_nil ?_
          refine d_isTup ?_
          refine d_bl ?_
          have k := gs k
          refine ite_goF k (fun _ k => ?_) (fun _ k => ?_)
          · exact ⟨_, rfl, by walk_at "u", gs k⟩
          have k := gc k
          refine d_andV ?_
          refine d_op ?_
          refine d_cb ?_
          refine d_cons ?_
          refine d_var rfl ?_
          refine d_nil ?_
          obtain ⟨z2, hz2, k⟩ := gb k
          refine d_lenX (d_lenP hz2 ?_)
          refine d_cI ?_
          refine d_eqI ?_
          refine d_bl ?_
          have k := gs k
          refine ite_goF k (fun _ k => ?_) (fun _ k => ?_)
          · exact ⟨_, rfl, by walk_at "u", gs k⟩
          have k := gc k
          refine d_andV ?_
          refine d_call ?_
          refine d_cons ?_
          refine d_op ?_
          refine d_var rfl ?_
          refine d_cI ?_
          obtain ⟨z3, hz3, k⟩ := gb k
          refine d_ixD rfl hz3 ?_
          refine d_nil ?_
          refine call_is_label  (gc k) fun r4 k => ?_
          refine d_bl ?_
          have k := gs k
          refine ite_goF k (fun _ k => ?_) (fun _ k => ?_)
          · exact ⟨_, rfl, by walk_at "u", gs k⟩
          refine d_call ?_
          refine d_cons ?_
          refine d_op ?_
          refine d_var rfl ?_
          refine d_cI ?_
          obtain ⟨z5, hz5, k⟩ := gb k
          refine d_ixD rfl hz5 ?_
          refine d_nil ?_
          refine call_is_box  (gc k) fun r6 k => ?_
          have k := gs k
          exact ⟨_, rfl, by walk_at "u", k⟩
        have k := gs k
        exact KW.sub (by walk_at "u") (hK _ k)
    · refine T.l_is_tree.okD sc_is_tree (fun xs S Kt h => ?_) (fun f cdv A outer s H E hr => ⟨_, (pss_cons (ps_if (PW.pt (pw_or (pt_not (pt_val (pe_callB (call_isiU (K := C.K) rfl) (by rfl) T.m_isinstance (by decide +kernel) (pa_cons (pv 0) (pa_cons (pe_bltn (v := .ty "tuple") (u := .type "tuple") rfl T.m_tuple (by decide +kernel) rfl) pa_nil))))) (pw_or1 (pt_not (pt_val (pe_callB (call_allU (K := C.K) rfl rfl) (by rfl) T.m_all (by decide +kernel) (pa_cons (pe_lc (own := [("one", 1)]) (g := (gName 1)) (tt := tYes) rfl sc_is_tree.nd (pi_UU (K := C.K) rfl (pv 0)) (blkOk_by (N := N_is_tree) (sc := defScope s_is_tree) (by decide +kernel)) (fun _ _ _ _ _ => (pg_name (i := 1) sc_is_tree.nd rfl (Or.inl rfl))) (fun _ _ _ _ _ => pts_nil) (fun _ _ _ _ _ => (pe_fx (IH_is_labelled) hr (Nat.le_refl _) (pa_cons (pv 1) pa_nil)))) pa_nil))))))) (pss_one (ps_ret pe_bl)) pss_nil)
      (pss_one (ps_ret (pe_cmpR (op_eqU (K := C.K) rfl (u64 hr)) (pe_callB (call_lenX (C := C) rfl rfl rfl) (by rfl) T.m_len (by decide +kernel) (pa_cons (pe_callTy (call_setX (C := C) rfl rfl rfl rfl (u65 hr)) (by rfl) T.m_set (by decide +kernel) (pa_cons (pe_lc (own := [("one", 1)]) (g := (gName 1)) (tt := tYes) rfl sc_is_tree.nd (pi_UU (K := C.K) rfl (pv 0)) (blkOk_by (N := N_is_tree) (sc := defScope s_is_tree) (by decide +kernel)) (fun _ _ _ _ _ => (pg_name (i := 1) sc_is_tree.nd rfl (Or.inl rfl))) (fun _ _ _ _ _ => pts_nil) (fun _ _ _ _ _ => (pe_ix (ix_U (K := C.K) rfl) (pv 1) pe_int (fun _ _ => rfl)))) pa_nil)) pa_nil)) (pe_callB (call_lenX (C := C) rfl rfl rfl) (by rfl) T.m_len (by decide +kernel) (pa_cons (pv 0) pa_nil)) (nomark _))))), fun xs S Kt h => ?_⟩)
      · obtain ⟨_, _, rfl, _⟩ := h
        rfl
      · obtain ⟨thing_, K, rfl, rfl, k, hK⟩ := h
        unfold m_is_tree at k
        show DSt C _ [some (.d thing_), none] _ _
        refine d_seq ?_
        refine d_ifS ?_
        refine d_testM (gc k) (fun R k => ?_) (fun b1 k => ?_)
        · skip
          have k := gc k
          refine d_or ?_
          refine d_not ?_
          first | refine d_test ?_ | refine d_B ?_
          refine d_cb ?_
          refine d_cons ?_
          refine d_var rfl ?_
          refine d_cons ?_
          refine d_cT ?_
          refine d_nil ?_
          refine d_isTup ?_
          refine d_bl ?_
          have k := gs k
          refine ite_go k (fun _ k => ?_) (fun _ k => ?_)
          · exact ⟨by walk_at "u", gs k⟩
          refine d_not ?_
          first | refine d_test ?_ | refine d_B ?_
          refine d_cb ?_
          refine d_cons ?_
          refine d_lcU ?_
          refine d_var rfl ?_
          obtain ⟨z2, hz2, k⟩ := gb k
          obtain ⟨z3, hz3, k⟩ := gb k
          refine lc_seq hz2 ?_
          refine lcGb (eb := PyData.bool) (emb := DV.d) (mapO_M (gc k)) gk_name (okIf_d hz3) (fun x6 _ R k => ?_) (fun ys4 k p5 => ?_)
          · skip
            refine d_name ?_
            refine d_call ?_
            refine d_cons ?_
            refine d_var rfl ?_
            refine d_nil ?_
            refine call_is_labelled  (gc k) fun r7 k => ?_
            have k := gs k
            exact ⟨_, rfl, by walk_at "u", k⟩
          refine d_nil ?_
          refine d_allP ?_
          refine d_bl ?_
          have k := gs k
          exact ⟨by walk_at "u", k⟩
        refine ite_go k (fun _ k => ?_) (fun _ k => ?_)
        · skip
          refine d_ret ?_
          refine d_cB ?_
          have k := gs k
          exact KW.sub (by walk_at "u") (hK _ k)
        · skip
          refine d_next ?_
          refine d_ret ?_
          refine d_op ?_
          refine d_cb ?_
          refine d_cons ?_
          refine d_cb ?_
          refine d_cons ?_
          refine d_lcU ?_
          refine d_var rfl ?_
          obtain ⟨z8, hz8, k⟩ := gb k
          obtain ⟨z9, hz9, k⟩ := gb k
          refine lc_seq hz8 ?_
          refine lcG (emb := DV.d) (mapO_M (gc k)) gk_name (okIf_d hz9) (fun x12 _ R k => ?_) (fun ys10 k p11 => ?_)
          · skip
            refine d_name ?_
            refine d_op ?_
            refine d_var rfl ?_
            refine d_cI ?_
            obtain ⟨z13, hz13, k⟩ := gb k
            refine d_ixD rfl hz13 ?_
            have k := gs k
            exact ⟨_, rfl, by walk_at "u", k⟩
          refine d_nil ?_
          obtain ⟨z14, hz14, k⟩ := gb k
          refine d_setLP (by walk_at "p") hz14 fun p15 O16 hO16 => ?_
          refine d_nil ?_
          refine d_lenSP (by walk_at "p") hO16 ?_
          refine d_cb ?_
          refine d_cons ?_
          refine d_var rfl ?_
          refine d_nil ?_
          obtain ⟨z17, hz17, k⟩ := gb k
          refine d_lenX (d_lenP hz17 ?_)
          refine d_eqI ?_
          have k := gs k
          exact KW.sub (by walk_at "u") (hK _ k)
theorem okd_is_box {C : Cz} {mg : Str → Option Value} {base : Heap} (T : Env C.K mg) (n : Nat) : Fd C mg base (7 + n) "is_box" p_is_box (sp_is_box n) := (okn_is_box T n).1
theorem okd_is_labelled {C : Cz} {mg : Str → Option Value} {base : Heap} (T : Env C.K mg) (n : Nat) : Fd C mg base (7 + n) "is_labelled" p_is_labelled (sp_is_labelled n) := (okn_is_box T n).2.1
theorem okd_is_tree {C : Cz} {mg : Str → Option Value} {base : Heap} (T : Env C.K mg) (n : Nat) : Fd C mg base (7 + n) "is_tree" p_is_tree (sp_is_tree n) := (okn_is_box T n).2.2
def m_law_number  : DM (PyData) :=
DM.bind (DM.draw (8 : Int)) fun r1 =>
if (decide (r1 > (0 : Int))) = true then (DM.bind (DM.draw (9 : Int)) fun r2 =>
DM.ret (PyData.int (r2 - (3 : Int)))) else (DM.bind (DM.draw (4 : Int)) fun r4 =>
DM.bind (DM.of (ixL ([(PyData.int (1000000000 : Int)), (PyData.int (-(1000000000 : Int))), (PyData.int (999983 : Int)), (PyData.int (-(70001 : Int)))]) r4)) fun z5 =>
DM.ret z5)
def sp_law_number : DSp := fun xs S Kt => ∃ (al_tape_here_ : Addr) (K : (PyData) → Prop), xs = [.v (.ref al_tape_here_)] ∧ S = [(al_tape_here_, TAPE)] ∧ m_law_number K ∧ ∀ r, K r → Kt (.d r) [(al_tape_here_, TAPE)]
theorem call_law_number {S : DS} {R0 : DS} {Q : DV → DS → Prop} {al_tape_here_ : Addr} {K : (PyData) → Prop} (pk0 : Pick S al_tape_here_ (TAPE) R0) (k : m_law_number K) (q : ∀ r, K r → Q (.d r) ((al_tape_here_, TAPE) :: R0)) : DCall (sp_law_number) [.v (.ref al_tape_here_)] S Q := call1 pk0 ⟨al_tape_here_, K, rfl, rfl, k, fun r h => ⟨_, .refl _, q r h⟩⟩
theorem okd_law_number {C : Cz} {mg : Str → Option Value} {base : Heap} (T : Env C.K mg) : Fd C mg base 2 "_law_number" p_law_number sp_law_number := by
  refine T.l_law_number.okD sc_law_number (fun xs S Kt h => ?_) (fun f cdv A outer s H E hr => ⟨_, (pss_cons (ps_if (pt_cmpR op_gt (pe_fx (okd_law_draw (C := C) T) hr (by decide) (pa_cons (pv 0) (pa_cons pe_int pa_nil))) pe_int (nomark _)) (pss_one (ps_ret (pe_op op_sub (pe_fx (okd_law_draw (C := C) T) hr (by decide) (pa_cons (pv 0) (pa_cons pe_int pa_nil))) pe_int))) pss_nil)
      (pss_one (ps_ret (pe_ix (ix_U (K := C.K) rfl) (pe_lst (pa_cons (pe_op op_pow pe_int pe_int) (pa_cons (pe_un un_neg (pe_op op_pow pe_int pe_int)) (pa_cons pe_int (pa_cons (pe_un un_neg pe_int) pa_nil))))) (pe_fx (okd_law_draw (C := C) T) hr (by decide) (pa_cons (pv 0) (pa_cons pe_int pa_nil))) (fun _ _ => rfl))))), fun xs S Kt h => ?_⟩)
  · obtain ⟨_, _, rfl, _⟩ := h
    rfl
  · obtain ⟨al_tape_here_, K, rfl, rfl, k, hK⟩ := h
    unfold m_law_number at k
    show DSt C _ [some (.v (.ref al_tape_here_))] _ _
    refine d_seq ?_
    refine d_ifS ?_
    first | refine d_test ?_ | refine d_B ?_
    refine d_op ?_
    refine d_call ?_
    refine d_cons ?_
    refine d_var rfl ?_
    refine d_cons ?_
    refine d_cI ?_
    refine d_nil ?_
    refine call_drawM (by walk_at "p") rfl (db k) fun r1 k => ?_
    refine d_cI ?_
    refine d_cmpP rfl rfl ?_
    refine d_bl ?_
    refine ite_dm k (fun _ k => ?_) (fun _ k => ?_)
    · skip
      refine d_ret ?_
      refine d_op ?_
      refine d_call ?_
      refine d_cons ?_
      refine d_var rfl ?_
      refine d_cons ?_
      refine d_cI ?_
      refine d_nil ?_
      refine call_drawM (by walk_at "p") rfl (db k) fun r2 k => ?_
      refine d_cI ?_
      refine d_subP rfl rfl ?_
      have k := dr k
      exact KW.sub (by walk_at "u") (hK _ k)
    · skip
      refine d_next ?_
      refine d_ret ?_
      refine d_op ?_
      refine d_lst ?_
      refine d_cons ?_
      refine d_op ?_
      refine d_cI ?_
      refine d_cI ?_
      refine d_pow9 ?_
      refine d_cons ?_
      refine d_un ?_
      refine d_op ?_
      refine d_cI ?_
      refine d_cI ?_
      refine d_pow9 ?_
      refine d_negP rfl ?_
      refine d_cons ?_
      refine d_cI ?_
      refine d_cons ?_
      refine d_un ?_
      refine d_cI ?_
      refine d_negP rfl ?_
      refine d_nil ?_
      refine newL_P (by repeat' constructor) (by exact Nat.le_of_ble_eq_true rfl) fun p3 => ?_
      refine d_call ?_
      refine d_cons ?_
      refine d_var rfl ?_
      refine d_cons ?_
      refine d_cI ?_
      refine d_nil ?_
      refine call_drawM (by walk_at "p") rfl (db k) fun r4 k => ?_
      obtain ⟨z5, hz5, k⟩ := dgb k
      refine d_ixOLP rfl (by walk_at "p") hz5 ?_
      have k := dr k
      exact KW.sub (by walk_at "u") (hK _ k)
def m_law_names (l_many_ : PyData) : DM ((List PyData)) :=
DM.bind (DM.draw (12 : Int)) fun r2 =>
DM.bind (DM.draw (4 : Int)) fun r4 =>
DM.bind (DM.of (ixL ([(PyData.int (1 : Int)), (PyData.int (5 : Int)), (PyData.int (7 : Int)), (PyData.int (11 : Int))]) r4)) fun z5 =>
DM.bind (DM.of (asI l_many_)) fun z6 =>
DM.bind (DM.of (okIf (decide (-100000 ≤ z6 ∧ z6 ≤ 100000)))) fun z7 =>
DM.bind (DM.of (mapO (fun x10 =>
(asI z5).bind fun z11 =>
(okIf (mulG z11 x10)).bind fun z12 =>
(ixP (PyData.list [(PyData.str ("a" : Str)), (PyData.str ("ab" : Str)), (PyData.str ("abc" : Str)), (PyData.str ("b" : Str)), (PyData.str ("ba" : Str)), (PyData.str ("box" : Str)), (PyData.str ("put" : Str)), (PyData.str ("set" : Str)), (PyData.str ("take" : Str)), (PyData.str ("plain" : Str)), (PyData.str ("turn" : Str)), (PyData.str ("abcdefgh" : Str))]) ((r2 + (z11 * x10)) % (12 : Int))).bind fun z13 =>
some z13) (rngP z6))) fun ys8 =>
DM.ret ys8
def sp_law_names : DSp := fun xs S Kt => ∃ (al_tape_here_ : Addr) (l_many_ : PyData) (K : ((List PyData)) → Prop), xs = [.v (.ref al_tape_here_), .d l_many_] ∧ S = [(al_tape_here_, TAPE)] ∧ m_law_names l_many_ K ∧ ∀ r, K r → ∀ q, Kt (.v (.ref q)) [(q, LD r), (al_tape_here_, TAPE)]
theorem call_law_names {S : DS} {R0 : DS} {Q : DV → DS → Prop} {al_tape_here_ : Addr} {l_many_ : PyData} {K : ((List PyData)) → Prop} (pk0 : Pick S al_tape_here_ (TAPE) R0) (k : m_law_names l_many_ K) (q : ∀ r, K r → ∀ p, Q (.v (.ref p)) ((p, LD r) :: (al_tape_here_, TAPE) :: R0)) : DCall (sp_law_names) [.v (.ref al_tape_here_), .d l_many_] S Q := call1 pk0 ⟨al_tape_here_, l_many_, K, rfl, rfl, k, fun r h p => ⟨_, .refl _, q r h p⟩⟩
theorem okd_law_names {C : Cz} {mg : Str → Option Value} {base : Heap} (T : Env C.K mg) : Fd C mg base 2 "_law_names" p_law_names sp_law_names := by
  refine T.l_law_names.okD sc_law_names (fun xs S Kt h => ?_) (fun f cdv A outer s H E hr => ⟨_, (pss_cons (ps_set (i := 2) sc_law_names.nd rfl (Or.inr rfl) (pe_lst (pa_cons pe_str (pa_cons pe_str (pa_cons pe_str (pa_cons pe_str (pa_cons pe_str (pa_cons pe_str (pa_cons pe_str (pa_cons pe_str (pa_cons pe_str (pa_cons pe_str (pa_cons pe_str (pa_cons pe_str pa_nil))))))))))))))
      (pss_cons (ps_set (i := 3) sc_law_names.nd rfl (Or.inr rfl) (pe_fx (okd_law_draw (C := C) T) hr (by decide) (pa_cons (pv 0) (pa_cons pe_int pa_nil))))
      (pss_cons (ps_set (i := 4) sc_law_names.nd rfl (Or.inr rfl) (pe_ix (ix_U (K := C.K) rfl) (pe_lst (pa_cons pe_int (pa_cons pe_int (pa_cons pe_int (pa_cons pe_int pa_nil))))) (pe_fx (okd_law_draw (C := C) T) hr (by decide) (pa_cons (pv 0) (pa_cons pe_int pa_nil))) (fun _ _ => rfl)))
      (pss_one (ps_ret (pe_lc (own := [("_law_k", 5)]) (g := (gName 5)) (tt := tYes) rfl sc_law_names.nd (pi_range1 rfl T.m_range (pa_cons (pv 1) pa_nil)) (blkOk_by (N := N_law_names) (sc := defScope s_law_names) (by decide +kernel)) (fun _ _ _ _ _ => (pg_name (i := 5) sc_law_names.nd rfl (Or.inl rfl))) (fun _ _ _ _ _ => pts_nil) (fun _ _ _ _ _ => (pe_ix (ix_U (K := C.K) rfl) (pv 2) (pe_op op_mod (pe_op (op_addU (K := C.K) rfl) (pv 3) (pe_op op_mulU (pv 4) (pv 5))) pe_int) (fun _ _ => rfl))))))))), fun xs S Kt h => ?_⟩)
  · obtain ⟨_, _, _, rfl, _⟩ := h
    rfl
  · obtain ⟨al_tape_here_, l_many_, K, rfl, rfl, k, hK⟩ := h
    unfold m_law_names at k
    show DSt C _ [some (.v (.ref al_tape_here_)), some (.d l_many_), none, none, none, none] _ _
    refine d_seq ?_
    refine d_asg ?_
    refine d_frz ?_
    refine d_lst ?_
    refine d_cons ?_
    refine d_cS ?_
    refine d_cons ?_
    refine d_cS ?_
    refine d_cons ?_
    refine d_cS ?_
    refine d_cons ?_
    refine d_cS ?_
    refine d_cons ?_
    refine d_cS ?_
    refine d_cons ?_
    refine d_cS ?_
    refine d_cons ?_
    refine d_cS ?_
    refine d_cons ?_
    refine d_cS ?_
    refine d_cons ?_
    refine d_cS ?_
    refine d_cons ?_
    refine d_cS ?_
    refine d_cons ?_
    refine d_cS ?_
    refine d_cons ?_
    refine d_cS ?_
    refine d_nil ?_
    refine newL_P (by repeat' constructor) (by exact Nat.le_of_ble_eq_true rfl) fun p1 => ?_
    refine frzI (by walk_at "p") ?_
    refine d_name ?_
    refine d_seq ?_
    refine d_asg ?_
    refine d_call ?_
    refine d_cons ?_
    refine d_var rfl ?_
    refine d_cons ?_
    refine d_cI ?_
    refine d_nil ?_
    refine call_drawM (by walk_at "p") rfl (db k) fun r2 k => ?_
    refine d_name ?_
    refine d_seq ?_
    refine d_asg ?_
    refine d_op ?_
    refine d_lst ?_
    refine d_cons ?_
    refine d_cI ?_
    refine d_cons ?_
    refine d_cI ?_
    refine d_cons ?_
    refine d_cI ?_
    refine d_cons ?_
    refine d_cI ?_
    refine d_nil ?_
    refine newL_P (by repeat' constructor) (by exact Nat.le_of_ble_eq_true rfl) fun p3 => ?_
    refine d_call ?_
    refine d_cons ?_
    refine d_var rfl ?_
    refine d_cons ?_
    refine d_cI ?_
    refine d_nil ?_
    refine call_drawM (by walk_at "p") rfl (db k) fun r4 k => ?_
    obtain ⟨z5, hz5, k⟩ := dgb k
    refine d_ixOLP rfl (by walk_at "p") hz5 ?_
    refine d_name ?_
    refine d_ret ?_
    refine d_lcR1 ?_
    refine d_cons ?_
    refine d_var rfl ?_
    obtain ⟨z6, hz6, k⟩ := dgb k
    refine d_nil ?_
    obtain ⟨z7, hz7, k⟩ := dgb k
    refine lc_rngP hz6 (okIf_d hz7) ?_
    refine lcG (emb := fun i => DV.d (PyData.int i)) (mapO_M (db k)) gk_name (rng_len hz7) (fun x10 _ R k => ?_) (fun ys8 k p9 => ?_)
    · skip
      refine d_name ?_
      refine d_op ?_
      refine d_var rfl ?_
      refine d_op ?_
      refine d_op ?_
      refine d_var rfl ?_
      refine d_op ?_
      refine d_var rfl ?_
      refine d_var rfl ?_
      obtain ⟨z11, hz11, k⟩ := gb k
      obtain ⟨z12, hz12, k⟩ := gb k
      refine d_mulP hz11 rfl hz12 ?_
      refine d_addI ?_
      refine d_cI ?_
      refine d_modP (r := (r2 + (z11 * x10)) % (12 : Int)) rfl (by first | decide | exact ⟨by decide, by decide⟩) rfl ?_
      obtain ⟨z13, hz13, k⟩ := gb k
      refine d_ixD rfl hz13 ?_
      have k := gs k
      exact ⟨_, rfl, by walk_at "u", k⟩
    have k := dr k
    exact KW.sub (by walk_at "u") (hK _ k _)
def m_law_spot  : DM (PyData) :=
DM.bind (DM.bind (DM.draw (3 : Int)) fun r3 =>
if (decide (r3 > (0 : Int))) = true then (DM.bind (m_law_number) fun r4 =>
DM.ret r4) else (DM.ret PyData.none)) fun s1 =>
DM.bind (DM.draw (6 : Int)) fun r6 =>
DM.bind (DM.of (ixL ([(PyData.int (0 : Int)), (PyData.int (0 : Int)), (PyData.int (1 : Int)), (PyData.int (2 : Int)), (PyData.int (11 : Int)), (PyData.int (1000000000000 : Int))]) r6)) fun z7 =>
DM.ret (PyData.tuple [s1, z7])
def sp_law_spot : DSp := fun xs S Kt => ∃ (al_tape_here_ : Addr) (K : (PyData) → Prop), xs = [.v (.ref al_tape_here_)] ∧ S = [(al_tape_here_, TAPE)] ∧ m_law_spot K ∧ ∀ r, K r → Kt (.d r) [(al_tape_here_, TAPE)]
theorem call_law_spot {S : DS} {R0 : DS} {Q : DV → DS → Prop} {al_tape_here_ : Addr} {K : (PyData) → Prop} (pk0 : Pick S al_tape_here_ (TAPE) R0) (k : m_law_spot K) (q : ∀ r, K r → Q (.d r) ((al_tape_here_, TAPE) :: R0)) : DCall (sp_law_spot) [.v (.ref al_tape_here_)] S Q := call1 pk0 ⟨al_tape_here_, K, rfl, rfl, k, fun r h => ⟨_, .refl _, q r h⟩⟩
theorem okd_law_spot {C : Cz} {mg : Str → Option Value} {base : Heap} (T : Env C.K mg) : Fd C mg base 3 "_law_spot" p_law_spot sp_law_spot := by
  refine T.l_law_spot.okD sc_law_spot (fun xs S Kt h => ?_) (fun f cdv A outer s H E hr => ⟨_, (pss_cons (ps_set (i := 1) sc_law_spot.nd rfl (Or.inl rfl) pe_non)
      (C8.pss_cut (ps_if (pt_cmpR op_gt (pe_fx (okd_law_draw (C := C) T) hr (by decide) (pa_cons (pv 0) (pa_cons pe_int pa_nil))) pe_int (nomark _)) (pss_one (ps_set (i := 1) sc_law_spot.nd rfl (Or.inl rfl) (pe_fx (okd_law_number (C := C) T) hr (by decide) (pa_cons (pv 0) pa_nil)))) pss_nil)
      (pss_one (ps_ret (pe_tup (pa_cons (pv 1) (pa_cons (pe_ix (ix_U (K := C.K) rfl) (pe_lst (pa_cons pe_int (pa_cons pe_int (pa_cons pe_int (pa_cons pe_int (pa_cons pe_int (pa_cons (pe_op op_pow pe_int pe_int) pa_nil))))))) (pe_fx (okd_law_draw (C := C) T) hr (by decide) (pa_cons (pv 0) (pa_cons pe_int pa_nil))) (fun _ _ => rfl)) pa_nil))))))), fun xs S Kt h => ?_⟩)
  · obtain ⟨_, _, rfl, _⟩ := h
    rfl
  · obtain ⟨al_tape_here_, K, rfl, rfl, k, hK⟩ := h
    unfold m_law_spot at k
    show DSt C _ [some (.v (.ref al_tape_here_)), none] _ _
    refine d_seq ?_
    refine d_asg ?_
    refine d_cN ?_
    refine d_name ?_
    refine d_cutG (τ := PyData) (π := fun s => s) (Ef := fun w2 => [some (.v (.ref al_tape_here_)), some (.d w2)]) (Sf := fun w2 => [(al_tape_here_, TAPE)]) (db k) (fun R k => ?_) (fun s1 k => ?_)
    · skip
      refine d_ifS ?_
      first | refine d_test ?_ | refine d_B ?_
      refine d_op ?_
      refine d_call ?_
      refine d_cons ?_
      refine d_var rfl ?_
      refine d_cons ?_
      refine d_cI ?_
      refine d_nil ?_
      refine call_drawM (by walk_at "p") rfl (db k) fun r3 k => ?_
      refine d_cI ?_
      refine d_cmpP rfl rfl ?_
      refine d_bl ?_
      refine ite_dm k (fun _ k => ?_) (fun _ k => ?_)
      · skip
        refine d_asg ?_
        refine d_call ?_
        refine d_cons ?_
        refine d_var rfl ?_
        refine d_nil ?_
        refine call_law_number (by walk_at "p") (db k) fun r4 k => ?_
        refine d_name ?_
        have k := dr k
        exact ⟨_, by walk_at "l", by walk_at "u", k⟩
      · skip
        refine d_next ?_
        have k := dr k
        exact ⟨_, by walk_at "l", by walk_at "u", k⟩
    refine d_ret ?_
    refine d_tup ?_
    refine d_cons ?_
    refine d_var rfl ?_
    refine d_cons ?_
    refine d_op ?_
    refine d_lst ?_
    refine d_cons ?_
    refine d_cI ?_
    refine d_cons ?_
    refine d_cI ?_
    refine d_cons ?_
    refine d_cI ?_
    refine d_cons ?_
    refine d_cI ?_
    refine d_cons ?_
    refine d_cI ?_
    refine d_cons ?_
    refine d_op ?_
    refine d_cI ?_
    refine d_cI ?_
    refine d_pow12 ?_
    refine d_nil ?_
    refine newL_P (by repeat' constructor) (by exact Nat.le_of_ble_eq_true rfl) fun p5 => ?_
    refine d_call ?_
    refine d_cons ?_
    refine d_var rfl ?_
    refine d_cons ?_
    refine d_cI ?_
    refine d_nil ?_
    refine call_drawM (by walk_at "p") rfl (db k) fun r6 k => ?_
    obtain ⟨z7, hz7, k⟩ := dgb k
    refine d_ixOLP rfl (by walk_at "p") hz7 ?_
    refine d_nil ?_
    refine newT_P (by repeat' constructor) (by exact Nat.le_of_ble_eq_true rfl) ?_
    have k := dr k
    exact KW.sub (by walk_at "u") (hK _ k)
def m_law_label  : DM (PyData) :=
DM.bind (DM.draw (5 : Int)) fun r2 =>
DM.bind (DM.of (ixL ([(PyData.int (1 : Int)), (PyData.int (1 : Int)), (PyData.int (1 : Int)), (PyData.int (2 : Int)), (PyData.int (3 : Int))]) r2)) fun z3 =>
DM.bind (DM.of (asI z3)) fun z4 =>
DM.bind (DM.of (okIf (decide (-100000 ≤ z4 ∧ z4 ≤ 100000)))) fun z5 =>
DM.bind (mapM' (fun x8 =>
DM.bind (m_law_spot) fun r9 =>
DM.ret r9) (rngP z4)) fun ys6 =>
DM.ret (PyData.tuple ys6)
def sp_law_label : DSp := fun xs S Kt => ∃ (al_tape_here_ : Addr) (K : (PyData) → Prop), xs = [.v (.ref al_tape_here_)] ∧ S = [(al_tape_here_, TAPE)] ∧ m_law_label K ∧ ∀ r, K r → Kt (.d r) [(al_tape_here_, TAPE)]
theorem call_law_label {S : DS} {R0 : DS} {Q : DV → DS → Prop} {al_tape_here_ : Addr} {K : (PyData) → Prop} (pk0 : Pick S al_tape_here_ (TAPE) R0) (k : m_law_label K) (q : ∀ r, K r → Q (.d r) ((al_tape_here_, TAPE) :: R0)) : DCall (sp_law_label) [.v (.ref al_tape_here_)] S Q := call1 pk0 ⟨al_tape_here_, K, rfl, rfl, k, fun r h => ⟨_, .refl _, q r h⟩⟩
theorem okd_law_label {C : Cz} {mg : Str → Option Value} {base : Heap} (T : Env C.K mg) : Fd C mg base 4 "_law_label" p_law_label sp_law_label := by
  refine T.l_law_label.okD sc_law_label (fun xs S Kt h => ?_) (fun f cdv A outer s H E hr => ⟨_, (pss_one (ps_ret (pe_callTy (call_tupleU (K := C.K) rfl) (by rfl) T.m_tuple (by decide +kernel) (pa_cons (pe_lc (own := [("_law_k", 1)]) (g := (gName 1)) (tt := tYes) rfl sc_law_label.nd (pi_range1 rfl T.m_range (pa_cons (pe_ix (ix_U (K := C.K) rfl) (pe_lst (pa_cons pe_int (pa_cons pe_int (pa_cons pe_int (pa_cons pe_int (pa_cons pe_int pa_nil)))))) (pe_fx (okd_law_draw (C := C) T) hr (by decide) (pa_cons (pv 0) (pa_cons pe_int pa_nil))) (fun _ _ => rfl)) pa_nil)) (blkOk_by (N := N_law_label) (sc := defScope s_law_label) (by decide +kernel)) (fun _ _ _ _ _ => (pg_name (i := 1) sc_law_label.nd rfl (Or.inl rfl))) (fun _ _ _ _ _ => pts_nil) (fun _ _ _ _ _ => (pe_fx (okd_law_spot (C := C) T) hr (by decide) (pa_cons (pv 0) pa_nil)))) pa_nil)))), fun xs S Kt h => ?_⟩)
  · obtain ⟨_, _, rfl, _⟩ := h
    rfl
  · obtain ⟨al_tape_here_, K, rfl, rfl, k, hK⟩ := h
    unfold m_law_label at k
    show DSt C _ [some (.v (.ref al_tape_here_)), none] _ _
    refine d_ret ?_
    refine d_cb ?_
    refine d_cons ?_
    refine d_lcR1 ?_
    refine d_cons ?_
    refine d_op ?_
    refine d_lst ?_
    refine d_cons ?_
    refine d_cI ?_
    refine d_cons ?_
    refine d_cI ?_
    refine d_cons ?_
    refine d_cI ?_
    refine d_cons ?_
    refine d_cI ?_
    refine d_cons ?_
    refine d_cI ?_
    refine d_nil ?_
    refine newL_P (by repeat' constructor) (by exact Nat.le_of_ble_eq_true rfl) fun p1 => ?_
    refine d_call ?_
    refine d_cons ?_
    refine d_var rfl ?_
    refine d_cons ?_
    refine d_cI ?_
    refine d_nil ?_
    refine call_drawM (by walk_at "p") rfl (db k) fun r2 k => ?_
    obtain ⟨z3, hz3, k⟩ := dgb k
    refine d_ixOLP rfl (by walk_at "p") hz3 ?_
    obtain ⟨z4, hz4, k⟩ := dgb k
    refine d_nil ?_
    obtain ⟨z5, hz5, k⟩ := dgb k
    refine lc_rngP hz4 (okIf_d hz5) ?_
    refine lcG (emb := fun i => DV.d (PyData.int i)) (db k) gk_name (rng_len hz5) (fun x8 _ R k => ?_) (fun ys6 k p7 => ?_)
    · skip
      refine d_name ?_
      refine d_call ?_
      refine d_cons ?_
      refine d_var rfl ?_
      refine d_nil ?_
      refine call_law_spot (by walk_at "p") (db k) fun r9 k => ?_
      have k := dr k
      exact ⟨_, rfl, by walk_at "u", k⟩
    refine d_nil ?_
    refine d_tupleO (by walk_at "p") ?_
    have k := dr k
    exact KW.sub (by walk_at "u") (hK _ k)
def m_law_sets  : DM (PyData) :=
DM.bind (DM.draw (4 : Int)) fun r1 =>
DM.bind (m_law_names (PyData.int r1)) fun r2 =>
DM.bind (DM.of (sortP r2)) fun z4 =>
DM.bind (DM.of (okIf (decide (z4.length ≤ 100000)))) fun z6 =>
DM.bind (mapM' (fun x9 =>
DM.bind (m_law_number) fun r10 =>
DM.ret (PyData.tuple [x9, r10])) z4) fun ys7 =>
DM.ret (PyData.tuple ys7)
def sp_law_sets : DSp := fun xs S Kt => ∃ (al_tape_here_ : Addr) (K : (PyData) → Prop), xs = [.v (.ref al_tape_here_)] ∧ S = [(al_tape_here_, TAPE)] ∧ m_law_sets K ∧ ∀ r, K r → Kt (.d r) [(al_tape_here_, TAPE)]
theorem call_law_sets {S : DS} {R0 : DS} {Q : DV → DS → Prop} {al_tape_here_ : Addr} {K : (PyData) → Prop} (pk0 : Pick S al_tape_here_ (TAPE) R0) (k : m_law_sets K) (q : ∀ r, K r → Q (.d r) ((al_tape_here_, TAPE) :: R0)) : DCall (sp_law_sets) [.v (.ref al_tape_here_)] S Q := call1 pk0 ⟨al_tape_here_, K, rfl, rfl, k, fun r h => ⟨_, .refl _, q r h⟩⟩
theorem okd_law_sets {C : Cz} {mg : Str → Option Value} {base : Heap} (T : Env C.K mg) : Fd C mg base 3 "_law_sets" p_law_sets sp_law_sets := by
  refine T.l_law_sets.okD sc_law_sets (fun xs S Kt h => ?_) (fun f cdv A outer s H E hr => ⟨_, (pss_cons (ps_set (i := 1) sc_law_sets.nd rfl (Or.inl rfl) (pe_callB (call_sortLU (K := C.K) rfl (u70d hr)) (by rfl) T.m_sorted (by decide +kernel) (pa_cons (pe_fx (okd_law_names (C := C) T) hr (by decide) (pa_cons (pv 0) (pa_cons (pe_fx (okd_law_draw (C := C) T) hr (by decide) (pa_cons (pv 0) (pa_cons pe_int pa_nil))) pa_nil))) pa_nil)))
      (pss_one (ps_ret (pe_callTy (call_tupleU (K := C.K) rfl) (by rfl) T.m_tuple (by decide +kernel) (pa_cons (pe_lc (own := [("_law_name", 2)]) (g := (gName 2)) (tt := tYes) rfl sc_law_sets.nd (pi_UU (K := C.K) rfl (pv 1)) (blkOk_by (N := N_law_sets) (sc := defScope s_law_sets) (by decide +kernel)) (fun _ _ _ _ _ => (pg_name (i := 2) sc_law_sets.nd rfl (Or.inl rfl))) (fun _ _ _ _ _ => pts_nil) (fun _ _ _ _ _ => (pe_tup (pa_cons (pv 2) (pa_cons (pe_fx (okd_law_number (C := C) T) hr (by decide) (pa_cons (pv 0) pa_nil)) pa_nil))))) pa_nil))))), fun xs S Kt h => ?_⟩)
  · obtain ⟨_, _, rfl, _⟩ := h
    rfl
  · obtain ⟨al_tape_here_, K, rfl, rfl, k, hK⟩ := h
    unfold m_law_sets at k
    show DSt C _ [some (.v (.ref al_tape_here_)), none, none] _ _
    refine d_seq ?_
    refine d_asg ?_
    refine d_frz ?_
    refine d_cb ?_
    refine d_cons ?_
    refine d_call ?_
    refine d_cons ?_
    refine d_var rfl ?_
    refine d_cons ?_
    refine d_call ?_
    refine d_cons ?_
    refine d_var rfl ?_
    refine d_cons ?_
    refine d_cI ?_
    refine d_nil ?_
    refine call_drawM (by walk_at "p") rfl (db k) fun r1 k => ?_
    refine d_nil ?_
    refine call_law_names (by walk_at "p") (db k) fun r2 k p3 => ?_
    refine d_nil ?_
    obtain ⟨z4, hz4, k⟩ := dgb k
    refine d_sortP (by walk_at "p") hz4 fun p5 => ?_
    refine frzI (by walk_at "p") ?_
    refine d_name ?_
    refine d_ret ?_
    refine d_cb ?_
    refine d_cons ?_
    refine d_lcU ?_
    refine d_var rfl ?_
    obtain ⟨z6, hz6, k⟩ := dgb k
    refine lc_seq rfl ?_
    refine lcG (emb := DV.d) (db k) gk_name (okIf_d hz6) (fun x9 _ R k => ?_) (fun ys7 k p8 => ?_)
    · skip
      refine d_name ?_
      refine d_tup ?_
      refine d_cons ?_
      refine d_var rfl ?_
      refine d_cons ?_
      refine d_call ?_
      refine d_cons ?_
      refine d_var rfl ?_
      refine d_nil ?_
      refine call_law_number (by walk_at "p") (db k) fun r10 k => ?_
      refine d_nil ?_
      refine newT_P (by repeat' constructor) (by exact Nat.le_of_ble_eq_true rfl) ?_
      have k := dr k
      exact ⟨_, rfl, by walk_at "u", k⟩
    refine d_nil ?_
    refine d_tupleO (by walk_at "p") ?_
    have k := dr k
    exact KW.sub (by walk_at "u") (hK _ k)
def m_law_hands  : DM (PyData) :=
DM.bind (DM.draw (4 : Int)) fun r3 =>
DM.bind (DM.of (ixL ([(PyData.int (0 : Int)), (PyData.int (0 : Int)), (PyData.int (1 : Int)), (PyData.int (2 : Int))]) r3)) fun z4 =>
DM.bind (m_law_names z4) fun r5 =>
DM.bind (foldM' (fun x8 w9 =>
DM.bind (DM.draw (3 : Int)) fun r10 =>
DM.bind (DM.of (okIf (decide (-100000 ≤ r10 ∧ r10 ≤ 100000)))) fun z11 =>
DM.bind (mapM' (fun x14 =>
DM.bind (m_law_spot) fun r15 =>
DM.ret r15) (rngP r10)) fun ys12 =>
DM.bind (DM.draw (3 : Int)) fun r17 =>
DM.bind (m_law_names (PyData.int r17)) fun r18 =>
DM.bind (foldM' (fun x21 w22 =>
DM.bind (DM.draw (3 : Int)) fun r24 =>
DM.bind (DM.of (ixL ([(PyData.str ("set" : Str)), (PyData.str ("add" : Str)), (PyData.str ("times" : Str))]) r24)) fun z25 =>
DM.bind (m_law_number) fun r26 =>
DM.bind (DM.of (appP w22 (PyData.tuple [x21, z25, r26]))) fun z27 =>
DM.ret z27) r18 ([])) fun s20 =>
DM.bind (DM.draw (3 : Int)) fun r28 =>
DM.bind (DM.draw (2 : Int)) fun r29 =>
DM.bind (DM.of (appP w9 (PyData.tuple [x8, (PyData.int ((1 : Int) + r28)), (PyData.bool (decide (r29 = (0 : Int)))), (PyData.tuple ys12), (PyData.tuple s20)]))) fun z30 =>
DM.ret z30) r5 ([])) fun s7 =>
DM.ret (PyData.tuple s7)
def sp_law_hands : DSp := fun xs S Kt => ∃ (al_tape_here_ : Addr) (K : (PyData) → Prop), xs = [.v (.ref al_tape_here_)] ∧ S = [(al_tape_here_, TAPE)] ∧ m_law_hands K ∧ ∀ r, K r → Kt (.d r) [(al_tape_here_, TAPE)]
theorem call_law_hands {S : DS} {R0 : DS} {Q : DV → DS → Prop} {al_tape_here_ : Addr} {K : (PyData) → Prop} (pk0 : Pick S al_tape_here_ (TAPE) R0) (k : m_law_hands K) (q : ∀ r, K r → Q (.d r) ((al_tape_here_, TAPE) :: R0)) : DCall (sp_law_hands) [.v (.ref al_tape_here_)] S Q := call1 pk0 ⟨al_tape_here_, K, rfl, rfl, k, fun r h => ⟨_, .refl _, q r h⟩⟩
theorem okd_law_hands {C : Cz} {mg : Str → Option Value} {base : Heap} (T : Env C.K mg) : Fd C mg base 4 "_law_hands" p_law_hands sp_law_hands := by
  refine T.l_law_hands.okD sc_law_hands (fun xs S Kt h => ?_) (fun f cdv A outer s H E hr => ⟨_, (pss_cons (ps_set (i := 1) sc_law_hands.nd rfl (Or.inl rfl) (pe_lst pa_nil))
      (pss_cons (ps_for PassesOwn.never rfl (pi_UU (K := C.K) rfl (pe_fx (okd_law_names (C := C) T) hr (by decide) (pa_cons (pv 0) (pa_cons (pe_ix (ix_U (K := C.K) rfl) (pe_lst (pa_cons pe_int (pa_cons pe_int (pa_cons pe_int (pa_cons pe_int pa_nil))))) (pe_fx (okd_law_draw (C := C) T) hr (by decide) (pa_cons (pv 0) (pa_cons pe_int pa_nil))) (fun _ _ => rfl)) pa_nil)))) (pg_name (i := 2) sc_law_hands.nd rfl (Or.inl rfl)) (pss_cons (ps_set (i := 3) sc_law_hands.nd rfl (Or.inl rfl) (pe_callTy (call_tupleU (K := C.K) rfl) (by rfl) T.m_tuple (by decide +kernel) (pa_cons (pe_lc (own := [("_law_k", 6)]) (g := (gName 6)) (tt := tYes) rfl sc_law_hands.nd (pi_range1 rfl T.m_range (pa_cons (pe_fx (okd_law_draw (C := C) T) hr (by decide) (pa_cons (pv 0) (pa_cons pe_int pa_nil))) pa_nil)) (blkOk_by (N := N_law_hands) (sc := defScope s_law_hands) (by decide +kernel)) (fun _ _ _ _ _ => (pg_name (i := 6) sc_law_hands.nd rfl (Or.inl rfl))) (fun _ _ _ _ _ => pts_nil) (fun _ _ _ _ _ => (pe_fx (okd_law_spot (C := C) T) hr (by decide) (pa_cons (pv 0) pa_nil)))) pa_nil)))
      (pss_cons (ps_set (i := 4) sc_law_hands.nd rfl (Or.inl rfl) (pe_lst pa_nil))
      (pss_cons (ps_for PassesOwn.never rfl (pi_UU (K := C.K) rfl (pe_fx (okd_law_names (C := C) T) hr (by decide) (pa_cons (pv 0) (pa_cons (pe_fx (okd_law_draw (C := C) T) hr (by decide) (pa_cons (pv 0) (pa_cons pe_int pa_nil))) pa_nil)))) (pg_name (i := 5) sc_law_hands.nd rfl (Or.inl rfl)) (pss_one (ps_expr (pe_bm PySem.F.plainAttrs_list PySem.F.slot_list_append PySem.F.type_list_append mt_append (pv 4) (pa_cons (pe_tup (pa_cons (pv 5) (pa_cons (pe_ix (ix_U (K := C.K) rfl) (pe_lst (pa_cons pe_str (pa_cons pe_str (pa_cons pe_str pa_nil)))) (pe_fx (okd_law_draw (C := C) T) hr (by decide) (pa_cons (pv 0) (pa_cons pe_int pa_nil))) (fun _ _ => rfl)) (pa_cons (pe_fx (okd_law_number (C := C) T) hr (by decide) (pa_cons (pv 0) pa_nil)) pa_nil)))) pa_nil)))))
      (pss_one (ps_expr (pe_bm PySem.F.plainAttrs_list PySem.F.slot_list_append PySem.F.type_list_append mt_append (pv 1) (pa_cons (pe_tup (pa_cons (pv 2) (pa_cons (pe_op (op_addU (K := C.K) rfl) pe_int (pe_fx (okd_law_draw (C := C) T) hr (by decide) (pa_cons (pv 0) (pa_cons pe_int pa_nil)))) (pa_cons (pe_cmpR (op_eqU (K := C.K) rfl (u64 hr)) (pe_fx (okd_law_draw (C := C) T) hr (by decide) (pa_cons (pv 0) (pa_cons pe_int pa_nil))) pe_int (nomark _)) (pa_cons (pv 3) (pa_cons (pe_callTy (call_tupleU (K := C.K) rfl) (by rfl) T.m_tuple (by decide +kernel) (pa_cons (pv 4) pa_nil)) pa_nil)))))) pa_nil))))))))
      (pss_one (ps_ret (pe_callTy (call_tupleU (K := C.K) rfl) (by rfl) T.m_tuple (by decide +kernel) (pa_cons (pv 1) pa_nil)))))), fun xs S Kt h => ?_⟩)
  · obtain ⟨_, _, rfl, _⟩ := h
    rfl
  · obtain ⟨al_tape_here_, K, rfl, rfl, k, hK⟩ := h
    unfold m_law_hands at k
    show DSt C _ [some (.v (.ref al_tape_here_)), none, none, none, none, none, none] _ _
    refine d_seq ?_
    refine d_asg ?_
    refine d_lst ?_
    refine d_nil ?_
    refine newL_P (by repeat' constructor) (by exact Nat.le_of_ble_eq_true rfl) fun p1 => ?_
    refine d_name ?_
    refine d_seq ?_
    refine d_forU ?_
    refine d_frz ?_
    refine d_call ?_
    refine d_cons ?_
    refine d_var rfl ?_
    refine d_cons ?_
    refine d_op ?_
    refine d_lst ?_
    refine d_cons ?_
    refine d_cI ?_
    refine d_cons ?_
    refine d_cI ?_
    refine d_cons ?_
    refine d_cI ?_
    refine d_cons ?_
    refine d_cI ?_
    refine d_nil ?_
    refine newL_P (by repeat' constructor) (by exact Nat.le_of_ble_eq_true rfl) fun p2 => ?_
    refine d_call ?_
    refine d_cons ?_
    refine d_var rfl ?_
    refine d_cons ?_
    refine d_cI ?_
    refine d_nil ?_
    refine call_drawM (by walk_at "p") rfl (db k) fun r3 k => ?_
    obtain ⟨z4, hz4, k⟩ := dgb k
    refine d_ixOLP rfl (by walk_at "p") hz4 ?_
    refine d_nil ?_
    refine call_law_names (by walk_at "p") (db k) fun r5 k p6 => ?_
    refine frzI (by walk_at "p") ?_
    refine for_seq rfl ?_
    refine forF (emb := DV.d) (π := fun s => s) (Ef := fun w9 => [some (.v (.ref al_tape_here_)), some (.v (.ref p1)), none, none, none, none, none]) (Sf := fun w9 => [(al_tape_here_, TAPE), (p1, LD w9)]) ([]) (db k) (by walk_at "l") (by walk_at "u") (fun s => trivial) (fun x8 _ w9 R k => ?_) (fun s7 k => ?_)
    · skip
      refine d_name ?_
      refine d_seq ?_
      refine d_asg ?_
      refine d_cb ?_
      refine d_cons ?_
      refine d_lcR1 ?_
      refine d_cons ?_
      refine d_call ?_
      refine d_cons ?_
      refine d_var rfl ?_
      refine d_cons ?_
      refine d_cI ?_
      refine d_nil ?_
      refine call_drawM (by walk_at "p") rfl (db k) fun r10 k => ?_
      refine d_nil ?_
      obtain ⟨z11, hz11, k⟩ := dgb k
      refine lc_rngP rfl (okIf_d hz11) ?_
      refine lcG (emb := fun i => DV.d (PyData.int i)) (db k) gk_name (rng_len hz11) (fun x14 _ R k => ?_) (fun ys12 k p13 => ?_)
      · skip
        refine d_name ?_
        refine d_call ?_
        refine d_cons ?_
        refine d_var rfl ?_
        refine d_nil ?_
        refine call_law_spot (by walk_at "p") (db k) fun r15 k => ?_
        have k := dr k
        exact ⟨_, rfl, by walk_at "u", k⟩
      refine d_nil ?_
      refine d_tupleO (by walk_at "p") ?_
      refine d_name ?_
      refine d_seq ?_
      refine d_asg ?_
      refine d_lst ?_
      refine d_nil ?_
      refine newL_P (by repeat' constructor) (by exact Nat.le_of_ble_eq_true rfl) fun p16 => ?_
      refine d_name ?_
      refine d_seq ?_
      refine d_forU ?_
      refine d_frz ?_
      refine d_call ?_
      refine d_cons ?_
      refine d_var rfl ?_
      refine d_cons ?_
      refine d_call ?_
      refine d_cons ?_
      refine d_var rfl ?_
      refine d_cons ?_
      refine d_cI ?_
      refine d_nil ?_
      refine call_drawM (by walk_at "p") rfl (db k) fun r17 k => ?_
      refine d_nil ?_
      refine call_law_names (by walk_at "p") (db k) fun r18 k p19 => ?_
      refine frzI (by walk_at "p") ?_
      refine for_seq rfl ?_
      refine forF (emb := DV.d) (π := fun s => s) (Ef := fun w22 => [some (.v (.ref al_tape_here_)), some (.v (.ref p1)), some (.d x8), some (.d (PyData.tuple ys12)), some (.v (.ref p16)), none, none]) (Sf := fun w22 => [(al_tape_here_, TAPE), (p1, LD w9), (p16, LD w22)]) ([]) (db k) (by walk_at "l") (by walk_at "u") (fun s => trivial) (fun x21 _ w22 R k => ?_) (fun s20 k => ?_)
      · skip
        refine d_name ?_
        refine d_drop ?_
        refine d_bmK rfl ?_
        refine d_var rfl ?_
        refine d_tyLk ⟨_, by walk_at "p"⟩ ?_
        refine d_cons ?_
        refine d_tup ?_
        refine d_cons ?_
        refine d_var rfl ?_
        refine d_cons ?_
        refine d_op ?_
        refine d_lst ?_
        refine d_cons ?_
        refine d_cS ?_
        refine d_cons ?_
        refine d_cS ?_
        refine d_cons ?_
        refine d_cS ?_
        refine d_nil ?_
        refine newL_P (by repeat' constructor) (by exact Nat.le_of_ble_eq_true rfl) fun p23 => ?_
        refine d_call ?_
        refine d_cons ?_
        refine d_var rfl ?_
        refine d_cons ?_
        refine d_cI ?_
        refine d_nil ?_
        refine call_drawM (by walk_at "p") rfl (db k) fun r24 k => ?_
        obtain ⟨z25, hz25, k⟩ := dgb k
        refine d_ixOLP rfl (by walk_at "p") hz25 ?_
        refine d_cons ?_
        refine d_call ?_
        refine d_cons ?_
        refine d_var rfl ?_
        refine d_nil ?_
        refine call_law_number (by walk_at "p") (db k) fun r26 k => ?_
        refine d_nil ?_
        refine newT_P (by repeat' constructor) (by exact Nat.le_of_ble_eq_true rfl) ?_
        refine d_nil ?_
        obtain ⟨z27, hz27, k⟩ := dgb k
        refine d_appP (by walk_at "p") hz27 ?_
        have k := dr k
        exact ⟨_, by walk_at "l", by walk_at "u", k⟩
      refine d_drop ?_
      refine d_bmK rfl ?_
      refine d_var rfl ?_
      refine d_tyLk ⟨_, by walk_at "p"⟩ ?_
      refine d_cons ?_
      refine d_tup ?_
      refine d_cons ?_
      refine d_var rfl ?_
      refine d_cons ?_
      refine d_op ?_
      refine d_cI ?_
      refine d_call ?_
      refine d_cons ?_
      refine d_var rfl ?_
      refine d_cons ?_
      refine d_cI ?_
      refine d_nil ?_
      refine call_drawM (by walk_at "p") rfl (db k) fun r28 k => ?_
      refine d_addI ?_
      refine d_cons ?_
      refine d_op ?_
      refine d_call ?_
      refine d_cons ?_
      refine d_var rfl ?_
      refine d_cons ?_
      refine d_cI ?_
      refine d_nil ?_
      refine call_drawM (by walk_at "p") rfl (db k) fun r29 k => ?_
      refine d_cI ?_
      refine d_eqI ?_
      refine d_cons ?_
      refine d_var rfl ?_
      refine d_cons ?_
      refine d_cb ?_
      refine d_cons ?_
      refine d_var rfl ?_
      refine d_nil ?_
      refine d_tupleO (by walk_at "p") ?_
      refine d_nil ?_
      refine newT_P (by repeat' constructor) (by exact Nat.le_of_ble_eq_true rfl) ?_
      refine d_nil ?_
      obtain ⟨z30, hz30, k⟩ := dgb k
      refine d_appP (by walk_at "p") hz30 ?_
      have k := dr k
      exact ⟨_, by walk_at "l", by walk_at "u", k⟩
    refine d_ret ?_
    refine d_cb ?_
    refine d_cons ?_
    refine d_var rfl ?_
    refine d_nil ?_
    refine d_tupleO (by walk_at "p") ?_
    have k := dr k
    exact KW.sub (by walk_at "u") (hK _ k)
mutual
def m_law_box : Nat → PyData → DM (PyData)
  | 0, _ => fun _ => False
  | n + 1, l_deep_ =>
    DM.bind (m_law_names (PyData.int (1 : Int))) fun r1 =>
    DM.bind (DM.of (ixL r1 (0 : Int))) fun z3 =>
    DM.bind (m_law_sets) fun r4 =>
    DM.bind (m_law_hands) fun r5 =>
    DM.bind (DM.bind (andM (DM.bind (DM.of (asI l_deep_)) fun z9 =>
    DM.ret (decide (z9 > (0 : Int)))) (DM.bind (DM.draw (2 : Int)) fun r10 =>
    DM.ret (decide (r10 = (0 : Int))))) fun b8 =>
    if b8 = true then (DM.bind (DM.of (asI l_deep_)) fun z11 =>
    DM.bind (m_law_row n (PyData.int (z11 - (1 : Int)))) fun r12 =>
    DM.ret r12) else (DM.ret (PyData.tuple []))) fun s6 =>
    DM.ret (PyData.tuple [z3, r4, r5, s6])
def m_law_row : Nat → PyData → DM (PyData)
  | 0, _ => fun _ => False
  | n + 1, l_deep_ =>
    DM.bind (DM.of (addP (PyData.int (2 : Int)) l_deep_)) fun z1 =>
    DM.bind (DM.of (asI z1)) fun z2 =>
    DM.bind (DM.draw z2) fun r3 =>
    DM.bind (DM.bind (DM.of (eqP l_deep_ (PyData.int (2 : Int)))) fun z6 =>
    if z6 = true then (DM.bind (DM.draw (8 : Int)) fun r8 =>
    DM.bind (DM.of (ixL ([(PyData.int (0 : Int)), (PyData.int (1 : Int)), (PyData.int (2 : Int)), (PyData.int (3 : Int)), (PyData.int (3 : Int)), (PyData.int (4 : Int)), (PyData.int (5 : Int)), (PyData.int (7 : Int))]) r8)) fun z9 =>
    DM.ret z9) else (DM.ret (PyData.int r3))) fun s4 =>
    DM.bind (DM.of (asI s4)) fun z11 =>
    DM.bind (DM.of (okIf (decide (-100000 ≤ z11 ∧ z11 ≤ 100000)))) fun z12 =>
    DM.bind (foldM' (fun x14 w15 =>
    DM.bind (m_law_label) fun r16 =>
    DM.bind (DM.of (okIf (decide (w15.length ≤ 100000)))) fun z17 =>
    DM.bind (DM.of (mapO (fun x20 =>
    (ixP x20 (0 : Int)).bind fun z21 =>
    some z21) w15)) fun ys18 =>
    DM.bind (DM.of (inP r16 (PyData.list ys18))) fun z22 =>
    if (!z22) = true then (DM.bind (m_law_box n l_deep_) fun r23 =>
    DM.bind (DM.of (appP w15 (PyData.tuple [r16, r23]))) fun z24 =>
    DM.ret z24) else (DM.ret w15)) (rngP z11) ([])) fun s13 =>
    DM.ret (PyData.tuple s13)
end
def sp_law_box (n : Nat) : DSp := fun xs S Kt => ∃ (al_tape_here_ : Addr) (l_deep_ : PyData) (K : (PyData) → Prop), xs = [.v (.ref al_tape_here_), .d l_deep_] ∧ S = [(al_tape_here_, TAPE)] ∧ m_law_box n l_deep_ K ∧ ∀ r, K r → Kt (.d r) [(al_tape_here_, TAPE)]
theorem call_law_box {n : Nat} {S : DS} {R0 : DS} {Q : DV → DS → Prop} {al_tape_here_ : Addr} {l_deep_ : PyData} {K : (PyData) → Prop} (pk0 : Pick S al_tape_here_ (TAPE) R0) (k : m_law_box n l_deep_ K) (q : ∀ r, K r → Q (.d r) ((al_tape_here_, TAPE) :: R0)) : DCall (sp_law_box n) [.v (.ref al_tape_here_), .d l_deep_] S Q := call1 pk0 ⟨al_tape_here_, l_deep_, K, rfl, rfl, k, fun r h => ⟨_, .refl _, q r h⟩⟩
def sp_law_row (n : Nat) : DSp := fun xs S Kt => ∃ (al_tape_here_ : Addr) (l_deep_ : PyData) (K : (PyData) → Prop), xs = [.v (.ref al_tape_here_), .d l_deep_] ∧ S = [(al_tape_here_, TAPE)] ∧ m_law_row n l_deep_ K ∧ ∀ r, K r → Kt (.d r) [(al_tape_here_, TAPE)]
theorem call_law_row {n : Nat} {S : DS} {R0 : DS} {Q : DV → DS → Prop} {al_tape_here_ : Addr} {l_deep_ : PyData} {K : (PyData) → Prop} (pk0 : Pick S al_tape_here_ (TAPE) R0) (k : m_law_row n l_deep_ K) (q : ∀ r, K r → Q (.d r) ((al_tape_here_, TAPE) :: R0)) : DCall (sp_law_row n) [.v (.ref al_tape_here_), .d l_deep_] S Q := call1 pk0 ⟨al_tape_here_, l_deep_, K, rfl, rfl, k, fun r h => ⟨_, .refl _, q r h⟩⟩
theorem okn_law_box {C : Cz} {mg : Str → Option Value} {base : Heap} (T : Env C.K mg) : ∀ n, Fd C mg base (5 + n) "_law_box" p_law_box (sp_law_box n) ∧ Fd C mg base (5 + n) "_law_row" p_law_row (sp_law_row n)
  | 0 => ⟨(T.l_law_box.okD0 sc_law_box fun xs S Kt ⟨al_tape_here_, l_deep_, K, _, _, k, _⟩ => (by unfold m_law_box at k; exact k)), (T.l_law_row.okD0 sc_law_row fun xs S Kt ⟨al_tape_here_, l_deep_, K, _, _, k, _⟩ => (by unfold m_law_row at k; exact k))⟩
  | n + 1 => by
    have IHs := okn_law_box (C := C) (base := base) T n
    obtain ⟨IH_law_box, IH_law_row⟩ := IHs
    refine ⟨?_, ?_⟩
    · refine T.l_law_box.okD sc_law_box (fun xs S Kt h => ?_) (fun f cdv A outer s H E hr => ⟨_, (pss_cons (ps_set (i := 2) sc_law_box.nd rfl (Or.inl rfl) (pe_ix (ix_U (K := C.K) rfl) (pe_fx (okd_law_names (C := C) T) hr (Nat.le_trans (m := 5) (by decide) (Nat.le_add_right 5 _)) (pa_cons (pv 0) (pa_cons pe_int pa_nil))) pe_int (fun _ _ => rfl)))
      (pss_cons (ps_set (i := 3) sc_law_box.nd rfl (Or.inl rfl) (pe_fx (okd_law_sets (C := C) T) hr (Nat.le_trans (m := 5) (by decide) (Nat.le_add_right 5 _)) (pa_cons (pv 0) pa_nil)))
      (pss_cons (ps_set (i := 4) sc_law_box.nd rfl (Or.inl rfl) (pe_fx (okd_law_hands (C := C) T) hr (Nat.le_trans (m := 5) (by decide) (Nat.le_add_right 5 _)) (pa_cons (pv 0) pa_nil)))
      (pss_cons (ps_set (i := 5) sc_law_box.nd rfl (Or.inl rfl) (pe_tup pa_nil))
      (C8.pss_cut (ps_if (PW.pt (pw_and (pt_cmpR op_gt (pv 1) pe_int (nomark _)) (pw_and1 (pt_cmpR (op_eqU (K := C.K) rfl (u64 hr)) (pe_fx (okd_law_draw (C := C) T) hr (Nat.le_trans (m := 5) (by decide) (Nat.le_add_right 5 _)) (pa_cons (pv 0) (pa_cons pe_int pa_nil))) pe_int (nomark _))))) (pss_one (ps_set (i := 5) sc_law_box.nd rfl (Or.inl rfl) (pe_fx (IH_law_row) hr (Nat.le_refl _) (pa_cons (pv 0) (pa_cons (pe_op op_sub (pv 1) pe_int) pa_nil))))) pss_nil)
      (pss_one (ps_ret (pe_tup (pa_cons (pv 2) (pa_cons (pv 3) (pa_cons (pv 4) (pa_cons (pv 5) pa_nil)))))))))))), fun xs S Kt h => ?_⟩)
      · obtain ⟨_, _, _, rfl, _⟩ := h
        rfl
      · obtain ⟨al_tape_here_, l_deep_, K, rfl, rfl, k, hK⟩ := h
        unfold m_law_box at k
        show DSt C _ [some (.v (.ref al_tape_here_)), some (.d l_deep_), none, none, none, none] _ _
        refine d_seq ?_
        refine d_asg ?_
        refine d_op ?_
        refine d_call ?_
        refine d_cons ?_
        refine d_var rfl ?_
        refine d_cons ?_
        refine d_cI ?_
        refine d_nil ?_
        refine call_law_names (by walk_at "p") (db k) fun r1 k p2 => ?_
        refine d_cI ?_
        obtain ⟨z3, hz3, k⟩ := dgb k
        refine d_ixOLP rfl (by walk_at "p") hz3 ?_
        refine d_name ?_
        refine d_seq ?_
        refine d_asg ?_
        refine d_call ?_
        refine d_cons ?_
        refine d_var rfl ?_
        refine d_nil ?_
        refine call_law_sets (by walk_at "p") (db k) fun r4 k => ?_
        refine d_name ?_
        refine d_seq ?_
        refine d_asg ?_
        refine d_call ?_
        refine d_cons ?_
        refine d_var rfl ?_
        refine d_nil ?_
        refine call_law_hands (by walk_at "p") (db k) fun r5 k => ?_
        refine d_name ?_
        refine d_seq ?_
        refine d_asg ?_
        refine d_tup ?_
        refine d_nil ?_
        refine newT_P (by repeat' constructor) (by exact Nat.le_of_ble_eq_true rfl) ?_
        refine d_name ?_
        refine d_cutG (τ := PyData) (π := fun s => s) (Ef := fun w7 => [some (.v (.ref al_tape_here_)), some (.d l_deep_), some (.d z3), some (.d r4), some (.d r5), some (.d w7)]) (Sf := fun w7 => [(al_tape_here_, TAPE)]) (db k) (fun R k => ?_) (fun s6 k => ?_)
        · skip
          refine d_ifS ?_
          refine d_testM (db k) (fun R k => ?_) (fun b8 k => ?_)
          · skip
            have k := db k
            refine d_and ?_
            first | refine d_test ?_ | refine d_B ?_
            refine d_op ?_
            refine d_var rfl ?_
            refine d_cI ?_
            obtain ⟨z9, hz9, k⟩ := dgb k
            refine d_cmpP hz9 rfl ?_
            refine d_bl ?_
            have k := dr k
            refine ite_dmF k (fun _ k => ?_) (fun _ k => ?_)
            · exact ⟨by walk_at "u", dr k⟩
            first | refine d_test ?_ | refine d_B ?_
            refine d_op ?_
            refine d_call ?_
            refine d_cons ?_
            refine d_var rfl ?_
            refine d_cons ?_
            refine d_cI ?_
            refine d_nil ?_
            refine call_drawM (by walk_at "p") rfl (db k) fun r10 k => ?_
            refine d_cI ?_
            refine d_eqI ?_
            refine d_bl ?_
            have k := dr k
            exact ⟨by walk_at "u", k⟩
          refine ite_dm k (fun _ k => ?_) (fun _ k => ?_)
          · skip
            refine d_asg ?_
            refine d_call ?_
            refine d_cons ?_
            refine d_var rfl ?_
            refine d_cons ?_
            refine d_op ?_
            refine d_var rfl ?_
            refine d_cI ?_
            obtain ⟨z11, hz11, k⟩ := dgb k
            refine d_subP hz11 rfl ?_
            refine d_nil ?_
            refine call_law_row (by walk_at "p") (db k) fun r12 k => ?_
            refine d_name ?_
            have k := dr k
            exact ⟨_, by walk_at "l", by walk_at "u", k⟩
          · skip
            refine d_next ?_
            have k := dr k
            exact ⟨_, by walk_at "l", by walk_at "u", k⟩
        refine d_ret ?_
        refine d_tup ?_
        refine d_cons ?_
        refine d_var rfl ?_
        refine d_cons ?_
        refine d_var rfl ?_
        refine d_cons ?_
        refine d_var rfl ?_
        refine d_cons ?_
        refine d_var rfl ?_
        refine d_nil ?_
        refine newT_P (by repeat' constructor) (by exact Nat.le_of_ble_eq_true rfl) ?_
        have k := dr k
        exact KW.sub (by walk_at "u") (hK _ k)
    · refine T.l_law_row.okD sc_law_row (fun xs S Kt h => ?_) (fun f cdv A outer s H E hr => ⟨_, (pss_cons (ps_set (i := 2) sc_law_row.nd rfl (Or.inl rfl) (pe_fx (okd_law_draw (C := C) T) hr (Nat.le_trans (m := 5) (by decide) (Nat.le_add_right 5 _)) (pa_cons (pv 0) (pa_cons (pe_op (op_addU (K := C.K) rfl) pe_int (pv 1)) pa_nil))))
      (C8.pss_cut (ps_if (pt_cmpR (op_eqU (K := C.K) rfl (u64 hr)) (pv 1) pe_int (nomark _)) (pss_one (ps_set (i := 2) sc_law_row.nd rfl (Or.inl rfl) (pe_ix (ix_U (K := C.K) rfl) (pe_lst (pa_cons pe_int (pa_cons pe_int (pa_cons pe_int (pa_cons pe_int (pa_cons pe_int (pa_cons pe_int (pa_cons pe_int (pa_cons pe_int pa_nil))))))))) (pe_fx (okd_law_draw (C := C) T) hr (Nat.le_trans (m := 5) (by decide) (Nat.le_add_right 5 _)) (pa_cons (pv 0) (pa_cons pe_int pa_nil))) (fun _ _ => rfl)))) pss_nil)
      (pss_cons (ps_set (i := 3) sc_law_row.nd rfl (Or.inl rfl) (pe_lst pa_nil))
      (pss_cons (ps_for PassesOwn.never rfl (pi_range1 rfl T.m_range (pa_cons (pv 2) pa_nil)) (pg_name (i := 4) sc_law_row.nd rfl (Or.inl rfl)) (pss_cons (ps_set (i := 5) sc_law_row.nd rfl (Or.inl rfl) (pe_fx (okd_law_label (C := C) T) hr (Nat.le_trans (m := 5) (by decide) (Nat.le_add_right 5 _)) (pa_cons (pv 0) pa_nil)))
      (pss_one (ps_if (pt_cmpR (op_ninU (K := C.K) rfl (u65 hr)) (pv 5) (pe_lc (own := [("_law_one", 6)]) (g := (gName 6)) (tt := tYes) rfl sc_law_row.nd (pi_UU (K := C.K) rfl (pv 3)) (blkOk_by (N := N_law_row) (sc := defScope s_law_row) (by decide +kernel)) (fun _ _ _ _ _ => (pg_name (i := 6) sc_law_row.nd rfl (Or.inl rfl))) (fun _ _ _ _ _ => pts_nil) (fun _ _ _ _ _ => (pe_ix (ix_U (K := C.K) rfl) (pv 6) pe_int (fun _ _ => rfl)))) (by rfl)) (pss_one (ps_expr (pe_bm PySem.F.plainAttrs_list PySem.F.slot_list_append PySem.F.type_list_append mt_append (pv 3) (pa_cons (pe_tup (pa_cons (pv 5) (pa_cons (pe_fx (IH_law_box) hr (Nat.le_refl _) (pa_cons (pv 0) (pa_cons (pv 1) pa_nil))) pa_nil))) pa_nil)))) pss_nil))))
      (pss_one (ps_ret (pe_callTy (call_tupleU (K := C.K) rfl) (by rfl) T.m_tuple (by decide +kernel) (pa_cons (pv 3) pa_nil)))))))), fun xs S Kt h => ?_⟩)
      · obtain ⟨_, _, _, rfl, _⟩ := h
        rfl
      · obtain ⟨al_tape_here_, l_deep_, K, rfl, rfl, k, hK⟩ := h
        unfold m_law_row at k
        show DSt C _ [some (.v (.ref al_tape_here_)), some (.d l_deep_), none, none, none, none, none] _ _
        refine d_seq ?_
        refine d_asg ?_
        refine d_call ?_
        refine d_cons ?_
        refine d_var rfl ?_
        refine d_cons ?_
        refine d_op ?_
        refine d_cI ?_
        refine d_var rfl ?_
        obtain ⟨z1, hz1, k⟩ := dgb k
        refine d_addP hz1 ?_
        refine d_nil ?_
        obtain ⟨z2, hz2, k⟩ := dgb k
        refine call_drawM (by walk_at "p") hz2 (db k) fun r3 k => ?_
        refine d_name ?_
        refine d_cutG (τ := PyData) (π := fun s => s) (Ef := fun w5 => [some (.v (.ref al_tape_here_)), some (.d l_deep_), some (.d w5), none, none, none, none]) (Sf := fun w5 => [(al_tape_here_, TAPE)]) (db k) (fun R k => ?_) (fun s4 k => ?_)
        · skip
          refine d_ifS ?_
          first | refine d_test ?_ | refine d_B ?_
          refine d_op ?_
          refine d_var rfl ?_
          refine d_cI ?_
          obtain ⟨z6, hz6, k⟩ := dgb k
          refine d_eqP hz6 ?_
          refine d_bl ?_
          refine ite_dm k (fun _ k => ?_) (fun _ k => ?_)
          · skip
            refine d_asg ?_
            refine d_op ?_
            refine d_lst ?_
            refine d_cons ?_
            refine d_cI ?_
            refine d_cons ?_
            refine d_cI ?_
            refine d_cons ?_
            refine d_cI ?_
            refine d_cons ?_
            refine d_cI ?_
            refine d_cons ?_
            refine d_cI ?_
            refine d_cons ?_
            refine d_cI ?_
            refine d_cons ?_
            refine d_cI ?_
            refine d_cons ?_
            refine d_cI ?_
            refine d_nil ?_
            refine newL_P (by repeat' constructor) (by exact Nat.le_of_ble_eq_true rfl) fun p7 => ?_
            refine d_call ?_
            refine d_cons ?_
            refine d_var rfl ?_
            refine d_cons ?_
            refine d_cI ?_
            refine d_nil ?_
            refine call_drawM (by walk_at "p") rfl (db k) fun r8 k => ?_
            obtain ⟨z9, hz9, k⟩ := dgb k
            refine d_ixOLP rfl (by walk_at "p") hz9 ?_
            refine d_name ?_
            have k := dr k
            exact ⟨_, by walk_at "l", by walk_at "u", k⟩
          · skip
            refine d_next ?_
            have k := dr k
            exact ⟨_, by walk_at "l", by walk_at "u", k⟩
        refine d_seq ?_
        refine d_asg ?_
        refine d_lst ?_
        refine d_nil ?_
        refine newL_P (by repeat' constructor) (by exact Nat.le_of_ble_eq_true rfl) fun p10 => ?_
        refine d_name ?_
        refine d_seq ?_
        refine d_forR1 ?_
        refine d_cons ?_
        refine d_var rfl ?_
        obtain ⟨z11, hz11, k⟩ := dgb k
        refine d_nil ?_
        obtain ⟨z12, hz12, k⟩ := dgb k
        refine for_rngP hz11 (okIf_d hz12) ?_
        refine forF (emb := fun i => DV.d (PyData.int i)) (π := fun s => s) (Ef := fun w15 => [some (.v (.ref al_tape_here_)), some (.d l_deep_), some (.d s4), some (.v (.ref p10)), none, none, none]) (Sf := fun w15 => [(al_tape_here_, TAPE), (p10, LD w15)]) ([]) (db k) (by walk_at "l") (by walk_at "u") (fun s => trivial) (fun x14 _ w15 R k => ?_) (fun s13 k => ?_)
        · skip
          refine d_name ?_
          refine d_seq ?_
          refine d_asg ?_
          refine d_call ?_
          refine d_cons ?_
          refine d_var rfl ?_
          refine d_nil ?_
          refine call_law_label (by walk_at "p") (db k) fun r16 k => ?_
          refine d_name ?_
          refine d_ifS ?_
          first | refine d_test ?_ | refine d_B ?_
          refine d_op ?_
          refine d_var rfl ?_
          refine d_frz ?_
          refine d_lcU ?_
          refine d_var rfl ?_
          obtain ⟨z17, hz17, k⟩ := dgb k
          refine lc_own (by walk_at "p") ?_
          refine lcG (emb := DV.d) (mapO_M (db k)) gk_name (okIf_d hz17) (fun x20 _ R k => ?_) (fun ys18 k p19 => ?_)
          · skip
            refine d_name ?_
            refine d_op ?_
            refine d_var rfl ?_
            refine d_cI ?_
            obtain ⟨z21, hz21, k⟩ := gb k
            refine d_ixD rfl hz21 ?_
            have k := gs k
            exact ⟨_, rfl, by walk_at "u", k⟩
          refine frzI (by walk_at "p") ?_
          obtain ⟨z22, hz22, k⟩ := dgb k
          refine d_ninP hz22 ?_
          refine d_bl ?_
          refine ite_dm k (fun _ k => ?_) (fun _ k => ?_)
          · skip
            refine d_drop ?_
            refine d_bmK rfl ?_
            refine d_var rfl ?_
            refine d_tyLk ⟨_, by walk_at "p"⟩ ?_
            refine d_cons ?_
            refine d_tup ?_
            refine d_cons ?_
            refine d_var rfl ?_
            refine d_cons ?_
            refine d_call ?_
            refine d_cons ?_
            refine d_var rfl ?_
            refine d_cons ?_
            refine d_var rfl ?_
            refine d_nil ?_
            refine call_law_box (by walk_at "p") (db k) fun r23 k => ?_
            refine d_nil ?_
            refine newT_P (by repeat' constructor) (by exact Nat.le_of_ble_eq_true rfl) ?_
            refine d_nil ?_
            obtain ⟨z24, hz24, k⟩ := dgb k
            refine d_appP (by walk_at "p") hz24 ?_
            have k := dr k
            exact ⟨_, by walk_at "l", by walk_at "u", k⟩
          · skip
            refine d_next ?_
            have k := dr k
            exact ⟨_, by walk_at "l", by walk_at "u", k⟩
        refine d_ret ?_
        refine d_cb ?_
        refine d_cons ?_
        refine d_var rfl ?_
        refine d_nil ?_
        refine d_tupleO (by walk_at "p") ?_
        have k := dr k
        exact KW.sub (by walk_at "u") (hK _ k)
theorem okd_law_box {C : Cz} {mg : Str → Option Value} {base : Heap} (T : Env C.K mg) (n : Nat) : Fd C mg base (5 + n) "_law_box" p_law_box (sp_law_box n) := (okn_law_box T n).1
theorem okd_law_row {C : Cz} {mg : Str → Option Value} {base : Heap} (T : Env C.K mg) (n : Nat) : Fd C mg base (5 + n) "_law_row" p_law_row (sp_law_row n) := (okn_law_box T n).2
def m_law_is_small (l_thing_ : PyData) (l_kind_ : PyData) : Option (Bool) :=
(eqP l_kind_ (PyData.str ("truth" : Str))).bind fun z1 =>
if z1 = true then (some (isBool l_thing_)) else ((orO ((eqP l_kind_ (PyData.str ("name" : Str))).bind fun z3 =>
some z3) ((eqP l_kind_ (PyData.str ("word" : Str))).bind fun z4 =>
some z4)).bind fun b2 =>
if b2 = true then ((orO (some (!(isStr l_thing_))) ((eqP l_kind_ (PyData.str ("word" : Str))).bind fun z6 =>
some z6)).bind fun b5 =>
if b5 = true then ((andO (some (isStr l_thing_)) ((inP l_thing_ (PyData.tuple [(PyData.str ("set" : Str)), (PyData.str ("add" : Str)), (PyData.str ("times" : Str))])).bind fun z8 =>
some z8)).bind fun b7 =>
some b7) else ((andO (((lenP l_thing_).bind fun z11 =>
if (decide ((1 : Int) ≤ z11)) = true then (some (decide (z11 ≤ (8 : Int)))) else some false).bind fun b10 =>
some b10) ((seqP l_thing_).bind fun z12 =>
(okIf (decide (z12.length ≤ 100000))).bind fun z13 =>
(mapO (fun x16 =>
(inP x16 (PyData.str ("abcdefghijklmnopqrstuvwxyz" : Str))).bind fun z17 =>
some z17) z12).bind fun ys14 =>
some (ys14.all id))).bind fun b9 =>
some b9)) else ((andO ((eqP l_kind_ (PyData.str ("key" : Str))).bind fun z19 =>
some z19) (some (isNonD l_thing_))).bind fun b18 =>
if b18 = true then (some true) else ((orO (some (!(isInt l_thing_))) (some (isBool l_thing_))).bind fun b20 =>
if b20 = true then (some false) else ((lfP l_kind_).bind fun z22 =>
(tup2 ((atF ([(Leaf.text ("rank" : Str), (PyData.tuple [(PyData.int (1 : Int)), (PyData.int (3 : Int))])), (Leaf.text ("count" : Str), (PyData.tuple [(PyData.int (0 : Int)), (PyData.int ((10 : Int) ^ 60))]))]) z22).getD (PyData.tuple [(PyData.int (-(1000000000 : Int))), (PyData.int (1000000000 : Int))]))).bind fun z23 =>
((asI z23.1).bind fun z25 =>
(asI l_thing_).bind fun z26 =>
if (decide (z25 ≤ z26)) = true then ((asI l_thing_).bind fun z27 =>
(asI z23.2).bind fun z28 =>
some (decide (z27 ≤ z28))) else some false).bind fun b24 =>
some b24))))
def sp_law_is_small : DSp := fun xs S Kt => ∃ (l_thing_ : PyData) (l_kind_ : PyData) (K : (Bool) → Prop), xs = [.d l_thing_, .d l_kind_] ∧ S = [] ∧ go (m_law_is_small l_thing_ l_kind_) K ∧ ∀ r, K r → Kt (.d (PyData.bool r)) []
theorem call_law_is_small {S : DS} {Q : DV → DS → Prop} {l_thing_ : PyData} {l_kind_ : PyData} {K : (Bool) → Prop}  (k : go (m_law_is_small l_thing_ l_kind_) K) (q : ∀ r, K r → Q (.d (PyData.bool r)) (S)) : DCall (sp_law_is_small) [.d l_thing_, .d l_kind_] S Q := call0 ⟨l_thing_, l_kind_, K, rfl, rfl, k, fun r h => ⟨_, .refl _, q r h⟩⟩
theorem okd_law_is_small {C : Cz} {mg : Str → Option Value} {base : Heap} (T : Env C.K mg) : Fd C mg base 1 "_law_is_small" p_law_is_small sp_law_is_small := by
  refine T.l_law_is_small.okD sc_law_is_small (fun xs S Kt h => ?_) (fun f cdv A outer s H E hr => ⟨_, (pss_cons (ps_if (pt_cmpR (op_eqU (K := C.K) rfl (u64 hr)) (pv 1) pe_str (nomark _)) (pss_one (ps_ret (pe_callB (call_isiU (K := C.K) rfl) (by rfl) T.m_isinstance (by decide +kernel) (pa_cons (pv 0) (pa_cons (pe_bltn (v := .ty "bool") (u := .type "bool") rfl T.m_bool (by decide +kernel) rfl) pa_nil))))) pss_nil)
      (pss_cons (ps_if (PW.pt (pw_or (pt_cmpR (op_eqU (K := C.K) rfl (u64 hr)) (pv 1) pe_str (nomark _)) (pw_or1 (pt_cmpR (op_eqU (K := C.K) rfl (u64 hr)) (pv 1) pe_str (nomark _))))) (pss_cons (ps_if (PW.pt (pw_or (pt_not (pt_val (pe_callB (call_isiU (K := C.K) rfl) (by rfl) T.m_isinstance (by decide +kernel) (pa_cons (pv 0) (pa_cons (pe_bltn (v := .ty "str") (u := .type "str") rfl T.m_str (by decide +kernel) rfl) pa_nil))))) (pw_or1 (pt_cmpR (op_eqU (K := C.K) rfl (u64 hr)) (pv 1) pe_str (nomark _))))) (pss_one (ps_ret (pe_and (pe_callB (call_isiU (K := C.K) rfl) (by rfl) T.m_isinstance (by decide +kernel) (pa_cons (pv 0) (pa_cons (pe_bltn (v := .ty "str") (u := .type "str") rfl T.m_str (by decide +kernel) rfl) pa_nil))) (pe_one (pe_cmpR (op_inU (K := C.K) rfl (u65 hr)) (pv 0) (pe_tup (pa_cons pe_str (pa_cons pe_str (pa_cons pe_str pa_nil)))) (by rfl)))))) pss_nil)
      (pss_cons (ps_set (i := 2) sc_law_is_small.nd rfl (Or.inr rfl) pe_str)
      (pss_one (ps_ret (pe_and (pe_chain op_le op_le pe_int (pe_callB (call_lenX (C := C) rfl rfl rfl) (by rfl) T.m_len (by decide +kernel) (pa_cons (pv 0) pa_nil)) pe_int) (pe_one (pe_callB (call_allU (K := C.K) rfl rfl) (by rfl) T.m_all (by decide +kernel) (pa_cons (pe_lc (own := [("_law_sign", 5)]) (g := (gName 5)) (tt := tYes) rfl sc_law_is_small.nd (pi_UU (K := C.K) rfl (pv 0)) (blkOk_by (N := N_law_is_small) (sc := defScope s_law_is_small) (by decide +kernel)) (fun _ _ _ _ _ => (pg_name (i := 5) sc_law_is_small.nd rfl (Or.inl rfl))) (fun _ _ _ _ _ => pts_nil) (fun _ _ _ _ _ => (pe_cmpR (op_inU (K := C.K) rfl (u65 hr)) (pv 5) (pv 2) (by rfl)))) pa_nil)))))))) pss_nil)
      (pss_cons (ps_if (PW.pt (pw_and (pt_cmpR (op_eqU (K := C.K) rfl (u64 hr)) (pv 1) pe_str (nomark _)) (pw_and1 (pt_cmp (pc_isN (pv 0)))))) (pss_one (ps_ret pe_bl)) pss_nil)
      (pss_cons (ps_if (PW.pt (pw_or (pt_not (pt_val (pe_callB (call_isiU (K := C.K) rfl) (by rfl) T.m_isinstance (by decide +kernel) (pa_cons (pv 0) (pa_cons (pe_bltn (v := .ty "int") (u := .type "int") rfl T.m_int (by decide +kernel) rfl) pa_nil))))) (pw_or1 (pt_val (pe_callB (call_isiU (K := C.K) rfl) (by rfl) T.m_isinstance (by decide +kernel) (pa_cons (pv 0) (pa_cons (pe_bltn (v := .ty "bool") (u := .type "bool") rfl T.m_bool (by decide +kernel) rfl) pa_nil))))))) (pss_one (ps_ret pe_bl)) pss_nil)
      (pss_cons (ps_asg (pe_mG (ty_LU (P := C.P) (w := C.w) rfl rfl) PySem.F.plainAttrs_dict PySem.F.slot_dict_get PySem.F.type_dict_get (mt_getLU (P := C.P) (w := C.w) rfl rfl) (pe_lfU (P := C.P) (w := C.w) rfl rfl (pe_disp (pps_cons pe_str (pe_tup (pa_cons pe_int (pa_cons pe_int pa_nil))) (pps_cons pe_str (pe_tup (pa_cons pe_int (pa_cons (pe_op op_pow pe_int pe_int) pa_nil))) pps_nil)) (by rfl) (by rfl) (by exact List.cons_ne_nil _ _) (by exact Nat.le_of_ble_eq_true rfl))) (pa_cons (pv 1) (pa_cons (pe_tup (pa_cons (pe_un un_neg (pe_op op_pow pe_int pe_int)) (pa_cons (pe_op op_pow pe_int pe_int) pa_nil))) pa_nil))) (pg_tupU (K := C.K) (n := 2) rfl rfl (pgs_cons (pg_name (i := 3) sc_law_is_small.nd rfl (Or.inl rfl)) (pgs_cons (pg_name (i := 4) sc_law_is_small.nd rfl (Or.inl rfl)) pgs_nil))))
      (pss_one (ps_ret (pe_chain op_le op_le (pv 3) (pv 0) (pv 4))))))))), fun xs S Kt h => ?_⟩)
  · obtain ⟨_, _, _, rfl, _⟩ := h
    rfl
  · obtain ⟨l_thing_, l_kind_, K, rfl, rfl, k, hK⟩ := h
    unfold m_law_is_small at k
    show DSt C _ [some (.d l_thing_), some (.d l_kind_), none, none, none, none] _ _
    refine d_seq ?_
    refine d_ifS ?_
    first | refine d_test ?_ | refine d_B ?_
    refine d_op ?_
    refine d_var rfl ?_
    refine d_cS ?_
    obtain ⟨z1, hz1, k⟩ := gb k
    refine d_eqP hz1 ?_
    refine d_bl ?_
    refine ite_go k (fun _ k => ?_) (fun _ k => ?_)
    · skip
      refine d_ret ?_
      refine d_cb ?_
      refine d_cons ?_
      refine d_var rfl ?_
      refine d_cons ?_
      refine d_cT ?_
      refine d_nil ?_
      refine d_isBool ?_
      have k := gs k
      exact KW.sub (by walk_at "u") (hK _ k)
    · skip
      refine d_next ?_
      refine d_seq ?_
      refine d_ifS ?_
      refine d_testM (gc k) (fun R k => ?_) (fun b2 k => ?_)
      · skip
        have k := gc k
        refine d_or ?_
        first | refine d_test ?_ | refine d_B ?_
        refine d_op ?_
        refine d_var rfl ?_
        refine d_cS ?_
        obtain ⟨z3, hz3, k⟩ := gb k
        refine d_eqP hz3 ?_
        refine d_bl ?_
        have k := gs k
        refine ite_go k (fun _ k => ?_) (fun _ k => ?_)
        · exact ⟨by walk_at "u", gs k⟩
        first | refine d_test ?_ | refine d_B ?_
        refine d_op ?_
        refine d_var rfl ?_
        refine d_cS ?_
        obtain ⟨z4, hz4, k⟩ := gb k
        refine d_eqP hz4 ?_
        refine d_bl ?_
        have k := gs k
        exact ⟨by walk_at "u", k⟩
      refine ite_go k (fun _ k => ?_) (fun _ k => ?_)
      · skip
        refine d_seq ?_
        refine d_ifS ?_
        refine d_testM (gc k) (fun R k => ?_) (fun b5 k => ?_)
        · skip
          have k := gc k
          refine d_or ?_
          refine d_not ?_
          first | refine d_test ?_ | refine d_B ?_
          refine d_cb ?_
          refine d_cons ?_
          refine d_var rfl ?_
          refine d_cons ?_
          refine d_cT ?_
          refine d_nil ?_
          refine d_isStr ?_
          refine d_bl ?_
          have k := gs k
          refine ite_go k (fun _ k => ?_) (fun _ k => ?_)
          · exact ⟨by walk_at "u", gs k⟩
          first | refine d_test ?_ | refine d_B ?_
          refine d_op ?_
          refine d_var rfl ?_
          refine d_cS ?_
          obtain ⟨z6, hz6, k⟩ := gb k
          refine d_eqP hz6 ?_
          refine d_bl ?_
          have k := gs k
          exact ⟨by walk_at "u", k⟩
        refine ite_go k (fun _ k => ?_) (fun _ k => ?_)
        · skip
          refine d_ret ?_
          refine d_valM (f := PyData.bool) (gc k) (fun R k => ?_) (fun b7 k => ?_)
          · skip
            have k := gc k
            refine d_andV ?_
            refine d_cb ?_
            refine d_cons ?_
            refine d_var rfl ?_
            refine d_cons ?_
            refine d_cT ?_
            refine d_nil ?_
            refine d_isStr ?_
            refine d_bl ?_
            have k := gs k
            refine ite_goF k (fun _ k => ?_) (fun _ k => ?_)
            · exact ⟨_, rfl, by walk_at "u", gs k⟩
            refine d_op ?_
            refine d_var rfl ?_
            refine d_tup ?_
            refine d_cons ?_
            refine d_cS ?_
            refine d_cons ?_
            refine d_cS ?_
            refine d_cons ?_
            refine d_cS ?_
            refine d_nil ?_
            refine newT_P (by repeat' constructor) (by exact Nat.le_of_ble_eq_true rfl) ?_
            obtain ⟨z8, hz8, k⟩ := gb k
            refine d_inP hz8 ?_
            have k := gs k
            exact ⟨_, rfl, by walk_at "u", k⟩
          have k := gs k
          exact KW.sub (by walk_at "u") (hK _ k)
        · skip
          refine d_next ?_
          refine d_seq ?_
          refine d_asg ?_
          refine d_cS ?_
          refine d_name ?_
          refine d_ret ?_
          refine d_valM (f := PyData.bool) (gc k) (fun R k => ?_) (fun b9 k => ?_)
          · skip
            have k := gc k
            refine d_andV ?_
            refine d_valM (f := PyData.bool) (gc k) (fun R k => ?_) (fun b10 k => ?_)
            · skip
              refine d_chain ?_
              refine d_cI ?_
              refine d_cb ?_
              refine d_cons ?_
              refine d_var rfl ?_
              refine d_nil ?_
              obtain ⟨z11, hz11, k⟩ := gb k
              refine d_lenX (d_lenP hz11 ?_)
              refine d_cmpP rfl rfl ?_
              refine d_bl ?_
              refine ite_goF k (fun _ k => ?_) (fun _ k => ?_)
              · exact ⟨_, rfl, by walk_at "u", gs k⟩
              refine d_cI ?_
              refine d_cmpP rfl rfl ?_
              have k := gs k
              exact ⟨_, rfl, by walk_at "u", k⟩
            refine d_bl ?_
            have k := gs k
            refine ite_goF k (fun _ k => ?_) (fun _ k => ?_)
            · exact ⟨_, rfl, by walk_at "u", gs k⟩
            refine d_cb ?_
            refine d_cons ?_
            refine d_lcU ?_
            refine d_var rfl ?_
            obtain ⟨z12, hz12, k⟩ := gb k
            obtain ⟨z13, hz13, k⟩ := gb k
            refine lc_seq hz12 ?_
            refine lcGb (eb := PyData.bool) (emb := DV.d) (mapO_M (gc k)) gk_name (okIf_d hz13) (fun x16 _ R k => ?_) (fun ys14 k p15 => ?_)
            · skip
              refine d_name ?_
              refine d_op ?_
              refine d_var rfl ?_
              refine d_var rfl ?_
              obtain ⟨z17, hz17, k⟩ := gb k
              refine d_inP hz17 ?_
              have k := gs k
              exact ⟨_, rfl, by walk_at "u", k⟩
            refine d_nil ?_
            refine d_allP ?_
            have k := gs k
            exact ⟨_, rfl, by walk_at "u", k⟩
          have k := gs k
          exact KW.sub (by walk_at "u") (hK _ k)
      · skip
        refine d_next ?_
        refine d_seq ?_
        refine d_ifS ?_
        refine d_testM (gc k) (fun R k => ?_) (fun b18 k => ?_)
        · skip
          have k := gc k
          refine d_and ?_
          first | refine d_test ?_ | refine d_B ?_
          refine d_op ?_
          refine d_var rfl ?_
          refine d_cS ?_
          obtain ⟨z19, hz19, k⟩ := gb k
          refine d_eqP hz19 ?_
          refine d_bl ?_
          have k := gs k
          refine ite_goF k (fun _ k => ?_) (fun _ k => ?_)
          · exact ⟨by walk_at "u", gs k⟩
          first | refine d_test ?_ | refine d_B ?_
          refine d_isN ?_
          refine d_var rfl ?_
          rw [isN_d]
          refine d_bl ?_
          have k := gs k
          exact ⟨by walk_at "u", k⟩
        refine ite_go k (fun _ k => ?_) (fun _ k => ?_)
        · skip
          refine d_ret ?_
          refine d_cB ?_
          have k := gs k
          exact KW.sub (by walk_at "u") (hK _ k)
        · skip
          refine d_next ?_
          refine d_seq ?_
          refine d_ifS ?_
          refine d_testM (gc k) (fun R k => ?_) (fun b20 k => ?_)
          · skip
            have k := gc k
            refine d_or ?_
            refine d_not ?_
            first | refine d_test ?_ | refine d_B ?_
            refine d_cb ?_
            refine d_cons ?_
            refine d_var rfl ?_
            refine d_cons ?_
            refine d_cT ?_
            refine d_nil ?_
            refine d_isInt ?_
            refine d_bl ?_
            have k := gs k
            refine ite_go k (fun _ k => ?_) (fun _ k => ?_)
            · exact ⟨by walk_at "u", gs k⟩
            first | refine d_test ?_ | refine d_B ?_
            refine d_cb ?_
            refine d_cons ?_
            refine d_var rfl ?_
            refine d_cons ?_
            refine d_cT ?_
            refine d_nil ?_
            refine d_isBool ?_
            refine d_bl ?_
            have k := gs k
            exact ⟨by walk_at "u", k⟩
          refine ite_go k (fun _ k => ?_) (fun _ k => ?_)
          · skip
            refine d_ret ?_
            refine d_cB ?_
            have k := gs k
            exact KW.sub (by walk_at "u") (hK _ k)
          · skip
            refine d_next ?_
            refine d_seq ?_
            refine d_asg ?_
            refine d_mG ?_
            refine d_disp ?_
            refine d_pcons ?_
            refine d_cS ?_
            refine d_tup ?_
            refine d_cons ?_
            refine d_cI ?_
            refine d_cons ?_
            refine d_cI ?_
            refine d_nil ?_
            refine newT_P (by repeat' constructor) (by exact Nat.le_of_ble_eq_true rfl) ?_
            refine d_pcons ?_
            refine d_cS ?_
            refine d_tup ?_
            refine d_cons ?_
            refine d_cI ?_
            refine d_cons ?_
            refine d_op ?_
            refine d_cI ?_
            refine d_cI ?_
            refine d_pow60 ?_
            refine d_nil ?_
            refine newT_P (by repeat' constructor) (by exact Nat.le_of_ble_eq_true rfl) ?_
            refine d_pnil ?_
            refine newFP (by repeat' constructor) (by exact Nat.le_of_ble_eq_true rfl) (by decide +kernel) fun p21 => ?_
            refine d_tyFP (by walk_at "p") ?_
            refine d_cons ?_
            refine d_var rfl ?_
            refine d_cons ?_
            refine d_tup ?_
            refine d_cons ?_
            refine d_un ?_
            refine d_op ?_
            refine d_cI ?_
            refine d_cI ?_
            refine d_pow9 ?_
            refine d_negP rfl ?_
            refine d_cons ?_
            refine d_op ?_
            refine d_cI ?_
            refine d_cI ?_
            refine d_pow9 ?_
            refine d_nil ?_
            refine newT_P (by repeat' constructor) (by exact Nat.le_of_ble_eq_true rfl) ?_
            refine d_nil ?_
            obtain ⟨z22, hz22, k⟩ := gb k
            refine d_getFP (by walk_at "p") hz22 ?_
            obtain ⟨z23, hz23, k⟩ := gb k
            refine d_gt2 hz23 ?_
            refine d_gcons ?_
            refine d_name ?_
            refine d_gcons ?_
            refine d_name ?_
            refine d_gnil ?_
            refine d_ret ?_
            refine d_valM (f := PyData.bool) (gc k) (fun R k => ?_) (fun b24 k => ?_)
            · skip
              refine d_chain ?_
              refine d_var rfl ?_
              refine d_var rfl ?_
              obtain ⟨z25, hz25, k⟩ := gb k
              obtain ⟨z26, hz26, k⟩ := gb k
              refine d_cmpP hz25 hz26 ?_
              refine d_bl ?_
              refine ite_goF k (fun _ k => ?_) (fun _ k => ?_)
              · exact ⟨_, rfl, by walk_at "u", gs k⟩
              refine d_var rfl ?_
              obtain ⟨z27, hz27, k⟩ := gb k
              obtain ⟨z28, hz28, k⟩ := gb k
              refine d_cmpP hz27 hz28 ?_
              have k := gs k
              exact ⟨_, rfl, by walk_at "u", k⟩
            have k := gs k
            exact KW.sub (by walk_at "u") (hK _ k)
mutual
def m_law_is : Nat → PyData → PyData → Option (Bool)
  | 0, _, _ => none
  | n + 1, l_thing_, l_kind_ =>
    if (isLst l_kind_) = true then ((andO (some (isTup l_thing_)) ((seqP l_thing_).bind fun z2 =>
    (okIf (decide (z2.length ≤ 100000))).bind fun z3 =>
    (mapO (fun x6 =>
    (ixP l_kind_ (0 : Int)).bind fun z7 =>
    (m_law_is n x6 z7).bind fun r8 =>
    some r8) z2).bind fun ys4 =>
    some (ys4.all id))).bind fun b1 =>
    some b1) else (if (isTup l_kind_) = true then ((orO (some (!(isTup l_thing_))) ((lenP l_thing_).bind fun z10 =>
    (lenP l_kind_).bind fun z11 =>
    some (!(decide (z10 = z11))))).bind fun b9 =>
    if b9 = true then (some false) else ((lenP l_kind_).bind fun z12 =>
    (okIf (decide (-100000 ≤ z12 ∧ z12 ≤ 100000))).bind fun z13 =>
    (mapO (fun x16 =>
    (ixP l_thing_ x16).bind fun z17 =>
    (ixP l_kind_ x16).bind fun z18 =>
    (m_law_is n z17 z18).bind fun r19 =>
    some r19) (rngP z12)).bind fun ys14 =>
    some (ys14.all id))) else ((inP l_kind_ (PyData.tuple [(PyData.str ("name" : Str)), (PyData.str ("word" : Str)), (PyData.str ("truth" : Str)), (PyData.str ("number" : Str)), (PyData.str ("rank" : Str)), (PyData.str ("count" : Str)), (PyData.str ("key" : Str))])).bind fun z20 =>
    if z20 = true then ((m_law_is_small l_thing_ l_kind_).bind fun r21 =>
    some r21) else ((m_law_is_great n l_thing_ l_kind_).bind fun r22 =>
    some r22)))
def m_law_is_great : Nat → PyData → PyData → Option (Bool)
  | 0, _, _ => none
  | n + 1, l_thing_, l_kind_ =>
    (eqP l_kind_ (PyData.str ("label" : Str))).bind fun z1 =>
    if z1 = true then ((andO ((m_law_is n l_thing_ (PyData.list [(PyData.tuple [(PyData.str ("key" : Str)), (PyData.str ("count" : Str))])])).bind fun r4 =>
    some r4) ((eqP l_thing_ (PyData.tuple [])).bind fun z5 =>
    some (!z5))).bind fun b2 =>
    some b2) else ((eqP l_kind_ (PyData.str ("sets" : Str))).bind fun z6 =>
    if z6 = true then ((m_law_is n l_thing_ (PyData.list [(PyData.tuple [(PyData.str ("name" : Str)), (PyData.str ("number" : Str))])])).bind fun r8 =>
    if (!r8) = true then (some false) else ((lenP l_thing_).bind fun z9 =>
    (okIf (decide (-100000 ≤ (z9 - (1 : Int)) ∧ (z9 - (1 : Int)) ≤ 100000))).bind fun z10 =>
    (mapO (fun x13 =>
    (ixP l_thing_ x13).bind fun z14 =>
    (ixP z14 (0 : Int)).bind fun z15 =>
    (ixP l_thing_ (x13 + (1 : Int))).bind fun z16 =>
    (ixP z16 (0 : Int)).bind fun z17 =>
    (ltP z15 z17).bind fun z18 =>
    some z18) (rngP (z9 - (1 : Int)))).bind fun ys11 =>
    some (ys11.all id))) else ((eqP l_kind_ (PyData.str ("hands" : Str))).bind fun z19 =>
    if z19 = true then ((m_law_is n l_thing_ (PyData.list [(PyData.tuple [(PyData.str ("name" : Str)), (PyData.str ("rank" : Str)), (PyData.str ("truth" : Str)), (PyData.list [(PyData.tuple [(PyData.str ("key" : Str)), (PyData.str ("count" : Str))])]), (PyData.list [(PyData.tuple [(PyData.str ("name" : Str)), (PyData.str ("word" : Str)), (PyData.str ("number" : Str))])])])])).bind fun r23 =>
    if (!r23) = true then (some false) else ((seqP l_thing_).bind fun z24 =>
    (okIf (decide (z24.length ≤ 100000))).bind fun z25 =>
    (mapO (fun x28 =>
    (ixP x28 (0 : Int)).bind fun z29 =>
    some z29) z24).bind fun ys26 =>
    (setLenP ys26).bind fun z30 =>
    (lenP l_thing_).bind fun z33 =>
    some (decide ((z30 : Int) = z33)))) else ((eqP l_kind_ (PyData.str ("box" : Str))).bind fun z34 =>
    if z34 = true then ((m_law_is n l_thing_ (PyData.tuple [(PyData.str ("name" : Str)), (PyData.str ("sets" : Str)), (PyData.str ("hands" : Str)), (PyData.str ("tree" : Str))])).bind fun r35 =>
    some r35) else ((eqP l_kind_ (PyData.str ("tree" : Str))).bind fun z36 =>
    if z36 = true then ((andO ((m_law_is n l_thing_ (PyData.list [(PyData.tuple [(PyData.str ("label" : Str)), (PyData.str ("box" : Str))])])).bind fun r39 =>
    some r39) ((seqP l_thing_).bind fun z40 =>
    (okIf (decide (z40.length ≤ 100000))).bind fun z41 =>
    (mapO (fun x44 =>
    (ixP x44 (0 : Int)).bind fun z45 =>
    some z45) z40).bind fun ys42 =>
    (setLenP ys42).bind fun z46 =>
    (lenP l_thing_).bind fun z49 =>
    some (decide ((z46 : Int) = z49)))).bind fun b37 =>
    some b37) else ((m_law_is_deed n l_thing_).bind fun r50 =>
    some r50)))))
def m_law_is_deed : Nat → PyData → Option (Bool)
  | 0, _ => none
  | n + 1, l_thing_ =>
    (orO (some (!(isTup l_thing_))) (orO ((lenP l_thing_).bind fun z2 =>
    some (decide (z2 = (0 : Int)))) ((ixP l_thing_ (0 : Int)).bind fun z3 =>
    some (!(isStr z3))))).bind fun b1 =>
    if b1 = true then (some false) else ((lfP (PyData.str ("set" : Str))).bind fun z5 =>
    (putO ([(Leaf.text ("put" : Str), (PyData.tuple [(PyData.str ("number" : Str)), (PyData.str ("label" : Str)), (PyData.str ("name" : Str))])), (Leaf.text ("take" : Str), (PyData.tuple [(PyData.str ("label" : Str))])), (Leaf.text ("move" : Str), (PyData.tuple [(PyData.str ("label" : Str)), (PyData.str ("number" : Str))]))]) z5 (PyData.tuple [(PyData.str ("name" : Str)), (PyData.str ("number" : Str))])).bind fun z6 =>
    (lfP (PyData.str ("unset" : Str))).bind fun z7 =>
    (putO z6 z7 (PyData.tuple [(PyData.str ("name" : Str))])).bind fun z8 =>
    (lfP (PyData.str ("hands" : Str))).bind fun z9 =>
    (putO z8 z9 (PyData.tuple [(PyData.str ("hands" : Str))])).bind fun z10 =>
    (andO ((ixP l_thing_ (0 : Int)).bind fun z12 =>
    (lfP z12).bind fun z13 =>
    some ((atF z10 z13).isSome)) ((slP l_thing_ (some (1 : Int)) none).bind fun z14 =>
    (ixP l_thing_ (0 : Int)).bind fun z16 =>
    (lfP z16).bind fun z17 =>
    (atF z10 z17).bind fun z18 =>
    (addP (PyData.tuple [(PyData.list [(PyData.str ("label" : Str))])]) z18).bind fun z19 =>
    (m_law_is n z14 z19).bind fun r20 =>
    some r20)).bind fun b11 =>
    some b11)
end
def sp_law_is (n : Nat) : DSp := fun xs S Kt => ∃ (l_thing_ : PyData) (l_kind_ : PyData) (K : (Bool) → Prop), xs = [.d l_thing_, .d l_kind_] ∧ S = [] ∧ go (m_law_is n l_thing_ l_kind_) K ∧ ∀ r, K r → Kt (.d (PyData.bool r)) []
theorem call_law_is {n : Nat} {S : DS} {Q : DV → DS → Prop} {l_thing_ : PyData} {l_kind_ : PyData} {K : (Bool) → Prop}  (k : go (m_law_is n l_thing_ l_kind_) K) (q : ∀ r, K r → Q (.d (PyData.bool r)) (S)) : DCall (sp_law_is n) [.d l_thing_, .d l_kind_] S Q := call0 ⟨l_thing_, l_kind_, K, rfl, rfl, k, fun r h => ⟨_, .refl _, q r h⟩⟩
def sp_law_is_great (n : Nat) : DSp := fun xs S Kt => ∃ (l_thing_ : PyData) (l_kind_ : PyData) (K : (Bool) → Prop), xs = [.d l_thing_, .d l_kind_] ∧ S = [] ∧ go (m_law_is_great n l_thing_ l_kind_) K ∧ ∀ r, K r → Kt (.d (PyData.bool r)) []
theorem call_law_is_great {n : Nat} {S : DS} {Q : DV → DS → Prop} {l_thing_ : PyData} {l_kind_ : PyData} {K : (Bool) → Prop}  (k : go (m_law_is_great n l_thing_ l_kind_) K) (q : ∀ r, K r → Q (.d (PyData.bool r)) (S)) : DCall (sp_law_is_great n) [.d l_thing_, .d l_kind_] S Q := call0 ⟨l_thing_, l_kind_, K, rfl, rfl, k, fun r h => ⟨_, .refl _, q r h⟩⟩
def sp_law_is_deed (n : Nat) : DSp := fun xs S Kt => ∃ (l_thing_ : PyData) (K : (Bool) → Prop), xs = [.d l_thing_] ∧ S = [] ∧ go (m_law_is_deed n l_thing_) K ∧ ∀ r, K r → Kt (.d (PyData.bool r)) []
theorem call_law_is_deed {n : Nat} {S : DS} {Q : DV → DS → Prop} {l_thing_ : PyData} {K : (Bool) → Prop}  (k : go (m_law_is_deed n l_thing_) K) (q : ∀ r, K r → Q (.d (PyData.bool r)) (S)) : DCall (sp_law_is_deed n) [.d l_thing_] S Q := call0 ⟨l_thing_, K, rfl, rfl, k, fun r h => ⟨_, .refl _, q r h⟩⟩
theorem okn_law_is {C : Cz} {mg : Str → Option Value} {base : Heap} (T : Env C.K mg) : ∀ n, Fd C mg base (2 + n) "_law_is" p_law_is (sp_law_is n) ∧ Fd C mg base (2 + n) "_law_is_great" p_law_is_great (sp_law_is_great n) ∧ Fd C mg base (2 + n) "_law_is_deed" p_law_is_deed (sp_law_is_deed n)
  | 0 => ⟨(T.l_law_is.okD0 sc_law_is fun xs S Kt ⟨l_thing_, l_kind_, K, _, _, k, _⟩ => (by unfold m_law_is at k; obtain ⟨_, e, _⟩ := k; cases e)), (T.l_law_is_great.okD0 sc_law_is_great fun xs S Kt ⟨l_thing_, l_kind_, K, _, _, k, _⟩ => (by unfold m_law_is_great at k; obtain ⟨_, e, _⟩ := k; cases e)), (T.l_law_is_deed.okD0 sc_law_is_deed fun xs S Kt ⟨l_thing_, K, _, _, k, _⟩ => (by unfold m_law_is_deed at k; obtain ⟨_, e, _⟩ := k; cases e))⟩
  | n + 1 => by
    have IHs := okn_law_is (C := C) (base := base) T n
    obtain ⟨IH_law_is, IH_law_is_great, IH_law_is_deed⟩ := IHs
    refine ⟨?_, ?_, ?_⟩
    · refine T.l_law_is.okD sc_law_is (fun xs S Kt h => ?_) (fun f cdv A outer s H E hr => ⟨_, (pss_cons (ps_if (pt_val (pe_callB (call_isiU (K := C.K) rfl) (by rfl) T.m_isinstance (by decide +kernel) (pa_cons (pv 1) (pa_cons (pe_bltn (v := .ty "list") (u := .type "list") rfl T.m_list (by decide +kernel) rfl) pa_nil)))) (pss_one (ps_ret (pe_and (pe_callB (call_isiU (K := C.K) rfl) (by rfl) T.m_isinstance (by decide +kernel) (pa_cons (pv 0) (pa_cons (pe_bltn (v := .ty "tuple") (u := .type "tuple") rfl T.m_tuple (by decide +kernel) rfl) pa_nil))) (pe_one (pe_callB (call_allU (K := C.K) rfl rfl) (by rfl) T.m_all (by decide +kernel) (pa_cons (pe_lc (own := [("_law_one", 2)]) (g := (gName 2)) (tt := tYes) rfl sc_law_is.nd (pi_UU (K := C.K) rfl (pv 0)) (blkOk_by (N := N_law_is) (sc := defScope s_law_is) (by decide +kernel)) (fun _ _ _ _ _ => (pg_name (i := 2) sc_law_is.nd rfl (Or.inl rfl))) (fun _ _ _ _ _ => pts_nil) (fun _ _ _ _ _ => (pe_fx (IH_law_is) hr (Nat.le_refl _) (pa_cons (pv 2) (pa_cons (pe_ix (ix_U (K := C.K) rfl) (pv 1) pe_int (fun _ _ => rfl)) pa_nil))))) pa_nil)))))) pss_nil)
      (pss_cons (ps_if (pt_val (pe_callB (call_isiU (K := C.K) rfl) (by rfl) T.m_isinstance (by decide +kernel) (pa_cons (pv 1) (pa_cons (pe_bltn (v := .ty "tuple") (u := .type "tuple") rfl T.m_tuple (by decide +kernel) rfl) pa_nil)))) (pss_cons (ps_if (PW.pt (pw_or (pt_not (pt_val (pe_callB (call_isiU (K := C.K) rfl) (by rfl) T.m_isinstance (by decide +kernel) (pa_cons (pv 0) (pa_cons (pe_bltn (v := .ty "tuple") (u := .type "tuple") rfl T.m_tuple (by decide +kernel) rfl) pa_nil))))) (pw_or1 (pt_cmpR (op_neU (K := C.K) rfl (u64 hr)) (pe_callB (call_lenX (C := C) rfl rfl rfl) (by rfl) T.m_len (by decide +kernel) (pa_cons (pv 0) pa_nil)) (pe_callB (call_lenX (C := C) rfl rfl rfl) (by rfl) T.m_len (by decide +kernel) (pa_cons (pv 1) pa_nil)) (nomark _))))) (pss_one (ps_ret pe_bl)) pss_nil)
      (pss_one (ps_ret (pe_callB (call_allU (K := C.K) rfl rfl) (by rfl) T.m_all (by decide +kernel) (pa_cons (pe_lc (own := [("_law_k", 3)]) (g := (gName 3)) (tt := tYes) rfl sc_law_is.nd (pi_range1 rfl T.m_range (pa_cons (pe_callB (call_lenX (C := C) rfl rfl rfl) (by rfl) T.m_len (by decide +kernel) (pa_cons (pv 1) pa_nil)) pa_nil)) (blkOk_by (N := N_law_is) (sc := defScope s_law_is) (by decide +kernel)) (fun _ _ _ _ _ => (pg_name (i := 3) sc_law_is.nd rfl (Or.inl rfl))) (fun _ _ _ _ _ => pts_nil) (fun _ _ _ _ _ => (pe_fx (IH_law_is) hr (Nat.le_refl _) (pa_cons (pe_ix (ix_U (K := C.K) rfl) (pv 0) (pv 3) (fun _ _ => rfl)) (pa_cons (pe_ix (ix_U (K := C.K) rfl) (pv 1) (pv 3) (fun _ _ => rfl)) pa_nil))))) pa_nil))))) pss_nil)
      (pss_cons (ps_if (pt_cmpR (op_inU (K := C.K) rfl (u65 hr)) (pv 1) (pe_tup (pa_cons pe_str (pa_cons pe_str (pa_cons pe_str (pa_cons pe_str (pa_cons pe_str (pa_cons pe_str (pa_cons pe_str pa_nil)))))))) (by rfl)) (pss_one (ps_ret (pe_fx (okd_law_is_small (C := C) T) hr (Nat.le_trans (m := 2) (by decide) (Nat.le_add_right 2 _)) (pa_cons (pv 0) (pa_cons (pv 1) pa_nil))))) pss_nil)
      (pss_one (ps_ret (pe_fx (IH_law_is_great) hr (Nat.le_refl _) (pa_cons (pv 0) (pa_cons (pv 1) pa_nil)))))))), fun xs S Kt h => ?_⟩)
      · obtain ⟨_, _, _, rfl, _⟩ := h
        rfl
      · obtain ⟨l_thing_, l_kind_, K, rfl, rfl, k, hK⟩ := h
        unfold m_law_is at k
        show DSt C _ [some (.d l_thing_), some (.d l_kind_), none, none] _ _
        refine d_seq ?_
        refine d_ifS ?_
        first | refine d_test ?_ | refine d_B ?_
        refine d_cb ?_
        refine d_cons ?_
        refine d_var rfl ?_
        refine d_cons ?_
        refine d_cT ?_
        refine d_nil ?_
        refine d_isLst ?_
        refine d_bl ?_
        refine ite_go k (fun _ k => ?_) (fun _ k => ?_)
        · skip
          refine d_ret ?_
          refine d_valM (f := PyData.bool) (gc k) (fun R k => ?_) (fun b1 k => ?_)
          · skip
            have k := gc k
            refine d_andV ?_
            refine d_cb ?_
            refine d_cons ?_
            refine d_var rfl ?_
            refine d_cons ?_
            refine d_cT ?_
            refine d_nil ?_
            refine d_isTup ?_
            refine d_bl ?_
            have k := gs k
            refine ite_goF k (fun _ k => ?_) (fun _ k => ?_)
            · exact ⟨_, rfl, by walk_at "u", gs k⟩
            refine d_cb ?_
            refine d_cons ?_
            refine d_lcU ?_
            refine d_var rfl ?_
            obtain ⟨z2, hz2, k⟩ := gb k
            obtain ⟨z3, hz3, k⟩ := gb k
            refine lc_seq hz2 ?_
            refine lcGb (eb := PyData.bool) (emb := DV.d) (mapO_M (gc k)) gk_name (okIf_d hz3) (fun x6 _ R k => ?_) (fun ys4 k p5 => ?_)
            · skip
              refine d_name ?_
              refine d_call ?_
              refine d_cons ?_
              refine d_var rfl ?_
              refine d_cons ?_
              refine d_op ?_
              refine d_var rfl ?_
              refine d_cI ?_
              obtain ⟨z7, hz7, k⟩ := gb k
              refine d_ixD rfl hz7 ?_
              refine d_nil ?_
              refine call_law_is  (gc k) fun r8 k => ?_
              have k := gs k
              exact ⟨_, rfl, by walk_at "u", k⟩
            refine d_nil ?_
            refine d_allP ?_
            have k := gs k
            exact ⟨_, rfl, by walk_at "u", k⟩
          have k := gs k
          exact KW.sub (by walk_at "u") (hK _ k)
        · skip
          refine d_next ?_
          refine d_seq ?_
          refine d_ifS ?_
          first | refine d_test ?_ | refine d_B ?_
          refine d_cb ?_
          refine d_cons ?_
          refine d_var rfl ?_
          refine d_cons ?_
          refine d_cT ?_
          refine d_nil ?_
          refine d_isTup ?_
          refine d_bl ?_
          refine ite_go k (fun _ k => ?_) (fun _ k => ?_)
          · skip
            refine d_seq ?_
            refine d_ifS ?_
            refine d_testM (gc k) (fun R k => ?_) (fun b9 k => ?_)
            · skip
              have k := gc k
              refine d_or ?_
              refine d_not ?_
              first | refine d_test ?_ | refine d_B ?_
              refine d_cb ?_
              refine d_cons ?_
              refine d_var rfl ?_
              refine d_cons ?_
              refine d_cT ?_
              refine d_nil ?_
              refine d_isTup ?_
              refine d_bl ?_
              have k := gs k
              refine ite_go k (fun _ k => ?_) (fun _ k => ?_)
              · exact ⟨by walk_at "u", gs k⟩
              first | refine d_test ?_ | refine d_B ?_
              refine d_op ?_
              refine d_cb ?_
              refine d_cons ?_
              refine d_var rfl ?_
              refine d_nil ?_
              obtain ⟨z10, hz10, k⟩ := gb k
              refine d_lenX (d_lenP hz10 ?_)
              refine d_cb ?_
              refine d_cons ?_
              refine d_var rfl ?_
              refine d_nil ?_
              obtain ⟨z11, hz11, k⟩ := gb k
              refine d_lenX (d_lenP hz11 ?_)
              refine d_neI ?_
              refine d_bl ?_
              have k := gs k
              exact ⟨by walk_at "u", k⟩
            refine ite_go k (fun _ k => ?_) (fun _ k => ?_)
            · skip
              refine d_ret ?_
              refine d_cB ?_
              have k := gs k
              exact KW.sub (by walk_at "u") (hK _ k)
            · skip
              refine d_next ?_
              refine d_ret ?_
              refine d_cb ?_
              refine d_cons ?_
              refine d_lcR1 ?_
              refine d_cons ?_
              refine d_cb ?_
              refine d_cons ?_
              refine d_var rfl ?_
              refine d_nil ?_
              obtain ⟨z12, hz12, k⟩ := gb k
              refine d_lenX (d_lenP hz12 ?_)
              refine d_nil ?_
              obtain ⟨z13, hz13, k⟩ := gb k
              refine lc_rngP rfl (okIf_d hz13) ?_
              refine lcGb (eb := PyData.bool) (emb := fun i => DV.d (PyData.int i)) (mapO_M (gc k)) gk_name (rng_len hz13) (fun x16 _ R k => ?_) (fun ys14 k p15 => ?_)
              · skip
                refine d_name ?_
                refine d_call ?_
                refine d_cons ?_
                refine d_op ?_
                refine d_var rfl ?_
                refine d_var rfl ?_
                obtain ⟨z17, hz17, k⟩ := gb k
                refine d_ixD rfl hz17 ?_
                refine d_cons ?_
                refine d_op ?_
                refine d_var rfl ?_
                refine d_var rfl ?_
                obtain ⟨z18, hz18, k⟩ := gb k
                refine d_ixD rfl hz18 ?_
                refine d_nil ?_
                refine call_law_is  (gc k) fun r19 k => ?_
                have k := gs k
                exact ⟨_, rfl, by walk_at "u", k⟩
              refine d_nil ?_
              refine d_allP ?_
              have k := gs k
              exact KW.sub (by walk_at "u") (hK _ k)
          · skip
            refine d_next ?_
            refine d_seq ?_
            refine d_ifS ?_
            first | refine d_test ?_ | refine d_B ?_
            refine d_op ?_
            refine d_var rfl ?_
            refine d_tup ?_
            refine d_cons ?_
            refine d_cS ?_
            refine d_cons ?_
            refine d_cS ?_
            refine d_cons ?_
            refine d_cS ?_
            refine d_cons ?_
            refine d_cS ?_
            refine d_cons ?_
            refine d_cS ?_
            refine d_cons ?_
            refine d_cS ?_
            refine d_cons ?_
            refine d_cS ?_
            refine d_nil ?_
            refine newT_P (by repeat' constructor) (by exact Nat.le_of_ble_eq_true rfl) ?_
            obtain ⟨z20, hz20, k⟩ := gb k
            refine d_inP hz20 ?_
            refine d_bl ?_
            refine ite_go k (fun _ k => ?_) (fun _ k => ?_)
            · skip
              refine d_ret ?_
              refine d_call ?_
              refine d_cons ?_
              refine d_var rfl ?_
              refine d_cons ?_
              refine d_var rfl ?_
              refine d_nil ?_
              refine call_law_is_small  (gc k) fun r21 k => ?_
              have k := gs k
              exact KW.sub (by walk_at "u") (hK _ k)
            · skip
              refine d_next ?_
              refine d_ret ?_
              refine d_call ?_
              refine d_cons ?_
              refine d_var rfl ?_
              refine d_cons ?_
              refine d_var rfl ?_
              refine d_nil ?_
              refine call_law_is_great  (gc k) fun r22 k => ?_
              have k := gs k
              exact KW.sub (by walk_at "u") (hK _ k)
    · refine T.l_law_is_great.okD sc_law_is_great (fun xs S Kt h => ?_) (fun f cdv A outer s H E hr => ⟨_, (pss_cons (ps_set (i := 2) sc_law_is_great.nd rfl (Or.inl rfl) (pe_tup (pa_cons pe_str (pa_cons pe_str pa_nil))))
      (pss_cons (ps_if (pt_cmpR (op_eqU (K := C.K) rfl (u64 hr)) (pv 1) pe_str (nomark _)) (pss_one (ps_ret (pe_and (pe_fx (IH_law_is) hr (Nat.le_refl _) (pa_cons (pv 0) (pa_cons (pe_lst (pa_cons (pv 2) pa_nil)) pa_nil))) (pe_one (pe_cmpR (op_neU (K := C.K) rfl (u64 hr)) (pv 0) (pe_tup pa_nil) (nomark _)))))) pss_nil)
      (pss_cons (ps_if (pt_cmpR (op_eqU (K := C.K) rfl (u64 hr)) (pv 1) pe_str (nomark _)) (pss_cons (ps_if (pt_not (pt_val (pe_fx (IH_law_is) hr (Nat.le_refl _) (pa_cons (pv 0) (pa_cons (pe_lst (pa_cons (pe_tup (pa_cons pe_str (pa_cons pe_str pa_nil))) pa_nil)) pa_nil))))) (pss_one (ps_ret pe_bl)) pss_nil)
      (pss_one (ps_ret (pe_callB (call_allU (K := C.K) rfl rfl) (by rfl) T.m_all (by decide +kernel) (pa_cons (pe_lc (own := [("_law_k", 3)]) (g := (gName 3)) (tt := tYes) rfl sc_law_is_great.nd (pi_range1 rfl T.m_range (pa_cons (pe_op op_sub (pe_callB (call_lenX (C := C) rfl rfl rfl) (by rfl) T.m_len (by decide +kernel) (pa_cons (pv 0) pa_nil)) pe_int) pa_nil)) (blkOk_by (N := N_law_is_great) (sc := defScope s_law_is_great) (by decide +kernel)) (fun _ _ _ _ _ => (pg_name (i := 3) sc_law_is_great.nd rfl (Or.inl rfl))) (fun _ _ _ _ _ => pts_nil) (fun _ _ _ _ _ => (pe_cmpR op_ltU (pe_ix (ix_U (K := C.K) rfl) (pe_ix (ix_U (K := C.K) rfl) (pv 0) (pv 3) (fun _ _ => rfl)) pe_int (fun _ _ => rfl)) (pe_ix (ix_U (K := C.K) rfl) (pe_ix (ix_U (K := C.K) rfl) (pv 0) (pe_op (op_addU (K := C.K) rfl) (pv 3) pe_int) (fun _ _ => rfl)) pe_int (fun _ _ => rfl)) (nomark _)))) pa_nil))))) pss_nil)
      (pss_cons (ps_if (pt_cmpR (op_eqU (K := C.K) rfl (u64 hr)) (pv 1) pe_str (nomark _)) (pss_cons (ps_if (pt_not (pt_val (pe_fx (IH_law_is) hr (Nat.le_refl _) (pa_cons (pv 0) (pa_cons (pe_lst (pa_cons (pe_tup (pa_cons pe_str (pa_cons pe_str (pa_cons pe_str (pa_cons (pe_lst (pa_cons (pv 2) pa_nil)) (pa_cons (pe_lst (pa_cons (pe_tup (pa_cons pe_str (pa_cons pe_str (pa_cons pe_str pa_nil)))) pa_nil)) pa_nil)))))) pa_nil)) pa_nil))))) (pss_one (ps_ret pe_bl)) pss_nil)
      (pss_one (ps_ret (pe_cmpR (op_eqU (K := C.K) rfl (u64 hr)) (pe_callB (call_lenX (C := C) rfl rfl rfl) (by rfl) T.m_len (by decide +kernel) (pa_cons (pe_callTy (call_setX (C := C) rfl rfl rfl rfl (u65 hr)) (by rfl) T.m_set (by decide +kernel) (pa_cons (pe_lc (own := [("_law_one", 4)]) (g := (gName 4)) (tt := tYes) rfl sc_law_is_great.nd (pi_UU (K := C.K) rfl (pv 0)) (blkOk_by (N := N_law_is_great) (sc := defScope s_law_is_great) (by decide +kernel)) (fun _ _ _ _ _ => (pg_name (i := 4) sc_law_is_great.nd rfl (Or.inl rfl))) (fun _ _ _ _ _ => pts_nil) (fun _ _ _ _ _ => (pe_ix (ix_U (K := C.K) rfl) (pv 4) pe_int (fun _ _ => rfl)))) pa_nil)) pa_nil)) (pe_callB (call_lenX (C := C) rfl rfl rfl) (by rfl) T.m_len (by decide +kernel) (pa_cons (pv 0) pa_nil)) (nomark _))))) pss_nil)
      (pss_cons (ps_if (pt_cmpR (op_eqU (K := C.K) rfl (u64 hr)) (pv 1) pe_str (nomark _)) (pss_one (ps_ret (pe_fx (IH_law_is) hr (Nat.le_refl _) (pa_cons (pv 0) (pa_cons (pe_tup (pa_cons pe_str (pa_cons pe_str (pa_cons pe_str (pa_cons pe_str pa_nil))))) pa_nil))))) pss_nil)
      (pss_cons (ps_if (pt_cmpR (op_eqU (K := C.K) rfl (u64 hr)) (pv 1) pe_str (nomark _)) (pss_one (ps_ret (pe_and (pe_fx (IH_law_is) hr (Nat.le_refl _) (pa_cons (pv 0) (pa_cons (pe_lst (pa_cons (pe_tup (pa_cons pe_str (pa_cons pe_str pa_nil))) pa_nil)) pa_nil))) (pe_one (pe_cmpR (op_eqU (K := C.K) rfl (u64 hr)) (pe_callB (call_lenX (C := C) rfl rfl rfl) (by rfl) T.m_len (by decide +kernel) (pa_cons (pe_callTy (call_setX (C := C) rfl rfl rfl rfl (u65 hr)) (by rfl) T.m_set (by decide +kernel) (pa_cons (pe_lc (own := [("_law_one", 4)]) (g := (gName 4)) (tt := tYes) rfl sc_law_is_great.nd (pi_UU (K := C.K) rfl (pv 0)) (blkOk_by (N := N_law_is_great) (sc := defScope s_law_is_great) (by decide +kernel)) (fun _ _ _ _ _ => (pg_name (i := 4) sc_law_is_great.nd rfl (Or.inl rfl))) (fun _ _ _ _ _ => pts_nil) (fun _ _ _ _ _ => (pe_ix (ix_U (K := C.K) rfl) (pv 4) pe_int (fun _ _ => rfl)))) pa_nil)) pa_nil)) (pe_callB (call_lenX (C := C) rfl rfl rfl) (by rfl) T.m_len (by decide +kernel) (pa_cons (pv 0) pa_nil)) (nomark _)))))) pss_nil)
      (pss_one (ps_ret (pe_fx (IH_law_is_deed) hr (Nat.le_refl _) (pa_cons (pv 0) pa_nil)))))))))), fun xs S Kt h => ?_⟩)
      · obtain ⟨_, _, _, rfl, _⟩ := h
        rfl
      · obtain ⟨l_thing_, l_kind_, K, rfl, rfl, k, hK⟩ := h
        unfold m_law_is_great at k
        show DSt C _ [some (.d l_thing_), some (.d l_kind_), none, none, none] _ _
        refine d_seq ?_
        refine d_asg ?_
        refine d_tup ?_
        refine d_cons ?_
        refine d_cS ?_
        refine d_cons ?_
        refine d_cS ?_
        refine d_nil ?_
        refine newT_P (by repeat' constructor) (by exact Nat.le_of_ble_eq_true rfl) ?_
        refine d_name ?_
        refine d_seq ?_
        refine d_ifS ?_
        first | refine d_test ?_ | refine d_B ?_
        refine d_op ?_
        refine d_var rfl ?_
        refine d_cS ?_
        obtain ⟨z1, hz1, k⟩ := gb k
        refine d_eqP hz1 ?_
        refine d_bl ?_
        refine ite_go k (fun _ k => ?_) (fun _ k => ?_)
        · skip
          refine d_ret ?_
          refine d_valM (f := PyData.bool) (gc k) (fun R k => ?_) (fun b2 k => ?_)
          · skip
            have k := gc k
            refine d_andV ?_
            refine d_call ?_
            refine d_cons ?_
            refine d_var rfl ?_
            refine d_cons ?_
            refine d_frz ?_
            refine d_lst ?_
            refine d_cons ?_
            refine d_var rfl ?_
            refine d_nil ?_
            refine newL_P (by repeat' constructor) (by exact Nat.le_of_ble_eq_true rfl) fun p3 => ?_
            refine frzI (by walk_at "p") ?_
            refine d_nil ?_
            refine call_law_is  (gc k) fun r4 k => ?_
            refine d_bl ?_
            have k := gs k
            refine ite_goF k (fun _ k => ?_) (fun _ k => ?_)
            · exact ⟨_, rfl, by walk_at "u", gs k⟩
            refine d_op ?_
            refine d_var rfl ?_
            refine d_tup ?_
            refine d_nil ?_
            refine newT_P (by repeat' constructor) (by exact Nat.le_of_ble_eq_true rfl) ?_
            obtain ⟨z5, hz5, k⟩ := gb k
            refine d_neP hz5 ?_
            have k := gs k
            exact ⟨_, rfl, by walk_at "u", k⟩
          have k := gs k
          exact KW.sub (by walk_at "u") (hK _ k)
        · skip
          refine d_next ?_
          refine d_seq ?_
          refine d_ifS ?_
          first | refine d_test ?_ | refine d_B ?_
          refine d_op ?_
          refine d_var rfl ?_
          refine d_cS ?_
          obtain ⟨z6, hz6, k⟩ := gb k
          refine d_eqP hz6 ?_
          refine d_bl ?_
          refine ite_go k (fun _ k => ?_) (fun _ k => ?_)
          · skip
            refine d_seq ?_
            refine d_ifS ?_
            refine d_not ?_
            first | refine d_test ?_ | refine d_B ?_
            refine d_call ?_
            refine d_cons ?_
            refine d_var rfl ?_
            refine d_cons ?_
            refine d_frz ?_
            refine d_lst ?_
            refine d_cons ?_
            refine d_tup ?_
            refine d_cons ?_
            refine d_cS ?_
            refine d_cons ?_
            refine d_cS ?_
            refine d_nil ?_
            refine newT_P (by repeat' constructor) (by exact Nat.le_of_ble_eq_true rfl) ?_
            refine d_nil ?_
            refine newL_P (by repeat' constructor) (by exact Nat.le_of_ble_eq_true rfl) fun p7 => ?_
            refine frzI (by walk_at "p") ?_
            refine d_nil ?_
            refine call_law_is  (gc k) fun r8 k => ?_
            refine d_bl ?_
            refine ite_go k (fun _ k => ?_) (fun _ k => ?_)
            · skip
              refine d_ret ?_
              refine d_cB ?_
              have k := gs k
              exact KW.sub (by walk_at "u") (hK _ k)
            · skip
              refine d_next ?_
              refine d_ret ?_
              refine d_cb ?_
              refine d_cons ?_
              refine d_lcR1 ?_
              refine d_cons ?_
              refine d_op ?_
              refine d_cb ?_
              refine d_cons ?_
              refine d_var rfl ?_
              refine d_nil ?_
              obtain ⟨z9, hz9, k⟩ := gb k
              refine d_lenX (d_lenP hz9 ?_)
              refine d_cI ?_
              refine d_subP rfl rfl ?_
              refine d_nil ?_
              obtain ⟨z10, hz10, k⟩ := gb k
              refine lc_rngP rfl (okIf_d hz10) ?_
              refine lcGb (eb := PyData.bool) (emb := fun i => DV.d (PyData.int i)) (mapO_M (gc k)) gk_name (rng_len hz10) (fun x13 _ R k => ?_) (fun ys11 k p12 => ?_)
              · skip
                refine d_name ?_
                refine d_op ?_
                refine d_op ?_
                refine d_op ?_
                refine d_var rfl ?_
                refine d_var rfl ?_
                obtain ⟨z14, hz14, k⟩ := gb k
                refine d_ixD rfl hz14 ?_
                refine d_cI ?_
                obtain ⟨z15, hz15, k⟩ := gb k
                refine d_ixD rfl hz15 ?_
                refine d_op ?_
                refine d_op ?_
                refine d_var rfl ?_
                refine d_op ?_
                refine d_var rfl ?_
                refine d_cI ?_
                refine d_addI ?_
                obtain ⟨z16, hz16, k⟩ := gb k
                refine d_ixD rfl hz16 ?_
                refine d_cI ?_
                obtain ⟨z17, hz17, k⟩ := gb k
                refine d_ixD rfl hz17 ?_
                obtain ⟨z18, hz18, k⟩ := gb k
                refine d_ltP hz18 ?_
                have k := gs k
                exact ⟨_, rfl, by walk_at "u", k⟩
              refine d_nil ?_
              refine d_allP ?_
              have k := gs k
              exact KW.sub (by walk_at "u") (hK _ k)
          · skip
            refine d_next ?_
            refine d_seq ?_
            refine d_ifS ?_
            first | refine d_test ?_ | refine d_B ?_
            refine d_op ?_
            refine d_var rfl ?_
            refine d_cS ?_
            obtain ⟨z19, hz19, k⟩ := gb k
            refine d_eqP hz19 ?_
            refine d_bl ?_
            refine ite_go k (fun _ k => ?_) (fun _ k => ?_)
            · skip
              refine d_seq ?_
              refine d_ifS ?_
              refine d_not ?_
              first | refine d_test ?_ | refine d_B ?_
              refine d_call ?_
              refine d_cons ?_
              refine d_var rfl ?_
              refine d_cons ?_
              refine d_frz ?_
              refine d_lst ?_
              refine d_cons ?_
              refine d_tup ?_
              refine d_cons ?_
              refine d_cS ?_
              refine d_cons ?_
              refine d_cS ?_
              refine d_cons ?_
              refine d_cS ?_
              refine d_cons ?_
              refine d_frz ?_
              refine d_lst ?_
              refine d_cons ?_
              refine d_var rfl ?_
              refine d_nil ?_
              refine newL_P (by repeat' constructor) (by exact Nat.le_of_ble_eq_true rfl) fun p20 => ?_
              refine frzI (by walk_at "p") ?_
              refine d_cons ?_
              refine d_frz ?_
              refine d_lst ?_
              refine d_cons ?_
              refine d_tup ?_
              refine d_cons ?_
              refine d_cS ?_
              refine d_cons ?_
              refine d_cS ?_
              refine d_cons ?_
              refine d_cS ?_
              refine d_nil ?_
              refine newT_P (by repeat' constructor) (by exact Nat.le_of_ble_eq_true rfl) ?_
              refine d_nil ?_
              refine newL_P (by repeat' constructor) (by exact Nat.le_of_ble_eq_true rfl) fun p21 => ?_
              refine frzI (by walk_at "p") ?_
              refine d_nil ?_
              refine newT_P (by repeat' constructor) (by exact Nat.le_of_ble_eq_true rfl) ?_
              refine d_nil ?_
              refine newL_P (by repeat' constructor) (by exact Nat.le_of_ble_eq_true rfl) fun p22 => ?_
              refine frzI (by walk_at "p") ?_
              refine d_nil ?_
              refine call_law_is  (gc k) fun r23 k => ?_
              refine d_bl ?_
              refine ite_go k (fun _ k => ?_) (fun _ k => ?_)
              · skip
                refine d_ret ?_
                refine d_cB ?_
                have k := gs k
                exact KW.sub (by walk_at "u") (hK _ k)
              · skip
                refine d_next ?_
                refine d_ret ?_
                refine d_op ?_
                refine d_cb ?_
                refine d_cons ?_
                refine d_cb ?_
                refine d_cons ?_
                refine d_lcU ?_
                refine d_var rfl ?_
                obtain ⟨z24, hz24, k⟩ := gb k
                obtain ⟨z25, hz25, k⟩ := gb k
                refine lc_seq hz24 ?_
                refine lcG (emb := DV.d) (mapO_M (gc k)) gk_name (okIf_d hz25) (fun x28 _ R k => ?_) (fun ys26 k p27 => ?_)
                · skip
                  refine d_name ?_
                  refine d_op ?_
                  refine d_var rfl ?_
                  refine d_cI ?_
                  obtain ⟨z29, hz29, k⟩ := gb k
                  refine d_ixD rfl hz29 ?_
                  have k := gs k
                  exact ⟨_, rfl, by walk_at "u", k⟩
                refine d_nil ?_
                obtain ⟨z30, hz30, k⟩ := gb k
                refine d_setLP (by walk_at "p") hz30 fun p31 O32 hO32 => ?_
                refine d_nil ?_
                refine d_lenSP (by walk_at "p") hO32 ?_
                refine d_cb ?_
                refine d_cons ?_
                refine d_var rfl ?_
                refine d_nil ?_
                obtain ⟨z33, hz33, k⟩ := gb k
                refine d_lenX (d_lenP hz33 ?_)
                refine d_eqI ?_
                have k := gs k
                exact KW.sub (by walk_at "u") (hK _ k)
            · skip
              refine d_next ?_
              refine d_seq ?_
              refine d_ifS ?_
              first | refine d_test ?_ | refine d_B ?_
              refine d_op ?_
              refine d_var rfl ?_
              refine d_cS ?_
              obtain ⟨z34, hz34, k⟩ := gb k
              refine d_eqP hz34 ?_
              refine d_bl ?_
              refine ite_go k (fun _ k => ?_) (fun _ k => ?_)
              · skip
                refine d_ret ?_
                refine d_call ?_
                refine d_cons ?_
                refine d_var rfl ?_
                refine d_cons ?_
                refine d_tup ?_
                refine d_cons ?_
                refine d_cS ?_
                refine d_cons ?_
                refine d_cS ?_
                refine d_cons ?_
                refine d_cS ?_
                refine d_cons ?_
                refine d_cS ?_
                refine d_nil ?_
                refine newT_P (by repeat' constructor) (by exact Nat.le_of_ble_eq_true rfl) ?_
                refine d_nil ?_
                refine call_law_is  (gc k) fun r35 k => ?_
                have k := gs k
                exact KW.sub (by walk_at "u") (hK _ k)
              · skip
                refine d_next ?_
                refine d_seq ?_
                refine d_ifS ?_
                first | refine d_test ?_ | refine d_B ?_
                refine d_op ?_
                refine d_var rfl ?_
                refine d_cS ?_
                obtain ⟨z36, hz36, k⟩ := gb k
                refine d_eqP hz36 ?_
                refine d_bl ?_
                refine ite_go k (fun _ k => ?_) (fun _ k => ?_)
                · skip
                  refine d_ret ?_
                  refine d_valM (f := PyData.bool) (gc k) (fun R k => ?_) (fun b37 k => ?_)
                  · skip
                    have k := gc k
                    refine d_andV ?_
                    refine d_call ?_
                    refine d_cons ?_
                    refine d_var rfl ?_
                    refine d_cons ?_
                    refine d_frz ?_
                    refine d_lst ?_
                    refine d_cons ?_
                    refine d_tup ?_
                    refine d_cons ?_
                    refine d_cS ?_
                    refine d_cons ?_
                    refine d_cS ?_
                    refine d_nil ?_
                    refine newT_P (by repeat' constructor) (by exact Nat.le_of_ble_eq_true rfl) ?_
                    refine d_nil ?_
                    refine newL_P (by repeat' constructor) (by exact Nat.le_of_ble_eq_true rfl) fun p38 => ?_
                    refine frzI (by walk_at "p") ?_
                    refine d_nil ?_
                    refine call_law_is  (gc k) fun r39 k => ?_
                    refine d_bl ?_
                    have k := gs k
                    refine ite_goF k (fun _ k => ?_) (fun _ k => ?_)
                    · exact ⟨_, rfl, by walk_at "u", gs k⟩
                    refine d_op ?_
                    refine d_cb ?_
                    refine d_cons ?_
                    refine d_cb ?_
                    refine d_cons ?_
                    refine d_lcU ?_
                    refine d_var rfl ?_
                    obtain ⟨z40, hz40, k⟩ := gb k
                    obtain ⟨z41, hz41, k⟩ := gb k
                    refine lc_seq hz40 ?_
                    refine lcG (emb := DV.d) (mapO_M (gc k)) gk_name (okIf_d hz41) (fun x44 _ R k => ?_) (fun ys42 k p43 => ?_)
                    · skip
                      refine d_name ?_
                      refine d_op ?_
                      refine d_var rfl ?_
                      refine d_cI ?_
                      obtain ⟨z45, hz45, k⟩ := gb k
                      refine d_ixD rfl hz45 ?_
                      have k := gs k
                      exact ⟨_, rfl, by walk_at "u", k⟩
                    refine d_nil ?_
                    obtain ⟨z46, hz46, k⟩ := gb k
                    refine d_setLP (by walk_at "p") hz46 fun p47 O48 hO48 => ?_
                    refine d_nil ?_
                    refine d_lenSP (by walk_at "p") hO48 ?_
                    refine d_cb ?_
                    refine d_cons ?_
                    refine d_var rfl ?_
                    refine d_nil ?_
                    obtain ⟨z49, hz49, k⟩ := gb k
                    refine d_lenX (d_lenP hz49 ?_)
                    refine d_eqI ?_
                    have k := gs k
                    exact ⟨_, rfl, by walk_at "u", k⟩
                  have k := gs k
                  exact KW.sub (by walk_at "u") (hK _ k)
                · skip
                  refine d_next ?_
                  refine d_ret ?_
                  refine d_call ?_
                  refine d_cons ?_
                  refine d_var rfl ?_
                  refine d_nil ?_
                  refine call_law_is_deed  (gc k) fun r50 k => ?_
                  have k := gs k
                  exact KW.sub (by walk_at "u") (hK _ k)
    · refine T.l_law_is_deed.okD sc_law_is_deed (fun xs S Kt h => ?_) (fun f cdv A outer s H E hr => ⟨_, (pss_cons (ps_if (PW.pt (pw_or (pt_not (pt_val (pe_callB (call_isiU (K := C.K) rfl) (by rfl) T.m_isinstance (by decide +kernel) (pa_cons (pv 0) (pa_cons (pe_bltn (v := .ty "tuple") (u := .type "tuple") rfl T.m_tuple (by decide +kernel) rfl) pa_nil))))) (pw_or (pt_cmpR (op_eqU (K := C.K) rfl (u64 hr)) (pe_callB (call_lenX (C := C) rfl rfl rfl) (by rfl) T.m_len (by decide +kernel) (pa_cons (pv 0) pa_nil)) pe_int (nomark _)) (pw_or1 (pt_not (pt_val (pe_callB (call_isiU (K := C.K) rfl) (by rfl) T.m_isinstance (by decide +kernel) (pa_cons (pe_ix (ix_U (K := C.K) rfl) (pv 0) pe_int (fun _ _ => rfl)) (pa_cons (pe_bltn (v := .ty "str") (u := .type "str") rfl T.m_str (by decide +kernel) rfl) pa_nil))))))))) (pss_one (ps_ret pe_bl)) pss_nil)
      (pss_cons (ps_set (i := 1) sc_law_is_deed.nd rfl (Or.inl rfl) (pe_lfU (P := C.P) (w := C.w) rfl rfl (pe_disp (pps_cons pe_str (pe_tup (pa_cons pe_str (pa_cons pe_str (pa_cons pe_str pa_nil)))) (pps_cons pe_str (pe_tup (pa_cons pe_str pa_nil)) (pps_cons pe_str (pe_tup (pa_cons pe_str (pa_cons pe_str pa_nil))) pps_nil))) (by rfl) (by rfl) (by exact List.cons_ne_nil _ _) (by exact Nat.le_of_ble_eq_true rfl))))
      (pss_cons (ps_asg (pe_tup (pa_cons pe_str (pa_cons pe_str pa_nil))) (pg_sub (pv 1) pe_str (set_LU (P := C.P) (w := C.w) rfl rfl)))
      (pss_cons (ps_asg (pe_tup (pa_cons pe_str pa_nil)) (pg_sub (pv 1) pe_str (set_LU (P := C.P) (w := C.w) rfl rfl)))
      (pss_cons (ps_asg (pe_tup (pa_cons pe_str pa_nil)) (pg_sub (pv 1) pe_str (set_LU (P := C.P) (w := C.w) rfl rfl)))
      (pss_one (ps_ret (pe_and (pe_cmpR (op_inLU (P := C.P) (w := C.w) rfl rfl) (pe_ix (ix_U (K := C.K) rfl) (pv 0) pe_int (fun _ _ => rfl)) (pv 1) (by rfl)) (pe_one (pe_fx (IH_law_is) hr (Nat.le_refl _) (pa_cons (pe_slice (sl_U (K := C.K) rfl) (pv 0) (po_some pe_int) po_none) (pa_cons (pe_op (op_addU (K := C.K) rfl) (pe_tup (pa_cons (pe_lst (pa_cons pe_str pa_nil)) pa_nil)) (pe_ix (ix_LU (P := C.P) (w := C.w) rfl rfl) (pv 1) (pe_ix (ix_U (K := C.K) rfl) (pv 0) pe_int (fun _ _ => rfl)) (fun _ _ => rfl))) pa_nil)))))))))))), fun xs S Kt h => ?_⟩)
      · obtain ⟨_, _, rfl, _⟩ := h
        rfl
      · obtain ⟨l_thing_, K, rfl, rfl, k, hK⟩ := h
        unfold m_law_is_deed at k
        show DSt C _ [some (.d l_thing_), none] _ _
        refine d_seq ?_
        refine d_ifS ?_
        refine d_testM (gc k) (fun R k => ?_) (fun b1 k => ?_)
        · skip
          have k := gc k
          refine d_or ?_
          refine d_not ?_
          first | refine d_test ?_ | refine d_B ?_
          refine d_cb ?_
          refine d_cons ?_
          refine d_var rfl ?_
          refine d_cons ?_
          refine d_cT ?_
          refine d_nil ?_
          refine d_isTup ?_
          refine d_bl ?_
          have k := gs k
          refine ite_go k (fun _ k => ?_) (fun _ k => ?_)
          · exact ⟨by walk_at "u", gs k⟩
          have k := gc k
          refine d_or ?_
          first | refine d_test ?_ | refine d_B ?_
          refine d_op ?_
          refine d_cb ?_
          refine d_cons ?_
          refine d_var rfl ?_
          refine d_nil ?_
          obtain ⟨z2, hz2, k⟩ := gb k
          refine d_lenX (d_lenP hz2 ?_)
          refine d_cI ?_
          refine d_eqI ?_
          refine d_bl ?_
          have k := gs k
          refine ite_go k (fun _ k => ?_) (fun _ k => ?_)
          · exact ⟨by walk_at "u", gs k⟩
          refine d_not ?_
          first | refine d_test ?_ | refine d_B ?_
          refine d_cb ?_
          refine d_cons ?_
          refine d_op ?_
          refine d_var rfl ?_
          refine d_cI ?_
          obtain ⟨z3, hz3, k⟩ := gb k
          refine d_ixD rfl hz3 ?_
          refine d_cons ?_
          refine d_cT ?_
          refine d_nil ?_
          refine d_isStr ?_
          refine d_bl ?_
          have k := gs k
          exact ⟨by walk_at "u", k⟩
        refine ite_go k (fun _ k => ?_) (fun _ k => ?_)
        · skip
          refine d_ret ?_
          refine d_cB ?_
          have k := gs k
          exact KW.sub (by walk_at "u") (hK _ k)
        · skip
          refine d_next ?_
          refine d_seq ?_
          refine d_asg ?_
          refine d_disp ?_
          refine d_pcons ?_
          refine d_cS ?_
          refine d_tup ?_
          refine d_cons ?_
          refine d_cS ?_
          refine d_cons ?_
          refine d_cS ?_
          refine d_cons ?_
          refine d_cS ?_
          refine d_nil ?_
          refine newT_P (by repeat' constructor) (by exact Nat.le_of_ble_eq_true rfl) ?_
          refine d_pcons ?_
          refine d_cS ?_
          refine d_tup ?_
          refine d_cons ?_
          refine d_cS ?_
          refine d_nil ?_
          refine newT_P (by repeat' constructor) (by exact Nat.le_of_ble_eq_true rfl) ?_
          refine d_pcons ?_
          refine d_cS ?_
          refine d_tup ?_
          refine d_cons ?_
          refine d_cS ?_
          refine d_cons ?_
          refine d_cS ?_
          refine d_nil ?_
          refine newT_P (by repeat' constructor) (by exact Nat.le_of_ble_eq_true rfl) ?_
          refine d_pnil ?_
          refine newFP (by repeat' constructor) (by exact Nat.le_of_ble_eq_true rfl) (by decide +kernel) fun p4 => ?_
          refine d_name ?_
          refine d_seq ?_
          refine d_asg ?_
          refine d_tup ?_
          refine d_cons ?_
          refine d_cS ?_
          refine d_cons ?_
          refine d_cS ?_
          refine d_nil ?_
          refine newT_P (by repeat' constructor) (by exact Nat.le_of_ble_eq_true rfl) ?_
          refine d_gsub ?_
          refine d_var rfl ?_
          refine d_cS ?_
          obtain ⟨z5, hz5, k⟩ := gb k
          obtain ⟨z6, hz6, k⟩ := gb k
          refine d_setFP (by walk_at "p") hz5 hz6 ?_
          refine d_seq ?_
          refine d_asg ?_
          refine d_tup ?_
          refine d_cons ?_
          refine d_cS ?_
          refine d_nil ?_
          refine newT_P (by repeat' constructor) (by exact Nat.le_of_ble_eq_true rfl) ?_
          refine d_gsub ?_
          refine d_var rfl ?_
          refine d_cS ?_
          obtain ⟨z7, hz7, k⟩ := gb k
          obtain ⟨z8, hz8, k⟩ := gb k
          refine d_setFP (by walk_at "p") hz7 hz8 ?_
          refine d_seq ?_
          refine d_asg ?_
          refine d_tup ?_
          refine d_cons ?_
          refine d_cS ?_
          refine d_nil ?_
          refine newT_P (by repeat' constructor) (by exact Nat.le_of_ble_eq_true rfl) ?_
          refine d_gsub ?_
          refine d_var rfl ?_
          refine d_cS ?_
          obtain ⟨z9, hz9, k⟩ := gb k
          obtain ⟨z10, hz10, k⟩ := gb k
          refine d_setFP (by walk_at "p") hz9 hz10 ?_
          refine d_ret ?_
          refine d_valM (f := PyData.bool) (gc k) (fun R k => ?_) (fun b11 k => ?_)
          · skip
            have k := gc k
            refine d_andV ?_
            refine d_op ?_
            refine d_op ?_
            refine d_var rfl ?_
            refine d_cI ?_
            obtain ⟨z12, hz12, k⟩ := gb k
            refine d_ixD rfl hz12 ?_
            refine d_var rfl ?_
            obtain ⟨z13, hz13, k⟩ := gb k
            refine d_inFP (by walk_at "p") hz13 ?_
            refine d_bl ?_
            have k := gs k
            refine ite_goF k (fun _ k => ?_) (fun _ k => ?_)
            · exact ⟨_, rfl, by walk_at "u", gs k⟩
            refine d_call ?_
            refine d_cons ?_
            refine d_sl ?_
            refine d_var rfl ?_
            refine d_part ?_
            refine d_cI ?_
            refine d_pI ?_
            refine d_nopart ?_
            obtain ⟨z14, hz14, k⟩ := gb k
            refine d_slP hz14 ?_
            refine d_cons ?_
            refine d_op ?_
            refine d_tup ?_
            refine d_cons ?_
            refine d_frz ?_
            refine d_lst ?_
            refine d_cons ?_
            refine d_cS ?_
            refine d_nil ?_
            refine newL_P (by repeat' constructor) (by exact Nat.le_of_ble_eq_true rfl) fun p15 => ?_
            refine frzI (by walk_at "p") ?_
            refine d_nil ?_
            refine newT_P (by repeat' constructor) (by exact Nat.le_of_ble_eq_true rfl) ?_
            refine d_op ?_
            refine d_var rfl ?_
            refine d_op ?_
            refine d_var rfl ?_
            refine d_cI ?_
            obtain ⟨z16, hz16, k⟩ := gb k
            refine d_ixD rfl hz16 ?_
            obtain ⟨z17, hz17, k⟩ := gb k
            obtain ⟨z18, hz18, k⟩ := gb k
            refine d_ixFP (by walk_at "p") hz17 hz18 ?_
            obtain ⟨z19, hz19, k⟩ := gb k
            refine d_addP hz19 ?_
            refine d_nil ?_
            refine call_law_is  (gc k) fun r20 k => ?_
            have k := gs k
            exact ⟨_, rfl, by walk_at "u", k⟩
          have k := gs k
          exact KW.sub (by walk_at "u") (hK _ k)
theorem okd_law_is {C : Cz} {mg : Str → Option Value} {base : Heap} (T : Env C.K mg) (n : Nat) : Fd C mg base (2 + n) "_law_is" p_law_is (sp_law_is n) := (okn_law_is T n).1
theorem okd_law_is_great {C : Cz} {mg : Str → Option Value} {base : Heap} (T : Env C.K mg) (n : Nat) : Fd C mg base (2 + n) "_law_is_great" p_law_is_great (sp_law_is_great n) := (okn_law_is T n).2.1
theorem okd_law_is_deed {C : Cz} {mg : Str → Option Value} {base : Heap} (T : Env C.K mg) (n : Nat) : Fd C mg base (2 + n) "_law_is_deed" p_law_is_deed (sp_law_is_deed n) := (okn_law_is T n).2.2

def m_law_bent : Nat → PyData → DM (PyData)
  | 0, _ => fun _ => False
  | n + 1, l_thing_ =>
    DM.bind (andM (DM.ret (isTup l_thing_)) (andM (DM.bind (DM.of (lenP l_thing_)) fun z2 =>
    DM.ret (decide (z2 > (0 : Int)))) (DM.bind (DM.draw (5 : Int)) fun r3 =>
    DM.ret (decide (r3 > (0 : Int)))))) fun b1 =>
    if b1 = true then (DM.bind (DM.of (lenP l_thing_)) fun z4 =>
    DM.bind (DM.draw z4) fun r5 =>
    DM.bind (DM.of (slP l_thing_ none (some r5))) fun z6 =>
    DM.bind (DM.of (ixP l_thing_ r5)) fun z7 =>
    DM.bind (m_law_bent n z7) fun r8 =>
    DM.bind (DM.of (addP z6 (PyData.tuple [r8]))) fun z9 =>
    DM.bind (DM.of (slP l_thing_ (some (r5 + (1 : Int))) none)) fun z10 =>
    DM.bind (DM.of (addP z9 z10)) fun z11 =>
    DM.ret z11) else (if (isTup l_thing_) = true then (DM.bind (DM.of (seqT l_thing_)) fun z13 =>
    DM.bind (DM.of (slP l_thing_ none (some (1 : Int)))) fun z14 =>
    DM.bind (DM.of (addP l_thing_ z14)) fun z15 =>
    DM.bind (DM.of (slP l_thing_ (some (1 : Int)) none)) fun z16 =>
    DM.bind (DM.of (revP l_thing_)) fun z17 =>
    DM.bind (DM.of (addP l_thing_ (PyData.tuple [(PyData.int (7 : Int))]))) fun z18 =>
    DM.bind (DM.of (slP l_thing_ (some (-(1 : Int))) none)) fun z20 =>
    DM.bind (DM.of (slP l_thing_ none (some (-(1 : Int))))) fun z21 =>
    DM.bind (DM.of (addP z20 z21)) fun z22 =>
    DM.bind (DM.of (catP ([(PyData.list z13), z15, z16, z17, (PyData.tuple []), PyData.none, z18]) ([z22]))) fun z24 =>
    DM.bind (DM.draw (8 : Int)) fun r26 =>
    DM.bind (DM.of (ixL z24 r26)) fun z27 =>
    DM.ret z27) else (DM.bind (DM.of (catP ([PyData.none, (PyData.bool true), (PyData.bool false), (PyData.int (0 : Int)), (PyData.int (1 : Int)), (PyData.int (2 : Int)), (PyData.int (3 : Int)), (PyData.int (4 : Int)), (PyData.int (-(1 : Int))), (PyData.int (1000000000 : Int)), (PyData.int ((1000000000 : Int) + (1 : Int))), (PyData.int ((-(1000000000 : Int)) - (1 : Int))), (PyData.int (1000000000000 : Int)), (PyData.str ("" : Str)), (PyData.str ("a" : Str)), (PyData.str ("ab" : Str)), (PyData.str ("A" : Str))]) ([(PyData.str ("a1" : Str)), (PyData.str ("abcdefgh" : Str)), (PyData.str ("abcdefghi" : Str)), (PyData.str ("set" : Str)), (PyData.str ("times" : Str)), (PyData.str ("Set" : Str)), (PyData.str ("put" : Str)), (PyData.tuple []), (PyData.list []), (PyData.dict []), (PyData.str ("take" : Str)), (PyData.str ("a b" : Str))]))) fun z31 =>
    DM.bind (DM.of (appP z31 (PyData.tuple [(PyData.tuple [PyData.none, (PyData.int (0 : Int))])]))) fun z33 =>
    DM.bind (DM.draw (30 : Int)) fun r34 =>
    DM.bind (DM.of (ixL z33 r34)) fun z35 =>
    DM.ret z35))
def sp_law_bent (n : Nat) : DSp := fun xs S Kt => ∃ (al_tape_here_ : Addr) (l_thing_ : PyData) (K : (PyData) → Prop), xs = [.v (.ref al_tape_here_), .d l_thing_] ∧ S = [(al_tape_here_, TAPE)] ∧ m_law_bent n l_thing_ K ∧ ∀ r, K r → Kt (.d r) [(al_tape_here_, TAPE)]
theorem call_law_bent {n : Nat} {S : DS} {R0 : DS} {Q : DV → DS → Prop} {al_tape_here_ : Addr} {l_thing_ : PyData} {K : (PyData) → Prop} (pk0 : Pick S al_tape_here_ (TAPE) R0) (k : m_law_bent n l_thing_ K) (q : ∀ r, K r → Q (.d r) ((al_tape_here_, TAPE) :: R0)) : DCall (sp_law_bent n) [.v (.ref al_tape_here_), .d l_thing_] S Q := call1 pk0 ⟨al_tape_here_, l_thing_, K, rfl, rfl, k, fun r h => ⟨_, .refl _, q r h⟩⟩
theorem okn_law_bent {C : Cz} {mg : Str → Option Value} {base : Heap} (T : Env C.K mg) : ∀ n, Fd C mg base (2 + n) "_law_bent" p_law_bent (sp_law_bent n)
  | 0 => (T.l_law_bent.okD0 sc_law_bent fun xs S Kt ⟨al_tape_here_, l_thing_, K, _, _, k, _⟩ => (by unfold m_law_bent at k; exact k))
  | n + 1 => by
    have IHs := okn_law_bent (C := C) (base := base) T n
    have IH_law_bent := IHs
    refine T.l_law_bent.okD sc_law_bent (fun xs S Kt h => ?_) (fun f cdv A outer s H E hr => ⟨_, (pss_cons (ps_if (PW.pt (pw_and (pt_val (pe_callB (call_isiU (K := C.K) rfl) (by rfl) T.m_isinstance (by decide +kernel) (pa_cons (pv 1) (pa_cons (pe_bltn (v := .ty "tuple") (u := .type "tuple") rfl T.m_tuple (by decide +kernel) rfl) pa_nil)))) (pw_and (pt_cmpR op_gt (pe_callB (call_lenX (C := C) rfl rfl rfl) (by rfl) T.m_len (by decide +kernel) (pa_cons (pv 1) pa_nil)) pe_int (nomark _)) (pw_and1 (pt_cmpR op_gt (pe_fx (okd_law_draw (C := C) T) hr (Nat.le_trans (m := 2) (by decide) (Nat.le_add_right 2 _)) (pa_cons (pv 0) (pa_cons pe_int pa_nil))) pe_int (nomark _)))))) (pss_cons (ps_set (i := 2) sc_law_bent.nd rfl (Or.inl rfl) (pe_fx (okd_law_draw (C := C) T) hr (Nat.le_trans (m := 2) (by decide) (Nat.le_add_right 2 _)) (pa_cons (pv 0) (pa_cons (pe_callB (call_lenX (C := C) rfl rfl rfl) (by rfl) T.m_len (by decide +kernel) (pa_cons (pv 1) pa_nil)) pa_nil))))
      (pss_one (ps_ret (pe_op (op_addU (K := C.K) rfl) (pe_op (op_addU (K := C.K) rfl) (pe_slice (sl_U (K := C.K) rfl) (pv 1) po_none (po_some (pv 2))) (pe_tup (pa_cons (pe_fx (IH_law_bent) hr (Nat.le_refl _) (pa_cons (pv 0) (pa_cons (pe_ix (ix_U (K := C.K) rfl) (pv 1) (pv 2) (fun _ _ => rfl)) pa_nil))) pa_nil))) (pe_slice (sl_U (K := C.K) rfl) (pv 1) (po_some (pe_op (op_addU (K := C.K) rfl) (pv 2) pe_int)) po_none))))) pss_nil)
      (pss_cons (ps_if (pt_val (pe_callB (call_isiU (K := C.K) rfl) (by rfl) T.m_isinstance (by decide +kernel) (pa_cons (pv 1) (pa_cons (pe_bltn (v := .ty "tuple") (u := .type "tuple") rfl T.m_tuple (by decide +kernel) rfl) pa_nil)))) (pss_cons (ps_set (i := 3) sc_law_bent.nd rfl (Or.inl rfl) (pe_lst (pa_cons (pe_callTy (call_listU (K := C.K) rfl) (by rfl) T.m_list (by decide +kernel) (pa_cons (pv 1) pa_nil)) (pa_cons (pe_op (op_addU (K := C.K) rfl) (pv 1) (pe_slice (sl_U (K := C.K) rfl) (pv 1) po_none (po_some pe_int))) (pa_cons (pe_slice (sl_U (K := C.K) rfl) (pv 1) (po_some pe_int) po_none) (pa_cons (pe_backU (K := C.K) rfl (pv 1)) (pa_cons (pe_tup pa_nil) (pa_cons pe_non (pa_cons (pe_op (op_addU (K := C.K) rfl) (pv 1) (pe_tup (pa_cons pe_int pa_nil))) pa_nil)))))))))
      (pss_one (ps_ret (pe_ix (ix_U (K := C.K) rfl) (pe_op (op_addU (K := C.K) rfl) (pv 3) (pe_lst (pa_cons (pe_op (op_addU (K := C.K) rfl) (pe_slice (sl_U (K := C.K) rfl) (pv 1) (po_some (pe_un un_neg pe_int)) po_none) (pe_slice (sl_U (K := C.K) rfl) (pv 1) po_none (po_some (pe_un un_neg pe_int)))) pa_nil))) (pe_fx (okd_law_draw (C := C) T) hr (Nat.le_trans (m := 2) (by decide) (Nat.le_add_right 2 _)) (pa_cons (pv 0) (pa_cons pe_int pa_nil))) (fun _ _ => rfl))))) pss_nil)
      (pss_cons (ps_set (i := 3) sc_law_bent.nd rfl (Or.inl rfl) (pe_lst (pa_cons pe_non (pa_cons pe_bl (pa_cons pe_bl (pa_cons pe_int (pa_cons pe_int (pa_cons pe_int (pa_cons pe_int (pa_cons pe_int (pa_cons (pe_un un_neg pe_int) (pa_cons (pe_op op_pow pe_int pe_int) (pa_cons (pe_op (op_addU (K := C.K) rfl) (pe_op op_pow pe_int pe_int) pe_int) (pa_cons (pe_op op_sub (pe_un un_neg (pe_op op_pow pe_int pe_int)) pe_int) (pa_cons (pe_op op_pow pe_int pe_int) (pa_cons pe_str (pa_cons pe_str (pa_cons pe_str (pa_cons pe_str pa_nil)))))))))))))))))))
      (pss_cons (ps_set (i := 3) sc_law_bent.nd rfl (Or.inl rfl) (pe_op (op_addU (K := C.K) rfl) (pv 3) (pe_lst (pa_cons pe_str (pa_cons pe_str (pa_cons pe_str (pa_cons pe_str (pa_cons pe_str (pa_cons pe_str (pa_cons pe_str (pa_cons (pe_tup pa_nil) (pa_cons (pe_lst pa_nil) (pa_cons pe_dnewK (pa_cons pe_str (pa_cons pe_str pa_nil)))))))))))))))
      (pss_cons (ps_expr (pe_bm PySem.F.plainAttrs_list PySem.F.slot_list_append PySem.F.type_list_append mt_append (pv 3) (pa_cons (pe_tup (pa_cons (pe_tup (pa_cons pe_non (pa_cons pe_int pa_nil))) pa_nil)) pa_nil)))
      (pss_one (ps_ret (pe_ix (ix_U (K := C.K) rfl) (pv 3) (pe_fx (okd_law_draw (C := C) T) hr (Nat.le_trans (m := 2) (by decide) (Nat.le_add_right 2 _)) (pa_cons (pv 0) (pa_cons pe_int pa_nil))) (fun _ _ => rfl))))))))), fun xs S Kt h => ?_⟩)
    · obtain ⟨_, _, _, rfl, _⟩ := h
      rfl
    · obtain ⟨al_tape_here_, l_thing_, K, rfl, rfl, k, hK⟩ := h
      unfold m_law_bent at k
      show DSt C _ [some (.v (.ref al_tape_here_)), some (.d l_thing_), none, none] _ _
      refine d_seq ?_
      refine d_ifS ?_
      refine d_testM (db k) (fun R k => ?_) (fun b1 k => ?_)
      · skip
        have k := db k
        refine d_and ?_
        first | refine d_test ?_ | refine d_B ?_
        refine d_cb ?_
        refine d_cons ?_
        refine d_var rfl ?_
        refine d_cons ?_
        refine d_cT ?_
        refine d_nil ?_
        refine d_isTup ?_
        refine d_bl ?_
        have k := dr k
        refine ite_dmF k (fun _ k => ?_) (fun _ k => ?_)
        · exact ⟨by walk_at "u", dr k⟩
        have k := db k
        refine d_and ?_
        first | refine d_test ?_ | refine d_B ?_
        refine d_op ?_
        refine d_cb ?_
        refine d_cons ?_
        refine d_var rfl ?_
        refine d_nil ?_
        obtain ⟨z2, hz2, k⟩ := dgb k
        refine d_lenX (d_lenP hz2 ?_)
        refine d_cI ?_
        refine d_cmpP rfl rfl ?_
        refine d_bl ?_
        have k := dr k
        refine ite_dmF k (fun _ k => ?_) (fun _ k => ?_)
        · exact ⟨by walk_at "u", dr k⟩
        first | refine d_test ?_ | refine d_B ?_
        refine d_op ?_
        refine d_call ?_
        refine d_cons ?_
        refine d_var rfl ?_
        refine d_cons ?_
        refine d_cI ?_
        refine d_nil ?_
        refine call_drawM (by walk_at "p") rfl (db k) fun r3 k => ?_
        refine d_cI ?_
        refine d_cmpP rfl rfl ?_
        refine d_bl ?_
        have k := dr k
        exact ⟨by walk_at "u", k⟩
      refine ite_dm k (fun _ k => ?_) (fun _ k => ?_)
      · skip
        refine d_seq ?_
        refine d_asg ?_
        refine d_call ?_
        refine d_cons ?_
        refine d_var rfl ?_
        refine d_cons ?_
        refine d_cb ?_
        refine d_cons ?_
        refine d_var rfl ?_
        refine d_nil ?_
        obtain ⟨z4, hz4, k⟩ := dgb k
        refine d_lenX (d_lenP hz4 ?_)
        refine d_nil ?_
        refine call_drawM (by walk_at "p") rfl (db k) fun r5 k => ?_
        refine d_name ?_
        refine d_ret ?_
        refine d_op ?_
        refine d_op ?_
        refine d_sl ?_
        refine d_var rfl ?_
        refine d_nopart ?_
        refine d_part ?_
        refine d_var rfl ?_
        refine d_pI ?_
        obtain ⟨z6, hz6, k⟩ := dgb k
        refine d_slP hz6 ?_
        refine d_tup ?_
        refine d_cons ?_
        refine d_call ?_
        refine d_cons ?_
        refine d_var rfl ?_
        refine d_cons ?_
        refine d_op ?_
        refine d_var rfl ?_
        refine d_var rfl ?_
        obtain ⟨z7, hz7, k⟩ := dgb k
        refine d_ixD rfl hz7 ?_
        refine d_nil ?_
        refine call_law_bent (by walk_at "p") (db k) fun r8 k => ?_
        refine d_nil ?_
        refine newT_P (by repeat' constructor) (by exact Nat.le_of_ble_eq_true rfl) ?_
        obtain ⟨z9, hz9, k⟩ := dgb k
        refine d_addP hz9 ?_
        refine d_sl ?_
        refine d_var rfl ?_
        refine d_part ?_
        refine d_op ?_
        refine d_var rfl ?_
        refine d_cI ?_
        refine d_addI ?_
        refine d_pI ?_
        refine d_nopart ?_
        obtain ⟨z10, hz10, k⟩ := dgb k
        refine d_slP hz10 ?_
        obtain ⟨z11, hz11, k⟩ := dgb k
        refine d_addP hz11 ?_
        have k := dr k
        exact KW.sub (by walk_at "u") (hK _ k)
      · skip
        refine d_next ?_
        refine d_seq ?_
        refine d_ifS ?_
        first | refine d_test ?_ | refine d_B ?_
        refine d_cb ?_
        refine d_cons ?_
        refine d_var rfl ?_
        refine d_cons ?_
        refine d_cT ?_
        refine d_nil ?_
        refine d_isTup ?_
        refine d_bl ?_
        refine ite_dm k (fun _ k => ?_) (fun _ k => ?_)
        · skip
          refine d_seq ?_
          refine d_asg ?_
          refine d_lst ?_
          refine d_cons ?_
          refine d_frz ?_
          refine d_cb ?_
          refine d_cons ?_
          refine d_var rfl ?_
          refine d_nil ?_
          obtain ⟨z13, hz13, k⟩ := dgb k
          refine d_listP hz13 fun p12 => ?_
          refine frzI (by walk_at "p") ?_
          refine d_cons ?_
          refine d_op ?_
          refine d_var rfl ?_
          refine d_sl ?_
          refine d_var rfl ?_
          refine d_nopart ?_
          refine d_part ?_
          refine d_cI ?_
          refine d_pI ?_
          obtain ⟨z14, hz14, k⟩ := dgb k
          refine d_slP hz14 ?_
          obtain ⟨z15, hz15, k⟩ := dgb k
          refine d_addP hz15 ?_
          refine d_cons ?_
          refine d_sl ?_
          refine d_var rfl ?_
          refine d_part ?_
          refine d_cI ?_
          refine d_pI ?_
          refine d_nopart ?_
          obtain ⟨z16, hz16, k⟩ := dgb k
          refine d_slP hz16 ?_
          refine d_cons ?_
          refine d_un ?_
          refine d_var rfl ?_
          obtain ⟨z17, hz17, k⟩ := dgb k
          refine d_backP hz17 ?_
          refine d_cons ?_
          refine d_tup ?_
          refine d_nil ?_
          refine newT_P (by repeat' constructor) (by exact Nat.le_of_ble_eq_true rfl) ?_
          refine d_cons ?_
          refine d_cN ?_
          refine d_cons ?_
          refine d_op ?_
          refine d_var rfl ?_
          refine d_tup ?_
          refine d_cons ?_
          refine d_cI ?_
          refine d_nil ?_
          refine newT_P (by repeat' constructor) (by exact Nat.le_of_ble_eq_true rfl) ?_
          obtain ⟨z18, hz18, k⟩ := dgb k
          refine d_addP hz18 ?_
          refine d_nil ?_
          refine newL_P (by repeat' constructor) (by exact Nat.le_of_ble_eq_true rfl) fun p19 => ?_
          refine d_name ?_
          refine d_ret ?_
          refine d_op ?_
          refine d_op ?_
          refine d_var rfl ?_
          refine d_lst ?_
          refine d_cons ?_
          refine d_op ?_
          refine d_sl ?_
          refine d_var rfl ?_
          refine d_part ?_
          refine d_un ?_
          refine d_cI ?_
          refine d_negP rfl ?_
          refine d_pI ?_
          refine d_nopart ?_
          obtain ⟨z20, hz20, k⟩ := dgb k
          refine d_slP hz20 ?_
          refine d_sl ?_
          refine d_var rfl ?_
          refine d_nopart ?_
          refine d_part ?_
          refine d_un ?_
          refine d_cI ?_
          refine d_negP rfl ?_
          refine d_pI ?_
          obtain ⟨z21, hz21, k⟩ := dgb k
          refine d_slP hz21 ?_
          obtain ⟨z22, hz22, k⟩ := dgb k
          refine d_addP hz22 ?_
          refine d_nil ?_
          refine newL_P (by repeat' constructor) (by exact Nat.le_of_ble_eq_true rfl) fun p23 => ?_
          obtain ⟨z24, hz24, k⟩ := dgb k
          refine d_catP (by walk_at "p") (by walk_at "p") hz24 fun p25 => ?_
          refine d_call ?_
          refine d_cons ?_
          refine d_var rfl ?_
          refine d_cons ?_
          refine d_cI ?_
          refine d_nil ?_
          refine call_drawM (by walk_at "p") rfl (db k) fun r26 k => ?_
          obtain ⟨z27, hz27, k⟩ := dgb k
          refine d_ixOLP rfl (by walk_at "p") hz27 ?_
          have k := dr k
          exact KW.sub (by walk_at "u") (hK _ k)
        · skip
          refine d_next ?_
          refine d_seq ?_
          refine d_asg ?_
          refine d_lst ?_
          refine d_cons ?_
          refine d_cN ?_
          refine d_cons ?_
          refine d_cB ?_
          refine d_cons ?_
          refine d_cB ?_
          refine d_cons ?_
          refine d_cI ?_
          refine d_cons ?_
          refine d_cI ?_
          refine d_cons ?_
          refine d_cI ?_
          refine d_cons ?_
          refine d_cI ?_
          refine d_cons ?_
          refine d_cI ?_
          refine d_cons ?_
          refine d_un ?_
          refine d_cI ?_
          refine d_negP rfl ?_
          refine d_cons ?_
          refine d_op ?_
          refine d_cI ?_
          refine d_cI ?_
          refine d_pow9 ?_
          refine d_cons ?_
          refine d_op ?_
          refine d_op ?_
          refine d_cI ?_
          refine d_cI ?_
          refine d_pow9 ?_
          refine d_cI ?_
          refine d_addI ?_
          refine d_cons ?_
          refine d_op ?_
          refine d_un ?_
          refine d_op ?_
          refine d_cI ?_
          refine d_cI ?_
          refine d_pow9 ?_
          refine d_negP rfl ?_
          refine d_cI ?_
          refine d_subP rfl rfl ?_
          refine d_cons ?_
          refine d_op ?_
          refine d_cI ?_
          refine d_cI ?_
          refine d_pow12 ?_
          refine d_cons ?_
          refine d_cS ?_
          refine d_cons ?_
          refine d_cS ?_
          refine d_cons ?_
          refine d_cS ?_
          refine d_cons ?_
          refine d_cS ?_
          refine d_nil ?_
          refine newL_P (by repeat' constructor) (by exact Nat.le_of_ble_eq_true rfl) fun p28 => ?_
          refine d_name ?_
          refine d_seq ?_
          refine d_asg ?_
          refine d_op ?_
          refine d_var rfl ?_
          refine d_lst ?_
          refine d_cons ?_
          refine d_cS ?_
          refine d_cons ?_
          refine d_cS ?_
          refine d_cons ?_
          refine d_cS ?_
          refine d_cons ?_
          refine d_cS ?_
          refine d_cons ?_
          refine d_cS ?_
          refine d_cons ?_
          refine d_cS ?_
          refine d_cons ?_
          refine d_cS ?_
          refine d_cons ?_
          refine d_tup ?_
          refine d_nil ?_
          refine newT_P (by repeat' constructor) (by exact Nat.le_of_ble_eq_true rfl) ?_
          refine d_cons ?_
          refine d_frz ?_
          refine d_lst ?_
          refine d_nil ?_
          refine newL_P (by repeat' constructor) (by exact Nat.le_of_ble_eq_true rfl) fun p29 => ?_
          refine frzI (by walk_at "p") ?_
          refine d_cons ?_
          refine d_dnewD ?_
          refine d_cons ?_
          refine d_cS ?_
          refine d_cons ?_
          refine d_cS ?_
          refine d_nil ?_
          refine newL_P (by repeat' constructor) (by exact Nat.le_of_ble_eq_true rfl) fun p30 => ?_
          obtain ⟨z31, hz31, k⟩ := dgb k
          refine d_catP (by walk_at "p") (by walk_at "p") hz31 fun p32 => ?_
          refine d_name ?_
          refine d_seq ?_
          refine d_drop ?_
          refine d_bmK rfl ?_
          refine d_var rfl ?_
          refine d_tyLk ⟨_, by walk_at "p"⟩ ?_
          refine d_cons ?_
          refine d_tup ?_
          refine d_cons ?_
          refine d_tup ?_
          refine d_cons ?_
          refine d_cN ?_
          refine d_cons ?_
          refine d_cI ?_
          refine d_nil ?_
          refine newT_P (by repeat' constructor) (by exact Nat.le_of_ble_eq_true rfl) ?_
          refine d_nil ?_
          refine newT_P (by repeat' constructor) (by exact Nat.le_of_ble_eq_true rfl) ?_
          refine d_nil ?_
          obtain ⟨z33, hz33, k⟩ := dgb k
          refine d_appP (by walk_at "p") hz33 ?_
          refine d_ret ?_
          refine d_op ?_
          refine d_var rfl ?_
          refine d_call ?_
          refine d_cons ?_
          refine d_var rfl ?_
          refine d_cons ?_
          refine d_cI ?_
          refine d_nil ?_
          refine call_drawM (by walk_at "p") rfl (db k) fun r34 k => ?_
          obtain ⟨z35, hz35, k⟩ := dgb k
          refine d_ixOLP rfl (by walk_at "p") hz35 ?_
          have k := dr k
          exact KW.sub (by walk_at "u") (hK _ k)
theorem okd_law_bent {C : Cz} {mg : Str → Option Value} {base : Heap} (T : Env C.K mg) (n : Nat) : Fd C mg base (2 + n) "_law_bent" p_law_bent (sp_law_bent n) := (okn_law_bent T n)
def m_law_asked (l_thing_ : PyData) (l_due_ : PyData) : Option (Bool) :=
(m_is_tree 60 l_thing_).bind fun r1 =>
(andO (some (isBool (PyData.bool r1))) ((eqP (PyData.bool r1) l_due_).bind fun z3 =>
some z3)).bind fun b2 =>
some b2
def sp_law_asked : DSp := fun xs S Kt => ∃ (l_thing_ : PyData) (l_due_ : PyData) (K : (Bool) → Prop), xs = [.d l_thing_, .d l_due_] ∧ S = [] ∧ go (m_law_asked l_thing_ l_due_) K ∧ ∀ r, K r → Kt (.d (PyData.bool r)) []
theorem call_law_asked {S : DS} {Q : DV → DS → Prop} {l_thing_ : PyData} {l_due_ : PyData} {K : (Bool) → Prop}  (k : go (m_law_asked l_thing_ l_due_) K) (q : ∀ r, K r → Q (.d (PyData.bool r)) (S)) : DCall (sp_law_asked) [.d l_thing_, .d l_due_] S Q := call0 ⟨l_thing_, l_due_, K, rfl, rfl, k, fun r h => ⟨_, .refl _, q r h⟩⟩
theorem okd_law_asked {C : Cz} {mg : Str → Option Value} {base : Heap} (T : Env C.K mg) : Fd C mg base 68 "_law_asked" p_law_asked sp_law_asked := by
  refine T.l_law_asked.okD sc_law_asked (fun xs S Kt h => ?_) (fun f cdv A outer s H E hr => ⟨_, (pss_cons (ps_set (i := 2) sc_law_asked.nd rfl (Or.inl rfl) (pe_fx (okd_is_tree (C := C) T 60) hr (by decide) (pa_cons (pv 0) pa_nil)))
      (pss_one (ps_ret (pe_and (pe_callB (call_isiU (K := C.K) rfl) (by rfl) T.m_isinstance (by decide +kernel) (pa_cons (pv 2) (pa_cons (pe_bltn (v := .ty "bool") (u := .type "bool") rfl T.m_bool (by decide +kernel) rfl) pa_nil))) (pe_one (pe_cmpR (op_eqU (K := C.K) rfl (u64 hr)) (pv 2) (pv 1) (nomark _))))))), fun xs S Kt h => ?_⟩)
  · obtain ⟨_, _, _, rfl, _⟩ := h
    rfl
  · obtain ⟨l_thing_, l_due_, K, rfl, rfl, k, hK⟩ := h
    unfold m_law_asked at k
    show DSt C _ [some (.d l_thing_), some (.d l_due_), none] _ _
    refine d_seq ?_
    refine d_asg ?_
    refine d_call ?_
    refine d_cons ?_
    refine d_var rfl ?_
    refine d_nil ?_
    refine call_is_tree  (gc k) fun r1 k => ?_
    refine d_name ?_
    refine d_ret ?_
    refine d_valM (f := PyData.bool) (gc k) (fun R k => ?_) (fun b2 k => ?_)
    · skip
      have k := gc k
      refine d_andV ?_
      refine d_cb ?_
      refine d_cons ?_
      refine d_var rfl ?_
      refine d_cons ?_
      refine d_cT ?_
      refine d_nil ?_
      refine d_isBool ?_
      refine d_bl ?_
      have k := gs k
      refine ite_goF k (fun _ k => ?_) (fun _ k => ?_)
      · exact ⟨_, rfl, by walk_at "u", gs k⟩
      refine d_op ?_
      refine d_var rfl ?_
      refine d_var rfl ?_
      obtain ⟨z3, hz3, k⟩ := gb k
      refine d_eqP hz3 ?_
      have k := gs k
      exact ⟨_, rfl, by walk_at "u", k⟩
    have k := gs k
    exact KW.sub (by walk_at "u") (hK _ k)
def m_law (ns : List Int) : DM Bool :=
DM.bind (m_law_row 60 (PyData.int (2 : Int))) fun r2 =>
DM.bind (DM.of (orO ((m_law_asked r2 (PyData.bool true)).bind fun r4 =>
some (!r4)) ((m_law_asked (PyData.tuple []) (PyData.bool true)).bind fun r5 =>
some (!r5)))) fun b3 =>
if b3 = true then (DM.ret false) else (DM.bind (DM.of (okIf (decide (-100000 ≤ (12 : Int) ∧ (12 : Int) ≤ 100000)))) fun z6 =>
DM.bind (forM (fun x8 w9 =>
DM.bind (DM.draw (3 : Int)) fun r10 =>
DM.bind (DM.of (okIf (decide (-100000 ≤ ((1 : Int) + (r10 / (2 : Int))) ∧ ((1 : Int) + (r10 / (2 : Int))) ≤ 100000)))) fun z11 =>
DM.bind (foldM' (fun x13 w14 =>
DM.bind (m_law_bent 60 w14) fun r15 =>
DM.ret r15) (rngP ((1 : Int) + (r10 / (2 : Int)))) r2) fun s12 =>
DM.bind (DM.of (m_law_is 80 s12 (PyData.str ("tree" : Str)))) fun r16 =>
DM.bind (DM.of (m_law_asked s12 (PyData.bool r16))) fun r17 =>
if (!r17) = true then (DM.ret (Fl.rt false)) else (DM.ret (Fl.nx ()))) (rngP (12 : Int)) ()) fun o18 =>
Fl.on o18 (fun v => DM.ret v) fun s7 =>
DM.bind (DM.of (forO (fun x23 w24 =>
(m_law_asked x23 (PyData.bool false)).bind fun r25 =>
if (!r25) = true then (some (Fl.rt false)) else (some (Fl.nx ()))) ([PyData.none, (PyData.int (0 : Int)), (PyData.bool true), (PyData.str ("" : Str)), (PyData.list []), (PyData.dict []), (PyData.tuple [PyData.none]), (PyData.tuple [(PyData.tuple [])]), (PyData.tuple [(PyData.tuple [(PyData.tuple []), (PyData.tuple [])])]), (PyData.list [(PyData.tuple [(PyData.tuple [(PyData.tuple [(PyData.tuple [PyData.none, (PyData.int (0 : Int))])])])])])]) ())) fun o26 =>
Fl.on o26 (fun v => DM.ret v) fun s22 =>
DM.bind (DM.of (addP r2 r2)) fun z27 =>
DM.bind (DM.of (eqP r2 (PyData.tuple []))) fun z28 =>
DM.bind (DM.of (m_law_asked z27 (PyData.bool z28))) fun r29 =>
DM.ret r29)
theorem okd_law {C : Cz} {mg : Str → Option Value} {base : Heap} (hm : ∀ ns : List Int, ns.length ≤ 63 → m_law ns (fun b => b = true)) (T : Env C.K mg) {f fd} (F : Fun C.K "law" "law" s_law f fd) : FnOk C.P C.w C.K mg base CX0 83 f fd p_law (toSp C dsp_law) := by
  refine Fun.okD (C := C) F sc_law (fun xs S Kt h => ?_) (fun cdv A outer s H E hr => ⟨_, (pss_cons (ps_set (i := 1) sc_law.nd rfl (Or.inl rfl) (pe_fx (okd_law_tape (C := C) T) hr (by decide) (pa_cons (pv 0) pa_nil)))
      (pss_cons (ps_set (i := 2) sc_law.nd rfl (Or.inl rfl) (pe_fx (okd_law_row (C := C) T 60) hr (by decide) (pa_cons (pv 1) (pa_cons pe_int pa_nil))))
      (pss_cons (ps_if (PW.pt (pw_or (pt_not (pt_val (pe_fx (okd_law_asked (C := C) T) hr (by decide) (pa_cons (pv 2) (pa_cons pe_bl pa_nil))))) (pw_or1 (pt_not (pt_val (pe_fx (okd_law_asked (C := C) T) hr (by decide) (pa_cons (pe_tup pa_nil) (pa_cons pe_bl pa_nil)))))))) (pss_one (ps_ret pe_bl)) pss_nil)
      (pss_cons (ps_for PassesOwn.never rfl (pi_range1 rfl T.m_range (pa_cons pe_int pa_nil)) (pg_name (i := 3) sc_law.nd rfl (Or.inl rfl)) (pss_cons (ps_set (i := 4) sc_law.nd rfl (Or.inl rfl) (pv 2))
      (pss_cons (ps_for PassesOwn.never rfl (pi_range1 rfl T.m_range (pa_cons (pe_op (op_addU (K := C.K) rfl) pe_int (pe_op op_fdivW (pe_fx (okd_law_draw (C := C) T) hr (by decide) (pa_cons (pv 1) (pa_cons pe_int pa_nil))) pe_int)) pa_nil)) (pg_name (i := 5) sc_law.nd rfl (Or.inl rfl)) (pss_one (ps_set (i := 4) sc_law.nd rfl (Or.inl rfl) (pe_fx (okd_law_bent (C := C) T 60) hr (by decide) (pa_cons (pv 1) (pa_cons (pv 4) pa_nil))))))
      (pss_one (ps_if (pt_not (pt_val (pe_fx (okd_law_asked (C := C) T) hr (by decide) (pa_cons (pv 4) (pa_cons (pe_fx (okd_law_is (C := C) T 80) hr (by decide) (pa_cons (pv 4) (pa_cons pe_str pa_nil))) pa_nil))))) (pss_one (ps_ret pe_bl)) pss_nil)))))
      (pss_cons (ps_for PassesOwn.never rfl (pi_UU (K := C.K) rfl (pe_lst (pa_cons pe_non (pa_cons pe_int (pa_cons pe_bl (pa_cons pe_str (pa_cons (pe_lst pa_nil) (pa_cons pe_dnewK (pa_cons (pe_tup (pa_cons pe_non pa_nil)) (pa_cons (pe_tup (pa_cons (pe_tup pa_nil) pa_nil)) (pa_cons (pe_tup (pa_cons (pe_tup (pa_cons (pe_tup pa_nil) (pa_cons (pe_tup pa_nil) pa_nil))) pa_nil)) (pa_cons (pe_lst (pa_cons (pe_tup (pa_cons (pe_tup (pa_cons (pe_tup (pa_cons (pe_tup (pa_cons pe_non (pa_cons pe_int pa_nil))) pa_nil)) pa_nil)) pa_nil)) pa_nil)) pa_nil)))))))))))) (pg_name (i := 6) sc_law.nd rfl (Or.inl rfl)) (pss_one (ps_if (pt_not (pt_val (pe_fx (okd_law_asked (C := C) T) hr (by decide) (pa_cons (pv 6) (pa_cons pe_bl pa_nil))))) (pss_one (ps_ret pe_bl)) pss_nil)))
      (pss_one (ps_ret (pe_fx (okd_law_asked (C := C) T) hr (by decide) (pa_cons (pe_op (op_addU (K := C.K) rfl) (pv 2) (pv 2)) (pa_cons (pe_cmpR (op_eqU (K := C.K) rfl (u64 hr)) (pv 2) (pe_tup pa_nil) (nomark _)) pa_nil)))))))))), fun xs S Kt h => ?_⟩)
  · obtain ⟨ns, rfl, _⟩ := h
    rfl
  · obtain ⟨ns, rfl, rfl, hl, hk⟩ := h
    have hK : ∀ r : Bool, r = true → Kt (.d (PyData.bool r)) [] := by rintro r rfl; exact hk
    have k := hm ns hl
    unfold m_law at k
    show DSt C _ [some (.d (PyData.list (ns.map PyData.int))), none, none, none, none, none, none] _ _
    refine d_seq ?_
    refine d_asg ?_
    refine d_call ?_
    refine d_cons ?_
    refine d_var rfl ?_
    refine d_nil ?_
    refine call_tapeM fun t1 => ?_
    refine d_name ?_
    refine d_seq ?_
    refine d_asg ?_
    refine d_call ?_
    refine d_cons ?_
    refine d_var rfl ?_
    refine d_cons ?_
    refine d_cI ?_
    refine d_nil ?_
    refine call_law_row (by walk_at "p") (db k) fun r2 k => ?_
    refine d_name ?_
    refine d_seq ?_
    refine d_ifS ?_
    refine d_testM (db k) (fun R k => ?_) (fun b3 k => ?_)
    · skip
      have k := gc k
      refine d_or ?_
      refine d_not ?_
      first | refine d_test ?_ | refine d_B ?_
      refine d_call ?_
      refine d_cons ?_
      refine d_var rfl ?_
      refine d_cons ?_
      refine d_cB ?_
      refine d_nil ?_
      refine call_law_asked  (gc k) fun r4 k => ?_
      refine d_bl ?_
      have k := gs k
      refine ite_go k (fun _ k => ?_) (fun _ k => ?_)
      · exact ⟨by walk_at "u", gs k⟩
      refine d_not ?_
      first | refine d_test ?_ | refine d_B ?_
      refine d_call ?_
      refine d_cons ?_
      refine d_tup ?_
      refine d_nil ?_
      refine newT_P (by repeat' constructor) (by exact Nat.le_of_ble_eq_true rfl) ?_
      refine d_cons ?_
      refine d_cB ?_
      refine d_nil ?_
      refine call_law_asked  (gc k) fun r5 k => ?_
      refine d_bl ?_
      have k := gs k
      exact ⟨by walk_at "u", k⟩
    refine ite_dm k (fun _ k => ?_) (fun _ k => ?_)
    · skip
      refine d_ret ?_
      refine d_cB ?_
      have k := dr k
      exact KW.sub (by walk_at "u") (hK _ k)
    · skip
      refine d_next ?_
      refine d_seq ?_
      refine d_forR1 ?_
      refine d_cons ?_
      refine d_cI ?_
      refine d_nil ?_
      obtain ⟨z6, hz6, k⟩ := dgb k
      refine for_rngP rfl (okIf_d hz6) ?_
      refine forG (emb := fun i => DV.d (PyData.int i)) (π := fun s => s) (Ef := fun w9 => [some (.d (PyData.list (ns.map PyData.int))), some (.v (.ref t1)), some (.d r2), none, none, none, none]) (Sf := fun w9 => [(t1, TAPE)]) () (db k) (by walk_at "l") (by walk_at "u") (fun s => trivial) (fun x8 _ w9 R k => ?_) (fun s7 k => ?_)
      · skip
        refine d_name ?_
        refine d_seq ?_
        refine d_asg ?_
        refine d_var rfl ?_
        refine d_name ?_
        refine d_seq ?_
        refine d_forR1 ?_
        refine d_cons ?_
        refine d_op ?_
        refine d_cI ?_
        refine d_op ?_
        refine d_call ?_
        refine d_cons ?_
        refine d_var rfl ?_
        refine d_cons ?_
        refine d_cI ?_
        refine d_nil ?_
        refine call_drawM (by walk_at "p") rfl (db k) fun r10 k => ?_
        refine d_cI ?_
        refine d_modP (r := r10 / (2 : Int)) rfl (by first | decide | exact ⟨by decide, by decide⟩) rfl ?_
        refine d_addI ?_
        refine d_nil ?_
        obtain ⟨z11, hz11, k⟩ := dgb k
        refine for_rngP rfl (okIf_d hz11) ?_
        refine forF (emb := fun i => DV.d (PyData.int i)) (π := fun s => s) (Ef := fun w14 => [some (.d (PyData.list (ns.map PyData.int))), some (.v (.ref t1)), some (.d r2), some (.d (PyData.int x8)), some (.d w14), none, none]) (Sf := fun w14 => [(t1, TAPE)]) r2 (db k) (by walk_at "l") (by walk_at "u") (fun s => trivial) (fun x13 _ w14 R k => ?_) (fun s12 k => ?_)
        · skip
          refine d_name ?_
          refine d_asg ?_
          refine d_call ?_
          refine d_cons ?_
          refine d_var rfl ?_
          refine d_cons ?_
          refine d_var rfl ?_
          refine d_nil ?_
          refine call_law_bent (by walk_at "p") (db k) fun r15 k => ?_
          refine d_name ?_
          have k := dr k
          exact ⟨_, by walk_at "l", by walk_at "u", k⟩
        refine d_ifS ?_
        refine d_not ?_
        first | refine d_test ?_ | refine d_B ?_
        refine d_call ?_
        refine d_cons ?_
        refine d_var rfl ?_
        refine d_cons ?_
        refine d_call ?_
        refine d_cons ?_
        refine d_var rfl ?_
        refine d_cons ?_
        refine d_cS ?_
        refine d_nil ?_
        refine call_law_is  (db k) fun r16 k => ?_
        refine d_nil ?_
        refine call_law_asked  (db k) fun r17 k => ?_
        refine d_bl ?_
        refine ite_dm k (fun _ k => ?_) (fun _ k => ?_)
        · skip
          refine d_ret ?_
          refine d_cB ?_
          have k := drt1 k
          have k := dfl_rt k
          have k := dr k
          exact KW.sub (by walk_at "u") (hK _ k)
        · skip
          refine d_next ?_
          have k := dnx1 k
          exact ⟨_, by walk_at "l", by walk_at "u", k⟩
      have k := dfl_nx k
      refine d_seq ?_
      refine d_forU ?_
      refine d_frz ?_
      refine d_lst ?_
      refine d_cons ?_
      refine d_cN ?_
      refine d_cons ?_
      refine d_cI ?_
      refine d_cons ?_
      refine d_cB ?_
      refine d_cons ?_
      refine d_cS ?_
      refine d_cons ?_
      refine d_frz ?_
      refine d_lst ?_
      refine d_nil ?_
      refine newL_P (by repeat' constructor) (by exact Nat.le_of_ble_eq_true rfl) fun p19 => ?_
      refine frzI (by walk_at "p") ?_
      refine d_cons ?_
      refine d_dnewD ?_
      refine d_cons ?_
      refine d_tup ?_
      refine d_cons ?_
      refine d_cN ?_
      refine d_nil ?_
      refine newT_P (by repeat' constructor) (by exact Nat.le_of_ble_eq_true rfl) ?_
      refine d_cons ?_
      refine d_tup ?_
      refine d_cons ?_
      refine d_tup ?_
      refine d_nil ?_
      refine newT_P (by repeat' constructor) (by exact Nat.le_of_ble_eq_true rfl) ?_
      refine d_nil ?_
      refine newT_P (by repeat' constructor) (by exact Nat.le_of_ble_eq_true rfl) ?_
      refine d_cons ?_
      refine d_tup ?_
      refine d_cons ?_
      refine d_tup ?_
      refine d_cons ?_
      refine d_tup ?_
      refine d_nil ?_
      refine newT_P (by repeat' constructor) (by exact Nat.le_of_ble_eq_true rfl) ?_
      refine d_cons ?_
      refine d_tup ?_
      refine d_nil ?_
      refine newT_P (by repeat' constructor) (by exact Nat.le_of_ble_eq_true rfl) ?_
      refine d_nil ?_
      refine newT_P (by repeat' constructor) (by exact Nat.le_of_ble_eq_true rfl) ?_
      refine d_nil ?_
      refine newT_P (by repeat' constructor) (by exact Nat.le_of_ble_eq_true rfl) ?_
      refine d_cons ?_
      refine d_frz ?_
      refine d_lst ?_
      refine d_cons ?_
      refine d_tup ?_
      refine d_cons ?_
      refine d_tup ?_
      refine d_cons ?_
      refine d_tup ?_
      refine d_cons ?_
      refine d_tup ?_
      refine d_cons ?_
      refine d_cN ?_
      refine d_cons ?_
      refine d_cI ?_
      refine d_nil ?_
      refine newT_P (by repeat' constructor) (by exact Nat.le_of_ble_eq_true rfl) ?_
      refine d_nil ?_
      refine newT_P (by repeat' constructor) (by exact Nat.le_of_ble_eq_true rfl) ?_
      refine d_nil ?_
      refine newT_P (by repeat' constructor) (by exact Nat.le_of_ble_eq_true rfl) ?_
      refine d_nil ?_
      refine newT_P (by repeat' constructor) (by exact Nat.le_of_ble_eq_true rfl) ?_
      refine d_nil ?_
      refine newL_P (by repeat' constructor) (by exact Nat.le_of_ble_eq_true rfl) fun p20 => ?_
      refine frzI (by walk_at "p") ?_
      refine d_nil ?_
      refine newL_P (by repeat' constructor) (by exact Nat.le_of_ble_eq_true rfl) fun p21 => ?_
      refine frzI (by walk_at "p") ?_
      refine for_seq rfl ?_
      refine forG (emb := DV.d) (π := fun s => s) (Ef := fun w24 => [some (.d (PyData.list (ns.map PyData.int))), some (.v (.ref t1)), some (.d r2), none, none, none, none]) (Sf := fun w24 => [(t1, TAPE)]) () (forO_M (db k)) (by walk_at "l") (by walk_at "u") (fun s => trivial) (fun x23 _ w24 R k => ?_) (fun s22 k => ?_)
      · skip
        refine d_name ?_
        refine d_ifS ?_
        refine d_not ?_
        first | refine d_test ?_ | refine d_B ?_
        refine d_call ?_
        refine d_cons ?_
        refine d_var rfl ?_
        refine d_cons ?_
        refine d_cB ?_
        refine d_nil ?_
        refine call_law_asked  (gc k) fun r25 k => ?_
        refine d_bl ?_
        refine ite_go k (fun _ k => ?_) (fun _ k => ?_)
        · skip
          refine d_ret ?_
          refine d_cB ?_
          have k := rt1 k
          have k := dfl_rt k
          have k := dr k
          exact KW.sub (by walk_at "u") (hK _ k)
        · skip
          refine d_next ?_
          have k := nx1 k
          exact ⟨_, by walk_at "l", by walk_at "u", k⟩
      have k := dfl_nx k
      refine d_ret ?_
      refine d_call ?_
      refine d_cons ?_
      refine d_op ?_
      refine d_var rfl ?_
      refine d_var rfl ?_
      obtain ⟨z27, hz27, k⟩ := dgb k
      refine d_addP hz27 ?_
      refine d_cons ?_
      refine d_op ?_
      refine d_var rfl ?_
      refine d_tup ?_
      refine d_nil ?_
      refine newT_P (by repeat' constructor) (by exact Nat.le_of_ble_eq_true rfl) ?_
      obtain ⟨z28, hz28, k⟩ := dgb k
      refine d_eqP hz28 ?_
      refine d_nil ?_
      refine call_law_asked  (db k) fun r29 k => ?_
      have k := dr k
      exact KW.sub (by walk_at "u") (hK _ k)

local macro_rules | `(tactic| walk_at "pl") => `(tactic| simp only [isTup_none_, isTup_bool_, isTup_int_, isTup_str_, isTup_list_, isTup_tuple_, isTup_dict_, isLst_none_, isLst_bool_, isLst_int_, isLst_str_, isLst_list_, isLst_tuple_, isLst_dict_, isInt_none_, isInt_bool_, isInt_int_, isInt_str_, isInt_list_, isInt_tuple_, isInt_dict_, isBool_none_, isBool_bool_, isBool_int_, isBool_str_, isBool_list_, isBool_tuple_, isBool_dict_, isStr_none_, isStr_bool_, isStr_int_, isStr_str_, isStr_list_, isStr_tuple_, isStr_dict_, isDict_none_, isDict_bool_, isDict_int_, isDict_str_, isDict_list_, isDict_tuple_, isDict_dict_, isNonD_none_, isNonD_bool_, isNonD_int_, isNonD_str_, isNonD_list_, isNonD_tuple_, isNonD_dict_, andO_tt, andO_ff, orO_tt, orO_ff, andO_ss, orO_ss, Option.bind_some, Option.bind_none, bind_some_, ixP_t, ixP_l, lenP_t, lenP_l, seqP_t, seqP_l, seqT_t, seqT_l, eqP_s, eqP_i, asI_i, asB_b, asS_s, Bool.not_true, Bool.not_false, Bool.and_true, Bool.true_and, Bool.and_false, Bool.false_and, Bool.or_true, Bool.true_or, Bool.or_false, Bool.false_or, if_true, if_false, Bool.false_eq_true, reduceIte, decide_true, decide_false, iteS, iteT_, iteI_, ixL_0, ixL_1, ixL_2, ixL_3, ixL_4, ixL_5])

/-! ### plain judges of small things -/
section
def isWholeD : PyData → Bool | .int _ => true | _ => false
def isNumD : PyData → Bool | .int i => decide (-1000000000 ≤ i) && decide (i ≤ 1000000000) | _ => false
def isCountD : PyData → Bool | .int i => decide (0 ≤ i) | _ => false
def letters : Str := "abcdefghijklmnopqrstuvwxyz"
def isNameD : PyData → Bool
  | .str x => decide (1 ≤ x.length) && decide (x.length ≤ 8) && x.cps.toList.all (fun c => decide (c ∈ letters.cps.toList))
  | _ => false
def isSpotD : PyData → Bool | .tuple [k, n] => (isNonD k || isNumD k) && isCountD n | _ => false
def isPathD : PyData → Bool | .tuple ds => ds.all isSpotD | _ => false
def isLabelD : PyData → Bool | .tuple ds => ds.all isSpotD && decide (0 < ds.length) | _ => false
/-- tuples and lists are not too long, texts neither, all the way down -/
def FitN (n : Nat) : PyData → Prop
  | .int i => i ≤ 10 ^ 60
  | .str x => x.length ≤ 1000
  | .tuple ds => ds.length ≤ n ∧ FitAll n ds
  | .list ds => ds.length ≤ n ∧ FitAll n ds
  | _ => True
where FitAll (n : Nat) : List PyData → Prop
  | [] => True
  | d :: r => FitN n d ∧ FitAll n r
abbrev Fit (d : PyData) : Prop := FitN 1000 d
theorem fit_mem {n : Nat} : ∀ {ds : List PyData}, FitN.FitAll n ds → ∀ d ∈ ds, FitN n d
  | [], _, d, h => by cases h
  | e :: r, f, d, h => by
    rcases List.mem_cons.mp h with rfl | h
    · exact f.1
    · exact fit_mem f.2 d h
theorem fit_of {n : Nat} : ∀ {ds : List PyData}, (∀ d ∈ ds, FitN n d) → FitN.FitAll n ds
  | [], _ => trivial
  | e :: r, h => ⟨h e List.mem_cons_self, fit_of fun d hd => h d (List.mem_cons_of_mem _ hd)⟩
theorem fit_tup {n : Nat} {ds : List PyData} (hl : ds.length ≤ n) (h : ∀ d ∈ ds, FitN n d) : FitN n (.tuple ds) := ⟨hl, fit_of h⟩
theorem fit_lst {n : Nat} {ds : List PyData} (hl : ds.length ≤ n) (h : ∀ d ∈ ds, FitN n d) : FitN n (.list ds) := ⟨hl, fit_of h⟩
theorem FitN.mem {n : Nat} {ds : List PyData} (h : FitN n (.tuple ds)) {d : PyData} (m : d ∈ ds) : FitN n d := fit_mem h.2 d m
theorem FitN.meml {n : Nat} {ds : List PyData} (h : FitN n (.list ds)) {d : PyData} (m : d ∈ ds) : FitN n d := fit_mem h.2 d m
mutual
theorem FitN.mono {n m : Nat} (l : n ≤ m) : ∀ {d : PyData}, FitN n d → FitN m d
  | .int _, h => h
  | .str _, h => h
  | .none, h => h
  | .bool _, h => h
  | .dict _, h => h
  | .tuple ds, h => ⟨Nat.le_trans h.1 l, fitAll_mono l h.2⟩
  | .list ds, h => ⟨Nat.le_trans h.1 l, fitAll_mono l h.2⟩
theorem fitAll_mono {n m : Nat} (l : n ≤ m) : ∀ {ds : List PyData}, FitN.FitAll n ds → FitN.FitAll m ds
  | [], _ => trivial
  | d :: r, h => ⟨FitN.mono l h.1, fitAll_mono l h.2⟩
end
theorem Fit.txt {x : Str} (h : Fit (.str x)) : x.length ≤ 1000 := h
theorem sizeLine_le {n : Nat} (h : n ≤ 100000) : n ≤ sizeLine := Nat.le_trans h (by decide)
theorem mapO_map {α β γ : Type} {f : β → Option γ} {h : α → β} : ∀ {xs : List α}, mapO f (xs.map h) = mapO (fun x => f (h x)) xs
  | [] => rfl
  | x :: r => by rw [List.map_cons, mapO, mapO, mapO_map]
theorem signs_in {x : Str} {z : Str} : mapO (fun y => inP y (.str z)) (x.cps.toList.map fun c => PyData.str ⟨#[c]⟩) = some (x.cps.toList.map fun c => decide (c ∈ z.cps.toList)) := by
  rw [mapO_map]
  exact mapO_some fun c _ => rfl
theorem all_id {α : Type} {xs : List α} {p : α → Bool} : (xs.map p).all id = xs.all p := by rw [List.all_map]; rfl
theorem len_one {α : Type} {xs : List α} (h : xs.length = 1) : ∃ a, xs = [a] := by
  match xs, h with
  | [a], _ => exact ⟨a, rfl⟩
theorem len_two {α : Type} {xs : List α} (h : xs.length = 2) : ∃ a b, xs = [a, b] := by
  match xs, h with
  | [a, b], _ => exact ⟨a, b, rfl⟩
theorem len_three {α : Type} {xs : List α} (h : xs.length = 3) : ∃ a b c, xs = [a, b, c] := by
  match xs, h with
  | [a, b, c], _ => exact ⟨a, b, c, rfl⟩
theorem len_four {α : Type} {xs : List α} (h : xs.length = 4) : ∃ a b c d, xs = [a, b, c, d] := by
  match xs, h with
  | [a, b, c, d], _ => exact ⟨a, b, c, d, rfl⟩
theorem len_five {α : Type} {xs : List α} (h : xs.length = 5) : ∃ a b c d e, xs = [a, b, c, d, e] := by
  match xs, h with
  | [a, b, c, d, e], _ => exact ⟨a, b, c, d, e, rfl⟩
theorem isSpotD_len {ds : List PyData} (h : ¬ ds.length = 2) : isSpotD (.tuple ds) = false := by
  match ds, h with
  | [], _ => rfl
  | [_], _ => rfl
  | [_, _], h => exact absurd rfl h
  | _ :: _ :: _ :: _, _ => rfl
theorem okIf_len {n : Nat} (h : n ≤ 1000) : okIf (decide (n ≤ 100000)) = some () := okIf_p (by omega)

theorem pl_is_whole (d : PyData) : m_is_whole d = some (isWholeD d) := by cases d <;> rfl


theorem pl_is_number (d : PyData) : m_is_number d = some (isNumD d) := by
  unfold m_is_number
  rw [pl_is_whole]
  cases d with
  | int i =>
    simp only [isWholeD, isNumD]
    walk_at "pl"
    rw [show (0 : Int) - 1000000000 = -1000000000 from rfl]
  | _ => rfl


theorem pl_is_count (d : PyData) : m_is_count d = some (isCountD d) := by cases d <;> rfl


theorem pl_is_name {d : PyData} (h : Fit d) : m_is_name d = some (isNameD d) := by
  unfold m_is_name
  cases d with
  | str x =>
    have lx := h.txt
    have e : lenP (.str x) = some (x.length : Int) := by rw [lenP, if_pos (sizeLine_le (by omega))]
    have ec : x.cps.toList.length = x.length := rfl
    simp only [isNameD, e]
    walk_at "pl"
    rw [show seqP (.str x) = some (x.cps.toList.map fun c => .str ⟨#[c]⟩) from rfl, Option.bind_some, List.length_map, okIf_len (by omega), Option.bind_some, signs_in]
    walk_at "pl"
    rw [all_id]
    congr 1
    have e : (!(decide ((x.length : Int) < 1) || decide ((x.length : Int) > 8))) = (decide (1 ≤ x.length) && decide (x.length ≤ 8)) := by
      rw [Bool.eq_iff_iff]
      simp
      omega
    rw [e]
    rfl
  | _ => rfl


theorem pl_is_spot (d : PyData) : m_is_spot d = some (isSpotD d) := by
  unfold m_is_spot
  cases d with
  | tuple ds =>
    walk_at "pl"
    by_cases hl : ds.length = 2
    · obtain ⟨a, b, rfl⟩ := len_two hl
      simp only [pl_is_number, pl_is_count]
      walk_at "pl"
      simp [isSpotD]
    · rw [isSpotD_len hl, decide_eq_false (by omega)]
      rfl
  | _ => rfl


theorem pl_is_path {d : PyData} (h : Fit d) : m_is_path d = some (isPathD d) := by
  unfold m_is_path
  cases d with
  | tuple ds =>
    walk_at "pl"
    rw [okIf_len h.1, Option.bind_some, mapO_some (g := isSpotD) fun x _ => pl_is_spot x]
    walk_at "pl"
    rw [all_id]
    rfl
  | _ => rfl


theorem pl_is_label {d : PyData} (h : Fit d) : m_is_label d = some (isLabelD d) := by
  unfold m_is_label
  rw [pl_is_path h]
  cases d with
  | tuple ds =>
    walk_at "pl"
    simp [isPathD, isLabelD]
  | _ => rfl

end

/-! ### plain judges of settings, hands -/
section
def isWordD : PyData → Bool | .str w => decide (w ∈ (["set", "add", "times"] : List Str)) | _ => false
def isSettingD : PyData → Bool | .tuple [n, v] => isNameD n && isNumD v | _ => false
def hd0 : PyData → PyData | .tuple (a :: _) => a | _ => .none
/-- names in a rising row -/
def ltN (a b : PyData) : Bool := (ltP (hd0 a) (hd0 b)).getD false
def ascD (ds : List PyData) : Bool := (List.range (ds.length - 1)).all fun k => ltN (ds.getD k .none) (ds.getD (k + 1) .none)
def isSetsD : PyData → Bool | .tuple ds => ds.all isSettingD && ascD ds | _ => false
def isHandChD : PyData → Bool | .tuple [b, w, n] => isNameD b && isWordD w && isNumD n | _ => false
def isRankD : PyData → Bool | .int i => decide (1 ≤ i) && decide (i ≤ 3) | _ => false
def isAllD (p : PyData → Bool) : PyData → Bool | .tuple ds => ds.all p | _ => false
def isHandD : PyData → Bool | .tuple [e, r, l, p, c] => isNameD e && isRankD r && isBool l && isPathD p && isAllD isHandChD c | _ => false
def uniqD (xs : List PyData) : Bool := match setLenP xs with | some z => decide ((z : Int) = xs.length) | none => false
def isHandsD : PyData → Bool | .tuple ds => ds.all isHandD && uniqD (ds.map hd0) | _ => false
theorem name_str {d : PyData} (h : isNameD d = true) : ∃ x, d = .str x := by cases d <;> first | exact ⟨_, rfl⟩ | cases h
theorem setting_of {d : PyData} (h : isSettingD d = true) : ∃ x v, d = .tuple [.str x, v] := by
  unfold isSettingD at h
  split at h
  · obtain ⟨x, rfl⟩ := name_str (Bool.and_eq_true_iff.mp h).1
    exact ⟨x, _, rfl⟩
  · cases h
theorem settings_at {ds : List PyData} (h : ds.all isSettingD = true) {k : Nat} (hk : k < ds.length) : ∃ x v, ds[k]? = some (.tuple [.str x, v]) ∧ ds.getD k .none = .tuple [.str x, v] := by
  obtain ⟨x, v, e⟩ := setting_of (List.all_eq_true.mp h _ (List.getElem_mem hk))
  exact ⟨x, v, by rw [List.getElem?_eq_getElem hk, e], by rw [List.getD_eq_getElem?_getD, List.getElem?_eq_getElem hk, e]; rfl⟩
theorem ltN_at {ds : List PyData} (h : ds.all isSettingD = true) {k : Nat} (hk : k + 1 < ds.length) : ((ixL ds (k : Int)).bind fun z14 => (ixP z14 0).bind fun z15 => (ixL ds ((k : Int) + 1)).bind fun z16 => (ixP z16 0).bind fun z17 => ltP z15 z17) = some (ltN (ds.getD k .none) (ds.getD (k + 1) .none)) := by
  obtain ⟨x, v, e1, e2⟩ := settings_at h (show k < ds.length by omega)
  obtain ⟨y, u, e3, e4⟩ := settings_at h hk
  rw [ixL_nat, e1, show (k : Int) + 1 = ((k + 1 : Nat) : Int) by simp, ixL_nat, e3, e2, e4]
  walk_at "pl"
  rfl
theorem asc_law {ds : List PyData} (h : ds.all isSettingD = true) : mapO (fun x13 : Int => (ixL ds x13).bind fun z14 => (ixP z14 0).bind fun z15 => (ixL ds (x13 + 1)).bind fun z16 => (ixP z16 0).bind fun z17 => ltP z15 z17) (rngP ((ds.length : Int) - 1)) = some ((List.range (ds.length - 1)).map fun k => ltN (ds.getD k .none) (ds.getD (k + 1) .none)) := by
  unfold rngP
  rw [mapO_map, show ((ds.length : Int) - 1).toNat = ds.length - 1 by omega]
  exact mapO_some fun k hk => ltN_at h (by have := List.mem_range.mp hk; omega)
theorem asc_prog {ds : List PyData} (h : ds.all isSettingD = true) : mapO (fun x13 : Int => (ixL ds (x13 - 1)).bind fun z14 => (ixP z14 0).bind fun z15 => (ixL ds x13).bind fun z16 => (ixP z16 0).bind fun z17 => ltP z15 z17) (rng2P 1 (ds.length : Int)) = some ((List.range (ds.length - 1)).map fun k => ltN (ds.getD k .none) (ds.getD (k + 1) .none)) := by
  unfold rng2P
  rw [mapO_map, show ((ds.length : Int) - 1).toNat = ds.length - 1 by omega]
  refine mapO_some fun k hk => ?_
  have := ltN_at h (k := k) (by have := List.mem_range.mp hk; omega)
  rw [show (1 : Int) + Int.ofNat k - 1 = (k : Int) by simp only [Int.ofNat_eq_natCast]; omega, show (1 : Int) + Int.ofNat k = (k : Int) + 1 by simp only [Int.ofNat_eq_natCast]; omega]
  exact this
theorem isSettingD_len {ds : List PyData} (h : ¬ ds.length = 2) : isSettingD (.tuple ds) = false := by
  match ds, h with
  | [], _ => rfl
  | [_], _ => rfl
  | [_, _], h => exact absurd rfl h
  | _ :: _ :: _ :: _, _ => rfl
theorem isHandChD_len {ds : List PyData} (h : ¬ ds.length = 3) : isHandChD (.tuple ds) = false := by
  match ds, h with
  | [], _ => rfl
  | [_], _ => rfl
  | [_, _], _ => rfl
  | [_, _, _], h => exact absurd rfl h
  | _ :: _ :: _ :: _ :: _, _ => rfl
theorem isHandD_len {ds : List PyData} (h : ¬ ds.length = 5) : isHandD (.tuple ds) = false := by
  match ds, h with
  | [], _ => rfl
  | [_], _ => rfl
  | [_, _], _ => rfl
  | [_, _, _], _ => rfl
  | [_, _, _, _], _ => rfl
  | [_, _, _, _, _], h => exact absurd rfl h
  | _ :: _ :: _ :: _ :: _ :: _ :: _, _ => rfl
theorem okIf_rng {n : Nat} (h : n ≤ 1000) : okIf (decide (-100000 ≤ (n : Int) ∧ (n : Int) ≤ 100000)) = some () := okIf_p (by omega)
theorem word_in {w : Str} : inP (.str w) (.tuple [.str "set", .str "add", .str "times"]) = some (isWordD (.str w)) := by
  have := inP_strs (z := w) (ns := ["set", "add", "times"])
  exact this

theorem pl_is_setting {d : PyData} (h : Fit d) : m_is_setting d = some (isSettingD d) := by
  unfold m_is_setting
  cases d with
  | tuple ds =>
    walk_at "pl"
    by_cases hl : ds.length = 2
    · obtain ⟨a, b, rfl⟩ := len_two hl
      simp only [pl_is_number]
      walk_at "pl"
      rw [pl_is_name (h.mem (by simp))]
      simp [isSettingD]
    · rw [isSettingD_len hl, decide_eq_false (by omega)]
      rfl
  | _ => rfl


theorem pl_is_sets {d : PyData} (h : Fit d) : m_is_sets d = some (isSetsD d) := by
  unfold m_is_sets
  cases d with
  | tuple ds =>
    walk_at "pl"
    rw [okIf_len h.1, Option.bind_some, mapO_some (g := isSettingD) fun x hx => pl_is_setting (h.mem hx)]
    walk_at "pl"
    rw [all_id]
    simp only [isSetsD]
    cases e : ds.all isSettingD with
    | false => rfl
    | true =>
      walk_at "pl"
      have := h.1
      rw [okIf_p (by omega), Option.bind_some, okIf_p (by omega), Option.bind_some, asc_prog e]
      walk_at "pl"
      rw [all_id]
      rfl
  | _ => rfl


theorem pl_is_hand_change {d : PyData} (h : Fit d) : m_is_hand_change d = some (isHandChD d) := by
  unfold m_is_hand_change
  cases d with
  | tuple ds =>
    walk_at "pl"
    by_cases hl : ds.length = 3
    · obtain ⟨a, b, c, rfl⟩ := len_three hl
      simp only [pl_is_number]
      walk_at "pl"
      rw [pl_is_name (h.mem (by simp))]
      cases b with
      | str w => simp [word_in, isHandChD, isStr, Bool.and_assoc]
      | _ => simp [isStr, isHandChD, isWordD]
    · rw [isHandChD_len hl, decide_eq_false (by omega)]
      rfl
  | _ => rfl


theorem pl_is_hand {d : PyData} (h : Fit d) : m_is_hand d = some (isHandD d) := by
  unfold m_is_hand
  cases d with
  | tuple ds =>
    walk_at "pl"
    by_cases hl : ds.length = 5
    · obtain ⟨a, b, c, p, q, rfl⟩ := len_five hl
      simp only [tup5]
      walk_at "pl"
      rw [pl_is_name (h.mem (by simp)), pl_is_path (h.mem (by simp)), pl_is_number]
      cases b with
      | int i =>
        walk_at "pl"
        cases q with
        | tuple cs =>
          have hq := h.mem (d := .tuple cs) (by simp)
          walk_at "pl"
          rw [okIf_len hq.1, Option.bind_some, mapO_some (g := isHandChD) fun x hx => pl_is_hand_change (hq.mem hx)]
          walk_at "pl"
          rw [all_id]
          simp only [isHandD, isAllD, isRankD, isNumD]
          congr 1
          by_cases h1 : 1 ≤ i <;> by_cases h2 : i ≤ 3
          · simp [h1, h2, show -1000000000 ≤ i by omega, show i ≤ 1000000000 by omega, Bool.and_assoc]
          all_goals simp [h1, h2]
        | _ => simp [isHandD, isAllD, isTup]
      | _ => simp [isHandD, isRankD, isNumD]
    · rw [isHandD_len hl, decide_eq_false (by omega)]
      rfl
  | _ => rfl

theorem hand_of {d : PyData} (h : isHandD d = true) : ∃ x r, d = .tuple (.str x :: r) := by
  unfold isHandD at h
  split at h
  · simp only [Bool.and_eq_true] at h
    obtain ⟨x, rfl⟩ := name_str h.1.1.1.1
    exact ⟨x, _, rfl⟩
  · cases h
theorem strs_hd {ds : List PyData} (h : ∀ d ∈ ds, ∃ x r, d = .tuple (.str x :: r)) : isStrsB (ds.map hd0) = true := by
  refine List.all_eq_true.mpr fun d hd => ?_
  obtain ⟨e, he, rfl⟩ := List.mem_map.mp hd
  obtain ⟨x, r, rfl⟩ := h e he
  rfl
theorem setLen_strs {ds : List PyData} (h : isStrsB ds = true) (hl : ds.length ≤ 3000) : setLenP ds = some (ddS [] (strsOf ds)).length := by
  unfold setLenP
  rw [if_pos (by rw [h, decide_eq_true hl]; rfl)]
theorem heads {ds : List PyData} (h : ∀ d ∈ ds, ∃ x r, d = .tuple (x :: r)) : mapO (fun x => ixP x 0) ds = some (ds.map hd0) := mapO_some fun d hd => by
  obtain ⟨x, r, rfl⟩ := h d hd
  rw [ixP_t, ixL_0]
  rfl
theorem uniq_some {xs : List PyData} {z : Nat} (h : setLenP xs = some z) : decide ((z : Int) = xs.length) = uniqD xs := by rw [uniqD, h]

theorem pl_is_hands {d : PyData} (h : Fit d) : m_is_hands d = some (isHandsD d) := by
  unfold m_is_hands
  cases d with
  | tuple ds =>
    walk_at "pl"
    rw [okIf_len h.1, Option.bind_some, mapO_some (g := isHandD) fun x hx => pl_is_hand (h.mem hx)]
    walk_at "pl"
    rw [all_id]
    simp only [isHandsD]
    cases e : ds.all isHandD with
    | false => rfl
    | true =>
      have hs : ∀ d ∈ ds, ∃ x r, d = .tuple (.str x :: r) := fun d hd => hand_of (List.all_eq_true.mp e d hd)
      have sl := setLen_strs (strs_hd hs) (by rw [List.length_map]; have := h.1; omega)
      walk_at "pl"
      rw [heads (fun d hd => by obtain ⟨x, r, z⟩ := hs d hd; exact ⟨_, r, z⟩)]
      walk_at "pl"
      rw [sl, Option.bind_some, ← uniq_some sl, List.length_map]
  | _ => rfl

end

/-! ### plain judges of trees -/
section
theorem spot_shape {d : PyData} (h : isSpotD d = true) : ∃ k n, d = .tuple [k, .int n] ∧ (k = .none ∨ ∃ i, k = .int i) := by
  unfold isSpotD at h
  split at h
  · rename_i k n
    simp only [Bool.and_eq_true, Bool.or_eq_true] at h
    obtain ⟨h1, h2⟩ := h
    cases n with
    | int m =>
      refine ⟨k, m, rfl, ?_⟩
      cases k with
      | none => exact .inl rfl
      | int i => exact .inr ⟨i, rfl⟩
      | _ => rcases h1 with h1 | h1 <;> cases h1
    | _ => cases h2
  · cases h
/-- numbers, None and tuples of such -/
theorem spot_key {d : PyData} (h : isSpotD d = true) : kd d = true ∧ noText (nk d) = true ∧ Lay 1 d ∧ noB d = true := by
  obtain ⟨k, n, rfl, rfl | ⟨i, rfl⟩⟩ := spot_shape h
  · exact ⟨rfl, rfl, lay_tup (by simp [lay_none, lay_int]), rfl⟩
  · exact ⟨rfl, rfl, lay_tup (by simp [lay_int]), rfl⟩
theorem kdAll_of {ds : List PyData} (h : ∀ d ∈ ds, kd d = true) : kdAll ds = true := by
  induction ds with
  | nil => rfl
  | cons d r ih => rw [kdAll, h d (.head _), ih fun e he => h e (.tail _ he)]; rfl
theorem noTexts_of {ds : List PyData} (h : ∀ d ∈ ds, noText (nk d) = true) : noTexts (nkAll ds) = true := by
  induction ds with
  | nil => rfl
  | cons d r ih => rw [nkAll, noTexts, h d (.head _), ih fun e he => h e (.tail _ he)]; rfl
theorem path_key {ds : List PyData} (h : ds.all isSpotD = true) : numKeyB (.tuple ds) = true ∧ Lay 2 (.tuple ds) ∧ noB (.tuple ds) = true := by
  have hs : ∀ d ∈ ds, isSpotD d = true := fun d hd => List.all_eq_true.mp h d hd
  have l := lay_tup (n := 1) fun d hd => (spot_key (hs d hd)).2.2.1
  refine ⟨?_, l, ?_⟩
  · unfold numKeyB
    rw [kd, nk, noText, kdAll_of fun d hd => (spot_key (hs d hd)).1, noTexts_of fun d hd => (spot_key (hs d hd)).2.1, decide_eq_true (Nat.le_trans l.2 (by decide))]
    rfl
  · rw [noB]
    exact noBs_iff.mpr fun d hd => (spot_key (hs d hd)).2.2.2
theorem label_shape {d : PyData} (h : isLabelD d = true) : ∃ ds, d = .tuple ds ∧ ds.all isSpotD = true ∧ 0 < ds.length := by
  unfold isLabelD at h
  split at h
  · simp only [Bool.and_eq_true, decide_eq_true_eq] at h
    exact ⟨_, rfl, h.1, h.2⟩
  · cases h
theorem label_key {d : PyData} (h : isLabelD d = true) : numKeyB d = true ∧ Lay 2 d ∧ noB d = true := by
  obtain ⟨ds, rfl, h, _⟩ := label_shape h
  exact path_key h
theorem setLen_keys {ds : List PyData} (h : ∀ d ∈ ds, numKeyB d = true ∧ Lay 2 d) (hl : ds.length < 64) : ∃ z, setLenP ds = some z := by
  unfold setLenP
  split
  · exact ⟨_, rfl⟩
  · rw [if_pos]
    · exact ⟨_, rfl⟩
    · rw [List.all_eq_true.mpr fun d hd => (h d hd).1, (lay_lst fun d hd => (h d hd).2).1, decide_eq_true hl]
      rfl
theorem ddS_nodup {α : Type} [DecidableEq α] : ∀ (xs acc : List α), (acc ++ xs).Nodup → ddS acc xs = acc ++ xs
  | [], acc, _ => by simp [ddS]
  | x :: r, acc, h => by
    have hx : x ∉ acc := fun hm => (List.nodup_append.mp h).2.2 x hm x List.mem_cons_self rfl
    have e : acc ++ x :: r = (acc ++ [x]) ++ r := by simp
    rw [e] at h ⊢
    simp only [ddS]
    rw [if_neg hx]
    exact ddS_nodup r (acc ++ [x]) h
theorem uniq_strs {ns : List Str} (h : ns.Nodup) (hl : ns.length ≤ 3000) : uniqD (ns.map PyData.str) = true := by
  have e : isStrsB (ns.map PyData.str) = true := by
    rw [isStrsB, List.all_eq_true]
    intro d hd
    obtain ⟨x, _, rfl⟩ := List.mem_map.mp hd
    rfl
  have es : ∀ ms : List Str, strsOf (ms.map PyData.str) = ms := by
    intro ms
    induction ms with
    | nil => rfl
    | cons m r ih => rw [List.map_cons, strsOf, ih]
  have := setLen_strs e (by rw [List.length_map]; exact hl)
  rw [uniqD, this, es, ddS_nodup _ [] (by simpa using h)]
  simp
theorem uniq_keys {ds : List PyData} (h : ∀ d ∈ ds, numKeyB d = true ∧ Lay 2 d) (hl : ds.length < 64) (nd : ds.Nodup) : uniqD ds = true := by
  have hk : ∀ d ∈ ds, kd d = true := fun d hd => by
    have := (h d hd).1
    simp only [numKeyB, Bool.and_eq_true] at this
    exact this.1.1.1
  have nn : (ds.map nk).Nodup := by
    clear h hl
    induction ds with
    | nil => exact List.nodup_nil
    | cons d r ih =>
      have nd := List.nodup_cons.mp nd
      rw [List.map_cons, List.nodup_cons]
      refine ⟨fun hm => ?_, ih nd.2 fun e he => hk e (.tail _ he)⟩
      obtain ⟨e, he, z⟩ := List.mem_map.mp hm
      have := nk_inj e d (hk e (.tail _ he)) (hk d (.head _)) z
      exact nd.1 (this ▸ he)
  unfold uniqD setLenP
  cases ds with
  | nil => rfl
  | cons d r =>
    have hd : isStrsB (d :: r) = false := by
      have := (h d (.head _)).1
      simp only [numKeyB, Bool.and_eq_true] at this
      cases d with
      | tuple xs => rfl
      | _ => exact absurd this.2 (by simp [isTup])
    rw [hd, Bool.false_and, if_neg Bool.false_ne_true, if_pos (by
      rw [List.all_eq_true.mpr fun d hd => (h d hd).1, (lay_lst fun d hd => (h d hd).2).1, decide_eq_true hl]
      rfl), ddS_nodup _ [] (by simpa using nn)]
    simp
def boxB (t : PyData → Bool) : PyData → Bool | .tuple [n, s, h, r] => isNameD n && isSetsD s && isHandsD h && t r | _ => false
def labB (t : PyData → Bool) : PyData → Bool | .tuple [l, b] => isLabelD l && boxB t b | _ => false
def treeB : Nat → PyData → Bool
  | 0, _ => false
  | k + 1, d => match d with | .tuple ds => ds.all (labB (treeB k)) && uniqD (ds.map hd0) | _ => false
theorem boxB_len {t : PyData → Bool} {ds : List PyData} (h : ¬ ds.length = 4) : boxB t (.tuple ds) = false := by
  match ds, h with
  | [], _ => rfl
  | [_], _ => rfl
  | [_, _], _ => rfl
  | [_, _, _], _ => rfl
  | [_, _, _, _], h => exact absurd rfl h
  | _ :: _ :: _ :: _ :: _ :: _, _ => rfl
theorem labB_len {t : PyData → Bool} {ds : List PyData} (h : ¬ ds.length = 2) : labB t (.tuple ds) = false := by
  match ds, h with
  | [], _ => rfl
  | [_], _ => rfl
  | [_, _], h => exact absurd rfl h
  | _ :: _ :: _ :: _, _ => rfl
theorem labB_hd {t : PyData → Bool} {ds : List PyData} (h : ds.all (labB t) = true) : (∀ d ∈ ds, ∃ x r, d = .tuple (x :: r)) ∧ ∀ d ∈ ds.map hd0, isLabelD d = true := by
  have hs : ∀ d ∈ ds, ∃ l b, d = .tuple [l, b] ∧ isLabelD l = true := fun d hd => by
    have := List.all_eq_true.mp h d hd
    unfold labB at this
    split at this
    · exact ⟨_, _, rfl, (Bool.and_eq_true_iff.mp this).1⟩
    · cases this
  refine ⟨fun d hd => ?_, fun d hd => ?_⟩
  · obtain ⟨l, b, rfl, _⟩ := hs d hd
    exact ⟨l, [b], rfl⟩
  · obtain ⟨e, he, rfl⟩ := List.mem_map.mp hd
    obtain ⟨l, b, rfl, hl⟩ := hs e he
    exact hl
theorem depth_mem {ds : List PyData} {d : PyData} (h : d ∈ ds) : d.depth ≤ PyData.depthAll ds := by
  induction ds with
  | nil => cases h
  | cons e r ih =>
    rw [PyData.depthAll]
    rcases List.mem_cons.mp h with rfl | h
    · exact Nat.le_max_left _ _
    · exact Nat.le_trans (ih h) (Nat.le_max_right _ _)
theorem depth_tup {ds : List PyData} {d : PyData} {k : Nat} (h : (PyData.tuple ds).depth ≤ k) (m : d ∈ ds) : d.depth + 1 ≤ k := by
  have := depth_mem m
  simp only [PyData.depth] at h
  omega
theorem FitN.f {n : Nat} {d : PyData} (h : FitN n d) (hn : n ≤ 1000 := by decide) : Fit d := h.mono hn
/-- the labels in a row are told apart -/
theorem row_uniq {t : PyData → Bool} {ds : List PyData} (hl : ds.length ≤ 60) (h : ds.all (labB t) = true) : ((mapO (fun x => ixP x 0) ds).bind fun ys => (setLenP ys).bind fun z => some (decide ((z : Int) = (ds.length : Int)))) = some (uniqD (ds.map hd0)) := by
  obtain ⟨h1, h2⟩ := labB_hd h
  obtain ⟨z, hz⟩ := setLen_keys (ds := ds.map hd0) (fun d hd => ⟨(label_key (h2 d hd)).1, (label_key (h2 d hd)).2.1⟩) (by rw [List.length_map]; omega)
  rw [heads h1, Option.bind_some, hz, Option.bind_some, ← uniq_some hz, List.length_map]

theorem pl_is_tree : ∀ (k : Nat) {d : PyData} {n : Nat}, FitN 60 d → d.depth ≤ 3 * k → 3 * k + 3 ≤ n → m_is_tree n d = some (treeB (k + 1) d) := by
  intro k
  induction k with
  | zero =>
    intro d n f hd hn
    obtain ⟨n, rfl⟩ : ∃ m, n = m + 1 := ⟨n - 1, by omega⟩
    cases d with
    | tuple ds => simp [PyData.depth] at hd
    | _ => rfl
  | succ k ih =>
    intro d n f hd hn
    obtain ⟨n, rfl⟩ : ∃ m, n = m + 3 := ⟨n - 3, by omega⟩
    unfold m_is_tree
    cases d with
    | tuple ds =>
      walk_at "pl"
      have lab : ∀ x ∈ ds, m_is_labelled (n + 2) x = some (labB (treeB (k + 1)) x) := fun x hx => by
        have fx := f.mem hx
        have dx := depth_tup hd hx
        unfold m_is_labelled
        cases x with
        | tuple es =>
          walk_at "pl"
          by_cases hl : es.length = 2
          · obtain ⟨l, b, rfl⟩ := len_two hl
            walk_at "pl"
            have fb := fx.mem (d := b) (by simp)
            have db := depth_tup (k := 3 * k + 2) (by omega : (PyData.tuple [l, b]).depth ≤ 3 * k + 2) (d := b) (by simp)
            rw [pl_is_label (fx.mem (d := l) (by simp)).f]
            have box : m_is_box (n + 1) b = some (boxB (treeB (k + 1)) b) := by
              unfold m_is_box
              cases b with
              | tuple gs =>
                walk_at "pl"
                by_cases hl : gs.length = 4
                · obtain ⟨nm, se, ha, ro, rfl⟩ := len_four hl
                  walk_at "pl"
                  have dr := depth_tup (k := 3 * k + 1) (by omega : (PyData.tuple [nm, se, ha, ro]).depth ≤ 3 * k + 1) (d := ro) (by simp)
                  rw [pl_is_name (fb.mem (d := nm) (by simp)).f, pl_is_sets (fb.mem (d := se) (by simp)).f, pl_is_hands (fb.mem (d := ha) (by simp)).f, ih (fb.mem (d := ro) (by simp)) (by omega) (by omega)]
                  walk_at "pl"
                  simp [boxB, Bool.and_assoc]
                · rw [boxB_len hl, decide_eq_false (by omega)]
                  rfl
              | _ => rfl
            rw [box]
            walk_at "pl"
            simp [labB]
          · rw [labB_len hl, decide_eq_false (by omega)]
            rfl
        | _ => rfl
      have f1 := f.1
      rw [okIf_len (by omega), Option.bind_some, mapO_some lab]
      walk_at "pl"
      rw [all_id]
      show _ = some (ds.all (labB (treeB (k + 1))) && uniqD (ds.map hd0))
      cases e : ds.all (labB (treeB (k + 1))) with
      | false => rfl
      | true =>
        walk_at "pl"
        exact row_uniq f1 e
    | _ => rfl

end

/-! ### what is judged well can be laid out -/
section
theorem cl_tup {ds : List PyData} (h : ∀ d ∈ ds, d.canLay0 = true) : (PyData.tuple ds).canLay0 = true := by
  simp only [PyData.canLay0]
  induction ds with
  | nil => rfl
  | cons d r ih =>
    rw [PyData.canLayAll0, h d (.head _), ih fun e he => h e (.tail _ he)]
    rfl
theorem cl_name {d : PyData} (h : isNameD d = true) : d.canLay0 = true := by
  obtain ⟨x, rfl⟩ := name_str h
  simp only [isNameD, Bool.and_eq_true] at h
  show PyData.strOk x = true
  rw [strOk_mem]
  intro c hc
  exact (by decide +kernel : ∀ c ∈ letters.cps.toList, c < 0x110000) c (of_decide_eq_true (List.all_eq_true.mp h.2 c hc))
theorem cl_num {d : PyData} (h : isNumD d = true) : d.canLay0 = true := by cases d <;> first | rfl | cases h
theorem cl_word {d : PyData} (h : isWordD d = true) : d.canLay0 = true := by
  cases d with
  | str w => exact (by decide +kernel : ∀ w ∈ (["set", "add", "times"] : List Str), PyData.strOk w = true) w (of_decide_eq_true h)
  | _ => cases h
theorem cl_setting {d : PyData} (h : isSettingD d = true) : d.canLay0 = true := by
  unfold isSettingD at h
  split at h
  · rw [Bool.and_eq_true] at h
    refine cl_tup fun d hd => ?_
    simp only [List.mem_cons, List.not_mem_nil, or_false] at hd
    rcases hd with rfl | rfl
    · exact cl_name h.1
    · exact cl_num h.2
  · cases h
theorem cl_sets {d : PyData} (h : isSetsD d = true) : d.canLay0 = true := by
  unfold isSetsD at h
  split at h
  · exact cl_tup fun d hd => cl_setting (List.all_eq_true.mp (Bool.and_eq_true_iff.mp h).1 d hd)
  · cases h
theorem cl_handch {d : PyData} (h : isHandChD d = true) : d.canLay0 = true := by
  unfold isHandChD at h
  split at h
  · simp only [Bool.and_eq_true] at h
    refine cl_tup fun d hd => ?_
    simp only [List.mem_cons, List.not_mem_nil, or_false] at hd
    rcases hd with rfl | rfl | rfl
    · exact cl_name h.1.1
    · exact cl_word h.1.2
    · exact cl_num h.2
  · cases h
theorem cl_all {p : PyData → Bool} (hp : ∀ d, p d = true → d.canLay0 = true) {d : PyData} (h : isAllD p d = true) : d.canLay0 = true := by
  cases d with
  | tuple ds => exact cl_tup fun d hd => hp d (List.all_eq_true.mp h d hd)
  | _ => cases h
theorem cl_spot {d : PyData} (h : isSpotD d = true) : d.canLay0 = true := (spot_key h).2.2.1.1
theorem cl_hand {d : PyData} (h : isHandD d = true) : d.canLay0 = true := by
  unfold isHandD at h
  split at h
  · rename_i e r l p c
    simp only [Bool.and_eq_true] at h
    refine cl_tup fun d hd => ?_
    simp only [List.mem_cons, List.not_mem_nil, or_false] at hd
    rcases hd with rfl | rfl | rfl | rfl | rfl
    · exact cl_name h.1.1.1.1
    · have := h.1.1.1.2
      cases d <;> first | rfl | cases this
    · have := h.1.1.2
      cases d <;> first | rfl | cases this
    · have := h.1.2
      cases d with
      | tuple ds => exact cl_tup fun d hd => cl_spot (List.all_eq_true.mp this d hd)
      | _ => cases this
    · exact cl_all (fun d h => cl_handch h) h.2
  · cases h
theorem cl_hands {d : PyData} (h : isHandsD d = true) : d.canLay0 = true := by
  unfold isHandsD at h
  split at h
  · exact cl_tup fun d hd => cl_hand (List.all_eq_true.mp (Bool.and_eq_true_iff.mp h).1 d hd)
  · cases h
theorem cl_tree : ∀ (k : Nat) {d : PyData}, treeB k d = true → d.canLay0 = true
  | 0, _, h => by cases h
  | k + 1, d, h => by
    cases d with
    | tuple ds =>
      have h : (ds.all (labB (treeB k)) && uniqD (ds.map hd0)) = true := h
      refine cl_tup fun d hd => ?_
      have hx := List.all_eq_true.mp (Bool.and_eq_true_iff.mp h).1 d hd
      unfold labB at hx
      split at hx
      · rename_i l b
        rw [Bool.and_eq_true] at hx
        refine cl_tup fun d hd => ?_
        simp only [List.mem_cons, List.not_mem_nil, or_false] at hd
        rcases hd with rfl | rfl
        · exact (label_key hx.1).2.1.1
        · have hb := hx.2
          unfold boxB at hb
          split at hb
          · simp only [Bool.and_eq_true] at hb
            refine cl_tup fun d hd => ?_
            simp only [List.mem_cons, List.not_mem_nil, or_false] at hd
            rcases hd with rfl | rfl | rfl | rfl
            · exact cl_name hb.1.1.1
            · exact cl_sets hb.1.1.2
            · exact cl_hands hb.1.2
            · exact cl_tree k hb.2
          · cases hb
      · cases hx
    | _ => cases h
end

/-! ### what is drawn: numbers, names, spots, labels -/
section
def NumP (d : PyData) : Prop := ∃ i : Int, d = .int i ∧ -1000000000 ≤ i ∧ i ≤ 1000000000
def pool12 : List Str := ["a", "ab", "abc", "b", "ba", "box", "put", "set", "take", "plain", "turn", "abcdefgh"]
def nameAt (s st : Nat) (k : Nat) : Str := pool12.getD ((s + st * k) % 12) ""
theorem pool_at (j : Nat) (h : j < 12) : (pool12.map PyData.str)[j]? = some (.str (pool12.getD j "")) := by
  rw [List.getElem?_map, List.getD_eq_getElem?_getD, List.getElem?_eq_getElem (show j < pool12.length from h)]
  rfl
theorem names_nodup (s st m : Nat) (hs : s < 12) (hst : st = 1 ∨ st = 5 ∨ st = 7 ∨ st = 11) (hm : m ≤ 12) : ((List.range m).map (nameAt s st)).Nodup := by
  have h12 : ∀ st ∈ [1, 5, 7, 11], ∀ s, s < 12 → ((List.range 12).map (nameAt s st)).Nodup := by decide +kernel
  have z := h12 st (by rcases hst with rfl | rfl | rfl | rfl <;> simp) s hs
  have e : List.range m = (List.range 12).take m := by rw [List.take_range, Nat.min_eq_left hm]
  rw [e, List.map_take]
  exact z.sublist (List.take_sublist _ _)
theorem nameAt_mem (s st k : Nat) : nameAt s st k ∈ pool12 := by
  unfold nameAt
  have h : (s + st * k) % 12 < pool12.length := Nat.mod_lt _ (by decide)
  rw [List.getD_eq_getElem?_getD, List.getElem?_eq_getElem h]
  exact List.getElem_mem h
/-- so judged, not too great -/
structure Fi (n : Nat) (p : PyData → Bool) (d : PyData) : Prop where
  yes : p d = true
  fit : FitN 12 d
  dep : d.depth ≤ n
theorem dep_of {n : Nat} {ds : List PyData} (h : ∀ d ∈ ds, d.depth ≤ n) : (PyData.tuple ds).depth ≤ n + 1 := by
  have : PyData.depthAll ds ≤ n := by
    induction ds with
    | nil => exact Nat.zero_le _
    | cons d r ih =>
      rw [PyData.depthAll]
      exact Nat.max_le.mpr ⟨h d (.head _), ih fun e he => h e (.tail _ he)⟩
  simp only [PyData.depth]
  omega
theorem fi_tup {n : Nat} {ds : List PyData} {p : PyData → Bool} (y : p (.tuple ds) = true) (hl : ds.length ≤ 12) (h : ∀ d ∈ ds, FitN 12 d ∧ d.depth ≤ n) : Fi (n + 1) p (.tuple ds) :=
  ⟨y, fit_tup hl fun d hd => (h d hd).1, dep_of fun d hd => (h d hd).2⟩
theorem Fi.mono {n m : Nat} {p : PyData → Bool} {d : PyData} (h : Fi n p d) (l : n ≤ m) : Fi m p d := ⟨h.yes, h.fit, Nat.le_trans h.dep l⟩
theorem fi_all {n : Nat} {ds : List PyData} {p : PyData → Bool} (hl : ds.length ≤ 12) (h : ∀ d ∈ ds, Fi n p d) : Fi (n + 1) (isAllD p) (.tuple ds) :=
  fi_tup (List.all_eq_true.mpr fun d hd => (h d hd).yes) hl fun d hd => ⟨(h d hd).fit, (h d hd).dep⟩
theorem NumP.fi {d : PyData} (h : NumP d) : Fi 0 isNumD d := by
  obtain ⟨i, rfl, a, b⟩ := h
  exact ⟨by simp [isNumD, a, b], Int.le_trans b (by decide), by simp [PyData.depth]⟩
theorem pool_fi {n : Str} (h : n ∈ pool12) : Fi 0 isNameD (.str n) :=
  ⟨(by decide +kernel : ∀ n ∈ pool12, isNameD (.str n) = true) n h, (by decide +kernel : ∀ n ∈ pool12, n.length ≤ 1000) n h, by simp [PyData.depth]⟩

theorem sp_number : Sp m_law_number NumP := by
  unfold m_law_number
  refine Sp.draw (by decide) (by decide) fun r _ _ => ?_
  refine Sp.ite (fun _ => ?_) (fun _ => ?_)
  · refine Sp.draw (by decide) (by decide) fun r a b => Sp.ret ⟨_, rfl, by omega, by omega⟩
  · refine Sp.draw (by decide) (by decide) fun r a b => ?_
    refine Sp.ix a (by simpa using b) fun x hx => Sp.ret ?_
    simp only [List.mem_cons, List.not_mem_nil, or_false] at hx
    rcases hx with rfl | rfl | rfl | rfl <;> exact ⟨_, rfl, by decide, by decide⟩


theorem sp_names {m : Nat} (hm : m ≤ 12) : Sp (m_law_names (.int m)) fun ys => ∃ ns : List Str, ys = ns.map PyData.str ∧ ns.Nodup ∧ ns.length = m ∧ ∀ n ∈ ns, n ∈ pool12 := by
  unfold m_law_names
  refine Sp.draw (by decide) (by decide) fun r1 a1 b1 => ?_
  refine Sp.draw (by decide) (by decide) fun r2 a2 b2 => ?_
  refine Sp.ix a2 (by simpa using b2) fun x hx => ?_
  obtain ⟨st, rfl, hst⟩ : ∃ st : Nat, x = .int st ∧ (st = 1 ∨ st = 5 ∨ st = 7 ∨ st = 11) := by
    simp only [List.mem_cons, List.not_mem_nil, or_false] at hx
    rcases hx with rfl | rfl | rfl | rfl
    · exact ⟨1, rfl, .inl rfl⟩
    · exact ⟨5, rfl, .inr (.inl rfl)⟩
    · exact ⟨7, rfl, .inr (.inr (.inl rfl))⟩
    · exact ⟨11, rfl, .inr (.inr (.inr rfl))⟩
  obtain ⟨s, rfl⟩ : ∃ n : Nat, r1 = n := ⟨r1.toNat, by omega⟩
  refine Sp.of asI_i (Sp.of (okIf_p (by omega)) ?_)
  refine Sp.of (a := ((List.range m).map (nameAt s st)).map PyData.str) ?_ (Sp.ret ⟨_, rfl, names_nodup s st m (by omega) hst hm, by simp, fun n hn => ?_⟩)
  · rw [rngP_nat, mapO_map, List.map_map]
    refine mapO_some fun k hk => ?_
    have hk := List.mem_range.mp hk
    have g : mulG (st : Int) (Int.ofNat k) = true := decide_eq_true (.inl (by rcases hst with rfl | rfl | rfl | rfl <;> exact ⟨by decide, by decide⟩))
    rw [asI_i, Option.bind_some, g, okIf_tt, Option.bind_some, show ((s : Int) + (st : Int) * Int.ofNat k) % 12 = (((s + st * k) % 12 : Nat) : Int) by rw [Int.natCast_emod, Int.natCast_add, Int.natCast_mul]; rfl, ixP_l, ixL_nat, bind_some_]
    exact pool_at _ (Nat.mod_lt _ (by decide))
  · obtain ⟨k, _, rfl⟩ := List.mem_map.mp hn
    exact nameAt_mem _ _ _

def SpotP (d : PyData) : Prop := ∃ (k : PyData) (n : Int), d = .tuple [k, .int n] ∧ (k = .none ∨ NumP k) ∧ 0 ≤ n ∧ n ≤ 1000000000000
theorem SpotP.fi {d : PyData} (h : SpotP d) : Fi 1 isSpotD d := by
  obtain ⟨k, n, rfl, hk, a, b⟩ := h
  have kf : (isNonD k || isNumD k) = true ∧ FitN 12 k ∧ k.depth ≤ 0 := by
    rcases hk with rfl | hk
    · exact ⟨rfl, trivial, by simp [PyData.depth]⟩
    · exact ⟨by rw [hk.fi.yes, Bool.or_true], hk.fi.fit, hk.fi.dep⟩
  refine fi_tup (n := 0) (by simp only [isSpotD, kf.1, isCountD, Bool.true_and]; exact decide_eq_true a) (by simp) fun d hd => ?_
  simp only [List.mem_cons, List.not_mem_nil, or_false] at hd
  rcases hd with rfl | rfl
  · exact kf.2
  · exact ⟨Int.le_trans b (by decide), by simp [PyData.depth]⟩

theorem sp_spot : Sp m_law_spot SpotP := by
  unfold m_law_spot
  refine Sp.bind (P := fun k => k = .none ∨ NumP k) ?_ fun k hk => ?_
  · refine Sp.draw (by decide) (by decide) fun r _ _ => ?_
    refine Sp.ite (fun _ => ?_) (fun _ => Sp.ret (.inl rfl))
    exact sp_number.bind fun x hx => Sp.ret (.inr hx)
  · refine Sp.draw (by decide) (by decide) fun r a b => ?_
    refine Sp.ix a (by simpa using b) fun x hx => Sp.ret ?_
    simp only [List.mem_cons, List.not_mem_nil, or_false] at hx
    rcases hx with rfl | rfl | rfl | rfl | rfl | rfl <;> exact ⟨_, _, rfl, hk, by decide, by decide⟩

def LabP (d : PyData) : Prop := ∃ ss, d = .tuple ss ∧ 1 ≤ ss.length ∧ ss.length ≤ 3 ∧ ∀ s ∈ ss, SpotP s
theorem LabP.fi {d : PyData} (h : LabP d) : Fi 2 isLabelD d := by
  obtain ⟨ss, rfl, a, b, hs⟩ := h
  have z := fi_all (n := 1) (p := isSpotD) (ds := ss) (by omega) fun s m => (hs s m).fi
  exact ⟨by simp only [isLabelD, show ss.all isSpotD = true from z.yes, Bool.true_and]; exact decide_eq_true (by omega), z.fit, z.dep⟩

theorem sp_label : Sp m_law_label LabP := by
  unfold m_law_label
  refine Sp.draw (by decide) (by decide) fun r a b => ?_
  refine Sp.ix a (by simpa using b) fun x hx => ?_
  obtain ⟨n, rfl, n0, n1⟩ : ∃ n : Nat, x = .int n ∧ 1 ≤ n ∧ n ≤ 3 := by
    simp only [List.mem_cons, List.not_mem_nil, or_false] at hx
    rcases hx with rfl | rfl | rfl | rfl | rfl
    · exact ⟨1, rfl, by decide, by decide⟩
    · exact ⟨1, rfl, by decide, by decide⟩
    · exact ⟨1, rfl, by decide, by decide⟩
    · exact ⟨2, rfl, by decide, by decide⟩
    · exact ⟨3, rfl, by decide, by decide⟩
  refine Sp.of asI_i (Sp.of (okIf_p (by omega)) ?_)
  refine Sp.mapb (P := SpotP) (fun x _ => sp_spot.bind fun s hs => Sp.ret hs) fun ys hl hp => Sp.ret ⟨ys, rfl, ?_, ?_, hp⟩
  · rw [hl, length_rngP]; omega
  · rw [hl, length_rngP]; omega

/-! names sorted -/
theorem sort_strs (ns : List Str) : ∃ ms : List Str, sortD (ns.map PyData.str) = ms.map PyData.str ∧ ms.Perm ns ∧ ms.Pairwise fun a b => PySem.W.dataLe false id (PyData.str a) (.str b) = true := by
  have hp : (sortD (ns.map PyData.str)).Perm (ns.map PyData.str) := List.mergeSort_perm _ _
  have hw : (sortD (ns.map PyData.str)).Pairwise fun a b => PySem.W.dataLe false id a b = true := by
    have t : PySem.W.TotalLe (PySem.W.dataLe false (id : PyData → PyData)) := PySem.W.sortLe_total _ _ _
    exact List.pairwise_mergeSort (fun a b c => t.trans a b c) (fun a b => by rw [Bool.or_eq_true]; exact t.total a b) _
  have es : isStrsB (sortD (ns.map PyData.str)) = true := List.all_eq_true.mpr fun d hd => by
    obtain ⟨x, _, rfl⟩ := List.mem_map.mp (hp.mem_iff.mp hd)
    rfl
  have e := strs_of es
  generalize sortD (ns.map PyData.str) = ds at *
  generalize strsOf ds = ms at *
  subst e
  refine ⟨ms, rfl, ?_, List.pairwise_map.mp hw⟩
  have := hp.map fun d => match d with | .str x => x | _ => ("" : Str)
  rw [List.map_map, List.map_map] at this
  simpa [Function.comp_def] using this
theorem pool_lt : ∀ a ∈ pool12, ∀ b ∈ pool12, a ≠ b → PySem.W.dataLe false id (PyData.str a) (.str b) = true → decide (a.cps.toList < b.cps.toList) = true := by decide +kernel

theorem sp_sets : Sp m_law_sets (Fi 2 isSetsD) := by
  unfold m_law_sets
  refine Sp.draw (by decide) (by decide) fun r a b => ?_
  obtain ⟨m, rfl⟩ : ∃ n : Nat, r = n := ⟨r.toNat, by omega⟩
  refine (sp_names (m := m) (by omega)).bind fun ys hy => ?_
  obtain ⟨ns, rfl, nd, nl, np⟩ := hy
  obtain ⟨ms, e, pm, pw⟩ := sort_strs ns
  have ml := pm.length_eq
  refine Sp.of (a := ms.map PyData.str) (by
    have : isStrsB (ns.map PyData.str) = true := List.all_eq_true.mpr fun d hd => by
      obtain ⟨x, _, rfl⟩ := List.mem_map.mp hd
      rfl
    rw [sortP, if_pos (by rw [this, decide_eq_true (by rw [List.length_map]; omega)]; rfl), e]) ?_
  refine Sp.of (okIf_p (by rw [List.length_map]; omega)) ?_
  have key : Sp (mapM' (fun x9 => DM.bind m_law_number fun r10 => DM.ret (PyData.tuple [x9, r10])) (ms.map PyData.str)) fun ys => ys.map hd0 = ms.map PyData.str ∧ ∀ y ∈ ys, Fi 1 isSettingD y := by
    have hm : ∀ n ∈ ms, n ∈ pool12 := fun n hn => np n (pm.mem_iff.mp hn)
    clear pw ml pm e
    induction ms with
    | nil => exact fun k q => q [] ⟨rfl, fun y hy => by cases hy⟩
    | cons n r ih =>
      intro k q
      refine (sp_number.bind (P := NumP) (Q := fun y => hd0 y = .str n ∧ Fi 1 isSettingD y) fun v hv => Sp.ret ⟨rfl, ?_⟩) _ fun y hy => ih (fun n hn => hm n (.tail _ hn)) _ fun ys hys => q _ ⟨by rw [List.map_cons, List.map_cons, hy.1, hys.1], fun z hz => ?_⟩
      · refine fi_tup (n := 0) (by simp only [isSettingD, (pool_fi (hm n (.head _))).yes, hv.fi.yes, Bool.and_self]) (by simp) fun d hd => ?_
        simp only [List.mem_cons, List.not_mem_nil, or_false] at hd
        rcases hd with rfl | rfl
        · exact ⟨(pool_fi (hm n (.head _))).fit, (pool_fi (hm n (.head _))).dep⟩
        · exact ⟨hv.fi.fit, hv.fi.dep⟩
      · rcases List.mem_cons.mp hz with rfl | hz
        · exact hy.2
        · exact hys.2 z hz
  refine key.bind fun ys ⟨h1, h2⟩ => Sp.ret ?_
  have yl : ys.length = ms.length := by simpa using congrArg List.length h1
  have z := fi_all (n := 1) (p := isSettingD) (ds := ys) (by omega) h2
  refine ⟨?_, z.fit, z.dep⟩
  have ha : ascD ys = true := by
    unfold ascD
    refine List.all_eq_true.mpr fun k hk => ?_
    have hk := List.mem_range.mp hk
    obtain ⟨x, v, e1, e2⟩ := settings_at (show ys.all isSettingD = true from z.yes) (show k < ys.length by omega)
    obtain ⟨y, u, e3, e4⟩ := settings_at (show ys.all isSettingD = true from z.yes) (show k + 1 < ys.length by omega)
    have g1 : ms[k]? = some x := by
      have := congrArg (fun l => l[k]?) h1
      simp only [List.getElem?_map, e1, Option.map_some, hd0] at this
      cases hx : ms[k]? with
      | none => rw [hx] at this; cases this
      | some w => rw [hx] at this; simp at this; rw [this]
    have g2 : ms[k + 1]? = some y := by
      have := congrArg (fun l => l[k + 1]?) h1
      simp only [List.getElem?_map, e3, Option.map_some, hd0] at this
      cases hx : ms[k + 1]? with
      | none => rw [hx] at this; cases this
      | some w => rw [hx] at this; simp at this; rw [this]
    rw [e2, e4]
    obtain ⟨l1, q1⟩ := List.getElem?_eq_some_iff.mp g1
    obtain ⟨l2, q2⟩ := List.getElem?_eq_some_iff.mp g2
    have pq := List.pairwise_iff_getElem.mp pw k (k + 1) l1 l2 (by omega)
    have ndm : ms.Nodup := pm.nodup_iff.mpr nd
    have ne : x ≠ y := fun h => by
      have := (List.getElem_inj (h₀ := l1) (h₁ := l2) ndm).mp (by rw [q1, q2, h])
      omega
    rw [q1, q2] at pq
    have := pool_lt x (np x (pm.mem_iff.mp (List.mem_of_getElem? g1))) y (np y (pm.mem_iff.mp (List.mem_of_getElem? g2))) ne pq
    simp only [ltN, hd0, ltP, this, Option.getD_some]
  simp only [isSetsD, ha, Bool.and_true]
  exact z.yes

end

/-! ### hands, boxes, trees drawn -/
section
theorem word_fi {w : Str} (h : w ∈ (["set", "add", "times"] : List Str)) : Fi 0 isWordD (.str w) :=
  ⟨decide_eq_true h, (by decide +kernel : ∀ n ∈ (["set", "add", "times"] : List Str), n.length ≤ 1000) w h, by simp [PyData.depth]⟩
def EvP (d : PyData) (n : Str) : Prop := hd0 d = .str n ∧ Fi 3 isHandD d

theorem sp_hands : Sp m_law_hands (Fi 4 isHandsD) := by
  unfold m_law_hands
  refine Sp.draw (by decide) (by decide) fun r a b => ?_
  refine Sp.ix a (by simpa using b) fun x hx => ?_
  obtain ⟨m, rfl, hm⟩ : ∃ n : Nat, x = .int n ∧ n ≤ 2 := by
    simp only [List.mem_cons, List.not_mem_nil, or_false] at hx
    rcases hx with rfl | rfl | rfl | rfl
    · exact ⟨0, rfl, by decide⟩
    · exact ⟨0, rfl, by decide⟩
    · exact ⟨1, rfl, by decide⟩
    · exact ⟨2, rfl, by decide⟩
  refine (sp_names (m := m) (by omega)).bind fun ys hy => ?_
  obtain ⟨ns, rfl, nd, nl, np⟩ := hy
  refine Sp.foldb (fun i hs => hs.map hd0 = (ns.take i).map PyData.str ∧ ∀ h ∈ hs, Fi 3 isHandD h) ⟨rfl, fun h hh => by cases hh⟩ (fun i ev hs hev ⟨h1, h2⟩ => ?_) fun hs ⟨h1, h2⟩ => Sp.ret ?_
  · obtain ⟨n, hn, rfl⟩ := map_get hev
    have hi : hs.length = min i ns.length := by simpa using congrArg List.length h1
    have np' := pool_fi (np n (List.mem_of_getElem? hn))
    refine Sp.draw (by decide) (by decide) fun r1 a1 b1 => ?_
    refine Sp.of (okIf_p (by omega)) ?_
    refine Sp.mapb (P := SpotP) (fun x _ => sp_spot.bind fun s hs => Sp.ret hs) fun ps pl hp => ?_
    rw [length_rngP] at pl
    have pf := fi_all (n := 1) (p := isSpotD) (ds := ps) (by omega) fun s m => (hp s m).fi
    refine Sp.draw (by decide) (by decide) fun r2 a2 b2 => ?_
    obtain ⟨m2, rfl⟩ : ∃ n : Nat, r2 = n := ⟨r2.toNat, by omega⟩
    refine (sp_names (m := m2) (by omega)).bind fun ys hy => ?_
    obtain ⟨ms, rfl, _, ml, mp⟩ := hy
    refine Sp.foldb (fun i cs => cs.length = i ∧ ∀ c ∈ cs, Fi 1 isHandChD c) ⟨rfl, fun h hh => by cases hh⟩ (fun i bx cs hbx ⟨c1, c2⟩ => ?_) fun cs ⟨c1, c2⟩ => ?_
    · obtain ⟨b, hb, rfl⟩ := map_get hbx
      have hi : i < ms.length := (List.getElem?_eq_some_iff.mp hb).1
      refine Sp.draw (by decide) (by decide) fun r3 a3 b3 => ?_
      refine Sp.ix a3 (by simpa using b3) fun w hw => ?_
      obtain ⟨w, rfl, hw'⟩ : ∃ z : Str, w = .str z ∧ z ∈ (["set", "add", "times"] : List Str) := by
        simp only [List.mem_cons, List.not_mem_nil, or_false] at hw
        rcases hw with rfl | rfl | rfl <;> exact ⟨_, rfl, by simp⟩
      refine sp_number.bind fun v hv => ?_
      refine Sp.of (a := cs ++ [.tuple [.str b, .str w, v]]) (by rw [appP, if_pos (by omega)]) (Sp.ret ⟨by simp [c1], fun c hc => ?_⟩)
      rcases List.mem_append.mp hc with hc | hc
      · exact c2 c hc
      · rw [List.mem_singleton.mp hc]
        have bf := pool_fi (mp b (List.mem_of_getElem? hb))
        refine fi_tup (n := 0) (by simp only [isHandChD, bf.yes, (word_fi hw').yes, hv.fi.yes, Bool.and_self]) (by simp) fun d hd => ?_
        simp only [List.mem_cons, List.not_mem_nil, or_false] at hd
        rcases hd with rfl | rfl | rfl
        · exact ⟨bf.fit, bf.dep⟩
        · exact ⟨(word_fi hw').fit, (word_fi hw').dep⟩
        · exact ⟨hv.fi.fit, hv.fi.dep⟩
    · rw [List.length_map] at c1
      have cf := fi_all (n := 1) (p := isHandChD) (ds := cs) (by omega) c2
      refine Sp.draw (by decide) (by decide) fun r4 a4 b4 => ?_
      refine Sp.draw (by decide) (by decide) fun r5 a5 b5 => ?_
      refine Sp.of (by rw [appP, if_pos (by omega)]) (Sp.ret ⟨?_, fun h hh => ?_⟩)
      · rw [List.map_append, h1, List.take_add_one, hn, List.map_append]
        rfl
      · rcases List.mem_append.mp hh with hh | hh
        · exact h2 h hh
        · rw [List.mem_singleton.mp hh]
          refine fi_tup (n := 2) ?_ (by simp) fun d hd => ?_
          · simp only [isHandD, np'.yes, isRankD, isBool, isPathD, show ps.all isSpotD = true from pf.yes, cf.yes, decide_eq_true (show (1 : Int) ≤ 1 + r4 by omega), decide_eq_true (show (1 : Int) + r4 ≤ 3 by omega), Bool.and_self]
          · simp only [List.mem_cons, List.not_mem_nil, or_false] at hd
            rcases hd with rfl | rfl | rfl | rfl | rfl
            · exact ⟨np'.fit, Nat.le_trans np'.dep (by decide)⟩
            · exact ⟨by show (1 : Int) + r4 ≤ 10 ^ 60; omega, by simp [PyData.depth]⟩
            · exact ⟨trivial, by simp [PyData.depth]⟩
            · exact ⟨pf.fit, pf.dep⟩
            · exact ⟨cf.fit, cf.dep⟩
  · rw [List.length_map, List.take_length] at h1
    have hl : hs.length = ns.length := by simpa using congrArg List.length h1
    have z := fi_all (n := 3) (p := isHandD) (ds := hs) (by omega) h2
    refine ⟨?_, z.fit, z.dep⟩
    simp only [isHandsD, h1, uniq_strs nd (by omega), Bool.and_true]
    exact z.yes

theorem eqv_in {x : PyData} {ds : List PyData} (hx : noB x = true) (h : ∀ d ∈ ds, noB d = true) : (ds.any fun z => PyData.eqv z x) = true ↔ x ∈ ds := by
  rw [List.any_eq_true]
  constructor
  · rintro ⟨z, hz, e⟩
    rw [(eqv_same (h z hz) hx).mp e] at hz
    exact hz
  · intro hm
    exact ⟨x, hm, (eqv_same (h x hm) hx).mpr rfl⟩
theorem treeB_up {k : Nat} {d : PyData} (h : treeB k d = true) : treeB (k + 1) d = true := by
  induction k generalizing d with
  | zero => cases h
  | succ k ih =>
    cases d with
    | tuple ds =>
      have h : (ds.all (labB (treeB k)) && uniqD (ds.map hd0)) = true := h
      show (ds.all (labB (treeB (k + 1))) && uniqD (ds.map hd0)) = true
      rw [Bool.and_eq_true] at h ⊢
      refine ⟨List.all_eq_true.mpr fun x hx => ?_, h.2⟩
      have hx := List.all_eq_true.mp h.1 x hx
      unfold labB at hx ⊢
      split at hx
      · rename_i l b
        rw [Bool.and_eq_true] at hx ⊢
        refine ⟨hx.1, ?_⟩
        have hb := hx.2
        unfold boxB at hb ⊢
        split at hb
        · rw [Bool.and_eq_true] at hb ⊢
          exact ⟨hb.1, ih hb.2⟩
        · cases hb
      · cases hx
    | _ => cases h

def FT (k : Nat) (d : PyData) : Prop := Fi (7 + 3 * k) (treeB (k + 2)) d ∧ ∃ ds, d = .tuple ds ∧ ds.length ≤ 7
theorem sp_box {n k : Nat} (h : ∀ j, k = j + 1 → Sp (m_law_row n (.int j)) (FT j)) : Sp (m_law_box (n + 1) (.int k)) (Fi (5 + 3 * k) (boxB (treeB (k + 1)))) := by
  unfold m_law_box
  refine (sp_names (m := 1) (by decide)).bind fun ys hy => ?_
  obtain ⟨ns, rfl, _, nl, np⟩ := hy
  obtain ⟨nm, rfl⟩ := len_one nl
  refine Sp.of (a := .str nm) (by rw [List.map_cons, ixL_0]) ?_
  refine sp_sets.bind fun se hse => ?_
  refine sp_hands.bind fun ha hha => ?_
  refine Sp.bind (P := fun r => FitN 12 r ∧ r.depth ≤ 4 + 3 * k ∧ treeB (k + 1) r = true) ?_ fun r hr => Sp.ret ?_
  · have e0 : Sp (DM.ret (PyData.tuple [])) fun r => FitN 12 r ∧ r.depth ≤ 4 + 3 * k ∧ treeB (k + 1) r = true := Sp.ret ⟨fit_tup (by simp) (by simp), by simp [PyData.depth, PyData.depthAll]; omega, rfl⟩
    refine Sp.bind (P := fun b => b = true → 0 < k) ?_ fun b hb => ?_
    · refine Sp.bind (P := fun b => b = true → 0 < k) (Sp.of asI_i (Sp.ret fun h => by have := of_decide_eq_true h; omega)) fun b hb => ?_
      cases b with
      | false => exact Sp.ret fun h => nomatch h
      | true => exact Sp.draw (by decide) (by decide) fun r _ _ => Sp.ret fun _ => hb rfl
    · refine Sp.ite (fun c => ?_) (fun _ => e0)
      have hk := hb c
      obtain ⟨j, rfl⟩ : ∃ j, k = j + 1 := ⟨k - 1, by omega⟩
      refine Sp.of asI_i ?_
      rw [show ((j + 1 : Nat) : Int) - 1 = (j : Int) by omega]
      exact (h j rfl).bind fun r hr => Sp.ret ⟨hr.1.fit, Nat.le_trans hr.1.dep (by omega), hr.1.yes⟩
  · have nf := pool_fi (np nm (by simp))
    have := fi_tup (n := 4 + 3 * k) (p := boxB (treeB (k + 1))) (ds := [.str nm, se, ha, r]) (by simp only [boxB, nf.yes, hse.yes, hha.yes, hr.2.2, Bool.and_self]) (by simp) fun d hd => by
      simp only [List.mem_cons, List.not_mem_nil, or_false] at hd
      rcases hd with rfl | rfl | rfl | rfl
      · exact ⟨nf.fit, Nat.le_trans nf.dep (by omega)⟩
      · exact ⟨hse.fit, Nat.le_trans hse.dep (by omega)⟩
      · exact ⟨hha.fit, Nat.le_trans hha.dep (by omega)⟩
      · exact ⟨hr.1, hr.2.1⟩
    exact this.mono (by omega)
/-- rows with so many rows within one another -/
theorem sp_row : ∀ (k : Nat) (n : Nat), k ≤ 2 → 2 * k + 2 ≤ n → Sp (m_law_row n (.int k)) (FT k) := by
  intro k
  induction k using Nat.strongRecOn with
  | _ k ih =>
  intro n hk hn
  obtain ⟨n, rfl⟩ : ∃ m, n = m + 2 := ⟨n - 2, by omega⟩
  have box : Sp (m_law_box (n + 1) (.int k)) (Fi (5 + 3 * k) (boxB (treeB (k + 1)))) := sp_box fun j e => ih j (by omega) n (by omega) (by omega)
  unfold m_law_row
  refine Sp.of addP_i (Sp.of asI_i ?_)
  refine Sp.draw (by omega) (by omega) fun r a b => ?_
  refine Sp.bind (P := fun m => ∃ j : Nat, m = .int j ∧ j ≤ 7) ?_ fun m hm => ?_
  · refine Sp.of eqP_i (Sp.ite (fun _ => ?_) (fun _ => Sp.ret ⟨r.toNat, by congr 1; omega, by omega⟩))
    refine Sp.draw (by decide) (by decide) fun r a b => ?_
    refine Sp.ix a (by simpa using b) fun x hx => Sp.ret ?_
    simp only [List.mem_cons, List.not_mem_nil, or_false] at hx
    rcases hx with rfl | rfl | rfl | rfl | rfl | rfl | rfl | rfl
    · exact ⟨0, rfl, by decide⟩
    · exact ⟨1, rfl, by decide⟩
    · exact ⟨2, rfl, by decide⟩
    · exact ⟨3, rfl, by decide⟩
    · exact ⟨3, rfl, by decide⟩
    · exact ⟨4, rfl, by decide⟩
    · exact ⟨5, rfl, by decide⟩
    · exact ⟨7, rfl, by decide⟩
  obtain ⟨m, rfl, hm⟩ := hm
  refine Sp.of asI_i (Sp.of (okIf_p (by omega)) ?_)
  refine Sp.foldb (fun i rows => rows.length ≤ i ∧ (rows.map hd0).Nodup ∧ ∀ x ∈ rows, Fi (6 + 3 * k) (labB (treeB (k + 1))) x) ⟨Nat.le_refl _, List.nodup_nil, fun x hx => by cases hx⟩ (fun i x rows hi ⟨h1, h2, h3⟩ => ?_) fun rows ⟨h1, h2, h3⟩ => Sp.ret ?_
  · have hi := get_rngP hi
    refine sp_label.bind fun lab hl => ?_
    refine Sp.of (okIf_p (by omega)) ?_
    obtain ⟨g1, g2⟩ := labB_hd (show rows.all (labB (treeB (k + 1))) = true from List.all_eq_true.mpr fun x hx => (h3 x hx).yes)
    refine Sp.of (a := rows.map hd0) (by simpa only [bind_some_] using heads g1) ?_
    have lk := label_key hl.fi.yes
    refine Sp.of (inP_ok (okD_of lk.2.1) (okD_lst (n := 2) (by decide) fun d hd => (label_key (g2 d hd)).2.1)) ?_
    refine Sp.ite (fun c => ?_) (fun _ => Sp.ret ⟨by omega, h2, h3⟩)
    have c : lab ∉ rows.map hd0 := fun hm => by
      rw [(eqv_in lk.2.2 fun d hd => (label_key (g2 d hd)).2.2).mpr hm] at c
      cases c
    refine box.bind fun bx hb => ?_
    refine Sp.of (by rw [appP, if_pos (by omega)]) (Sp.ret ⟨by simp; omega, ?_, fun x hx => ?_⟩)
    · rw [List.map_append, List.nodup_append]
      refine ⟨h2, by simp, fun x hx y hy e => ?_⟩
      rw [List.map_singleton, List.mem_singleton] at hy
      subst e hy
      exact c hx
    · rcases List.mem_append.mp hx with hx | hx
      · exact h3 x hx
      · rw [List.mem_singleton.mp hx]
        have := fi_tup (n := 5 + 3 * k) (p := labB (treeB (k + 1))) (ds := [lab, bx]) (by simp only [labB, hl.fi.yes, hb.yes, Bool.and_self]) (by simp) fun d hd => by
          simp only [List.mem_cons, List.not_mem_nil, or_false] at hd
          rcases hd with rfl | rfl
          · exact ⟨hl.fi.fit, Nat.le_trans hl.fi.dep (by omega)⟩
          · exact ⟨hb.fit, hb.dep⟩
        exact this.mono (by omega)
  · rw [length_rngP] at h1
    have z := fi_all (n := 6 + 3 * k) (p := labB (treeB (k + 1))) (ds := rows) (by omega) h3
    obtain ⟨g1, g2⟩ := labB_hd (show rows.all (labB (treeB (k + 1))) = true from z.yes)
    refine ⟨⟨?_, z.fit, Nat.le_trans z.dep (by omega)⟩, rows, rfl, by omega⟩
    show (rows.all (labB (treeB (k + 1))) && uniqD (rows.map hd0)) = true
    rw [show rows.all (labB (treeB (k + 1))) = true from z.yes, uniq_keys (fun d hd => ⟨(label_key (g2 d hd)).1, (label_key (g2 d hd)).2.1⟩) (by rw [List.length_map]; omega) h2]
    rfl

end

/-! ### the law's own look -/
section
/-- things of a kind are told apart by p -/
def LK (c : Nat) (k : PyData) (p : PyData → Bool) : Prop := ∀ (n : Nat) (d : PyData), c ≤ n → FitN 60 d → m_law_is n d k = some (p d)
theorem LK.mono {c c' : Nat} {k : PyData} {p : PyData → Bool} (h : LK c k p) (l : c ≤ c') : LK c' k p := fun n d hn f => h n d (by omega) f
theorem li_list {n : Nat} {d k : PyData} {p : PyData → Bool} (f : ∀ ds, d = .tuple ds → ds.length ≤ 1000) (h : ∀ ds, d = .tuple ds → ∀ x ∈ ds, m_law_is n x k = some (p x)) : m_law_is (n + 1) d (.list [k]) = some (isAllD p d) := by
  unfold m_law_is
  cases d with
  | tuple ds =>
    walk_at "pl"
    rw [okIf_len (f ds rfl), Option.bind_some, mapO_some (g := p) fun x hx => h ds rfl x hx]
    walk_at "pl"
    rw [all_id]
    rfl
  | _ => rfl
theorem LK.list {c : Nat} {k : PyData} {p : PyData → Bool} (h : LK c k p) : LK (c + 1) (.list [k]) (isAllD p) := fun n d hn f => by
  obtain ⟨n, rfl⟩ : ∃ m, n = m + 1 := ⟨n - 1, by omega⟩
  exact li_list (fun ds e => by subst e; have := f.1; omega) fun ds e x hx => h n x (by omega) (by subst e; exact f.mem hx)
/-- part by part -/
def isPartsD (ps : List (PyData → Bool)) : PyData → Bool
  | .tuple ds => decide (ds.length = ps.length) && (List.range ps.length).all fun k => (ps.getD k fun _ => false) (ds.getD k .none)
  | _ => false
theorem li_tup {n : Nat} {d : PyData} {ks : List PyData} {ps : List (PyData → Bool)} (hl : ks.length = ps.length) (hm : ks.length ≤ 1000) (h : ∀ ds, d = .tuple ds → ds.length = ks.length → ∀ i, i < ks.length → m_law_is n (ds.getD i .none) (ks.getD i .none) = some ((ps.getD i fun _ => false) (ds.getD i .none))) : m_law_is (n + 1) d (.tuple ks) = some (isPartsD ps d) := by
  unfold m_law_is
  cases d with
  | tuple ds =>
    walk_at "pl"
    simp only [isPartsD]
    by_cases e : ds.length = ks.length
    · rw [okIf_p (by omega), Option.bind_some, decide_eq_true (show (ds.length : Int) = ks.length by omega), decide_eq_true (show ds.length = ps.length by omega)]
      walk_at "pl"
      rw [rngP_nat, mapO_map, mapO_some (g := fun k => (ps.getD k fun _ => false) (ds.getD k .none)) fun k hk => ?_]
      · walk_at "pl"
        rw [all_id, hl]
      · have hk := List.mem_range.mp hk
        have e1 : ds[k]? = some (ds.getD k .none) := by rw [List.getD_eq_getElem?_getD, List.getElem?_eq_getElem (by omega)]; rfl
        have e2 : ks[k]? = some (ks.getD k .none) := by rw [List.getD_eq_getElem?_getD, List.getElem?_eq_getElem (by omega)]; rfl
        rw [show Int.ofNat k = ((k : Nat) : Int) from rfl, ixL_nat, e1, Option.bind_some, ixL_nat, e2, Option.bind_some]
        exact h ds rfl e k hk
    · rw [decide_eq_false (show ¬ (ds.length : Int) = ks.length by omega), decide_eq_false (show ¬ ds.length = ps.length by omega)]
      rfl
  | _ => rfl
theorem getD_mem {ds : List PyData} {i : Nat} (h : i < ds.length) : ds.getD i .none ∈ ds := by
  rw [List.getD_eq_getElem?_getD, List.getElem?_eq_getElem h]
  exact List.getElem_mem h
theorem LK.tup {c : Nat} {ks : List PyData} {ps : List (PyData → Bool)} (hl : ks.length = ps.length) (hm : ks.length ≤ 1000) (h : ∀ i, i < ks.length → LK c (ks.getD i .none) (ps.getD i fun _ => false)) : LK (c + 1) (.tuple ks) (isPartsD ps) := fun n d hn f => by
  obtain ⟨n, rfl⟩ : ∃ m, n = m + 1 := ⟨n - 1, by omega⟩
  exact li_tup hl hm fun ds e el i hi => h i hi n _ (by omega) (by subst e; exact f.mem (getD_mem (by omega)))
theorem LK.word {w : Str} {p : PyData → Bool} (hw : w ∈ (["name", "word", "truth", "number", "rank", "count", "key"] : List Str)) (h : ∀ d, FitN 60 d → m_law_is_small d (.str w) = some (p d)) : LK 1 (.str w) p := fun n d hn f => by
  obtain ⟨n, rfl⟩ : ∃ m, n = m + 1 := ⟨n - 1, by omega⟩
  unfold m_law_is
  have e := inP_strs (z := w) (ns := ["name", "word", "truth", "number", "rank", "count", "key"])
  rw [decide_eq_true hw] at e
  walk_at "pl"
  rw [show inP (.str w) (PyData.tuple [.str "name", .str "word", .str "truth", .str "number", .str "rank", .str "count", .str "key"]) = some true from e, h d f]
  rfl
theorem li_great {n : Nat} {d : PyData} {w : Str} (hw : w ∉ (["name", "word", "truth", "number", "rank", "count", "key"] : List Str)) : m_law_is (n + 1) d (.str w) = m_law_is_great n d (.str w) := by
  unfold m_law_is
  have e := inP_strs (z := w) (ns := ["name", "word", "truth", "number", "rank", "count", "key"])
  rw [decide_eq_false hw] at e
  walk_at "pl"
  rw [show inP (.str w) (PyData.tuple [.str "name", .str "word", .str "truth", .str "number", .str "rank", .str "count", .str "key"]) = some false from e]
  rfl
theorem LK.great {c : Nat} {w : Str} {p : PyData → Bool} (hw : w ∉ (["name", "word", "truth", "number", "rank", "count", "key"] : List Str)) (h : ∀ n d, c ≤ n → FitN 60 d → m_law_is_great n d (.str w) = some (p d)) : LK (c + 1) (.str w) p := fun n d hn f => by
  obtain ⟨n, rfl⟩ : ∃ m, n = m + 1 := ⟨n - 1, by omega⟩
  rw [li_great hw, h n d (by omega) f]
theorem small_truth (d : PyData) : m_law_is_small d (.str "truth") = some (isBool d) := by
  unfold m_law_is_small
  rw [eqP_s, show decide (("truth" : Str) = "truth") = true by decide +kernel]
  rfl
theorem eq_no {a b : Str} (h : decide (a = b) = false) : eqP (.str a) (.str b) = some false := by rw [eqP_s, h]
theorem eq_yes {a : Str} : eqP (.str a) (.str a) = some true := by rw [eqP_s, decide_eq_true rfl]
theorem small_name {d : PyData} (f : FitN 60 d) : m_law_is_small d (.str "name") = some (isNameD d) := by
  unfold m_law_is_small
  rw [eq_no (by decide +kernel), eq_yes, eq_no (a := "name") (b := "word") (by decide +kernel)]
  have h := f.f
  cases d with
  | str x =>
    have lx := h.txt
    have e : lenP (.str x) = some (x.length : Int) := by rw [lenP, if_pos (sizeLine_le (by omega))]
    have ec : x.cps.toList.length = x.length := rfl
    simp only [isNameD, e]
    walk_at "pl"
    rw [show seqP (.str x) = some (x.cps.toList.map fun c => .str ⟨#[c]⟩) from rfl, Option.bind_some, List.length_map, okIf_len (by omega), Option.bind_some, signs_in]
    walk_at "pl"
    rw [all_id]
    congr 1
    have e : (decide ((1 : Int) ≤ x.length) && decide ((x.length : Int) ≤ 8)) = (decide (1 ≤ x.length) && decide (x.length ≤ 8)) := by
      rw [Bool.eq_iff_iff]
      simp
      omega
    rw [e]
    rfl
  | _ => rfl
theorem small_word (d : PyData) : m_law_is_small d (.str "word") = some (isWordD d) := by
  unfold m_law_is_small
  rw [eq_no (by decide +kernel), eq_no (b := "name") (by decide +kernel), eq_yes]
  cases d with
  | str x =>
    walk_at "pl"
    rw [word_in]
  | _ => rfl
theorem small_num {w : Str} {lo hi : Int} {d : PyData} (h1 : decide (w = "truth") = false) (h2 : decide (w = "name") = false) (h3 : decide (w = "word") = false) (hb : ((atF ([(Leaf.text "rank", (PyData.tuple [(PyData.int (1 : Int)), (PyData.int (3 : Int))])), (Leaf.text "count", (PyData.tuple [(PyData.int (0 : Int)), (PyData.int ((10 : Int) ^ 60))]))]) (.text w)).getD (PyData.tuple [(PyData.int (-(1000000000 : Int))), (PyData.int (1000000000 : Int))])) = .tuple [.int lo, .int hi]) : m_law_is_small d (.str w) = some ((decide (w = "key") && isNonD d) || (match d with | .int i => decide (lo ≤ i) && decide (i ≤ hi) | _ => false)) := by
  unfold m_law_is_small
  rw [eq_no h1, eq_no h2, eq_no h3, eqP_s]
  simp only [lfP, Option.bind_some]
  rw [hb]
  simp only [tup2]
  cases d with
  | int i =>
    walk_at "pl"
  | none =>
    walk_at "pl"
  | _ =>
    walk_at "pl"
theorem atF_no {kvs : Lfs} {k : Leaf} (h : ∀ kv ∈ kvs, kv.1 ≠ k) : atF kvs k = none := by
  unfold atF
  rw [List.find?_eq_none.mpr fun kv hk => by simpa using h kv hk]
  rfl
theorem small_number (d : PyData) : m_law_is_small d (.str "number") = some (isNumD d) := by
  rw [small_num (lo := -1000000000) (hi := 1000000000) (by decide +kernel) (by decide +kernel) (by decide +kernel) (by rw [atF_no (by simp [ofString_inj])]; rfl), show decide (("number" : Str) = "key") = false by decide +kernel]
  cases d <;> rfl
theorem small_key (d : PyData) : m_law_is_small d (.str "key") = some (isNonD d || isNumD d) := by
  rw [small_num (lo := -1000000000) (hi := 1000000000) (by decide +kernel) (by decide +kernel) (by decide +kernel) (by rw [atF_no (by simp [ofString_inj])]; rfl), show decide (("key" : Str) = "key") = true by decide +kernel]
  cases d <;> rfl
theorem small_rank (d : PyData) : m_law_is_small d (.str "rank") = some (isRankD d) := by
  rw [small_num (lo := 1) (hi := 3) (by decide +kernel) (by decide +kernel) (by decide +kernel) (by simp [atF]), show decide (("rank" : Str) = "key") = false by decide +kernel]
  cases d <;> rfl
theorem small_count {d : PyData} (f : FitN 60 d) : m_law_is_small d (.str "count") = some (isCountD d) := by
  rw [small_num (lo := 0) (hi := 10 ^ 60) (by decide +kernel) (by decide +kernel) (by decide +kernel) (by simp [atF, ofString_inj]), show decide (("count" : Str) = "key") = false by decide +kernel]
  cases d with
  | int i =>
    have hi : i ≤ 10 ^ 60 := f
    simp only [isCountD, Bool.false_and, Bool.false_or, decide_eq_true hi, Bool.and_true]
  | _ => rfl
theorem lk_key : LK 1 (.str "key") (fun d => isNonD d || isNumD d) := .word (by simp) fun d _ => small_key d
theorem lk_count : LK 1 (.str "count") isCountD := .word (by simp) fun d f => small_count f
theorem lk_name : LK 1 (.str "name") isNameD := .word (by simp) fun d f => small_name f
theorem lk_word : LK 1 (.str "word") isWordD := .word (by simp) fun d f => small_word d
theorem lk_number : LK 1 (.str "number") isNumD := .word (by simp) fun d f => small_number d
theorem lk_rank : LK 1 (.str "rank") isRankD := .word (by simp) fun d f => small_rank d
theorem lk_truth : LK 1 (.str "truth") isBool := .word (by simp) fun d f => small_truth d
theorem LK.congr {c : Nat} {k : PyData} {p q : PyData → Bool} (h : LK c k p) (e : ∀ d, p d = q d) : LK c k q := fun n d hn f => by rw [h n d hn f, e]
theorem parts2 {p q : PyData → Bool} (d : PyData) : isPartsD [p, q] d = match d with | .tuple [a, b] => p a && q b | _ => false := by
  cases d with
  | tuple ds =>
    match ds with
    | [] => rfl
    | [_] => rfl
    | [a, b] => simp [isPartsD, List.range_succ, Bool.and_assoc]
    | _ :: _ :: _ :: _ => simp [isPartsD]
  | _ => rfl
theorem lk_spot : LK 2 (.tuple [.str "key", .str "count"]) isSpotD := (LK.tup (ps := [fun d => isNonD d || isNumD d, isCountD]) rfl (by decide) fun i hi => by
  match i, hi with
  | 0, _ => exact lk_key
  | 1, _ => exact lk_count).congr fun d => by rw [parts2]; rfl
theorem lk_path : LK 3 (.list [.tuple [.str "key", .str "count"]]) (isAllD isSpotD) := lk_spot.list
theorem eq_nilT {ds : List PyData} (h : Lay 2 (.tuple ds)) : eqP (.tuple ds) (.tuple []) = some ds.isEmpty := by
  rw [eqP_ok (okD_of h) (okD_of (lay_tup (n := 0) (by simp))), eqv_nilT]
theorem lk_label : LK 5 (.str "label") isLabelD := .great (by simp [ofString_inj]) fun n d hn f => by
  obtain ⟨n, rfl⟩ : ∃ m, n = m + 1 := ⟨n - 1, by omega⟩
  unfold m_law_is_great
  rw [eq_yes, lk_path n d (by omega) f]
  cases d with
  | tuple ds =>
    simp only [isAllD, isLabelD]
    cases e : ds.all isSpotD with
    | false => rfl
    | true =>
      rw [eq_nilT (path_key e).2.1]
      cases ds <;> rfl
  | _ => rfl
theorem all_parts {p q : PyData → Bool} (h : ∀ d, p d = q d) (d : PyData) : isAllD p d = isAllD q d := by rw [show p = q from funext h]
theorem lk_sets : LK 5 (.str "sets") isSetsD := .great (by simp [ofString_inj]) fun n d hn f => by
  obtain ⟨n, rfl⟩ : ∃ m, n = m + 1 := ⟨n - 1, by omega⟩
  unfold m_law_is_great
  have st : LK 2 (.tuple [.str "name", .str "number"]) isSettingD := (LK.tup (ps := [isNameD, isNumD]) rfl (by decide) fun i hi => by
    match i, hi with
    | 0, _ => exact lk_name
    | 1, _ => exact lk_number).congr fun d => by rw [parts2]; rfl
  rw [eq_no (by decide +kernel), eq_yes, st.list n d (by omega) f]
  cases d with
  | tuple ds =>
    simp only [isAllD, isSetsD]
    cases e : ds.all isSettingD with
    | false => rfl
    | true =>
      have f1 := f.1
      walk_at "pl"
      rw [okIf_p (by omega), Option.bind_some, asc_law e]
      walk_at "pl"
      rw [all_id]
      rfl
  | _ => rfl
theorem parts3 {p q r : PyData → Bool} (d : PyData) : isPartsD [p, q, r] d = match d with | .tuple [a, b, c] => p a && q b && r c | _ => false := by
  cases d with
  | tuple ds =>
    match ds with
    | [] => rfl
    | [_] => rfl
    | [_, _] => rfl
    | [a, b, c] => simp [isPartsD, List.range_succ, Bool.and_assoc]
    | _ :: _ :: _ :: _ :: _ => simp [isPartsD]
  | _ => rfl
theorem parts4 {p q r s : PyData → Bool} (d : PyData) : isPartsD [p, q, r, s] d = match d with | .tuple [a, b, c, e] => p a && q b && r c && s e | _ => false := by
  cases d with
  | tuple ds =>
    match ds with
    | [] => rfl
    | [_] => rfl
    | [_, _] => rfl
    | [_, _, _] => rfl
    | [a, b, c, e] => simp [isPartsD, List.range_succ, Bool.and_assoc]
    | _ :: _ :: _ :: _ :: _ :: _ => simp [isPartsD]
  | _ => rfl
theorem parts5 {p q r s t : PyData → Bool} (d : PyData) : isPartsD [p, q, r, s, t] d = match d with | .tuple [a, b, c, e, f] => p a && q b && r c && s e && t f | _ => false := by
  cases d with
  | tuple ds =>
    match ds with
    | [] => rfl
    | [_] => rfl
    | [_, _] => rfl
    | [_, _, _] => rfl
    | [_, _, _, _] => rfl
    | [a, b, c, e, f] => simp [isPartsD, List.range_succ, Bool.and_assoc]
    | _ :: _ :: _ :: _ :: _ :: _ :: _ => simp [isPartsD]
  | _ => rfl
theorem isPath_all (d : PyData) : isAllD isSpotD d = isPathD d := by cases d <;> rfl
theorem lk_hands : LK 7 (.str "hands") isHandsD := .great (by simp [ofString_inj]) fun n d hn f => by
  obtain ⟨n, rfl⟩ : ∃ m, n = m + 1 := ⟨n - 1, by omega⟩
  unfold m_law_is_great
  have hc : LK 2 (.tuple [.str "name", .str "word", .str "number"]) isHandChD := (LK.tup (ps := [isNameD, isWordD, isNumD]) rfl (by decide) fun i hi => by
    match i, hi with
    | 0, _ => exact lk_name
    | 1, _ => exact lk_word
    | 2, _ => exact lk_number).congr fun d => by rw [parts3]; rfl
  have hh : LK 4 (.tuple [.str "name", .str "rank", .str "truth", .list [.tuple [.str "key", .str "count"]], .list [.tuple [.str "name", .str "word", .str "number"]]]) isHandD := (LK.tup (ps := [isNameD, isRankD, isBool, isAllD isSpotD, isAllD isHandChD]) rfl (by decide) fun i hi => by
    match i, hi with
    | 0, _ => exact lk_name.mono (by decide)
    | 1, _ => exact lk_rank.mono (by decide)
    | 2, _ => exact lk_truth.mono (by decide)
    | 3, _ => exact lk_path
    | 4, _ => exact hc.list).congr fun d => by
      rw [parts5]
      unfold isHandD
      split <;> first | (rw [isPath_all]) | rfl
  rw [eq_no (by decide +kernel), eq_no (b := "sets") (by decide +kernel), eq_yes, hh.list n d (by omega) f]
  cases d with
  | tuple ds =>
    simp only [isAllD, isHandsD]
    cases e : ds.all isHandD with
    | false => rfl
    | true =>
      have f1 := f.1
      have hs : ∀ d ∈ ds, ∃ x r, d = .tuple (.str x :: r) := fun d hd => hand_of (List.all_eq_true.mp e d hd)
      have sl := setLen_strs (strs_hd hs) (by rw [List.length_map]; omega)
      walk_at "pl"
      rw [okIf_len (by omega), Option.bind_some, heads (fun d hd => by obtain ⟨x, r, z⟩ := hs d hd; exact ⟨_, r, z⟩)]
      walk_at "pl"
      rw [sl, Option.bind_some, ← uniq_some sl, List.length_map]
  | _ => rfl
theorem law_tree : ∀ (k : Nat) {d : PyData} {n : Nat}, FitN 60 d → d.depth ≤ 3 * k → 7 * k + 20 ≤ n → m_law_is n d (.str "tree") = some (treeB (k + 1) d) := by
  intro k
  induction k with
  | zero =>
    intro d n f hd hn
    obtain ⟨n, rfl⟩ : ∃ m, n = m + 3 := ⟨n - 3, by omega⟩
    rw [li_great (by simp [ofString_inj])]
    unfold m_law_is_great
    rw [eq_no (by decide +kernel), eq_no (b := "sets") (by decide +kernel), eq_no (b := "hands") (by decide +kernel), eq_no (b := "box") (by decide +kernel), eq_yes, li_list (p := fun _ => false) (fun ds e => by subst e; have := f.1; omega) fun ds e x hx => by subst e; simp [PyData.depth] at hd]
    cases d with
    | tuple ds => simp [PyData.depth] at hd
    | _ => rfl
  | succ k ih =>
    intro d n f hd hn
    obtain ⟨n, rfl⟩ : ∃ m, n = m + 7 := ⟨n - 7, by omega⟩
    rw [li_great (by simp [ofString_inj])]
    unfold m_law_is_great
    have lab : ∀ ds, d = .tuple ds → ∀ x ∈ ds, m_law_is (n + 4) x (.tuple [.str "label", .str "box"]) = some (labB (treeB (k + 1)) x) := fun ds e x hx => by
      subst e
      have fx := f.mem hx
      have dx := depth_tup hd hx
      rw [li_tup (ps := [isLabelD, boxB (treeB (k + 1))]) rfl (by decide) fun es e el i hi => ?_, parts2]
      · cases x <;> rfl
      · subst e
        match i, hi with
        | 0, _ => exact lk_label _ _ (by omega) (fx.mem (getD_mem (by rw [el]; decide)))
        | 1, _ =>
          have m1 := getD_mem (ds := es) (i := 1) (by rw [el]; decide)
          have fb := fx.mem m1
          have db := depth_tup (k := 3 * k + 2) (by omega : (PyData.tuple es).depth ≤ 3 * k + 2) m1
          generalize es.getD 1 .none = b at fb db
          show m_law_is (n + 3) b (.str "box") = some (boxB (treeB (k + 1)) b)
          rw [li_great (by simp [ofString_inj])]
          unfold m_law_is_great
          rw [eq_no (by decide +kernel), eq_no (b := "sets") (by decide +kernel), eq_no (b := "hands") (by decide +kernel), eq_yes, li_tup (ps := [isNameD, isSetsD, isHandsD, treeB (k + 1)]) rfl (by decide) fun gs e gl i hi => ?_, parts4]
          · cases b <;> rfl
          · subst e
            match i, hi with
            | 0, _ => exact lk_name _ _ (by omega) (fb.mem (getD_mem (by rw [gl]; decide)))
            | 1, _ => exact lk_sets _ _ (by omega) (fb.mem (getD_mem (by rw [gl]; decide)))
            | 2, _ => exact lk_hands _ _ (by omega) (fb.mem (getD_mem (by rw [gl]; decide)))
            | 3, _ =>
              have m3 := getD_mem (ds := gs) (i := 3) (by rw [gl]; decide)
              have dr := depth_tup (k := 3 * k + 1) (by omega : (PyData.tuple gs).depth ≤ 3 * k + 1) m3
              exact ih (fb.mem m3) (by omega) (by omega)
    rw [eq_no (by decide +kernel), eq_no (b := "sets") (by decide +kernel), eq_no (b := "hands") (by decide +kernel), eq_no (b := "box") (by decide +kernel), eq_yes, li_list (fun ds e => by subst e; have := f.1; omega) lab]
    cases d with
    | tuple ds =>
      have f1 := f.1
      show _ = some (ds.all (labB (treeB (k + 1))) && uniqD (ds.map hd0))
      simp only [isAllD]
      cases e : ds.all (labB (treeB (k + 1))) with
      | false => rfl
      | true =>
        walk_at "pl"
        rw [okIf_len (by omega), Option.bind_some]
        exact row_uniq f1 e
    | _ => rfl
end
/-! ### bent, the law -/
section
theorem cut_fit {N : Nat} {ds : List PyData} {lo hi : Option Int} (f : FitN N (.tuple ds)) : ∀ x ∈ cutA ds lo hi, FitN N x := fun x hx => f.mem (cutA_mem hx)
structure FD (N D : Nat) (d : PyData) : Prop where
  fit : FitN N d
  dep : d.depth ≤ D
theorem fd_tup {N D : Nat} {ds : List PyData} (hl : ds.length ≤ N) (h : ∀ d ∈ ds, FD N D d) : FD N (D + 1) (.tuple ds) := ⟨fit_tup hl fun d hd => (h d hd).1, dep_of fun d hd => (h d hd).2⟩
theorem FD.mem {N D : Nat} {ds : List PyData} (h : FD N (D + 1) (.tuple ds)) {d : PyData} (m : d ∈ ds) : FD N D d := ⟨h.1.mem m, by have := depth_tup h.2 m; omega⟩
theorem FD.mono {N M D G : Nat} {d : PyData} (h : FD N D d) (l : N ≤ M) (k : D ≤ G) : FD M G d := ⟨h.1.mono l, Nat.le_trans h.2 k⟩
theorem fd_cut {N D : Nat} {ds : List PyData} {lo hi : Option Int} (h : FD N (D + 1) (.tuple ds)) : FD N (D + 1) (.tuple (cutA ds lo hi)) := fd_tup (Nat.le_trans cutA_len h.1.1) fun d hd => h.mem (cutA_mem hd)
theorem fd_app {N M D : Nat} {ds es : List PyData} (h : FD N (D + 1) (.tuple ds)) (g : FD M (D + 1) (.tuple es)) : FD (N + M) (D + 1) (.tuple (ds ++ es)) := fd_tup (by rw [List.length_append]; have := h.1.1; have := g.1.1; omega) fun d hd => by
  rcases List.mem_append.mp hd with hd | hd
  · exact (h.mem hd).mono (by omega) (Nat.le_refl _)
  · exact (g.mem hd).mono (by omega) (Nat.le_refl _)
theorem fd_list {N D : Nat} {ds : List PyData} (h : FD N D (.tuple ds)) : FD N D (.list ds) := ⟨h.1, h.2⟩
def oddA : List PyData := [PyData.none, (PyData.bool true), (PyData.bool false), (PyData.int (0 : Int)), (PyData.int (1 : Int)), (PyData.int (2 : Int)), (PyData.int (3 : Int)), (PyData.int (4 : Int)), (PyData.int (-(1 : Int))), (PyData.int (1000000000 : Int)), (PyData.int ((1000000000 : Int) + (1 : Int))), (PyData.int ((-(1000000000 : Int)) - (1 : Int))), (PyData.int (1000000000000 : Int)), (PyData.str ("" : Str)), (PyData.str ("a" : Str)), (PyData.str ("ab" : Str)), (PyData.str ("A" : Str))]
def oddB : List PyData := [(PyData.str ("a1" : Str)), (PyData.str ("abcdefgh" : Str)), (PyData.str ("abcdefghi" : Str)), (PyData.str ("set" : Str)), (PyData.str ("times" : Str)), (PyData.str ("Set" : Str)), (PyData.str ("put" : Str)), (PyData.tuple []), (PyData.list []), (PyData.dict []), (PyData.str ("take" : Str)), (PyData.str ("a b" : Str))]
theorem str_fd {x : Str} (h : x.length ≤ 1000) : FD 2 2 (.str x) := ⟨h, by simp [PyData.depth]⟩
theorem int_fd {i : Int} (h : i ≤ 10 ^ 60) : FD 2 2 (.int i) := ⟨h, by simp [PyData.depth]⟩
theorem nest_fd : FD 2 2 (.tuple [.tuple [.none, .int 0]]) := fd_tup (N := 2) (D := 1) (by simp) fun d hd => by
  rw [List.mem_singleton.mp hd]
  refine fd_tup (N := 2) (D := 0) (by simp) fun d hd => ?_
  simp only [List.mem_cons, List.not_mem_nil, or_false] at hd
  rcases hd with rfl | rfl
  · exact ⟨trivial, by simp [PyData.depth]⟩
  · exact ⟨by show (0 : Int) ≤ 10 ^ 60; decide, by simp [PyData.depth]⟩
theorem odd_fd : ∀ x ∈ oddA ++ oddB ++ [PyData.tuple [.tuple [.none, .int 0]]], FD 2 2 x := by
  simp only [oddA, oddB, List.cons_append, List.nil_append, List.forall_mem_cons]
  repeat' apply And.intro
  all_goals first
    | exact str_fd (by decide +kernel)
    | exact int_fd (by decide)
    | exact ⟨trivial, by simp [PyData.depth, PyData.depthKv]⟩
    | (intro x hx; cases hx)
    | exact nest_fd
    | exact (fd_tup (N := 2) (D := 0) (by simp) (by simp)).mono (Nat.le_refl _) (by decide)
    | exact fd_list ((fd_tup (N := 2) (D := 0) (by simp) (by simp)).mono (Nat.le_refl _) (by decide))
theorem sp_bent : ∀ (n : Nat) {d : PyData} {N D : Nat}, FD N D d → 1 ≤ N → N ≤ 60 → d.depth < n → Sp (m_law_bent n d) (FD (2 * N) (D + 2)) := by
  intro n
  induction n with
  | zero => intro d N D h _ _ hn; omega
  | succ n ih =>
    intro d N D h hN hN2 hn
    unfold m_law_bent
    refine Sp.bind (P := fun b => b = true → ∃ ds, d = .tuple ds ∧ 0 < ds.length) ?_ fun b hb => ?_
    · refine Sp.bind (P := fun b => b = true → isTup d = true) (Sp.ret id) fun b hb => ?_
      refine Sp.ite (fun c => ?_) (fun _ => Sp.ret fun h => nomatch h)
      have ht := hb c
      cases d with
      | tuple ds =>
        refine Sp.bind (P := fun b => b = true → 0 < ds.length) (Sp.of lenP_t (Sp.ret fun h => by have := of_decide_eq_true h; omega)) fun b hb => ?_
        refine Sp.ite (fun c => ?_) (fun _ => Sp.ret fun h => nomatch h)
        exact Sp.draw (by decide) (by decide) fun r _ _ => Sp.ret fun _ => ⟨ds, rfl, hb c⟩
      | _ => cases ht
    refine Sp.ite (fun c => ?_) (fun _ => ?_)
    · obtain ⟨ds, rfl, hl⟩ := hb c
      have f1 := h.1.1
      obtain ⟨D, rfl⟩ : ∃ E, D = E + 1 := ⟨D - 1, by have := h.2; simp only [PyData.depth] at this; omega⟩
      refine Sp.of lenP_t (Sp.draw (by omega) (by omega) fun r a b => ?_)
      refine Sp.of (a := .tuple (cutA ds none (some r))) rfl ?_
      obtain ⟨x, e, hx⟩ := ixL_in (xs := ds) a b
      refine Sp.of (a := x) e ?_
      have dx := depth_tup (Nat.le_refl _) hx
      refine (ih (h.mem hx) hN hN2 (by omega)).bind fun y hy => ?_
      have l1 : (cutA ds none (some r)).length ≤ ds.length := cutA_len
      have l2 : (cutA ds (some (r + 1)) none).length ≤ ds.length := cutA_len
      refine Sp.of (addP_t (by simp; omega)) (Sp.of (a := .tuple (cutA ds (some (r + 1)) none)) rfl (Sp.of (addP_t (by simp; omega)) (Sp.ret ?_)))
      have l3 : (cutA ds none (some r)).length + (cutA ds (some (r + 1)) none).length + 1 ≤ ds.length := by
        obtain ⟨k, rfl⟩ : ∃ k : Nat, r = k := ⟨r.toNat, by omega⟩
        rw [cutA_take, show (k : Int) + 1 = ((k + 1 : Nat) : Int) by simp, cutA_drop, List.length_take, List.length_drop]
        omega
      refine (fd_tup (N := 2 * N) (D := D + 2) (by simp; omega) fun z hz => ?_).mono (Nat.le_refl _) (by omega)
      rcases List.mem_append.mp hz with hz | hz
      · rcases List.mem_append.mp hz with hz | hz
        · exact (h.mem (cutA_mem hz)).mono (by omega) (by omega)
        · rw [List.mem_singleton.mp hz]; exact hy
      · exact (h.mem (cutA_mem hz)).mono (by omega) (by omega)
    · refine Sp.ite (fun c => ?_) (fun _ => ?_)
      · cases d with
        | tuple ds =>
          have f1 := h.1.1
          obtain ⟨D, rfl⟩ : ∃ E, D = E + 1 := ⟨D - 1, by have := h.2; simp only [PyData.depth] at this; omega⟩
          refine Sp.of seqT_t (Sp.of (a := .tuple (cutA ds none (some 1))) rfl ?_)
          have l1 : ∀ lo hi, (cutA ds lo hi).length ≤ ds.length := fun lo hi => cutA_len
          refine Sp.of (addP_t (by have := l1 none (some 1); omega)) (Sp.of (a := .tuple (cutA ds (some 1) none)) rfl (Sp.of (a := .tuple ds.reverse) rfl ?_))
          refine Sp.of (addP_t (by simp; omega)) (Sp.of (a := .tuple (cutA ds (some (-1)) none)) rfl (Sp.of (a := .tuple (cutA ds none (some (-1)))) rfl ?_))
          refine Sp.of (addP_t (by have := l1 none (some (-1)); have := l1 (some (-1)) none; omega)) (Sp.of (by rw [catP, if_pos (by simp)]) ?_)
          refine Sp.draw (by decide) (by decide) fun r a b => ?_
          refine Sp.ix a (by simpa using b) fun x hx => Sp.ret ?_
          have g : FD N (D + 3) (.tuple ds) := h.mono (Nat.le_refl _) (by omega)
          have em : FD N (D + 3) (.tuple []) := fd_tup (by simp) (by simp)
          simp only [List.cons_append, List.nil_append, List.mem_cons, List.not_mem_nil, or_false] at hx
          rcases hx with rfl | rfl | rfl | rfl | rfl | rfl | rfl | rfl
          · exact (fd_list g).mono (by omega) (by omega)
          · exact (fd_app g (fd_cut g)).mono (by omega) (by omega)
          · exact (fd_cut g).mono (by omega) (by omega)
          · exact (fd_tup (by simpa using f1) fun d hd => g.mem (List.mem_reverse.mp hd)).mono (by omega) (by omega)
          · exact em.mono (by omega) (by omega)
          · exact ⟨trivial, by simp [PyData.depth]⟩
          · refine (fd_app g (M := 1) (fd_tup (by simp) fun d hd => ?_)).mono (by omega) (by omega)
            rw [List.mem_singleton.mp hd]
            exact ⟨by show (7 : Int) ≤ 10 ^ 60; decide, by simp [PyData.depth]⟩
          · exact (fd_app (fd_cut g) (fd_cut g)).mono (by omega) (by omega)
        | _ => cases c
      · refine Sp.of (a := oddA ++ oddB) (by rw [catP, if_pos (by simp)]; rfl) (Sp.of (a := oddA ++ oddB ++ [.tuple [.tuple [.none, .int 0]]]) (by rw [appP, if_pos (by decide)]) ?_)
        refine Sp.draw (by decide) (by decide) fun r a b => ?_
        exact Sp.ix a (by simpa [oddA, oddB] using b) fun x hx => Sp.ret ((odd_fd x hx).mono (by omega) (by omega))
theorem forO_nx {α ρ σ : Type} {f : α → σ → Option (Fl ρ σ)} {s : σ} : ∀ {xs : List α}, (∀ x ∈ xs, f x s = some (.nx s)) → forO f xs s = some (.nx s)
  | [], _ => rfl
  | x :: r, h => by
    rw [forO, h x (.head _), Option.bind_some]
    exact forO_nx fun y hy => h y (.tail _ hy)
theorem ddS_append {α : Type} [DecidableEq α] : ∀ (xs ys acc : List α), ddS acc (xs ++ ys) = ddS (ddS acc xs) ys
  | [], _, _ => rfl
  | x :: r, ys, acc => by rw [List.cons_append, ddS, ddS, ddS_append r ys]
theorem ddS_keep {α : Type} [DecidableEq α] : ∀ (xs acc : List α) {x : α}, x ∈ acc → x ∈ ddS acc xs
  | [], _, _, h => h
  | y :: r, acc, x, h => by
    rw [ddS]
    refine ddS_keep r _ ?_
    split
    · exact h
    · exact List.mem_append_left _ h
theorem ddS_mem {α : Type} [DecidableEq α] : ∀ (xs acc : List α) {x : α}, x ∈ xs → x ∈ ddS acc xs
  | y :: r, acc, x, h => by
    rw [ddS]
    rcases List.mem_cons.mp h with rfl | h
    · refine ddS_keep r _ ?_
      split
      · assumption
      · exact List.mem_append_right _ (by simp)
    · exact ddS_mem r _ h
theorem ddS_all {α : Type} [DecidableEq α] : ∀ (xs acc : List α), (∀ x ∈ xs, x ∈ acc) → ddS acc xs = acc
  | [], _, _ => rfl
  | y :: r, acc, h => by
    rw [ddS, if_pos (h y (.head _))]
    exact ddS_all r acc fun x hx => h x (.tail _ hx)
theorem ddS_len {α : Type} [DecidableEq α] : ∀ (xs acc : List α), (ddS acc xs).length ≤ acc.length + xs.length
  | [], _ => by simp [ddS]
  | y :: r, acc => by
    rw [ddS, List.length_cons]
    by_cases h : y ∈ acc
    · rw [if_pos h]
      have := ddS_len r acc
      omega
    · rw [if_neg h]
      have := ddS_len r (acc ++ [y])
      rw [List.length_append, List.length_singleton] at this
      omega
theorem ddS_twice {α : Type} [DecidableEq α] (xs : List α) : (ddS [] (xs ++ xs)).length ≤ xs.length := by
  rw [ddS_append, ddS_all xs _ fun x hx => ddS_mem xs [] hx]
  simpa using ddS_len xs []
theorem twice_not {ds : List PyData} (h : ∀ d ∈ ds, numKeyB d = true) (hl : ds ≠ []) : uniqD (ds ++ ds) = false := by
  unfold uniqD setLenP
  cases ds with
  | nil => exact absurd rfl hl
  | cons d r =>
    have hd : isStrsB (d :: r ++ d :: r) = false := by
      have := h d (.head _)
      simp only [numKeyB, Bool.and_eq_true] at this
      cases d with
      | tuple xs => rfl
      | _ => exact absurd this.2 (by simp [isTup])
    rw [hd, Bool.false_and, if_neg Bool.false_ne_true]
    split
    · rename_i z hz
      split at hz
      · cases hz
        have := ddS_twice ((d :: r).map nk)
        rw [← List.map_append] at this
        simp only [List.length_map, List.length_cons] at this
        refine decide_eq_false fun e => ?_
        simp only [List.length_append, List.length_cons] at e
        omega
      · cases hz
    · rfl
/-- what is asked is so -/
theorem asked {d : PyData} {b : Bool} (h : m_is_tree 60 d = some b) : m_law_asked d (.bool b) = some true := by
  unfold m_law_asked
  rw [h]
  walk_at "pl"
  rw [eqP_ok (okD_of (lay_bool 0 b)) (okD_of (lay_bool 0 b))]
  simp [PyData.eqv]
def oddC : List PyData := [PyData.none, (PyData.int (0 : Int)), (PyData.bool true), (PyData.str ("" : Str)), (PyData.list []), (PyData.dict []), (PyData.tuple [PyData.none]), (PyData.tuple [(PyData.tuple [])]), (PyData.tuple [(PyData.tuple [(PyData.tuple []), (PyData.tuple [])])]), (PyData.list [(PyData.tuple [(PyData.tuple [(PyData.tuple [(PyData.tuple [PyData.none, (PyData.int (0 : Int))])])])])])]
theorem law_holds (ns : List Int) (_ : ns.length ≤ 63) : m_law ns (fun b => b = true) := by
  refine Sp.run ?_
  unfold m_law
  refine (sp_row 2 60 (by decide) (by decide)).bind fun t ht => ?_
  obtain ⟨⟨y, f, dp⟩, ds, rfl, hl⟩ := ht
  have up : treeB 7 (.tuple ds) = true := treeB_up (treeB_up (treeB_up y))
  have a1 := asked (pl_is_tree 6 (f.mono (by decide)) (Nat.le_trans dp (by decide)) (by decide))
  rw [up] at a1
  have a2 : m_law_asked (.tuple []) (.bool true) = some true := asked (pl_is_tree 6 (d := .tuple []) (fit_tup (by simp) (by simp)) (by simp [PyData.depth, PyData.depthAll]) (by decide))
  rw [a1, a2]
  refine Sp.of rfl (Sp.ite (fun c => nomatch c) fun _ => ?_)
  refine Sp.of (okIf_p (by decide)) ?_
  refine Sp.forb (fun _ _ => True) (fun b => b = true) trivial (fun i x s _ _ => ?_) (fun r h => Sp.ret h) fun s _ => ?_
  · refine Sp.draw (by decide) (by decide) fun r a b => ?_
    refine Sp.of (okIf_p (by omega)) ?_
    refine Sp.foldb (fun i d => FD (12 * 2 ^ i) (13 + 2 * i) d ∧ i ≤ 2) ⟨⟨f, dp⟩, by decide⟩ (fun i x d hx ⟨h, hi⟩ => ?_) fun d ⟨h, hi⟩ => ?_
    · have := get_rngP hx
      have i1 : i ≤ 1 := by omega
      refine (sp_bent 60 h (by rcases (by omega : i = 0 ∨ i = 1) with rfl | rfl <;> decide) (by rcases (by omega : i = 0 ∨ i = 1) with rfl | rfl <;> decide) (by have := h.2; omega)).bind fun e he => Sp.ret ⟨he.mono (by rw [Nat.pow_succ]; omega) (by omega), by omega⟩
    · have h : FD 60 18 d := by
        generalize (rngP (1 + r / 2)).length = j at h hi
        rcases (by omega : j = 0 ∨ j = 1 ∨ j = 2) with rfl | rfl | rfl <;> exact h.mono (by decide) (by decide)
      refine Sp.of (law_tree 6 h.1 h.2 (by decide)) (Sp.of (asked (pl_is_tree 6 h.1 h.2 (by decide))) ?_)
      exact Sp.ite (fun c => nomatch c) fun _ => Sp.ret trivial
  · refine Sp.of (a := .nx ()) (forO_nx fun x hx => ?_) ?_
    · have key : ∀ x ∈ oddC, FD 60 18 x ∧ treeB 7 x = false := by
        simp only [oddC, List.forall_mem_cons]
        refine ⟨⟨⟨trivial, by simp [PyData.depth]⟩, rfl⟩, ⟨(int_fd (by decide)).mono (by decide) (by decide), rfl⟩, ⟨⟨trivial, by simp [PyData.depth]⟩, rfl⟩, ⟨(str_fd (by decide +kernel)).mono (by decide) (by decide), rfl⟩, ⟨(fd_list (fd_tup (N := 2) (D := 0) (by simp) (by simp))).mono (by decide) (by decide), rfl⟩, ⟨⟨trivial, by simp [PyData.depth, PyData.depthKv]⟩, rfl⟩, ⟨?_, rfl⟩, ⟨?_, rfl⟩, ⟨?_, rfl⟩, ⟨?_, rfl⟩, fun x hx => by cases hx⟩
        · refine fd_tup (N := 60) (D := 17) (by simp) fun d hd => ?_
          rw [List.mem_singleton.mp hd]
          exact ⟨trivial, by simp [PyData.depth]⟩
        · refine fd_tup (N := 60) (D := 17) (by simp) fun d hd => ?_
          rw [List.mem_singleton.mp hd]
          exact (fd_tup (N := 2) (D := 0) (by simp) (by simp)).mono (by decide) (by decide)
        · refine fd_tup (N := 60) (D := 17) (by simp) fun d hd => ?_
          rw [List.mem_singleton.mp hd]
          refine fd_tup (N := 60) (D := 16) (by simp) fun d hd => ?_
          have : d = .tuple [] := by simpa using hd
          rw [this]
          exact (fd_tup (N := 2) (D := 0) (by simp) (by simp)).mono (by decide) (by decide)
        · refine fd_list (fd_tup (N := 60) (D := 17) (by simp) fun d hd => ?_)
          rw [List.mem_singleton.mp hd]
          refine fd_tup (N := 60) (D := 16) (by simp) fun d hd => ?_
          rw [List.mem_singleton.mp hd]
          refine fd_tup (N := 60) (D := 15) (by simp) fun d hd => ?_
          rw [List.mem_singleton.mp hd]
          exact nest_fd.mono (M := 60) (G := 15) (by decide) (by decide)
      obtain ⟨h, e⟩ := key x hx
      have := asked (pl_is_tree 6 h.1 h.2 (by decide))
      rw [e] at this
      rw [this]
      rfl
    · have f2 : FD 60 18 (.tuple (ds ++ ds)) := (fd_app (N := 12) (M := 12) (D := 17) ⟨f, Nat.le_trans dp (by decide)⟩ ⟨f, Nat.le_trans dp (by decide)⟩).mono (by decide) (by decide)
      have l2 : Lay 13 (.tuple ds) := ⟨cl_tree _ up, dp⟩
      refine Sp.of (addP_t (by omega)) (Sp.of (eqP_ok (okD_of l2) (okD_of (lay_tup (n := 0) (by simp)))) ?_)
      rw [eqv_nilT]
      have e : treeB 7 (.tuple (ds ++ ds)) = ds.isEmpty := by
        cases ds with
        | nil => rfl
        | cons d r =>
          have up' : ((d :: r).all (labB (treeB 6)) && uniqD ((d :: r).map hd0)) = true := up
          have g := labB_hd (Bool.and_eq_true_iff.mp up').1
          show (((d :: r) ++ (d :: r)).all (labB (treeB 6)) && uniqD (((d :: r) ++ (d :: r)).map hd0)) = false
          rw [List.map_append, twice_not (fun d hd => (label_key (g.2 d hd)).1) (by simp), Bool.and_false]
      have := asked (pl_is_tree 6 f2.1 f2.2 (by decide))
      rw [e] at this
      exact Sp.of this (Sp.ret rfl)
end

def sp_law (K : PySem.W.Frag) : Sp := fun vs H Q _ => ∃ (a : Addr) (ns : List Int), vs = [.ref a] ∧ SqL K H a (ns.map V.int) ∧ ns.length ≤ 63 ∧ ∀ H', Q (.bl true) H'

section
variable {P : Program} {w : World} {K : PySem.W.Frag} {mg : Str → Option Value} {base : Heap}
theorem ok_law (T : Env K mg) {f fd} (F : Fun K "law" "law" s_law f fd) : FnOk P w K mg base CX0 83 f fd p_law (sp_law K) := (okd_law (C := ⟨P, w, K⟩) (fun ns hl => law_holds ns hl) T F).imp fun _ _ _ _ h => law_of h
end

section
variable {w : World} {K : PySem.W.Frag} {h : Heap} {mg : Str → Option Value}
theorem mk_is_whole (X : K.In h) (G : h.Ns mainGlobals mg) {f : Addr} {od an : Option Addr} {sl : Array (Option Value)} {oc kV dc pm cd ct : Value} (a : PySem.W.nsIn K mainGlobals "is_whole" = some (some (.ref f))) (l : K.lookup f = some ⟨oc, od, .func (PySem.W.fnOf "is_whole" "is_whole" (defArgs s_is_whole) (defBody s_is_whole) (defScope s_is_whole) .none kV dc pm an cd ct), sl⟩) (c : PySem.W.codeIn K cd "is_whole" = true) (k : PySem.W.keepIn K (.ref f) = true) : Loc K mg "is_whole" p_is_whole s_is_whole :=
  have F := fun_mk (st := s_is_whole) l c k
  ⟨f, _, F, PySem.W.mg_of X G a, F.binds (ps := p_is_whole) fun _ _ _ _ _ _ us hl => match us, hl with | [_], _ => rfl⟩
theorem mk_is_number (X : K.In h) (G : h.Ns mainGlobals mg) {f : Addr} {od an : Option Addr} {sl : Array (Option Value)} {oc kV dc pm cd ct : Value} (a : PySem.W.nsIn K mainGlobals "is_number" = some (some (.ref f))) (l : K.lookup f = some ⟨oc, od, .func (PySem.W.fnOf "is_number" "is_number" (defArgs s_is_number) (defBody s_is_number) (defScope s_is_number) .none kV dc pm an cd ct), sl⟩) (c : PySem.W.codeIn K cd "is_number" = true) (k : PySem.W.keepIn K (.ref f) = true) : Loc K mg "is_number" p_is_number s_is_number :=
  have F := fun_mk (st := s_is_number) l c k
  ⟨f, _, F, PySem.W.mg_of X G a, F.binds (ps := p_is_number) fun _ _ _ _ _ _ us hl => match us, hl with | [_], _ => rfl⟩
theorem mk_is_name (X : K.In h) (G : h.Ns mainGlobals mg) {f : Addr} {od an : Option Addr} {sl : Array (Option Value)} {oc kV dc pm cd ct : Value} (a : PySem.W.nsIn K mainGlobals "is_name" = some (some (.ref f))) (l : K.lookup f = some ⟨oc, od, .func (PySem.W.fnOf "is_name" "is_name" (defArgs s_is_name) (defBody s_is_name) (defScope s_is_name) .none kV dc pm an cd ct), sl⟩) (c : PySem.W.codeIn K cd "is_name" = true) (k : PySem.W.keepIn K (.ref f) = true) : Loc K mg "is_name" p_is_name s_is_name :=
  have F := fun_mk (st := s_is_name) l c k
  ⟨f, _, F, PySem.W.mg_of X G a, F.binds (ps := p_is_name) fun _ _ _ _ _ _ us hl => match us, hl with | [_], _ => rfl⟩
theorem mk_is_count (X : K.In h) (G : h.Ns mainGlobals mg) {f : Addr} {od an : Option Addr} {sl : Array (Option Value)} {oc kV dc pm cd ct : Value} (a : PySem.W.nsIn K mainGlobals "is_count" = some (some (.ref f))) (l : K.lookup f = some ⟨oc, od, .func (PySem.W.fnOf "is_count" "is_count" (defArgs s_is_count) (defBody s_is_count) (defScope s_is_count) .none kV dc pm an cd ct), sl⟩) (c : PySem.W.codeIn K cd "is_count" = true) (k : PySem.W.keepIn K (.ref f) = true) : Loc K mg "is_count" p_is_count s_is_count :=
  have F := fun_mk (st := s_is_count) l c k
  ⟨f, _, F, PySem.W.mg_of X G a, F.binds (ps := p_is_count) fun _ _ _ _ _ _ us hl => match us, hl with | [_], _ => rfl⟩
theorem mk_is_spot (X : K.In h) (G : h.Ns mainGlobals mg) {f : Addr} {od an : Option Addr} {sl : Array (Option Value)} {oc kV dc pm cd ct : Value} (a : PySem.W.nsIn K mainGlobals "is_spot" = some (some (.ref f))) (l : K.lookup f = some ⟨oc, od, .func (PySem.W.fnOf "is_spot" "is_spot" (defArgs s_is_spot) (defBody s_is_spot) (defScope s_is_spot) .none kV dc pm an cd ct), sl⟩) (c : PySem.W.codeIn K cd "is_spot" = true) (k : PySem.W.keepIn K (.ref f) = true) : Loc K mg "is_spot" p_is_spot s_is_spot :=
  have F := fun_mk (st := s_is_spot) l c k
  ⟨f, _, F, PySem.W.mg_of X G a, F.binds (ps := p_is_spot) fun _ _ _ _ _ _ us hl => match us, hl with | [_], _ => rfl⟩
theorem mk_is_path (X : K.In h) (G : h.Ns mainGlobals mg) {f : Addr} {od an : Option Addr} {sl : Array (Option Value)} {oc kV dc pm cd ct : Value} (a : PySem.W.nsIn K mainGlobals "is_path" = some (some (.ref f))) (l : K.lookup f = some ⟨oc, od, .func (PySem.W.fnOf "is_path" "is_path" (defArgs s_is_path) (defBody s_is_path) (defScope s_is_path) .none kV dc pm an cd ct), sl⟩) (c : PySem.W.codeIn K cd "is_path" = true) (k : PySem.W.keepIn K (.ref f) = true) : Loc K mg "is_path" p_is_path s_is_path :=
  have F := fun_mk (st := s_is_path) l c k
  ⟨f, _, F, PySem.W.mg_of X G a, F.binds (ps := p_is_path) fun _ _ _ _ _ _ us hl => match us, hl with | [_], _ => rfl⟩
theorem mk_is_label (X : K.In h) (G : h.Ns mainGlobals mg) {f : Addr} {od an : Option Addr} {sl : Array (Option Value)} {oc kV dc pm cd ct : Value} (a : PySem.W.nsIn K mainGlobals "is_label" = some (some (.ref f))) (l : K.lookup f = some ⟨oc, od, .func (PySem.W.fnOf "is_label" "is_label" (defArgs s_is_label) (defBody s_is_label) (defScope s_is_label) .none kV dc pm an cd ct), sl⟩) (c : PySem.W.codeIn K cd "is_label" = true) (k : PySem.W.keepIn K (.ref f) = true) : Loc K mg "is_label" p_is_label s_is_label :=
  have F := fun_mk (st := s_is_label) l c k
  ⟨f, _, F, PySem.W.mg_of X G a, F.binds (ps := p_is_label) fun _ _ _ _ _ _ us hl => match us, hl with | [_], _ => rfl⟩
theorem mk_is_setting (X : K.In h) (G : h.Ns mainGlobals mg) {f : Addr} {od an : Option Addr} {sl : Array (Option Value)} {oc kV dc pm cd ct : Value} (a : PySem.W.nsIn K mainGlobals "is_setting" = some (some (.ref f))) (l : K.lookup f = some ⟨oc, od, .func (PySem.W.fnOf "is_setting" "is_setting" (defArgs s_is_setting) (defBody s_is_setting) (defScope s_is_setting) .none kV dc pm an cd ct), sl⟩) (c : PySem.W.codeIn K cd "is_setting" = true) (k : PySem.W.keepIn K (.ref f) = true) : Loc K mg "is_setting" p_is_setting s_is_setting :=
  have F := fun_mk (st := s_is_setting) l c k
  ⟨f, _, F, PySem.W.mg_of X G a, F.binds (ps := p_is_setting) fun _ _ _ _ _ _ us hl => match us, hl with | [_], _ => rfl⟩
theorem mk_is_sets (X : K.In h) (G : h.Ns mainGlobals mg) {f : Addr} {od an : Option Addr} {sl : Array (Option Value)} {oc kV dc pm cd ct : Value} (a : PySem.W.nsIn K mainGlobals "is_sets" = some (some (.ref f))) (l : K.lookup f = some ⟨oc, od, .func (PySem.W.fnOf "is_sets" "is_sets" (defArgs s_is_sets) (defBody s_is_sets) (defScope s_is_sets) .none kV dc pm an cd ct), sl⟩) (c : PySem.W.codeIn K cd "is_sets" = true) (k : PySem.W.keepIn K (.ref f) = true) : Loc K mg "is_sets" p_is_sets s_is_sets :=
  have F := fun_mk (st := s_is_sets) l c k
  ⟨f, _, F, PySem.W.mg_of X G a, F.binds (ps := p_is_sets) fun _ _ _ _ _ _ us hl => match us, hl with | [_], _ => rfl⟩
theorem mk_is_hand_change (X : K.In h) (G : h.Ns mainGlobals mg) {f : Addr} {od an : Option Addr} {sl : Array (Option Value)} {oc kV dc pm cd ct : Value} (a : PySem.W.nsIn K mainGlobals "is_hand_change" = some (some (.ref f))) (l : K.lookup f = some ⟨oc, od, .func (PySem.W.fnOf "is_hand_change" "is_hand_change" (defArgs s_is_hand_change) (defBody s_is_hand_change) (defScope s_is_hand_change) .none kV dc pm an cd ct), sl⟩) (c : PySem.W.codeIn K cd "is_hand_change" = true) (k : PySem.W.keepIn K (.ref f) = true) : Loc K mg "is_hand_change" p_is_hand_change s_is_hand_change :=
  have F := fun_mk (st := s_is_hand_change) l c k
  ⟨f, _, F, PySem.W.mg_of X G a, F.binds (ps := p_is_hand_change) fun _ _ _ _ _ _ us hl => match us, hl with | [_], _ => rfl⟩
theorem mk_is_hand (X : K.In h) (G : h.Ns mainGlobals mg) {f : Addr} {od an : Option Addr} {sl : Array (Option Value)} {oc kV dc pm cd ct : Value} (a : PySem.W.nsIn K mainGlobals "is_hand" = some (some (.ref f))) (l : K.lookup f = some ⟨oc, od, .func (PySem.W.fnOf "is_hand" "is_hand" (defArgs s_is_hand) (defBody s_is_hand) (defScope s_is_hand) .none kV dc pm an cd ct), sl⟩) (c : PySem.W.codeIn K cd "is_hand" = true) (k : PySem.W.keepIn K (.ref f) = true) : Loc K mg "is_hand" p_is_hand s_is_hand :=
  have F := fun_mk (st := s_is_hand) l c k
  ⟨f, _, F, PySem.W.mg_of X G a, F.binds (ps := p_is_hand) fun _ _ _ _ _ _ us hl => match us, hl with | [_], _ => rfl⟩
theorem mk_is_hands (X : K.In h) (G : h.Ns mainGlobals mg) {f : Addr} {od an : Option Addr} {sl : Array (Option Value)} {oc kV dc pm cd ct : Value} (a : PySem.W.nsIn K mainGlobals "is_hands" = some (some (.ref f))) (l : K.lookup f = some ⟨oc, od, .func (PySem.W.fnOf "is_hands" "is_hands" (defArgs s_is_hands) (defBody s_is_hands) (defScope s_is_hands) .none kV dc pm an cd ct), sl⟩) (c : PySem.W.codeIn K cd "is_hands" = true) (k : PySem.W.keepIn K (.ref f) = true) : Loc K mg "is_hands" p_is_hands s_is_hands :=
  have F := fun_mk (st := s_is_hands) l c k
  ⟨f, _, F, PySem.W.mg_of X G a, F.binds (ps := p_is_hands) fun _ _ _ _ _ _ us hl => match us, hl with | [_], _ => rfl⟩
theorem mk_is_box (X : K.In h) (G : h.Ns mainGlobals mg) {f : Addr} {od an : Option Addr} {sl : Array (Option Value)} {oc kV dc pm cd ct : Value} (a : PySem.W.nsIn K mainGlobals "is_box" = some (some (.ref f))) (l : K.lookup f = some ⟨oc, od, .func (PySem.W.fnOf "is_box" "is_box" (defArgs s_is_box) (defBody s_is_box) (defScope s_is_box) .none kV dc pm an cd ct), sl⟩) (c : PySem.W.codeIn K cd "is_box" = true) (k : PySem.W.keepIn K (.ref f) = true) : Loc K mg "is_box" p_is_box s_is_box :=
  have F := fun_mk (st := s_is_box) l c k
  ⟨f, _, F, PySem.W.mg_of X G a, F.binds (ps := p_is_box) fun _ _ _ _ _ _ us hl => match us, hl with | [_], _ => rfl⟩
theorem mk_is_labelled (X : K.In h) (G : h.Ns mainGlobals mg) {f : Addr} {od an : Option Addr} {sl : Array (Option Value)} {oc kV dc pm cd ct : Value} (a : PySem.W.nsIn K mainGlobals "is_labelled" = some (some (.ref f))) (l : K.lookup f = some ⟨oc, od, .func (PySem.W.fnOf "is_labelled" "is_labelled" (defArgs s_is_labelled) (defBody s_is_labelled) (defScope s_is_labelled) .none kV dc pm an cd ct), sl⟩) (c : PySem.W.codeIn K cd "is_labelled" = true) (k : PySem.W.keepIn K (.ref f) = true) : Loc K mg "is_labelled" p_is_labelled s_is_labelled :=
  have F := fun_mk (st := s_is_labelled) l c k
  ⟨f, _, F, PySem.W.mg_of X G a, F.binds (ps := p_is_labelled) fun _ _ _ _ _ _ us hl => match us, hl with | [_], _ => rfl⟩
theorem mk_is_tree (X : K.In h) (G : h.Ns mainGlobals mg) {f : Addr} {od an : Option Addr} {sl : Array (Option Value)} {oc kV dc pm cd ct : Value} (a : PySem.W.nsIn K mainGlobals "is_tree" = some (some (.ref f))) (l : K.lookup f = some ⟨oc, od, .func (PySem.W.fnOf "is_tree" "is_tree" (defArgs s_is_tree) (defBody s_is_tree) (defScope s_is_tree) .none kV dc pm an cd ct), sl⟩) (c : PySem.W.codeIn K cd "is_tree" = true) (k : PySem.W.keepIn K (.ref f) = true) : Loc K mg "is_tree" p_is_tree s_is_tree :=
  have F := fun_mk (st := s_is_tree) l c k
  ⟨f, _, F, PySem.W.mg_of X G a, F.binds (ps := p_is_tree) fun _ _ _ _ _ _ us hl => match us, hl with | [_], _ => rfl⟩
theorem mk_law_tape (X : K.In h) (G : h.Ns mainGlobals mg) {f : Addr} {od an : Option Addr} {sl : Array (Option Value)} {oc kV dc pm cd ct : Value} (a : PySem.W.nsIn K mainGlobals "_law_tape" = some (some (.ref f))) (l : K.lookup f = some ⟨oc, od, .func (PySem.W.fnOf "_law_tape" "_law_tape" (defArgs s_law_tape) (defBody s_law_tape) (defScope s_law_tape) .none kV dc pm an cd ct), sl⟩) (c : PySem.W.codeIn K cd "_law_tape" = true) (k : PySem.W.keepIn K (.ref f) = true) : Loc K mg "_law_tape" p_law_tape s_law_tape :=
  have F := fun_mk (st := s_law_tape) l c k
  ⟨f, _, F, PySem.W.mg_of X G a, F.binds (ps := p_law_tape) fun _ _ _ _ _ _ us hl => match us, hl with | [_], _ => rfl⟩
theorem mk_law_draw (X : K.In h) (G : h.Ns mainGlobals mg) {f : Addr} {od an : Option Addr} {sl : Array (Option Value)} {oc kV dc pm cd ct : Value} (a : PySem.W.nsIn K mainGlobals "_law_draw" = some (some (.ref f))) (l : K.lookup f = some ⟨oc, od, .func (PySem.W.fnOf "_law_draw" "_law_draw" (defArgs s_law_draw) (defBody s_law_draw) (defScope s_law_draw) .none kV dc pm an cd ct), sl⟩) (c : PySem.W.codeIn K cd "_law_draw" = true) (k : PySem.W.keepIn K (.ref f) = true) : Loc K mg "_law_draw" p_law_draw s_law_draw :=
  have F := fun_mk (st := s_law_draw) l c k
  ⟨f, _, F, PySem.W.mg_of X G a, F.binds (ps := p_law_draw) fun _ _ _ _ _ _ us hl => match us, hl with | [_, _], _ => rfl⟩
theorem mk_law_number (X : K.In h) (G : h.Ns mainGlobals mg) {f : Addr} {od an : Option Addr} {sl : Array (Option Value)} {oc kV dc pm cd ct : Value} (a : PySem.W.nsIn K mainGlobals "_law_number" = some (some (.ref f))) (l : K.lookup f = some ⟨oc, od, .func (PySem.W.fnOf "_law_number" "_law_number" (defArgs s_law_number) (defBody s_law_number) (defScope s_law_number) .none kV dc pm an cd ct), sl⟩) (c : PySem.W.codeIn K cd "_law_number" = true) (k : PySem.W.keepIn K (.ref f) = true) : Loc K mg "_law_number" p_law_number s_law_number :=
  have F := fun_mk (st := s_law_number) l c k
  ⟨f, _, F, PySem.W.mg_of X G a, F.binds (ps := p_law_number) fun _ _ _ _ _ _ us hl => match us, hl with | [_], _ => rfl⟩
theorem mk_law_names (X : K.In h) (G : h.Ns mainGlobals mg) {f : Addr} {od an : Option Addr} {sl : Array (Option Value)} {oc kV dc pm cd ct : Value} (a : PySem.W.nsIn K mainGlobals "_law_names" = some (some (.ref f))) (l : K.lookup f = some ⟨oc, od, .func (PySem.W.fnOf "_law_names" "_law_names" (defArgs s_law_names) (defBody s_law_names) (defScope s_law_names) .none kV dc pm an cd ct), sl⟩) (c : PySem.W.codeIn K cd "_law_names" = true) (k : PySem.W.keepIn K (.ref f) = true) : Loc K mg "_law_names" p_law_names s_law_names :=
  have F := fun_mk (st := s_law_names) l c k
  ⟨f, _, F, PySem.W.mg_of X G a, F.binds (ps := p_law_names) fun _ _ _ _ _ _ us hl => match us, hl with | [_, _], _ => rfl⟩
theorem mk_law_spot (X : K.In h) (G : h.Ns mainGlobals mg) {f : Addr} {od an : Option Addr} {sl : Array (Option Value)} {oc kV dc pm cd ct : Value} (a : PySem.W.nsIn K mainGlobals "_law_spot" = some (some (.ref f))) (l : K.lookup f = some ⟨oc, od, .func (PySem.W.fnOf "_law_spot" "_law_spot" (defArgs s_law_spot) (defBody s_law_spot) (defScope s_law_spot) .none kV dc pm an cd ct), sl⟩) (c : PySem.W.codeIn K cd "_law_spot" = true) (k : PySem.W.keepIn K (.ref f) = true) : Loc K mg "_law_spot" p_law_spot s_law_spot :=
  have F := fun_mk (st := s_law_spot) l c k
  ⟨f, _, F, PySem.W.mg_of X G a, F.binds (ps := p_law_spot) fun _ _ _ _ _ _ us hl => match us, hl with | [_], _ => rfl⟩
theorem mk_law_label (X : K.In h) (G : h.Ns mainGlobals mg) {f : Addr} {od an : Option Addr} {sl : Array (Option Value)} {oc kV dc pm cd ct : Value} (a : PySem.W.nsIn K mainGlobals "_law_label" = some (some (.ref f))) (l : K.lookup f = some ⟨oc, od, .func (PySem.W.fnOf "_law_label" "_law_label" (defArgs s_law_label) (defBody s_law_label) (defScope s_law_label) .none kV dc pm an cd ct), sl⟩) (c : PySem.W.codeIn K cd "_law_label" = true) (k : PySem.W.keepIn K (.ref f) = true) : Loc K mg "_law_label" p_law_label s_law_label :=
  have F := fun_mk (st := s_law_label) l c k
  ⟨f, _, F, PySem.W.mg_of X G a, F.binds (ps := p_law_label) fun _ _ _ _ _ _ us hl => match us, hl with | [_], _ => rfl⟩
theorem mk_law_sets (X : K.In h) (G : h.Ns mainGlobals mg) {f : Addr} {od an : Option Addr} {sl : Array (Option Value)} {oc kV dc pm cd ct : Value} (a : PySem.W.nsIn K mainGlobals "_law_sets" = some (some (.ref f))) (l : K.lookup f = some ⟨oc, od, .func (PySem.W.fnOf "_law_sets" "_law_sets" (defArgs s_law_sets) (defBody s_law_sets) (defScope s_law_sets) .none kV dc pm an cd ct), sl⟩) (c : PySem.W.codeIn K cd "_law_sets" = true) (k : PySem.W.keepIn K (.ref f) = true) : Loc K mg "_law_sets" p_law_sets s_law_sets :=
  have F := fun_mk (st := s_law_sets) l c k
  ⟨f, _, F, PySem.W.mg_of X G a, F.binds (ps := p_law_sets) fun _ _ _ _ _ _ us hl => match us, hl with | [_], _ => rfl⟩
theorem mk_law_hands (X : K.In h) (G : h.Ns mainGlobals mg) {f : Addr} {od an : Option Addr} {sl : Array (Option Value)} {oc kV dc pm cd ct : Value} (a : PySem.W.nsIn K mainGlobals "_law_hands" = some (some (.ref f))) (l : K.lookup f = some ⟨oc, od, .func (PySem.W.fnOf "_law_hands" "_law_hands" (defArgs s_law_hands) (defBody s_law_hands) (defScope s_law_hands) .none kV dc pm an cd ct), sl⟩) (c : PySem.W.codeIn K cd "_law_hands" = true) (k : PySem.W.keepIn K (.ref f) = true) : Loc K mg "_law_hands" p_law_hands s_law_hands :=
  have F := fun_mk (st := s_law_hands) l c k
  ⟨f, _, F, PySem.W.mg_of X G a, F.binds (ps := p_law_hands) fun _ _ _ _ _ _ us hl => match us, hl with | [_], _ => rfl⟩
theorem mk_law_box (X : K.In h) (G : h.Ns mainGlobals mg) {f : Addr} {od an : Option Addr} {sl : Array (Option Value)} {oc kV dc pm cd ct : Value} (a : PySem.W.nsIn K mainGlobals "_law_box" = some (some (.ref f))) (l : K.lookup f = some ⟨oc, od, .func (PySem.W.fnOf "_law_box" "_law_box" (defArgs s_law_box) (defBody s_law_box) (defScope s_law_box) .none kV dc pm an cd ct), sl⟩) (c : PySem.W.codeIn K cd "_law_box" = true) (k : PySem.W.keepIn K (.ref f) = true) : Loc K mg "_law_box" p_law_box s_law_box :=
  have F := fun_mk (st := s_law_box) l c k
  ⟨f, _, F, PySem.W.mg_of X G a, F.binds (ps := p_law_box) fun _ _ _ _ _ _ us hl => match us, hl with | [_, _], _ => rfl⟩
theorem mk_law_row (X : K.In h) (G : h.Ns mainGlobals mg) {f : Addr} {od an : Option Addr} {sl : Array (Option Value)} {oc kV dc pm cd ct : Value} (a : PySem.W.nsIn K mainGlobals "_law_row" = some (some (.ref f))) (l : K.lookup f = some ⟨oc, od, .func (PySem.W.fnOf "_law_row" "_law_row" (defArgs s_law_row) (defBody s_law_row) (defScope s_law_row) .none kV dc pm an cd ct), sl⟩) (c : PySem.W.codeIn K cd "_law_row" = true) (k : PySem.W.keepIn K (.ref f) = true) : Loc K mg "_law_row" p_law_row s_law_row :=
  have F := fun_mk (st := s_law_row) l c k
  ⟨f, _, F, PySem.W.mg_of X G a, F.binds (ps := p_law_row) fun _ _ _ _ _ _ us hl => match us, hl with | [_, _], _ => rfl⟩
theorem mk_law_is (X : K.In h) (G : h.Ns mainGlobals mg) {f : Addr} {od an : Option Addr} {sl : Array (Option Value)} {oc kV dc pm cd ct : Value} (a : PySem.W.nsIn K mainGlobals "_law_is" = some (some (.ref f))) (l : K.lookup f = some ⟨oc, od, .func (PySem.W.fnOf "_law_is" "_law_is" (defArgs s_law_is) (defBody s_law_is) (defScope s_law_is) .none kV dc pm an cd ct), sl⟩) (c : PySem.W.codeIn K cd "_law_is" = true) (k : PySem.W.keepIn K (.ref f) = true) : Loc K mg "_law_is" p_law_is s_law_is :=
  have F := fun_mk (st := s_law_is) l c k
  ⟨f, _, F, PySem.W.mg_of X G a, F.binds (ps := p_law_is) fun _ _ _ _ _ _ us hl => match us, hl with | [_, _], _ => rfl⟩
theorem mk_law_is_small (X : K.In h) (G : h.Ns mainGlobals mg) {f : Addr} {od an : Option Addr} {sl : Array (Option Value)} {oc kV dc pm cd ct : Value} (a : PySem.W.nsIn K mainGlobals "_law_is_small" = some (some (.ref f))) (l : K.lookup f = some ⟨oc, od, .func (PySem.W.fnOf "_law_is_small" "_law_is_small" (defArgs s_law_is_small) (defBody s_law_is_small) (defScope s_law_is_small) .none kV dc pm an cd ct), sl⟩) (c : PySem.W.codeIn K cd "_law_is_small" = true) (k : PySem.W.keepIn K (.ref f) = true) : Loc K mg "_law_is_small" p_law_is_small s_law_is_small :=
  have F := fun_mk (st := s_law_is_small) l c k
  ⟨f, _, F, PySem.W.mg_of X G a, F.binds (ps := p_law_is_small) fun _ _ _ _ _ _ us hl => match us, hl with | [_, _], _ => rfl⟩
theorem mk_law_is_great (X : K.In h) (G : h.Ns mainGlobals mg) {f : Addr} {od an : Option Addr} {sl : Array (Option Value)} {oc kV dc pm cd ct : Value} (a : PySem.W.nsIn K mainGlobals "_law_is_great" = some (some (.ref f))) (l : K.lookup f = some ⟨oc, od, .func (PySem.W.fnOf "_law_is_great" "_law_is_great" (defArgs s_law_is_great) (defBody s_law_is_great) (defScope s_law_is_great) .none kV dc pm an cd ct), sl⟩) (c : PySem.W.codeIn K cd "_law_is_great" = true) (k : PySem.W.keepIn K (.ref f) = true) : Loc K mg "_law_is_great" p_law_is_great s_law_is_great :=
  have F := fun_mk (st := s_law_is_great) l c k
  ⟨f, _, F, PySem.W.mg_of X G a, F.binds (ps := p_law_is_great) fun _ _ _ _ _ _ us hl => match us, hl with | [_, _], _ => rfl⟩
theorem mk_law_is_deed (X : K.In h) (G : h.Ns mainGlobals mg) {f : Addr} {od an : Option Addr} {sl : Array (Option Value)} {oc kV dc pm cd ct : Value} (a : PySem.W.nsIn K mainGlobals "_law_is_deed" = some (some (.ref f))) (l : K.lookup f = some ⟨oc, od, .func (PySem.W.fnOf "_law_is_deed" "_law_is_deed" (defArgs s_law_is_deed) (defBody s_law_is_deed) (defScope s_law_is_deed) .none kV dc pm an cd ct), sl⟩) (c : PySem.W.codeIn K cd "_law_is_deed" = true) (k : PySem.W.keepIn K (.ref f) = true) : Loc K mg "_law_is_deed" p_law_is_deed s_law_is_deed :=
  have F := fun_mk (st := s_law_is_deed) l c k
  ⟨f, _, F, PySem.W.mg_of X G a, F.binds (ps := p_law_is_deed) fun _ _ _ _ _ _ us hl => match us, hl with | [_], _ => rfl⟩
theorem mk_law_bent (X : K.In h) (G : h.Ns mainGlobals mg) {f : Addr} {od an : Option Addr} {sl : Array (Option Value)} {oc kV dc pm cd ct : Value} (a : PySem.W.nsIn K mainGlobals "_law_bent" = some (some (.ref f))) (l : K.lookup f = some ⟨oc, od, .func (PySem.W.fnOf "_law_bent" "_law_bent" (defArgs s_law_bent) (defBody s_law_bent) (defScope s_law_bent) .none kV dc pm an cd ct), sl⟩) (c : PySem.W.codeIn K cd "_law_bent" = true) (k : PySem.W.keepIn K (.ref f) = true) : Loc K mg "_law_bent" p_law_bent s_law_bent :=
  have F := fun_mk (st := s_law_bent) l c k
  ⟨f, _, F, PySem.W.mg_of X G a, F.binds (ps := p_law_bent) fun _ _ _ _ _ _ us hl => match us, hl with | [_, _], _ => rfl⟩
theorem mk_law_asked (X : K.In h) (G : h.Ns mainGlobals mg) {f : Addr} {od an : Option Addr} {sl : Array (Option Value)} {oc kV dc pm cd ct : Value} (a : PySem.W.nsIn K mainGlobals "_law_asked" = some (some (.ref f))) (l : K.lookup f = some ⟨oc, od, .func (PySem.W.fnOf "_law_asked" "_law_asked" (defArgs s_law_asked) (defBody s_law_asked) (defScope s_law_asked) .none kV dc pm an cd ct), sl⟩) (c : PySem.W.codeIn K cd "_law_asked" = true) (k : PySem.W.keepIn K (.ref f) = true) : Loc K mg "_law_asked" p_law_asked s_law_asked :=
  have F := fun_mk (st := s_law_asked) l c k
  ⟨f, _, F, PySem.W.mg_of X G a, F.binds (ps := p_law_asked) fun _ _ _ _ _ _ us hl => match us, hl with | [_, _], _ => rfl⟩
theorem mk_law (X : K.In h) (G : h.Ns mainGlobals mg) {f : Addr} {od an : Option Addr} {sl : Array (Option Value)} {oc kV dc pm cd ct : Value} (a : PySem.W.nsIn K mainGlobals "law" = some (some (.ref f))) (l : K.lookup f = some ⟨oc, od, .func (PySem.W.fnOf "law" "law" (defArgs s_law) (defBody s_law) (defScope s_law) .none kV dc pm an cd ct), sl⟩) (c : PySem.W.codeIn K cd "law" = true) (k : PySem.W.keepIn K (.ref f) = true) : Loc K mg "law" p_law s_law :=
  have F := fun_mk (st := s_law) l c k
  ⟨f, _, F, PySem.W.mg_of X G a, F.binds (ps := p_law) fun _ _ _ _ _ _ us hl => match us, hl with | [_], _ => rfl⟩
theorem all_env (X : K.In h) (G : h.Ns mainGlobals mg)
    {f0 : Addr} {od0 an0 : Option Addr} {sl0 : Array (Option Value)} {oc0 kV0 dc0 pm0 cd0 ct0 : Value}
    (a0 : PySem.W.nsIn K mainGlobals "is_whole" = some (some (.ref f0))) (l0 : K.lookup f0 = some ⟨oc0, od0, .func (PySem.W.fnOf "is_whole" "is_whole" (defArgs s_is_whole) (defBody s_is_whole) (defScope s_is_whole) .none kV0 dc0 pm0 an0 cd0 ct0), sl0⟩) (c0 : PySem.W.codeIn K cd0 "is_whole" = true) (k0 : PySem.W.keepIn K (.ref f0) = true)
    {f1 : Addr} {od1 an1 : Option Addr} {sl1 : Array (Option Value)} {oc1 kV1 dc1 pm1 cd1 ct1 : Value}
    (a1 : PySem.W.nsIn K mainGlobals "is_number" = some (some (.ref f1))) (l1 : K.lookup f1 = some ⟨oc1, od1, .func (PySem.W.fnOf "is_number" "is_number" (defArgs s_is_number) (defBody s_is_number) (defScope s_is_number) .none kV1 dc1 pm1 an1 cd1 ct1), sl1⟩) (c1 : PySem.W.codeIn K cd1 "is_number" = true) (k1 : PySem.W.keepIn K (.ref f1) = true)
    {f2 : Addr} {od2 an2 : Option Addr} {sl2 : Array (Option Value)} {oc2 kV2 dc2 pm2 cd2 ct2 : Value}
    (a2 : PySem.W.nsIn K mainGlobals "is_name" = some (some (.ref f2))) (l2 : K.lookup f2 = some ⟨oc2, od2, .func (PySem.W.fnOf "is_name" "is_name" (defArgs s_is_name) (defBody s_is_name) (defScope s_is_name) .none kV2 dc2 pm2 an2 cd2 ct2), sl2⟩) (c2 : PySem.W.codeIn K cd2 "is_name" = true) (k2 : PySem.W.keepIn K (.ref f2) = true)
    {f3 : Addr} {od3 an3 : Option Addr} {sl3 : Array (Option Value)} {oc3 kV3 dc3 pm3 cd3 ct3 : Value}
    (a3 : PySem.W.nsIn K mainGlobals "is_count" = some (some (.ref f3))) (l3 : K.lookup f3 = some ⟨oc3, od3, .func (PySem.W.fnOf "is_count" "is_count" (defArgs s_is_count) (defBody s_is_count) (defScope s_is_count) .none kV3 dc3 pm3 an3 cd3 ct3), sl3⟩) (c3 : PySem.W.codeIn K cd3 "is_count" = true) (k3 : PySem.W.keepIn K (.ref f3) = true)
    {f4 : Addr} {od4 an4 : Option Addr} {sl4 : Array (Option Value)} {oc4 kV4 dc4 pm4 cd4 ct4 : Value}
    (a4 : PySem.W.nsIn K mainGlobals "is_spot" = some (some (.ref f4))) (l4 : K.lookup f4 = some ⟨oc4, od4, .func (PySem.W.fnOf "is_spot" "is_spot" (defArgs s_is_spot) (defBody s_is_spot) (defScope s_is_spot) .none kV4 dc4 pm4 an4 cd4 ct4), sl4⟩) (c4 : PySem.W.codeIn K cd4 "is_spot" = true) (k4 : PySem.W.keepIn K (.ref f4) = true)
    {f5 : Addr} {od5 an5 : Option Addr} {sl5 : Array (Option Value)} {oc5 kV5 dc5 pm5 cd5 ct5 : Value}
    (a5 : PySem.W.nsIn K mainGlobals "is_path" = some (some (.ref f5))) (l5 : K.lookup f5 = some ⟨oc5, od5, .func (PySem.W.fnOf "is_path" "is_path" (defArgs s_is_path) (defBody s_is_path) (defScope s_is_path) .none kV5 dc5 pm5 an5 cd5 ct5), sl5⟩) (c5 : PySem.W.codeIn K cd5 "is_path" = true) (k5 : PySem.W.keepIn K (.ref f5) = true)
    {f6 : Addr} {od6 an6 : Option Addr} {sl6 : Array (Option Value)} {oc6 kV6 dc6 pm6 cd6 ct6 : Value}
    (a6 : PySem.W.nsIn K mainGlobals "is_label" = some (some (.ref f6))) (l6 : K.lookup f6 = some ⟨oc6, od6, .func (PySem.W.fnOf "is_label" "is_label" (defArgs s_is_label) (defBody s_is_label) (defScope s_is_label) .none kV6 dc6 pm6 an6 cd6 ct6), sl6⟩) (c6 : PySem.W.codeIn K cd6 "is_label" = true) (k6 : PySem.W.keepIn K (.ref f6) = true)
    {f7 : Addr} {od7 an7 : Option Addr} {sl7 : Array (Option Value)} {oc7 kV7 dc7 pm7 cd7 ct7 : Value}
    (a7 : PySem.W.nsIn K mainGlobals "is_setting" = some (some (.ref f7))) (l7 : K.lookup f7 = some ⟨oc7, od7, .func (PySem.W.fnOf "is_setting" "is_setting" (defArgs s_is_setting) (defBody s_is_setting) (defScope s_is_setting) .none kV7 dc7 pm7 an7 cd7 ct7), sl7⟩) (c7 : PySem.W.codeIn K cd7 "is_setting" = true) (k7 : PySem.W.keepIn K (.ref f7) = true)
    {f8 : Addr} {od8 an8 : Option Addr} {sl8 : Array (Option Value)} {oc8 kV8 dc8 pm8 cd8 ct8 : Value}
    (a8 : PySem.W.nsIn K mainGlobals "is_sets" = some (some (.ref f8))) (l8 : K.lookup f8 = some ⟨oc8, od8, .func (PySem.W.fnOf "is_sets" "is_sets" (defArgs s_is_sets) (defBody s_is_sets) (defScope s_is_sets) .none kV8 dc8 pm8 an8 cd8 ct8), sl8⟩) (c8 : PySem.W.codeIn K cd8 "is_sets" = true) (k8 : PySem.W.keepIn K (.ref f8) = true)
    {f9 : Addr} {od9 an9 : Option Addr} {sl9 : Array (Option Value)} {oc9 kV9 dc9 pm9 cd9 ct9 : Value}
    (a9 : PySem.W.nsIn K mainGlobals "is_hand_change" = some (some (.ref f9))) (l9 : K.lookup f9 = some ⟨oc9, od9, .func (PySem.W.fnOf "is_hand_change" "is_hand_change" (defArgs s_is_hand_change) (defBody s_is_hand_change) (defScope s_is_hand_change) .none kV9 dc9 pm9 an9 cd9 ct9), sl9⟩) (c9 : PySem.W.codeIn K cd9 "is_hand_change" = true) (k9 : PySem.W.keepIn K (.ref f9) = true)
    {f10 : Addr} {od10 an10 : Option Addr} {sl10 : Array (Option Value)} {oc10 kV10 dc10 pm10 cd10 ct10 : Value}
    (a10 : PySem.W.nsIn K mainGlobals "is_hand" = some (some (.ref f10))) (l10 : K.lookup f10 = some ⟨oc10, od10, .func (PySem.W.fnOf "is_hand" "is_hand" (defArgs s_is_hand) (defBody s_is_hand) (defScope s_is_hand) .none kV10 dc10 pm10 an10 cd10 ct10), sl10⟩) (c10 : PySem.W.codeIn K cd10 "is_hand" = true) (k10 : PySem.W.keepIn K (.ref f10) = true)
    {f11 : Addr} {od11 an11 : Option Addr} {sl11 : Array (Option Value)} {oc11 kV11 dc11 pm11 cd11 ct11 : Value}
    (a11 : PySem.W.nsIn K mainGlobals "is_hands" = some (some (.ref f11))) (l11 : K.lookup f11 = some ⟨oc11, od11, .func (PySem.W.fnOf "is_hands" "is_hands" (defArgs s_is_hands) (defBody s_is_hands) (defScope s_is_hands) .none kV11 dc11 pm11 an11 cd11 ct11), sl11⟩) (c11 : PySem.W.codeIn K cd11 "is_hands" = true) (k11 : PySem.W.keepIn K (.ref f11) = true)
    {f12 : Addr} {od12 an12 : Option Addr} {sl12 : Array (Option Value)} {oc12 kV12 dc12 pm12 cd12 ct12 : Value}
    (a12 : PySem.W.nsIn K mainGlobals "is_box" = some (some (.ref f12))) (l12 : K.lookup f12 = some ⟨oc12, od12, .func (PySem.W.fnOf "is_box" "is_box" (defArgs s_is_box) (defBody s_is_box) (defScope s_is_box) .none kV12 dc12 pm12 an12 cd12 ct12), sl12⟩) (c12 : PySem.W.codeIn K cd12 "is_box" = true) (k12 : PySem.W.keepIn K (.ref f12) = true)
    {f13 : Addr} {od13 an13 : Option Addr} {sl13 : Array (Option Value)} {oc13 kV13 dc13 pm13 cd13 ct13 : Value}
    (a13 : PySem.W.nsIn K mainGlobals "is_labelled" = some (some (.ref f13))) (l13 : K.lookup f13 = some ⟨oc13, od13, .func (PySem.W.fnOf "is_labelled" "is_labelled" (defArgs s_is_labelled) (defBody s_is_labelled) (defScope s_is_labelled) .none kV13 dc13 pm13 an13 cd13 ct13), sl13⟩) (c13 : PySem.W.codeIn K cd13 "is_labelled" = true) (k13 : PySem.W.keepIn K (.ref f13) = true)
    {f14 : Addr} {od14 an14 : Option Addr} {sl14 : Array (Option Value)} {oc14 kV14 dc14 pm14 cd14 ct14 : Value}
    (a14 : PySem.W.nsIn K mainGlobals "is_tree" = some (some (.ref f14))) (l14 : K.lookup f14 = some ⟨oc14, od14, .func (PySem.W.fnOf "is_tree" "is_tree" (defArgs s_is_tree) (defBody s_is_tree) (defScope s_is_tree) .none kV14 dc14 pm14 an14 cd14 ct14), sl14⟩) (c14 : PySem.W.codeIn K cd14 "is_tree" = true) (k14 : PySem.W.keepIn K (.ref f14) = true)
    {f15 : Addr} {od15 an15 : Option Addr} {sl15 : Array (Option Value)} {oc15 kV15 dc15 pm15 cd15 ct15 : Value}
    (a15 : PySem.W.nsIn K mainGlobals "_law_tape" = some (some (.ref f15))) (l15 : K.lookup f15 = some ⟨oc15, od15, .func (PySem.W.fnOf "_law_tape" "_law_tape" (defArgs s_law_tape) (defBody s_law_tape) (defScope s_law_tape) .none kV15 dc15 pm15 an15 cd15 ct15), sl15⟩) (c15 : PySem.W.codeIn K cd15 "_law_tape" = true) (k15 : PySem.W.keepIn K (.ref f15) = true)
    {f16 : Addr} {od16 an16 : Option Addr} {sl16 : Array (Option Value)} {oc16 kV16 dc16 pm16 cd16 ct16 : Value}
    (a16 : PySem.W.nsIn K mainGlobals "_law_draw" = some (some (.ref f16))) (l16 : K.lookup f16 = some ⟨oc16, od16, .func (PySem.W.fnOf "_law_draw" "_law_draw" (defArgs s_law_draw) (defBody s_law_draw) (defScope s_law_draw) .none kV16 dc16 pm16 an16 cd16 ct16), sl16⟩) (c16 : PySem.W.codeIn K cd16 "_law_draw" = true) (k16 : PySem.W.keepIn K (.ref f16) = true)
    {f17 : Addr} {od17 an17 : Option Addr} {sl17 : Array (Option Value)} {oc17 kV17 dc17 pm17 cd17 ct17 : Value}
    (a17 : PySem.W.nsIn K mainGlobals "_law_number" = some (some (.ref f17))) (l17 : K.lookup f17 = some ⟨oc17, od17, .func (PySem.W.fnOf "_law_number" "_law_number" (defArgs s_law_number) (defBody s_law_number) (defScope s_law_number) .none kV17 dc17 pm17 an17 cd17 ct17), sl17⟩) (c17 : PySem.W.codeIn K cd17 "_law_number" = true) (k17 : PySem.W.keepIn K (.ref f17) = true)
    {f18 : Addr} {od18 an18 : Option Addr} {sl18 : Array (Option Value)} {oc18 kV18 dc18 pm18 cd18 ct18 : Value}
    (a18 : PySem.W.nsIn K mainGlobals "_law_names" = some (some (.ref f18))) (l18 : K.lookup f18 = some ⟨oc18, od18, .func (PySem.W.fnOf "_law_names" "_law_names" (defArgs s_law_names) (defBody s_law_names) (defScope s_law_names) .none kV18 dc18 pm18 an18 cd18 ct18), sl18⟩) (c18 : PySem.W.codeIn K cd18 "_law_names" = true) (k18 : PySem.W.keepIn K (.ref f18) = true)
    {f19 : Addr} {od19 an19 : Option Addr} {sl19 : Array (Option Value)} {oc19 kV19 dc19 pm19 cd19 ct19 : Value}
    (a19 : PySem.W.nsIn K mainGlobals "_law_spot" = some (some (.ref f19))) (l19 : K.lookup f19 = some ⟨oc19, od19, .func (PySem.W.fnOf "_law_spot" "_law_spot" (defArgs s_law_spot) (defBody s_law_spot) (defScope s_law_spot) .none kV19 dc19 pm19 an19 cd19 ct19), sl19⟩) (c19 : PySem.W.codeIn K cd19 "_law_spot" = true) (k19 : PySem.W.keepIn K (.ref f19) = true)
    {f20 : Addr} {od20 an20 : Option Addr} {sl20 : Array (Option Value)} {oc20 kV20 dc20 pm20 cd20 ct20 : Value}
    (a20 : PySem.W.nsIn K mainGlobals "_law_label" = some (some (.ref f20))) (l20 : K.lookup f20 = some ⟨oc20, od20, .func (PySem.W.fnOf "_law_label" "_law_label" (defArgs s_law_label) (defBody s_law_label) (defScope s_law_label) .none kV20 dc20 pm20 an20 cd20 ct20), sl20⟩) (c20 : PySem.W.codeIn K cd20 "_law_label" = true) (k20 : PySem.W.keepIn K (.ref f20) = true)
    {f21 : Addr} {od21 an21 : Option Addr} {sl21 : Array (Option Value)} {oc21 kV21 dc21 pm21 cd21 ct21 : Value}
    (a21 : PySem.W.nsIn K mainGlobals "_law_sets" = some (some (.ref f21))) (l21 : K.lookup f21 = some ⟨oc21, od21, .func (PySem.W.fnOf "_law_sets" "_law_sets" (defArgs s_law_sets) (defBody s_law_sets) (defScope s_law_sets) .none kV21 dc21 pm21 an21 cd21 ct21), sl21⟩) (c21 : PySem.W.codeIn K cd21 "_law_sets" = true) (k21 : PySem.W.keepIn K (.ref f21) = true)
    {f22 : Addr} {od22 an22 : Option Addr} {sl22 : Array (Option Value)} {oc22 kV22 dc22 pm22 cd22 ct22 : Value}
    (a22 : PySem.W.nsIn K mainGlobals "_law_hands" = some (some (.ref f22))) (l22 : K.lookup f22 = some ⟨oc22, od22, .func (PySem.W.fnOf "_law_hands" "_law_hands" (defArgs s_law_hands) (defBody s_law_hands) (defScope s_law_hands) .none kV22 dc22 pm22 an22 cd22 ct22), sl22⟩) (c22 : PySem.W.codeIn K cd22 "_law_hands" = true) (k22 : PySem.W.keepIn K (.ref f22) = true)
    {f23 : Addr} {od23 an23 : Option Addr} {sl23 : Array (Option Value)} {oc23 kV23 dc23 pm23 cd23 ct23 : Value}
    (a23 : PySem.W.nsIn K mainGlobals "_law_box" = some (some (.ref f23))) (l23 : K.lookup f23 = some ⟨oc23, od23, .func (PySem.W.fnOf "_law_box" "_law_box" (defArgs s_law_box) (defBody s_law_box) (defScope s_law_box) .none kV23 dc23 pm23 an23 cd23 ct23), sl23⟩) (c23 : PySem.W.codeIn K cd23 "_law_box" = true) (k23 : PySem.W.keepIn K (.ref f23) = true)
    {f24 : Addr} {od24 an24 : Option Addr} {sl24 : Array (Option Value)} {oc24 kV24 dc24 pm24 cd24 ct24 : Value}
    (a24 : PySem.W.nsIn K mainGlobals "_law_row" = some (some (.ref f24))) (l24 : K.lookup f24 = some ⟨oc24, od24, .func (PySem.W.fnOf "_law_row" "_law_row" (defArgs s_law_row) (defBody s_law_row) (defScope s_law_row) .none kV24 dc24 pm24 an24 cd24 ct24), sl24⟩) (c24 : PySem.W.codeIn K cd24 "_law_row" = true) (k24 : PySem.W.keepIn K (.ref f24) = true)
    {f25 : Addr} {od25 an25 : Option Addr} {sl25 : Array (Option Value)} {oc25 kV25 dc25 pm25 cd25 ct25 : Value}
    (a25 : PySem.W.nsIn K mainGlobals "_law_is" = some (some (.ref f25))) (l25 : K.lookup f25 = some ⟨oc25, od25, .func (PySem.W.fnOf "_law_is" "_law_is" (defArgs s_law_is) (defBody s_law_is) (defScope s_law_is) .none kV25 dc25 pm25 an25 cd25 ct25), sl25⟩) (c25 : PySem.W.codeIn K cd25 "_law_is" = true) (k25 : PySem.W.keepIn K (.ref f25) = true)
    {f26 : Addr} {od26 an26 : Option Addr} {sl26 : Array (Option Value)} {oc26 kV26 dc26 pm26 cd26 ct26 : Value}
    (a26 : PySem.W.nsIn K mainGlobals "_law_is_small" = some (some (.ref f26))) (l26 : K.lookup f26 = some ⟨oc26, od26, .func (PySem.W.fnOf "_law_is_small" "_law_is_small" (defArgs s_law_is_small) (defBody s_law_is_small) (defScope s_law_is_small) .none kV26 dc26 pm26 an26 cd26 ct26), sl26⟩) (c26 : PySem.W.codeIn K cd26 "_law_is_small" = true) (k26 : PySem.W.keepIn K (.ref f26) = true)
    {f27 : Addr} {od27 an27 : Option Addr} {sl27 : Array (Option Value)} {oc27 kV27 dc27 pm27 cd27 ct27 : Value}
    (a27 : PySem.W.nsIn K mainGlobals "_law_is_great" = some (some (.ref f27))) (l27 : K.lookup f27 = some ⟨oc27, od27, .func (PySem.W.fnOf "_law_is_great" "_law_is_great" (defArgs s_law_is_great) (defBody s_law_is_great) (defScope s_law_is_great) .none kV27 dc27 pm27 an27 cd27 ct27), sl27⟩) (c27 : PySem.W.codeIn K cd27 "_law_is_great" = true) (k27 : PySem.W.keepIn K (.ref f27) = true)
    {f28 : Addr} {od28 an28 : Option Addr} {sl28 : Array (Option Value)} {oc28 kV28 dc28 pm28 cd28 ct28 : Value}
    (a28 : PySem.W.nsIn K mainGlobals "_law_is_deed" = some (some (.ref f28))) (l28 : K.lookup f28 = some ⟨oc28, od28, .func (PySem.W.fnOf "_law_is_deed" "_law_is_deed" (defArgs s_law_is_deed) (defBody s_law_is_deed) (defScope s_law_is_deed) .none kV28 dc28 pm28 an28 cd28 ct28), sl28⟩) (c28 : PySem.W.codeIn K cd28 "_law_is_deed" = true) (k28 : PySem.W.keepIn K (.ref f28) = true)
    {f29 : Addr} {od29 an29 : Option Addr} {sl29 : Array (Option Value)} {oc29 kV29 dc29 pm29 cd29 ct29 : Value}
    (a29 : PySem.W.nsIn K mainGlobals "_law_bent" = some (some (.ref f29))) (l29 : K.lookup f29 = some ⟨oc29, od29, .func (PySem.W.fnOf "_law_bent" "_law_bent" (defArgs s_law_bent) (defBody s_law_bent) (defScope s_law_bent) .none kV29 dc29 pm29 an29 cd29 ct29), sl29⟩) (c29 : PySem.W.codeIn K cd29 "_law_bent" = true) (k29 : PySem.W.keepIn K (.ref f29) = true)
    {f30 : Addr} {od30 an30 : Option Addr} {sl30 : Array (Option Value)} {oc30 kV30 dc30 pm30 cd30 ct30 : Value}
    (a30 : PySem.W.nsIn K mainGlobals "_law_asked" = some (some (.ref f30))) (l30 : K.lookup f30 = some ⟨oc30, od30, .func (PySem.W.fnOf "_law_asked" "_law_asked" (defArgs s_law_asked) (defBody s_law_asked) (defScope s_law_asked) .none kV30 dc30 pm30 an30 cd30 ct30), sl30⟩) (c30 : PySem.W.codeIn K cd30 "_law_asked" = true) (k30 : PySem.W.keepIn K (.ref f30) = true)
    {f31 : Addr} {od31 an31 : Option Addr} {sl31 : Array (Option Value)} {oc31 kV31 dc31 pm31 cd31 ct31 : Value}
    (a31 : PySem.W.nsIn K mainGlobals "law" = some (some (.ref f31))) (l31 : K.lookup f31 = some ⟨oc31, od31, .func (PySem.W.fnOf "law" "law" (defArgs s_law) (defBody s_law) (defScope s_law) .none kV31 dc31 pm31 an31 cd31 ct31), sl31⟩) (c31 : PySem.W.codeIn K cd31 "law" = true) (k31 : PySem.W.keepIn K (.ref f31) = true)
    (z_abs : PySem.W.nsIn K mainGlobals "abs" = some none)
    (z_all : PySem.W.nsIn K mainGlobals "all" = some none)
    (z_bool : PySem.W.nsIn K mainGlobals "bool" = some none)
    (z_int : PySem.W.nsIn K mainGlobals "int" = some none)
    (z_isinstance : PySem.W.nsIn K mainGlobals "isinstance" = some none)
    (z_len : PySem.W.nsIn K mainGlobals "len" = some none)
    (z_list : PySem.W.nsIn K mainGlobals "list" = some none)
    (z_range : PySem.W.nsIn K mainGlobals "range" = some none)
    (z_set : PySem.W.nsIn K mainGlobals "set" = some none)
    (z_sorted : PySem.W.nsIn K mainGlobals "sorted" = some none)
    (z_str : PySem.W.nsIn K mainGlobals "str" = some none)
    (z_tuple : PySem.W.nsIn K mainGlobals "tuple" = some none)
    {t_GREATEST : Tok} (g_GREATEST : PySem.W.nsIn K mainGlobals "GREATEST" = some (some (.int 1000000000 t_GREATEST)))
    {t_LETTERS : Tok} (g_LETTERS : PySem.W.nsIn K mainGlobals "LETTERS" = some (some (.str "abcdefghijklmnopqrstuvwxyz" t_LETTERS)))
    {q_WORDS : Addr} {t0_WORDS t1_WORDS t2_WORDS : Tok} {od_WORDS : Option Addr} {n_WORDS : Nat} {sl_WORDS : Array (Option Value)} (g_WORDS : PySem.W.nsIn K mainGlobals "WORDS" = some (some (.ref q_WORDS))) (h_WORDS : K.lookup q_WORDS = some ⟨.type "tuple", od_WORDS, .seq #[.str "set" t0_WORDS, .str "add" t1_WORDS, .str "times" t2_WORDS] n_WORDS, sl_WORDS⟩) : Env K mg :=
  { l_is_whole := mk_is_whole X G a0 l0 c0 k0,
    l_is_number := mk_is_number X G a1 l1 c1 k1,
    l_is_name := mk_is_name X G a2 l2 c2 k2,
    l_is_count := mk_is_count X G a3 l3 c3 k3,
    l_is_spot := mk_is_spot X G a4 l4 c4 k4,
    l_is_path := mk_is_path X G a5 l5 c5 k5,
    l_is_label := mk_is_label X G a6 l6 c6 k6,
    l_is_setting := mk_is_setting X G a7 l7 c7 k7,
    l_is_sets := mk_is_sets X G a8 l8 c8 k8,
    l_is_hand_change := mk_is_hand_change X G a9 l9 c9 k9,
    l_is_hand := mk_is_hand X G a10 l10 c10 k10,
    l_is_hands := mk_is_hands X G a11 l11 c11 k11,
    l_is_box := mk_is_box X G a12 l12 c12 k12,
    l_is_labelled := mk_is_labelled X G a13 l13 c13 k13,
    l_is_tree := mk_is_tree X G a14 l14 c14 k14,
    l_law_tape := mk_law_tape X G a15 l15 c15 k15,
    l_law_draw := mk_law_draw X G a16 l16 c16 k16,
    l_law_number := mk_law_number X G a17 l17 c17 k17,
    l_law_names := mk_law_names X G a18 l18 c18 k18,
    l_law_spot := mk_law_spot X G a19 l19 c19 k19,
    l_law_label := mk_law_label X G a20 l20 c20 k20,
    l_law_sets := mk_law_sets X G a21 l21 c21 k21,
    l_law_hands := mk_law_hands X G a22 l22 c22 k22,
    l_law_box := mk_law_box X G a23 l23 c23 k23,
    l_law_row := mk_law_row X G a24 l24 c24 k24,
    l_law_is := mk_law_is X G a25 l25 c25 k25,
    l_law_is_small := mk_law_is_small X G a26 l26 c26 k26,
    l_law_is_great := mk_law_is_great X G a27 l27 c27 k27,
    l_law_is_deed := mk_law_is_deed X G a28 l28 c28 k28,
    l_law_bent := mk_law_bent X G a29 l29 c29 k29,
    l_law_asked := mk_law_asked X G a30 l30 c30 k30,
    l_law := mk_law X G a31 l31 c31 k31,
    m_abs := PySem.W.mg_none_of X G z_abs,
    m_all := PySem.W.mg_none_of X G z_all,
    m_bool := PySem.W.mg_none_of X G z_bool,
    m_int := PySem.W.mg_none_of X G z_int,
    m_isinstance := PySem.W.mg_none_of X G z_isinstance,
    m_len := PySem.W.mg_none_of X G z_len,
    m_list := PySem.W.mg_none_of X G z_list,
    m_range := PySem.W.mg_none_of X G z_range,
    m_set := PySem.W.mg_none_of X G z_set,
    m_sorted := PySem.W.mg_none_of X G z_sorted,
    m_str := PySem.W.mg_none_of X G z_str,
    m_tuple := PySem.W.mg_none_of X G z_tuple,
    g_GREATEST := ⟨_, PySem.W.mg_of X G g_GREATEST⟩,
    g_LETTERS := ⟨_, PySem.W.mg_of X G g_LETTERS⟩,
    g_WORDS := ⟨_, PySem.W.mg_of X G g_WORDS, ktup_of h_WORDS (vs_str (vs_str (vs_str vs_nil)))⟩ }
theorem walk {l : PySem.W.OpenLaw} {q : Program} {loose : List Str} {XP : (Str → Option Value) → Heap → Prop} {YP : World → Heap → Prop} {d : DefRec} {K : Params → PySem.W.Frag} (hn : l.most = some 63) (hdf : d.params.defaults = [])
    (hY : ∀ (w : World) (h : Heap), YP w h → (K w.params).In h) (hd : d.name = "law")
    (F : ∀ (w : World) (mg : Str → Option Value) (h : Heap), (K w.params).In h → h.Ns mainGlobals mg → Env (K w.params) mg) :
    PySem.W.WalkO q loose XP YP l.row.toRowW d [] (fun f vs => PySem.call f vs) :=
  L2.walk_of (n := 63) (k := 83) (x := "_law_script") (CX := fun _ => CX0) (sp := fun w => sp_law (K w.params)) hn (by decide) hdf ⟨rfl, by decide, by decide⟩ hY (fun w mg fa h KX G hmg => by
    have T := F w mg h KX G
    obtain ⟨f, fd, F1, m, b⟩ := T.l_law.ex
    rw [hd] at hmg
    have e := hmg.symm.trans m
    cases e
    refine ⟨fd, fun s v => ?_, fun base _ _ => ?_⟩
    · obtain ⟨oc, od, kV, doc, pm, an, cdv, ct, osl, rfl, lk, hcd⟩ := F1.ex
      exact .of_eq rfl
    · exact ok_law T F1) (fun _ _ a ns hl _ hS => ⟨a, ns, rfl, hS, hl, fun _ => rfl⟩) fun _ _ _ _ _ z => z
end
end LW
open PySem PySem.W PyProof.Rows
set_option maxRecDepth 100000 in
set_option maxHeartbeats 0 in
theorem PySem.Challenge.cw_viewwood_k37_trees_by_kind_holds : PySem.Challenge.rw_viewwood_k37_trees_by_kind.Holds := by
  w_on; o_law; k_head; (case hw => w_witness2)
  k_fill
  refine LW.walk (l := PySem.Challenge.rw_viewwood_k37_trees_by_kind) rfl rfl (fun w h Y => PySem.W.kIn_of Y) rfl ?F
  case F =>
    intro w mg h KX G
    refine' LW.all_env KX G ?a0 ?l0 ?c0 ?k0 ?a1 ?l1 ?c1 ?k1 ?a2 ?l2 ?c2 ?k2 ?a3 ?l3 ?c3 ?k3 ?a4 ?l4 ?c4 ?k4 ?a5 ?l5 ?c5 ?k5 ?a6 ?l6 ?c6 ?k6 ?a7 ?l7 ?c7 ?k7 ?a8 ?l8 ?c8 ?k8 ?a9 ?l9 ?c9 ?k9 ?a10 ?l10 ?c10 ?k10 ?a11 ?l11 ?c11 ?k11 ?a12 ?l12 ?c12 ?k12 ?a13 ?l13 ?c13 ?k13 ?a14 ?l14 ?c14 ?k14 ?a15 ?l15 ?c15 ?k15 ?a16 ?l16 ?c16 ?k16 ?a17 ?l17 ?c17 ?k17 ?a18 ?l18 ?c18 ?k18 ?a19 ?l19 ?c19 ?k19 ?a20 ?l20 ?c20 ?k20 ?a21 ?l21 ?c21 ?k21 ?a22 ?l22 ?c22 ?k22 ?a23 ?l23 ?c23 ?k23 ?a24 ?l24 ?c24 ?k24 ?a25 ?l25 ?c25 ?k25 ?a26 ?l26 ?c26 ?k26 ?a27 ?l27 ?c27 ?k27 ?a28 ?l28 ?c28 ?k28 ?a29 ?l29 ?c29 ?k29 ?a30 ?l30 ?c30 ?k30 ?a31 ?l31 ?c31 ?k31 ?z_abs ?z_all ?z_bool ?z_int ?z_isinstance ?z_len ?z_list ?z_range ?z_set ?z_sorted ?z_str ?z_tuple ?g_GREATEST ?g_LETTERS ?g_WORDS ?h_WORDS
    (case a0 => k_is)
    (case l0 => k_is)
    (case c0 => k_is)
    (case k0 => k_is)
    (case a1 => k_is)
    (case l1 => k_is)
    (case c1 => k_is)
    (case k1 => k_is)
    (case a2 => k_is)
    (case l2 => k_is)
    (case c2 => k_is)
    (case k2 => k_is)
    (case a3 => k_is)
    (case l3 => k_is)
    (case c3 => k_is)
    (case k3 => k_is)
    (case a4 => k_is)
    (case l4 => k_is)
    (case c4 => k_is)
    (case k4 => k_is)
    (case a5 => k_is)
    (case l5 => k_is)
    (case c5 => k_is)
    (case k5 => k_is)
    (case a6 => k_is)
    (case l6 => k_is)
    (case c6 => k_is)
    (case k6 => k_is)
    (case a7 => k_is)
    (case l7 => k_is)
    (case c7 => k_is)
    (case k7 => k_is)
    (case a8 => k_is)
    (case l8 => k_is)
    (case c8 => k_is)
    (case k8 => k_is)
    (case a9 => k_is)
    (case l9 => k_is)
    (case c9 => k_is)
    (case k9 => k_is)
    (case a10 => k_is)
    (case l10 => k_is)
    (case c10 => k_is)
    (case k10 => k_is)
    (case a11 => k_is)
    (case l11 => k_is)
    (case c11 => k_is)
    (case k11 => k_is)
    (case a12 => k_is)
    (case l12 => k_is)
    (case c12 => k_is)
    (case k12 => k_is)
    (case a13 => k_is)
    (case l13 => k_is)
    (case c13 => k_is)
    (case k13 => k_is)
    (case a14 => k_is)
    (case l14 => k_is)
    (case c14 => k_is)
    (case k14 => k_is)
    (case a15 => k_is)
    (case l15 => k_is)
    (case c15 => k_is)
    (case k15 => k_is)
    (case a16 => k_is)
    (case l16 => k_is)
    (case c16 => k_is)
    (case k16 => k_is)
    (case a17 => k_is)
    (case l17 => k_is)
    (case c17 => k_is)
    (case k17 => k_is)
    (case a18 => k_is)
    (case l18 => k_is)
    (case c18 => k_is)
    (case k18 => k_is)
    (case a19 => k_is)
    (case l19 => k_is)
    (case c19 => k_is)
    (case k19 => k_is)
    (case a20 => k_is)
    (case l20 => k_is)
    (case c20 => k_is)
    (case k20 => k_is)
    (case a21 => k_is)
    (case l21 => k_is)
    (case c21 => k_is)
    (case k21 => k_is)
    (case a22 => k_is)
    (case l22 => k_is)
    (case c22 => k_is)
    (case k22 => k_is)
    (case a23 => k_is)
    (case l23 => k_is)
    (case c23 => k_is)
    (case k23 => k_is)
    (case a24 => k_is)
    (case l24 => k_is)
    (case c24 => k_is)
    (case k24 => k_is)
    (case a25 => k_is)
    (case l25 => k_is)
    (case c25 => k_is)
    (case k25 => k_is)
    (case a26 => k_is)
    (case l26 => k_is)
    (case c26 => k_is)
    (case k26 => k_is)
    (case a27 => k_is)
    (case l27 => k_is)
    (case c27 => k_is)
    (case k27 => k_is)
    (case a28 => k_is)
    (case l28 => k_is)
    (case c28 => k_is)
    (case k28 => k_is)
    (case a29 => k_is)
    (case l29 => k_is)
    (case c29 => k_is)
    (case k29 => k_is)
    (case a30 => k_is)
    (case l30 => k_is)
    (case c30 => k_is)
    (case k30 => k_is)
    (case a31 => k_is)
    (case l31 => k_is)
    (case c31 => k_is)
    (case k31 => k_is)
    (case z_abs => k_is)
    (case z_all => k_is)
    (case z_bool => k_is)
    (case z_int => k_is)
    (case z_isinstance => k_is)
    (case z_len => k_is)
    (case z_list => k_is)
    (case z_range => k_is)
    (case z_set => k_is)
    (case z_sorted => k_is)
    (case z_str => k_is)
    (case z_tuple => k_is)
    (case g_GREATEST => k_is)
    (case g_LETTERS => k_is)
    (case g_WORDS => k_is)
    (case h_WORDS => k_is)

