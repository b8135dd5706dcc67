import PyProof.Rows.All
import Wide.All
import OpenK.AllK
import Wide.FinOn
import PySem.Challenge.RW_xm0704_01
set_option Elab.async false

namespace Mine
open PySem PySem.W PyProof.Rows
set_option maxRecDepth 100000 in
set_option maxHeartbeats 8000000 in
open_top hd for PySem.Challenge.rw_xm0704_01
end Mine

namespace Mine
open PySem PySem.W PyProof.Rows
set_option maxRecDepth 100000
abbrev MStr := PySem.Str
abbrev MVal := PySem.Value
abbrev MObj := PySem.Obj
abbrev MAddr := PySem.Addr
abbrev Led := List (MAddr × MObj)

/-- what a call of a def does, from any function's frame: `R r news'` tells what comes back and the new ledger -/
def Ctr (w : World) (mean : ExcName → Option Value) (mg mb : MStr → Option Value) (f : MAddr) (vs : List Value) (news : Led) (need : Nat) (R : Value → Led → Prop) : Prop :=
  ∀ (dp un : Nat) (gd : Option (List Code)) (cn : MStr) (cs : Scope) (a : MAddr) (ccd : Value) (cl : List (MStr × MAddr)) (outer : List Env) (A₀ : Around) (base h₀ : Heap) (L : MAddr) (m : MStr → Option Value) (s : Shared) (Q E : Value → Shared → Prop),
    Below A₀ base outer h₀ → Fr h₀ L s.heap m → (Mine.hd.heap_39 w.params).In h₀ → News h₀ L s.heap news → Top Mine.hd.view_39 (looseW Mine.hd.view_39 []) mean mg mb h₀ → cs.kind = .function →
    dp + need < recursionLimit → un + 8 * need < cLine →
    (∀ r news' h' tk', Fr h₀ L h' m → News h₀ L h' news' → R r news' → Q r { s with heap := h', toks := tk' }) →
    wpAny (model PySem.Challenge.rw_xm0704_01.prog w) (ktrTop dp un gd cn cs L a ccd cl outer) (call (.ref f) vs) Q E s

theorem fill : (PySem.Challenge.rw_xm0704_01 = PySem.Challenge.rw_xm0704_01) ∧ (Mine.hd.heap_39 = Mine.hd.heap_39) := by
  w_top off; k_fill; exact ⟨rfl, rfl⟩

/-- the pool that the draws come from: two ints -/
def SrcOk (o : MObj) : Prop := ∃ (a b : Int) (ta tb : Tok) (n : Nat), o = W.listOf #[Value.int a ta, Value.int b tb] n ∧ 0 ≤ a ∧ 0 ≤ b ∧ b < 2147483647

theorem mul_bits {x : Int} (h0 : 0 ≤ x) (h1 : x < 2147483647) (y : Int) : IntMulOk x y := IntMulOk.of_left (intBits_le_64 (by omega) (by omega))
theorem fmod_pos {x k : Int} (hk : 0 < k) : 0 ≤ x.fmod k ∧ x.fmod k < k := ⟨Int.fmod_nonneg_of_pos x hk, Int.fmod_lt_of_pos x hk⟩

local macro_rules | `(tactic| k_all) => `(tactic| with_reducible assumption)
local macro_rules | `(tactic| walk_at "binaryOp Mult int int") => `(tactic| ((with_reducible show wpAny _ _ (binaryOp Operator.Mult (Value.int (List.getD _ _ _) _) (Value.int (List.getD _ _ _) _)) _ _ _); refine mul_int ?_ (mul_bits (fmod_pos (by decide)).1 (fmod_pos (by decide)).2 _)))

theorem take_ctr {w : World} {mean mg mb} {src : MAddr} {o : MObj} {rest : Led} {top : Int} {tt : Tok}
    (hoff : ∀ p ∈ rest, p.1 ≠ src) (ho : SrcOk o) (ht : 0 < top) (ht' : top < 1000) :
    Ctr w mean mg mb 65 [.ref src, .int top tt] ((src, o) :: rest) 1 (fun r news' => ∃ v tv o', r = .int v tv ∧ 0 ≤ v ∧ v < top ∧ SrcOk o' ∧ news' = (src, o') :: rest) := by
  obtain ⟨a, b, ta, tb, n, rfl, ha, hb, hb'⟩ := ho
  intro dp un gd cn cs ac ccd cl outer A₀ base h₀ L m s Q E B F X N T hk hd hu hret
  refine wpAny_call ?_
  k_dflt ktr_enter
  k_steps
  · refine hret _ _ _ _ (by k_asm) (by k_asm) ⟨_, _, _, rfl, (fmod_pos ht).1, (fmod_pos ht).2, ⟨_, _, _, _, _, rfl, ?_, hb, hb'⟩, rfl⟩
    exact Int.fdiv_nonneg ha (Int.le_of_lt ht)
  · refine hret _ _ _ _ (by k_asm) (by k_asm) ⟨_, _, _, rfl, (fmod_pos ht).1, (fmod_pos ht).2, ⟨_, _, _, _, _, rfl, ha, ?_, ?_⟩, rfl⟩
    · exact (fmod_pos (by decide)).1
    · exact (fmod_pos (by decide)).2
end Mine

namespace Mine
open PySem PySem.W PyProof.Rows
set_option maxRecDepth 100000
/-! A conjunct out of a chain, without opening the context: the proofs stay small. -/
theorem dgR {P Q R : Prop} (k : Q → R) (h : P ∧ Q) : R := k h.2
theorem dgL {P Q R : Prop} (k : P → R) (h : P ∧ Q) : R := k h.1
theorem dgO {P R : Prop} (h : P) (k : P → R) : R := k h
theorem dgC {a b x : Nat} {q : Prop} (h : x < b ∧ q) (k : x < b ∧ q → a < b) : a < b := k h

/-- a contract used: its frame's facts in one bundle -/
theorem ctr_use {w : World} {mean mg mb} {f : MAddr} {vs : List Value} {news : Led} {need : Nat} {R : Value → Led → Prop} (C : Ctr w mean mg mb f vs news need R)
    {dp un : Nat} {gd : Option (List Code)} {cn : MStr} {cs : Scope} {a : MAddr} {ccd : Value} {cl : List (MStr × MAddr)} {outer : List Env} {A₀ : Around} {base h₀ : Heap} {L : MAddr} {m : MStr → Option Value} {s : Shared} {Q E : Value → Shared → Prop}
    (N : News h₀ L s.heap news)
    (K : Below A₀ base outer h₀ ∧ Fr h₀ L s.heap m ∧ (Mine.hd.heap_39 w.params).In h₀ ∧ Top Mine.hd.view_39 (looseW Mine.hd.view_39 []) mean mg mb h₀ ∧ cs.kind = .function ∧ dp + need < recursionLimit ∧ un + 8 * need < cLine)
    (k : ∀ r news' h' tk', Fr h₀ L h' m → News h₀ L h' news' → R r news' → Q r { s with heap := h', toks := tk' }) :
    wpAny (model PySem.Challenge.rw_xm0704_01.prog w) (ktrTop dp un gd cn cs L a ccd cl outer) (call (.ref f) vs) Q E s :=
  C dp un gd cn cs a ccd cl outer A₀ base h₀ L m s Q E K.1 K.2.1 K.2.2.1 N K.2.2.2.1 K.2.2.2.2.1 K.2.2.2.2.2.1 K.2.2.2.2.2.2 k
end Mine

namespace Mine
open PySem PySem.W PyProof.Rows
set_option maxRecDepth 100000
local macro_rules | `(tactic| walk_at "mine pad0") => `(tactic| skip)
local macro_rules | `(tactic| walk_at "mine pad1") => `(tactic| skip)
theorem fill2 : (PySem.Challenge.rw_xm0704_01 = PySem.Challenge.rw_xm0704_01) ∧ (Mine.hd.heap_39 = Mine.hd.heap_39) := by
  w_top off; k_fill; exact ⟨rfl, rfl⟩

section
variable {h₀ h : Heap} {L : MAddr} {x e₁ e₂ e₃ e₄ e₅ e₆ : MAddr × MObj} {rest : Led}
theorem pull1 (N : News h₀ L h (e₁ :: x :: rest)) : News h₀ L h (x :: e₁ :: rest) := cb_drop N (by simp; try grind)
theorem pull2 (N : News h₀ L h (e₁ :: e₂ :: x :: rest)) : News h₀ L h (x :: e₁ :: e₂ :: rest) := cb_drop N (by simp; try grind)
theorem pull3 (N : News h₀ L h (e₁ :: e₂ :: e₃ :: x :: rest)) : News h₀ L h (x :: e₁ :: e₂ :: e₃ :: rest) := cb_drop N (by simp; try grind)
theorem pull4 (N : News h₀ L h (e₁ :: e₂ :: e₃ :: e₄ :: x :: rest)) : News h₀ L h (x :: e₁ :: e₂ :: e₃ :: e₄ :: rest) := cb_drop N (by simp; try grind)
theorem pull5 (N : News h₀ L h (e₁ :: e₂ :: e₃ :: e₄ :: e₅ :: x :: rest)) : News h₀ L h (x :: e₁ :: e₂ :: e₃ :: e₄ :: e₅ :: rest) := cb_drop N (by simp; try grind)
theorem pull6 (N : News h₀ L h (e₁ :: e₂ :: e₃ :: e₄ :: e₅ :: e₆ :: x :: rest)) : News h₀ L h (x :: e₁ :: e₂ :: e₃ :: e₄ :: e₅ :: e₆ :: rest) := cb_drop N (by simp; try grind)
end

section
variable {prog : Program} {w : World} {A : Around} {E : Value → Shared → Prop} {s : Shared} {h₀ : Heap} {L l : MAddr} {news : Led} {vs : List Value} {n : Nat} {k : Int} {u : Tok}
theorem list_len {Q : Value → Shared → Prop} (N : News h₀ L s.heap news) (hm : (l, W.listOf vs.toArray n) ∈ news) (hz : vs.length < 1000) (h : Q (.int (vs.length : Nat) (s.toks + 1)) { s with toks := s.toks + 1 + 1 }) :
    wpAny (model prog w) A (call (.builtin "len") [.ref l]) Q E s := by
  have hl : s.heap.IsList l vs.toArray := ⟨_, (N _ hm).1, rfl, n, rfl⟩
  refine Calls.call_len_list hl (by rw [List.size_toArray]; omega) ?_
  rw [List.size_toArray]
  exact h
theorem list_item {value slice : PySem.Expr} {Q : Value → Shared → Prop} (N : News h₀ L s.heap news) (hm : (l, W.listOf vs.toArray n) ∈ news) (hz : vs.length < 1000) (h0 : 0 ≤ k) (h1 : k < vs.length) (h : ∀ v, vs[k.toNat]? = some v → Q v s)
    (hs : subscripted slice false (.ref l) (.int k u) = operate [.ref l, .int k u] (getItem (.ref l) (.int k u)) := by with_unfolding_all rfl) :
    wpAny (model prog w) A (subscriptTail value slice (.ref l) (.int k u)) Q E s := by
  have hl : s.heap.IsList l vs.toArray := ⟨_, (N _ hm).1, rfl, n, rfl⟩
  have hk : k.toNat < vs.length := by omega
  exact tail_any hl.typeIs slot_list_getitem.lookup (wpAny_getItem_list hl h0 (by omega) (x := vs[k.toNat]) (by simp [hk]) (h _ (by simp [hk]))) hs
end

theorem memL {x : MAddr × MObj} {l : Led} (h : x ∈ l) : List.Mem x l := h
local macro_rules | `(tactic| walk_at "mine pull") => `(tactic| first | k_asm | exact pull1 (by k_asm) | exact pull2 (by k_asm) | exact pull3 (by k_asm) | exact pull4 (by k_asm) | exact pull5 (by k_asm) | exact pull6 (by k_asm))
local macro_rules | `(tactic| walk_at "mine kk") => `(tactic| (refine ⟨?k1, ?k2, ?k3, ?k5, ?kK, ?kd, ?ku⟩; (case k1 => k_asm); (case k2 => k_asm); (case k3 => k_asm); (case k5 => k_asm); (case kK => first | exact rfl | assumption); (case kd => ktr_room); (case ku => ktr_units)))
local macro_rules | `(tactic| walk_at "mine end") => `(tactic| ((try k_sweep); (try dsimp only); (try k_fold)))
local macro_rules | `(tactic| k_mem) => `(tactic| first | (with_reducible assumption) | exact memL (by with_reducible assumption))
local macro_rules | `(tactic| k_all) => `(tactic| with_reducible assumption)
local macro_rules | `(tactic| walk_at "call builtin:len") => `(tactic| (k_here; (with_reducible show wpAny _ _ (call (Value.builtin "len") [Value.ref _]) _ _ _); k_dflt (refine' list_len ?k1 ?k2 ?k3 ?_; (case k1 => k_asm); (case k2 => k_mem); (case k3 => with_reducible assumption); k_whole)))
local macro_rules | `(tactic| walk_at "subscriptTail") => `(tactic| (k_here; (with_reducible show wpAny _ _ (subscriptTail _ _ (Value.ref _) (Value.int _ _)) _ _ _); k_dflt (refine' list_item ?k1 ?k2 ?k3 ?k4 ?k5 ?_ ?k6; (case k1 => k_asm); (case k2 => k_mem); (case k3 => with_reducible assumption); (case k4 => first | assumption | omega); (case k5 => first | assumption | omega); (case k6 => with_unfolding_all rfl); k_whole); intro v' hv'))
local macro_rules | `(tactic| walk_at "call ref") => `(tactic| (k_here; (with_reducible show wpAny _ _ (call (Value.ref 65) _) _ _ _); k_dflt (refine' ctr_use (take_ctr ?hoff ?ho ?ht ?ht') ?k4 ?kk ?_; (case k4 => walk_at "mine pull"); (case hoff => k_all); (case ho => assumption); (case ht => first | decide | omega); (case ht' => first | decide | omega); (case kk => walk_at "mine kk"); k_whole); intro r' news' h' tk' F' N' hR; obtain ⟨v', tv', o', e1', hv0', hv1', hO', e2'⟩ := hR; subst e1' e2'; walk_at "mine end"))

theorem one_ctr {w : World} {mean mg mb} {src l : MAddr} {o : MObj} {rest : Led} {vs : List Value} {n : Nat}
    (hoff : ∀ p ∈ rest, p.1 ≠ src) (ho : SrcOk o) (hm : (l, W.listOf vs.toArray n) ∈ rest) (h0 : 0 < vs.length) (h1 : vs.length < 1000) :
    Ctr w mean mg mb 72 [.ref src, .ref l] ((src, o) :: rest) 2 (fun r news' => ∃ o', r ∈ vs ∧ SrcOk o' ∧ news' = (src, o') :: rest) := by
  intro dp un gd cn cs ac ccd cl outer A₀ base h₀ L m s Q E B F X N T hk hd hu hret
  refine wpAny_call ?_
  k_dflt ktr_enter
  k_steps
  exact hret _ _ _ _ (by k_asm) (by k_asm) ⟨_, List.mem_of_getElem? (by assumption), by assumption, rfl⟩
end Mine

namespace Mine
open PySem PySem.W PyProof.Rows
set_option maxRecDepth 100000
theorem fill3 : (PySem.Challenge.rw_xm0704_01 = PySem.Challenge.rw_xm0704_01) ∧ (Mine.hd.heap_39 = Mine.hd.heap_39) := by
  w_top off; k_fill; exact ⟨rfl, rfl⟩

abbrev sheetMro : List Value := [.ref 31, .type "Exception", .type "BaseException", .type "object"]
theorem sheet_obj {w : World} {h : Heap} (X : (Mine.hd.heap_39 w.params).In h) : ∃ (nm q : MStr) (bs : List Value) (hdct : Bool) (sn : List MStr) (sub : List Value) (ab : Bool) (col : Option Bool) (dd : Option MAddr) (k0 k1 k2 k3 k5 : Option Value),
    h.get? 44 = some (excClassObj nm q 44 43 bs sheetMro hdct sn sub ab col dd k0 k1 k2 k3 k5 "Exception.__new__") := by
  exact ⟨_, _, _, _, _, _, _, _, _, _, _, _, _, _, X 44 _ (by k_is)⟩
theorem sheet_init {w : World} : findIn (Mine.hd.heap_39 w.params) (.ref 44) "__init__" = some (some (.ref 28)) := by k_is
theorem init_fn {w : World} : typeIn (Mine.hd.heap_39 w.params) (.ref 28) = some (.type "function") := by k_is

abbrev excO (t : MAddr) (d : Option MAddr) : MObj := { cls := .ref 44, dict := d, data := .fields #[.ref t, .none, .none, .none, .bool false, .none] }

section
variable {prog : Program} {w : World} {A : Around} {R : Result → Shared → Prop} {h : Heap} {g : Array GenState} {d : Drawn} {t : Nat} {os : OsState}
/-- the birth of a SheetFault -/
theorem sheet_new (X : (Mine.hd.heap_39 w.params).In h) {rest : List Value} (hrest : rest.length ≤ sizeLine)
    (hq : R (.ok (.ret (.ref (h.objs.size + 1)))) ⟨(h.push { cls := .type "tuple", data := .seq rest.toArray }).push (excO h.objs.size none), g, d, t, os⟩) :
    codeAny (model prog w) A (.builtin "Exception.__new__" ⟨.ref 44 :: rest, []⟩) R ⟨h, g, d, t, os⟩ := by
  obtain ⟨nm, q, bs, hdct, sn, sub, ab, col, dd, k0, k1, k2, k3, k5, hC⟩ := sheet_obj X
  have Fx := PySem.F.excBase_Exception
  have hends := Fx.ends
  have hcB : (Value.ref 44 :: sheetMro).contains (.type "Exception") = true := by decide +kernel
  have hcA : (Value.ref 44 :: sheetMro).contains (.type "AttributeError") = false := by decide +kernel
  have hcN : (Value.ref 44 :: sheetMro).contains (.type "NameError") = false := by decide +kernel
  refine codeAny_builtinAt Fx.entry ?_
  unfold Builtin.«BaseException.__new__»
  refine _root_.PySem.wpAt_bind ?_
  show _root_.PySem.wpAt _ _ _ (stack >>= _) _ _ _
  refine _root_.PySem.wpAt_bind (_root_.PySem.wpAt_stack fun p below => _root_.PySem.wpAt_of_wpAny ?_)
  wp_walk
  refine _root_.PySem.wpAt_of_wpAny ?_
  rw [Fx.owner]
  repeat (first | with_reducible refine wpAny_madeHere_exc Fx.canon hC ?_ | with_reducible refine wpAny_loadPart_at hC ?_ | (with_reducible refine wpAny_isSubtype_exc hC ?_; first | rw [hcB] | rw [hcA] | rw [hcN]) | wp_step)
  show R _ _
  rw [Heap.size_push]
  exact hq
end

section
variable {prog : Program} {w : World} {A : Around} {E : Value → Shared → Prop} {h : Heap} {g : Array GenState} {d : Drawn} {t : Nat} {os : OsState}
/-- SheetFault(msg), up to the call of the __init__ that it inherits -/
theorem sheet_type_call (X : (Mine.hd.heap_39 w.params).In h) {rest : List Value} {Q : Fin → Shared → Prop} (hrest : rest.length ≤ sizeLine)
    (hq : wpAny (model prog w) A (call (.ref 28) (.ref (h.objs.size + 1) :: rest)) (fun r s' => r = .none ∧ Q (.done (.ret (.ref (h.objs.size + 1)))) s') E
      ⟨(h.push { cls := .type "tuple", data := .seq rest.toArray }).push (excO h.objs.size none), g, d, t, os⟩) :
    wpAny (model prog w) A (Builtin.«type.__call__» ⟨.ref 44 :: rest, []⟩) Q E ⟨h, g, d, t, os⟩ := by
  obtain ⟨nm, q, bs, hdct, sn, sub, ab, col, dd, k0, k1, k2, k3, k5, hC⟩ := sheet_obj X
  have Fx := PySem.F.excBase_Exception
  have hcB : (Value.ref 44 :: sheetMro).contains (.type "Exception") = true := by decide +kernel
  have hcC : (Value.ref 44 :: sheetMro).contains (.ref 44) = true := by decide +kernel
  repeat (first | with_reducible refine wpAny_loadPart_at hC ?_ | with_reducible refine wpAny_madeBy_exc hC ?_ | wp_step)
  have hstar := Fx.noStar
  refine codeAny_call_builtin_code (Code.quiet_builtin _ Fx.quiet) ?_
  simp only [checkBuiltinCall, Fx.newKind, Fx.newSplit, Fx.newRow]
  repeat (first | refine wpAny_loadPart_at hC ?_ | (refine wpAny_isSubtype_exc hC ?_; rw [hcB]) | refine wpAny_staticBase_exc hC ?_ | refine wpAny_madeBy_exc hC ?_ | simp only [bne_self_eq_false, Bool.false_eq_true, if_false] | wp_step)
  refine sheet_new X hrest ?_
  have up : ∀ b o, h.get? b = some o → ((h.push { cls := .type "tuple", data := .seq rest.toArray }).push (excO h.objs.size none)).get? b = some o := fun b o e => Heap.get?_push_of_some _ (Heap.get?_push_of_some _ e)
  have hC₁ := up _ _ hC
  have X₁ := Frag.In.keeps X up
  have hget : ((h.push { cls := .type "tuple", data := .seq rest.toArray }).push (excO h.objs.size none)).get? (h.objs.size + 1) = some (excO h.objs.size none) := by heap_get
  have hi := looks_findIn (M := model prog w) X₁ sheet_init
  have hb := bind_fn (M := model prog w) X₁ (.ref (h.objs.size + 1)) init_fn
  show wpAny _ _ _ _ _ _
  unfold isInstance
  repeat (first | with_reducible refine wpAny_loadPart_at hget ?_ | (with_reducible refine wpAny_isSubtype_exc hC₁ ?_; rw [hcC]) | wp_step)
  show wpAny _ _ (typeLookup (.ref 44) _) _ _ _
  refine Looks.at hi ?_
  refine wpAny_holding (wpAny_bind (Looks.at hb ?_))
  refine wpAny_bind (wpAny_mono hq (fun r s' hr => ?_) fun _ _ x => x)
  obtain ⟨rfl, hQ⟩ := hr
  wp_walk
  exact hQ

theorem sheet_call (X : (Mine.hd.heap_39 w.params).In h) {rest : List Value} {Q : Value → Shared → Prop} (hrest : rest.length ≤ sizeLine)
    (hq : wpAny (model prog w) (A.under (.builtin "type.__call__" ⟨.ref 44 :: rest, []⟩)) (call (.ref 28) (.ref (h.objs.size + 1) :: rest)) (fun r s' => r = .none ∧ Q (.ref (h.objs.size + 1)) s') E
      ⟨(h.push { cls := .type "tuple", data := .seq rest.toArray }).push (excO h.objs.size none), g, d, t, os⟩) :
    wpAny (model prog w) A (call (.ref 44) rest) Q E ⟨h, g, d, t, os⟩ := by
  obtain ⟨nm, q, bs, hdct, sn, sub, ab, col, dd, k0, k1, k2, k3, k5, hC⟩ := sheet_obj X
  have f1 := tc_lookup
  have f2 := tc_bind (.ref 44)
  have hT : (⟨h, g, d, t, os⟩ : Shared).TypeIs (.ref 44) "type" := ⟨_, hC, rfl⟩
  refine wpAny_call (codeAny_of_tree ?_)
  show wpAny _ _ (callAny (.ref 44) _) _ _ _
  repeat (any_goals (first | assumption | with_reducible refine wpAny_loadPart_at hC ?_ | wp_step))
  refine ⟨rfl, ?_⟩
  refine codeAny_call_builtin_at (Code.quiet_builtin _ (by decide +kernel)) entry_typeCall (wpAny_check_type_call_sub hC (sheet_type_call X hrest ?_))
  exact hq
end
end Mine

namespace Mine
open PySem PySem.W PyProof.Rows
set_option maxRecDepth 100000
set_option maxHeartbeats 400000
theorem fill4 : (PySem.Challenge.rw_xm0704_01 = PySem.Challenge.rw_xm0704_01) ∧ (Mine.hd.heap_39 = Mine.hd.heap_39) := by
  w_top off; k_fill; exact ⟨rfl, rfl⟩

abbrev msgD (w : World) (tk : Tok) (v : Value) : MObj := W.dictOf [⟨PyData.keyHash w.params "message", .str "message" tk, v⟩] 1
theorem sheet_cls {w : World} : ∃ cd, clsIn (Mine.hd.heap_39 w.params) 44 = some cd ∧ cd.mro = .ref 44 :: sheetMro ∧ cd.hasDict = true := ⟨_, by k_is, rfl, rfl⟩
theorem sheet_set {w : World} : findIn (Mine.hd.heap_39 w.params) (.ref 44) "__setattr__" = some (some (.builtin "object.__setattr__")) := by k_is
theorem sheet_get {w : World} : findIn (Mine.hd.heap_39 w.params) (.ref 44) "__getattribute__" = some (some (.builtin "BaseException.__getattribute__")) := by k_is
theorem sheet_noget {w : World} : findIn (Mine.hd.heap_39 w.params) (.ref 44) "__getattr__" = some none := by k_is
theorem init_code {w : World} : codeIn (Mine.hd.heap_39 w.params) (.ref 27) "MillError.__init__" = true := by k_is
theorem sheet_msg {w : World} : findIn (Mine.hd.heap_39 w.params) (.ref 44) "message" = some none := by k_is
theorem pass_exc (self : Value) : Builtin.ObjectAttr.refuseIfOverridden self "__setattr__" = typeOf self >>= fun tp => mroOf tp >>= fun l => refuseLoop self "__setattr__" l := rfl
theorem pass_mro (self : Value) : refuseLoop self "__setattr__" (.ref 44 :: sheetMro) = pure () := by
  rw [refuseLoop_ref, refuseLoop_ref]
  kernel_rfl

section
variable {prog : Program} {w : World} {A : Around} {E : Value → Shared → Prop} {s : Shared} {x t : MAddr} {v : Value}
theorem set_msg {Q : Unit → Shared → Prop} (X : (Mine.hd.heap_39 w.params).In s.heap) (hx : s.heap.get? x = some (excO t none))
    (hq : ∀ h' d tk tk', (∀ b o, b ≠ x → s.heap.get? b = some o → h'.get? b = some o) → h'.get? x = some (excO t (some d)) → s.heap.get? d = none → h'.get? d = some (msgD w tk v) → Q () { s with heap := h', toks := tk' }) :
    wpAny (model prog w) A (setAttr (.ref x) "message" v) Q E s := by
  have I : W.InstAt s.heap x (excO t none) 44 none := ⟨hx, rfl, rfl, trivial⟩
  have SF := PySem.F.store_object
  obtain ⟨cd, hc, hmro, hdict⟩ := sheet_cls (w := w)
  have sub : Looks (model prog w) s.heap (isInstance (.ref x) (.type "object")) true := I.type.andThen (looks_mroIn X (by unfold mroIn; rw [hc, Option.bind_some, hmro]; rfl))
  have hm : Looks (model prog w) s.heap (mroOf (.ref 44)) cd.mro := (looks_clsIn X hc).andThen .now
  refine set_plain X I sheet_set ?_
  refine codeAny_call_builtin SF.slot.plain SF.entry (@check_slot (model prog w) _ _ _ "object.__setattr__" "object" "__setattr__" (.ref x) [.str "message" s.toks, v] [] _ SF.kind SF.split sub (SF.args (.ref x) (.str "message" s.toks) v) ?_)
  rw [osa_eq, pass_exc]
  refine wpAny_bind (wpAny_bind (Looks.here I.type (wpAny_bind (Looks.here hm ?_))))
  rw [hmro, pass_mro]
  refine wpAny_pure (wpAny_bind (Looks.here I.type (wpAny_bind (Looks.here (looks_findIn X sheet_msg) (wpAny_bind (wpAny_pure ?_))))))
  have D₁ : ∀ g', (s.heap.push W.emptyDict).update x g' = (s.heap.push W.emptyDict).update x g' := fun _ => rfl
  obtain ⟨hh, gs, dr, tk, os⟩ := s
  dsimp only at X hx hq ⊢
  have hxd : hh.objs.size ≠ x := Nat.ne_of_gt (Heap.lt_size hx)
  have hx₁ : (hh.push W.emptyDict).get? x = some (excO t none) := Heap.get?_push_of_some _ hx
  have hx₂ : ((hh.push W.emptyDict).update x (fun o => { o with dict := some hh.objs.size })).get? x = some (excO t (some hh.objs.size)) := Heap.get?_update_self _ hx₁ rfl
  have hd₂ : ((hh.push W.emptyDict).update x (fun o => { o with dict := some hh.objs.size })).get? hh.objs.size = some W.emptyDict :=
    (Heap.get?_update_other _ _ (Ne.symm hxd)).trans (Heap.get?_push_size _ rfl)
  have old : ∀ b o, b ≠ x → hh.get? b = some o → ((hh.push W.emptyDict).update x (fun o => { o with dict := some hh.objs.size })).get? b = some o := fun b o hb e =>
    (Heap.get?_update_other _ _ (Ne.symm hb)).trans (Heap.get?_push_of_some _ e)
  unfold Builtin.ObjectAttr.storeInOwnDict
  refine wpAny_bind (wpAny_pure ?_)
  refine wpAny_bind ?_
  unfold Builtin.ObjectAttr.ownDictForStores instanceDict
  refine wpAny_bind (wpAny_loadPart hx ?_)
  dsimp only
  refine wpAny_bind (Looks.here (looks_clsIn X hc) ?_)
  rw [hdict]
  refine wpAny_bind (wpAny_alloc ?_)
  refine wpAny_bind (wpAny_update hx₁ ?_)
  refine wpAny_pure (a := some hh.objs.size) ?_
  refine wpAny_bind (wpAny_pure ?_)
  unfold nsSet
  refine wpAny_bind (wpAny_bind (wpAny_bind (wpAny_askSetting (wpAny_pure (wpAny_bind (wpAny_mkText (wpAny_bind (wpAny_loadPart hd₂ ?_))))))))
  dsimp only
  have c : aRefKeyMayBeTheName "message" (#[] : Array DictEntry) = false := by decide +kernel
  rw [c]
  refine wpAny_updatePart hd₂ ?_
  have hput : Obj.putName "message" (PyData.keyHash w.params "message") (.str "message" (tk + 1)) v W.emptyDict = msgD w (tk + 1) v := by
    rw [show W.emptyDict = W.dictOf [] 0 from rfl, putName_dict]
    rfl
  have hd₃ := Heap.get?_update_self (Obj.putName "message" (PyData.keyHash w.params "message") (.str "message" (tk + 1)) v) hd₂ (by rw [hput]; rfl)
  rw [hput] at hd₃
  refine wpAny_bind (wpAny_lookBehind hd₃ (pastItsLine_dict (show 1 ≤ sizeLine + 1 by omega)) ?_)
  refine wpAny_pure (hq _ hh.objs.size (tk + 1) _ (fun b o hb e => ?_) ?_ (Heap.get?_none_of_le (Nat.le_refl _)) hd₃)
  · rw [Heap.get?_update_other _ _ (Nat.ne_of_gt (Heap.lt_size e))]
    exact old b o hb e
  · rw [Heap.get?_update_other _ _ hxd]
    exact hx₂

theorem ga_slot : Slot "Exception" "__getattribute__" "BaseException.__getattribute__" := PySem.F.attr_Exception.ga
theorem msg_found {w : World} {tk : Tok} {v : Value} : findObj (Mine.hd.heap_39 w.params) 44 (some (msgD w tk v)) "message" = some (.value v) := by
  obtain ⟨cd, hc, hmro, hdict⟩ := sheet_cls (w := w)
  unfold findObj
  rw [hc, Option.bind_some, sheet_msg, Option.bind_some]
  have ho : W.ownOf cd (some (msgD w tk v)) "message" = some (some v) := by unfold W.ownOf; rw [if_pos hdict]; rfl
  simp [ho]

theorem get_msg {ox : MObj} {tk : Tok} {expr : Bool} {Q : Value → Shared → Prop} (X : (Mine.hd.heap_39 w.params).In s.heap) (I : W.InstAt s.heap x ox 44 (some (msgD w tk v))) (hv : handedIn v = true)
    (hq : Q v { s with toks := s.toks + 1 }) : wpAny (model prog w) A (getAttr (.ref x) "message" expr) Q E s := by
  obtain ⟨hh, gs, dr, tk0, os⟩ := s
  dsimp only at X I hq
  obtain ⟨cd, hc, hmro, hdict⟩ := sheet_cls (w := w)
  have L0 := I.type (M := model prog w)
  have L1 := looks_findIn (M := model prog w) X sheet_get
  have L2 := looks_findIn (M := model prog w) X sheet_noget
  have L3 := looks_find (M := model prog w) X I msg_found
  have sub : Looks (model prog w) hh (isInstance (.ref x) (.type "BaseException")) true := I.type.andThen (looks_mroIn X (by unfold mroIn; rw [hc, Option.bind_some, hmro]; rfl))
  have f3 := ga_slot.bind (.ref x)
  have hx0 : (expr && onTheHeap (Value.builtin "BaseException.__getattribute__")) = false := by cases expr <;> rfl
  have hx2 : (Value.builtin "BaseException.__getattribute__" == Value.builtin "object.__getattribute__") = false := by decide +kernel
  have hx1 : (onTheHeap (Value.ref 44) && Value.builtin "BaseException.__getattribute__" == Value.builtin "object.__getattribute__") = false := by rw [hx2]; rfl
  have hk : builtinKind "BaseException.__getattribute__" = some .slot := by decide +kernel
  have hsplit : splitId "BaseException.__getattribute__" = some ("BaseException", "__getattribute__") := by decide +kernel
  unfold getAttr
  refine wpAny_bind (wpAny_mkText ?_)
  unfold getAttrBy
  refine wpAny_holding (wpAny_bind (Looks.at L0 (wpAny_bind (Looks.at L1 ?_))))
  dsimp only
  rw [hx1]
  unfold getAttrByItsOwn hookBefore
  refine wpAny_bind (Looks.at L2 ?_)
  refine wpAny_bind (wpAny_attempt (wpAny_holding ?_))
  unfold callGetattribute
  rw [hx0]
  unfold boundAndCalled
  show wpAny _ _ (bindSpecial _ _ >>= _) _ _ _
  rw [f3]
  refine wpAny_bind (wpAny_pure (wpAny_call ?_))
  refine codeAny_call_builtin ga_slot.plain PySem.F.entry_bexc_ga ?_
  have ha := PySem.F.args_bexc_ga (.ref x) (.str "message" tk0)
  refine @check_slot (model prog w) _ _ _ "BaseException.__getattribute__" "BaseException" "__getattribute__" (.ref x) [.str "message" tk0] [] _ hk hsplit sub ha ?_
  unfold Builtin.«object.__getattribute__»
  refine wpAny_bind (wpAny_pure ?_)
  dsimp only
  refine wpAny_bind (wpAny_pure (wpAny_bind (Looks.at L0 (wpAny_bind (Looks.at L3 ?_)))))
  refine wpAny_pure ?_
  show wpAny _ _ (handedOut v) _ _ _
  rw [handedOut_of hv]
  exact wpAny_pure hq

theorem init_call {Q : Value → Shared → Prop} (X : (Mine.hd.heap_39 w.params).In s.heap) (hlim : s.heap.NoLimit) (hroom : A.depth < recursionLimit) (hx : s.heap.get? x = some (excO t none))
    (hq : ∀ h' d tk tk', (∀ b o, b ≠ x → s.heap.get? b = some o → h'.get? b = some o) → h'.get? x = some (excO t (some d)) → s.heap.get? d = none → h'.get? d = some (msgD w tk v) → Q .none { s with heap := h', toks := tk' }) :
    wpAny (model prog w) A (call (.ref 28) [.ref x, v]) Q E s := by
  refine wpAny_call (codeAny_call_def hroom (X 28 _ (by k_is)) rfl hlim (codeRec_of X init_code) rfl (BindsTo.of_eq rfl) (by decide) (locs rfl) (fun h₁ hns hk => ?_))
  have F : Fr s.heap s.heap.objs.size h₁ _ := ⟨hns, hk, Nat.le_refl _⟩
  have X₁ := Frag.In.keeps X hk
  k_steps
  refine set_msg X₁ (hk _ _ hx) (fun h' d tk tk' hkeep hx' hd hd' => ?_)
  have hdn : s.heap.get? d = none := by
    cases q : s.heap.get? d with
    | none => rfl
    | some o => have := hk d o q; rw [hd] at this; cases this
  have fin := hq h' d tk tk' (fun b o hb e => hkeep b o hb (hk b o e)) hx' hdn hd'
  k_steps
  exact fin
end
end Mine

namespace Mine
open PySem PySem.W PyProof.Rows
set_option maxRecDepth 100000
set_option maxHeartbeats 1000000
theorem fill5 : (PySem.Challenge.rw_xm0704_01 = PySem.Challenge.rw_xm0704_01) ∧ (Mine.hd.heap_39 = Mine.hd.heap_39) := by
  w_top off; k_fill; exact ⟨rfl, rfl⟩

/-- h' is h with a SheetFault e more, its own dict d holds the message -/
structure MadeD (w : World) (msg : MStr) (h h' : Heap) (e d : MAddr) : Prop where
  keeps : ∀ b o, h.get? b = some o → h'.get? b = some o
  newE : h.get? e = none
  newD : h.get? d = none
  obj : ∃ t, h'.get? e = some (excO t (some d))
  dict : ∃ tk tv, h'.get? d = some (msgD w tk (.str msg tv))

section
variable {prog : Program} {w : World} {A : Around} {E : Value → Shared → Prop} {s : Shared} {env : Env}
theorem raise_stmt {x : Sem Value} {Q : Flow → Shared → Prop} (hh : A.handled = none)
    (h : wpAny (model prog w) A x (fun v s₁ => ∃ e t d, v = .ref e ∧ (Mine.hd.heap_39 w.params).In s₁.heap ∧ s₁.heap.get? e = some (excO t (some d)) ∧ E (.ref e) s₁) E s) :
    wpAny (model prog w) A (raiseStmt env (some x) none) Q E s := by
  have hcB : (Value.ref 44 :: sheetMro).contains (.type "BaseException") = true := by decide +kernel
  unfold raiseStmt
  refine wpAny_bind (wpAny_mono h (fun v s₁ h₁ => ?_) fun _ _ x => x)
  obtain ⟨e, t, d, rfl, X, he, hE⟩ := h₁
  obtain ⟨hp, g, dr, tk, os⟩ := s₁
  dsimp only at X he
  obtain ⟨nm, q, bs, hdct, sn, sub, ab, col, dd, k0, k1, k2, k3, k5, hC⟩ := sheet_obj X
  repeat (first | with_reducible refine wpAny_loadPart_at he ?_ | with_reducible refine wpAny_loadPart_at hC ?_ | (with_reducible refine wpAny_isSubtype_exc hC ?_; rw [hcB]) | wp_step)
  exact wpAny_raiseNew_none hh hE

theorem make_sheet {msg : MStr} {tm : Tok} {Q : Value → Shared → Prop} (X : (Mine.hd.heap_39 w.params).In s.heap) (hlim : s.heap.NoLimit) (hroom : A.depth + 1 < recursionLimit)
    (hq : ∀ h' e t d tk', MadeD w msg s.heap h' e d → h'.get? e = some (excO t (some d)) → Q (.ref e) { s with heap := h', toks := tk' }) :
    wpAny (model prog w) A (call (.ref 44) [.str msg tm]) Q E s := by
  obtain ⟨hh, g, dr, tk, os⟩ := s
  dsimp only at X hlim hq
  have up : ∀ b o, hh.get? b = some o → ((hh.push { cls := .type "tuple", data := .seq [Value.str msg tm].toArray }).push (excO hh.objs.size none)).get? b = some o := fun b o e => Heap.get?_push_of_some _ (Heap.get?_push_of_some _ e)
  have hget : ((hh.push { cls := .type "tuple", data := .seq [Value.str msg tm].toArray }).push (excO hh.objs.size none)).get? (hh.objs.size + 1) = some (excO hh.objs.size none) := by heap_get
  have hnew : hh.get? (hh.objs.size + 1) = none := Heap.get?_none_of_le (Nat.le_succ _)
  refine sheet_call X (by rw [sizeLine_eq]; show 1 ≤ 16777216; omega) (init_call (Frag.In.keeps X up) (hlim.keeps up) hroom hget (fun h' d tk₁ tk' hk he hd hd' => ⟨rfl, ?_⟩))
  have kp : ∀ b o, hh.get? b = some o → h'.get? b = some o := fun b o q => hk b o (fun z => by rw [z, hnew] at q; cases q) (up b o q)
  refine hq h' _ _ d tk' ⟨kp, hnew, ?_, ⟨_, he⟩, ⟨_, _, hd'⟩⟩ he
  cases q : hh.get? d with
  | none => rfl
  | some o => have := up d o q; rw [hd] at this; cases this
end

theorem sheet_keep {w : World} : keepIn (Mine.hd.heap_39 w.params) (.ref 44) = true := by k_is
section
variable {prog : Program} {w : World} {A : Around} {E : Value → Shared → Prop} {s : Shared} {h₀ : Heap} {L a : MAddr} {m mg mb : MStr → Option Value} {cn : MStr} {cs : Scope} {ccd : Value} {p : Program} {loose : List MStr}
theorem raise_sheet {msg : MStr} {k : Nat} {np cp cpos pos : Pos} {Q : Flow → Shared → Prop} (F : Fr h₀ L s.heap m) (X : (Mine.hd.heap_39 w.params).In h₀) (T : TopRead p loose mg mb h₀) (hlim : h₀.NoLimit)
    (hh : A.handled = none) (hroom : A.depth + 1 < recursionLimit) (hk : cs.kind = .function) (hx : (envOf cn cs L a ccd).kindOf "SheetFault" = some .globalImplicit) (hz : msg.length ≤ sizeLine)
    (hE : ∀ h' e d tk', MadeD w msg s.heap h' e d → E (.ref e) { s with heap := h', toks := tk' }) :
    wpAny (model prog w) A (exec (.Raise (some (.Call (.Name "SheetFault" np) [.Constant (.str msg) k cp] [] cpos)) none pos) (envOf cn cs L a ccd)) Q E s := by
  rw [arm_exec_Raise]
  refine wpAny_bind (wpAny_standAt (raise_stmt hh ?_))
  refine wpAny_bind ?_
  refine wpAny_mono (wpAny_Call_ofName (wpAny_mono (name_K F X T (v := .ref 44) (by k_is) (Q := fun f s₁ => f = .ref 44 ∧ s₁ = s) ⟨rfl, rfl⟩ hk hx (by decide)) (fun f s₁ h₁ => ?_) fun _ _ x => x)) (fun v s₃ h₃ => wpAny_bind (wpAny_standAt (wpAny_pure h₃))) fun _ _ x => x
  obtain ⟨rfl, rfl⟩ := h₁
  refine callWith_K X sheet_keep ?_
  k_steps
  refine make_sheet (Frag.In.keeps X F.keep) (hlim.keeps F.keep) hroom (fun h' e t d tk' hm he => ?_)
  exact ⟨e, t, d, rfl, Frag.In.keeps X (fun b o q => hm.keeps b o (F.keep b o q)), he, hE h' e d tk' hm⟩
end
end Mine

namespace Mine
open PySem PySem.W PyProof.Rows
set_option maxRecDepth 100000
set_option maxHeartbeats 1000000
theorem fill6 : (PySem.Challenge.rw_xm0704_01 = PySem.Challenge.rw_xm0704_01) ∧ (Mine.hd.heap_39 = Mine.hd.heap_39) := by
  w_top off; k_fill; exact ⟨rfl, rfl⟩

/-- the exception e, its own dict, its newest traceback entry T, whose place says fl -/
def TracedD (h base : Heap) (e : MAddr) (cls : Value) (d : Option MAddr) (fl : Value) : Prop :=
  ∃ oe vs T oT ts, h.get? e = some oe ∧ (oe.cls = cls ∧ oe.dict = d) ∧ oe.data = .fields vs ∧ vs[1]? = some (.ref T) ∧ base.get? T = none ∧ T ≠ e ∧ h.get? T = some oT ∧ oT.data = .fields ts ∧ ts[3]? = some fl
def FlyD (base : Heap) (l : List Env) (e : MAddr) (cls : Value) (d : Option MAddr) (fl : Value) (h : Heap) : Prop :=
  base.StaysIn h ∧ base.get? e = none ∧ h.FunFrames base l ∧ TracedD h base e cls d fl
theorem FlyD.there {base h : Heap} {l : List Env} {e : MAddr} {cls : Value} {d : Option MAddr} {fl : Value} (x : FlyD base l e cls d fl h) : ∃ oe vs, h.get? e = some oe ∧ oe.cls = cls ∧ oe.dict = d ∧ oe.data = .fields vs := by
  obtain ⟨_, _, _, oe, vs, _, _, _, he, hc, hd, _⟩ := x
  exact ⟨oe, vs, he, hc.1, hc.2, hd⟩

section
variable {M : Model} {A : Around} {E : Value → Shared → Prop} {s : Shared} {base : Heap} {env : Env} {outer : List Env} {L e : MAddr} {cls head : Value} {d : Option MAddr} {Q : Unit → Shared → Prop}
/-- a new traceback entry upon e -/
theorem entryD {oe : MObj} {vs : Array Value} {hadNext : Bool} (hfr : A.frames = some (env :: outer)) (hl : s.heap.FunFrames base (env :: outer)) (hf : env.frame = some L)
    (he : s.heap.get? e = some oe) (hkb : base.StaysIn s.heap) (hen : base.get? e = none) (hd : oe.data = .fields vs) (hsz : 1 < vs.size)
    (h : ∀ h', FlyD base (env :: outer) e oe.cls oe.dict (rawInt L) h' → s.heap.UpToSlots h' → Q () { s with heap := h' }) :
    wpAny M A (do let a ← frameOf env; let pl ← entryPlaceOf L hadNext; let b ← EntryCells.newEntry head a .none (rawInt L) .none pl; setField (.ref e) 1 b) Q E s := by
  have hene : e ∉ (env :: outer).filterMap (·.frame) := fun hm => by
    obtain ⟨_, o, ho, hnf⟩ := hl.mem hm
    rw [he] at ho; cases ho; exact hnf vs hd
  refine wpAny_bind (wpAny_frameOf_fun hfr hl hf fun h₁ hs₁ => ?_)
  refine wpAny_bind (wpAny_entryPlaceOf fun pl hpl => ?_)
  unfold EntryCells.newEntry newFields
  refine wpAny_bind (wpAny_newObj_type ?_ (hpl.sizeOk5 _ _ _ _ _))
  have he₁ : h₁.get? e = some oe := (hs₁.2.1 e hene).trans he
  have kb₁ : base.StaysIn h₁ := fun b o hbo => (hs₁.2.1 b fun hm => by rw [(hl.mem hm).1] at hbo; cases hbo).trans (hkb b o hbo)
  generalize hT : ({ cls := .type "traceback", dict := none, data := .fields ([head, .ref L, .none, rawInt L, .none] ++ (if pl.isEmpty then List.replicate 6 Value.none else pl)).toArray } : MObj) = oT
  have hTd : oT.data = .fields ([head, .ref L, .none, rawInt L, .none] ++ (if pl.isEmpty then List.replicate 6 Value.none else pl)).toArray := by rw [← hT]
  have he₂ := Heap.get?_push_of_some (h := h₁) oT he₁
  refine wpAny_setField he₂ hd hsz (h _ ?_ ?_)
  all_goals
    have hTe : h₁.objs.size ≠ e := Nat.ne_of_gt (Heap.lt_size he₁)
    have hd₃ := Obj.data_mapFields hd (·.setIfInBounds 1 (Value.ref h₁.objs.size))
    have keep : ∀ b o, b ≠ e → h₁.get? b = some o → ((h₁.push oT).update e (Obj.mapFields (·.setIfInBounds 1 (Value.ref h₁.objs.size)))).get? b = some o := fun b o hbe hb => by
      rw [Heap.get?_update_other _ _ (Ne.symm hbe)]
      exact Heap.get?_push_of_some _ hb
    have noRecord : ∀ b o, s.heap.get? b = some o → (∀ vs, o.data ≠ .fields vs) → b ≠ e := fun b o hb hnf q => by
      rw [q, he] at hb; cases hb; exact hnf vs hd
  · have he₃ := Heap.get?_update_self (Obj.mapFields (·.setIfInBounds 1 (Value.ref h₁.objs.size))) he₂ (Obj.isFreed_of_fields hd₃)
    have hT₃ := (Heap.get?_update_other (h₁.push oT) (Obj.mapFields (·.setIfInBounds 1 (Value.ref h₁.objs.size))) (Ne.symm hTe)).trans (Heap.get?_push_size h₁ (Obj.isFreed_of_fields hTd))
    refine ⟨fun b o hbo => keep b o (fun q => by rw [q, hen] at hbo; cases hbo) (kb₁ b o hbo), hen, hl.of_keeps fun b o hb hnf => ?_, ?_⟩
    · obtain ⟨sl, hs⟩ := hs₁.2.2 b o hb
      exact ⟨_, keep b _ (noRecord b o hb hnf) hs, rfl⟩
    · refine ⟨_, _, h₁.objs.size, _, _, he₃, ⟨Obj.cls_mapFields _ _, ?_⟩, hd₃, by simp [hsz], kb₁.fresh, hTe, hT₃, hTd, by first | (simp; done) | (rcases hpl with rfl | ⟨_, _, _, _, _, _, _, rfl⟩ <;> simp)⟩
      obtain ⟨oc, od, odt, osl⟩ := oe
      cases hd
      rfl
  · intro b o hb hnf
    obtain ⟨sl, hs⟩ := hs₁.2.2 b o hb
    exact ⟨sl, keep b _ (noRecord b o hb hnf) hs⟩

/-- the first frame that e meets -/
theorem noteD_first {oe : MObj} {vs : Array Value} (hfr : A.frames = some (env :: outer)) (hl : s.heap.FunFrames base (env :: outer)) (hf : env.frame = some L)
    (he : s.heap.get? e = some oe) (hkb : base.StaysIn s.heap) (hen : base.get? e = none) (hd : oe.data = .fields vs) (h1 : vs[1]? = some .none)
    (h : ∀ h', FlyD base (env :: outer) e oe.cls oe.dict (rawInt L) h' → s.heap.UpToSlots h' → Q () { s with heap := h' }) : wpAny M A (noteFrame (.ref e) env) Q E s := by
  unfold noteFrame
  simp only [hf]
  refine wpAny_bind (wpAny_field he hd h1 ?_)
  rw [if_neg (by decide)]
  exact entryD hfr hl hf he hkb hen hd (Array.getElem?_eq_some_iff.mp h1).1 h

/-- a further frame -/
theorem noteD_on (hfr : A.frames = some (env :: outer)) (hf : env.frame = some L) (hx : FlyD base (env :: outer) e cls d .none s.heap)
    (h : ∀ h', FlyD base (env :: outer) e cls d (rawInt L) h' → s.heap.UpToSlots h' → Q () { s with heap := h' }) : wpAny M A (noteFrame (.ref e) env) Q E s := by
  obtain ⟨hkb, hen, hl, oe, vs, T, oT, ts, he, ⟨rfl, rfl⟩, hd, h1, hnT, hTe, hT, hdT, h3⟩ := hx
  unfold noteFrame
  simp only [hf]
  refine wpAny_bind (wpAny_field he hd h1 ?_)
  rw [if_pos (show (Value.ref T != Value.none) = true from by simp)]
  refine wpAny_bind (wpAny_field hT hdT h3 ?_)
  rw [if_neg (show ¬ ((Value.none == rawInt L) = true) from by simp [rawInt])]
  refine wpAny_bind (wpAny_setField hT hdT (Array.getElem?_eq_some_iff.mp h3).1 ?_)
  have other : ∀ b, b ≠ T → (s.heap.update T (Obj.mapFields (·.setIfInBounds 3 Value.none))).get? b = s.heap.get? b := fun b hb => Heap.get?_update_other _ _ (Ne.symm hb)
  have noRecord : ∀ b o, s.heap.get? b = some o → (∀ vs, o.data ≠ .fields vs) → b ≠ T := fun b o hb hnf q => by
    rw [q, hT] at hb; cases hb; exact hnf ts hdT
  refine entryD hfr (hl.of_keeps fun b o hb hnf => ⟨o, (other b (noRecord b o hb hnf)).trans hb, rfl⟩) hf ((other e (Ne.symm hTe)).trans he)
    (fun b o hbo => (other b fun q => by rw [q, hnT] at hbo; cases hbo).trans (hkb b o hbo)) hen hd (Array.getElem?_eq_some_iff.mp h1).1
    fun h' x1 x2 => h h' x1 fun b o hb hnf => x2 b o ((other b (noRecord b o hb hnf)).trans hb) hnf

/-- e flies no more through this frame -/
theorem flightD {l : List Env} {fl : Value} (hx : FlyD base l e cls d fl s.heap)
    (h : ∀ h', FlyD base l e cls d .none h' → s.heap.UpToSlots h' → Q () { s with heap := h' }) : wpAny M A (setFlight (.ref e) none) Q E s := by
  obtain ⟨hkb, hen, hl, oe, vs, T, oT, ts, he, hc, hd, h1, hnT, hTe, hT, hdT, h3⟩ := hx
  have hsz3 : 3 < ts.size := (Array.getElem?_eq_some_iff.mp h3).1
  have other : ∀ b, b ≠ T → (s.heap.update T (Obj.mapFields (·.setIfInBounds 3 ((none : Option MAddr).elim Value.none fun f => rawInt f)))).get? b = s.heap.get? b :=
    fun b hb => Heap.get?_update_other _ _ (Ne.symm hb)
  have noRecord : ∀ b o, s.heap.get? b = some o → (∀ vs, o.data ≠ .fields vs) → b ≠ T := fun b o hb hnf q => by
    rw [q, hT] at hb; cases hb; exact hnf ts hdT
  unfold setFlight
  refine wpAny_bind (wpAny_field he hd h1 ?_)
  rw [if_pos (show (Value.ref T != Value.none) = true from by simp)]
  refine wpAny_setField hT hdT hsz3 (h _ ⟨fun b o hbo => (other b fun q => by rw [q, hnT] at hbo; cases hbo).trans (hkb b o hbo), hen,
    hl.of_keeps fun b o hb hnf => ⟨o, (other b (noRecord b o hb hnf)).trans hb, rfl⟩, ?_⟩ fun b o hb hnf => ⟨o.slots, (other b (noRecord b o hb hnf)).trans hb⟩)
  exact ⟨oe, vs, T, _, _, (other e (Ne.symm hTe)).trans he, hc, hd, h1, hnT, hTe, Heap.get?_update_self _ hT (Obj.isFreed_of_fields (Obj.data_mapFields hdT _)), Obj.data_mapFields hdT _, by simp [hsz3]⟩
end
end Mine

namespace Mine
open PySem PySem.W PyProof.Rows
set_option maxRecDepth 100000
set_option maxHeartbeats 1000000
theorem fill7 : (PySem.Challenge.rw_xm0704_01 = PySem.Challenge.rw_xm0704_01) ∧ (Mine.hd.heap_39 = Mine.hd.heap_39) := by
  w_top off; k_fill; exact ⟨rfl, rfl⟩

/-- a SheetFault e with its dict d flies; news stands as it stood -/
def RaisedD (base : Heap) (l : List Env) (e d : MAddr) (news : Led) (h : Heap) : Prop :=
  ∃ B, base.StaysIn B ∧ (∀ q ∈ news, B.get? q.1 = some q.2 ∧ base.get? q.1 = none) ∧ FlyD B l e (.ref 44) (some d) .none h

theorem flyD_base {base B h : Heap} {l : List Env} {e : MAddr} {cls fl : Value} {d : Option MAddr} (k : base.StaysIn B) (x : FlyD B l e cls d fl h) : FlyD base l e cls d fl h := by
  obtain ⟨f1, f2, f3, oe, vs, T, oT, ts, a1, a2, a3, a4, a5, a6⟩ := x
  exact ⟨fun b o q => f1 b o (k b o q), fresh_of_stays k f2, funFrames_base k f3, oe, vs, T, oT, ts, a1, a2, a3, a4, fresh_of_stays k a5, a6⟩

section
variable {M : Model} {w : World} {A : Around} {E : Value → Shared → Prop} {s' : Shared} {base g h : Heap} {outer : List Env} {L a e d : MAddr} {m : MStr → Option Value} {name msg : MStr} {scope : Scope} {cd : Value} {Q : Unit → Shared → Prop} {news : Led}
theorem leave_D (K : Below A base outer g) (hx : MadeD w msg h s'.heap e d) (F : Fr g L h m) (N : News g L h news)
    (hQ : ∀ h' tk tv, RaisedD base outer e d ((d, msgD w tk (.str msg tv)) :: news) h' → g.UpToSlots h' → Q () { s' with heap := h' }) (hk : scope.kind = .function := by rfl) :
    wpAny M (A.deeper (envOf name scope L a cd)) (leaving (envOf name scope L a cd) (.ref e)) Q E s' := by
  have K' := K.push (name := name) (a := a) (cd := cd) F hk
  obtain ⟨t, he⟩ := hx.obj
  obtain ⟨tk, tv, hd⟩ := hx.dict
  have hde : d ≠ e := fun q => by rw [q, he] at hd; cases hd
  have hin : ∀ env ∈ (envOf name scope L a cd :: outer), ∀ b, env.frame = some b → b ∈ e :: (envOf name scope L a cd :: outer).filterMap (·.frame) := fun env he b hb => .tail _ (List.mem_filterMap.mpr ⟨env, he, hb⟩)
  have isF : ∀ b, b ∈ (envOf name scope L a cd :: outer).filterMap (·.frame) → base.get? b = none ∧ ∃ o, h.get? b = some o := fun b hm => ⟨(K'.frames.mem hm).1, let ⟨o, ho, _⟩ := (K'.frames.mem hm).2; ⟨o, ho⟩⟩
  have st : base.StaysIn (hideAll s'.heap (e :: (envOf name scope L a cd :: outer).filterMap (·.frame))) := fun b o q => hideAll_get _ (hx.keeps b o (K'.stays b o q)) fun hm => by
    rcases List.mem_cons.mp hm with rfl | hm
    · have := K'.stays _ _ q; rw [hx.newE] at this; cases this
    · rw [(isF b hm).1] at q; cases q
  have hl : ∀ q ∈ (d, msgD w tk (.str msg tv)) :: news, (hideAll s'.heap (e :: (envOf name scope L a cd :: outer).filterMap (·.frame))).get? q.1 = some q.2 ∧ base.get? q.1 = none := fun q hq => by
    rcases List.mem_cons.mp hq with rfl | hq
    · refine ⟨hideAll_get _ hd fun hm => ?_, ?_⟩
      · rcases List.mem_cons.mp hm with z | hm
        · exact hde z
        · obtain ⟨_, o, ho⟩ := isF _ hm; rw [hx.newD] at ho; cases ho
      · cases z : base.get? d with
        | none => rfl
        | some o => have := K'.stays d o z; rw [hx.newD] at this; cases this
    · refine ⟨hideAll_get _ (hx.keeps _ _ (N q hq).1) fun hm => ?_, fresh_of_stays K.stays (N q hq).2.2⟩
      rcases List.mem_cons.mp hm with z | hm
      · have := (N q hq).1; rw [z, hx.newE] at this; cases this
      · obtain ⟨env, he', hf⟩ := List.mem_filterMap.mp hm
        rcases List.mem_cons.mp he' with rfl | he'
        · exact (N q hq).2.1 (Option.some.inj hf).symm
        · obtain ⟨o, ho, _⟩ := (K.frames.mem (List.mem_filterMap.mpr ⟨env, he', hf⟩)).2
          rw [(N q hq).2.2] at ho; cases ho
  unfold leaving
  refine wpAny_bind (noteD_first (oe := excO t (some d)) K'.stack (funFrames_hide (K'.frames.of_keeps fun b o hb _ => ⟨o, hx.keeps b o hb, rfl⟩) hin) rfl he (fun b o q => of_hideAll _ q) (hideAll_none _ (.head _)) rfl rfl (fun h₁ x1 u1 => ?_))
  refine flightD x1 (fun h₂ x2 u2 => ?_)
  obtain ⟨k1, k2, ⟨_, _, k3⟩, k4⟩ := x2
  exact hQ h₂ tk tv ⟨_, st, hl, k1, k2, k3, k4⟩ ((((Heap.UpToSlots.of_keeps F.keep).trans (Heap.UpToSlots.of_keeps hx.keeps)).trans u1).trans u2)
end

section
variable {prog : Program} {w : World} {A₀ : Around} {E : Value → Shared → Prop} {s' : Shared} {h₀ h : Heap} {outer : List Env} {L a e d : MAddr} {m : MStr → Option Value} {name : MStr} {scope : Scope} {cd : Value}
  {n : MStr} {b₀ : Stmt} {suite : List Stmt} {pos np : Pos} {rest : List ExceptHandler} {Q : Flow → Shared → Prop} {news : Led}
  {p : Program} {loose : List MStr} {mg mb : MStr → Option Value}
theorem caught_D (K : Below A₀ h₀ outer h₀) (F : Fr h₀ L h m) (hsm : h.UpToSlots s'.heap) (R : RaisedD h₀ (envOf name scope L a cd :: outer) e d news s'.heap)
    (X : (Mine.hd.heap_39 w.params).In h₀) (T : TopRead p loose mg mb h₀)
    (k : ∀ h' oe tk, oe.cls = .ref 44 → oe.dict = some d → (∃ vs, oe.data = .fields vs) → Fr h₀ L h' (fun y => if y = n then some (.ref e) else m y) → News h₀ L h' ((e, oe) :: news) →
      wpAny (model prog w) ((A₀.deeper (envOf name scope L a cd)).mark (some (.ref e))) (execs (b₀ :: suite) (envOf name scope L a cd))
        (fun f s₄ => wpAny (model prog w) (A₀.deeper (envOf name scope L a cd)) (do bindName (envOf name scope L a cd) n .none; unbindBehindTheSuite (envOf name scope L a cd) n pos) (fun _ s₅ => Q f s₅) E s₄)
        (AsSuiteRaised (model prog w) ((A₀.deeper (envOf name scope L a cd)).mark (some (.ref e))) (envOf name scope L a cd) n pos (notedBy (model prog w) ((A₀.deeper (envOf name scope L a cd)).mark (some (.ref e))) (envOf name scope L a cd) (cameBackBy (model prog w) (A₀.deeper (envOf name scope L a cd)) (envOf name scope L a cd) E)))
        { s' with heap := h', toks := tk })
    (hk : scope.kind = .function := by rfl) (hlo : (envOf name scope L a cd).kindOf n = some .local := by rfl) (hx : (envOf name scope L a cd).kindOf "SheetFault" = some .globalImplicit := by rfl) :
    wpAny (model prog w) (A₀.deeper (envOf name scope L a cd)) (noteFrame (.ref e) (envOf name scope L a cd))
      (fun _ s₂ => wpAny (model prog w) (A₀.deeper (envOf name scope L a cd)) (setFlight (.ref e) none) (fun _ s₃ =>
        wpAny (model prog w) (A₀.deeper (envOf name scope L a cd)) (handleBy (.ref e) (envOf name scope L a cd) (.ExceptHandler (some (.Name "SheetFault" np)) (some n) (b₀ :: suite) pos :: rest)) Q E s₃) E s₂) E s' := by
  obtain ⟨B, hB, hl, hfl⟩ := R
  have hL : B.get? L = none := by
    obtain ⟨_, ⟨L', _, hf, hn', _⟩, _⟩ := hfl.2.2.1
    obtain rfl : L = L' := Option.some.inj hf
    exact hn'
  refine noteD_on (Around.frames_deeper K.stack) rfl hfl fun h₄ hfl₄ u₄ => ?_
  refine flightD hfl₄ fun h₅ hfl₅ u₅ => ?_
  have hfl₅' := flyD_base hB hfl₅
  have F₅ := F.of_stays hfl₅'.1 ((hsm.trans u₄).trans u₅)
  obtain ⟨ob, vs, hob, hobc, _, _⟩ := hfl₅'.there
  refine wpAny_handleBy_cons (codeAny_handlers_test (name_K F₅ X T (v := .ref 44) (by k_is) ?_ hk hx (by decide))) (by intro q; cases q)
  obtain ⟨nm, q, bs, hdct, sn, sub, ab, col, dd, k0, k1, k2, k3, k5, hC⟩ := sheet_obj (Frag.In.keeps X F₅.keep)
  refine wpAny_excMatches_sub_self hC hob hobc (by decide +kernel) (codeAny_handlers_suite_as ?_)
  refine flightD hfl₅ fun h₆ hfl₆ u₆ => ?_
  have hfl₆' := flyD_base hB hfl₆
  have F₆ := F.of_stays hfl₆'.1 (((hsm.trans u₄).trans u₅).trans u₆)
  obtain ⟨oe, ws, hoe, hoec, hoed, hoef⟩ := hfl₆'.there
  have N₆ : News h₀ L h₆ ((e, oe) :: news) := fun q hq => by
    rcases List.mem_cons.mp hq with rfl | hq
    · refine ⟨hoe, fun z => ?_, hfl₆'.2.1⟩
      have z : e = L := z
      obtain ⟨oL, es, ep, hoL, hoLd, _⟩ := F₆.ns
      rw [← z, hoe] at hoL
      cases hoL
      rw [hoef] at hoLd
      cases hoLd
    · exact ⟨hfl₆.1 _ _ (hl q hq).1, (fun z => by have := (hl q hq).1; rw [z, hL] at this; cases this), (hl q hq).2⟩
  refine stN F₆ N₆ (fun h₇ F₇ N₇ => ?_) hk hlo
  exact k h₇ oe _ hoec hoed ⟨ws, hoef⟩ F₇ N₇
end
end Mine

namespace Mine
open PySem PySem.W PyProof.Rows
set_option maxRecDepth 100000
set_option maxHeartbeats 1000000
theorem fill9 : (PySem.Challenge.rw_xm0704_01 = PySem.Challenge.rw_xm0704_01) ∧ (Mine.hd.heap_39 = Mine.hd.heap_39) := by
  w_top off; k_fill; exact ⟨rfl, rfl⟩

/-- as RaisedD, and what stood in G stands, but for the frames' slots -/
def RaisedSD (base G : Heap) (l : List Env) (e d : MAddr) (news : Led) (h : Heap) : Prop :=
  ∃ B, base.StaysIn B ∧ (∀ b o, G.get? b = some o → b ∉ l.filterMap (·.frame) → B.get? b = some o) ∧ (∀ q ∈ news, B.get? q.1 = some q.2 ∧ G.get? q.1 = none ∧ base.get? q.1 = none) ∧ FlyD B l e (.ref 44) (some d) .none h

section
variable {M : Model} {w : World} {A : Around} {E : Value → Shared → Prop} {s' : Shared} {base g h : Heap} {outer : List Env} {L a e d : MAddr} {m : MStr → Option Value} {name msg : MStr} {scope : Scope} {cd : Value} {Q : Unit → Shared → Prop} {news : Led}
theorem leave_SD (K : Below A base outer g) (hx : MadeD w msg h s'.heap e d) (F : Fr g L h m) (N : News g L h news)
    (hQ : ∀ h' tk tv, RaisedSD base g outer e d ((d, msgD w tk (.str msg tv)) :: news) h' → g.UpToSlots h' → Q () { s' with heap := h' }) (hk : scope.kind = .function := by rfl) :
    wpAny M (A.deeper (envOf name scope L a cd)) (leaving (envOf name scope L a cd) (.ref e)) Q E s' := by
  have K' := K.push (name := name) (a := a) (cd := cd) F hk
  obtain ⟨t, he⟩ := hx.obj
  obtain ⟨tk, tv, hd⟩ := hx.dict
  have hde : d ≠ e := fun q => by rw [q, he] at hd; cases hd
  have hin : ∀ env ∈ (envOf name scope L a cd :: outer), ∀ b, env.frame = some b → b ∈ e :: (envOf name scope L a cd :: outer).filterMap (·.frame) := fun env he b hb => .tail _ (List.mem_filterMap.mpr ⟨env, he, hb⟩)
  have isF : ∀ b, b ∈ (envOf name scope L a cd :: outer).filterMap (·.frame) → base.get? b = none ∧ ∃ o, h.get? b = some o := fun b hm => ⟨(K'.frames.mem hm).1, let ⟨o, ho, _⟩ := (K'.frames.mem hm).2; ⟨o, ho⟩⟩
  have st : base.StaysIn (hideAll s'.heap (e :: (envOf name scope L a cd :: outer).filterMap (·.frame))) := fun b o q => hideAll_get _ (hx.keeps b o (K'.stays b o q)) fun hm => by
    rcases List.mem_cons.mp hm with rfl | hm
    · have := K'.stays _ _ q; rw [hx.newE] at this; cases this
    · rw [(isF b hm).1] at q; cases q
  have sg : ∀ b o, g.get? b = some o → b ∉ outer.filterMap (·.frame) → (hideAll s'.heap (e :: (envOf name scope L a cd :: outer).filterMap (·.frame))).get? b = some o := fun b o q nm => hideAll_get _ (hx.keeps b o (F.keep b o q)) fun hm => by
    rcases List.mem_cons.mp hm with rfl | hm
    · have := F.keep _ _ q; rw [hx.newE] at this; cases this
    · rcases kts_mem hm with z | z
      · rw [z, kts_self F] at q; cases q
      · exact nm z
  have hl : ∀ q ∈ (d, msgD w tk (.str msg tv)) :: news, (hideAll s'.heap (e :: (envOf name scope L a cd :: outer).filterMap (·.frame))).get? q.1 = some q.2 ∧ g.get? q.1 = none ∧ base.get? q.1 = none := fun q hq => by
    rcases List.mem_cons.mp hq with rfl | hq
    · refine ⟨hideAll_get _ hd fun hm => ?_, kts_none F.keep hx.newD, kts_none K'.stays hx.newD⟩
      rcases List.mem_cons.mp hm with z | hm
      · exact hde z
      · obtain ⟨_, o, ho⟩ := isF _ hm; rw [hx.newD] at ho; cases ho
    · refine ⟨hideAll_get _ (hx.keeps _ _ (N q hq).1) fun hm => ?_, (N q hq).2.2, fresh_of_stays K.stays (N q hq).2.2⟩
      rcases List.mem_cons.mp hm with z | hm
      · have := (N q hq).1; rw [z, hx.newE] at this; cases this
      · obtain ⟨env, he', hf⟩ := List.mem_filterMap.mp hm
        rcases List.mem_cons.mp he' with rfl | he'
        · exact (N q hq).2.1 (Option.some.inj hf).symm
        · obtain ⟨o, ho, _⟩ := (K.frames.mem (List.mem_filterMap.mpr ⟨env, he', hf⟩)).2
          rw [(N q hq).2.2] at ho; cases ho
  unfold leaving
  refine wpAny_bind (noteD_first (oe := excO t (some d)) K'.stack (funFrames_hide (K'.frames.of_keeps fun b o hb _ => ⟨o, hx.keeps b o hb, rfl⟩) hin) rfl he (fun b o q => of_hideAll _ q) (hideAll_none _ (.head _)) rfl rfl (fun h₁ x1 u1 => ?_))
  refine flightD x1 (fun h₂ x2 u2 => ?_)
  obtain ⟨k1, k2, ⟨_, _, k3⟩, k4⟩ := x2
  exact hQ h₂ tk tv ⟨_, st, sg, hl, k1, k2, k3, k4⟩ ((((Heap.UpToSlots.of_keeps F.keep).trans (Heap.UpToSlots.of_keeps hx.keeps)).trans u1).trans u2)
end

section
variable {prog : Program} {w : World} {A₀ : Around} {E : Value → Shared → Prop} {s' : Shared} {base g G : Heap} {outer : List Env} {L a e d : MAddr} {m : MStr → Option Value} {name : MStr} {scope : Scope} {cd : Value}
  {n : MStr} {b₀ : Stmt} {suite : List Stmt} {pos np : Pos} {rest : List ExceptHandler} {Q : Flow → Shared → Prop} {news : Led}
  {p : Program} {loose : List MStr} {mean : ExcName → Option Value} {mg mb : MStr → Option Value}
theorem caught_SD (R : RaisedSD base G (envOf name scope L a cd :: outer) e d news s'.heap) (F : Fr g L G m) (K : Below A₀ base outer g) (hsm : G.UpToSlots s'.heap)
    (XB : (Mine.hd.heap_39 w.params).In base) (TB : Top p loose mean mg mb base)
    (k : ∀ h' g' oe tk, KtsTurn (outer.filterMap (·.frame)) g g' → oe.cls = .ref 44 → oe.dict = some d → (∃ vs, oe.data = .fields vs) → Fr g' L h' (fun y => if y = n then some (.ref e) else m y) → News g' L h' ((e, oe) :: news) →
      Below A₀ base outer g' → (Mine.hd.heap_39 w.params).In g' → Top p loose mean mg mb g' →
      wpAny (model prog w) ((A₀.deeper (envOf name scope L a cd)).mark (some (.ref e))) (execs (b₀ :: suite) (envOf name scope L a cd))
        (fun f s₄ => wpAny (model prog w) (A₀.deeper (envOf name scope L a cd)) (do bindName (envOf name scope L a cd) n .none; unbindBehindTheSuite (envOf name scope L a cd) n pos) (fun _ s₅ => Q f s₅) E s₄)
        (AsSuiteRaised (model prog w) ((A₀.deeper (envOf name scope L a cd)).mark (some (.ref e))) (envOf name scope L a cd) n pos (notedBy (model prog w) ((A₀.deeper (envOf name scope L a cd)).mark (some (.ref e))) (envOf name scope L a cd) (cameBackBy (model prog w) (A₀.deeper (envOf name scope L a cd)) (envOf name scope L a cd) E)))
        { s' with heap := h', toks := tk })
    (hk : scope.kind = .function := by rfl) (hlo : (envOf name scope L a cd).kindOf n = some .local := by rfl) (hx : (envOf name scope L a cd).kindOf "SheetFault" = some .globalImplicit := by rfl) :
    wpAny (model prog w) (A₀.deeper (envOf name scope L a cd)) (noteFrame (.ref e) (envOf name scope L a cd))
      (fun _ s₂ => wpAny (model prog w) (A₀.deeper (envOf name scope L a cd)) (setFlight (.ref e) none) (fun _ s₃ =>
        wpAny (model prog w) (A₀.deeper (envOf name scope L a cd)) (handleBy (.ref e) (envOf name scope L a cd) (.ExceptHandler (some (.Name "SheetFault" np)) (some n) (b₀ :: suite) pos :: rest)) Q E s₃) E s₂) E s' := by
  obtain ⟨B, hB, hBG, hl, hfl⟩ := R
  have hL : B.get? L = none := by
    obtain ⟨_, ⟨L', _, hf, hn', _⟩, _⟩ := hfl.2.2.1
    obtain rfl : L = L' := Option.some.inj hf
    exact hn'
  refine noteD_on (Around.frames_deeper K.stack) rfl hfl fun h₄ hfl₄ u₄ => ?_
  refine flightD hfl₄ fun h₅ hfl₅ u₅ => ?_
  obtain ⟨g₅, T₅, F₅, K₅⟩ := kts_ground K F hBG hfl₅.1 ((hsm.trans u₄).trans u₅)
  have X₅ := XB.keeps K₅.stays
  have P₅ : TopRead p loose mg mb g₅ := topRead_of (TB.keeps K₅.stays)
  obtain ⟨ob, vs, hob, hobc, _, _⟩ := hfl₅.there
  refine wpAny_handleBy_cons (codeAny_handlers_test (name_K F₅ X₅ P₅ (v := .ref 44) (by k_is) ?_ hk hx (by decide))) (by intro q; cases q)
  obtain ⟨nm, q, bs, hdct, sn, sub, ab, col, dd, k0, k1, k2, k3, k5, hC⟩ := sheet_obj (Frag.In.keeps X₅ F₅.keep)
  refine wpAny_excMatches_sub_self hC hob hobc (by decide +kernel) (codeAny_handlers_suite_as ?_)
  refine flightD hfl₅ fun h₆ hfl₆ u₆ => ?_
  obtain ⟨g₆, T₆, F₆, K₆⟩ := kts_ground K F hBG hfl₆.1 (((hsm.trans u₄).trans u₅).trans u₆)
  obtain ⟨oe, ws, hoe, hoec, hoed, hoef⟩ := hfl₆.there
  have ne₆ : g₆.get? e = none := T₆.none_ _ (kts_fresh F hBG hfl₆.2.1 fun o ho mm => by
    obtain ⟨_, o', ho', hd⟩ := K.frames.mem mm
    rw [ho] at ho'
    cases ho'
    obtain ⟨sl, hs⟩ := (((hsm.trans u₄).trans u₅).trans u₆) _ _ (F.keep _ _ ho) hd
    rw [hoe] at hs
    cases hs
    exact hd _ hoef)
  have N₆ : News g₆ L h₆ ((e, oe) :: news) := fun q hq => by
    rcases List.mem_cons.mp hq with rfl | hq
    · refine ⟨hoe, fun z => ?_, ne₆⟩
      have z : e = L := z
      obtain ⟨oL, es, ep, hoL, hoLd, _⟩ := F₆.ns
      rw [← z, hoe] at hoL
      cases hoL
      rw [hoef] at hoLd
      cases hoLd
    · exact ⟨hfl₆.1 _ _ (hl q hq).1, (fun z => by have := (hl q hq).1; rw [z, hL] at this; cases this), T₆.none_ _ (kts_none F.keep (hl q hq).2.1)⟩
  refine stN F₆ N₆ (fun h₇ F₇ N₇ => ?_) hk hlo
  exact k h₇ g₆ oe _ T₆ hoec hoed ⟨ws, hoef⟩ F₇ N₇ K₆ (XB.keeps K₆.stays) (TB.keeps K₆.stays)
end

section
variable {prog : Program} {w : World} {A₀ A : Around} {s : Shared} {h₀ : Heap} {env : Env} {L : MAddr} {m : MStr → Option Value} {news : Led} {K : Frag} {p : Program} {loose : List MStr} {mean : ExcName → Option Value} {mg mb : MStr → Option Value}
    {R : Result → Shared → Prop} {name qual : MStr} {params : Arguments} {body : List Stmt} {scope : Scope} {dV kV doc pm cdv ct oc : Value} {an od : Option MAddr} {osl : Array (Option Value)} {f : MAddr} {args : Args} {binds : List (MStr × Value)}
/-- a def entered from the outermost frame; at its end that frame's slots may have turned -/
theorem enter_S0 (B : Below A₀ h₀ [] h₀) (F : Fr h₀ L s.heap m) (X₀ : K.In h₀) (N : News h₀ L s.heap news) (T : Top p loose mean mg mb h₀) (hA : A.frames = some [env]) (hf : env.frame = some L) (hke : env.scope.kind = .function)
    (ho : K.lookup f = some ⟨oc, od, .func (fnOf name qual params body scope dV kV doc pm an cdv ct), osl⟩) (hcd : codeIn K cdv qual = true) (hroom : A.depth < recursionLimit)
    (hbind : BindsTo s (fnOf name qual params body scope dV kV doc pm an cdv ct) args binds) (hloc : ∀ y ∈ binds, scope.names.lookup y.1 = some .local)
    (h : ∀ g L' h₁, Fr g L' h₁ (fun y => binds.reverse.lookup y) → News g L' h₁ news → Below A h₀ [env] g → K.In g → Top p loose mean mg mb g →
      wpAny (model prog w) (A.deeper (envOf qual scope L' f cdv)) (execs body (envOf qual scope L' f cdv))
        (fun fl s' => LeaveS0 ([env].filterMap (·.frame)) h₀ L m g R (match fl with | .ret v => v | _ => .none) s')
        (fun e s' => wpAny (model prog w) (A.deeper (envOf qual scope L' f cdv)) (leaving (envOf qual scope L' f cdv) e) (fun _ s'' => R (.error e) s'') (fun e' s'' => R (.error e') s'') s')
        { s with heap := h₁, toks := s.toks + binds.length })
    (hco : scope.isCoroutine = false) (hgen : scope.isGenerator = false) (hk : scope.kind = .function)
    (hcell : ∀ x ∈ scope.names, x.2 ≠ .cell) : codeAny (model prog w) A (.call (.ref f) args) R s := by
  have X := X₀.keeps F.keep
  obtain ⟨FG, BG, st, -⟩ := groundX (R := R) B F N hA hf hke
  refine codeAny_call_def (fd := fnOf name qual params body scope dV kV doc pm an cdv ct) (body := body) (binds := binds) hroom (X _ _ ho) rfl (T.nolimit.keeps F.keep) (codeRec_of X hcd) rfl hbind hcell hloc (fun h₁ hns hk₁ => ?_) hco hgen hk
  refine wpAny_mono (h _ s.heap.objs.size h₁ ⟨hns, fun b o e => hk₁ b o (of_hideAll _ e), Nat.le_of_eq (hideAll_size _ _)⟩
    (fun p hp => ⟨hk₁ _ _ (N p hp).1, Nat.ne_of_lt (Heap.lt_size (N p hp).1), hideAll_none _ (List.mem_map_of_mem hp)⟩) BG (X₀.keeps st) (T.keeps st)) (fun fl s' hl => ?_) fun _ _ y => y
  obtain ⟨g', L', m', news', T', F', N', k⟩ := hl
  have only : ∀ b, b ∈ [env].filterMap (·.frame) → b = L := fun b hb => by
    obtain ⟨e', he', hf'⟩ := List.mem_filterMap.mp hb
    rw [List.mem_singleton.mp he', hf] at hf'
    exact (Option.some.inj hf').symm
  have nL₀ : h₀.get? L = none := kts_self F
  obtain ⟨oL, es, ep, hLg, hLd, hLk, hLf⟩ := FG.ns
  obtain ⟨sl, hs⟩ := T'.up hLg
  refine k ⟨⟨_, es, ep, F'.keep _ _ hs, hLd, hLk, hLf⟩, fun b o e => F'.keep b o (T'.other b o (st b o e) (fun q => by rw [only b q, nL₀] at e; cases e)), F.above⟩ fun p hp => ⟨(N' p hp).1, fun q => ?_, ?_⟩
  · have := (N' p hp).2.2; rw [q, hs] at this; cases this
  · cases q : h₀.get? p.1 with
    | none => rfl
    | some o =>
      obtain ⟨sl', hs'⟩ := T'.up (st _ _ q)
      have := (N' p hp).2.2
      rw [hs'] at this
      cases this
end
end Mine

namespace Mine
open PySem PySem.W PyProof.Rows
open PyProof.Rows.LCg
set_option maxRecDepth 100000
set_option maxHeartbeats 1000000
/-- a chunk: its name, its octets -/
abbrev Row := MStr × Array UInt8
abbrev rowO (r : Row) (tn tb : Tok) (n : Nat) : MObj := { cls := .type "tuple", data := .seq #[.str r.1 tn, .bytes r.2 tb] n }
/-- the values are tuples of the ledger that hold the rows -/
inductive RowsIn (N : Led) : List Value → List Row → Prop
  | nil : RowsIn N [] []
  | cons {a : MAddr} {r : Row} {tn tb : Tok} {n : Nat} {vs : List Value} {rs : List Row} : (a, rowO r tn tb n) ∈ N → r.2.size ≤ 1000 → RowsIn N vs rs → RowsIn N (.ref a :: vs) (r :: rs)

section
variable {N N' : Led} {vs ws : List Value} {rs qs : List Row}
theorem RowsIn.mono (h : RowsIn N vs rs) (k : ∀ p ∈ N, p ∈ N') : RowsIn N' vs rs := by
  induction h with
  | nil => exact .nil
  | cons hm hz _ ih => exact .cons (k _ hm) hz ih
theorem RowsIn.len (h : RowsIn N vs rs) : vs.length = rs.length := by
  induction h with
  | nil => rfl
  | cons _ _ _ ih => simp [ih]
theorem RowsIn.get (h : RowsIn N vs rs) : ∀ {i : Nat} {v : Value}, vs[i]? = some v → ∃ a r tn tb n, v = .ref a ∧ rs[i]? = some r ∧ (a, rowO r tn tb n) ∈ N ∧ r.2.size ≤ 1000 := by
  induction h with
  | nil => intro i v e; simp at e
  | @cons a r tn tb n vs rs hm hz _ ih =>
    intro i v e
    cases i with
    | zero => exact ⟨a, r, tn, tb, n, by simpa using e.symm, rfl, hm, hz⟩
    | succ i => exact ih (by simpa using e)
theorem RowsIn.app (h : RowsIn N vs rs) (k : RowsIn N ws qs) : RowsIn N (vs ++ ws) (rs ++ qs) := by
  induction h with
  | nil => exact k
  | cons hm hz _ ih => exact .cons hm hz ih
theorem RowsIn.take (h : RowsIn N vs rs) : ∀ k, RowsIn N (vs.take k) (rs.take k) := by
  induction h with
  | nil => intro k; simpa using .nil
  | cons hm hz _ ih => intro k; cases k with | zero => exact .nil | succ k => exact .cons hm hz (ih k)
theorem RowsIn.drop (h : RowsIn N vs rs) : ∀ k, RowsIn N (vs.drop k) (rs.drop k) := by
  induction h with
  | nil => intro k; simpa using .nil
  | cons hm hz h ih => intro k; cases k with | zero => exact .cons hm hz h | succ k => exact ih k
theorem RowsIn.rev (h : RowsIn N vs rs) : RowsIn N vs.reverse rs.reverse := by
  induction h with
  | nil => exact .nil
  | cons hm hz _ ih => rw [List.reverse_cons, List.reverse_cons]; exact ih.app (.cons hm hz .nil)
end

abbrev namesOf (rs : List Row) : List MStr := rs.map (·.1)
theorem strs_snoc {vs : List Value} {ys : List MStr} (h : StrsAre vs ys) (y : MStr) (t : Tok) : StrsAre (vs ++ [.str y t]) (ys ++ [y]) := by
  induction h with
  | nil => exact .cons y t .nil
  | cons z u _ ih => exact .cons z u ih
theorem strs_get {vs : List Value} {ys : List MStr} (h : StrsAre vs ys) : ∀ {i : Nat} {v : Value}, vs[i]? = some v → ∃ y t, v = .str y t ∧ ys[i]? = some y := by
  induction h with
  | nil => intro i v e; simp at e
  | cons z u _ ih =>
    intro i v e
    cases i with
    | zero => exact ⟨z, u, by simpa using e.symm, rfl⟩
    | succ i => exact ih (by simpa using e)

section
variable {prog : Program} {w : World} {A : Around} {E : Value → Shared → Prop} {s : Shared} {h₀ : Heap} {L : MAddr} {m : MStr → Option Value} {env : Env}
theorem comp_name {x : MStr} {px : Pos} {scope : Scope} {cl : List (MStr × MAddr)} {C : MAddr} {oC : MObj} {m₂ : MStr → Option Value} {news : Led} {v : Value} {M : Model} {Q : Value → Shared → Prop} (hkind : scope.kind = .function) (hx : scope.names.lookup x = some .local)
    (hns : NsObj oC m₂) (N : News h₀ L s.heap news) (hC : (C, oC) ∈ news) (hv : m₂ x = some v) (hd : (x == ("__debug__" : MStr)) = false) (h : Q v s) :
    wpAny M A (eval (.Name x px) (compEnvC scope cl C env)) Q E s :=
  wpAny_Name (wpAny_loadName_local (by simp [compEnvC, relabel, hkind]) (lookup_relabel_local hx) (hns.ns (N _ hC).1) hv h) hd

/-- [name for name, octets in rows] -/
theorem names_rest {px : Pos} {scope : Scope} {cl : List (MStr × MAddr)} {ax : MAddr} {vs : List Value} {rs : List Row} {news : Led} {Fin : List Value → Led → Prop} (hkind : scope.kind = .function) (hx : scope.names.lookup ("name" : MStr) = some .local)
    (R : RowsIn news vs rs) (hS : SrcAt h₀ ax vs.toArray news) (fin : ∀ ys, StrsAre ys (namesOf rs) → Fin ys news) : ∀ (k i : Nat) (ys : List Value), i + k = vs.length → StrsAre ys (namesOf (rs.take i)) →
    LCp.CompRestP prog w A h₀ L m env (.Name "name" px) "name" "octets" scope cl s (SrcAt h₀ ax vs.toArray) (fun i v => vs.toArray[i]? = some v) Fin k i ys news
  | 0, i, ys, hi, hy => LCp.CompRestP.zero (fin ys (by rw [List.take_of_length_le (by rw [← R.len]; omega)] at hy; exact hy))
  | k + 1, i, ys, hi, hy => LCp.CompRestP.succ fun v hv => by
    obtain ⟨a, r, tn, tb, n, rfl, hr, hm, _⟩ := R.get (by simpa using hv)
    refine ⟨a, _, _, _, n, rfl, hm, rfl, rfl, fun I oI C oC D m₂ h tk E' hns h1 h2 F N off ne => ?_⟩
    refine comp_name hkind hx hns N (.tail _ (.head _)) h1 (by decide) ?_
    refine ⟨h, tk, news, rfl, F, N, off, hS, names_rest hkind hx R hS fin k (i + 1) _ (by omega) ?_⟩
    rw [List.take_add_one, hr]
    simp only [Option.toList_some, namesOf, List.map_append, List.map_cons, List.map_nil]
    exact strs_snoc hy _ _
end
end Mine

namespace Mine
open PySem PySem.W PyProof.Rows
set_option maxRecDepth 100000
set_option maxHeartbeats 1000000
def mLack : MStr := "a picture lacks a chunk"
def mTwice : MStr := "a chunk stands twice"
def mKind : MStr := "a picture of a kind that is not read"
def mLet : MStr := "let"
/-- what check_chunks answers, in plain words -/
def verdict (rs : List Row) : MStr :=
  if namesOf rs = [] ∨ (namesOf rs).head? ≠ some ("IHDR" : MStr) ∨ (namesOf rs).getLast? ≠ some ("IEND" : MStr) ∨ ("IDAT" : MStr) ∉ namesOf rs then mLack
  else if 1 < (namesOf rs).count ("IHDR" : MStr) ∨ 1 < (namesOf rs).count ("IEND" : MStr) then mTwice
  else if (rs.head?.map (fun r => (r.2.size, r.2.toList.drop 8))) ≠ some (13, [8, 6, 0, 0, 0]) then mKind
  else mLet

theorem countIn_strs (k : MStr) : ∀ zs : List MStr, PySem.Spec.countIn (.str k) (zs.map PyData.str) = ((zs.count k : Nat) : Int)
  | [] => rfl
  | z :: zs => by
    rw [List.map_cons, List.count_cons]
    unfold PySem.Spec.countIn
    rw [countIn_strs k zs, PyProof.V.same_str]
    by_cases h : z = k
    · subst h; simp; omega
    · simp [h]

section
variable {rs : List Row} {y z : MStr} {r q : Row} {b C : List UInt8}
theorem v_lack1 (h : namesOf rs = []) : verdict rs = mLack := if_pos (.inl h)
theorem v_lack2 (h : (namesOf rs).head? = some y) (hy : (y != ("IHDR" : MStr)) = true) : verdict rs = mLack := if_pos (.inr (.inl (by rw [h]; simpa using hy)))
theorem v_lack3 (h : (namesOf rs).getLast? = some y) (hy : (y != ("IEND" : MStr)) = true) : verdict rs = mLack := if_pos (.inr (.inr (.inl (by rw [h]; simpa using hy))))
theorem v_lack4 (h : ((namesOf rs).any fun x => x == ("IDAT" : MStr)) = false) : verdict rs = mLack := if_pos (.inr (.inr (.inr (by
  intro hm
  rw [List.any_eq_false] at h
  exact h _ hm (by simp)))))
theorem not_lack (h0 : ¬ namesOf rs = []) (h1 : (namesOf rs).head? = some y) (hy : (y != ("IHDR" : MStr)) = false) (h2 : (namesOf rs).getLast? = some z) (hz : (z != ("IEND" : MStr)) = false) (h3 : ((namesOf rs).any fun x => x == ("IDAT" : MStr)) = true) :
    ¬ (namesOf rs = [] ∨ (namesOf rs).head? ≠ some ("IHDR" : MStr) ∨ (namesOf rs).getLast? ≠ some ("IEND" : MStr) ∨ ("IDAT" : MStr) ∉ namesOf rs) := by
  have e1 : y = "IHDR" := by simpa using hy
  have e2 : z = "IEND" := by simpa using hz
  rw [List.any_eq_true] at h3
  obtain ⟨x, hx, hx'⟩ := h3
  have e3 : x = "IDAT" := by simpa using hx'
  rw [e3] at hx
  rintro (h | h | h | h)
  · exact h0 h
  · exact h (by rw [h1, e1])
  · exact h (by rw [h2, e2])
  · exact h hx
theorem v_twice1 (hl : ¬ (namesOf rs = [] ∨ (namesOf rs).head? ≠ some ("IHDR" : MStr) ∨ (namesOf rs).getLast? ≠ some ("IEND" : MStr) ∨ ("IDAT" : MStr) ∉ namesOf rs))
    (h : 1 < PySem.Spec.countIn (.str "IHDR") ((namesOf rs).map PyData.str)) : verdict rs = mTwice := by
  unfold verdict
  rw [if_neg hl, if_pos]
  rw [countIn_strs] at h
  exact .inl (by omega)
theorem v_twice2 (hl : ¬ (namesOf rs = [] ∨ (namesOf rs).head? ≠ some ("IHDR" : MStr) ∨ (namesOf rs).getLast? ≠ some ("IEND" : MStr) ∨ ("IDAT" : MStr) ∉ namesOf rs))
    (h : 1 < PySem.Spec.countIn (.str "IEND") ((namesOf rs).map PyData.str)) : verdict rs = mTwice := by
  unfold verdict
  rw [if_neg hl, if_pos]
  rw [countIn_strs] at h
  exact .inr (by omega)
theorem not_twice (h1 : ¬ 1 < PySem.Spec.countIn (.str "IHDR") ((namesOf rs).map PyData.str)) (h2 : ¬ 1 < PySem.Spec.countIn (.str "IEND") ((namesOf rs).map PyData.str)) :
    ¬ (1 < (namesOf rs).count ("IHDR" : MStr) ∨ 1 < (namesOf rs).count ("IEND" : MStr)) := by
  rw [countIn_strs] at h1 h2
  rintro (h | h) <;> omega
theorem v_kind1 (hl : ¬ (namesOf rs = [] ∨ (namesOf rs).head? ≠ some ("IHDR" : MStr) ∨ (namesOf rs).getLast? ≠ some ("IEND" : MStr) ∨ ("IDAT" : MStr) ∉ namesOf rs))
    (ht : ¬ (1 < (namesOf rs).count ("IHDR" : MStr) ∨ 1 < (namesOf rs).count ("IEND" : MStr))) (hr : rs.head? = some r) (h : ((r.2.size : Nat) : Int) ≠ 13) : verdict rs = mKind := by
  unfold verdict
  rw [if_neg hl, if_neg ht, if_pos]
  rw [hr]
  simp only [Option.map_some, ne_eq, Option.some.injEq, Prod.mk.injEq, not_and]
  intro e
  omega
theorem v_kind2 (hl : ¬ (namesOf rs = [] ∨ (namesOf rs).head? ≠ some ("IHDR" : MStr) ∨ (namesOf rs).getLast? ≠ some ("IEND" : MStr) ∨ ("IDAT" : MStr) ∉ namesOf rs))
    (ht : ¬ (1 < (namesOf rs).count ("IHDR" : MStr) ∨ 1 < (namesOf rs).count ("IEND" : MStr))) (hr : rs.head? = some r) (hb : b = r.2.toList.drop 8) (h : (b != C) = true) (hC : C = [8, 6, 0, 0, 0]) : verdict rs = mKind := by
  unfold verdict
  rw [if_neg hl, if_neg ht, if_pos]
  rw [hr]
  simp only [Option.map_some, ne_eq, Option.some.injEq, Prod.mk.injEq, not_and]
  intro _ e
  rw [hb, hC, e] at h
  simp at h
theorem v_let (hl : ¬ (namesOf rs = [] ∨ (namesOf rs).head? ≠ some ("IHDR" : MStr) ∨ (namesOf rs).getLast? ≠ some ("IEND" : MStr) ∨ ("IDAT" : MStr) ∉ namesOf rs))
    (ht : ¬ (1 < (namesOf rs).count ("IHDR" : MStr) ∨ 1 < (namesOf rs).count ("IEND" : MStr))) (hb : b = r.2.toList.drop 8) (hr : rs.head? = some r) (h13 : ((q.2.size : Nat) : Int) = 13) (hq : rs.head? = some q) (h : (b != C) = false) (hC : C = [8, 6, 0, 0, 0]) : verdict rs = mLet := by
  unfold verdict
  rw [if_neg hl, if_neg ht, if_neg]
  have e : r = q := by rw [hr] at hq; exact Option.some.inj hq
  have e2 : b = C := by simpa using h
  rw [hr]
  simp only [Option.map_some, ne_eq, Option.some.injEq, Prod.mk.injEq, Decidable.not_not]
  exact ⟨by rw [e]; omega, by rw [← hb, e2, hC]⟩
end
end Mine

namespace Mine
open PySem PySem.W PyProof.Rows
open PyProof.Rows.LCg
set_option maxRecDepth 100000
set_option maxHeartbeats 4000000
theorem fill8 : (PySem.Challenge.rw_xm0704_01 = PySem.Challenge.rw_xm0704_01) ∧ (Mine.hd.heap_39 = Mine.hd.heap_39) := by
  w_top off; k_fill; exact ⟨rfl, rfl⟩

local macro_rules | `(tactic| k_mem) => `(tactic| first | (with_reducible assumption) | exact memL (by with_reducible assumption))
local macro_rules | `(tactic| k_all) => `(tactic| with_reducible assumption)
local macro_rules | `(tactic| walk_at "SrcLP") => `(tactic| (k_here; k_dflt (refine LCp.SrcLP.ledger (by rfl) (by k_asm) (by k_asm) (by k_mem) ?kz ?_; (case kz => (rw [List.size_toArray, sizeLine_eq]; omega)); intro g'; refine names_rest (by rfl) (by rfl) (by assumption) (Or.inr ⟨_, (by k_mem), rfl, _, rfl⟩) ?_ _ 0 [] (by simp) .nil; intro ys' hys')))

section
variable {prog : Program} {w : World} {A : Around} {E : Value → Shared → Prop} {s : Shared} {h₀ : Heap} {L D l : MAddr} {news : Led} {ys : List Value} {ss : List MStr} {n c : Nat} {u : Tok}
theorem names_empty {Q : Value → Shared → Prop} (N : News h₀ L s.heap news) (hd : (D, lst ys) ∈ news) (hl : (l, W.listOf ([] : List Value).toArray n) ∈ news) (hs : StrsAre ys ss) (hu : A.units < cLine) (h : Q (.bool (decide (ss = []))) s) :
    wpAny (model prog w) A (compareOp .Eq (.ref D) (.ref l)) Q E s := by
  have a1 : s.heap.IsList D ys.toArray := ⟨_, (N _ hd).1, rfl, _, rfl⟩
  have a2 : s.heap.IsList l ([] : List Value).toArray := ⟨_, (N _ hl).1, rfl, _, rfl⟩
  cases hs with
  | nil => exact PySem.SeqAt.eq_listAt (e := fun _ => true) a1 a2 rfl hu (fun j h1 _ => absurd h1 (Nat.not_lt_zero _)) (by simpa using h)
  | cons y t r => exact PySem.SeqAt.eq_list_lengthsAt a1 a2 (by simp) hu (by simpa using h)
theorem names_head {value slice : PySem.Expr} {Q : Value → Shared → Prop} (N : News h₀ L s.heap news) (hd : (D, lst ys) ∈ news) (hs : StrsAre ys ss) (hne : ¬ ss = []) (h : ∀ y t, ss.head? = some y → Q (.str y t) s)
    (hsub : subscripted slice false (.ref D) (.int 0 u) = operate [.ref D, .int 0 u] (getItem (.ref D) (.int 0 u)) := by with_unfolding_all rfl) :
    wpAny (model prog w) A (subscriptTail value slice (.ref D) (.int 0 u)) Q E s := by
  have a1 : s.heap.IsList D ys.toArray := ⟨_, (N _ hd).1, rfl, _, rfl⟩
  cases hs with
  | nil => exact absurd rfl hne
  | cons y t r => exact tail_any a1.typeIs slot_list_getitem.lookup (wpAny_getItem_list a1 (by decide) (by decide) (x := .str y t) rfl (h y t rfl)) hsub
theorem names_last {value slice : PySem.Expr} {Q : Value → Shared → Prop} (N : News h₀ L s.heap news) (hd : (D, lst ys) ∈ news) (hs : StrsAre ys ss) (hne : ¬ ss = []) (h : ∀ y t, ss.getLast? = some y → Q (.str y t) s)
    (hsub : subscripted slice false (.ref D) (.int (-1) u) = operate [.ref D, .int (-1) u] (getItem (.ref D) (.int (-1) u)) := by with_unfolding_all rfl) :
    wpAny (model prog w) A (subscriptTail value slice (.ref D) (.int (-1) u)) Q E s := by
  have a1 : s.heap.IsList D ys.toArray := ⟨_, (N _ hd).1, rfl, _, rfl⟩
  have hlen : ys.length = ss.length := hs.length
  have hpos : 0 < ss.length := List.length_pos_iff.mpr hne
  obtain ⟨y, t, hy, hq⟩ := strs_get hs (i := ys.length - 1) (v := ys[ys.length - 1]'(by omega)) (by simp)
  refine tail_any a1.typeIs slot_list_getitem.lookup (wpAny_getItem_list_neg a1 (by decide) (by simp only [List.size_toArray]; omega) (by decide) (x := .str y t) ?_ (h y t ?_)) hsub
  · rw [show ((-1 : Int) + (ys.toArray.size : Int)).toNat = ys.length - 1 by simp only [List.size_toArray]; omega, ← hy]
    simp
  · rw [List.getLast?_eq_getElem?, ← hlen]; exact hq
theorem chunk_head {value slice : PySem.Expr} {vs : List Value} {rs : List Row} {news₀ : Led} {Q : Value → Shared → Prop} (N : News h₀ L s.heap news) (hl : (l, W.listOf vs.toArray n) ∈ news) (R : RowsIn news₀ vs rs) (hne : ¬ namesOf rs = [])
    (h : ∀ a r tn tb k, rs.head? = some r → (a, rowO r tn tb k) ∈ news₀ → r.2.size ≤ 1000 → Q (.ref a) s)
    (hsub : subscripted slice false (.ref l) (.int 0 u) = operate [.ref l, .int 0 u] (getItem (.ref l) (.int 0 u)) := by with_unfolding_all rfl) :
    wpAny (model prog w) A (subscriptTail value slice (.ref l) (.int 0 u)) Q E s := by
  have a1 : s.heap.IsList l vs.toArray := ⟨_, (N _ hl).1, rfl, _, rfl⟩
  cases R with
  | nil => exact absurd rfl hne
  | cons hm hz r => exact tail_any a1.typeIs slot_list_getitem.lookup (wpAny_getItem_list a1 (by decide) (by decide) rfl (h _ _ _ _ _ rfl hm hz)) hsub
theorem octets_len {b : Array UInt8} {t : Tok} {Q : Value → Shared → Prop} (hb : b.size ≤ 1000) (h : Q (.int b.size (s.toks + 1)) { s with toks := s.toks + 1 + 1 }) : wpAny (model prog w) A (call (.builtin "len") [.bytes b t]) Q E s :=
  len_bytes (Nat.le_trans hb (by decide)) h
theorem map_inj {α β : Type} {f : α → β} (hf : ∀ x y, f x = f y → x = y) : ∀ {l m : List α}, l.map f = m.map f → l = m
  | [], [], _ => rfl
  | [], _ :: _, h => by simp at h
  | _ :: _, [], h => by simp at h
  | x :: l, y :: m, h => by
    rw [List.map_cons, List.map_cons, List.cons.injEq] at h
    rw [hf x y h.1, map_inj hf h.2]
theorem bInts_inj {b c : Array UInt8} (h : KBw.bInts b = KBw.bInts c) : b.toList = c.toList := by
  unfold KBw.bInts at h
  refine map_inj (fun x y e => ?_) h
  exact UInt8.toNat_inj.mp (Int.ofNat.inj e)
theorem octets_cut {b : Array UInt8} {t : Tok} {value slice : PySem.Expr} {l u : Value} {g : Heap} {m : MStr → Option Value} {Q : Value → Shared → Prop} (F : Fr g L s.heap m) (N : News g L s.heap news) (hb : b.size ≤ 1000) (hl : IsPart l (some 8)) (hu : IsPart u none)
    (h : ∀ b' h' t' k, Fr g L h' m → News g L h' news → b'.toList = b.toList.drop 8 → Q (.bytes b' t') { s with heap := h', toks := k })
    (hs : subscripted slice false (.bytes b t) (.ref s.heap.objs.size) = operate [.ref s.heap.objs.size, .bytes b t] (getItem (.bytes b t) (.ref s.heap.objs.size)) := by with_unfolding_all rfl)
    (ht : ∀ r, letTemporaryGo value (.bytes b t) r = pure () := by intro _; with_unfolding_all rfl) :
    wpAny (model prog w) A (subscriptTail value slice (.bytes b t) (.ref s.heap.objs.size)) Q E { s with heap := s.heap.push { cls := .type "slice", data := .fields #[l, u, .none] } } :=
  KBc.slice_K F N rfl hl hu (by rw [KBw.ints_length]; omega) (fun h' t' k F' N' e => h _ h' t' k F' N' (by
    have e2 : KBw.bInts (KBy.picked b (some 8) none) = (KBw.bInts b).drop 8 := by
      rw [e]
      simp only [Option.elim]
      rw [show clipAt (KBw.bInts b).length 8 = min 8 (KBw.bInts b).length from KBc.clip_lit _ 8, List.take_of_length_le (by simp)]
      rcases Nat.le_total 8 (KBw.bInts b).length with h8 | h8
      · rw [Nat.min_eq_left h8]
      · rw [Nat.min_eq_right h8, List.drop_of_length_le h8, List.drop_of_length_le (Nat.le_refl _)]
    have e3 : (b.toList.drop 8).toArray.toList = b.toList.drop 8 := rfl
    rw [← e3]
    refine bInts_inj (e2.trans ?_)
    unfold KBw.bInts
    rw [e3, List.map_drop])) hs ht
theorem get_msgN {g : Heap} {m : MStr → Option Value} {e d : MAddr} {oe : MObj} {tk tv : Tok} {msg : MStr} {expr : Bool} {Q : Value → Shared → Prop} (F : Fr g L s.heap m) (X : (Mine.hd.heap_39 w.params).In g) (N : News g L s.heap news) (h1 : (e, oe) ∈ news) (h2 : (d, msgD w tk (.str msg tv)) ∈ news)
    (c1 : oe.cls = .ref 44) (c2 : oe.dict = some d) (c3 : ∃ vs, oe.data = .fields vs) (hq : Q (.str msg tv) { s with toks := s.toks + 1 }) : wpAny (model prog w) A (getAttr (.ref e) "message" expr) Q E s := by
  obtain ⟨vs, c3⟩ := c3
  refine get_msg (tk := tk) (ox := oe) (Frag.In.keeps X F.keep) ⟨(N _ h1).1, c1, by unfold notCls; rw [c3], ?_⟩ rfl hq
  rw [c2]
  exact (N _ h2).1
end

local macro_rules | `(tactic| walk_at "compareOp Eq ref") => `(tactic| (k_here; k_dflt (refine' names_empty ?k1 ?k2 ?k3 ?k4 ?k5 ?_; (case k1 => k_asm); (case k2 => k_mem); (case k3 => k_mem); (case k4 => with_reducible assumption); (case k5 => ktr_units); k_whole)))
local macro_rules | `(tactic| walk_at "subscriptTail") => `(tactic| (k_here; (with_reducible show wpAny _ _ (subscriptTail _ _ (Value.ref _) (Value.int 0 _)) _ _ _); k_dflt (refine' names_head ?k1 ?k2 ?k3 ?k4 ?_ ?k6; (case k1 => k_asm); (case k2 => k_mem); (case k3 => with_reducible assumption); (case k4 => with_reducible assumption); (case k6 => with_unfolding_all rfl); k_whole); intro y' t' hy'))
local macro_rules | `(tactic| walk_at "subscriptTail") => `(tactic| (k_here; (with_reducible show wpAny _ _ (subscriptTail _ _ (Value.ref _) (Value.int (-1) _)) _ _ _); k_dflt (refine' names_last ?k1 ?k2 ?k3 ?k4 ?_ ?k6; (case k1 => k_asm); (case k2 => k_mem); (case k3 => with_reducible assumption); (case k4 => with_reducible assumption); (case k6 => with_unfolding_all rfl); k_whole); intro y' t' hy'))
local macro_rules | `(tactic| walk_at "subscriptTail") => `(tactic| (k_here; (with_reducible show wpAny _ _ (subscriptTail _ _ (Value.ref _) (Value.int 0 _)) _ _ _); k_dflt (refine' chunk_head ?k1 ?k2 ?k3 ?k4 ?_ ?k6; (case k1 => k_asm); (case k2 => k_mem); (case k3 => with_reducible assumption); (case k4 => with_reducible assumption); (case k6 => with_unfolding_all rfl); k_whole); intro a' r' tn' tb' k' hr' hm' hz'))
local macro_rules | `(tactic| walk_at "call builtin:len") => `(tactic| (k_here; (with_reducible show wpAny _ _ (call (Value.builtin "len") [Value.bytes _ _]) _ _ _); k_dflt (refine' octets_len ?k1 ?_; (case k1 => with_reducible assumption); k_whole)))
local macro_rules | `(tactic| walk_at "subscriptTail") => `(tactic| (k_here; (with_reducible show wpAny _ _ (subscriptTail _ (Expr.Slice _ _ none _) (Value.bytes _ _) (Value.ref _)) _ _ _); (with_reducible rename Fr _ _ _ _ => F'); (with_reducible rename News _ _ _ _ => N'); (refine octets_cut (s := ⟨_, _, _, _, _⟩) F' N' (by with_reducible assumption) (by constructor) (by constructor) ?_); intro b' h' t' k' F'' N'' hb''))
local macro_rules | `(tactic| walk_at "noteFrame ref") => `(tactic| (k_here; k_dflt (refine' caught_SD ?R ?F ?K ?U ?X ?T ?_ ?a ?b ?c; (case R => with_reducible assumption); (case F => k_asm); (case K => k_asm); (case U => k_asm); (case X => k_asm); (case T => k_asm); (case a => rfl); (case b => rfl); (case c => rfl); k_whole); intro h' g' oe' tk' Tn' c1' c2' c3' F' N' B' X' T'))
local macro_rules | `(tactic| walk_at "LeaveS0") => `(tactic| (k_dflt (refine' leaveS0_ ?k1 ?k2 ?k3 ?_; (case k1 => k_asm); (case k2 => k_asm); (case k3 => first | with_reducible assumption | exact KtsTurn.refl); k_whole); intro kF kN; (try dsimp only)))
local macro_rules | `(tactic| walk_at "getAttr ref") => `(tactic| (k_here; k_dflt (refine' get_msgN ?F ?X ?N ?a ?b ?c1 ?c2 ?c3 ?_; (case F => k_asm); (case X => k_asm); (case N => k_asm); (case a => k_mem); (case c2 => with_reducible assumption); (case b => k_mem); (case c1 => with_reducible assumption); (case c3 => with_reducible assumption); k_whole)))
local macro_rules | `(tactic| walk_at "exec Raise some none") => `(tactic| (k_here; k_dflt (refine' raise_sheet ?F ?X ?T ?l ?h ?r ?k ?x ?z ?_; (case F => k_asm); (case X => k_asm); (case T => k_asm); (case l => exact Top.nolimit (by k_asm)); (case h => rfl); (case r => ktr_room); (case k => rfl); (case x => rfl); (case z => decide +kernel); k_whole); intro h' e' d' tk' hm'))
local macro_rules | `(tactic| walk_at "leaving ref") => `(tactic| (k_here; k_dflt (refine' leave_SD ?K ?m ?F ?N ?_; (case m => with_reducible assumption); (case K => k_asm); (case F => k_asm); (case N => k_asm); k_whole); intro h' tk' tv' R' U'; (try dsimp only at R' U' ⊢)))
local macro_rules | `(tactic| k_room) => `(tactic| ktr_room)

/-- as Ctr, called from the outermost frame -/
def Ctr0 (w : World) (mean : ExcName → Option Value) (mg mb : MStr → Option Value) (f : MAddr) (vs : List Value) (news : Led) (R : Value → Led → Prop) : Prop :=
  ∀ (dp un : Nat) (gd : Option (List Code)) (cn : MStr) (cs : Scope) (a : MAddr) (ccd : Value) (cl : List (MStr × MAddr)) (A₀ : Around) (h₀ : Heap) (L : MAddr) (m : MStr → Option Value) (s : Shared) (Q E : Value → Shared → Prop),
    Below A₀ h₀ [] h₀ → Fr h₀ L s.heap m → (Mine.hd.heap_39 w.params).In h₀ → News h₀ L s.heap news → Top Mine.hd.view_39 (looseW Mine.hd.view_39 []) mean mg mb h₀ → cs.kind = .function →
    dp + 6 < recursionLimit → un + 64 < cLine →
    (∀ r news' h' tk', Fr h₀ L h' m → News h₀ L h' news' → R r news' → Q r { s with heap := h', toks := tk' }) →
    wpAny (model PySem.Challenge.rw_xm0704_01.prog w) (ktrTop dp un gd cn cs L a ccd cl []) (call (.ref f) vs) Q E s

/-- a contract of the outermost kind used: its frame's facts in one bundle -/
theorem ctr_use0 {w : World} {mean mg mb} {f : MAddr} {vs : List Value} {news : Led} {R : Value → Led → Prop} (C : Ctr0 w mean mg mb f vs news R)
    {dp un : Nat} {gd : Option (List Code)} {cn : MStr} {cs : Scope} {a : MAddr} {ccd : Value} {cl : List (MStr × MAddr)} {A₀ : Around} {h₀ : Heap} {L : MAddr} {m : MStr → Option Value} {s : Shared} {Q E : Value → Shared → Prop}
    (N : News h₀ L s.heap news)
    (K : Below A₀ h₀ [] h₀ ∧ Fr h₀ L s.heap m ∧ (Mine.hd.heap_39 w.params).In h₀ ∧ Top Mine.hd.view_39 (looseW Mine.hd.view_39 []) mean mg mb h₀ ∧ cs.kind = .function ∧ dp + 6 < recursionLimit ∧ un + 64 < cLine)
    (k : ∀ r news' h' tk', Fr h₀ L h' m → News h₀ L h' news' → R r news' → Q r { s with heap := h', toks := tk' }) :
    wpAny (model PySem.Challenge.rw_xm0704_01.prog w) (ktrTop dp un gd cn cs L a ccd cl []) (call (.ref f) vs) Q E s :=
  C dp un gd cn cs a ccd cl A₀ h₀ L m s Q E K.1 K.2.1 K.2.2.1 N K.2.2.2.1 K.2.2.2.2.1 K.2.2.2.2.2.1 K.2.2.2.2.2.2 k

theorem answer_end {h₀ h' : Heap} {L : MAddr} {m : MStr → Option Value} {s : Shared} {Q : Value → Shared → Prop} {news big : Led} {rs : List Row} {msg : MStr} {t : Tok} {tk : Nat}
    (hret : ∀ r news' h' tk', Fr h₀ L h' m → News h₀ L h' news' → (fun r news' => news' = news ∧ ∃ t, r = .str (verdict rs) t) r news' → Q r { s with heap := h', toks := tk' })
    (F : Fr h₀ L h' m) (N : News h₀ L h' big) (hs : ∀ p ∈ news, p ∈ big) (e : verdict rs = msg) : Q (.str msg t) { s with heap := h', toks := tk } := by
  subst e
  exact hret _ news _ _ F (cb_drop N hs) ⟨rfl, _, rfl⟩

theorem answer_ctr {w : World} {mean mg mb} {l : MAddr} {news : Led} {vs : List Value} {n : Nat} {rs : List Row} (hm : (l, W.listOf vs.toArray n) ∈ news) (hz : vs.length < 1000) (R : RowsIn news vs rs) :
    Ctr0 w mean mg mb 79 [.ref l] news (fun r news' => news' = news ∧ ∃ t, r = .str (verdict rs) t) := by
  intro dp un gd cn cs ac ccd cl A₀ h₀ L m s Q E B F X N T hk hd hu hret
  k_dflt (refine' wpAny_call (enter_S0 B F X N T ?kA ?kF ?kK ?k6 ?k7 ?k8 ?kb ?kB ?_ ?c2 ?c3 ?c4 ?k9); (case kA => exact rfl); (case kF => exact rfl); (case kK => exact hk); (case k6 => k_is); (case k7 => k_is); (case k8 => ktr_room); (case kb => exact BindsTo.of_eq rfl); (case kB => exact locs rfl); (case k9 => decide); (case c2 => exact rfl); (case c3 => exact rfl); (case c4 => exact rfl); k_whole)
  intro g' L' h' F' N' B' X' T'
  (try dsimp only)
  (try k_fold)
  k_steps
  · exact answer_end hret (by k_asm) (by k_asm) (by intro p hp; repeat (first | exact hp | apply List.Mem.tail)) (v_lack1 (by with_reducible assumption))
  · exact answer_end hret (by k_asm) (by k_asm) (by intro p hp; repeat (first | exact hp | apply List.Mem.tail)) (v_lack2 (by with_reducible assumption) (by with_reducible assumption))
  · exact answer_end hret (by k_asm) (by k_asm) (by intro p hp; repeat (first | exact hp | apply List.Mem.tail)) (v_lack3 (by with_reducible assumption) (by with_reducible assumption))
  · have hl := not_lack (rs := rs) (by with_reducible assumption) (by with_reducible assumption) (by with_reducible assumption) (by with_reducible assumption) (by with_reducible assumption) (by with_reducible assumption)
    exact answer_end hret (by k_asm) (by k_asm) (by intro p hp; repeat (first | exact hp | apply List.Mem.tail)) (v_twice1 hl (by with_reducible assumption))
  · have hl := not_lack (rs := rs) (by with_reducible assumption) (by with_reducible assumption) (by with_reducible assumption) (by with_reducible assumption) (by with_reducible assumption) (by with_reducible assumption)
    exact answer_end hret (by k_asm) (by k_asm) (by intro p hp; repeat (first | exact hp | apply List.Mem.tail)) (v_twice2 hl (by with_reducible assumption))
  · have hl := not_lack (rs := rs) (by with_reducible assumption) (by with_reducible assumption) (by with_reducible assumption) (by with_reducible assumption) (by with_reducible assumption) (by with_reducible assumption)
    have ht := not_twice (rs := rs) (by with_reducible assumption) (by with_reducible assumption)
    exact answer_end hret (by k_asm) (by k_asm) (by intro p hp; repeat (first | exact hp | apply List.Mem.tail)) (v_kind1 hl ht (by with_reducible assumption) (by with_reducible assumption))
  · have hl := not_lack (rs := rs) (by with_reducible assumption) (by with_reducible assumption) (by with_reducible assumption) (by with_reducible assumption) (by with_reducible assumption) (by with_reducible assumption)
    have ht := not_twice (rs := rs) (by with_reducible assumption) (by with_reducible assumption)
    exact answer_end hret (by k_asm) (by k_asm) (by intro p hp; repeat (first | exact hp | apply List.Mem.tail)) (v_kind2 hl ht (by with_reducible assumption) (by with_reducible assumption) (by with_reducible assumption) (by decide +kernel))
  · have hl := not_lack (rs := rs) (by with_reducible assumption) (by with_reducible assumption) (by with_reducible assumption) (by with_reducible assumption) (by with_reducible assumption) (by with_reducible assumption)
    have ht := not_twice (rs := rs) (by with_reducible assumption) (by with_reducible assumption)
    exact answer_end hret (by k_asm) (by k_asm) (by intro p hp; repeat (first | exact hp | apply List.Mem.tail)) (v_let hl ht (by with_reducible assumption) (by with_reducible assumption) (by with_reducible assumption) (by with_reducible assumption) (by with_reducible assumption) (by decide +kernel))
  · exact answer_end hret (by k_asm) (by k_asm) (by intro p hp; repeat (first | exact hp | apply List.Mem.tail)) (v_lack4 (by with_reducible assumption))
end Mine

namespace Mine
open PySem PySem.W PyProof.Rows
open PyProof.Rows.LCg
set_option maxRecDepth 100000
set_option maxHeartbeats 4000000
local macro_rules | `(tactic| walk_at "mine pad0") => `(tactic| skip)
local macro_rules | `(tactic| walk_at "mine pad1") => `(tactic| skip)
theorem fill10 : (PySem.Challenge.rw_xm0704_01 = PySem.Challenge.rw_xm0704_01) ∧ (Mine.hd.heap_39 = Mine.hd.heap_39) := by
  w_top off; k_fill; exact ⟨rfl, rfl⟩

theorem strs_mem {vs : List Value} {ys : List MStr} (h : StrsAre vs ys) {r : Value} (hr : r ∈ vs) : ∃ y t, r = .str y t ∧ y ∈ ys := by
  obtain ⟨i, hi, e⟩ := List.getElem_of_mem hr
  obtain ⟨y, t, e1, e2⟩ := strs_get h (i := i) (v := r) (by rw [List.getElem?_eq_getElem hi, e])
  exact ⟨y, t, e1, List.mem_of_getElem? e2⟩

local macro_rules | `(tactic| walk_at "mine pull") => `(tactic| first | k_asm | exact pull1 (by k_asm) | exact pull2 (by k_asm) | exact pull3 (by k_asm) | exact pull4 (by k_asm) | exact pull5 (by k_asm) | exact pull6 (by k_asm))
local macro_rules | `(tactic| walk_at "mine kk") => `(tactic| (refine ⟨?k1, ?k2, ?k3, ?k5, ?kK, ?kd, ?ku⟩; (case k1 => k_asm); (case k2 => k_asm); (case k3 => k_asm); (case k5 => k_asm); (case kK => first | exact rfl | assumption); (case kd => ktr_room); (case ku => ktr_units)))
local macro_rules | `(tactic| walk_at "mine end") => `(tactic| ((try k_sweep); (try dsimp only); (try k_fold)))
local macro_rules | `(tactic| k_mem) => `(tactic| first | (with_reducible assumption) | exact memL (by with_reducible assumption))
local macro_rules | `(tactic| k_all) => `(tactic| with_reducible assumption)
local macro_rules | `(tactic| k_room) => `(tactic| ktr_room)
local macro_rules | `(tactic| walk_at "call ref") => `(tactic| (k_here; (with_reducible show wpAny _ _ (call (Value.ref 65) _) _ _ _); k_dflt (refine' ctr_use (take_ctr ?hoff ?ho ?ht ?ht') ?k4 ?kk ?_; (case k4 => walk_at "mine pull"); (case hoff => k_all); (case ho => with_reducible assumption); (case ht => first | decide | omega); (case ht' => first | decide | omega); (case kk => walk_at "mine kk"); k_whole); intro r' news' h' tk' F' N' hR; obtain ⟨v', tv', o', e1', hv0', hv1', hO', e2'⟩ := hR; subst e1' e2'; walk_at "mine end"))
local macro_rules | `(tactic| walk_at "call ref") => `(tactic| (k_here; (with_reducible show wpAny _ _ (call (Value.ref 72) _) _ _ _); k_dflt (refine' ctr_use (one_ctr ?hoff ?ho ?hm ?h0 ?h1) ?k4 ?kk ?_; (case k4 => walk_at "mine pull"); (case hoff => k_all); (case ho => with_reducible assumption); (case hm => k_mem); (case h0 => exact Nat.le_of_ble_eq_true rfl); (case h1 => exact Nat.le_of_ble_eq_true rfl); (case kk => walk_at "mine kk"); k_whole); intro r' news' h' tk' F' N' hR; obtain ⟨o', hr', hO', e2'⟩ := hR; subst e2'; (first | (obtain ⟨y', t', e3', hy'⟩ := strs_mem (by (repeat constructor); done) hr'; subst e3') | skip); walk_at "mine end"))

theorem rep_len {x : Int} {n : Nat} : (List.replicate n [x]).flatten.length = n := by simp
theorem in_rep {x : Int} {n : Nat} (h0 : 0 ≤ x) (h1 : x < 256) : KBa.In (List.replicate n [x]).flatten := by
  intro k hk
  rw [List.mem_flatten] at hk
  obtain ⟨l, hl, hk⟩ := hk
  rw [List.eq_of_mem_replicate hl, List.mem_singleton] at hk
  exact ⟨by omega, by omega⟩
local macro_rules | `(tactic| kba_in) => `(tactic| exact in_rep (by with_reducible assumption) (by with_reducible assumption))

abbrev OtherR (src : MAddr) (rest : Led) (r : Value) (news' : Led) : Prop :=
  ∃ o' rest' row, SrcOk o' ∧ news' = (src, o') :: rest' ∧ (∀ p ∈ rest, p ∈ rest') ∧ (∀ p ∈ rest', p.1 ≠ src) ∧ RowsIn rest' [r] [row] ∧ row.1 ∈ ([("tEXt" : MStr), "gAMA", "idat", "ihdr", "iEND", ""] : List MStr)
/-- the same, the row's place told -/
abbrev OtherS (src : MAddr) (rest : Led) (r : Value) (news' : Led) : Prop :=
  ∃ o' a row tn tb k, SrcOk o' ∧ r = .ref a ∧ news' = (src, o') :: (a, rowO row tn tb k) :: rest ∧ a ≠ src ∧ (∀ p ∈ rest, p.1 ≠ a) ∧ row.2.size ≤ 1000 ∧ row.1 ∈ ([("tEXt" : MStr), "gAMA", "idat", "ihdr", "iEND", ""] : List MStr)
theorem all_ne {D : MAddr} : ∀ {l : Led}, AllLt D l → ∀ p ∈ l, p.1 ≠ D
  | [], _, _, h => nomatch h
  | _ :: _, x, p, h => by
    rcases List.mem_cons.mp h with rfl | h
    · exact Nat.ne_of_lt x.1
    · exact all_ne x.2 p h
theorem other_end {h₀ h' : Heap} {L src D : MAddr} {m : MStr → Option Value} {s : Shared} {Q : Value → Shared → Prop} {rest big : Led} {o' : MObj} {nm : MStr} {b : Array UInt8} {tn tb : Tok} {k tk : Nat}
    (hret : ∀ r news' h' tk', Fr h₀ L h' m → News h₀ L h' news' → OtherS src rest r news' → Q r { s with heap := h', toks := tk' })
    (F : Fr h₀ L h' m) (N : News h₀ L h' ((D, { cls := .type "tuple", data := .seq #[Value.str nm tn, Value.bytes b tb] k }) :: big)) (hs : (src, o') ∈ big) (hr : ∀ p ∈ rest, p ∈ big) (ne : D ≠ src) (hlt : AllLt D rest) (hO : SrcOk o')
    (hz : b.size ≤ 1000) (hm : nm ∈ ([("tEXt" : MStr), "gAMA", "idat", "ihdr", "iEND", ""] : List MStr)) : Q (.ref D) { s with heap := h', toks := tk } :=
  hret _ ((src, o') :: (D, rowO (nm, b) tn tb k) :: rest) _ _ F (cb_drop N (List.forall_mem_cons.mpr ⟨.tail _ hs, List.forall_mem_cons.mpr ⟨.head _, fun p hp => .tail _ (hr p hp)⟩⟩))
    ⟨o', D, (nm, b), tn, tb, k, hO, rfl, rfl, ne, all_ne hlt, hz, hm⟩

theorem other_ctrS {w : World} {mean mg mb} {src : MAddr} {o : MObj} {rest : Led}
    (hoff : ∀ p ∈ rest, p.1 ≠ src) (ho : SrcOk o) :
    Ctr w mean mg mb 86 [.ref src] ((src, o) :: rest) 4 (OtherS src rest) := by
  intro dp un gd cn cs ac ccd cl outer A₀ base h₀ L m s Q E B F X N T hk hd hu hret
  refine wpAny_call ?_
  k_dflt ktr_enter
  k_steps
  refine other_end hret (by k_asm) (by k_asm) ?_ ?_ (by k_ne) ?_ (by with_reducible assumption) ?_ (by with_reducible assumption)
  · repeat (first | exact List.Mem.head _ | apply List.Mem.tail)
  · intro p hp; repeat (first | exact hp | apply List.Mem.tail)
  · (repeat (with_reducible (rename (_ ∧ _) => z9); obtain ⟨_, _⟩ := z9)); with_reducible assumption
  · rw [byteArr_size, rep_len]; omega
theorem Ctr.mono {w : World} {mean mg mb} {f : MAddr} {vs : List Value} {news : Led} {k : Nat} {R R' : Value → Led → Prop} (h : Ctr w mean mg mb f vs news k R) (i : ∀ r l, R r l → R' r l) : Ctr w mean mg mb f vs news k R' := by
  intro dp un gd cn cs ac ccd cl outer A₀ base h₀ L m s Q E B F X N T hk hd hu hret
  exact h dp un gd cn cs ac ccd cl outer A₀ base h₀ L m s Q E B F X N T hk hd hu fun r l h' tk' F' N' q => hret r l h' tk' F' N' (i r l q)
theorem other_ctr {w : World} {mean mg mb} {src : MAddr} {o : MObj} {rest : Led}
    (hoff : ∀ p ∈ rest, p.1 ≠ src) (ho : SrcOk o) :
    Ctr w mean mg mb 86 [.ref src] ((src, o) :: rest) 4 (OtherR src rest) := by
  refine Ctr.mono (other_ctrS hoff ho) ?_
  rintro r l ⟨o', a, row, tn, tb, k, h1, rfl, rfl, h2, h3, h4, h5⟩
  exact ⟨o', _, row, h1, rfl, fun p hp => .tail _ hp, List.forall_mem_cons.mpr ⟨h2, hoff⟩, .cons (.head _) h4 .nil, h5⟩
end Mine

namespace Mine
open PySem PySem.W PyProof.Rows
open PyProof.Rows.LCg
set_option maxRecDepth 100000
set_option maxHeartbeats 4000000
theorem fill11 : (PySem.Challenge.rw_xm0704_01 = PySem.Challenge.rw_xm0704_01) ∧ (Mine.hd.heap_39 = Mine.hd.heap_39) := by
  w_top off; k_fill; exact ⟨rfl, rfl⟩

local macro_rules | `(tactic| k_mem) => `(tactic| first | (with_reducible assumption) | exact memL (by with_reducible assumption))
local macro_rules | `(tactic| k_all) => `(tactic| with_reducible assumption)
local macro_rules | `(tactic| k_room) => `(tactic| ktr_room)

theorem ite_nn (c : Prop) [Decidable c] : 0 ≤ (if c then (1 : Int) else 0) := by split <;> decide

theorem pool_ctr {w : World} {mean mg mb} {l : MAddr} {vs : List Value} {ns : List Int} {news : Led} (hI : IntsAre vs ns) (hn : ns.length < 64) (hlay : PyData.layable0 (.list (ns.map .int)) = true) :
    ∀ (dp un : Nat) (gd : Option (List Code)) (cn : MStr) (cs : Scope) (a : MAddr) (ccd : Value) (cl : List (MStr × MAddr)) (outer : List Env) (A₀ : Around) (base h₀ : Heap) (L : MAddr) (m : MStr → Option Value) (s : Shared) (Q E : Value → Shared → Prop),
    Below A₀ base outer h₀ → Fr h₀ L s.heap m → (Mine.hd.heap_39 w.params).In h₀ → News h₀ L s.heap news → Top Mine.hd.view_39 (looseW Mine.hd.view_39 []) mean mg mb h₀ → cs.kind = .function → base.IsList l vs.toArray →
    dp + 2 < recursionLimit → un + 16 < cLine →
    (∀ src o h' tk', Fr h₀ L h' m → News h₀ L h' ((src, o) :: news) → (∀ p ∈ news, p.1 ≠ src) → SrcOk o → Q (.ref src) { s with heap := h', toks := tk' }) →
    wpAny (model PySem.Challenge.rw_xm0704_01.prog w) (ktrTop dp un gd cn cs L a ccd cl outer) (call (.ref 58) [.ref l]) Q E s := by
  intro dp un gd cn cs ac ccd cl outer A₀ base h₀ L m s Q E B F X N T hk hl hd hu hret
  refine wpAny_call ?_
  k_dflt cell_enter
  k_steps
  all_goals (
    (rename (∀ p ∈ news, p.1 < _) => hlt)
    exact hret _ _ _ _ (by k_asm) (by k_asm) (fun p hp => Nat.ne_of_lt (hlt p hp)) ⟨_, _, _, _, _, rfl, Int.mul_nonneg (by split <;> omega) (ite_nn _), (fmod_pos (by decide)).1, (fmod_pos (by decide)).2⟩)
end Mine

namespace Mine
open PySem PySem.W PyProof.Rows
open PyProof.Rows.LCg
set_option maxRecDepth 100000
set_option maxHeartbeats 1000000
/-! lists of any values in the ledger: glued, cut, turned, repeated -/
theorem list_at {h₀ h : Heap} {L a : MAddr} {news : Led} {vs : List Value} {n : Nat} (N : News h₀ L h news) (hm : (a, W.listOf vs.toArray n) ∈ news) : h.IsList a vs.toArray := ⟨_, (N _ hm).1, rfl, n, rfl⟩
section
variable {prog : Program} {w : World} {A : Around} {E : Value → Shared → Prop} {s : Shared} {h₀ : Heap} {L a b l : MAddr} {m : MStr → Option Value} {news : Led} {vs ws : List Value} {n k : Nat} {Q : Value → Shared → Prop} {value slice : PySem.Expr} {vl vu vk : Value} {lo hi : Option Int} {x : Int} {u : Tok}
theorem list_add (F : Fr h₀ L s.heap m) (N : News h₀ L s.heap news) (ha : (a, W.listOf vs.toArray n) ∈ news) (hb : (b, W.listOf ws.toArray k) ∈ news) (hz : vs.length < 1000) (hz' : ws.length < 1000)
    (h : ∀ D h', Fr h₀ L h' m → News h₀ L h' ((D, W.listOf (vs ++ ws).toArray 0) :: news) → (∀ p ∈ news, p.1 < D) → Q (.ref D) { s with heap := h' }) : wpAny (model prog w) A (binaryOp .Add (.ref a) (.ref b)) Q E s :=
  kmk_add_lit F N (list_at N ha) (list_at N hb) (zs := vs ++ ws) (by simp) h (by rw [sizeLine_eq]; simp only [List.toList_toArray]; omega)
theorem list_mul (F : Fr h₀ L s.heap m) (N : News h₀ L s.heap news) (ha : (a, W.listOf vs.toArray n) ∈ news) (h0 : 0 ≤ x) (h1 : x ≤ 8) (hz : vs.length ≤ 8)
    (h : ∀ D h', Fr h₀ L h' m → News h₀ L h' ((D, W.listOf (List.replicate x.toNat vs).flatten.toArray 0) :: news) → (∀ p ∈ news, p.1 < D) → Q (.ref D) { s with heap := h' }) : wpAny (model prog w) A (binaryOp .Mult (.ref a) (.int x u)) Q E s :=
  KMa.mul F N (list_at N ha) (by omega) (by omega) (Nat.le_trans (Nat.mul_le_mul hz (show x.toNat ≤ 8 by omega)) (by decide)) rfl h
theorem pick_from {vs : List Value} (hx : 0 ≤ x) : kms_pick vs (some x) none = vs.drop x.toNat := by
  unfold kms_pick kms_lo kms_hi
  simp only [if_neg (show ¬ x < 0 by omega)]
  rw [kmk_drop_min, List.take_of_length_le]
  rw [List.length_drop]
  omega
theorem pick_upto {vs : List Value} (hx : 0 ≤ x) : kms_pick vs none (some x) = vs.take x.toNat := by
  unfold kms_pick kms_lo kms_hi
  simp only [if_neg (show ¬ x < 0 by omega), List.drop_zero, Nat.sub_zero]
  exact kmk_take_min vs _
theorem pick_butlast {vs : List Value} : kms_pick vs none (some (-1)) = vs.dropLast := by
  unfold kms_pick kms_lo kms_hi
  simp only [show (-1 : Int) < 0 by decide, if_true, List.drop_zero, Nat.sub_zero]
  rw [List.dropLast_eq_take]
  rfl
theorem cut_from (F : Fr h₀ L s.heap m) (N : News h₀ L s.heap news) (ha : (l, W.listOf vs.toArray n) ∈ news) (hz : vs.length < 1000) (pl : IsPart vl (some x)) (pu : IsPart vu none) (hx : 0 ≤ x)
    (h : ∀ D h', Fr h₀ L h' m → News h₀ L h' ((D, W.listOf (vs.drop x.toNat).toArray 0) :: news) → (∀ p ∈ news, p.1 < D) → Q (.ref D) { s with heap := h' })
    (hs : subscripted slice false (.ref l) (.ref s.heap.objs.size) = operate [.ref s.heap.objs.size, .ref l] (getItem (.ref l) (.ref s.heap.objs.size))) (ht : ∀ r, letTemporaryGo value (.ref l) r = pure ()) :
    wpAny (model prog w) A (subscriptTail value slice (.ref l) (.ref s.heap.objs.size)) Q E { s with heap := s.heap.push { cls := .type "slice", data := .fields #[vl, vu, .none] } } :=
  kms_slice_lit F N (list_at N ha) pl pu (by rw [show vs.toArray.toList = vs from rfl]; exact pick_from hx) h hs ht (by rw [sizeLine_eq, List.size_toArray]; omega)
theorem cut_upto (F : Fr h₀ L s.heap m) (N : News h₀ L s.heap news) (ha : (l, W.listOf vs.toArray n) ∈ news) (hz : vs.length < 1000) (pl : IsPart vl none) (pu : IsPart vu (some x)) (hx : 0 ≤ x)
    (h : ∀ D h', Fr h₀ L h' m → News h₀ L h' ((D, W.listOf (vs.take x.toNat).toArray 0) :: news) → (∀ p ∈ news, p.1 < D) → Q (.ref D) { s with heap := h' })
    (hs : subscripted slice false (.ref l) (.ref s.heap.objs.size) = operate [.ref s.heap.objs.size, .ref l] (getItem (.ref l) (.ref s.heap.objs.size))) (ht : ∀ r, letTemporaryGo value (.ref l) r = pure ()) :
    wpAny (model prog w) A (subscriptTail value slice (.ref l) (.ref s.heap.objs.size)) Q E { s with heap := s.heap.push { cls := .type "slice", data := .fields #[vl, vu, .none] } } :=
  kms_slice_lit F N (list_at N ha) pl pu (by rw [show vs.toArray.toList = vs from rfl]; exact pick_upto hx) h hs ht (by rw [sizeLine_eq, List.size_toArray]; omega)
theorem cut_last (F : Fr h₀ L s.heap m) (N : News h₀ L s.heap news) (ha : (l, W.listOf vs.toArray n) ∈ news) (hz : vs.length < 1000) (pl : IsPart vl none) (pu : IsPart vu (some (-1)))
    (h : ∀ D h', Fr h₀ L h' m → News h₀ L h' ((D, W.listOf vs.dropLast.toArray 0) :: news) → (∀ p ∈ news, p.1 < D) → Q (.ref D) { s with heap := h' })
    (hs : subscripted slice false (.ref l) (.ref s.heap.objs.size) = operate [.ref s.heap.objs.size, .ref l] (getItem (.ref l) (.ref s.heap.objs.size))) (ht : ∀ r, letTemporaryGo value (.ref l) r = pure ()) :
    wpAny (model prog w) A (subscriptTail value slice (.ref l) (.ref s.heap.objs.size)) Q E { s with heap := s.heap.push { cls := .type "slice", data := .fields #[vl, vu, .none] } } :=
  kms_slice_lit F N (list_at N ha) pl pu (by rw [show vs.toArray.toList = vs from rfl]; exact pick_butlast) h hs ht (by rw [sizeLine_eq, List.size_toArray]; omega)
theorem cut_back {ops : List Value} (F : Fr h₀ L s.heap m) (N : News h₀ L s.heap news) (ha : (l, W.listOf vs.toArray n) ∈ news) (hz : vs.length < 1000) (pk : IsPart vk (some (-1)))
    (h : ∀ D h', Fr h₀ L h' m → News h₀ L h' ((D, W.listOf vs.reverse.toArray 0) :: news) → (∀ p ∈ news, p.1 < D) → Q (.ref D) { s with heap := h' })
    (hs : subscripted slice false (.ref l) (.ref s.heap.objs.size) = operate ops (getItem (.ref l) (.ref s.heap.objs.size))) (ht : ∀ r, letTemporaryGo value (.ref l) r = pure ()) :
    wpAny (model prog w) A (subscriptTail value slice (.ref l) (.ref s.heap.objs.size)) Q E { s with heap := s.heap.push { cls := .type "slice", data := .fields #[.none, .none, vk] } } :=
  krv_lit F N (list_at N ha) pk (by rw [show vs.toArray.toList = vs from rfl]) h hs ht (by rw [sizeLine_eq, List.size_toArray]; omega)
end

/-! comprehensions by what holds between their turns -/
section
variable {prog : Program} {w : World} {A : Around} {E : Value → Shared → Prop} {s₁ : Shared} {h₀ : Heap} {L : MAddr} {m : MStr → Option Value} {env : Env} {elt : PySem.Expr} {x : MStr} {scope : Scope} {cl : List (MStr × MAddr)}
theorem CompEnd.mono {I : MAddr} {oI : MObj} {C : MAddr} {oC : MObj} {D : MAddr} {oD : MObj} {S : Led → Prop} {r r' : Value → Led → Prop} {y : Value} {s₂ : Shared} (h : LCg.CompEnd h₀ L m s₁ I oI C oC D oD S r y s₂) (k : ∀ y news, r y news → r' y news) : LCg.CompEnd h₀ L m s₁ I oI C oC D oD S r' y s₂ := by
  obtain ⟨h', tk, news', a, b, c, d, e, f⟩ := h
  exact ⟨h', tk, news', a, b, c, d, e, k _ _ f⟩
theorem rest_ind {S : Led → Prop} {P : Nat → Value → Prop} {Fin : List Value → Led → Prop} {n : Nat} (Inv : Nat → List Value → Led → Prop)
    (step : ∀ i ys news, i < n → Inv i ys news → ∀ v I oI C oC D m₂ h tk (E' : Value → Shared → Prop), P i v → NsObj oC m₂ → m₂ x = some v → Fr h₀ L h m → News h₀ L h ((I, oI) :: (C, oC) :: (D, lst ys) :: news) → Off3 I C D news → ((@Ne Nat I C) ∧ (@Ne Nat I D) ∧ (@Ne Nat C D)) →
      wpAny (model prog w) A (eval elt (compEnvC scope cl C env)) (LCg.CompEnd h₀ L m { s₁ with heap := h, toks := tk } I oI C oC D (lst ys) S (fun y news' => Inv (i + 1) (ys ++ [y]) news')) E' { s₁ with heap := h, toks := tk })
    (fin : ∀ ys news, Inv n ys news → Fin ys news) : ∀ k i ys news, i + k = n → Inv i ys news → CompRest prog w A h₀ L m env elt x scope cl s₁ S P Fin k i ys news
  | 0, i, ys, news, hi, h => CompRest.zero (fin ys news (by rw [← (show i = n by omega)]; exact h))
  | k + 1, i, ys, news, hi, h => CompRest.succ fun v I oI C oC D m₂ hh tk E' hP hns hx F N off ne =>
    wpAny_mono (step i ys news (by omega) h v I oI C oC D m₂ hh tk E' hP hns hx F N off ne) (fun y s₂ z => CompEnd.mono z fun y news' q => rest_ind Inv step fin k (i + 1) _ _ (by omega) q) fun _ _ e => e
end
end Mine

namespace Mine
open PySem PySem.W PyProof.Rows
open PyProof.Rows.LCg
set_option maxRecDepth 100000
set_option maxHeartbeats 1000000
theorem sub_skip {e : MAddr × MObj} {l big : Led} (h : ∀ p ∈ l, p ∈ big) : ∀ p ∈ l, p ∈ e :: big := fun p hp => .tail _ (h p hp)
theorem sub_keep {e : MAddr × MObj} {l big : Led} (h : ∀ p ∈ l, p ∈ big) : ∀ p ∈ e :: l, p ∈ e :: big := List.forall_mem_cons.mpr ⟨.head _, fun p hp => .tail _ (h p hp)⟩
theorem sub_swap {e x : MAddr × MObj} {l big : Led} (h : ∀ p ∈ x :: l, p ∈ big) : ∀ p ∈ x :: e :: l, p ∈ e :: big :=
  List.forall_mem_cons.mpr ⟨.tail _ (h _ (.head _)), List.forall_mem_cons.mpr ⟨.head _, fun p hp => .tail _ (h p (.tail _ hp))⟩⟩
theorem sub_same {l : Led} : ∀ p ∈ l, p ∈ l := fun _ h => h
section
variable {h₀ h : Heap} {L : MAddr} {x e1 e2 e3 e4 e5 e6 e7 e8 e9 e10 e11 e12 e13 e14 e15 e16 e17 e18 : MAddr × MObj} {rest : Led}
theorem pull7 (N : News h₀ L h (e1 :: e2 :: e3 :: e4 :: e5 :: e6 :: e7 :: x :: rest)) : News h₀ L h (x :: e1 :: e2 :: e3 :: e4 :: e5 :: e6 :: e7 :: rest) := cb_drop N (sub_swap (sub_swap (sub_swap (sub_swap (sub_swap (sub_swap (sub_swap (sub_same))))))))
theorem pull8 (N : News h₀ L h (e1 :: e2 :: e3 :: e4 :: e5 :: e6 :: e7 :: e8 :: x :: rest)) : News h₀ L h (x :: e1 :: e2 :: e3 :: e4 :: e5 :: e6 :: e7 :: e8 :: rest) := cb_drop N (sub_swap (sub_swap (sub_swap (sub_swap (sub_swap (sub_swap (sub_swap (sub_swap (sub_same)))))))))
theorem pull9 (N : News h₀ L h (e1 :: e2 :: e3 :: e4 :: e5 :: e6 :: e7 :: e8 :: e9 :: x :: rest)) : News h₀ L h (x :: e1 :: e2 :: e3 :: e4 :: e5 :: e6 :: e7 :: e8 :: e9 :: rest) := cb_drop N (sub_swap (sub_swap (sub_swap (sub_swap (sub_swap (sub_swap (sub_swap (sub_swap (sub_swap (sub_same))))))))))
theorem pull10 (N : News h₀ L h (e1 :: e2 :: e3 :: e4 :: e5 :: e6 :: e7 :: e8 :: e9 :: e10 :: x :: rest)) : News h₀ L h (x :: e1 :: e2 :: e3 :: e4 :: e5 :: e6 :: e7 :: e8 :: e9 :: e10 :: rest) := cb_drop N (sub_swap (sub_swap (sub_swap (sub_swap (sub_swap (sub_swap (sub_swap (sub_swap (sub_swap (sub_swap (sub_same)))))))))))
theorem pull11 (N : News h₀ L h (e1 :: e2 :: e3 :: e4 :: e5 :: e6 :: e7 :: e8 :: e9 :: e10 :: e11 :: x :: rest)) : News h₀ L h (x :: e1 :: e2 :: e3 :: e4 :: e5 :: e6 :: e7 :: e8 :: e9 :: e10 :: e11 :: rest) := cb_drop N (sub_swap (sub_swap (sub_swap (sub_swap (sub_swap (sub_swap (sub_swap (sub_swap (sub_swap (sub_swap (sub_swap (sub_same))))))))))))
theorem pull12 (N : News h₀ L h (e1 :: e2 :: e3 :: e4 :: e5 :: e6 :: e7 :: e8 :: e9 :: e10 :: e11 :: e12 :: x :: rest)) : News h₀ L h (x :: e1 :: e2 :: e3 :: e4 :: e5 :: e6 :: e7 :: e8 :: e9 :: e10 :: e11 :: e12 :: rest) := cb_drop N (sub_swap (sub_swap (sub_swap (sub_swap (sub_swap (sub_swap (sub_swap (sub_swap (sub_swap (sub_swap (sub_swap (sub_swap (sub_same)))))))))))))
theorem pull13 (N : News h₀ L h (e1 :: e2 :: e3 :: e4 :: e5 :: e6 :: e7 :: e8 :: e9 :: e10 :: e11 :: e12 :: e13 :: x :: rest)) : News h₀ L h (x :: e1 :: e2 :: e3 :: e4 :: e5 :: e6 :: e7 :: e8 :: e9 :: e10 :: e11 :: e12 :: e13 :: rest) := cb_drop N (sub_swap (sub_swap (sub_swap (sub_swap (sub_swap (sub_swap (sub_swap (sub_swap (sub_swap (sub_swap (sub_swap (sub_swap (sub_swap (sub_same))))))))))))))
theorem pull14 (N : News h₀ L h (e1 :: e2 :: e3 :: e4 :: e5 :: e6 :: e7 :: e8 :: e9 :: e10 :: e11 :: e12 :: e13 :: e14 :: x :: rest)) : News h₀ L h (x :: e1 :: e2 :: e3 :: e4 :: e5 :: e6 :: e7 :: e8 :: e9 :: e10 :: e11 :: e12 :: e13 :: e14 :: rest) := cb_drop N (sub_swap (sub_swap (sub_swap (sub_swap (sub_swap (sub_swap (sub_swap (sub_swap (sub_swap (sub_swap (sub_swap (sub_swap (sub_swap (sub_swap (sub_same)))))))))))))))
theorem pull15 (N : News h₀ L h (e1 :: e2 :: e3 :: e4 :: e5 :: e6 :: e7 :: e8 :: e9 :: e10 :: e11 :: e12 :: e13 :: e14 :: e15 :: x :: rest)) : News h₀ L h (x :: e1 :: e2 :: e3 :: e4 :: e5 :: e6 :: e7 :: e8 :: e9 :: e10 :: e11 :: e12 :: e13 :: e14 :: e15 :: rest) := cb_drop N (sub_swap (sub_swap (sub_swap (sub_swap (sub_swap (sub_swap (sub_swap (sub_swap (sub_swap (sub_swap (sub_swap (sub_swap (sub_swap (sub_swap (sub_swap (sub_same))))))))))))))))
theorem pull16 (N : News h₀ L h (e1 :: e2 :: e3 :: e4 :: e5 :: e6 :: e7 :: e8 :: e9 :: e10 :: e11 :: e12 :: e13 :: e14 :: e15 :: e16 :: x :: rest)) : News h₀ L h (x :: e1 :: e2 :: e3 :: e4 :: e5 :: e6 :: e7 :: e8 :: e9 :: e10 :: e11 :: e12 :: e13 :: e14 :: e15 :: e16 :: rest) := cb_drop N (sub_swap (sub_swap (sub_swap (sub_swap (sub_swap (sub_swap (sub_swap (sub_swap (sub_swap (sub_swap (sub_swap (sub_swap (sub_swap (sub_swap (sub_swap (sub_swap (sub_same)))))))))))))))))
theorem pull17 (N : News h₀ L h (e1 :: e2 :: e3 :: e4 :: e5 :: e6 :: e7 :: e8 :: e9 :: e10 :: e11 :: e12 :: e13 :: e14 :: e15 :: e16 :: e17 :: x :: rest)) : News h₀ L h (x :: e1 :: e2 :: e3 :: e4 :: e5 :: e6 :: e7 :: e8 :: e9 :: e10 :: e11 :: e12 :: e13 :: e14 :: e15 :: e16 :: e17 :: rest) := cb_drop N (sub_swap (sub_swap (sub_swap (sub_swap (sub_swap (sub_swap (sub_swap (sub_swap (sub_swap (sub_swap (sub_swap (sub_swap (sub_swap (sub_swap (sub_swap (sub_swap (sub_swap (sub_same))))))))))))))))))
theorem pull18 (N : News h₀ L h (e1 :: e2 :: e3 :: e4 :: e5 :: e6 :: e7 :: e8 :: e9 :: e10 :: e11 :: e12 :: e13 :: e14 :: e15 :: e16 :: e17 :: e18 :: x :: rest)) : News h₀ L h (x :: e1 :: e2 :: e3 :: e4 :: e5 :: e6 :: e7 :: e8 :: e9 :: e10 :: e11 :: e12 :: e13 :: e14 :: e15 :: e16 :: e17 :: e18 :: rest) := cb_drop N (sub_swap (sub_swap (sub_swap (sub_swap (sub_swap (sub_swap (sub_swap (sub_swap (sub_swap (sub_swap (sub_swap (sub_swap (sub_swap (sub_swap (sub_swap (sub_swap (sub_swap (sub_swap (sub_same)))))))))))))))))))
end

/-- ints that are octets, k of them -/
structure Byts (vs : List Value) (ns : List Int) (k : Nat) : Prop where
  isI : IntsAre vs ns
  len : ns.length = k
  in_ : KBa.In ns
section
variable {vs ws : List Value} {ns ms : List Int} {j k : Nat}
theorem ints_append (h : IntsAre vs ns) (g : IntsAre ws ms) : IntsAre (vs ++ ws) (ns ++ ms) := by
  induction h with
  | nil => exact g
  | cons y u _ ih => exact .cons y u ih
theorem ints_drop (h : IntsAre vs ns) : ∀ i, IntsAre (vs.drop i) (ns.drop i) := by
  induction h with
  | nil => intro i; simpa using .nil
  | cons y u h ih => intro i; cases i with | zero => exact .cons y u h | succ i => exact ih i
theorem Byts.app (h : Byts vs ns j) (g : Byts ws ms k) : Byts (vs ++ ws) (ns ++ ms) (j + k) :=
  ⟨ints_append h.isI g.isI, by rw [List.length_append, h.len, g.len], fun n hn => (List.mem_append.mp hn).elim (h.in_ n) (g.in_ n)⟩
theorem Byts.drop (h : Byts vs ns j) (i : Nat) : Byts (vs.drop i) (ns.drop i) (j - i) := ⟨ints_drop h.isI i, by rw [List.length_drop, h.len], fun n hn => h.in_ n (List.mem_of_mem_drop hn)⟩
theorem Byts.set (h : Byts vs ns j) (i : Nat) {x : Int} (t : Tok) (h0 : 0 ≤ x) (h1 : x < 256) : Byts (vs.set i (.int x t)) (ns.set i x) j :=
  ⟨ints_set h.isI i, by rw [List.length_set, h.len], fun n hn => by
    rcases List.mem_or_eq_of_mem_set hn with h' | rfl
    · exact h.in_ n h'
    · exact ⟨h0, h1⟩⟩
theorem Byts.vlen (h : Byts vs ns j) : vs.length = j := h.isI.length.trans h.len
end
section
variable {prog : Program} {w : World} {A : Around} {E : Value → Shared → Prop} {s : Shared} {h₀ : Heap} {L a b l D : MAddr} {m : MStr → Option Value} {news news' : Led} {vs ws : List Value} {ns ms : List Int} {n i j k : Nat} {Q : Value → Shared → Prop} {value slice : PySem.Expr} {vl vu vk : Value} {x y : Int} {t u : Tok}
theorem byts_add (F : Fr h₀ L s.heap m) (N : News h₀ L s.heap news) (ha : (a, W.listOf vs.toArray n) ∈ news) (hb : (b, W.listOf ws.toArray i) ∈ news) (h1 : Byts vs ns j) (h2 : Byts ws ms k) (hj : j < 1000) (hk : k < 1000)
    (h : ∀ D h', Fr h₀ L h' m → News h₀ L h' ((D, W.listOf (vs ++ ws).toArray 0) :: news) → (∀ p ∈ news, p.1 < D) → Byts (vs ++ ws) (ns ++ ms) (j + k) → Q (.ref D) { s with heap := h' }) : wpAny (model prog w) A (binaryOp .Add (.ref a) (.ref b)) Q E s :=
  list_add F N ha hb (by rw [h1.vlen]; exact hj) (by rw [h2.vlen]; exact hk) fun D h' F' N' l1 => h D h' F' N' l1 (h1.app h2)
theorem byts_tail (F : Fr h₀ L s.heap m) (N : News h₀ L s.heap news) (ha : (l, W.listOf vs.toArray n) ∈ news) (h1 : Byts vs ns j) (hj : j < 1000) (pl : IsPart vl (some 1)) (pu : IsPart vu none)
    (h : ∀ D h', Fr h₀ L h' m → News h₀ L h' ((D, W.listOf (vs.drop 1).toArray 0) :: news) → (∀ p ∈ news, p.1 < D) → Byts (vs.drop 1) (ns.drop 1) (j - 1) → Q (.ref D) { s with heap := h' })
    (hs : subscripted slice false (.ref l) (.ref s.heap.objs.size) = operate [.ref s.heap.objs.size, .ref l] (getItem (.ref l) (.ref s.heap.objs.size))) (ht : ∀ r, letTemporaryGo value (.ref l) r = pure ()) :
    wpAny (model prog w) A (subscriptTail value slice (.ref l) (.ref s.heap.objs.size)) Q E { s with heap := s.heap.push { cls := .type "slice", data := .fields #[vl, vu, .none] } } :=
  cut_from F N ha (by rw [h1.vlen]; exact hj) pl pu (by decide) (fun D h' F' N' l1 => h D h' F' N' l1 (h1.drop 1)) hs ht
theorem byts_make (F : Fr h₀ L s.heap m) (N : News h₀ L s.heap news) (hh : A.handled = none) (ha : (a, W.listOf vs.toArray n) ∈ news) (h1 : Byts vs ns j) (hj : j < 1000)
    (h : ∀ h' t' k, Fr h₀ L h' m → News h₀ L h' news → Q (.bytes (byteArr ns) t') { s with heap := h', toks := k }) : wpAny (model prog w) A (call (.type "bytes") [.ref a]) Q E s :=
  KBa.make_K F N hh (list_at N ha) h1.isI h1.in_ (by rw [h1.len]; omega) fun h' t' k F' N' _ => h h' t' k F' N'
theorem byts_set {Q : Unit → Shared → Prop} (F : Fr h₀ L s.heap m) (N : News h₀ L s.heap news) (U : Upd D (W.listOf vs.toArray n) (W.listOf (vs.set x.toNat (.int y u)).toArray n) news news') (h1 : Byts vs ns j) (h0 : 0 ≤ x) (hx : x < (j : Int)) (hj : j < 1000) (y0 : 0 ≤ y) (y1 : y < 256)
    (h : ∀ h', Fr h₀ L h' m → News h₀ L h' news' → Byts (vs.set x.toNat (.int y u)) (ns.set x.toNat y) j → Q () { s with heap := h' }) :
    wpAny (model prog w) A (setItem (.ref D) (.int x t) (.int y u)) Q E s :=
  ksa_set F N U h1.isI h0 (by rw [h1.len]; exact hx) (by omega) fun h' F' N' _ _ _ => h h' F' N' (h1.set _ u y0 y1)
end
end Mine

namespace Mine
open PySem PySem.W PyProof.Rows
open PyProof.Rows.LCg
set_option maxRecDepth 100000
set_option maxHeartbeats 1000000
/-- the octets of a good head's tail -/
def kindOk (b : Array UInt8) : Prop := b.size = 13 ∧ b.toList.drop 8 = [8, 6, 0, 0, 0]
abbrev HeadsR (src : MAddr) (rest : Led) (r : Value) (news' : Led) : Prop :=
  ∃ o' t th tw k head wrong, SrcOk o' ∧ r = .ref t ∧ news' = (src, o') :: (t, { cls := .type "tuple", data := .seq #[Value.bytes head th, Value.bytes wrong tw] k }) :: rest ∧ t ≠ src ∧ kindOk head ∧ wrong.size ≤ 1000 ∧ ¬ kindOk wrong
theorem heads_end {h₀ h' : Heap} {L src D : MAddr} {m : MStr → Option Value} {s : Shared} {Q : Value → Shared → Prop} {rest big : Led} {o' : MObj} {b c : Array UInt8} {tn tb : Tok} {k tk : Nat}
    (hret : ∀ r news' h' tk', Fr h₀ L h' m → News h₀ L h' news' → HeadsR src rest r news' → Q r { s with heap := h', toks := tk' })
    (F : Fr h₀ L h' m) (N : News h₀ L h' ((D, { cls := .type "tuple", data := .seq #[Value.bytes b tn, Value.bytes c tb] k }) :: big)) (hs : (src, o') ∈ big) (hr : ∀ p ∈ rest, p ∈ big) (ne : D ≠ src) (hO : SrcOk o')
    (hz : kindOk b) (hc : c.size ≤ 1000) (hm : ¬ kindOk c) : Q (.ref D) { s with heap := h', toks := tk } :=
  hret _ ((src, o') :: (D, { cls := .type "tuple", data := .seq #[Value.bytes b tn, Value.bytes c tb] k }) :: rest) _ _ F (cb_drop N (List.forall_mem_cons.mpr ⟨.tail _ hs, List.forall_mem_cons.mpr ⟨.head _, fun p hp => .tail _ (hr p hp)⟩⟩))
    ⟨o', D, tn, tb, k, b, c, hO, rfl, rfl, ne, hz, hc, hm⟩

abbrev oct (n : Int) : UInt8 := n.toNat.toUInt8
theorem bytes_list (ns : List Int) : (byteArr ns).toList = ns.map oct := by simp [byteArr, oct]
theorem kind_iff {vals ms : List Int} (h : vals.length = 8) : kindOk (byteArr (vals ++ ms)) ↔ ms.length = 5 ∧ ms.map oct = [8, 6, 0, 0, 0] := by
  unfold kindOk
  rw [bytes_list, byteArr_size, List.map_append, List.length_append, List.drop_append_of_le_length (by simp [h]), List.drop_eq_nil_of_le (by simp [h])]
  simp only [List.nil_append]
  exact and_congr_left fun _ => by omega
theorem oct_ne {x y : Int} (x0 : 0 ≤ x) (x1 : x < 256) (y0 : 0 ≤ y) (y1 : y < 256) (h : x ≠ y) : oct x ≠ oct y := by
  intro e
  have := congrArg UInt8.toNat e
  simp only [oct, UInt8.toNat_ofNat, Nat.toUInt8, UInt8.toNat_ofNat'] at this
  omega
theorem head_kind {vals : List Int} (h : vals.length = 8) : kindOk (byteArr (vals ++ [8, 6, 0, 0, 0])) := (kind_iff h).mpr ⟨rfl, by decide⟩
theorem wrong_kind1 {vals : List Int} {v t : Int} (h : vals.length = 8) (v0 : 0 ≤ v) (v1 : v < 5) (t0 : 0 ≤ t) (t1 : t < 255) :
    ¬ kindOk (byteArr (vals ++ ([8, 6, 0, 0, 0] : List Int).set v.toNat (((([8, 6, 0, 0, 0] : List Int).getD v.toNat 0) + 1 + t).fmod 256))) := by
  intro k
  have k2 := ((kind_iff h).mp k).2
  rw [Int.fmod_eq_emod_of_nonneg _ (by decide)] at k2
  have hv : v = 0 ∨ v = 1 ∨ v = 2 ∨ v = 3 ∨ v = 4 := by omega
  have key : ∀ y : Int, 0 ≤ y → y < 256 → oct ((y + 1 + t) % 256) ≠ oct y := fun y y0 y1 => oct_ne (by omega) (by omega) y0 y1 (by omega)
  rcases hv with rfl | rfl | rfl | rfl | rfl
  · exact key 8 (by decide) (by decide) (by simpa using (List.cons.inj k2).1)
  · exact key 6 (by decide) (by decide) (by simpa using (List.cons.inj (List.cons.inj k2).2).1)
  · exact key 0 (by decide) (by decide) (by simpa using (List.cons.inj (List.cons.inj (List.cons.inj k2).2).2).1)
  · exact key 0 (by decide) (by decide) (by simpa using (List.cons.inj (List.cons.inj (List.cons.inj (List.cons.inj k2).2).2).2).1)
  · exact key 0 (by decide) (by decide) (by simpa using (List.cons.inj (List.cons.inj (List.cons.inj (List.cons.inj (List.cons.inj k2).2).2).2).2).1)
theorem wrong_kind2 {vals : List Int} (h : vals.length = 8) : ¬ kindOk (byteArr (vals ++ [8, 6, 0, 0, 0] ++ [0])) := by
  intro k; have := k.1; rw [byteArr_size] at this; simp [h] at this
theorem wrong_kind3 {vals : List Int} (h : vals.length = 8) : ¬ kindOk (byteArr (vals.drop 1 ++ [8, 6, 0, 0, 0])) := by
  intro k; have := k.1; rw [byteArr_size] at this; simp [h] at this
theorem wrong_kind4 {vals : List Int} (h : vals.length = 8) : ¬ kindOk (byteArr (vals ++ ([8, 6, 0, 0, 0] : List Int).drop 1)) := by
  intro k; have := k.1; rw [byteArr_size] at this; simp [h] at this
theorem wrong_kind5 : ¬ kindOk (byteArr []) := by
  intro k; have := k.1; rw [byteArr_size] at this; simp at this

end Mine

namespace Mine
open PySem PySem.W PyProof.Rows
open PyProof.Rows.LCg
local macro_rules | `(tactic| walk_at "mine pull") => `(tactic| first | (with_reducible assumption) | exact pull1 (by with_reducible assumption) | exact pull2 (by with_reducible assumption) | exact pull3 (by with_reducible assumption) | exact pull4 (by with_reducible assumption) | exact pull5 (by with_reducible assumption) | exact pull6 (by with_reducible assumption) | exact pull7 (by with_reducible assumption) | exact pull8 (by with_reducible assumption) | exact pull9 (by with_reducible assumption) | exact pull10 (by with_reducible assumption) | exact pull11 (by with_reducible assumption) | exact pull12 (by with_reducible assumption) | exact pull13 (by with_reducible assumption) | exact pull14 (by with_reducible assumption) | exact pull15 (by with_reducible assumption) | exact pull16 (by with_reducible assumption) | exact pull17 (by with_reducible assumption) | exact pull18 (by with_reducible assumption))
local macro_rules | `(tactic| walk_at "mine kk") => `(tactic| (refine ⟨?k1, ?k2, ?k3, ?k5, ?kK, ?kd, ?ku⟩; (case k1 => k_asm); (case k2 => k_asm); (case k3 => k_asm); (case k5 => k_asm); (case kK => first | exact rfl | assumption); (case kd => ktr_room); (case ku => ktr_units)))
local macro_rules | `(tactic| walk_at "mine end") => `(tactic| ((try k_sweep); (try dsimp only); (try k_fold)))
local macro_rules | `(tactic| keq_rows) => `(tactic| first | (with_reducible exact id) | (with_reducible exact Nat.ne_of_lt) | (with_reducible exact Nat.ne_of_gt) | (with_reducible exact Ne.symm) | ((with_reducible refine dgL ?_); keq_rows) | ((with_reducible refine dgR ?_); keq_rows) | fail)
local macro_rules | `(tactic| keq_hits) => `(tactic| ((with_reducible rename (_ ∧ _) => z9); first | (refine dgO z9 ?_; keq_rows) | (clear z9; keq_hits) | fail))
local macro_rules | `(tactic| kat_tups) => `(tactic| first | (with_reducible exact And.left) | ((with_reducible refine dgR ?_); kat_tups) | fail)
local macro_rules | `(tactic| k_mem) => `(tactic| first | (with_reducible assumption) | exact memL (by with_reducible assumption))
local macro_rules | `(tactic| k_all) => `(tactic| with_reducible assumption)
local macro_rules | `(tactic| k_room) => `(tactic| ktr_room)
local macro_rules | `(tactic| walk_at "call ref") => `(tactic| (k_here; (with_reducible show wpAny _ _ (call (Value.ref 65) _) _ _ _); k_dflt (refine' ctr_use (take_ctr ?hoff ?ho ?ht ?ht') ?k4 ?kk ?_; (case k4 => walk_at "mine pull"); (case hoff => k_all); (case ho => with_reducible assumption); (case ht => first | decide | omega); (case ht' => first | decide | omega); (case kk => walk_at "mine kk"); k_whole); intro r' news' h' tk' F' N' hR; obtain ⟨v', tv', o', e1', hv0', hv1', hO', e2'⟩ := hR; subst e1' e2'; walk_at "mine end"))
local macro_rules | `(tactic| lcg_off) => `(tactic| first | (with_reducible assumption) | exact And.right (by with_reducible assumption) | exact And.right (And.right (by with_reducible assumption)) | exact And.right (And.right (And.right (by with_reducible assumption))) | exact And.right (And.right (And.right (And.right (by with_reducible assumption)))) | exact And.right (And.right (And.right (And.right (And.right (by with_reducible assumption))))) | exact And.right (And.right (And.right (And.right (And.right (And.right (by with_reducible assumption))))))| exact And.right (And.right (And.right (And.right (And.right (And.right (And.right (by with_reducible assumption)))))))| exact True.intro | (refine And.intro ⟨by k_ne, by k_ne, by k_ne⟩ ?_; lcg_off))
local macro_rules | `(tactic| k_ne) => `(tactic| (refine neN ?_; (try dsimp only); first | (with_reducible assumption) | exact Ne.symm (by with_reducible assumption) | exact Nat.ne_of_lt (by with_reducible assumption) | exact Nat.ne_of_gt (by with_reducible assumption) | (refine Nat.ne_of_lt ?_; (with_reducible refine dgC (by assumption) ?_); kat_tups) | (refine Nat.ne_of_gt ?_; (with_reducible refine dgC (by assumption) ?_); kat_tups) | keq_hits | fail))

section
open PySem PySem.W PyProof.Rows
open PyProof.Rows.LCg
set_option maxRecDepth 100000
set_option maxHeartbeats 4000000
theorem fill_heads : (PySem.Challenge.rw_xm0704_01 = PySem.Challenge.rw_xm0704_01) ∧ (Mine.hd.heap_39 = Mine.hd.heap_39) := by
  w_top off; k_fill; exact ⟨rfl, rfl⟩

local macro_rules | `(tactic| walk_at "call ref") => `(tactic| (k_here; (with_reducible show wpAny _ _ (call (Value.ref 72) _) _ _ _); k_dflt (refine' ctr_use (one_ctr ?hoff ?ho ?hm ?h0 ?h1) ?k4 ?kk ?_; (case k4 => walk_at "mine pull"); (case hoff => k_all); (case ho => with_reducible assumption); (case hm => k_mem); (case h0 => exact Nat.le_of_ble_eq_true rfl); (case h1 => exact Nat.le_of_ble_eq_true rfl); (case kk => walk_at "mine kk"); k_whole); intro r' news' h' tk' F' N' hR; obtain ⟨o', hr', hO', e2'⟩ := hR; subst e2'; walk_at "mine end"; (try ((simp only [List.mem_cons, List.not_mem_nil, or_false] at hr'); (rcases hr' with hr' | hr' | hr' | hr' | hr' | hr') <;> subst hr'))))

section
variable {h₀ : Heap} {L I C D : MAddr} {m : MStr → Option Value} {s₁ : Shared} {oI oC oD : MObj} {S : Led → Prop} {rest : Value → Led → Prop} {y : Value} {h' : Heap} {tk : Nat} {x : MAddr × MObj} {news' : Led}
theorem compEnd0 (F : Fr h₀ L h' m) (N : News h₀ L h' ((I, oI) :: (C, oC) :: (D, oD) :: news')) (off : Off3 I C D news') (hS : S news') (r : rest y news') : CompEnd h₀ L m s₁ I oI C oC D oD S rest y { s₁ with heap := h', toks := tk } :=
  CompEnd.intro F N news' (fun _ hp => hp) off hS r
theorem compEnd1 (F : Fr h₀ L h' m) (N : News h₀ L h' (x :: (I, oI) :: (C, oC) :: (D, oD) :: news')) (off : Off3 I C D (x :: news')) (hS : S (x :: news')) (r : rest y (x :: news')) : CompEnd h₀ L m s₁ I oI C oC D oD S rest y { s₁ with heap := h', toks := tk } :=
  CompEnd.intro F N (x :: news') (by simp; grind) off hS r
end
local macro_rules | `(tactic| walk_at "CompEnd") => `(tactic| (k_dflt (first | refine' compEnd0 ?k1 ?k2 ?k3 ?k4 ?_; (case k1 => k_asm); (case k2 => k_asm); (case k3 => lcg_off); (case k4 => lcg_src); k_whole | refine' compEnd1 ?k1 ?k2 ?k3 ?k4 ?_; (case k1 => k_asm); (case k2 => k_asm); (case k3 => lcg_off); (case k4 => lcg_src); k_whole)))
theorem lt5 {x : Int} (h : x < 5) : x < ((5 : Nat) : Int) := h
theorem ints_snoc {vs : List Value} {ns : List Int} (h : IntsAre vs ns) (x : Int) (t : Tok) : IntsAre (vs ++ [.int x t]) (ns ++ [x]) := ints_append h (.cons x t .nil)
/-- a drawn octet: what a turn of [_law_take(source, 256) for ..] hands on -/
def DrawEnd (src : MAddr) (ce : MAddr × MObj) (rest : Led) (y : Value) (news' : Led) : Prop :=
  ∃ o' v t, SrcOk o' ∧ news' = (src, o') :: ce :: rest ∧ y = .int v t ∧ 0 ≤ v ∧ v < 256
section
variable {prog : Program} {w : World} {A : Around} {E : Value → Shared → Prop} {s₁ : Shared} {h₀ : Heap} {L : MAddr} {m : MStr → Option Value} {env : Env} {elt : PySem.Expr} {x : MStr} {scope : Scope} {cl : List (MStr × MAddr)}
theorem draws_src {Fin : Shared → List Value → Led → Prop} {r : MAddr} {a b : Int} {t u v : Tok} {n : Nat} {src : MAddr} {o : MObj} {ce : MAddr × MObj} {rest : Led}
    (hh : A.handled = none) (F : Fr h₀ L s₁.heap m) (N : News h₀ L s₁.heap (ce :: (src, o) :: rest)) (ho : SrcOk o) (hr : IsRange s₁.heap r a b 1 t u v) (hsm : Builtin.Range.small a b 1 = true) (hn : Builtin.Range.rangeSize a b 1 = ((n : Nat) : Int)) (hsz : n ≤ 8)
    (step : ∀ g ys o₁ val I oI C oC D m₂ h tk (E' : Value → Shared → Prop), SrcOk o₁ → NsObj oC m₂ → m₂ x = some val → Fr h₀ L h m → News h₀ L h ((I, oI) :: (C, oC) :: (D, lst ys) :: (src, o₁) :: ce :: rest) →
      ((@Ne Nat src I) ∧ (@Ne Nat src C) ∧ (@Ne Nat src D)) → ((@Ne Nat ce.1 I) ∧ (@Ne Nat ce.1 C) ∧ (@Ne Nat ce.1 D)) → Off3 I C D rest → ((@Ne Nat I C) ∧ (@Ne Nat I D) ∧ (@Ne Nat C D)) →
      wpAny (model prog w) A (eval elt (compEnvC scope cl C env)) (LCg.CompEnd h₀ L m { ({ s₁ with heap := g } : Shared) with heap := h, toks := tk } I oI C oC D (lst ys) (fun _ => True) (DrawEnd src ce rest)) E' { ({ s₁ with heap := g } : Shared) with heap := h, toks := tk })
    (fin : ∀ g ys vals o', SrcOk o' → Byts ys vals n → Fin { s₁ with heap := g } ys ((src, o') :: ce :: rest)) :
    CompSrc prog w A h₀ L m env elt x scope cl Fin (.ref r) s₁ := by
  refine CompSrc.range hh F (cb_drop N (news := (src, o) :: ce :: rest) (by simp; grind)) hr hsm hn (by rw [sizeLine_eq]; omega) (fun g => ?_)
  refine rest_ind (n := n) (fun i ys news => ∃ o' vals, SrcOk o' ∧ news = (src, o') :: ce :: rest ∧ IntsAre ys vals ∧ vals.length = i ∧ ∀ k ∈ vals, 0 ≤ k ∧ k < 256) ?_ ?_ n 0 [] _ (by omega) ⟨o, [], ho, rfl, .nil, rfl, fun _ h => nomatch h⟩
  · rintro i ys news hi ⟨o₁, vals, h1, rfl, h3, h4, h5⟩ val I oI C oC D m₂ h tk E' hP hns hx F' N' off ne
    refine wpAny_mono (step g ys o₁ val I oI C oC D m₂ h tk E' h1 hns hx F' N' off.1 off.2.1 off.2.2 ne) (fun y s₂ z => CompEnd.mono z ?_) fun _ _ e => e
    rintro y news' ⟨o', vv, tt, q1, rfl, rfl, q4, q5⟩
    refine ⟨o', vals ++ [vv], q1, rfl, ints_snoc h3 vv tt, by simp [h4], ?_⟩
    intro k hk
    rcases List.mem_append.mp hk with hk | hk
    · exact h5 k hk
    · rw [List.mem_singleton.mp hk]; exact ⟨q4, q5⟩
  · rintro ys news ⟨o', vals, h1, rfl, h3, h4, h5⟩
    exact fin g ys vals o' h1 ⟨h3, h4, h5⟩
end
local macro_rules | `(tactic| walk_at "CompSrc") => `(tactic| (k_here; k_dflt (refine' draws_src ?h1 ?F ?N ?ho ?hr ?hsm ?hn ?hz (fun g' ys' o' vl' I' oI' C' oC' D' m' h' tk' E' hO' hC' hx' F' N' of1' of2' of3' ne' => ?_) (fun g' ys' vals' o' hO' hB' => ?_); (case h1 => rfl); (case F => k_asm); (case N => k_asm); (case ho => with_reducible assumption); (case hr => with_reducible assumption); (case hsm => first | decide | rfl); (case hn => first | rfl | decide); (case hz => decide)); (all_goals (try (dsimp only at of2')))))
local macro_rules | `(tactic| walk_at "DrawEnd") => `(tactic| exact ⟨_, _, _, by with_reducible assumption, rfl, rfl, by with_reducible assumption, by with_reducible assumption⟩)
theorem off1_mem {D : MAddr} : ∀ {l : Led}, LCg.Off1 D l → ∀ p ∈ l, p.1 ≠ D
  | [], _, _, h => nomatch h
  | _ :: _, x, p, h => by
    rcases List.mem_cons.mp h with rfl | h
    · exact x.1
    · exact off1_mem x.2 p h
local macro_rules | `(tactic| k_all) => `(tactic| first | (with_reducible assumption) | ((repeat (with_reducible (rename (_ ∧ _) => z9); obtain ⟨_, _⟩ := z9)); exact off1_mem (by with_reducible assumption)))
local macro_rules | `(tactic| walk_at "setItem ref int") => `(tactic| (k_here; (with_reducible show wpAny _ _ (setItem (Value.ref _) (Value.int _ _) (Value.int _ _)) _ _ _); k_dflt (refine' byts_set (j := 5) ?k1 ?k2 ?k3 ?k4 ?k5 ?k6 ?k7 ?k8 ?k9 ?_; (case k1 => k_asm); (case k2 => k_asm); (case k3 => k_upd); (case k4 => exact ⟨by repeat constructor, rfl, by unfold KBa.In; decide⟩); (case k5 => with_reducible assumption); (case k6 => exact lt5 (by with_reducible assumption)); (case k7 => decide); (case k8 => exact (fmod_pos (by decide)).1); (case k9 => exact (fmod_pos (by decide)).2); k_whole); intro h' F' N' hB'; (try k_sweep)))
local macro_rules | `(tactic| walk_at "binaryOp Add ref ref") => `(tactic| (k_here; (with_reducible show wpAny _ _ (binaryOp _ (Value.ref _) (Value.ref _)) _ _ _); k_dflt (refine' byts_add ?F ?N ?a ?b ?i ?j ?z ?y ?_; (case F => k_asm); (case N => k_asm); (case a => k_mem); (case b => k_mem); (case i => first | (with_reducible assumption) | exact ⟨by repeat constructor, rfl, by unfold KBa.In; decide⟩); (case j => first | (with_reducible assumption) | exact ⟨by repeat constructor, rfl, by unfold KBa.In; decide⟩); (case z => decide); (case y => decide); k_whole); intro D' h' F' N' l1 hB'; (try k_lt l1); (try k_sweep)))
local macro_rules | `(tactic| walk_at "subscriptTail Name Slice ref ref") => `(tactic| (k_here; (with_reducible show wpAny _ _ (subscriptTail _ (PySem.Expr.Slice _ _ none _) (Value.ref _) (Value.ref _)) _ _ _); k_dflt (refine' byts_tail ?F ?N ?l ?i ?z ?p ?q ?_ ?s ?t; (case F => k_asm); (case N => k_asm); (case l => k_mem); (case i => first | (with_reducible assumption) | exact ⟨by repeat constructor, rfl, by unfold KBa.In; decide⟩); (case z => decide); (case p => kmk_part); (case q => kmk_part); (case s => with_unfolding_all rfl); (case t => kmk_pure)); intro D' h' F' N' l1 hB'; (try k_lt l1); (try k_sweep)))
local macro_rules | `(tactic| walk_at "call type:bytes") => `(tactic| (k_here; (with_reducible show wpAny _ _ (call (Value.type "bytes") [Value.ref _]) _ _ _); k_dflt (refine' byts_make ?F ?N ?h ?a ?i ?z ?_; (case F => k_asm); (case N => k_asm); (case h => rfl); (case a => k_mem); (case i => first | (with_reducible assumption) | exact ⟨by repeat constructor, rfl, by unfold KBa.In; decide⟩); (case z => decide)); intro h' t' k' F' N'; (try k_sweep)))

theorem heads_ctr {w : World} {mean mg mb} {src : MAddr} {o : MObj} {rest : Led}
    (hoff : ∀ p ∈ rest, p.1 ≠ src) (ho : SrcOk o) :
    Ctr w mean mg mb 91 [.ref src] ((src, o) :: rest) 4 (HeadsR src rest) := by
  intro dp un gd cn cs ac ccd cl outer A₀ base h₀ L m s Q E B F X N T hk hd hu hret
  refine wpAny_call ?_
  k_dflt (refine' code_defC ?k1 ?k2 ?k3 ?k4 ?k5 ?kA ?kF ?kK ?k6 ?k7 ?k8 ?k9 ?kB ?kD ?_ ?c2 ?c3 ?c4; (case kA => exact rfl); (case kF => exact rfl); (case kK => assumption); (case k1 => k_asm); (case k2 => k_asm); (case k3 => k_asm); (case k4 => k_asm); (case k5 => k_asm); (case k6 => k_is); (case k7 => k_is); (case k8 => ktr_room); (case k9 => exact BindsTo.of_eq rfl); (case kB => exact rfl); (case kD => decide +kernel); (case c2 => exact rfl); (case c3 => exact rfl); (case c4 => exact rfl); k_whole)
  intro g' L' h' tk' cells' FG' F' N' Y' B' X' T' l1
  (try k_lt l1)
  k_cells Y'
  (try simp only [List.cons_append, List.nil_append] at N')
  (try dsimp only)
  (try k_lift B')
  (try k_fold)
  have hce : @Ne Nat (L' + 1) src := by omega
  k_steps
  all_goals (
    refine heads_end hret (by k_asm) (by k_asm) ?_ ?_ (by k_ne) (by with_reducible assumption) ?_ ?_ ?_
    · repeat (first | exact List.Mem.head _ | apply List.Mem.tail)
    · intro p hp; repeat (first | exact hp | apply List.Mem.tail)
    · exact head_kind (Byts.len (by with_reducible assumption))
    · rw [byteArr_size]; first | (rw [Byts.len (by with_reducible assumption)]; decide) | decide
    · first | exact wrong_kind1 (Byts.len (by with_reducible assumption)) (by with_reducible assumption) (by with_reducible assumption) (by with_reducible assumption) (by with_reducible assumption) | exact wrong_kind2 (Byts.len (by with_reducible assumption)) | exact wrong_kind3 (Byts.len (by with_reducible assumption)) | exact wrong_kind4 (Byts.len (by with_reducible assumption)) | exact wrong_kind5)
end

section
open PySem PySem.W PyProof.Rows
open PyProof.Rows.LCg
set_option maxRecDepth 100000
set_option maxHeartbeats 1000000
theorem rows_one {N : Led} {v : Value} {r : Row} (h : RowsIn N [v] [r]) : ∃ a tn tb n, v = .ref a ∧ (a, rowO r tn tb n) ∈ N ∧ r.2.size ≤ 1000 := by
  cases h with
  | cons hm hz _ => exact ⟨_, _, _, _, rfl, hm, hz⟩
/-- the rows that are no data -/
abbrev noData (rs : List Row) : List Row := rs.filter fun r => decide (r.1 ≠ ("IDAT" : MStr))
def KeepEnd (r : Row) (v : Value) (news : Led) (y : Value) (news' : Led) : Prop := r.1 ≠ ("IDAT" : MStr) ∧ y = v ∧ news' = news
def SkipEnd (r : Row) (news : Led) (_ : Value) (news' : Led) : Prop := r.1 = ("IDAT" : MStr) ∧ news' = news
section
variable {prog : Program} {w : World} {A : Around} {E : Value → Shared → Prop} {s₁ : Shared} {h₀ : Heap} {L : MAddr} {m : MStr → Option Value} {env : Env} {ct elt : PySem.Expr} {x : MStr} {scope : Scope} {cl : List (MStr × MAddr)}
theorem CompEnd.mono2 {I : MAddr} {oI : MObj} {C : MAddr} {oC : MObj} {D : MAddr} {oD : MObj} {S S' : Led → Prop} {r r' : Value → Led → Prop} {y : Value} {s₂ : Shared} (h : LCg.CompEnd h₀ L m s₁ I oI C oC D oD S r y s₂) (k : ∀ y news, r y news → S' news ∧ r' y news) : LCg.CompEnd h₀ L m s₁ I oI C oC D oD S' r' y s₂ := by
  obtain ⟨h', tk, news', a, b, c, d, e, f⟩ := h
  exact ⟨h', tk, news', a, b, c, d, (k _ _ f).1, (k _ _ f).2⟩
theorem keep_src {Fin : Shared → List Value → Led → Prop} {ax : MAddr} {vs : List Value} {rs : List Row} {n : Nat} {news N₀ : Led}
    (hh : A.handled = none) (F : Fr h₀ L s₁.heap m) (N : News h₀ L s₁.heap news) (hm : (ax, W.listOf vs.toArray n) ∈ news) (hz : vs.length < 1000) (R : RowsIn N₀ vs rs) (hsub : ∀ p ∈ N₀, p ∈ news)
    (step : ∀ g ys a r tn tb k I oI C oC D m₂ h tk (E' : Value → Shared → Prop), (a, rowO r tn tb k) ∈ news → NsObj oC m₂ → m₂ x = some (.ref a) → Fr h₀ L h m → News h₀ L h ((I, oI) :: (C, oC) :: (D, lst ys) :: news) → Off3 I C D news → ((@Ne Nat I C) ∧ (@Ne Nat I D) ∧ (@Ne Nat C D)) →
      wpAny (model prog w) A (isTrue ct (compEnvC scope cl C env) (eval ct (compEnvC scope cl C env))) (fun ok s' => if ok = true then
        wpAny (model prog w) A (eval elt (compEnvC scope cl C env)) (LCg.CompEnd h₀ L m { ({ s₁ with heap := g } : Shared) with heap := h, toks := tk } I oI C oC D (lst ys) (fun _ => True) (KeepEnd r (.ref a) news)) E' s'
        else LCg.CompEnd h₀ L m { ({ s₁ with heap := g } : Shared) with heap := h, toks := tk } I oI C oC D (lst ys) (fun _ => True) (SkipEnd r news) Value.none s') E' { ({ s₁ with heap := g } : Shared) with heap := h, toks := tk })
    (fin : ∀ g ys, RowsIn N₀ ys (noData rs) → ys.length ≤ vs.length → Fin { s₁ with heap := g } ys news) :
    LCt.CompSrcT prog w A h₀ L m env ct elt x scope cl Fin (.ref ax) s₁ := by
  have hS : SrcAt h₀ ax vs.toArray news := .inr ⟨_, hm, rfl, _, rfl⟩
  refine LCt.CompSrcT.ledger hh F N hm (by rw [List.size_toArray, sizeLine_eq]; omega) fun g => ?_
  have key : ∀ (k i : Nat) (ys : List Value), i + k = vs.length → RowsIn N₀ ys (noData (rs.take i)) → ys.length ≤ i →
      LCt.CompRestT prog w A h₀ L m env ct elt x scope cl { s₁ with heap := g } (SrcAt h₀ ax vs.toArray) (fun i v => vs.toArray[i]? = some v) (Fin { s₁ with heap := g }) k i ys news := by
    intro k
    induction k with
    | zero =>
      intro i ys hi hy hl
      refine LCt.CompRestT.zero (fin g ys ?_ (by omega))
      rw [List.take_of_length_le (by rw [← R.len]; omega)] at hy
      exact hy
    | succ k ih =>
      intro i ys hi hy hl
      refine LCt.CompRestT.succ fun v I oI C oC D m₂ h tk E' hv hns hx F' N' off ne => ?_
      obtain ⟨a, r, tn, tb, q, rfl, hr, ha, hsz⟩ := R.get (by simpa using hv)
      refine wpAny_mono (step g ys a r tn tb q I oI C oC D m₂ h tk E' (hsub _ ha) hns hx F' N' off ne) ?_ fun _ _ e => e
      intro ok s' hq
      by_cases hok : ok = true
      · rw [if_pos hok] at hq ⊢
        refine wpAny_mono hq (fun y s₂ z => CompEnd.mono2 z ?_) fun _ _ e => e
        rintro y news' ⟨h1, rfl, rfl⟩
        refine ⟨hS, ih (i + 1) _ (by omega) ?_ (by simp; omega)⟩
        rw [List.take_add_one, hr, noData, List.filter_append]
        refine hy.app ?_
        rw [show (some r).toList = [r] from rfl, List.filter_cons, if_pos (decide_eq_true h1)]
        exact .cons ha hsz .nil
      · rw [if_neg hok] at hq ⊢
        refine CompEnd.mono2 hq ?_
        rintro y news' ⟨h1, rfl⟩
        refine ⟨hS, ih (i + 1) _ (by omega) ?_ (by omega)⟩
        rw [List.take_add_one, hr, noData, List.filter_append]
        rw [show (some r).toList = [r] from rfl, List.filter_cons, if_neg (by simp [h1])]
        rw [List.filter_nil, List.append_nil]; exact hy
  have h0 := key vs.length 0 [] (by omega) (by simpa [noData] using RowsIn.nil) (by simp)
  rw [List.size_toArray]
  exact h0
end

/-- what lacks a chunk -/
def LackForm (rs rs' : List Row) : Prop :=
  rs' = rs.drop 1 ∨ rs' = rs.dropLast ∨ rs' = noData rs ∨ rs' = [] ∨ (∃ x : Row, x.1 ∈ ([("tEXt" : MStr), "gAMA", "idat", "ihdr", "iEND", ""] : List MStr) ∧ (rs' = [x] ++ rs ∨ rs' = rs ++ [x])) ∨ rs' = rs.reverse
/-- a list of rows comes back -/
abbrev RowsR (src : MAddr) (rest : Led) (form : List Row → Prop) (r : Value) (news' : Led) : Prop :=
  ∃ o' rest' vs' rs' l n, SrcOk o' ∧ r = .ref l ∧ news' = (src, o') :: (l, W.listOf vs'.toArray n) :: rest' ∧ l ≠ src ∧ (∀ p ∈ rest, p ∈ rest') ∧ (∀ p ∈ rest', p.1 ≠ src) ∧ RowsIn rest' vs' rs' ∧ vs'.length < 300 ∧ form rs'
theorem rows_end {h₀ h' : Heap} {L src D : MAddr} {m : MStr → Option Value} {s : Shared} {Q : Value → Shared → Prop} {rest restO big : Led} {o' : MObj} {form : List Row → Prop} {vs : List Value} {rs : List Row} {n tk : Nat}
    (hret : ∀ r news' h' tk', Fr h₀ L h' m → News h₀ L h' news' → RowsR src rest form r news' → Q r { s with heap := h', toks := tk' })
    (F : Fr h₀ L h' m) (N : News h₀ L h' big) (hs : (src, o') ∈ big) (hl : (D, W.listOf vs.toArray n) ∈ big) (hr : ∀ p ∈ restO, p ∈ big) (hsub : ∀ p ∈ rest, p ∈ restO) (hoff : ∀ p ∈ restO, p.1 ≠ src) (ne : D ≠ src) (hO : SrcOk o')
    (R : RowsIn restO vs rs) (hz : vs.length < 300) (hf : form rs) : Q (.ref D) { s with heap := h', toks := tk } :=
  hret _ ((src, o') :: (D, W.listOf vs.toArray n) :: restO) _ _ F (cb_drop N (List.forall_mem_cons.mpr ⟨hs, List.forall_mem_cons.mpr ⟨hl, hr⟩⟩))
    ⟨o', restO, vs, rs, D, n, hO, rfl, rfl, ne, hsub, hoff, R, hz, hf⟩
theorem RowsIn.last {N : Led} {vs : List Value} {rs : List Row} (h : RowsIn N vs rs) : RowsIn N vs.dropLast rs.dropLast := by
  rw [List.dropLast_eq_take, List.dropLast_eq_take, h.len]
  exact h.take _
end
local macro_rules | `(tactic| walk_at "mine small") => `(tactic| ((try simp only [List.length_append, List.length_cons, List.length_nil, List.length_drop, List.length_take, List.length_reverse, List.length_dropLast]); omega))
local macro_rules | `(tactic| walk_at "mine find") => `(tactic| (repeat (first | exact List.Mem.head _ | apply List.Mem.tail)))
local macro_rules | `(tactic| walk_at "mine sub") => `(tactic| (intro p hp; repeat (first | exact hp | apply List.Mem.tail)))
local macro_rules | `(tactic| walk_at "CompEnd") => `(tactic| (k_dflt (first | refine' compEnd0 ?k1 ?k2 ?k3 ?k4 ?_; (case k1 => k_asm); (case k2 => k_asm); (case k3 => lcg_off); (case k4 => lcg_src); k_whole | refine' compEnd1 ?k1 ?k2 ?k3 ?k4 ?_; (case k1 => k_asm); (case k2 => k_asm); (case k3 => lcg_off); (case k4 => lcg_src); k_whole)))
local macro_rules | `(tactic| walk_at "call ref") => `(tactic| (k_here; (with_reducible show wpAny _ _ (call (Value.ref 86) _) _ _ _); k_dflt (refine' ctr_use (other_ctr ?hoff ?ho) ?k4 ?kk ?_; (case k4 => walk_at "mine pull"); (case hoff => k_all); (case ho => with_reducible assumption); (case kk => walk_at "mine kk"); k_whole); intro r' news' h' tk' F' N' hR; obtain ⟨o', rest', row', hO', e2', hs', hf', hw', hn'⟩ := hR; subst e2'; obtain ⟨a', tn', tb', n', e1', hm', hz'⟩ := rows_one hw'; subst e1'; walk_at "mine end"; (try have hm2' := hs' (_, W.listOf _ _) (by with_reducible assumption)); (try have hR2' := RowsIn.mono (by with_reducible assumption) hs')))
local macro_rules | `(tactic| walk_at "binaryOp Add ref ref") => `(tactic| (k_here; (with_reducible show wpAny _ _ (binaryOp _ (Value.ref _) (Value.ref _)) _ _ _); k_dflt (refine' list_add ?F ?N ?a ?b ?z ?y ?_; (case F => k_asm); (case N => k_asm); (case a => k_mem); (case b => k_mem); (case z => walk_at "mine small"); (case y => walk_at "mine small"); k_whole); intro D' h' F' N' l1; (try k_lt l1); (try k_sweep)))
local macro_rules | `(tactic| walk_at "subscriptTail Name Slice ref ref") => `(tactic| (k_here; (with_reducible show wpAny _ _ (subscriptTail _ (PySem.Expr.Slice _ none none _) (Value.ref _) (Value.ref _)) _ _ _); k_dflt (refine' cut_from ?F ?N ?l ?z ?p ?q ?x ?_ ?s ?t; (case F => k_asm); (case N => k_asm); (case l => k_mem); (case p => kmk_part); (case q => kmk_part); (case z => walk_at "mine small"); (case x => first | decide | omega); (case s => with_unfolding_all rfl); (case t => kmk_pure)); intro D' h' F' N' l1; (try k_lt l1); (try k_sweep)))
local macro_rules | `(tactic| walk_at "CompSrcT") => `(tactic| (k_here; k_dflt (refine' keep_src (N₀ := _) ?h1 ?F ?N ?hm ?hz ?R ?hsub (fun g' ys' a' r' tn' tb' k' I' oI' C' oC' D' m' h' tk' E' ha' hC' hx' F' N' of' ne' => ?_) (fun g' ys' hys' hyl' => ?_); (case h1 => rfl); (case F => k_asm); (case N => k_asm); (case hm => k_mem); (case hz => walk_at "mine small"); (case R => with_reducible assumption); (case hsub => walk_at "mine sub"))))
local macro_rules | `(tactic| walk_at "KeepEnd") => `(tactic| exact ⟨bne_iff_ne.mp (by with_reducible assumption), rfl, rfl⟩)
local macro_rules | `(tactic| walk_at "SkipEnd") => `(tactic| exact ⟨bne_eq_false_iff_eq.mp (by with_reducible assumption), rfl⟩)
local macro_rules | `(tactic| walk_at "subscriptTail Name Slice ref ref") => `(tactic| (k_here; (with_reducible show wpAny _ _ (subscriptTail _ (PySem.Expr.Slice none (some _) none _) (Value.ref _) (Value.ref _)) _ _ _); k_dflt (refine' cut_upto ?F ?N ?l ?z ?p ?q ?x ?_ ?s ?t; (case F => k_asm); (case N => k_asm); (case l => k_mem); (case p => kmk_part); (case q => kmk_part); (case z => walk_at "mine small"); (case x => first | decide | omega); (case s => with_unfolding_all rfl); (case t => kmk_pure)); intro D' h' F' N' l1; (try k_lt l1); (try k_sweep)))
local macro_rules | `(tactic| walk_at "call builtin:len") => `(tactic| (k_here; (with_reducible show wpAny _ _ (call (Value.builtin "len") [Value.ref _]) _ _ _); k_dflt (refine' list_len ?k1 ?k2 ?k3 ?_; (case k1 => k_asm); (case k2 => k_mem); (case k3 => walk_at "mine small"); k_whole)))

section
open PySem PySem.W PyProof.Rows
open PyProof.Rows.LCg
set_option maxRecDepth 100000
set_option maxHeartbeats 4000000
theorem fill_lack : (PySem.Challenge.rw_xm0704_01 = PySem.Challenge.rw_xm0704_01) ∧ (Mine.hd.heap_39 = Mine.hd.heap_39) := by
  w_top off; k_fill; exact ⟨rfl, rfl⟩

local macro_rules | `(tactic| walk_at "call ref") => `(tactic| (k_here; (with_reducible show wpAny _ _ (call (Value.ref 72) _) _ _ _); k_dflt (refine' ctr_use (one_ctr ?hoff ?ho ?hm ?h0 ?h1) ?k4 ?kk ?_; (case k4 => walk_at "mine pull"); (case hoff => k_all); (case ho => with_reducible assumption); (case hm => k_mem); (case h0 => exact Nat.le_of_ble_eq_true rfl); (case h1 => exact Nat.le_of_ble_eq_true rfl); (case kk => walk_at "mine kk"); k_whole); intro r' news' h' tk' F' N' hR; obtain ⟨o', hr', hO', e2'⟩ := hR; subst e2'; walk_at "mine end"; (try ((simp only [List.mem_cons, List.not_mem_nil, or_false] at hr'); (rcases hr' with hr' | hr' | hr' | hr' | hr' | hr' | hr') <;> subst hr'))))

local macro_rules | `(tactic| walk_at "subscriptTail Name Slice ref ref") => `(tactic| (k_here; (with_reducible show wpAny _ _ (subscriptTail _ (PySem.Expr.Slice none (some _) none _) (Value.ref _) (Value.ref _)) _ _ _); k_dflt (refine' cut_last ?F ?N ?l ?z ?p ?q ?_ ?s ?t; (case F => k_asm); (case N => k_asm); (case l => k_mem); (case p => kmk_part); (case q => kmk_part); (case z => walk_at "mine small"); (case s => with_unfolding_all rfl); (case t => kmk_pure)); intro D' h' F' N' l1; (try k_lt l1); (try k_sweep)))
local macro_rules | `(tactic| walk_at "subscriptTail Name Slice ref ref") => `(tactic| (k_here; (with_reducible show wpAny _ _ (subscriptTail _ (PySem.Expr.Slice none none (some _) _) (Value.ref _) (Value.ref _)) _ _ _); k_dflt (refine' cut_back ?F ?N ?l ?z ?k ?_ ?s ?t; (case F => k_asm); (case N => k_asm); (case l => k_mem); (case k => exact IsPart.int _ _); (case z => walk_at "mine small"); (case s => with_unfolding_all rfl); (case t => kmk_pure)); intro D' h' F' N' l1; (try k_lt l1); (try k_sweep)))

theorem lacking_ctr {w : World} {mean mg mb} {src rl : MAddr} {o : MObj} {rest : Led} {vs : List Value} {rs : List Row} {n : Nat}
    (hoff : ∀ p ∈ rest, p.1 ≠ src) (ho : SrcOk o) (hm : (rl, W.listOf vs.toArray n) ∈ rest) (hR0 : RowsIn rest vs rs) (hz : vs.length < 100) :
    Ctr w mean mg mb 96 [.ref src, .ref rl] ((src, o) :: rest) 5 (RowsR src rest (LackForm rs)) := by
  intro dp un gd cn cs ac ccd cl outer A₀ base h₀ L m s Q E B F X N T hk hd hu hret
  refine wpAny_call ?_
  k_dflt ktr_enter
  k_steps
  · refine' rows_end (rs := rs.drop 1) hret (by k_asm) (by k_asm) ?m1 ?m2 ?m3 (by with_reducible assumption) (by with_reducible assumption) ?m4 (by with_reducible assumption) ?m5 ?m6 (.inl rfl); (case m1 => walk_at "mine find"); (case m2 => walk_at "mine find"); (case m3 => walk_at "mine sub"); (case m4 => k_ne); (case m5 => exact RowsIn.drop (by with_reducible assumption) 1); (case m6 => walk_at "mine small")
  · refine' rows_end (rs := rs.dropLast) hret (by k_asm) (by k_asm) ?m1 ?m2 ?m3 (by with_reducible assumption) (by with_reducible assumption) ?m4 (by with_reducible assumption) ?m5 ?m6 (.inr (.inl rfl)); (case m1 => walk_at "mine find"); (case m2 => walk_at "mine find"); (case m3 => walk_at "mine sub"); (case m4 => k_ne); (case m5 => exact RowsIn.last (by with_reducible assumption)); (case m6 => walk_at "mine small")
  · refine' rows_end (rs := noData rs) hret (by k_asm) (by k_asm) ?m1 ?m2 ?m3 (by with_reducible assumption) (by with_reducible assumption) ?m4 (by with_reducible assumption) ?m5 ?m6 (.inr (.inr (.inl rfl))); (case m1 => walk_at "mine find"); (case m2 => walk_at "mine find"); (case m3 => walk_at "mine sub"); (case m4 => k_ne); (case m5 => exact by with_reducible assumption); (case m6 => walk_at "mine small")
  · refine' rows_end (rs := []) hret (by k_asm) (by k_asm) ?m1 ?m2 ?m3 (by with_reducible assumption) (by with_reducible assumption) ?m4 (by with_reducible assumption) ?m5 ?m6 (.inr (.inr (.inr (.inl rfl)))); (case m1 => walk_at "mine find"); (case m2 => walk_at "mine find"); (case m3 => walk_at "mine sub"); (case m4 => k_ne); (case m5 => exact .nil); (case m6 => walk_at "mine small")
  · refine' rows_end (rs := [_] ++ rs) hret (by k_asm) (by k_asm) ?m1 ?m2 ?m3 (by with_reducible assumption) (by with_reducible assumption) ?m4 (by with_reducible assumption) ?m5 ?m6 (.inr (.inr (.inr (.inr (.inl ⟨_, by with_reducible assumption, .inl rfl⟩))))); (case m1 => walk_at "mine find"); (case m2 => walk_at "mine find"); (case m3 => walk_at "mine sub"); (case m4 => k_ne); (case m5 => exact RowsIn.app (by with_reducible assumption) (by with_reducible assumption)); (case m6 => walk_at "mine small")
  · refine' rows_end (rs := rs ++ [_]) hret (by k_asm) (by k_asm) ?m1 ?m2 ?m3 (by with_reducible assumption) (by with_reducible assumption) ?m4 (by with_reducible assumption) ?m5 ?m6 (.inr (.inr (.inr (.inr (.inl ⟨_, by with_reducible assumption, .inr rfl⟩))))); (case m1 => walk_at "mine find"); (case m2 => walk_at "mine find"); (case m3 => walk_at "mine sub"); (case m4 => k_ne); (case m5 => exact RowsIn.app (by with_reducible assumption) (by with_reducible assumption)); (case m6 => walk_at "mine small")
  · refine' rows_end (rs := rs.reverse) hret (by k_asm) (by k_asm) ?m1 ?m2 ?m3 (by with_reducible assumption) (by with_reducible assumption) ?m4 (by with_reducible assumption) ?m5 ?m6 (.inr (.inr (.inr (.inr (.inr rfl))))); (case m1 => walk_at "mine find"); (case m2 => walk_at "mine find"); (case m3 => walk_at "mine sub"); (case m4 => k_ne); (case m5 => exact RowsIn.rev (by with_reducible assumption)); (case m6 => walk_at "mine small")
end

section
open PySem PySem.W PyProof.Rows
open PyProof.Rows.LCg
set_option maxRecDepth 100000
set_option maxHeartbeats 4000000
local macro_rules | `(tactic| walk_at "mine pad0") => `(tactic| skip)
theorem fill_dbl : (PySem.Challenge.rw_xm0704_01 = PySem.Challenge.rw_xm0704_01) ∧ (Mine.hd.heap_39 = Mine.hd.heap_39) := by
  w_top off; k_fill; exact ⟨rfl, rfl⟩

local macro_rules | `(tactic| walk_at "call ref") => `(tactic| (k_here; (with_reducible show wpAny _ _ (call (Value.ref 72) _) _ _ _); k_dflt (refine' ctr_use (one_ctr ?hoff ?ho ?hm ?h0 ?h1) ?k4 ?kk ?_; (case k4 => walk_at "mine pull"); (case hoff => k_all); (case ho => with_reducible assumption); (case hm => k_mem); (case h0 => exact Nat.le_of_ble_eq_true rfl); (case h1 => exact Nat.le_of_ble_eq_true rfl); (case kk => walk_at "mine kk"); k_whole); intro r' news' h' tk' F' N' hR; obtain ⟨o', hr', hO', e2'⟩ := hR; subst e2'; walk_at "mine end"; skip))

theorem rows_at {N : Led} {vs : List Value} {rs : List Row} {v : Value} {i : Nat} (R : RowsIn N vs rs) (hv : vs[i]? = some v) : ∃ r, rs[i]? = some r ∧ RowsIn N [v] [r] := by
  obtain ⟨a, r, tn, tb, n, rfl, hr, hm, hz⟩ := R.get hv
  exact ⟨r, hr, .cons hm hz .nil⟩
theorem list_last {prog : Program} {w : World} {A : Around} {E : Value → Shared → Prop} {s : Shared} {h₀ : Heap} {L l : MAddr} {news : Led} {vs : List Value} {n : Nat} {u : Tok} {value slice : PySem.Expr} {Q : Value → Shared → Prop} (N : News h₀ L s.heap news) (hm : (l, W.listOf vs.toArray n) ∈ news) (hz : vs.length < 1000) (h0 : 0 < vs.length) (h : ∀ v, vs[vs.length - 1]? = some v → Q v s)
    (hs : subscripted slice false (.ref l) (.int (-1) u) = operate [.ref l, .int (-1) u] (getItem (.ref l) (.int (-1) u)) := by with_unfolding_all rfl) :
    wpAny (model prog w) A (subscriptTail value slice (.ref l) (.int (-1) u)) Q E s := by
  have a1 : s.heap.IsList l vs.toArray := ⟨_, (N _ hm).1, rfl, n, rfl⟩
  refine tail_any a1.typeIs slot_list_getitem.lookup (wpAny_getItem_list_neg a1 (by decide) (by simp only [List.size_toArray]; omega) (by decide) (x := vs[vs.length - 1]'(by omega)) ?_ (h _ (by simp))) hs
  rw [show ((-1 : Int) + (vs.toArray.size : Int)).toNat = vs.length - 1 by simp only [List.size_toArray]; omega]
  simp
/-- a head or an end stands once more -/
def TwiceForm (rs rs' : List Row) : Prop := ∃ p z, 1 ≤ p ∧ p < rs.length ∧ (rs[0]? = some z ∨ rs[rs.length - 1]? = some z) ∧ rs' = rs.take p ++ [z] ++ rs.drop p
theorem twice_rows {N : Led} {vs : List Value} {rs : List Row} {v v0 v1 : Value} {k : Int} (R : RowsIn N vs rs) (h0 : vs[Int.toNat 0]? = some v0) (h1 : vs[vs.length - 1]? = some v1) (hv : v ∈ [v0, v1]) (k0 : 0 ≤ k) (k1 : k < (vs.length : Int) - 1) :
    ∃ rs', RowsIn N (vs.take (1 + k).toNat ++ [v] ++ vs.drop (1 + k).toNat) rs' ∧ TwiceForm rs rs' := by
  have key : ∃ z, RowsIn N [v] [z] ∧ (rs[0]? = some z ∨ rs[rs.length - 1]? = some z) := by
    rcases List.mem_cons.mp hv with rfl | hv
    · obtain ⟨r, hr, q⟩ := rows_at R h0
      exact ⟨r, q, .inl hr⟩
    · rw [List.mem_singleton.mp hv]
      obtain ⟨r, hr, q⟩ := rows_at R h1
      exact ⟨r, q, .inr (by rw [← R.len]; exact hr)⟩
  obtain ⟨z, q, hz⟩ := key
  exact ⟨_, ((R.take _).app q).app (R.drop _), _, z, by omega, by rw [← R.len]; omega, hz, rfl⟩
local macro_rules | `(tactic| walk_at "subscriptTail") => `(tactic| (k_here; (with_reducible show wpAny _ _ (subscriptTail _ _ (Value.ref _) (Value.int _ _)) _ _ _); k_dflt (refine' list_item ?k1 ?k2 ?k3 ?k4 ?k5 ?_ ?k6; (case k1 => k_asm); (case k2 => k_mem); (case k3 => walk_at "mine small"); (case k4 => first | decide | omega); (case k5 => first | assumption | omega); (case k6 => with_unfolding_all rfl); k_whole); intro v' hv'))
local macro_rules | `(tactic| walk_at "subscriptTail") => `(tactic| (k_here; (with_reducible show wpAny _ _ (subscriptTail _ _ (Value.ref _) (Value.int (-1) _)) _ _ _); k_dflt (refine' list_last ?k1 ?k2 ?k3 ?k4 ?_ ?k6; (case k1 => k_asm); (case k2 => k_mem); (case k3 => walk_at "mine small"); (case k4 => first | decide | omega); (case k6 => with_unfolding_all rfl); k_whole); intro v' hv'))

theorem doubled_ctr {w : World} {mean mg mb} {src rl : MAddr} {o : MObj} {rest : Led} {vs : List Value} {rs : List Row} {n : Nat}
    (hoff : ∀ p ∈ rest, p.1 ≠ src) (ho : SrcOk o) (hm : (rl, W.listOf vs.toArray n) ∈ rest) (hR0 : RowsIn rest vs rs) (hz : vs.length < 100) (hz0 : 2 ≤ vs.length) :
    Ctr w mean mg mb 103 [.ref src, .ref rl] ((src, o) :: rest) 5 (RowsR src rest (TwiceForm rs)) := by
  intro dp un gd cn cs ac ccd cl outer A₀ base h₀ L m s Q E B F X N T hk hd hu hret
  refine wpAny_call ?_
  k_dflt ktr_enter
  k_steps
  obtain ⟨rs', q1, q2⟩ := twice_rows hR0 (by with_reducible assumption) (by with_reducible assumption) (by with_reducible assumption) (by with_reducible assumption) (by with_reducible assumption)
  refine' rows_end hret (by k_asm) (by k_asm) ?m1 ?m2 ?m3 (fun _ h => h) hoff ?m4 (by with_reducible assumption) q1 ?m5 q2; (case m1 => walk_at "mine find"); (case m2 => walk_at "mine find"); (case m3 => walk_at "mine sub"); (case m4 => k_ne); (case m5 => walk_at "mine small")
end

section
open PySem PySem.W PyProof.Rows
open PyProof.Rows.LCg
set_option maxRecDepth 100000
set_option maxHeartbeats 1000000
abbrev menu : List MStr := [("tEXt" : MStr), "gAMA", "idat", "ihdr", "iEND", ""]
theorem RowsIn.mk {N : Led} {a : MAddr} {nm : MStr} {b : Array UInt8} {tn tb : Tok} {n : Nat} {vs : List Value} {rs : List Row} (h : (a, { cls := .type "tuple", data := .seq #[Value.str nm tn, Value.bytes b tb] n }) ∈ N) (hz : b.size ≤ 1000) (R : RowsIn N vs rs) : RowsIn N (.ref a :: vs) ((nm, b) :: rs) :=
  .cons (r := (nm, b)) h hz R
theorem RowsIn.rep {N : Led} {v : Value} {r : Row} (R : RowsIn N [v] [r]) : ∀ n, RowsIn N (List.replicate n [v]).flatten (List.replicate n [r]).flatten
  | 0 => .nil
  | n + 1 => by rw [List.replicate_succ, List.replicate_succ, List.flatten_cons, List.flatten_cons]; exact R.app (RowsIn.rep R n)
theorem repV_len {v : Value} {n : Nat} : (List.replicate n [v]).flatten.length = n := by simp
theorem byts_one {x : Int} {t : Tok} (h0 : 0 ≤ x) (h1 : x < 256) : Byts [.int x t] [x] 1 := ⟨.cons x t .nil, rfl, fun n hn => by rw [List.mem_singleton.mp hn]; exact ⟨h0, h1⟩⟩
/-- what a turn of [_law_other(source) for ..] hands on -/
def OtherEnd (src : MAddr) (rest : Led) (y : Value) (news' : Led) : Prop :=
  ∃ o' a row tn tb k, SrcOk o' ∧ y = .ref a ∧ news' = (src, o') :: (a, rowO row tn tb k) :: rest ∧ a ≠ src ∧ row.2.size ≤ 1000 ∧ row.1 ∈ menu
section
variable {prog : Program} {w : World} {A : Around} {E : Value → Shared → Prop} {s₁ : Shared} {h₀ : Heap} {L : MAddr} {m : MStr → Option Value} {env : Env} {elt : PySem.Expr} {x : MStr} {scope : Scope} {cl : List (MStr × MAddr)}
theorem others_src {Fin : Shared → List Value → Led → Prop} {r : MAddr} {b : Int} {t u v : Tok} {src : MAddr} {o : MObj} {rest : Led}
    (hh : A.handled = none) (F : Fr h₀ L s₁.heap m) (N : News h₀ L s₁.heap ((src, o) :: rest)) (ho : SrcOk o) (hoff : ∀ p ∈ rest, p.1 ≠ src) (hr : IsRange s₁.heap r 0 b 1 t u v) (hb0 : 0 ≤ b) (hb : b < 4)
    (step : ∀ g ys o₁ rest₁ val I oI C oC D m₂ h tk (E' : Value → Shared → Prop), SrcOk o₁ → (∀ p ∈ rest, p ∈ rest₁) → (∀ p ∈ rest₁, p.1 ≠ src) → NsObj oC m₂ → m₂ x = some val → Fr h₀ L h m → News h₀ L h ((I, oI) :: (C, oC) :: (D, lst ys) :: (src, o₁) :: rest₁) →
      ((@Ne Nat src I) ∧ (@Ne Nat src C) ∧ (@Ne Nat src D)) → Off3 I C D rest₁ → ((@Ne Nat I C) ∧ (@Ne Nat I D) ∧ (@Ne Nat C D)) →
      wpAny (model prog w) A (eval elt (compEnvC scope cl C env)) (LCg.CompEnd h₀ L m { ({ s₁ with heap := g } : Shared) with heap := h, toks := tk } I oI C oC D (lst ys) (fun _ => True) (OtherEnd src rest₁)) E' { ({ s₁ with heap := g } : Shared) with heap := h, toks := tk })
    (fin : ∀ g ys rows o' rest', SrcOk o' → (∀ p ∈ rest, p ∈ rest') → (∀ p ∈ rest', p.1 ≠ src) → RowsIn rest' ys rows → (∀ q ∈ rows, q.1 ∈ menu) → ys.length < 4 → Fin { s₁ with heap := g } ys ((src, o') :: rest')) :
    CompSrc prog w A h₀ L m env elt x scope cl Fin (.ref r) s₁ := by
  refine CompSrc.range hh F N hr (small_one (by decide) (by decide) (by omega) (by omega)) (rangeSize_nat 0 b) (by rw [sizeLine_eq]; omega) (fun g => ?_)
  refine rest_ind (n := (b - 0).toNat) (fun i ys news => ∃ o' rest' rows, SrcOk o' ∧ news = (src, o') :: rest' ∧ (∀ p ∈ rest, p ∈ rest') ∧ (∀ p ∈ rest', p.1 ≠ src) ∧ RowsIn rest' ys rows ∧ (∀ q ∈ rows, q.1 ∈ menu) ∧ ys.length = i) ?_ ?_ (b - 0).toNat 0 [] _ (by omega) ⟨o, rest, [], ho, rfl, fun _ h => h, hoff, .nil, (fun _ h => nomatch h), rfl⟩
  · rintro i ys news hi ⟨o₁, rest₁, rows, h1, rfl, h2, h3, h4, h5, h6⟩ val I oI C oC D m₂ h tk E' hP hns hx F' N' off ne
    refine wpAny_mono (step g ys o₁ rest₁ val I oI C oC D m₂ h tk E' h1 h2 h3 hns hx F' N' off.1 off.2 ne) (fun y s₂ z => CompEnd.mono z ?_) fun _ _ e => e
    rintro y news' ⟨o', a, row, tn, tb, k, q1, rfl, rfl, q2, q3, q4⟩
    refine ⟨o', _, rows ++ [row], q1, rfl, fun p hp => .tail _ (h2 p hp), List.forall_mem_cons.mpr ⟨q2, h3⟩, (h4.mono fun p hp => .tail _ hp).app (.cons (.head _) q3 .nil), ?_, by simp [h6]⟩
    intro q hq
    rcases List.mem_append.mp hq with hq | hq
    · exact h5 q hq
    · rw [List.mem_singleton.mp hq]; exact q4
  · rintro ys news ⟨o', rest', rows, h1, rfl, h2, h3, h4, h5, h6⟩
    exact fin g ys rows o' rest' h1 h2 h3 h4 h5 (by omega)
end
section
variable {h₀ : Heap} {L I C D : MAddr} {m : MStr → Option Value} {s₁ : Shared} {oI oC oD : MObj} {S : Led → Prop} {rest : Value → Led → Prop} {y : Value} {h' : Heap} {tk : Nat} {x₁ x₂ : MAddr × MObj} {news' : Led}
theorem compEnd2 (F : Fr h₀ L h' m) (N : News h₀ L h' (x₁ :: x₂ :: (I, oI) :: (C, oC) :: (D, oD) :: news')) (off : Off3 I C D (x₁ :: x₂ :: news')) (hS : S (x₁ :: x₂ :: news')) (r : rest y (x₁ :: x₂ :: news')) : CompEnd h₀ L m s₁ I oI C oC D oD S rest y { s₁ with heap := h', toks := tk } :=
  CompEnd.intro F N (x₁ :: x₂ :: news') (by simp; grind) off hS r
end
theorem answer_says {w : World} {mean mg mb} {l : MAddr} {news : Led} {vs : List Value} {n : Nat} {rs : List Row} {msg : MStr} (hm : (l, W.listOf vs.toArray n) ∈ news) (hz : vs.length < 1000) (R : RowsIn news vs rs) (e : verdict rs = msg) :
    Ctr0 w mean mg mb 79 [.ref l] news (fun r news' => news' = news ∧ ∃ t, r = .str msg t) := by
  subst e; exact answer_ctr hm hz R
end

section
open PySem PySem.W PyProof.Rows
set_option maxRecDepth 100000
set_option maxHeartbeats 1000000
theorem verdict_first {a b c d : Array UInt8} : verdict [("IHDR", a), ("IEND", b), ("IDAT", c), ("IEND", d)] = ("a chunk stands twice" : MStr) := by
  unfold verdict
  rw [show namesOf [(("IHDR" : MStr), a), ("IEND", b), ("IDAT", c), ("IEND", d)] = [("IHDR" : MStr), "IEND", "IDAT", "IEND"] from rfl, if_neg (by decide), if_pos (by decide)]
  rfl
abbrev goodRows (b0 : Array UInt8) (inner : List Row) (k n : Nat) (c e : Array UInt8) : List Row :=
  [(("IHDR" : MStr), b0)] ++ (inner.take k ++ (List.replicate n [(("IDAT" : MStr), c)]).flatten ++ inner.drop k ++ [(("IEND" : MStr), e)])
def Good (rs : List Row) : Prop := ∃ b0 inner k n c e, rs = goodRows b0 inner k n c e ∧ 1 ≤ n ∧ ∀ q ∈ inner, q.1 ∈ menu
/-- the names of a right list -/
def Shape (ns : List MStr) : Prop := ∃ mid : List MStr, ns = ("IHDR" : MStr) :: (mid ++ [("IEND" : MStr)]) ∧ ("IDAT" : MStr) ∈ mid ∧ ("IHDR" : MStr) ∉ mid ∧ ("IEND" : MStr) ∉ mid
section
variable {b0 c e : Array UInt8} {inner rs rs' : List Row} {k n : Nat}
theorem menu_not {y : MStr} (h : y ∈ menu) : y ≠ ("IHDR" : MStr) ∧ y ≠ ("IEND" : MStr) ∧ y ≠ ("IDAT" : MStr) := by
  simp only [menu, List.mem_cons, List.not_mem_nil, or_false] at h
  rcases h with rfl | rfl | rfl | rfl | rfl | rfl <;> decide
theorem good_shape (hi : ∀ q ∈ inner, q.1 ∈ menu) (hn : 1 ≤ n) : Shape (namesOf (goodRows b0 inner k n c e)) := by
  have hmid : ∀ x ∈ namesOf (inner.take k ++ (List.replicate n [(("IDAT" : MStr), c)]).flatten ++ inner.drop k), x ≠ ("IHDR" : MStr) ∧ x ≠ ("IEND" : MStr) := by
    intro x hx
    obtain ⟨q, hq, rfl⟩ := List.mem_map.mp hx
    rcases List.mem_append.mp hq with hq | hq
    · rcases List.mem_append.mp hq with hq | hq
      · exact ⟨(menu_not (hi q (List.mem_of_mem_take hq))).1, (menu_not (hi q (List.mem_of_mem_take hq))).2.1⟩
      · obtain ⟨l, hl, hq⟩ := List.mem_flatten.mp hq
        rw [List.eq_of_mem_replicate hl, List.mem_singleton] at hq
        subst hq
        exact ⟨(by decide : ("IDAT" : MStr) ≠ ("IHDR" : MStr)), (by decide : ("IDAT" : MStr) ≠ ("IEND" : MStr))⟩
    · exact ⟨(menu_not (hi q (List.mem_of_mem_drop hq))).1, (menu_not (hi q (List.mem_of_mem_drop hq))).2.1⟩
  refine ⟨namesOf (inner.take k ++ (List.replicate n [(("IDAT" : MStr), c)]).flatten ++ inner.drop k), ?_, ?_, fun h => (hmid _ h).1 rfl, fun h => (hmid _ h).2 rfl⟩
  · unfold goodRows namesOf
    rw [List.map_append, List.map_append]
    rfl
  · refine List.mem_map.mpr ⟨(("IDAT" : MStr), c), ?_, rfl⟩
    refine List.mem_append.mpr (.inl (List.mem_append.mpr (.inr (List.mem_flatten.mpr ⟨[(("IDAT" : MStr), c)], List.mem_replicate.mpr ⟨by omega, rfl⟩, List.mem_singleton.mpr rfl⟩))))
theorem Good.shape (h : Good rs) : Shape (namesOf rs) := by
  obtain ⟨b0, inner, k, n, c, e, rfl, hn, hi⟩ := h
  exact good_shape hi hn
theorem shape_ok {ns : List MStr} (h : Shape ns) : ¬ (ns = [] ∨ ns.head? ≠ some ("IHDR" : MStr) ∨ ns.getLast? ≠ some ("IEND" : MStr) ∨ ("IDAT" : MStr) ∉ ns) := by
  obtain ⟨mid, rfl, h1, h2, h3⟩ := h
  rintro (h | h | h | h)
  · cases h
  · exact h rfl
  · refine h ?_
    rw [← List.cons_append, List.getLast?_append]
    rfl
  · exact h (List.mem_cons_of_mem _ (List.mem_append_left _ h1))
theorem shape_once {ns : List MStr} (h : Shape ns) : ns.count ("IHDR" : MStr) = 1 ∧ ns.count ("IEND" : MStr) = 1 := by
  obtain ⟨mid, rfl, h1, h2, h3⟩ := h
  have e1 : mid.count ("IHDR" : MStr) = 0 := List.count_eq_zero.mpr h2
  have e2 : mid.count ("IEND" : MStr) = 0 := List.count_eq_zero.mpr h3
  constructor
  · rw [List.count_cons, List.count_append, e1]; decide
  · rw [List.count_cons, List.count_append, e2]; decide
theorem verdict_right (hi : ∀ q ∈ inner, q.1 ∈ menu) (hk : kindOk b0) (hn : 1 ≤ n) : verdict (goodRows b0 inner k n c e) = ("let" : MStr) := by
  have hs := good_shape (b0 := b0) (k := k) (c := c) (e := e) hi hn
  have ho := shape_once hs
  unfold verdict
  rw [if_neg (shape_ok hs), if_neg (by rw [ho.1, ho.2]; decide), if_neg]
  · rfl
  · rw [Decidable.not_not]
    show some (b0.size, b0.toList.drop 8) = _
    rw [hk.1, hk.2]
theorem verdict_odd (hi : ∀ q ∈ inner, q.1 ∈ menu) (hk : ¬ kindOk b0) (hn : 1 ≤ n) : verdict (goodRows b0 inner k n c e) = ("a picture of a kind that is not read" : MStr) := by
  have hs := good_shape (b0 := b0) (k := k) (c := c) (e := e) hi hn
  have ho := shape_once hs
  unfold verdict
  rw [if_neg (shape_ok hs), if_neg (by rw [ho.1, ho.2]; decide), if_pos]
  · rfl
  · intro h
    have h : some (b0.size, b0.toList.drop 8) = some (13, [8, 6, 0, 0, 0]) := h
    rw [Option.some.injEq, Prod.mk.injEq] at h
    exact hk h
theorem lacks (h : namesOf rs = [] ∨ (namesOf rs).head? ≠ some ("IHDR" : MStr) ∨ (namesOf rs).getLast? ≠ some ("IEND" : MStr) ∨ ("IDAT" : MStr) ∉ namesOf rs) : verdict rs = ("a picture lacks a chunk" : MStr) := if_pos h
theorem verdict_nodata : verdict (noData rs) = ("a picture lacks a chunk" : MStr) := by
  refine lacks (.inr (.inr (.inr fun h => ?_)))
  obtain ⟨q, hq, e⟩ := List.mem_map.mp h
  have := (List.mem_filter.mp hq).2
  rw [decide_eq_true_eq] at this
  exact this e
theorem verdict_lacks (hg : Good rs) (hf : LackForm rs rs') : verdict rs' = ("a picture lacks a chunk" : MStr) := by
  obtain ⟨mid, hm, h1, h2, h3⟩ := hg.shape
  rcases hf with rfl | rfl | rfl | rfl | ⟨x, hx, rfl | rfl⟩ | rfl
  · refine lacks (.inr (.inl ?_))
    rw [namesOf, List.map_drop, show rs.map (·.1) = _ from hm]
    show (mid ++ [("IEND" : MStr)]).head? ≠ _
    cases mid with
    | nil => cases h1
    | cons y t => intro h; exact h2 (by rw [← Option.some.inj (show some y = some _ from h)]; exact .head _)
  · refine lacks (.inr (.inr (.inl ?_)))
    rw [namesOf, List.map_dropLast, show rs.map (·.1) = _ from hm, ← List.cons_append, List.dropLast_concat]
    intro h
    have hmem := List.mem_of_getLast? h
    rcases List.mem_cons.mp hmem with h | h
    · exact absurd h (by decide)
    · exact h3 h
  · exact verdict_nodata
  · exact lacks (.inl rfl)
  · refine lacks (.inr (.inl ?_))
    intro h
    exact (menu_not hx).1 (Option.some.inj h)
  · refine lacks (.inr (.inr (.inl ?_)))
    rw [namesOf, List.map_append, List.map_singleton, List.getLast?_concat]
    intro h
    exact (menu_not hx).2.1 (Option.some.inj h)
  · refine lacks (.inr (.inl ?_))
    rw [namesOf, List.map_reverse, show rs.map (·.1) = _ from hm, ← List.cons_append, List.reverse_append]
    show some ("IEND" : MStr) ≠ _
    decide
theorem verdict_doubled (hg : Good rs) (hf : TwiceForm rs rs') : verdict rs' = ("a chunk stands twice" : MStr) := by
  have hs := hg.shape
  have ho := shape_once hs
  have hok := shape_ok hs
  obtain ⟨mid, hm, h1, h2, h3⟩ := hs
  obtain ⟨p, z, hp, hp', hz, rfl⟩ := hf
  have hlen : rs.length = mid.length + 2 := by
    have := congrArg List.length hm
    simpa [namesOf] using this
  have hz1 : z.1 = ("IHDR" : MStr) ∨ z.1 = ("IEND" : MStr) := by
    rcases hz with hz | hz
    · left
      have : (namesOf rs)[0]? = some z.1 := by rw [namesOf, List.getElem?_map, hz]; rfl
      rw [hm] at this
      exact (Option.some.inj this).symm
    · right
      have : (namesOf rs)[rs.length - 1]? = some z.1 := by rw [namesOf, List.getElem?_map, hz]; rfl
      rw [hm, ← List.cons_append, hlen, List.getElem?_append_right (by simp)] at this
      simpa using this.symm
  have hn : namesOf (rs.take p ++ [z] ++ rs.drop p) = (namesOf rs).take p ++ [z.1] ++ (namesOf rs).drop p := by
    simp [namesOf, List.map_take, List.map_drop]
  have hcount : ∀ y : MStr, (namesOf (rs.take p ++ [z] ++ rs.drop p)).count y = (namesOf rs).count y + [z.1].count y := by
    intro y
    rw [hn, List.count_append, List.count_append]
    have : (namesOf rs).count y = ((namesOf rs).take p).count y + ((namesOf rs).drop p).count y := by rw [← List.count_append, List.take_append_drop]
    omega
  unfold verdict
  rw [if_neg, if_pos]
  · rfl
  · rcases hz1 with e | e
    · left; rw [hcount, ho.1, e]; decide
    · right; rw [hcount, ho.2, e]; decide
  · rw [hn]
    obtain ⟨p, rfl⟩ : ∃ q, p = q + 1 := ⟨p - 1, by omega⟩
    rintro (h | h | h | h)
    · simp at h
    · rw [hm] at h; exact h rfl
    · refine h ?_
      rw [List.getLast?_append, hm, ← List.cons_append, List.drop_append_of_le_length (by simp; omega), List.getLast?_append]
      rfl
    · refine h ?_
      have hd : ("IDAT" : MStr) ∈ (namesOf rs).take (p + 1) ++ (namesOf rs).drop (p + 1) := by
        rw [List.take_append_drop, hm]; exact List.mem_cons_of_mem _ (List.mem_append_left _ h1)
      rcases List.mem_append.mp hd with hd | hd
      · exact List.mem_append_left _ (List.mem_append_left _ hd)
      · exact List.mem_append_right _ hd
end
theorem pick2 {N : Led} {a b : MAddr} {vs ws : List Value} {rs qs : List Row} {i j : Nat} {v : Value} {h₀ h : Heap} {L : MAddr} (_ : News h₀ L h N) (hv : v ∈ [Value.ref a, .ref b]) (h1 : (a, W.listOf vs.toArray i) ∈ N) (h2 : (b, W.listOf ws.toArray j) ∈ N) (R1 : RowsIn N vs rs) (R2 : RowsIn N ws qs) (g1 : Good rs) (g2 : Good qs)
    (z1 : vs.length < 100) (z2 : ws.length < 100) (y1 : 2 ≤ vs.length) (y2 : 2 ≤ ws.length) :
    ∃ l us ps n, v = .ref l ∧ (l, W.listOf us.toArray n) ∈ N ∧ RowsIn N us ps ∧ Good ps ∧ us.length < 100 ∧ 2 ≤ us.length := by
  rcases List.mem_cons.mp hv with rfl | hv
  · exact ⟨_, _, _, _, rfl, h1, R1, g1, z1, y1⟩
  · rw [List.mem_singleton.mp hv]; exact ⟨_, _, _, _, rfl, h2, R2, g2, z2, y2⟩
theorem told_split {N : Led} {a b : MAddr} {vs ws : List Value} {rs qs : List Row} {i j : Nat} {v : Value} {h₀ h : Heap} {L : MAddr} {G : Prop} {x : MAddr × MObj} (hN : News h₀ L h (x :: N)) (hv : v ∈ [Value.ref a, .ref b]) (h1 : (a, W.listOf vs.toArray i) ∈ N) (h2 : (b, W.listOf ws.toArray j) ∈ N) (R1 : RowsIn N vs rs) (R2 : RowsIn N ws qs) (g1 : Good rs) (g2 : Good qs)
    (z1 : vs.length < 100) (z2 : ws.length < 100) (y1 : 2 ≤ vs.length) (y2 : 2 ≤ ws.length)
    (k : ∀ l us ps n, (l, W.listOf us.toArray n) ∈ N → RowsIn N us ps → Good ps → us.length < 100 → 2 ≤ us.length → v = .ref l → G) : G := by
  obtain ⟨l, us, ps, n, e, q1, q2, q3, q4, q5⟩ := pick2 (fun p hp => hN p (.tail _ hp)) hv h1 h2 R1 R2 g1 g2 z1 z2 y1 y2
  exact k l us ps n q1 q2 q3 q4 q5 e
end

section
open PySem PySem.W PyProof.Rows
open PyProof.Rows.LCg
set_option maxRecDepth 100000
set_option maxHeartbeats 8000000
theorem fill_law : (PySem.Challenge.rw_xm0704_01 = PySem.Challenge.rw_xm0704_01) ∧ (Mine.hd.heap_39 = Mine.hd.heap_39) := by
  w_top off; k_fill; exact ⟨rfl, rfl⟩


theorem tails {x : MAddr × MObj} {l : Led} {P : MAddr × MObj → Prop} (h : ∀ p ∈ x :: l, P p) : ∀ p ∈ l, P p := fun p hp => h p (.tail _ hp)
local macro_rules | `(tactic| walk_at "mine clean") => `(tactic| (
  (repeat ((with_reducible rename (_ ∧ _) => z9); clear z9));
  (repeat ((with_reducible rename (_ ≠ _) => z9); clear z9));
  (repeat ((with_reducible rename (AllLt _ _) => z9); clear z9));
  (repeat ((with_reducible rename (LCg.Off1 _ _) => z9); clear z9));
  (repeat ((with_reducible rename (@LT.lt Nat _ (List.length _) _) => z9); have z8 := Nat.succ_le_of_lt z9; clear z9));
  (repeat ((with_reducible rename (@LT.lt Nat _ _ _) => z9); clear z9));
  (repeat ((with_reducible rename (@LE.le Nat _ (Nat.succ (List.length _)) _) => z9); have z8 := Nat.lt_of_succ_le z9; clear z9))))
local macro_rules | `(tactic| walk_at "mine open") => `(tactic| (repeat (with_reducible (rename (_ ∧ _) => z9); obtain ⟨_, _⟩ := z9)))
local macro_rules | `(tactic| walk_at "mine small") => `(tactic| ((try simp only [List.length_append, List.length_cons, List.length_nil, List.length_drop, List.length_take, List.length_reverse, List.length_dropLast, repV_len]); omega))
theorem kind_size {b : Array UInt8} (h : kindOk b) : b.size ≤ 1000 := by rw [h.1]; decide
local macro_rules | `(tactic| walk_at "mine size") => `(tactic| first | (with_reducible assumption) | exact kind_size (by with_reducible assumption) | (rw [byteArr_size]; exact Nat.le_of_ble_eq_true rfl))
local macro_rules | `(tactic| walk_at "mine rows") => `(tactic| first
  | (with_reducible exact RowsIn.nil)
  | ((with_reducible refine' RowsIn.app ?a9 ?b9); (case a9 => walk_at "mine rows"); (case b9 => walk_at "mine rows"))
  | ((with_reducible refine' RowsIn.take ?a9 _); (case a9 => walk_at "mine rows"))
  | ((with_reducible refine' RowsIn.drop ?a9 _); (case a9 => walk_at "mine rows"))
  | ((with_reducible refine' RowsIn.rep ?a9 _); (case a9 => walk_at "mine rows"))
  | (refine' RowsIn.mk ?a9 ?b9 ?c9; (case a9 => k_mem); (case b9 => walk_at "mine size"); (case c9 => walk_at "mine rows"))
  | (with_reducible assumption)
  | (refine RowsIn.mono (by with_reducible assumption) ?_; walk_at "mine sub"))
local macro_rules | `(tactic| walk_at "mine verdict") => `(tactic| first
  | exact verdict_first
  | exact verdict_right (by with_reducible assumption) (by with_reducible assumption) (by omega)
  | exact verdict_odd (by with_reducible assumption) (by with_reducible assumption) (by omega)
  | exact verdict_lacks (by with_reducible assumption) (by with_reducible assumption)
  | exact verdict_doubled (by with_reducible assumption) (by with_reducible assumption)
  | exact verdict_nodata)
local macro_rules | `(tactic| walk_at "mine good") => `(tactic| exact ⟨_, _, _, _, _, _, rfl, by omega, by with_reducible assumption⟩)
local macro_rules | `(tactic| walk_at "CompEnd") => `(tactic| (k_dflt (first | refine' compEnd0 ?k1 ?k2 ?k3 ?k4 ?_; (case k1 => k_asm); (case k2 => k_asm); (case k3 => lcg_off); (case k4 => lcg_src); k_whole | refine' compEnd2 ?k1 ?k2 ?k3 ?k4 ?_; (case k1 => k_asm); (case k2 => k_asm); (case k3 => lcg_off); (case k4 => lcg_src); k_whole | refine' compEnd1 ?k1 ?k2 ?k3 ?k4 ?_; (case k1 => k_asm); (case k2 => k_asm); (case k3 => lcg_off); (case k4 => lcg_src); k_whole)))

local macro_rules | `(tactic| walk_at "call ref") => `(tactic| (k_here; (with_reducible show wpAny _ _ (call (Value.ref 58) _) _ _ _); k_dflt (refine' pool_ctr ?hI ?hn ?hlay _ _ _ _ _ _ _ _ _ _ _ _ _ _ _ _ _ ?k1 ?k2 ?k3 ?k4 ?k5 ?kK ?kl ?kd ?ku ?_; (case hI => with_reducible assumption); (case hlay => with_reducible assumption); (case hn => omega); (case kl => with_reducible assumption); (case k4 => k_asm); (case k1 => k_asm); (case k2 => k_asm); (case k3 => k_asm); (case k5 => k_asm); (case kK => first | exact rfl | assumption); (case kd => ktr_room); (case ku => ktr_units); k_whole); intro src' o' h' tk' F' N' hp' hO'; (simp only [List.forall_mem_cons, List.forall_mem_nil, and_true] at hp'); walk_at "mine open"; walk_at "mine end"))
local macro_rules | `(tactic| walk_at "call ref") => `(tactic| (k_here; (with_reducible show wpAny _ _ (call (Value.ref 79) _) _ _ _); k_dflt (refine' ctr_use0 (answer_says ?hm ?hz ?hR ?he) ?k4 ?kk ?_; (case k4 => walk_at "mine pull"); (case hm => k_mem); (case hz => walk_at "mine small"); (case hR => walk_at "mine rows"); (case he => walk_at "mine verdict"); (case kk => walk_at "mine kk"); k_whole); intro r' news' h' tk' F' N' hR; obtain ⟨e2', t', e1'⟩ := hR; subst e2' e1'; walk_at "mine end"))
local macro_rules | `(tactic| walk_at "call ref") => `(tactic| (k_here; (with_reducible show wpAny _ _ (call (Value.ref 86) _) _ _ _); k_dflt (refine' ctr_use (other_ctrS ?hoff ?ho) ?k4 ?kk ?_; (case k4 => walk_at "mine pull"); (case hoff => k_all); (case ho => with_reducible assumption); (case kk => walk_at "mine kk"); k_whole); intro r' news' h' tk' F' N' hR; obtain ⟨o', a', row', tn', tb', n', hO', e1', e2', na', nr', hz', hm'⟩ := hR; subst e1' e2'; (simp only [List.forall_mem_cons] at nr'); walk_at "mine open"; walk_at "mine end"))
local macro_rules | `(tactic| walk_at "call ref") => `(tactic| (k_here; (with_reducible show wpAny _ _ (call (Value.ref 91) _) _ _ _); k_dflt (refine' ctr_use (heads_ctr ?hoff ?ho) ?k4 ?kk ?_; (case k4 => walk_at "mine pull"); (case hoff => k_all); (case ho => with_reducible assumption); (case kk => walk_at "mine kk"); k_whole); intro r' news' h' tk' F' N' hR; obtain ⟨o', a', th', tw', n', b', c', hO', e1', e2', na', hk', hz', hc'⟩ := hR; subst e1' e2'; walk_at "mine end"))
local macro_rules | `(tactic| walk_at "call ref") => `(tactic| (k_here; (with_reducible show wpAny _ _ (call (Value.ref 72) _) _ _ _); k_dflt (refine' ctr_use (one_ctr ?hoff ?ho ?hm ?h0 ?h1) ?k4 ?kk ?_; (case k4 => walk_at "mine pull"); (case hoff => k_all); (case ho => with_reducible assumption); (case hm => k_mem); (case h0 => exact Nat.le_of_ble_eq_true rfl); (case h1 => exact Nat.le_of_ble_eq_true rfl); (case kk => walk_at "mine kk"); k_whole); intro r' news' h' tk' F' N' hR; obtain ⟨o', hr', hO', e2'⟩ := hR; subst e2'; k_dflt (refine' told_split ?q0 ?q1 ?q2 ?q3 ?q4 ?q5 ?q6 ?q7 ?q8 ?q9 ?qa ?qb ?_; (case q0 => exact N'); (case q1 => exact hr'); (case q2 => k_mem); (case q3 => k_mem); (case q4 => walk_at "mine rows"); (case q5 => walk_at "mine rows"); (case q6 => walk_at "mine good"); (case q7 => walk_at "mine good"); (case q8 => walk_at "mine small"); (case q9 => walk_at "mine small"); (case qa => walk_at "mine small"); (case qb => walk_at "mine small")); intro lt' ut' pt' nt' ht1' ht2' ht3' ht4' ht5' et'; subst et'; walk_at "mine end"))
local macro_rules | `(tactic| walk_at "call ref") => `(tactic| (k_here; (with_reducible show wpAny _ _ (call (Value.ref 96) _) _ _ _); k_dflt (refine' ctr_use (lacking_ctr ?hoff ?ho ?hm ?hR0 ?hz) ?k4 ?kk ?_; (case k4 => walk_at "mine pull"); (case hoff => k_all); (case ho => with_reducible assumption); (case hm => k_mem); (case hR0 => walk_at "mine rows"); (case hz => walk_at "mine small"); (case kk => walk_at "mine kk"); k_whole); intro r' news' h' tk' F' N' hR; obtain ⟨o', rest', vs', rs', l', n', hO', e1', e2', na', hs', hf', hw', hl', hg'⟩ := hR; subst e1' e2'; (try have hm2' := hs' (_, W.listOf _ _) (by with_reducible assumption)); (try have hR2' := RowsIn.mono (by with_reducible assumption) hs'); (repeat (replace hs' := tails hs')); (try have hc9 := hs' (_ + 1, _) (by with_reducible assumption)); revert na'; walk_at "mine clean"; intro na'; walk_at "mine end"))
local macro_rules | `(tactic| walk_at "call ref") => `(tactic| (k_here; (with_reducible show wpAny _ _ (call (Value.ref 103) _) _ _ _); k_dflt (refine' ctr_use (doubled_ctr ?hoff ?ho ?hm ?hR0 ?hz ?hy) ?k4 ?kk ?_; (case k4 => walk_at "mine pull"); (case hoff => k_all); (case ho => with_reducible assumption); (case hm => k_mem); (case hR0 => walk_at "mine rows"); (case hz => walk_at "mine small"); (case hy => walk_at "mine small"); (case kk => walk_at "mine kk"); k_whole); intro r' news' h' tk' F' N' hR; obtain ⟨o', rest', vs', rs', l', n', hO', e1', e2', na', hs', hf', hw', hl', hg'⟩ := hR; subst e1' e2'; walk_at "mine end"))
local macro_rules | `(tactic| walk_at "binaryOp Mult ref int") => `(tactic| (k_here; (with_reducible show wpAny _ _ (binaryOp _ (Value.ref _) (Value.int _ _)) _ _ _); k_dflt (refine' list_mul ?F ?N ?a ?b ?z ?y ?_; (case F => k_asm); (case N => k_asm); (case a => k_mem); (case b => omega); (case z => omega); (case y => exact Nat.le_of_ble_eq_true rfl); k_whole); intro D' h' F' N' l1; (try k_lt l1); (try k_sweep)))
local macro_rules | `(tactic| walk_at "call type:bytes") => `(tactic| (k_here; (with_reducible show wpAny _ _ (call (Value.type "bytes") [Value.ref _]) _ _ _); k_dflt (refine' byts_make ?F ?N ?h ?a ?i ?z ?_; (case F => k_asm); (case N => k_asm); (case h => rfl); (case a => k_mem); (case i => first | exact byts_one (by with_reducible assumption) (by with_reducible assumption) | exact ⟨by repeat constructor, rfl, by unfold KBa.In; decide⟩); (case z => decide)); intro h' t' k' F' N'; (try k_sweep)))
local macro_rules | `(tactic| walk_at "CompSrc") => `(tactic| (k_here; k_dflt (refine' others_src ?h1 ?F ?N ?ho ?hoff ?hr ?hb0 ?hb (fun g' ys' o' rest' vl' I' oI' C' oC' D' m' h' tk' E' hO' hs' hf' hC' hx' F' N' of1' of2' ne' => ?_) (fun g' ys' rows' o' rest' hO' hs' hf' hw' hi' hl' => ?_); (case h1 => rfl); (case F => k_asm); (case N => k_asm); (case ho => with_reducible assumption); (case hoff => k_all); (case hr => with_reducible assumption); (case hb0 => with_reducible assumption); (case hb => with_reducible assumption)); (all_goals (simp only [List.forall_mem_cons] at hs'; walk_at "mine open"))))
local macro_rules | `(tactic| walk_at "OtherEnd") => `(tactic| exact ⟨_, _, _, _, _, _, by with_reducible assumption, rfl, rfl, by with_reducible assumption, by with_reducible assumption, by with_reducible assumption⟩)

theorem law_holds : PySem.Challenge.rw_xm0704_01.Holds := Mine.hd (by
  (k_go0; (all_goals try k_fold))
  all_goals k_steps)
end
end Mine

theorem PySem.Challenge.cw_xm0704_01_holds : PySem.Challenge.rw_xm0704_01.Holds :=
  Mine.law_holds
