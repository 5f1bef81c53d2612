import PyProof.Rows.All
import Wide.All
import OpenK.AllK
import Wide.FinOn
import Lean
import PySem.Challenge.RW_pf0328_01

set_option Elab.async false
set_option compiler.extract_closed false
set_option maxRecDepth 100000
set_option maxHeartbeats 8000000
set_option linter.unusedVariables false
section
open PySem PySem.W PyProof.Rows
set_option maxHeartbeats 8000000
namespace Mine
def vwB (b : List Stmt) : List Stmt :=
  List.append (List.take 3 (List.drop 1 b)) (List.append (List.take 2 (List.drop 5 b)) (List.append (List.take 7 (List.drop 8 b)) (List.drop 16 b)))
def vwM (m : Module) : Module := { m with body := vwB m.body }
def Vw : Program := { PySem.Challenge.rw_pf0328_01.row.toRowW.1 with main := vwM PySem.Challenge.rw_pf0328_01.row.toRowW.1.main }
/-- the looks at the law's text, one by one -/
theorem row_said : OpenLaw.wellSaid PySem.Challenge.rw_pf0328_01 = true := by
  refine (congrFun PySem.W.Fast.te9446332074065402090 _).trans ?_
  delta PySem.W.Fast.tw9446332074065402090
  repeat' with_reducible refine look_both ?_ ?_
  delta PySem.W.Fast.tw17960256430627541270
  repeat' with_reducible refine look_both ?_ ?_
  delta PySem.W.Fast.tw2436336058641802641
  repeat' with_reducible refine look_both ?_ ?_
  delta PySem.W.Fast.tw12908688711261696721
  repeat' with_reducible refine look_both ?_ ?_
  all_goals decide +kernel
local macro_rules | `(tactic| o_head $H) => `(tactic| (
  refine PySem.W.holds_open (q := Vw) (loose := []) (Xt := fun s => xlAt Vw [] s && recOk (RowW.records PySem.Challenge.rw_pf0328_01.row.toRowW) s) (XP := XL Vw []) (Yf := Hook.obs $H) (Ya := Hook.val $H) (YP := Hook.says $H) (N := 4168) ?hl (Hook.of $H) (Hook.keeps $H) (fun s e => xl_of s (Bool.and_eq_true_iff.mp e).1) XL.keeps (by rfl) (by rfl) (by rfl) (fun s e => recFacts_of (Bool.and_eq_true_iff.mp e).2) (by rfl) (by first | assumption | decide +kernel) (by decide +kernel) ⟨rfl, rfl, rfl, rfl, rfl, by decide +kernel⟩ ?hw ?hc
  case hl => (intro w; delta openEnds fencedOpening topFrom; rw [PySem.W.Fast.te10274390034422433532, PySem.W.Fast.te14082659384304107361, PySem.W.Fast.te4187177175401517315, PySem.W.Fast.te14289696077712309145, PySem.W.Fast.te14364793385576792824]; kernel_rfl)))
local macro_rules | `(tactic| o_law) => `(tactic| refine holds_law row_said fun said => ?_)
open_top hd for PySem.Challenge.rw_pf0328_01
end Mine
end
open PySem PySem.W PySem.Spec PySem.Calls PyProof.Rows
namespace Mine
section -- part PB
set_option maxHeartbeats 8000000
/-- the head turns the rules for the top on: off with them (a walk of a def wants none) -/
theorem top_off : True := by
  w_top off
  trivial
/-- what is to be done behind a reckoning, kept under one name while it is walked -/
def Bx {α : Type} (Q : α → Shared → Prop) : α → Shared → Prop := Q
def BxH {α : Type} (Q Q' : α → Shared → Prop) : Prop := ∀ v s, Q v s → Bx Q' v s
theorem bx_go {α : Type} {Q Q' : α → Shared → Prop} {v : α} {s : Shared} (h : BxH Q Q') (hq : Q v s) : Bx Q' v s := h v s hq
section
variable {M : Model} {A : Around} {E : Value → Shared → Prop} {s : Shared} {env : Env}
theorem bx_assign {x : Str} {pos' : Pos} {value : PySem.Expr} {pos : Pos} {Q : Flow → Shared → Prop}
    (h : ∀ Q', BxH (fun v s₁ => wpAny M A (storeName env x v) (fun _ => Q .next) E s₁) Q' → wpAny M A (eval value env) (Bx Q') E s)
    (hs : swapsWith value (some (.Name x pos')) pos.line env = pure false := by rfl) :
    wpAny M A (exec (.Assign [.Name x pos'] value pos) env) Q E s := wpAny_Assign_Name (h _ fun _ _ h => h) hs
theorem bx_if {test : PySem.Expr} {body orelse : List Stmt} {pos : Pos} {Q : Flow → Shared → Prop}
    (h : ∀ Q', BxH (fun b s₂ => if b then wpAny M A (execs body env) Q E s₂ else wpAny M A (execs orelse env) Q E s₂) Q' → wpAny M A (isTrue test env (eval test env)) (Bx Q') E s) :
    wpAny M A (exec (.If test body orelse pos) env) Q E s := wpAny_If (h _ fun _ _ h => h)
theorem bx_return {e : PySem.Expr} {pos : Pos} {Q : Flow → Shared → Prop} (h : ∀ Q', BxH (fun v s₁ => Q (.ret v) s₁) Q' → wpAny M A (eval e env) (Bx Q') E s) :
    wpAny M A (exec (.Return (some e) pos) env) Q E s := wpAny_Return_some (h _ fun _ _ h => h)
end
theorem gbox {P : Prop} (h : ∀ G : Prop, (P → G) → G) : P := h P id
theorem rm0 {a b c : Nat} (h : a + b < c) : a < c := Nat.lt_of_le_of_lt (Nat.le_add_right a b) h
theorem rm1 {a b c d : Nat} (h : a + b < c) (k : Nat.ble d b = true) : a + d < c := Nat.lt_of_le_of_lt (Nat.add_le_add_left (Nat.le_of_ble_eq_true k) a) h
theorem rm2 {a b c d e : Nat} (h : a + b < c) (k : Nat.ble (d + e) b = true) : a + d + e < c := by
  rw [Nat.add_assoc]; exact rm1 h k
theorem leb {a b c : Nat} (h : a ≤ b) (k : Nat.ble b c = true) : a ≤ c := Nat.le_trans h (Nat.le_of_ble_eq_true k)
end
local macro_rules | `(tactic| omega) => `(tactic| first | decide +kernel | with_reducible exact rm2 (by assumption) (by with_unfolding_all rfl) | with_reducible exact rm1 (by assumption) (by with_unfolding_all rfl) | with_reducible exact leb (by assumption) (by with_unfolding_all rfl) | with_reducible exact rm0 (by assumption) | lia | omega +splitMinMax)
section -- part E1
open Sem (wp)
set_option maxHeartbeats 8000000

/-- an exception that __new__ has just made: its tuple of arguments at t -/
abbrev rawExc (C t : Addr) (d : Option Addr) : Obj := { cls := .ref C, dict := d, data := .fields #[.ref t, .none, .none, .none, .bool false, .none] }
abbrev tupObj (vs : List Value) : Obj := { cls := .type "tuple", data := .seq vs.toArray }

section
variable {M : Model} {A : Around} {E : Value → Shared → Prop} {h : Heap} {g : Array GenState} {d : Drawn} {t : Nat} {os : OsState}
variable {nm q : Str} {C N : Addr} {bs bm : List Value} {hdct : Bool} {sn : List Str} {sub : List Value} {ab : Bool} {col : Option Bool} {dd : Option Addr} {k0 k1 k2 k3 k5 : Option Value}

theorem chkNew {rest : List Value} {Q : Unit → Shared → Prop} (hC : h.get? C = some (excClassObj nm q C N bs bm hdct sn sub ab col dd k0 k1 k2 k3 k5 "Exception.__new__"))
    (cB : bm.contains (.type "Exception") = true) (hq : Q () ⟨h, g, d, t, os⟩) : wpAny M A (checkBuiltinCall "Exception.__new__" ⟨.ref C :: rest, []⟩) Q E ⟨h, g, d, t, os⟩ := by
  have F := PySem.F.excBase_Exception
  have hcont : (Value.ref C :: bm).contains (.type "Exception") = true := by rw [List.contains_cons, cB, Bool.or_true]
  have hstar := F.noStar
  simp only [checkBuiltinCall, F.newKind, F.newSplit, F.newRow]
  repeat (first | refine wpAny_loadPart_at hC ?_ | (refine wpAny_isSubtype_exc hC ?_; rw [hcont]) | refine wpAny_staticBase_exc hC ?_ | refine wpAny_madeBy_exc hC ?_ | simp only [bne_self_eq_false, Bool.false_eq_true, if_false] | wp_step)
  exact hq
end

section
variable {prog : Program} {w : World} {A : Around} {R : Result → Shared → Prop} {h : Heap} {g : Array GenState} {d : Drawn} {t : Nat} {os : OsState}
variable {nm q : Str} {C N : Addr} {bs bm : List Value} {hdct : Bool} {sn : List Str} {sub : List Value} {ab : Bool} {col : Option Bool} {dd : Option Addr} {k0 k1 k2 k3 k5 : Option Value}

theorem runNew {rest : List Value} (hC : h.get? C = some (excClassObj nm q C N bs bm hdct sn sub ab col dd k0 k1 k2 k3 k5 "Exception.__new__"))
    (cB : bm.contains (.type "Exception") = true) (cA : bm.contains (.type "AttributeError") = false) (cN : bm.contains (.type "NameError") = false)
    (hq : R (.ok (.ret (.ref (h.objs.size + 1)))) ⟨(h.push (tupObj rest)).push (rawExc C h.objs.size none), g, d, t, os⟩) (hrest : rest.length ≤ sizeLine) :
    codeAny (model prog w) A (.builtin "Exception.__new__" ⟨.ref C :: rest, []⟩) R ⟨h, g, d, t, os⟩ := by
  have F := PySem.F.excBase_Exception
  have hends := F.ends
  have hcB : (Value.ref C :: bm).contains (.type "Exception") = true := by rw [List.contains_cons, cB, Bool.or_true]
  have hcA : (Value.ref C :: bm).contains (.type "AttributeError") = false := by rw [List.contains_cons, cA]; rfl
  have hcN : (Value.ref C :: bm).contains (.type "NameError") = false := by rw [List.contains_cons, cN]; rfl
  refine codeAny_builtinAt F.entry ?_
  unfold Builtin.«BaseException.__new__»
  refine PySem.wpAt_bind ?_
  show PySem.wpAt _ _ _ (stack >>= _) _ _ _
  refine PySem.wpAt_bind (PySem.wpAt_stack fun p below => PySem.wpAt_of_wpAny ?_)
  wp_walk
  refine PySem.wpAt_of_wpAny ?_
  rw [F.owner]
  repeat (first | with_reducible refine wpAny_madeHere_exc F.canon hC ?_ | with_reducible refine wpAny_loadPart_at hC ?_ | (with_reducible refine wpAny_isSubtype_exc hC ?_; first | rw [hcB] | rw [hcA] | rw [hcN]) | wp_step)
  show R _ _
  rw [Heap.size_push]
  exact hq

/-- the class is called: its object, then its own __init__ -/
theorem callExc {rest : List Value} {fI : Addr} (hC : h.get? C = some (excClassObj nm q C N bs bm hdct sn sub ab col dd k0 k1 k2 k3 k5 "Exception.__new__"))
    (cB : bm.contains (.type "Exception") = true) (cA : bm.contains (.type "AttributeError") = false) (cN : bm.contains (.type "NameError") = false)
    (hi : Looks (model prog w) h (typeLookup (.ref C) "__init__") (some (.ref fI))) (hb : ∀ self, Looks (model prog w) h (bindSpecial (.ref fI) self) (.ref fI, [self]))
    (hq : codeAny (model prog w) (A.under (.builtin "type.__call__" ⟨.ref C :: rest, []⟩)) (.call (.ref fI) ⟨.ref (h.objs.size + 1) :: rest, []⟩) (InitBack (h.objs.size + 1) R)
      ⟨(h.push (tupObj rest)).push (rawExc C h.objs.size none), g, d, t, os⟩) (hrest : rest.length ≤ sizeLine) :
    codeAny (model prog w) A (.call (.ref C) ⟨rest, []⟩) R ⟨h, g, d, t, os⟩ := by
  have f1 := tc_lookup
  have f2 := tc_bind (.ref C)
  have F := PySem.F.excBase_Exception
  have hT : (⟨h, g, d, t, os⟩ : Shared).TypeIs (.ref C) "type" := ⟨_, hC, rfl⟩
  refine codeAny_of_tree ?_
  show wpAny _ _ (callAny (.ref C) _) _ _ _
  repeat (any_goals (first | assumption | with_reducible refine wpAny_loadPart_at hC ?_ | wp_step))
  refine ⟨rfl, ?_⟩
  refine codeAny_call_builtin_at (Code.quiet_builtin _ (by decide +kernel)) entry_typeCall (wpAny_check_type_call_sub hC ?_)
  repeat (first | with_reducible refine wpAny_loadPart_at hC ?_ | with_reducible refine wpAny_madeBy_exc hC ?_ | wp_step)
  refine codeAny_call_builtin_code (Code.quiet_builtin _ F.quiet) (chkNew hC cB ?_)
  refine runNew hC cB cA cN ?_ hrest
  show wpAny _ _ _ _ _ ⟨(h.push (tupObj rest)).push (rawExc C h.objs.size none), g, d, t, os⟩
  have k : ∀ b o, h.get? b = some o → ((h.push (tupObj rest)).push (rawExc C h.objs.size none)).get? b = some o := fun b o e => Heap.get?_push_of_some _ (Heap.get?_push_of_some _ e)
  have hC₁ := k _ _ hC
  have hget : ((h.push (tupObj rest)).push (rawExc C h.objs.size none)).get? (h.objs.size + 1) = some { cls := .ref C, data := .fields #[.ref h.objs.size, .none, .none, .none, .bool false, .none] } := by heap_get
  have hcC : (Value.ref C :: bm).contains (.ref C) = true := by simp
  unfold isInstance
  repeat (first | with_reducible refine wpAny_loadPart_at hget ?_ | (with_reducible refine wpAny_isSubtype_exc hC₁ ?_; rw [hcC]) | wp_step)
  show wpAny _ _ (typeLookup (.ref C) _) _ _ _
  refine (hi.keeps k).here ?_
  refine wpAny_holding (wpAny_bind ((hb (.ref (h.objs.size + 1))).keeps k |>.here ?_))
  refine wpAny_bind (wpAny_call (codeAny_mono hq fun r s' z => ?_))
  rcases r with e | (v | _ | _ | _) <;> first | exact z | exact z.elim | skip
  obtain ⟨rfl, z⟩ := z
  wp_walk
  exact z
end
end
section -- part Cn
set_option maxHeartbeats 8000000
/-- a call of the object at f upon the ledger news: what it gives back, and the ledger behind -/
def Con (w : World) (f : Addr) (dep : Nat) (news : List (Addr × Obj)) (vs : List Value) (Pre : Heap → Prop) (R : Value → List (Addr × Obj) → Prop) : Prop :=
  ∀ (mean : ExcName → Option Value) (mg mb : Str → Option Value) (dp un : Nat) (gd : Option (List Code)) (cn : Str) (cs : Scope) (a : Addr) (ccd : Value) (cl : List (Str × Addr)) (outer : List Env) (A₀ : Around) (base h₀ : Heap) (L : Addr) (m : Str → Option Value) (s : Shared) (Q E : Value → Shared → Prop),
    (cB : Below A₀ base outer h₀) → (cF : Fr h₀ L s.heap m) → (cX : (hd.heap_1 w.params).In h₀) → (cN : News h₀ L s.heap news) → (cT : Top Vw (looseW Vw []) mean mg mb h₀) → (cK : cs.kind = .function) → (cP : Pre base) → (cD : dp + dep < recursionLimit) → (cU : un + 8 * dep < cLine) →
    (ret : ∀ r news', R r news' → ∀ h' tk', Fr h₀ L h' m → News h₀ L h' news' → Q r { s with heap := h', toks := tk' }) →
    wpAny (model PySem.Challenge.rw_pf0328_01.row.prog w) (ktrTop dp un gd cn cs L a ccd cl outer) (call (.ref f) vs) Q E s

theorem con_ret {h₀ h' : Heap} {L : Addr} {m : Str → Option Value} {s : Shared} {Q : Value → Shared → Prop} {R : Value → List (Addr × Obj) → Prop} {tk' : Nat} {r : Value}
    (hret : ∀ r news', R r news' → ∀ h' tk', Fr h₀ L h' m → News h₀ L h' news' → Q r { s with heap := h', toks := tk' }) (news' : List (Addr × Obj)) (F : Fr h₀ L h' m) (N : News h₀ L h' news') (hR : R r news') : Q r { s with heap := h', toks := tk' } :=
  hret r news' hR h' tk' F N
end
section -- part E2
set_option maxHeartbeats 8000000
set_option profiler true
set_option profiler.threshold 2000
section
variable {prog : Program} {w : World} {A : Around} {K : Frag} {C x : Addr} {s : Shared} {h₀ : Heap} {L : Addr} {m : Str → Option Value} {news : List (Addr × Obj)}
variable {nm q : Str} {N : Addr} {bs bm : List Value} {hdct : Bool} {sn : List Str} {sub : List Value} {ab : Bool} {col : Option Bool} {dd : Option Addr} {k0 k1 k2 k3 k5 : Option Value}

theorem callExcK {Q : Value → Shared → Prop} {E : Value → Shared → Prop} {rest : List Value} {fI : Addr} (F : Fr h₀ L s.heap m) (X₀ : K.In h₀) (N' : News h₀ L s.heap news)
    (hC : K.lookup C = some (excClassObj nm q C N bs bm hdct sn sub ab col dd k0 k1 k2 k3 k5 "Exception.__new__"))
    (cB : bm.contains (.type "Exception") = true) (cA : bm.contains (.type "AttributeError") = false) (cN : bm.contains (.type "NameError") = false)
    (hi : findIn K (.ref C) "__init__" = some (some (.ref fI))) (hf : isFn K (.ref fI) = true) (hrest : rest.length ≤ sizeLine)
    (h : ∀ x t h', Fr h₀ L h' m → News h₀ L h' ((x, rawExc C t none) :: (t, tupObj rest) :: news) → (∀ p ∈ news, p.1 < t) → t < x →
      codeAny (model prog w) (A.under (.builtin "type.__call__" ⟨.ref C :: rest, []⟩)) (.call (.ref fI) ⟨.ref x :: rest, []⟩) (InitBack x fun r s' => match r with | .ok (.ret v) => Q v s' | .ok _ => False | .error e => E e s') { s with heap := h' }) :
    wpAny (model prog w) A (call (.ref C) rest) Q E s := by
  have X := X₀.keeps F.keep
  obtain ⟨hh, g, d, t, os⟩ := s
  refine wpAny_call (callExc (X _ _ hC) cB cA cN (looks_findIn X hi) (fun self => bind_fn X self (beq_iff_eq.mp hf)) (h _ hh.objs.size _ ((F.push _).push _) ?_ (fun p hp => Heap.lt_size (N' p hp).1) (Nat.lt_succ_self _)) hrest)
  have := (N'.push F (tupObj rest)).push (F.push _) (rawExc C hh.objs.size none)
  rwa [Heap.size_push] at this
end

section
variable {prog : Program} {w : World} {A : Around} {K : Frag} {C x : Addr} {s : Shared} {h₀ : Heap} {L : Addr} {m : Str → Option Value} {news : List (Addr × Obj)}

variable {nm q : Str} {N : Addr} {bs bm : List Value} {hdct : Bool} {sn : List Str} {sub : List Value} {ab : Bool} {col : Option Bool} {dd : Option Addr} {k0 k1 k2 k3 k5 : Option Value}
theorem chkInit {M : Model} {E : Value → Shared → Prop} {rest : List Value} {oe : Obj} {h : Heap} {g : Array GenState} {d : Drawn} {t : Nat} {os : OsState} {Q : Unit → Shared → Prop}
    (hC : h.get? C = some (excClassObj nm q C N bs bm hdct sn sub ab col dd k0 k1 k2 k3 k5 "Exception.__new__")) (cB : bm.contains (.type "Exception") = true) (he : h.get? x = some oe) (hcls : oe.cls = .ref C) (hq : Q () ⟨h, g, d, t, os⟩) :
    wpAny M A (checkBuiltinCall "Exception.__init__" ⟨.ref x :: rest, []⟩) Q E ⟨h, g, d, t, os⟩ := by
  have F := PySem.F.excBase_Exception
  have hcB : (Value.ref C :: bm).contains (.type "Exception") = true := by rw [List.contains_cons, cB, Bool.or_true]
  have hshort := F.noStar
  simp only [checkBuiltinCall, F.initKind, F.initSplit, F.initRow]
  repeat (first | (with_reducible refine wpAny_loadPart_at he ?_; rw [hcls]) | with_reducible refine wpAny_loadPart_at hC ?_ | (with_reducible refine wpAny_isSubtype_exc hC ?_; rw [hcB]) | wp_step)
  refine wpAny_onRaise ?_
  rw [show ∀ (a b : String) (n : Nat), Bind.check ⟨.positional, "*", "Exception", .self, [⟨"args", .varPos, false⟩]⟩ a b n (List.map (fun x => x.fst) ({ pos := Value.ref x :: rest } : Args).kw) = pure () from
    fun a b n => check_star_args _ _ _ _ _ _]
  exact wpAny_pure hq

theorem runInit {R : Result → Shared → Prop} {rest : List Value} {t0 : Addr} {d : Option Addr} {hh : Heap} {g : Array GenState} {dr : Drawn} {tk : Nat} {os : OsState} (hx : hh.get? x = some (rawExc C t0 d)) (hrest : rest.length ≤ sizeLine)
    (hq : R (.ok (.ret .none)) ⟨(hh.push (tupObj rest)).update x (Obj.mapFields (·.setIfInBounds 0 (Value.ref hh.objs.size))), g, dr, tk, os⟩) :
    wpAny (model prog w) A.in1 (Builtin.«BaseException.__init__» ⟨.ref x :: rest, []⟩) (fun fin s' => match fin with | .done f => R (.ok f) s' | .again c' => c'.quiet = true ∧ codeAny (model prog w) A c' R s') (fun e s' => R (.error e) s') ⟨hh, g, dr, tk, os⟩ := by
  have hx₁ : (hh.push (tupObj rest)).get? x = some (rawExc C t0 d) := Heap.get?_push_of_some _ hx
  unfold Builtin.«BaseException.__init__»
  wp_walk
  exact hq

theorem updInit {rest : List Value} {t0 : Addr} {d : Option Addr} {pre post : List (Addr × Obj)} {hh : Heap} (F : Fr h₀ L hh m) (N : News h₀ L hh (pre ++ (x, rawExc C t0 d) :: post))
    (h1 : ∀ p ∈ pre, p.1 ≠ x) (h2 : ∀ p ∈ post, p.1 ≠ x) :
    Fr h₀ L ((hh.push (tupObj rest)).update x (Obj.mapFields (·.setIfInBounds 0 (Value.ref hh.objs.size)))) m ∧
    News h₀ L ((hh.push (tupObj rest)).update x (Obj.mapFields (·.setIfInBounds 0 (Value.ref hh.objs.size)))) ((hh.objs.size, tupObj rest) :: pre ++ (x, rawExc C hh.objs.size d) :: post) := by
  have hx := (N (x, rawExc C t0 d) (by simp)).1
  have NP := N.push F (tupObj rest)
  refine news_upd (pre := (hh.objs.size, tupObj rest) :: pre) (o := rawExc C t0 d) (F.push (tupObj rest)) NP (fun p hp => ?_) h2 rfl rfl
  rcases List.mem_cons.mp hp with rfl | hp
  · exact Nat.ne_of_gt (Heap.lt_size hx)
  · exact h1 p hp
end
end
section -- part E3
open Builtin Builtin.ObjectAttr
set_option maxHeartbeats 8000000
section
variable {prog : Program} {w : World} {A : Around} {K : Frag} {C x : Addr} {s : Shared} {h₀ : Heap} {L : Addr} {m : Str → Option Value} {news : List (Addr × Obj)} {R : Result → Shared → Prop}

/-- object.__setattr__ on an object of an own exception class, up to the store itself -/
theorem osaOpen {ox : Obj} {od : Option Obj} {name : Str} {tk : Tok} {v : Value} {cd : ClassData} (X : K.In s.heap) (I : InstAt s.heap x ox C od) (hc : clsIn K C = some cd) (hm : mroIn K C (.type "object") = some true)
    (hr : ∀ self, refuseLoop self "__setattr__" cd.mro = pure ()) (ha : findIn K (.ref C) name = some none)
    (h : wpAny (model prog w) A.in1 (storeInOwnDict (.ref x) (.ref C) (.str name tk) name v false)
      (fun fin s' => match fin with | .done f => R (.ok f) s' | .again c' => c'.quiet = true ∧ codeAny (model prog w) A c' R s') (fun e s' => R (.error e) s') s) :
    codeAny (model prog w) A (.call (.builtin "object.__setattr__") ⟨[.ref x, .str name tk, v], []⟩) R s := by
  have SF := PySem.F.store_object
  have sub : Looks (model prog w) s.heap (isInstance (.ref x) (.type "object")) true := I.type.andThen (looks_mroIn X hm)
  refine codeAny_call_builtin SF.slot.plain SF.entry (@check_slot (model prog w) _ _ s "object.__setattr__" "object" "__setattr__" (.ref x) [.str name tk, v] [] _ SF.kind SF.split sub (SF.args (.ref x) (.str name tk) v) ?_)
  have hmr : Looks (model prog w) s.heap (mroOf (.ref C)) cd.mro := (looks_clsIn X hc).andThen .now
  have L3 : Looks (model prog w) s.heap (storeTaker? none) none := .now
  rw [osa_eq, refuse_eq]
  refine wpAny_bind (wpAny_bind (I.type.here (wpAny_bind (hmr.here ?_))))
  rw [hr]
  refine wpAny_pure (wpAny_bind (I.type.here (wpAny_bind ((looks_findIn X ha).here (wpAny_bind (L3.here ?_))))))
  exact h

theorem refuseExc (self : Value) : refuseLoop self "__setattr__" [.type "Exception", .type "BaseException", .type "object"] = pure () := by kernel_rfl

/-- the first store lays the dict -/
theorem storeFirst {t : Addr} {name : Str} {tk : Tok} {v : Value} {b : Bool} {p1 : Addr × Obj} {post : List (Addr × Obj)} {cd : ClassData} (F : Fr h₀ L s.heap m) (N : News h₀ L s.heap (p1 :: (x, rawExc C t none) :: post)) (X : K.In s.heap)
    (hc : clsIn K C = some cd) (hh : cd.hasDict = true) (h1 : p1.1 ≠ x) (h2 : ∀ p ∈ post, p.1 ≠ x)
    (h : ∀ dd h', Fr h₀ L h' m → News h₀ L h' ((dd, dictOf [⟨PyData.keyHash w.params name, .str name s.toks, v⟩] 1) :: p1 :: (x, rawExc C t (some dd)) :: post) → (∀ p ∈ p1 :: (x, rawExc C t none) :: post, p.1 < dd) → R (.ok (.ret .none)) { s with heap := h', toks := s.toks + 1 }) :
    wpAny (model prog w) A.in1 (storeInOwnDict (.ref x) (.ref C) (.str name tk) name v b)
      (fun fin s' => match fin with | .done f => R (.ok f) s' | .again c' => c'.quiet = true ∧ codeAny (model prog w) A c' R s') (fun e s' => R (.error e) s') s := by
  obtain ⟨hh0, g, dr, tks, os⟩ := s
  have hx := (N (x, rawExc C t none) (by simp)).1
  have hx₁ : (hh0.push emptyDict).get? x = some (rawExc C t none) := Heap.get?_push_of_some _ hx
  have NP := N.push F emptyDict
  have hlt : ∀ p ∈ p1 :: (x, rawExc C t none) :: post, p.1 < hh0.objs.size := fun p hp => Heap.lt_size (N p hp).1
  have U1 := news_upd (pre := [(hh0.objs.size, emptyDict), p1]) (post := post) (o := rawExc C t none) (o' := rawExc C t (some hh0.objs.size)) (f := fun o => { o with dict := some hh0.objs.size }) (F.push emptyDict) NP
    (fun p hp => by
      rcases List.mem_cons.mp hp with rfl | hp
      · exact Nat.ne_of_gt (hlt (x, rawExc C t none) (by simp))
      · rw [List.mem_singleton.mp hp]; exact h1) h2 rfl rfl
  have U2 := news_upd (pre := []) (post := p1 :: (x, rawExc C t (some hh0.objs.size)) :: post) (o := emptyDict) (o' := dictOf [⟨PyData.keyHash w.params name, .str name tks, v⟩] 1) (f := Obj.putName name (PyData.keyHash w.params name) (.str name tks) v) U1.1 U1.2
    (fun p hp => nomatch hp)
    (fun p hp => by
      rcases List.mem_cons.mp hp with rfl | hp
      · exact Nat.ne_of_lt (hlt p (by simp))
      · rcases List.mem_cons.mp hp with rfl | hp
        · exact Nat.ne_of_lt (hlt (x, rawExc C t none) (by simp))
        · exact Nat.ne_of_lt (hlt p (by simp [hp]))) (putName_dict name _ _ v [] 0) rfl
  have z := h _ _ U2.1 U2.2 hlt
  have D := (U1.2 (hh0.objs.size, emptyDict) (by simp)).1
  have D' := (U2.2 (hh0.objs.size, dictOf [⟨PyData.keyHash w.params name, .str name tks, v⟩] 1) (by simp)).1
  unfold storeInOwnDict
  refine wpAny_bind (wpAny_pure ?_)
  show wpAny _ _ (ownDictForStores (.ref x) >>= _) _ _ _
  refine wpAny_bind ?_
  show wpAny _ _ (instanceDict x true) _ _ _
  unfold instanceDict
  refine wpAny_bind (wpAny_loadPart hx (wpAny_bind ((looks_clsIn X hc).here ?_)))
  rw [hh]
  show wpAny _ _ (alloc emptyDict >>= fun d => update x (fun o => { o with dict := some d }) >>= fun _ => dictMade (.ref C) x d) _ _ _
  refine wpAny_bind (wpAny_alloc ?_)
  refine wpAny_bind (wpAny_update hx₁ ?_)
  refine wpAny_pure ?_
  show wpAny _ _ (storeInDict hh0.objs.size (.str name tk) name v) _ _ _
  unfold storeInDict newKeyGuard
  refine wpAny_bind (wpAny_pure (wpAny_bind ?_))
  unfold nsSet
  refine wpAny_bind (wpAny_bind (wpAny_askSetting (wpAny_pure (wpAny_bind (wpAny_mkText (wpAny_bind (wpAny_loadPart D ?_)))))))
  refine wpAny_updatePart D ?_
  refine wpAny_bind (wpAny_lookBehind D' (pastItsLine_dict (by rw [sizeLine_eq]; exact Nat.le_of_ble_eq_true rfl)) ?_)
  exact wpAny_pure z

theorem storeNext {ox : Obj} {dd : Addr} {es es' : List DictEntry} {n n' : Nat} {name : Str} {tk : Tok} {v : Value} {b : Bool} {post : List (Addr × Obj)} {cd : ClassData} (F : Fr h₀ L s.heap m) (N : News h₀ L s.heap ((dd, dictOf es n) :: post)) (X : K.In s.heap)
    (hx : s.heap.get? x = some ox) (hcl : ox.cls = .ref C) (hd : ox.dict = some dd) (hc : clsIn K C = some cd) (hh : cd.hasDict = true) (h2 : ∀ p ∈ post, p.1 ≠ dd) (hl : (getL name es).isSome = true)
    (e : (putL name (PyData.keyHash w.params name) (.str name s.toks) v es, putN name es n) = (es', n')) (hz : es'.length ≤ 1000)
    (h : ∀ h', Fr h₀ L h' m → News h₀ L h' ((dd, dictOf es' n') :: post) → R (.ok (.ret .none)) { s with heap := h', toks := s.toks + 1 }) :
    wpAny (model prog w) A.in1 (storeInOwnDict (.ref x) (.ref C) (.str name tk) name v b)
      (fun fin s' => match fin with | .done f => R (.ok f) s' | .again c' => c'.quiet = true ∧ codeAny (model prog w) A c' R s') (fun e s' => R (.error e) s') s := by
  obtain ⟨hh0, g, dr, tks, os⟩ := s
  obtain ⟨oc, odi, oda, osl⟩ := ox
  dsimp only at hcl hd hx
  subst hcl hd
  obtain ⟨e1, e2⟩ := Prod.mk.inj e
  have U2 := news_upd (pre := []) (post := post) (o := dictOf es n) (o' := dictOf es' n') (f := Obj.putName name (PyData.keyHash w.params name) (.str name tks) v) F N
    (fun p hp => nomatch hp) h2 (by rw [putName_dict]; exact congr (congrArg dictOf e1) e2) rfl
  have z := h _ U2.1 U2.2
  have D := (N (dd, dictOf es n) (by simp)).1
  have D' := (U2.2 (dd, dictOf es' n') (by simp)).1
  unfold storeInOwnDict
  refine wpAny_bind (wpAny_pure ?_)
  show wpAny _ _ (ownDictForStores (.ref x) >>= _) _ _ _
  refine wpAny_bind ?_
  show wpAny _ _ (instanceDict x true) _ _ _
  unfold instanceDict
  refine wpAny_bind (wpAny_loadPart hx (wpAny_bind ((looks_clsIn X hc).here ?_)))
  rw [hh]
  show wpAny _ _ (pure (some dd)) _ _ _
  refine wpAny_pure ?_
  show wpAny _ _ (storeInDict dd (.str name tk) name v) _ _ _
  unfold storeInDict newKeyGuard
  refine wpAny_bind (wpAny_pure (wpAny_bind ?_))
  unfold nsSet
  refine wpAny_bind (wpAny_bind (wpAny_askSetting (wpAny_pure (wpAny_bind (wpAny_mkText (wpAny_bind (wpAny_loadPart D ?_)))))))
  have c : (!es.toArray.any (·.key.isStr name) && es.toArray.any (·.refKey)) = false := by
    unfold getL at hl
    rw [← Array.any_toList, ← Array.any_toList]
    split at hl
    · rename_i en he
      rw [List.any_eq_true.mpr ⟨en, List.mem_of_find?_eq_some he, List.find?_some he⟩]; rfl
    · split at hl
      · cases hl
      · rename_i z; rw [Bool.not_eq_true] at z; rw [z, Bool.and_false]
  dsimp only
  rw [aRefKeyMayBeTheName_at, c]
  refine wpAny_updatePart D ?_
  refine wpAny_bind (wpAny_lookBehind D' (pastItsLine_dict (by rw [List.size_toArray, sizeLine_eq]; omega)) ?_)
  exact wpAny_pure z

theorem setExc1 {Q : Unit → Shared → Prop} {E : Value → Shared → Prop} {t : Addr} {name : Str} {v : Value} {p1 : Addr × Obj} {post : List (Addr × Obj)} {cd : ClassData} (F : Fr h₀ L s.heap m) (X₀ : K.In h₀) (N : News h₀ L s.heap (p1 :: (x, rawExc C t none) :: post))
    (hs : findIn K (.ref C) "__setattr__" = some (some (.builtin "object.__setattr__"))) (hc : clsIn K C = some cd) (hh : cd.hasDict = true) (hm : mroIn K C (.type "object") = some true)
    (hr : ∀ self, refuseLoop self "__setattr__" cd.mro = pure ()) (ha : findIn K (.ref C) name = some none) (h1 : p1.1 ≠ x) (h2 : ∀ p ∈ post, p.1 ≠ x)
    (h : ∀ dd h' k, Fr h₀ L h' m → News h₀ L h' ((dd, dictOf [⟨PyData.keyHash w.params name, .str name k, v⟩] 1) :: p1 :: (x, rawExc C t (some dd)) :: post) → (∀ p ∈ p1 :: (x, rawExc C t none) :: post, p.1 < dd) → Q () { s with heap := h', toks := s.toks + 2 }) :
    wpAny (model prog w) A (setAttr (.ref x) name v) Q E s := by
  have X := X₀.keeps F.keep
  have hx := (N (x, rawExc C t none) (by simp)).1
  have I : InstAt s.heap x (rawExc C t none) C none := ⟨hx, rfl, rfl, trivial⟩
  refine set_plain X I hs (osaOpen (s := { s with toks := s.toks + 1 }) X I hc hm hr ha (storeFirst (s := { s with toks := s.toks + 1 }) (R := fun r s' => match r with | .ok (.ret _) => Q () s' | .ok _ => False | .error e => E e s') F N X hc hh h1 h2 fun dd h' F' N' l => h dd h' _ F' N' l))

theorem setExc2 {Q : Unit → Shared → Prop} {E : Value → Shared → Prop} {t dd : Addr} {es es' : List DictEntry} {n n' : Nat} {name : Str} {v : Value} {post : List (Addr × Obj)} {cd : ClassData} (F : Fr h₀ L s.heap m) (X₀ : K.In h₀) (N : News h₀ L s.heap ((dd, dictOf es n) :: post))
    (hx : (x, rawExc C t (some dd)) ∈ post)
    (hs : findIn K (.ref C) "__setattr__" = some (some (.builtin "object.__setattr__"))) (hc : clsIn K C = some cd) (hh : cd.hasDict = true) (hm : mroIn K C (.type "object") = some true)
    (hr : ∀ self, refuseLoop self "__setattr__" cd.mro = pure ()) (ha : findIn K (.ref C) name = some none) (h2 : ∀ p ∈ post, p.1 ≠ dd) (hl : (getL name es).isSome = true)
    (e : (putL name (PyData.keyHash w.params name) (.str name (s.toks + 1)) v es, putN name es n) = (es', n')) (hz : es'.length ≤ 1000)
    (h : ∀ h', Fr h₀ L h' m → News h₀ L h' ((dd, dictOf es' n') :: post) → Q () { s with heap := h', toks := s.toks + 2 }) :
    wpAny (model prog w) A (setAttr (.ref x) name v) Q E s := by
  have X := X₀.keeps F.keep
  have gx := (N (x, rawExc C t (some dd)) (List.mem_cons_of_mem _ hx)).1
  have gd := (N (dd, dictOf es n) (by simp)).1
  have I : InstAt s.heap x (rawExc C t (some dd)) C (some (dictOf es n)) := ⟨gx, rfl, rfl, gd⟩
  refine set_plain X I hs (osaOpen (s := { s with toks := s.toks + 1 }) X I hc hm hr ha (storeNext (s := { s with toks := s.toks + 1 }) (R := fun r s' => match r with | .ok (.ret _) => Q () s' | .ok _ => False | .error e => E e s') F N X gx rfl rfl hc hh h2 hl e hz fun h' F' N' => h h' F' N'))

theorem initExcK {Q : Value → Shared → Prop} {E : Value → Shared → Prop} {nm q : Str} {N₁ : Addr} {bs bm : List Value} {hdct : Bool} {sn : List Str} {sub : List Value} {ab : Bool} {col : Option Bool} {dd : Option Addr} {k0 k1 k2 k3 k5 : Option Value} {rest : List Value} {t0 : Addr} {d : Option Addr} {post : List (Addr × Obj)}
    (F : Fr h₀ L s.heap m) (X₀ : K.In h₀) (N : News h₀ L s.heap ((x, rawExc C t0 d) :: post)) (hC : K.lookup C = some (excClassObj nm q C N₁ bs bm hdct sn sub ab col dd k0 k1 k2 k3 k5 "Exception.__new__"))
    (cB : bm.contains (.type "Exception") = true) (h2 : ∀ p ∈ post, p.1 ≠ x) (hrest : rest.length ≤ sizeLine)
    (h : ∀ t h', Fr h₀ L h' m → News h₀ L h' ((t, tupObj rest) :: (x, rawExc C t d) :: post) → (∀ p ∈ (x, rawExc C t0 d) :: post, p.1 < t) → Q .none { s with heap := h' }) :
    wpAny (model prog w) A (call (.builtin "Exception.__init__") (.ref x :: rest)) Q E s := by
  have X := X₀.keeps F.keep
  have FB := PySem.F.excBase_Exception
  have hx := (N (x, rawExc C t0 d) (by simp)).1
  obtain ⟨hh, g, dr, tk, os⟩ := s
  have U := updInit (rest := rest) (pre := []) F N (fun p hp => nomatch hp) h2
  refine wpAny_call (codeAny_call_builtin FB.init.plain FB.initEntry (chkInit (X _ _ hC) cB hx rfl (runInit (R := fun r s' => match r with | .ok (.ret v) => Q v s' | .ok _ => False | .error e => E e s') hx hrest ?_)))
  exact h _ _ U.1 U.2 fun p hp => Heap.lt_size (N p hp).1
end
end
section -- part E5
open Sem (wp)
set_option maxHeartbeats 8000000
/-- the object at e has its attributes at d -/
def DictAt (e d : Addr) (h : Heap) : Prop := ∃ o, h.get? e = some o ∧ o.dict = some d

theorem DictAt.push {e d : Addr} {h : Heap} (x : DictAt e d h) (o : Obj) : DictAt e d (h.push o) := let ⟨a, b, c⟩ := x; ⟨a, Heap.get?_push_of_some _ b, c⟩
theorem DictAt.upd {e d a : Addr} {h : Heap} (x : DictAt e d h) {f : Obj → Obj} (hf : ∀ o, (f o).dict = o.dict) (hn : ∀ o, h.get? a = some o → (f o).isFreed = false) : DictAt e d (h.update a f) := by
  obtain ⟨o, ho, hd⟩ := x
  by_cases q : a = e
  · subst q
    exact ⟨f o, Heap.get?_update_self _ ho (hn o ho), (hf o).trans hd⟩
  · exact ⟨o, (Heap.get?_update_other _ _ q).trans ho, hd⟩

theorem freed_map (f : Array Value → Array Value) (o : Obj) : (Obj.mapFields f o).isFreed = o.isFreed := by
  obtain ⟨_, _, dt, _⟩ := o
  cases dt <;> rfl
theorem dict_map (f : Array Value → Array Value) (o : Obj) : (Obj.mapFields f o).dict = o.dict := by
  obtain ⟨_, _, dt, _⟩ := o
  cases dt <;> rfl

/-- a tree that never turns an object's dict -/
structure KeepsD {α : Type} (t : Sem α) : Prop where
  out : ∀ (M : Model) (Γ : PySem.Ctx) (P : α → Pos → Shared → Prop) (Ee : Value → Pos → Shared → Prop) (p : Pos) (s : Shared) (e d : Addr), DictAt e d s.heap → wp M Γ t P Ee p s → wp M Γ t (fun a p' s' => P a p' s' ∧ DictAt e d s'.heap) Ee p s

namespace KeepsD
variable {α β : Type}
theorem pure (a : α) : KeepsD (Pure.pure a : Sem α) := ⟨fun _ _ _ _ _ _ _ _ x h => ⟨h, x⟩⟩
theorem unsupported (w : String) : KeepsD (PySem.unsupported w : Sem α) := ⟨fun _ _ _ _ _ _ _ _ _ h => h⟩
theorem bind {m : Sem α} {f : α → Sem β} (hm : KeepsD m) (hf : ∀ a, KeepsD (f a)) : KeepsD (m >>= f) := ⟨fun M Γ P Ee p s e d x h => by
  rw [Sem.wp_bind'] at h ⊢
  exact Sem.wp_mono M Γ _ (fun a p' s' h' => (hf a).out M Γ P Ee p' s' e d h'.2 h'.1) (fun _ _ _ z => z) p s (hm.out M Γ _ Ee p s e d x h)⟩
theorem ite {c : Prop} [Decidable c] {t u : Sem α} (ht : KeepsD t) (hu : KeepsD u) : KeepsD (if c then t else u) := by split <;> assumption
theorem load (a : Addr) : KeepsD (PySem.load a) := ⟨fun M Γ P Ee p s e d x h => by
  simp only [PySem.load, Sem.wp_load, Sem.wp_pure] at h ⊢
  obtain ⟨o, ho, h⟩ := h
  exact ⟨o, ho, h, x⟩⟩
theorem stack : KeepsD PySem.stack := ⟨fun M Γ P Ee p s e d x h => by
  simp only [PySem.stack, Sem.wp_stack, Sem.wp_pure] at h ⊢
  exact ⟨h, x⟩⟩
theorem alloc (o : Obj) : KeepsD (PySem.alloc o) := ⟨fun M Γ P Ee p s e d x h => by
  simp only [PySem.alloc, Sem.wp_alloc, Sem.wp_pure] at h ⊢
  exact ⟨h, x.push _⟩⟩
theorem field (v : Value) (i : Nat) : KeepsD (PySem.field v i) := ⟨fun M Γ P Ee p s e d x h => by
  rw [wp_field_iff] at h ⊢
  obtain ⟨a, o, vs, y, e1, e2, e3, e4, h⟩ := h
  exact ⟨a, o, vs, y, e1, e2, e3, e4, h, x⟩⟩
theorem setField (v : Value) (i : Nat) (y : Value) : KeepsD (PySem.setField v i y) := ⟨fun M Γ P Ee p s e d x h => by
  rw [wp_setField_iff] at h ⊢
  obtain ⟨a, o, vs, e1, e2, e3, e4, h⟩ := h
  refine ⟨a, o, vs, e1, e2, e3, e4, h, x.upd (dict_map _) fun o' h' => ?_⟩
  rw [freed_map]
  exact (Heap.get?_some_iff.mp h').2⟩
end KeepsD
theorem keepsD_update (a : Addr) {f : Obj → Obj} (hf : ∀ o, (f o).dict = o.dict) (hn : ∀ o, (f o).isFreed = o.isFreed) : KeepsD (PySem.update a f) := ⟨fun M Γ P Ee p s e d x h => by
  simp only [PySem.update, Sem.wp_update, Sem.wp_pure] at h ⊢
  refine ⟨h.1, h.2, x.upd hf fun o' h' => ?_⟩
  rw [hn]
  exact (Heap.get?_some_iff.mp h').2⟩

theorem kd_behindIsImport (env : Env) (outer : List Env) : KeepsD (behindIsImport env outer) := by
  unfold behindIsImport
  (repeat' with_reducible first | assumption | exact KeepsD.pure _ | exact KeepsD.unsupported _ | exact KeepsD.field _ _ | exact KeepsD.setField _ _ _ | exact KeepsD.load _ | exact KeepsD.stack | exact KeepsD.alloc _ | apply KeepsD.ite | apply KeepsD.bind | intro _ | split)
theorem kd_underTheClaimsCaller : KeepsD underTheClaimsCaller := by
  unfold underTheClaimsCaller
  (repeat' with_reducible first | assumption | exact KeepsD.pure _ | exact KeepsD.unsupported _ | exact KeepsD.field _ _ | exact KeepsD.setField _ _ _ | exact KeepsD.load _ | exact KeepsD.stack | exact KeepsD.alloc _ | apply KeepsD.ite | apply KeepsD.bind | intro _ | split)
theorem kd_keptBack (env : Env) (i : Bool) (l : List Env) : KeepsD (keptBack env i l) := by
  have := kd_underTheClaimsCaller
  cases l <;> unfold keptBack <;> (repeat' with_reducible first | assumption | exact KeepsD.pure _ | exact KeepsD.unsupported _ | exact KeepsD.field _ _ | exact KeepsD.setField _ _ _ | exact KeepsD.load _ | exact KeepsD.stack | exact KeepsD.alloc _ | apply KeepsD.ite | apply KeepsD.bind | intro _ | split)
theorem kd_slots (a : Addr) (g : Obj → Array (Option Value)) : KeepsD (PySem.update a fun o => { o with slots := g o }) :=
  keepsD_update a (fun _ => rfl) fun o => by obtain ⟨_, _, dt, _⟩ := o; cases dt <;> rfl
theorem kd_readyFrames : ∀ l : List Env, KeepsD (readyFrames l)
  | [] => KeepsD.pure _
  | env :: outer => by
    have ih := kd_readyFrames outer
    have h1 := kd_behindIsImport env outer
    have h2 := fun i => kd_keptBack env i outer
    unfold readyFrames
    (repeat' with_reducible first | assumption | exact KeepsD.pure _ | exact KeepsD.unsupported _ | exact KeepsD.field _ _ | exact KeepsD.setField _ _ _ | exact KeepsD.load _ | exact KeepsD.stack | exact KeepsD.alloc _ | apply KeepsD.ite | apply KeepsD.bind | intro _ | split)
    all_goals first | exact h2 _ | exact kd_slots _ _
theorem kd_frameObject (l : List Env) : KeepsD (frameObject l) := by
  cases l with
  | nil => exact KeepsD.pure _
  | cons env outer =>
    have := kd_readyFrames (env :: outer)
    unfold frameObject
    (repeat' with_reducible first | assumption | exact KeepsD.pure _ | exact KeepsD.unsupported _ | exact KeepsD.field _ _ | exact KeepsD.setField _ _ _ | exact KeepsD.load _ | exact KeepsD.stack | exact KeepsD.alloc _ | apply KeepsD.ite | apply KeepsD.bind | intro _ | split)
theorem kd_frameEnvs : KeepsD frameEnvs := by
  unfold frameEnvs
  (repeat' with_reducible first | assumption | exact KeepsD.pure _ | exact KeepsD.unsupported _ | exact KeepsD.field _ _ | exact KeepsD.setField _ _ _ | exact KeepsD.load _ | exact KeepsD.stack | exact KeepsD.alloc _ | apply KeepsD.ite | apply KeepsD.bind | intro _ | split)
theorem kd_frameOf (env : Env) : KeepsD (PySem.frameOf env) := by
  have h1 := kd_frameEnvs
  unfold PySem.frameOf
  (repeat' with_reducible first | assumption | exact KeepsD.pure _ | exact KeepsD.unsupported _ | exact KeepsD.field _ _ | exact KeepsD.setField _ _ _ | exact KeepsD.load _ | exact KeepsD.stack | exact KeepsD.alloc _ | apply KeepsD.ite | apply KeepsD.bind | intro _ | split)
  all_goals exact kd_frameObject _
theorem kd_entryPlaceOf (f : Addr) (hadNext : Bool) : KeepsD (entryPlaceOf f hadNext) := by
  unfold entryPlaceOf
  (repeat' with_reducible first | assumption | exact KeepsD.pure _ | exact KeepsD.unsupported _ | exact KeepsD.field _ _ | exact KeepsD.setField _ _ _ | exact KeepsD.load _ | exact KeepsD.stack | exact KeepsD.alloc _ | apply KeepsD.ite | apply KeepsD.bind | intro _ | split)
theorem kd_newEntry (a b c d e : Value) (l : List Value) : KeepsD (EntryCells.newEntry a b c d e l) := by
  unfold EntryCells.newEntry newFields newObj newObjAsIs classHasDel
  (repeat' with_reducible first | assumption | exact KeepsD.pure _ | exact KeepsD.unsupported _ | exact KeepsD.field _ _ | exact KeepsD.setField _ _ _ | exact KeepsD.load _ | exact KeepsD.stack | exact KeepsD.alloc _ | apply KeepsD.ite | apply KeepsD.bind | intro _ | split)
theorem kd_setFlight (e : Value) (f : Option Addr) : KeepsD (setFlight e f) := by
  unfold setFlight
  (repeat' with_reducible first | assumption | exact KeepsD.pure _ | exact KeepsD.unsupported _ | exact KeepsD.field _ _ | exact KeepsD.setField _ _ _ | exact KeepsD.load _ | exact KeepsD.stack | exact KeepsD.alloc _ | apply KeepsD.ite | apply KeepsD.bind | intro _ | split)
theorem kd_noteFrame (e : Value) (env : Env) : KeepsD (noteFrame e env) := by
  have h1 := kd_frameOf env
  have h2 := kd_entryPlaceOf
  have h3 := kd_newEntry
  unfold noteFrame
  (repeat' with_reducible first | assumption | exact KeepsD.pure _ | exact KeepsD.unsupported _ | exact KeepsD.field _ _ | exact KeepsD.setField _ _ _ | exact KeepsD.load _ | exact KeepsD.stack | exact KeepsD.alloc _ | apply KeepsD.ite | apply KeepsD.bind | intro _ | split)
  all_goals first | exact h2 _ _ | exact h3 _ _ _ _ _ _
theorem kd_leaving (env : Env) (e : Value) : KeepsD (leaving env e) := by
  have h1 := kd_noteFrame e env
  have h2 := kd_setFlight e none
  unfold leaving
  (repeat' with_reducible first | assumption | exact KeepsD.pure _ | exact KeepsD.unsupported _ | exact KeepsD.field _ _ | exact KeepsD.setField _ _ _ | exact KeepsD.load _ | exact KeepsD.stack | exact KeepsD.alloc _ | apply KeepsD.ite | apply KeepsD.bind | intro _ | split)
theorem KeepsD.any {α : Type} {t : Sem α} (k : KeepsD t) {M : Model} {A : Around} {Q : α → Shared → Prop} {E : Value → Shared → Prop} {s : Shared} {e d : Addr} (x : DictAt e d s.heap) (h : wpAny M A t (fun a s' => DictAt e d s'.heap → Q a s') E s) : wpAny M A t Q E s :=
  fun Γ p hΓ => Sem.wp_mono M Γ t (fun a p' s' z => z.1 z.2) (fun _ _ _ z => z) p s (k.out M Γ _ _ p s e d x (h Γ p hΓ))
end
section -- part E6
open Sem (wp)
set_option maxHeartbeats 8000000
def RaiseGo (E : Value → Shared → Prop) (v : Value) (s : Shared) : Prop :=
  ∃ (e C t : Addr) (d : Option Addr) (nm q : Str) (N : Addr) (bs bm : List Value) (hdct : Bool) (sn : List Str) (sub : List Value) (ab : Bool) (col : Option Bool) (dd : Option Addr) (k0 k1 k2 k3 k5 : Option Value) (newId : String),
    v = .ref e ∧ s.heap.get? C = some (excClassObj nm q C N bs bm hdct sn sub ab col dd k0 k1 k2 k3 k5 newId) ∧ bm.contains (.type "BaseException") = true ∧ s.heap.get? e = some (rawExc C t d) ∧ E (.ref e) s

section
variable {M : Model} {A : Around} {E : Value → Shared → Prop} {s : Shared} {env : Env}
theorem raiseMade {x : Sem Value} {Q : Flow → Shared → Prop} (hh : A.handled = none) (h : wpAny M A x (RaiseGo E) E s) : wpAny M A (raiseStmt env (some x) none) Q E s := by
  unfold raiseStmt
  refine wpAny_bind (wpAny_mono h (fun v s₁ h₁ => ?_) fun _ _ x => x)
  obtain ⟨e, C, t, d', nm, q, N, bs, bm, hdct, sn, sub, ab, col, dd, k0, k1, k2, k3, k5, newId, rfl, hC, hbase, he, hE⟩ := h₁
  have hcB : (Value.ref C :: bm).contains (.type "BaseException") = true := by rw [List.contains_cons, hbase, Bool.or_true]
  obtain ⟨hp, g, d, tk, os⟩ := s₁
  have he' : hp.get? e = some { cls := .ref C, dict := d', data := .fields #[.ref t, .none, .none, .none, .bool false, .none] } := he
  repeat (first | with_reducible refine wpAny_loadPart_at he' ?_ | with_reducible refine wpAny_loadPart_at hC ?_ | (with_reducible refine wpAny_isSubtype_exc hC ?_; rw [hcB]) | wp_step)
  exact wpAny_raiseNew_none hh hE

theorem Raise_exc {x : Expr} {pos : Pos} {Q : Flow → Shared → Prop} (hh : A.handled = none) (h : wpAny M A (eval x env) (RaiseGo E) E s) :
    wpAny M A (exec (.Raise (some x) none pos) env) Q E s := by
  rw [arm_exec_Raise]
  simp only [evalOpt, Option.map]
  refine wpAny_bind (wpAny_standAt (raiseMade hh ?_))
  exact wpAny_bind (wpAny_mono h (fun v s₃ h₃ => wpAny_bind (wpAny_standAt (wpAny_pure h₃))) fun _ _ x => x)
end
section
variable {K : Frag} {E : Value → Shared → Prop} {s : Shared} {h₀ : Heap} {L : Addr} {m : Str → Option Value} {news : List (Addr × Obj)} {e C t : Addr} {d : Option Addr}
theorem raiseGo_ {nm q : Str} {N₁ : Addr} {bs bm : List Value} {hdct : Bool} {sn : List Str} {sub : List Value} {ab : Bool} {col : Option Bool} {dd : Option Addr} {k0 k1 k2 k3 k5 : Option Value} {newId : String}
    (F : Fr h₀ L s.heap m) (X : K.In h₀) (N : News h₀ L s.heap news) (he : (e, rawExc C t d) ∈ news) (hC : K.lookup C = some (excClassObj nm q C N₁ bs bm hdct sn sub ab col dd k0 k1 k2 k3 k5 newId)) (hb : bm.contains (.type "BaseException") = true)
    (h : E (.ref e) s) : RaiseGo E (.ref e) s :=
  ⟨e, C, t, d, nm, q, N₁, bs, bm, hdct, sn, sub, ab, col, dd, k0, k1, k2, k3, k5, newId, rfl, X.keeps F.keep _ _ hC, hb, N.get he, h⟩
end

section
variable {M : Model} {A : Around} {E : Value → Shared → Prop} {s' : Shared} {base g g₂ : Heap} {outer : List Env} {L a e t d C : Addr} {m : Str → Option Value} {name : Str} {scope : Scope} {cd : Value} {Q : Unit → Shared → Prop} {news : List (Addr × Obj)} {vs : List Value}

theorem pushE {env : Env} (K : Below A base outer g) {h : Heap} (F : Fr g L h m) (hf : env.frame = some L) (hk : env.scope.kind = .function) : Below (A.deeper env) base (env :: outer) h := by
  have hnew : base.get? L = none := fresh_of_stays K.stays (kts_self F)
  refine ⟨Around.frames_deeper K.stack, fun b o e => F.keep b o (K.stays b o e), ?_⟩
  exact .cons (by rw [hk]; decide) hf F.ns hnew (K.frames.of_keeps fun b o e _ => ⟨o, F.keep b o e, rfl⟩)
theorem memE {env : Env} {b : Addr} (hf : env.frame = some L) (hm : b ∈ (env :: outer).filterMap (·.frame)) : b = L ∨ b ∈ outer.filterMap (·.frame) := by
  obtain ⟨env', he, hf'⟩ := List.mem_filterMap.mp hm
  rcases List.mem_cons.mp he with rfl | he
  · exact .inl (Option.some.inj (hf'.symm.trans hf))
  · exact .inr (List.mem_filterMap.mpr ⟨env', he, hf'⟩)
/-- an own exception leaves the frame in which it was made -/
theorem leave_raiseD {env : Env} (hf : env.frame = some L) (K : Below A base outer g) (F : Fr g L s'.heap m) (N : News g L s'.heap ((e, rawExc C t (some d)) :: (t, tupObj vs) :: news)) (hn : ∀ p ∈ news, p.1 ≠ e ∧ p.1 ≠ t)
    (hQ : ∀ h', RaisedS base g outer e (.ref C) t vs news h' → DictAt e d h' → g.UpToSlots h' → Q () { s' with heap := h' }) (hk : env.scope.kind = .function := by rfl) :
    wpAny M (A.deeper env) (leaving env (.ref e)) Q E s' := by
  have K' := pushE K F hf hk
  have he := N (e, rawExc C t (some d)) (by simp)
  have ht := N (t, tupObj vs) (by simp)
  have hfr : ∀ b ∈ (env :: outer).filterMap (·.frame), b ≠ e ∧ b ≠ t := fun b hb => by
    rcases memE hf hb with rfl | hm
    · exact ⟨fun q => he.2.1 q.symm, fun q => ht.2.1 q.symm⟩
    · obtain ⟨_, o, ho, _⟩ := K.frames.mem hm
      exact ⟨fun q => (by rw [q, he.2.2] at ho; cases ho), fun q => (by rw [q, ht.2.2] at ho; cases ho)⟩
  let fs := (env :: outer).filterMap (·.frame)
  let hid := e :: t :: fs
  have st : base.StaysIn (hideAll s'.heap hid) := fun b o q => hideAll_get _ (K'.stays b o q) fun hm => by
    rcases List.mem_cons.mp hm with rfl | hm
    · rw [fresh_of_stays K.stays he.2.2] at q; cases q
    · rcases List.mem_cons.mp hm with rfl | hm
      · rw [fresh_of_stays K.stays ht.2.2] at q; cases q
      · rw [(K'.frames.mem hm).1] at q; cases q
  have sg : ∀ b o, g.get? b = some o → b ∉ outer.filterMap (·.frame) → (hideAll s'.heap hid).get? b = some o := fun b o q nm => hideAll_get _ (F.keep b o q) fun hm => by
    rcases List.mem_cons.mp hm with rfl | hm
    · rw [he.2.2] at q; cases q
    · rcases List.mem_cons.mp hm with rfl | hm
      · rw [ht.2.2] at q; cases q
      · rcases memE hf hm with z | z
        · rw [z, kts_self F] at q
          cases q
        · exact nm z
  have hl : ∀ q ∈ news, (hideAll s'.heap hid).get? q.1 = some q.2 ∧ g.get? q.1 = none ∧ base.get? q.1 = none := fun q hq => by
    have hN := N q (by simp [hq])
    refine ⟨hideAll_get _ hN.1 fun hm => ?_, hN.2.2, fresh_of_stays K.stays hN.2.2⟩
    rcases List.mem_cons.mp hm with z | hm
    · exact (hn q hq).1 z
    · rcases List.mem_cons.mp hm with z | hm
      · exact (hn q hq).2 z
      · rcases memE hf hm with z | z
        · exact hN.2.1 z
        · obtain ⟨_, o, ho, _⟩ := K.frames.mem z
          rw [hN.2.2] at ho; cases ho
  have hFF : s'.heap.FunFrames (hideAll s'.heap hid) (env :: outer) := funFrames_hide K'.frames fun env he b hb => List.mem_cons_of_mem _ (List.mem_cons_of_mem _ (List.mem_filterMap.mpr ⟨env, he, hb⟩))
  have hen : (hideAll s'.heap hid).get? e = none := hideAll_none _ (by simp [hid])
  have htn : (hideAll s'.heap hid).get? t = none := hideAll_none _ (by simp [hid])
  refine (kd_leaving _ _).any (e := e) (d := d) ⟨_, he.1, rfl⟩ ?_
  refine wpAny_leaving_firstW (a0 := .ref t) K'.stack hFF hf he.1 (fun b o q => of_hideAll _ q) hen rfl rfl rfl fun h' hL dat => ?_
  obtain ⟨k1, ⟨_, _, k2⟩, k3, k4⟩ := hL
  exact hQ h' ⟨⟨_, st, sg, hl, ⟨k1, hen, k2, k3⟩, htn⟩, Heap.TupAt.of_slots ⟨_, _, ht.1, rfl, rfl⟩ k4⟩ dat ((Heap.UpToSlots.of_keeps F.keep).trans k4)

/-- it leaves a further frame -/
theorem leave_onD (K : Below A base outer g) (F : Fr g L g₂ m) (R : RaisedS base g₂ (envOf name scope L a cd :: outer) e (.ref C) t vs news s'.heap) (D : DictAt e d s'.heap) (hsm : g₂.UpToSlots s'.heap)
    (hQ : ∀ h', RaisedS base g outer e (.ref C) t vs news h' → DictAt e d h' → g.UpToSlots h' → Q () { s' with heap := h' }) :
    wpAny M (A.deeper (envOf name scope L a cd)) (leaving (envOf name scope L a cd) (.ref e)) Q E s' :=
  (kd_leaving _ _).any D (leave_onS K F R hsm fun h' R' _ U' D' => hQ h' R' D' U')
end
end
section -- part E7
open Sem (wp)
set_option maxHeartbeats 8000000
section
variable {prog : Program} {w : World} {A₀ : Around} {E : Value → Shared → Prop} {s' : Shared} {base g g₀ G : Heap} {outer : List Env} {L a e t d C : Addr} {m : Str → Option Value} {name : Str} {scope : Scope} {cd : Value}
  {vs : List Value} {n : Str} {b₀ : Stmt} {suite : List Stmt} {pos np : Pos} {rest : List ExceptHandler} {Q : Flow → Shared → Prop} {news : List (Addr × Obj)} {KF : Frag}
  {p : Program} {loose : List Str} {mean : ExcName → Option Value} {mg mb : Str → Option Value} {x : Str}

/-- the clause that names the class: the object is bound, its attributes are where they were -/
theorem caught_D (R : RaisedS base G (envOf name scope L a cd :: outer) e (.ref C) t vs news s'.heap) (DA : DictAt e d s'.heap) (F : Fr g L G m) (K : Below A₀ base outer g) (hsm : G.UpToSlots s'.heap) (XB : KF.In base) (TB : Top p loose mean mg mb base)
    (D : KtsDicts (outer.filterMap (·.frame)) g) (T0 : KtsTurn (outer.filterMap (·.frame)) g₀ g)
    (ex : nsIn KF mainGlobals x = some (some (.ref C))) (q : ktsIn KF C "BaseException" = true)
    (k : ∀ h' g' oe tk, KtsTurn (outer.filterMap (·.frame)) g₀ g' → Fr g' L h' (fun y => if y = n then some (.ref e) else m y) → News g' L h' ((e, oe) :: news) → oe.cls = .ref C → oe.dict = some d → notCls oe = true → Below A₀ base outer g' → KF.In g' → Top p loose mean mg mb g' → KtsDicts (outer.filterMap (·.frame)) g' →
      wpAny (model prog w) ((A₀.deeper (envOf name scope L a cd)).mark (some (.ref e))) (execs (b₀ :: suite) (envOf name scope L a cd))
        (fun f s₄ => wpAny (model prog w) (A₀.deeper (envOf name scope L a cd)) (do bindName (envOf name scope L a cd) n .none; unbindBehindTheSuite (envOf name scope L a cd) n pos) (fun _ s₅ => Q f s₅) E s₄)
        (AsSuiteRaised (model prog w) ((A₀.deeper (envOf name scope L a cd)).mark (some (.ref e))) (envOf name scope L a cd) n pos (notedBy (model prog w) ((A₀.deeper (envOf name scope L a cd)).mark (some (.ref e))) (envOf name scope L a cd) (cameBackBy (model prog w) (A₀.deeper (envOf name scope L a cd)) (envOf name scope L a cd) E)))
        { s' with heap := h', toks := tk })
    (hk : scope.kind = .function := by rfl) (hlo : (envOf name scope L a cd).kindOf n = some .local := by rfl) (hx : (envOf name scope L a cd).kindOf x = some .globalImplicit := by rfl) (hd : (x == ("__debug__" : Str)) = false := by decide) :
    wpAny (model prog w) (A₀.deeper (envOf name scope L a cd)) (noteFrame (.ref e) (envOf name scope L a cd))
      (fun _ s₂ => wpAny (model prog w) (A₀.deeper (envOf name scope L a cd)) (setFlight (.ref e) none) (fun _ s₃ =>
        wpAny (model prog w) (A₀.deeper (envOf name scope L a cd)) (handleBy (.ref e) (envOf name scope L a cd) (.ExceptHandler (some (.Name x np)) (some n) (b₀ :: suite) pos :: rest)) Q E s₃) E s₂) E s' := by
  obtain ⟨⟨B, hB, hBG, hl, hfl, hnew⟩, htup⟩ := R
  have hL : B.get? L = none := by
    obtain ⟨_, ⟨L', _, hf, hn', _⟩, _⟩ := hfl.2.2.1
    obtain rfl : L = L' := Option.some.inj hf
    exact hn'
  refine (kd_noteFrame _ _).any DA (wpAny_looks_onW (Around.frames_deeper K.stack) rfl hfl fun h₄ hheld₄ hsm₄ DA₄ => ?_)
  refine (kd_setFlight _ _).any DA₄ (wpAny_landsW hheld₄ fun h₅ hheld hsm₅' DA₅ => ?_)
  have hsm₅ := hsm₄.trans hsm₅'
  obtain ⟨g₅, T₅, F₅, K₅⟩ := kts_ground K F hBG hheld.1 (hsm.trans hsm₅)
  have X₅ : KF.In g₅ := XB.keeps K₅.stays
  have P₅ : TopRead p loose mg mb g₅ := topRead_of (TB.keeps K₅.stays)
  obtain ⟨ob, hob, hobc⟩ := hheld.there
  obtain ⟨nm, q', N, bs, bm, hdct, sn, sub, ab, col, dd, k0, k1, k2, k3, k5, newId, hC, hbase, hbT⟩ := kts_cls X₅ q
  have hC₅ := F₅.keep _ _ hC
  refine wpAny_handleBy_cons (codeAny_handlers_test (name_K F₅ X₅ P₅ ex ?_ hk hx hd)) (by intro q; cases q)
  refine wpAny_excMatches_sub_self hC₅ hob hobc hbase (codeAny_handlers_suite_as ?_)
  refine (kd_setFlight _ _).any DA₅ (lands_againW hheld fun h₆ hfl₆ hsm₆ DA₆ => ?_)
  obtain ⟨g₆, T₆, F₆, K₆⟩ := kts_ground K F hBG hfl₆.1 ((hsm.trans hsm₅).trans hsm₆)
  obtain ⟨oe, ws, hoe, hoec, hoed, hoe0⟩ := hfl₆.first
  have hdict : oe.dict = some d := by
    obtain ⟨o', ho', hd'⟩ := DA₆
    have : some oe = some o' := hoe.symm.trans ho'
    cases this
    exact hd'
  have hnc : notCls oe = true := by unfold notCls; rw [hoed]
  have ne₆ : g₆.get? e = none := T₆.none_ _ (kts_fresh F hBG hfl₆.2.1 fun o ho m => by
    obtain ⟨_, o', ho', hd⟩ := K.frames.mem m
    rw [ho] at ho'
    cases ho'
    obtain ⟨sl, hs⟩ := ((hsm.trans hsm₅).trans hsm₆) _ _ (F.keep _ _ ho) hd
    rw [hoe] at hs
    cases hs
    exact hd _ hoed)
  have N₆ := News.more F₆ News.nil hoe (fun es n q => by rw [hoed] at q; cases q) ne₆
  have Nl : News g₆ L h₆ news := fun q hq => ⟨hfl₆.1 _ _ (hl q hq).1, (fun z => by have := (hl q hq).1; rw [z, hL] at this; cases this), T₆.none_ _ (kts_none F.keep (hl q hq).2.1)⟩
  have Nw : News g₆ L h₆ ((e, oe) :: news) := fun q hq => (List.mem_cons.mp hq).elim (fun z => N₆ q (by rw [z]; exact List.mem_singleton.mpr rfl)) (Nl q)
  have X₆ : KF.In g₆ := XB.keeps K₆.stays
  have P₆ : Top p loose mean mg mb g₆ := TB.keeps K₆.stays
  have D₆ : KtsDicts (outer.filterMap (·.frame)) g₆ := D.turn T₆
  refine stN F₆ Nw (fun h₇ F₇ N₇ => ?_) hk hlo
  exact k h₇ g₆ oe _ (T0.trans T₆) F₇ N₇ hoec hdict hnc K₆ X₆ P₆ D₆
end
end
section -- part E8
open Builtin Builtin.ObjectAttr
open Sem (wp)
set_option maxHeartbeats 400000
section
variable {prog : Program} {w : World} {A : Around} {K : Frag} {E : Value → Shared → Prop} {C x : Addr} {s : Shared} {h₀ : Heap} {L : Addr} {m : Str → Option Value} {ox : Obj} {od : Option Obj} {name : Str} {v : Value}
theorem runGa {tk : Tok} {R : Result → Shared → Prop} (X : K.In s.heap) (I : InstAt s.heap x ox C od) (hf : findObj K C od name = some (.value v)) (hm : mroIn K C (.type "BaseException") = some true) (hq : R (.ok (.ret v)) s) :
    codeAny (model prog w) A (.call (.builtin "BaseException.__getattribute__") ⟨[.ref x, .str name tk], []⟩) R s := by
  have hk : builtinKind "BaseException.__getattribute__" = some .slot := by decide +kernel
  have hsplit : splitId "BaseException.__getattribute__" = some ("BaseException", "__getattribute__") := by decide +kernel
  have hplain : plainId "BaseException.__getattribute__" = true := by decide +kernel
  have L1 : Looks (model prog w) s.heap (isInstance (.ref x) (.type "BaseException")) true := I.type.andThen (looks_mroIn X hm)
  refine codeAny_call_builtin hplain F.entry_bexc_ga (@check_slot (model prog w) _ _ s "BaseException.__getattribute__" "BaseException" "__getattribute__" (.ref x) [.str name tk] [] _ hk hsplit L1 (F.args_bexc_ga (.ref x) (.str name tk)) ?_)
  unfold Builtin.«object.__getattribute__»
  have Lt := I.type (M := model prog w)
  have Lf := looks_find (M := model prog w) X I hf
  obtain ⟨hh, g, d, t, os⟩ := s
  repeat lk
  exact hq

theorem getExc {expr : Bool} {Q : Value → Shared → Prop} (F₀ : Fr h₀ L s.heap m) (X₀ : K.In h₀) (I : InstAt s.heap x ox C od) (hf : findObj K C od name = some (.value v))
    (hga : findIn K (.ref C) "__getattribute__" = some (some (.builtin "BaseException.__getattribute__"))) (hgh : findIn K (.ref C) "__getattr__" = some none) (hm : mroIn K C (.type "BaseException") = some true)
    (hv : handedIn v = true) (h : Q v { s with toks := s.toks + 1 }) : wpAny (model prog w) A (getAttr (.ref x) name expr) Q E s := by
  have X := X₀.keeps F₀.keep
  have hx0 : (expr && onTheHeap (Value.builtin "BaseException.__getattribute__")) = false := by cases expr <;> rfl
  have hx2 : (Value.builtin "BaseException.__getattribute__" == Value.builtin "object.__getattribute__") = false := by decide +kernel
  have hx1 : (onTheHeap (Value.ref C) && Value.builtin "BaseException.__getattribute__" == Value.builtin "object.__getattribute__") = false := by rw [hx2]; rfl
  unfold getAttr
  refine wpAny_bind (wpAny_mkText ?_)
  unfold getAttrBy
  refine wpAny_holding (wpAny_bind (I.type _ _ _ _ (fun _ _ e => e) (wpAny_bind (looks_findIn X hga _ _ _ _ (fun _ _ e => e) ?_))))
  dsimp only
  rw [hx1]
  simp only [Bool.false_eq_true, if_false]
  unfold getAttrByItsOwn hookBefore
  refine wpAny_bind ?_
  show wpAny _ _ (typeLookup (.ref C) "__getattr__") _ _ _
  refine looks_findIn X hgh _ _ _ _ (fun _ _ e => e) ?_
  refine wpAny_bind (wpAny_attempt (wpAny_holding ?_))
  unfold callGetattribute
  rw [hx0]
  simp only [Bool.false_eq_true, if_false]
  unfold boundAndCalled
  have hb : bindSpecial (.builtin "BaseException.__getattribute__") (.ref x) = pure (.builtin "BaseException.__getattribute__", [.ref x]) := PySem.F.attrBase_Exception.ga.bind (.ref x)
  rw [hb]
  refine wpAny_bind (wpAny_pure (wpAny_call (runGa (s := { s with toks := s.toks + 1 }) X I hf hm ?_)))
  exact handed_on hv h
end
end
section -- part E9
set_option maxHeartbeats 8000000
theorem metaExc : typeOf (.type "Exception") = pure (.type "type") := by kernel_rfl
/-- the tail of the ledger lies below -/
theorem ne_tail {news : List (Addr × Obj)} {d x : Addr} (l : ∀ p ∈ news, p.1 < d) (h : @LE.le Nat _ d x) : ∀ p ∈ news, p.1 ≠ x := fun p hp => Nat.ne_of_lt (Nat.lt_of_lt_of_le (l p hp) h)
theorem allLt_to {d : Addr} : ∀ {l : List (Addr × Obj)}, AllLt d l → ∀ p ∈ l, p.1 < d
  | [], _, _, h => nomatch h
  | q :: l, ⟨a, b⟩, p, h => by
    rcases List.mem_cons.mp h with rfl | h
    · exact a
    · exact allLt_to b p h
local macro_rules | `(tactic| k_all) => `(tactic| first | exact ne_tail (by assumption) (Nat.le_refl _) | exact ne_tail (by assumption) (by omega))

theorem newsSub {h₀ h : Heap} {L : Addr} {a b : List (Addr × Obj)} (hs : ∀ p ∈ b, p ∈ a) (N : News h₀ L h a) : News h₀ L h b := fun p hp => N p (hs p hp)
theorem subNil {a : List (Addr × Obj)} : ∀ p ∈ ([] : List (Addr × Obj)), p ∈ a := fun _ h => nomatch h
theorem subCons {p : Addr × Obj} {a b : List (Addr × Obj)} (h : p ∈ a) (r : ∀ q ∈ b, q ∈ a) : ∀ q ∈ p :: b, q ∈ a := List.forall_mem_cons.mpr ⟨h, r⟩
theorem subRefl {a : List (Addr × Obj)} : ∀ q ∈ a, q ∈ a := fun _ h => h
theorem subTail {p : Addr × Obj} {a b : List (Addr × Obj)} (r : ∀ q ∈ b, q ∈ a) : ∀ q ∈ b, q ∈ p :: a := fun q h => List.mem_cons_of_mem _ (r q h)

/-- what an own exception's attributes are -/
abbrev excDict (w : World) (msg : Str) (k0 k1 k2 k3 : Tok) : Obj := dictOf [⟨PyData.keyHash w.params "why", .str "why" k1, .str msg k0⟩, ⟨PyData.keyHash w.params "at", .str "at" k2, .int (-1) k3⟩] 2
inductive RExc (w : World) (C : Addr) (msg : Str) (news : List (Addr × Obj)) : Value → List (Addr × Obj) → Prop
  | mk {e d tt d0 : Addr} {k0 k1 k2 k3 : Tok} (l1 : @LT.lt Nat _ d0 e) (l2 : @LT.lt Nat _ e tt) (l3 : @LT.lt Nat _ tt d) (l4 : ∀ p ∈ news, p.1 < d0) :
    RExc w C msg news (.ref e) ((d, excDict w msg k0 k1 k2 k3) :: (tt, tupObj [.str msg k0]) :: (e, rawExc C tt (some d)) :: (d0, tupObj [.str msg k0]) :: news)
theorem RExc.out {w : World} {C : Addr} {msg : Str} {news : List (Addr × Obj)} {k : Value → List (Addr × Obj) → Prop} (f : ∀ e d tt d0 k0 k1 k2 k3, @LT.lt Nat _ d0 e → @LT.lt Nat _ e tt → @LT.lt Nat _ tt d → (∀ p ∈ news, p.1 < d0) → k (.ref e) ((d, excDict w msg k0 k1 k2 k3) :: (tt, tupObj [.str msg k0]) :: (e, rawExc C tt (some d)) :: (d0, tupObj [.str msg k0]) :: news)) : ∀ r n', RExc w C msg news r n' → k r n' := fun _ _ h => by
  cases h; exact f _ _ _ _ _ _ _ _ ‹_› ‹_› ‹_› ‹_›
theorem con_exc44 (w : World) (msg : Str) (t : Tok) (news : List (Addr × Obj)) :
    Con w 44 2 news [.str msg t] (fun _ => True) (RExc w 44 msg news) := by
  unfold Con
  k_fill
  intro mean mg mb dp un gd cn cs a ccd cl outer A₀ base h₀ L m s Q E B F X N T hk _ hd hu hret
  k_dflt (refine' callExcK ?k1 ?k2 ?k3 ?k4 ?cB ?cA ?cN ?k5 ?k6 ?kz ?_; (case k1 => k_asm); (case k2 => k_asm); (case k3 => k_asm); (case k4 => k_is); (case cB => decide); (case cA => decide); (case cN => decide); (case k5 => k_is); (case k6 => k_is); (case kz => size_fits); k_whole; intro x' d' h' F' N' lA l2; (try k_lt lA); (try k_lt2 l2); (try k_sweep); cell_enter)
  repeat' (first | with_reducible (k_here; (with_reducible show wpAny _ _ (setAttr (Value.ref _) _ _) _ _ _); k_dflt (apply setExc2; (case F => k_asm); (case X₀ => k_asm); (case N => k_asm); (case hx => k_mem); (case hs => k_is); (case hc => k_is); (case hh => exact rfl); (case hm => k_is); (case hr => exact refuseExc); (case ha => k_is); (case h2 => k_all); (case hl => k_get); (case e => k_put); (case hz => exact Nat.le_of_ble_eq_true rfl); k_whole); intro h' F' N'; (try k_sweep)) | with_reducible (k_here; (with_reducible show wpAny _ _ (setAttr (Value.ref _) _ _) _ _ _); k_dflt (apply setExc1; (case F => k_asm); (case X₀ => k_asm); (case N => k_asm); (case hs => k_is); (case hc => k_is); (case hh => exact rfl); (case hm => k_is); (case hr => exact fun self => by rw [show ∀ l, refuseLoop self "__setattr__" l = refuseLoop self "__setattr__" l from fun _ => rfl]; exact refuseExc self); (case ha => k_is); (case h1 => k_ne); (case h2 => k_all); k_whole); intro d' h' tk' F' N' l1; (try k_lt l1); (try k_sweep)) | with_reducible (k_here; (with_reducible show wpAny _ _ (call (Value.builtin "Exception.__init__") _) _ _ _); k_dflt (apply initExcK; (case F => k_asm); (case X₀ => k_asm); (case N => k_asm); (case hC => k_is); (case cB => decide); (case h2 => k_all); (case hrest => size_fits); k_whole); intro t' h' F' N' l1; (try k_lt l1); (try k_sweep)) | with_reducible (k_here; (with_reducible show wpAny _ _ (getMethod (Value.type "Exception") _ _) _ _ _); apply method_type; (case F => k_asm); (case X₀ => k_asm); (case ht => exact metaExc); (case e => k_dflt k_is); (case hh => k_handed); (case hs => decide +kernel)) | (k_unfold; (try dsimp only)) | (k_end; wrow_close) | walk1 | (dsimp only; walk1) | (leave1; walk_say "STEP leave1"; try dsimp only))
  exact con_ret hret _ (by k_asm) (by k_asm) (.mk (by omega) (by omega) (by omega) lA)
theorem con_exc56 (w : World) (msg : Str) (t : Tok) (news : List (Addr × Obj)) :
    Con w 56 2 news [.str msg t] (fun _ => True) (RExc w 56 msg news) := by
  unfold Con
  k_fill
  intro mean mg mb dp un gd cn cs a ccd cl outer A₀ base h₀ L m s Q E B F X N T hk _ hd hu hret
  k_dflt (refine' callExcK ?k1 ?k2 ?k3 ?k4 ?cB ?cA ?cN ?k5 ?k6 ?kz ?_; (case k1 => k_asm); (case k2 => k_asm); (case k3 => k_asm); (case k4 => k_is); (case cB => decide); (case cA => decide); (case cN => decide); (case k5 => k_is); (case k6 => k_is); (case kz => size_fits); k_whole; intro x' d' h' F' N' lA l2; (try k_lt lA); (try k_lt2 l2); (try k_sweep); cell_enter)
  repeat' (first | with_reducible (k_here; (with_reducible show wpAny _ _ (setAttr (Value.ref _) _ _) _ _ _); k_dflt (apply setExc2; (case F => k_asm); (case X₀ => k_asm); (case N => k_asm); (case hx => k_mem); (case hs => k_is); (case hc => k_is); (case hh => exact rfl); (case hm => k_is); (case hr => exact refuseExc); (case ha => k_is); (case h2 => k_all); (case hl => k_get); (case e => k_put); (case hz => exact Nat.le_of_ble_eq_true rfl); k_whole); intro h' F' N'; (try k_sweep)) | with_reducible (k_here; (with_reducible show wpAny _ _ (setAttr (Value.ref _) _ _) _ _ _); k_dflt (apply setExc1; (case F => k_asm); (case X₀ => k_asm); (case N => k_asm); (case hs => k_is); (case hc => k_is); (case hh => exact rfl); (case hm => k_is); (case hr => exact fun self => by rw [show ∀ l, refuseLoop self "__setattr__" l = refuseLoop self "__setattr__" l from fun _ => rfl]; exact refuseExc self); (case ha => k_is); (case h1 => k_ne); (case h2 => k_all); k_whole); intro d' h' tk' F' N' l1; (try k_lt l1); (try k_sweep)) | with_reducible (k_here; (with_reducible show wpAny _ _ (call (Value.builtin "Exception.__init__") _) _ _ _); k_dflt (apply initExcK; (case F => k_asm); (case X₀ => k_asm); (case N => k_asm); (case hC => k_is); (case cB => decide); (case h2 => k_all); (case hrest => size_fits); k_whole); intro t' h' F' N' l1; (try k_lt l1); (try k_sweep)) | with_reducible (k_here; (with_reducible show wpAny _ _ (getMethod (Value.type "Exception") _ _) _ _ _); apply method_type; (case F => k_asm); (case X₀ => k_asm); (case ht => exact metaExc); (case e => k_dflt k_is); (case hh => k_handed); (case hs => decide +kernel)) | (k_unfold; (try dsimp only)) | (k_end; wrow_close) | walk1 | (dsimp only; walk1) | (leave1; walk_say "STEP leave1"; try dsimp only))
  exact con_ret hret _ (by k_asm) (by k_asm) (.mk (by omega) (by omega) (by omega) lA)
end
section -- part F0
set_option maxHeartbeats 8000000
inductive RInt (P : Int → Prop) (news : List (Addr × Obj)) : Value → List (Addr × Obj) → Prop
  | mk {v : Int} {t : Tok} (h : P v) : RInt P news (.int v t) news
inductive RVal (v : Int) (news : List (Addr × Obj)) : Value → List (Addr × Obj) → Prop
  | mk {t : Tok} : RVal v news (.int v t) news
theorem RVal.of {v x : Int} {t : Tok} {news : List (Addr × Obj)} (h : x = v) : RVal v news (.int x t) news := h ▸ .mk
inductive RLst (ks : List Int) (news : List (Addr × Obj)) : Value → List (Addr × Obj) → Prop
  | mk {l : Addr} {ys : List Value} (h1 : IntsAre ys ks) (h2 : ∀ p ∈ news, p.1 ≠ l) : RLst ks news (.ref l) ((l, LCg.lst ys) :: news)
/-- an own exception with its words msg, of which P is so -/
inductive XExc (w : World) (C₀ : Addr) (P : Str → Prop) (news : List (Addr × Obj)) : Addr → Addr → List (Addr × Obj) → Prop
  | mk {d : Addr} {nx : List (Addr × Obj)} {msg : Str} {k0 k1 k2 k3 : Tok} (hs : ∀ q ∈ news, q ∈ nx) (hp : P msg) (hm : (d, excDict w msg k0 k1 k2 k3) ∈ nx) : XExc w C₀ P news C₀ d nx
/-- an own exception with the words msg -/
inductive XSay (w : World) (C₀ : Addr) (msg : Str) (P : Prop) (news : List (Addr × Obj)) : Addr → Addr → List (Addr × Obj) → Prop
  | mk {d : Addr} {nx : List (Addr × Obj)} {k0 k1 k2 k3 : Tok} (hs : ∀ q ∈ news, q ∈ nx) (hp : P) (hm : (d, excDict w msg k0 k1 k2 k3) ∈ nx) : XSay w C₀ msg P news C₀ d nx
abbrev pairObj (a b : Value) : Obj := { cls := .type "tuple", data := .seq #[a, b] }
/-- a told or due pair, new -/
inductive RDue (due : Str × List Int) (news : List (Addr × Obj)) : Value → List (Addr × Obj) → Prop
  | mk {D c : Addr} {ys : List Value} {t : Tok} {n2 : Nat} {msg : Str} {ks : List Int} (h1 : due = (msg, ks)) (h2 : IntsAre ys ks) :
    RDue due news (.ref D) ((D, pairObj (.str msg t) (.ref c)) :: (c, listOf (List.toArray ys) n2) :: news)
/-- a told or due pair somewhere in the ledger -/
inductive RIn (due : Str × List Int) (news : List (Addr × Obj)) : Value → List (Addr × Obj) → Prop
  | mk {D c : Addr} {ys : List Value} {t : Tok} {n2 : Nat} {msg : Str} {xs : List Int} {n' : List (Addr × Obj)} (hs : ∀ q ∈ news, q ∈ n') (m1 : (D, pairObj (.str msg t) (.ref c)) ∈ n') (m2 : (c, listOf (List.toArray ys) n2) ∈ n') (h1 : due = (msg, xs)) (h2 : IntsAre ys xs) :
    RIn due news (.ref D) n'
inductive ROcts (due : Str × List Int) (lim : Nat) (news : List (Addr × Obj)) : Value → List (Addr × Obj) → Prop
  | mk {b : Array UInt8} {t : Tok} {n' : List (Addr × Obj)} (hs : ∀ q ∈ news, q ∈ n') (h1 : due = (Str.ofString "", KBw.bInts b)) (h2 : b.size ≤ lim) : ROcts due lim news (.bytes b t) n'
theorem RInt.out {P : Int → Prop} {news : List (Addr × Obj)} {k : Value → List (Addr × Obj) → Prop} (f : ∀ v t, P v → k (.int v t) news) : ∀ r n', RInt P news r n' → k r n' := fun _ _ ⟨h⟩ => f _ _ h
theorem RVal.out {v : Int} {news : List (Addr × Obj)} {k : Value → List (Addr × Obj) → Prop} (f : ∀ t, k (.int v t) news) : ∀ r n', RVal v news r n' → k r n' := fun _ _ ⟨⟩ => f _
theorem RLst.out {ks : List Int} {news : List (Addr × Obj)} {k : Value → List (Addr × Obj) → Prop} (f : ∀ l ys, IntsAre ys ks → (∀ p ∈ news, p.1 ≠ l) → k (.ref l) ((l, LCg.lst ys) :: news)) : ∀ r n', RLst ks news r n' → k r n' := fun _ _ ⟨a, b⟩ => f _ _ a b
theorem XExc.out {w : World} {C₀ : Addr} {P : Str → Prop} {news : List (Addr × Obj)} {k : Addr → Addr → List (Addr × Obj) → Prop} (f : ∀ d nx msg k0 k1 k2 k3, (∀ q ∈ news, q ∈ nx) → P msg → (d, excDict w msg k0 k1 k2 k3) ∈ nx → k C₀ d nx) : ∀ C d nx, XExc w C₀ P news C d nx → k C d nx := fun _ _ _ ⟨a, b, c⟩ => f _ _ _ _ _ _ _ a b c
theorem XSay.out {w : World} {C₀ : Addr} {msg : Str} {P : Prop} {news : List (Addr × Obj)} {k : Addr → Addr → List (Addr × Obj) → Prop} (f : ∀ d nx k0 k1 k2 k3, (∀ q ∈ news, q ∈ nx) → P → (d, excDict w msg k0 k1 k2 k3) ∈ nx → k C₀ d nx) : ∀ C d nx, XSay w C₀ msg P news C d nx → k C d nx := fun _ _ _ ⟨a, b, c⟩ => f _ _ _ _ _ _ a b c
theorem RDue.out {due : Str × List Int} {news : List (Addr × Obj)} {k : Value → List (Addr × Obj) → Prop} (f : ∀ D c ys t n2 msg ks, due = (msg, ks) → IntsAre ys ks → k (.ref D) ((D, pairObj (.str msg t) (.ref c)) :: (c, listOf (List.toArray ys) n2) :: news)) : ∀ r n', RDue due news r n' → k r n' := fun _ _ ⟨a, b⟩ => f _ _ _ _ _ _ _ a b
theorem RIn.out {due : Str × List Int} {news : List (Addr × Obj)} {k : Value → List (Addr × Obj) → Prop} (f : ∀ D c ys t n2 msg xs n', (∀ q ∈ news, q ∈ n') → (D, pairObj (.str msg t) (.ref c)) ∈ n' → (c, listOf (List.toArray ys) n2) ∈ n' → due = (msg, xs) → IntsAre ys xs → k (.ref D) n') : ∀ r n', RIn due news r n' → k r n' := fun _ _ ⟨a, b, c, d, e⟩ => f _ _ _ _ _ _ _ _ a b c d e
theorem ROcts.out {due : Str × List Int} {lim : Nat} {news : List (Addr × Obj)} {k : Value → List (Addr × Obj) → Prop} (f : ∀ b t n', (∀ q ∈ news, q ∈ n') → due = (Str.ofString "", KBw.bInts b) → b.size ≤ lim → k (.bytes b t) n') : ∀ r n', ROcts due lim news r n' → k r n' := fun _ _ ⟨a, b, c⟩ => f _ _ _ a b c
/-- the frame's surroundings -/
abbrev topOf (dp un : Nat) (gd : Option (List Code)) (cn : Str) (cs : Scope) (L a : Addr) (ccd : Value) (outer : List Env) : Around := { handled := none, depth := dp, frames := some (envOf cn cs L a ccd :: outer), guards := gd, units := un }

/-- a call that gives back, or raises an own exception -/
def ConX (w : World) (f : Addr) (dep : Nat) (news : List (Addr × Obj)) (vs : List Value) (Pre : Heap → Prop) (R : Value → List (Addr × Obj) → Prop) (X : Addr → Addr → List (Addr × Obj) → Prop) : Prop :=
  ∀ (mean : ExcName → Option Value) (mg mb : Str → Option Value) (dp un : Nat) (gd : Option (List Code)) (cn : Str) (cs : Scope) (a : Addr) (ccd : Value) (outer : List Env) (A₀ : Around) (base h₀ : Heap) (L : Addr) (m : Str → Option Value) (s : Shared) (Q E : Value → Shared → Prop),
    (cB : Below A₀ base outer h₀) → (cF : Fr h₀ L s.heap m) → (cX : (hd.heap_1 w.params).In h₀) → (cN : News h₀ L s.heap news) → (cT : Top Vw (looseW Vw []) mean mg mb h₀) → (cK : cs.kind = .function) → (cP : Pre base) → (cD : dp + dep < recursionLimit) → (cU : un + 8 * dep < cLine) →
    (ret : ∀ r news', R r news' → ∀ h' tk', Fr h₀ L h' m → News h₀ L h' news' → Q r { s with heap := h', toks := tk' }) →
    (exc : ∀ C d nx, X C d nx → ∀ G e t ts h' tk', Fr h₀ L G m → RaisedS base G (envOf cn cs L a ccd :: outer) e (.ref C) t ts nx h' → DictAt e d h' → G.UpToSlots h' → E (.ref e) { s with heap := h', toks := tk' }) →
    wpAny (model PySem.Challenge.rw_pf0328_01.row.prog w) (topOf dp un gd cn cs L a ccd outer) (call (.ref f) vs) Q E s
theorem conX_exc {X : Addr → Addr → List (Addr × Obj) → Prop} {h₀ L : _} {m : Str → Option Value} {base : Heap} {envs : List Env} {s : Shared} {E : Value → Shared → Prop}
    (hexc : ∀ C d nx, X C d nx → ∀ G e t ts h' tk', Fr h₀ L G m → RaisedS base G envs e (.ref C) t ts nx h' → DictAt e d h' → G.UpToSlots h' → E (.ref e) { s with heap := h', toks := tk' })
    {C d : Addr} {nx : List (Addr × Obj)} {G : Heap} {e t : Addr} {ts : List Value} {h' : Heap} {tk' : Nat} (F : Fr h₀ L G m) (R : RaisedS base G envs e (.ref C) t ts nx h') (D : DictAt e d h') (U : G.UpToSlots h') (hX : X C d nx) : E (.ref e) { s with heap := h', toks := tk' } :=
  hexc C d nx hX G e t ts h' tk' F R D U
/-- leaving the frame where the exception was made, the ledger as a made exception leaves it -/
theorem leave_raiseE {env : Env} {M : Model} {A : Around} {E : Value → Shared → Prop} {s' : Shared} {base g : Heap} {outer : List Env} {L e t d d0 C : Addr} {m : Str → Option Value} {Q : Unit → Shared → Prop} {news : List (Addr × Obj)} {vs : List Value} {od o0 : Obj}
    (hf : env.frame = some L) (K : Below A base outer g) (F : Fr g L s'.heap m) (N : News g L s'.heap ((d, od) :: (t, tupObj vs) :: (e, rawExc C t (some d)) :: (d0, o0) :: news)) (l1 : @LT.lt Nat _ d0 e) (l2 : @LT.lt Nat _ e t) (l3 : @LT.lt Nat _ t d) (l4 : ∀ p ∈ news, p.1 < d0)
    (hQ : ∀ h', RaisedS base g outer e (.ref C) t vs ((d, od) :: news) h' → DictAt e d h' → g.UpToSlots h' → Q () { s' with heap := h' }) (hk : env.scope.kind = .function := by rfl) :
    wpAny M (A.deeper env) (leaving env (.ref e)) Q E s' := by
  refine leave_raiseD hf K F (N := newsSub (fun p hp => ?_) N) (fun p hp => ?_) hQ hk
  · simp only [List.mem_cons] at hp ⊢
    rcases hp with rfl | rfl | rfl | hp <;> simp_all
  · rcases List.mem_cons.mp hp with rfl | hp
    · exact ⟨Nat.ne_of_gt (Nat.lt_trans l2 l3), Nat.ne_of_gt l3⟩
    · have := Nat.lt_trans (l4 p hp) l1
      exact ⟨Nat.ne_of_lt this, Nat.ne_of_lt (Nat.lt_trans this l2)⟩
theorem newsDrop {h₀ h : Heap} {L : Addr} {a b : List (Addr × Obj)} (N : News h₀ L h a) (hs : ∀ p ∈ b, p ∈ a) : News h₀ L h b := fun p hp => N p (hs p hp)
theorem con_map {w : World} {f : Addr} {dep : Nat} {na nb : List (Addr × Obj)} {vs : List Value} {Pre : Heap → Prop} {R1 R2 : Value → List (Addr × Obj) → Prop} (hs : ∀ q ∈ na, q ∈ nb) (C : Con w f dep na vs Pre R1)
    (h : ∀ r n', R1 r n' → ∃ n'', R2 r n'' ∧ ∀ q ∈ n'', q ∈ n') : Con w f dep nb vs Pre R2 := by
  intro mean mg mb dp un gd cn cs a ccd cl outer A₀ base h₀ L m s Q E B F X N T hk hpre hd hu hret
  refine C mean mg mb dp un gd cn cs a ccd cl outer A₀ base h₀ L m s Q E B F X (newsDrop N hs) T hk hpre hd hu fun r n' hR h' tk' F' N' => ?_
  obtain ⟨n'', h2, h3⟩ := h r n' hR
  exact hret r n'' h2 h' tk' F' (newsDrop N' h3)
theorem allLt_ne {D : Addr} {l : List (Addr × Obj)} (h : AllLt D l) : ∀ p ∈ l, p.1 ≠ D := fun p hp => Nat.ne_of_lt (allLt_to h p hp)
end
section -- part S0
set_option maxHeartbeats 8000000

theorem mem_top {env : Env} {L b : Addr} {outer : List Env} (hf : env.frame = some L) (hm : b ∈ (env :: outer).filterMap (·.frame)) : b = L ∨ b ∈ outer.filterMap (·.frame) := by
  obtain ⟨env', he, hf'⟩ := List.mem_filterMap.mp hm
  rcases List.mem_cons.mp he with rfl | he
  · rw [hf] at hf'
    exact .inl (Option.some.inj hf').symm
  · exact .inr (List.mem_filterMap.mpr ⟨env', he, hf'⟩)
section
variable {prog : Program} {w : World} {A₀ A : Around} {s : Shared} {base h₀ g₀ : Heap} {outer : List Env} {L a : Addr} {m : Str → Option Value} {env : Env} {news : List (Addr × Obj)} {K : Frag} {p : Program} {loose : List Str} {mean : ExcName → Option Value} {mg mb : Str → Option Value}
    {R : Result → Shared → Prop} {name qual : Str} {params : Arguments} {body : List Stmt} {scope : Scope} {dV kV doc pm cdv ct oc : Value} {an od : Option Addr} {osl : Array (Option Value)} {f : Addr} {args : Args} {binds : List (Str × Value)}
/-- the ground under a call, the caller's frame of any sort -/
theorem enter_any (B : Below A₀ base outer h₀) (F : Fr h₀ L s.heap m) (N : News h₀ L s.heap news) (hA : A.frames = some (env :: outer)) (hf : env.frame = some L) (hke : env.scope.kind = .function) :
    ∃ oL es ep, (hideAll s.heap (news.map (·.1))).get? L = some oL ∧ oL.data = .dict es ep ∧ (∀ h', h'.get? L = some oL → Heap.Ns h' L m) ∧ (∀ (sl : Array (Option Value)) h', h'.get? L = some { oL with slots := sl } → Heap.Ns h' L m) ∧
      h₀.StaysIn (hideAll s.heap (news.map (·.1))) ∧ Below A base (env :: outer) (hideAll s.heap (news.map (·.1))) := by
  obtain ⟨FG, BG, st, _⟩ := groundX (R := fun _ _ => True) B F N hA hf hke
  obtain ⟨oL, es, ep, hL, hLd, hLk, hLf⟩ := FG.ns
  exact ⟨oL, es, ep, hL, hLd, fun h' e => ⟨oL, es, ep, e, hLd, hLk, hLf⟩, fun sl h' e => ⟨_, es, ep, e, hLd, hLk, hLf⟩, st, BG⟩

theorem code_defSX (B : Below A₀ base outer h₀) (F : Fr h₀ L s.heap m) (X₀ : K.In h₀) (N : News h₀ L s.heap news) (T : Top p loose mean mg mb h₀) (XB : K.In base) (TB : Top p loose mean mg mb base) (D : KtsDicts (outer.filterMap (·.frame)) h₀)
    (T0 : KtsTurn (outer.filterMap (·.frame)) g₀ h₀) (hA : A.frames = some (env :: outer)) (hf : env.frame = some L) (hke : env.scope.kind = .function)
    (ho : K.lookup f = some ⟨oc, od, .func (fnOf name qual params body scope dV kV doc pm an cdv ct), osl⟩) (hcd : codeIn K cdv qual = true) (hroom : A.depth < recursionLimit)
    (hbind : BindsTo s (fnOf name qual params body scope dV kV doc pm an cdv ct) args binds) (hloc : ∀ y ∈ binds, scope.names.lookup y.1 = some .local)
    (h : ∀ g L' h₁, Fr h₀ L g m → Fr g L' h₁ (fun y => binds.reverse.lookup y) → News g L' h₁ news → Below A base (env :: outer) g → K.In g → Top p loose mean mg mb g → KtsDicts ((env :: outer).filterMap (·.frame)) g →
      wpAny (model prog w) (A.deeper (envOf qual scope L' f cdv)) (execs body (envOf qual scope L' f cdv))
        (fun fl s' => LeaveS ((env :: outer).filterMap (·.frame)) A₀ base outer K p loose mean mg mb g₀ h₀ L m g R (match fl with | .ret v => v | _ => .none) s')
        (fun e s' => wpAny (model prog w) (A.deeper (envOf qual scope L' f cdv)) (leaving (envOf qual scope L' f cdv) e) (fun _ s'' => R (.error e) s'') (fun e' s'' => R (.error e') s'') s')
        { s with heap := h₁, toks := s.toks + binds.length })
    (hco : scope.isCoroutine = false) (hgen : scope.isGenerator = false) (hk : scope.kind = .function)
    (hcell : ∀ x ∈ scope.names, x.2 ≠ .cell) : codeAny (model prog w) A (.call (.ref f) args) R s := by
  have X := X₀.keeps F.keep
  refine codeAny_call_def (fd := fnOf name qual params body scope dV kV doc pm an cdv ct) (body := body) (binds := binds) hroom (X _ _ ho) rfl (T.nolimit.keeps F.keep) (codeRec_of X hcd) rfl hbind hcell hloc (fun h₁ hns hk₁ => ?_) hco hgen hk
  obtain ⟨oL, es, ep, hLg, hLd, hN, hNs, st, B₂⟩ := enter_any B F N hA hf hke
  refine wpAny_mono (h _ s.heap.objs.size h₁ ⟨hN _ hLg, st, F.above⟩ ⟨hns, fun b o e => hk₁ b o (of_hideAll _ e), Nat.le_of_eq (hideAll_size _ _)⟩
    (fun p hp => ⟨hk₁ _ _ (N p hp).1, Nat.ne_of_lt (Heap.lt_size (N p hp).1), hideAll_none _ (List.mem_map_of_mem hp)⟩) B₂ (X₀.keeps st) (T.keeps st) (fun b hb => by
      rcases mem_top hf hb with rfl | hb
      · exact ⟨oL, es, ep, hLg, hLd⟩
      · obtain ⟨o, es', n', ho', hd'⟩ := D b hb
        exact ⟨o, es', n', st b o ho', hd'⟩)) (fun fl s' hl => ?_) fun _ _ y => y
  have nL₀ : h₀.get? L = none := kts_self F
  rcases hl with ⟨L', m', news', F', N', k⟩ | ⟨g', L', m', news', T', F', N', k⟩
  · refine k ⟨hN _ (F'.keep _ _ hLg), fun b o e => F'.keep b o (st b o e), F.above⟩ fun p hp => ⟨(N' p hp).1, fun q => ?_, ?_⟩
    · have := (N' p hp).2.2; rw [q, hLg] at this; cases this
    · cases q : h₀.get? p.1 with
      | none => rfl
      | some o => have := (N' p hp).2.2; rw [st _ _ q] at this; cases this
  obtain ⟨sl, hs⟩ := T'.up hLg
  obtain ⟨T₁, S₁⟩ := kts_turn_at (h := s'.heap) (fs := outer.filterMap (·.frame)) (g := h₀)
    (fun b hb => by
      obtain ⟨_, o, ho', _⟩ := B.frames.mem hb
      exact ⟨o, ho'⟩)
    (fun b o e nmem => F'.keep b o (T'.other b o (st b o e) (fun q => by
      rcases mem_top hf q with z | z
      · rw [z, nL₀] at e
        cases e
      · exact nmem z)))
    (fun b o e hm => by
      obtain ⟨sl', hs'⟩ := T'.up (st b o e)
      exact ⟨sl', F'.keep _ _ hs'⟩)
  have B₃ : Below A₀ base outer (ktsHeap s'.heap (outer.filterMap (·.frame)) h₀) := ⟨B.stack, fun b o e => T₁.other b o (B.stays b o e) (fun hm => by
    rw [(B.frames.mem hm).1] at e
    cases e), B.frames.of_keeps fun b o e _ => by
    obtain ⟨sl', hs'⟩ := T₁.up e
    exact ⟨_, hs', rfl⟩⟩
  refine k _ (T0.trans T₁) ⟨hNs sl _ (F'.keep _ _ hs), S₁, by rw [T₁.size]; exact F.above⟩ (fun p hp => ⟨(N' p hp).1, fun q => ?_, ?_⟩) B₃ (XB.keeps B₃.stays) (TB.keeps B₃.stays) (D.turn T₁)
  · have := (N' p hp).2.2; rw [q, hs] at this; cases this
  · refine T₁.none_ _ ?_
    cases q : h₀.get? p.1 with
    | none => rfl
    | some o =>
      obtain ⟨sl', hs'⟩ := T'.up (st _ _ q)
      have := (N' p hp).2.2
      rw [hs'] at this
      cases this

/-- a call out of the lowest frame of a def that has cells -/
theorem code_defC0 (B : Below A₀ base [] h₀) (F : Fr h₀ L s.heap m) (X₀ : K.In h₀) (N : News h₀ L s.heap news) (T : Top p loose mean mg mb h₀) (hA : A.frames = some [env]) (hf : env.frame = some L) (hke : env.scope.kind = .function)
    (ho : K.lookup f = some ⟨oc, od, .func (fnOf name qual params body scope dV kV doc pm an cdv ct), osl⟩) (hcd : codeIn K cdv qual = true) (hroom : A.depth < recursionLimit)
    (hbind : BindsTo s (fnOf name qual params body scope dV kV doc pm an cdv ct) args binds) (hkind : (binds.all fun y => scope.names.lookup y.1 == some .local || scope.names.lookup y.1 == some .cell) = true)
    (hnd : ((cellsFrom 0 scope.names []).map (·.1)).Nodup)
    (h : ∀ g L' h₁ tk cells, Fr h₀ L g m → Fr g L' h₁ (bindL (envOfC qual scope L' f cdv).kindOf binds fun _ => none) → News g L' h₁ (cells ++ news) →
      CellsAre (bindC (envOfC qual scope L' f cdv).kindOf binds fun _ => none) (cellsFrom (L' + 1) scope.names []) cells → Below A base [env] g → K.In g → Top p loose mean mg mb g → KtsDicts ([env].filterMap (·.frame)) g → (∀ p ∈ news, p.1 < L') →
      wpAny (model prog w) (A.deeper (envOfC qual scope L' f cdv)) (execs body (envOfC qual scope L' f cdv))
        (fun fl s' => LeaveS0 ([env].filterMap (·.frame)) h₀ L m g R (match fl with | .ret v => v | _ => .none) s')
        (fun e s' => wpAny (model prog w) (A.deeper (envOfC qual scope L' f cdv)) (leaving (envOfC qual scope L' f cdv) e) (fun _ s'' => R (.error e) s'') (fun e' s'' => R (.error e') s'') s')
        { s with heap := h₁, toks := tk })
    (hco : scope.isCoroutine = false) (hgen : scope.isGenerator = false) (hk : scope.kind = .function) : codeAny (model prog w) A (.call (.ref f) args) R s := by
  have X := X₀.keeps F.keep
  obtain ⟨oL, es, ep, hLg, hLd, hN, hNs, st, B₂⟩ := enter_any B F N hA hf hke
  refine codeAny_call_function hroom (X _ _ ho) rfl hco hgen rfl (codeRec_of X hcd) (hbind _ _ _ _ ?_)
  refine wpAny_newFunctionEnv_cells hk (kindsX hkind _) fun env' he s' x => ?_
  subst he
  refine ⟨(T.nolimit.keeps F.keep).keeps x.toInCall.keep, codeAny_func ?_⟩
  obtain ⟨h₁, tk, rfl, _⟩ := x.done
  have hk₁ := x.toInCall.keep
  obtain ⟨cells, NC, Y⟩ := Cl.news (h₀ := s.heap) (Nat.le_refl _) fun n c hm => ⟨x.cell n c (lookup_of_mem_nodup (cellsFrom_names scope.names 0 (s.heap.objs.size + 1) [] [] rfl ▸ hnd) hm), x.above n c hm⟩
  refine wpAny_mono (h _ s.heap.objs.size h₁ tk cells ⟨hN _ hLg, st, F.above⟩ ⟨x.toInCall.ns, fun b o e => hk₁ b o (of_hideAll _ e), Nat.le_of_eq (hideAll_size _ _)⟩ (fun p hp => ?_) Y B₂ (X₀.keeps st) (T.keeps st) (fun b hb => by
      rcases mem_top hf hb with rfl | z
      · exact ⟨oL, es, ep, hLg, hLd⟩
      · simp at z) (fun p hp => Heap.lt_size (N p hp).1)) (fun fl s' hl => ?_) fun _ _ y => y
  · rcases List.mem_append.mp hp with hp | hp
    · refine ⟨(NC p hp).1, (NC p hp).2.1, ?_⟩
      cases q : (hideAll s.heap (news.map (·.1))).get? p.1 with
      | none => rfl
      | some o => have := of_hideAll _ q; rw [(NC p hp).2.2] at this; cases this
    · exact ⟨hk₁ _ _ (N p hp).1, Nat.ne_of_lt (Heap.lt_size (N p hp).1), hideAll_none _ (List.mem_map_of_mem hp)⟩
  · obtain ⟨g', L', m', news', T', F', N', k⟩ := hl
    have nL₀ : h₀.get? L = none := kts_self F
    obtain ⟨sl, hs⟩ := T'.up hLg
    refine k ⟨hNs sl _ (F'.keep _ _ hs), fun b o e => F'.keep b o (T'.other b o (st b o e) (fun q => by
      rcases mem_top hf q with z | z
      · rw [z, nL₀] at e
        cases e
      · simp at z)), F.above⟩ fun p hp => ⟨(N' p hp).1, fun q => ?_, ?_⟩
    · have := (N' p hp).2.2; rw [q, hs] at this; cases this
    · cases q : h₀.get? p.1 with
      | none => rfl
      | some o =>
        obtain ⟨sl', hs'⟩ := T'.up (st _ _ q)
        have := (N' p hp).2.2
        rw [hs'] at this
        cases this
end
end
section -- part S1
set_option maxHeartbeats 8000000

/-- a call out of the law's own frame, of a def that has cells and calls what catches -/
def ConR (w : World) (f : Addr) (dep : Nat) (vs : List Value) (Pre : Heap → Prop) (R : Value → Prop) : Prop :=
  ∀ (mean : ExcName → Option Value) (mg mb : Str → Option Value) (dp un : Nat) (gd : Option (List Code)) (cn : Str) (cs : Scope) (a : Addr) (ccd : Value) (A₀ : Around) (base h₀ : Heap) (L : Addr) (m : Str → Option Value) (news : List (Addr × Obj)) (s : Shared) (Q E : Value → Shared → Prop),
    Below A₀ base [] h₀ → Fr h₀ L s.heap m → (hd.heap_1 w.params).In h₀ → News h₀ L s.heap news → Top Vw (looseW Vw []) mean mg mb h₀ → (hd.heap_1 w.params).In base → Top Vw (looseW Vw []) mean mg mb base → cs.kind = .function → Pre base → dp + dep < recursionLimit → un + 8 * dep < cLine →
    (∀ r h' tk', Fr h₀ L h' m → News h₀ L h' news → R r → Q r { s with heap := h', toks := tk' }) →
    wpAny (model PySem.Challenge.rw_pf0328_01.row.prog w) (topOf dp un gd cn cs L a ccd []) (call (.ref f) vs) Q E s
theorem conR_use {w : World} {f : Addr} {dep : Nat} {vs : List Value} {Pre : Heap → Prop} {R : Value → Prop} (C : ConR w f dep vs Pre R)
    {mean : ExcName → Option Value} {mg mb : Str → Option Value} {dp un : Nat} {gd : Option (List Code)} {cn : Str} {cs : Scope} {a : Addr} {ccd : Value} {A₀ : Around} {base h₀ : Heap} {L : Addr} {m : Str → Option Value} {news : List (Addr × Obj)} {s : Shared} {Q E : Value → Shared → Prop}
    (B : Below A₀ base [] h₀) (F : Fr h₀ L s.heap m) (X₀ : (hd.heap_1 w.params).In h₀) (N : News h₀ L s.heap news) (T : Top Vw (looseW Vw []) mean mg mb h₀) (XB : (hd.heap_1 w.params).In base) (TB : Top Vw (looseW Vw []) mean mg mb base) (hk : cs.kind = .function) (P : Pre base) (hdp : dp + dep < recursionLimit) (hu : un + 8 * dep < cLine)
    (ret : ∀ r h' tk', Fr h₀ L h' m → News h₀ L h' news → R r → Q r { s with heap := h', toks := tk' }) :
    wpAny (model PySem.Challenge.rw_pf0328_01.row.prog w) (topOf dp un gd cn cs L a ccd []) (call (.ref f) vs) Q E s :=
  C mean mg mb dp un gd cn cs a ccd A₀ base h₀ L m news s Q E B F X₀ N T XB TB hk P hdp hu ret
end
section -- part K0
set_option maxHeartbeats 8000000

section
variable {prog : Program} {w : World} {A : Around} {E : Value → Shared → Prop} {s : Shared} {h₀ : Heap} {L l : Addr} {m : Str → Option Value} {news : List (Addr × Obj)} {value slice : PySem.Expr} {vs : List Value} {ns : List Int} {x y : Int} {nn : Nat} {t u : Tok} {Q : Value → Shared → Prop}
theorem cut_from (F : Fr h₀ L s.heap m) (N : News h₀ L s.heap news) (hm : (l, listOf vs.toArray nn) ∈ news) (hi : IntsAre vs ns) (h0 : 0 ≤ x) (hz : ns.length ≤ 16777216)
    (h : ∀ D ws h', Fr h₀ L h' m → News h₀ L h' ((D, listOf (List.toArray ws) 0) :: news) → (∀ p ∈ news, p.1 < D) → IntsAre ws (ns.drop x.toNat) → Q (.ref D) { s with heap := h' })
    (hs : subscripted slice false (.ref l) (.ref s.heap.objs.size) = operate [.ref s.heap.objs.size, .ref l] (getItem (.ref l) (.ref s.heap.objs.size)) := by with_unfolding_all rfl) (ht : ∀ r, letTemporaryGo value (.ref l) r = pure () := by intro _; with_unfolding_all rfl) :
    wpAny (model prog w) A (subscriptTail value slice (.ref l) (.ref s.heap.objs.size)) Q E { s with heap := s.heap.push { cls := .type "slice", data := .fields #[.int x t, .none, .none] } } :=
  kmk_slice_ints F N (N.isList hm) (.int _ _) .none hi (kmk_from hi h0) rfl (fun D ws h' F' N' l1 hi' _ _ => h D ws h' F' N' l1 hi') hs ht (kmk_sz hi (by rw [sizeLine_eq]; exact hz))
theorem cut_upto (F : Fr h₀ L s.heap m) (N : News h₀ L s.heap news) (hm : (l, listOf vs.toArray nn) ∈ news) (hi : IntsAre vs ns) (h0 : 0 ≤ y) (hz : ns.length ≤ 16777216)
    (h : ∀ D ws h', Fr h₀ L h' m → News h₀ L h' ((D, listOf (List.toArray ws) 0) :: news) → (∀ p ∈ news, p.1 < D) → IntsAre ws (ns.take y.toNat) → Q (.ref D) { s with heap := h' })
    (hs : subscripted slice false (.ref l) (.ref s.heap.objs.size) = operate [.ref s.heap.objs.size, .ref l] (getItem (.ref l) (.ref s.heap.objs.size)) := by with_unfolding_all rfl) (ht : ∀ r, letTemporaryGo value (.ref l) r = pure () := by intro _; with_unfolding_all rfl) :
    wpAny (model prog w) A (subscriptTail value slice (.ref l) (.ref s.heap.objs.size)) Q E { s with heap := s.heap.push { cls := .type "slice", data := .fields #[.none, .int y u, .none] } } :=
  kmk_slice_ints F N (N.isList hm) .none (.int _ _) hi (kmk_upto hi h0) rfl (fun D ws h' F' N' l1 hi' _ _ => h D ws h' F' N' l1 hi') hs ht (kmk_sz hi (by rw [sizeLine_eq]; exact hz))
end
end
local macro_rules | `(tactic| k_room) => `(tactic| ktr_room)
local macro_rules | `(tactic| k_all) => `(tactic| first | exact ne_tail (by assumption) (Nat.le_refl _) | exact ne_tail (by assumption) (by omega))
local macro_rules | `(tactic| walk_at "exec Assign") => `(tactic| (k_here; refine bx_assign ?_; intro Q' hQ'))
local macro_rules | `(tactic| walk_at "exec If") => `(tactic| (k_here; refine bx_if ?_; intro Q' hQ'))
local macro_rules | `(tactic| walk_at "exec Return some") => `(tactic| (k_here; refine bx_return ?_; intro Q' hQ'))
local macro_rules | `(tactic| walk_at "Bx") => `(tactic| (k_here; first | ((rename BxH _ _ => hB); k_dflt (apply hB); dsimp only; (try with_reducible show @ite _ _ _ _ _)) | (refine' bx_go ?h ?_; (case h => assumption); (try with_reducible show @ite _ _ _ _ _))))
local macro_rules | `(tactic| kbu_src) => `(tactic| first | with_reducible assumption | (with_reducible (repeat (first | exact List.mem_cons_self | assumption | refine List.mem_cons_of_mem _ ?_)); done))
section -- part F1
set_option maxHeartbeats 8000000


/-- the octets of a number, most significant first -/
def rowOf (x : Int) (n : Nat) : List Int := (List.range n).map fun k => x / 256 ^ (n - 1 - k) % 256
theorem mem_rowOf {x : Int} {n : Nat} {y : Int} (h : y ∈ rowOf x n) : 0 ≤ y ∧ y < 256 := by
  obtain ⟨k, _, rfl⟩ := List.mem_map.mp h
  exact ⟨Int.emod_nonneg _ (by decide), Int.emod_lt_of_pos _ (by decide)⟩
theorem rowOf_length (x : Int) (n : Nat) : (rowOf x n).length = n := by simp [rowOf]
theorem rowOf_walk (x : Int) (z : Nat) : List.map (fun k' => Builtin.bitAnd (x.fdiv (2 ^ (8 * ((z : Int) - 1 - k')).toNat)) 255) (rangeKs 0 ((z : Int) - 0).toNat) = rowOf x z := by
  unfold rowOf rangeKs
  rw [List.map_map, show ((z : Int) - 0).toNat = z by omega]
  refine List.map_congr_left fun k hk => ?_
  have hk' := List.mem_range.mp hk
  simp only [Function.comp]
  rw [bitAnd_m8, Int.fdiv_eq_ediv_of_nonneg _ (Int.le_of_lt (Int.pow_pos (by decide)))]
  rw [show (8 * ((z : Int) - 1 - (0 + (k : Int)))).toNat = 8 * (z - 1 - k) by omega, Int.pow_mul]
  rfl
theorem fits_walk {x : Int} {z : Nat} (h0 : ¬ x < 0) : x.fdiv (2 ^ (8 * (z : Int)).toNat) = 0 ↔ x < 256 ^ z := by
  have hp : (0 : Int) < 256 ^ z := Int.pow_pos (by decide)
  rw [show (8 * (z : Int)).toNat = 8 * z by omega, Int.pow_mul, show ((2 : Int) ^ 8) = 256 by decide, Int.fdiv_eq_ediv_of_nonneg _ (Int.le_of_lt hp)]
  constructor
  · intro h
    have := Int.emod_lt_of_pos x hp
    have e := Int.emod_add_mul_ediv x (256 ^ z)
    rw [h, Int.mul_zero, Int.add_zero] at e
    omega
  · intro h
    exact Int.ediv_eq_zero_of_lt (by omega) h
theorem bytesMade {prog : Program} {w : World} {A : Around} {E : Value → Shared → Prop} {s : Shared} {h₀ : Heap} {L l : Addr} {m : Str → Option Value} {news : List (Addr × Obj)} {ys : List Value} {ns : List Int} {Q : Value → Shared → Prop}
    (F : Fr h₀ L s.heap m) (N : News h₀ L s.heap news) (hm : (l, LCg.lst ys) ∈ news) (hi : IntsAre ys ns) (hr : ∀ n ∈ ns, 0 ≤ n ∧ n < 256) (hz : ns.length ≤ 1000) (hh : A.handled = none)
    (h : ∀ h' t k, Fr h₀ L h' m → News h₀ L h' news → Q (.bytes (byteArr ns) t) { s with heap := h', toks := k }) : wpAny (model prog w) A (call (.type "bytes") [.ref l]) Q E s :=
  call_bytes_ints ⟨_, N.get hm, rfl, _, rfl⟩ hi hr (by rw [hi.length, sizeLine_eq]; omega) hh fun h' t k hk => h h' t k (F.keeps hk) (N.grown hk)
theorem con_octets (w : World) (x : Int) (z : Nat) (t u : Tok) (news : List (Addr × Obj)) :
    ConX w 70 4 news [.int x t, .int z u] (fun _ => 1 ≤ z ∧ z ≤ 8) (fun r n' => n' = news ∧ 0 ≤ x ∧ x < 256 ^ z ∧ ∃ t, r = .bytes (byteArr (rowOf x z)) t)
      (fun C d nx => C = 44 ∧ ¬ (0 ≤ x ∧ x < 256 ^ z) ∧ (∀ q ∈ news, q ∈ nx) ∧ ∃ k0 k1 k2 k3, (d, excDict w (Str.ofString "the number does not fit its octets") k0 k1 k2 k3) ∈ nx) := by
  unfold ConX
  k_fill
  intro mean mg mb dp un gd cn cs a ccd outer A₀ base h₀ L m s Q E B F X N T hk ⟨hz1, hz2⟩ hd hu hret hexc
  refine wpAny_call ?_
  k_dflt (first | cell_enter | (refine' code_defC ?k1 ?k2 ?k3 ?k4 ?k5 ?kA ?kF ?kK ?k6 ?k7 ?k8 ?k9 ?kB ?kD ?_ ?c2 ?c3 ?c4; (case kA => exact rfl); (case kF => exact rfl); (case kK => assumption); (case k1 => k_asm); (case k2 => k_asm); (case k3 => k_asm); (case k4 => k_asm); (case k5 => k_asm); (case k6 => k_is); (case k7 => k_is); (case k8 => ktr_room); (case k9 => exact BindsTo.of_eq rfl); (case kB => exact rfl); (case kD => decide +kernel); (case c2 => exact rfl); (case c3 => exact rfl); (case c4 => exact rfl); k_whole; intro g' L' h' tk' cells' FG' F' N' Y' B' X' T' l1; (try k_lt l1); k_cells Y'; (try simp only [List.cons_append, List.nil_append] at N'); (try dsimp only); (try k_lift B'); (try k_fold)))
  repeat' (first | with_reducible (k_here; (with_reducible show wpAny _ _ (call (Value.type "bytes") [Value.ref _]) _ _ _); k_dflt (apply bytesMade; (case F => k_asm); (case N => k_asm); (case hm => k_mem); (case hi => assumption); (case hr => first | assumption | (rw [rowOf_walk]; exact fun _ hn => mem_rowOf hn)); (case hz => (simp only [List.length_map, rangeKs_length]; omega)); (case hh => exact rfl); k_whole); intro h' t' k' F' N'; (try k_sweep)) | with_reducible (k_here; (with_reducible show wpAny _ _ (call (Value.ref _) _) _ _ _); k_dflt ((first | ((with_reducible show wpAny _ _ (call (Value.ref 44) _) _ _ _); apply con_exc44) | ((with_reducible show wpAny _ _ (call (Value.ref 56) _) _ _ _); apply con_exc56)); ((case cN => k_asm); (case cF => k_asm); (case cB => k_asm); (case cX => k_asm); (case cT => k_asm); (try ((case cXB => assumption); (case cTB => assumption); (case cKD => assumption); (case cT0 => first | assumption | exact KtsTurn.refl))); (case cK => first | exact rfl | assumption); (try case hm => (first | kbu_src | k_mem)); (try case hx => (first | kbu_src | k_mem)); (try case hxd => (first | kbu_src | k_mem)); (try case hi => with_reducible assumption); (try case ho => (with_reducible assumption)); (try case hdat => (first | with_reducible assumption | (refine DatAll.mono ?_ (by with_reducible assumption); (repeat' (first | with_reducible exact subRefl | with_reducible exact subNil | with_reducible assumption | (refine subCons ?_ ?_; focus kbu_src) | refine subTail ?_))))); (try case hz => (first | omega | exact ⟨by omega, by omega⟩)); (case cP => (first | trivial | decide | omega | exact ⟨by decide, by decide⟩ | exact ⟨by with_reducible assumption, by with_reducible assumption, by omega, by omega⟩)); (case cD => ktr_room); (case cU => ktr_units)); ((first | refine RExc.out ?_ | refine RInt.out ?_ | refine RVal.out ?_ | refine RLst.out ?_ | refine ROcts.out ?_); intros; (try dsimp only); (try k_sweep)))) | with_reducible (k_here; (with_reducible show wpAny _ _ (leaving _ (Value.ref _)) _ _ _); k_dflt (apply leave_raiseE; (case hf => exact rfl); (case F => k_asm); (case N => k_asm); (case K => k_asm); (case l1 => (show @LT.lt Nat _ _ _; omega)); (case l2 => (show @LT.lt Nat _ _ _; omega)); (case l3 => (show @LT.lt Nat _ _ _; omega)); (case l4 => assumption); (try case hk => with_unfolding_all rfl); k_whole); intro h' R' D' U'; (try dsimp only at R' U' ⊢)) | with_reducible (k_here; (with_reducible show RaiseGo _ _ _); k_dflt (apply raiseGo_; (case F => k_asm); (case X => k_asm); (case N => k_asm); (case he => k_mem); (case hC => k_is); (case hb => decide); k_whole)) | with_reducible (k_here; (with_reducible show wpAny _ _ (exec (Stmt.Raise (some (Expr.Call (Expr.Name _ _) (_ :: _) [] _)) none _) _) _ _ _); k_dflt (apply Raise_exc; (case hh => first | exact rfl | assumption))) | (k_unfold; (try dsimp only)) | (k_end; wrow_close) | walk1 | (dsimp only; walk1) | (leave1; walk_say "STEP leave1"; try dsimp only))
  · exact conX_exc hexc (by assumption) (by assumption) (by assumption) (by assumption) ⟨rfl, fun q => by omega, by (repeat' (first | with_reducible exact subRefl | with_reducible exact subNil | with_reducible assumption | (refine subCons ?_ ?_; focus kbu_src) | refine subTail ?_)), _, _, _, _, by k_mem⟩
  · exact conX_exc hexc (by assumption) (by assumption) (by assumption) (by assumption) ⟨rfl, fun q => absurd ((fits_walk (by assumption)).mpr q.2) (by assumption), by (repeat' (first | with_reducible exact subRefl | with_reducible exact subNil | with_reducible assumption | (refine subCons ?_ ?_; focus kbu_src) | refine subTail ?_)), _, _, _, _, by k_mem⟩
  · rw [rowOf_walk]
    exact con_ret hret news (by k_asm) (newsDrop (by k_asm) (by (repeat' (first | with_reducible exact subRefl | with_reducible exact subNil | with_reducible assumption | (refine subCons ?_ ?_; focus kbu_src) | refine subTail ?_)))) ⟨rfl, by omega, (fits_walk (by assumption)).mp (by assumption), _, rfl⟩
end
section -- part F2
set_option maxHeartbeats 8000000


/-- the number that octets make, most significant first -/
def wholeOf (l : List Int) : Int := l.foldl (fun n o => n * 256 + o) 0
theorem wholeOf_snoc (l : List Int) (o : Int) : wholeOf (l ++ [o]) = wholeOf l * 256 + o := by simp [wholeOf]
def Octs (l : List Int) : Prop := ∀ o ∈ l, 0 ≤ o ∧ o < 256
theorem or_octet {n o : Int} (hn : 0 ≤ n) (h0 : 0 ≤ o) (h1 : o < 256) : Builtin.bitOr (n * 2 ^ (8 : Int).toNat) o = n * 256 + o := by
  have e : ∀ a : Nat, (a * 256) &&& o.toNat = 0 := fun a => by
    have ho : o.toNat < 2 ^ 8 := by omega
    rw [show a * 256 = 2 ^ 8 * a by omega]
    apply Nat.eq_of_testBit_eq
    intro i
    rw [Nat.testBit_and, Nat.zero_testBit, Nat.testBit_two_pow_mul]
    by_cases hi : 8 ≤ i
    · rw [Nat.testBit_lt_two_pow (Nat.lt_of_lt_of_le ho (Nat.pow_le_pow_right (by decide) hi)), Bool.and_false]
    · simp [hi]
  rw [bitOr_and, show (2 : Int) ^ (8 : Int).toNat = 256 from by decide]
  have : Builtin.bitAnd (n * 256) o = 0 := by
    show Spec.bitAnd (n * 256) o = 0
    unfold Spec.bitAnd
    rw [decide_eq_true (show 0 ≤ n * 256 by omega), decide_eq_true h0]
    show (((n * 256).toNat &&& o.toNat : Nat) : Int) = 0
    rw [show (n * 256).toNat = n.toNat * 256 by omega, e]
    rfl
  rw [this]
  omega
theorem pow256_le {a b : Nat} (h : a ≤ b) : (256 : Int) ^ a ≤ 256 ^ b := by
  have := Nat.pow_le_pow_right (n := 256) (by decide) h
  exact_mod_cast this
theorem whole_turn {pre : List Int} {n o : Int} {len : Nat} (h1 : n = wholeOf pre) (h2 : 0 ≤ n) (h3 : n < 256 ^ pre.length) (hl : pre.length < len) (hlen : len ≤ 8) (h0 : 0 ≤ o) (ho : o < 256) :
    Builtin.bitOr (n * 2 ^ (8 : Int).toNat) o = wholeOf (pre ++ [o]) ∧ 0 ≤ Builtin.bitOr (n * 2 ^ (8 : Int).toNat) o ∧ Builtin.bitOr (n * 2 ^ (8 : Int).toNat) o < 256 ^ (pre ++ [o]).length ∧ ((pre ++ [o]).length ≤ 7 → Builtin.bitOr (n * 2 ^ (8 : Int).toNat) o < 72057594037927936) := by
  rw [or_octet h2 h0 ho, wholeOf_snoc, ← h1, List.length_append, List.length_singleton, Int.pow_succ]
  refine ⟨rfl, by omega, by omega, fun hp => ?_⟩
  have : (256 : Int) ^ pre.length ≤ 256 ^ 6 := by
    have hp' : pre.length ≤ 6 := by omega
    exact pow256_le hp'
  have e : (256 : Int) ^ 6 = 281474976710656 := by decide
  omega
section
theorem con_number (w : World) (b : Array UInt8) (ks : List Int) (t : Tok) (news : List (Addr × Obj)) :
    Con w 65 1 news [.bytes b t] (fun _ => KBw.bInts b = ks ∧ ks.length ≤ 8) (RVal (wholeOf ks) news) := by
  unfold Con
  k_fill
  k_with "pyIter bytes" => skip
  k_with "state" => exact whole_turn (by assumption) (by assumption) (by assumption) (by assumption) (by assumption) (by assumption) (by assumption)
  intro mean mg mb dp un gd cn cs a ccd cl outer A₀ base h₀ L m s Q E B F X N T hk ⟨hks, hlen⟩ hd hu hret
  refine wpAny_call ?_
  k_dflt (first | cell_enter | (refine' code_defC ?k1 ?k2 ?k3 ?k4 ?k5 ?kA ?kF ?kK ?k6 ?k7 ?k8 ?k9 ?kB ?kD ?_ ?c2 ?c3 ?c4; (case kA => exact rfl); (case kF => exact rfl); (case kK => assumption); (case k1 => k_asm); (case k2 => k_asm); (case k3 => k_asm); (case k4 => k_asm); (case k5 => k_asm); (case k6 => k_is); (case k7 => k_is); (case k8 => ktr_room); (case k9 => exact BindsTo.of_eq rfl); (case kB => exact rfl); (case kD => decide +kernel); (case c2 => exact rfl); (case c3 => exact rfl); (case c4 => exact rfl); k_whole; intro g' L' h' tk' cells' FG' F' N' Y' B' X' T' l1; (try k_lt l1); k_cells Y'; (try simp only [List.cons_append, List.nil_append] at N'); (try dsimp only); (try k_lift B'); (try k_fold)))
  repeat' (first | with_reducible (k_here; k_dflt (k_state (fun pre n => n = wholeOf pre ∧ 0 ≤ n ∧ n < 256 ^ pre.length ∧ (pre.length ≤ 7 → n < 72057594037927936)) "number")) | (k_unfold; (try dsimp only)) | (k_end; wrow_close) | walk1 | (dsimp only; walk1) | (leave1; walk_say "STEP leave1"; try dsimp only))
  all_goals (subst_vars; exact con_ret hret news (by k_asm) (newsDrop (by k_asm) (by (repeat' (first | with_reducible exact subRefl | with_reducible exact subNil | with_reducible assumption | (refine subCons ?_ ?_; focus kbu_src) | refine subTail ?_)))) .mk)
end
end
section -- part F3
set_option maxHeartbeats 8000000


theorem octs_snoc {l : List Int} {o : Int} (h : Octs (l ++ [o])) : 0 ≤ o ∧ o < 256 := h o (by simp)
theorem wholeOf_lt : ∀ (l : List Int), Octs l → 0 ≤ wholeOf l ∧ wholeOf l < 256 ^ l.length := by
  intro l
  have H : ∀ (l : List Int) (a : Int) (k : Nat), Octs l → 0 ≤ a → a < 256 ^ k → 0 ≤ l.foldl (fun n o => n * 256 + o) a ∧ l.foldl (fun n o => n * 256 + o) a < 256 ^ (k + l.length) := by
    intro l
    induction l with
    | nil => intro a k _ h0 h1; exact ⟨h0, h1⟩
    | cons o l ih =>
      intro a k h h0 h1
      have ho := h o (.head _)
      have q := ih (a * 256 + o) (k + 1) (fun x hx => h x (.tail _ hx)) (by omega) (by rw [Int.pow_succ]; omega)
      rw [List.foldl_cons, List.length_cons, show k + (l.length + 1) = k + 1 + l.length by omega]
      exact q
  intro h
  have q := H l 0 0 h (by decide) (by decide)
  rwa [Nat.zero_add] at q
theorem whole_fold (ks : List Int) : (List.foldl (fun (σ : Int × Unit) n => (256 * σ.fst + n, ())) (0, ()) ks).fst = wholeOf ks := by
  have H : ∀ (l : List Int) (a : Int), (List.foldl (fun (σ : Int × Unit) n => (256 * σ.fst + n, ())) (a, ()) l).fst = l.foldl (fun n o => n * 256 + o) a := by
    intro l
    induction l with
    | nil => intro a; rfl
    | cons o l ih => intro a; rw [List.foldl_cons, List.foldl_cons, ih, show 256 * a + o = a * 256 + o by omega]
  exact H ks 0
section
theorem con_whole0 (w : World) (l : Addr) (vs : List Value) (nn : Nat) (ks : List Int) (news : List (Addr × Obj)) (hi : IntsAre vs ks) (ho : Octs ks) (hlen : ks.length ≤ 100) :
    Con w 194 1 ((l, listOf vs.toArray nn) :: news) [.ref l] (fun _ => True) (RVal (wholeOf ks) ((l, listOf vs.toArray nn) :: news)) := by
  unfold Con
  k_fill
  intro mean mg mb dp un gd cn cs a ccd cl outer A₀ base h₀ L m s Q E B F X N T hk hpre hd hu hret
  refine wpAny_call ?_
  k_dflt (first | cell_enter | (refine' code_defC ?k1 ?k2 ?k3 ?k4 ?k5 ?kA ?kF ?kK ?k6 ?k7 ?k8 ?k9 ?kB ?kD ?_ ?c2 ?c3 ?c4; (case kA => exact rfl); (case kF => exact rfl); (case kK => assumption); (case k1 => k_asm); (case k2 => k_asm); (case k3 => k_asm); (case k4 => k_asm); (case k5 => k_asm); (case k6 => k_is); (case k7 => k_is); (case k8 => ktr_room); (case k9 => exact BindsTo.of_eq rfl); (case kB => exact rfl); (case kD => decide +kernel); (case c2 => exact rfl); (case c3 => exact rfl); (case c4 => exact rfl); k_whole; intro g' L' h' tk' cells' FG' F' N' Y' B' X' T' l1; (try k_lt l1); k_cells Y'; (try simp only [List.cons_append, List.nil_append] at N'); (try dsimp only); (try k_lift B'); (try k_fold)))
  repeat' (first | (k_unfold; (try dsimp only)) | (k_end; wrow_close) | walk1 | (dsimp only; walk1) | (leave1; walk_say "STEP leave1"; try dsimp only))
  refine con_ret hret _ (by k_asm) (newsDrop (by k_asm) subRefl) (RVal.of (whole_fold ks))
end
theorem con_whole (w : World) (l : Addr) (vs : List Value) (nn : Nat) (ks : List Int) (news : List (Addr × Obj)) (hm : (l, listOf vs.toArray nn) ∈ news) (hi : IntsAre vs ks) (ho : Octs ks) (hz : ks.length ≤ 100) :
    Con w 194 1 news [.ref l] (fun _ => True) (RVal (wholeOf ks) news) :=
  con_map (subCons hm subRefl) (con_whole0 w l vs nn ks news hi ho hz) fun r n' h => by cases h; exact ⟨news, .mk, subTail subRefl⟩
theorem pow_py {x : Int} {e : Nat} (h : e ≤ 100) : Builtin.divisionGoesByPylong x (256 ^ e) = false := by
  refine PyProof.noPylong_of_log2 ?_
  have h1 : ((256 : Int) ^ e).natAbs = 256 ^ e := by rw [Int.natAbs_pow]; rfl
  rw [h1]
  have h2 : (256 : Nat) ^ e ≠ 0 := Nat.ne_of_gt (Nat.pow_pos (by decide))
  refine (Nat.log2_lt h2).mpr ?_
  have h3 : (256 : Nat) ^ e = 2 ^ (8 * e) := by rw [Nat.pow_mul]
  rw [h3]
  exact Nat.pow_lt_pow_right (by decide) (by omega)
theorem off1_all {D : Addr} : ∀ {l : List (Addr × Obj)}, LCg.Off1 D l → ∀ p ∈ l, p.1 ≠ D
  | [], _, _, h => nomatch h
  | q :: l, ⟨a, b⟩, p, h => by
    rcases List.mem_cons.mp h with rfl | h
    · exact a
    · exact off1_all b p h
theorem off1_ne {D : Addr} {l : List (Addr × Obj)} {A B : Prop} (h : A ∧ B ∧ LCg.Off1 D l) : ∀ p ∈ l, p.1 ≠ D := off1_all h.2.2
theorem row_walk (x : Int) (z : Nat) : List.map (fun k' => (x.fdiv (256 ^ ((z : Int) - 1 - k').toNat)).fmod 256) (rangeKs 0 ((z : Int) - 0).toNat) = rowOf x z := by
  unfold rowOf rangeKs
  rw [List.map_map, show ((z : Int) - 0).toNat = z by omega]
  refine List.map_congr_left fun k hk => ?_
  have hk' := List.mem_range.mp hk
  simp only [Function.comp]
  rw [Int.fdiv_eq_ediv_of_nonneg _ (Int.le_of_lt (Int.pow_pos (by decide))), Int.fmod_eq_emod_of_nonneg _ (by decide)]
  rw [show ((z : Int) - 1 - (0 + (k : Int))).toNat = z - 1 - k by omega]
section
theorem con_row (w : World) (x : Int) (z : Nat) (t u : Tok) (hz : z ≤ 100) (news : List (Addr × Obj)) :
    Con w 187 1 news [.int x t, .int z u] (fun _ => True) (RLst (rowOf x z) news) := by
  unfold Con
  k_fill
  intro mean mg mb dp un gd cn cs a ccd cl outer A₀ base h₀ L m s Q E B F X N T hk hpre hd hu hret
  refine wpAny_call ?_
  k_dflt (first | cell_enter | (refine' code_defC ?k1 ?k2 ?k3 ?k4 ?k5 ?kA ?kF ?kK ?k6 ?k7 ?k8 ?k9 ?kB ?kD ?_ ?c2 ?c3 ?c4; (case kA => exact rfl); (case kF => exact rfl); (case kK => assumption); (case k1 => k_asm); (case k2 => k_asm); (case k3 => k_asm); (case k4 => k_asm); (case k5 => k_asm); (case k6 => k_is); (case k7 => k_is); (case k8 => ktr_room); (case k9 => exact BindsTo.of_eq rfl); (case kB => exact rfl); (case kD => decide +kernel); (case c2 => exact rfl); (case c3 => exact rfl); (case c4 => exact rfl); k_whole; intro g' L' h' tk' cells' FG' F' N' Y' B' X' T' l1; (try k_lt l1); k_cells Y'; (try simp only [List.cons_append, List.nil_append] at N'); (try dsimp only); (try k_lift B'); (try k_fold)))
  repeat' (first | with_reducible (k_here; (with_reducible show wpAny _ _ (binaryOp Operator.FloorDiv (Value.int _ _) (Value.int _ _)) _ _ _); k_dflt (apply floordiv_int; (case hb => exact Int.ne_of_gt (Int.pow_pos (by decide))); (case hp => exact Or.inl (pow_py (by omega))))) | (k_unfold; (try dsimp only)) | (k_end; wrow_close) | walk1 | (dsimp only; walk1) | (leave1; walk_say "STEP leave1"; try dsimp only))
  · refine' con_ret hret _ ?F ?N (.mk ?c ?d)
    (case F => k_asm)
    (case N => refine' newsDrop ?N1 ?N2; (case N1 => k_asm); (repeat' (first | with_reducible exact subRefl | with_reducible exact subNil | with_reducible assumption | (refine subCons ?_ ?_; focus kbu_src) | refine subTail ?_)))
    (case c => rw [← row_walk]; with_reducible assumption)
    (case d => exact off1_ne (by with_reducible assumption))
end
end
section -- part F4
set_option maxHeartbeats 8000000



theorem getD_all {P : Int → Prop} {d : Int} (hd : P d) : ∀ {l : List Int}, (∀ x ∈ l, P x) → ∀ i, P (l.getD i d)
  | [], _, _ => hd
  | x :: l, h, 0 => h x (.head _)
  | x :: l, h, i + 1 => by
    show P (l.getD i d)
    exact getD_all hd (fun y hy => h y (.tail _ hy)) i
theorem fmod_in (a : Int) {n : Int} (h : 0 < n) : 0 ≤ a.fmod n ∧ a.fmod n < n := ⟨Int.fmod_nonneg_of_pos _ h, Int.fmod_lt_of_pos _ h⟩
theorem con_digit (w : World) (news : List (Addr × Obj)) (l : Addr) (vs : List Value) (ns : List Int) (i : Int) (t : Tok) :
    Con w 154 1 news [.ref l, .int i t] (fun b => b.IsList l vs.toArray ∧ IntsAre vs ns ∧ ns.length < 2 ^ 62 ∧ 0 ≤ i) (RVal (ns.getD i.toNat 0) news) := by
  unfold Con
  k_fill
  intro mean mg mb dp un gd cn cs a ccd cl outer A₀ base h₀ L m s Q E B F X N T hk ⟨hl, hi, hfit, h0⟩ hd hu hret
  refine wpAny_call ?_
  k_dflt (first | cell_enter | (refine' code_defC ?k1 ?k2 ?k3 ?k4 ?k5 ?kA ?kF ?kK ?k6 ?k7 ?k8 ?k9 ?kB ?kD ?_ ?c2 ?c3 ?c4; (case kA => exact rfl); (case kF => exact rfl); (case kK => assumption); (case k1 => k_asm); (case k2 => k_asm); (case k3 => k_asm); (case k4 => k_asm); (case k5 => k_asm); (case k6 => k_is); (case k7 => k_is); (case k8 => ktr_room); (case k9 => exact BindsTo.of_eq rfl); (case kB => exact rfl); (case kD => decide +kernel); (case c2 => exact rfl); (case c3 => exact rfl); (case c4 => exact rfl); k_whole; intro g' L' h' tk' cells' FG' F' N' Y' B' X' T' l1; (try k_lt l1); k_cells Y'; (try simp only [List.cons_append, List.nil_append] at N'); (try dsimp only); (try k_lift B'); (try k_fold)))
  repeat' (first | (k_unfold; (try dsimp only)) | (k_end; wrow_close) | walk1 | (dsimp only; walk1) | (leave1; walk_say "STEP leave1"; try dsimp only))
  · exact con_ret hret news (by k_asm) (newsDrop (by k_asm) (by (repeat' (first | with_reducible exact subRefl | with_reducible exact subNil | with_reducible assumption | (refine subCons ?_ ?_; focus (first | with_reducible assumption | (with_reducible (repeat (first | exact List.mem_cons_self | assumption | refine List.mem_cons_of_mem _ ?_)); done))) | refine subTail ?_)))) (RVal.of rfl)
  · refine con_ret hret news (by k_asm) (newsDrop (by k_asm) (by (repeat' (first | with_reducible exact subRefl | with_reducible exact subNil | with_reducible assumption | (refine subCons ?_ ?_; focus (first | with_reducible assumption | (with_reducible (repeat (first | exact List.mem_cons_self | assumption | refine List.mem_cons_of_mem _ ?_)); done))) | refine subTail ?_)))) (RVal.of ?_)
    have h9 : ns.length ≤ i.toNat := by omega
    rw [List.getD_eq_getElem?_getD, List.getElem?_eq_none h9]
    rfl
theorem con_drawn (w : World) (news : List (Addr × Obj)) (x y z : Int) (t u v : Tok) (hz : (z = 48 ∨ z = 32) ∧ 0 ≤ y ∧ y < 2 ^ 48) :
    Con w 161 1 news [.int x t, .int y u, .int z v] (fun _ => True) (RInt (fun v => -1 ≤ v ∧ v ≤ 2 ^ 48) news) := by
  obtain ⟨hz, hy⟩ := hz
  unfold Con
  k_fill
  intro mean mg mb dp un gd cn cs a ccd cl outer A₀ base h₀ L m s Q E B F X N T hk hpre hd hu hret
  refine wpAny_call ?_
  k_dflt (first | cell_enter | (refine' code_defC ?k1 ?k2 ?k3 ?k4 ?k5 ?kA ?kF ?kK ?k6 ?k7 ?k8 ?k9 ?kB ?kD ?_ ?c2 ?c3 ?c4; (case kA => exact rfl); (case kF => exact rfl); (case kK => assumption); (case k1 => k_asm); (case k2 => k_asm); (case k3 => k_asm); (case k4 => k_asm); (case k5 => k_asm); (case k6 => k_is); (case k7 => k_is); (case k8 => ktr_room); (case k9 => exact BindsTo.of_eq rfl); (case kB => exact rfl); (case kD => decide +kernel); (case c2 => exact rfl); (case c3 => exact rfl); (case c4 => exact rfl); k_whole; intro g' L' h' tk' cells' FG' F' N' Y' B' X' T' l1; (try k_lt l1); k_cells Y'; (try simp only [List.cons_append, List.nil_append] at N'); (try dsimp only); (try k_lift B'); (try k_fold)))
  repeat' (first | with_reducible (k_here; (with_reducible show wpAny _ _ (subscriptTail (Expr.List _ _) _ (Value.ref _) (Value.int _ _)) _ _ _); (with_unfolding_all apply item_anyK; (case hl => is_list); (case hi => l_ints); (case h0 => l_idx); (case h1 => l_idx); (case hfit => l_idx); (case hs => with_unfolding_all rfl); k_whole); intro _) | (k_unfold; (try dsimp only)) | (k_end; wrow_close) | walk1 | (dsimp only; walk1) | (leave1; walk_say "STEP leave1"; try dsimp only))
  · refine con_ret hret news (by k_asm) (newsDrop (by k_asm) (by (repeat' (first | with_reducible exact subRefl | with_reducible exact subNil | with_reducible assumption | (refine subCons ?_ ?_; focus (first | with_reducible assumption | (with_reducible (repeat (first | exact List.mem_cons_self | assumption | refine List.mem_cons_of_mem _ ?_)); done))) | refine subTail ?_)))) (.mk ?_)
    rcases hz with rfl | rfl <;> exact getD_all (P := fun v => -1 ≤ v ∧ v ≤ 2 ^ 48) (by decide) (by decide) _
  · refine con_ret hret news (by k_asm) (newsDrop (by k_asm) (by (repeat' (first | with_reducible exact subRefl | with_reducible exact subNil | with_reducible assumption | (refine subCons ?_ ?_; focus (first | with_reducible assumption | (with_reducible (repeat (first | exact List.mem_cons_self | assumption | refine List.mem_cons_of_mem _ ?_)); done))) | refine subTail ?_)))) (.mk ?_)
    rcases hz with rfl | rfl
    · have := fmod_in (x.fdiv 11 + y) (n := 2 ^ (48 : Int).toNat) (by decide)
      simp only [show (48 : Int).toNat = 48 from rfl] at this ⊢
      omega
    · have := fmod_in (x.fdiv 11 + y) (n := 2 ^ (32 : Int).toNat) (by decide)
      simp only [show (32 : Int).toNat = 32 from rfl] at this ⊢
      omega
theorem con_kind (w : World) (news : List (Addr × Obj)) (x : Int) (t : Tok) :
    Con w 168 1 news [.int x t] (fun _ => True) (RInt (fun v => -1 ≤ v ∧ v ≤ 65536) news) := by
  unfold Con
  k_fill
  intro mean mg mb dp un gd cn cs a ccd cl outer A₀ base h₀ L m s Q E B F X N T hk hpre hd hu hret
  refine wpAny_call ?_
  k_dflt (first | cell_enter | (refine' code_defC ?k1 ?k2 ?k3 ?k4 ?k5 ?kA ?kF ?kK ?k6 ?k7 ?k8 ?k9 ?kB ?kD ?_ ?c2 ?c3 ?c4; (case kA => exact rfl); (case kF => exact rfl); (case kK => assumption); (case k1 => k_asm); (case k2 => k_asm); (case k3 => k_asm); (case k4 => k_asm); (case k5 => k_asm); (case k6 => k_is); (case k7 => k_is); (case k8 => ktr_room); (case k9 => exact BindsTo.of_eq rfl); (case kB => exact rfl); (case kD => decide +kernel); (case c2 => exact rfl); (case c3 => exact rfl); (case c4 => exact rfl); k_whole; intro g' L' h' tk' cells' FG' F' N' Y' B' X' T' l1; (try k_lt l1); k_cells Y'; (try simp only [List.cons_append, List.nil_append] at N'); (try dsimp only); (try k_lift B'); (try k_fold)))
  repeat' (first | with_reducible (k_here; (with_reducible show wpAny _ _ (subscriptTail (Expr.List _ _) _ (Value.ref _) (Value.int _ _)) _ _ _); (with_unfolding_all apply item_anyK; (case hl => is_list); (case hi => l_ints); (case h0 => l_idx); (case h1 => l_idx); (case hfit => l_idx); (case hs => with_unfolding_all rfl); k_whole); intro _) | (k_unfold; (try dsimp only)) | (k_end; wrow_close) | walk1 | (dsimp only; walk1) | (leave1; walk_say "STEP leave1"; try dsimp only))
  · refine con_ret hret news (by k_asm) (newsDrop (by k_asm) (by (repeat' (first | with_reducible exact subRefl | with_reducible exact subNil | with_reducible assumption | (refine subCons ?_ ?_; focus (first | with_reducible assumption | (with_reducible (repeat (first | exact List.mem_cons_self | assumption | refine List.mem_cons_of_mem _ ?_)); done))) | refine subTail ?_)))) (.mk ?_)
    have := fmod_in (x.fdiv 9) (n := 65536) (by decide)
    omega
  · refine con_ret hret news (by k_asm) (newsDrop (by k_asm) (by (repeat' (first | with_reducible exact subRefl | with_reducible exact subNil | with_reducible assumption | (refine subCons ?_ ?_; focus (first | with_reducible assumption | (with_reducible (repeat (first | exact List.mem_cons_self | assumption | refine List.mem_cons_of_mem _ ?_)); done))) | refine subTail ?_)))) (.mk ?_)
    exact getD_all (P := fun v => -1 ≤ v ∧ v ≤ 65536) (by decide) (by decide) _
theorem con_operation (w : World) (news : List (Addr × Obj)) (x y : Int) (t u : Tok) :
    Con w 175 1 news [.int x t, .int y u] (fun _ => 0 ≤ y ∧ y ≤ 2) (RInt (fun v => -1 ≤ v ∧ v ≤ 65536) news) := by
  unfold Con
  k_fill
  intro mean mg mb dp un gd cn cs a ccd cl outer A₀ base h₀ L m s Q E B F X N T hk hpre hd hu hret
  refine wpAny_call ?_
  k_dflt (first | cell_enter | (refine' code_defC ?k1 ?k2 ?k3 ?k4 ?k5 ?kA ?kF ?kK ?k6 ?k7 ?k8 ?k9 ?kB ?kD ?_ ?c2 ?c3 ?c4; (case kA => exact rfl); (case kF => exact rfl); (case kK => assumption); (case k1 => k_asm); (case k2 => k_asm); (case k3 => k_asm); (case k4 => k_asm); (case k5 => k_asm); (case k6 => k_is); (case k7 => k_is); (case k8 => ktr_room); (case k9 => exact BindsTo.of_eq rfl); (case kB => exact rfl); (case kD => decide +kernel); (case c2 => exact rfl); (case c3 => exact rfl); (case c4 => exact rfl); k_whole; intro g' L' h' tk' cells' FG' F' N' Y' B' X' T' l1; (try k_lt l1); k_cells Y'; (try simp only [List.cons_append, List.nil_append] at N'); (try dsimp only); (try k_lift B'); (try k_fold)))
  repeat' (first | with_reducible (k_here; (with_reducible show wpAny _ _ (subscriptTail (Expr.List _ _) _ (Value.ref _) (Value.int _ _)) _ _ _); (with_unfolding_all apply item_anyK; (case hl => is_list); (case hi => l_ints); (case h0 => l_idx); (case h1 => l_idx); (case hfit => l_idx); (case hs => with_unfolding_all rfl); k_whole); intro _) | (k_unfold; (try dsimp only)) | (k_end; wrow_close) | walk1 | (dsimp only; walk1) | (leave1; walk_say "STEP leave1"; try dsimp only))
  · refine con_ret hret news (by k_asm) (newsDrop (by k_asm) (by (repeat' (first | with_reducible exact subRefl | with_reducible exact subNil | with_reducible assumption | (refine subCons ?_ ?_; focus (first | with_reducible assumption | (with_reducible (repeat (first | exact List.mem_cons_self | assumption | refine List.mem_cons_of_mem _ ?_)); done))) | refine subTail ?_)))) (.mk ?_)
    have := fmod_in (x.fdiv 10) (n := 65536) (by decide)
    omega
  · refine con_ret hret news (by k_asm) (newsDrop (by k_asm) (by (repeat' (first | with_reducible exact subRefl | with_reducible exact subNil | with_reducible assumption | (refine subCons ?_ ?_; focus (first | with_reducible assumption | (with_reducible (repeat (first | exact List.mem_cons_self | assumption | refine List.mem_cons_of_mem _ ?_)); done))) | refine subTail ?_)))) (.mk ?_)
    exact getD_all (P := fun v => -1 ≤ v ∧ v ≤ 65536) (by decide) (by decide) _
end
section -- part F5
set_option maxHeartbeats 8000000



def PK (news : List (Addr × Obj)) (lo hi : Int) (v : Value) : Prop :=
  ∃ D a b ta tb n, v = .ref D ∧ (D, ({ cls := .type "tuple", data := .seq #[.int a ta, .int b tb] n } : Obj)) ∈ news ∧ (0 ≤ a ∧ a ≤ 3) ∧ lo ≤ b ∧ b ≤ hi
theorem pk_nil {news : List (Addr × Obj)} {lo hi : Int} : ∀ v ∈ ([] : List Value), PK news lo hi v := fun _ h => nomatch h
theorem pk_cons {news : List (Addr × Obj)} {lo hi : Int} {D : Addr} {a b : Int} {ta tb : Tok} {n : Nat} {vs : List Value} (hm : (D, ({ cls := .type "tuple", data := .seq #[.int a ta, .int b tb] n } : Obj)) ∈ news) (h1 : 0 ≤ a ∧ a ≤ 3) (h2 : lo ≤ b) (h3 : b ≤ hi)
    (r : ∀ v ∈ vs, PK news lo hi v) : ∀ v ∈ Value.ref D :: vs, PK news lo hi v := List.forall_mem_cons.mpr ⟨⟨D, a, b, ta, tb, n, rfl, hm, h1, h2, h3⟩, r⟩
theorem pickT {prog : Program} {w : World} {A : Around} {E : Value → Shared → Prop} {s : Shared} {h₀ : Heap} {L l : Addr} {news : List (Addr × Obj)} {value slice : PySem.Expr} {vs : List Value} {n : Nat} {k : Int} {u : Tok} {lo hi : Int} {Q : Value → Shared → Prop}
    (N : News h₀ L s.heap news) (hm : (l, listOf vs.toArray n) ∈ news) (h0 : 0 ≤ k) (h1 : k < vs.length) (h2 : k < 2 ^ 63)
    (ha : ∀ v ∈ vs, PK news lo hi v)
    (h : ∀ D a b ta tb n, (D, ({ cls := .type "tuple", data := .seq #[.int a ta, .int b tb] n } : Obj)) ∈ news → 0 ≤ a → a ≤ 3 → lo ≤ b → b ≤ hi → Q (.ref D) s)
    (hs : subscripted slice false (.ref l) (.int k u) = operate [.ref l, .int k u] (getItem (.ref l) (.int k u)) := by with_unfolding_all rfl) :
    wpAny (model prog w) A (subscriptTail value slice (.ref l) (.int k u)) Q E s := by
  have hlt : k.toNat < vs.length := by omega
  obtain ⟨D, a, b, ta, tb, n', e, hD, ⟨h3, h4⟩, h5, h6⟩ := ha vs[k.toNat] (List.getElem_mem hlt)
  have hL : s.heap.IsList l vs.toArray := ⟨_, N.get hm, rfl, _, rfl⟩
  have hx : vs[k.toNat]? = some (Value.ref D) := by rw [← e]; simp [hlt]
  exact tail_any hL.typeIs slot_list_getitem.lookup (wpAny_getItem_list hL h0 h2 (by simpa using hx) (h D a b ta tb n' hD h3 h4 h5 h6)) hs
section
theorem set_all {P : Int → Prop} {l : List Int} {k : Nat} {v : Int} (h : ∀ x ∈ l, P x) (hv : P v) : ∀ x ∈ l.set k v, P x := fun x hx => by
  rcases List.mem_or_eq_of_mem_set hx with q | q
  · exact h x q
  · rw [q]; exact hv
theorem tag_base (i : Nat) (a b c : Int) : ∀ e ∈ [[34984, 33024].getD i 0, a.fmod 8, b.fmod 2, c.fmod 4096], -1 ≤ e ∧ e ≤ 98560 := by
  have h1 := fmod_in a (n := 8) (by decide)
  have h2 := fmod_in b (n := 2) (by decide)
  have h3 := fmod_in c (n := 4096) (by decide)
  refine List.forall_mem_cons.mpr ⟨getD_all (P := fun v => -1 ≤ v ∧ v ≤ 98560) (by decide) (by decide) _, List.forall_mem_cons.mpr ⟨by omega, List.forall_mem_cons.mpr ⟨by omega, List.forall_mem_cons.mpr ⟨by omega, List.forall_mem_nil _⟩⟩⟩⟩
inductive RTag (news : List (Addr × Obj)) : Value → List (Addr × Obj) → Prop
  | mk {D : Addr} {v0 v1 v2 v3 : Int} {t0 t1 t2 t3 : Tok} (h0 : -1 ≤ v0 ∧ v0 ≤ 98560) (h1 : -1 ≤ v1 ∧ v1 ≤ 98560) (h2 : -1 ≤ v2 ∧ v2 ≤ 98560) (h3 : -1 ≤ v3 ∧ v3 ≤ 98560) (h4 : ∀ p ∈ news, p.1 ≠ D) :
    RTag news (.ref D) ((D, tupObj [.int v0 t0, .int v1 t1, .int v2 t2, .int v3 t3]) :: news)
theorem RTag.out {news : List (Addr × Obj)} {k : Value → List (Addr × Obj) → Prop} (f : ∀ D v0 v1 v2 v3 t0 t1 t2 t3, -1 ≤ v0 ∧ v0 ≤ 98560 → -1 ≤ v1 ∧ v1 ≤ 98560 → -1 ≤ v2 ∧ v2 ≤ 98560 → -1 ≤ v3 ∧ v3 ≤ 98560 → (∀ p ∈ news, p.1 ≠ D) → k (.ref D) ((D, tupObj [.int v0 t0, .int v1 t1, .int v2 t2, .int v3 t3]) :: news)) : ∀ r n', RTag news r n' → k r n' := fun _ _ ⟨a, b, c, d, e⟩ => f _ _ _ _ _ _ _ _ _ a b c d e
theorem con_tag (w : World) (news : List (Addr × Obj)) (x y : Int) (t u : Tok) :
    Con w 182 1 news [.int x t, .int y u] (fun _ => 0 ≤ y ∧ y ≤ 8) (RTag news) := by
  unfold Con
  k_fill
  intro mean mg mb dp un gd cn cs a ccd cl outer A₀ base h₀ L m s Q E B F X N T hk hpre hd hu hret
  refine wpAny_call ?_
  k_dflt (first | cell_enter | (refine' code_defC ?k1 ?k2 ?k3 ?k4 ?k5 ?kA ?kF ?kK ?k6 ?k7 ?k8 ?k9 ?kB ?kD ?_ ?c2 ?c3 ?c4; (case kA => exact rfl); (case kF => exact rfl); (case kK => assumption); (case k1 => k_asm); (case k2 => k_asm); (case k3 => k_asm); (case k4 => k_asm); (case k5 => k_asm); (case k6 => k_is); (case k7 => k_is); (case k8 => ktr_room); (case k9 => exact BindsTo.of_eq rfl); (case kB => exact rfl); (case kD => decide +kernel); (case c2 => exact rfl); (case c3 => exact rfl); (case c4 => exact rfl); k_whole; intro g' L' h' tk' cells' FG' F' N' Y' B' X' T' l1; (try k_lt l1); k_cells Y'; (try simp only [List.cons_append, List.nil_append] at N'); (try dsimp only); (try k_lift B'); (try k_fold)))
  repeat' (first | with_reducible (k_here; (with_reducible show wpAny _ _ (setItem (Value.ref _) (Value.int _ _) (Value.int _ _)) _ _ _); k_dflt (apply ksa_set; (case F => k_asm); (case N => k_asm); (case U => k_upd); (case hi => exact IntsAre.cons _ _ (IntsAre.cons _ _ (IntsAre.cons _ _ (IntsAre.cons _ _ IntsAre.nil)))); (case h0 => omega); (case h1 => (simp only [List.length_cons, List.length_nil]; omega)); (case hfit => omega); k_whole); intro h' F' N' hi' hl' hs'; (try k_sweep)) | with_reducible (k_here; (with_reducible show wpAny _ _ (subscriptTail _ _ (Value.ref _) (Value.int (Int.fmod _ 8) _)) _ _ _); k_dflt (apply pickT (lo := -1) (hi := 98560); (case N => k_asm); (case hm => k_mem); (case h0 => exact (fmod_in _ (by decide)).1); (case h1 => exact (fmod_in _ (by decide)).2); (case h2 => exact Int.lt_trans (fmod_in _ (by decide)).2 (by decide)); (case ha => (repeat' (first | exact pk_nil | refine pk_cons (by k_mem) (by decide) (by decide) (by decide) ?_))); (try case hs => with_unfolding_all rfl); k_whole); intro D' a' b' ta' tb' n' hD' ha1' ha2' hb1' hb2') | with_reducible (k_here; (with_reducible show wpAny _ _ (subscriptTail _ _ (Value.ref _) (Value.int _ _)) _ _ _); k_dflt (apply item_tupleT; (case ht => exact News.isTup (by k_asm) (by kbu_src)); (case hlo => decide); (case hhi => decide); (case hj => rfl); (case hx => rfl); (try case hs => with_unfolding_all rfl); k_whole)) | with_reducible (k_here; (with_reducible show wpAny _ _ (subscriptTail (Expr.List _ _) _ (Value.ref _) (Value.int _ _)) _ _ _); (with_unfolding_all apply item_anyK; (case hl => is_list); (case hi => l_ints); (case h0 => l_idx); (case h1 => l_idx); (case hfit => l_idx); (case hs => with_unfolding_all rfl); k_whole); intro _) | (k_unfold; (try dsimp only)) | (k_end; wrow_close) | walk1 | (dsimp only; walk1) | (leave1; walk_say "STEP leave1"; try dsimp only))
  · exact con_ret hret _ (by k_asm) (newsDrop (by k_asm) (subCons (by k_mem) (by (repeat' (first | with_reducible exact subRefl | with_reducible exact subNil | with_reducible assumption | (refine subCons ?_ ?_; focus (first | with_reducible assumption | (with_reducible (repeat (first | exact List.mem_cons_self | assumption | refine List.mem_cons_of_mem _ ?_)); done))) | refine subTail ?_))))) (.mk ((by exact getD_all (P := fun v => -1 ≤ v ∧ v ≤ 98560) (by decide) (set_all (P := fun v => -1 ≤ v ∧ v ≤ 98560) (tag_base _ _ _ _) ⟨by omega, by omega⟩) _)) ((by exact getD_all (P := fun v => -1 ≤ v ∧ v ≤ 98560) (by decide) (set_all (P := fun v => -1 ≤ v ∧ v ≤ 98560) (tag_base _ _ _ _) ⟨by omega, by omega⟩) _)) ((by exact getD_all (P := fun v => -1 ≤ v ∧ v ≤ 98560) (by decide) (set_all (P := fun v => -1 ≤ v ∧ v ≤ 98560) (tag_base _ _ _ _) ⟨by omega, by omega⟩) _)) ((by exact getD_all (P := fun v => -1 ≤ v ∧ v ≤ 98560) (by decide) (set_all (P := fun v => -1 ≤ v ∧ v ≤ 98560) (tag_base _ _ _ _) ⟨by omega, by omega⟩) _)) (by (first | exact ne_tail (by assumption) (Nat.le_refl _) | exact allLt_ne (by assumption) | exact allLt_ne ((by assumption : _ ∧ AllLt _ _).2) | exact allLt_ne ((by assumption : _ ∧ _ ∧ AllLt _ _).2.2) | exact allLt_ne ((by assumption : _ ∧ _ ∧ _ ∧ AllLt _ _).2.2.2) | exact allLt_ne ((by assumption : _ ∧ _ ∧ _ ∧ _ ∧ AllLt _ _).2.2.2.2) | exact allLt_ne ((by assumption : _ ∧ _ ∧ _ ∧ _ ∧ _ ∧ AllLt _ _).2.2.2.2.2) | exact allLt_ne ((by assumption : _ ∧ _ ∧ _ ∧ _ ∧ _ ∧ _ ∧ AllLt _ _).2.2.2.2.2.2) | exact allLt_ne ((by assumption : _ ∧ _ ∧ _ ∧ _ ∧ _ ∧ _ ∧ _ ∧ AllLt _ _).2.2.2.2.2.2.2) | exact allLt_ne ((by assumption : _ ∧ _ ∧ _ ∧ _ ∧ _ ∧ _ ∧ _ ∧ _ ∧ AllLt _ _).2.2.2.2.2.2.2.2) | exact allLt_ne ((by assumption : _ ∧ _ ∧ _ ∧ _ ∧ _ ∧ _ ∧ _ ∧ _ ∧ _ ∧ AllLt _ _).2.2.2.2.2.2.2.2.2) | exact allLt_ne ((by assumption : _ ∧ _ ∧ _ ∧ _ ∧ _ ∧ _ ∧ _ ∧ _ ∧ _ ∧ _ ∧ AllLt _ _).2.2.2.2.2.2.2.2.2.2) | exact allLt_ne ((by assumption : _ ∧ _ ∧ _ ∧ _ ∧ _ ∧ _ ∧ _ ∧ _ ∧ _ ∧ _ ∧ _ ∧ AllLt _ _).2.2.2.2.2.2.2.2.2.2.2) | exact allLt_ne ((by assumption : _ ∧ _ ∧ _ ∧ _ ∧ _ ∧ _ ∧ _ ∧ _ ∧ _ ∧ _ ∧ _ ∧ _ ∧ AllLt _ _).2.2.2.2.2.2.2.2.2.2.2.2) | exact allLt_ne ((by assumption : _ ∧ _ ∧ _ ∧ _ ∧ _ ∧ _ ∧ _ ∧ _ ∧ _ ∧ _ ∧ _ ∧ _ ∧ _ ∧ AllLt _ _).2.2.2.2.2.2.2.2.2.2.2.2.2) | exact allLt_ne ((by assumption : _ ∧ _ ∧ _ ∧ _ ∧ _ ∧ _ ∧ _ ∧ _ ∧ _ ∧ _ ∧ _ ∧ _ ∧ _ ∧ _ ∧ AllLt _ _).2.2.2.2.2.2.2.2.2.2.2.2.2.2) | exact allLt_ne ((by assumption : _ ∧ _ ∧ _ ∧ _ ∧ _ ∧ _ ∧ _ ∧ _ ∧ _ ∧ _ ∧ _ ∧ _ ∧ _ ∧ _ ∧ _ ∧ AllLt _ _).2.2.2.2.2.2.2.2.2.2.2.2.2.2.2))))
  · exact con_ret hret _ (by k_asm) (newsDrop (by k_asm) (subCons (by k_mem) (by (repeat' (first | with_reducible exact subRefl | with_reducible exact subNil | with_reducible assumption | (refine subCons ?_ ?_; focus (first | with_reducible assumption | (with_reducible (repeat (first | exact List.mem_cons_self | assumption | refine List.mem_cons_of_mem _ ?_)); done))) | refine subTail ?_))))) (.mk ((by exact getD_all (P := fun v => -1 ≤ v ∧ v ≤ 98560) (by decide) (tag_base _ _ _ _) _)) ((by exact getD_all (P := fun v => -1 ≤ v ∧ v ≤ 98560) (by decide) (tag_base _ _ _ _) _)) ((by exact getD_all (P := fun v => -1 ≤ v ∧ v ≤ 98560) (by decide) (tag_base _ _ _ _) _)) ((by exact getD_all (P := fun v => -1 ≤ v ∧ v ≤ 98560) (by decide) (tag_base _ _ _ _) _)) (by (first | exact ne_tail (by assumption) (Nat.le_refl _) | exact allLt_ne (by assumption) | exact allLt_ne ((by assumption : _ ∧ AllLt _ _).2) | exact allLt_ne ((by assumption : _ ∧ _ ∧ AllLt _ _).2.2) | exact allLt_ne ((by assumption : _ ∧ _ ∧ _ ∧ AllLt _ _).2.2.2) | exact allLt_ne ((by assumption : _ ∧ _ ∧ _ ∧ _ ∧ AllLt _ _).2.2.2.2) | exact allLt_ne ((by assumption : _ ∧ _ ∧ _ ∧ _ ∧ _ ∧ AllLt _ _).2.2.2.2.2) | exact allLt_ne ((by assumption : _ ∧ _ ∧ _ ∧ _ ∧ _ ∧ _ ∧ AllLt _ _).2.2.2.2.2.2) | exact allLt_ne ((by assumption : _ ∧ _ ∧ _ ∧ _ ∧ _ ∧ _ ∧ _ ∧ AllLt _ _).2.2.2.2.2.2.2) | exact allLt_ne ((by assumption : _ ∧ _ ∧ _ ∧ _ ∧ _ ∧ _ ∧ _ ∧ _ ∧ AllLt _ _).2.2.2.2.2.2.2.2) | exact allLt_ne ((by assumption : _ ∧ _ ∧ _ ∧ _ ∧ _ ∧ _ ∧ _ ∧ _ ∧ _ ∧ AllLt _ _).2.2.2.2.2.2.2.2.2) | exact allLt_ne ((by assumption : _ ∧ _ ∧ _ ∧ _ ∧ _ ∧ _ ∧ _ ∧ _ ∧ _ ∧ _ ∧ AllLt _ _).2.2.2.2.2.2.2.2.2.2) | exact allLt_ne ((by assumption : _ ∧ _ ∧ _ ∧ _ ∧ _ ∧ _ ∧ _ ∧ _ ∧ _ ∧ _ ∧ _ ∧ AllLt _ _).2.2.2.2.2.2.2.2.2.2.2) | exact allLt_ne ((by assumption : _ ∧ _ ∧ _ ∧ _ ∧ _ ∧ _ ∧ _ ∧ _ ∧ _ ∧ _ ∧ _ ∧ _ ∧ AllLt _ _).2.2.2.2.2.2.2.2.2.2.2.2) | exact allLt_ne ((by assumption : _ ∧ _ ∧ _ ∧ _ ∧ _ ∧ _ ∧ _ ∧ _ ∧ _ ∧ _ ∧ _ ∧ _ ∧ _ ∧ AllLt _ _).2.2.2.2.2.2.2.2.2.2.2.2.2) | exact allLt_ne ((by assumption : _ ∧ _ ∧ _ ∧ _ ∧ _ ∧ _ ∧ _ ∧ _ ∧ _ ∧ _ ∧ _ ∧ _ ∧ _ ∧ _ ∧ AllLt _ _).2.2.2.2.2.2.2.2.2.2.2.2.2.2) | exact allLt_ne ((by assumption : _ ∧ _ ∧ _ ∧ _ ∧ _ ∧ _ ∧ _ ∧ _ ∧ _ ∧ _ ∧ _ ∧ _ ∧ _ ∧ _ ∧ _ ∧ AllLt _ _).2.2.2.2.2.2.2.2.2.2.2.2.2.2.2))))
end
end
section -- part G1
set_option maxHeartbeats 8000000
theorem ex4 {α β γ δ : Type} {P : α → β → γ → δ → Prop} (x0 : α) (x1 : β) (x2 : γ) (x3 : δ) (h : P x0 x1 x2 x3) : ∃ x0 x1 x2 x3, P x0 x1 x2 x3 := ⟨x0, x1, x2, x3, h⟩
theorem ex6 {α β γ δ ε ζ : Type} {P : α → β → γ → δ → ε → ζ → Prop} (x0 : α) (x1 : β) (x2 : γ) (x3 : δ) (x4 : ε) (x5 : ζ) (h : P x0 x1 x2 x3 x4 x5) : ∃ x0 x1 x2 x3 x4 x5, P x0 x1 x2 x3 x4 x5 := ⟨x0, x1, x2, x3, x4, x5, h⟩
theorem ex8 {α β γ δ ε ζ η θ : Type} {P : α → β → γ → δ → ε → ζ → η → θ → Prop} (x0 : α) (x1 : β) (x2 : γ) (x3 : δ) (x4 : ε) (x5 : ζ) (x6 : η) (x7 : θ) (h : P x0 x1 x2 x3 x4 x5 x6 x7) : ∃ x0 x1 x2 x3 x4 x5 x6 x7, P x0 x1 x2 x3 x4 x5 x6 x7 := ⟨x0, x1, x2, x3, x4, x5, x6, x7, h⟩
theorem ex11 {α β γ δ ε ζ η θ ι κ μ : Type} {P : α → β → γ → δ → ε → ζ → η → θ → ι → κ → μ → Prop} (x0 : α) (x1 : β) (x2 : γ) (x3 : δ) (x4 : ε) (x5 : ζ) (x6 : η) (x7 : θ) (x8 : ι) (x9 : κ) (x10 : μ) (h : P x0 x1 x2 x3 x4 x5 x6 x7 x8 x9 x10) : ∃ x0 x1 x2 x3 x4 x5 x6 x7 x8 x9 x10, P x0 x1 x2 x3 x4 x5 x6 x7 x8 x9 x10 := ⟨x0, x1, x2, x3, x4, x5, x6, x7, x8, x9, x10, h⟩
theorem ex12 {α β γ δ ε ζ η θ ι κ μ ν : Type} {P : α → β → γ → δ → ε → ζ → η → θ → ι → κ → μ → ν → Prop} (x0 : α) (x1 : β) (x2 : γ) (x3 : δ) (x4 : ε) (x5 : ζ) (x6 : η) (x7 : θ) (x8 : ι) (x9 : κ) (x10 : μ) (x11 : ν) (h : P x0 x1 x2 x3 x4 x5 x6 x7 x8 x9 x10 x11) : ∃ x0 x1 x2 x3 x4 x5 x6 x7 x8 x9 x10 x11, P x0 x1 x2 x3 x4 x5 x6 x7 x8 x9 x10 x11 := ⟨x0, x1, x2, x3, x4, x5, x6, x7, x8, x9, x10, x11, h⟩
section
variable {prog : Program} {w : World} {A : Around} {E : Value → Shared → Prop} {s : Shared} {env : Env} {h₀ : Heap} {elts : List Expr} {x1 : Nat} {tpos : Pos} {body : List Stmt} {Q : Flow → Shared → Prop}
/-- the walk stops here -/
def Stop (P : Prop) : Prop := P
/-- a turn's end -/
def TEnd (h₀ : Heap) (L I : Addr) (oI : Obj) (l : Addr × Obj) (Jn : (Str → Option Value) → List (Addr × Obj) → Prop) (s : Shared) (Q : Flow → Shared → Prop) (f : Flow) (s₃ : Shared) : Prop :=
  match f with
  | .ret v => Q (.ret v) s₃
  | .brk => Q .next s₃
  | _ => ∃ h' tk m' n' nx, s₃ = { s with heap := h', toks := tk } ∧ Fr h₀ L h' m' ∧ News h₀ L h' n' ∧ (∀ p ∈ (I, oI) :: nx, p ∈ n') ∧ (∀ p ∈ nx, p.1 ≠ I) ∧ l ∈ nx ∧ Jn m' nx

theorem TEnd.mk {h₀ h' : Heap} {L I : Addr} {oI : Obj} {l : Addr × Obj} {Jn : (Str → Option Value) → List (Addr × Obj) → Prop} {s : Shared} {Q : Flow → Shared → Prop} {tk : Nat} {m' : Str → Option Value} {n' nx : List (Addr × Obj)}
    (F : Fr h₀ L h' m') (N : News h₀ L h' n') (hs : ∀ p ∈ (I, oI) :: nx, p ∈ n') (hne : ∀ p ∈ nx, p.1 ≠ I) (hl : l ∈ nx) (hJ : Jn m' nx) : TEnd h₀ L I oI l Jn s Q .next { s with heap := h', toks := tk } := ⟨h', tk, m', n', nx, rfl, F, N, hs, hne, hl, hJ⟩
theorem goTuple {I l : Addr} {i : Nat} {v : Value} {Q' : Unit → Shared → Prop} (hit : s.heap.IsListIter I l i) (hQ : Q' () s) : wpAny (model prog w) A (letOwnedTupleGo (.Tuple elts x1 tpos) (.ref I) v) Q' E s := by
  cases v with
  | ref T => exact wpAny_letOwnedTupleGo_listiter hit hQ
  | _ => exact wpAny_pure hQ

/-- a turn's end of a loop whose turns may turn the ground -/
def GEnd (G : Heap → Prop) (L I : Addr) (oI : Obj) (Jn : (Str → Option Value) → List (Addr × Obj) → Prop) (s : Shared) (Q : Flow → Shared → Prop) (f : Flow) (s₃ : Shared) : Prop :=
  match f with
  | .ret v => Q (.ret v) s₃
  | .brk => Q .next s₃
  | _ => ∃ h₁ h' tk m' n' nx, s₃ = { s with heap := h', toks := tk } ∧ G h₁ ∧ Fr h₁ L h' m' ∧ News h₁ L h' n' ∧ (∀ p ∈ (I, oI) :: nx, p ∈ n') ∧ (∀ p ∈ nx, p.1 ≠ I) ∧ Jn m' nx
theorem GEnd.mk {G : Heap → Prop} {h₁ h' : Heap} {L I : Addr} {oI : Obj} {Jn : (Str → Option Value) → List (Addr × Obj) → Prop} {s : Shared} {Q : Flow → Shared → Prop} {tk : Nat} {m' : Str → Option Value} {n' nx : List (Addr × Obj)}
    (hG : G h₁) (F : Fr h₁ L h' m') (N : News h₁ L h' n') (hs : ∀ p ∈ (I, oI) :: nx, p ∈ n') (hne : ∀ p ∈ nx, p.1 ≠ I) (hJ : Jn m' nx) : GEnd G L I oI Jn s Q .next { s with heap := h', toks := tk } := ⟨h₁, h', tk, m', n', nx, rfl, hG, F, N, hs, hne, hJ⟩
theorem For_listA {tgt iter : Expr} {pos : Pos} (G : Heap → Prop)
    (hgo : ∀ {I l : Addr} {i : Nat} {v : Value} {Q' : Unit → Shared → Prop} {E' : Value → Shared → Prop} {s : Shared}, s.heap.IsListIter I l i → Q' () s → wpAny (model prog w) A (letOwnedTupleGo tgt (.ref I) v) Q' E' s)
    (h : wpAny (model prog w) A (eval iter env) (fun xv s₁ => Stop (∃ (l : Addr) (vs : List Value) (nn : Nat) (g₁ : Heap) (m₀ : Str → Option Value) (nx n1 : List (Addr × Obj)) (J : Nat → (Str → Option Value) → List (Addr × Obj) → Prop), xv = .ref l ∧ A.handled = none ∧ G g₁ ∧ (l, listOf vs.toArray nn) ∈ nx ∧ Fr g₁ env.locals s₁.heap m₀ ∧ News g₁ env.locals s₁.heap n1 ∧ (∀ p ∈ nx, p ∈ n1) ∧ J 0 m₀ nx ∧
      (∀ I oI g i v m₁ nx h tk, vs[i]? = some v → G g → J i m₁ nx → (l, listOf vs.toArray nn) ∈ nx → (∀ p ∈ nx, p.1 ≠ I) → Fr g env.locals h m₁ → News g env.locals h ((I, oI) :: nx) →
        wpAny (model prog w) A (assign tgt env v) (fun _ s₃ => wpAny (model prog w) A (execs body env) (GEnd G env.locals I oI (fun m nx => (l, listOf vs.toArray nn) ∈ nx ∧ J (i + 1) m nx) s₁ Q) E s₃) E { s₁ with heap := h, toks := tk }) ∧
      ∀ g m' nx h' tk, G g → J vs.length m' nx → Fr g env.locals h' m' → News g env.locals h' nx → Q .next { s₁ with heap := h', toks := tk })) E s)
    (hs : ∀ x, foldedSetIterable iter env x = pure x)
    (hE : PassesOwn (model prog w) A env E := by passes_own) :
    wpAny (model prog w) A (exec (.For tgt iter body [] pos) env) Q E s := by
  refine wpAny_For (wpAny_mono h (fun xv s₁ h₁ => ?_) fun _ _ e => e) hs
  obtain ⟨l, vs, nn, g₁, m₀, nx, n1, J, rfl, hh, hG, hl, F, N1, hsub, h0, turn, done⟩ := h₁
  have N := newsDrop N1 hsub
  have hol := (N _ hl).1
  have hls : s₁.heap.IsList l vs.toArray := ⟨_, hol, rfl, nn, rfl⟩
  refine wpAny_pyIter_list hls ?_
  have hF0 : g₁.get? s₁.heap.objs.size = none := next_is_new F
  have hIL : env.locals ≠ s₁.heap.objs.size := Nat.ne_of_lt F.ns.lt
  have lsz : ∀ b o, s₁.heap.get? b = some o → b ≠ s₁.heap.objs.size := fun b o e => Nat.ne_of_lt (Heap.lt_size e)
  refine codeAny_forLoop_any
    (fun k s' => ∃ h' tk m' nx i g, s' = { s₁ with heap := h', toks := tk } ∧ h'.IsListIter s₁.heap.objs.size l i ∧ (l, listOf vs.toArray nn) ∈ nx ∧ (∀ p ∈ nx, p.1 ≠ s₁.heap.objs.size) ∧ G g ∧ g.get? s₁.heap.objs.size = none ∧ Fr g env.locals h' m' ∧ News g env.locals h' nx ∧ J i m' nx ∧ i ≤ vs.length ∧ k = vs.length + 1 - i) ?_ (vs.length + 1)
    ⟨_, s₁.toks, m₀, nx, 0, g₁, rfl, ⟨_, Heap.get?_push_size _ rfl, rfl, rfl⟩, hl, fun p hp => lsz _ _ (N p hp).1, hG, hF0, F.push _, fun p hp => ⟨Heap.get?_push_of_some _ (N p hp).1, (N p hp).2⟩, h0, Nat.zero_le _, rfl⟩
  rintro k s' ⟨h', tk, m', nx', i, g, rfl, hit, hl', hne, hG', hg0, F', N', hJ, hi, rfl⟩
  have hls' : h'.IsList l vs.toArray := ⟨_, (N' _ hl').1, rfl, nn, rfl⟩
  have keep : ∀ h₂ : Heap, (∀ b o, b ≠ s₁.heap.objs.size → h'.get? b = some o → h₂.get? b = some o) → Fr g env.locals h₂ m' ∧ News g env.locals h₂ nx' := fun h₂ hk =>
    ⟨⟨F'.ns.at' fun o e => hk _ o hIL e, fun b o e => hk b o (fun q => by rw [q, hg0] at e; cases e) (F'.keep b o e), F'.above⟩, fun p hp => ⟨hk _ _ (hne p hp) (N' p hp).1, (N' p hp).2⟩⟩
  by_cases hlt : i < vs.length
  · refine wpAny_pyNext_list_item hit hls' (x := vs[i]) (by simp [hlt]) fun h₂ hit₂ hs₂ => ?_
    obtain ⟨F₂, N₂⟩ := keep h₂ fun b o hb e => hs₂.extBut b o hb e
    obtain ⟨oI, hoI, r1, r2⟩ := id hit₂
    have N₃ : News g env.locals h₂ ((s₁.heap.objs.size, oI) :: nx') := fun p hp => by
      rcases List.mem_cons.mp hp with rfl | hp
      · exact ⟨hoI, fun q => hIL q.symm, hg0⟩
      · exact N₂ p hp
    refine (show wpAny _ _ (letOwnedTupleGo tgt _ _) _ _ _ from hgo hit₂ ?_)
    have T := turn s₁.heap.objs.size oI g i vs[i] m' nx' h₂ tk (by simp [hlt]) hG' hJ hl' hne F₂ N₃
    refine wpAny_passesOwn hE (wpAny_mono T (fun _ s₃ h₃ => wpAny_passesOwn hE (wpAny_mono h₃ (fun f s₄ h₄ => ?_) fun _ _ e => e)) fun _ _ e => e)
    have fin : GEnd G env.locals s₁.heap.objs.size oI (fun m nx => (l, listOf vs.toArray nn) ∈ nx ∧ J (i + 1) m nx) s₁ Q .next s₄ →
        ∃ m, m < vs.length + 1 - i ∧ ∃ h' tk m' nx i g, s₄ = { s₁ with heap := h', toks := tk } ∧ h'.IsListIter s₁.heap.objs.size l i ∧ (l, listOf vs.toArray nn) ∈ nx ∧ (∀ p ∈ nx, p.1 ≠ s₁.heap.objs.size) ∧ G g ∧ g.get? s₁.heap.objs.size = none ∧ Fr g env.locals h' m' ∧ News g env.locals h' nx ∧ J i m' nx ∧ i ≤ vs.length ∧ m = vs.length + 1 - i := by
      rintro ⟨g₅, h₅, tk₅, m₅, n₅, nx₅, e₅, G₅, F₅, N₅, s5, ne5, l5, J5⟩
      have z := N₅ _ (s5 _ (.head _))
      exact ⟨vs.length + 1 - (i + 1), by omega, h₅, tk₅, m₅, nx₅, i + 1, g₅, e₅, ⟨oI, z.1, r1, r2⟩, l5, ne5, G₅, z.2.2, F₅, newsDrop N₅ fun p hp => s5 p (.tail _ hp), J5, hlt, rfl⟩
    cases f with
    | ret v => exact h₄
    | brk => exact h₄
    | next => exact fin h₄
    | cont => exact fin h₄
  · have hin : i = vs.length := by omega
    subst hin
    refine wpAny_pyNext_list_end hh hit hls' (by simp) fun h₂ he' => wpAny_execs_nil ?_
    obtain ⟨F₂, N₂⟩ := keep h₂ fun b o hb e => he' b o hb e
    exact done g m' nx' h₂ tk hG' hJ F₂ N₂

theorem For_tuples {iter : Expr} {pos : Pos} {m : Str → Option Value} (_F : Fr h₀ env.locals s.heap m)
    (h : wpAny (model prog w) A (eval iter env) (fun xv s₁ => Stop (∃ (l : Addr) (vs : List Value) (nn : Nat) (m₀ : Str → Option Value) (nx : List (Addr × Obj)) (J : Nat → (Str → Option Value) → List (Addr × Obj) → Prop), xv = .ref l ∧ A.handled = none ∧ (l, listOf vs.toArray nn) ∈ nx ∧ Fr h₀ env.locals s₁.heap m₀ ∧ News h₀ env.locals s₁.heap nx ∧ J 0 m₀ nx ∧
      (∀ I oI i v m₁ nx h tk, vs[i]? = some v → J i m₁ nx → (l, listOf vs.toArray nn) ∈ nx → (∀ p ∈ nx, p.1 ≠ I) → Fr h₀ env.locals h m₁ → News h₀ env.locals h ((I, oI) :: nx) →
        wpAny (model prog w) A (assign (.Tuple elts x1 tpos) env v) (fun _ s₃ => wpAny (model prog w) A (execs body env) (TEnd h₀ env.locals I oI (l, listOf vs.toArray nn) (J (i + 1)) s₁ Q) E s₃) E { s₁ with heap := h, toks := tk }) ∧
      ∀ m' nx h' tk, J vs.length m' nx → Fr h₀ env.locals h' m' → News h₀ env.locals h' nx → Q .next { s₁ with heap := h', toks := tk })) E s)
    (hs : ∀ x, foldedSetIterable iter env x = pure x)
    (hE : PassesOwn (model prog w) A env E := by passes_own) :
    wpAny (model prog w) A (exec (.For (.Tuple elts x1 tpos) iter body [] pos) env) Q E s := by
  refine For_listA (fun g => g = h₀) (fun hit hQ => goTuple hit hQ) (wpAny_mono h (fun xv s₁ h₁ => ?_) fun _ _ e => e) hs hE
  obtain ⟨l, vs, nn, m₀, nx, J, e1, hh, hl, F, N, h0, turn, done⟩ := h₁
  refine ⟨l, vs, nn, h₀, m₀, nx, nx, J, e1, hh, rfl, hl, F, N, fun _ h => h, h0, ?_, fun g m' nx h' tk hg hJ F' N' => ?_⟩
  · intro I oI g i v m₁ nx hp tk hv hg hJ hl hne F' N'
    subst hg
    refine wpAny_mono (turn I oI i v m₁ nx hp tk hv hJ hl hne F' N') (fun _ s₃ h₃ => wpAny_mono h₃ (fun f s₄ h₄ => ?_) fun _ _ e => e) fun _ _ e => e
    cases f with
    | ret v => exact h₄
    | brk => exact h₄
    | next => obtain ⟨h', tk, m', n', nx, e, a, b, c, d, f, g⟩ := h₄; exact ⟨_, h', tk, m', n', nx, e, rfl, a, b, c, d, f, g⟩
    | cont => obtain ⟨h', tk, m', n', nx, e, a, b, c, d, f, g⟩ := h₄; exact ⟨_, h', tk, m', n', nx, e, rfl, a, b, c, d, f, g⟩
  · subst hg
    exact done m' nx h' tk hJ F' N'
end
end
section -- part G2
set_option maxHeartbeats 8000000
abbrev Tag := Int × Int × Int × Int
def tagDat (g : Tag) : Dat := .tuple [.int g.1, .int g.2.1, .int g.2.2.1, .int g.2.2.2]
theorem tagDat_inv {news : List (Addr × Obj)} {v : Value} {g : Tag} (h : DatIn news v (tagDat g)) :
    ∃ D t0 t1 t2 t3 n, v = .ref D ∧ (D, ({ cls := .type "tuple", data := .seq #[.int g.1 t0, .int g.2.1 t1, .int g.2.2.1 t2, .int g.2.2.2 t3] n } : Obj)) ∈ news := by
  unfold tagDat at h
  cases h with
  | tuple hm r =>
    cases r with | cons a0 r => cases a0; cases r with | cons a1 r => cases a1; cases r with | cons a2 r => cases a2; cases r with | cons a3 r => cases a3; cases r; exact ⟨_, _, _, _, _, _, rfl, hm⟩
theorem datAll_get {news : List (Addr × Obj)} : ∀ {vs : List Value} {gs : List Tag} {i : Nat} {v : Value}, DatAll news vs (gs.map tagDat) → vs[i]? = some v → ∃ g, gs[i]? = some g ∧ DatIn news v (tagDat g)
  | _, [], _, _, .nil, h => by simp at h
  | _, g :: gs, 0, _, .cons d r, h => by
    simp only [List.getElem?_cons_zero, Option.some.injEq] at h
    subst h
    exact ⟨g, rfl, d⟩
  | _, g :: gs, i + 1, _, .cons d r, h => by
    simp only [List.getElem?_cons_succ] at h
    obtain ⟨g', h1, h2⟩ := datAll_get r h
    exact ⟨g', by simpa using h1, h2⟩
theorem datAll_len {news : List (Addr × Obj)} {vs : List Value} {gs : List Tag} (h : DatAll news vs (gs.map tagDat)) : vs.length = gs.length := by rw [h.length, List.length_map]

theorem row_app (a b : Int) (n m : Nat) (h0 : 0 ≤ b) (h1 : b < 256 ^ m) : rowOf (a * 256 ^ m + b) (n + m) = rowOf a n ++ rowOf b m := by
  have hp : ∀ k : Nat, (0 : Int) < 256 ^ k := fun k => Int.pow_pos (by decide)
  have e : List.range (n + m) = List.range n ++ (List.range m).map fun j => n + j := by
    rw [List.range_add]
  unfold rowOf
  rw [e, List.map_append, List.map_map]
  congr 1
  · refine List.map_congr_left fun k hk => ?_
    have hk' := List.mem_range.mp hk
    rw [show n + m - 1 - k = m + (n - 1 - k) by omega, Int.pow_add, ← Int.ediv_ediv_of_nonneg (Int.le_of_lt (hp m))]
    congr 2
    rw [Int.add_comm, Int.add_mul_ediv_right _ _ (Int.ne_of_gt (hp m)), Int.ediv_eq_zero_of_lt h0 h1, Int.zero_add]
  · refine List.map_congr_left fun k hk => ?_
    have hk' := List.mem_range.mp hk
    simp only [Function.comp]
    rw [show n + m - 1 - (n + k) = m - 1 - k by omega]
    have e2 : (256 : Int) ^ m = 256 ^ (k + 1) * 256 ^ (m - 1 - k) := by rw [← Int.pow_add]; congr 1; omega
    rw [e2, ← Int.mul_assoc, Int.add_comm, Int.add_mul_ediv_right _ _ (Int.ne_of_gt (hp _)), Int.pow_succ, ← Int.mul_assoc, Int.add_mul_emod_self_right]

theorem or_add {a b : Int} {k : Nat} (ha : 0 ≤ a) (h0 : 0 ≤ b) (h1 : b < 2 ^ k) : Builtin.bitOr (a * 2 ^ k) b = a * 2 ^ k + b := by
  have hp : (0 : Int) ≤ 2 ^ k := Int.le_of_lt (Int.pow_pos (by decide))
  have ho : b.toNat < 2 ^ k := by
    have : ((b.toNat : Nat) : Int) < ((2 ^ k : Nat) : Int) := by rw [Int.toNat_of_nonneg h0]; exact_mod_cast h1
    exact_mod_cast this
  have e : (2 ^ k * a.toNat) &&& b.toNat = 0 := by
    apply Nat.eq_of_testBit_eq
    intro i
    rw [Nat.testBit_and, Nat.zero_testBit, Nat.testBit_two_pow_mul]
    by_cases hi : k ≤ i
    · rw [Nat.testBit_lt_two_pow (Nat.lt_of_lt_of_le ho (Nat.pow_le_pow_right (by decide) hi)), Bool.and_false]
    · simp [hi]
  have hm : 0 ≤ a * 2 ^ k := Int.mul_nonneg ha hp
  rw [bitOr_and]
  have : Builtin.bitAnd (a * 2 ^ k) b = 0 := by
    show Spec.bitAnd (a * 2 ^ k) b = 0
    unfold Spec.bitAnd
    rw [decide_eq_true hm, decide_eq_true h0]
    show (((a * 2 ^ k).toNat &&& b.toNat : Nat) : Int) = 0
    have e3 : (a * 2 ^ k).toNat = 2 ^ k * a.toNat := by
      have : ((a * 2 ^ k).toNat : Int) = ((2 ^ k * a.toNat : Nat) : Int) := by
        rw [Int.toNat_of_nonneg hm]
        push_cast
        rw [Int.toNat_of_nonneg ha, Int.mul_comm]
      exact_mod_cast this
    rw [e3, e]
    rfl
  rw [this]
  omega

def tagOk (g : Tag) : Prop := (g.1 = 33024 ∨ g.1 = 34984) ∧ (0 ≤ g.2.1 ∧ g.2.1 ≤ 7) ∧ (0 ≤ g.2.2.1 ∧ g.2.2.1 ≤ 1) ∧ (0 ≤ g.2.2.2 ∧ g.2.2.2 ≤ 4095)
def tagNum (g : Tag) : Int := g.2.1 * 8192 + g.2.2.1 * 4096 + g.2.2.2
def frameWhole (t s : Int) (gs : List Tag) : Int := gs.foldl (fun w g => w * 4294967296 + (g.1 * 65536 + tagNum g)) (t * 281474976710656 + s)
def unfit : Str := Str.ofString "the number does not fit its octets"
def noTag : Str := Str.ofString "no such tag"
def addrOk (x : Int) : Prop := 0 ≤ x ∧ x < 281474976710656
open Classical in
/-- what a frame's head is to be: a refusal's words and nothing, or no words and its octets -/
noncomputable def dueFrame (t s : Int) (gs : List Tag) (k : Int) : Str × List Int :=
  if ¬ (addrOk t ∧ addrOk s) then (unfit, []) else if ¬ ∀ g ∈ gs, tagOk g then (noTag, []) else if ¬ (0 ≤ k ∧ k ≤ 65535) then (unfit, []) else (Str.ofString "", rowOf (frameWhole t s gs * 65536 + k) (14 + 4 * gs.length))
theorem frameWhole_snoc (t s : Int) (gs : List Tag) (g : Tag) : frameWhole t s (gs ++ [g]) = frameWhole t s gs * 4294967296 + (g.1 * 65536 + tagNum g) := by simp [frameWhole]
theorem tagNum_in {g : Tag} (h : tagOk g) : 0 ≤ tagNum g ∧ tagNum g < 65536 := by
  obtain ⟨_, h1, h2, h3⟩ := h
  unfold tagNum
  omega
theorem head_row {t s : Int} (hs : addrOk s) : rowOf t 6 ++ rowOf s 6 = rowOf (frameWhole t s []) 12 := by
  have := row_app t s 6 6 hs.1 (by have := hs.2; simpa using this)
  rw [← this]
  rfl
theorem tag_row {t s : Int} {gs : List Tag} {g : Tag} (n : Nat) (h : tagOk g) : rowOf (frameWhole t s gs) n ++ (rowOf g.1 2 ++ rowOf (tagNum g) 2) = rowOf (frameWhole t s (gs ++ [g])) (n + 4) := by
  have hn := tagNum_in h
  have h1 : rowOf g.1 2 ++ rowOf (tagNum g) 2 = rowOf (g.1 * 65536 + tagNum g) 4 := (row_app g.1 (tagNum g) 2 2 hn.1 (by simpa using hn.2)).symm
  have h2 : 0 ≤ g.1 * 65536 + tagNum g ∧ g.1 * 65536 + tagNum g < 4294967296 := by
    obtain ⟨q, _⟩ := h
    rcases q with q | q <;> omega
  rw [h1, frameWhole_snoc]
  exact (row_app (frameWhole t s gs) _ n 4 h2.1 (by simpa using h2.2)).symm
end
section -- part G4
set_option maxHeartbeats 8000000
/-- the `if` of that line asks whether c -/
inductive CondIs (line : Nat) (c : Prop) : Prop
  | mk
def CondAt (c : Prop) (h₀ : Heap) (L : Addr) (m : Str → Option Value) (news : List (Addr × Obj)) (s : Shared) (b : Bool) (s' : Shared) : Prop :=
  (b = true ↔ c) ∧ ∃ h tk n', s' = { s with heap := h, toks := tk } ∧ Fr h₀ L h m ∧ News h₀ L h n' ∧ ∀ q ∈ news, q ∈ n'
theorem CondAt.mk {c : Prop} {h₀ h : Heap} {L : Addr} {m : Str → Option Value} {news n' : List (Addr × Obj)} {s : Shared} {b : Bool} {tk : Nat} (hb : b = true ↔ c) (F : Fr h₀ L h m) (N : News h₀ L h n') (hs : ∀ q ∈ news, q ∈ n') :
    CondAt c h₀ L m news s b { s with heap := h, toks := tk } := ⟨hb, h, tk, n', rfl, F, N, hs⟩
theorem If_cond {M : Model} {A : Around} {E : Value → Shared → Prop} {s : Shared} {env : Env} {h₀ : Heap} {L : Addr} {m : Str → Option Value} {news : List (Addr × Obj)} {c : Prop} {test : Expr} {body orelse : List Stmt} {pos : Pos} {Q : Flow → Shared → Prop}
    (_C : CondIs pos.line c) (_F : Fr h₀ L s.heap m) (_N : News h₀ L s.heap news)
    (hc : wpAny M A (isTrue test env (eval test env)) (CondAt c h₀ L m news s) E s)
    (hp : c → ∀ h tk, Fr h₀ L h m → News h₀ L h news → wpAny M A (execs body env) Q E { s with heap := h, toks := tk })
    (hn : ¬ c → ∀ h tk, Fr h₀ L h m → News h₀ L h news → wpAny M A (execs orelse env) Q E { s with heap := h, toks := tk }) :
    wpAny M A (exec (.If test body orelse pos) env) Q E s := by
  refine wpAny_If (wpAny_mono hc (fun k s₂ hkc => ?_) fun _ _ h => h)
  obtain ⟨hb, h, tk, n', rfl, F, N, hs⟩ := hkc
  cases k with
  | true => exact hp (hb.mp rfl) h tk F (newsDrop N hs)
  | false => exact hn (fun q => by have := hb.mpr q; cases this) h tk F (newsDrop N hs)
theorem conX_map {w : World} {f : Addr} {dep : Nat} {news : List (Addr × Obj)} {vs : List Value} {Pre : Heap → Prop} {R1 R2 : Value → List (Addr × Obj) → Prop} {X1 X2 : Addr → Addr → List (Addr × Obj) → Prop} (C : ConX w f dep news vs Pre R1 X1)
    (h : ∀ r n', R1 r n' → R2 r n') (g : ∀ C d nx, X1 C d nx → X2 C d nx) : ConX w f dep news vs Pre R2 X2 := by
  intro mean mg mb dp un gd cn cs a ccd outer A₀ base h₀ L m s Q E B F X N T hk hpre hd hu hret hexc
  exact C mean mg mb dp un gd cn cs a ccd outer A₀ base h₀ L m s Q E B F X N T hk hpre hd hu (fun r n' hR => hret r n' (h _ _ hR)) fun C d nx hX => hexc C d nx (g _ _ _ hX)
inductive ROct (x : Int) (z : Nat) (B : Int) (news : List (Addr × Obj)) : Value → List (Addr × Obj) → Prop
  | mk {b : Array UInt8} {t : Tok} (h0 : 0 ≤ x) (h1 : x < B) (h2 : KBw.bInts b = rowOf x z) (h3 : b.size = z) : ROct x z B news (.bytes b t) news
theorem ROct.out {x : Int} {z : Nat} {B : Int} {news : List (Addr × Obj)} {k : Value → List (Addr × Obj) → Prop} (f : ∀ b t, 0 ≤ x → x < B → KBw.bInts b = rowOf x z → b.size = z → k (.bytes b t) news) : ∀ r n', ROct x z B news r n' → k r n' := fun _ _ ⟨a, b, c, d⟩ => f _ _ a b c d
abbrev OctC (w : World) (z : Nat) (zi B : Int) (x : Int) (t u : Tok) (news : List (Addr × Obj)) : Prop :=
    ConX w 70 4 news [.int x t, .int zi u] (fun _ => 1 ≤ z ∧ z ≤ 8) (ROct x z B news)
      (XSay w 44 (Str.ofString "the number does not fit its octets") (¬ (0 ≤ x ∧ x < B)) news)
theorem con_oct (w : World) (z : Nat) (zi B : Int) (hz : (z : Int) = zi) (hB : (256 : Int) ^ z = B) (x : Int) (t u : Tok) (news : List (Addr × Obj)) : OctC w z zi B x t u news := by
  subst hz
  subst hB
  exact conX_map (con_octets w x z t u news) (fun r n' ⟨a, b, c, t, e⟩ => by subst a; subst e; exact .mk b c (KBa.ints_make fun n hn => mem_rowOf hn) (by rw [← KBw.ints_length, KBa.ints_make fun n hn => mem_rowOf hn, rowOf_length])) fun C d nx ⟨a, b, c, k0, k1, k2, k3, m⟩ => by subst a; exact .mk c b m
theorem con_oct2 (w : World) (x : Int) (t u : Tok) (news : List (Addr × Obj)) : OctC w 2 2 65536 x t u news := con_oct w 2 2 65536 rfl (by decide) x t u news
theorem con_oct4 (w : World) (x : Int) (t u : Tok) (news : List (Addr × Obj)) : OctC w 4 4 4294967296 x t u news := con_oct w 4 4 4294967296 rfl (by decide) x t u news
theorem con_oct6 (w : World) (x : Int) (t u : Tok) (news : List (Addr × Obj)) : OctC w 6 6 281474976710656 x t u news := con_oct w 6 6 281474976710656 rfl (by decide) x t u news
theorem subTrans {a b c : List (Addr × Obj)} (h : ∀ q ∈ a, q ∈ b) (g : ∀ q ∈ b, q ∈ c) : ∀ q ∈ a, q ∈ c := fun q hq => g q (h q hq)
theorem lenN {prog : Program} {w : World} {A : Around} {E : Value → Shared → Prop} {s : Shared} {h₀ : Heap} {L l : Addr} {news : List (Addr × Obj)} {vs : List Value} {nn : Nat} {Q : Value → Shared → Prop} (N : News h₀ L s.heap news) (hm : (l, listOf (List.toArray vs) nn) ∈ news) (hz : vs.length ≤ 16384)
    (h : Q (.int (vs.length : Int) (s.toks + 1)) { s with toks := s.toks + 1 + 1 }) : wpAny (model prog w) A (call (.builtin "len") [.ref l]) Q E s := by
  refine PyProof.Rows.len_list (News.isList N hm) ?_ ?_
  · simp only [List.size_toArray]; omega
  · simpa only [List.size_toArray] using h
theorem two_keys {m : Str → Option Value} {a b : Str} {va vb : Value} (ha : m a = some va) (hb : m b = some vb) : ∃ u : Str → Option Value, m = fun y => if y = a then some va else if y = b then some vb else u y := by
  refine ⟨m, funext fun y => ?_⟩
  by_cases h1 : y = a
  · rw [if_pos h1, h1, ha]
  · rw [if_neg h1]
    by_cases h2 : y = b
    · rw [if_pos h2, h2, hb]
    · rw [if_neg h2]
end
section -- part L1
open Sem (wp)
set_option maxHeartbeats 8000000
theorem bytes_len : typeLookup (.type "bytes") "__len__" = pure (some (.builtin "bytes.__len__")) := by rw [typeLookup_type, builtinLookup_eq_fast]; kernel_rfl
section
variable {prog : Program} {w : World} {A : Around} {E : Value → Shared → Prop} {s : Shared}
abbrev ByteAt (b : Array UInt8) (i : Nat) (v : Value) : Prop := ∃ c u, b[i]? = some c ∧ v = .int (c.toNat : Int) u
theorem extend_bytes {R : Result → Shared → Prop} (hh : A.handled = none) (x : Array UInt8) (t : Tok) (S : Addr) (res : Value) (c₀ : Nat) (hS : s.heap.get? S = some { cls := .type "list", data := .seq #[] c₀ })
    (hR : ∀ h' tk acc' c', (∀ b o, b ≠ S → s.heap.get? b = some o → h'.get? b = some o) → h'.get? S = some { cls := .type "list", dict := none, data := .seq acc' c', slots := #[] } →
      ItemsOf (ByteAt x) acc' x.size → R (.ok (.ret res)) { s with heap := h', toks := tk }) (hn : x.size ≤ sizeLine) :
    wpAny (model prog w) A.in1 (Builtin.List.listExtendWith (.ref S) (.bytes x t) res)
      (fun fin s' => match fin with | .done f => R (.ok f) s' | .again c' => c'.quiet = true ∧ codeAny (model prog w) A c' R s') (fun e s' => R (.error e) s') s := by
  have hSI : S ≠ s.heap.objs.size := Nat.ne_of_lt (Heap.lt_size hS)
  have hSf : S ∉ [s.heap.objs.size] := fun hm => hSI (List.mem_singleton.mp hm)
  unfold Builtin.List.listExtendWith
  refine wpAny_bind (wpAny_typeOf (T := "bytes") (v := .bytes x t) rfl ?_)
  have h1 : Builtin.List.listSameRef (.ref S) (.bytes x t) = false := rfl
  have h2 : (Value.type "bytes" == Value.type "list") = false := by decide
  have h3 : (Value.type "bytes" == Value.type "tuple") = false := by decide
  simp only [h1, h2, h3, Bool.or_false, Bool.false_eq_true, if_false]
  refine wpAny_bind (KBw.pyIter_bytes ?_)
  refine wpAny_bind (wpAny_holding ?_)
  unfold Builtin.List.listLengthHint
  refine wpAny_bind (wpAny_specialOf (T := "bytes") (v := .bytes x t) rfl bytes_len ?_)
  wp_delta
  refine wpAny_bind (wpAny_isInstance (T := "bytes") (v := .bytes x t) (b := true) rfl (by rw [isSubtype_type]; kernel_rfl) ?_)
  show wpAny _ _ (typeOf (Value.bytes x t) >>= _) _ _ _
  refine wpAny_bind (wpAny_typeOf (T := "bytes") (v := .bytes x t) rfl ?_)
  refine wpAny_pure ?_
  rw [if_neg (by decide)]
  have W := KBw.walks (prog := prog) (w := w) (A := A.in1) hh s.heap.objs.size x t
  refine wpAny_pure ⟨plainId_quiet F.plain_extend_loop _, codeAny_extend_loopS W.toS hn _ hSf _ x.size 0 _ _ _ rfl (Nat.zero_le _) ⟨_, Heap.get?_push_size _ rfl, rfl, rfl⟩ (Heap.get?_push_of_some _ hS) (ItemsOf.nil _) fun s' acc' c' hm hS' hacc => ?_⟩
  rw [Moved.eq_with hm]
  refine hR s'.heap s'.toks acc' c' (fun b ob hb e => hm.heap b ob (fun hmem => ?_) (Heap.get?_push_of_some _ e)) hS' hacc
  rcases List.mem_cons.mp hmem with e' | hmem
  · exact hb e'
  · exact absurd (Heap.lt_size e) (by rw [List.mem_singleton.mp hmem]; exact Nat.lt_irrefl _)
theorem list_init_bytes {R : Result → Shared → Prop} (hh : A.handled = none) (x : Array UInt8) (t : Tok) (S : Addr) (hS : s.heap.get? S = some { cls := .type "list", data := .seq #[] })
    (hR : ∀ h' tk acc' c', (∀ b o, b ≠ S → s.heap.get? b = some o → h'.get? b = some o) → h'.get? S = some { cls := .type "list", dict := none, data := .seq acc' c', slots := #[] } →
      ItemsOf (ByteAt x) acc' x.size → R (.ok (.ret .none)) { s with heap := h', toks := tk }) (hn : x.size ≤ sizeLine) :
    wpAny (model prog w) A.in1 (Builtin.«list.__init__» ⟨[.ref S, .bytes x t], []⟩)
      (fun fin s' => match fin with | .done f => R (.ok f) s' | .again c' => c'.quiet = true ∧ codeAny (model prog w) A c' R s') (fun e s' => R (.error e) s') s := by
  show wpAny _ _ (do let old ← Builtin.List.listItems (.ref S); Builtin.List.listUpdate (.ref S) (fun _ => #[]); letGo old.toList.reverse; Builtin.List.listExtendWith (.ref S) (.bytes x t) .none) _ _ s
  refine wpAny_bind ?_
  unfold Builtin.List.listItems
  refine wpAny_bind (wpAny_seqItems hS rfl (wpAny_pure ?_))
  show wpAny _ _ (updateSeq S (fun _ => #[]) >>= fun _ => letGo (#[] : Array Value).toList.reverse >>= fun _ => Builtin.List.listExtendWith (.ref S) (.bytes x t) .none) _ _ s
  refine wpAny_bind (wpAny_updateSeq hS rfl ?_)
  have hS₂ := Heap.get?_update_self (Obj.mapSeq (fun _ => (#[] : Array Value))) hS rfl
  have oth : ∀ b o, b ≠ S → s.heap.get? b = some o → (s.heap.update S (Obj.mapSeq (fun _ => (#[] : Array Value)))).get? b = some o :=
    fun b o hb e => (Heap.get?_update_other _ _ (Ne.symm hb)).trans e
  refine wpAny_bind (wpAny_letGo ?_)
  refine extend_bytes (hn := hn) hh x t S .none _ hS₂ fun h' tk acc' c' hk hS' hacc => ?_
  exact hR h' tk acc' c' (fun b o hb e => hk b o hb (oth b o hb e)) hS' hacc
theorem call_list_bytes {Q : Value → Shared → Prop} (hh : A.handled = none) (x : Array UInt8) (t : Tok)
    (hQ : ∀ h' tk acc' c', (∀ b o, s.heap.get? b = some o → h'.get? b = some o) →
      h'.get? s.heap.objs.size = some { cls := .type "list", dict := none, data := .seq acc' c', slots := #[] } → ItemsOf (ByteAt x) acc' x.size → Q (.ref s.heap.objs.size) { s with heap := h', toks := tk }) (hn : x.size ≤ sizeLine) :
    wpAny (model prog w) A (call (.type "list") [.bytes x t]) Q E s := by
  refine callType_codes (Q₁ := fun obj s₁ => obj = .ref s.heap.objs.size ∧ s₁ = { s with heap := s.heap.push { cls := .type "list", data := .seq #[] } }) F.called_list (F.typeCall_list_1 _) F.entry_list_init
    (code_list_new _ ⟨rfl, rfl⟩) fun obj s₁ h₁ => ?_
  obtain ⟨rfl, rfl⟩ := h₁
  have hS : (s.heap.push { cls := .type "list", data := .seq #[] }).get? s.heap.objs.size = some { cls := .type "list", data := .seq #[] } := Heap.get?_push_size _ rfl
  refine ⟨⟨_, hS, rfl⟩, F.args_list_init_2 _ _, list_init_bytes (A := A.in1) (hn := hn) hh x t _ hS fun h' tk acc' c' hk hS' hacc => ?_⟩
  exact ⟨rfl, hQ h' tk acc' c' (fun b o e => hk b o (Nat.ne_of_lt (Heap.lt_size e)) (Heap.get?_push_of_some _ e)) hS' hacc⟩
theorem bytes_ints : ∀ (us : List Value) (l : List UInt8), us.length = l.length → (∀ (j : Nat) (v : Value), us[j]? = some v → ∃ c u, l[j]? = some c ∧ v = .int (c.toNat : Int) u) → IntsAre us (l.map fun c => (c.toNat : Int))
  | [], [], _, _ => IntsAre.nil
  | v :: r, c :: l, e, h => by
    obtain ⟨c', u, h1, rfl⟩ := h 0 v rfl
    obtain rfl : c = c' := by simpa using h1
    exact IntsAre.cons _ _ (bytes_ints r l (by simpa using e) fun j v hj => by simpa using h (j + 1) v (by simpa using hj))
theorem list_bytesK {h₀ : Heap} {L : Addr} {m : Str → Option Value} {news : List (Addr × Obj)} {x : Array UInt8} {t : Tok} {Q : Value → Shared → Prop} (F : Fr h₀ L s.heap m) (N : News h₀ L s.heap news) (hh : A.handled = none) (hn : x.size ≤ 1000)
    (h : ∀ D us c h' tk, Fr h₀ L h' m → News h₀ L h' ((D, listOf (List.toArray us) c) :: news) → (∀ p ∈ news, @LT.lt Nat _ p.1 D) → IntsAre us (KBw.bInts x) → Q (.ref D) { s with heap := h', toks := tk }) :
    wpAny (model prog w) A (call (.type "list") [.bytes x t]) Q E s := by
  refine call_list_bytes hh x t (fun h' tk acc c hk hD hI => ?_) (by rw [sizeLine_eq]; omega)
  have hD' : h'.get? s.heap.objs.size = some (listOf (List.toArray acc.toList) c) := by
    rw [Array.toArray_toList]
    exact hD
  refine h _ acc.toList c h' tk (F.keeps hk) (news_pushed F N hk hD' rfl) (fun p hp => Heap.lt_size (N p hp).1) (bytes_ints acc.toList x.toList (by rw [Array.length_toList, Array.length_toList]; exact hI.1) fun j v hj => ?_)
  obtain ⟨c, u, h1, h2⟩ := hI.2 j v (by rw [← hj, Array.getElem?_toList])
  exact ⟨c, u, by rw [Array.getElem?_toList]; exact h1, h2⟩
end
end
section -- part L2
set_option maxHeartbeats 8000000
section
variable {w : World} {A : Around} {E : Value → Shared → Prop} {s : Shared} {h₀ : Heap} {L : Addr} {m : Str → Option Value} {news : List (Addr × Obj)}
theorem getWhy44 {e d : Addr} {oe : Obj} {msg : Str} {k0 k1 k2 k3 : Tok} {expr : Bool} {Q : Value → Shared → Prop} (F : Fr h₀ L s.heap m) (X₀ : (hd.heap_1 w.params).In h₀) (N : News h₀ L s.heap news)
    (h1 : (e, oe) ∈ news) (h2 : (d, excDict w msg k0 k1 k2 k3) ∈ news) (hc : oe.cls = .ref 44) (hdd : oe.dict = some d) (hn : notCls oe = true) (h : Q (.str msg k0) { s with toks := s.toks + 1 }) :
    wpAny (model PySem.Challenge.rw_pf0328_01.row.prog w) A (getAttr (.ref e) (Str.ofString "why") expr) Q E s   := by
  revert X₀
  k_fill
  intro X₀
  have I : InstAt s.heap e oe 44 (some (excDict w msg k0 k1 k2 k3)) := ⟨(N _ h1).1, hc, hn, by rw [hdd]; exact (N _ h2).1⟩
  exact getExc F X₀ I (findObj_own (attr := none) (by k_is) (by k_is) (by k_is) rfl) (by k_is) (by k_is) (by k_is) rfl h
theorem getWhy56 {e d : Addr} {oe : Obj} {msg : Str} {k0 k1 k2 k3 : Tok} {expr : Bool} {Q : Value → Shared → Prop} (F : Fr h₀ L s.heap m) (X₀ : (hd.heap_1 w.params).In h₀) (N : News h₀ L s.heap news)
    (h1 : (e, oe) ∈ news) (h2 : (d, excDict w msg k0 k1 k2 k3) ∈ news) (hc : oe.cls = .ref 56) (hdd : oe.dict = some d) (hn : notCls oe = true) (h : Q (.str msg k0) { s with toks := s.toks + 1 }) :
    wpAny (model PySem.Challenge.rw_pf0328_01.row.prog w) A (getAttr (.ref e) (Str.ofString "why") expr) Q E s   := by
  revert X₀
  k_fill
  intro X₀
  have I : InstAt s.heap e oe 56 (some (excDict w msg k0 k1 k2 k3)) := ⟨(N _ h1).1, hc, hn, by rw [hdd]; exact (N _ h2).1⟩
  exact getExc F X₀ I (findObj_own (attr := none) (by k_is) (by k_is) (by k_is) rfl) (by k_is) (by k_is) (by k_is) rfl h
end
end


section -- part G3
set_option maxHeartbeats 8000000

theorem fdiv_zero {x : Int} {n : Nat} (b : Int) (hb : (2 : Int) ^ n = b) (hp : 0 < b) : x.fdiv (2 ^ n) = 0 ↔ 0 ≤ x ∧ x < b := by
  rw [hb, Int.fdiv_eq_ediv_of_nonneg _ (Int.le_of_lt hp)]
  constructor
  · intro h
    have := Int.emod_nonneg x (Int.ne_of_gt hp)
    have h2 := Int.emod_lt_of_pos x hp
    have h3 := Int.emod_add_mul_ediv x b
    rw [h, Int.mul_zero, Int.add_zero] at h3
    omega
  · intro h
    exact Int.ediv_eq_zero_of_lt h.1 h.2
theorem tag_any {g : Tag} : ([33024, 34984].any fun x : Int => x == g.1) = true ↔ g.1 = 33024 ∨ g.1 = 34984 := by
  simp only [List.any_cons, List.any_nil, Bool.or_false, Bool.or_eq_true, beq_iff_eq]
  constructor
  · rintro (h | h)
    · exact .inl h.symm
    · exact .inr h.symm
  · rintro (h | h)
    · exact .inl h.symm
    · exact .inr h.symm
theorem tag_no1 {g : Tag} (h : ([33024, 34984].any fun x : Int => x == g.1) = false) : ¬ tagOk g := fun q => by rw [tag_any.mpr q.1] at h; cases h
theorem tag_no2 {g : Tag} (h : g.2.1.fdiv (2 ^ Int.toNat 3) ≠ 0) : ¬ tagOk g := fun q => h ((fdiv_zero 8 (by decide) (by decide)).mpr ⟨q.2.1.1, by have := q.2.1.2; omega⟩)
theorem tag_no3 {g : Tag} (h : g.2.2.1.fdiv (2 ^ Int.toNat 1) ≠ 0) : ¬ tagOk g := fun q => h ((fdiv_zero 2 (by decide) (by decide)).mpr ⟨q.2.2.1.1, by have := q.2.2.1.2; omega⟩)
theorem tag_no4 {g : Tag} (h : g.2.2.2.fdiv (2 ^ Int.toNat 12) ≠ 0) : ¬ tagOk g := fun q => h ((fdiv_zero 4096 (by decide) (by decide)).mpr ⟨q.2.2.2.1, by have := q.2.2.2.2; omega⟩)
theorem tag_yes {g : Tag} (h1 : ([33024, 34984].any fun x : Int => x == g.1) = true) (h2 : g.2.1.fdiv (2 ^ Int.toNat 3) = 0) (h3 : g.2.2.1.fdiv (2 ^ Int.toNat 1) = 0) (h4 : g.2.2.2.fdiv (2 ^ Int.toNat 12) = 0) : tagOk g := by
  have q2 := (fdiv_zero (n := Int.toNat 3) 8 (by decide) (by decide)).mp h2
  have q3 := (fdiv_zero (n := Int.toNat 1) 2 (by decide) (by decide)).mp h3
  have q4 := (fdiv_zero (n := Int.toNat 12) 4096 (by decide) (by decide)).mp h4
  exact ⟨tag_any.mp h1, ⟨q2.1, by omega⟩, ⟨q3.1, by omega⟩, ⟨q4.1, by omega⟩⟩
theorem dueFrame_addr {t s k : Int} {gs : List Tag} (h : ¬(addrOk t ∧ addrOk s)) : dueFrame t s gs k = (unfit, []) := by unfold dueFrame; rw [if_pos h]
theorem dueFrame_tag {t s k : Int} {gs : List Tag} (h : addrOk t ∧ addrOk s) {g : Tag} (hg : g ∈ gs) (hn : ¬ tagOk g) : dueFrame t s gs k = (noTag, []) := by
  unfold dueFrame; rw [if_neg fun q => q h, if_pos fun q => hn (q g hg)]
theorem dueFrame_kind {t s k : Int} {gs : List Tag} (h : addrOk t ∧ addrOk s) (hg : ∀ g ∈ gs, tagOk g) (hk : ¬ (0 ≤ k ∧ k ≤ 65535)) : dueFrame t s gs k = (unfit, []) := by
  unfold dueFrame; rw [if_neg fun q => q h, if_neg fun q => q hg, if_pos hk]
theorem dueFrame_ok {t s k : Int} {gs : List Tag} (h : addrOk t ∧ addrOk s) (hg : ∀ g ∈ gs, tagOk g) (hk : 0 ≤ k ∧ k ≤ 65535) : dueFrame t s gs k = (Str.ofString "", rowOf (frameWhole t s gs * 65536 + k) (14 + 4 * gs.length)) := by
  unfold dueFrame; rw [if_neg fun q => q h, if_neg fun q => q hg, if_neg fun q => q hk]
theorem bits_tag {g : Tag} (h : tagOk g) : Builtin.bitOr (Builtin.bitOr (g.2.1 * 2 ^ Int.toNat 13) (g.2.2.1 * 2 ^ Int.toNat 12)) g.2.2.2 = tagNum g := by
  obtain ⟨_, ⟨h1, h2⟩, ⟨h3, h4⟩, h5, h6⟩ := h
  show Builtin.bitOr (Builtin.bitOr (g.2.1 * 2 ^ 13) (g.2.2.1 * 2 ^ 12)) g.2.2.2 = tagNum g
  rw [or_add h1 (by omega) (by omega), show g.2.1 * 2 ^ 13 + g.2.2.1 * 2 ^ 12 = (2 * g.2.1 + g.2.2.1) * 2 ^ 12 by omega, or_add (by omega) h5 (by omega)]
  unfold tagNum
  omega
theorem bits_in {g : Tag} (h : tagOk g) : 0 ≤ Builtin.bitOr (Builtin.bitOr (g.2.1 * 2 ^ Int.toNat 13) (g.2.2.1 * 2 ^ Int.toNat 12)) g.2.2.2 ∧ Builtin.bitOr (Builtin.bitOr (g.2.1 * 2 ^ Int.toNat 13) (g.2.2.1 * 2 ^ Int.toNat 12)) g.2.2.2 < 65536 := by
  rw [bits_tag h]; exact tagNum_in h
theorem kind_in {g : Tag} (h : tagOk g) : 0 ≤ g.1 ∧ g.1 < 65536 := by
  obtain ⟨q, _⟩ := h
  omega
theorem dueFrame_octets {t s k : Int} {gs : List Tag} (h : addrOk t ∧ addrOk s) (hg : ∀ g ∈ gs, tagOk g) (h0 : 0 ≤ k) (h1 : k < 65536) {b c : Array UInt8} (hb : KBw.bInts b = rowOf (frameWhole t s gs) (12 + 4 * gs.length)) (hc : KBw.bInts c = rowOf k 2) : dueFrame t s gs k = (Str.ofString "", KBw.bInts (b ++ c)) := by
  rw [dueFrame_ok h hg ⟨h0, by omega⟩, KBw.ints_app hb hc, ← row_app _ _ _ _ h0 (by omega), show 14 + 4 * gs.length = 12 + 4 * gs.length + 2 by omega]
  rfl
theorem take_ok {gs : List Tag} {i : Nat} {g : Tag} (h : ∀ g ∈ gs.take i, tagOk g) (hg : gs[i]? = some g) (ho : tagOk g) : gs.take (i + 1) = gs.take i ++ [g] ∧ ∀ g ∈ gs.take (i + 1), tagOk g := by
  have e : gs.take (i + 1) = gs.take i ++ [g] := by rw [List.take_add_one, hg]; rfl
  refine ⟨e, ?_⟩
  rw [e]
  intro x hx
  rcases List.mem_append.mp hx with hx | hx
  · exact h x hx
  · rw [List.mem_singleton] at hx; rw [hx]; exact ho







abbrev etherDict (h0 h1 h2 h3 : Int) (k0 k1 k2 k3 t0 t1 t3 : Tok) (t s : Int) (l : Addr) (k : Int) : Obj := dictOf [⟨h0, .str "target" k0, .int t t0⟩, ⟨h1, .str "source" k1, .int s t1⟩, ⟨h2, .str "tags" k2, .ref l⟩, ⟨h3, .str "kind" k3, .int k t3⟩] 4
theorem con_wether (w : World) (x dx l : Addr) (h0 h1 h2 h3 : Int) (k0 k1 k2 k3 t0 t1 t3 : Tok) (tv sv kv : Int) (vs : List Value) (nn : Nat) (gs : List Tag) (news : List (Addr × Obj)) (hm : (l, listOf vs.toArray nn) ∈ news) (hdat : DatAll news vs (gs.map tagDat)) (hgs : gs.length ≤ 100) :
    ConX w 105 6 ((x, instObj 87 dx) :: (dx, etherDict h0 h1 h2 h3 k0 k1 k2 k3 t0 t1 t3 tv sv l kv) :: news) [.ref x] (fun _ => True)
      (fun r n' => n' = (x, instObj 87 dx) :: (dx, etherDict h0 h1 h2 h3 k0 k1 k2 k3 t0 t1 t3 tv sv l kv) :: news ∧ ∃ b t', r = .bytes b t' ∧ dueFrame tv sv gs kv = (Str.ofString "", KBw.bInts b))
      (XExc w 44 (fun msg => dueFrame tv sv gs kv = (msg, [])) news) := by
  unfold ConX
  k_fill
  intro mean mg mb dp un gd cn cs a ccd outer A₀ base h₀ L m s Q E B F X N T hk hpre hd hu hret hexc
  refine wpAny_call ?_
  k_dflt (first | cell_enter | (refine' code_defC ?k1 ?k2 ?k3 ?k4 ?k5 ?kA ?kF ?kK ?k6 ?k7 ?k8 ?k9 ?kB ?kD ?_ ?c2 ?c3 ?c4; (case kA => exact rfl); (case kF => exact rfl); (case kK => assumption); (case k1 => k_asm); (case k2 => k_asm); (case k3 => k_asm); (case k4 => k_asm); (case k5 => k_asm); (case k6 => k_is); (case k7 => k_is); (case k8 => ktr_room); (case k9 => exact BindsTo.of_eq rfl); (case kB => exact rfl); (case kD => decide +kernel); (case c2 => exact rfl); (case c3 => exact rfl); (case c4 => exact rfl); k_whole; intro g' L' h' tk' cells' FG' F' N' Y' B' X' T' l1; (try k_lt l1); k_cells Y'; (try simp only [List.cons_append, List.nil_append] at N'); (try dsimp only); (try k_lift B'); (try k_fold)))
  repeat' (first | with_reducible (k_here; (with_reducible show wpAny _ _ (binaryOp Operator.Add (Value.bytes _ _) (Value.bytes _ _)) _ _ _); k_dflt (apply KBy.add_bytes; (case hsz => ((try simp only [Array.size_append]); omega))); intro t' k'; (try k_sweep)) | with_reducible (k_here; (with_reducible show wpAny _ _ (call (Value.ref 70) _) _ _ _); k_dflt ((first | apply con_oct2 | apply con_oct4 | apply con_oct6); ((case cN => k_asm); (case cF => k_asm); (case cB => k_asm); (case cX => k_asm); (case cT => k_asm); (try ((case cXB => assumption); (case cTB => assumption); (case cKD => assumption); (case cT0 => first | assumption | exact KtsTurn.refl))); (case cK => first | exact rfl | assumption); (try case hm => (first | kbu_src | k_mem)); (try case hx => (first | kbu_src | k_mem)); (try case hxd => (first | kbu_src | k_mem)); (try case hi => with_reducible assumption); (try case ho => (with_reducible assumption)); (try case hdat => (first | with_reducible assumption | (refine DatAll.mono ?_ (by with_reducible assumption); (repeat' (first | with_reducible exact subRefl | with_reducible exact subNil | with_reducible assumption | (refine subCons ?_ ?_; focus kbu_src) | refine subTail ?_))))); (try case hz => (first | omega | exact ⟨by omega, by omega⟩)); (case cP => (first | trivial | decide | omega | exact ⟨by decide, by decide⟩ | exact ⟨by with_reducible assumption, by with_reducible assumption, by omega, by omega⟩)); (case cD => ktr_room); (case cU => ktr_units)); ((case' exc => ((first | refine XExc.out ?_ | refine XSay.out ?_); intros; (try dsimp only))); (case' ret => (first | (refine ROct.out ?_; intros; (try dsimp only); (try k_sweep)) | ((first | refine RExc.out ?_ | refine RInt.out ?_ | refine RVal.out ?_ | refine RLst.out ?_ | refine ROcts.out ?_); intros; (try dsimp only); (try k_sweep))))))) | with_reducible (k_here; (with_reducible show wpAny _ _ (leaving _ (Value.ref _)) _ _ _); k_dflt (apply leave_onD; (case R => assumption); (case F => assumption); (case K => assumption); (case D => assumption); (case hsm => assumption); k_whole); intro h' R' D' U'; (try dsimp only at R' U' ⊢)) | (k_unfold; (try dsimp only)) | (k_end; wrow_close) | walk1 | (dsimp only; walk1) | (leave1; walk_say "STEP leave1"; try dsimp only))
  · have hadr : addrOk tv ∧ addrOk sv := ⟨⟨by assumption, by omega⟩, by assumption, by omega⟩
    refine' For_tuples ?F ?h ?hs
    (case F => k_asm)
    (case hs => (intro _; with_unfolding_all rfl))
    repeat' (first | (k_unfold; (try dsimp only)) | (k_end; wrow_close) | walk1 | (dsimp only; walk1) | (leave1; walk_say "STEP leave1"; try dsimp only))
    unfold Stop
    refine (ex6 _ _ _ _ _ ((fun i m nx => nx = (x, instObj 87 dx) :: (dx, etherDict h0 h1 h2 h3 k0 k1 k2 k3 t0 t1 t3 tv sv l kv) :: news ∧ ∃ (b : Array UInt8) (t' : Tok), m (Str.ofString "octets") = some (.bytes b t') ∧ m (Str.ofString "ether") = some (.ref x) ∧ KBw.bInts b = rowOf (frameWhole tv sv (gs.take i)) (12 + 4 * i) ∧ (∀ g ∈ gs.take i, tagOk g))) ⟨rfl, rfl, (List.mem_cons_of_mem _ (List.mem_cons_of_mem _ hm)), by k_asm, by k_asm, ?start, ?turn, ?done⟩)
    (case start => exact ⟨rfl, _, _, rfl, rfl, (KBw.ints_app (by assumption) (by assumption)).trans (head_row hadr.2), fun _ h => nomatch h⟩)
    (case done =>
      intro m' nx h' tk hJ F' N'
      refine gbox ?_
      intro G9 hG9
      obtain ⟨rfl, b, t', hm1, hm2, hb, hok⟩ := hJ
      obtain ⟨u, rfl⟩ := two_keys hm1 hm2
      clear hm1 hm2
      have hlen := datAll_len hdat
      have hbs : b.size = 12 + 4 * vs.length := by rw [← KBw.ints_length, hb, rowOf_length]
      rw [hlen, List.take_length] at hb hok
      refine hG9 ?_
      repeat' (first | with_reducible (k_here; (with_reducible show wpAny _ _ (binaryOp Operator.Add (Value.bytes _ _) (Value.bytes _ _)) _ _ _); k_dflt (apply KBy.add_bytes; (case hsz => ((try simp only [Array.size_append]); omega))); intro t' k'; (try k_sweep)) | with_reducible (k_here; (with_reducible show wpAny _ _ (call (Value.ref 70) _) _ _ _); k_dflt ((first | apply con_oct2 | apply con_oct4 | apply con_oct6); ((case cN => k_asm); (case cF => k_asm); (case cB => k_asm); (case cX => k_asm); (case cT => k_asm); (try ((case cXB => assumption); (case cTB => assumption); (case cKD => assumption); (case cT0 => first | assumption | exact KtsTurn.refl))); (case cK => first | exact rfl | assumption); (try case hm => (first | kbu_src | k_mem)); (try case hx => (first | kbu_src | k_mem)); (try case hxd => (first | kbu_src | k_mem)); (try case hi => with_reducible assumption); (try case ho => (with_reducible assumption)); (try case hdat => (first | with_reducible assumption | (refine DatAll.mono ?_ (by with_reducible assumption); (repeat' (first | with_reducible exact subRefl | with_reducible exact subNil | with_reducible assumption | (refine subCons ?_ ?_; focus kbu_src) | refine subTail ?_))))); (try case hz => (first | omega | exact ⟨by omega, by omega⟩)); (case cP => (first | trivial | decide | omega | exact ⟨by decide, by decide⟩ | exact ⟨by with_reducible assumption, by with_reducible assumption, by omega, by omega⟩)); (case cD => ktr_room); (case cU => ktr_units)); ((case' exc => ((first | refine XExc.out ?_ | refine XSay.out ?_); intros; (try dsimp only))); (case' ret => (first | (refine ROct.out ?_; intros; (try dsimp only); (try k_sweep)) | ((first | refine RExc.out ?_ | refine RInt.out ?_ | refine RVal.out ?_ | refine RLst.out ?_ | refine ROcts.out ?_); intros; (try dsimp only); (try k_sweep))))))) | with_reducible (k_here; (with_reducible show wpAny _ _ (leaving _ (Value.ref _)) _ _ _); k_dflt (apply leave_onD; (case R => assumption); (case F => assumption); (case K => assumption); (case D => assumption); (case hsm => assumption); k_whole); intro h' R' D' U'; (try dsimp only at R' U' ⊢)) | (k_unfold; (try dsimp only)) | (k_end; wrow_close) | walk1 | (dsimp only; walk1) | (leave1; walk_say "STEP leave1"; try dsimp only))
      all_goals first
        | exact con_ret hret _ (by k_asm) (newsDrop (by k_asm) (by (repeat' (first | with_reducible exact subRefl | with_reducible exact subNil | with_reducible assumption | (refine subCons ?_ ?_; focus (first | with_reducible assumption | (with_reducible (repeat (first | exact List.mem_cons_self | assumption | refine List.mem_cons_of_mem _ ?_)); done))) | refine subTail ?_)))) ⟨rfl, _, _, rfl, dueFrame_octets hadr hok (by with_reducible assumption) (by with_reducible assumption) hb (by with_reducible assumption)⟩
        | exact conX_exc hexc (by with_reducible assumption) (by with_reducible assumption) (by with_reducible assumption) (by with_reducible assumption) (.mk ((by first | (refine subTrans ?_ (by with_reducible assumption); (repeat' (first | with_reducible exact subRefl | with_reducible exact subNil | with_reducible assumption | (refine subCons ?_ ?_; focus (first | with_reducible assumption | (with_reducible (repeat (first | exact List.mem_cons_self | assumption | refine List.mem_cons_of_mem _ ?_)); done))) | refine subTail ?_)); done) | ((repeat' (first | with_reducible exact subRefl | with_reducible exact subNil | with_reducible assumption | (refine subCons ?_ ?_; focus (first | with_reducible assumption | (with_reducible (repeat (first | exact List.mem_cons_self | assumption | refine List.mem_cons_of_mem _ ?_)); done))) | refine subTail ?_)); done))) (dueFrame_kind hadr hok (by omega)) (by (first | with_reducible assumption | (with_reducible (repeat (first | exact List.mem_cons_self | assumption | refine List.mem_cons_of_mem _ ?_)); done) | k_mem))))
    intro I oI i v m₁ nx h tk hv hJ hl hne F N
    refine gbox ?_
    intro G9 hG9
    obtain ⟨rfl, b, t', hm1, hm2, hb, hok⟩ := hJ
    obtain ⟨u, rfl⟩ := two_keys hm1 hm2
    clear hm1 hm2
    have hi : i < vs.length := (List.getElem?_eq_some_iff.mp hv).1
    have hlen := datAll_len hdat
    have hbs : b.size = 12 + 4 * i := by rw [← KBw.ints_length, hb, rowOf_length]
    obtain ⟨g, hg, hdg⟩ := datAll_get hdat hv
    obtain ⟨D, a0, a1, a2, a3, n, rfl, hD⟩ := tagDat_inv hdg
    have hT : IsTup h D #[.int g.1 a0, .int g.2.1 a1, .int g.2.2.1 a2, .int g.2.2.2 a3] := ⟨_, N.get (List.mem_cons_of_mem _ (List.mem_cons_of_mem _ (List.mem_cons_of_mem _ hD))), rfl, n, rfl⟩
    have hC : CondIs 47 (¬ tagOk g) := .mk
    refine hG9 ?_
    repeat' (first | with_reducible (k_here; (with_reducible show wpAny _ _ (binaryOp Operator.LShift (Value.int _ _) (Value.int _ _)) _ _ _); k_dflt (apply lshift_int_small; (case hn => decide); (case hn2 => decide); (case ha => omega))) | with_reducible (k_here; (with_reducible show wpAny _ _ (binaryOp Operator.Add (Value.bytes _ _) (Value.bytes _ _)) _ _ _); k_dflt (apply KBy.add_bytes; (case hsz => ((try simp only [Array.size_append]); omega))); intro t' k'; (try k_sweep)) | with_reducible (k_here; (with_reducible show wpAny _ _ (call (Value.ref 70) _) _ _ _); k_dflt ((first | apply con_oct2 | apply con_oct4 | apply con_oct6); ((case cN => k_asm); (case cF => k_asm); (case cB => k_asm); (case cX => k_asm); (case cT => k_asm); (try ((case cXB => assumption); (case cTB => assumption); (case cKD => assumption); (case cT0 => first | assumption | exact KtsTurn.refl))); (case cK => first | exact rfl | assumption); (try case hm => (first | kbu_src | k_mem)); (try case hx => (first | kbu_src | k_mem)); (try case hxd => (first | kbu_src | k_mem)); (try case hi => with_reducible assumption); (try case ho => (with_reducible assumption)); (try case hdat => (first | with_reducible assumption | (refine DatAll.mono ?_ (by with_reducible assumption); (repeat' (first | with_reducible exact subRefl | with_reducible exact subNil | with_reducible assumption | (refine subCons ?_ ?_; focus kbu_src) | refine subTail ?_))))); (try case hz => (first | omega | exact ⟨by omega, by omega⟩)); (case cP => (first | trivial | decide | omega | exact ⟨by decide, by decide⟩ | exact ⟨by with_reducible assumption, by with_reducible assumption, by omega, by omega⟩)); (case cD => ktr_room); (case cU => ktr_units)); ((case' exc => ((first | refine XExc.out ?_ | refine XSay.out ?_); intros; (try dsimp only))); (case' ret => (first | (refine ROct.out ?_; intros; (try dsimp only); (try k_sweep)) | ((first | refine RExc.out ?_ | refine RInt.out ?_ | refine RVal.out ?_ | refine RLst.out ?_ | refine ROcts.out ?_); intros; (try dsimp only); (try k_sweep))))))) | with_reducible (k_here; (with_reducible show wpAny _ _ (isTrue (Expr.Compare _ _ _ _) _ _) _ _ _); dsimp only) | with_reducible (k_here; (with_reducible show wpAny _ _ (exec (Stmt.If _ _ _ _) _) _ _ _); k_dflt (apply If_cond; (case _C => assumption); (case _F => k_asm); (case _N => k_asm); k_whole; rotate_left; (intro c' h' tk' F' N'; (try dsimp only)); rotate_left; (intro c' h' tk' F' N'; (try dsimp only); (try (have c2 := Classical.not_not.mp c'; obtain ⟨p1, ⟨p2, p3⟩, ⟨p4, p5⟩, ⟨p6, p7⟩⟩ := id c2))); rotate_left)) | with_reducible (k_here; (with_reducible show wpAny _ _ (call (Value.ref _) _) _ _ _); k_dflt ((first | ((with_reducible show wpAny _ _ (call (Value.ref 44) _) _ _ _); apply con_exc44) | ((with_reducible show wpAny _ _ (call (Value.ref 56) _) _ _ _); apply con_exc56)); ((case cN => k_asm); (case cF => k_asm); (case cB => k_asm); (case cX => k_asm); (case cT => k_asm); (try ((case cXB => assumption); (case cTB => assumption); (case cKD => assumption); (case cT0 => first | assumption | exact KtsTurn.refl))); (case cK => first | exact rfl | assumption); (try case hm => (first | kbu_src | k_mem)); (try case hx => (first | kbu_src | k_mem)); (try case hxd => (first | kbu_src | k_mem)); (try case hi => with_reducible assumption); (try case ho => (with_reducible assumption)); (try case hdat => (first | with_reducible assumption | (refine DatAll.mono ?_ (by with_reducible assumption); (repeat' (first | with_reducible exact subRefl | with_reducible exact subNil | with_reducible assumption | (refine subCons ?_ ?_; focus kbu_src) | refine subTail ?_))))); (try case hz => (first | omega | exact ⟨by omega, by omega⟩)); (case cP => (first | trivial | decide | omega | exact ⟨by decide, by decide⟩ | exact ⟨by with_reducible assumption, by with_reducible assumption, by omega, by omega⟩)); (case cD => ktr_room); (case cU => ktr_units)); (first | (refine ROct.out ?_; intros; (try dsimp only); (try k_sweep)) | ((first | refine RExc.out ?_ | refine RInt.out ?_ | refine RVal.out ?_ | refine RLst.out ?_ | refine ROcts.out ?_); intros; (try dsimp only); (try k_sweep))))) | with_reducible (k_here; (with_reducible show wpAny _ _ (leaving _ (Value.ref _)) _ _ _); k_dflt (apply leave_onD; (case R => assumption); (case F => assumption); (case K => assumption); (case D => assumption); (case hsm => assumption); k_whole); intro h' R' D' U'; (try dsimp only at R' U' ⊢)) | with_reducible (k_here; (with_reducible show wpAny _ _ (leaving _ (Value.ref _)) _ _ _); k_dflt (apply leave_raiseE; (case hf => exact rfl); (case F => k_asm); (case N => k_asm); (case K => k_asm); (case l1 => (show @LT.lt Nat _ _ _; omega)); (case l2 => (show @LT.lt Nat _ _ _; omega)); (case l3 => (show @LT.lt Nat _ _ _; omega)); (case l4 => assumption); (try case hk => with_unfolding_all rfl); k_whole); intro h' R' D' U'; (try dsimp only at R' U' ⊢)) | with_reducible (k_here; (with_reducible show RaiseGo _ _ _); k_dflt (apply raiseGo_; (case F => k_asm); (case X => k_asm); (case N => k_asm); (case he => k_mem); (case hC => k_is); (case hb => decide); k_whole)) | with_reducible (k_here; (with_reducible show wpAny _ _ (exec (Stmt.Raise (some (Expr.Call (Expr.Name _ _) (_ :: _) [] _)) none _) _) _ _ _); k_dflt (apply Raise_exc; (case hh => first | exact rfl | assumption))) | (k_unfold; (try dsimp only)) | (k_end; wrow_close) | walk1 | (dsimp only; walk1) | (leave1; walk_say "STEP leave1"; try dsimp only))
    all_goals (try dsimp only)
    all_goals first
    | exact (CondAt.mk (by first | exact ⟨fun _ => tag_no1 (by with_reducible assumption), fun _ => rfl⟩ | exact ⟨fun _ => tag_no2 (by with_reducible assumption), fun _ => rfl⟩ | exact ⟨fun _ => tag_no3 (by with_reducible assumption), fun _ => rfl⟩ | exact ⟨fun _ => tag_no4 (by with_reducible assumption), fun _ => rfl⟩ | exact ⟨(fun h => nomatch h), fun h => (h (tag_yes (by with_reducible assumption) (by with_reducible assumption) (by with_reducible assumption) (by with_reducible assumption))).elim⟩) (by k_asm) (by k_asm) (by (repeat' (first | with_reducible exact subRefl | with_reducible exact subNil | with_reducible assumption | (refine subCons ?_ ?_; focus (first | with_reducible assumption | (with_reducible (repeat (first | exact List.mem_cons_self | assumption | refine List.mem_cons_of_mem _ ?_)); done))) | refine subTail ?_))))
    | exact conX_exc hexc (by with_reducible assumption) (by with_reducible assumption) (by with_reducible assumption) (by with_reducible assumption) (.mk ((by first | (refine subTrans ?_ (by with_reducible assumption); (repeat' (first | with_reducible exact subRefl | with_reducible exact subNil | with_reducible assumption | (refine subCons ?_ ?_; focus (first | with_reducible assumption | (with_reducible (repeat (first | exact List.mem_cons_self | assumption | refine List.mem_cons_of_mem _ ?_)); done))) | refine subTail ?_)); done) | ((repeat' (first | with_reducible exact subRefl | with_reducible exact subNil | with_reducible assumption | (refine subCons ?_ ?_; focus (first | with_reducible assumption | (with_reducible (repeat (first | exact List.mem_cons_self | assumption | refine List.mem_cons_of_mem _ ?_)); done))) | refine subTail ?_)); done))) (dueFrame_tag hadr (List.mem_of_getElem? hg) (by with_reducible assumption)) (by (first | with_reducible assumption | (with_reducible (repeat (first | exact List.mem_cons_self | assumption | refine List.mem_cons_of_mem _ ?_)); done) | k_mem)))
    | (have c2 : tagOk g := by assumption
       first
       | exact absurd (kind_in c2) (by with_reducible assumption)
       | exact absurd (bits_in c2) (by with_reducible assumption)
       | (obtain ⟨e1, e2⟩ := take_ok hok hg c2
          exact (TEnd.mk (by k_asm) (by k_asm) (fun p hp => hp) hne hl ⟨rfl, _, _, rfl, rfl, (KBw.ints_app (KBw.ints_app hb (by with_reducible assumption)) (by with_reducible assumption)).trans (by rw [bits_tag c2, e1, List.append_assoc, tag_row _ c2, show 12 + 4 * (i + 1) = 12 + 4 * i + 4 by omega]), e2⟩)))
  all_goals first
    | exact conX_exc hexc (by with_reducible assumption) (by with_reducible assumption) (by with_reducible assumption) (by with_reducible assumption) (.mk ((by first | (refine subTrans ?_ (by with_reducible assumption); (repeat' (first | with_reducible exact subRefl | with_reducible exact subNil | with_reducible assumption | (refine subCons ?_ ?_; focus (first | with_reducible assumption | (with_reducible (repeat (first | exact List.mem_cons_self | assumption | refine List.mem_cons_of_mem _ ?_)); done))) | refine subTail ?_)); done) | ((repeat' (first | with_reducible exact subRefl | with_reducible exact subNil | with_reducible assumption | (refine subCons ?_ ?_; focus (first | with_reducible assumption | (with_reducible (repeat (first | exact List.mem_cons_self | assumption | refine List.mem_cons_of_mem _ ?_)); done))) | refine subTail ?_)); done))) (dueFrame_addr (by rintro ⟨⟨_, _⟩, _, _⟩; omega)) (by (first | with_reducible assumption | (with_reducible (repeat (first | exact List.mem_cons_self | assumption | refine List.mem_cons_of_mem _ ?_)); done) | k_mem)))
end

section -- part G5
set_option maxHeartbeats 8000000

/-- a call after which the frames below may stand turned -/
def ConS (w : World) (f : Addr) (dep : Nat) (news : List (Addr × Obj)) (vs : List Value) (Pre : Heap → Prop) (R : Value → List (Addr × Obj) → Prop) : Prop :=
  ∀ (mean : ExcName → Option Value) (mg mb : Str → Option Value) (dp un : Nat) (gd : Option (List Code)) (cn : Str) (cs : Scope) (a : Addr) (ccd : Value) (cl : List (Str × Addr)) (outer : List Env) (A₀ : Around) (base g₀ h₀ : Heap) (L : Addr) (m : Str → Option Value) (s : Shared) (Q E : Value → Shared → Prop),
    (cB : Below A₀ base outer h₀) → (cF : Fr h₀ L s.heap m) → (cX : (hd.heap_1 w.params).In h₀) → (cN : News h₀ L s.heap news) → (cT : Top Vw (looseW Vw []) mean mg mb h₀) → (cXB : (hd.heap_1 w.params).In base) → (cTB : Top Vw (looseW Vw []) mean mg mb base) → (cKD : KtsDicts (outer.filterMap (·.frame)) h₀) → (cT0 : KtsTurn (outer.filterMap (·.frame)) g₀ h₀) → (cK : cs.kind = .function) → (cP : Pre base) → (cD : dp + dep < recursionLimit) → (cU : un + 8 * dep < cLine) →
    (ret : ∀ r news', R r news' → ∀ h' tk' h₁, KtsTurn (outer.filterMap (·.frame)) g₀ h₁ → Fr h₁ L h' m → News h₁ L h' news' → Below A₀ base outer h₁ → (hd.heap_1 w.params).In h₁ → Top Vw (looseW Vw []) mean mg mb h₁ → KtsDicts (outer.filterMap (·.frame)) h₁ → Q r { s with heap := h', toks := tk' }) →
    wpAny (model PySem.Challenge.rw_pf0328_01.row.prog w) (ktrTop dp un gd cn cs L a ccd cl outer) (call (.ref f) vs) Q E s
theorem conS_ret {w : World} {A₀ : Around} {base g₀ : Heap} {outer : List Env} {L : Addr} {m : Str → Option Value} {mean : ExcName → Option Value} {mg mb : Str → Option Value} {s : Shared} {Q : Value → Shared → Prop} {R : Value → List (Addr × Obj) → Prop}
    (hret : ∀ r news', R r news' → ∀ h' tk' h₁, KtsTurn (outer.filterMap (·.frame)) g₀ h₁ → Fr h₁ L h' m → News h₁ L h' news' → Below A₀ base outer h₁ → (hd.heap_1 w.params).In h₁ → Top Vw (looseW Vw []) mean mg mb h₁ → KtsDicts (outer.filterMap (·.frame)) h₁ → Q r { s with heap := h', toks := tk' })
    {r : Value} {news' : List (Addr × Obj)} {h' h₁ : Heap} {tk' : Nat} (T0 : KtsTurn (outer.filterMap (·.frame)) g₀ h₁) (F : Fr h₁ L h' m) (N : News h₁ L h' news') (B : Below A₀ base outer h₁) (X : (hd.heap_1 w.params).In h₁) (T : Top Vw (looseW Vw []) mean mg mb h₁) (D : KtsDicts (outer.filterMap (·.frame)) h₁) (hR : R r news') : Q r { s with heap := h', toks := tk' } :=
  hret r news' hR h' tk' h₁ T0 F N B X T D
theorem dueFrame_len (t s k : Int) (gs : List Tag) : (dueFrame t s gs k).2.length ≤ 14 + 4 * gs.length := by
  unfold dueFrame
  split
  · exact Nat.zero_le _
  · split
    · exact Nat.zero_le _
    · split
      · exact Nat.zero_le _
      · exact Nat.le_of_eq (rowOf_length _ _)
theorem bytes_fit {t s k : Int} {gs : List Tag} {b : Array UInt8} {x : Str} (hg : gs.length ≤ 100) (h : dueFrame t s gs k = (x, KBw.bInts b)) : b.size ≤ 1000 := by
  have := dueFrame_len t s k gs
  rw [h] at this
  rw [← KBw.ints_length]
  have h2 : (KBw.bInts b).length ≤ 14 + 4 * gs.length := this
  omega
theorem con_wether' (w : World) {nb : List (Addr × Obj)} (x dx l : Addr) (h0 h1 h2 h3 : Int) (k0 k1 k2 k3 t0 t1 t3 : Tok) (tv sv kv : Int) (vs : List Value) (nn : Nat) (gs : List Tag) (news : List (Addr × Obj)) (hm : (l, listOf vs.toArray nn) ∈ news) (hdat : DatAll news vs (gs.map tagDat)) (hz : gs.length ≤ 100) (hx : (x, instObj 87 dx) ∈ nb) (hxd : (dx, etherDict h0 h1 h2 h3 k0 k1 k2 k3 t0 t1 t3 tv sv l kv) ∈ nb) (hs : ∀ q ∈ news, q ∈ nb) :
    ConX w 105 6 nb [.ref x] (fun _ => True)
      (ROcts (dueFrame tv sv gs kv) 1000 news)
      (XExc w 44 (fun msg => dueFrame tv sv gs kv = (msg, [])) news) := by
  intro mean mg mb dp un gd cn cs a ccd outer A₀ base h₀ L m s Q E B F X N T hk hpre hd' hu hret hexc
  refine con_wether w x dx l h0 h1 h2 h3 k0 k1 k2 k3 t0 t1 t3 tv sv kv vs nn gs news hm hdat hz mean mg mb dp un gd cn cs a ccd outer A₀ base h₀ L m s Q E B F X (newsDrop N (subCons hx (subCons hxd hs))) T hk hpre hd' hu (fun r n' hR => hret r n' ?_) hexc
  obtain ⟨rfl, b, t, rfl, e2⟩ := hR
  exact .mk (subTail (subTail subRefl)) e2 (bytes_fit hz e2)






theorem con_tframe (w : World) (l : Addr) (t0 t1 t3 : Tok) (tv sv kv : Int) (vs : List Value) (nn : Nat) (gs : List Tag) (news : List (Addr × Obj)) (hm : (l, listOf vs.toArray nn) ∈ news) (hdat : DatAll news vs (gs.map tagDat)) (hz : gs.length ≤ 100) :
    ConS w 208 8 news [.int tv t0, .int sv t1, .ref l, .int kv t3] (fun _ => True)
      (RDue (dueFrame tv sv gs kv) (news)) := by
  have hgs := hz
  unfold ConS
  k_fill
  intro mean mg mb dp un gd cn cs a ccd cl outer A₀ base g₀ h₀ L m s Q E B F X N T XB TB KD T0 hk hpre hd hu hret
  refine wpAny_call ?_
  k_dflt (refine' code_defSX ?k1 ?k2 ?k3 ?k4 ?k5 ?XB ?TB ?D ?T0 ?kA ?kF ?kK ?k6 ?k7 ?k8 ?k9 ?kB ?_ ?c2 ?c3 ?c4 ?c5; (case kA => exact rfl); (case kF => exact rfl); (case kK => first | assumption | exact rfl); (case k2 => k_asm); (case k1 => k_asm); (case XB => assumption); (case TB => assumption); (case D => assumption); (case T0 => first | assumption | exact KtsTurn.refl); (case k3 => k_asm); (case k4 => k_asm); (case k5 => k_asm); (case k6 => k_is); (case k7 => k_is); (case k8 => ktr_room); (case k9 => exact BindsTo.of_eq rfl); (case kB => exact locs rfl); (case c2 => exact rfl); (case c3 => exact rfl); (case c4 => exact rfl); (case c5 => decide); k_whole; intro g' L' h' FG' F' N' B' X' T' D'; (try dsimp only); (try k_lift B'); (try k_fold))
  repeat' (first | with_reducible (k_here; (with_reducible show wpAny _ _ (call (Value.ref 105) _) _ _ _); k_dflt (apply con_wether'; ((case cN => k_asm); (case cF => k_asm); (case cB => k_asm); (case cX => k_asm); (case cT => k_asm); (try ((case cXB => assumption); (case cTB => assumption); (case cKD => assumption); (case cT0 => first | assumption | exact KtsTurn.refl))); (case cK => first | exact rfl | assumption); (try case hm => (first | kbu_src | k_mem)); (try case hx => (first | kbu_src | k_mem)); (try case hxd => (first | kbu_src | k_mem)); (try case hi => with_reducible assumption); (try case ho => (with_reducible assumption)); (try case hdat => (first | with_reducible assumption | (refine DatAll.mono ?_ (by with_reducible assumption); (repeat' (first | with_reducible exact subRefl | with_reducible exact subNil | with_reducible assumption | (refine subCons ?_ ?_; focus kbu_src) | refine subTail ?_))))); (try case hz => (first | omega | exact ⟨by omega, by omega⟩)); (case cP => (first | trivial | decide | omega | exact ⟨by decide, by decide⟩ | exact ⟨by with_reducible assumption, by with_reducible assumption, by omega, by omega⟩)); (case cD => ktr_room); (case cU => ktr_units)); (case hs => (repeat' (first | with_reducible exact subRefl | with_reducible exact subNil | with_reducible assumption | (refine subCons ?_ ?_; focus kbu_src) | refine subTail ?_))); ((case' exc => ((first | refine XExc.out ?_ | refine XSay.out ?_); intros; (try dsimp only))); (case' ret => (first | (refine ROct.out ?_; intros; (try dsimp only); (try k_sweep)) | ((first | refine RExc.out ?_ | refine RInt.out ?_ | refine RVal.out ?_ | refine RLst.out ?_ | refine ROcts.out ?_); intros; (try dsimp only); (try k_sweep))))))) | with_reducible (k_here; (with_reducible show wpAny _ _ (getAttr (Value.ref _) (Str.ofString "why") _) _ _ _); k_dflt (apply getWhy44; (case F => k_asm); (case X₀ => k_asm); (case N => k_asm); (case h1 => exact List.mem_cons_self); (case h2 => exact List.mem_cons_of_mem _ (by with_reducible assumption)); (case hc => assumption); (case hdd => assumption); (case hn => assumption); k_whole)) | with_reducible (k_here; (with_reducible show wpAny _ _ (call (Value.type "list") [Value.bytes _ _]) _ _ _); k_dflt (apply list_bytesK; (case F => k_asm); (case N => k_asm); (case hh => exact rfl); (case hn => omega); k_whole; intro D' us' c' h' tk' F' N' l1' i1'; (try k_sweep))) | with_reducible (k_here; (with_reducible show wpAny _ _ (noteFrame (Value.ref _) _) _ _ _); k_dflt (apply caught_D; (case R => assumption); (case DA => assumption); (case F => assumption); (case K => assumption); (case hsm => assumption); (case XB => assumption); (case TB => assumption); (case D => assumption); (case T0 => first | assumption | exact KtsTurn.refl); (case q => kts_isx); (case ex => k_is); (try case hk => with_unfolding_all rfl); (try case hlo => with_unfolding_all rfl); (try case hx => with_unfolding_all rfl); (try case hd => with_unfolding_all rfl); k_whole); intro h' g' oe' tk' T' F' N' hc' hd' hn' K' X' P' D'; (try k_lift K'); (try k_sweep)) | (k_unfold; (try dsimp only)) | (k_end; wrow_close) | walk1 | (dsimp only; walk1) | (leave1; walk_say "STEP leave1"; try dsimp only))
  · exact conS_ret hret (by assumption) (by k_asm) (newsDrop (by k_asm) (by first | (refine subTrans ?_ (by with_reducible assumption); (repeat' (first | with_reducible exact subRefl | with_reducible exact subNil | with_reducible assumption | (refine subCons ?_ ?_; focus (first | with_reducible assumption | (with_reducible (repeat (first | exact List.mem_cons_self | assumption | refine List.mem_cons_of_mem _ ?_)); done))) | refine subTail ?_)); done) | ((repeat' (first | with_reducible exact subRefl | with_reducible exact subNil | with_reducible assumption | (refine subCons ?_ ?_; focus (first | with_reducible assumption | (with_reducible (repeat (first | exact List.mem_cons_self | assumption | refine List.mem_cons_of_mem _ ?_)); done))) | refine subTail ?_)); done))) (by assumption) (by assumption) (by assumption) (by assumption) (.mk (by assumption) (by assumption))
  · exact conS_ret hret (by assumption) (by k_asm) (newsDrop (by k_asm) (by first | (refine subTrans ?_ (by with_reducible assumption); (repeat' (first | with_reducible exact subRefl | with_reducible exact subNil | with_reducible assumption | (refine subCons ?_ ?_; focus (first | with_reducible assumption | (with_reducible (repeat (first | exact List.mem_cons_self | assumption | refine List.mem_cons_of_mem _ ?_)); done))) | refine subTail ?_)); done) | ((repeat' (first | with_reducible exact subRefl | with_reducible exact subNil | with_reducible assumption | (refine subCons ?_ ?_; focus (first | with_reducible assumption | (with_reducible (repeat (first | exact List.mem_cons_self | assumption | refine List.mem_cons_of_mem _ ?_)); done))) | refine subTail ?_)); done))) (by assumption) (by assumption) (by assumption) (by assumption) (.mk (by assumption) (IntsAre.nil))
end
section -- part G6
set_option maxHeartbeats 8000000

def arpOk (o a b c d : Int) : Prop := (0 ≤ o ∧ o < 65536) ∧ (0 ≤ a ∧ a < 281474976710656) ∧ (0 ≤ b ∧ b < 4294967296) ∧ (0 ≤ c ∧ c < 281474976710656) ∧ (0 ≤ d ∧ d < 4294967296)
def arpWhole (o a b c d : Int) : Int := ((((4429186564 * 65536 + o) * 281474976710656 + a) * 4294967296 + b) * 281474976710656 + c) * 4294967296 + d
open Classical in
noncomputable def dueArp (o a b c d : Int) : Str × List Int := if arpOk o a b c d then (Str.ofString "", rowOf (arpWhole o a b c d) 28) else (unfit, [])
theorem dueArp_no {o a b c d : Int} (h : ¬ arpOk o a b c d) : dueArp o a b c d = (unfit, []) := by unfold dueArp; rw [if_neg h]
theorem dueArp_ok {o a b c d : Int} (h : arpOk o a b c d) : dueArp o a b c d = (Str.ofString "", rowOf (arpWhole o a b c d) 28) := by unfold dueArp; rw [if_pos h]
theorem dueArp_octets {o a b c d : Int} (h : arpOk o a b c d) {x0 x1 x2 x3 x4 x5 : Array UInt8} (e0 : KBw.bInts x0 = rowOf 4429186564 6) (e1 : KBw.bInts x1 = rowOf o 2) (e2 : KBw.bInts x2 = rowOf a 6) (e3 : KBw.bInts x3 = rowOf b 4) (e4 : KBw.bInts x4 = rowOf c 6) (e5 : KBw.bInts x5 = rowOf d 4) :
    dueArp o a b c d = (Str.ofString "", KBw.bInts (x0 ++ x1 ++ (x2 ++ x3) ++ x4 ++ x5)) := by
  rw [dueArp_ok h, KBw.ints_app (KBw.ints_app (KBw.ints_app (KBw.ints_app e0 e1) (KBw.ints_app e2 e3)) e4) e5]
  obtain ⟨⟨o0, o1⟩, ⟨a0, a1⟩, ⟨b0, b1⟩, ⟨c0, c1⟩, d0, d1⟩ := h
  have w1 := row_app 4429186564 o 6 2 o0 (by simpa using o1)
  have w2 := row_app (4429186564 * 65536 + o) a 8 6 a0 (by simpa using a1)
  have w3 := row_app ((4429186564 * 65536 + o) * 281474976710656 + a) b 14 4 b0 (by simpa using b1)
  have w4 := row_app (((4429186564 * 65536 + o) * 281474976710656 + a) * 4294967296 + b) c 18 6 c0 (by simpa using c1)
  have w5 := row_app ((((4429186564 * 65536 + o) * 281474976710656 + a) * 4294967296 + b) * 281474976710656 + c) d 24 4 d0 (by simpa using d1)
  have f : rowOf (arpWhole o a b c d) 28 = rowOf 4429186564 6 ++ rowOf o 2 ++ rowOf a 6 ++ rowOf b 4 ++ rowOf c 6 ++ rowOf d 4 := by
    rw [← w1]
    refine Eq.trans ?_ (congrArg (fun l => l ++ rowOf b 4 ++ rowOf c 6 ++ rowOf d 4) w2)
    refine Eq.trans ?_ (congrArg (fun l => l ++ rowOf c 6 ++ rowOf d 4) w3)
    refine Eq.trans ?_ (congrArg (fun l => l ++ rowOf d 4) w4)
    exact w5
  rw [f]
  simp only [List.append_assoc]
abbrev arpDict (h0 h1 h2 h3 h4 : Int) (k0 k1 k2 k3 k4 t0 t1 t2 t3 t4 : Tok) (o a b c d : Int) : Obj := dictOf [⟨h0, .str "operation" k0, .int o t0⟩, ⟨h1, .str "sender_mac" k1, .int a t1⟩, ⟨h2, .str "sender" k2, .int b t2⟩, ⟨h3, .str "target_mac" k3, .int c t3⟩, ⟨h4, .str "target" k4, .int d t4⟩] 5




theorem con_warp (w : World) (x dx : Addr) (h0 h1 h2 h3 h4 : Int) (k0 k1 k2 k3 k4 t0 t1 t2 t3 t4 : Tok) (vo va vb vc vd : Int) (news : List (Addr × Obj)) :
    ConX w 140 6 ((x, instObj 122 dx) :: (dx, arpDict h0 h1 h2 h3 h4 k0 k1 k2 k3 k4 t0 t1 t2 t3 t4 vo va vb vc vd) :: news) [.ref x] (fun _ => True)
      (ROcts (dueArp vo va vb vc vd) 1000 ((x, instObj 122 dx) :: (dx, arpDict h0 h1 h2 h3 h4 k0 k1 k2 k3 k4 t0 t1 t2 t3 t4 vo va vb vc vd) :: news))
      (XExc w 44 (fun msg => dueArp vo va vb vc vd = (msg, [])) ((x, instObj 122 dx) :: (dx, arpDict h0 h1 h2 h3 h4 k0 k1 k2 k3 k4 t0 t1 t2 t3 t4 vo va vb vc vd) :: news)) := by
  unfold ConX
  k_fill
  intro mean mg mb dp un gd cn cs a ccd outer A₀ base h₀ L m s Q E B F X N T hk hpre hd hu hret hexc
  refine wpAny_call ?_
  k_dflt (first | cell_enter | (refine' code_defC ?k1 ?k2 ?k3 ?k4 ?k5 ?kA ?kF ?kK ?k6 ?k7 ?k8 ?k9 ?kB ?kD ?_ ?c2 ?c3 ?c4; (case kA => exact rfl); (case kF => exact rfl); (case kK => assumption); (case k1 => k_asm); (case k2 => k_asm); (case k3 => k_asm); (case k4 => k_asm); (case k5 => k_asm); (case k6 => k_is); (case k7 => k_is); (case k8 => ktr_room); (case k9 => exact BindsTo.of_eq rfl); (case kB => exact rfl); (case kD => decide +kernel); (case c2 => exact rfl); (case c3 => exact rfl); (case c4 => exact rfl); k_whole; intro g' L' h' tk' cells' FG' F' N' Y' B' X' T' l1; (try k_lt l1); k_cells Y'; (try simp only [List.cons_append, List.nil_append] at N'); (try dsimp only); (try k_lift B'); (try k_fold)))
  repeat' (first | with_reducible (k_here; (with_reducible show wpAny _ _ (binaryOp Operator.Add (Value.bytes _ _) (Value.bytes _ _)) _ _ _); k_dflt (apply KBy.add_bytes; (case hsz => ((try simp only [Array.size_append]); omega))); intro t' k'; (try k_sweep)) | with_reducible (k_here; (with_reducible show wpAny _ _ (call (Value.ref 70) _) _ _ _); k_dflt ((first | apply con_oct2 | apply con_oct4 | apply con_oct6); ((case cN => k_asm); (case cF => k_asm); (case cB => k_asm); (case cX => k_asm); (case cT => k_asm); (try ((case cXB => assumption); (case cTB => assumption); (case cKD => assumption); (case cT0 => first | assumption | exact KtsTurn.refl))); (case cK => first | exact rfl | assumption); (try case hm => (first | kbu_src | k_mem)); (try case hx => (first | kbu_src | k_mem)); (try case hxd => (first | kbu_src | k_mem)); (try case hi => with_reducible assumption); (try case ho => (with_reducible assumption)); (try case hdat => (first | with_reducible assumption | (refine DatAll.mono ?_ (by with_reducible assumption); (repeat' (first | with_reducible exact subRefl | with_reducible exact subNil | with_reducible assumption | (refine subCons ?_ ?_; focus kbu_src) | refine subTail ?_))))); (try case hz => (first | omega | exact ⟨by omega, by omega⟩)); (case cP => (first | trivial | decide | omega | exact ⟨by decide, by decide⟩ | exact ⟨by with_reducible assumption, by with_reducible assumption, by omega, by omega⟩)); (case cD => ktr_room); (case cU => ktr_units)); ((case' exc => ((first | refine XExc.out ?_ | refine XSay.out ?_); intros; (try dsimp only))); (case' ret => (first | (refine ROct.out ?_; intros; (try dsimp only); (try k_sweep)) | ((first | refine RExc.out ?_ | refine RInt.out ?_ | refine RVal.out ?_ | refine RLst.out ?_ | refine ROcts.out ?_); intros; (try dsimp only); (try k_sweep))))))) | with_reducible (k_here; (with_reducible show wpAny _ _ (leaving _ (Value.ref _)) _ _ _); k_dflt (apply leave_onD; (case R => assumption); (case F => assumption); (case K => assumption); (case D => assumption); (case hsm => assumption); k_whole); intro h' R' D' U'; (try dsimp only at R' U' ⊢)) | (k_unfold; (try dsimp only)) | (k_end; wrow_close) | walk1 | (dsimp only; walk1) | (leave1; walk_say "STEP leave1"; try dsimp only))
  all_goals (try dsimp only)
  all_goals first
    | exact absurd ⟨by decide, by decide⟩ (by with_reducible assumption : ¬ ((0 : Int) ≤ 4429186564 ∧ (4429186564 : Int) < 281474976710656))
    | exact conX_exc hexc (by with_reducible assumption) (by with_reducible assumption) (by with_reducible assumption) (by with_reducible assumption) (.mk ((by (repeat' (first | with_reducible exact subRefl | with_reducible exact subNil | with_reducible assumption | (refine subCons ?_ ?_; focus (first | with_reducible assumption | (with_reducible (repeat (first | exact List.mem_cons_self | assumption | refine List.mem_cons_of_mem _ ?_)); done))) | refine subTail ?_)))) (dueArp_no (by rintro ⟨⟨_, _⟩, ⟨_, _⟩, ⟨_, _⟩, ⟨_, _⟩, _, _⟩; omega)) (by (first | with_reducible assumption | (with_reducible (repeat (first | exact List.mem_cons_self | assumption | refine List.mem_cons_of_mem _ ?_)); done) | k_mem)))
    | exact con_ret hret ((x, instObj 122 dx) :: (dx, arpDict h0 h1 h2 h3 h4 k0 k1 k2 k3 k4 t0 t1 t2 t3 t4 vo va vb vc vd) :: news) (by k_asm) (newsDrop (by k_asm) (by first | (refine subTrans ?_ (by with_reducible assumption); (repeat' (first | with_reducible exact subRefl | with_reducible exact subNil | with_reducible assumption | (refine subCons ?_ ?_; focus (first | with_reducible assumption | (with_reducible (repeat (first | exact List.mem_cons_self | assumption | refine List.mem_cons_of_mem _ ?_)); done))) | refine subTail ?_)); done) | ((repeat' (first | with_reducible exact subRefl | with_reducible exact subNil | with_reducible assumption | (refine subCons ?_ ?_; focus (first | with_reducible assumption | (with_reducible (repeat (first | exact List.mem_cons_self | assumption | refine List.mem_cons_of_mem _ ?_)); done))) | refine subTail ?_)); done))) (.mk subRefl (dueArp_octets ⟨⟨by assumption, by assumption⟩, ⟨by assumption, by assumption⟩, ⟨by assumption, by assumption⟩, ⟨by assumption, by assumption⟩, by assumption, by assumption⟩ (by assumption) (by assumption) (by assumption) (by assumption) (by assumption) (by assumption)) (by simp only [Array.size_append]; omega))
end
section -- part G7
set_option maxHeartbeats 8000000

theorem con_warp' (w : World) {nb : List (Addr × Obj)} (x dx : Addr) (h0 h1 h2 h3 h4 : Int) (k0 k1 k2 k3 k4 t0 t1 t2 t3 t4 : Tok) (vo va vb vc vd : Int) (hx : (x, instObj 122 dx) ∈ nb) (hxd : (dx, arpDict h0 h1 h2 h3 h4 k0 k1 k2 k3 k4 t0 t1 t2 t3 t4 vo va vb vc vd) ∈ nb) :
    ConX w 140 6 nb [.ref x] (fun _ => True)
      (ROcts (dueArp vo va vb vc vd) 1000 nb)
      (XExc w 44 (fun msg => dueArp vo va vb vc vd = (msg, [])) nb) := by
  intro mean mg mb dp un gd cn cs a ccd outer A₀ base h₀ L m s Q E B F X N T hk hpre hd' hu hret hexc
  refine con_warp w x dx h0 h1 h2 h3 h4 k0 k1 k2 k3 k4 t0 t1 t2 t3 t4 vo va vb vc vd nb mean mg mb dp un gd cn cs a ccd outer A₀ base h₀ L m s Q E B F X (newsDrop N (subCons hx (subCons hxd subRefl))) T hk hpre hd' hu (fun r n' hR => hret r n' (by cases hR with | mk a b c => exact .mk (subTrans (subTail (subTail subRefl)) a) b c)) fun C d nx hX => hexc C d nx (by cases hX with | mk a b c => exact .mk (subTrans (subTail (subTail subRefl)) a) b c)






theorem con_tarp (w : World) (x dx : Addr) (h0 h1 h2 h3 h4 : Int) (k0 k1 k2 k3 k4 t0 t1 t2 t3 t4 : Tok) (vo va vb vc vd : Int) (news : List (Addr × Obj)) (hx : (x, instObj 122 dx) ∈ news) (hxd : (dx, arpDict h0 h1 h2 h3 h4 k0 k1 k2 k3 k4 t0 t1 t2 t3 t4 vo va vb vc vd) ∈ news) :
    ConS w 234 8 news [.ref x] (fun _ => True)
      (RDue (dueArp vo va vb vc vd) (news)) := by
  unfold ConS
  k_fill
  intro mean mg mb dp un gd cn cs a ccd cl outer A₀ base g₀ h₀ L m s Q E B F X N T XB TB KD T0 hk hpre hd hu hret
  refine wpAny_call ?_
  k_dflt (refine' code_defSX ?k1 ?k2 ?k3 ?k4 ?k5 ?XB ?TB ?D ?T0 ?kA ?kF ?kK ?k6 ?k7 ?k8 ?k9 ?kB ?_ ?c2 ?c3 ?c4 ?c5; (case kA => exact rfl); (case kF => exact rfl); (case kK => first | assumption | exact rfl); (case k2 => k_asm); (case k1 => k_asm); (case XB => assumption); (case TB => assumption); (case D => assumption); (case T0 => first | assumption | exact KtsTurn.refl); (case k3 => k_asm); (case k4 => k_asm); (case k5 => k_asm); (case k6 => k_is); (case k7 => k_is); (case k8 => ktr_room); (case k9 => exact BindsTo.of_eq rfl); (case kB => exact locs rfl); (case c2 => exact rfl); (case c3 => exact rfl); (case c4 => exact rfl); (case c5 => decide); k_whole; intro g' L' h' FG' F' N' B' X' T' D'; (try dsimp only); (try k_lift B'); (try k_fold))
  repeat' (first | with_reducible (k_here; (with_reducible show wpAny _ _ (call (Value.ref 140) _) _ _ _); k_dflt (apply con_warp'; ((case cN => k_asm); (case cF => k_asm); (case cB => k_asm); (case cX => k_asm); (case cT => k_asm); (try ((case cXB => assumption); (case cTB => assumption); (case cKD => assumption); (case cT0 => first | assumption | exact KtsTurn.refl))); (case cK => first | exact rfl | assumption); (try case hm => (first | kbu_src | k_mem)); (try case hx => (first | kbu_src | k_mem)); (try case hxd => (first | kbu_src | k_mem)); (try case hi => with_reducible assumption); (try case ho => (with_reducible assumption)); (try case hdat => (first | with_reducible assumption | (refine DatAll.mono ?_ (by with_reducible assumption); (repeat' (first | with_reducible exact subRefl | with_reducible exact subNil | with_reducible assumption | (refine subCons ?_ ?_; focus kbu_src) | refine subTail ?_))))); (try case hz => (first | omega | exact ⟨by omega, by omega⟩)); (case cP => (first | trivial | decide | omega | exact ⟨by decide, by decide⟩ | exact ⟨by with_reducible assumption, by with_reducible assumption, by omega, by omega⟩)); (case cD => ktr_room); (case cU => ktr_units)); ((case' exc => ((first | refine XExc.out ?_ | refine XSay.out ?_); intros; (try dsimp only))); (case' ret => (first | (refine ROct.out ?_; intros; (try dsimp only); (try k_sweep)) | ((first | refine RExc.out ?_ | refine RInt.out ?_ | refine RVal.out ?_ | refine RLst.out ?_ | refine ROcts.out ?_); intros; (try dsimp only); (try k_sweep))))))) | with_reducible (k_here; (with_reducible show wpAny _ _ (getAttr (Value.ref _) (Str.ofString "why") _) _ _ _); k_dflt (apply getWhy44; (case F => k_asm); (case X₀ => k_asm); (case N => k_asm); (case h1 => exact List.mem_cons_self); (case h2 => exact List.mem_cons_of_mem _ (by with_reducible assumption)); (case hc => assumption); (case hdd => assumption); (case hn => assumption); k_whole)) | with_reducible (k_here; (with_reducible show wpAny _ _ (call (Value.type "list") [Value.bytes _ _]) _ _ _); k_dflt (apply list_bytesK; (case F => k_asm); (case N => k_asm); (case hh => exact rfl); (case hn => omega); k_whole; intro D' us' c' h' tk' F' N' l1' i1'; (try k_sweep))) | with_reducible (k_here; (with_reducible show wpAny _ _ (noteFrame (Value.ref _) _) _ _ _); k_dflt (apply caught_D; (case R => assumption); (case DA => assumption); (case F => assumption); (case K => assumption); (case hsm => assumption); (case XB => assumption); (case TB => assumption); (case D => assumption); (case T0 => first | assumption | exact KtsTurn.refl); (case q => kts_isx); (case ex => k_is); (try case hk => with_unfolding_all rfl); (try case hlo => with_unfolding_all rfl); (try case hx => with_unfolding_all rfl); (try case hd => with_unfolding_all rfl); k_whole); intro h' g' oe' tk' T' F' N' hc' hd' hn' K' X' P' D'; (try k_lift K'); (try k_sweep)) | (k_unfold; (try dsimp only)) | (k_end; wrow_close) | walk1 | (dsimp only; walk1) | (leave1; walk_say "STEP leave1"; try dsimp only))
  · exact conS_ret hret (by assumption) (by k_asm) (newsDrop (by k_asm) (by first | (refine subTrans ?_ (by with_reducible assumption); (repeat' (first | with_reducible exact subRefl | with_reducible exact subNil | with_reducible assumption | (refine subCons ?_ ?_; focus (first | with_reducible assumption | (with_reducible (repeat (first | exact List.mem_cons_self | assumption | refine List.mem_cons_of_mem _ ?_)); done))) | refine subTail ?_)); done) | ((repeat' (first | with_reducible exact subRefl | with_reducible exact subNil | with_reducible assumption | (refine subCons ?_ ?_; focus (first | with_reducible assumption | (with_reducible (repeat (first | exact List.mem_cons_self | assumption | refine List.mem_cons_of_mem _ ?_)); done))) | refine subTail ?_)); done))) (by assumption) (by assumption) (by assumption) (by assumption) (.mk (by assumption) (by assumption))
  · exact conS_ret hret (by assumption) (by k_asm) (newsDrop (by k_asm) (by first | (refine subTrans ?_ (by with_reducible assumption); (repeat' (first | with_reducible exact subRefl | with_reducible exact subNil | with_reducible assumption | (refine subCons ?_ ?_; focus (first | with_reducible assumption | (with_reducible (repeat (first | exact List.mem_cons_self | assumption | refine List.mem_cons_of_mem _ ?_)); done))) | refine subTail ?_)); done) | ((repeat' (first | with_reducible exact subRefl | with_reducible exact subNil | with_reducible assumption | (refine subCons ?_ ?_; focus (first | with_reducible assumption | (with_reducible (repeat (first | exact List.mem_cons_self | assumption | refine List.mem_cons_of_mem _ ?_)); done))) | refine subTail ?_)); done))) (by assumption) (by assumption) (by assumption) (by assumption) (.mk (by assumption) (IntsAre.nil))
end
section -- part G8
set_option maxHeartbeats 8000000

theorem four_keys {m : Str → Option Value} {a b c d : Str} {va vb vc vd : Value} (ha : m a = some va) (hb : m b = some vb) (hc : m c = some vc) (hd : m d = some vd) : ∃ u : Str → Option Value, m = fun y => if y = a then some va else if y = b then some vb else if y = c then some vc else if y = d then some vd else u y := by
  refine ⟨m, funext fun y => ?_⟩
  by_cases h1 : y = a
  · rw [if_pos h1, h1, ha]
  · rw [if_neg h1]
    by_cases h2 : y = b
    · rw [if_pos h2, h2, hb]
    · rw [if_neg h2]
      by_cases h3 : y = c
      · rw [if_pos h3, h3, hc]
      · rw [if_neg h3]
        by_cases h4 : y = d
        · rw [if_pos h4, h4, hd]
        · rw [if_neg h4]

theorem con_rowI (w : World) (x z : Int) (t u : Tok) (hz : 0 ≤ z ∧ z ≤ 100) (news : List (Addr × Obj)) :
    Con w 187 1 news [.int x t, .int z u] (fun _ => True) (RLst (rowOf x z.toNat) news) := by
  obtain ⟨n, rfl⟩ := Int.eq_ofNat_of_zero_le hz.1
  exact con_row w x n t u (by omega) news
theorem tag_anyn {g : Tag} (h : ([33024, 34984].any fun x : Int => x == g.1) = false) : ¬ (g.1 = 33024 ∨ g.1 = 34984) := fun q => by rw [tag_any.mpr q] at h; cases h
theorem keep1 {a b : Option Value} {va : Value} (h0 : a = some va) (h1 : b = some va) : ∀ v, a = some v → b = some v := fun v h => by rw [h1, ← h0, h]
theorem some_int {a b : Int} {t : Tok} (h : a = b) : some (Value.int a t) = some (Value.int b t) := by rw [h]
theorem p48 : (2 : Int) ^ Int.toNat 48 = 281474976710656 := by decide
theorem p32 : (2 : Int) ^ Int.toNat 32 = 4294967296 := by decide






theorem con_dframe (w : World) (l : Addr) (t0 t1 t3 : Tok) (tv sv kv : Int) (vs : List Value) (nn : Nat) (gs : List Tag) (news : List (Addr × Obj)) (hm : (l, listOf vs.toArray nn) ∈ news) (hdat : DatAll news vs (gs.map tagDat)) (hz : gs.length ≤ 20) :
    Con w 201 4 news [.int tv t0, .int sv t1, .ref l, .int kv t3] (fun _ => True)
      (RDue (dueFrame tv sv gs kv) (news)) := by
  have hgs := hz
  have P48 := p48
  have hC1 : CondIs 107 (¬ (addrOk tv ∧ addrOk sv)) := .mk
  have hC3 : CondIs 114 (¬ (0 ≤ kv ∧ kv ≤ 65535)) := .mk
  unfold Con
  k_fill
  intro mean mg mb dp un gd cn cs a ccd cl outer A₀ base h₀ L m s Q E B F X N T hk hpre hd hu hret
  refine wpAny_call ?_
  k_dflt (first | cell_enter | (refine' code_defC ?k1 ?k2 ?k3 ?k4 ?k5 ?kA ?kF ?kK ?k6 ?k7 ?k8 ?k9 ?kB ?kD ?_ ?c2 ?c3 ?c4; (case kA => exact rfl); (case kF => exact rfl); (case kK => assumption); (case k1 => k_asm); (case k2 => k_asm); (case k3 => k_asm); (case k4 => k_asm); (case k5 => k_asm); (case k6 => k_is); (case k7 => k_is); (case k8 => ktr_room); (case k9 => exact BindsTo.of_eq rfl); (case kB => exact rfl); (case kD => decide +kernel); (case c2 => exact rfl); (case c3 => exact rfl); (case c4 => exact rfl); k_whole; intro g' L' h' tk' cells' FG' F' N' Y' B' X' T' l1; (try k_lt l1); k_cells Y'; (try simp only [List.cons_append, List.nil_append] at N'); (try dsimp only); (try k_lift B'); (try k_fold)))
  repeat' (first | with_reducible (k_here; (with_reducible show wpAny _ _ (isTrue (Expr.Compare _ _ _ _) _ _) _ _ _); dsimp only) | with_reducible (k_here; (with_reducible show wpAny _ _ (exec (Stmt.If _ _ _ _) _) _ _ _); k_dflt (apply If_cond; (case _C => assumption); (case _F => k_asm); (case _N => k_asm); k_whole; rotate_left; (intro c' h' tk' F' N'; (try dsimp only)); rotate_left; (intro c' h' tk' F' N'; (try dsimp only); (try (have c2 := Classical.not_not.mp c'; obtain ⟨p1, ⟨p2, p3⟩, ⟨p4, p5⟩, ⟨p6, p7⟩⟩ := id c2))); rotate_left)) | (k_unfold; (try dsimp only)) | (k_end; wrow_close) | walk1 | (dsimp only; walk1) | (leave1; walk_say "STEP leave1"; try dsimp only))
  any_goals first
    | ((with_reducible show CondAt _ _ _ _ _ _ _ _); refine (CondAt.mk ?_ (by k_asm) (by k_asm) (by (repeat' (first | with_reducible exact subRefl | with_reducible exact subNil | with_reducible assumption | (refine subCons ?_ ?_; focus (first | with_reducible assumption | (with_reducible (repeat (first | exact List.mem_cons_self | assumption | refine List.mem_cons_of_mem _ ?_)); done))) | refine subTail ?_)))); simp only [addrOk, true_iff, Bool.false_eq_true, false_iff]; omega)
    | exact con_ret hret _ (by k_asm) (newsDrop (by k_asm) (by first | (refine subTrans ?_ (by with_reducible assumption); (repeat' (first | with_reducible exact subRefl | with_reducible exact subNil | with_reducible assumption | (refine subCons ?_ ?_; focus (first | with_reducible assumption | (with_reducible (repeat (first | exact List.mem_cons_self | assumption | refine List.mem_cons_of_mem _ ?_)); done) | k_mem)) | refine subTail ?_)); done) | ((repeat' (first | with_reducible exact subRefl | with_reducible exact subNil | with_reducible assumption | (refine subCons ?_ ?_; focus (first | with_reducible assumption | (with_reducible (repeat (first | exact List.mem_cons_self | assumption | refine List.mem_cons_of_mem _ ?_)); done) | k_mem)) | refine subTail ?_)); done))) (.mk (dueFrame_addr (by assumption)) (IntsAre.nil))
    | fail "no"
  · have hadr : addrOk tv ∧ addrOk sv := Classical.not_not.mp (by assumption)
    refine' For_tuples ?F ?h ?hs
    (case F => k_asm)
    (case hs => (intro _; with_unfolding_all rfl))
    repeat' (first | (k_unfold; (try dsimp only)) | (k_end; wrow_close) | walk1 | (dsimp only; walk1) | (leave1; walk_say "STEP leave1"; try dsimp only))
    unfold Stop
    refine (ex6 _ vs nn ?m0 ?n0 ((fun (m₀ : Str → Option Value) (nx₀ : List (Addr × Obj)) (i : Nat) (m : Str → Option Value) (nx : List (Addr × Obj)) => nx = nx₀ ∧ (∀ v, m₀ (Str.ofString "unfit") = some v → m (Str.ofString "unfit") = some v) ∧ (∀ v, m₀ (Str.ofString "tags") = some v → m (Str.ofString "tags") = some v) ∧ (∀ v, m₀ (Str.ofString "kind") = some v → m (Str.ofString "kind") = some v) ∧ (∃ t, m (Str.ofString "whole") = some (.int (frameWhole tv sv (gs.take i)) t)) ∧ (∀ g ∈ gs.take i, tagOk g)) ?m0 ?n0) ⟨rfl, rfl, ?hl, by k_asm, by k_asm, ?start, ?turn, ?done⟩)
    (case hl => (first | with_reducible assumption | (with_reducible (repeat (first | exact List.mem_cons_self | assumption | refine List.mem_cons_of_mem _ ?_)); done) | k_mem))
    (case start => exact ⟨rfl, fun _ h => h, fun _ h => h, fun _ h => h, ⟨_, congrArg (fun x => some (Value.int x _)) (by rw [p48]; rfl)⟩, fun _ h => nomatch h⟩)
    (case done =>
      intro m' nx h' tk hJ F' N'
      refine gbox ?_
      intro G9 hG9
      obtain ⟨rfl, h1, h2, h3, ⟨t, h4⟩, hok⟩ := hJ
      obtain ⟨u, rfl⟩ := four_keys (h1 _ rfl) (h2 _ rfl) (h3 _ rfl) h4
      clear h1 h2 h3 h4
      have hlen := datAll_len hdat
      rw [hlen, List.take_length] at hok
      refine hG9 ?_
      repeat' (first | with_reducible (k_here; (with_reducible show wpAny _ _ (call (Value.ref 187) _) _ _ _); k_dflt (apply con_rowI; ((case cN => k_asm); (case cF => k_asm); (case cB => k_asm); (case cX => k_asm); (case cT => k_asm); (try ((case cXB => assumption); (case cTB => assumption); (case cKD => assumption); (case cT0 => first | assumption | exact KtsTurn.refl))); (case cK => first | exact rfl | assumption); (try case hm => (first | kbu_src | k_mem)); (try case hx => (first | kbu_src | k_mem)); (try case hxd => (first | kbu_src | k_mem)); (try case hi => with_reducible assumption); (try case ho => (with_reducible assumption)); (try case hdat => (first | with_reducible assumption | (refine DatAll.mono ?_ (by with_reducible assumption); (repeat' (first | with_reducible exact subRefl | with_reducible exact subNil | with_reducible assumption | (refine subCons ?_ ?_; focus kbu_src) | refine subTail ?_))))); (try case hz => (first | omega | exact ⟨by omega, by omega⟩)); (case cP => (first | trivial | decide | omega | exact ⟨by decide, by decide⟩ | exact ⟨by with_reducible assumption, by with_reducible assumption, by omega, by omega⟩)); (case cD => ktr_room); (case cU => ktr_units)); (first | (refine ROct.out ?_; intros; (try dsimp only); (try k_sweep)) | ((first | refine RExc.out ?_ | refine RInt.out ?_ | refine RVal.out ?_ | refine RLst.out ?_ | refine ROcts.out ?_); intros; (try dsimp only); (try k_sweep))))) | with_reducible (k_here; (with_reducible show wpAny _ _ (call (Value.builtin "len") [Value.ref _]) _ _ _); k_dflt (apply lenN; (case N => k_asm); (case hm => (first | kbu_src | k_mem)); (case hz => omega); k_whole)) | with_reducible (k_here; (with_reducible show wpAny _ _ (exec (Stmt.If _ _ _ _) _) _ _ _); k_dflt (apply If_cond; (case _C => assumption); (case _F => k_asm); (case _N => k_asm); k_whole; rotate_left; (intro c' h' tk' F' N'; (try dsimp only)); rotate_left; (intro c' h' tk' F' N'; (try dsimp only); (try (have c2 := Classical.not_not.mp c'; obtain ⟨p1, ⟨p2, p3⟩, ⟨p4, p5⟩, ⟨p6, p7⟩⟩ := id c2))); rotate_left)) | (k_unfold; (try dsimp only)) | (k_end; wrow_close) | walk1 | (dsimp only; walk1) | (leave1; walk_say "STEP leave1"; try dsimp only))
      all_goals (try dsimp only)
      all_goals first
        | ((with_reducible show CondAt _ _ _ _ _ _ _ _); refine (CondAt.mk ?_ (by k_asm) (by k_asm) (by (repeat' (first | with_reducible exact subRefl | with_reducible exact subNil | with_reducible assumption | (refine subCons ?_ ?_; focus (first | with_reducible assumption | (with_reducible (repeat (first | exact List.mem_cons_self | assumption | refine List.mem_cons_of_mem _ ?_)); done))) | refine subTail ?_)))); simp only [Bool.not_false, Bool.not_true, Bool.not_eq_true', decide_eq_true_eq, decide_eq_false_iff_not, true_iff, Bool.false_eq_true, false_iff]; omega)
        | (have hk : ¬ (0 ≤ kv ∧ kv ≤ 65535) := by assumption
           exact con_ret hret _ (by k_asm) (newsDrop (by k_asm) (by first | (refine subTrans ?_ (by with_reducible assumption); (repeat' (first | with_reducible exact subRefl | with_reducible exact subNil | with_reducible assumption | (refine subCons ?_ ?_; focus (first | with_reducible assumption | (with_reducible (repeat (first | exact List.mem_cons_self | assumption | refine List.mem_cons_of_mem _ ?_)); done) | k_mem)) | refine subTail ?_)); done) | ((repeat' (first | with_reducible exact subRefl | with_reducible exact subNil | with_reducible assumption | (refine subCons ?_ ?_; focus (first | with_reducible assumption | (with_reducible (repeat (first | exact List.mem_cons_self | assumption | refine List.mem_cons_of_mem _ ?_)); done) | k_mem)) | refine subTail ?_)); done))) (.mk (dueFrame_kind hadr hok hk) (IntsAre.nil)))
        | (have hk : 0 ≤ kv ∧ kv ≤ 65535 := Classical.not_not.mp (by assumption)
           have key : dueFrame tv sv gs kv = (Str.ofString "", rowOf (frameWhole tv sv (gs.take vs.length) * 65536 + kv) (14 + 4 * (vs.length : Int)).toNat) := by rw [dueFrame_ok hadr hok hk, hlen, List.take_length, show (14 + 4 * (gs.length : Int)).toNat = 14 + 4 * gs.length by omega]
           exact con_ret hret _ (by k_asm) (newsDrop (by k_asm) (by first | (refine subTrans ?_ (by with_reducible assumption); (repeat' (first | with_reducible exact subRefl | with_reducible exact subNil | with_reducible assumption | (refine subCons ?_ ?_; focus (first | with_reducible assumption | (with_reducible (repeat (first | exact List.mem_cons_self | assumption | refine List.mem_cons_of_mem _ ?_)); done) | k_mem)) | refine subTail ?_)); done) | ((repeat' (first | with_reducible exact subRefl | with_reducible exact subNil | with_reducible assumption | (refine subCons ?_ ?_; focus (first | with_reducible assumption | (with_reducible (repeat (first | exact List.mem_cons_self | assumption | refine List.mem_cons_of_mem _ ?_)); done) | k_mem)) | refine subTail ?_)); done))) (.mk (key) (by assumption))))
    intro I oI i v m₁ nx h tk hv hJ hl hne F N
    refine gbox ?_
    intro G9 hG9
    obtain ⟨rfl, h1, h2, h3, ⟨t, h4⟩, hok⟩ := hJ
    obtain ⟨u, rfl⟩ := four_keys (h1 _ rfl) (h2 _ rfl) (h3 _ rfl) h4
    clear h1 h2 h3 h4
    have hi : i < vs.length := (List.getElem?_eq_some_iff.mp hv).1
    have hlen := datAll_len hdat
    obtain ⟨g, hg, hdg⟩ := datAll_get hdat hv
    obtain ⟨D, a0, a1, a2, a3, n, rfl, hD⟩ := tagDat_inv hdg
    have hT : IsTup h D #[.int g.1 a0, .int g.2.1 a1, .int g.2.2.1 a2, .int g.2.2.2 a3] := ⟨_, N.get (by (first | with_reducible assumption | (with_reducible (repeat (first | exact List.mem_cons_self | assumption | refine List.mem_cons_of_mem _ ?_)); done) | k_mem)), rfl, n, rfl⟩
    have hC : CondIs 111 (¬ tagOk g) := .mk
    refine hG9 ?_
    repeat' (first | with_reducible (k_here; (with_reducible show wpAny _ _ (isTrue (Expr.Compare _ _ _ _) _ _) _ _ _); dsimp only) | with_reducible (k_here; (with_reducible show wpAny _ _ (exec (Stmt.If _ _ _ _) _) _ _ _); k_dflt (apply If_cond; (case _C => assumption); (case _F => k_asm); (case _N => k_asm); k_whole; rotate_left; (intro c' h' tk' F' N'; (try dsimp only)); rotate_left; (intro c' h' tk' F' N'; (try dsimp only); (try (have c2 := Classical.not_not.mp c'; obtain ⟨p1, ⟨p2, p3⟩, ⟨p4, p5⟩, ⟨p6, p7⟩⟩ := id c2))); rotate_left)) | (k_unfold; (try dsimp only)) | (k_end; wrow_close) | walk1 | (dsimp only; walk1) | (leave1; walk_say "STEP leave1"; try dsimp only))
    all_goals (try dsimp only)
    all_goals first
      | ((with_reducible show CondAt _ _ _ _ _ _ _ _); refine (CondAt.mk ?_ (by k_asm) (by k_asm) (by (repeat' (first | with_reducible exact subRefl | with_reducible exact subNil | with_reducible assumption | (refine subCons ?_ ?_; focus (first | with_reducible assumption | (with_reducible (repeat (first | exact List.mem_cons_self | assumption | refine List.mem_cons_of_mem _ ?_)); done))) | refine subTail ?_)))); simp only [tagOk, true_iff, Bool.false_eq_true, false_iff]; first | (have ha := tag_any.mp (by with_reducible assumption); omega) | (have ha : ¬ (g.1 = 33024 ∨ g.1 = 34984) := tag_anyn (by with_reducible assumption); omega))
      | ((with_reducible show TEnd _ _ _ _ _ _ _ _ _ _)
         have c2 : ¬ tagOk g := by with_reducible assumption
         unfold TEnd
         dsimp only
         repeat' (first | (k_unfold; (try dsimp only)) | (k_end; wrow_close) | walk1 | (dsimp only; walk1) | (leave1; walk_say "STEP leave1"; try dsimp only))
         exact con_ret hret _ (by k_asm) (newsDrop (by k_asm) (by first | (refine subTrans ?_ (by with_reducible assumption); (repeat' (first | with_reducible exact subRefl | with_reducible exact subNil | with_reducible assumption | (refine subCons ?_ ?_; focus (first | with_reducible assumption | (with_reducible (repeat (first | exact List.mem_cons_self | assumption | refine List.mem_cons_of_mem _ ?_)); done) | k_mem)) | refine subTail ?_)); done) | ((repeat' (first | with_reducible exact subRefl | with_reducible exact subNil | with_reducible assumption | (refine subCons ?_ ?_; focus (first | with_reducible assumption | (with_reducible (repeat (first | exact List.mem_cons_self | assumption | refine List.mem_cons_of_mem _ ?_)); done) | k_mem)) | refine subTail ?_)); done))) (.mk (dueFrame_tag hadr (List.mem_of_getElem? hg) c2) (IntsAre.nil)))
      | ((with_reducible show TEnd _ _ _ _ _ _ _ _ _ _)
         have c2 : tagOk g := Classical.not_not.mp (by with_reducible assumption)
         obtain ⟨e1, e2⟩ := take_ok hok hg c2
         refine (TEnd.mk (by k_asm) (by k_asm) (by (repeat' (first | with_reducible exact subRefl | with_reducible exact subNil | with_reducible assumption | (refine subCons ?_ ?_; focus (first | with_reducible assumption | (with_reducible (repeat (first | exact List.mem_cons_self | assumption | refine List.mem_cons_of_mem _ ?_)); done))) | refine subTail ?_))) hne hl ⟨rfl, keep1 rfl rfl, keep1 rfl rfl, keep1 rfl rfl, ⟨_, some_int ?h9⟩, e2⟩)
         rw [e1, frameWhole_snoc, p32]
         unfold tagNum
         omega)
end

section -- part G9
set_option maxHeartbeats 8000000

section
variable {prog : Program} {w : World} {A : Around} {E : Value → Shared → Prop} {s : Shared} {env : Env} {h₀ : Heap} {Q : Flow → Shared → Prop}
theorem stop_while {M : Model} {test : Expr} {body orelse : List Stmt} {pos : Pos} (h : Stop (wpAny M A (exec (.While test body orelse pos) env) Q E s)) : wpAny M A (exec (.While test body orelse pos) env) Q E s := h
theorem stop_for {M : Model} {target iter : Expr} {body orelse : List Stmt} {pos : Pos} (h : Stop (wpAny M A (exec (.For target iter body orelse pos) env) Q E s)) : wpAny M A (exec (.For target iter body orelse pos) env) Q E s := h
/-- a while's turn's end -/
def WEnd (h₀ : Heap) (L : Addr) (s : Shared) (Jn : (Str → Option Value) → List (Addr × Obj) → Prop) (Q : Flow → Shared → Prop) (f : Flow) (s₃ : Shared) : Prop :=
  match f with
  | .ret v => Q (.ret v) s₃
  | .brk => Q .next s₃
  | _ => ∃ h' tk m' n' nx, s₃ = { s with heap := h', toks := tk } ∧ Fr h₀ L h' m' ∧ News h₀ L h' n' ∧ (∀ p ∈ nx, p ∈ n') ∧ Jn m' nx
theorem WEnd.mk {h₀ h' : Heap} {L : Addr} {Jn : (Str → Option Value) → List (Addr × Obj) → Prop} {s : Shared} {Q : Flow → Shared → Prop} {tk : Nat} {m' : Str → Option Value} {n' nx : List (Addr × Obj)}
    (F : Fr h₀ L h' m') (N : News h₀ L h' n') (hs : ∀ p ∈ nx, p ∈ n') (hJ : Jn m' nx) : WEnd h₀ L s Jn Q .next { s with heap := h', toks := tk } := ⟨h', tk, m', n', nx, rfl, F, N, hs, hJ⟩
open Classical in
theorem While_up2 {test : Expr} {body : List Stmt} {pos : Pos} {m : Str → Option Value} {news : List (Addr × Obj)} (J : Nat → (Str → Option Value) → List (Addr × Obj) → Prop) (C : Nat → Prop) (B : Nat)
    (F : Fr h₀ env.locals s.heap m) (N : News h₀ env.locals s.heap news) (h0 : J 0 m news) (hB : ∀ i m nx, J i m nx → C i → i < B)
    (test_ : ∀ i m₁ nx h tk, J i m₁ nx → Fr h₀ env.locals h m₁ → News h₀ env.locals h nx → wpAny (model prog w) A (isTrue test env (eval test env)) (CondAt (C i) h₀ env.locals m₁ nx { s with heap := h, toks := tk }) E { s with heap := h, toks := tk })
    (turn : ∀ i m₁ nx h tk, J i m₁ nx → C i → Fr h₀ env.locals h m₁ → News h₀ env.locals h nx → wpAny (model prog w) A (execs body env) (WEnd h₀ env.locals s (J (i + 1)) Q) E { s with heap := h, toks := tk })
    (done : ∀ i m₁ nx h tk, J i m₁ nx → ¬ C i → Fr h₀ env.locals h m₁ → News h₀ env.locals h nx → Q .next { s with heap := h, toks := tk })
    (hE : PassesOwn (model prog w) A env E := by passes_own) :
    wpAny (model prog w) A (exec (.While test body [] pos) env) Q E s := by
  refine While_inv2 (fun n m nx => ∃ i, J i m nx ∧ (i < B ∧ n = B + 1 - i ∨ ¬ C i ∧ n = 0)) (n₀ := if C 0 then B + 1 else 0) F N ?_ ?_ hE
  · refine ⟨0, h0, ?_⟩
    by_cases h : C 0
    · exact .inl ⟨hB _ _ _ h0 h, by rw [if_pos h]; omega⟩
    · exact .inr ⟨h, by rw [if_neg h]⟩
  · rintro n m₁ nx h tk F₁ N₁ ⟨i, hJ, hn⟩
    refine wpAny_mono (test_ i m₁ nx h tk hJ F₁ N₁) (fun b s₂ h₂ => ?_) fun _ _ e => e
    obtain ⟨hb, h', tk', n', rfl, F₂, N₂, hs⟩ := h₂
    have N₃ := newsDrop N₂ hs
    cases b with
    | true =>
      have hc : C i := hb.mp rfl
      have hi : i < B := hB _ _ _ hJ hc
      rw [if_pos rfl]
      refine wpAny_mono (turn i m₁ nx h' tk' hJ hc F₂ N₃) (fun f s₃ h₃ => ?_) fun _ _ e => e
      have hnn : n = B + 1 - i := hn.elim (fun q => q.2) fun q => absurd hc q.1
      have fin : (∃ h' tk m' n' nx, s₃ = { s with heap := h', toks := tk } ∧ Fr h₀ env.locals h' m' ∧ News h₀ env.locals h' n' ∧ (∀ p ∈ nx, p ∈ n') ∧ J (i + 1) m' nx) →
          ∃ h' tk m₂ news₂ n', s₃ = { s with heap := h', toks := tk } ∧ Fr h₀ env.locals h' m₂ ∧ News h₀ env.locals h' news₂ ∧ n' < n ∧ ∃ i, J i m₂ news₂ ∧ (i < B ∧ n' = B + 1 - i ∨ ¬ C i ∧ n' = 0) := by
        rintro ⟨h₅, tk₅, m₅, n₅, nx₅, e₅, F₅, N₅, s5, J5⟩
        by_cases hc' : C (i + 1)
        · exact ⟨h₅, tk₅, m₅, nx₅, B + 1 - (i + 1), e₅, F₅, newsDrop N₅ s5, by omega, i + 1, J5, .inl ⟨hB _ _ _ J5 hc', rfl⟩⟩
        · exact ⟨h₅, tk₅, m₅, nx₅, 0, e₅, F₅, newsDrop N₅ s5, by omega, i + 1, J5, .inr ⟨hc', rfl⟩⟩
      cases f with
      | ret v => exact h₃
      | brk => exact h₃
      | next => exact fin h₃
      | cont => exact fin h₃
    | false =>
      rw [if_neg (by decide)]
      exact done i m₁ nx h' tk' hJ (fun q => by have := hb.mpr q; cases this) F₂ N₃
abbrev rangeObj (a b : Int) (t u v : Tok) : Obj := { cls := .type "range", dict := none, data := .fields #[.int a t, .int b u, .int 1 v], slots := #[] }
/-- a turn's end of a loop over a range -/
def REnd (h₀ : Heap) (L I : Addr) (oI : Obj) (Jn : (Str → Option Value) → List (Addr × Obj) → Prop) (s : Shared) (Q : Flow → Shared → Prop) (f : Flow) (s₃ : Shared) : Prop :=
  match f with
  | .ret v => Q (.ret v) s₃
  | .brk => Q .next s₃
  | _ => ∃ h' tk m' n' nx, s₃ = { s with heap := h', toks := tk } ∧ Fr h₀ L h' m' ∧ News h₀ L h' n' ∧ (∀ p ∈ (I, oI) :: nx, p ∈ n') ∧ (∀ p ∈ nx, p.1 ≠ I) ∧ Jn m' nx
theorem REnd.mk {h₀ h' : Heap} {L I : Addr} {oI : Obj} {Jn : (Str → Option Value) → List (Addr × Obj) → Prop} {s : Shared} {Q : Flow → Shared → Prop} {tk : Nat} {m' : Str → Option Value} {n' nx : List (Addr × Obj)}
    (F : Fr h₀ L h' m') (N : News h₀ L h' n') (hs : ∀ p ∈ (I, oI) :: nx, p ∈ n') (hne : ∀ p ∈ nx, p.1 ≠ I) (hJ : Jn m' nx) : REnd h₀ L I oI Jn s Q .next { s with heap := h', toks := tk } := ⟨h', tk, m', n', nx, rfl, F, N, hs, hne, hJ⟩
theorem For_rangeG {x : Str} {px : Pos} {iter : Expr} {pos : Pos} (G : Heap → Prop)
    (h : wpAny (model prog w) A (eval iter env) (fun xv s₁ => Stop (∃ (r : Addr) (a b : Int) (t u v : Tok) (n : Nat) (g₁ : Heap) (m₀ : Str → Option Value) (nx n1 : List (Addr × Obj)) (J : Nat → (Str → Option Value) → List (Addr × Obj) → Prop), xv = .ref r ∧ A.handled = none ∧ G g₁ ∧ Fr g₁ env.locals s₁.heap m₀ ∧ News g₁ env.locals s₁.heap n1 ∧ IsRange s₁.heap r a b 1 t u v ∧ (∀ p ∈ nx, p ∈ n1) ∧ Builtin.Range.small a b 1 = true ∧ Builtin.Range.rangeSize a b 1 = ((n : Nat) : Int) ∧ J 0 m₀ nx ∧
      (∀ I oI g i m₁ nx h tk t, i < n → G g → J i m₁ nx → (∀ p ∈ nx, p.1 ≠ I) → Fr g env.locals h m₁ → News g env.locals h ((I, oI) :: nx) →
        wpAny (model prog w) A (assign (.Name x px) env (.int (a + (i : Int)) t)) (fun _ s₃ => wpAny (model prog w) A (execs body env) (GEnd G env.locals I oI (J (i + 1)) s₁ Q) E s₃) E { s₁ with heap := h, toks := tk }) ∧
      ∀ g m' nx h' tk, G g → J n m' nx → Fr g env.locals h' m' → News g env.locals h' nx → Q .next { s₁ with heap := h', toks := tk })) E s)
    (hs : ∀ x, foldedSetIterable iter env x = pure x)
    (hE : PassesOwn (model prog w) A env E := by passes_own) :
    wpAny (model prog w) A (exec (.For (.Name x px) iter body [] pos) env) Q E s := by
  refine wpAny_For (wpAny_mono h (fun xv s₁ h₁ => ?_) fun _ _ e => e) hs
  obtain ⟨r, a, b, t, u, v, n, g₁, m₀, nx, n1, J, rfl, hh, hG, F, N, hr, hsub, hsm, hn, h0, turn, done⟩ := h₁
  have N0 := newsDrop N hsub
  refine wpAny_pyIter_range hr hsm ?_
  have hF0 : g₁.get? s₁.heap.objs.size = none := next_is_new F
  have hIL : env.locals ≠ s₁.heap.objs.size := Nat.ne_of_lt F.ns.lt
  have lsz : ∀ b o, s₁.heap.get? b = some o → b ≠ s₁.heap.objs.size := fun b o e => Nat.ne_of_lt (Heap.lt_size e)
  have hit0 : IsRangeIter (s₁.heap.push { cls := .type "range_iterator", data := .fields #[rawInt a, rawInt (Builtin.Range.rangeSize a b 1), rawInt 1] }) s₁.heap.objs.size (a + ((0 : Nat) : Int)) ((n : Int) - ((0 : Nat) : Int)) 1 := by
    have e1 : a + ((0 : Nat) : Int) = a := by omega
    have e2 : (n : Int) - ((0 : Nat) : Int) = (n : Int) := by omega
    rw [e1, e2, ← hn]
    exact Heap.get?_push_size _ rfl
  refine codeAny_forLoop_any
    (fun k s' => ∃ h' tk m' nx i g, s' = { s₁ with heap := h', toks := tk } ∧ IsRangeIter h' s₁.heap.objs.size (a + ((i : Nat) : Int)) ((n : Int) - (i : Int)) 1 ∧ (∀ p ∈ nx, p.1 ≠ s₁.heap.objs.size) ∧ G g ∧ g.get? s₁.heap.objs.size = none ∧ Fr g env.locals h' m' ∧ News g env.locals h' nx ∧ J i m' nx ∧ i ≤ n ∧ k = n + 1 - i) ?_ (n + 1)
    ⟨_, s₁.toks, m₀, nx, 0, g₁, rfl, hit0, fun p hp => lsz _ _ (N0 p hp).1, hG, hF0, F.push _, fun p hp => ⟨Heap.get?_push_of_some _ (N0 p hp).1, (N0 p hp).2⟩, h0, Nat.zero_le _, rfl⟩
  rintro k s' ⟨h', tk, m', nx', i, g, rfl, hit, hne, hG', hg0, F', N', hJ, hi, rfl⟩
  have keep : ∀ h₂ : Heap, (∀ b o, b ≠ s₁.heap.objs.size → h'.get? b = some o → h₂.get? b = some o) → Fr g env.locals h₂ m' ∧ News g env.locals h₂ nx' := fun h₂ hk =>
    ⟨⟨F'.ns.at' fun o e => hk _ o hIL e, fun b o e => hk b o (fun q => by rw [q, hg0] at e; cases e) (F'.keep b o e), F'.above⟩, fun p hp => ⟨hk _ _ (hne p hp) (N' p hp).1, (N' p hp).2⟩⟩
  by_cases hlt : i < n
  · refine wpAny_pyNext_range_item hit (by omega) fun h₂ hit₂ hs₂ => ?_
    obtain ⟨F₂, N₂⟩ := keep h₂ fun b o hb e => hs₂.extBut b o hb e
    have N₃ : News g env.locals h₂ ((s₁.heap.objs.size, { cls := .type "range_iterator", dict := none, data := .fields #[rawInt (a + (i : Int) + 1), rawInt ((n : Int) - (i : Int) - 1), rawInt 1], slots := #[] }) :: nx') := fun p hp => by
      rcases List.mem_cons.mp hp with rfl | hp
      · exact ⟨hit₂, fun q => hIL q.symm, hg0⟩
      · exact N₂ p hp
    refine (show wpAny _ _ (letOwnedTupleGo (Expr.Name x px) _ _) _ _ _ from wpAny_pure ?_)
    have T := turn s₁.heap.objs.size _ g i m' nx' h₂ (tk + 1) tk hlt hG' hJ hne F₂ N₃
    refine wpAny_passesOwn hE (wpAny_mono T (fun _ s₃ h₃ => wpAny_passesOwn hE (wpAny_mono h₃ (fun f s₄ h₄ => ?_) fun _ _ e => e)) fun _ _ e => e)
    have fin : GEnd G env.locals s₁.heap.objs.size { cls := .type "range_iterator", dict := none, data := .fields #[rawInt (a + (i : Int) + 1), rawInt ((n : Int) - (i : Int) - 1), rawInt 1], slots := #[] } (J (i + 1)) s₁ Q .next s₄ →
        ∃ m, m < n + 1 - i ∧ ∃ h' tk m' nx i g, s₄ = { s₁ with heap := h', toks := tk } ∧ IsRangeIter h' s₁.heap.objs.size (a + ((i : Nat) : Int)) ((n : Int) - (i : Int)) 1 ∧ (∀ p ∈ nx, p.1 ≠ s₁.heap.objs.size) ∧ G g ∧ g.get? s₁.heap.objs.size = none ∧ Fr g env.locals h' m' ∧ News g env.locals h' nx ∧ J i m' nx ∧ i ≤ n ∧ m = n + 1 - i := by
      rintro ⟨g₅, h₅, tk₅, m₅, n₅, nx₅, e₅, G₅, F₅, N₅, s5, ne5, J5⟩
      have z := N₅ _ (s5 _ (.head _))
      refine ⟨n + 1 - (i + 1), by omega, h₅, tk₅, m₅, nx₅, i + 1, g₅, e₅, ?_, ne5, G₅, z.2.2, F₅, newsDrop N₅ fun p hp => s5 p (.tail _ hp), J5, hlt, rfl⟩
      have e1 : a + ((i + 1 : Nat) : Int) = a + (i : Int) + 1 := by omega
      have e2 : (n : Int) - ((i + 1 : Nat) : Int) = (n : Int) - (i : Int) - 1 := by omega
      rw [e1, e2]
      exact z.1
    cases f with
    | ret v => exact h₄
    | brk => exact h₄
    | next => exact fin h₄
    | cont => exact fin h₄
  · have hin : i = n := by omega
    subst hin
    refine wpAny_pyNext_range_end hh hit (by omega) fun h₂ he' => wpAny_execs_nil ?_
    obtain ⟨F₂, N₂⟩ := keep h₂ fun b o hb e => he' b o hb e
    exact done g m' nx' h₂ tk hG' hJ F₂ N₂
theorem For_range {x : Str} {px : Pos} {iter : Expr} {body : List Stmt} {pos : Pos} {m : Str → Option Value} (_F : Fr h₀ env.locals s.heap m)
    (h : wpAny (model prog w) A (eval iter env) (fun xv s₁ => Stop (∃ (r : Addr) (a b : Int) (t u v : Tok) (n : Nat) (m₀ : Str → Option Value) (nx n1 : List (Addr × Obj)) (J : Nat → (Str → Option Value) → List (Addr × Obj) → Prop), xv = .ref r ∧ A.handled = none ∧ Fr h₀ env.locals s₁.heap m₀ ∧ News h₀ env.locals s₁.heap n1 ∧ IsRange s₁.heap r a b 1 t u v ∧ (∀ p ∈ nx, p ∈ n1) ∧ Builtin.Range.small a b 1 = true ∧ Builtin.Range.rangeSize a b 1 = ((n : Nat) : Int) ∧ J 0 m₀ nx ∧
      (∀ I oI i m₁ nx h tk t, i < n → J i m₁ nx → (∀ p ∈ nx, p.1 ≠ I) → Fr h₀ env.locals h m₁ → News h₀ env.locals h ((I, oI) :: nx) →
        wpAny (model prog w) A (assign (.Name x px) env (.int (a + (i : Int)) t)) (fun _ s₃ => wpAny (model prog w) A (execs body env) (REnd h₀ env.locals I oI (J (i + 1)) s₁ Q) E s₃) E { s₁ with heap := h, toks := tk }) ∧
      ∀ m' nx h' tk, J n m' nx → Fr h₀ env.locals h' m' → News h₀ env.locals h' nx → Q .next { s₁ with heap := h', toks := tk })) E s)
    (hs : ∀ x, foldedSetIterable iter env x = pure x)
    (hE : PassesOwn (model prog w) A env E := by passes_own) :
    wpAny (model prog w) A (exec (.For (.Name x px) iter body [] pos) env) Q E s := by
  refine For_rangeG (fun g => g = h₀) (wpAny_mono h (fun xv s₁ h₁ => ?_) fun _ _ e => e) hs hE
  obtain ⟨r, a, b, t, u, v, n, m₀, nx, n1, J, e1, hh, F, N, hr, hsub, hsm, hn, h0, turn, done⟩ := h₁
  refine ⟨r, a, b, t, u, v, n, h₀, m₀, nx, n1, J, e1, hh, rfl, F, N, hr, hsub, hsm, hn, h0, ?_, fun g m' nx h' tk hg hJ F' N' => ?_⟩
  · intro I oI g i m₁ nx hp tk t hi hg hJ hne F' N'
    subst hg
    refine wpAny_mono (turn I oI i m₁ nx hp tk t hi hJ hne F' N') (fun _ s₃ h₃ => wpAny_mono h₃ (fun f s₄ h₄ => ?_) fun _ _ e => e) fun _ _ e => e
    cases f with
    | ret v => exact h₄
    | brk => exact h₄
    | next => obtain ⟨h', tk, m', n', nx, e, a, b, c, d, g⟩ := h₄; exact ⟨_, h', tk, m', n', nx, e, rfl, a, b, c, d, g⟩
    | cont => obtain ⟨h', tk, m', n', nx, e, a, b, c, d, g⟩ := h₄; exact ⟨_, h', tk, m', n', nx, e, rfl, a, b, c, d, g⟩
  · subst hg
    exact done m' nx h' tk hJ F' N'
end
end
section -- part K2
set_option maxHeartbeats 8000000

section
variable {prog : Program} {w : World} {A : Around} {E : Value → Shared → Prop} {s : Shared} {env : Env} {h₀ : Heap} {body : List Stmt} {Q : Flow → Shared → Prop}
theorem For_listG {x : Str} {px : Pos} {iter : Expr} {pos : Pos} (G : Heap → Prop)
    (h : wpAny (model prog w) A (eval iter env) (fun xv s₁ => Stop (∃ (l : Addr) (vs : List Value) (nn : Nat) (g₁ : Heap) (m₀ : Str → Option Value) (nx n1 : List (Addr × Obj)) (J : Nat → (Str → Option Value) → List (Addr × Obj) → Prop), xv = .ref l ∧ A.handled = none ∧ G g₁ ∧ (l, listOf vs.toArray nn) ∈ nx ∧ Fr g₁ env.locals s₁.heap m₀ ∧ News g₁ env.locals s₁.heap n1 ∧ (∀ p ∈ nx, p ∈ n1) ∧ J 0 m₀ nx ∧
      (∀ I oI g i v m₁ nx h tk, vs[i]? = some v → G g → J i m₁ nx → (l, listOf vs.toArray nn) ∈ nx → (∀ p ∈ nx, p.1 ≠ I) → Fr g env.locals h m₁ → News g env.locals h ((I, oI) :: nx) →
        wpAny (model prog w) A (assign (.Name x px) env v) (fun _ s₃ => wpAny (model prog w) A (execs body env) (GEnd G env.locals I oI (fun m nx => (l, listOf vs.toArray nn) ∈ nx ∧ J (i + 1) m nx) s₁ Q) E s₃) E { s₁ with heap := h, toks := tk }) ∧
      ∀ g m' nx h' tk, G g → J vs.length m' nx → Fr g env.locals h' m' → News g env.locals h' nx → Q .next { s₁ with heap := h', toks := tk })) E s)
    (hs : ∀ x, foldedSetIterable iter env x = pure x)
    (hE : PassesOwn (model prog w) A env E := by passes_own) :
    wpAny (model prog w) A (exec (.For (.Name x px) iter body [] pos) env) Q E s :=
  For_listA G (fun _ hQ => (show wpAny _ _ (letOwnedTupleGo (Expr.Name x px) _ _) _ _ _ from wpAny_pure hQ)) h hs hE
end
/-- what holds of the ground between two turns -/
def GRnd (w : World) (A₀ : Around) (base : Heap) (outer : List Env) (mean : ExcName → Option Value) (mg mb : Str → Option Value) (g₀ h₁ : Heap) : Prop :=
  KtsTurn (outer.filterMap (·.frame)) g₀ h₁ ∧ Below A₀ base outer h₁ ∧ (hd.heap_1 w.params).In h₁ ∧ Top Vw (looseW Vw []) mean mg mb h₁ ∧ KtsDicts (outer.filterMap (·.frame)) h₁
section
variable {prog : Program} {w : World} {A : Around} {E : Value → Shared → Prop} {s : Shared} {env : Env} {h₀ : Heap} {body : List Stmt} {Q : Flow → Shared → Prop}
theorem For_rangeG_of {x : Str} {px : Pos} {iter : Expr} {pos : Pos} {A₀ : Around} {base : Heap} {outer : List Env} {mean : ExcName → Option Value} {mg mb : Str → Option Value} {g₀ h₁ : Heap} (_hG : GRnd w A₀ base outer mean mg mb g₀ h₁)
    (h : wpAny (model prog w) A (eval iter env) (fun xv s₁ => Stop (∃ (r : Addr) (a b : Int) (t u v : Tok) (n : Nat) (g₁ : Heap) (m₀ : Str → Option Value) (nx n1 : List (Addr × Obj)) (J : Nat → (Str → Option Value) → List (Addr × Obj) → Prop), xv = .ref r ∧ A.handled = none ∧ GRnd w A₀ base outer mean mg mb g₀ g₁ ∧ Fr g₁ env.locals s₁.heap m₀ ∧ News g₁ env.locals s₁.heap n1 ∧ IsRange s₁.heap r a b 1 t u v ∧ (∀ p ∈ nx, p ∈ n1) ∧ Builtin.Range.small a b 1 = true ∧ Builtin.Range.rangeSize a b 1 = ((n : Nat) : Int) ∧ J 0 m₀ nx ∧
      (∀ I oI g i m₁ nx h tk t, i < n → GRnd w A₀ base outer mean mg mb g₀ g → J i m₁ nx → (∀ p ∈ nx, p.1 ≠ I) → Fr g env.locals h m₁ → News g env.locals h ((I, oI) :: nx) →
        wpAny (model prog w) A (assign (.Name x px) env (.int (a + (i : Int)) t)) (fun _ s₃ => wpAny (model prog w) A (execs body env) (GEnd (GRnd w A₀ base outer mean mg mb g₀) env.locals I oI (J (i + 1)) s₁ Q) E s₃) E { s₁ with heap := h, toks := tk }) ∧
      ∀ g m' nx h' tk, GRnd w A₀ base outer mean mg mb g₀ g → J n m' nx → Fr g env.locals h' m' → News g env.locals h' nx → Q .next { s₁ with heap := h', toks := tk })) E s)
    (hs : ∀ x, foldedSetIterable iter env x = pure x)
    (hE : PassesOwn (model prog w) A env E := by passes_own) :
    wpAny (model prog w) A (exec (.For (.Name x px) iter body [] pos) env) Q E s := For_rangeG (GRnd w A₀ base outer mean mg mb g₀) h hs hE
theorem For_listG_of {x : Str} {px : Pos} {iter : Expr} {pos : Pos} {A₀ : Around} {base : Heap} {outer : List Env} {mean : ExcName → Option Value} {mg mb : Str → Option Value} {g₀ h₁ : Heap} (_hG : GRnd w A₀ base outer mean mg mb g₀ h₁)
    (h : wpAny (model prog w) A (eval iter env) (fun xv s₁ => Stop (∃ (l : Addr) (vs : List Value) (nn : Nat) (g₁ : Heap) (m₀ : Str → Option Value) (nx n1 : List (Addr × Obj)) (J : Nat → (Str → Option Value) → List (Addr × Obj) → Prop), xv = .ref l ∧ A.handled = none ∧ GRnd w A₀ base outer mean mg mb g₀ g₁ ∧ (l, listOf vs.toArray nn) ∈ nx ∧ Fr g₁ env.locals s₁.heap m₀ ∧ News g₁ env.locals s₁.heap n1 ∧ (∀ p ∈ nx, p ∈ n1) ∧ J 0 m₀ nx ∧
      (∀ I oI g i v m₁ nx h tk, vs[i]? = some v → GRnd w A₀ base outer mean mg mb g₀ g → J i m₁ nx → (l, listOf vs.toArray nn) ∈ nx → (∀ p ∈ nx, p.1 ≠ I) → Fr g env.locals h m₁ → News g env.locals h ((I, oI) :: nx) →
        wpAny (model prog w) A (assign (.Name x px) env v) (fun _ s₃ => wpAny (model prog w) A (execs body env) (GEnd (GRnd w A₀ base outer mean mg mb g₀) env.locals I oI (fun m nx => (l, listOf vs.toArray nn) ∈ nx ∧ J (i + 1) m nx) s₁ Q) E s₃) E { s₁ with heap := h, toks := tk }) ∧
      ∀ g m' nx h' tk, GRnd w A₀ base outer mean mg mb g₀ g → J vs.length m' nx → Fr g env.locals h' m' → News g env.locals h' nx → Q .next { s₁ with heap := h', toks := tk })) E s)
    (hs : ∀ x, foldedSetIterable iter env x = pure x)
    (hE : PassesOwn (model prog w) A env E := by passes_own) :
    wpAny (model prog w) A (exec (.For (.Name x px) iter body [] pos) env) Q E s := For_listG (GRnd w A₀ base outer mean mg mb g₀) h hs hE
end
theorem free1 {m m₀ : Str → Option Value} {a : Str} (h : ∀ y, y ≠ a → m y = m₀ y) : ∃ va, m = fun y => if y = a then va else m₀ y := by
  refine ⟨m a, funext fun y => ?_⟩
  by_cases q : y = a
  · rw [if_pos q, q]
  · rw [if_neg q, h y q]
theorem free3 {m m₀ : Str → Option Value} {a b c : Str} (h : ∀ y, y ≠ a → y ≠ b → y ≠ c → m y = m₀ y) : ∃ va vb vc, m = fun y => if y = a then va else if y = b then vb else if y = c then vc else m₀ y := by
  refine ⟨m a, m b, m c, funext fun y => ?_⟩
  by_cases q : y = a
  · rw [if_pos q, q]
  · rw [if_neg q]
    by_cases q2 : y = b
    · rw [if_pos q2, q2]
    · rw [if_neg q2]
      by_cases q3 : y = c
      · rw [if_pos q3, q3]
      · rw [if_neg q3, h y q q2 q3]
theorem three_of {P : Value → Prop} {a b c v : Value} : ∀ {i : Nat}, [a, b, c][i]? = some v → P a → P b → P c → P v
  | 0, h, ha, _, _ => by cases h; exact ha
  | 1, h, _, hb, _ => by cases h; exact hb
  | 2, h, _, _, hc => by cases h; exact hc
  | n + 3, h, _, _, _ => by simp at h
end
section -- part H0
set_option maxHeartbeats 8000000
local macro_rules | `(tactic| omega) => `(tactic| first | decide +kernel | omega +splitMinMax)

/-- octets cut out -/
def slc (ks : List Int) (lo hi : Int) : List Int := (ks.drop (clipAt ks.length lo)).take (clipAt ks.length hi - clipAt ks.length lo)
theorem clip_pos {n : Nat} {x : Int} (h : 0 ≤ x) : clipAt n x = min x.toNat n := by
  obtain ⟨k, rfl⟩ := Int.eq_ofNat_of_zero_le h
  rw [clipAt_nat]
  rfl
theorem slc_len {ks : List Int} {lo hi : Int} {n : Nat} (h0 : 0 ≤ lo) (h1 : lo ≤ hi) (h2 : hi ≤ lo + n) : (slc ks lo hi).length ≤ n := by
  unfold slc
  rw [List.length_take, clip_pos h0, clip_pos (Int.le_trans h0 h1)]
  omega
theorem slc_eq {ks : List Int} {lo hi : Int} {a n : Nat} (h0 : lo = a) (h1 : hi = a + n) (h2 : a + n ≤ ks.length) : slc ks lo hi = (ks.drop a).take n := by
  subst h0
  subst h1
  unfold slc
  rw [clipAt_nat, show ((a : Nat) : Int) + ((n : Nat) : Int) = ((a + n : Nat) : Int) by omega, clipAt_nat, Nat.min_eq_left (show a ≤ ks.length by omega), Nat.min_eq_left h2, Nat.add_sub_cancel_left]
theorem getD_lt {ks : List Int} {i : Nat} (h : i < ks.length) : ks.getD i 0 = ks[i] := by rw [List.getD_eq_getElem?_getD, List.getElem?_eq_getElem h]; rfl
theorem getD_ge {ks : List Int} {i : Nat} (h : ks.length ≤ i) : ks.getD i 0 = 0 := by rw [List.getD_eq_getElem?_getD, List.getElem?_eq_none h]; rfl
theorem whole_two {ks : List Int} {a : Nat} (h : a + 2 ≤ ks.length) : wholeOf ((ks.drop a).take 2) = 256 * ks.getD a 0 + ks.getD (a + 1) 0 := by
  have e1 : ks.drop a = ks.getD a 0 :: ks.getD (a + 1) 0 :: ks.drop (a + 2) := by
    rw [List.drop_eq_getElem_cons (show a < ks.length by omega), List.drop_eq_getElem_cons (show a + 1 < ks.length by omega), getD_lt (show a < ks.length by omega), getD_lt (show a + 1 < ks.length by omega)]
  rw [e1]
  show (0 * 256 + ks.getD a 0) * 256 + ks.getD (a + 1) 0 = _
  omega
theorem getD_oct {ks : List Int} (h : Octs ks) (i : Nat) : 0 ≤ ks.getD i 0 ∧ ks.getD i 0 < 256 := by
  by_cases hi : i < ks.length
  · rw [getD_lt hi]; exact h _ (List.getElem_mem hi)
  · rw [getD_ge (by omega)]; decide
/-- an octet at its place -/
def oct (ks : List Int) (i : Nat) : Int := ks.getD i 0
theorem oct_in {ks : List Int} (h : Octs ks) (i : Nat) : 0 ≤ oct ks i ∧ oct ks i < 256 := getD_oct h i
def isTagK (k : Int) : Prop := k = 33024 ∨ k = 34984
def wordAt (ks : List Int) (j : Nat) : Int := 256 * oct ks (12 + 4 * j) + oct ks (13 + 4 * j)
def lowAt (ks : List Int) (j : Nat) : Int := 256 * oct ks (14 + 4 * j) + oct ks (15 + 4 * j)
theorem low_in {ks : List Int} (h : Octs ks) (j : Nat) : 0 ≤ lowAt ks j ∧ lowAt ks j < 65536 := by
  have h1 := oct_in h (14 + 4 * j)
  have h2 := oct_in h (15 + 4 * j)
  unfold lowAt
  omega
theorem word_in {ks : List Int} (h : Octs ks) (j : Nat) : 0 ≤ wordAt ks j ∧ wordAt ks j < 65536 := by
  have h1 := oct_in h (12 + 4 * j)
  have h2 := oct_in h (13 + 4 * j)
  unfold wordAt
  omega
def numW (ks : List Int) : Nat := (ks.length - 10) / 4
def tagAt (ks : List Int) (j : Nat) : Tag := (wordAt ks j, lowAt ks j / 8192, lowAt ks j / 4096 % 2, lowAt ks j % 4096)
def headTags (ks : List Int) (n : Nat) : List Tag := (List.range n).map (tagAt ks)
theorem headTags_snoc (ks : List Int) (n : Nat) : headTags ks (n + 1) = headTags ks n ++ [tagAt ks n] := by
  unfold headTags
  rw [List.range_succ, List.map_append]
  rfl
theorem headTags_len (ks : List Int) (n : Nat) : (headTags ks n).length = n := by simp [headTags]
/-- the place of the first word that is no tag's kind -/
inductive HeadIs (ks : List Int) : Option Nat → Prop
  | found (n : Nat) : n < numW ks → (∀ j < n, isTagK (wordAt ks j)) → ¬ isTagK (wordAt ks n) → HeadIs ks (some n)
  | no : (∀ j < numW ks, isTagK (wordAt ks j)) → HeadIs ks none
theorem HeadIs.only {ks : List Int} {a b : Option Nat} (h : HeadIs ks a) (g : HeadIs ks b) : a = b := by
  cases h with
  | found n h1 h2 h3 =>
    cases g with
    | found k g1 g2 g3 =>
      have : n = k := by
        rcases Nat.lt_trichotomy n k with q | q | q
        · exact absurd (g2 n q) h3
        · exact q
        · exact absurd (h2 k q) g3
      rw [this]
    | no g1 => exact absurd (g1 n h1) h3
  | no h1 =>
    cases g with
    | found k g1 g2 g3 => exact absurd (h1 k g1) g3
    | no _ => rfl
abbrev tooShort : Str := Str.ofString "frame too short"
def headDat (ks : List Int) : Option Nat → Dat
  | none => .tuple [.str tooShort, .list []]
  | some n => .tuple [.str (Str.ofString ""), .list [.int (wholeOf (slc ks 0 6)), .int (wholeOf (slc ks 6 12)), .list ((headTags ks n).map tagDat), .int (wordAt ks n), .int (14 + 4 * (n : Int))]]
abbrev dictHead (ks : List Int) (n : Nat) (l : Addr) (h0 h1 h2 h3 : Int) (k0 k1 k2 k3 t0 t1 t3 : Tok) : Obj := etherDict h0 h1 h2 h3 k0 k1 k2 k3 t0 t1 t3 (wholeOf (slc ks 0 6)) (wholeOf (slc ks 6 12)) l (wordAt ks n)
/-- what a head's reading stands for -/
def HeadRep (nx : List (Addr × Obj)) (r : Value) (ks : List Int) : Option Nat → Prop
  | none => ∃ D c t n2, r = .ref D ∧ (D, pairObj (.str tooShort t) (.ref c)) ∈ nx ∧ (c, listOf (List.toArray []) n2) ∈ nx
  | some n => ∃ D c t n2 l vs n3 t0 t1 t3 t4, r = .ref D ∧ (D, pairObj (.str (Str.ofString "") t) (.ref c)) ∈ nx ∧ (c, listOf (List.toArray [.int (wholeOf (slc ks 0 6)) t0, .int (wholeOf (slc ks 6 12)) t1, .ref l, .int (wordAt ks n) t3, .int (14 + 4 * (n : Int)) t4]) n2) ∈ nx ∧ (l, listOf (List.toArray vs) n3) ∈ nx ∧ DatAll nx vs ((headTags ks n).map tagDat)
theorem HeadRep.dat {nx : List (Addr × Obj)} {r : Value} {ks : List Int} : ∀ {o : Option Nat}, HeadRep nx r ks o → DatIn nx r (headDat ks o)
  | none, ⟨D, c, t, n2, e, h1, h2⟩ => by
    rw [e]
    exact .tuple (vs := [.str tooShort t, .ref c]) h1 (.cons (.str _ _) (.cons (.list (vs := []) h2 .nil) .nil))
  | some n, ⟨D, c, t, n2, l, vs, n3, t0, t1, t3, t4, e, h1, h2, h3, h4⟩ => by
    rw [e]
    exact .tuple (vs := [.str _ t, .ref c]) h1 (.cons (.str _ _) (.cons (.list h2 (.cons (.int _ _) (.cons (.int _ _) (.cons (.list h3 h4) (.cons (.int _ _) (.cons (.int _ _) .nil)))))) .nil))
theorem bit_low {c : Int} (k m : Nat) (hm : 2 ^ k = m + 1) (h0 : 0 ≤ c) : Builtin.bitAnd c (m : Int) = c % (2 ^ k : Int) := by
  show Spec.bitAnd c m = _
  unfold Spec.bitAnd
  rw [decide_eq_true h0, decide_eq_true (show (0 : Int) ≤ m by omega)]
  show ((c.toNat &&& (m : Int).toNat : Nat) : Int) = _
  rw [Int.toNat_natCast, show m = 2 ^ k - 1 by omega, Nat.and_two_pow_sub_one_eq_mod]
  push_cast
  rw [Int.toNat_of_nonneg h0]
theorem bit_4095 {c : Int} (h0 : 0 ≤ c) : Builtin.bitAnd c 4095 = c % 4096 := bit_low 12 4095 (by decide) h0
theorem bit_one {c : Int} (h0 : 0 ≤ c) : Builtin.bitAnd c 1 = c % 2 := bit_low 1 1 (by decide) h0
theorem datAll_snoc {nx : List (Addr × Obj)} : ∀ {vs : List Value} {ds : List Dat} {v : Value} {d : Dat}, DatAll nx vs ds → DatIn nx v d → DatAll nx (vs ++ [v]) (ds ++ [d])
  | _, _, _, _, .nil, h => .cons h .nil
  | _, _, _, _, .cons a r, h => .cons a (datAll_snoc r h)
theorem five_keys {m : Str → Option Value} {a b c d e : Str} {va vb vc vd ve : Value} (ha : m a = some va) (hb : m b = some vb) (hc : m c = some vc) (hd : m d = some vd) (he : m e = some ve) : ∃ u : Str → Option Value, m = fun y => if y = a then some va else if y = b then some vb else if y = c then some vc else if y = d then some vd else if y = e then some ve else u y := by
  refine ⟨m, funext fun y => ?_⟩
  by_cases h1 : y = a
  · rw [if_pos h1, h1, ha]
  · rw [if_neg h1]
    by_cases h2 : y = b
    · rw [if_pos h2, h2, hb]
    · rw [if_neg h2]
      by_cases h3 : y = c
      · rw [if_pos h3, h3, hc]
      · rw [if_neg h3]
        by_cases h4 : y = d
        · rw [if_pos h4, h4, hd]
        · rw [if_neg h4]
          by_cases h5 : y = e
          · rw [if_pos h5, h5, he]
          · rw [if_neg h5]
section
variable {prog : Program} {w : World} {A : Around} {E : Value → Shared → Prop} {s : Shared} {value slice : PySem.Expr} {b : Array UInt8} {t : Tok} {h₀ : Heap} {L : Addr} {m : PySem.Str → Option Value} {news : List (Addr × Obj)} {u1 u2 : Tok} {lo hi : Int} {Q : Value → Shared → Prop} {ks : List Int}
theorem slcK (hF : Fr h₀ L s.heap m) (hN : News h₀ L s.heap news) (hk : KBw.bInts b = ks) (hz : ks.length ≤ 16777216)
    (h : ∀ h' t' k c, Fr h₀ L h' m → News h₀ L h' news → KBw.bInts c = slc ks lo hi → Q (.bytes c t') { s with heap := h', toks := k })
    (hs : subscripted slice false (.bytes b t) (.ref s.heap.objs.size) = operate [.ref s.heap.objs.size, .bytes b t] (getItem (.bytes b t) (.ref s.heap.objs.size)) := by with_unfolding_all rfl)
    (ht : ∀ r, letTemporaryGo value (.bytes b t) r = pure () := by intro _; with_unfolding_all rfl) :
    wpAny (model prog w) A (subscriptTail value slice (.bytes b t) (.ref s.heap.objs.size)) Q E { s with heap := s.heap.push { cls := .type "slice", data := .fields #[.int lo u1, .int hi u2, .none] } } :=
  KBc.slice_K hF hN hk (.int lo u1) (.int hi u2) hz (fun h' t' k F N hb => h h' t' k _ F N hb) hs ht
end
end

section -- part G10
set_option maxHeartbeats 8000000

theorem read_turn {ks : List Int} (ho : Octs ks) {i : Nat} {x y z : Int} (hl : ¬ (ks.length : Int) < 14 + 4 * (i : Int) + 4) (hx : x = 14 + 4 * (i : Int)) (hy : y = x + 2) (hz : z = x + 4) :
    wholeOf (slc ks x y) = lowAt ks i ∧ wholeOf (slc ks y z) = wordAt ks (i + 1) := by
  refine ⟨?_, ?_⟩
  · rw [slc_eq (a := 14 + 4 * i) (n := 2) (by omega) (by omega) (by omega), whole_two (by omega)]
    unfold lowAt oct
    rw [show 14 + 4 * i + 1 = 15 + 4 * i by omega]
  · rw [slc_eq (a := 16 + 4 * i) (n := 2) (by omega) (by omega) (by omega), whole_two (by omega)]
    unfold wordAt oct
    rw [show 12 + 4 * (i + 1) = 16 + 4 * i by omega, show 13 + 4 * (i + 1) = 16 + 4 * i + 1 by omega]
theorem read_start {ks : List Int} (h : 14 ≤ ks.length) : wholeOf (slc ks 12 14) = wordAt ks 0 := by
  rw [slc_eq (a := 12) (n := 2) (by omega) (by omega) (by omega), whole_two (by omega)]
  rfl
theorem shr (c : Int) (k : Nat) (b : Int) (hb : (2 : Int) ^ k = b) (hp : 0 < b) : c.fdiv (2 ^ k) = c / b := by
  rw [hb, Int.fdiv_eq_ediv_of_nonneg _ (Int.le_of_lt hp)]
theorem tag_read {ks : List Int} (ho : Octs ks) (i : Nat) : tagDat (tagAt ks i) = Dat.tuple [.int (wordAt ks i), .int ((lowAt ks i).fdiv (2 ^ Int.toNat 13)), .int (Builtin.bitAnd ((lowAt ks i).fdiv (2 ^ Int.toNat 12)) 1), .int (Builtin.bitAnd (lowAt ks i) 4095)] := by
  have h := low_in ho i
  rw [shr _ _ 8192 (by decide) (by decide), shr _ _ 4096 (by decide) (by decide), bit_4095 h.1, bit_one (by omega)]
  rfl
theorem tagK_any {k : Int} : ([33024, 34984].any fun x : Int => x == k) = true ↔ isTagK k := by
  unfold isTagK
  simp only [List.any_cons, List.any_nil, Bool.or_false, Bool.or_eq_true, beq_iff_eq]
  constructor
  · rintro (h | h)
    · exact .inl h.symm
    · exact .inr h.symm
  · rintro (h | h)
    · exact .inl h.symm
    · exact .inr h.symm
theorem head_no {ks : List Int} {i : Nat} (hall : ∀ j < i, isTagK (wordAt ks j)) (hC : isTagK (wordAt ks i)) (h : (ks.length : Int) < 14 + 4 * (i : Int) + 4) : HeadIs ks none := by
  refine .no fun j hj => ?_
  have : j < i ∨ j = i := by unfold numW at hj; omega
  rcases this with q | rfl
  · exact hall j q
  · exact hC
/-- what the reading loop keeps -/
def RJ (b : Array UInt8) (t : Tok) (ks : List Int) (news : List (Addr × Obj)) (i : Nat) (m : Str → Option Value) (nx : List (Addr × Obj)) : Prop :=
  i < numW ks ∧ (∀ j < i, isTagK (wordAt ks j)) ∧ m (Str.ofString "octets") = some (.bytes b t) ∧ (∃ t, m (Str.ofString "kind") = some (.int (wordAt ks i) t)) ∧ (∃ t, m (Str.ofString "at") = some (.int (14 + 4 * (i : Int)) t)) ∧ ∃ l vs c rest, m (Str.ofString "tags") = some (.ref l) ∧ nx = (l, listOf (List.toArray vs) c) :: rest ∧ vs.length = i ∧ (∀ p ∈ rest, p.1 ≠ l) ∧ DatAll rest vs ((headTags ks i).map tagDat) ∧ (∀ q ∈ news, q ∈ rest)
theorem read_end {h₀ h : Heap} {L l T : Addr} {s : Shared} {m : Str → Option Value} {Q : Flow → Shared → Prop} {b : Array UInt8} {t : Tok} {ks : List Int} {news rest : List (Addr × Obj)} {i tk c : Nat} {vs : List Value} {x y : Int} {t4 t5 t6 t7 : Tok} {oT : Obj} (ho : Octs ks) (hx : x = 14 + 4 * (i : Int)) (hy : y = x + 2)
    (F : Fr h₀ L h m) (hoT : oT = { cls := .type "tuple", data := .seq #[.int (wordAt ks i) t4, .int ((wholeOf (slc ks x y)).fdiv (2 ^ Int.toNat 13)) t5, .int (Builtin.bitAnd ((wholeOf (slc ks x y)).fdiv (2 ^ Int.toNat 12)) 1) t6, .int (Builtin.bitAnd (wholeOf (slc ks x y)) 4095) t7] }) (N : News h₀ L h ((T, oT) :: (l, listOf (vs.toArray.push (.ref T)) (c + 1)) :: rest))
    (hl : ¬ (ks.length : Int) < 14 + 4 * (i : Int) + 4) (hlt : @LT.lt Nat _ l T ∧ AllLt T rest) (hall : ∀ j < i, isTagK (wordAt ks j)) (hC : isTagK (wordAt ks i)) (hvl : vs.length = i) (hne : ∀ p ∈ rest, p.1 ≠ l) (hdat : DatAll rest vs ((headTags ks i).map tagDat)) (hsub : ∀ q ∈ news, q ∈ rest)
    (h1 : m (Str.ofString "octets") = some (.bytes b t)) (h2 : ∃ t, m (Str.ofString "kind") = some (.int (wholeOf (slc ks y (14 + 4 * (i : Int) + 4))) t)) (h3 : ∃ t, m (Str.ofString "at") = some (.int (14 + 4 * (i : Int) + 4) t)) (h4 : m (Str.ofString "tags") = some (.ref l)) :
    WEnd h₀ L s (RJ b t ks news (i + 1)) Q .next { s with heap := h, toks := tk } := by
  obtain ⟨e1, e2⟩ := read_turn (z := 14 + 4 * (i : Int) + 4) ho hl hx hy (by omega)
  rw [e1] at hoT
  rw [e2] at h2
  obtain ⟨t3, h3⟩ := h3
  rw [List.push_toArray] at N
  refine ⟨h, tk, m, _, _, rfl, F, N, (fun p hp => ?_), ⟨by unfold numW; omega, fun j hj => ?_, h1, h2, ⟨t3, by rw [h3]; exact some_int (by omega)⟩, l, vs ++ [.ref T], c + 1, (T, oT) :: rest, h4, rfl, by rw [List.length_append, hvl]; rfl, List.forall_mem_cons.mpr ⟨Nat.ne_of_gt hlt.1, hne⟩, ?_, fun q hq => .tail _ (hsub q hq)⟩⟩
  · rcases List.mem_cons.mp hp with rfl | hp
    · exact .tail _ (.head _)
    · rcases List.mem_cons.mp hp with rfl | hp
      · exact .head _
      · exact .tail _ (.tail _ hp)
  · rcases Nat.lt_succ_iff_lt_or_eq.mp hj with q | rfl
    · exact hall j q
    · exact hC
  · rw [headTags_snoc, List.map_append]
    refine datAll_snoc (hdat.mono fun p hp => .tail _ hp) ?_
    show DatIn _ _ (tagDat (tagAt ks i))
    rw [tag_read ho, hoT]
    exact .tuple (.head _) (.cons (.int _ _) (.cons (.int _ _) (.cons (.int _ _) (.cons (.int _ _) .nil))))







local macro_rules | `(tactic| k_all) => `(tactic| with_reducible assumption)

inductive RHead (ks : List Int) (news : List (Addr × Obj)) : Value → List (Addr × Obj) → Prop
  | mk {n : Nat} {T x dx l : Addr} {vs : List Value} {n3 : Nat} {h0 h1 h2 h3 : Int} {k0 k1 k2 k3 t0 t1 t3 t4 : Tok} {n' : List (Addr × Obj)} (hs : ∀ q ∈ news, q ∈ n') (hi : HeadIs ks (some n)) (m0 : (T, tupObj [.ref x, .int (14 + 4 * (n : Int)) t4]) ∈ n') (m1 : (x, instObj 87 dx) ∈ n') (m2 : (dx, dictHead ks n l h0 h1 h2 h3 k0 k1 k2 k3 t0 t1 t3) ∈ n') (m3 : (l, listOf (List.toArray vs) n3) ∈ n') (hd : DatAll n' vs ((headTags ks n).map tagDat)) :
    RHead ks news (.ref T) n'
theorem RHead.out {ks : List Int} {news : List (Addr × Obj)} {k : Value → List (Addr × Obj) → Prop} (f : ∀ n T x dx l vs n3 h0 h1 h2 h3 k0 k1 k2 k3 t0 t1 t3 t4 n', (∀ q ∈ news, q ∈ n') → HeadIs ks (some n) → (T, tupObj [.ref x, .int (14 + 4 * (n : Int)) t4]) ∈ n' → (x, instObj 87 dx) ∈ n' → (dx, dictHead ks n l h0 h1 h2 h3 k0 k1 k2 k3 t0 t1 t3) ∈ n' → (l, listOf (List.toArray vs) n3) ∈ n' → DatAll n' vs ((headTags ks n).map tagDat) → k (.ref T) n') : ∀ r n', RHead ks news r n' → k r n' := fun _ _ ⟨a, b, c, d, e, g, h⟩ => f _ _ _ _ _ _ _ _ _ _ _ _ _ _ _ _ _ _ _ _ a b c d e g h
theorem con_rether (w : World) (b : Array UInt8) (ks : List Int) (t : Tok) (news : List (Addr × Obj)) (hks : KBw.bInts b = ks) (ho : Octs ks) (hz : ks.length ≤ 1000) :
    ConX w 98 6 news [.bytes b t] (fun _ => True)
      (RHead ks news)
      (XSay w 56 tooShort (HeadIs ks none) news) := by
  have hC1 : CondIs 31 (ks.length < 14) := .mk
  unfold ConX
  k_fill
  intro mean mg mb dp un gd cn cs a ccd outer A₀ base h₀ L m s Q E B F X N T hk hpre hd hu hret hexc
  refine wpAny_call ?_
  k_dflt (first | cell_enter | (refine' code_defC ?k1 ?k2 ?k3 ?k4 ?k5 ?kA ?kF ?kK ?k6 ?k7 ?k8 ?k9 ?kB ?kD ?_ ?c2 ?c3 ?c4; (case kA => exact rfl); (case kF => exact rfl); (case kK => assumption); (case k1 => k_asm); (case k2 => k_asm); (case k3 => k_asm); (case k4 => k_asm); (case k5 => k_asm); (case k6 => k_is); (case k7 => k_is); (case k8 => ktr_room); (case k9 => exact BindsTo.of_eq rfl); (case kB => exact rfl); (case kD => decide +kernel); (case c2 => exact rfl); (case c3 => exact rfl); (case c4 => exact rfl); k_whole; intro g' L' h' tk' cells' FG' F' N' Y' B' X' T' l1; (try k_lt l1); k_cells Y'; (try simp only [List.cons_append, List.nil_append] at N'); (try dsimp only); (try k_lift B'); (try k_fold)))
  repeat' (first | with_reducible (k_here; (with_reducible show wpAny _ _ (call (Value.ref 65) _) _ _ _); k_dflt (apply con_number; ((case cN => k_asm); (case cF => k_asm); (case cB => k_asm); (case cX => k_asm); (case cT => k_asm); (try ((case cXB => assumption); (case cTB => assumption); (case cKD => assumption); (case cT0 => first | assumption | exact KtsTurn.refl))); (case cK => first | exact rfl | assumption); (try case hm => (first | kbu_src | k_mem)); (try case hx => (first | kbu_src | k_mem)); (try case hxd => (first | kbu_src | k_mem)); (try case hi => with_reducible assumption); (try case ho => (with_reducible assumption)); (try case hdat => (first | with_reducible assumption | (refine DatAll.mono ?_ (by with_reducible assumption); (repeat' (first | with_reducible exact subRefl | with_reducible exact subNil | with_reducible assumption | (refine subCons ?_ ?_; focus kbu_src) | refine subTail ?_))))); (try case hz => (first | omega | exact ⟨by omega, by omega⟩)); (case cP => (first | (refine ⟨by with_reducible assumption, ?_⟩; (refine slc_len (n := 8) ?_ ?_ ?_ <;> omega)) | (first | trivial | decide | omega | exact ⟨by decide, by decide⟩ | exact ⟨by with_reducible assumption, by with_reducible assumption, by omega, by omega⟩))); (case cD => ktr_room); (case cU => ktr_units)); (first | (refine ROct.out ?_; intros; (try dsimp only); (try k_sweep)) | ((first | refine RExc.out ?_ | refine RInt.out ?_ | refine RVal.out ?_ | refine RLst.out ?_ | refine ROcts.out ?_); intros; (try dsimp only); (try k_sweep))))) | with_reducible (k_here; (with_reducible show wpAny _ _ (exec (Stmt.While _ _ _ _) _) _ _ _); k_dflt (refine stop_while ?_)) | with_reducible (k_here; (with_reducible show wpAny _ _ (subscriptTail _ (Expr.Slice _ _ none _) (Value.bytes _ _) (Value.ref _)) _ _ _); k_dflt (apply slcK (s := ⟨_, _, _, _, _⟩); (case hF => k_asm); (case hN => k_asm); (case hk => with_reducible assumption); (case hz => omega); (try case hs => with_unfolding_all rfl); (try case ht => intro _; with_unfolding_all rfl); k_whole); intro h' t' k' c' F' N' hc'; (try k_sweep)) | with_reducible (k_here; (with_reducible show wpAny _ _ (isTrue (Expr.Compare _ _ _ _) _ _) _ _ _); dsimp only) | with_reducible (k_here; (with_reducible show wpAny _ _ (exec (Stmt.If _ _ _ _) _) _ _ _); k_dflt (apply If_cond; (case _C => assumption); (case _F => k_asm); (case _N => k_asm); k_whole; rotate_left; (intro c' h' tk' F' N'; (try dsimp only)); rotate_left; (intro c' h' tk' F' N'; (try dsimp only); (try (have c2 := Classical.not_not.mp c'; obtain ⟨p1, ⟨p2, p3⟩, ⟨p4, p5⟩, ⟨p6, p7⟩⟩ := id c2))); rotate_left)) | with_reducible (k_here; (with_reducible show wpAny _ _ (call (Value.ref _) _) _ _ _); k_dflt ((first | ((with_reducible show wpAny _ _ (call (Value.ref 44) _) _ _ _); apply con_exc44) | ((with_reducible show wpAny _ _ (call (Value.ref 56) _) _ _ _); apply con_exc56)); ((case cN => k_asm); (case cF => k_asm); (case cB => k_asm); (case cX => k_asm); (case cT => k_asm); (try ((case cXB => assumption); (case cTB => assumption); (case cKD => assumption); (case cT0 => first | assumption | exact KtsTurn.refl))); (case cK => first | exact rfl | assumption); (try case hm => (first | kbu_src | k_mem)); (try case hx => (first | kbu_src | k_mem)); (try case hxd => (first | kbu_src | k_mem)); (try case hi => with_reducible assumption); (try case ho => (with_reducible assumption)); (try case hdat => (first | with_reducible assumption | (refine DatAll.mono ?_ (by with_reducible assumption); (repeat' (first | with_reducible exact subRefl | with_reducible exact subNil | with_reducible assumption | (refine subCons ?_ ?_; focus kbu_src) | refine subTail ?_))))); (try case hz => (first | omega | exact ⟨by omega, by omega⟩)); (case cP => (first | (refine ⟨by with_reducible assumption, ?_⟩; (refine slc_len (n := 8) ?_ ?_ ?_ <;> omega)) | (first | trivial | decide | omega | exact ⟨by decide, by decide⟩ | exact ⟨by with_reducible assumption, by with_reducible assumption, by omega, by omega⟩))); (case cD => ktr_room); (case cU => ktr_units)); (first | (refine ROct.out ?_; intros; (try dsimp only); (try k_sweep)) | ((first | refine RExc.out ?_ | refine RInt.out ?_ | refine RVal.out ?_ | refine RLst.out ?_ | refine ROcts.out ?_); intros; (try dsimp only); (try k_sweep))))) | with_reducible (k_here; (with_reducible show wpAny _ _ (leaving _ (Value.ref _)) _ _ _); k_dflt (apply leave_raiseE; (case hf => exact rfl); (case F => k_asm); (case N => k_asm); (case K => k_asm); (case l1 => (show @LT.lt Nat _ _ _; omega)); (case l2 => (show @LT.lt Nat _ _ _; omega)); (case l3 => (show @LT.lt Nat _ _ _; omega)); (case l4 => assumption); (try case hk => with_unfolding_all rfl); k_whole); intro h' R' D' U'; (try dsimp only at R' U' ⊢)) | with_reducible (k_here; (with_reducible show RaiseGo _ _ _); k_dflt (apply raiseGo_; (case F => k_asm); (case X => k_asm); (case N => k_asm); (case he => k_mem); (case hC => k_is); (case hb => decide); k_whole)) | with_reducible (k_here; (with_reducible show wpAny _ _ (exec (Stmt.Raise (some (Expr.Call (Expr.Name _ _) (_ :: _) [] _)) none _) _) _ _ _); k_dflt (apply Raise_exc; (case hh => first | exact rfl | assumption))) | (k_unfold; (try dsimp only)) | (k_end; wrow_close) | walk1 | (dsimp only; walk1) | (leave1; walk_say "STEP leave1"; try dsimp only))
  all_goals (try dsimp only)
  any_goals first
    | ((with_reducible show CondAt _ _ _ _ _ _ _ _); refine (CondAt.mk ?_ (by k_asm) (by k_asm) (by (repeat' (first | with_reducible exact subRefl | with_reducible exact subNil | with_reducible assumption | (refine subCons ?_ ?_; focus (first | with_reducible assumption | (with_reducible (repeat (first | exact List.mem_cons_self | assumption | refine List.mem_cons_of_mem _ ?_)); done))) | refine subTail ?_)))); simp only [Bool.not_false, Bool.not_true, Bool.not_eq_true', decide_eq_true_eq, decide_eq_false_iff_not, true_iff, Bool.false_eq_true, false_iff, bne_iff_ne, beq_iff_eq, ne_eq] <;> omega)
    | exact conX_exc hexc (by with_reducible assumption) (by with_reducible assumption) (by with_reducible assumption) (by with_reducible assumption) (.mk ((by first | (refine subTrans ?_ (by with_reducible assumption); (repeat' (first | with_reducible exact subRefl | with_reducible exact subNil | with_reducible assumption | (refine subCons ?_ ?_; focus (first | with_reducible assumption | (with_reducible (repeat (first | exact List.mem_cons_self | assumption | refine List.mem_cons_of_mem _ ?_)); done))) | refine subTail ?_)); done) | ((repeat' (first | with_reducible exact subRefl | with_reducible exact subNil | with_reducible assumption | (refine subCons ?_ ?_; focus (first | with_reducible assumption | (with_reducible (repeat (first | exact List.mem_cons_self | assumption | refine List.mem_cons_of_mem _ ?_)); done))) | refine subTail ?_)); done))) (HeadIs.no (fun j hj => absurd hj (by unfold numW; omega))) (by (first | with_reducible assumption | (with_reducible (repeat (first | exact List.mem_cons_self | assumption | refine List.mem_cons_of_mem _ ?_)); done) | k_mem)))
  have hlen : 14 ≤ ks.length := by
    have h9 : ¬ ks.length < 14 := by with_reducible assumption
    omega
  unfold Stop
  refine' While_up2 (RJ b t ks news) (fun i => isTagK (wordAt ks i)) (numW ks) ?F ?N ?h0 ?hB ?wtest ?turn ?done
  (case F => k_asm)
  (case N => k_asm)
  (case h0 => exact ⟨by unfold numW; omega, fun j hj => absurd hj (Nat.not_lt_zero j), rfl, ⟨_, some_int (read_start hlen)⟩, ⟨_, rfl⟩, _, [], _, _, rfl, rfl, rfl, by k_all, .nil, by (repeat' (first | with_reducible exact subRefl | with_reducible exact subNil | with_reducible assumption | (refine subCons ?_ ?_; focus (first | with_reducible assumption | (with_reducible (repeat (first | exact List.mem_cons_self | assumption | refine List.mem_cons_of_mem _ ?_)); done))) | refine subTail ?_))⟩)
  (case hB => exact fun i m nx hJ _ => hJ.1)
  (case wtest =>
    intro i m₁ nx h tk hJ F' N'
    refine gbox ?_
    intro G9 hG9
    obtain ⟨hi, hall, h1, ⟨t2, h2⟩, ⟨t3, h3⟩, l, vs, c, rest, h4, rfl, hvl, hne, hdat, hsub⟩ := hJ
    obtain ⟨u, rfl⟩ := four_keys h1 h2 h3 h4
    clear h1 h2 h3 h4
    refine hG9 ?_
    repeat' (first | with_reducible (k_here; (with_reducible show wpAny _ _ (isTrue (Expr.Compare _ _ _ _) _ _) _ _ _); dsimp only) | (k_unfold; (try dsimp only)) | (k_end; wrow_close) | walk1 | (dsimp only; walk1) | (leave1; walk_say "STEP leave1"; try dsimp only))
    all_goals (try dsimp only)
    all_goals first
      | ((with_reducible show CondAt _ _ _ _ _ _ _ _); exact (CondAt.mk tagK_any (by k_asm) (by k_asm) (by (repeat' (first | with_reducible exact subRefl | with_reducible exact subNil | with_reducible assumption | (refine subCons ?_ ?_; focus (first | with_reducible assumption | (with_reducible (repeat (first | exact List.mem_cons_self | assumption | refine List.mem_cons_of_mem _ ?_)); done))) | refine subTail ?_))))))
  (case turn =>
    intro i m₁ nx h tk hJ hC F' N'
    refine gbox ?_
    intro G9 hG9
    obtain ⟨hi, hall, h1, ⟨t2, h2⟩, ⟨t3, h3⟩, l, vs, c, rest, h4, rfl, hvl, hne, hdat, hsub⟩ := hJ
    obtain ⟨u, rfl⟩ := four_keys h1 h2 h3 h4
    clear h1 h2 h3 h4
    have hC2 : CondIs 37 ((ks.length : Int) < 14 + 4 * (i : Int) + 4) := .mk
    refine hG9 ?_
    repeat' (first | with_reducible (k_here; (with_reducible show wpAny _ _ (call (Value.builtin _) [Value.ref _, _]) _ _ _); k_dflt (apply append_K; (case F => k_asm); (case N => k_asm); (case U => k_upd); (case hsz => (rw [sizeLine_eq, List.size_toArray]; omega)); k_whole); intro h' F' N'; (try k_sweep)) | with_reducible (k_here; (with_reducible show wpAny _ _ (call (Value.ref 65) _) _ _ _); k_dflt (apply con_number; ((case cN => k_asm); (case cF => k_asm); (case cB => k_asm); (case cX => k_asm); (case cT => k_asm); (try ((case cXB => assumption); (case cTB => assumption); (case cKD => assumption); (case cT0 => first | assumption | exact KtsTurn.refl))); (case cK => first | exact rfl | assumption); (try case hm => (first | kbu_src | k_mem)); (try case hx => (first | kbu_src | k_mem)); (try case hxd => (first | kbu_src | k_mem)); (try case hi => with_reducible assumption); (try case ho => (with_reducible assumption)); (try case hdat => (first | with_reducible assumption | (refine DatAll.mono ?_ (by with_reducible assumption); (repeat' (first | with_reducible exact subRefl | with_reducible exact subNil | with_reducible assumption | (refine subCons ?_ ?_; focus kbu_src) | refine subTail ?_))))); (try case hz => (first | omega | exact ⟨by omega, by omega⟩)); (case cP => (first | (refine ⟨by with_reducible assumption, ?_⟩; (refine slc_len (n := 8) ?_ ?_ ?_ <;> omega)) | (first | trivial | decide | omega | exact ⟨by decide, by decide⟩ | exact ⟨by with_reducible assumption, by with_reducible assumption, by omega, by omega⟩))); (case cD => ktr_room); (case cU => ktr_units)); (first | (refine ROct.out ?_; intros; (try dsimp only); (try k_sweep)) | ((first | refine RExc.out ?_ | refine RInt.out ?_ | refine RVal.out ?_ | refine RLst.out ?_ | refine ROcts.out ?_); intros; (try dsimp only); (try k_sweep))))) | with_reducible (k_here; (with_reducible show wpAny _ _ (subscriptTail _ (Expr.Slice _ _ none _) (Value.bytes _ _) (Value.ref _)) _ _ _); k_dflt (apply slcK (s := ⟨_, _, _, _, _⟩); (case hF => k_asm); (case hN => k_asm); (case hk => with_reducible assumption); (case hz => omega); (try case hs => with_unfolding_all rfl); (try case ht => intro _; with_unfolding_all rfl); k_whole); intro h' t' k' c' F' N' hc'; (try k_sweep)) | with_reducible (k_here; (with_reducible show wpAny _ _ (exec (Stmt.If _ _ _ _) _) _ _ _); k_dflt (apply If_cond; (case _C => assumption); (case _F => k_asm); (case _N => k_asm); k_whole; rotate_left; (intro c' h' tk' F' N'; (try dsimp only)); rotate_left; (intro c' h' tk' F' N'; (try dsimp only); (try (have c2 := Classical.not_not.mp c'; obtain ⟨p1, ⟨p2, p3⟩, ⟨p4, p5⟩, ⟨p6, p7⟩⟩ := id c2))); rotate_left)) | with_reducible (k_here; (with_reducible show wpAny _ _ (call (Value.ref _) _) _ _ _); k_dflt ((first | ((with_reducible show wpAny _ _ (call (Value.ref 44) _) _ _ _); apply con_exc44) | ((with_reducible show wpAny _ _ (call (Value.ref 56) _) _ _ _); apply con_exc56)); ((case cN => k_asm); (case cF => k_asm); (case cB => k_asm); (case cX => k_asm); (case cT => k_asm); (try ((case cXB => assumption); (case cTB => assumption); (case cKD => assumption); (case cT0 => first | assumption | exact KtsTurn.refl))); (case cK => first | exact rfl | assumption); (try case hm => (first | kbu_src | k_mem)); (try case hx => (first | kbu_src | k_mem)); (try case hxd => (first | kbu_src | k_mem)); (try case hi => with_reducible assumption); (try case ho => (with_reducible assumption)); (try case hdat => (first | with_reducible assumption | (refine DatAll.mono ?_ (by with_reducible assumption); (repeat' (first | with_reducible exact subRefl | with_reducible exact subNil | with_reducible assumption | (refine subCons ?_ ?_; focus kbu_src) | refine subTail ?_))))); (try case hz => (first | omega | exact ⟨by omega, by omega⟩)); (case cP => (first | (refine ⟨by with_reducible assumption, ?_⟩; (refine slc_len (n := 8) ?_ ?_ ?_ <;> omega)) | (first | trivial | decide | omega | exact ⟨by decide, by decide⟩ | exact ⟨by with_reducible assumption, by with_reducible assumption, by omega, by omega⟩))); (case cD => ktr_room); (case cU => ktr_units)); (first | (refine ROct.out ?_; intros; (try dsimp only); (try k_sweep)) | ((first | refine RExc.out ?_ | refine RInt.out ?_ | refine RVal.out ?_ | refine RLst.out ?_ | refine ROcts.out ?_); intros; (try dsimp only); (try k_sweep))))) | with_reducible (k_here; (with_reducible show wpAny _ _ (leaving _ (Value.ref _)) _ _ _); k_dflt (apply leave_raiseE; (case hf => exact rfl); (case F => k_asm); (case N => k_asm); (case K => k_asm); (case l1 => (show @LT.lt Nat _ _ _; omega)); (case l2 => (show @LT.lt Nat _ _ _; omega)); (case l3 => (show @LT.lt Nat _ _ _; omega)); (case l4 => assumption); (try case hk => with_unfolding_all rfl); k_whole); intro h' R' D' U'; (try dsimp only at R' U' ⊢)) | with_reducible (k_here; (with_reducible show RaiseGo _ _ _); k_dflt (apply raiseGo_; (case F => k_asm); (case X => k_asm); (case N => k_asm); (case he => k_mem); (case hC => k_is); (case hb => decide); k_whole)) | with_reducible (k_here; (with_reducible show wpAny _ _ (exec (Stmt.Raise (some (Expr.Call (Expr.Name _ _) (_ :: _) [] _)) none _) _) _ _ _); k_dflt (apply Raise_exc; (case hh => first | exact rfl | assumption))) | (k_unfold; (try dsimp only)) | (k_end; wrow_close) | walk1 | (dsimp only; walk1) | (leave1; walk_say "STEP leave1"; try dsimp only))
    all_goals (try dsimp only)
    all_goals first
      | ((with_reducible show CondAt _ _ _ _ _ _ _ _); refine (CondAt.mk ?_ (by k_asm) (by k_asm) (by (repeat' (first | with_reducible exact subRefl | with_reducible exact subNil | with_reducible assumption | (refine subCons ?_ ?_; focus (first | with_reducible assumption | (with_reducible (repeat (first | exact List.mem_cons_self | assumption | refine List.mem_cons_of_mem _ ?_)); done))) | refine subTail ?_)))); simp only [Bool.not_false, Bool.not_true, Bool.not_eq_true', decide_eq_true_eq, decide_eq_false_iff_not, true_iff, Bool.false_eq_true, false_iff, bne_iff_ne, beq_iff_eq, ne_eq] <;> omega)
      | exact conX_exc hexc (by with_reducible assumption) (by with_reducible assumption) (by with_reducible assumption) (by with_reducible assumption) (.mk (subTrans hsub (by (repeat' (first | with_reducible exact subRefl | with_reducible exact subNil | with_reducible assumption | (refine subCons ?_ ?_; focus (first | with_reducible assumption | (with_reducible (repeat (first | exact List.mem_cons_self | assumption | refine List.mem_cons_of_mem _ ?_)); done))) | refine subTail ?_)))) (head_no hall hC (by with_reducible assumption)) (by (first | with_reducible assumption | (with_reducible (repeat (first | exact List.mem_cons_self | assumption | refine List.mem_cons_of_mem _ ?_)); done) | k_mem)))
      | ((with_reducible show WEnd _ _ _ _ _ _ _); exact read_end ho rfl rfl (by k_asm) rfl (by k_asm) (by with_reducible assumption) (by with_reducible assumption) hall hC hvl hne hdat hsub rfl ⟨_, rfl⟩ ⟨_, rfl⟩ rfl))
  (case done =>
    intro i m₁ nx h tk hJ hC F' N'
    refine gbox ?_
    intro G9 hG9
    obtain ⟨hi, hall, h1, ⟨t2, h2⟩, ⟨t3, h3⟩, l, vs, c, rest, h4, rfl, hvl, hne, hdat, hsub⟩ := hJ
    obtain ⟨u, rfl⟩ := four_keys h1 h2 h3 h4
    clear h1 h2 h3 h4
    refine hG9 ?_
    repeat' (first | with_reducible (k_here; (with_reducible show wpAny _ _ (call (Value.ref 65) _) _ _ _); k_dflt (apply con_number; ((case cN => k_asm); (case cF => k_asm); (case cB => k_asm); (case cX => k_asm); (case cT => k_asm); (try ((case cXB => assumption); (case cTB => assumption); (case cKD => assumption); (case cT0 => first | assumption | exact KtsTurn.refl))); (case cK => first | exact rfl | assumption); (try case hm => (first | kbu_src | k_mem)); (try case hx => (first | kbu_src | k_mem)); (try case hxd => (first | kbu_src | k_mem)); (try case hi => with_reducible assumption); (try case ho => (with_reducible assumption)); (try case hdat => (first | with_reducible assumption | (refine DatAll.mono ?_ (by with_reducible assumption); (repeat' (first | with_reducible exact subRefl | with_reducible exact subNil | with_reducible assumption | (refine subCons ?_ ?_; focus kbu_src) | refine subTail ?_))))); (try case hz => (first | omega | exact ⟨by omega, by omega⟩)); (case cP => (first | (refine ⟨by with_reducible assumption, ?_⟩; (refine slc_len (n := 8) ?_ ?_ ?_ <;> omega)) | (first | trivial | decide | omega | exact ⟨by decide, by decide⟩ | exact ⟨by with_reducible assumption, by with_reducible assumption, by omega, by omega⟩))); (case cD => ktr_room); (case cU => ktr_units)); (first | (refine ROct.out ?_; intros; (try dsimp only); (try k_sweep)) | ((first | refine RExc.out ?_ | refine RInt.out ?_ | refine RVal.out ?_ | refine RLst.out ?_ | refine ROcts.out ?_); intros; (try dsimp only); (try k_sweep))))) | with_reducible (k_here; (with_reducible show wpAny _ _ (subscriptTail _ (Expr.Slice _ _ none _) (Value.bytes _ _) (Value.ref _)) _ _ _); k_dflt (apply slcK (s := ⟨_, _, _, _, _⟩); (case hF => k_asm); (case hN => k_asm); (case hk => with_reducible assumption); (case hz => omega); (try case hs => with_unfolding_all rfl); (try case ht => intro _; with_unfolding_all rfl); k_whole); intro h' t' k' c' F' N' hc'; (try k_sweep)) | (k_unfold; (try dsimp only)) | (k_end; wrow_close) | walk1 | (dsimp only; walk1) | (leave1; walk_say "STEP leave1"; try dsimp only))
    all_goals (try dsimp only)
    all_goals first
      | exact con_ret hret _ (by k_asm) (by k_asm) (.mk (subTrans hsub (by (repeat' (first | with_reducible exact subRefl | with_reducible exact subNil | with_reducible assumption | (refine subCons ?_ ?_; focus (first | with_reducible assumption | (with_reducible (repeat (first | exact List.mem_cons_self | assumption | refine List.mem_cons_of_mem _ ?_)); done))) | refine subTail ?_)))) (HeadIs.found i hi hall hC) (by (first | with_reducible assumption | (with_reducible (repeat (first | exact List.mem_cons_self | assumption | refine List.mem_cons_of_mem _ ?_)); done) | k_mem)) (by (first | with_reducible assumption | (with_reducible (repeat (first | exact List.mem_cons_self | assumption | refine List.mem_cons_of_mem _ ?_)); done) | k_mem)) (by (first | with_reducible assumption | (with_reducible (repeat (first | exact List.mem_cons_self | assumption | refine List.mem_cons_of_mem _ ?_)); done) | k_mem)) (by (first | with_reducible assumption | (with_reducible (repeat (first | exact List.mem_cons_self | assumption | refine List.mem_cons_of_mem _ ?_)); done) | k_mem)) (hdat.mono (by (repeat' (first | with_reducible exact subRefl | with_reducible exact subNil | with_reducible assumption | (refine subCons ?_ ?_; focus (first | with_reducible assumption | (with_reducible (repeat (first | exact List.mem_cons_self | assumption | refine List.mem_cons_of_mem _ ?_)); done))) | refine subTail ?_))))))
end
section -- part G11
set_option maxHeartbeats 8000000

def dueMsg (ks : List Int) : Str × List Int :=
  if ks.length < 28 then (Str.ofString "truncated head", []) else if wholeOf (slc ks 0 6) ≠ 4429186564 then (Str.ofString "unknown address kinds", []) else (Str.ofString "", [wholeOf (slc ks 6 8), wholeOf (slc ks 8 14), wholeOf (slc ks 14 18), wholeOf (slc ks 18 24), wholeOf (slc ks 24 28)])
theorem dueMsg_short {ks : List Int} (h : ks.length < 28) : dueMsg ks = (Str.ofString "truncated head", []) := by unfold dueMsg; rw [if_pos h]
theorem dueMsg_kinds {ks : List Int} (h : ¬ ks.length < 28) (g : wholeOf (slc ks 0 6) ≠ 4429186564) : dueMsg ks = (Str.ofString "unknown address kinds", []) := by unfold dueMsg; rw [if_neg h, if_pos g]
theorem dueMsg_ok {ks : List Int} (h : ¬ ks.length < 28) (g : ¬ wholeOf (slc ks 0 6) ≠ 4429186564) : dueMsg ks = (Str.ofString "", [wholeOf (slc ks 6 8), wholeOf (slc ks 8 14), wholeOf (slc ks 14 18), wholeOf (slc ks 18 24), wholeOf (slc ks 24 28)]) := by unfold dueMsg; rw [if_neg h, if_neg g]






inductive RArp (ks : List Int) (news : List (Addr × Obj)) : Value → List (Addr × Obj) → Prop
  | mk {x dx : Addr} {h0 h1 h2 h3 h4 : Int} {k0 k1 k2 k3 k4 t0 t1 t2 t3 t4 : Tok} {vo va vb vc vd : Int} (h : dueMsg ks = (Str.ofString "", [vo, va, vb, vc, vd])) :
    RArp ks news (.ref x) ((x, instObj 122 dx) :: (dx, arpDict h0 h1 h2 h3 h4 k0 k1 k2 k3 k4 t0 t1 t2 t3 t4 vo va vb vc vd) :: news)
theorem RArp.out {ks : List Int} {news : List (Addr × Obj)} {k : Value → List (Addr × Obj) → Prop} (f : ∀ x dx h0 h1 h2 h3 h4 k0 k1 k2 k3 k4 t0 t1 t2 t3 t4 vo va vb vc vd, dueMsg ks = (Str.ofString "", [vo, va, vb, vc, vd]) → k (.ref x) ((x, instObj 122 dx) :: (dx, arpDict h0 h1 h2 h3 h4 k0 k1 k2 k3 k4 t0 t1 t2 t3 t4 vo va vb vc vd) :: news)) : ∀ r n', RArp ks news r n' → k r n' := fun _ _ ⟨a⟩ => f _ _ _ _ _ _ _ _ _ _ _ _ _ _ _ _ _ _ _ _ _ _ a
theorem con_rarp (w : World) (b : Array UInt8) (ks : List Int) (t : Tok) (news : List (Addr × Obj)) (hks : KBw.bInts b = ks) (hz : ks.length ≤ 1000) :
    ConX w 133 6 news [.bytes b t] (fun _ => True)
      (RArp ks news)
      (XExc w 56 (fun msg => dueMsg ks = (msg, [])) news) := by
  have hC1 : CondIs 60 (ks.length < 28) := .mk
  have hC2 : CondIs 62 (wholeOf (slc ks 0 6) ≠ 4429186564) := .mk
  unfold ConX
  k_fill
  intro mean mg mb dp un gd cn cs a ccd outer A₀ base h₀ L m s Q E B F X N T hk hpre hd hu hret hexc
  refine wpAny_call ?_
  k_dflt (first | cell_enter | (refine' code_defC ?k1 ?k2 ?k3 ?k4 ?k5 ?kA ?kF ?kK ?k6 ?k7 ?k8 ?k9 ?kB ?kD ?_ ?c2 ?c3 ?c4; (case kA => exact rfl); (case kF => exact rfl); (case kK => assumption); (case k1 => k_asm); (case k2 => k_asm); (case k3 => k_asm); (case k4 => k_asm); (case k5 => k_asm); (case k6 => k_is); (case k7 => k_is); (case k8 => ktr_room); (case k9 => exact BindsTo.of_eq rfl); (case kB => exact rfl); (case kD => decide +kernel); (case c2 => exact rfl); (case c3 => exact rfl); (case c4 => exact rfl); k_whole; intro g' L' h' tk' cells' FG' F' N' Y' B' X' T' l1; (try k_lt l1); k_cells Y'; (try simp only [List.cons_append, List.nil_append] at N'); (try dsimp only); (try k_lift B'); (try k_fold)))
  repeat' (first | with_reducible (k_here; (with_reducible show wpAny _ _ (call (Value.ref 65) _) _ _ _); k_dflt (apply con_number; ((case cN => k_asm); (case cF => k_asm); (case cB => k_asm); (case cX => k_asm); (case cT => k_asm); (try ((case cXB => assumption); (case cTB => assumption); (case cKD => assumption); (case cT0 => first | assumption | exact KtsTurn.refl))); (case cK => first | exact rfl | assumption); (try case hm => (first | kbu_src | k_mem)); (try case hx => (first | kbu_src | k_mem)); (try case hxd => (first | kbu_src | k_mem)); (try case hi => with_reducible assumption); (try case ho => (with_reducible assumption)); (try case hdat => (first | with_reducible assumption | (refine DatAll.mono ?_ (by with_reducible assumption); (repeat' (first | with_reducible exact subRefl | with_reducible exact subNil | with_reducible assumption | (refine subCons ?_ ?_; focus kbu_src) | refine subTail ?_))))); (try case hz => (first | omega | exact ⟨by omega, by omega⟩)); (case cP => (first | (refine ⟨by with_reducible assumption, ?_⟩; (refine slc_len (n := 8) ?_ ?_ ?_ <;> omega)) | (first | trivial | decide | omega | exact ⟨by decide, by decide⟩ | exact ⟨by with_reducible assumption, by with_reducible assumption, by omega, by omega⟩))); (case cD => ktr_room); (case cU => ktr_units)); (first | (refine ROct.out ?_; intros; (try dsimp only); (try k_sweep)) | ((first | refine RExc.out ?_ | refine RInt.out ?_ | refine RVal.out ?_ | refine RLst.out ?_ | refine ROcts.out ?_); intros; (try dsimp only); (try k_sweep))))) | with_reducible (k_here; (with_reducible show wpAny _ _ (subscriptTail _ (Expr.Slice _ _ none _) (Value.bytes _ _) (Value.ref _)) _ _ _); k_dflt (apply slcK (s := ⟨_, _, _, _, _⟩); (case hF => k_asm); (case hN => k_asm); (case hk => with_reducible assumption); (case hz => omega); (try case hs => with_unfolding_all rfl); (try case ht => intro _; with_unfolding_all rfl); k_whole); intro h' t' k' c' F' N' hc'; (try k_sweep)) | with_reducible (k_here; (with_reducible show wpAny _ _ (isTrue (Expr.Compare _ _ _ _) _ _) _ _ _); dsimp only) | with_reducible (k_here; (with_reducible show wpAny _ _ (exec (Stmt.If _ _ _ _) _) _ _ _); k_dflt (apply If_cond; (case _C => assumption); (case _F => k_asm); (case _N => k_asm); k_whole; rotate_left; (intro c' h' tk' F' N'; (try dsimp only)); rotate_left; (intro c' h' tk' F' N'; (try dsimp only); (try (have c2 := Classical.not_not.mp c'; obtain ⟨p1, ⟨p2, p3⟩, ⟨p4, p5⟩, ⟨p6, p7⟩⟩ := id c2))); rotate_left)) | with_reducible (k_here; (with_reducible show wpAny _ _ (call (Value.ref _) _) _ _ _); k_dflt ((first | ((with_reducible show wpAny _ _ (call (Value.ref 44) _) _ _ _); apply con_exc44) | ((with_reducible show wpAny _ _ (call (Value.ref 56) _) _ _ _); apply con_exc56)); ((case cN => k_asm); (case cF => k_asm); (case cB => k_asm); (case cX => k_asm); (case cT => k_asm); (try ((case cXB => assumption); (case cTB => assumption); (case cKD => assumption); (case cT0 => first | assumption | exact KtsTurn.refl))); (case cK => first | exact rfl | assumption); (try case hm => (first | kbu_src | k_mem)); (try case hx => (first | kbu_src | k_mem)); (try case hxd => (first | kbu_src | k_mem)); (try case hi => with_reducible assumption); (try case ho => (with_reducible assumption)); (try case hdat => (first | with_reducible assumption | (refine DatAll.mono ?_ (by with_reducible assumption); (repeat' (first | with_reducible exact subRefl | with_reducible exact subNil | with_reducible assumption | (refine subCons ?_ ?_; focus kbu_src) | refine subTail ?_))))); (try case hz => (first | omega | exact ⟨by omega, by omega⟩)); (case cP => (first | (refine ⟨by with_reducible assumption, ?_⟩; (refine slc_len (n := 8) ?_ ?_ ?_ <;> omega)) | (first | trivial | decide | omega | exact ⟨by decide, by decide⟩ | exact ⟨by with_reducible assumption, by with_reducible assumption, by omega, by omega⟩))); (case cD => ktr_room); (case cU => ktr_units)); (first | (refine ROct.out ?_; intros; (try dsimp only); (try k_sweep)) | ((first | refine RExc.out ?_ | refine RInt.out ?_ | refine RVal.out ?_ | refine RLst.out ?_ | refine ROcts.out ?_); intros; (try dsimp only); (try k_sweep))))) | with_reducible (k_here; (with_reducible show wpAny _ _ (leaving _ (Value.ref _)) _ _ _); k_dflt (apply leave_raiseE; (case hf => exact rfl); (case F => k_asm); (case N => k_asm); (case K => k_asm); (case l1 => (show @LT.lt Nat _ _ _; omega)); (case l2 => (show @LT.lt Nat _ _ _; omega)); (case l3 => (show @LT.lt Nat _ _ _; omega)); (case l4 => assumption); (try case hk => with_unfolding_all rfl); k_whole); intro h' R' D' U'; (try dsimp only at R' U' ⊢)) | with_reducible (k_here; (with_reducible show RaiseGo _ _ _); k_dflt (apply raiseGo_; (case F => k_asm); (case X => k_asm); (case N => k_asm); (case he => k_mem); (case hC => k_is); (case hb => decide); k_whole)) | with_reducible (k_here; (with_reducible show wpAny _ _ (exec (Stmt.Raise (some (Expr.Call (Expr.Name _ _) (_ :: _) [] _)) none _) _) _ _ _); k_dflt (apply Raise_exc; (case hh => first | exact rfl | assumption))) | (k_unfold; (try dsimp only)) | (k_end; wrow_close) | walk1 | (dsimp only; walk1) | (leave1; walk_say "STEP leave1"; try dsimp only))
  all_goals (try dsimp only)
  all_goals first
    | ((with_reducible show CondAt _ _ _ _ _ _ _ _); refine (CondAt.mk ?_ (by k_asm) (by k_asm) (by (repeat' (first | with_reducible exact subRefl | with_reducible exact subNil | with_reducible assumption | (refine subCons ?_ ?_; focus (first | with_reducible assumption | (with_reducible (repeat (first | exact List.mem_cons_self | assumption | refine List.mem_cons_of_mem _ ?_)); done))) | refine subTail ?_)))); simp only [Bool.not_false, Bool.not_true, Bool.not_eq_true', decide_eq_true_eq, decide_eq_false_iff_not, true_iff, Bool.false_eq_true, false_iff, bne_iff_ne, beq_iff_eq, ne_eq] <;> omega)
    | exact conX_exc hexc (by with_reducible assumption) (by with_reducible assumption) (by with_reducible assumption) (by with_reducible assumption) (.mk ((by first | (refine subTrans ?_ (by with_reducible assumption); (repeat' (first | with_reducible exact subRefl | with_reducible exact subNil | with_reducible assumption | (refine subCons ?_ ?_; focus (first | with_reducible assumption | (with_reducible (repeat (first | exact List.mem_cons_self | assumption | refine List.mem_cons_of_mem _ ?_)); done))) | refine subTail ?_)); done) | ((repeat' (first | with_reducible exact subRefl | with_reducible exact subNil | with_reducible assumption | (refine subCons ?_ ?_; focus (first | with_reducible assumption | (with_reducible (repeat (first | exact List.mem_cons_self | assumption | refine List.mem_cons_of_mem _ ?_)); done))) | refine subTail ?_)); done))) (dueMsg_short (by with_reducible assumption)) (by (first | with_reducible assumption | (with_reducible (repeat (first | exact List.mem_cons_self | assumption | refine List.mem_cons_of_mem _ ?_)); done) | k_mem)))
    | exact conX_exc hexc (by with_reducible assumption) (by with_reducible assumption) (by with_reducible assumption) (by with_reducible assumption) (.mk ((by first | (refine subTrans ?_ (by with_reducible assumption); (repeat' (first | with_reducible exact subRefl | with_reducible exact subNil | with_reducible assumption | (refine subCons ?_ ?_; focus (first | with_reducible assumption | (with_reducible (repeat (first | exact List.mem_cons_self | assumption | refine List.mem_cons_of_mem _ ?_)); done))) | refine subTail ?_)); done) | ((repeat' (first | with_reducible exact subRefl | with_reducible exact subNil | with_reducible assumption | (refine subCons ?_ ?_; focus (first | with_reducible assumption | (with_reducible (repeat (first | exact List.mem_cons_self | assumption | refine List.mem_cons_of_mem _ ?_)); done))) | refine subTail ?_)); done))) (dueMsg_kinds (by with_reducible assumption) (by with_reducible assumption)) (by (first | with_reducible assumption | (with_reducible (repeat (first | exact List.mem_cons_self | assumption | refine List.mem_cons_of_mem _ ?_)); done) | k_mem)))
    | exact con_ret hret _ (by k_asm) (newsDrop (by k_asm) (by first | (refine subTrans ?_ (by with_reducible assumption); (repeat' (first | with_reducible exact subRefl | with_reducible exact subNil | with_reducible assumption | (refine subCons ?_ ?_; focus (first | with_reducible assumption | (with_reducible (repeat (first | exact List.mem_cons_self | assumption | refine List.mem_cons_of_mem _ ?_)); done))) | refine subTail ?_)); done) | ((repeat' (first | with_reducible exact subRefl | with_reducible exact subNil | with_reducible assumption | (refine subCons ?_ ?_; focus (first | with_reducible assumption | (with_reducible (repeat (first | exact List.mem_cons_self | assumption | refine List.mem_cons_of_mem _ ?_)); done))) | refine subTail ?_)); done))) (.mk (dueMsg_ok (by with_reducible assumption) (by with_reducible assumption)))
end

section -- part G12
set_option maxHeartbeats 8000000

section
variable {prog : Program} {w : World} {A : Around} {E : Value → Shared → Prop} {s : Shared} {h₀ : Heap} {L l : Addr} {m : PySem.Str → Option Value} {news : List (Addr × Obj)} {vs : List Value} {nn : Nat} {ks : List Int} {Q : Value → Shared → Prop}
theorem bytes_listK (F : Fr h₀ L s.heap m) (N : News h₀ L s.heap news) (hh : A.handled = none) (hm : (l, listOf vs.toArray nn) ∈ news) (hi : IntsAre vs ks) (ho : Octs ks) (hz : ks.length ≤ 1000)
    (h : ∀ b t h' tk, Fr h₀ L h' m → News h₀ L h' news → KBw.bInts b = ks → Q (.bytes b t) { s with heap := h', toks := tk }) : wpAny (model prog w) A (call (.type "bytes") [.ref l]) Q E s :=
  call_bytes_ints (News.isList N hm) hi ho (by rw [hi.length, sizeLine_eq]; omega) hh fun h' t k hk => h _ t h' k (F.keeps hk) (fun p hp => ⟨hk _ _ (N p hp).1, (N p hp).2⟩) (KBa.ints_make ho)
end






theorem con_thead (w : World) (l : Addr) (vs : List Value) (nn : Nat) (ks : List Int) (news : List (Addr × Obj)) (hm : (l, listOf vs.toArray nn) ∈ news) (hi : IntsAre vs ks) (ho : Octs ks) (hz : ks.length ≤ 1000) :
    ConS w 220 8 news [.ref l] (fun _ => True)
      (fun r n' => (∀ q ∈ news, q ∈ n') ∧ ∃ o, HeadIs ks o ∧ HeadRep n' r ks o) := by
  unfold ConS
  k_fill
  intro mean mg mb dp un gd cn cs a ccd cl outer A₀ base g₀ h₀ L m s Q E B F X N T XB TB KD T0 hk hpre hd hu hret
  refine wpAny_call ?_
  k_dflt (refine' code_defSX ?k1 ?k2 ?k3 ?k4 ?k5 ?XB ?TB ?D ?T0 ?kA ?kF ?kK ?k6 ?k7 ?k8 ?k9 ?kB ?_ ?c2 ?c3 ?c4 ?c5; (case kA => exact rfl); (case kF => exact rfl); (case kK => first | assumption | exact rfl); (case k2 => k_asm); (case k1 => k_asm); (case XB => assumption); (case TB => assumption); (case D => assumption); (case T0 => first | assumption | exact KtsTurn.refl); (case k3 => k_asm); (case k4 => k_asm); (case k5 => k_asm); (case k6 => k_is); (case k7 => k_is); (case k8 => ktr_room); (case k9 => exact BindsTo.of_eq rfl); (case kB => exact locs rfl); (case c2 => exact rfl); (case c3 => exact rfl); (case c4 => exact rfl); (case c5 => decide); k_whole; intro g' L' h' FG' F' N' B' X' T' D'; (try dsimp only); (try k_lift B'); (try k_fold))
  repeat' (first | with_reducible (k_here; (with_reducible show wpAny _ _ (call (Value.ref 98) _) _ _ _); k_dflt (apply con_rether; (case hks => with_reducible assumption); ((case cN => k_asm); (case cF => k_asm); (case cB => k_asm); (case cX => k_asm); (case cT => k_asm); (try ((case cXB => assumption); (case cTB => assumption); (case cKD => assumption); (case cT0 => first | assumption | exact KtsTurn.refl))); (case cK => first | exact rfl | assumption); (try case hm => (first | kbu_src | k_mem)); (try case hx => (first | kbu_src | k_mem)); (try case hxd => (first | kbu_src | k_mem)); (try case hi => with_reducible assumption); (try case ho => (with_reducible assumption)); (try case hdat => (first | with_reducible assumption | (refine DatAll.mono ?_ (by with_reducible assumption); (repeat' (first | with_reducible exact subRefl | with_reducible exact subNil | with_reducible assumption | (refine subCons ?_ ?_; focus kbu_src) | refine subTail ?_))))); (try case hz => (first | omega | exact ⟨by omega, by omega⟩)); (case cP => (first | (refine ⟨by with_reducible assumption, ?_⟩; (refine slc_len (n := 8) ?_ ?_ ?_ <;> omega)) | (first | trivial | decide | omega | exact ⟨by decide, by decide⟩ | exact ⟨by with_reducible assumption, by with_reducible assumption, by omega, by omega⟩))); (case cD => ktr_room); (case cU => ktr_units)); ((case' exc => ((first | refine XExc.out ?_ | refine XSay.out ?_); intros; (try dsimp only))); (case' ret => (first | (refine RHead.out ?_; intro n1' T' x' dx' l' vs' n3' h0' h1' h2' h3' k0' k1' k2' k3' t0' t1' t3' t4' n' qs q1 q3 q4 q5 q6 q7 h' tk' F' N'; replace N' := newsDrop N' (subCons q3 (subCons q4 (subCons q5 (subCons q6 subRefl)))); (try dsimp only); (try k_sweep)) | (refine ROct.out ?_; intros; (try dsimp only); (try k_sweep)) | ((first | refine RExc.out ?_ | refine RInt.out ?_ | refine RVal.out ?_ | refine RLst.out ?_ | refine ROcts.out ?_); intros; (try dsimp only); (try k_sweep))))))) | with_reducible (k_here; (with_reducible show wpAny _ _ (call (Value.type "bytes") [Value.ref _]) _ _ _); k_dflt (apply bytes_listK; (case F => k_asm); (case N => k_asm); (case hh => exact rfl); (case hm => (first | kbu_src | k_mem)); (case hi => with_reducible assumption); (case ho => with_reducible assumption); (case hz => omega); k_whole); intro b' t' h' k' F' N' hb'; (try k_sweep)) | with_reducible (k_here; (with_reducible show wpAny _ _ (getAttr (Value.ref _) (Str.ofString "why") _) _ _ _); k_dflt (apply getWhy56; (case F => k_asm); (case X₀ => k_asm); (case N => k_asm); (case h1 => exact List.mem_cons_self); (case h2 => exact List.mem_cons_of_mem _ (by with_reducible assumption)); (case hc => assumption); (case hdd => assumption); (case hn => assumption); k_whole)) | with_reducible (k_here; (with_reducible show wpAny _ _ (noteFrame (Value.ref _) _) _ _ _); k_dflt (apply caught_D; (case R => assumption); (case DA => assumption); (case F => assumption); (case K => assumption); (case hsm => assumption); (case XB => assumption); (case TB => assumption); (case D => assumption); (case T0 => first | assumption | exact KtsTurn.refl); (case q => kts_isx); (case ex => k_is); (try case hk => with_unfolding_all rfl); (try case hlo => with_unfolding_all rfl); (try case hx => with_unfolding_all rfl); (try case hd => with_unfolding_all rfl); k_whole); intro h' g' oe' tk' T' F' N' hc' hd' hn' K' X' P' D'; (try k_lift K'); (try k_sweep)) | (k_unfold; (try dsimp only)) | (k_end; wrow_close) | walk1 | (dsimp only; walk1) | (leave1; walk_say "STEP leave1"; try dsimp only))
  all_goals (try dsimp only)
  all_goals first
    | exact conS_ret hret (by assumption) (by k_asm) (by k_asm) (by assumption) (by assumption) (by assumption) (by assumption) ⟨subTrans (by with_reducible assumption) (by (repeat' (first | with_reducible exact subRefl | with_reducible exact subNil | with_reducible assumption | (refine subCons ?_ ?_; focus (first | with_reducible assumption | (with_reducible (repeat (first | exact List.mem_cons_self | assumption | refine List.mem_cons_of_mem _ ?_)); done))) | refine subTail ?_))), some _, by with_reducible assumption, ex11 _ _ _ _ _ _ _ _ _ _ _ ⟨rfl, by (first | with_reducible assumption | (with_reducible (repeat (first | exact List.mem_cons_self | assumption | refine List.mem_cons_of_mem _ ?_)); done) | k_mem), by (first | with_reducible assumption | (with_reducible (repeat (first | exact List.mem_cons_self | assumption | refine List.mem_cons_of_mem _ ?_)); done) | k_mem), by (first | with_reducible assumption | (with_reducible (repeat (first | exact List.mem_cons_self | assumption | refine List.mem_cons_of_mem _ ?_)); done) | k_mem), (by refine DatAll.mono ?_ (by with_reducible assumption); (repeat' (first | with_reducible exact subRefl | with_reducible exact subNil | with_reducible assumption | (refine subCons ?_ ?_; focus (first | with_reducible assumption | (with_reducible (repeat (first | exact List.mem_cons_self | assumption | refine List.mem_cons_of_mem _ ?_)); done))) | refine subTail ?_)))⟩⟩
    | exact conS_ret hret (by assumption) (by k_asm) (by k_asm) (by assumption) (by assumption) (by assumption) (by assumption) ⟨subTrans (by with_reducible assumption) (by (repeat' (first | with_reducible exact subRefl | with_reducible exact subNil | with_reducible assumption | (refine subCons ?_ ?_; focus (first | with_reducible assumption | (with_reducible (repeat (first | exact List.mem_cons_self | assumption | refine List.mem_cons_of_mem _ ?_)); done))) | refine subTail ?_))), none, by with_reducible assumption, ex4 _ _ _ _ ⟨rfl, by (first | with_reducible assumption | (with_reducible (repeat (first | exact List.mem_cons_self | assumption | refine List.mem_cons_of_mem _ ?_)); done) | k_mem), by (first | with_reducible assumption | (with_reducible (repeat (first | exact List.mem_cons_self | assumption | refine List.mem_cons_of_mem _ ?_)); done) | k_mem)⟩⟩
end
section -- part G13
set_option maxHeartbeats 8000000





inductive RFive (vo va vb vc vd : Int) (t0 t1 t2 t3 t4 : Tok) (news : List (Addr × Obj)) : Value → List (Addr × Obj) → Prop
  | mk {c : Addr} {n2 : Nat} (h : ∀ p ∈ news, p.1 < c) : RFive vo va vb vc vd t0 t1 t2 t3 t4 news (.ref c) ((c, listOf (List.toArray [.int vo t0, .int va t1, .int vb t2, .int vc t3, .int vd t4]) n2) :: news)
inductive RAns (vo va vb vd ad mc : Int) (t1 t2 u v : Tok) (news : List (Addr × Obj)) : Value → List (Addr × Obj) → Prop
  | no (h : ¬ (vo = 1 ∧ vd = ad)) : RAns vo va vb vd ad mc t1 t2 u v news .none news
  | yes {y dy : Addr} {g0 g1 g2 g3 g4 : Int} {j0 j1 j2 j3 j4 u0 : Tok} (h : vo = 1 ∧ vd = ad) (ha : ∀ p ∈ news, p.1 < dy) (hy : @LT.lt Nat _ dy y) :
    RAns vo va vb vd ad mc t1 t2 u v news (.ref y) ((y, instObj 122 dy) :: (dy, arpDict g0 g1 g2 g3 g4 j0 j1 j2 j3 j4 u0 v u t1 t2 2 mc ad va vb) :: news)
theorem RFive.out {vo va vb vc vd : Int} {t0 t1 t2 t3 t4 : Tok} {news : List (Addr × Obj)} {k : Value → List (Addr × Obj) → Prop} (f : ∀ c n2, (∀ p ∈ news, p.1 < c) → k (.ref c) ((c, listOf (List.toArray [.int vo t0, .int va t1, .int vb t2, .int vc t3, .int vd t4]) n2) :: news)) : ∀ r n', RFive vo va vb vc vd t0 t1 t2 t3 t4 news r n' → k r n' := fun _ _ ⟨a⟩ => f _ _ a
theorem RAns.out {vo va vb vd ad mc : Int} {t1 t2 u v : Tok} {news : List (Addr × Obj)} {k : Value → List (Addr × Obj) → Prop} (f : ¬ (vo = 1 ∧ vd = ad) → k .none news) (g : ∀ y dy g0 g1 g2 g3 g4 j0 j1 j2 j3 j4 u0, vo = 1 ∧ vd = ad → (∀ p ∈ news, p.1 < dy) → @LT.lt Nat _ dy y → k (.ref y) ((y, instObj 122 dy) :: (dy, arpDict g0 g1 g2 g3 g4 j0 j1 j2 j3 j4 u0 v u t1 t2 2 mc ad va vb) :: news)) : ∀ r n', RAns vo va vb vd ad mc t1 t2 u v news r n' → k r n' := fun _ _ h => match h with
  | .no a => f a
  | .yes a b c => g _ _ _ _ _ _ _ _ _ _ _ _ _ a b c
theorem con_fields (w : World) (x dx : Addr) (h0 h1 h2 h3 h4 : Int) (k0 k1 k2 k3 k4 t0 t1 t2 t3 t4 : Tok) (vo va vb vc vd : Int) (news : List (Addr × Obj)) :
    Con w 241 1 ((x, instObj 122 dx) :: (dx, arpDict h0 h1 h2 h3 h4 k0 k1 k2 k3 k4 t0 t1 t2 t3 t4 vo va vb vc vd) :: news) [.ref x] (fun _ => True)
      (RFive vo va vb vc vd t0 t1 t2 t3 t4 ((x, instObj 122 dx) :: (dx, arpDict h0 h1 h2 h3 h4 k0 k1 k2 k3 k4 t0 t1 t2 t3 t4 vo va vb vc vd) :: news)) := by
  unfold Con
  k_fill
  intro mean mg mb dp un gd cn cs a ccd cl outer A₀ base h₀ L m s Q E B F X N T hk hpre hd hu hret
  refine wpAny_call ?_
  k_dflt (first | cell_enter | (refine' code_defC ?k1 ?k2 ?k3 ?k4 ?k5 ?kA ?kF ?kK ?k6 ?k7 ?k8 ?k9 ?kB ?kD ?_ ?c2 ?c3 ?c4; (case kA => exact rfl); (case kF => exact rfl); (case kK => assumption); (case k1 => k_asm); (case k2 => k_asm); (case k3 => k_asm); (case k4 => k_asm); (case k5 => k_asm); (case k6 => k_is); (case k7 => k_is); (case k8 => ktr_room); (case k9 => exact BindsTo.of_eq rfl); (case kB => exact rfl); (case kD => decide +kernel); (case c2 => exact rfl); (case c3 => exact rfl); (case c4 => exact rfl); k_whole; intro g' L' h' tk' cells' FG' F' N' Y' B' X' T' l1; (try k_lt l1); k_cells Y'; (try simp only [List.cons_append, List.nil_append] at N'); (try dsimp only); (try k_lift B'); (try k_fold)))
  repeat' (first | (k_unfold; (try dsimp only)) | (k_end; wrow_close) | walk1 | (dsimp only; walk1) | (leave1; walk_say "STEP leave1"; try dsimp only))
  all_goals (try dsimp only)
  all_goals first
    | exact con_ret hret _ (by k_asm) (by k_asm) (.mk (by exact allLt_to (by assumption)))
theorem con_fields' (w : World) (x dx : Addr) (h0 h1 h2 h3 h4 : Int) (k0 k1 k2 k3 k4 t0 t1 t2 t3 t4 : Tok) (vo va vb vc vd : Int) (news : List (Addr × Obj)) (hx : (x, instObj 122 dx) ∈ news) (hxd : (dx, arpDict h0 h1 h2 h3 h4 k0 k1 k2 k3 k4 t0 t1 t2 t3 t4 vo va vb vc vd) ∈ news) :
    Con w 241 1 news [.ref x] (fun _ => True)
      (RFive vo va vb vc vd t0 t1 t2 t3 t4 news) :=
  con_map (subCons hx (subCons hxd subRefl)) (con_fields w x dx h0 h1 h2 h3 h4 k0 k1 k2 k3 k4 t0 t1 t2 t3 t4 vo va vb vc vd news) fun r n' h => by cases h with | mk e3 => exact ⟨_, .mk fun p hp => e3 p (.tail _ (.tail _ hp)), subCons (.head _) (subTail (subTail (subTail subRefl)))⟩
theorem con_answer (w : World) (x dx : Addr) (h0 h1 h2 h3 h4 : Int) (k0 k1 k2 k3 k4 t0 t1 t2 t3 t4 : Tok) (vo va vb vc vd : Int) (ad mc : Int) (u v : Tok) (news : List (Addr × Obj)) :
    Con w 147 3 ((x, instObj 122 dx) :: (dx, arpDict h0 h1 h2 h3 h4 k0 k1 k2 k3 k4 t0 t1 t2 t3 t4 vo va vb vc vd) :: news) [.ref x, .int ad u, .int mc v] (fun _ => True)
      (RAns vo va vb vd ad mc t1 t2 u v ((x, instObj 122 dx) :: (dx, arpDict h0 h1 h2 h3 h4 k0 k1 k2 k3 k4 t0 t1 t2 t3 t4 vo va vb vc vd) :: news)) := by
  have hC1 : CondIs 72 (¬ (vo = 1 ∧ vd = ad)) := .mk
  unfold Con
  k_fill
  intro mean mg mb dp un gd cn cs a ccd cl outer A₀ base h₀ L m s Q E B F X N T hk hpre hd hu hret
  refine wpAny_call ?_
  k_dflt (first | cell_enter | (refine' code_defC ?k1 ?k2 ?k3 ?k4 ?k5 ?kA ?kF ?kK ?k6 ?k7 ?k8 ?k9 ?kB ?kD ?_ ?c2 ?c3 ?c4; (case kA => exact rfl); (case kF => exact rfl); (case kK => assumption); (case k1 => k_asm); (case k2 => k_asm); (case k3 => k_asm); (case k4 => k_asm); (case k5 => k_asm); (case k6 => k_is); (case k7 => k_is); (case k8 => ktr_room); (case k9 => exact BindsTo.of_eq rfl); (case kB => exact rfl); (case kD => decide +kernel); (case c2 => exact rfl); (case c3 => exact rfl); (case c4 => exact rfl); k_whole; intro g' L' h' tk' cells' FG' F' N' Y' B' X' T' l1; (try k_lt l1); k_cells Y'; (try simp only [List.cons_append, List.nil_append] at N'); (try dsimp only); (try k_lift B'); (try k_fold)))
  repeat' (first | with_reducible (k_here; (with_reducible show wpAny _ _ (isTrue (Expr.Compare _ _ _ _) _ _) _ _ _); dsimp only) | with_reducible (k_here; (with_reducible show wpAny _ _ (exec (Stmt.If _ _ _ _) _) _ _ _); k_dflt (apply If_cond; (case _C => assumption); (case _F => k_asm); (case _N => k_asm); k_whole; rotate_left; (intro c' h' tk' F' N'; (try dsimp only)); rotate_left; (intro c' h' tk' F' N'; (try dsimp only); (try (have c2 := Classical.not_not.mp c'; obtain ⟨p1, ⟨p2, p3⟩, ⟨p4, p5⟩, ⟨p6, p7⟩⟩ := id c2))); rotate_left)) | (k_unfold; (try dsimp only)) | (k_end; wrow_close) | walk1 | (dsimp only; walk1) | (leave1; walk_say "STEP leave1"; try dsimp only))
  all_goals (try dsimp only)
  all_goals first
    | ((with_reducible show CondAt _ _ _ _ _ _ _ _); refine (CondAt.mk ?_ (by k_asm) (by k_asm) (by (repeat' (first | with_reducible exact subRefl | with_reducible exact subNil | with_reducible assumption | (refine subCons ?_ ?_; focus (first | with_reducible assumption | (with_reducible (repeat (first | exact List.mem_cons_self | assumption | refine List.mem_cons_of_mem _ ?_)); done))) | refine subTail ?_)))); simp only [Bool.not_false, Bool.not_true, Bool.not_eq_true', decide_eq_true_eq, decide_eq_false_iff_not, true_iff, Bool.false_eq_true, false_iff, bne_iff_ne, beq_iff_eq, ne_eq] <;> omega)
    | exact con_ret hret _ (by k_asm) (newsDrop (by k_asm) (by first | (refine subTrans ?_ (by with_reducible assumption); (repeat' (first | with_reducible exact subRefl | with_reducible exact subNil | with_reducible assumption | (refine subCons ?_ ?_; focus (first | with_reducible assumption | (with_reducible (repeat (first | exact List.mem_cons_self | assumption | refine List.mem_cons_of_mem _ ?_)); done))) | refine subTail ?_)); done) | ((repeat' (first | with_reducible exact subRefl | with_reducible exact subNil | with_reducible assumption | (refine subCons ?_ ?_; focus (first | with_reducible assumption | (with_reducible (repeat (first | exact List.mem_cons_self | assumption | refine List.mem_cons_of_mem _ ?_)); done))) | refine subTail ?_)); done))) (.no (by with_reducible assumption))
    | exact con_ret hret _ (by k_asm) (newsDrop (by k_asm) (by first | (refine subTrans ?_ (by with_reducible assumption); (repeat' (first | with_reducible exact subRefl | with_reducible exact subNil | with_reducible assumption | (refine subCons ?_ ?_; focus (first | with_reducible assumption | (with_reducible (repeat (first | exact List.mem_cons_self | assumption | refine List.mem_cons_of_mem _ ?_)); done))) | refine subTail ?_)); done) | ((repeat' (first | with_reducible exact subRefl | with_reducible exact subNil | with_reducible assumption | (refine subCons ?_ ?_; focus (first | with_reducible assumption | (with_reducible (repeat (first | exact List.mem_cons_self | assumption | refine List.mem_cons_of_mem _ ?_)); done))) | refine subTail ?_)); done))) (.yes (Classical.not_not.mp (by with_reducible assumption)) (by exact allLt_to (by assumption)) (by assumption))
end

section -- part G14
set_option maxHeartbeats 8000000






theorem con_tmsg (w : World) (l : Addr) (vs : List Value) (nn : Nat) (ks : List Int) (news : List (Addr × Obj)) (hm : (l, listOf vs.toArray nn) ∈ news) (hi : IntsAre vs ks) (ho : Octs ks) (hz : ks.length ≤ 1000) :
    ConS w 255 8 news [.ref l] (fun _ => True)
      (RIn (dueMsg ks) news) := by
  unfold ConS
  k_fill
  intro mean mg mb dp un gd cn cs a ccd cl outer A₀ base g₀ h₀ L m s Q E B F X N T XB TB KD T0 hk hpre hd hu hret
  refine wpAny_call ?_
  k_dflt (refine' code_defSX ?k1 ?k2 ?k3 ?k4 ?k5 ?XB ?TB ?D ?T0 ?kA ?kF ?kK ?k6 ?k7 ?k8 ?k9 ?kB ?_ ?c2 ?c3 ?c4 ?c5; (case kA => exact rfl); (case kF => exact rfl); (case kK => first | assumption | exact rfl); (case k2 => k_asm); (case k1 => k_asm); (case XB => assumption); (case TB => assumption); (case D => assumption); (case T0 => first | assumption | exact KtsTurn.refl); (case k3 => k_asm); (case k4 => k_asm); (case k5 => k_asm); (case k6 => k_is); (case k7 => k_is); (case k8 => ktr_room); (case k9 => exact BindsTo.of_eq rfl); (case kB => exact locs rfl); (case c2 => exact rfl); (case c3 => exact rfl); (case c4 => exact rfl); (case c5 => decide); k_whole; intro g' L' h' FG' F' N' B' X' T' D'; (try dsimp only); (try k_lift B'); (try k_fold))
  repeat' (first | with_reducible (k_here; (with_reducible show wpAny _ _ (call (Value.ref 133) _) _ _ _); k_dflt (apply con_rarp; (case hks => with_reducible assumption); ((case cN => k_asm); (case cF => k_asm); (case cB => k_asm); (case cX => k_asm); (case cT => k_asm); (try ((case cXB => assumption); (case cTB => assumption); (case cKD => assumption); (case cT0 => first | assumption | exact KtsTurn.refl))); (case cK => first | exact rfl | assumption); (try case hm => (first | kbu_src | k_mem)); (try case hx => (first | kbu_src | k_mem)); (try case hxd => (first | kbu_src | k_mem)); (try case hi => with_reducible assumption); (try case ho => (with_reducible assumption)); (try case hdat => (first | with_reducible assumption | (refine DatAll.mono ?_ (by with_reducible assumption); (repeat' (first | with_reducible exact subRefl | with_reducible exact subNil | with_reducible assumption | (refine subCons ?_ ?_; focus kbu_src) | refine subTail ?_))))); (try case hz => (first | omega | exact ⟨by omega, by omega⟩)); (case cP => (first | (refine ⟨by with_reducible assumption, ?_⟩; (refine slc_len (n := 8) ?_ ?_ ?_ <;> omega)) | (first | trivial | decide | omega | exact ⟨by decide, by decide⟩ | exact ⟨by with_reducible assumption, by with_reducible assumption, by omega, by omega⟩))); (case cD => ktr_room); (case cU => ktr_units)); ((case' exc => ((first | refine XExc.out ?_ | refine XSay.out ?_); intros; (try dsimp only))); (case' ret => (first | (refine RArp.out ?_; intros; (try dsimp only); (try k_sweep)) | (refine RFive.out ?_; intros; (try dsimp only); (try k_sweep)) | (refine ROct.out ?_; intros; (try dsimp only); (try k_sweep)) | ((first | refine RExc.out ?_ | refine RInt.out ?_ | refine RVal.out ?_ | refine RLst.out ?_ | refine ROcts.out ?_); intros; (try dsimp only); (try k_sweep))))))) | with_reducible (k_here; (with_reducible show wpAny _ _ (call (Value.ref 241) _) _ _ _); k_dflt (apply con_fields'; ((case cN => k_asm); (case cF => k_asm); (case cB => k_asm); (case cX => k_asm); (case cT => k_asm); (try ((case cXB => assumption); (case cTB => assumption); (case cKD => assumption); (case cT0 => first | assumption | exact KtsTurn.refl))); (case cK => first | exact rfl | assumption); (try case hm => (first | kbu_src | k_mem)); (try case hx => (first | kbu_src | k_mem)); (try case hxd => (first | kbu_src | k_mem)); (try case hi => with_reducible assumption); (try case ho => (with_reducible assumption)); (try case hdat => (first | with_reducible assumption | (refine DatAll.mono ?_ (by with_reducible assumption); (repeat' (first | with_reducible exact subRefl | with_reducible exact subNil | with_reducible assumption | (refine subCons ?_ ?_; focus kbu_src) | refine subTail ?_))))); (try case hz => (first | omega | exact ⟨by omega, by omega⟩)); (case cP => (first | (refine ⟨by with_reducible assumption, ?_⟩; (refine slc_len (n := 8) ?_ ?_ ?_ <;> omega)) | (first | trivial | decide | omega | exact ⟨by decide, by decide⟩ | exact ⟨by with_reducible assumption, by with_reducible assumption, by omega, by omega⟩))); (case cD => ktr_room); (case cU => ktr_units)); (first | (refine RArp.out ?_; intros; (try dsimp only); (try k_sweep)) | (refine RFive.out ?_; intros; (try dsimp only); (try k_sweep)) | (refine ROct.out ?_; intros; (try dsimp only); (try k_sweep)) | ((first | refine RExc.out ?_ | refine RInt.out ?_ | refine RVal.out ?_ | refine RLst.out ?_ | refine ROcts.out ?_); intros; (try dsimp only); (try k_sweep))))) | with_reducible (k_here; (with_reducible show wpAny _ _ (call (Value.type "bytes") [Value.ref _]) _ _ _); k_dflt (apply bytes_listK; (case F => k_asm); (case N => k_asm); (case hh => exact rfl); (case hm => (first | kbu_src | k_mem)); (case hi => with_reducible assumption); (case ho => with_reducible assumption); (case hz => omega); k_whole); intro b' t' h' k' F' N' hb'; (try k_sweep)) | with_reducible (k_here; (with_reducible show wpAny _ _ (getAttr (Value.ref _) (Str.ofString "why") _) _ _ _); k_dflt (apply getWhy56; (case F => k_asm); (case X₀ => k_asm); (case N => k_asm); (case h1 => exact List.mem_cons_self); (case h2 => exact List.mem_cons_of_mem _ (by with_reducible assumption)); (case hc => assumption); (case hdd => assumption); (case hn => assumption); k_whole)) | with_reducible (k_here; (with_reducible show wpAny _ _ (noteFrame (Value.ref _) _) _ _ _); k_dflt (apply caught_D; (case R => assumption); (case DA => assumption); (case F => assumption); (case K => assumption); (case hsm => assumption); (case XB => assumption); (case TB => assumption); (case D => assumption); (case T0 => first | assumption | exact KtsTurn.refl); (case q => kts_isx); (case ex => k_is); (try case hk => with_unfolding_all rfl); (try case hlo => with_unfolding_all rfl); (try case hx => with_unfolding_all rfl); (try case hd => with_unfolding_all rfl); k_whole); intro h' g' oe' tk' T' F' N' hc' hd' hn' K' X' P' D'; (try k_lift K'); (try k_sweep)) | (k_unfold; (try dsimp only)) | (k_end; wrow_close) | walk1 | (dsimp only; walk1) | (leave1; walk_say "STEP leave1"; try dsimp only))
  all_goals (try dsimp only)
  all_goals first
    | exact conS_ret hret (by assumption) (by k_asm) (by k_asm) (by assumption) (by assumption) (by assumption) (by assumption) (.mk (by (repeat' (first | with_reducible exact subRefl | with_reducible exact subNil | with_reducible assumption | (refine subCons ?_ ?_; focus (first | with_reducible assumption | (with_reducible (repeat (first | exact List.mem_cons_self | assumption | refine List.mem_cons_of_mem _ ?_)); done))) | refine subTail ?_))) (by (first | with_reducible assumption | (with_reducible (repeat (first | exact List.mem_cons_self | assumption | refine List.mem_cons_of_mem _ ?_)); done) | k_mem)) (by (first | with_reducible assumption | (with_reducible (repeat (first | exact List.mem_cons_self | assumption | refine List.mem_cons_of_mem _ ?_)); done) | k_mem)) (by with_reducible assumption) (IntsAre.cons _ _ (IntsAre.cons _ _ (IntsAre.cons _ _ (IntsAre.cons _ _ (IntsAre.cons _ _ IntsAre.nil))))))
    | exact conS_ret hret (by assumption) (by k_asm) (by k_asm) (by assumption) (by assumption) (by assumption) (by assumption) (.mk (ys := []) (subTrans (by with_reducible assumption) (by (repeat' (first | with_reducible exact subRefl | with_reducible exact subNil | with_reducible assumption | (refine subCons ?_ ?_; focus (first | with_reducible assumption | (with_reducible (repeat (first | exact List.mem_cons_self | assumption | refine List.mem_cons_of_mem _ ?_)); done))) | refine subTail ?_)))) (by (first | with_reducible assumption | (with_reducible (repeat (first | exact List.mem_cons_self | assumption | refine List.mem_cons_of_mem _ ?_)); done) | k_mem)) (by (first | with_reducible assumption | (with_reducible (repeat (first | exact List.mem_cons_self | assumption | refine List.mem_cons_of_mem _ ?_)); done) | k_mem)) (by with_reducible assumption) (IntsAre.nil))
end

section -- part G15
set_option maxHeartbeats 8000000

def arpPart (o a b c d : Int) : Nat → Int
  | 0 => 4429186564
  | 1 => 4429186564 * 65536 + o
  | 2 => (4429186564 * 65536 + o) * 281474976710656 + a
  | 3 => ((4429186564 * 65536 + o) * 281474976710656 + a) * 4294967296 + b
  | 4 => (((4429186564 * 65536 + o) * 281474976710656 + a) * 4294967296 + b) * 281474976710656 + c
  | _ => arpWhole o a b c d
def arpFit (o a b c d : Int) (n : Nat) : Prop := (0 < n → 0 ≤ o ∧ o < 65536) ∧ (1 < n → 0 ≤ a ∧ a < 281474976710656) ∧ (2 < n → 0 ≤ b ∧ b < 4294967296) ∧ (3 < n → 0 ≤ c ∧ c < 281474976710656) ∧ (4 < n → 0 ≤ d ∧ d < 4294967296)
theorem arpFit_ok {o a b c d : Int} (h : arpFit o a b c d 5) : arpOk o a b c d := ⟨h.1 (by decide), h.2.1 (by decide), h.2.2.1 (by decide), h.2.2.2.1 (by decide), h.2.2.2.2 (by decide)⟩
theorem arpFit_0 {o a b c d : Int} (h : arpFit o a b c d 0) (g : 0 ≤ o ∧ o < 65536) : arpFit o a b c d (0 + 1) := ⟨fun _ => g, fun q => absurd q (by decide), fun q => absurd q (by decide), fun q => absurd q (by decide), fun q => absurd q (by decide)⟩
theorem arpFit_1 {o a b c d : Int} (h : arpFit o a b c d 1) (g : 0 ≤ a ∧ a < 281474976710656) : arpFit o a b c d (1 + 1) := ⟨fun _ => h.1 (by decide), fun _ => g, fun q => absurd q (by decide), fun q => absurd q (by decide), fun q => absurd q (by decide)⟩
theorem arpFit_2 {o a b c d : Int} (h : arpFit o a b c d 2) (g : 0 ≤ b ∧ b < 4294967296) : arpFit o a b c d (2 + 1) := ⟨fun _ => h.1 (by decide), fun _ => h.2.1 (by decide), fun _ => g, fun q => absurd q (by decide), fun q => absurd q (by decide)⟩
theorem arpFit_3 {o a b c d : Int} (h : arpFit o a b c d 3) (g : 0 ≤ c ∧ c < 281474976710656) : arpFit o a b c d (3 + 1) := ⟨fun _ => h.1 (by decide), fun _ => h.2.1 (by decide), fun _ => h.2.2.1 (by decide), fun _ => g, fun q => absurd q (by decide)⟩
theorem arpFit_4 {o a b c d : Int} (h : arpFit o a b c d 4) (g : 0 ≤ d ∧ d < 4294967296) : arpFit o a b c d (4 + 1) := ⟨fun _ => h.1 (by decide), fun _ => h.2.1 (by decide), fun _ => h.2.2.1 (by decide), fun _ => h.2.2.2.1 (by decide), fun _ => g⟩






theorem con_darp0 (w : World) (l : Addr) (nn : Nat) (t0 t1 t2 t3 t4 : Tok) (vo va vb vc vd : Int) (news : List (Addr × Obj)) :
    Con w 227 4 ((l, listOf (List.toArray [.int vo t0, .int va t1, .int vb t2, .int vc t3, .int vd t4]) nn) :: news) [.ref l] (fun _ => True)
      (RDue (dueArp vo va vb vc vd) ((l, listOf (List.toArray [.int vo t0, .int va t1, .int vb t2, .int vc t3, .int vd t4]) nn) :: news)) := by
  unfold Con
  k_fill
  intro mean mg mb dp un gd cn cs a ccd cl outer A₀ base h₀ L m s Q E B F X N T hk hpre hd hu hret
  refine wpAny_call ?_
  k_dflt (first | cell_enter | (refine' code_defC ?k1 ?k2 ?k3 ?k4 ?k5 ?kA ?kF ?kK ?k6 ?k7 ?k8 ?k9 ?kB ?kD ?_ ?c2 ?c3 ?c4; (case kA => exact rfl); (case kF => exact rfl); (case kK => assumption); (case k1 => k_asm); (case k2 => k_asm); (case k3 => k_asm); (case k4 => k_asm); (case k5 => k_asm); (case k6 => k_is); (case k7 => k_is); (case k8 => ktr_room); (case k9 => exact BindsTo.of_eq rfl); (case kB => exact rfl); (case kD => decide +kernel); (case c2 => exact rfl); (case c3 => exact rfl); (case c4 => exact rfl); k_whole; intro g' L' h' tk' cells' FG' F' N' Y' B' X' T' l1; (try k_lt l1); k_cells Y'; (try simp only [List.cons_append, List.nil_append] at N'); (try dsimp only); (try k_lift B'); (try k_fold)))
  repeat' (first | with_reducible (k_here; (with_reducible show wpAny _ _ (exec (Stmt.For _ _ _ _ _) _) _ _ _); k_dflt (refine stop_for ?_)) | (k_unfold; (try dsimp only)) | (k_end; wrow_close) | walk1 | (dsimp only; walk1) | (leave1; walk_say "STEP leave1"; try dsimp only))
  unfold Stop
  refine' For_range ?F ?h ?hs
  (case F => k_asm)
  (case hs => (intro _; with_unfolding_all rfl))
  repeat' (first | (k_unfold; (try dsimp only)) | (k_end; wrow_close) | walk1 | (dsimp only; walk1) | (leave1; walk_say "STEP leave1"; try dsimp only))
  unfold Stop
  refine (ex11 _ _ _ _ _ _ 5 ?m0 ((l, listOf (List.toArray [.int vo t0, .int va t1, .int vb t2, .int vc t3, .int vd t4]) nn) :: news) ((l, listOf (List.toArray [.int vo t0, .int va t1, .int vb t2, .int vc t3, .int vd t4]) nn) :: news) ((fun (i : Nat) (m : Str → Option Value) (nx : List (Addr × Obj)) => nx = (l, listOf (List.toArray [.int vo t0, .int va t1, .int vb t2, .int vc t3, .int vd t4]) nn) :: news ∧ m (Str.ofString "values") = some (.ref l) ∧ (∃ t, m (Str.ofString "whole") = some (.int (arpPart vo va vb vc vd i) t)) ∧ arpFit vo va vb vc vd i)) ⟨rfl, rfl, by k_asm, by k_asm, by with_reducible assumption, ?hsub, by decide, by decide, ?start, ?turn, ?done⟩)
  (case start => exact ⟨rfl, rfl, ⟨_, rfl⟩, ⟨fun h => absurd h (by decide), fun h => absurd h (by decide), fun h => absurd h (by decide), fun h => absurd h (by decide), fun h => absurd h (by decide)⟩⟩)
  (case hsub => (repeat' (first | with_reducible exact subRefl | with_reducible exact subNil | with_reducible assumption | (refine subCons (by (first | with_reducible assumption | (with_reducible (repeat (first | exact List.mem_cons_self | assumption | refine List.mem_cons_of_mem _ ?_)); done) | k_mem)) ?_) | refine subTail ?_)))
  (case done =>
    intro m' nx h' tk hJ F' N'
    refine gbox ?_
    intro G9 hG9
    obtain ⟨rfl, h1, ⟨t, h2⟩, hfit⟩ := hJ
    obtain ⟨u, rfl⟩ := two_keys h1 h2
    clear h1 h2
    refine hG9 ?_
    repeat' (first | with_reducible (k_here; (with_reducible show wpAny _ _ (call (Value.ref 187) _) _ _ _); k_dflt (apply con_rowI; ((case cN => k_asm); (case cF => k_asm); (case cB => k_asm); (case cX => k_asm); (case cT => k_asm); (try ((case cXB => assumption); (case cTB => assumption); (case cKD => assumption); (case cT0 => first | assumption | exact KtsTurn.refl))); (case cK => first | exact rfl | assumption); (try case hm => (first | kbu_src | k_mem)); (try case hx => (first | kbu_src | k_mem)); (try case hxd => (first | kbu_src | k_mem)); (try case hi => with_reducible assumption); (try case ho => (with_reducible assumption)); (try case hdat => (first | with_reducible assumption | (refine DatAll.mono ?_ (by with_reducible assumption); (repeat' (first | with_reducible exact subRefl | with_reducible exact subNil | with_reducible assumption | (refine subCons ?_ ?_; focus kbu_src) | refine subTail ?_))))); (try case hz => (first | omega | exact ⟨by omega, by omega⟩)); (case cP => (first | (refine ⟨by with_reducible assumption, ?_⟩; (refine slc_len (n := 8) ?_ ?_ ?_ <;> omega)) | (first | trivial | decide | omega | exact ⟨by decide, by decide⟩ | exact ⟨by with_reducible assumption, by with_reducible assumption, by omega, by omega⟩))); (case cD => ktr_room); (case cU => ktr_units)); (first | (refine RFive.out ?_; intros; (try dsimp only); (try k_sweep)) | (refine ROct.out ?_; intros; (try dsimp only); (try k_sweep)) | ((first | refine RExc.out ?_ | refine RInt.out ?_ | refine RVal.out ?_ | refine RLst.out ?_ | refine ROcts.out ?_); intros; (try dsimp only); (try k_sweep))))) | (k_unfold; (try dsimp only)) | (k_end; wrow_close) | walk1 | (dsimp only; walk1) | (leave1; walk_say "STEP leave1"; try dsimp only))
    all_goals (try dsimp only)
    all_goals first
      | exact con_ret hret _ (by k_asm) (newsDrop (by k_asm) (by first | (refine subTrans ?_ (by with_reducible assumption); (repeat' (first | with_reducible exact subRefl | with_reducible exact subNil | with_reducible assumption | (refine subCons (by (first | with_reducible assumption | (with_reducible (repeat (first | exact List.mem_cons_self | assumption | refine List.mem_cons_of_mem _ ?_)); done) | k_mem)) ?_) | refine subTail ?_)); done) | ((repeat' (first | with_reducible exact subRefl | with_reducible exact subNil | with_reducible assumption | (refine subCons (by (first | with_reducible assumption | (with_reducible (repeat (first | exact List.mem_cons_self | assumption | refine List.mem_cons_of_mem _ ?_)); done) | k_mem)) ?_) | refine subTail ?_)); done))) (.mk (dueArp_ok (arpFit_ok hfit)) (by assumption)))
  intro I oI i m₁ nx h tk t hi hJ hne F N
  refine gbox ?_
  intro G9 hG9
  obtain ⟨rfl, h1, ⟨t, h2⟩, hfit⟩ := hJ
  obtain ⟨u, rfl⟩ := two_keys h1 h2
  clear h1 h2
  have hi5 : i = 0 ∨ i = 1 ∨ i = 2 ∨ i = 3 ∨ i = 4 := by omega
  refine hG9 ?_
  rcases hi5 with rfl | rfl | rfl | rfl | rfl
  · have hC : CondIs 144 (¬ (0 ≤ vo ∧ vo < 65536)) := .mk
    refine (show wpAny _ _ (assign _ _ (Value.int 0 _)) _ _ _ from ?_)
    have G9 : [vo, va, vb, vc, vd].getD (Int.toNat 0) 0 = vo := rfl
    have P9 : (256 : Int) ^ Int.toNat 2 = 65536 := by decide
    repeat' (first | with_reducible (k_here; (with_reducible show wpAny _ _ (isTrue (Expr.Compare _ _ _ _) _ _) _ _ _); dsimp only) | with_reducible (k_here; (with_reducible show wpAny _ _ (exec (Stmt.If _ _ _ _) _) _ _ _); k_dflt (apply If_cond; (case _C => assumption); (case _F => k_asm); (case _N => k_asm); k_whole; rotate_left; (intro c' h' tk' F' N'; (try dsimp only)); rotate_left; (intro c' h' tk' F' N'; (try dsimp only); (try (have c2 := Classical.not_not.mp c'; obtain ⟨p1, ⟨p2, p3⟩, ⟨p4, p5⟩, ⟨p6, p7⟩⟩ := id c2))); rotate_left)) | with_reducible (k_here; (with_reducible show wpAny _ _ (subscriptTail (Expr.List _ _) _ (Value.ref _) (Value.int _ _)) _ _ _); (with_unfolding_all apply item_litK; (case hl => is_list); (case h0 => decide); (case hhi => decide); (case hx => rfl); (case hs => with_unfolding_all rfl); k_whole)) | (k_unfold; (try dsimp only)) | (k_end; wrow_close) | walk1 | (dsimp only; walk1) | (leave1; walk_say "STEP leave1"; try dsimp only))
    all_goals (try dsimp only)
    all_goals first
      | ((with_reducible show CondAt _ _ _ _ _ _ _ _); refine (CondAt.mk ?_ (by k_asm) (by k_asm) (by (repeat' (first | with_reducible exact subRefl | with_reducible exact subNil | with_reducible assumption | (refine subCons (by (first | with_reducible assumption | (with_reducible (repeat (first | exact List.mem_cons_self | assumption | refine List.mem_cons_of_mem _ ?_)); done) | k_mem)) ?_) | refine subTail ?_)))); simp only [Bool.not_false, Bool.not_true, Bool.not_eq_true', decide_eq_true_eq, decide_eq_false_iff_not, true_iff, Bool.false_eq_true, false_iff, bne_iff_ne, beq_iff_eq, ne_eq] <;> omega)
      | ((with_reducible show REnd _ _ _ _ _ _ _ _ _)
         have c2 : 0 ≤ vo ∧ vo < 65536 := Classical.not_not.mp (by with_reducible assumption)
         refine (REnd.mk (by k_asm) (by k_asm) (by (repeat' (first | with_reducible exact subRefl | with_reducible exact subNil | with_reducible assumption | (refine subCons (by (first | with_reducible assumption | (with_reducible (repeat (first | exact List.mem_cons_self | assumption | refine List.mem_cons_of_mem _ ?_)); done) | k_mem)) ?_) | refine subTail ?_))) hne ⟨rfl, rfl, ⟨_, some_int ?h9⟩, arpFit_0 hfit c2⟩)
         (case h9 => (rw [show (256 : Int) ^ Int.toNat 2 = 65536 from by decide]; rfl)))
      | ((with_reducible show REnd _ _ _ _ _ _ _ _ _)
         have c2 : ¬ (0 ≤ vo ∧ vo < 65536) := by with_reducible assumption
         unfold REnd
         dsimp only
         repeat' (first | (k_unfold; (try dsimp only)) | (k_end; wrow_close) | walk1 | (dsimp only; walk1) | (leave1; walk_say "STEP leave1"; try dsimp only))
         exact con_ret hret _ (by k_asm) (newsDrop (by k_asm) (by first | (refine subTrans ?_ (by with_reducible assumption); (repeat' (first | with_reducible exact subRefl | with_reducible exact subNil | with_reducible assumption | (refine subCons (by (first | with_reducible assumption | (with_reducible (repeat (first | exact List.mem_cons_self | assumption | refine List.mem_cons_of_mem _ ?_)); done) | k_mem)) ?_) | refine subTail ?_)); done) | ((repeat' (first | with_reducible exact subRefl | with_reducible exact subNil | with_reducible assumption | (refine subCons (by (first | with_reducible assumption | (with_reducible (repeat (first | exact List.mem_cons_self | assumption | refine List.mem_cons_of_mem _ ?_)); done) | k_mem)) ?_) | refine subTail ?_)); done))) (.mk (ys := []) (dueArp_no (fun q => c2 q.1)) (IntsAre.nil)))
  · have hC : CondIs 144 (¬ (0 ≤ va ∧ va < 281474976710656)) := .mk
    refine (show wpAny _ _ (assign _ _ (Value.int 1 _)) _ _ _ from ?_)
    have G9 : [vo, va, vb, vc, vd].getD (Int.toNat 1) 0 = va := rfl
    have P9 : (256 : Int) ^ Int.toNat 6 = 281474976710656 := by decide
    repeat' (first | with_reducible (k_here; (with_reducible show wpAny _ _ (isTrue (Expr.Compare _ _ _ _) _ _) _ _ _); dsimp only) | with_reducible (k_here; (with_reducible show wpAny _ _ (exec (Stmt.If _ _ _ _) _) _ _ _); k_dflt (apply If_cond; (case _C => assumption); (case _F => k_asm); (case _N => k_asm); k_whole; rotate_left; (intro c' h' tk' F' N'; (try dsimp only)); rotate_left; (intro c' h' tk' F' N'; (try dsimp only); (try (have c2 := Classical.not_not.mp c'; obtain ⟨p1, ⟨p2, p3⟩, ⟨p4, p5⟩, ⟨p6, p7⟩⟩ := id c2))); rotate_left)) | with_reducible (k_here; (with_reducible show wpAny _ _ (subscriptTail (Expr.List _ _) _ (Value.ref _) (Value.int _ _)) _ _ _); (with_unfolding_all apply item_litK; (case hl => is_list); (case h0 => decide); (case hhi => decide); (case hx => rfl); (case hs => with_unfolding_all rfl); k_whole)) | (k_unfold; (try dsimp only)) | (k_end; wrow_close) | walk1 | (dsimp only; walk1) | (leave1; walk_say "STEP leave1"; try dsimp only))
    all_goals (try dsimp only)
    all_goals first
      | ((with_reducible show CondAt _ _ _ _ _ _ _ _); refine (CondAt.mk ?_ (by k_asm) (by k_asm) (by (repeat' (first | with_reducible exact subRefl | with_reducible exact subNil | with_reducible assumption | (refine subCons (by (first | with_reducible assumption | (with_reducible (repeat (first | exact List.mem_cons_self | assumption | refine List.mem_cons_of_mem _ ?_)); done) | k_mem)) ?_) | refine subTail ?_)))); simp only [Bool.not_false, Bool.not_true, Bool.not_eq_true', decide_eq_true_eq, decide_eq_false_iff_not, true_iff, Bool.false_eq_true, false_iff, bne_iff_ne, beq_iff_eq, ne_eq] <;> omega)
      | ((with_reducible show REnd _ _ _ _ _ _ _ _ _)
         have c2 : 0 ≤ va ∧ va < 281474976710656 := Classical.not_not.mp (by with_reducible assumption)
         refine (REnd.mk (by k_asm) (by k_asm) (by (repeat' (first | with_reducible exact subRefl | with_reducible exact subNil | with_reducible assumption | (refine subCons (by (first | with_reducible assumption | (with_reducible (repeat (first | exact List.mem_cons_self | assumption | refine List.mem_cons_of_mem _ ?_)); done) | k_mem)) ?_) | refine subTail ?_))) hne ⟨rfl, rfl, ⟨_, some_int ?h9⟩, arpFit_1 hfit c2⟩)
         (case h9 => (rw [show (256 : Int) ^ Int.toNat 6 = 281474976710656 from by decide]; rfl)))
      | ((with_reducible show REnd _ _ _ _ _ _ _ _ _)
         have c2 : ¬ (0 ≤ va ∧ va < 281474976710656) := by with_reducible assumption
         unfold REnd
         dsimp only
         repeat' (first | (k_unfold; (try dsimp only)) | (k_end; wrow_close) | walk1 | (dsimp only; walk1) | (leave1; walk_say "STEP leave1"; try dsimp only))
         exact con_ret hret _ (by k_asm) (newsDrop (by k_asm) (by first | (refine subTrans ?_ (by with_reducible assumption); (repeat' (first | with_reducible exact subRefl | with_reducible exact subNil | with_reducible assumption | (refine subCons (by (first | with_reducible assumption | (with_reducible (repeat (first | exact List.mem_cons_self | assumption | refine List.mem_cons_of_mem _ ?_)); done) | k_mem)) ?_) | refine subTail ?_)); done) | ((repeat' (first | with_reducible exact subRefl | with_reducible exact subNil | with_reducible assumption | (refine subCons (by (first | with_reducible assumption | (with_reducible (repeat (first | exact List.mem_cons_self | assumption | refine List.mem_cons_of_mem _ ?_)); done) | k_mem)) ?_) | refine subTail ?_)); done))) (.mk (ys := []) (dueArp_no (fun q => c2 q.2.1)) (IntsAre.nil)))
  · have hC : CondIs 144 (¬ (0 ≤ vb ∧ vb < 4294967296)) := .mk
    refine (show wpAny _ _ (assign _ _ (Value.int 2 _)) _ _ _ from ?_)
    have G9 : [vo, va, vb, vc, vd].getD (Int.toNat 2) 0 = vb := rfl
    have P9 : (256 : Int) ^ Int.toNat 4 = 4294967296 := by decide
    repeat' (first | with_reducible (k_here; (with_reducible show wpAny _ _ (isTrue (Expr.Compare _ _ _ _) _ _) _ _ _); dsimp only) | with_reducible (k_here; (with_reducible show wpAny _ _ (exec (Stmt.If _ _ _ _) _) _ _ _); k_dflt (apply If_cond; (case _C => assumption); (case _F => k_asm); (case _N => k_asm); k_whole; rotate_left; (intro c' h' tk' F' N'; (try dsimp only)); rotate_left; (intro c' h' tk' F' N'; (try dsimp only); (try (have c2 := Classical.not_not.mp c'; obtain ⟨p1, ⟨p2, p3⟩, ⟨p4, p5⟩, ⟨p6, p7⟩⟩ := id c2))); rotate_left)) | with_reducible (k_here; (with_reducible show wpAny _ _ (subscriptTail (Expr.List _ _) _ (Value.ref _) (Value.int _ _)) _ _ _); (with_unfolding_all apply item_litK; (case hl => is_list); (case h0 => decide); (case hhi => decide); (case hx => rfl); (case hs => with_unfolding_all rfl); k_whole)) | (k_unfold; (try dsimp only)) | (k_end; wrow_close) | walk1 | (dsimp only; walk1) | (leave1; walk_say "STEP leave1"; try dsimp only))
    all_goals (try dsimp only)
    all_goals first
      | ((with_reducible show CondAt _ _ _ _ _ _ _ _); refine (CondAt.mk ?_ (by k_asm) (by k_asm) (by (repeat' (first | with_reducible exact subRefl | with_reducible exact subNil | with_reducible assumption | (refine subCons (by (first | with_reducible assumption | (with_reducible (repeat (first | exact List.mem_cons_self | assumption | refine List.mem_cons_of_mem _ ?_)); done) | k_mem)) ?_) | refine subTail ?_)))); simp only [Bool.not_false, Bool.not_true, Bool.not_eq_true', decide_eq_true_eq, decide_eq_false_iff_not, true_iff, Bool.false_eq_true, false_iff, bne_iff_ne, beq_iff_eq, ne_eq] <;> omega)
      | ((with_reducible show REnd _ _ _ _ _ _ _ _ _)
         have c2 : 0 ≤ vb ∧ vb < 4294967296 := Classical.not_not.mp (by with_reducible assumption)
         refine (REnd.mk (by k_asm) (by k_asm) (by (repeat' (first | with_reducible exact subRefl | with_reducible exact subNil | with_reducible assumption | (refine subCons (by (first | with_reducible assumption | (with_reducible (repeat (first | exact List.mem_cons_self | assumption | refine List.mem_cons_of_mem _ ?_)); done) | k_mem)) ?_) | refine subTail ?_))) hne ⟨rfl, rfl, ⟨_, some_int ?h9⟩, arpFit_2 hfit c2⟩)
         (case h9 => (rw [show (256 : Int) ^ Int.toNat 4 = 4294967296 from by decide]; rfl)))
      | ((with_reducible show REnd _ _ _ _ _ _ _ _ _)
         have c2 : ¬ (0 ≤ vb ∧ vb < 4294967296) := by with_reducible assumption
         unfold REnd
         dsimp only
         repeat' (first | (k_unfold; (try dsimp only)) | (k_end; wrow_close) | walk1 | (dsimp only; walk1) | (leave1; walk_say "STEP leave1"; try dsimp only))
         exact con_ret hret _ (by k_asm) (newsDrop (by k_asm) (by first | (refine subTrans ?_ (by with_reducible assumption); (repeat' (first | with_reducible exact subRefl | with_reducible exact subNil | with_reducible assumption | (refine subCons (by (first | with_reducible assumption | (with_reducible (repeat (first | exact List.mem_cons_self | assumption | refine List.mem_cons_of_mem _ ?_)); done) | k_mem)) ?_) | refine subTail ?_)); done) | ((repeat' (first | with_reducible exact subRefl | with_reducible exact subNil | with_reducible assumption | (refine subCons (by (first | with_reducible assumption | (with_reducible (repeat (first | exact List.mem_cons_self | assumption | refine List.mem_cons_of_mem _ ?_)); done) | k_mem)) ?_) | refine subTail ?_)); done))) (.mk (ys := []) (dueArp_no (fun q => c2 q.2.2.1)) (IntsAre.nil)))
  · have hC : CondIs 144 (¬ (0 ≤ vc ∧ vc < 281474976710656)) := .mk
    refine (show wpAny _ _ (assign _ _ (Value.int 3 _)) _ _ _ from ?_)
    have G9 : [vo, va, vb, vc, vd].getD (Int.toNat 3) 0 = vc := rfl
    have P9 : (256 : Int) ^ Int.toNat 6 = 281474976710656 := by decide
    repeat' (first | with_reducible (k_here; (with_reducible show wpAny _ _ (isTrue (Expr.Compare _ _ _ _) _ _) _ _ _); dsimp only) | with_reducible (k_here; (with_reducible show wpAny _ _ (exec (Stmt.If _ _ _ _) _) _ _ _); k_dflt (apply If_cond; (case _C => assumption); (case _F => k_asm); (case _N => k_asm); k_whole; rotate_left; (intro c' h' tk' F' N'; (try dsimp only)); rotate_left; (intro c' h' tk' F' N'; (try dsimp only); (try (have c2 := Classical.not_not.mp c'; obtain ⟨p1, ⟨p2, p3⟩, ⟨p4, p5⟩, ⟨p6, p7⟩⟩ := id c2))); rotate_left)) | with_reducible (k_here; (with_reducible show wpAny _ _ (subscriptTail (Expr.List _ _) _ (Value.ref _) (Value.int _ _)) _ _ _); (with_unfolding_all apply item_litK; (case hl => is_list); (case h0 => decide); (case hhi => decide); (case hx => rfl); (case hs => with_unfolding_all rfl); k_whole)) | (k_unfold; (try dsimp only)) | (k_end; wrow_close) | walk1 | (dsimp only; walk1) | (leave1; walk_say "STEP leave1"; try dsimp only))
    all_goals (try dsimp only)
    all_goals first
      | ((with_reducible show CondAt _ _ _ _ _ _ _ _); refine (CondAt.mk ?_ (by k_asm) (by k_asm) (by (repeat' (first | with_reducible exact subRefl | with_reducible exact subNil | with_reducible assumption | (refine subCons (by (first | with_reducible assumption | (with_reducible (repeat (first | exact List.mem_cons_self | assumption | refine List.mem_cons_of_mem _ ?_)); done) | k_mem)) ?_) | refine subTail ?_)))); simp only [Bool.not_false, Bool.not_true, Bool.not_eq_true', decide_eq_true_eq, decide_eq_false_iff_not, true_iff, Bool.false_eq_true, false_iff, bne_iff_ne, beq_iff_eq, ne_eq] <;> omega)
      | ((with_reducible show REnd _ _ _ _ _ _ _ _ _)
         have c2 : 0 ≤ vc ∧ vc < 281474976710656 := Classical.not_not.mp (by with_reducible assumption)
         refine (REnd.mk (by k_asm) (by k_asm) (by (repeat' (first | with_reducible exact subRefl | with_reducible exact subNil | with_reducible assumption | (refine subCons (by (first | with_reducible assumption | (with_reducible (repeat (first | exact List.mem_cons_self | assumption | refine List.mem_cons_of_mem _ ?_)); done) | k_mem)) ?_) | refine subTail ?_))) hne ⟨rfl, rfl, ⟨_, some_int ?h9⟩, arpFit_3 hfit c2⟩)
         (case h9 => (rw [show (256 : Int) ^ Int.toNat 6 = 281474976710656 from by decide]; rfl)))
      | ((with_reducible show REnd _ _ _ _ _ _ _ _ _)
         have c2 : ¬ (0 ≤ vc ∧ vc < 281474976710656) := by with_reducible assumption
         unfold REnd
         dsimp only
         repeat' (first | (k_unfold; (try dsimp only)) | (k_end; wrow_close) | walk1 | (dsimp only; walk1) | (leave1; walk_say "STEP leave1"; try dsimp only))
         exact con_ret hret _ (by k_asm) (newsDrop (by k_asm) (by first | (refine subTrans ?_ (by with_reducible assumption); (repeat' (first | with_reducible exact subRefl | with_reducible exact subNil | with_reducible assumption | (refine subCons (by (first | with_reducible assumption | (with_reducible (repeat (first | exact List.mem_cons_self | assumption | refine List.mem_cons_of_mem _ ?_)); done) | k_mem)) ?_) | refine subTail ?_)); done) | ((repeat' (first | with_reducible exact subRefl | with_reducible exact subNil | with_reducible assumption | (refine subCons (by (first | with_reducible assumption | (with_reducible (repeat (first | exact List.mem_cons_self | assumption | refine List.mem_cons_of_mem _ ?_)); done) | k_mem)) ?_) | refine subTail ?_)); done))) (.mk (ys := []) (dueArp_no (fun q => c2 q.2.2.2.1)) (IntsAre.nil)))
  · have hC : CondIs 144 (¬ (0 ≤ vd ∧ vd < 4294967296)) := .mk
    refine (show wpAny _ _ (assign _ _ (Value.int 4 _)) _ _ _ from ?_)
    have G9 : [vo, va, vb, vc, vd].getD (Int.toNat 4) 0 = vd := rfl
    have P9 : (256 : Int) ^ Int.toNat 4 = 4294967296 := by decide
    repeat' (first | with_reducible (k_here; (with_reducible show wpAny _ _ (isTrue (Expr.Compare _ _ _ _) _ _) _ _ _); dsimp only) | with_reducible (k_here; (with_reducible show wpAny _ _ (exec (Stmt.If _ _ _ _) _) _ _ _); k_dflt (apply If_cond; (case _C => assumption); (case _F => k_asm); (case _N => k_asm); k_whole; rotate_left; (intro c' h' tk' F' N'; (try dsimp only)); rotate_left; (intro c' h' tk' F' N'; (try dsimp only); (try (have c2 := Classical.not_not.mp c'; obtain ⟨p1, ⟨p2, p3⟩, ⟨p4, p5⟩, ⟨p6, p7⟩⟩ := id c2))); rotate_left)) | with_reducible (k_here; (with_reducible show wpAny _ _ (subscriptTail (Expr.List _ _) _ (Value.ref _) (Value.int _ _)) _ _ _); (with_unfolding_all apply item_litK; (case hl => is_list); (case h0 => decide); (case hhi => decide); (case hx => rfl); (case hs => with_unfolding_all rfl); k_whole)) | (k_unfold; (try dsimp only)) | (k_end; wrow_close) | walk1 | (dsimp only; walk1) | (leave1; walk_say "STEP leave1"; try dsimp only))
    all_goals (try dsimp only)
    all_goals first
      | ((with_reducible show CondAt _ _ _ _ _ _ _ _); refine (CondAt.mk ?_ (by k_asm) (by k_asm) (by (repeat' (first | with_reducible exact subRefl | with_reducible exact subNil | with_reducible assumption | (refine subCons (by (first | with_reducible assumption | (with_reducible (repeat (first | exact List.mem_cons_self | assumption | refine List.mem_cons_of_mem _ ?_)); done) | k_mem)) ?_) | refine subTail ?_)))); simp only [Bool.not_false, Bool.not_true, Bool.not_eq_true', decide_eq_true_eq, decide_eq_false_iff_not, true_iff, Bool.false_eq_true, false_iff, bne_iff_ne, beq_iff_eq, ne_eq] <;> omega)
      | ((with_reducible show REnd _ _ _ _ _ _ _ _ _)
         have c2 : 0 ≤ vd ∧ vd < 4294967296 := Classical.not_not.mp (by with_reducible assumption)
         refine (REnd.mk (by k_asm) (by k_asm) (by (repeat' (first | with_reducible exact subRefl | with_reducible exact subNil | with_reducible assumption | (refine subCons (by (first | with_reducible assumption | (with_reducible (repeat (first | exact List.mem_cons_self | assumption | refine List.mem_cons_of_mem _ ?_)); done) | k_mem)) ?_) | refine subTail ?_))) hne ⟨rfl, rfl, ⟨_, some_int ?h9⟩, arpFit_4 hfit c2⟩)
         (case h9 => (rw [show (256 : Int) ^ Int.toNat 4 = 4294967296 from by decide]; rfl)))
      | ((with_reducible show REnd _ _ _ _ _ _ _ _ _)
         have c2 : ¬ (0 ≤ vd ∧ vd < 4294967296) := by with_reducible assumption
         unfold REnd
         dsimp only
         repeat' (first | (k_unfold; (try dsimp only)) | (k_end; wrow_close) | walk1 | (dsimp only; walk1) | (leave1; walk_say "STEP leave1"; try dsimp only))
         exact con_ret hret _ (by k_asm) (newsDrop (by k_asm) (by first | (refine subTrans ?_ (by with_reducible assumption); (repeat' (first | with_reducible exact subRefl | with_reducible exact subNil | with_reducible assumption | (refine subCons (by (first | with_reducible assumption | (with_reducible (repeat (first | exact List.mem_cons_self | assumption | refine List.mem_cons_of_mem _ ?_)); done) | k_mem)) ?_) | refine subTail ?_)); done) | ((repeat' (first | with_reducible exact subRefl | with_reducible exact subNil | with_reducible assumption | (refine subCons (by (first | with_reducible assumption | (with_reducible (repeat (first | exact List.mem_cons_self | assumption | refine List.mem_cons_of_mem _ ?_)); done) | k_mem)) ?_) | refine subTail ?_)); done))) (.mk (ys := []) (dueArp_no (fun q => c2 q.2.2.2.2)) (IntsAre.nil)))
theorem con_darp (w : World) (l : Addr) (nn : Nat) (t0 t1 t2 t3 t4 : Tok) (vo va vb vc vd : Int) (news : List (Addr × Obj)) (hm : (l, listOf (List.toArray [.int vo t0, .int va t1, .int vb t2, .int vc t3, .int vd t4]) nn) ∈ news) :
    Con w 227 4 news [.ref l] (fun _ => True)
      (RDue (dueArp vo va vb vc vd) (news)) :=
  con_map (subCons hm subRefl) (con_darp0 w l nn t0 t1 t2 t3 t4 vo va vb vc vd news) fun r n' h => by cases h with | mk h1 h2 => exact ⟨_, .mk h1 h2, subCons (.head _) (subCons (.tail _ (.head _)) (subTail (subTail (subTail subRefl))))⟩
end
section -- part H1
set_option maxHeartbeats 8000000

theorem octs_take {ks : List Int} {n : Nat} (h : Octs ks) : Octs (ks.take n) := fun o ho => h o (List.mem_of_mem_take ho)
theorem octs_drop {ks : List Int} {n : Nat} (h : Octs ks) : Octs (ks.drop n) := fun o ho => h o (List.mem_of_mem_drop ho)
theorem whole_from (b : List Int) : ∀ (a : Int), b.foldl (fun n o => n * 256 + o) a = a * 256 ^ b.length + b.foldl (fun n o => n * 256 + o) 0 := by
  induction b with
  | nil => intro a; simp
  | cons o b ih =>
    intro a
    rw [List.foldl_cons, List.foldl_cons, ih (a * 256 + o), ih (0 * 256 + o), List.length_cons, Int.pow_succ, Int.add_mul, Int.zero_mul, Int.zero_add, Int.mul_assoc, Int.mul_comm 256]
    omega
theorem whole_app (a b : List Int) : wholeOf (a ++ b) = wholeOf a * 256 ^ b.length + wholeOf b := by
  unfold wholeOf
  rw [List.foldl_append, whole_from]
theorem take_split (ks : List Int) {a b : Nat} (h : a ≤ b) : ks.take b = ks.take a ++ (ks.drop a).take (b - a) := by
  rw [← List.take_add, Nat.add_sub_cancel' h]
theorem whole_split {ks : List Int} {a b n : Nat} (h1 : a ≤ b) (h2 : b ≤ n) (h3 : n ≤ ks.length) :
    wholeOf (ks.take n) = (wholeOf (ks.take a) * 256 ^ (b - a) + wholeOf ((ks.drop a).take (b - a))) * 256 ^ (n - b) + wholeOf ((ks.drop b).take (n - b)) := by
  rw [take_split ks h2, whole_app, take_split ks h1, whole_app]
  have e1 : ((ks.drop b).take (n - b)).length = n - b := by rw [List.length_take, List.length_drop]; omega
  have e2 : ((ks.drop a).take (b - a)).length = b - a := by rw [List.length_take, List.length_drop]; omega
  rw [e1, e2]
theorem part_in {ks : List Int} (ho : Octs ks) {a n : Nat} (h : a + n ≤ ks.length) : 0 ≤ wholeOf ((ks.drop a).take n) ∧ wholeOf ((ks.drop a).take n) < 256 ^ n := by
  have := wholeOf_lt _ (octs_take (n := n) (octs_drop (n := a) ho))
  rwa [show ((ks.drop a).take n).length = n by rw [List.length_take, List.length_drop]; omega] at this
theorem pick_mid {W k o r p m : Int} (h : W = (k * m + o) * p + r) (hr : 0 ≤ r ∧ r < p) (ho : 0 ≤ o ∧ o < m) : (W.fdiv p).fmod m = o := by
  have hp : 0 < p := by omega
  have hm : 0 < m := by omega
  rw [Int.fdiv_eq_ediv_of_nonneg _ (Int.le_of_lt hp), Int.fmod_eq_emod_of_nonneg _ (Int.le_of_lt hm), h, Int.add_comm, Int.add_mul_ediv_right _ _ (Int.ne_of_gt hp), Int.ediv_eq_zero_of_lt hr.1 hr.2, Int.zero_add, Int.add_comm, Int.add_mul_emod_self_right, Int.emod_eq_of_lt ho.1 ho.2]
theorem pick_top {W k r p : Int} (h : W = k * p + r) (hr : 0 ≤ r ∧ r < p) : W.fdiv p = k := by
  have hp : 0 < p := by omega
  rw [Int.fdiv_eq_ediv_of_nonneg _ (Int.le_of_lt hp), h, Int.add_comm, Int.add_mul_ediv_right _ _ (Int.ne_of_gt hp), Int.ediv_eq_zero_of_lt hr.1 hr.2, Int.zero_add]
theorem pick_low {W k r p : Int} (h : W = k * p + r) (hr : 0 ≤ r ∧ r < p) : W.fmod p = r := by
  have hp : 0 < p := by omega
  rw [Int.fmod_eq_emod_of_nonneg _ (Int.le_of_lt hp), h, Int.add_comm, Int.add_mul_emod_self_right, Int.emod_eq_of_lt hr.1 hr.2]
theorem mid {ks : List Int} (ho : Octs ks) (hl : 28 ≤ ks.length) {a b : Nat} {lo hi p m : Int} (e1 : lo = a) (e2 : hi = b) (h1 : a ≤ b) (h2 : b ≤ 28) (hp : (256 : Int) ^ (28 - b) = p) (hm : (256 : Int) ^ (b - a) = m) : ((wholeOf (ks.take 28)).fdiv p).fmod m = wholeOf (slc ks lo hi) := by
  rw [slc_eq (a := a) (n := b - a) e1 (by omega) (by omega), ← hp, ← hm]
  exact pick_mid (whole_split h1 h2 hl) (part_in ho (by omega)) (part_in ho (by omega))
theorem msg_kind {ks : List Int} (ho : Octs ks) (hl : 28 ≤ ks.length) : (wholeOf (ks.take 28)).fdiv (2 ^ Int.toNat 176) = wholeOf (slc ks 0 6) := by
  rw [slc_eq (lo := 0) (hi := 6) (a := 0) (n := 6) rfl rfl (by omega)]
  have q := whole_split (ks := ks) (a := 0) (b := 6) (n := 28) (by omega) (by omega) hl
  have e : (256 : Int) ^ (28 - 6) = 2 ^ Int.toNat 176 := by decide
  rw [e] at q
  have r := part_in ho (a := 6) (n := 28 - 6) (by omega)
  rw [e] at r
  refine pick_top (q.trans ?_) r
  rw [show wholeOf (ks.take 0) = 0 by rw [List.take_zero]; rfl, Int.zero_mul, Int.zero_add]
theorem msg_low {ks : List Int} (ho : Octs ks) (hl : 28 ≤ ks.length) : (wholeOf (ks.take 28)).fmod (2 ^ Int.toNat 32) = wholeOf (slc ks 24 28) := by
  rw [slc_eq (lo := 24) (hi := 28) (a := 24) (n := 4) rfl rfl (by omega)]
  have q := whole_split (ks := ks) (a := 0) (b := 24) (n := 28) (by omega) (by omega) hl
  have e : (256 : Int) ^ (28 - 24) = 2 ^ Int.toNat 32 := by decide
  rw [e] at q
  have r := part_in ho (a := 24) (n := 28 - 24) (by omega)
  rw [e] at r
  exact pick_low q r
theorem pow2_py {x : Int} {e : Int} (h : e.toNat ≤ 700) : Builtin.divisionGoesByPylong x (2 ^ e.toNat) = false := by
  refine PyProof.noPylong_of_log2 ?_
  have h1 : ((2 : Int) ^ e.toNat).natAbs = 2 ^ e.toNat := by rw [Int.natAbs_pow]; rfl
  rw [h1]
  have h2 : (2 : Nat) ^ e.toNat ≠ 0 := Nat.ne_of_gt (Nat.pow_pos (by decide))
  refine (Nat.log2_lt h2).mpr ?_
  exact Nat.pow_lt_pow_right (by decide) (by omega)
/-- octets and their number -/
theorem row_whole : ∀ {l : List Int}, Octs l → rowOf (wholeOf l) l.length = l := by
  intro l
  have H : ∀ (n : Nat) (l : List Int), l.length = n → Octs l → rowOf (wholeOf l) n = l := by
    intro n
    induction n with
    | zero => intro l hl _; rw [List.length_eq_zero_iff.mp hl]; rfl
    | succ n ih =>
      intro l hl ho
      have hne : l ≠ [] := fun q => by rw [q] at hl; cases hl
      have e := List.dropLast_concat_getLast hne
      have ho2 : Octs l.dropLast := fun o h => ho o (List.dropLast_subset _ h)
      have hx := ho _ (List.getLast_mem hne)
      have r1 := row_app (wholeOf l.dropLast) (l.getLast hne) n 1 hx.1 (by simpa using hx.2)
      have i := ih l.dropLast (by rw [List.length_dropLast, hl]; rfl) ho2
      have w := wholeOf_snoc l.dropLast (l.getLast hne)
      rw [e] at w
      rw [w]
      have s1 : rowOf (l.getLast hne) 1 = [l.getLast hne] := by
        unfold rowOf
        show [l.getLast hne / 256 ^ 0 % 256] = _
        rw [Int.pow_zero, Int.ediv_one, Int.emod_eq_of_lt hx.1 hx.2]
      have r2 : rowOf (wholeOf l.dropLast * 256 + l.getLast hne) (n + 1) = rowOf (wholeOf l.dropLast) n ++ rowOf (l.getLast hne) 1 := r1
      rw [r2, s1, i, e]
  exact fun h => H _ _ rfl h
theorem tagNum_at {ks : List Int} (ho : Octs ks) (j : Nat) : tagNum (tagAt ks j) = lowAt ks j := by
  have := low_in ho j
  unfold tagNum tagAt
  show lowAt ks j / 8192 * 8192 + lowAt ks j / 4096 % 2 * 4096 + lowAt ks j % 4096 = lowAt ks j
  omega
theorem tagOk_at {ks : List Int} (ho : Octs ks) {j : Nat} (h : isTagK (wordAt ks j)) : tagOk (tagAt ks j) := by
  have := low_in ho j
  refine ⟨h, ?_, ?_, ?_⟩
  · show 0 ≤ lowAt ks j / 8192 ∧ lowAt ks j / 8192 ≤ 7
    omega
  · show 0 ≤ lowAt ks j / 4096 % 2 ∧ lowAt ks j / 4096 % 2 ≤ 1
    omega
  · show 0 ≤ lowAt ks j % 4096 ∧ lowAt ks j % 4096 ≤ 4095
    omega
theorem frame_whole {ks : List Int} (ho : Octs ks) : ∀ n : Nat, 12 + 4 * n ≤ ks.length → frameWhole (wholeOf (slc ks 0 6)) (wholeOf (slc ks 6 12)) (headTags ks n) = wholeOf (ks.take (12 + 4 * n))
  | 0, h => by
    rw [slc_eq (lo := 0) (hi := 6) (a := 0) (n := 6) rfl rfl (by omega), slc_eq (lo := 6) (hi := 12) (a := 6) (n := 6) rfl rfl (by omega)]
    have q := whole_split (ks := ks) (a := 0) (b := 6) (n := 12) (by omega) (by omega) (by omega)
    rw [show wholeOf (ks.take 0) = 0 by rw [List.take_zero]; rfl, Int.zero_mul, Int.zero_add] at q
    exact q.symm
  | n + 1, h => by
    rw [headTags_snoc, frameWhole_snoc, frame_whole ho n (by omega), tagNum_at ho]
    have q := whole_split (ks := ks) (a := 12 + 4 * n) (b := 12 + 4 * n + 2) (n := 12 + 4 * (n + 1)) (by omega) (by omega) h
    rw [show 12 + 4 * n + 2 - (12 + 4 * n) = 2 by omega, show 12 + 4 * (n + 1) - (12 + 4 * n + 2) = 2 by omega, whole_two (by omega), whole_two (by omega)] at q
    rw [q]
    have e1 : 256 * ks.getD (12 + 4 * n) 0 + ks.getD (12 + 4 * n + 1) 0 = wordAt ks n := by unfold wordAt oct; rw [show 13 + 4 * n = 12 + 4 * n + 1 by omega]
    have e2 : 256 * ks.getD (12 + 4 * n + 2) 0 + ks.getD (12 + 4 * n + 2 + 1) 0 = lowAt ks n := by unfold lowAt oct; rw [show 14 + 4 * n = 12 + 4 * n + 2 by omega, show 15 + 4 * n = 12 + 4 * n + 2 + 1 by omega]
    rw [e1, e2]
    show wholeOf (ks.take (12 + 4 * n)) * 4294967296 + (wordAt ks n * 65536 + lowAt ks n) = (wholeOf (ks.take (12 + 4 * n)) * 65536 + wordAt ks n) * 65536 + lowAt ks n
    omega
/-- what was read is written as it was -/
theorem head_back {ks : List Int} (ho : Octs ks) {n : Nat} (h : HeadIs ks (some n)) : dueFrame (wholeOf (slc ks 0 6)) (wholeOf (slc ks 6 12)) (headTags ks n) (wordAt ks n) = (Str.ofString "", ks.take (14 + 4 * n)) := by
  cases h with
  | found n h1 h2 h3 =>
    have hl : 14 + 4 * n ≤ ks.length := by unfold numW at h1; omega
    have hk := word_in ho n
    have a1 := part_in ho (a := 0) (n := 6) (by omega)
    have a2 := part_in ho (a := 6) (n := 6) (by omega)
    have p6 : (256 : Int) ^ 6 = 281474976710656 := by decide
    have ha : addrOk (wholeOf (slc ks 0 6)) ∧ addrOk (wholeOf (slc ks 6 12)) := by
      rw [slc_eq (lo := 0) (hi := 6) (a := 0) (n := 6) rfl rfl (by omega), slc_eq (lo := 6) (hi := 12) (a := 6) (n := 6) rfl rfl (by omega)]
      unfold addrOk
      rw [← p6]
      exact ⟨a1, a2⟩
    rw [dueFrame_ok ha (fun g hg => ?_) ⟨hk.1, by omega⟩, headTags_len, frame_whole ho n (by omega)]
    · have q := whole_split (ks := ks) (a := 0) (b := 12 + 4 * n) (n := 14 + 4 * n) (by omega) (by omega) hl
      rw [show wholeOf (ks.take 0) = 0 by rw [List.take_zero]; rfl, Int.zero_mul, Int.zero_add, List.drop_zero, Nat.sub_zero, show 14 + 4 * n - (12 + 4 * n) = 2 by omega, whole_two (by omega)] at q
      have e1 : 256 * ks.getD (12 + 4 * n) 0 + ks.getD (12 + 4 * n + 1) 0 = wordAt ks n := by unfold wordAt oct; rw [show 13 + 4 * n = 12 + 4 * n + 1 by omega]
      rw [e1] at q
      have q2 : wholeOf (ks.take (12 + 4 * n)) * 65536 + wordAt ks n = wholeOf (ks.take (14 + 4 * n)) := q.symm
      rw [q2]
      have r := row_whole (octs_take (n := 14 + 4 * n) ho)
      rw [List.length_take, Nat.min_eq_left hl] at r
      rw [r]
    · unfold headTags at hg
      obtain ⟨j, hj, rfl⟩ := List.mem_map.mp hg
      exact tagOk_at ho (h2 j (List.mem_range.mp hj))
end

section -- part G16
set_option maxHeartbeats 8000000

theorem dueMsg_ok' {ks : List Int} (ho : Octs ks) (h : ¬ ks.length < 28) (g : ¬ wholeOf (slc ks 0 6) ≠ 4429186564) : dueMsg ks = (Str.ofString "", [((wholeOf (ks.take 28)).fdiv (2 ^ Int.toNat 160)).fmod 65536, ((wholeOf (ks.take 28)).fdiv (2 ^ Int.toNat 112)).fmod (2 ^ Int.toNat 48), ((wholeOf (ks.take 28)).fdiv (2 ^ Int.toNat 80)).fmod (2 ^ Int.toNat 32), ((wholeOf (ks.take 28)).fdiv (2 ^ Int.toNat 32)).fmod (2 ^ Int.toNat 48), (wholeOf (ks.take 28)).fmod (2 ^ Int.toNat 32)]) := by
  have hl : 28 ≤ ks.length := by omega
  rw [dueMsg_ok h g, mid (lo := 6) (hi := 8) (a := 6) (b := 8) ho hl rfl rfl (by omega) (by omega) (by decide) (by decide), mid (lo := 8) (hi := 14) (a := 8) (b := 14) ho hl rfl rfl (by omega) (by omega) (by decide) (by decide), mid (lo := 14) (hi := 18) (a := 14) (b := 18) ho hl rfl rfl (by omega) (by omega) (by decide) (by decide), mid (lo := 18) (hi := 24) (a := 18) (b := 24) ho hl rfl rfl (by omega) (by omega) (by decide) (by decide), msg_low ho hl]







theorem con_dmsg (w : World) (l : Addr) (vs : List Value) (nn : Nat) (ks : List Int) (news : List (Addr × Obj)) (hm : (l, listOf vs.toArray nn) ∈ news) (hi : IntsAre vs ks) (ho : Octs ks) (hz : ks.length ≤ 1000) :
    Con w 248 3 news [.ref l] (fun _ => True)
      (RIn (dueMsg ks) news) := by
  have hl := hi.length
  have hC1 : CondIs 156 (ks.length < 28) := .mk
  have hC2 : CondIs 159 (wholeOf (slc ks 0 6) ≠ 4429186564) := .mk
  unfold Con
  k_fill
  intro mean mg mb dp un gd cn cs a ccd cl outer A₀ base h₀ L m s Q E B F X N T hk hpre hd hu hret
  refine wpAny_call ?_
  k_dflt (first | cell_enter | (refine' code_defC ?k1 ?k2 ?k3 ?k4 ?k5 ?kA ?kF ?kK ?k6 ?k7 ?k8 ?k9 ?kB ?kD ?_ ?c2 ?c3 ?c4; (case kA => exact rfl); (case kF => exact rfl); (case kK => assumption); (case k1 => k_asm); (case k2 => k_asm); (case k3 => k_asm); (case k4 => k_asm); (case k5 => k_asm); (case k6 => k_is); (case k7 => k_is); (case k8 => ktr_room); (case k9 => exact BindsTo.of_eq rfl); (case kB => exact rfl); (case kD => decide +kernel); (case c2 => exact rfl); (case c3 => exact rfl); (case c4 => exact rfl); k_whole; intro g' L' h' tk' cells' FG' F' N' Y' B' X' T' l1; (try k_lt l1); k_cells Y'; (try simp only [List.cons_append, List.nil_append] at N'); (try dsimp only); (try k_lift B'); (try k_fold)))
  repeat' (first | with_reducible (k_here; (with_reducible show wpAny _ _ (binaryOp Operator.Mod _ _) _ _ _); k_dflt (apply mod_int; (case hb => first | with_reducible exact (by decide : (65536 : Int) ≠ 0) | with_reducible exact Int.ne_of_gt (Int.pow_pos (by decide))))) | with_reducible (k_here; (with_reducible show wpAny _ _ (binaryOp Operator.Pow _ _) _ _ _); k_dflt (apply pow_int_small; (case hn => decide); (case hn2 => decide); (case ha => decide))) | with_reducible (k_here; (with_reducible show wpAny _ _ (binaryOp Operator.FloorDiv (Value.int _ _) (Value.int (2 ^ Int.toNat _) _)) _ _ _); k_dflt (apply floordiv_int; (case hb => exact Int.ne_of_gt (Int.pow_pos (by decide))); (case hp => exact Or.inl (pow2_py (by decide))))) | with_reducible (k_here; (with_reducible show wpAny _ _ (call (Value.ref 194) _) _ _ _); k_dflt (apply con_whole; ((case cN => k_asm); (case cF => k_asm); (case cB => k_asm); (case cX => k_asm); (case cT => k_asm); (try ((case cXB => assumption); (case cTB => assumption); (case cKD => assumption); (case cT0 => first | assumption | exact KtsTurn.refl))); (case cK => first | exact rfl | assumption); (try case hm => (first | kbu_src | k_mem)); (try case hx => (first | kbu_src | k_mem)); (try case hxd => (first | kbu_src | k_mem)); (try case hi => with_reducible assumption); (try case ho => (first | (first | with_reducible assumption | exact octs_take (by with_reducible assumption) | exact octs_drop (by with_reducible assumption) | exact octs_take (octs_drop (by with_reducible assumption))) | (with_reducible assumption))); (try case hdat => (first | with_reducible assumption | (refine DatAll.mono ?_ (by with_reducible assumption); (repeat' (first | with_reducible exact subRefl | with_reducible exact subNil | with_reducible assumption | (refine subCons ?_ ?_; focus kbu_src) | refine subTail ?_))))); (try case hz => (first | ((simp only [List.length_take, List.length_drop, List.length_append, List.length_replicate]; omega)) | (first | omega | exact ⟨by omega, by omega⟩))); (case cP => (first | (refine ⟨by with_reducible assumption, ?_⟩; (refine slc_len (n := 8) ?_ ?_ ?_ <;> omega)) | (first | trivial | decide | omega | exact ⟨by decide, by decide⟩ | exact ⟨by with_reducible assumption, by with_reducible assumption, by omega, by omega⟩))); (case cD => ktr_room); (case cU => ktr_units)); (first | (refine RFive.out ?_; intros; (try dsimp only); (try k_sweep)) | (refine ROct.out ?_; intros; (try dsimp only); (try k_sweep)) | ((first | refine RExc.out ?_ | refine RInt.out ?_ | refine RVal.out ?_ | refine RLst.out ?_ | refine ROcts.out ?_); intros; (try dsimp only); (try k_sweep))))) | with_reducible (k_here; (with_reducible show wpAny _ _ (call (Value.builtin "len") [Value.ref _]) _ _ _); k_dflt (apply lenN; (case N => k_asm); (case hm => (first | kbu_src | k_mem)); (case hz => omega); k_whole)) | with_reducible (k_here; (with_reducible show wpAny _ _ (isTrue (Expr.Compare _ _ _ _) _ _) _ _ _); dsimp only) | with_reducible (k_here; (with_reducible show wpAny _ _ (exec (Stmt.If _ _ _ _) _) _ _ _); k_dflt (apply If_cond; (case _C => assumption); (case _F => k_asm); (case _N => k_asm); k_whole; rotate_left; (intro c' h' tk' F' N'; (try dsimp only)); rotate_left; (intro c' h' tk' F' N'; (try dsimp only); (try (have c2 := Classical.not_not.mp c'; obtain ⟨p1, ⟨p2, p3⟩, ⟨p4, p5⟩, ⟨p6, p7⟩⟩ := id c2))); rotate_left)) | (k_unfold; (try dsimp only)) | (k_end; wrow_close) | walk1 | (dsimp only; walk1) | (leave1; walk_say "STEP leave1"; try dsimp only))
  all_goals (try dsimp only)
  all_goals first
    | ((with_reducible show CondAt _ _ _ _ _ _ _ _); refine (CondAt.mk ?_ (by k_asm) (by k_asm) (by (repeat' (first | with_reducible exact subRefl | with_reducible exact subNil | with_reducible assumption | (refine subCons ?_ ?_; focus (first | with_reducible assumption | (with_reducible (repeat (first | exact List.mem_cons_self | assumption | refine List.mem_cons_of_mem _ ?_)); done))) | refine subTail ?_)))); simp only [Bool.not_false, Bool.not_true, Bool.not_eq_true', decide_eq_true_eq, decide_eq_false_iff_not, true_iff, Bool.false_eq_true, false_iff, bne_iff_ne, beq_iff_eq, ne_eq] <;> omega)
    | ((with_reducible show CondAt _ _ _ _ _ _ _ _); refine (CondAt.mk ?_ (by k_asm) (by k_asm) (by (repeat' (first | with_reducible exact subRefl | with_reducible exact subNil | with_reducible assumption | (refine subCons ?_ ?_; focus (first | with_reducible assumption | (with_reducible (repeat (first | exact List.mem_cons_self | assumption | refine List.mem_cons_of_mem _ ?_)); done))) | refine subTail ?_)))); rw [msg_kind ho (by omega)]; exact bne_iff_ne)
    | exact con_ret hret _ (by k_asm) (by k_asm) (.mk (ys := []) (by (repeat' (first | with_reducible exact subRefl | with_reducible exact subNil | with_reducible assumption | (refine subCons ?_ ?_; focus (first | with_reducible assumption | (with_reducible (repeat (first | exact List.mem_cons_self | assumption | refine List.mem_cons_of_mem _ ?_)); done))) | refine subTail ?_))) (by (first | with_reducible assumption | (with_reducible (repeat (first | exact List.mem_cons_self | assumption | refine List.mem_cons_of_mem _ ?_)); done) | k_mem)) (by (first | with_reducible assumption | (with_reducible (repeat (first | exact List.mem_cons_self | assumption | refine List.mem_cons_of_mem _ ?_)); done) | k_mem)) (dueMsg_short (by with_reducible assumption)) (IntsAre.nil))
    | exact con_ret hret _ (by k_asm) (by k_asm) (.mk (ys := []) (by (repeat' (first | with_reducible exact subRefl | with_reducible exact subNil | with_reducible assumption | (refine subCons ?_ ?_; focus (first | with_reducible assumption | (with_reducible (repeat (first | exact List.mem_cons_self | assumption | refine List.mem_cons_of_mem _ ?_)); done))) | refine subTail ?_))) (by (first | with_reducible assumption | (with_reducible (repeat (first | exact List.mem_cons_self | assumption | refine List.mem_cons_of_mem _ ?_)); done) | k_mem)) (by (first | with_reducible assumption | (with_reducible (repeat (first | exact List.mem_cons_self | assumption | refine List.mem_cons_of_mem _ ?_)); done) | k_mem)) (dueMsg_kinds (by with_reducible assumption) (by with_reducible assumption)) (IntsAre.nil))
    | exact con_ret hret _ (by k_asm) (by k_asm) (.mk (ys := [_, _, _, _, _]) (by (repeat' (first | with_reducible exact subRefl | with_reducible exact subNil | with_reducible assumption | (refine subCons ?_ ?_; focus (first | with_reducible assumption | (with_reducible (repeat (first | exact List.mem_cons_self | assumption | refine List.mem_cons_of_mem _ ?_)); done))) | refine subTail ?_))) (by (first | with_reducible assumption | (with_reducible (repeat (first | exact List.mem_cons_self | assumption | refine List.mem_cons_of_mem _ ?_)); done) | k_mem)) (by (first | with_reducible assumption | (with_reducible (repeat (first | exact List.mem_cons_self | assumption | refine List.mem_cons_of_mem _ ?_)); done) | k_mem)) (dueMsg_ok' ho (by with_reducible assumption) (by with_reducible assumption)) (IntsAre.cons _ _ (IntsAre.cons _ _ (IntsAre.cons _ _ (IntsAre.cons _ _ (IntsAre.cons _ _ IntsAre.nil))))))
end
section -- part G17
set_option maxHeartbeats 8000000

def wordsOf (ks : List Int) : List Int := (List.range (numW ks)).map (wordAt ks)
theorem words_len (ks : List Int) : (wordsOf ks).length = numW ks := by simp [wordsOf]
theorem words_get {ks : List Int} {i : Nat} (h : i < numW ks) : (wordsOf ks).getD i 0 = wordAt ks i := by
  rw [getD_lt (by rw [words_len]; exact h)]
  simp [wordsOf]
theorem words_walk {ks : List Int} : List.map (fun k' : Int => 256 * ks.getD (12 + 4 * k').toNat 0 + ks.getD (13 + 4 * k').toNat 0) (rangeKs 0 (((ks.length : Int) - 10).fdiv 4 - 0).toNat) = wordsOf ks := by
  unfold wordsOf rangeKs
  rw [List.map_map]
  have e : (((ks.length : Int) - 10).fdiv 4 - 0).toNat = numW ks := by
    unfold numW
    rw [Int.fdiv_eq_ediv_of_nonneg _ (by decide)]
    omega
  rw [e]
  refine List.map_congr_left fun k hk => ?_
  simp only [Function.comp, wordAt, oct]
  rw [show (12 + 4 * (0 + (k : Int))).toNat = 12 + 4 * k by omega, show (13 + 4 * (0 + (k : Int))).toNat = 13 + 4 * k by omega]
theorem free_one {m m₀ : Str → Option Value} {a : Str} {va : Value} (h : ∀ y, y ≠ a → m y = m₀ y) (ha : m a = some va) : m = fun y => if y = a then some va else m₀ y := by
  funext y
  by_cases q : y = a
  · rw [if_pos q, q, ha]
  · rw [if_neg q, h y q]
theorem words_yes {ks : List Int} {i : Nat} (hi : i < numW ks) (h : ([33024, 34984].any fun x : Int => x == (wordsOf ks).getD (i : Int).toNat 0) = true) : isTagK (wordAt ks i) := by
  rw [Int.toNat_natCast, words_get hi] at h
  exact tagK_any.mp h
theorem words_no {ks : List Int} {i : Nat} (hi : i < numW ks) (h : ([33024, 34984].any fun x : Int => x == (wordsOf ks).getD (i : Int).toNat 0) = false) : ¬ isTagK (wordAt ks i) := by
  rw [Int.toNat_natCast, words_get hi] at h
  exact fun q => by rw [tagK_any.mpr q] at h; cases h
theorem free_two {m m₀ : Str → Option Value} {a b : Str} (h : ∀ y, y ≠ a → y ≠ b → m y = m₀ y) : ∃ va vb, m = fun y => if y = a then va else if y = b then vb else m₀ y := by
  refine ⟨m a, m b, funext fun y => ?_⟩
  by_cases q : y = a
  · rw [if_pos q, q]
  · rw [if_neg q]
    by_cases q2 : y = b
    · rw [if_pos q2, q2]
    · rw [if_neg q2, h y q q2]
theorem all_snoc {P : Nat → Prop} {i : Nat} (h : ∀ j < i, P j) (g : P i) : ∀ j < i + 1, P j := fun j hj => by
  rcases Nat.lt_succ_iff_lt_or_eq.mp hj with q | rfl
  · exact h j q
  · exact g
theorem tag_due {ks : List Int} (ho : Octs ks) {j : Nat} (hj : j < numW ks) : tagDat (tagAt ks j) = Dat.tuple [.int ((wordsOf ks).getD (j : Int).toNat 0), .int ((256 * ks.getD (14 + 4 * (j : Int)).toNat 0 + ks.getD (15 + 4 * (j : Int)).toNat 0).fdiv 8192), .int (((256 * ks.getD (14 + 4 * (j : Int)).toNat 0 + ks.getD (15 + 4 * (j : Int)).toNat 0).fdiv 4096).fmod 2), .int ((256 * ks.getD (14 + 4 * (j : Int)).toNat 0 + ks.getD (15 + 4 * (j : Int)).toNat 0).fmod 4096)] := by
  rw [Int.toNat_natCast, words_get hj, show (14 + 4 * (j : Int)).toNat = 14 + 4 * j by omega, show (15 + 4 * (j : Int)).toNat = 15 + 4 * j by omega]
  rw [Int.fdiv_eq_ediv_of_nonneg _ (by decide), Int.fdiv_eq_ediv_of_nonneg _ (by decide), Int.fmod_eq_emod_of_nonneg _ (by decide), Int.fmod_eq_emod_of_nonneg _ (by decide)]
  rfl
/-- the tags' list while it grows -/
def DueL (ks : List Int) (lt : Addr) (nx1 : List (Addr × Obj)) (i : Nat) (nx : List (Addr × Obj)) : Prop :=
  ∃ (vt : List Value) (c : Nat) (own : List (Addr × Obj)), nx = (lt, listOf (List.toArray vt) c) :: (own ++ nx1) ∧ (∀ p ∈ own ++ nx1, p.1 ≠ lt) ∧ vt.length = i ∧ DatAll (own ++ nx1) vt ((headTags ks i).map tagDat)
theorem swap0 {a b : List (Addr × Obj)} {x : Addr} (h : ∀ p ∈ a ++ b, p.1 ≠ x) : ∀ p ∈ b ++ a, p.1 ≠ x := fun p hp => h p (List.mem_append.mpr (List.mem_append.mp hp).symm)
theorem swap1 {h₀ h : Heap} {L : Addr} {q : Addr × Obj} {a b : List (Addr × Obj)} (N : News h₀ L h (q :: (a ++ b))) : News h₀ L h (q :: (b ++ a)) := newsDrop N fun p hp => by
  simp only [List.mem_cons, List.mem_append] at hp ⊢
  rcases hp with hp | hp | hp
  · exact .inl hp
  · exact .inr (.inr hp)
  · exact .inr (.inl hp)
theorem swap2 {h₀ h : Heap} {L : Addr} {q r : Addr × Obj} {a b : List (Addr × Obj)} (N : News h₀ L h (r :: q :: (a ++ b))) : News h₀ L h (r :: q :: (b ++ a)) := newsDrop N fun p hp => by
  simp only [List.mem_cons, List.mem_append] at hp ⊢
  rcases hp with hp | hp | hp | hp
  · exact .inl hp
  · exact .inr (.inl hp)
  · exact .inr (.inr (.inr hp))
  · exact .inr (.inr (.inl hp))
theorem ints_item : ∀ {vs : List Value} {ks : List Int} {k : Nat}, IntsAre vs ks → k < vs.length → ∃ t, vs[k]? = some (Value.int (ks.getD k 0) t)
  | _, _, _, .nil, h => absurd h (Nat.not_lt_zero _)
  | _, _, 0, .cons n t r, _ => ⟨t, rfl⟩
  | _, _, k + 1, .cons n t r, h => by
    obtain ⟨t', e⟩ := ints_item (k := k) r (Nat.lt_of_succ_lt_succ h)
    exact ⟨t', by simpa using e⟩
theorem item_ints {prog : Program} {w : World} {A : Around} {E : Value → Shared → Prop} {s : Shared} {h₀ : Heap} {L l : Addr} {news : List (Addr × Obj)} {value slice : PySem.Expr} {vs : List Value} {ks : List Int} {n : Nat} {k : Int} {u : Tok} {Q : Value → Shared → Prop}
    (N : News h₀ L s.heap news) (hm : (l, listOf (List.toArray vs) n) ∈ news) (hi : IntsAre vs ks) (h0 : 0 ≤ k) (h1 : k < vs.length) (h2 : k < 2 ^ 63) (h : ∀ t, Q (.int (ks.getD k.toNat 0) t) s)
    (hs : subscripted slice false (.ref l) (.int k u) = operate [.ref l, .int k u] (getItem (.ref l) (.int k u)) := by with_unfolding_all rfl) :
    wpAny (model prog w) A (subscriptTail value slice (.ref l) (.int k u)) Q E s := by
  have hlt : k.toNat < vs.length := by omega
  obtain ⟨t, e⟩ := ints_item hi hlt
  have hL : s.heap.IsList l vs.toArray := ⟨_, N.get hm, rfl, _, rfl⟩
  exact tail_any hL.typeIs slot_list_getitem.lookup (wpAny_getItem_list hL h0 h2 (by simpa using e) (h t)) hs
theorem subAppR {a b : List (Addr × Obj)} : ∀ q ∈ b, q ∈ a ++ b := fun q h => List.mem_append_right _ h
theorem subApp {a b c : List (Addr × Obj)} (h : ∀ q ∈ a, q ∈ c) (g : ∀ q ∈ b, q ∈ c) : ∀ q ∈ a ++ b, q ∈ c := fun q hq => (List.mem_append.mp hq).elim (h q) (g q)
theorem due_end {h₀ h : Heap} {L I lt T : Addr} {s : Shared} {m m₀ : Str → Option Value} {Q : Flow → Shared → Prop} {ks : List Int} {own nx1 R : List (Addr × Obj)} {j tk c : Nat} {vt : List Value} {t4 t5 t6 t7 : Tok} {oI oT : Obj} (ho : Octs ks) (hj : j < numW ks)
    (F : Fr h₀ L h m) (hoT : oT = { cls := .type "tuple", data := .seq #[.int ((wordsOf ks).getD (j : Int).toNat 0) t4, .int ((256 * ks.getD (14 + 4 * (j : Int)).toNat 0 + ks.getD (15 + 4 * (j : Int)).toNat 0).fdiv 8192) t5, .int (((256 * ks.getD (14 + 4 * (j : Int)).toNat 0 + ks.getD (15 + 4 * (j : Int)).toNat 0).fdiv 4096).fmod 2) t6, .int ((256 * ks.getD (14 + 4 * (j : Int)).toNat 0 + ks.getD (15 + 4 * (j : Int)).toNat 0).fmod 4096) t7] })
    (N : News h₀ L h ((T, oT) :: (I, oI) :: (lt, listOf (vt.toArray.push (.ref T)) (c + 1)) :: R)) (hR : ∀ q ∈ own ++ nx1, q ∈ R) (hTI : T ≠ I) (hTl : T ≠ lt) (hneI : ∀ p ∈ (lt, listOf (List.toArray vt) c) :: (own ++ nx1), p.1 ≠ I) (hne : ∀ p ∈ own ++ nx1, p.1 ≠ lt) (hvl : vt.length = j) (hdat : DatAll (own ++ nx1) vt ((headTags ks j).map tagDat)) (hm : ∀ y, y ≠ Str.ofString "k" → y ≠ Str.ofString "low" → m y = m₀ y) :
    REnd h₀ L I oI (fun m nx => (∀ y, y ≠ Str.ofString "k" → y ≠ Str.ofString "low" → m y = m₀ y) ∧ DueL ks lt nx1 (j + 1) nx) s Q .next { s with heap := h, toks := tk } := by
  rw [List.push_toArray] at N
  have hI := List.forall_mem_cons.mp hneI
  refine ⟨h, tk, m, _, (lt, listOf (List.toArray (vt ++ [.ref T])) (c + 1)) :: ((T, oT) :: own ++ nx1), rfl, F, N, fun p hp => ?_, List.forall_mem_cons.mpr ⟨hI.1, List.forall_mem_cons.mpr ⟨hTI, hI.2⟩⟩, hm, vt ++ [.ref T], c + 1, (T, oT) :: own, rfl, List.forall_mem_cons.mpr ⟨hTl, hne⟩, by rw [List.length_append, hvl]; rfl, ?_⟩
  · rcases List.mem_cons.mp hp with rfl | hp
    · exact .tail _ (.head _)
    · rcases List.mem_cons.mp hp with rfl | hp
      · exact .tail _ (.tail _ (.head _))
      · rcases List.mem_cons.mp hp with rfl | hp
        · exact .head _
        · exact .tail _ (.tail _ (.tail _ (hR p hp)))
  · rw [headTags_snoc, List.map_append]
    refine datAll_snoc (hdat.mono fun p hp => .tail _ hp) ?_
    show DatIn _ _ (tagDat (tagAt ks j))
    rw [tag_due ho hj, hoT]
    exact .tuple (.head _) (.cons (.int _ _) (.cons (.int _ _) (.cons (.int _ _) (.cons (.int _ _) .nil))))
theorem subAppL {a b : List (Addr × Obj)} : ∀ q ∈ a, q ∈ a ++ b := fun q h => List.mem_append_left _ h








local macro_rules | `(tactic| k_all) => `(tactic| with_reducible assumption)


theorem con_dhead (w : World) (l : Addr) (vs : List Value) (nn : Nat) (ks : List Int) (news : List (Addr × Obj)) (hi : IntsAre vs ks) (ho : Octs ks) (hz : ks.length ≤ 1000) :
    Con w 213 3 ((l, listOf vs.toArray nn) :: news) [.ref l] (fun _ => True)
      (fun r n' => (∀ q ∈ (l, listOf vs.toArray nn) :: news, q ∈ n') ∧ ∃ o, HeadIs ks o ∧ HeadRep n' r ks o) := by
  have hl := hi.length
  unfold Con
  k_fill
  intro mean mg mb dp un gd cn cs a ccd cl outer A₀ base h₀ L m s Q E B F X N T hk hpre hd hu hret
  refine wpAny_call ?_
  k_dflt (first | cell_enter | (refine' code_defC ?k1 ?k2 ?k3 ?k4 ?k5 ?kA ?kF ?kK ?k6 ?k7 ?k8 ?k9 ?kB ?kD ?_ ?c2 ?c3 ?c4; (case kA => exact rfl); (case kF => exact rfl); (case kK => assumption); (case k1 => k_asm); (case k2 => k_asm); (case k3 => k_asm); (case k4 => k_asm); (case k5 => k_asm); (case k6 => k_is); (case k7 => k_is); (case k8 => ktr_room); (case k9 => exact BindsTo.of_eq rfl); (case kB => exact rfl); (case kD => decide +kernel); (case c2 => exact rfl); (case c3 => exact rfl); (case c4 => exact rfl); k_whole; intro g' L' h' tk' cells' FG' F' N' Y' B' X' T' l1; (try k_lt l1); k_cells Y'; (try simp only [List.cons_append, List.nil_append] at N'); (try dsimp only); (try k_lift B'); (try k_fold)))
  repeat' (first | with_reducible (k_here; (with_reducible show wpAny _ _ (exec (Stmt.While _ _ _ _) _) _ _ _); k_dflt (refine stop_while ?_)) | with_reducible (k_here; (with_reducible show wpAny _ _ (call (Value.builtin "len") [Value.ref _]) _ _ _); k_dflt (apply lenN; (case N => k_asm); (case hm => (first | kbu_src | k_mem)); (case hz => omega); k_whole)) | (k_unfold; (try dsimp only)) | (k_end; wrow_close) | walk1 | (dsimp only; walk1) | (leave1; walk_say "STEP leave1"; try dsimp only))
  unfold Stop
  rename _ = List.length (List.map _ _) => hL8
  clear hL8
  rename IntsAre _ (List.map _ _) => hW
  rw [words_walk] at hW
  have hYL := hW.length
  rw [words_len] at hYL
  have hNW : numW ks ≤ 250 := by unfold numW; omega
  refine' While_up2 (m := ?m0) (news := ?n0) ((fun (m₀ : Str → Option Value) (nx₀ : List (Addr × Obj)) (i : Nat) (m : Str → Option Value) (nx : List (Addr × Obj)) => nx = nx₀ ∧ (∀ y, y ≠ Str.ofString "many" → m y = m₀ y) ∧ (∃ t, m (Str.ofString "many") = some (.int (i : Int) t)) ∧ i ≤ numW ks ∧ ∀ j < i, isTagK (wordAt ks j)) ?m0 ?n0) (fun i => i < numW ks ∧ isTagK (wordAt ks i)) (numW ks) ?F ?N ?h0 ?hB ?wtest ?turn ?done
  (case F => k_asm)
  (case N => k_asm)
  (case h0 => exact ⟨rfl, fun _ _ => rfl, ⟨_, rfl⟩, Nat.zero_le _, fun j hj => absurd hj (Nat.not_lt_zero j)⟩)
  (case hB => exact fun i m nx _ hC => hC.1)
  (case wtest =>
    intro i m₁ nx h tk hJ F' N'
    refine gbox ?_
    intro G9 hG9
    obtain ⟨rfl, h1, ⟨t2, h2⟩, hi2, hall⟩ := hJ
    obtain rfl := free_one h1 h2
    clear h1 h2
    refine hG9 ?_
    repeat' (first | with_reducible (k_here; (with_reducible show wpAny _ _ (subscriptTail _ (Expr.Name _ _) (Value.ref _) (Value.int _ _)) _ _ _); k_dflt (apply item_ints; (case N => k_asm); (case hm => (first | kbu_src | k_mem)); (case hi => with_reducible assumption); (case h0 => omega); (case h1 => omega); (case h2 => omega); (case hs => with_unfolding_all rfl); k_whole); intro t'; (try k_sweep)) | with_reducible (k_here; (with_reducible show wpAny _ _ (call (Value.builtin "len") [Value.ref _]) _ _ _); k_dflt (apply lenN; (case N => k_asm); (case hm => (first | kbu_src | k_mem)); (case hz => omega); k_whole)) | with_reducible (k_here; (with_reducible show wpAny _ _ (isTrue (Expr.Compare _ _ _ _) _ _) _ _ _); dsimp only) | (k_unfold; (try dsimp only)) | (k_end; wrow_close) | walk1 | (dsimp only; walk1) | (leave1; walk_say "STEP leave1"; try dsimp only))
    all_goals (try dsimp only)
    all_goals first
      | ((with_reducible show CondAt _ _ _ _ _ _ _ _); exact (CondAt.mk ⟨fun _ => ⟨by omega, words_yes (by omega) (by assumption)⟩, fun _ => rfl⟩ (by k_asm) (by k_asm) (by (repeat' (first | with_reducible exact subRefl | with_reducible exact subNil | with_reducible assumption | (refine subCons ?_ ?_; focus (first | with_reducible assumption | (with_reducible (repeat (first | exact List.mem_cons_self | assumption | refine List.mem_cons_of_mem _ ?_)); done))) | refine subTail ?_)))))
      | ((with_reducible show CondAt _ _ _ _ _ _ _ _); exact (CondAt.mk ⟨fun q => (by cases q), fun q => absurd q.2 (words_no (by omega) (by assumption))⟩ (by k_asm) (by k_asm) (by (repeat' (first | with_reducible exact subRefl | with_reducible exact subNil | with_reducible assumption | (refine subCons ?_ ?_; focus (first | with_reducible assumption | (with_reducible (repeat (first | exact List.mem_cons_self | assumption | refine List.mem_cons_of_mem _ ?_)); done))) | refine subTail ?_)))))
      | ((with_reducible show CondAt _ _ _ _ _ _ _ _); exact (CondAt.mk ⟨fun q => (by cases q), fun q => absurd q.1 (by omega)⟩ (by k_asm) (by k_asm) (by (repeat' (first | with_reducible exact subRefl | with_reducible exact subNil | with_reducible assumption | (refine subCons ?_ ?_; focus (first | with_reducible assumption | (with_reducible (repeat (first | exact List.mem_cons_self | assumption | refine List.mem_cons_of_mem _ ?_)); done))) | refine subTail ?_))))))
  (case turn =>
    intro i m₁ nx h tk hJ hC F' N'
    refine gbox ?_
    intro G9 hG9
    obtain ⟨rfl, h1, ⟨t2, h2⟩, hi2, hall⟩ := hJ
    obtain rfl := free_one h1 h2
    clear h1 h2
    refine hG9 ?_
    repeat' (first | (k_unfold; (try dsimp only)) | (k_end; wrow_close) | walk1 | (dsimp only; walk1) | (leave1; walk_say "STEP leave1"; try dsimp only))
    all_goals (try dsimp only)
    all_goals first
      | ((with_reducible show WEnd _ _ _ _ _ _ _)
         refine (WEnd.mk (by k_asm) (by k_asm) (by (repeat' (first | with_reducible exact subRefl | with_reducible exact subNil | with_reducible assumption | (refine subCons ?_ ?_; focus (first | with_reducible assumption | (with_reducible (repeat (first | exact List.mem_cons_self | assumption | refine List.mem_cons_of_mem _ ?_)); done))) | refine subTail ?_))) ⟨rfl, fun y hy => ?h8, ⟨_, some_int ?h9⟩, by omega, all_snoc hall hC.2⟩)
         (case h9 => omega)
         (case h8 => simp only [if_neg hy])))
  (case done =>
    intro i m₁ nx h tk hJ hC F' N'
    refine gbox ?_
    intro G9 hG9
    obtain ⟨rfl, h1, ⟨t2, h2⟩, hi2, hall⟩ := hJ
    obtain rfl := free_one h1 h2
    clear h1 h2
    have hC1 : CondIs 127 (i = numW ks) := .mk
    refine hG9 ?_
    repeat' (first | with_reducible (k_here; (with_reducible show wpAny _ _ (exec (Stmt.For _ _ _ _ _) _) _ _ _); k_dflt (refine stop_for ?_)) | with_reducible (k_here; (with_reducible show wpAny _ _ (call (Value.builtin "len") [Value.ref _]) _ _ _); k_dflt (apply lenN; (case N => k_asm); (case hm => (first | kbu_src | k_mem)); (case hz => omega); k_whole)) | with_reducible (k_here; (with_reducible show wpAny _ _ (exec (Stmt.If _ _ _ _) _) _ _ _); k_dflt (apply If_cond; (case _C => assumption); (case _F => k_asm); (case _N => k_asm); k_whole; rotate_left; (intro c' h' tk' F' N'; (try dsimp only)); rotate_left; (intro c' h' tk' F' N'; (try dsimp only); (try (have c2 := Classical.not_not.mp c'; obtain ⟨p1, ⟨p2, p3⟩, ⟨p4, p5⟩, ⟨p6, p7⟩⟩ := id c2))); rotate_left)) | (k_unfold; (try dsimp only)) | (k_end; wrow_close) | walk1 | (dsimp only; walk1) | (leave1; walk_say "STEP leave1"; try dsimp only))
    all_goals (try dsimp only)
    all_goals first
      | ((with_reducible show CondAt _ _ _ _ _ _ _ _); refine (CondAt.mk ?_ (by k_asm) (by k_asm) (by (repeat' (first | with_reducible exact subRefl | with_reducible exact subNil | with_reducible assumption | (refine subCons ?_ ?_; focus (first | with_reducible assumption | (with_reducible (repeat (first | exact List.mem_cons_self | assumption | refine List.mem_cons_of_mem _ ?_)); done))) | refine subTail ?_)))); simp only [Bool.not_false, Bool.not_true, Bool.not_eq_true', decide_eq_true_eq, decide_eq_false_iff_not, true_iff, Bool.false_eq_true, false_iff, bne_iff_ne, beq_iff_eq, ne_eq] <;> omega)
      | exact con_ret hret _ (by k_asm) (by k_asm) ⟨by (repeat' (first | with_reducible exact subRefl | with_reducible exact subNil | with_reducible assumption | (refine subCons ?_ ?_; focus (first | with_reducible assumption | (with_reducible (repeat (first | exact List.mem_cons_self | assumption | refine List.mem_cons_of_mem _ ?_)); done))) | refine subTail ?_)), none, HeadIs.no (fun j hj => hall j (by omega)), ex4 _ _ _ _ ⟨rfl, by (first | with_reducible assumption | (with_reducible (repeat (first | exact List.mem_cons_self | assumption | refine List.mem_cons_of_mem _ ?_)); done) | k_mem), by (first | with_reducible assumption | (with_reducible (repeat (first | exact List.mem_cons_self | assumption | refine List.mem_cons_of_mem _ ?_)); done) | k_mem)⟩⟩
      | skip
    have hCi : ¬ isTagK (wordAt ks i) := fun q => hC ⟨by omega, q⟩
    have hiN : i < numW ks := by omega
    have hiL : i < ys.length := by omega
    have hB : 14 + 4 * i ≤ ks.length := by
      unfold numW at hiN
      omega
    unfold Stop
    refine' For_range ?F ?h ?hs
    (case F => k_asm)
    (case hs => (intro _; with_unfolding_all rfl))
    repeat' (first | (k_unfold; (try dsimp only)) | (k_end; wrow_close) | walk1 | (dsimp only; walk1) | (leave1; walk_say "STEP leave1"; try dsimp only))
    unfold Stop
    refine (ex11 _ _ _ _ _ _ i _ _ _ ((fun (m₀ : Str → Option Value) (lt : Addr) (nx1 : List (Addr × Obj)) (i : Nat) (m : Str → Option Value) (nx : List (Addr × Obj)) => (∀ y, y ≠ Str.ofString "k" → y ≠ Str.ofString "low" → m y = m₀ y) ∧ DueL ks lt nx1 i nx) _ _ _) ⟨rfl, rfl, by k_asm, by k_asm, by assumption, fun _ h => h, small_one (by omega) (by omega) (by omega) (by omega), ?hrs, ⟨fun _ _ _ => rfl, [], 0, [], rfl, (by (simp only [List.nil_append]; exact allLt_ne (by assumption))), rfl, .nil⟩, ?turn, ?done⟩)
    (case hrs => rw [rangeSize_nat]; omega)
    (case done =>
      intro m' nx h' tk hJ F' N'
      refine gbox ?_
      intro G9 hG9
      obtain ⟨h1, vt, c, own, rfl, hne, hvl, hdat⟩ := hJ
      obtain ⟨va, vb, rfl⟩ := free_two h1
      clear h1
      replace N' := swap1 N'
      simp only [List.cons_append, List.nil_append] at N'
      refine hG9 ?_
      repeat' (first | with_reducible (k_here; (with_reducible show wpAny _ _ (subscriptTail _ (Expr.Name _ _) (Value.ref _) (Value.int _ _)) _ _ _); k_dflt (apply item_ints; (case N => k_asm); (case hm => (first | kbu_src | k_mem)); (case hi => with_reducible assumption); (case h0 => omega); (case h1 => omega); (case h2 => omega); (case hs => with_unfolding_all rfl); k_whole); intro t'; (try k_sweep)) | with_reducible (k_here; (with_reducible show wpAny _ _ (call (Value.ref 194) _) _ _ _); k_dflt (apply con_whole; ((case cN => k_asm); (case cF => k_asm); (case cB => k_asm); (case cX => k_asm); (case cT => k_asm); (try ((case cXB => assumption); (case cTB => assumption); (case cKD => assumption); (case cT0 => first | assumption | exact KtsTurn.refl))); (case cK => first | exact rfl | assumption); (try case hm => (first | kbu_src | k_mem)); (try case hx => (first | kbu_src | k_mem)); (try case hxd => (first | kbu_src | k_mem)); (try case hi => with_reducible assumption); (try case ho => (first | (first | with_reducible assumption | exact octs_take (by with_reducible assumption) | exact octs_drop (by with_reducible assumption) | exact octs_take (octs_drop (by with_reducible assumption))) | (with_reducible assumption))); (try case hdat => (first | with_reducible assumption | (refine DatAll.mono ?_ (by with_reducible assumption); (repeat' (first | with_reducible exact subRefl | with_reducible exact subNil | with_reducible assumption | (refine subCons ?_ ?_; focus kbu_src) | refine subTail ?_))))); (try case hz => (first | ((simp only [List.length_take, List.length_drop, List.length_append, List.length_replicate]; omega)) | (first | omega | exact ⟨by omega, by omega⟩))); (case cP => (first | (refine ⟨by with_reducible assumption, ?_⟩; (refine slc_len (n := 8) ?_ ?_ ?_ <;> omega)) | (first | trivial | decide | omega | exact ⟨by decide, by decide⟩ | exact ⟨by with_reducible assumption, by with_reducible assumption, by omega, by omega⟩))); (case cD => ktr_room); (case cU => ktr_units)); (first | (refine RFive.out ?_; intros; (try dsimp only); (try k_sweep)) | (refine ROct.out ?_; intros; (try dsimp only); (try k_sweep)) | ((first | refine RExc.out ?_ | refine RInt.out ?_ | refine RVal.out ?_ | refine RLst.out ?_ | refine ROcts.out ?_); intros; (try dsimp only); (try k_sweep))))) | (k_unfold; (try dsimp only)) | (k_end; wrow_close) | walk1 | (dsimp only; walk1) | (leave1; walk_say "STEP leave1"; try dsimp only))
      all_goals (try dsimp only)
      have e1 : wholeOf (slc ks 0 6) = wholeOf (ks.take 6) := by rw [slc_eq (lo := 0) (hi := 6) (a := 0) (n := 6) rfl rfl (by omega)]; rfl
      have e2 : wholeOf (slc ks 6 12) = wholeOf (List.take (min 12 ks.length - 6) (List.drop 6 ks)) := by rw [slc_eq (lo := 6) (hi := 12) (a := 6) (n := 6) rfl rfl (by omega), Nat.min_eq_left (by omega : 12 ≤ ks.length)]
      have e3 : wordAt ks i = (wordsOf ks).getD (i : Int).toNat 0 := by rw [Int.toNat_natCast, words_get hiN]
      refine con_ret hret _ (by k_asm) (by k_asm) ⟨by (repeat' (first | with_reducible exact subRefl | with_reducible exact subNil | with_reducible assumption | with_reducible exact subAppL | with_reducible exact subAppR | (refine subCons ?_ ?_; focus (first | with_reducible assumption | with_reducible exact subAppL | with_reducible exact subAppR | (with_reducible (repeat (first | exact List.mem_cons_self | assumption | refine List.mem_cons_of_mem _ ?_)); done))) | refine subTail ?_)), some i, HeadIs.found i hiN hall hCi, ?h5⟩
      simp only [HeadRep]
      rw [e1, e2, e3]
      exact (ex11 _ _ _ _ _ _ _ _ _ _ _ ⟨rfl, by (first | with_reducible assumption | (with_reducible (repeat (first | exact List.mem_cons_self | assumption | refine List.mem_cons_of_mem _ ?_)); done) | k_mem), by (first | with_reducible assumption | (with_reducible (repeat (first | exact List.mem_cons_self | assumption | refine List.mem_cons_of_mem _ ?_)); done) | k_mem), by (first | with_reducible assumption | (with_reducible (repeat (first | exact List.mem_cons_self | assumption | refine List.mem_cons_of_mem _ ?_)); done) | k_mem), hdat.mono (subApp (by (repeat' (first | with_reducible exact subRefl | with_reducible exact subNil | with_reducible assumption | with_reducible exact subAppL | with_reducible exact subAppR | (refine subCons ?_ ?_; focus (first | with_reducible assumption | with_reducible exact subAppL | with_reducible exact subAppR | (with_reducible (repeat (first | exact List.mem_cons_self | assumption | refine List.mem_cons_of_mem _ ?_)); done))) | refine subTail ?_))) (by (repeat' (first | with_reducible exact subRefl | with_reducible exact subNil | with_reducible assumption | with_reducible exact subAppL | with_reducible exact subAppR | (refine subCons ?_ ?_; focus (first | with_reducible assumption | with_reducible exact subAppL | with_reducible exact subAppR | (with_reducible (repeat (first | exact List.mem_cons_self | assumption | refine List.mem_cons_of_mem _ ?_)); done))) | refine subTail ?_))))⟩))
    intro I oI j m₁ nx h tk t hj hJ hneI F N
    refine gbox ?_
    intro G9 hG9
    obtain ⟨h1, vt, c, own, rfl, hne, hvl, hdat⟩ := hJ
    obtain ⟨va, vb, rfl⟩ := free_two h1
    clear h1
    refine hG9 ?_
    rw [Int.zero_add]
    replace N := swap2 N
    have hne2 := swap0 hne
    have hIl : @Ne Nat _ I := hneI _ (List.Mem.head _)
    simp only [List.cons_append, List.nil_append] at N hne2
    repeat' (first | with_reducible (k_here; (with_reducible show wpAny _ _ (subscriptTail _ (Expr.Name _ _) (Value.ref _) (Value.int _ _)) _ _ _); k_dflt (apply item_ints; (case N => k_asm); (case hm => (first | kbu_src | k_mem)); (case hi => with_reducible assumption); (case h0 => omega); (case h1 => omega); (case h2 => omega); (case hs => with_unfolding_all rfl); k_whole); intro t'; (try k_sweep)) | with_reducible (k_here; (with_reducible show wpAny _ _ (call (Value.builtin _) [Value.ref _, _]) _ _ _); k_dflt (apply append_K; (case F => k_asm); (case N => k_asm); (case U => k_upd); (case hsz => (rw [sizeLine_eq, List.size_toArray]; omega)); k_whole); intro h' F' N'; (try k_sweep)) | (k_unfold; (try dsimp only)) | (k_end; wrow_close) | walk1 | (dsimp only; walk1) | (leave1; walk_say "STEP leave1"; try dsimp only))
    all_goals (try dsimp only)
    all_goals first
      | ((with_reducible show REnd _ _ _ _ _ _ _ _ _)
         exact due_end ho (by omega) (by k_asm) rfl (by k_asm) (subApp (by (repeat' (first | with_reducible exact subRefl | with_reducible exact subNil | with_reducible assumption | with_reducible exact subAppL | with_reducible exact subAppR | (refine subCons ?_ ?_; focus (first | with_reducible assumption | with_reducible exact subAppL | with_reducible exact subAppR | (with_reducible (repeat (first | exact List.mem_cons_self | assumption | refine List.mem_cons_of_mem _ ?_)); done))) | refine subTail ?_))) (by (repeat' (first | with_reducible exact subRefl | with_reducible exact subNil | with_reducible assumption | with_reducible exact subAppL | with_reducible exact subAppR | (refine subCons ?_ ?_; focus (first | with_reducible assumption | with_reducible exact subAppL | with_reducible exact subAppR | (with_reducible (repeat (first | exact List.mem_cons_self | assumption | refine List.mem_cons_of_mem _ ?_)); done))) | refine subTail ?_)))) (by k_ne) (by k_ne) hneI hne hvl hdat (fun y h1 h2 => by simp only [if_neg h1, if_neg h2])))
end
section -- part J1
set_option maxHeartbeats 8000000

theorem ints_dat {news : List (Addr × Obj)} : ∀ {vs : List Value} {ks : List Int}, IntsAre vs ks → DatAll news vs (ks.map Dat.int)
  | _, _, .nil => .nil
  | _, _, .cons n t r => .cons (.int n t) (ints_dat r)
/-- a message and its numbers -/
def mnDat (p : Str × List Int) : Dat := .tuple [.str p.1, .list (p.2.map Dat.int)]
theorem mn_in {news : List (Addr × Obj)} {D c : Addr} {msg : Str} {t : Tok} {ys : List Value} {n2 : Nat} {p : Str × List Int} {xs : List Int} (h : p = (msg, xs)) (hD : (D, pairObj (.str msg t) (.ref c)) ∈ news) (hc : (c, listOf (List.toArray ys) n2) ∈ news) (hi : IntsAre ys xs) : DatIn news (.ref D) (mnDat p) := by
  subst h
  exact .tuple (vs := [.str msg t, .ref c]) hD (.cons (.str _ _) (.cons (.list hc (ints_dat hi)) .nil))
theorem inL {a b c : List (Addr × Obj)} (h : ∀ q ∈ b, q ∈ a) : ∀ q ∈ b, q ∈ a ++ c := fun q hq => List.mem_append_left _ (h q hq)
theorem mn_news {h₀ h : Heap} {L D c : Addr} {news : List (Addr × Obj)} {msg : Str} {t : Tok} {ys : List Value} {n2 : Nat} {p : Str × List Int} {xs : List Int} (N : News h₀ L h ((D, pairObj (.str msg t) (.ref c)) :: (c, listOf (List.toArray ys) n2) :: news)) (h : p = (msg, xs)) (hi : IntsAre ys xs) :
    DatIn ((D, pairObj (.str msg t) (.ref c)) :: (c, listOf (List.toArray ys) n2) :: news) (.ref D) (mnDat p) := mn_in h (.head _) (.tail _ (.head _)) hi

theorem stop_call {M : Model} {A : Around} {E : Value → Shared → Prop} {s : Shared} {f : Value} {vs : List Value} {Q : Value → Shared → Prop} (h : Stop (wpAny M A (call f vs) Q E s)) : wpAny M A (call f vs) Q E s := h

theorem stop_any {M : Model} {A : Around} {E : Value → Shared → Prop} {s : Shared} {T : Sem Value} {Q : Value → Shared → Prop} (h : Stop (wpAny M A T Q E s)) : wpAny M A T Q E s := h

theorem ints_ok (n : Nat) (xs : List Int) : (xs.map Dat.int).all (kqdOk n) = true := by
  rw [List.all_map, List.all_eq_true]
  intro x _
  cases n <;> rfl
theorem mn_ok {p : Str × List Int} (h : PyData.strOk p.1 = true) : kqdOk 8 (mnDat p) = true := by
  show ([Dat.str p.1, .list (p.2.map Dat.int)]).all (kqdOk 7) = true
  simp only [List.all_cons, List.all_nil, Bool.and_true]
  rw [show kqdOk 7 (.str p.1) = PyData.strOk p.1 from rfl, h, Bool.true_and]
  exact ints_ok 6 _
theorem due_msg_str (ks : List Int) : PyData.strOk (dueMsg ks).1 = true := by
  unfold dueMsg
  split
  · exact (by decide +kernel : PyData.strOk (Str.ofString "truncated head") = true)
  · split
    · exact (by decide +kernel : PyData.strOk (Str.ofString "unknown address kinds") = true)
    · exact (by decide +kernel : PyData.strOk (Str.ofString "") = true)
theorem due_frame_str (t s : Int) (gs : List Tag) (k : Int) : PyData.strOk (dueFrame t s gs k).1 = true := by
  unfold dueFrame
  split
  · exact (by decide +kernel : PyData.strOk unfit = true)
  · split
    · exact (by decide +kernel : PyData.strOk noTag = true)
    · split
      · exact (by decide +kernel : PyData.strOk unfit = true)
      · exact (by decide +kernel : PyData.strOk (Str.ofString "") = true)
theorem due_arp_str (a b c d e : Int) : PyData.strOk (dueArp a b c d e).1 = true := by
  unfold dueArp
  split
  · exact (by decide +kernel : PyData.strOk (Str.ofString "") = true)
  · exact (by decide +kernel : PyData.strOk unfit = true)
theorem head_ok (ks : List Int) (o : Option Nat) : kqdOk 8 (headDat ks o) = true := by
  cases o with
  | none => exact (by decide +kernel : kqdOk 8 (.tuple [.str tooShort, .list []]) = true)
  | some n =>
    show ([Dat.str (Str.ofString ""), .list [.int (wholeOf (slc ks 0 6)), .int (wholeOf (slc ks 6 12)), .list ((headTags ks n).map tagDat), .int (wordAt ks n), .int (14 + 4 * (n : Int))]]).all (kqdOk 7) = true
    have h1 : ((headTags ks n).map tagDat).all (kqdOk 5) = true := by
      rw [List.all_map, List.all_eq_true]
      intro x _
      rfl
    have h2 : kqdOk 6 (.list ((headTags ks n).map tagDat)) = true := h1
    have h3 : ([.int (wholeOf (slc ks 0 6)), .int (wholeOf (slc ks 6 12)), Dat.list ((headTags ks n).map tagDat), .int (wordAt ks n), .int (14 + 4 * (n : Int))]).all (kqdOk 6) = true := by
      simp only [List.all_cons, List.all_nil, h2, Bool.and_true]
      rfl
    have h4 : kqdOk 7 (.list [.int (wholeOf (slc ks 0 6)), .int (wholeOf (slc ks 6 12)), Dat.list ((headTags ks n).map tagDat), .int (wordAt ks n), .int (14 + 4 * (n : Int))]) = true := h3
    simp only [List.all_cons, List.all_nil, h4, Bool.and_true]
    exact (by decide +kernel : PyData.strOk (Str.ofString "") = true)
section
variable {prog : Program} {w : World} {A : Around} {E : Value → Shared → Prop} {s : Shared} {h₀ : Heap} {L : Addr} {a b : Value} {news n₁ n₂ : List (Addr × Obj)} {d e : Dat} {Q : Value → Shared → Prop}
theorem dat_sides (N : News h₀ L s.heap news) (Da : DatIn n₁ a d) (sa : ∀ p ∈ n₁, p ∈ news) (hd : kqdOk 8 d = true) : ∃ as, Reads s.heap a (kqdP d) as ∧ SeqAt.shaped (kqdP d) = true := by
  obtain ⟨as, ra⟩ := kqd_in N 8 (Da.mono sa) hd
  have la := kqd_lay 8 d hd
  refine ⟨as, ra, ?_⟩
  unfold SeqAt.shaped
  rw [la.1, Bool.true_and]
  exact decide_eq_true (Nat.le_trans la.2 (by decide))
theorem eq_dat (N : News h₀ L s.heap news) (Da : DatIn n₁ a d) (sa : ∀ p ∈ n₁, p ∈ news) (Db : DatIn n₂ b e) (sb : ∀ p ∈ n₂, p ∈ news) (q : d = e) (hd : kqdOk 8 d = true) (hu : A.units + 64 < cLine) (h : Q (.bool true) s) : wpAny (model prog w) A (compareOp .Eq a b) Q E s := by
  subst q
  obtain ⟨as, ra, la⟩ := dat_sides N Da sa hd
  obtain ⟨bs, rb, lb⟩ := dat_sides N Db sb hd
  exact eq_dataH ra rb la lb hu (by rw [(kqd_eqv 8 d d 8 hd hd).mpr rfl]; exact h)
theorem ne_dat (N : News h₀ L s.heap news) (Da : DatIn n₁ a d) (sa : ∀ p ∈ n₁, p ∈ news) (Db : DatIn n₂ b e) (sb : ∀ p ∈ n₂, p ∈ news) (q : d = e) (hd : kqdOk 8 d = true) (hu : A.units + 64 < cLine) (h : Q (.bool false) s) : wpAny (model prog w) A (compareOp .NotEq a b) Q E s := by
  subst q
  obtain ⟨as, ra, la⟩ := dat_sides N Da sa hd
  obtain ⟨bs, rb, lb⟩ := dat_sides N Db sb hd
  exact ne_dataH ra rb la lb hu (by rw [(kqd_eqv 8 d d 8 hd hd).mpr rfl]; exact h)
theorem ne_mn {D c B : Addr} {msg : Str} {t : Tok} {ys : List Value} {n2 : Nat} {p : Str × List Int} {xs : List Int} (N : News h₀ L s.heap news) (Da : DatIn n₁ (.ref B) (mnDat p)) (sa : ∀ p ∈ n₁, p ∈ news) (hD : (D, pairObj (.str msg t) (.ref c)) ∈ news) (hc : (c, listOf (List.toArray ys) n2) ∈ news) (hi : IntsAre ys xs) (q : p = (msg, xs)) (hd : kqdOk 8 (mnDat p) = true) (hu : A.units + 64 < cLine) (h : Q (.bool false) s) :
    wpAny (model prog w) A (compareOp .NotEq (.ref B) (.ref D)) Q E s := ne_dat N Da sa (mn_in q hD hc hi) (fun _ h => h) rfl hd hu h
end
end
section -- part K1
set_option maxHeartbeats 8000000

/-- the end of a statement that puts a list of ints under a name -/
def LMid (h₀ : Heap) (L : Addr) (s : Shared) (x : Str) (P : List Int → Prop) (m₀ : Str → Option Value) (n₀ : List (Addr × Obj)) (f : Flow) (s' : Shared) : Prop :=
  f = .next ∧ ∃ D ys ks n h' tk nx, s' = { s with heap := h', toks := tk } ∧ Fr h₀ L h' (fun y => if y = x then some (.ref D) else m₀ y) ∧ News h₀ L h' nx ∧ (D, listOf (List.toArray ys) n) ∈ nx ∧ (∀ p ∈ n₀, p ∈ nx) ∧ IntsAre ys ks ∧ P ks
theorem LMid.mk {h₀ h' : Heap} {L D : Addr} {s : Shared} {x : Str} {P : List Int → Prop} {m₀ : Str → Option Value} {n₀ nx : List (Addr × Obj)} {ys : List Value} {ks : List Int} {n tk : Nat}
    (F : Fr h₀ L h' (fun y => if y = x then some (.ref D) else m₀ y)) (N : News h₀ L h' nx) (hD : (D, listOf (List.toArray ys) n) ∈ nx) (hs : ∀ p ∈ n₀, p ∈ nx) (hi : IntsAre ys ks) (hP : P ks) : LMid h₀ L s x P m₀ n₀ .next { s with heap := h', toks := tk } :=
  ⟨rfl, D, ys, ks, n, h', tk, nx, rfl, F, N, hD, hs, hi, hP⟩
theorem exec_list {M : Model} {A : Around} {E : Value → Shared → Prop} {s : Shared} {h₀ : Heap} {L : Addr} {env : Env} {st : Stmt} {Q : Flow → Shared → Prop} (x : Str) (P : List Int → Prop) {m₀ : Str → Option Value} {n₀ : List (Addr × Obj)} (F : Fr h₀ L s.heap m₀) (N : News h₀ L s.heap n₀)
    (h : wpAny M A (exec st env) (LMid h₀ L s x P m₀ n₀) E s)
    (k : ∀ D ys ks n h' tk, Fr h₀ L h' (fun y => if y = x then some (.ref D) else m₀ y) → News h₀ L h' ((D, listOf (List.toArray ys) n) :: n₀) → IntsAre ys ks → P ks → Q .next { s with heap := h', toks := tk }) : wpAny M A (exec st env) Q E s := by
  refine wpAny_mono h (fun f s' hm => ?_) fun _ _ e => e
  obtain ⟨rfl, D, ys, ks, n, h', tk, nx, rfl, F', N', hD, hs, hi, hP⟩ := hm
  exact k D ys ks n h' tk F' (newsDrop N' (subCons hD hs)) hi hP
theorem fr_same {h₀ h : Heap} {L : Addr} {m : Str → Option Value} {x : Str} {v : Value} (F : Fr h₀ L h m) (e : m x = some v) : Fr h₀ L h (fun y => if y = x then some v else m y) := by
  have q : (fun y => if y = x then some v else m y) = m := by
    funext y
    by_cases g : y = x
    · rw [if_pos g, g, e]
    · rw [if_neg g]
  rw [q]
  exact F
section
variable {prog : Program} {w : World} {A : Around} {h₀ : Heap} {L : Addr} {m : Str → Option Value} {env : Env} {elt : Expr} {x : Str} {scope : Scope} {cl : List (Str × Addr)} {s : Shared} {Fin : List Value → List (Addr × Obj) → Prop} {news : List (Addr × Obj)}
/-- a turn's end of the comprehension that makes tags -/
def TagEnd (news own : List (Addr × Obj)) (y : Value) (news' : List (Addr × Obj)) : Prop := ∃ T o g, y = .ref T ∧ news' = news ++ ((T, o) :: own) ∧ DatIn [(T, o)] (.ref T) (tagDat g)
theorem tags_rest {n : Nat} {a : Int}
    (turn : ∀ k t I oI C oC D m₂ ys own h tk (E' : Value → Shared → Prop), a ≤ k → k < a + (n : Int) → LCg.NsObj oC m₂ → m₂ x = some (.int k t) → Fr h₀ L h m → News h₀ L h ((I, oI) :: (C, oC) :: (D, LCg.lst ys) :: (news ++ own)) → LCg.Off3 I C D (news ++ own) → ((@Ne Nat I C) ∧ (@Ne Nat I D) ∧ (@Ne Nat C D)) →
      wpAny (model prog w) A (eval elt (compEnvC scope cl C env)) (LCg.CompEnd h₀ L m { s with heap := h, toks := tk } I oI C oC D (LCg.lst ys) (fun _ => True) (TagEnd news own)) E' { s with heap := h, toks := tk })
    (fin : ∀ ys own (gs : List Tag), gs.length = n → DatAll own ys (gs.map tagDat) → Fin ys (news ++ own)) : LCg.CompRest prog w A h₀ L m env elt x scope cl s (fun _ => True) (fun i v => ∃ t, v = .int (a + (i : Int)) t) Fin n 0 [] news := by
  have key : ∀ (j i : Nat) (ys : List Value) (own : List (Addr × Obj)) (gs : List Tag), i + j = n → gs.length = i → DatAll own ys (gs.map tagDat) → LCg.CompRest prog w A h₀ L m env elt x scope cl s (fun _ => True) (fun i v => ∃ t, v = .int (a + (i : Int)) t) Fin j i ys (news ++ own) := by
    intro j
    induction j with
    | zero =>
      intro i ys own gs hi hg hd
      exact LCg.CompRest.zero (fin ys own gs (by omega) hd)
    | succ j ih =>
      intro i ys own gs hi hg hd
      refine LCg.CompRest.succ ?_
      intro v I oI C oC D m₂ h tk E' hv hC hx F N off ne
      obtain ⟨t, hv'⟩ := hv
      rw [hv'] at hx
      refine wpAny_mono (turn _ t I oI C oC D m₂ ys own h tk E' (by omega) (by omega) hC hx F N off ne) (fun y s₂ hq => ?_) fun _ _ e => e
      obtain ⟨h', tk', nw, e, F', N', off', hS, T, o, g, hy, hn, hdt⟩ := hq
      rw [hn] at N' off'
      refine ⟨h', tk', _, e, F', N', off', trivial, ?_⟩
      rw [hy]
      refine ih (i + 1) _ _ (gs ++ [g]) (by omega) (by rw [List.length_append, hg]; rfl) ?_
      rw [List.map_append]
      exact datAll_snoc (hd.mono fun p hp => .tail _ hp) (hdt.mono fun p hp => by rw [List.mem_singleton.mp hp]; exact .head _)
  have k0 := key n 0 [] [] [] (by omega) rfl .nil
  rw [List.append_nil] at k0
  exact k0
theorem tags_end {I C D T : Addr} {oI oC : Obj} {own led : List (Addr × Obj)} {ys : List Value} {h' : Heap} {tk : Nat} {v0 v1 v2 v3 : Int} {t0 t1 t2 t3 : Tok} (F : Fr h₀ L h' m) (N : News h₀ L h' ((T, tupObj [.int v0 t0, .int v1 t1, .int v2 t2, .int v3 t3]) :: led)) (off : LCg.Off3 I C D (news ++ own))
    (sub : ∀ p ∈ (I, oI) :: (C, oC) :: (D, LCg.lst ys) :: (news ++ own), p ∈ led) (hT : ∀ p ∈ led, p.1 ≠ T) :
    LCg.CompEnd h₀ L m s I oI C oC D (LCg.lst ys) (fun _ => True) (TagEnd news own) (.ref T) { s with heap := h', toks := tk } := by
  have hI := hT _ (sub _ (.head _))
  have hC := hT _ (sub _ (.tail _ (.head _)))
  have hD := hT _ (sub _ (.tail _ (.tail _ (.head _))))
  refine ⟨h', tk, news ++ ((T, tupObj [.int v0 t0, .int v1 t1, .int v2 t2, .int v3 t3]) :: own), rfl, F, fun p hp => N p ?_, LCg.Off3.of fun p hp => ?_, trivial, T, _, (v0, v1, v2, v3), rfl, rfl, ?_⟩
  · simp only [List.mem_cons, List.mem_append] at hp ⊢
    rcases hp with hp | hp | hp | hp | hp | hp
    · exact .inr (sub _ (by simp [hp]))
    · exact .inr (sub _ (by simp [hp]))
    · exact .inr (sub _ (by simp [hp]))
    · exact .inr (sub _ (by simp [hp]))
    · exact .inl hp
    · exact .inr (sub _ (by simp [hp]))
  · rcases List.mem_append.mp hp with hp | hp
    · exact off.mem p (List.mem_append_left _ hp)
    · rcases List.mem_cons.mp hp with rfl | hp
      · exact ⟨fun q => hI q.symm, fun q => hC q.symm, fun q => hD q.symm⟩
      · exact off.mem p (List.mem_append_right _ hp)
  · exact .tuple (vs := [.int v0 t0, .int v1 t1, .int v2 t2, .int v3 t3]) (.head _) (.cons (.int _ _) (.cons (.int _ _) (.cons (.int _ _) (.cons (.int _ _) .nil))))
end
theorem tags_small (x : Int) : (x.fmod 4 - 0).toNat ≤ 3 := by
  have := fmod_in x (n := 4) (by decide)
  omega
section
variable {prog : Program} {w : World} {A : Around} {E : Value → Shared → Prop} {s : Shared} {h₀ : Heap} {L a b : Addr} {m : Str → Option Value} {news : List (Addr × Obj)} {vs ws : List Value} {ns ms : List Int} {n1 n2 : Nat} {Q : Value → Shared → Prop}
theorem add_ints2 (F : Fr h₀ L s.heap m) (N : News h₀ L s.heap news) (ha : (a, listOf vs.toArray n1) ∈ news) (hb : (b, listOf ws.toArray n2) ∈ news) (hi : IntsAre vs ns) (hj : IntsAre ws ms) (hz : ns.length + ms.length ≤ 16777216)
    (h : ∀ D us h', Fr h₀ L h' m → News h₀ L h' ((D, listOf (List.toArray us) 0) :: news) → (∀ p ∈ news, p.1 < D) → IntsAre us (ns ++ ms) → Q (.ref D) { s with heap := h' }) : wpAny (model prog w) A (binaryOp .Add (.ref a) (.ref b)) Q E s :=
  kmk_add_ints F N (N.isList ha) (N.isList hb) hi hj h (by rw [sizeLine_eq]; exact hz)
theorem fmod19 (a : Int) : a.fmod 19 ≤ 20 := by
  have := fmod_in a (n := 19) (by decide)
  omega
theorem flat_one (c : Int) (n : Nat) : (List.replicate n [c]).flatten = List.replicate n c := by simp
theorem mul_one {c x : Int} {t u : Tok} (F : Fr h₀ L s.heap m) (N : News h₀ L s.heap news) (ha : (a, listOf (List.toArray [.int c t]) n1) ∈ news) (h0 : 0 ≤ x) (h1 : x ≤ 20)
    (h : ∀ D us h', Fr h₀ L h' m → News h₀ L h' ((D, listOf (List.toArray us) 0) :: news) → (∀ p ∈ news, p.1 < D) → IntsAre us (List.replicate x.toNat c) → x.toNat ≤ 20 → Q (.ref D) { s with heap := h' }) : wpAny (model prog w) A (binaryOp .Mult (.ref a) (.int x u)) Q E s :=
  KM.mul F N (N.isList ha) (.cons c t .nil) (by omega) (by omega) (by show 1 * x.toNat ≤ 2 ^ 24; omega) fun D h' F' N' l1 i1 _ _ _ _ _ => h D _ h' F' N' l1 (flat_one c _ ▸ i1) (by omega)
end
theorem item_made {prog : Program} {w : World} {A : Around} {E : Value → Shared → Prop} {s : Shared} {h₀ : Heap} {L l : Addr} {news : List (Addr × Obj)} {value slice : PySem.Expr} {vs : List Value} {f : Int → Int} {a : Int} {n c : Nat} {k : Int} {u : Tok} {Q : Value → Shared → Prop}
    (N : News h₀ L s.heap news) (hi : IntsAre vs (List.map f (rangeKs a n))) (hm : (l, listOf (List.toArray vs) c) ∈ news) (h0 : 0 ≤ k) (h1 : k < (n : Int)) (h2 : n ≤ 1000) (h : ∀ x t, Q (.int x t) s)
    (hs : subscripted slice false (.ref l) (.int k u) = operate [.ref l, .int k u] (getItem (.ref l) (.int k u)) := by with_unfolding_all rfl) :
    wpAny (model prog w) A (subscriptTail value slice (.ref l) (.int k u)) Q E s :=
  item_ints N hm hi h0 (by rw [hi.length, List.length_map, rangeKs_length]; exact h1) (by omega) (fun t => h _ t) hs
theorem octs_row (x : Int) (n : Nat) : Octs (rowOf x n) := fun o ho => by
  unfold rowOf at ho
  obtain ⟨k, _, rfl⟩ := List.mem_map.mp ho
  constructor
  · exact Int.emod_nonneg _ (by decide)
  · exact Int.emod_lt_of_pos _ (by decide)
theorem octs_app {a b : List Int} (ha : Octs a) (hb : Octs b) : Octs (a ++ b) := fun o ho => (List.mem_append.mp ho).elim (ha o) (hb o)
theorem octs_rep {c : Int} (h : 0 ≤ c ∧ c < 256) (n : Nat) : Octs (List.replicate n c) := fun o ho => by rw [List.eq_of_mem_replicate ho]; exact h
theorem octs_nil : Octs [] := fun o ho => by cases ho
theorem octs_cons {c : Int} {l : List Int} (h : 0 ≤ c ∧ c < 256) (g : Octs l) : Octs (c :: l) := fun o ho => by
  rcases List.mem_cons.mp ho with rfl | ho
  · exact h
  · exact g o ho
theorem unfit_ne : (unfit == Str.ofString "") = false := by decide +kernel
theorem noTag_ne : (noTag == Str.ofString "") = false := by decide +kernel
theorem due_head_good {t s k : Int} {gs : List Tag} {msg : Str} {ks : List Int} (h : dueFrame t s gs k = (msg, ks)) (hm : msg = Str.ofString "") : Octs ks ∧ ks.length = 14 + 4 * gs.length := by
  subst hm
  unfold dueFrame at h
  split at h
  · have := unfit_ne; rw [(Prod.mk.inj h).1] at this; simp at this
  · split at h
    · have := noTag_ne; rw [(Prod.mk.inj h).1] at this; simp at this
    · split at h
      · have := unfit_ne; rw [(Prod.mk.inj h).1] at this; simp at this
      · rw [← (Prod.mk.inj h).2]
        exact ⟨octs_row _ _, rowOf_length _ _⟩
theorem due_arp_good {a b c d e : Int} {msg : Str} {ks : List Int} (h : dueArp a b c d e = (msg, ks)) (hm : msg = Str.ofString "") : Octs ks ∧ ks.length = 28 := by
  subst hm
  unfold dueArp at h
  split at h
  · rw [← (Prod.mk.inj h).2]
    exact ⟨octs_row _ _, rowOf_length _ _⟩
  · have := unfit_ne; rw [(Prod.mk.inj h).1] at this; simp at this
theorem due_head_room {t s k : Int} {gs : List Tag} {msg : Str} {ks : List Int} (h : dueFrame t s gs k = (msg, ks)) (hm : (msg == Str.ofString "") = true) (hg : gs.length ≤ 3) : Octs ks ∧ 14 ≤ ks.length ∧ ks.length ≤ 26 := by
  obtain ⟨h1, h2⟩ := due_head_good h (eq_of_beq hm)
  exact ⟨h1, by omega, by omega⟩
theorem due_arp_room {a b c d e : Int} {msg : Str} {ks : List Int} (h : dueArp a b c d e = (msg, ks)) (hm : (msg == Str.ofString "") = true) : Octs ks ∧ ks.length = 28 := due_arp_good h (eq_of_beq hm)
theorem spare_head : Octs (List.replicate (Int.toNat 12) (9 : Int) ++ [8, 6]) ∧ 14 ≤ (List.replicate (Int.toNat 12) (9 : Int) ++ [8, 6]).length ∧ (List.replicate (Int.toNat 12) (9 : Int) ++ [8, 6]).length ≤ 26 :=
  ⟨octs_app (octs_rep (by decide) _) (octs_cons (by decide) (octs_cons (by decide) octs_nil)), by decide, by decide⟩
theorem spare_body : Octs ([0, 1, 8, 0, 6, 4, 0, 1] ++ List.replicate (Int.toNat 20) (5 : Int)) ∧ ([0, 1, 8, 0, 6, 4, 0, 1] ++ List.replicate (Int.toNat 20) (5 : Int)).length = 28 :=
  ⟨octs_app (octs_cons (by decide) (octs_cons (by decide) (octs_cons (by decide) (octs_cons (by decide) (octs_cons (by decide) (octs_cons (by decide) (octs_cons (by decide) (octs_cons (by decide) octs_nil)))))))) (octs_rep (by decide) _), by decide⟩
end

section -- part G18
set_option maxHeartbeats 4000000

inductive Known (p : Prop) : Prop | mk : p → Known p
theorem head_small {ks : List Int} {n : Nat} (h : HeadIs ks (some n)) : 14 + 4 * n ≤ ks.length := by
  cases h with
  | found n h1 h2 h3 => unfold numW at h1; omega
theorem head_q {ks : List Int} (ho : Octs ks) {n : Nat} (h : HeadIs ks (some n)) : dueFrame (wholeOf (slc ks 0 6)) (wholeOf (slc ks 6 12)) (headTags ks n) (wordAt ks n) = (Str.ofString "", ks.take (14 + 4 * (n : Int)).toNat) := by
  rw [head_back ho h, show (14 + 4 * (n : Int)).toNat = 14 + 4 * n by omega]
theorem HeadRep.ref {nx : List (Addr × Obj)} {r : Value} {ks : List Int} : ∀ {o : Option Nat}, HeadRep nx r ks o → ∃ D, r = .ref D
  | none, ⟨D, c, t, n2, e, _⟩ => ⟨D, e⟩
  | some n, ⟨D, c, t, n2, l, vs, n3, t0, t1, t3, t4, e, _⟩ => ⟨D, e⟩
theorem head_same {nx : List (Addr × Obj)} {r : Value} {ks : List Int} {o o2 : Option Nat} (hK : Known (HeadIs ks o)) (hI : HeadIs ks o2) (hH : HeadRep nx r ks o2) : ∃ D, r = .ref D ∧ DatIn nx (.ref D) (headDat ks o) := by
  obtain ⟨hJ⟩ := hK
  obtain rfl := hI.only hJ
  obtain ⟨D, rfl⟩ := hH.ref
  exact ⟨D, rfl, hH.dat⟩
theorem con_dhead' (w : World) (l : Addr) (vs : List Value) (nn : Nat) (ks : List Int) (news : List (Addr × Obj)) (hm : (l, listOf vs.toArray nn) ∈ news) (hi : IntsAre vs ks) (ho : Octs ks) (hz : ks.length ≤ 1000) :
    Con w 213 3 news [.ref l] (fun _ => True)
      (fun r n' => (∀ q ∈ news, q ∈ n') ∧ ∃ o, HeadIs ks o ∧ HeadRep n' r ks o) :=
  con_map (subCons hm subRefl) (con_dhead w l vs nn ks news hi ho hz) fun r n' h => ⟨n', ⟨subTrans (subTail subRefl) h.1, h.2⟩, subRefl⟩








theorem con_rholds (w : World) (l : Addr) (vs : List Value) (nn : Nat) (ks : List Int) (news : List (Addr × Obj)) (hi : IntsAre vs ks) (ho : Octs ks) (hz : ks.length ≤ 300) :
    ConS w 262 10 ((l, listOf vs.toArray nn) :: news) [.ref l] (fun _ => True)
      (fun r n' => r = .bool true ∧ (∀ q ∈ (l, listOf vs.toArray nn) :: news, q ∈ n')) := by
  have hl := hi.length
  unfold ConS
  k_fill
  intro mean mg mb dp un gd cn cs a ccd cl outer A₀ base g₀ h₀ L m s Q E B F X N T XB TB KD T0 hk hpre hd hu hret
  refine wpAny_call ?_
  k_dflt (refine' code_defSX ?k1 ?k2 ?k3 ?k4 ?k5 ?XB ?TB ?D ?T0 ?kA ?kF ?kK ?k6 ?k7 ?k8 ?k9 ?kB ?_ ?c2 ?c3 ?c4 ?c5; (case kA => exact rfl); (case kF => exact rfl); (case kK => first | assumption | exact rfl); (case k2 => k_asm); (case k1 => k_asm); (case XB => assumption); (case TB => assumption); (case D => assumption); (case T0 => first | assumption | exact KtsTurn.refl); (case k3 => k_asm); (case k4 => k_asm); (case k5 => k_asm); (case k6 => k_is); (case k7 => k_is); (case k8 => ktr_room); (case k9 => exact BindsTo.of_eq rfl); (case kB => exact locs rfl); (case c2 => exact rfl); (case c3 => exact rfl); (case c4 => exact rfl); (case c5 => decide); k_whole; intro g' L' h' FG' F' N' B' X' T' D'; (try dsimp only); (try k_lift B'); (try k_fold))
  repeat' (first | with_reducible (k_here; (with_reducible show wpAny _ _ (compareOp CmpOp.Eq (Value.ref _) (Value.ref _)) _ _ _); k_dflt (apply eq_dat; (case N => k_asm); (case Da => with_reducible assumption); (case Db => first | with_reducible assumption); (case sa => (first | (repeat' (first | with_reducible exact subRefl | with_reducible exact subNil | with_reducible assumption | with_reducible exact subAppR | (refine subCons ?_ ?_; focus (first | with_reducible exact subAppR | kbu_src)) | refine subTail ?_ | refine inL ?_)) | (repeat' (first | with_reducible exact subRefl | with_reducible exact subNil | with_reducible assumption | (refine subCons ?_ ?_; focus kbu_src) | refine subTail ?_)))); (case sb => (first | (repeat' (first | with_reducible exact subRefl | with_reducible exact subNil | with_reducible assumption | with_reducible exact subAppR | (refine subCons ?_ ?_; focus (first | with_reducible exact subAppR | kbu_src)) | refine subTail ?_ | refine inL ?_)) | (repeat' (first | with_reducible exact subRefl | with_reducible exact subNil | with_reducible assumption | (refine subCons ?_ ?_; focus kbu_src) | refine subTail ?_)))); (case q => first | rfl ); (case hd => first | exact mn_ok (due_msg_str _)); (case hu => ke_room); k_whole)) | with_reducible (k_here; (with_reducible show wpAny _ _ (compareOp CmpOp.NotEq (Value.ref _) (Value.ref _)) _ _ _); k_dflt (apply ne_mn; (case N => k_asm); (case Da => with_reducible assumption); (case hD => (first | kbu_src | k_mem)); (case hc => (first | kbu_src | k_mem)); (case hi => with_reducible assumption); (case sa => (first | (repeat' (first | with_reducible exact subRefl | with_reducible exact subNil | with_reducible assumption | with_reducible exact subAppR | (refine subCons ?_ ?_; focus (first | with_reducible exact subAppR | kbu_src)) | refine subTail ?_ | refine inL ?_)) | (repeat' (first | with_reducible exact subRefl | with_reducible exact subNil | with_reducible assumption | (refine subCons ?_ ?_; focus kbu_src) | refine subTail ?_)))); (case q => exact head_q (by with_reducible assumption) (by with_reducible assumption)); (case hd => exact mn_ok (due_frame_str _ _ _ _)); (case hu => ke_room); k_whole)) | with_reducible (k_here; (with_reducible show wpAny _ _ (call (Value.ref 255) _) _ _ _); k_dflt (apply con_tmsg; ((case cN => k_asm); (case cF => k_asm); (case cB => k_asm); (case cX => k_asm); (case cT => k_asm); (try ((case cXB => assumption); (case cTB => assumption); (case cKD => assumption); (case cT0 => first | assumption | exact KtsTurn.refl))); (case cK => first | exact rfl | assumption); (try case hm => (first | kbu_src | k_mem)); (try case hx => (first | kbu_src | k_mem)); (try case hxd => (first | kbu_src | k_mem)); (try case hi => with_reducible assumption); (try case ho => (first | (first | with_reducible assumption | exact octs_take (by with_reducible assumption) | exact octs_drop (by with_reducible assumption) | exact octs_take (octs_drop (by with_reducible assumption))) | (with_reducible assumption))); (try case hdat => (first | with_reducible assumption | (refine DatAll.mono ?_ (by with_reducible assumption); (first | (repeat' (first | with_reducible exact subRefl | with_reducible exact subNil | with_reducible assumption | with_reducible exact subAppR | (refine subCons ?_ ?_; focus (first | with_reducible exact subAppR | kbu_src)) | refine subTail ?_ | refine inL ?_)) | (repeat' (first | with_reducible exact subRefl | with_reducible exact subNil | with_reducible assumption | (refine subCons ?_ ?_; focus kbu_src) | refine subTail ?_)))))); (try case hz => (first | ((rw [headTags_len]; omega)) | ((simp only [List.length_take, List.length_drop, List.length_append, List.length_replicate]; omega)) | (first | omega | exact ⟨by omega, by omega⟩))); (case cP => (first | (refine ⟨by with_reducible assumption, ?_⟩; (refine slc_len (n := 8) ?_ ?_ ?_ <;> omega)) | (first | trivial | decide | omega | exact ⟨by decide, by decide⟩ | exact ⟨by with_reducible assumption, by with_reducible assumption, by omega, by omega⟩))); (case cD => ktr_room); (case cU => ktr_units)); refine RIn.out ?_; intro D9' c' ys' t' n2' msg' xs' n' q1 m1 m2 q3 q4 h' tk' h₁' T0' F' N' B' X' T' D'; have hd' := mn_in q3 m1 m2 q4; replace N' := newsDrop N' (subApp q1 subRefl); simp only [List.cons_append, List.nil_append] at N'; (try dsimp only); (try k_lift B'); (try k_sweep))) | with_reducible (k_here; (with_reducible show wpAny _ _ (call (Value.ref 248) _) _ _ _); k_dflt (apply con_dmsg; ((case cN => k_asm); (case cF => k_asm); (case cB => k_asm); (case cX => k_asm); (case cT => k_asm); (try ((case cXB => assumption); (case cTB => assumption); (case cKD => assumption); (case cT0 => first | assumption | exact KtsTurn.refl))); (case cK => first | exact rfl | assumption); (try case hm => (first | kbu_src | k_mem)); (try case hx => (first | kbu_src | k_mem)); (try case hxd => (first | kbu_src | k_mem)); (try case hi => with_reducible assumption); (try case ho => (first | (first | with_reducible assumption | exact octs_take (by with_reducible assumption) | exact octs_drop (by with_reducible assumption) | exact octs_take (octs_drop (by with_reducible assumption))) | (with_reducible assumption))); (try case hdat => (first | with_reducible assumption | (refine DatAll.mono ?_ (by with_reducible assumption); (first | (repeat' (first | with_reducible exact subRefl | with_reducible exact subNil | with_reducible assumption | with_reducible exact subAppR | (refine subCons ?_ ?_; focus (first | with_reducible exact subAppR | kbu_src)) | refine subTail ?_ | refine inL ?_)) | (repeat' (first | with_reducible exact subRefl | with_reducible exact subNil | with_reducible assumption | (refine subCons ?_ ?_; focus kbu_src) | refine subTail ?_)))))); (try case hz => (first | ((rw [headTags_len]; omega)) | ((simp only [List.length_take, List.length_drop, List.length_append, List.length_replicate]; omega)) | (first | omega | exact ⟨by omega, by omega⟩))); (case cP => (first | (refine ⟨by with_reducible assumption, ?_⟩; (refine slc_len (n := 8) ?_ ?_ ?_ <;> omega)) | (first | trivial | decide | omega | exact ⟨by decide, by decide⟩ | exact ⟨by with_reducible assumption, by with_reducible assumption, by omega, by omega⟩))); (case cD => ktr_room); (case cU => ktr_units)); refine RIn.out ?_; intro D9' c' ys' t' n2' msg' xs' n' q1 m1 m2 q3 q4 h' tk' F' N'; have hd' := mn_in q3 m1 m2 q4; replace N' := newsDrop N' (subApp q1 subRefl); simp only [List.cons_append, List.nil_append] at N'; (try dsimp only); (try k_sweep))) | with_reducible (k_here; (with_reducible show wpAny _ _ (call (Value.ref 220) _) _ _ _); k_dflt (apply con_thead; ((case cN => k_asm); (case cF => k_asm); (case cB => k_asm); (case cX => k_asm); (case cT => k_asm); (try ((case cXB => assumption); (case cTB => assumption); (case cKD => assumption); (case cT0 => first | assumption | exact KtsTurn.refl))); (case cK => first | exact rfl | assumption); (try case hm => (first | kbu_src | k_mem)); (try case hx => (first | kbu_src | k_mem)); (try case hxd => (first | kbu_src | k_mem)); (try case hi => with_reducible assumption); (try case ho => (first | (first | with_reducible assumption | exact octs_take (by with_reducible assumption) | exact octs_drop (by with_reducible assumption) | exact octs_take (octs_drop (by with_reducible assumption))) | (with_reducible assumption))); (try case hdat => (first | with_reducible assumption | (refine DatAll.mono ?_ (by with_reducible assumption); (first | (repeat' (first | with_reducible exact subRefl | with_reducible exact subNil | with_reducible assumption | with_reducible exact subAppR | (refine subCons ?_ ?_; focus (first | with_reducible exact subAppR | kbu_src)) | refine subTail ?_ | refine inL ?_)) | (repeat' (first | with_reducible exact subRefl | with_reducible exact subNil | with_reducible assumption | (refine subCons ?_ ?_; focus kbu_src) | refine subTail ?_)))))); (try case hz => (first | ((rw [headTags_len]; omega)) | ((simp only [List.length_take, List.length_drop, List.length_append, List.length_replicate]; omega)) | (first | omega | exact ⟨by omega, by omega⟩))); (case cP => (first | (refine ⟨by with_reducible assumption, ?_⟩; (refine slc_len (n := 8) ?_ ?_ ?_ <;> omega)) | (first | trivial | decide | omega | exact ⟨by decide, by decide⟩ | exact ⟨by with_reducible assumption, by with_reducible assumption, by omega, by omega⟩))); (case cD => ktr_room); (case cU => ktr_units)); intro r' n' hR' h' tk' h₁' T0' F' N' B' X' T' D'; obtain ⟨q1, o', hI', hH'⟩ := hR'; obtain ⟨D', q2, hd'⟩ := head_same (by assumption) hI' hH'; subst q2; replace N' := newsDrop N' (subApp q1 subRefl); simp only [List.cons_append, List.nil_append] at N'; (try dsimp only); (try k_lift B'); (try k_sweep))) | with_reducible (k_here; (with_reducible show wpAny _ _ (call (Value.ref 213) _) _ _ _); k_dflt (apply con_dhead'; ((case cN => k_asm); (case cF => k_asm); (case cB => k_asm); (case cX => k_asm); (case cT => k_asm); (try ((case cXB => assumption); (case cTB => assumption); (case cKD => assumption); (case cT0 => first | assumption | exact KtsTurn.refl))); (case cK => first | exact rfl | assumption); (try case hm => (first | kbu_src | k_mem)); (try case hx => (first | kbu_src | k_mem)); (try case hxd => (first | kbu_src | k_mem)); (try case hi => with_reducible assumption); (try case ho => (first | (first | with_reducible assumption | exact octs_take (by with_reducible assumption) | exact octs_drop (by with_reducible assumption) | exact octs_take (octs_drop (by with_reducible assumption))) | (with_reducible assumption))); (try case hdat => (first | with_reducible assumption | (refine DatAll.mono ?_ (by with_reducible assumption); (first | (repeat' (first | with_reducible exact subRefl | with_reducible exact subNil | with_reducible assumption | with_reducible exact subAppR | (refine subCons ?_ ?_; focus (first | with_reducible exact subAppR | kbu_src)) | refine subTail ?_ | refine inL ?_)) | (repeat' (first | with_reducible exact subRefl | with_reducible exact subNil | with_reducible assumption | (refine subCons ?_ ?_; focus kbu_src) | refine subTail ?_)))))); (try case hz => (first | ((rw [headTags_len]; omega)) | ((simp only [List.length_take, List.length_drop, List.length_append, List.length_replicate]; omega)) | (first | omega | exact ⟨by omega, by omega⟩))); (case cP => (first | (refine ⟨by with_reducible assumption, ?_⟩; (refine slc_len (n := 8) ?_ ?_ ?_ <;> omega)) | (first | trivial | decide | omega | exact ⟨by decide, by decide⟩ | exact ⟨by with_reducible assumption, by with_reducible assumption, by omega, by omega⟩))); (case cD => ktr_room); (case cU => ktr_units)); intro r' n' hR' h' tk' F' N'; obtain ⟨q1, o', hI', hH'⟩ := hR'; have hd' := hH'.dat; have hK' := Known.mk hI'; rcases o' with _ | no'; rotate_left; (obtain ⟨D', c', t', n2', l', vs', n3', t0', t1', t3', t4', q2, m1, m2, m3, ha'⟩ := hH'); subst q2; have hS' := head_small hI'; (replace N' := newsDrop N' (subCons m1 (subCons m2 (subCons m3 (subApp q1 subRefl))))); simp only [List.cons_append, List.nil_append] at N'; (try dsimp only); (try k_sweep); rotate_left; (obtain ⟨D', c', t', n2', q2, m1, m2⟩ := hH'); subst q2; (replace N' := newsDrop N' (subCons m1 (subCons m2 (subApp q1 subRefl)))); simp only [List.cons_append, List.nil_append] at N'; (try dsimp only); (try k_sweep))) | with_reducible (k_here; (with_reducible show wpAny _ _ (compareOp CmpOp.NotEq (Value.ref _) (Value.ref _)) _ _ _); k_dflt (apply ne_dat; (case N => k_asm); (case Da => with_reducible assumption); (case Db => with_reducible assumption); (case sa => (first | (repeat' (first | with_reducible exact subRefl | with_reducible exact subNil | with_reducible assumption | with_reducible exact subAppR | (refine subCons ?_ ?_; focus (first | with_reducible exact subAppR | kbu_src)) | refine subTail ?_ | refine inL ?_)) | (repeat' (first | with_reducible exact subRefl | with_reducible exact subNil | with_reducible assumption | (refine subCons ?_ ?_; focus kbu_src) | refine subTail ?_)))); (case sb => (first | (repeat' (first | with_reducible exact subRefl | with_reducible exact subNil | with_reducible assumption | with_reducible exact subAppR | (refine subCons ?_ ?_; focus (first | with_reducible exact subAppR | kbu_src)) | refine subTail ?_ | refine inL ?_)) | (repeat' (first | with_reducible exact subRefl | with_reducible exact subNil | with_reducible assumption | (refine subCons ?_ ?_; focus kbu_src) | refine subTail ?_)))); (case q => rfl); (case hd => first | exact head_ok _ _ | exact mn_ok (due_frame_str _ _ _ _) | exact mn_ok (due_arp_str _ _ _ _ _)); (case hu => ke_room); k_whole)) | with_reducible (k_here; (with_reducible show wpAny _ _ (call (Value.ref 208) _) _ _ _); k_dflt (apply con_tframe; ((case cN => k_asm); (case cF => k_asm); (case cB => k_asm); (case cX => k_asm); (case cT => k_asm); (try ((case cXB => assumption); (case cTB => assumption); (case cKD => assumption); (case cT0 => first | assumption | exact KtsTurn.refl))); (case cK => first | exact rfl | assumption); (try case hm => (first | kbu_src | k_mem)); (try case hx => (first | kbu_src | k_mem)); (try case hxd => (first | kbu_src | k_mem)); (try case hi => with_reducible assumption); (try case ho => (first | (first | with_reducible assumption | exact octs_take (by with_reducible assumption) | exact octs_drop (by with_reducible assumption) | exact octs_take (octs_drop (by with_reducible assumption))) | (with_reducible assumption))); (try case hdat => (first | with_reducible assumption | (refine DatAll.mono ?_ (by with_reducible assumption); (first | (repeat' (first | with_reducible exact subRefl | with_reducible exact subNil | with_reducible assumption | with_reducible exact subAppR | (refine subCons ?_ ?_; focus (first | with_reducible exact subAppR | kbu_src)) | refine subTail ?_ | refine inL ?_)) | (repeat' (first | with_reducible exact subRefl | with_reducible exact subNil | with_reducible assumption | (refine subCons ?_ ?_; focus kbu_src) | refine subTail ?_)))))); (try case hz => (first | ((rw [headTags_len]; omega)) | ((simp only [List.length_take, List.length_drop, List.length_append, List.length_replicate]; omega)) | (first | omega | exact ⟨by omega, by omega⟩))); (case cP => (first | (refine ⟨by with_reducible assumption, ?_⟩; (refine slc_len (n := 8) ?_ ?_ ?_ <;> omega)) | (first | trivial | decide | omega | exact ⟨by decide, by decide⟩ | exact ⟨by with_reducible assumption, by with_reducible assumption, by omega, by omega⟩))); (case cD => ktr_room); (case cU => ktr_units)); (refine RDue.out ?_; intro D9' c' ys' t' n2' msg' ks' q3 q4 h' tk' h₁' T0' F' N' B' X' T' D'; have hd' := mn_news N' q3 q4; (try dsimp only); (try k_lift B'); (try k_sweep)))) | with_reducible (k_here; (with_reducible show wpAny _ _ (subscriptTail _ (Expr.Slice none (some _) none _) (Value.ref _) (Value.ref _)) _ _ _); k_dflt (apply cut_upto (s := ⟨_, _, _, _, _⟩); (case F => k_asm); (case N => k_asm); (case hm => (first | kbu_src | k_mem)); (case hi => with_reducible assumption); (case h0 => first | omega | exact Int.fmod_nonneg_of_pos _ (by omega)); (case hz => ((try simp only [List.length_drop, List.length_take]); omega)); (try case hs => with_unfolding_all rfl); (try case ht => intro _; with_unfolding_all rfl); k_whole); intro D' ws' h' F' N' l1 hI'; (try k_lt l1); (try k_sweep)) | with_reducible (k_here; (with_reducible show wpAny _ _ (subscriptTail _ (Expr.Slice (some _) none none _) (Value.ref _) (Value.ref _)) _ _ _); k_dflt (apply cut_from (s := ⟨_, _, _, _, _⟩); (case F => k_asm); (case N => k_asm); (case hm => (first | kbu_src | k_mem)); (case hi => with_reducible assumption); (case h0 => first | omega | exact Int.fmod_nonneg_of_pos _ (by omega)); (case hz => ((try simp only [List.length_drop, List.length_take]); omega)); (try case hs => with_unfolding_all rfl); (try case ht => intro _; with_unfolding_all rfl); k_whole); intro D' ws' h' F' N' l1 hI'; (try k_lt l1); (try k_sweep)) | with_reducible (k_here; (with_reducible show wpAny _ _ (subscriptTail _ _ (Value.ref _) (Value.int _ _)) _ _ _); k_dflt (apply item_tupleT; (case ht => exact News.isTup (by k_asm) (by kbu_src)); (case hlo => decide); (case hhi => decide); (case hj => rfl); (case hx => rfl); (try case hs => with_unfolding_all rfl); k_whole)) | (k_unfold; (try dsimp only)) | (k_end; wrow_close) | walk1 | (dsimp only; walk1) | (leave1; walk_say "STEP leave1"; try dsimp only))
  all_goals (try dsimp only)
  all_goals first
    | exact conS_ret hret (by assumption) (by k_asm) (by k_asm) (by assumption) (by assumption) (by assumption) (by assumption) ⟨rfl, by (repeat' (first | with_reducible exact subRefl | with_reducible exact subNil | with_reducible assumption | with_reducible exact subAppR | (refine subCons ?_ ?_; focus (first | with_reducible assumption | with_reducible exact subAppR | (with_reducible (repeat (first | exact List.mem_cons_self | assumption | refine List.mem_cons_of_mem _ ?_)); done))) | refine subTail ?_ | refine inL ?_))⟩
end
section -- part G19
set_option maxHeartbeats 4000000

theorem octs_set {ks : List Int} (h : Octs ks) {x : Int} (hx : 0 ≤ x ∧ x < 256) (j : Nat) : Octs (ks.set j x) := fun o ho => by
  rcases List.mem_or_eq_of_mem_set ho with q | q
  · exact h o q
  · rw [q]; exact hx




inductive RHurt (l : Addr) (n : Nat) (news : List (Addr × Obj)) : Value → List (Addr × Obj) → Prop
  | mk {vs' : List Value} {nn' : Nat} {ks' : List Int} (h1 : IntsAre vs' ks') (h2 : Octs ks') (h3 : ks'.length = n) : RHurt l n news (.ref l) ((l, listOf (List.toArray vs') nn') :: news)
theorem RHurt.out {l : Addr} {n : Nat} {news : List (Addr × Obj)} {k : Value → List (Addr × Obj) → Prop} (f : ∀ vs' nn' ks', IntsAre vs' ks' → Octs ks' → ks'.length = n → k (.ref l) ((l, listOf (List.toArray vs') nn') :: news)) : ∀ r n', RHurt l n news r n' → k r n' := fun _ _ ⟨a, b, c⟩ => f _ _ _ a b c
theorem con_hurt (w : World) (l : Addr) (vs : List Value) (nn : Nat) (ks : List Int) (sz x k : Int) (t u v : Tok) (news : List (Addr × Obj)) (hi : IntsAre vs ks) (ho : Octs ks) (hz : 42 ≤ ks.length ∧ ks.length ≤ 200) (hsz : 0 ≤ sz ∧ sz + 28 ≤ (ks.length : Int)) (hk : 0 ≤ k ∧ k ≤ 2) (hne : AllLt l news) :
    Con w 276 2 ((l, listOf vs.toArray nn) :: news) [.ref l, .int sz t, .int x u, .int k v] (fun _ => True)
      (RHurt l ks.length news) := by
  have hl := hi.length
  unfold Con
  k_fill
  intro mean mg mb dp un gd cn cs a ccd cl outer A₀ base h₀ L m s Q E B F X N T hk0 hpre hd hu hret
  refine wpAny_call ?_
  k_dflt (first | cell_enter | (refine' code_defC ?k1 ?k2 ?k3 ?k4 ?k5 ?kA ?kF ?kK ?k6 ?k7 ?k8 ?k9 ?kB ?kD ?_ ?c2 ?c3 ?c4; (case kA => exact rfl); (case kF => exact rfl); (case kK => assumption); (case k1 => k_asm); (case k2 => k_asm); (case k3 => k_asm); (case k4 => k_asm); (case k5 => k_asm); (case k6 => k_is); (case k7 => k_is); (case k8 => ktr_room); (case k9 => exact BindsTo.of_eq rfl); (case kB => exact rfl); (case kD => decide +kernel); (case c2 => exact rfl); (case c3 => exact rfl); (case c4 => exact rfl); k_whole; intro g' L' h' tk' cells' FG' F' N' Y' B' X' T' l1; (try k_lt l1); k_cells Y'; (try simp only [List.cons_append, List.nil_append] at N'); (try dsimp only); (try k_lift B'); (try k_fold)))
  repeat' (first | with_reducible (k_here; (with_reducible show wpAny _ _ (call (Value.builtin "len") [Value.ref _]) _ _ _); k_dflt (apply lenN; (case N => k_asm); (case hm => (first | kbu_src | k_mem)); (case hz => omega); k_whole)) | with_reducible (k_here; (with_reducible show wpAny _ _ (subscriptTail (Expr.List _ _) _ (Value.ref _) (Value.int _ _)) _ _ _); (with_unfolding_all apply item_anyK; (case hl => is_list); (case hi => l_ints); (case h0 => l_idx); (case h1 => l_idx); (case hfit => l_idx); (case hs => with_unfolding_all rfl); k_whole); intro _) | (k_unfold; (try dsimp only)) | (k_end; wrow_close) | walk1 | (dsimp only; walk1) | (leave1; walk_say "STEP leave1"; try dsimp only))
  all_goals (try dsimp only)
  all_goals first
    | (rename IntsAre _ (List.set _ _ _) => hI9
       refine con_ret hret ((l, listOf (List.toArray _) nn) :: news) (by k_asm) (newsDrop (by k_asm) ?_) (.mk hI9 ?_ ?_)
       · first | (refine subTrans ?_ (by with_reducible assumption); (repeat' (first | with_reducible exact subRefl | with_reducible exact subNil | with_reducible assumption | (refine subCons ?_ ?_; focus (first | with_reducible assumption | (with_reducible (repeat (first | exact List.mem_cons_self | assumption | refine List.mem_cons_of_mem _ ?_)); done))) | refine subTail ?_)); done) | ((repeat' (first | with_reducible exact subRefl | with_reducible exact subNil | with_reducible assumption | (refine subCons ?_ ?_; focus (first | with_reducible assumption | (with_reducible (repeat (first | exact List.mem_cons_self | assumption | refine List.mem_cons_of_mem _ ?_)); done))) | refine subTail ?_)); done)
       · repeat' (first | exact ho | refine octs_set ?_ ?_ _)
         all_goals first | exact fmod_in _ (by decide) | exact getD_all (P := fun v => 0 ≤ v ∧ v < 256) (by decide) (by decide) _
       · simp only [List.length_set])
    | (refine con_ret hret ((l, listOf (List.toArray vs) nn) :: news) (by k_asm) (newsDrop (by k_asm) ?_) (.mk hi ho rfl)
       · first | (refine subTrans ?_ (by with_reducible assumption); (repeat' (first | with_reducible exact subRefl | with_reducible exact subNil | with_reducible assumption | (refine subCons ?_ ?_; focus (first | with_reducible assumption | (with_reducible (repeat (first | exact List.mem_cons_self | assumption | refine List.mem_cons_of_mem _ ?_)); done))) | refine subTail ?_)); done) | ((repeat' (first | with_reducible exact subRefl | with_reducible exact subNil | with_reducible assumption | (refine subCons ?_ ?_; focus (first | with_reducible assumption | (with_reducible (repeat (first | exact List.mem_cons_self | assumption | refine List.mem_cons_of_mem _ ?_)); done))) | refine subTail ?_)); done))
end
section -- part G20
set_option maxHeartbeats 1200000

inductive Passed (n : Nat) : Prop | mk : Passed n
inductive AnsLt (y dy : Addr) (oy od : Obj) (news : List (Addr × Obj)) : Prop | mk : (∀ p ∈ news, p.1 < dy) → @LT.lt Nat _ dy y → AnsLt y dy oy od news
theorem AnsLt.mk' {h₀ h : Heap} {L y dy : Addr} {oy od : Obj} {news : List (Addr × Obj)} (_N : News h₀ L h ((y, oy) :: (dy, od) :: news)) (h1 : ∀ p ∈ news, p.1 < dy) (h2 : @LT.lt Nat _ dy y) : AnsLt y dy oy od news := .mk h1 h2
theorem ans_keep {h₀ h : Heap} {L y dy : Addr} {oy od : Obj} {big n0 news : List (Addr × Obj)} (N : News h₀ L h big) (hA : AnsLt y dy oy od n0) (hy : (y, oy) ∈ big) (hdy : (dy, od) ∈ big) (hs : ∀ q ∈ news, q ∈ big) (hn : ∀ q ∈ news, q ∈ n0) : News h₀ L h ((y, oy) :: (dy, od) :: news) ∧ AllLt dy news ∧ AllLt y news ∧ @LT.lt Nat _ dy y := by
  obtain ⟨h1, h2⟩ := hA
  exact ⟨newsDrop N (subCons hy (subCons hdy hs)), allLt_of fun p hp => h1 p (hn p hp), allLt_of fun p hp => Nat.lt_trans (h1 p (hn p hp)) h2, h2⟩
theorem con_answer' (w : World) (x dx : Addr) (h0 h1 h2 h3 h4 : Int) (k0 k1 k2 k3 k4 t0 t1 t2 t3 t4 : Tok) (vo va vb vc vd : Int) (ad mc : Int) (u v : Tok) (news : List (Addr × Obj)) (hx : (x, instObj 122 dx) ∈ news) (hxd : (dx, arpDict h0 h1 h2 h3 h4 k0 k1 k2 k3 k4 t0 t1 t2 t3 t4 vo va vb vc vd) ∈ news) :
    Con w 147 3 news [.ref x, .int ad u, .int mc v] (fun _ => True)
      (RAns vo va vb vd ad mc t1 t2 u v news) :=
  con_map (subCons hx (subCons hxd subRefl)) (con_answer w x dx h0 h1 h2 h3 h4 k0 k1 k2 k3 k4 t0 t1 t2 t3 t4 vo va vb vc vd ad mc u v news) fun r n' h => by
    cases h with
    | no a => exact ⟨news, .no a, subTail (subTail subRefl)⟩
    | yes a d e => exact ⟨_, .yes a (fun p hp => d p (.tail _ (.tail _ hp))) e, subCons (.head _) (subCons (.tail _ (.head _)) (subTail (subTail (subTail (subTail subRefl)))))⟩
section
variable {prog : Program} {w : World} {A : Around} {E : Value → Shared → Prop} {s : Shared} {h₀ : Heap} {L a b : Addr} {news : List (Addr × Obj)} {vs us : List Value} {ks : List Int} {n1 n2 : Nat} {Q : Value → Shared → Prop}
theorem ints_ok8 (ks : List Int) : kqdOk 8 (.list (ks.map Dat.int)) = true := ints_ok 7 ks
theorem ne_ints (N : News h₀ L s.heap news) (ha : (a, listOf (List.toArray vs) n1) ∈ news) (hb : (b, listOf (List.toArray us) n2) ∈ news) (hi : IntsAre vs ks) (hj : IntsAre us ks) (hu : A.units + 64 < cLine) (h : Q (.bool false) s) :
    wpAny (model prog w) A (compareOp .NotEq (.ref a) (.ref b)) Q E s :=
  ne_dat N (.list ha (ints_dat hi)) (fun _ h => h) (.list hb (ints_dat hj)) (fun _ h => h) rfl (ints_ok8 ks) hu h
theorem eq_ints (N : News h₀ L s.heap news) (ha : (a, listOf (List.toArray vs) n1) ∈ news) (hb : (b, listOf (List.toArray us) n2) ∈ news) (hi : IntsAre vs ks) (hj : IntsAre us ks) (hu : A.units + 64 < cLine) (h : Q (.bool true) s) :
    wpAny (model prog w) A (compareOp .Eq (.ref a) (.ref b)) Q E s :=
  eq_dat N (.list ha (ints_dat hi)) (fun _ h => h) (.list hb (ints_dat hj)) (fun _ h => h) rfl (ints_ok8 ks) hu h
theorem stop_exec {M : Model} {env : Env} {st : Stmt} {Q : Flow → Shared → Prop} (h : Stop (wpAny M A (exec st env) Q E s)) : wpAny M A (exec st env) Q E s := h
end








theorem con_aholds (w : World) (lv lt : Addr) (nn : Nat) (t0 t1 t2 t3 t4 : Tok) (vo va vb vc vd ad mc so : Int) (u v z : Tok) (vs : List Value) (n3 : Nat) (gs : List Tag) (news : List (Addr × Obj)) (hmv : (lv, listOf (List.toArray [.int vo t0, .int va t1, .int vb t2, .int vc t3, .int vd t4]) nn) ∈ news) (hmt : (lt, listOf vs.toArray n3) ∈ news) (hdat : DatAll news vs (gs.map tagDat)) (hgs : gs.length ≤ 20) :
    ConS w 269 12 ((lv, listOf (List.toArray [.int vo t0, .int va t1, .int vb t2, .int vc t3, .int vd t4]) nn) :: news) [.ref lv, .int ad u, .int mc v, .int so z, .ref lt] (fun _ => True)
      (fun r n' => r = .bool true ∧ (∀ q ∈ news, q ∈ n')) := by
  unfold ConS
  k_fill
  intro mean mg mb dp un gd cn cs a ccd cl outer A₀ base g₀ h₀ L m s Q E B F X N T XB TB KD T0 hk hpre hd hu hret
  refine wpAny_call ?_
  k_dflt (refine' code_defSX ?k1 ?k2 ?k3 ?k4 ?k5 ?XB ?TB ?D ?T0 ?kA ?kF ?kK ?k6 ?k7 ?k8 ?k9 ?kB ?_ ?c2 ?c3 ?c4 ?c5; (case kA => exact rfl); (case kF => exact rfl); (case kK => first | assumption | exact rfl); (case k2 => k_asm); (case k1 => k_asm); (case XB => assumption); (case TB => assumption); (case D => assumption); (case T0 => first | assumption | exact KtsTurn.refl); (case k3 => k_asm); (case k4 => k_asm); (case k5 => k_asm); (case k6 => k_is); (case k7 => k_is); (case k8 => ktr_room); (case k9 => exact BindsTo.of_eq rfl); (case kB => exact locs rfl); (case c2 => exact rfl); (case c3 => exact rfl); (case c4 => exact rfl); (case c5 => decide); k_whole; intro g' L' h' FG' F' N' B' X' T' D'; (try dsimp only); (try k_lift B'); (try k_fold))
  repeat' (first | with_reducible (k_here; (fail_if_success (rename Passed 1 => hP9)); (with_reducible show wpAny _ _ (exec (Stmt.Assign [Expr.Attribute (Expr.Name (Str.ofString "answer") _) _ _] _ _) _) _ _ _); k_dflt (refine stop_exec ?_)) | with_reducible (k_here; (with_reducible show wpAny _ _ (call (Value.ref 147) _) _ _ _); k_dflt (apply con_answer'; ((case cN => k_asm); (case cF => k_asm); (case cB => k_asm); (case cX => k_asm); (case cT => k_asm); (try ((case cXB => assumption); (case cTB => assumption); (case cKD => assumption); (case cT0 => first | assumption | exact KtsTurn.refl))); (case cK => first | exact rfl | assumption); (try case hm => (first | kbu_src | k_mem)); (try case hx => (first | kbu_src | k_mem)); (try case hxd => (first | kbu_src | k_mem)); (try case hi => with_reducible assumption); (try case ho => (first | (first | with_reducible assumption | exact octs_take (by with_reducible assumption) | exact octs_drop (by with_reducible assumption) | exact octs_take (octs_drop (by with_reducible assumption))) | (with_reducible assumption))); (try case hdat => (first | with_reducible assumption | (refine DatAll.mono ?_ (by with_reducible assumption); (first | (repeat' (first | with_reducible exact subRefl | with_reducible exact subNil | with_reducible assumption | with_reducible exact subAppR | (refine subCons ?_ ?_; focus (first | with_reducible exact subAppR | kbu_src)) | refine subTail ?_ | refine inL ?_)) | (repeat' (first | with_reducible exact subRefl | with_reducible exact subNil | with_reducible assumption | (refine subCons ?_ ?_; focus kbu_src) | refine subTail ?_)))))); (try case hz => (first | ((rw [headTags_len]; omega)) | ((simp only [List.length_take, List.length_drop, List.length_append, List.length_replicate]; omega)) | (first | omega | exact ⟨by omega, by omega⟩))); (case cP => (first | (refine ⟨by with_reducible assumption, ?_⟩; (refine slc_len (n := 8) ?_ ?_ ?_ <;> omega)) | (first | trivial | decide | omega | exact ⟨by decide, by decide⟩ | exact ⟨by with_reducible assumption, by with_reducible assumption, by omega, by omega⟩))); (case cD => ktr_room); (case cU => ktr_units)); refine' RAns.out ?_ ?_); (first | (intro q0'; exfalso; omega) | (intros; (try dsimp only); (try k_sweep); rotate_left)); (first | (intro y' dy' g0' g1' g2' g3' g4' j0' j1' j2' j3' j4' u0' q0'; exfalso; omega) | (intro y' dy' g0' g1' g2' g3' g4' j0' j1' j2' j3' j4' u0' q0' qa1 qa2 h' tk' F' N'; have qA' := AnsLt.mk' N' qa1 qa2; (try dsimp only); (try k_sweep); rotate_left))) | with_reducible (k_here; (with_reducible show wpAny _ _ (compareOp CmpOp.NotEq (Value.ref _) (Value.ref _)) _ _ _); k_dflt (apply ne_dat; (case N => k_asm); (case Da => with_reducible assumption); (case Db => with_reducible assumption); (case sa => (first | (repeat' (first | with_reducible exact subRefl | with_reducible exact subNil | with_reducible assumption | with_reducible exact subAppR | (refine subCons ?_ ?_; focus (first | with_reducible exact subAppR | kbu_src)) | refine subTail ?_ | refine inL ?_)) | (repeat' (first | with_reducible exact subRefl | with_reducible exact subNil | with_reducible assumption | (refine subCons ?_ ?_; focus kbu_src) | refine subTail ?_)))); (case sb => (first | (repeat' (first | with_reducible exact subRefl | with_reducible exact subNil | with_reducible assumption | with_reducible exact subAppR | (refine subCons ?_ ?_; focus (first | with_reducible exact subAppR | kbu_src)) | refine subTail ?_ | refine inL ?_)) | (repeat' (first | with_reducible exact subRefl | with_reducible exact subNil | with_reducible assumption | (refine subCons ?_ ?_; focus kbu_src) | refine subTail ?_)))); (case q => rfl); (case hd => first | exact head_ok _ _ | exact mn_ok (due_frame_str _ _ _ _) | exact mn_ok (due_arp_str _ _ _ _ _)); (case hu => ke_room); k_whole)) | with_reducible (k_here; (with_reducible show wpAny _ _ (call (Value.ref 227) _) _ _ _); k_dflt (apply con_darp; ((case cN => k_asm); (case cF => k_asm); (case cB => k_asm); (case cX => k_asm); (case cT => k_asm); (try ((case cXB => assumption); (case cTB => assumption); (case cKD => assumption); (case cT0 => first | assumption | exact KtsTurn.refl))); (case cK => first | exact rfl | assumption); (try case hm => (first | kbu_src | k_mem)); (try case hx => (first | kbu_src | k_mem)); (try case hxd => (first | kbu_src | k_mem)); (try case hi => with_reducible assumption); (try case ho => (first | (first | with_reducible assumption | exact octs_take (by with_reducible assumption) | exact octs_drop (by with_reducible assumption) | exact octs_take (octs_drop (by with_reducible assumption))) | (with_reducible assumption))); (try case hdat => (first | with_reducible assumption | (refine DatAll.mono ?_ (by with_reducible assumption); (first | (repeat' (first | with_reducible exact subRefl | with_reducible exact subNil | with_reducible assumption | with_reducible exact subAppR | (refine subCons ?_ ?_; focus (first | with_reducible exact subAppR | kbu_src)) | refine subTail ?_ | refine inL ?_)) | (repeat' (first | with_reducible exact subRefl | with_reducible exact subNil | with_reducible assumption | (refine subCons ?_ ?_; focus kbu_src) | refine subTail ?_)))))); (try case hz => (first | ((rw [headTags_len]; omega)) | ((simp only [List.length_take, List.length_drop, List.length_append, List.length_replicate]; omega)) | (first | omega | exact ⟨by omega, by omega⟩))); (case cP => (first | (refine ⟨by with_reducible assumption, ?_⟩; (refine slc_len (n := 8) ?_ ?_ ?_ <;> omega)) | (first | trivial | decide | omega | exact ⟨by decide, by decide⟩ | exact ⟨by with_reducible assumption, by with_reducible assumption, by omega, by omega⟩))); (case cD => ktr_room); (case cU => ktr_units)); (refine RDue.out ?_; intro D' c' ys' t' n2' msg' ks' q3 q4 h' tk' F' N'; have hd' := mn_news N' q3 q4; (try dsimp only); (try k_sweep)))) | with_reducible (k_here; (with_reducible show wpAny _ _ (call (Value.ref 234) _) _ _ _); k_dflt (apply con_tarp; ((case cN => k_asm); (case cF => k_asm); (case cB => k_asm); (case cX => k_asm); (case cT => k_asm); (try ((case cXB => assumption); (case cTB => assumption); (case cKD => assumption); (case cT0 => first | assumption | exact KtsTurn.refl))); (case cK => first | exact rfl | assumption); (try case hm => (first | kbu_src | k_mem)); (try case hx => (first | kbu_src | k_mem)); (try case hxd => (first | kbu_src | k_mem)); (try case hi => with_reducible assumption); (try case ho => (first | (first | with_reducible assumption | exact octs_take (by with_reducible assumption) | exact octs_drop (by with_reducible assumption) | exact octs_take (octs_drop (by with_reducible assumption))) | (with_reducible assumption))); (try case hdat => (first | with_reducible assumption | (refine DatAll.mono ?_ (by with_reducible assumption); (first | (repeat' (first | with_reducible exact subRefl | with_reducible exact subNil | with_reducible assumption | with_reducible exact subAppR | (refine subCons ?_ ?_; focus (first | with_reducible exact subAppR | kbu_src)) | refine subTail ?_ | refine inL ?_)) | (repeat' (first | with_reducible exact subRefl | with_reducible exact subNil | with_reducible assumption | (refine subCons ?_ ?_; focus kbu_src) | refine subTail ?_)))))); (try case hz => (first | ((rw [headTags_len]; omega)) | ((simp only [List.length_take, List.length_drop, List.length_append, List.length_replicate]; omega)) | (first | omega | exact ⟨by omega, by omega⟩))); (case cP => (first | (refine ⟨by with_reducible assumption, ?_⟩; (refine slc_len (n := 8) ?_ ?_ ?_ <;> omega)) | (first | trivial | decide | omega | exact ⟨by decide, by decide⟩ | exact ⟨by with_reducible assumption, by with_reducible assumption, by omega, by omega⟩))); (case cD => ktr_room); (case cU => ktr_units)); (refine RDue.out ?_; intro D9' c' ys' t' n2' msg' ks' q3 q4 h' tk' h₁' T0' F' N' B' X' T' D'; have hd' := mn_news N' q3 q4; (try dsimp only); (try k_lift B'); (try k_sweep)))) | with_reducible (k_here; (with_reducible show wpAny _ _ (call (Value.ref 201) _) _ _ _); k_dflt (apply con_dframe; ((case cN => k_asm); (case cF => k_asm); (case cB => k_asm); (case cX => k_asm); (case cT => k_asm); (try ((case cXB => assumption); (case cTB => assumption); (case cKD => assumption); (case cT0 => first | assumption | exact KtsTurn.refl))); (case cK => first | exact rfl | assumption); (try case hm => (first | kbu_src | k_mem)); (try case hx => (first | kbu_src | k_mem)); (try case hxd => (first | kbu_src | k_mem)); (try case hi => with_reducible assumption); (try case ho => (first | (first | with_reducible assumption | exact octs_take (by with_reducible assumption) | exact octs_drop (by with_reducible assumption) | exact octs_take (octs_drop (by with_reducible assumption))) | (with_reducible assumption))); (try case hdat => (first | with_reducible assumption | (refine DatAll.mono ?_ (by with_reducible assumption); (first | (repeat' (first | with_reducible exact subRefl | with_reducible exact subNil | with_reducible assumption | with_reducible exact subAppR | (refine subCons ?_ ?_; focus (first | with_reducible exact subAppR | kbu_src)) | refine subTail ?_ | refine inL ?_)) | (repeat' (first | with_reducible exact subRefl | with_reducible exact subNil | with_reducible assumption | (refine subCons ?_ ?_; focus kbu_src) | refine subTail ?_)))))); (try case hz => (first | ((rw [headTags_len]; omega)) | ((simp only [List.length_take, List.length_drop, List.length_append, List.length_replicate]; omega)) | (first | omega | exact ⟨by omega, by omega⟩))); (case cP => (first | (refine ⟨by with_reducible assumption, ?_⟩; (refine slc_len (n := 8) ?_ ?_ ?_ <;> omega)) | (first | trivial | decide | omega | exact ⟨by decide, by decide⟩ | exact ⟨by with_reducible assumption, by with_reducible assumption, by omega, by omega⟩))); (case cD => ktr_room); (case cU => ktr_units)); (refine RDue.out ?_; intro D' c' ys' t' n2' msg' ks' q3 q4 h' tk' F' N'; have hd' := mn_news N' q3 q4; (try dsimp only); (try k_sweep)))) | with_reducible (k_here; (with_reducible show wpAny _ _ (call (Value.ref 208) _) _ _ _); k_dflt (apply con_tframe; ((case cN => k_asm); (case cF => k_asm); (case cB => k_asm); (case cX => k_asm); (case cT => k_asm); (try ((case cXB => assumption); (case cTB => assumption); (case cKD => assumption); (case cT0 => first | assumption | exact KtsTurn.refl))); (case cK => first | exact rfl | assumption); (try case hm => (first | kbu_src | k_mem)); (try case hx => (first | kbu_src | k_mem)); (try case hxd => (first | kbu_src | k_mem)); (try case hi => with_reducible assumption); (try case ho => (first | (first | with_reducible assumption | exact octs_take (by with_reducible assumption) | exact octs_drop (by with_reducible assumption) | exact octs_take (octs_drop (by with_reducible assumption))) | (with_reducible assumption))); (try case hdat => (first | with_reducible assumption | (refine DatAll.mono ?_ (by with_reducible assumption); (first | (repeat' (first | with_reducible exact subRefl | with_reducible exact subNil | with_reducible assumption | with_reducible exact subAppR | (refine subCons ?_ ?_; focus (first | with_reducible exact subAppR | kbu_src)) | refine subTail ?_ | refine inL ?_)) | (repeat' (first | with_reducible exact subRefl | with_reducible exact subNil | with_reducible assumption | (refine subCons ?_ ?_; focus kbu_src) | refine subTail ?_)))))); (try case hz => (first | ((rw [headTags_len]; omega)) | ((simp only [List.length_take, List.length_drop, List.length_append, List.length_replicate]; omega)) | (first | omega | exact ⟨by omega, by omega⟩))); (case cP => (first | (refine ⟨by with_reducible assumption, ?_⟩; (refine slc_len (n := 8) ?_ ?_ ?_ <;> omega)) | (first | trivial | decide | omega | exact ⟨by decide, by decide⟩ | exact ⟨by with_reducible assumption, by with_reducible assumption, by omega, by omega⟩))); (case cD => ktr_room); (case cU => ktr_units)); (refine RDue.out ?_; intro D9' c' ys' t' n2' msg' ks' q3 q4 h' tk' h₁' T0' F' N' B' X' T' D'; have hd' := mn_news N' q3 q4; (try dsimp only); (try k_lift B'); (try k_sweep)))) | with_reducible (k_here; (with_reducible show wpAny _ _ (call (Value.ref 241) _) _ _ _); k_dflt (apply con_fields'; ((case cN => k_asm); (case cF => k_asm); (case cB => k_asm); (case cX => k_asm); (case cT => k_asm); (try ((case cXB => assumption); (case cTB => assumption); (case cKD => assumption); (case cT0 => first | assumption | exact KtsTurn.refl))); (case cK => first | exact rfl | assumption); (try case hm => (first | kbu_src | k_mem)); (try case hx => (first | kbu_src | k_mem)); (try case hxd => (first | kbu_src | k_mem)); (try case hi => with_reducible assumption); (try case ho => (first | (first | with_reducible assumption | exact octs_take (by with_reducible assumption) | exact octs_drop (by with_reducible assumption) | exact octs_take (octs_drop (by with_reducible assumption))) | (with_reducible assumption))); (try case hdat => (first | with_reducible assumption | (refine DatAll.mono ?_ (by with_reducible assumption); (first | (repeat' (first | with_reducible exact subRefl | with_reducible exact subNil | with_reducible assumption | with_reducible exact subAppR | (refine subCons ?_ ?_; focus (first | with_reducible exact subAppR | kbu_src)) | refine subTail ?_ | refine inL ?_)) | (repeat' (first | with_reducible exact subRefl | with_reducible exact subNil | with_reducible assumption | (refine subCons ?_ ?_; focus kbu_src) | refine subTail ?_)))))); (try case hz => (first | ((rw [headTags_len]; omega)) | ((simp only [List.length_take, List.length_drop, List.length_append, List.length_replicate]; omega)) | (first | omega | exact ⟨by omega, by omega⟩))); (case cP => (first | (refine ⟨by with_reducible assumption, ?_⟩; (refine slc_len (n := 8) ?_ ?_ ?_ <;> omega)) | (first | trivial | decide | omega | exact ⟨by decide, by decide⟩ | exact ⟨by with_reducible assumption, by with_reducible assumption, by omega, by omega⟩))); (case cD => ktr_room); (case cU => ktr_units)); (first | (refine RFive.out ?_; intros; (try dsimp only); (try k_sweep)) | (refine ROct.out ?_; intros; (try dsimp only); (try k_sweep)) | ((first | refine RExc.out ?_ | refine RInt.out ?_ | refine RVal.out ?_ | refine RLst.out ?_ | refine ROcts.out ?_); intros; (try dsimp only); (try k_sweep))))) | with_reducible (k_here; (with_reducible show wpAny _ _ (compareOp CmpOp.NotEq (Value.ref _) (Value.ref _)) _ _ _); k_dflt (apply ne_ints; (case N => k_asm); (case ha => (first | kbu_src | k_mem)); (case hb => (first | kbu_src | k_mem)); (case hi => exact .cons _ _ (.cons _ _ (.cons _ _ (.cons _ _ (.cons _ _ .nil))))); (case hj => exact .cons _ _ (.cons _ _ (.cons _ _ (.cons _ _ (.cons _ _ .nil))))); (case hu => ke_room); k_whole)) | with_reducible (k_here; (with_reducible show wpAny _ _ (isTrue (Expr.Compare _ _ _ _) _ _) _ _ _); dsimp only) | (k_unfold; (try dsimp only)) | (k_end; wrow_close) | walk1 | (dsimp only; walk1) | (leave1; walk_say "STEP leave1"; try dsimp only))
  all_goals (try dsimp only)
  all_goals first
    | exact conS_ret hret (by assumption) (by k_asm) (by k_asm) (by assumption) (by assumption) (by assumption) (by assumption) ⟨rfl, by (repeat' (first | with_reducible exact subRefl | with_reducible exact subNil | with_reducible assumption | with_reducible exact subAppR | (refine subCons ?_ ?_; focus (first | with_reducible assumption | with_reducible exact subAppR | (with_reducible (repeat (first | exact List.mem_cons_self | assumption | refine List.mem_cons_of_mem _ ?_)); done))) | refine subTail ?_ | refine inL ?_))⟩
    | (exfalso; omega)
    | skip
  unfold Stop
  rename AnsLt _ _ _ _ _ => hA
  rename News _ _ _ _ => hN
  obtain ⟨N9, ⟨l9, l9'⟩, ⟨l8, l8'⟩, l7⟩ := ans_keep (news := (lv, listOf (List.toArray [.int vo t0, .int va t1, .int vb t2, .int vc t3, .int vd t4]) nn) :: news) hN hA (by (first | with_reducible assumption | (with_reducible (repeat (first | exact List.mem_cons_self | assumption | refine List.mem_cons_of_mem _ ?_)); done) | k_mem)) (by (first | with_reducible assumption | (with_reducible (repeat (first | exact List.mem_cons_self | assumption | refine List.mem_cons_of_mem _ ?_)); done) | k_mem)) (by (repeat' (first | with_reducible exact subRefl | with_reducible exact subNil | with_reducible assumption | with_reducible exact subAppR | (refine subCons ?_ ?_; focus (first | with_reducible assumption | with_reducible exact subAppR | (with_reducible (repeat (first | exact List.mem_cons_self | assumption | refine List.mem_cons_of_mem _ ?_)); done))) | refine subTail ?_ | refine inL ?_))) (by (repeat' (first | with_reducible exact subRefl | with_reducible exact subNil | with_reducible assumption | with_reducible exact subAppR | (refine subCons ?_ ?_; focus (first | with_reducible assumption | with_reducible exact subAppR | (with_reducible (repeat (first | exact List.mem_cons_self | assumption | refine List.mem_cons_of_mem _ ?_)); done))) | refine subTail ?_ | refine inL ?_)))
  clear hN
  have hP1 : Passed 1 := .mk
  repeat' (first | with_reducible (k_here; (with_reducible show wpAny _ _ (call (Value.ref 147) _) _ _ _); k_dflt (apply con_answer'; ((case cN => k_asm); (case cF => k_asm); (case cB => k_asm); (case cX => k_asm); (case cT => k_asm); (try ((case cXB => assumption); (case cTB => assumption); (case cKD => assumption); (case cT0 => first | assumption | exact KtsTurn.refl))); (case cK => first | exact rfl | assumption); (try case hm => (first | kbu_src | k_mem)); (try case hx => (first | kbu_src | k_mem)); (try case hxd => (first | kbu_src | k_mem)); (try case hi => with_reducible assumption); (try case ho => (first | (first | with_reducible assumption | exact octs_take (by with_reducible assumption) | exact octs_drop (by with_reducible assumption) | exact octs_take (octs_drop (by with_reducible assumption))) | (with_reducible assumption))); (try case hdat => (first | with_reducible assumption | (refine DatAll.mono ?_ (by with_reducible assumption); (first | (repeat' (first | with_reducible exact subRefl | with_reducible exact subNil | with_reducible assumption | with_reducible exact subAppR | (refine subCons ?_ ?_; focus (first | with_reducible exact subAppR | kbu_src)) | refine subTail ?_ | refine inL ?_)) | (repeat' (first | with_reducible exact subRefl | with_reducible exact subNil | with_reducible assumption | (refine subCons ?_ ?_; focus kbu_src) | refine subTail ?_)))))); (try case hz => (first | ((rw [headTags_len]; omega)) | ((simp only [List.length_take, List.length_drop, List.length_append, List.length_replicate]; omega)) | (first | omega | exact ⟨by omega, by omega⟩))); (case cP => (first | (refine ⟨by with_reducible assumption, ?_⟩; (refine slc_len (n := 8) ?_ ?_ ?_ <;> omega)) | (first | trivial | decide | omega | exact ⟨by decide, by decide⟩ | exact ⟨by with_reducible assumption, by with_reducible assumption, by omega, by omega⟩))); (case cD => ktr_room); (case cU => ktr_units)); refine' RAns.out ?_ ?_); (first | (intro q0'; exfalso; omega) | (intros; (try dsimp only); (try k_sweep); rotate_left)); (first | (intro y' dy' g0' g1' g2' g3' g4' j0' j1' j2' j3' j4' u0' q0'; exfalso; omega) | (intro y' dy' g0' g1' g2' g3' g4' j0' j1' j2' j3' j4' u0' q0' qa1 qa2 h' tk' F' N'; have qA' := AnsLt.mk' N' qa1 qa2; (try dsimp only); (try k_sweep); rotate_left))) | with_reducible (k_here; (with_reducible show wpAny _ _ (call (Value.ref 241) _) _ _ _); k_dflt (apply con_fields'; ((case cN => k_asm); (case cF => k_asm); (case cB => k_asm); (case cX => k_asm); (case cT => k_asm); (try ((case cXB => assumption); (case cTB => assumption); (case cKD => assumption); (case cT0 => first | assumption | exact KtsTurn.refl))); (case cK => first | exact rfl | assumption); (try case hm => (first | kbu_src | k_mem)); (try case hx => (first | kbu_src | k_mem)); (try case hxd => (first | kbu_src | k_mem)); (try case hi => with_reducible assumption); (try case ho => (first | (first | with_reducible assumption | exact octs_take (by with_reducible assumption) | exact octs_drop (by with_reducible assumption) | exact octs_take (octs_drop (by with_reducible assumption))) | (with_reducible assumption))); (try case hdat => (first | with_reducible assumption | (refine DatAll.mono ?_ (by with_reducible assumption); (first | (repeat' (first | with_reducible exact subRefl | with_reducible exact subNil | with_reducible assumption | with_reducible exact subAppR | (refine subCons ?_ ?_; focus (first | with_reducible exact subAppR | kbu_src)) | refine subTail ?_ | refine inL ?_)) | (repeat' (first | with_reducible exact subRefl | with_reducible exact subNil | with_reducible assumption | (refine subCons ?_ ?_; focus kbu_src) | refine subTail ?_)))))); (try case hz => (first | ((rw [headTags_len]; omega)) | ((simp only [List.length_take, List.length_drop, List.length_append, List.length_replicate]; omega)) | (first | omega | exact ⟨by omega, by omega⟩))); (case cP => (first | (refine ⟨by with_reducible assumption, ?_⟩; (refine slc_len (n := 8) ?_ ?_ ?_ <;> omega)) | (first | trivial | decide | omega | exact ⟨by decide, by decide⟩ | exact ⟨by with_reducible assumption, by with_reducible assumption, by omega, by omega⟩))); (case cD => ktr_room); (case cU => ktr_units)); (first | (refine RFive.out ?_; intros; (try dsimp only); (try k_sweep)) | (refine ROct.out ?_; intros; (try dsimp only); (try k_sweep)) | ((first | refine RExc.out ?_ | refine RInt.out ?_ | refine RVal.out ?_ | refine RLst.out ?_ | refine ROcts.out ?_); intros; (try dsimp only); (try k_sweep))))) | with_reducible (k_here; (with_reducible show wpAny _ _ (compareOp CmpOp.Eq (Value.ref _) (Value.ref _)) _ _ _); k_dflt (apply eq_ints; (case N => k_asm); (case ha => (first | kbu_src | k_mem)); (case hb => (first | kbu_src | k_mem)); (case hi => exact .cons _ _ (.cons _ _ (.cons _ _ (.cons _ _ (.cons _ _ .nil))))); (case hj => exact .cons _ _ (.cons _ _ (.cons _ _ (.cons _ _ (.cons _ _ .nil))))); (case hu => ke_room); k_whole)) | (k_unfold; (try dsimp only)) | (k_end; wrow_close) | walk1 | (dsimp only; walk1) | (leave1; walk_say "STEP leave1"; try dsimp only))
  all_goals (try dsimp only)
  all_goals first
    | exact conS_ret hret (by assumption) (by k_asm) (by k_asm) (by assumption) (by assumption) (by assumption) (by assumption) ⟨rfl, by (repeat' (first | with_reducible exact subRefl | with_reducible exact subNil | with_reducible assumption | with_reducible exact subAppR | (refine subCons ?_ ?_; focus (first | with_reducible assumption | with_reducible exact subAppR | (with_reducible (repeat (first | exact List.mem_cons_self | assumption | refine List.mem_cons_of_mem _ ?_)); done))) | refine subTail ?_ | refine inL ?_))⟩
    | (exfalso; omega)
end
section -- part G24
set_option maxHeartbeats 20000000

theorem stop_prop {P : Prop} (h : Stop P) : P := h
inductive Newest (D : Addr) (news : List (Addr × Obj)) : Prop | mk : (∀ p ∈ news, p.1 < D) → Newest D news
theorem conS_map {w : World} {f : Addr} {dep : Nat} {na nb : List (Addr × Obj)} {vs : List Value} {Pre : Heap → Prop} {R1 R2 : Value → List (Addr × Obj) → Prop} (hs : ∀ q ∈ na, q ∈ nb) (C : ConS w f dep na vs Pre R1)
    (h : ∀ r n', R1 r n' → ∃ n'', R2 r n'' ∧ ∀ q ∈ n'', q ∈ n') : ConS w f dep nb vs Pre R2 := by
  intro mean mg mb dp un gd cn cs a ccd cl outer A₀ base g₀ h₀ L m s Q E B F X N T XB TB KD T0 hk hpre hd hu hret
  refine C mean mg mb dp un gd cn cs a ccd cl outer A₀ base g₀ h₀ L m s Q E B F X (newsDrop N hs) T XB TB KD T0 hk hpre hd hu fun r n' hR h' tk' h₁ T1 F' N' B' X' T' D' => ?_
  obtain ⟨n'', h2, h3⟩ := h r n' hR
  exact hret r n'' h2 h' tk' h₁ T1 F' (newsDrop N' h3) B' X' T' D'
inductive RTrue (news : List (Addr × Obj)) (r : Value) : List (Addr × Obj) → Prop
  | mk (h : r = .bool true) : RTrue news r news
theorem RTrue.out {news : List (Addr × Obj)} {k : Value → List (Addr × Obj) → Prop} (f : k (.bool true) news) : ∀ r n', RTrue news r n' → k r n' := fun _ _ ⟨h⟩ => h ▸ f
theorem con_rholds' (w : World) (l : Addr) (vs : List Value) (nn : Nat) (ks : List Int) (news : List (Addr × Obj)) (hm : (l, listOf vs.toArray nn) ∈ news) (hi : IntsAre vs ks) (ho : Octs ks) (hz : ks.length ≤ 300) :
    ConS w 262 10 news [.ref l] (fun _ => True) (RTrue news) :=
  conS_map (subCons hm subRefl) (con_rholds w l vs nn ks news hi ho hz) fun r n' h => ⟨news, .mk h.1, fun q hq => h.2 q (.tail _ hq)⟩
theorem con_aholds' (w : World) (lv lt : Addr) (nn : Nat) (t0 t1 t2 t3 t4 : Tok) (vo va vb vc vd ad mc so : Int) (u v z : Tok) (vs : List Value) (n3 : Nat) (gs : List Tag) (news : List (Addr × Obj)) (hx : (lv, listOf (List.toArray [.int vo t0, .int va t1, .int vb t2, .int vc t3, .int vd t4]) nn) ∈ news) (hm : (lt, listOf vs.toArray n3) ∈ news) (hdat : DatAll news vs (gs.map tagDat)) (hz : gs.length ≤ 20) :
    ConS w 269 12 news [.ref lv, .int ad u, .int mc v, .int so z, .ref lt] (fun _ => True) (RTrue news) :=
  conS_map (subCons hx subRefl) (con_aholds w lv lt nn t0 t1 t2 t3 t4 vo va vb vc vd ad mc so u v z vs n3 gs news hx hm hdat hz) fun r n' h => ⟨news, .mk h.1, h.2⟩
theorem con_hurt' (w : World) (l : Addr) (vs : List Value) (nn : Nat) (ks : List Int) (sz x k : Int) (t u v : Tok) (news : List (Addr × Obj)) (hi : IntsAre vs ks) (ho : Octs ks) (hz : 42 ≤ ks.length ∧ ks.length ≤ 200) (hsz : 0 ≤ sz ∧ sz + 28 ≤ (ks.length : Int)) (hk : 0 ≤ k ∧ k ≤ 2) (hne : Newest l news) :
    Con w 276 2 ((l, listOf vs.toArray nn) :: news) [.ref l, .int sz t, .int x u, .int k v] (fun _ => True)
      (RHurt l ks.length news) :=
  con_hurt w l vs nn ks sz x k t u v news hi ho hz hsz hk (by obtain ⟨h⟩ := hne; exact allLt_of h)













theorem con_round (w : World) (l : Addr) (vs : List Value) (ns : List Int) (k : Int) (t : Tok) (hk : 0 ≤ k ∧ k ≤ 2) :
    ConR w 281 20 [.ref l, .int k t] (fun b => b.IsList l vs.toArray ∧ IntsAre vs ns ∧ ns.length < 2 ^ 62) (fun r => r = .bool true) := by
  unfold ConR
  k_fill
  intro mean mg mb dp un gd cn cs a ccd A₀ base h₀ L m news s Q E B F X N T XB TB hk0 hpre hd hu hret
  obtain ⟨hp1, hp2, hp3⟩ := hpre
  have p48 : (2 : Int) ^ Int.toNat 48 = 281474976710656 := by decide
  refine wpAny_call ?_
  k_dflt (refine' code_defC0 ?k1 ?k2 ?k3 ?k4 ?k5 ?kA ?kF ?kK ?k6 ?k7 ?k8 ?k9 ?kB ?kD ?_ ?c2 ?c3 ?c4; (case kA => exact rfl); (case kF => exact rfl); (case kK => assumption); (case k1 => k_asm); (case k2 => k_asm); (case k3 => k_asm); (case k4 => k_asm); (case k5 => k_asm); (case k6 => k_is); (case k7 => k_is); (case k8 => ktr_room); (case k9 => exact BindsTo.of_eq rfl); (case kB => exact rfl); (case kD => decide +kernel); (case c2 => exact rfl); (case c3 => exact rfl); (case c4 => exact rfl); k_whole; intro g' L' h' tk' cells' FG' F' N' Y' B' X' T' D' l1; (try k_lt l1); k_cells Y'; (try simp only [List.cons_append, List.nil_append] at N'); (try dsimp only); (try k_lift B'); (try k_fold))
  repeat' (first | with_reducible (k_here; (fail_if_success (rename Passed 1 => hP9)); (with_reducible show wpAny _ _ (exec (Stmt.Assign [Expr.Name (Str.ofString "head") _] _ _) _) _ _ _); k_dflt (refine stop_exec ?_)) | with_reducible (k_here; ((with_reducible refine wpAny_execs_cons ?_); try dsimp only)) | with_reducible (k_here; ((with_reducible refine wpAny_execs_nil ?_); try dsimp only)) | with_reducible (k_here; (with_reducible show LCg.CompSrc _ _ _ _ _ _ _ (Expr.Call (Expr.Name (Str.ofString "_law_tag") _) _ _ _) _ _ _ _ _ _); (try k_fmods); k_dflt (refine LCg.CompSrc.range (by rfl) (by k_asm) (by k_asm) (by assumption) (small_one (by omega) (by omega) (by omega) (by omega)) (rangeSize_nat _ _) (by (rw [PySem.sizeLine_eq]; omega)) ?_; intro g'; (refine' tags_rest (fun k' t' I' oI' C' oC' D' m' ys' own' h' tk' E' hlo' hhi' hC' hx' F' N' off' ne' => ?_) (fun ys' own' gs' hl' hd' => ?_)); ((try simp only [List.cons_append, List.nil_append] at N'); rotate_left; (have hg3' := Nat.le_trans (Nat.le_of_eq hl') (tags_small _)); intro D' h' tk' F' N' o1'; (try simp only [List.cons_append, List.nil_append] at N'); rotate_left))) | with_reducible (k_here; k_dflt ((first | ((with_reducible show wpAny _ _ (call (Value.ref 154) _) _ _ _); apply con_digit) | ((with_reducible show wpAny _ _ (call (Value.ref 161) _) _ _ _); apply con_drawn) | ((with_reducible show wpAny _ _ (call (Value.ref 168) _) _ _ _); apply con_kind) | ((with_reducible show wpAny _ _ (call (Value.ref 175) _) _ _ _); apply con_operation) | ((with_reducible show wpAny _ _ (call (Value.ref 182) _) _ _ _); apply con_tag)); ((case cN => k_asm); (case cF => k_asm); (case cB => k_asm); (case cX => k_asm); (case cT => k_asm); (try ((case cXB => assumption); (case cTB => assumption); (case cKD => assumption); (case cT0 => first | assumption | exact KtsTurn.refl))); (case cK => first | exact rfl | assumption); (try case hm => (first | kbu_src | k_mem)); (try case hx => (first | kbu_src | k_mem)); (try case hxd => (first | kbu_src | k_mem)); (try case hi => with_reducible assumption); (try case ho => (first | (first | with_reducible assumption | exact octs_take (by with_reducible assumption) | exact octs_drop (by with_reducible assumption) | exact octs_take (octs_drop (by with_reducible assumption))) | (with_reducible assumption))); (try case hdat => (first | with_reducible assumption | (refine DatAll.mono ?_ (by with_reducible assumption); (first | (repeat' (first | with_reducible exact subRefl | with_reducible exact subNil | with_reducible assumption | with_reducible exact subAppR | (refine subCons ?_ ?_; focus (first | with_reducible exact subAppR | kbu_src)) | refine subTail ?_ | refine inL ?_)) | (repeat' (first | with_reducible exact subRefl | with_reducible exact subNil | with_reducible assumption | (refine subCons ?_ ?_; focus kbu_src) | refine subTail ?_)))))); (try case hz => (first | ((rw [headTags_len]; omega)) | ((simp only [List.length_take, List.length_drop, List.length_append, List.length_replicate]; omega)) | (first | omega | exact ⟨by omega, by omega⟩))); (case cP => (first | (refine ⟨by with_reducible assumption, ?_⟩; (refine slc_len (n := 8) ?_ ?_ ?_ <;> omega)) | (first | trivial | decide | omega | exact ⟨by decide, by decide⟩ | exact ⟨by with_reducible assumption, by with_reducible assumption, by omega, by omega⟩))); (case cD => ktr_room); (case cU => ktr_units)); (first | (refine RTag.out ?_; intros; (try dsimp only); (try k_sweep)) | (refine RFive.out ?_; intros; (try dsimp only); (try k_sweep)) | (refine ROct.out ?_; intros; (try dsimp only); (try k_sweep)) | ((first | refine RExc.out ?_ | refine RInt.out ?_ | refine RVal.out ?_ | refine RLst.out ?_ | refine ROcts.out ?_); intros; (try dsimp only); (try k_sweep))))) | with_reducible (k_here; (with_reducible show wpAny _ _ (compareOp CmpOp.NotEq (Value.ref _) (Value.ref _)) _ _ _); k_dflt (apply ne_dat; (case N => k_asm); (case Da => with_reducible assumption); (case Db => with_reducible assumption); (case sa => (first | (repeat' (first | with_reducible exact subRefl | with_reducible exact subNil | with_reducible assumption | with_reducible exact subAppR | (refine subCons ?_ ?_; focus (first | with_reducible exact subAppR | kbu_src)) | refine subTail ?_ | refine inL ?_)) | (repeat' (first | with_reducible exact subRefl | with_reducible exact subNil | with_reducible assumption | (refine subCons ?_ ?_; focus kbu_src) | refine subTail ?_)))); (case sb => (first | (repeat' (first | with_reducible exact subRefl | with_reducible exact subNil | with_reducible assumption | with_reducible exact subAppR | (refine subCons ?_ ?_; focus (first | with_reducible exact subAppR | kbu_src)) | refine subTail ?_ | refine inL ?_)) | (repeat' (first | with_reducible exact subRefl | with_reducible exact subNil | with_reducible assumption | (refine subCons ?_ ?_; focus kbu_src) | refine subTail ?_)))); (case q => rfl); (case hd => first | exact head_ok _ _ | exact mn_ok (due_frame_str _ _ _ _) | exact mn_ok (due_arp_str _ _ _ _ _)); (case hu => ke_room); k_whole)) | with_reducible (k_here; (with_reducible show wpAny _ _ (call (Value.ref 227) _) _ _ _); k_dflt (apply con_darp; ((case cN => k_asm); (case cF => k_asm); (case cB => k_asm); (case cX => k_asm); (case cT => k_asm); (try ((case cXB => assumption); (case cTB => assumption); (case cKD => assumption); (case cT0 => first | assumption | exact KtsTurn.refl))); (case cK => first | exact rfl | assumption); (try case hm => (first | kbu_src | k_mem)); (try case hx => (first | kbu_src | k_mem)); (try case hxd => (first | kbu_src | k_mem)); (try case hi => with_reducible assumption); (try case ho => (first | (first | with_reducible assumption | exact octs_take (by with_reducible assumption) | exact octs_drop (by with_reducible assumption) | exact octs_take (octs_drop (by with_reducible assumption))) | (with_reducible assumption))); (try case hdat => (first | with_reducible assumption | (refine DatAll.mono ?_ (by with_reducible assumption); (first | (repeat' (first | with_reducible exact subRefl | with_reducible exact subNil | with_reducible assumption | with_reducible exact subAppR | (refine subCons ?_ ?_; focus (first | with_reducible exact subAppR | kbu_src)) | refine subTail ?_ | refine inL ?_)) | (repeat' (first | with_reducible exact subRefl | with_reducible exact subNil | with_reducible assumption | (refine subCons ?_ ?_; focus kbu_src) | refine subTail ?_)))))); (try case hz => (first | ((rw [headTags_len]; omega)) | ((simp only [List.length_take, List.length_drop, List.length_append, List.length_replicate]; omega)) | (first | omega | exact ⟨by omega, by omega⟩))); (case cP => (first | (refine ⟨by with_reducible assumption, ?_⟩; (refine slc_len (n := 8) ?_ ?_ ?_ <;> omega)) | (first | trivial | decide | omega | exact ⟨by decide, by decide⟩ | exact ⟨by with_reducible assumption, by with_reducible assumption, by omega, by omega⟩))); (case cD => ktr_room); (case cU => ktr_units)); (refine RDue.out ?_; intro D' c' ys' t' n2' msg' ks' q3 q4 h' tk' F' N'; have hd' := mn_news N' q3 q4; (try dsimp only); (try k_sweep)))) | with_reducible (k_here; (with_reducible show wpAny _ _ (call (Value.ref 234) _) _ _ _); k_dflt (apply con_tarp; ((case cN => k_asm); (case cF => k_asm); (case cB => k_asm); (case cX => k_asm); (case cT => k_asm); (try ((case cXB => assumption); (case cTB => assumption); (case cKD => assumption); (case cT0 => first | assumption | exact KtsTurn.refl))); (case cK => first | exact rfl | assumption); (try case hm => (first | kbu_src | k_mem)); (try case hx => (first | kbu_src | k_mem)); (try case hxd => (first | kbu_src | k_mem)); (try case hi => with_reducible assumption); (try case ho => (first | (first | with_reducible assumption | exact octs_take (by with_reducible assumption) | exact octs_drop (by with_reducible assumption) | exact octs_take (octs_drop (by with_reducible assumption))) | (with_reducible assumption))); (try case hdat => (first | with_reducible assumption | (refine DatAll.mono ?_ (by with_reducible assumption); (first | (repeat' (first | with_reducible exact subRefl | with_reducible exact subNil | with_reducible assumption | with_reducible exact subAppR | (refine subCons ?_ ?_; focus (first | with_reducible exact subAppR | kbu_src)) | refine subTail ?_ | refine inL ?_)) | (repeat' (first | with_reducible exact subRefl | with_reducible exact subNil | with_reducible assumption | (refine subCons ?_ ?_; focus kbu_src) | refine subTail ?_)))))); (try case hz => (first | ((rw [headTags_len]; omega)) | ((simp only [List.length_take, List.length_drop, List.length_append, List.length_replicate]; omega)) | (first | omega | exact ⟨by omega, by omega⟩))); (case cP => (first | (refine ⟨by with_reducible assumption, ?_⟩; (refine slc_len (n := 8) ?_ ?_ ?_ <;> omega)) | (first | trivial | decide | omega | exact ⟨by decide, by decide⟩ | exact ⟨by with_reducible assumption, by with_reducible assumption, by omega, by omega⟩))); (case cD => ktr_room); (case cU => ktr_units)); (refine RDue.out ?_; intro D9' c' ys' t' n2' msg' ks' q3 q4 h' tk' h₁' T0' F' N' B' X' T' D'; have hd' := mn_news N' q3 q4; (try dsimp only); (try k_lift B'); (try k_sweep)))) | with_reducible (k_here; (with_reducible show wpAny _ _ (call (Value.ref 201) _) _ _ _); k_dflt (apply con_dframe; ((case cN => k_asm); (case cF => k_asm); (case cB => k_asm); (case cX => k_asm); (case cT => k_asm); (try ((case cXB => assumption); (case cTB => assumption); (case cKD => assumption); (case cT0 => first | assumption | exact KtsTurn.refl))); (case cK => first | exact rfl | assumption); (try case hm => (first | kbu_src | k_mem)); (try case hx => (first | kbu_src | k_mem)); (try case hxd => (first | kbu_src | k_mem)); (try case hi => with_reducible assumption); (try case ho => (first | (first | with_reducible assumption | exact octs_take (by with_reducible assumption) | exact octs_drop (by with_reducible assumption) | exact octs_take (octs_drop (by with_reducible assumption))) | (with_reducible assumption))); (try case hdat => (first | with_reducible assumption | (refine DatAll.mono ?_ (by with_reducible assumption); (first | (repeat' (first | with_reducible exact subRefl | with_reducible exact subNil | with_reducible assumption | with_reducible exact subAppR | (refine subCons ?_ ?_; focus (first | with_reducible exact subAppR | kbu_src)) | refine subTail ?_ | refine inL ?_)) | (repeat' (first | with_reducible exact subRefl | with_reducible exact subNil | with_reducible assumption | (refine subCons ?_ ?_; focus kbu_src) | refine subTail ?_)))))); (try case hz => (first | ((rw [headTags_len]; omega)) | ((simp only [List.length_take, List.length_drop, List.length_append, List.length_replicate]; omega)) | (first | omega | exact ⟨by omega, by omega⟩))); (case cP => (first | (refine ⟨by with_reducible assumption, ?_⟩; (refine slc_len (n := 8) ?_ ?_ ?_ <;> omega)) | (first | trivial | decide | omega | exact ⟨by decide, by decide⟩ | exact ⟨by with_reducible assumption, by with_reducible assumption, by omega, by omega⟩))); (case cD => ktr_room); (case cU => ktr_units)); (refine RDue.out ?_; intro D' c' ys' t' n2' msg' ks' q3 q4 h' tk' F' N'; have hd' := mn_news N' q3 q4; (try dsimp only); (try k_sweep)))) | with_reducible (k_here; (with_reducible show wpAny _ _ (call (Value.ref 208) _) _ _ _); k_dflt (apply con_tframe; ((case cN => k_asm); (case cF => k_asm); (case cB => k_asm); (case cX => k_asm); (case cT => k_asm); (try ((case cXB => assumption); (case cTB => assumption); (case cKD => assumption); (case cT0 => first | assumption | exact KtsTurn.refl))); (case cK => first | exact rfl | assumption); (try case hm => (first | kbu_src | k_mem)); (try case hx => (first | kbu_src | k_mem)); (try case hxd => (first | kbu_src | k_mem)); (try case hi => with_reducible assumption); (try case ho => (first | (first | with_reducible assumption | exact octs_take (by with_reducible assumption) | exact octs_drop (by with_reducible assumption) | exact octs_take (octs_drop (by with_reducible assumption))) | (with_reducible assumption))); (try case hdat => (first | with_reducible assumption | (refine DatAll.mono ?_ (by with_reducible assumption); (first | (repeat' (first | with_reducible exact subRefl | with_reducible exact subNil | with_reducible assumption | with_reducible exact subAppR | (refine subCons ?_ ?_; focus (first | with_reducible exact subAppR | kbu_src)) | refine subTail ?_ | refine inL ?_)) | (repeat' (first | with_reducible exact subRefl | with_reducible exact subNil | with_reducible assumption | (refine subCons ?_ ?_; focus kbu_src) | refine subTail ?_)))))); (try case hz => (first | ((rw [headTags_len]; omega)) | ((simp only [List.length_take, List.length_drop, List.length_append, List.length_replicate]; omega)) | (first | omega | exact ⟨by omega, by omega⟩))); (case cP => (first | (refine ⟨by with_reducible assumption, ?_⟩; (refine slc_len (n := 8) ?_ ?_ ?_ <;> omega)) | (first | trivial | decide | omega | exact ⟨by decide, by decide⟩ | exact ⟨by with_reducible assumption, by with_reducible assumption, by omega, by omega⟩))); (case cD => ktr_room); (case cU => ktr_units)); (refine RDue.out ?_; intro D9' c' ys' t' n2' msg' ks' q3 q4 h' tk' h₁' T0' F' N' B' X' T' D'; have hd' := mn_news N' q3 q4; (try dsimp only); (try k_lift B'); (try k_sweep)))) | with_reducible (k_here; k_dflt (apply tags_end; (case F => k_asm); (case N => k_asm); (case off => assumption); (case sub => (simp only [List.cons_append, List.nil_append]; (first | (repeat' (first | with_reducible exact subRefl | with_reducible exact subNil | with_reducible assumption | with_reducible exact subAppR | (refine subCons ?_ ?_; focus (first | with_reducible exact subAppR | kbu_src)) | refine subTail ?_ | refine inL ?_)) | (repeat' (first | with_reducible exact subRefl | with_reducible exact subNil | with_reducible assumption | (refine subCons ?_ ?_; focus kbu_src) | refine subTail ?_))))); (case hT => assumption))) | with_reducible (k_here; (with_reducible show wpAny _ _ (subscriptTail _ _ (Value.ref _) (Value.int _ _)) _ _ _); k_dflt (first | (apply item_ints; (case N => k_asm); (case hi => with_reducible assumption); (case hm => (first | kbu_src | k_mem)); (case h0 => omega); (case h1 => omega); (case h2 => omega); (try case hs => with_unfolding_all rfl); k_whole; intro t') | (apply item_made; (case N => k_asm); (case hi => with_reducible assumption); (case hm => (first | kbu_src | k_mem)); (case h0 => omega); (case h1 => omega); (case h2 => decide); (try case hs => with_unfolding_all rfl); k_whole; intro x' t')); (try k_sweep)) | (k_unfold; (try dsimp only)) | (k_end; wrow_close) | walk1 | (dsimp only; walk1) | (leave1; walk_say "STEP leave1"; try dsimp only))
  unfold Stop
  have hP1 : Passed 1 := .mk
  refine' exec_list (Str.ofString "head") (fun ks => Octs ks ∧ 14 ≤ ks.length ∧ ks.length ≤ 26) ?F1 ?N1 ?h1 ?k1
  (case F1 => k_asm)
  (case N1 => k_asm)
  (case h1 =>
    repeat' (first | with_reducible (k_here; (with_reducible show wpAny _ _ (binaryOp Operator.Mult (Value.ref _) (Value.int _ _)) _ _ _); k_dflt (apply mul_one; (case F => k_asm); (case N => k_asm); (case ha => (first | kbu_src | k_mem)); (case h0 => first | decide | exact Int.fmod_nonneg_of_pos _ (by decide)); (case h1 => first | decide | exact fmod19 _); k_whole); intro D' us' h' F' N' l1 hI' hB'; (try k_lt l1); (try k_sweep)) | with_reducible (k_here; (with_reducible show wpAny _ _ (binaryOp Operator.Add (Value.ref _) (Value.ref _)) _ _ _); k_dflt (apply add_ints2; (case F => k_asm); (case N => k_asm); (case ha => (first | kbu_src | k_mem)); (case hb => (first | kbu_src | k_mem)); (first | ((case hi => with_reducible assumption); (case hj => first | with_reducible assumption | (first | exact .cons _ _ (.cons _ _ .nil) | exact .cons _ _ (.cons _ _ (.cons _ _ (.cons _ _ (.cons _ _ (.cons _ _ (.cons _ _ (.cons _ _ .nil)))))))))) | ((case hj => with_reducible assumption); (case hi => (first | exact .cons _ _ (.cons _ _ .nil) | exact .cons _ _ (.cons _ _ (.cons _ _ (.cons _ _ (.cons _ _ (.cons _ _ (.cons _ _ (.cons _ _ .nil))))))))))); (case hz => ((try simp only [List.length_append, List.length_replicate, List.length_cons, List.length_nil]); omega)); k_whole); intro D' us' h' F' N' l1 hI'; have lN' := Newest.mk l1; (try k_lt l1); (try k_sweep)) | with_reducible (k_here; (with_reducible show wpAny _ _ (exec (Stmt.Assign _ _ _) _) _ _ _); dsimp only) | with_reducible (k_here; (with_reducible show wpAny _ _ (subscriptTail _ _ (Value.ref _) (Value.int _ _)) _ _ _); k_dflt (apply item_tupleT; (case ht => exact News.isTup (by k_asm) (by kbu_src)); (case hlo => decide); (case hhi => decide); (case hj => rfl); (case hx => rfl); (try case hs => with_unfolding_all rfl); k_whole)) | (k_unfold; (try dsimp only)) | (k_end; wrow_close) | walk1 | (dsimp only; walk1) | (leave1; walk_say "STEP leave1"; try dsimp only))
    all_goals (try dsimp only)
    · exact (LMid.mk (by k_asm) (by k_asm) (by (first | with_reducible assumption | (with_reducible (repeat (first | exact List.mem_cons_self | assumption | refine List.mem_cons_of_mem _ ?_)); done) | k_mem)) (by (repeat' (first | with_reducible exact subRefl | with_reducible exact subNil | with_reducible assumption | with_reducible exact subAppR | (refine subCons ?_ ?_; focus (first | with_reducible assumption | with_reducible exact subAppR | (with_reducible (repeat (first | exact List.mem_cons_self | assumption | refine List.mem_cons_of_mem _ ?_)); done))) | refine subTail ?_ | refine inL ?_))) (by with_reducible assumption) (due_head_room (by with_reducible assumption) (by with_reducible assumption) (by with_reducible assumption)))
    · exact (LMid.mk (by k_asm) (by k_asm) (by (first | with_reducible assumption | (with_reducible (repeat (first | exact List.mem_cons_self | assumption | refine List.mem_cons_of_mem _ ?_)); done) | k_mem)) (by (repeat' (first | with_reducible exact subRefl | with_reducible exact subNil | with_reducible assumption | with_reducible exact subAppR | (refine subCons ?_ ?_; focus (first | with_reducible assumption | with_reducible exact subAppR | (with_reducible (repeat (first | exact List.mem_cons_self | assumption | refine List.mem_cons_of_mem _ ?_)); done))) | refine subTail ?_ | refine inL ?_))) (by with_reducible assumption) spare_head))
  intro D9 ys9 ks9 n9 h' tk F' N' hi9 hP9
  refine gbox ?_
  intro G9 hG9
  obtain ⟨ho9, h14, h26⟩ := hP9
  have hl9 := hi9.length
  refine hG9 ?_
  repeat' (first | with_reducible (k_here; (fail_if_success (rename Passed 2 => hP9)); (with_reducible show wpAny _ _ (exec (Stmt.Assign [Expr.Name (Str.ofString "body") _] _ _) _) _ _ _); k_dflt (refine stop_exec ?_)) | with_reducible (k_here; ((with_reducible refine wpAny_execs_cons ?_); try dsimp only)) | (k_unfold; (try dsimp only)) | (k_end; wrow_close) | walk1 | (dsimp only; walk1) | (leave1; walk_say "STEP leave1"; try dsimp only))
  unfold Stop
  have hP2 : Passed 2 := .mk
  refine' exec_list (Str.ofString "body") (fun ks => Octs ks ∧ ks.length = 28) ?F2 ?N2 ?h2 ?k2
  (case F2 => k_asm)
  (case N2 => k_asm)
  (case h2 =>
    repeat' (first | with_reducible (k_here; (with_reducible show wpAny _ _ (binaryOp Operator.Mult (Value.ref _) (Value.int _ _)) _ _ _); k_dflt (apply mul_one; (case F => k_asm); (case N => k_asm); (case ha => (first | kbu_src | k_mem)); (case h0 => first | decide | exact Int.fmod_nonneg_of_pos _ (by decide)); (case h1 => first | decide | exact fmod19 _); k_whole); intro D' us' h' F' N' l1 hI' hB'; (try k_lt l1); (try k_sweep)) | with_reducible (k_here; (with_reducible show wpAny _ _ (binaryOp Operator.Add (Value.ref _) (Value.ref _)) _ _ _); k_dflt (apply add_ints2; (case F => k_asm); (case N => k_asm); (case ha => (first | kbu_src | k_mem)); (case hb => (first | kbu_src | k_mem)); (first | ((case hi => with_reducible assumption); (case hj => first | with_reducible assumption | (first | exact .cons _ _ (.cons _ _ .nil) | exact .cons _ _ (.cons _ _ (.cons _ _ (.cons _ _ (.cons _ _ (.cons _ _ (.cons _ _ (.cons _ _ .nil)))))))))) | ((case hj => with_reducible assumption); (case hi => (first | exact .cons _ _ (.cons _ _ .nil) | exact .cons _ _ (.cons _ _ (.cons _ _ (.cons _ _ (.cons _ _ (.cons _ _ (.cons _ _ (.cons _ _ .nil))))))))))); (case hz => ((try simp only [List.length_append, List.length_replicate, List.length_cons, List.length_nil]); omega)); k_whole); intro D' us' h' F' N' l1 hI'; have lN' := Newest.mk l1; (try k_lt l1); (try k_sweep)) | with_reducible (k_here; (with_reducible show wpAny _ _ (exec (Stmt.Assign _ _ _) _) _ _ _); dsimp only) | with_reducible (k_here; (with_reducible show wpAny _ _ (subscriptTail _ _ (Value.ref _) (Value.int _ _)) _ _ _); k_dflt (apply item_tupleT; (case ht => exact News.isTup (by k_asm) (by kbu_src)); (case hlo => decide); (case hhi => decide); (case hj => rfl); (case hx => rfl); (try case hs => with_unfolding_all rfl); k_whole)) | (k_unfold; (try dsimp only)) | (k_end; wrow_close) | walk1 | (dsimp only; walk1) | (leave1; walk_say "STEP leave1"; try dsimp only))
    all_goals (try dsimp only)
    · exact (LMid.mk (by k_asm) (by k_asm) (by (first | with_reducible assumption | (with_reducible (repeat (first | exact List.mem_cons_self | assumption | refine List.mem_cons_of_mem _ ?_)); done) | k_mem)) (by (repeat' (first | with_reducible exact subRefl | with_reducible exact subNil | with_reducible assumption | with_reducible exact subAppR | (refine subCons ?_ ?_; focus (first | with_reducible assumption | with_reducible exact subAppR | (with_reducible (repeat (first | exact List.mem_cons_self | assumption | refine List.mem_cons_of_mem _ ?_)); done))) | refine subTail ?_ | refine inL ?_))) (by with_reducible assumption) (due_arp_room (by with_reducible assumption) (by with_reducible assumption)))
    · exact (LMid.mk (by k_asm) (by k_asm) (by (first | with_reducible assumption | (with_reducible (repeat (first | exact List.mem_cons_self | assumption | refine List.mem_cons_of_mem _ ?_)); done) | k_mem)) (by (repeat' (first | with_reducible exact subRefl | with_reducible exact subNil | with_reducible assumption | with_reducible exact subAppR | (refine subCons ?_ ?_; focus (first | with_reducible assumption | with_reducible exact subAppR | (with_reducible (repeat (first | exact List.mem_cons_self | assumption | refine List.mem_cons_of_mem _ ?_)); done))) | refine subTail ?_ | refine inL ?_))) (by with_reducible assumption) spare_body))
  intro D8 ys8 ks8 n8 h' tk F' N' hi8 hP8
  refine gbox ?_
  intro G9 hG9
  obtain ⟨ho8, h28⟩ := hP8
  have hl8 := hi8.length
  refine hG9 ?_
  repeat' (first | with_reducible (k_here; (fail_if_success (rename Passed 3 => hP9)); (with_reducible show wpAny _ _ (exec (Stmt.If (Expr.Compare _ [CmpOp.Eq] _ _) _ _ _) _) _ _ _); k_dflt (refine stop_exec ?_)) | with_reducible (k_here; ((with_reducible refine wpAny_execs_cons ?_); try dsimp only)) | with_reducible (k_here; (with_reducible show wpAny _ _ (binaryOp Operator.Mult (Value.ref _) (Value.int _ _)) _ _ _); k_dflt (apply mul_one; (case F => k_asm); (case N => k_asm); (case ha => (first | kbu_src | k_mem)); (case h0 => first | decide | exact Int.fmod_nonneg_of_pos _ (by decide)); (case h1 => first | decide | exact fmod19 _); k_whole); intro D' us' h' F' N' l1 hI' hB'; (try k_lt l1); (try k_sweep)) | with_reducible (k_here; (with_reducible show wpAny _ _ (call (Value.ref 276) _) _ _ _); k_dflt (apply con_hurt'; ((case cN => k_asm); (case cF => k_asm); (case cB => k_asm); (case cX => k_asm); (case cT => k_asm); (try ((case cXB => assumption); (case cTB => assumption); (case cKD => assumption); (case cT0 => first | assumption | exact KtsTurn.refl))); (case cK => first | exact rfl | assumption); (try case hm => (first | kbu_src | k_mem)); (try case hx => (first | kbu_src | k_mem)); (try case hxd => (first | kbu_src | k_mem)); (try case hi => with_reducible assumption); (try case ho => (first | (first | with_reducible assumption | exact octs_take (by with_reducible assumption) | exact octs_drop (by with_reducible assumption) | exact octs_take (octs_drop (by with_reducible assumption))) | (with_reducible assumption))); (try case hdat => (first | with_reducible assumption | (refine DatAll.mono ?_ (by with_reducible assumption); (first | (repeat' (first | with_reducible exact subRefl | with_reducible exact subNil | with_reducible assumption | with_reducible exact subAppR | (refine subCons ?_ ?_; focus (first | with_reducible exact subAppR | kbu_src)) | refine subTail ?_ | refine inL ?_)) | (repeat' (first | with_reducible exact subRefl | with_reducible exact subNil | with_reducible assumption | (refine subCons ?_ ?_; focus kbu_src) | refine subTail ?_)))))); (try case hz => (first | ((rw [headTags_len]; omega)) | ((simp only [List.length_take, List.length_drop, List.length_append, List.length_replicate]; omega)) | (first | omega | exact ⟨by omega, by omega⟩))); (case cP => (first | (refine ⟨by with_reducible assumption, ?_⟩; (refine slc_len (n := 8) ?_ ?_ ?_ <;> omega)) | (first | trivial | decide | omega | exact ⟨by decide, by decide⟩ | exact ⟨by with_reducible assumption, by with_reducible assumption, by omega, by omega⟩))); (case cD => ktr_room); (case cU => ktr_units)); (case ho => exact octs_app (octs_app (by with_reducible assumption) (by with_reducible assumption)) (octs_rep (by decide) _)); (case hsz => (first | ((rw [headTags_len]; omega)) | ((simp only [List.length_take, List.length_drop, List.length_append, List.length_replicate]; omega)) | (first | omega | exact ⟨by omega, by omega⟩))); (case hk => omega); (case hne => assumption); refine RHurt.out ?_; intro vs' nn' ks' q3 q4 q5 h' tk' F' N'; have hl6' := q3.length; (try simp only [List.length_append, List.length_replicate] at q5); (try dsimp only); (try k_sweep))) | with_reducible (k_here; (with_reducible show wpAny _ _ (binaryOp Operator.Add (Value.ref _) (Value.ref _)) _ _ _); k_dflt (apply add_ints2; (case F => k_asm); (case N => k_asm); (case ha => (first | kbu_src | k_mem)); (case hb => (first | kbu_src | k_mem)); (first | ((case hi => with_reducible assumption); (case hj => first | with_reducible assumption | (first | exact .cons _ _ (.cons _ _ .nil) | exact .cons _ _ (.cons _ _ (.cons _ _ (.cons _ _ (.cons _ _ (.cons _ _ (.cons _ _ (.cons _ _ .nil)))))))))) | ((case hj => with_reducible assumption); (case hi => (first | exact .cons _ _ (.cons _ _ .nil) | exact .cons _ _ (.cons _ _ (.cons _ _ (.cons _ _ (.cons _ _ (.cons _ _ (.cons _ _ (.cons _ _ .nil))))))))))); (case hz => ((try simp only [List.length_append, List.length_replicate, List.length_cons, List.length_nil]); omega)); k_whole); intro D' us' h' F' N' l1 hI'; have lN' := Newest.mk l1; (try k_lt l1); (try k_sweep)) | with_reducible (k_here; (with_reducible show wpAny _ _ (subscriptTail _ _ (Value.ref _) (Value.int _ _)) _ _ _); k_dflt (first | (apply item_ints; (case N => k_asm); (case hi => with_reducible assumption); (case hm => (first | kbu_src | k_mem)); (case h0 => omega); (case h1 => omega); (case h2 => omega); (try case hs => with_unfolding_all rfl); k_whole; intro t') | (apply item_made; (case N => k_asm); (case hi => with_reducible assumption); (case hm => (first | kbu_src | k_mem)); (case h0 => omega); (case h1 => omega); (case h2 => decide); (try case hs => with_unfolding_all rfl); k_whole; intro x' t')); (try k_sweep)) | with_reducible (k_here; (with_reducible show wpAny _ _ (call (Value.builtin "len") [Value.ref _]) _ _ _); k_dflt (apply lenN; (case N => k_asm); (case hm => (first | kbu_src | k_mem)); (case hz => omega); k_whole)) | (k_unfold; (try dsimp only)) | (k_end; wrow_close) | walk1 | (dsimp only; walk1) | (leave1; walk_say "STEP leave1"; try dsimp only))
  unfold Stop
  have hP3 : Passed 3 := .mk
  refine' exec_list (Str.ofString "octets") (fun ks => Octs ks ∧ ks.length ≤ 100) ?F3 ?N3 ?h3 ?k3
  (case F3 => k_asm)
  (case N3 => k_asm)
  (case h3 =>
    repeat' (first | with_reducible (k_here; ((with_reducible refine wpAny_execs_cons ?_); try dsimp only)) | with_reducible (k_here; ((with_reducible refine wpAny_execs_nil ?_); try dsimp only)) | with_reducible (k_here; (with_reducible show wpAny _ _ (subscriptTail _ _ (Value.ref _) (Value.int _ _)) _ _ _); k_dflt (first | (apply item_ints; (case N => k_asm); (case hi => with_reducible assumption); (case hm => (first | kbu_src | k_mem)); (case h0 => omega); (case h1 => omega); (case h2 => omega); (try case hs => with_unfolding_all rfl); k_whole; intro t') | (apply item_made; (case N => k_asm); (case hi => with_reducible assumption); (case hm => (first | kbu_src | k_mem)); (case h0 => omega); (case h1 => omega); (case h2 => decide); (try case hs => with_unfolding_all rfl); k_whole; intro x' t')); (try k_sweep)) | with_reducible (k_here; (with_reducible show wpAny _ _ (subscriptTail _ (Expr.Slice none (some _) none _) (Value.ref _) (Value.ref _)) _ _ _); k_dflt (apply cut_upto (s := ⟨_, _, _, _, _⟩); (case F => k_asm); (case N => k_asm); (case hm => (first | kbu_src | k_mem)); (case hi => with_reducible assumption); (case h0 => first | omega | exact Int.fmod_nonneg_of_pos _ (by omega)); (case hz => ((try simp only [List.length_drop, List.length_take]); omega)); (try case hs => with_unfolding_all rfl); (try case ht => intro _; with_unfolding_all rfl); k_whole); intro D' ws' h' F' N' l1 hI'; (try k_lt l1); (try k_sweep)) | with_reducible (k_here; (with_reducible show wpAny _ _ (call (Value.builtin "len") [Value.ref _]) _ _ _); k_dflt (apply lenN; (case N => k_asm); (case hm => (first | kbu_src | k_mem)); (case hz => omega); k_whole)) | with_reducible (k_here; (with_reducible show wpAny _ _ (exec (Stmt.If _ _ _ _) _) _ _ _); dsimp only) | (k_unfold; (try dsimp only)) | (k_end; wrow_close) | walk1 | (dsimp only; walk1) | (leave1; walk_say "STEP leave1"; try dsimp only))
    all_goals (try dsimp only)
    · exact (LMid.mk (by k_asm) (by k_asm) (by (first | with_reducible assumption | (with_reducible (repeat (first | exact List.mem_cons_self | assumption | refine List.mem_cons_of_mem _ ?_)); done) | k_mem)) (by (repeat' (first | with_reducible exact subRefl | with_reducible exact subNil | with_reducible assumption | with_reducible exact subAppR | (refine subCons ?_ ?_; focus (first | with_reducible assumption | with_reducible exact subAppR | (with_reducible (repeat (first | exact List.mem_cons_self | assumption | refine List.mem_cons_of_mem _ ?_)); done))) | refine subTail ?_ | refine inL ?_))) (by with_reducible assumption) ⟨octs_take (by with_reducible assumption), by (rw [List.length_take]; omega)⟩)
    · exact (LMid.mk (fr_same (by k_asm) rfl) (by k_asm) (by (first | with_reducible assumption | (with_reducible (repeat (first | exact List.mem_cons_self | assumption | refine List.mem_cons_of_mem _ ?_)); done) | k_mem)) (by (repeat' (first | with_reducible exact subRefl | with_reducible exact subNil | with_reducible assumption | with_reducible exact subAppR | (refine subCons ?_ ?_; focus (first | with_reducible assumption | with_reducible exact subAppR | (with_reducible (repeat (first | exact List.mem_cons_self | assumption | refine List.mem_cons_of_mem _ ?_)); done))) | refine subTail ?_ | refine inL ?_))) (by with_reducible assumption) ⟨by with_reducible assumption, by omega⟩))
  intro D7 ys7 ks7 n7 h' tk F' N' hi7 hP7
  refine gbox ?_
  intro G9 hG9
  obtain ⟨ho7, hz7⟩ := hP7
  have hl7 := hi7.length
  refine hG9 ?_
  repeat' (first | with_reducible (k_here; ((with_reducible refine wpAny_execs_cons ?_); try dsimp only)) | with_reducible (k_here; (with_reducible show wpAny _ _ (exec (Stmt.For (Expr.Name _ _) (Expr.List _ _) _ _ _) _) _ _ _); k_dflt (refine stop_for ?_)) | (k_unfold; (try dsimp only)) | (k_end; wrow_close) | walk1 | (dsimp only; walk1) | (leave1; walk_say "STEP leave1"; try dsimp only))
  unfold Stop
  have hG0 : GRnd w (topOf dp un gd cn cs L a ccd []) base [envOf cn cs L a ccd] mean mg mb _ _ := ⟨by assumption, by assumption, by assumption, by assumption, by assumption⟩
  refine' For_listG_of hG0 ?h5 ?hs5
  (case hs5 => (intro _; with_unfolding_all rfl))
  repeat' (first | with_reducible (k_here; (with_reducible show wpAny _ _ (subscriptTail _ (Expr.Slice none (some _) none _) (Value.ref _) (Value.ref _)) _ _ _); k_dflt (apply cut_upto (s := ⟨_, _, _, _, _⟩); (case F => k_asm); (case N => k_asm); (case hm => (first | kbu_src | k_mem)); (case hi => with_reducible assumption); (case h0 => first | omega | exact Int.fmod_nonneg_of_pos _ (by omega)); (case hz => ((try simp only [List.length_drop, List.length_take]); omega)); (try case hs => with_unfolding_all rfl); (try case ht => intro _; with_unfolding_all rfl); k_whole); intro D' ws' h' F' N' l1 hI'; (try k_lt l1); (try k_sweep)) | (k_unfold; (try dsimp only)) | (k_end; wrow_close) | walk1 | (dsimp only; walk1) | (leave1; walk_say "STEP leave1"; try dsimp only))
  unfold Stop
  rename News _ _ _ _ => hN8
  rename Fr _ _ _ _ => hF8
  refine (ex8 _ ([.ref _, .ref _, .ref _]) _ _ _ _ _ ((fun (m₀ : Str → Option Value) (nx₀ : List (Addr × Obj)) (i : Nat) (m : Str → Option Value) (nx : List (Addr × Obj)) => nx = nx₀ ∧ ∀ y, y ≠ Str.ofString "shown" → m y = m₀ y) _ _) ⟨rfl, rfl, hG0, by (first | with_reducible assumption | (with_reducible (repeat (first | exact List.mem_cons_self | assumption | refine List.mem_cons_of_mem _ ?_)); done) | k_mem), hF8, hN8, fun _ h => h, ⟨rfl, fun _ _ => rfl⟩, ?turn, ?done⟩)
  (case turn =>
    intro I oI g i v m₁ nx h tk hv hG hJ hl hne F' N'
    refine gbox ?_
    intro G9 hG9
    obtain ⟨hnx, hm⟩ := hJ
    obtain ⟨va, rfl⟩ := free1 hm
    clear hm
    obtain ⟨T0', B', X', T', D'⟩ := hG
    have hv2 : ∃ li vsi ni ksi, v = Value.ref li ∧ (li, listOf (List.toArray vsi) ni) ∈ nx ∧ IntsAre vsi ksi ∧ Octs ksi ∧ ksi.length ≤ 300 := by
      refine three_of (P := fun v => ∃ li vsi ni ksi, v = Value.ref li ∧ (li, listOf (List.toArray vsi) ni) ∈ nx ∧ IntsAre vsi ksi ∧ Octs ksi ∧ ksi.length ≤ 300) hv ?_ ?_ ?_
      · exact ⟨_, _, _, _, rfl, by (rw [hnx]; (first | with_reducible assumption | (with_reducible (repeat (first | exact List.mem_cons_self | assumption | refine List.mem_cons_of_mem _ ?_)); done) | k_mem)), by with_reducible assumption, by with_reducible assumption, by omega⟩
      · exact ⟨_, _, _, _, rfl, by (rw [hnx]; (first | with_reducible assumption | (with_reducible (repeat (first | exact List.mem_cons_self | assumption | refine List.mem_cons_of_mem _ ?_)); done) | k_mem)), by with_reducible assumption, octs_take (by with_reducible assumption), by (rw [List.length_take]; omega)⟩
      · exact ⟨_, _, _, _, rfl, by (rw [hnx]; (first | with_reducible assumption | (with_reducible (repeat (first | exact List.mem_cons_self | assumption | refine List.mem_cons_of_mem _ ?_)); done) | k_mem)), by with_reducible assumption, octs_take (by with_reducible assumption), by (rw [List.length_take]; omega)⟩
    clear hv
    obtain ⟨li, vsi, ni, ksi, rfl, hmi, hii, hoi, hzi⟩ := hv2
    refine hG9 ?_
    refine (show wpAny _ _ (assign _ _ (Value.ref li)) _ _ _ from ?_)
    repeat' (first | with_reducible (k_here; ((with_reducible refine wpAny_execs_cons ?_); try dsimp only)) | with_reducible (k_here; ((with_reducible refine wpAny_execs_nil ?_); try dsimp only)) | with_reducible (k_here; (with_reducible show wpAny _ _ (call (Value.ref 262) _) _ _ _); k_dflt (apply con_rholds'; ((case cN => k_asm); (case cF => k_asm); (case cB => k_asm); (case cX => k_asm); (case cT => k_asm); (try ((case cXB => assumption); (case cTB => assumption); (case cKD => assumption); (case cT0 => first | assumption | exact KtsTurn.refl))); (case cK => first | exact rfl | assumption); (try case hm => (first | kbu_src | k_mem)); (try case hx => (first | kbu_src | k_mem)); (try case hxd => (first | kbu_src | k_mem)); (try case hi => with_reducible assumption); (try case ho => (first | (first | with_reducible assumption | exact octs_take (by with_reducible assumption) | exact octs_drop (by with_reducible assumption) | exact octs_take (octs_drop (by with_reducible assumption))) | (with_reducible assumption))); (try case hdat => (first | with_reducible assumption | (refine DatAll.mono ?_ (by with_reducible assumption); (first | (repeat' (first | with_reducible exact subRefl | with_reducible exact subNil | with_reducible assumption | with_reducible exact subAppR | (refine subCons ?_ ?_; focus (first | with_reducible exact subAppR | kbu_src)) | refine subTail ?_ | refine inL ?_)) | (repeat' (first | with_reducible exact subRefl | with_reducible exact subNil | with_reducible assumption | (refine subCons ?_ ?_; focus kbu_src) | refine subTail ?_)))))); (try case hz => (first | ((rw [headTags_len]; omega)) | ((simp only [List.length_take, List.length_drop, List.length_append, List.length_replicate]; omega)) | (first | omega | exact ⟨by omega, by omega⟩))); (case cP => (first | (refine ⟨by with_reducible assumption, ?_⟩; (refine slc_len (n := 8) ?_ ?_ ?_ <;> omega)) | (first | trivial | decide | omega | exact ⟨by decide, by decide⟩ | exact ⟨by with_reducible assumption, by with_reducible assumption, by omega, by omega⟩))); (case cD => ktr_room); (case cU => ktr_units)); (refine RTrue.out ?_; intro h' tk' h₁' T0' F' N' B' X' T' D'; (try dsimp only); (try k_lift B'); (try k_sweep)))) | (k_unfold; (try dsimp only)) | (k_end; wrow_close) | walk1 | (dsimp only; walk1) | (leave1; walk_say "STEP leave1"; try dsimp only))
    all_goals (try dsimp only)
    all_goals first
      | ((with_reducible show GEnd _ _ _ _ _ _ _ _ _)
         exact (GEnd.mk (nx := nx) ⟨by assumption, by assumption, by assumption, by assumption, by assumption⟩ (by k_asm) (by k_asm) (by (repeat' (first | with_reducible exact subRefl | with_reducible exact subNil | with_reducible assumption | (refine subCons ?_ ?_; focus (first | with_reducible assumption | (with_reducible (repeat (first | exact List.mem_cons_self | assumption | refine List.mem_cons_of_mem _ ?_)); done))) | refine subTail ?_))) hne ⟨hl, hnx, fun y hy => by simp only [if_neg hy]⟩)))
  (case done =>
    intro g m' nx h' tk hG hJ F' N'
    refine gbox ?_
    intro G9 hG9
    obtain ⟨hnx, hm⟩ := hJ
    subst hnx
    obtain ⟨va, rfl⟩ := free1 hm
    clear hm
    have hG1 := hG
    obtain ⟨T0', B', X', T', D'⟩ := hG
    refine hG9 ?_
    repeat' (first | with_reducible (k_here; ((with_reducible refine wpAny_execs_cons ?_); try dsimp only)) | with_reducible (k_here; (with_reducible show wpAny _ _ (exec (Stmt.For _ _ _ _ _) _) _ _ _); k_dflt (refine stop_for ?_)) | (k_unfold; (try dsimp only)) | (k_end; wrow_close) | walk1 | (dsimp only; walk1) | (leave1; walk_say "STEP leave1"; try dsimp only))
    unfold Stop
    refine' For_rangeG_of hG1 ?h6 ?hs6
    (case hs6 => (intro _; with_unfolding_all rfl))
    repeat' (first | (k_unfold; (try dsimp only)) | (k_end; wrow_close) | walk1 | (dsimp only; walk1) | (leave1; walk_say "STEP leave1"; try dsimp only))
    unfold Stop
    rename News _ _ _ _ => hN8
    rename Fr _ _ _ _ => hF8
    refine (ex12 _ _ _ _ _ _ 2 _ _ _ _ ((fun (m₀ : Str → Option Value) (nx₀ : List (Addr × Obj)) (i : Nat) (m : Str → Option Value) (nx : List (Addr × Obj)) => nx = nx₀ ∧ ∀ y, y ≠ Str.ofString "j" → y ≠ Str.ofString "address" → y ≠ Str.ofString "mac" → m y = m₀ y) _ _) ⟨rfl, rfl, hG1, hF8, hN8, by with_reducible assumption, fun _ h => h, by decide, by decide, ⟨rfl, fun _ _ _ _ => rfl⟩, ?turn2, ?done2⟩)
    (case done2 =>
      intro g m' nx h' tk hG hJ F' N'
      refine gbox ?_
      intro G9 hG9
      obtain ⟨hnx, hm⟩ := hJ
      subst hnx
      obtain ⟨va, vb, vc, rfl⟩ := free3 hm
      clear hm
      obtain ⟨T0', B', X', T', D'⟩ := hG
      refine hG9 ?_
      repeat' (first | with_reducible (k_here; ((with_reducible refine wpAny_execs_cons ?_); try dsimp only)) | (k_unfold; (try dsimp only)) | (k_end; wrow_close) | walk1 | (dsimp only; walk1) | (leave1; walk_say "STEP leave1"; try dsimp only))
      all_goals (try dsimp only)
      exact hret _ _ _ (by k_asm) (newsDrop (by k_asm) (by (repeat' (first | with_reducible exact subRefl | with_reducible exact subNil | with_reducible assumption | with_reducible exact subAppR | (refine subCons ?_ ?_; focus (first | with_reducible assumption | with_reducible exact subAppR | (with_reducible (repeat (first | exact List.mem_cons_self | assumption | refine List.mem_cons_of_mem _ ?_)); done))) | refine subTail ?_ | refine inL ?_)))) rfl)
    intro I oI g i m₁ nx h tk t9 hi hG hJ hne F' N'
    refine gbox ?_
    intro G9 hG9
    obtain ⟨hnx, hm⟩ := hJ
    subst hnx
    obtain ⟨va, vb, vc, rfl⟩ := free3 hm
    clear hm
    obtain ⟨T0', B', X', T', D'⟩ := hG
    refine hG9 ?_
    refine (show wpAny _ _ (assign _ _ (Value.int (0 + (i : Int)) t9)) _ _ _ from ?_)
    repeat' (first | with_reducible (k_here; ((with_reducible refine wpAny_execs_cons ?_); try dsimp only)) | with_reducible (k_here; ((with_reducible refine wpAny_execs_nil ?_); try dsimp only)) | with_reducible (k_here; (with_reducible show wpAny _ _ (call (Value.ref 269) _) _ _ _); k_dflt (apply con_aholds'; ((case cN => k_asm); (case cF => k_asm); (case cB => k_asm); (case cX => k_asm); (case cT => k_asm); (try ((case cXB => assumption); (case cTB => assumption); (case cKD => assumption); (case cT0 => first | assumption | exact KtsTurn.refl))); (case cK => first | exact rfl | assumption); (try case hm => (first | kbu_src | k_mem)); (try case hx => (first | kbu_src | k_mem)); (try case hxd => (first | kbu_src | k_mem)); (try case hi => with_reducible assumption); (try case ho => (first | (first | with_reducible assumption | exact octs_take (by with_reducible assumption) | exact octs_drop (by with_reducible assumption) | exact octs_take (octs_drop (by with_reducible assumption))) | (with_reducible assumption))); (try case hdat => (first | with_reducible assumption | (refine DatAll.mono ?_ (by with_reducible assumption); (first | (repeat' (first | with_reducible exact subRefl | with_reducible exact subNil | with_reducible assumption | with_reducible exact subAppR | (refine subCons ?_ ?_; focus (first | with_reducible exact subAppR | kbu_src)) | refine subTail ?_ | refine inL ?_)) | (repeat' (first | with_reducible exact subRefl | with_reducible exact subNil | with_reducible assumption | (refine subCons ?_ ?_; focus kbu_src) | refine subTail ?_)))))); (try case hz => (first | ((rw [headTags_len]; omega)) | ((simp only [List.length_take, List.length_drop, List.length_append, List.length_replicate]; omega)) | (first | omega | exact ⟨by omega, by omega⟩))); (case cP => (first | (refine ⟨by with_reducible assumption, ?_⟩; (refine slc_len (n := 8) ?_ ?_ ?_ <;> omega)) | (first | trivial | decide | omega | exact ⟨by decide, by decide⟩ | exact ⟨by with_reducible assumption, by with_reducible assumption, by omega, by omega⟩))); (case cD => ktr_room); (case cU => ktr_units)); (refine RTrue.out ?_; intro h' tk' h₁' T0' F' N' B' X' T' D'; (try dsimp only); (try k_lift B'); (try k_sweep)))) | with_reducible (k_here; k_dflt ((first | ((with_reducible show wpAny _ _ (call (Value.ref 154) _) _ _ _); apply con_digit) | ((with_reducible show wpAny _ _ (call (Value.ref 161) _) _ _ _); apply con_drawn) | ((with_reducible show wpAny _ _ (call (Value.ref 168) _) _ _ _); apply con_kind) | ((with_reducible show wpAny _ _ (call (Value.ref 175) _) _ _ _); apply con_operation) | ((with_reducible show wpAny _ _ (call (Value.ref 182) _) _ _ _); apply con_tag)); ((case cN => k_asm); (case cF => k_asm); (case cB => k_asm); (case cX => k_asm); (case cT => k_asm); (try ((case cXB => assumption); (case cTB => assumption); (case cKD => assumption); (case cT0 => first | assumption | exact KtsTurn.refl))); (case cK => first | exact rfl | assumption); (try case hm => (first | kbu_src | k_mem)); (try case hx => (first | kbu_src | k_mem)); (try case hxd => (first | kbu_src | k_mem)); (try case hi => with_reducible assumption); (try case ho => (first | (first | with_reducible assumption | exact octs_take (by with_reducible assumption) | exact octs_drop (by with_reducible assumption) | exact octs_take (octs_drop (by with_reducible assumption))) | (with_reducible assumption))); (try case hdat => (first | with_reducible assumption | (refine DatAll.mono ?_ (by with_reducible assumption); (first | (repeat' (first | with_reducible exact subRefl | with_reducible exact subNil | with_reducible assumption | with_reducible exact subAppR | (refine subCons ?_ ?_; focus (first | with_reducible exact subAppR | kbu_src)) | refine subTail ?_ | refine inL ?_)) | (repeat' (first | with_reducible exact subRefl | with_reducible exact subNil | with_reducible assumption | (refine subCons ?_ ?_; focus kbu_src) | refine subTail ?_)))))); (try case hz => (first | ((rw [headTags_len]; omega)) | ((simp only [List.length_take, List.length_drop, List.length_append, List.length_replicate]; omega)) | (first | omega | exact ⟨by omega, by omega⟩))); (case cP => (first | (refine ⟨by with_reducible assumption, ?_⟩; (refine slc_len (n := 8) ?_ ?_ ?_ <;> omega)) | (first | trivial | decide | omega | exact ⟨by decide, by decide⟩ | exact ⟨by with_reducible assumption, by with_reducible assumption, by omega, by omega⟩))); (case cD => ktr_room); (case cU => ktr_units)); (first | (refine RTag.out ?_; intros; (try dsimp only); (try k_sweep)) | (refine RFive.out ?_; intros; (try dsimp only); (try k_sweep)) | (refine ROct.out ?_; intros; (try dsimp only); (try k_sweep)) | ((first | refine RExc.out ?_ | refine RInt.out ?_ | refine RVal.out ?_ | refine RLst.out ?_ | refine ROcts.out ?_); intros; (try dsimp only); (try k_sweep))))) | with_reducible (k_here; (with_reducible show wpAny _ _ (subscriptTail _ _ (Value.ref _) (Value.int _ _)) _ _ _); k_dflt (first | (apply item_ints; (case N => k_asm); (case hi => with_reducible assumption); (case hm => (first | kbu_src | k_mem)); (case h0 => omega); (case h1 => omega); (case h2 => omega); (try case hs => with_unfolding_all rfl); k_whole; intro t') | (apply item_made; (case N => k_asm); (case hi => with_reducible assumption); (case hm => (first | kbu_src | k_mem)); (case h0 => omega); (case h1 => omega); (case h2 => decide); (try case hs => with_unfolding_all rfl); k_whole; intro x' t')); (try k_sweep)) | (k_unfold; (try dsimp only)) | (k_end; wrow_close) | walk1 | (dsimp only; walk1) | (leave1; walk_say "STEP leave1"; try dsimp only))
    all_goals (try dsimp only)
    all_goals first
      | ((with_reducible show GEnd _ _ _ _ _ _ _ _ _)
         exact (GEnd.mk (nx := _) ⟨by assumption, by assumption, by assumption, by assumption, by assumption⟩ (by k_asm) (by k_asm) (by (repeat' (first | with_reducible exact subRefl | with_reducible exact subNil | with_reducible assumption | (refine subCons ?_ ?_; focus (first | with_reducible assumption | (with_reducible (repeat (first | exact List.mem_cons_self | assumption | refine List.mem_cons_of_mem _ ?_)); done))) | refine subTail ?_))) hne ⟨rfl, fun y h1 h2 h3 => by simp only [if_neg h1, if_neg h2, if_neg h3]⟩)))
end
section -- part L10
set_option maxHeartbeats 8000000
local macro_rules | `(tactic| k_qdec) => `(tactic| decide +kernel)



theorem law_holds : PySem.Challenge.rw_pf0328_01.Holds := hd (by
  k_go0
  all_goals (try k_fold)
  repeat' (first | with_reducible (k_here; (with_reducible show wpAny _ _ (call (Value.ref 281) [Value.ref _, Value.int _ _]) _ _ _); k_dflt (apply conR_use (C := (con_round _ _ _ _ _ _ ?ck)); (case F => k_asm); (case B => k_asm); (case X₀ => k_asm); (case N => k_asm); (case T => k_asm); (case XB => k_asm); (case TB => k_asm); (case hk => exact rfl); (case ck => decide); (case P => exact ⟨by assumption, by assumption, by omega⟩); (case hdp => ktr_room); (case hu => ktr_units); k_whole; intro r' h' tk' F' N' hR'; subst hR'; (try dsimp only); (try k_sweep))) | (k_unfold; (try dsimp only)) | (k_end; wrow_close) | walk1 | (dsimp only; walk1) | (leave1; walk_say "STEP leave1"; try dsimp only)))
end
end Mine

theorem PySem.Challenge.cw_pf0328_01_holds : PySem.Challenge.rw_pf0328_01.Holds := by
  exact Mine.law_holds

