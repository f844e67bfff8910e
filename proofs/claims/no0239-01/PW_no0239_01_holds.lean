import PyProof.Rows.All
import Wide.All
import OpenK.AllK
import Wide.FinOn
import KE.KLcTest
import PyProof.StrLawsLast
import KE.KxPart
import Lean
import PySem.Challenge.RW_no0239_01
set_option Elab.async false
section
open PySem PySem.W PyProof.Rows
set_option Elab.async false
set_option maxRecDepth 100000
set_option maxHeartbeats 8000000
namespace Mine
-- the head by hand: the top's run is evaluated in the kernel with the library's quick forms and the row as it stands
noncomputable def qv : PySem.Program := PySem.W.view PySem.Challenge.pw_no0239_01 [1, 2, 3, 5, 6, 7, 8, 9, 10, 12, 13, 14, 15, 16, 17, 18, 19, 20, 21, 22, 23, 24, 26, 27, 28, 29, 30, 31, 32, 33, 34, 35, 36, 37, 38, 39, 40]
noncomputable def s0 (w : World) (os : OsState) : Shared := ⟨boot_heap w.params, Array.mk [], boot_drawn, boot_toks, os⟩
theorem left_pair {α β γ : Type} {x : Option γ} {f : γ → α} {g : γ → β} {a : α} {b : β} (h1 : x.map f = some a) (h2 : x.map g = some b) : x.map (fun s => (f s, g s)) = some (a, b) := by
  cases x with
  | none => cases h1
  | some y => cases h1; cases h2; rfl
theorem leftO_of {p q : PySem.Program} {loose : List PySem.Str} {Xt : Shared → Bool} {α : Type} {Yf : Shared → α} {Ya : World → α} {N : Nat} (hb : opening p = plainProg p.main.scope.names) (hN : Nat.ble 600 N = true)
    (hf : ∀ s, fenceModules? p s = some s)
    (hA : ∀ w os, (topFrom treeTable p w N (s0 w os)).map (fun s => openSeen q loose (importedModules p.main.body) Xt true s) = some (openGood q loose))
    (hB : ∀ w os, (topFrom treeTable p w N (s0 w os)).map Yf = some (Ya w)) : LeftO p q loose Xt Yf Ya N true := fun w => by
  obtain ⟨s, hs, hv⟩ := Option.map_eq_some_iff.mp (boot_open hb hN hf w)
  obtain ⟨h, g, d, t, os⟩ := s
  cases hv
  unfold openEnds
  rw [hs]
  exact left_pair (hA w os) (hB w os)
theorem leftA : ∀ w os, (topFrom treeTable PySem.Challenge.pw_no0239_01 w 3508 (s0 w os)).map (fun s => openSeen qv [] (importedModules PySem.Challenge.pw_no0239_01.main.body)
    (fun s => xlAt qv [] s && recOk (RowW.records PySem.Challenge.rw_no0239_01.row.toRowW) s) true s) = some (openGood qv []) := by
  intro w os
  unfold topFrom
  rw [PySem.W.Fast.te14082659384304107361, PySem.W.Fast.te14364793385576792824, PySem.W.Fast.te4187177175401517315, PySem.W.Fast.te5923862056798008813]
  kernel_rfl
theorem lawSaid : PySem.Challenge.rw_no0239_01.wellSaid = true := (congrFun PySem.W.Fast.te9446332074065402090 _).trans (by kernel_rfl)
local macro_rules | `(tactic| o_law) => `(tactic| refine holds_law lawSaid fun said => ?_)
local macro_rules | `(tactic| o_head $H) => `(tactic|
  (refine holds_open (q := qv) (loose := []) (Xt := fun s => xlAt qv [] s && recOk (RowW.records PySem.Challenge.rw_no0239_01.row.toRowW) s) (XP := XL qv [])
     (Yf := Hook.obs $H) (Ya := Hook.val $H) (YP := Hook.says $H) (N := 3508) ?hl (Hook.of $H) (Hook.keeps $H) (fun s e => xl_of s (Bool.and_eq_true_iff.mp e).1) XL.keeps
     (by rfl) (by rfl) (by rfl) (fun s e => recFacts_of (Bool.and_eq_true_iff.mp e).2) (by rfl) (by first | assumption | decide +kernel) (by decide +kernel) ⟨rfl, rfl, rfl, rfl, rfl, by decide +kernel⟩ ?hw ?hc
   (case hl =>
     refine leftO_of rfl rfl (fun _ => rfl) leftA ?_
     intro w os
     unfold topFrom
     rw [PySem.W.Fast.te14082659384304107361, PySem.W.Fast.te14364793385576792824]
     kernel_rfl)))
open_top hd for PySem.Challenge.rw_no0239_01
end Mine
end
section
open PySem PySem.W PyProof.Rows PySem.Calls
set_option Elab.async false
set_option maxRecDepth 100000
set_option maxHeartbeats 8000000
namespace Mine
abbrev PR : PySem.Program := PySem.Challenge.rw_no0239_01.row.prog
structure Gd (w : World) (mg mb : PySem.Str → Option Value) (h : Heap) : Prop where
  K : (hd.heap_1 w.params).In h
  T : ∃ pg lse mean, Top pg lse mean mg mb h

noncomputable def nd : Nat → Nat
  | 0 => 0
  | n + 1 => nd ((n + 1) / 10) + 1
theorem nd_pos {n : Nat} (h : 0 < n) : nd n = nd (n / 10) + 1 := by
  cases n with
  | zero => lia
  | succ n => rw [nd]
theorem nd_big {n k : Nat} (h : 10 ^ k ≤ n) : nd n = nd (n / 10 ^ k) + k := by
  induction k generalizing n with
  | zero => simp
  | succ k ih =>
    have h1 : 0 < n := Nat.lt_of_lt_of_le (Nat.pow_pos (by lia)) h
    rw [nd_pos h1]
    have h2 : 10 ^ k ≤ n / 10 := by
      rw [Nat.le_div_iff_mul_le (by lia)]; rw [Nat.pow_succ] at h; exact h
    rw [ih h2, Nat.div_div_eq_div_mul, show 10 * 10 ^ k = 10 ^ (k + 1) by rw [Nat.pow_succ, Nat.mul_comm]]
    lia
theorem c1 {a r : Prop} (h : a ∧ r) : a := h.1
theorem c2 {x1 a r : Prop} (h : x1 ∧ a ∧ r) : a := h.2.1
theorem c3 {x1 x2 a r : Prop} (h : x1 ∧ x2 ∧ a ∧ r) : a := h.2.2.1
theorem c4 {x1 x2 x3 a r : Prop} (h : x1 ∧ x2 ∧ x3 ∧ a ∧ r) : a := h.2.2.2.1
theorem c5 {x1 x2 x3 x4 a r : Prop} (h : x1 ∧ x2 ∧ x3 ∧ x4 ∧ a ∧ r) : a := h.2.2.2.2.1
theorem c6 {x1 x2 x3 x4 x5 a r : Prop} (h : x1 ∧ x2 ∧ x3 ∧ x4 ∧ x5 ∧ a ∧ r) : a := h.2.2.2.2.2.1
theorem c7 {x1 x2 x3 x4 x5 x6 a r : Prop} (h : x1 ∧ x2 ∧ x3 ∧ x4 ∧ x5 ∧ x6 ∧ a ∧ r) : a := h.2.2.2.2.2.2.1
theorem c8 {x1 x2 x3 x4 x5 x6 x7 a r : Prop} (h : x1 ∧ x2 ∧ x3 ∧ x4 ∧ x5 ∧ x6 ∧ x7 ∧ a ∧ r) : a := h.2.2.2.2.2.2.2.1
theorem c9 {x1 x2 x3 x4 x5 x6 x7 x8 a r : Prop} (h : x1 ∧ x2 ∧ x3 ∧ x4 ∧ x5 ∧ x6 ∧ x7 ∧ x8 ∧ a ∧ r) : a := h.2.2.2.2.2.2.2.2.1
theorem c10 {x1 x2 x3 x4 x5 x6 x7 x8 x9 a r : Prop} (h : x1 ∧ x2 ∧ x3 ∧ x4 ∧ x5 ∧ x6 ∧ x7 ∧ x8 ∧ x9 ∧ a ∧ r) : a := h.2.2.2.2.2.2.2.2.2.1
theorem c11 {x1 x2 x3 x4 x5 x6 x7 x8 x9 x10 a r : Prop} (h : x1 ∧ x2 ∧ x3 ∧ x4 ∧ x5 ∧ x6 ∧ x7 ∧ x8 ∧ x9 ∧ x10 ∧ a ∧ r) : a := h.2.2.2.2.2.2.2.2.2.2.1
theorem c12 {x1 x2 x3 x4 x5 x6 x7 x8 x9 x10 x11 a r : Prop} (h : x1 ∧ x2 ∧ x3 ∧ x4 ∧ x5 ∧ x6 ∧ x7 ∧ x8 ∧ x9 ∧ x10 ∧ x11 ∧ a ∧ r) : a := h.2.2.2.2.2.2.2.2.2.2.2.1
theorem c13 {x1 x2 x3 x4 x5 x6 x7 x8 x9 x10 x11 x12 a r : Prop} (h : x1 ∧ x2 ∧ x3 ∧ x4 ∧ x5 ∧ x6 ∧ x7 ∧ x8 ∧ x9 ∧ x10 ∧ x11 ∧ x12 ∧ a ∧ r) : a := h.2.2.2.2.2.2.2.2.2.2.2.2.1
theorem c14 {x1 x2 x3 x4 x5 x6 x7 x8 x9 x10 x11 x12 x13 a r : Prop} (h : x1 ∧ x2 ∧ x3 ∧ x4 ∧ x5 ∧ x6 ∧ x7 ∧ x8 ∧ x9 ∧ x10 ∧ x11 ∧ x12 ∧ x13 ∧ a ∧ r) : a := h.2.2.2.2.2.2.2.2.2.2.2.2.2.1
end Mine
end
local macro_rules | `(tactic| walk_at $s:str) => `(tactic| k_extra $s)
local macro_rules | `(tactic| walk_at "my:cj") => `(tactic| first | with_reducible assumption | exact Mine.c1 (by with_reducible assumption) | exact Mine.c2 (by with_reducible assumption) | exact Mine.c3 (by with_reducible assumption) | exact Mine.c4 (by with_reducible assumption) | exact Mine.c5 (by with_reducible assumption) | exact Mine.c6 (by with_reducible assumption) | exact Mine.c7 (by with_reducible assumption) | exact Mine.c8 (by with_reducible assumption) | exact Mine.c9 (by with_reducible assumption) | exact Mine.c10 (by with_reducible assumption) | exact Mine.c11 (by with_reducible assumption) | exact Mine.c12 (by with_reducible assumption) | exact Mine.c13 (by with_reducible assumption) | exact Mine.c14 (by with_reducible assumption))
local macro_rules | `(tactic| k_lt $h) => `(tactic| (replace $h := PySem.W.allLt_of $h; dsimp only [PySem.W.AllLt] at $h:ident; try (with_reducible (have k_t : True := $h); clear k_t $h)))
local macro_rules | `(tactic| k_ne) => `(tactic| (refine PySem.W.neN ?_; (try dsimp only); (first | exact Nat.ne_of_lt (by walk_at "my:cj") | exact Nat.ne_of_gt (by walk_at "my:cj") | walk_at "my:cj" | exact Ne.symm (by walk_at "my:cj") | omega)))
section
open PySem PySem.W PyProof.Rows PySem.Calls
open PySem.Sem (wp)
set_option Elab.async false
set_option maxRecDepth 100000
set_option maxHeartbeats 8000000
namespace Mine
theorem rulesExc_0 : True := by
  w_top off
  k_with_none
  trivial

/-- what a made exception object is -/
abbrev excObj (C : Addr) (dict : Option Addr) (ta : Addr) : Obj := { cls := .ref C, dict := dict, data := .fields #[.ref ta, .none, .none, .none, .bool false, .none] }

section
variable {prog : Program} {w : World} {A : Around} {E : Value → Shared → Prop} {R : Result → Shared → Prop} {h : Heap} {g : Array GenState} {d : Drawn} {t : Nat} {os : OsState}
variable {nm q : Str} {C N : Addr} {bs bm : List Value} {hdct : Bool} {sn : List Str} {sub : List Value} {ab : Bool} {col : Option Bool} {dd : Option Addr} {k0 k1 k2 k3 k5 : Option Value}

theorem exc_check_new {M : Model} (hcB : (Value.ref C :: bm).contains (.type "Exception") = true) {rest : List Value} {Q : Unit → Shared → Prop}
    (hC : h.get? C = some (excClassObj nm q C N bs bm hdct sn sub ab col dd k0 k1 k2 k3 k5 "Exception.__new__"))
    (hq : Q () ⟨h, g, d, t, os⟩) : wpAny M A (checkBuiltinCall "Exception.__new__" ⟨.ref C :: rest, []⟩) Q E ⟨h, g, d, t, os⟩ := by
  have F := PySem.F.excBase_Exception
  have hstar := F.noStar
  simp only [checkBuiltinCall, F.newKind, F.newSplit, F.newRow]
  repeat (first | refine wpAny_loadPart_at hC ?_ | (refine wpAny_isSubtype_exc hC ?_; rw [hcB]) | refine wpAny_staticBase_exc hC ?_ | refine wpAny_madeBy_exc hC ?_ | simp only [bne_self_eq_false, Bool.false_eq_true, if_false] | wp_step)
  exact hq

theorem exc_new (hcB : (Value.ref C :: bm).contains (.type "Exception") = true) (hcA : (Value.ref C :: bm).contains (.type "AttributeError") = false) (hcN : (Value.ref C :: bm).contains (.type "NameError") = false)
    {rest : List Value} (hC : h.get? C = some (excClassObj nm q C N bs bm hdct sn sub ab col dd k0 k1 k2 k3 k5 "Exception.__new__"))
    (hq : R (.ok (.ret (.ref (h.objs.size + 1)))) ⟨(h.push { cls := .type "tuple", data := .seq rest.toArray }).push (excObj C none h.objs.size), g, d, t, os⟩) (hrest : rest.length ≤ sizeLine) :
    codeAny (model prog w) A (.builtin "Exception.__new__" ⟨.ref C :: rest, []⟩) R ⟨h, g, d, t, os⟩ := by
  have F := PySem.F.excBase_Exception
  have hends := F.ends
  refine codeAny_builtinAt F.entry ?_
  unfold Builtin.«BaseException.__new__»
  refine PySem.wpAt_bind ?_
  show PySem.wpAt _ _ _ (stack >>= _) _ _ _
  refine PySem.wpAt_bind (PySem.wpAt_stack fun p below => PySem.wpAt_of_wpAny ?_)
  wp_walk
  refine PySem.wpAt_of_wpAny ?_
  rw [F.owner]
  repeat (first | with_reducible refine wpAny_madeHere_exc F.canon hC ?_ | with_reducible refine wpAny_loadPart_at hC ?_ | (with_reducible refine wpAny_isSubtype_exc hC ?_; first | rw [hcB] | rw [hcA] | rw [hcN]) | wp_step)
  show R _ _
  rw [Heap.size_push]
  exact hq

theorem exc_type_call (hcB : (Value.ref C :: bm).contains (.type "Exception") = true) (hcA : (Value.ref C :: bm).contains (.type "AttributeError") = false) (hcN : (Value.ref C :: bm).contains (.type "NameError") = false)
    {rest : List Value} {fI : Addr} {oI : Obj} {Q : Fin → Shared → Prop}
    (hC : h.get? C = some (excClassObj nm q C N bs bm hdct sn sub ab col dd k0 k1 k2 k3 k5 "Exception.__new__"))
    (hi : Looks (model prog w) h (typeLookup (.ref C) "__init__") (some (.ref fI)))
    (hfI : h.get? fI = some oI) (hfc : oI.cls = .type "function")
    (hq : wpAny (model prog w) A (call (.ref fI) (.ref (h.objs.size + 1) :: rest)) (fun r s' => r = .none ∧ Q (.done (.ret (.ref (h.objs.size + 1)))) s') E
      ⟨(h.push { cls := .type "tuple", data := .seq rest.toArray }).push (excObj C none h.objs.size), g, d, t, os⟩) (hrest : rest.length ≤ sizeLine) :
    wpAny (model prog w) A (Builtin.«type.__call__» ⟨.ref C :: rest, []⟩) Q E ⟨h, g, d, t, os⟩ := by
  have F := PySem.F.excBase_Exception
  repeat (first | with_reducible refine wpAny_loadPart_at hC ?_ | with_reducible refine wpAny_madeBy_exc hC ?_ | wp_step)
  refine codeAny_call_builtin_code (Code.quiet_builtin _ F.quiet) (exc_check_new hcB hC ?_)
  refine exc_new hcB hcA hcN hC ?_ hrest
  show wpAny _ _ _ _ _ _
  have hk : ∀ b o, h.get? b = some o → ((h.push { cls := .type "tuple", data := .seq rest.toArray }).push (excObj C none h.objs.size)).get? b = some o := fun b o e => Heap.get?_push_of_some _ (Heap.get?_push_of_some _ e)
  have hC₁ := hk _ _ hC
  have hfI₁ := hk _ _ hfI
  have hget : ((h.push { cls := .type "tuple", data := .seq rest.toArray }).push (excObj C none h.objs.size)).get? (h.objs.size + 1) = some (excObj C none h.objs.size) := by heap_get
  have hcC : (Value.ref C :: bm).contains (.ref C) = true := by simp
  unfold isInstance
  repeat (first | with_reducible refine wpAny_loadPart_at hget ?_ | (with_reducible refine wpAny_isSubtype_exc hC₁ ?_; rw [hcC]) | wp_step)
  show wpAny _ _ (typeLookup (.ref C) _) _ _ _
  refine hi _ _ _ _ hk ?_
  refine wpAny_holding (wpAny_bind ?_)
  unfold bindSpecial
  refine wpAny_bind (wpAny_typeOf (T := "function") ⟨_, hfI₁, hfc⟩ ?_)
  rw [if_pos (by decide)]
  refine wpAny_pure (wpAny_bind (wpAny_mono hq (fun r s' hr => ?_) fun _ _ x => x))
  obtain ⟨rfl, hQ⟩ := hr
  wp_walk
  exact hQ

theorem exc_call (hcB : (Value.ref C :: bm).contains (.type "Exception") = true) (hcA : (Value.ref C :: bm).contains (.type "AttributeError") = false) (hcN : (Value.ref C :: bm).contains (.type "NameError") = false)
    {rest : List Value} {fI : Addr} {oI : Obj} {Q : Value → Shared → Prop}
    (hC : h.get? C = some (excClassObj nm q C N bs bm hdct sn sub ab col dd k0 k1 k2 k3 k5 "Exception.__new__"))
    (hi : Looks (model prog w) h (typeLookup (.ref C) "__init__") (some (.ref fI)))
    (hfI : h.get? fI = some oI) (hfc : oI.cls = .type "function")
    (hq : wpAny (model prog w) (A.under (.builtin "type.__call__" ⟨.ref C :: rest, []⟩)) (call (.ref fI) (.ref (h.objs.size + 1) :: rest)) (fun r s' => r = .none ∧ Q (.ref (h.objs.size + 1)) s') E
      ⟨(h.push { cls := .type "tuple", data := .seq rest.toArray }).push (excObj C none h.objs.size), g, d, t, os⟩) (hrest : rest.length ≤ sizeLine) :
    wpAny (model prog w) A (call (.ref C) rest) Q E ⟨h, g, d, t, os⟩ := by
  have f1 := tc_lookup
  have f2 := tc_bind (.ref C)
  have hT : (⟨h, g, d, t, os⟩ : Shared).TypeIs (.ref C) "type" := ⟨_, hC, rfl⟩
  refine wpAny_call (codeAny_of_tree ?_)
  show wpAny _ _ (callAny (.ref C) _) _ _ _
  repeat (any_goals (first | assumption | with_reducible refine wpAny_loadPart_at hC ?_ | wp_step))
  refine ⟨rfl, ?_⟩
  refine codeAny_call_builtin_at (Code.quiet_builtin _ (by decide +kernel)) entry_typeCall (wpAny_check_type_call_sub hC (exc_type_call hcB hcA hcN hC hi hfI hfc hq hrest))
end
end Mine
end
section
open PySem PySem.W PyProof.Rows PySem.Calls
open PySem.Sem (wp)
open PySem.Builtin PySem.Builtin.ObjectAttr
set_option Elab.async false
set_option maxRecDepth 100000
set_option maxHeartbeats 8000000
namespace Mine
theorem rulesExc2_0 : True := by
  w_top off
  k_with_none
  trivial
abbrev excBm : List Value := [.type "Exception", .type "BaseException", .type "object"]

section
variable {prog : Program} {w : World} {A : Around} {E : Value → Shared → Prop} {R : Result → Shared → Prop} {h : Heap} {g : Array GenState} {d : Drawn} {t : Nat} {os : OsState}
variable {nm q : Str} {C N : Addr} {bs bm : List Value} {hdct : Bool} {sn : List Str} {sub : List Value} {ab : Bool} {col : Option Bool} {dd : Option Addr} {k0 k1 k2 k3 k5 : Option Value}
variable {newId : String}

theorem exc_check_init {M : Model} (hcB : (Value.ref C :: bm).contains (.type "Exception") = true) {e : Addr} {oe : Obj} {rest : List Value} {Q : Unit → Shared → Prop}
    (hC : h.get? C = some (excClassObj nm q C N bs bm hdct sn sub ab col dd k0 k1 k2 k3 k5 newId)) (he : h.get? e = some oe) (hcls : oe.cls = .ref C) (hq : Q () ⟨h, g, d, t, os⟩) :
    wpAny M A (checkBuiltinCall "Exception.__init__" ⟨.ref e :: rest, []⟩) Q E ⟨h, g, d, t, os⟩ := by
  have F := PySem.F.excBase_Exception
  have hshort := F.noStar
  simp only [checkBuiltinCall, F.initKind, F.initSplit, F.initRow]
  repeat (first | (with_reducible refine wpAny_loadPart_at he ?_; rw [hcls]) | with_reducible refine wpAny_loadPart_at hC ?_ | (with_reducible refine wpAny_isSubtype_exc hC ?_; rw [hcB]) | wp_step)
  refine wpAny_onRaise ?_
  rw [show ∀ (a b : String) (n : Nat), Bind.check ⟨.positional, "*", "Exception", .self, [⟨"args", .varPos, false⟩]⟩ a b n (List.map (fun x => x.fst) ({ pos := Value.ref e :: rest } : Args).kw) = pure () from
    fun a b n => check_star_args _ _ _ _ _ _]
  exact wpAny_pure hq

theorem exc_base_init (hcB : (Value.ref C :: bm).contains (.type "Exception") = true) {e ta : Addr} {od : Option Addr} {v : Value} {Q : Value → Shared → Prop}
    (hC : h.get? C = some (excClassObj nm q C N bs bm hdct sn sub ab col dd k0 k1 k2 k3 k5 newId)) (he : h.get? e = some (excObj C od ta))
    (hq : Q .none ⟨(h.push { cls := .type "tuple", data := .seq #[v] }).update e (Obj.mapFields (·.setIfInBounds 0 (.ref h.objs.size))), g, d, t, os⟩) :
    wpAny (model prog w) A (call (.builtin "Exception.__init__") [.ref e, v]) Q E ⟨h, g, d, t, os⟩ := by
  have F := PySem.F.excBase_Exception
  have he1 := Heap.get?_push_of_some { cls := .type "tuple", data := .seq #[v] } he
  refine wpAny_call (codeAny_call_builtin F.init.plain F.initEntry (exc_check_init hcB hC he rfl ?_))
  wp_walk
  exact hq
end

section
variable {prog : Program} {w : World} {A : Around} {E : Value → Shared → Prop} {R : Result → Shared → Prop} {s : Shared} {K : Frag} {x C : Addr} {ox : Obj} {od : Option Obj}
theorem exc_passes (self : Value) : refuseLoop self "__setattr__" excBm = pure () := by kernel_rfl

theorem exc_osa {name : Str} {tk : Tok} {v : Value} {cs : List Addr} {cd : ClassData} (X : K.In s.heap) (I : InstAt s.heap x ox C od) (hc : clsIn K C = some cd) (hm : cd.mro = cs.map Value.ref ++ excBm) (hcs : cs ≠ []) (hf : findIn K (.ref C) name = some none)
    (h : wpAny (model prog w) A.in1 (storeInOwnDict (.ref x) (.ref C) (.str name tk) name v false)
      (fun fin s' => match fin with | .done f => R (.ok f) s' | .again c' => c'.quiet = true ∧ codeAny (model prog w) A c' R s') (fun e s' => R (.error e) s') s) :
    codeAny (model prog w) A (.call (.builtin "object.__setattr__") ⟨[.ref x, .str name tk, v], []⟩) R s := by
  have SF := PySem.F.store_object
  have ne : cd.mro.isEmpty = false := by rw [hm]; cases cs <;> simp
  have hob : cd.mro.contains (.type "object") = true := by rw [hm]; simp
  have sub : Looks (model prog w) s.heap (isInstance (.ref x) (.type "object")) true := I.type.andThen (looks_mroIn X (by unfold mroIn; rw [hc, Option.bind_some, if_neg (by rw [ne]; decide), hob]))
  refine codeAny_call_builtin SF.slot.plain SF.entry (@check_slot (model prog w) _ _ s "object.__setattr__" "object" "__setattr__" (.ref x) [.str name tk, v] [] _ SF.kind SF.split sub (SF.args (.ref x) (.str name tk) v) ?_)
  have hm' : Looks (model prog w) s.heap (mroOf (.ref C)) cd.mro := (looks_clsIn X hc).andThen .now
  have hp : ∀ l : List Addr, refuseLoop (.ref x) "__setattr__" (l.map Value.ref ++ excBm) = pure () := fun l => by
    induction l with
    | nil => exact exc_passes _
    | cons a r ih => rw [List.map_cons, List.cons_append, refuseLoop_ref]; exact ih
  rw [osa_eq, refuse_eq]
  refine wpAny_bind (wpAny_bind (I.type.here (wpAny_bind (hm'.here ?_))))
  rw [hm, hp]
  refine wpAny_pure (wpAny_bind (I.type.here (wpAny_bind ((looks_findIn X hf).here (wpAny_bind (wpAny_pure ?_))))))
  exact h


theorem exc_store_dict {D : Addr} {name : Str} {tk : Tok} {v : Value} {es : List DictEntry} {n : Nat} {Q : Fin → Shared → Prop} (hD : s.heap.get? D = some (dictOf es n)) (hl : (getL name es).isSome = true)
    (hz : (putL name (PyData.keyHash w.params name) (.str name s.toks) v es).length ≤ 1000)
    (hq : ∀ h', (∀ b o, b ≠ D → s.heap.get? b = some o → h'.get? b = some o) → h'.get? D = some (dictOf (putL name (PyData.keyHash w.params name) (.str name s.toks) v es) (putN name es n)) →
      Q (.done (.ret .none)) { s with heap := h', toks := s.toks + 1 }) :
    wpAny (model prog w) A (storeInDict D (.str name tk) name v) Q E s := by
  refine wpAny_bind (wpAny_pure (wpAny_bind ?_))
  unfold nsSet
  refine wpAny_bind (wpAny_bind (wpAny_askSetting (wpAny_pure (wpAny_bind (wpAny_mkText (wpAny_bind (wpAny_loadPart hD ?_)))))))
  have hD' : (s.heap.update D (Obj.putName name (PyData.keyHash w.params name) (.str name s.toks) v)).get? D = some (dictOf (putL name (PyData.keyHash w.params name) (.str name s.toks) v es) (putN name es n)) := by
    rw [← putName_dict]
    exact Heap.get?_update_self _ hD (by rw [putName_dict]; rfl)
  have c : (!es.any (·.key.isStr name) && es.any (·.refKey)) = false := by
    unfold getL at hl
    split at hl
    · rename_i en he
      rw [List.any_eq_true.mpr ⟨en, List.mem_of_find?_eq_some he, List.find?_some he⟩]; rfl
    · split at hl
      · cases hl
      · rename_i z; rw [Bool.not_eq_true] at z; rw [z, Bool.and_false]
  show wpAny _ _ (if aRefKeyMayBeTheName _ _ = true then _ else _) _ _ _
  rw [aRefKeyMayBeTheName_at, show (!(es.toArray).any (·.key.isStr name) && (es.toArray).any (·.refKey)) = false by rw [← Array.any_toList, ← Array.any_toList]; exact c]
  refine wpAny_updatePart hD ?_
  refine wpAny_bind (wpAny_lookBehind hD' (by exact pastItsLine_dict (by rw [List.size_toArray, sizeLine_eq]; omega)) ?_)
  exact wpAny_pure (hq _ (fun b o hb e => (Heap.get?_update_other _ _ hb.symm).trans e) hD')

theorem exc_store0 {name : Str} {tk : Tok} {v : Value} {e ta : Addr} {cd : ClassData} {Q : Fin → Shared → Prop} (X : K.In s.heap) (he : s.heap.get? e = some (excObj C none ta)) (hc : clsIn K C = some cd) (hd : cd.hasDict = true)
    (hq : ∀ h', (∀ b o, b ≠ e → s.heap.get? b = some o → h'.get? b = some o) → h'.get? e = some (excObj C (some s.heap.objs.size) ta) →
      h'.get? s.heap.objs.size = some (dictOf [⟨PyData.keyHash w.params name, .str name s.toks, v⟩] 1) → Q (.done (.ret .none)) { s with heap := h', toks := s.toks + 1 }) :
    wpAny (model prog w) A (storeInOwnDict (.ref e) (.ref C) (.str name tk) name v false) Q E s := by
  have hne : s.heap.objs.size ≠ e := Nat.ne_of_gt (Heap.lt_size he)
  have he1 : (s.heap.push { cls := .type "dict", data := .dict #[] }).get? e = some (excObj C none ta) := Heap.get?_push_of_some _ he
  have he2 : ((s.heap.push { cls := .type "dict", data := .dict #[] }).update e fun o => { o with dict := some s.heap.objs.size }).get? e = some (excObj C (some s.heap.objs.size) ta) := Heap.get?_update_self _ he1 rfl
  have D : ((s.heap.push { cls := .type "dict", data := .dict #[] }).update e fun o => { o with dict := some s.heap.objs.size }).get? s.heap.objs.size = some (dictOf [] 0) :=
    (Heap.get?_update_other _ _ hne.symm).trans (Heap.get?_push_size _ rfl)
  refine wpAny_bind (wpAny_pure (wpAny_bind (wpAny_bind (wpAny_loadPart he (wpAny_bind ((looks_clsIn X hc).here ?_))))))
  rw [hd]
  show wpAny _ _ (do let d ← alloc { cls := .type "dict", data := .dict #[] }; update e fun o => { o with dict := some d }; dictMade (.ref C) e d) _ _ _
  refine wpAny_bind (wpAny_alloc ?_)
  refine wpAny_bind (wpAny_update he1 ?_)
  refine wpAny_bind (wpAny_pure (wpAny_pure ?_))
  refine exc_store_dict D rfl (by show 1 ≤ 1000; decide) fun h' hk hD' => hq h' (fun b o hb e' => hk b o (Nat.ne_of_lt (Heap.lt_size e')) ((Heap.get?_update_other _ _ hb.symm).trans (Heap.get?_push_of_some _ e'))) (hk _ _ hne.symm he2) hD'

theorem exc_store1 {name : Str} {tk : Tok} {v : Value} {e ta D : Addr} {cd : ClassData} {es : List DictEntry} {n : Nat} {Q : Fin → Shared → Prop} (X : K.In s.heap) (he : s.heap.get? e = some (excObj C (some D) ta)) (hc : clsIn K C = some cd) (hd : cd.hasDict = true)
    (hD : s.heap.get? D = some (dictOf es n)) (hl : (getL name es).isSome = true)
    (hz : (putL name (PyData.keyHash w.params name) (.str name s.toks) v es).length ≤ 1000)
    (hq : ∀ h', (∀ b o, b ≠ D → s.heap.get? b = some o → h'.get? b = some o) → h'.get? D = some (dictOf (putL name (PyData.keyHash w.params name) (.str name s.toks) v es) (putN name es n)) →
      Q (.done (.ret .none)) { s with heap := h', toks := s.toks + 1 }) :
    wpAny (model prog w) A (storeInOwnDict (.ref e) (.ref C) (.str name tk) name v false) Q E s := by
  refine wpAny_bind (wpAny_pure (wpAny_bind (wpAny_bind (wpAny_loadPart he (wpAny_bind ((looks_clsIn X hc).here ?_))))))
  rw [hd]
  show wpAny _ _ (pure (some D)) _ _ _
  refine wpAny_pure ?_
  exact exc_store_dict hD hl hz hq
end
end Mine
end
section
open PySem PySem.W PyProof.Rows PySem.Calls
open PySem.Sem (wp)
open PySem.Builtin PySem.Builtin.ObjectAttr
set_option Elab.async false
set_option maxRecDepth 100000
set_option maxHeartbeats 8000000
namespace Mine
theorem rulesExc3_0 : True := by
  w_top off
  k_with_none
  trivial
abbrev Ext (h h' : Heap) : Prop := ∀ b o, h.get? b = some o → h'.get? b = some o

structure Rm (A : Around) (n : Nat) : Prop where
  d : A.depth + n < recursionLimit
  u : A.units + 4 * n + 4 < cLine
theorem Rm.deeper {A : Around} {n k : Nat} {env : Env} (r : Rm A k) (h : n + 1 ≤ k) : Rm (A.deeper env) n := ⟨by have := r.d; show A.depth + 1 + n < _; lia, by have := r.u; show A.units + 3 + 4 * n + 4 < _; lia⟩
theorem Rm.in1 {A : Around} {n k : Nat} (r : Rm A k) (h : n + 1 ≤ k) : Rm A.in1 n := ⟨by have := r.d; show A.depth + n < _; lia, by have := r.u; show A.units + 1 + 4 * n + 4 < _; lia⟩
theorem Rm.mark {A : Around} {n k : Nat} {x : Option Value} (r : Rm A k) (h : n ≤ k) : Rm (A.mark x) n := ⟨by have := r.d; show A.depth + n < _; lia, by have := r.u; show A.units + 4 * n + 4 < _; lia⟩
theorem Rm.le {A : Around} {n k : Nat} (r : Rm A k) (h : n ≤ k) : Rm A n := ⟨by have := r.d; lia, by have := r.u; lia⟩
theorem Rm.type {A : Around} {n k : Nat} {C : Addr} {rest : List Value} (r : Rm A k) (h : n + 1 ≤ k) : Rm (A.under (.builtin "type.__call__" ⟨.ref C :: rest, []⟩)) n := by
  have e1 : (Code.builtin "type.__call__" ⟨.ref C :: rest, []⟩).weight = 1 := by
    have hf : (Code.builtin "type.__call__" ⟨.ref C :: rest, []⟩).frames = 0 := by rfl
    simp [Code.weight, hf, Code.isCreation, Code.isGuard, Code.isCaller, guardIds]
  have e2 : (Code.builtin "type.__call__" ⟨.ref C :: rest, []⟩).cUnits ≤ 4 := Nat.le_of_ble_eq_true rfl
  refine ⟨?_, ?_⟩
  · have := r.d; show A.depth + (Code.builtin "type.__call__" ⟨.ref C :: rest, []⟩).weight + n < _; lia
  · have := r.u; show A.units + (Code.builtin "type.__call__" ⟨.ref C :: rest, []⟩).cUnits + 4 * n + 4 < _; lia

structure ExcC (w : World) (C : Addr) : Prop where
  cd : ∃ cd cs, clsIn (hd.heap_1 w.params) C = some cd ∧ cd.mro = cs.map Value.ref ++ excBm ∧ cs ≠ [] ∧ cd.hasDict = true
  text : findIn (hd.heap_1 w.params) (.ref C) "text" = some none
  code : findIn (hd.heap_1 w.params) (.ref C) "code" = some none
  set : findIn (hd.heap_1 w.params) (.ref C) "__setattr__" = some (some (.builtin "object.__setattr__"))
  obj : ∃ nm q N bs bm hdct sn sub ab col dd k0 k1 k2 k3 k5, (hd.heap_1 w.params).lookup C = some (excClassObj nm q C N bs bm hdct sn sub ab col dd k0 k1 k2 k3 k5 "Exception.__new__") ∧
    (Value.ref C :: bm).contains (.type "Exception") = true ∧ (Value.ref C :: bm).contains (.type "AttributeError") = false ∧ (Value.ref C :: bm).contains (.type "NameError") = false ∧ (Value.ref C :: bm).contains (.type "BaseException") = true

theorem fill3 {w : World} : PySem.Challenge.rw_no0239_01 = PySem.Challenge.rw_no0239_01 ∧ hd.heap_1 w.params = hd.heap_1 w.params := by k_fill; exact ⟨rfl, rfl⟩
theorem excC63 {w : World} : ExcC w 63 := by
  refine ⟨⟨_, [63, 31], by k_is, by kernel_rfl, by simp, by kernel_rfl⟩, by k_is, by k_is, by k_is, ⟨_, _, _, _, [.ref 31, .type "Exception", .type "BaseException", .type "object"], _, _, _, _, _, _, _, _, _, _, _, by k_is, by decide +kernel, by decide +kernel, by decide +kernel, by decide +kernel⟩⟩
theorem excC44 {w : World} : ExcC w 44 := by
  refine ⟨⟨_, [44, 31], by k_is, by kernel_rfl, by simp, by kernel_rfl⟩, by k_is, by k_is, by k_is, ⟨_, _, _, _, [.ref 31, .type "Exception", .type "BaseException", .type "object"], _, _, _, _, _, _, _, _, _, _, _, by k_is, by decide +kernel, by decide +kernel, by decide +kernel, by decide +kernel⟩⟩
end Mine
end
section
open PySem PySem.W PyProof.Rows PySem.Calls
open PySem.Sem (wp)
open PySem.Builtin PySem.Builtin.ObjectAttr
set_option Elab.async false
set_option maxRecDepth 100000
set_option maxHeartbeats 8000000
namespace Mine
theorem fill4 {w : World} : PySem.Challenge.rw_no0239_01 = PySem.Challenge.rw_no0239_01 ∧ hd.heap_1 w.params = hd.heap_1 w.params := by k_fill; exact ⟨rfl, rfl⟩

theorem exc_set0 {w : World} {A : Around} {s : Shared} {Q : Unit → Shared → Prop} {E : Value → Shared → Prop} {C e ta : Addr} {name : PySem.Str} {v : Value} {h₀ : Heap} (X : (hd.heap_1 w.params).In h₀) (k : Ext h₀ s.heap) (EC : ExcC w C)
    (hn : name = "text" ∨ name = "code") (he : s.heap.get? e = some (excObj C none ta))
    (hq : ∀ h' tk, (∀ b o, b ≠ e → s.heap.get? b = some o → h'.get? b = some o) → h'.get? e = some (excObj C (some s.heap.objs.size) ta) →
      h'.get? s.heap.objs.size = some (dictOf [⟨PyData.keyHash w.params name, .str name (s.toks + 1), v⟩] 1) → Q () { s with heap := h', toks := tk }) :
    wpAny (model PySem.Challenge.rw_no0239_01.row.prog w) A (setAttr (.ref e) name v) Q E s := by
  obtain ⟨cd, cs, c1, c2, c3, c4⟩ := EC.cd
  have hf : findIn (hd.heap_1 w.params) (.ref C) name = some none := by rcases hn with rfl | rfl; exact EC.text; exact EC.code
  have I : InstAt s.heap e (excObj C none ta) C none := ⟨he, rfl, rfl, trivial⟩
  refine set_plain (X.keeps k) I EC.set (exc_osa (s := { s with toks := s.toks + 1 }) (X.keeps k) I c1 c2 c3 hf ?_)
  exact exc_store0 (s := { s with toks := s.toks + 1 }) (X.keeps k) he c1 c4 fun h' a b c => hq h' _ a b c

theorem exc_set1 {w : World} {A : Around} {s : Shared} {Q : Unit → Shared → Prop} {E : Value → Shared → Prop} {C e ta D : Addr} {name : PySem.Str} {v : Value} {h₀ : Heap} {es : List DictEntry} {n : Nat} (X : (hd.heap_1 w.params).In h₀) (k : Ext h₀ s.heap) (EC : ExcC w C)
    (hn : name = "text" ∨ name = "code") (he : s.heap.get? e = some (excObj C (some D) ta)) (hD : s.heap.get? D = some (dictOf es n)) (hl : (getL name es).isSome = true)
    (hz : (putL name (PyData.keyHash w.params name) (.str name (s.toks + 1)) v es).length ≤ 1000)
    (hq : ∀ h' tk, (∀ b o, b ≠ D → s.heap.get? b = some o → h'.get? b = some o) → h'.get? D = some (dictOf (putL name (PyData.keyHash w.params name) (.str name (s.toks + 1)) v es) (putN name es n)) → Q () { s with heap := h', toks := tk }) :
    wpAny (model PySem.Challenge.rw_no0239_01.row.prog w) A (setAttr (.ref e) name v) Q E s := by
  obtain ⟨cd, cs, c1, c2, c3, c4⟩ := EC.cd
  have hf : findIn (hd.heap_1 w.params) (.ref C) name = some none := by rcases hn with rfl | rfl; exact EC.text; exact EC.code
  have I : InstAt s.heap e (excObj C (some D) ta) C (some (dictOf es n)) := ⟨he, rfl, rfl, hD⟩
  refine set_plain (X.keeps k) I EC.set (exc_osa (s := { s with toks := s.toks + 1 }) (X.keeps k) I c1 c2 c3 hf ?_)
  exact exc_store1 (s := { s with toks := s.toks + 1 }) (X.keeps k) he c1 c4 hD hl hz fun h' a b => hq h' _ a b

theorem fr_base {h₀ g h : Heap} {L : Addr} {m : PySem.Str → Option Value} (F : Fr g L h m) (k : Ext h₀ g) (hs : h₀.objs.size ≤ g.objs.size) : Fr h₀ L h m :=
  ⟨F.ns, fun b o q => F.keep b o (k b o q), Nat.le_trans hs F.above⟩

theorem call_q {prog : Program} {w : World} {A : Around} {R : Result → Shared → Prop} {s : Shared} {name qual : PySem.Str} {params : Arguments} {body : List Stmt} {scope : Scope}
    {dV kV doc pm cdv ct : Value} {an : Option Addr} {a : Addr} {o : Obj} {args : List Value} (binds : List (PySem.Str × Value))
    (hroom : A.depth < recursionLimit) (ho : s.heap.get? a = some o) (hdata : o.data = .func (fnOf name qual params body scope dV kV doc pm an cdv ct)) (hlim : s.heap.NoLimit) (hcd : s.heap.CodeRec cdv qual)
    (hbind : bindArgs (fnOf name qual params body scope dV kV doc pm an cdv ct) ⟨args, []⟩ = pure binds)
    (hloc : ∀ x ∈ binds, scope.names.lookup x.1 = some .local)
    (h : ∀ h₁, Fr s.heap s.heap.objs.size h₁ (fun x => binds.reverse.lookup x) →
      wpAny (model prog w) (A.deeper (envOf qual scope s.heap.objs.size a cdv)) (execs body (envOf qual scope s.heap.objs.size a cdv))
        (fun f s' => R (.ok (.ret (match f with | .ret v => v | _ => .none))) s')
        (fun e s' => wpAny (model prog w) (A.deeper (envOf qual scope s.heap.objs.size a cdv)) (leaving (envOf qual scope s.heap.objs.size a cdv) e)
          (fun _ s'' => R (.error e) s'') (fun e' s'' => R (.error e') s'') s')
        { s with heap := h₁, toks := s.toks + binds.length })
    (hco : scope.isCoroutine = false := by rfl) (hgen : scope.isGenerator = false := by rfl) (hk : scope.kind = .function := by rfl)
    (hcell : ∀ x ∈ scope.names, x.2 ≠ .cell := by decide) :
    codeAny (model prog w) A (.call (.ref a) ⟨args, []⟩) R s := by
  refine codeAny_call_function hroom ho hdata hco hgen rfl hcd ?_
  rw [hbind]
  refine wpAny_pure (wpAny_newFunctionEnv hcell hloc (fun h₁ hns hsb => ⟨hlim.fresh _ hsb, ?_⟩) hk)
  show codeAny _ _ (.func body (envOf qual scope s.heap.objs.size a cdv)) _ _
  exact codeAny_func (h h₁ ⟨hns, fun b o e => hsb.extBut b o (Nat.ne_of_lt (Heap.lt_size e)) (Heap.get?_push_of_some _ e), Nat.le_refl _⟩)

theorem fr_but {h₀ h h' : Heap} {L e : Addr} {m : PySem.Str → Option Value} (F : Fr h₀ L h m) (hn : h₀.get? e = none) (hL : L ≠ e) (k : ∀ b o, b ≠ e → h.get? b = some o → h'.get? b = some o) : Fr h₀ L h' m :=
  ⟨by obtain ⟨o, es, ep, a, r⟩ := F.ns; exact ⟨o, es, ep, k _ _ hL a, r⟩, fun b o q => k b o (fun z => by rw [z, hn] at q; cases q) (F.keep b o q), F.above⟩

theorem exc_init_F {w : World} {A : Around} {s : Shared} {Q : Value → Shared → Prop} {E : Value → Shared → Prop} {C e ta L : Addr} {od : Option Addr} {v : Value} {h₀ : Heap} {m : PySem.Str → Option Value} (F : Fr h₀ L s.heap m) (X : (hd.heap_1 w.params).In h₀) (EC : ExcC w C)
    (hn : h₀.get? e = none) (hL : L ≠ e) (he : s.heap.get? e = some (excObj C od ta))
    (hq : ∀ h' ta', Fr h₀ L h' m → (∀ b o, b ≠ e → s.heap.get? b = some o → h'.get? b = some o) → h'.get? e = some (excObj C od ta') → Q .none { s with heap := h' }) :
    wpAny (model PySem.Challenge.rw_no0239_01.row.prog w) A (call (.builtin "Exception.__init__") [.ref e, v]) Q E s := by
  obtain ⟨nm, q, N, bs, bm, hdct, sn, sub, ab, col, dd, k0, k1, k2, k3, k5, e1, e2, _⟩ := EC.obj
  obtain ⟨h, g, d, t, os⟩ := s
  refine exc_base_init e2 (F.keep _ _ (X _ _ e1)) he ?_
  have k : ∀ b o, b ≠ e → h.get? b = some o → ((h.push { cls := .type "tuple", data := .seq #[v] }).update e (Obj.mapFields (·.setIfInBounds 0 (.ref h.objs.size)))).get? b = some o :=
    fun b o hb x => (Heap.get?_update_other _ _ hb.symm).trans (Heap.get?_push_of_some _ x)
  exact hq _ h.objs.size (fr_but F hn hL k) k (Heap.get?_update_self _ (Heap.get?_push_of_some _ he) rfl)

theorem exc_set0_F {w : World} {A : Around} {s : Shared} {Q : Unit → Shared → Prop} {E : Value → Shared → Prop} {C e ta L : Addr} {name : PySem.Str} {v : Value} {h₀ : Heap} {m : PySem.Str → Option Value} (F : Fr h₀ L s.heap m) (X : (hd.heap_1 w.params).In h₀) (EC : ExcC w C)
    (hn : h₀.get? e = none) (hL : L ≠ e) (he : s.heap.get? e = some (excObj C none ta)) (hname : name = "text" ∨ name = "code")
    (hq : ∀ h' tk D n, Fr h₀ L h' m → (∀ b o, b ≠ e → s.heap.get? b = some o → h'.get? b = some o) → h'.get? e = some (excObj C (some D) ta) →
      h'.get? D = some (dictOf [⟨PyData.keyHash w.params name, .str name n, v⟩] 1) → s.heap.get? D = none → D ≠ e → D ≠ L → Q () { s with heap := h', toks := tk }) :
    wpAny (model PySem.Challenge.rw_no0239_01.row.prog w) A (setAttr (.ref e) name v) Q E s :=
  exc_set0 X F.keep EC hname he fun h' tk a b c => hq h' tk _ _ (fr_but F hn hL a) a b c (Heap.get?_none_of_le (Nat.le_refl _)) (Nat.ne_of_gt (Heap.lt_size he)) (Nat.ne_of_gt F.ns.lt)

theorem meta_exc : typeOf (.type "Exception") = pure (.type "type") := by kernel_rfl
theorem rulesExc4_1 : True := by
  w_top off
  k_with_none
  k_with "getMethod type:Exception" => (k_here; refine' method_type ?w1qF ?w1qX meta_exc (by decide +kernel) ?w1qe ?w1qh ?_; (case w1qF => k_asm); (case w1qX => k_asm); (case w1qe => k_dflt k_is); (case w1qh => k_handed))
  k_with "call builtin:Exception.__init__" => (refine' exc_init_F ?w2qF ?w2qX ?w2qC ?w2qn ?w2qL ?w2qe ?_; (case w2qF => k_asm); (case w2qX => k_asm); (case w2qC => assumption); (case w2qn => assumption); (case w2qL => assumption); (case w2qe => assumption); intro _ _ _ _ _; (try dsimp only))
  k_with "setAttr ref" => (refine' exc_set0_F ?w3qF ?w3qX ?w3qC ?w3qn ?w3qL ?w3qe ?w3qx ?_; (case w3qF => k_asm); (case w3qX => k_asm); (case w3qC => assumption); (case w3qn => assumption); (case w3qL => assumption); (case w3qe => assumption); (case w3qx => first | exact .inl rfl | exact .inr rfl); intro _ _ _ _ _ _ _ _ _ _ _; (try dsimp only))
  trivial
theorem f77_init {w : World} {mg mb : PySem.Str → Option Value} {mean : ExcName → Option Value} {pg : PySem.Program} {lse : List PySem.Str} {s : Shared} {A : Around} {Q E : Value → Shared → Prop} {h₀ : Heap} {C e ta : Addr} {v : Value}
    (X : (hd.heap_1 w.params).In h₀) (T : Top pg lse mean mg mb h₀) (k : Ext h₀ s.heap) (hs : h₀.objs.size ≤ s.heap.objs.size) (R : Rm A 1) (EC : ExcC w C)
    (hn : h₀.get? e = none) (he : s.heap.get? e = some (excObj C none ta))
    (hq : ∀ h' tk D ta' n, Ext h₀ h' → (∀ b o, b ≠ e → s.heap.get? b = some o → h'.get? b = some o) → h'.get? e = some (excObj C (some D) ta') → h'.get? D = some (dictOf [⟨PyData.keyHash w.params "text", .str "text" n, v⟩] 1) → s.heap.get? D = none → D ≠ e →
      Q .none { s with heap := h', toks := tk }) :
    wpAny (model PySem.Challenge.rw_no0239_01.row.prog w) A (call (.ref 28) [.ref e, v]) Q E s := by
  refine wpAny_call ?_
  refine call_q [("self", .ref e), ("text", v)] (by have := R.d; omega) (X.keeps k 28 _ (by k_is)) rfl (T.nolimit.keeps k) (codeRec_of (X.keeps k) (by k_is)) rfl (locs rfl) ?_ rfl rfl rfl (by decide)
  intro h₁ F0
  have F := fr_base F0 k hs
  have hL : s.heap.objs.size ≠ e := Nat.ne_of_gt (Heap.lt_size he)
  have he1 := F0.keep _ _ he
  k_steps
  rename_i h2 ta2 F2 k2 e2 h3 tk3 D3 n3 F3 k3 e3 d3 x3 y3 z3
  refine hq h3 _ D3 ta2 n3 F3.keep (fun b o hb q => k3 _ _ hb (k2 _ _ hb (F0.keep _ _ q))) e3 d3 ?_ y3
  cases q : s.heap.get? D3 with
  | none => rfl
  | some o => have := k2 _ _ y3 (F0.keep _ _ q); rw [x3] at this; cases this
end Mine
end
section
open PySem PySem.W PyProof.Rows PySem.Calls
open PySem.Sem (wp)
open PySem.Builtin PySem.Builtin.ObjectAttr
set_option Elab.async false
set_option maxRecDepth 100000
set_option maxHeartbeats 8000000
namespace Mine
theorem fill5 {w : World} : PySem.Challenge.rw_no0239_01 = PySem.Challenge.rw_no0239_01 ∧ hd.heap_1 w.params = hd.heap_1 w.params := by k_fill; exact ⟨rfl, rfl⟩
abbrev But (e : Addr) (h h' : Heap) : Prop := ∀ b o, b ≠ e → h.get? b = some o → h'.get? b = some o

/-- the entries behind IoFault.__init__ -/
abbrev ioEs (w : World) (x c : Value) (n k : Tok) : List DictEntry := [⟨PyData.keyHash w.params "text", .str "text" n, x⟩, ⟨PyData.keyHash w.params "code", .str "code" k, c⟩]

theorem none_of {h h' : Heap} {a : Addr} (k : Ext h h') (x : h'.get? a = none) : h.get? a = none := by
  cases q : h.get? a with
  | none => rfl
  | some o => have := k _ _ q; rw [x] at this; cases this

theorem f77_init_F {w : World} {mg mb : PySem.Str → Option Value} {mean : ExcName → Option Value} {pg : PySem.Program} {lse : List PySem.Str} {s : Shared} {A : Around} {Q E : Value → Shared → Prop} {h₀ : Heap} {m : PySem.Str → Option Value} {C e ta L : Addr} {v : Value}
    (F : Fr h₀ L s.heap m) (X : (hd.heap_1 w.params).In h₀) (T : Top pg lse mean mg mb h₀) (R : Rm A 1) (EC : ExcC w C)
    (hn : h₀.get? e = none) (hL : L ≠ e) (he : s.heap.get? e = some (excObj C none ta))
    (hq : ∀ h' tk D ta' n, Fr h₀ L h' m → But e s.heap h' → h'.get? e = some (excObj C (some D) ta') → h'.get? D = some (dictOf [⟨PyData.keyHash w.params "text", .str "text" n, v⟩] 1) → s.heap.get? D = none → D ≠ e → D ≠ L → h₀.get? D = none →
      Q .none { s with heap := h', toks := tk }) :
    wpAny (model PySem.Challenge.rw_no0239_01.row.prog w) A (call (.ref 28) [.ref e, v]) Q E s :=
  f77_init X T F.keep (Nat.le_trans F.above (Nat.le_of_lt F.ns.lt)) R EC hn he fun h' tk D ta' n _ b c d x y =>
    hq h' tk D ta' n (fr_but F hn hL b) b c d x y (fun z => by obtain ⟨o, _, _, q, _⟩ := F.ns; rw [z, q] at x; cases x) (none_of F.keep x)

theorem exc_set1_F {w : World} {A : Around} {s : Shared} {Q : Unit → Shared → Prop} {E : Value → Shared → Prop} {C e ta L D : Addr} {v x : Value} {n : Tok} {h₀ : Heap} {m : PySem.Str → Option Value} (F : Fr h₀ L s.heap m) (X : (hd.heap_1 w.params).In h₀) (EC : ExcC w C)
    (hn : h₀.get? D = none) (hL : D ≠ L) (he : s.heap.get? e = some (excObj C (some D) ta)) (hD : s.heap.get? D = some (dictOf [⟨PyData.keyHash w.params "text", .str "text" n, x⟩] 1))
    (hq : ∀ h' tk k, Fr h₀ L h' m → But D s.heap h' → h'.get? D = some (dictOf (ioEs w x v n k) 2) → Q () { s with heap := h', toks := tk }) :
    wpAny (model PySem.Challenge.rw_no0239_01.row.prog w) A (setAttr (.ref e) "code" v) Q E s :=
  exc_set1 X F.keep EC (.inr rfl) he hD (by kernel_rfl) (by show 2 ≤ 1000; decide) fun h' tk a b => hq h' tk _ (fr_but F hn hL.symm a) a b

theorem rulesExc5_1 : True := by
  w_top off
  k_with_none
  k_with "call ref" => (refine' f77_init_F ?w1qF ?w1qX ?w1qT ?w1qR ?w1qC ?w1qn ?w1qL ?w1qe ?_; (case w1qF => k_asm); (case w1qX => k_asm); (case w1qT => k_asm); (case w1qR => exact Rm.deeper (by assumption) (by decide)); (case w1qC => assumption); (case w1qn => assumption); (case w1qL => assumption); (case w1qe => assumption); intro _ _ _ _ _ _ _ _ _ _ _ _ _; (try dsimp only))
  k_with "setAttr ref" => (refine' exc_set1_F ?w2qF ?w2qX ?w2qC ?w2qn ?w2qL ?w2qe ?w2qd ?_; (case w2qF => k_asm); (case w2qX => k_asm); (case w2qC => assumption); (case w2qe => assumption); (case w2qd => assumption); (case w2qL => assumption); (case w2qn => assumption); intro _ _ _ _ _ _; (try dsimp only))
  trivial
theorem io_init {w : World} {mg mb : PySem.Str → Option Value} {mean : ExcName → Option Value} {pg : PySem.Program} {lse : List PySem.Str} {s : Shared} {A : Around} {Q E : Value → Shared → Prop} {h₀ : Heap} {C e ta : Addr} {v c : Value}
    (X : (hd.heap_1 w.params).In h₀) (T : Top pg lse mean mg mb h₀) (k : Ext h₀ s.heap) (hs : h₀.objs.size ≤ s.heap.objs.size) (R : Rm A 2) (EC : ExcC w C)
    (hn : h₀.get? e = none) (he : s.heap.get? e = some (excObj C none ta))
    (hq : ∀ h' tk D ta' n kk, Ext h₀ h' → But e s.heap h' → h'.get? e = some (excObj C (some D) ta') → h'.get? D = some (dictOf (ioEs w v c n kk) 2) → s.heap.get? D = none → D ≠ e →
      Q .none { s with heap := h', toks := tk }) :
    wpAny (model PySem.Challenge.rw_no0239_01.row.prog w) A (call (.ref 60) [.ref e, c, v]) Q E s := by
  refine wpAny_call ?_
  refine call_q [("self", .ref e), ("code", c), ("text", v)] (by have := R.d; omega) (X.keeps k 60 _ (by k_is)) rfl (T.nolimit.keeps k) (codeRec_of (X.keeps k) (by k_is)) rfl (locs rfl) ?_ rfl rfl rfl (by decide)
  intro h₁ F0
  have F := fr_base F0 k hs
  have hL : s.heap.objs.size ≠ e := Nat.ne_of_gt (Heap.lt_size he)
  have he1 := F0.keep _ _ he
  k_steps
  rename_i h2 tk2 D2 ta2 n2 F2 k2 e2 d2 x2 y2 z2 w2 h3 tk3 n3 F3 k3 e3
  have hb : But e s.heap h3 := fun b o hb q => k3 _ _ (fun z => by rw [z] at q; have := F0.keep _ _ q; rw [x2] at this; cases this) (k2 _ _ hb (F0.keep _ _ q))
  exact hq h3 _ D2 ta2 n2 n3 F3.keep hb (k3 _ _ y2.symm e2) e3 (none_of F0.keep x2) y2

theorem io_make {w : World} {mg mb : PySem.Str → Option Value} {mean : ExcName → Option Value} {pg : PySem.Program} {lse : List PySem.Str} {s : Shared} {A : Around} {Q E : Value → Shared → Prop} {v c : Value}
    (X : (hd.heap_1 w.params).In s.heap) (T : Top pg lse mean mg mb s.heap) (R : Rm A 3)
    (hq : ∀ h' tk e D ta n k, Ext s.heap h' → h'.get? e = some (excObj 63 (some D) ta) → h'.get? D = some (dictOf (ioEs w v c n k) 2) → s.heap.get? e = none → s.heap.get? D = none → D ≠ e →
      Q (.ref e) { s with heap := h', toks := tk }) :
    wpAny (model PySem.Challenge.rw_no0239_01.row.prog w) A (call (.ref 63) [c, v]) Q E s := by
  have EC : ExcC w 63 := excC63
  obtain ⟨nm, q, N, bs, bm, hdct, sn, sub, ab, col, dd, k0, k1, k2, k3, k5, e1, e2, e3, e4, _⟩ := EC.obj
  obtain ⟨h, g, d, t, os⟩ := s
  have hk : Ext h ((h.push { cls := .type "tuple", data := .seq [c, v].toArray }).push (excObj 63 none h.objs.size)) := fun b o e => Heap.get?_push_of_some _ (Heap.get?_push_of_some _ e)
  have hn : h.get? (h.objs.size + 1) = none := Heap.get?_none_of_le (Nat.le_succ _)
  refine exc_call e2 e3 e4 (X _ _ e1) (looks_findIn X (r := some (.ref 60)) (by k_is)) (X 60 _ (by k_is)) rfl ?_ (by size_fits)
  refine io_init (C := 63) (ta := h.objs.size) X T hk (by simp only [Heap.size_push]; omega) (Rm.type R (by decide)) EC hn (by heap_get) ?_
  intro h' tk D ta' n kk x1 x2 x3 x4 x5 x6
  exact ⟨rfl, hq h' tk _ D ta' n kk x1 x3 x4 hn (none_of hk x5) x6⟩

theorem run_make {w : World} {mg mb : PySem.Str → Option Value} {mean : ExcName → Option Value} {pg : PySem.Program} {lse : List PySem.Str} {s : Shared} {A : Around} {Q E : Value → Shared → Prop} {v : Value}
    (X : (hd.heap_1 w.params).In s.heap) (T : Top pg lse mean mg mb s.heap) (R : Rm A 3)
    (hq : ∀ h' tk e D ta, Ext s.heap h' → h'.get? e = some (excObj 44 (some D) ta) → s.heap.get? e = none →
      Q (.ref e) { s with heap := h', toks := tk }) :
    wpAny (model PySem.Challenge.rw_no0239_01.row.prog w) A (call (.ref 44) [v]) Q E s := by
  have EC : ExcC w 44 := excC44
  obtain ⟨nm, q, N, bs, bm, hdct, sn, sub, ab, col, dd, k0, k1, k2, k3, k5, e1, e2, e3, e4, _⟩ := EC.obj
  obtain ⟨h, g, d, t, os⟩ := s
  have hk : Ext h ((h.push { cls := .type "tuple", data := .seq [v].toArray }).push (excObj 44 none h.objs.size)) := fun b o e => Heap.get?_push_of_some _ (Heap.get?_push_of_some _ e)
  have hn : h.get? (h.objs.size + 1) = none := Heap.get?_none_of_le (Nat.le_succ _)
  refine exc_call e2 e3 e4 (X _ _ e1) (looks_findIn X (r := some (.ref 28)) (by k_is)) (X 28 _ (by k_is)) rfl ?_ (by size_fits)
  refine f77_init (C := 44) (ta := h.objs.size) X T hk (by simp only [Heap.size_push]; omega) (Rm.type R (by decide)) EC hn (by heap_get) ?_
  intro h' tk D ta' n x1 x2 x3 x4 x5 x6
  exact ⟨rfl, hq h' tk _ D ta' x1 x3 hn⟩
end Mine
end
section
open PySem PySem.W PyProof.Rows PySem.Calls
open PySem.Sem (wp)
open PySem.Builtin PySem.Builtin.ObjectAttr
set_option Elab.async false
set_option maxRecDepth 100000
set_option maxHeartbeats 8000000
namespace Mine
theorem rulesExc6_0 : True := by
  w_top off
  k_with_none
  trivial
/-- kept, but for the objects es; the frames fs up to their slots -/
noncomputable def GrowB (fs es : List Addr) (h h' : Heap) : Prop := ∀ b o, b ∉ es → h.get? b = some o → (b ∉ fs → h'.get? b = some o) ∧ ∃ sl, h'.get? b = some { o with slots := sl }
abbrev Grow (fs : List Addr) (h h' : Heap) : Prop := GrowB fs [] h h'
theorem Grow.of_ext {fs es : List Addr} {h h' : Heap} (k : Ext h h') : GrowB fs es h h' := fun b o _ q => ⟨fun _ => k b o q, o.slots, k b o q⟩
theorem GrowB.mono {fs fs' es es' : List Addr} {h h' : Heap} (x : GrowB fs es h h') (hf : ∀ b ∈ fs, b ∈ fs') (he : ∀ b ∈ es, b ∈ es') : GrowB fs' es' h h' :=
  fun b o hb q => ⟨fun z => (x b o (fun y => hb (he b y)) q).1 fun y => z (hf b y), (x b o (fun y => hb (he b y)) q).2⟩
theorem GrowB.trans {fs es : List Addr} {h h' h'' : Heap} (x : GrowB fs es h h') (y : GrowB fs es h' h'') : GrowB fs es h h'' := fun b o hb q => by
  obtain ⟨a1, sl, a2⟩ := x b o hb q
  obtain ⟨b1, sl2, b2⟩ := y b _ hb a2
  exact ⟨fun z => (y b o hb (a1 z)).1 z, sl2, b2⟩
/-- over a base that has none of es, nothing is lost -/
theorem GrowB.clean {fs es : List Addr} {h₀ h h' : Heap} (g : Grow fs h₀ h) (x : GrowB fs es h h') (n : ∀ e ∈ es, h₀.get? e = none) : Grow fs h₀ h' := fun b o hb q => by
  have hne : b ∉ es := fun z => by rw [n b z] at q; cases q
  obtain ⟨a1, sl, a2⟩ := g b o hb q
  obtain ⟨b1, sl2, b2⟩ := x b _ hne a2
  exact ⟨fun z => (x b o hne (a1 z)).1 z, sl2, b2⟩
theorem GrowB.get {fs es : List Addr} {h h' : Heap} {b : Addr} {o : Obj} (x : GrowB fs es h h') (hb : b ∉ es) (hf : b ∉ fs) (q : h.get? b = some o) : h'.get? b = some o := (x b o hb q).1 hf

abbrev hNo : Heap := {}
theorem hNo_get (a : Addr) : hNo.get? a = none := by simp [hNo, Heap.get?]
abbrev FF (h : Heap) (l : List Env) : Prop := h.FunFrames hNo l
abbrev fsOf (l : List Env) : List Addr := l.filterMap (·.frame)

theorem FF.mem {h : Heap} {l : List Env} (x : FF h l) {b : Addr} (hb : b ∈ fsOf l) : ∃ o, h.get? b = some o ∧ ∀ vs, o.data ≠ .fields vs := (Heap.FunFrames.mem x hb).2
theorem FF.grow {fs es : List Addr} {h h' : Heap} {l : List Env} (x : FF h l) (g : GrowB fs es h h') (n : ∀ e ∈ es, ∀ o, h.get? e = some o → ∃ vs, o.data = .fields vs) : FF h' l :=
  x.of_keeps fun b o q nf => by
    have hne : b ∉ es := fun z => by obtain ⟨vs, hv⟩ := n b z o q; exact nf vs hv
    obtain ⟨_, sl, hs⟩ := g b o hne q
    exact ⟨_, hs, rfl⟩
theorem FF.ext {h h' : Heap} {l : List Env} (x : FF h l) (k : Ext h h') : FF h' l := x.of_keeps fun b o q _ => ⟨o, k b o q, rfl⟩

abbrev excO (C D : Addr) (vs : Array Value) : Obj := { cls := .ref C, dict := some D, data := .fields vs }

/-- the exception e stands in h, with a traceback that is not in flight; es: its dict -/
structure Fly (fs : List Addr) (h₀ : Heap) (C e : Addr) (P : List DictEntry → Value → Prop) (h : Heap) : Prop where
  grow : Grow fs h₀ h
  new : h₀.get? e = none
  there : ∃ vs D es n Tb oT ts, h.get? e = some (excO C D vs) ∧ vs.size = 6 ∧ vs[1]? = some (.ref Tb) ∧ h.get? D = some (dictOf es n) ∧ P es (vs.getD 2 .none) ∧ h₀.get? D = none ∧ h₀.get? Tb = none ∧ Tb ≠ e ∧
    h.get? Tb = some oT ∧ oT.data = .fields ts ∧ ts[3]? = some .none
/-- the exception e stands in h, without a traceback yet -/
structure Made (fs : List Addr) (h₀ : Heap) (C e : Addr) (P : List DictEntry → Value → Prop) (h : Heap) : Prop where
  grow : Grow fs h₀ h
  new : h₀.get? e = none
  there : ∃ vs D es n, h.get? e = some (excO C D vs) ∧ vs.size = 6 ∧ vs[1]? = some .none ∧ h.get? D = some (dictOf es n) ∧ P es (vs.getD 2 .none) ∧ h₀.get? D = none

section
variable {M : Model} {A : Around} {E : Value → Shared → Prop} {s : Shared}

theorem entry_core {env : Env} {outer : List Env} {L e C D : Addr} {vs : Array Value} {head : Value} {hadNext : Bool} {Q : Unit → Shared → Prop}
    (hfr : A.frames = some (env :: outer)) (hl : FF s.heap (env :: outer)) (hf : env.frame = some L)
    (he : s.heap.get? e = some (excO C D vs)) (hsz : vs.size = 6)
    (h : ∀ h' T ts, GrowB (fsOf (env :: outer)) [e] s.heap h' → h'.get? e = some (excO C D (vs.setIfInBounds 1 (.ref T))) → s.heap.get? T = none → T ≠ e →
      h'.get? T = some { cls := .type "traceback", data := .fields ts } → 3 < ts.size → ts[3]? = some (rawInt L) → Q () { s with heap := h' }) :
    wpAny M A (do let a ← frameOf env; let pl ← entryPlaceOf L hadNext; let b ← EntryCells.newEntry head a .none (rawInt L) .none pl; setField (.ref e) 1 b) Q E s := by
  have hene : e ∉ fsOf (env :: outer) := fun hm => by
    obtain ⟨o, ho, hnf⟩ := hl.mem hm
    rw [he] at ho; injection ho with ho; subst ho; exact hnf vs rfl
  refine wpAny_bind (wpAny_frameOf_fun hfr hl hf fun h₁ hs₁ => ?_)
  refine wpAny_bind (wpAny_entryPlaceOf fun pl hpl => ?_)
  unfold EntryCells.newEntry newFields
  refine wpAny_bind (wpAny_newObj_type ?_ (hpl.sizeOk5 _ _ _ _ _))
  have he₁ : h₁.get? e = some (excO C D vs) := (hs₁.2.1 e hene).trans he
  have he₂ := Heap.get?_push_of_some (h := h₁) { cls := .type "traceback", dict := none, data := .fields ([head, .ref L, .none, rawInt L, .none] ++ (if pl.isEmpty then List.replicate 6 Value.none else pl)).toArray } he₁
  have hTe : h₁.objs.size ≠ e := Nat.ne_of_gt (Heap.lt_size he₁)
  refine wpAny_setField he₂ rfl (by omega) (h _ h₁.objs.size ([head, .ref L, .none, rawInt L, .none] ++ (if pl.isEmpty then List.replicate 6 Value.none else pl)).toArray ?_ (Heap.get?_update_self _ he₂ rfl) ?_ hTe ?_ ?_ ?_)
  · intro b o hb q
    have hbe : b ≠ e := fun z => hb (by simp [z])
    obtain ⟨sl, hsl⟩ := hs₁.2.2 b o q
    refine ⟨fun z => ?_, sl, ?_⟩
    · exact (Heap.get?_update_other _ _ hbe.symm).trans (Heap.get?_push_of_some _ ((hs₁.2.1 b z).trans q))
    · exact (Heap.get?_update_other _ _ hbe.symm).trans (Heap.get?_push_of_some _ hsl)
  · rw [← hs₁.1.symm]; exact Heap.get?_none_of_le (Nat.le_refl _)
  · exact (Heap.get?_update_other _ _ hTe.symm).trans (Heap.get?_push_size h₁ rfl)
  · simp only [List.size_toArray, List.length_append, List.length_cons, List.length_nil]; omega
  · first | (simp; done) | (rcases hpl with rfl | ⟨_, _, _, _, _, _, _, rfl⟩ <;> simp)

theorem flight_none {e C D T : Addr} {vs : Array Value} {oT : Obj} {ts : Array Value} {Q : Unit → Shared → Prop}
    (he : s.heap.get? e = some (excO C D vs)) (h1 : vs[1]? = some (.ref T)) (hTe : T ≠ e) (hT : s.heap.get? T = some oT) (hd : oT.data = .fields ts) (h3 : 3 < ts.size)
    (h : ∀ h' oT' ts', GrowB [] [T] s.heap h' → h'.get? T = some oT' → oT'.data = .fields ts' → ts'[3]? = some .none → 3 < ts'.size → Q () { s with heap := h' }) : wpAny M A (setFlight (.ref e) none) Q E s := by
  unfold setFlight
  refine wpAny_bind (wpAny_field he rfl h1 ?_)
  rw [if_pos (show (Value.ref T != Value.none) = true from by simp)]
  refine wpAny_setField hT hd h3 (h _ _ _ ?_ (Heap.get?_update_self _ hT (Obj.isFreed_of_fields (Obj.data_mapFields hd _))) (Obj.data_mapFields hd _) (by simp [h3]) (by simpa using h3))
  intro b o hb q
  have hne : b ≠ T := fun z => hb (by simp [z])
  exact ⟨fun _ => (Heap.get?_update_other _ _ hne.symm).trans q, o.slots, (Heap.get?_update_other _ _ hne.symm).trans q⟩
end
end Mine
end
section
open PySem PySem.W PyProof.Rows PySem.Calls
open PySem.Sem (wp)
open PySem.Builtin PySem.Builtin.ObjectAttr
set_option Elab.async false
set_option maxRecDepth 100000
set_option maxHeartbeats 8000000
namespace Mine
theorem rulesExc7_0 : True := by
  w_top off
  k_with_none
  trivial
theorem fill7 {w : World} : PySem.Challenge.rw_no0239_01 = PySem.Challenge.rw_no0239_01 ∧ hd.heap_1 w.params = hd.heap_1 w.params := by k_fill; exact ⟨rfl, rfl⟩

structure Cx (w : World) (mg mb : PySem.Str → Option Value) (B : Heap) (A : Around) (l : List Env) (h : Heap) : Prop where
  X : (hd.heap_1 w.params).In B
  T : ∃ pg lse mean, Top pg lse mean mg mb B
  k : Ext B h
  sz : B.objs.size ≤ h.objs.size
  fr : A.frames = some l
  ff : h.FunFrames B l
  hh : A.handled = none

theorem ff_no {h B : Heap} : ∀ {l : List Env}, h.FunFrames B l → FF h l
  | [], _ => trivial
  | _ :: _, ⟨a, ⟨L, o, b, _, c, d⟩, r⟩ => ⟨a, ⟨L, o, b, hNo_get L, c, d⟩, ff_no r⟩

theorem Cx.push {w : World} {mg mb : PySem.Str → Option Value} {B h₀ h : Heap} {A : Around} {l : List Env} {L a : Addr} {m : PySem.Str → Option Value} {name : PySem.Str} {scope : Scope} {cd : Value}
    (cx : Cx w mg mb B A l h₀) (F : Fr h₀ L h m) (hk : scope.kind = .function := by rfl) : Cx w mg mb B (A.deeper (envOf name scope L a cd)) (envOf name scope L a cd :: l) h := by
  obtain ⟨X, T, k, sz, fr, ff, hh⟩ := cx
  have K := (Below.push ⟨fr, k, ff⟩ F hk : Below (A.deeper (envOf name scope L a cd)) B (envOf name scope L a cd :: l) h)
  exact ⟨X, T, K.stays, Nat.le_trans (Nat.le_trans sz F.above) (Nat.le_of_lt F.ns.lt), K.stack, K.frames, hh⟩

theorem notFs {h : Heap} {l : List Env} {b : Addr} {o : Obj} {vs : Array Value} (ff : FF h l) (q : h.get? b = some o) (d : o.data = .fields vs) : b ∉ fsOf l := fun z => by
  obtain ⟨o', a, c⟩ := ff.mem z
  rw [q] at a; cases a; exact c vs d
theorem newNotFs {h₀ : Heap} {fs : List Addr} {b : Addr} (ff : ∀ f ∈ fs, (h₀.get? f).isSome) (q : h₀.get? b = none) : b ∉ fs := fun z => by
  have := ff b z; rw [q] at this; cases this

section
variable {M : Model} {A : Around} {E : Value → Shared → Prop} {s : Shared}

theorem new_of {fs es : List Addr} {h₀ h : Heap} {T : Addr} (g : GrowB fs es h₀ h) (hT : T ∉ es) (n : h.get? T = none) : h₀.get? T = none := by
  cases q : h₀.get? T with
  | none => rfl
  | some o => obtain ⟨_, sl, hs⟩ := g T o hT q; rw [n] at hs; cases hs
theorem ne_data {h : Heap} {a b : Addr} {o o' : Obj} (qa : h.get? a = some o) (qb : h.get? b = some o') (hd : o.data ≠ o'.data) : a ≠ b := by
  rintro rfl; rw [qa] at qb; cases qb; exact hd rfl

theorem fly_flight {fs : List Addr} {h₀ : Heap} {C e : Addr} {P : List DictEntry → Value → Prop} {Q : Unit → Shared → Prop} (f : Fly fs h₀ C e P s.heap)
    (hq : ∀ h', Fly fs h₀ C e P h' → s.heap.UpToSlots h' → Q () { s with heap := h' }) : wpAny M A (setFlight (.ref e) none) Q E s := by
  obtain ⟨g, n, vs, D, es, k, T, oT, ts, he, hsz, h1, hD, hP, nD, nT, hTe, hT, hd, h3⟩ := f
  refine flight_none he h1 hTe hT hd (Array.getElem?_eq_some_iff.mp h3).1 fun h' oT' ts' g' a b c _ => hq h' ⟨?_, n, vs, D, es, k, T, oT', ts', ?_, hsz, h1, ?_, hP, nD, nT, hTe, a, b, c⟩
    (fun b o q nf => (g' b o (by simp; rintro rfl; rw [hT] at q; cases q; exact nf _ hd) q).2)
  · exact GrowB.clean g (g'.mono (by simp) (fun x hx => hx)) (fun x hx => by simp at hx; rw [hx]; exact nT)
  · exact g'.get (by simp [hTe.symm]) (by simp) he
  · exact g'.get (by simp; exact ne_data hD hT (by rw [hd]; exact fun z => by cases z)) (by simp) hD

theorem fly_entry {fs : List Addr} {env : Env} {outer : List Env} {h₀ h₁ : Heap} {C e D T : Addr} {vs ts : Array Value} {es : List DictEntry} {k : Nat} {P : List DictEntry → Value → Prop} {Q : Unit → Shared → Prop}
    (ffb : FF h₀ (env :: outer)) (g : Grow fs h₀ s.heap) (hfs : ∀ b ∈ fs, b ∈ fsOf (env :: outer)) (n : h₀.get? e = none) (he : s.heap.get? e = some (excO C D vs)) (hsz : vs.size = 6)
    (hD : s.heap.get? D = some (dictOf es k)) (hP : P es (vs.getD 2 .none)) (nD : h₀.get? D = none)
    (g1 : GrowB (fsOf (env :: outer)) [e] s.heap h₁) (e1 : h₁.get? e = some (excO C D (vs.setIfInBounds 1 (.ref T)))) (nT : s.heap.get? T = none) (hTe : T ≠ e)
    (hT : h₁.get? T = some { cls := .type "traceback", data := .fields ts }) (h3 : 3 < ts.size) 
    (hq : ∀ h', Fly (fsOf (env :: outer)) h₀ C e P h' → s.heap.UpToSlots h' → Q () { s with heap := h' }) : wpAny M A (setFlight (.ref e) none) Q E { s with heap := h₁ } := by
  have hvs : (vs.setIfInBounds 1 (.ref T))[1]? = some (.ref T) := by simp [hsz]
  have hDe : D ≠ e := ne_data hD he (by intro z; cases z)
  have hDfs : D ∉ fsOf (env :: outer) := newNotFs (fun f hf => by obtain ⟨o, q, _⟩ := ffb.mem hf; rw [q]; rfl) nD
  have eD : h₁.get? D = some (dictOf es k) := g1.get (by simp [hDe]) hDfs hD
  have t : h₀.get? T = none := new_of g (by simp) nT
  refine flight_none (s := { s with heap := h₁ }) e1 hvs hTe hT rfl h3 fun h₂ oT' ts' g2 a b c _ => hq h₂ ⟨?_, n, _, D, es, k, T, oT', ts', ?_, by simp [hsz], hvs, ?_, (by rw [Array.getD_eq_getD_getElem?, Array.getElem?_setIfInBounds_ne (by decide), ← Array.getD_eq_getD_getElem?]; exact hP), nD, t, hTe, a, b, c⟩
    (fun b o q nf => by
      obtain ⟨_, sl, z⟩ := g1 b o (by simp; rintro rfl; rw [he] at q; cases q; exact nf _ rfl) q
      have hbT : b ≠ T := by rintro rfl; rw [nT] at q; cases q
      exact ⟨sl, (g2 b _ (by simpa using hbT) z).1 (by simp)⟩)
  · exact GrowB.clean (GrowB.clean (g.mono hfs (fun _ h => h)) g1 (fun x hx => by simp at hx; rw [hx]; exact n)) (g2.mono (by simp) (fun _ h => h)) (fun x hx => by simp at hx; rw [hx]; exact t)
  · exact g2.get (by simp [hTe.symm]) (by simp) e1
  · exact g2.get (by simp; exact ne_data eD hT (by intro z; cases z)) (by simp) eD

/-- the frame's own look at an exception that has no traceback yet, and it leaves -/
theorem leave_made {fs : List Addr} {env : Env} {outer : List Env} {L : Addr} {h₀ : Heap} {C e : Addr} {P : List DictEntry → Value → Prop} {Q : Unit → Shared → Prop}
    (hfr : A.frames = some (env :: outer)) (hf : env.frame = some L) (ffb : FF h₀ (env :: outer)) (f : Made fs h₀ C e P s.heap) (hfs : ∀ b ∈ fs, b ∈ fsOf (env :: outer))
    (hq : ∀ h', Fly (fsOf (env :: outer)) h₀ C e P h' → Q () { s with heap := h' }) : wpAny M A (leaving env (.ref e)) Q E s := by
  obtain ⟨g, n, vs, D, es, k, he, hsz, h1, hD, hP, nD⟩ := f
  have ff := ffb.grow g (fun _ h => nomatch h)
  unfold leaving noteFrame
  simp only [hf]
  refine wpAny_bind (wpAny_bind (wpAny_field he rfl h1 ?_))
  rw [if_neg (by decide)]
  exact entry_core hfr ff hf he hsz fun h₁ T ts g1 e1 nT hTe hT h3 hfl => fly_entry ffb g hfs n he hsz hD hP nD g1 e1 nT hTe hT h3 fun h' f' _ => hq h' f'

/-- .. at one that flies already: it notes the frame; Q behind the flight's end -/
theorem look_fly {fs : List Addr} {env : Env} {outer : List Env} {L : Addr} {h₀ : Heap} {C e : Addr} {P : List DictEntry → Value → Prop} {Q : Unit → Shared → Prop}
    (hfr : A.frames = some (env :: outer)) (hf : env.frame = some L) (ffb : FF h₀ (env :: outer)) (f : Fly fs h₀ C e P s.heap) (hfs : ∀ b ∈ fs, b ∈ fsOf (env :: outer))
    (hq : ∀ h', Fly (fsOf (env :: outer)) h₀ C e P h' → s.heap.UpToSlots h' → Q () { s with heap := h' }) : wpAny M A (noteFrame (.ref e) env) (fun _ s₁ => wpAny M A (setFlight (.ref e) none) Q E s₁) E s := by
  obtain ⟨g, n, vs, D, es, k, T, oT, ts, he, hsz, h1, hD, hP, nD, nT, hTe, hT, hd, h3⟩ := f
  unfold noteFrame
  simp only [hf]
  refine wpAny_bind (wpAny_field he rfl h1 ?_)
  rw [if_pos (show (Value.ref T != Value.none) = true from by simp)]
  refine wpAny_bind (wpAny_field hT hd h3 ?_)
  rw [if_neg (show ¬ ((Value.none == rawInt L) = true) from by simp [rawInt])]
  refine wpAny_bind (wpAny_setField hT hd (Array.getElem?_eq_some_iff.mp h3).1 ?_)
  have other : ∀ b o, b ≠ T → s.heap.get? b = some o → (s.heap.update T (Obj.mapFields (·.setIfInBounds 3 Value.none))).get? b = some o := fun b o hb q => (Heap.get?_update_other _ _ (Ne.symm hb)).trans q
  have g' : Grow fs h₀ (s.heap.update T (Obj.mapFields (·.setIfInBounds 3 Value.none))) := GrowB.clean (es := [T]) g (fun b o hb q => ⟨fun _ => other b o (by simpa using hb) q, o.slots, other b o (by simpa using hb) q⟩) (fun x hx => by simp at hx; rw [hx]; exact nT)
  have he' := other _ _ hTe.symm he
  have hD' := other _ _ (ne_data hD hT (by rw [hd]; exact fun z => by cases z)) hD
  exact entry_core (s := { s with heap := s.heap.update T (Obj.mapFields (·.setIfInBounds 3 Value.none)) }) hfr (ffb.grow g' (fun _ h => nomatch h)) hf he' hsz
    fun h₁ T' ts' g1 e1 nT' hTe' hT' h3' hfl => fly_entry (s := { s with heap := s.heap.update T (Obj.mapFields (·.setIfInBounds 3 Value.none)) }) ffb g' hfs n he' hsz hD' hP nD g1 e1 nT' hTe' hT' h3' fun h' f' u => hq h' f' (Heap.UpToSlots.trans (fun b o q nf => ⟨o.slots, other b o (by rintro rfl; rw [hT] at q; cases q; exact nf _ hd) q⟩) u)

theorem leave_fly {fs : List Addr} {env : Env} {outer : List Env} {L : Addr} {h₀ : Heap} {C e : Addr} {P : List DictEntry → Value → Prop} {Q : Unit → Shared → Prop}
    (hfr : A.frames = some (env :: outer)) (hf : env.frame = some L) (ffb : FF h₀ (env :: outer)) (f : Fly fs h₀ C e P s.heap) (hfs : ∀ b ∈ fs, b ∈ fsOf (env :: outer))
    (hq : ∀ h', Fly (fsOf (env :: outer)) h₀ C e P h' → Q () { s with heap := h' }) : wpAny M A (leaving env (.ref e)) Q E s := wpAny_bind (look_fly hfr hf ffb f hfs fun h' f' _ => hq h' f')
end

/-- behind the frame: what the caller's heap of the call is left with -/
theorem Fly.out {env : Env} {l : List Env} {L : Addr} {h₀ h₁ h' : Heap} {C e : Addr} {P : List DictEntry → Value → Prop} (f : Fly (fsOf (env :: l)) h₁ C e P h') (hf : env.frame = some L) (k : Ext h₀ h₁) (hL : h₀.get? L = none) : Fly (fsOf l) h₀ C e P h' := by
  obtain ⟨g, n, vs, D, es, kk, T, oT, ts, he, hsz, h1, hD, hP, nD, nT, hTe, hT, hd, h3⟩ := f
  refine ⟨fun b o _ q => ?_, none_of k n, vs, D, es, kk, T, oT, ts, he, hsz, h1, hD, hP, none_of k nD, none_of k nT, hTe, hT, hd, h3⟩
  have hb : b ≠ L := fun z => by rw [z, hL] at q; cases q
  obtain ⟨a, b'⟩ := g b o (by simp) (k b o q)
  refine ⟨fun z => a fun y => ?_, b'⟩
  rw [fsOf, List.filterMap_cons, hf] at y
  rcases List.mem_cons.mp y with r | r
  · exact hb r
  · exact z r

section
variable {w : World} {A : Around} {E : Value → Shared → Prop} {s : Shared} {env : Env}
theorem raise_start {C : Addr} {x : Expr} {pos : Pos} {Q : Flow → Shared → Prop} (EC : ExcC w C)
    (h : wpAny (model PySem.Challenge.rw_no0239_01.row.prog w) A (eval x env) (fun v s₁ => ∃ e D ta, v = .ref e ∧ (hd.heap_1 w.params).In s₁.heap ∧ s₁.heap.get? e = some (excObj C (some D) ta) ∧
      wpAny (model PySem.Challenge.rw_no0239_01.row.prog w) A (raiseNew (.ref e) : Sem Flow) Q E s₁) E s) :
    wpAny (model PySem.Challenge.rw_no0239_01.row.prog w) A (exec (.Raise (some x) none pos) env) Q E s := by
  obtain ⟨nm, q, N, bs, bm, hdct, sn, sub, ab, col, dd, k0, k1, k2, k3, k5, e1, e2, e3, e4, hcB⟩ := EC.obj
  rw [arm_exec_Raise]
  refine wpAny_bind (wpAny_standAt ?_)
  unfold raiseStmt
  simp only [evalOpt, Option.map]
  refine wpAny_bind (wpAny_bind (wpAny_mono h (fun v s₁ h₁ => ?_) fun _ _ x => x))
  obtain ⟨e, D, ta, rfl, X, he, hE⟩ := h₁
  have hC := X _ _ e1
  obtain ⟨hp, g, d, tk, os⟩ := s₁
  refine wpAny_bind (wpAny_standAt (wpAny_pure ?_))
  repeat (first | with_reducible refine wpAny_loadPart_at he ?_ | with_reducible refine wpAny_loadPart_at hC ?_ | (with_reducible refine wpAny_isSubtype_exc hC ?_; rw [hcB]) | wp_step)
  exact hE

theorem raise_none {C : Addr} {x : Expr} {pos : Pos} {Q : Flow → Shared → Prop} (EC : ExcC w C) (hh : A.handled = none)
    (h : wpAny (model PySem.Challenge.rw_no0239_01.row.prog w) A (eval x env) (fun v s₁ => ∃ e D ta, v = .ref e ∧ (hd.heap_1 w.params).In s₁.heap ∧ s₁.heap.get? e = some (excObj C (some D) ta) ∧ E (.ref e) s₁) E s) :
    wpAny (model PySem.Challenge.rw_no0239_01.row.prog w) A (exec (.Raise (some x) none pos) env) Q E s :=
  raise_start EC (wpAny_mono h (fun _ _ ⟨e, D, ta, a, b, c, d⟩ => ⟨e, D, ta, a, b, c, wpAny_raiseNew_none hh d⟩) fun _ _ x => x)

theorem unchain_entry : entryFor table "proto.unchain" = some Builtin.«proto.unchain» := entryFor_of_fast (by kernel_rfl)

theorem raise_handled {C C' D D' e hx ta : Addr} {vs : Array Value} {Q : Flow → Shared → Prop} (hh : A.handled = some (.ref hx)) (hne : hx ≠ e) (hv : s.heap.get? hx = some (excO C' D' vs)) (hc : vs[2]? = some .none)
    (he : s.heap.get? e = some (excObj C (some D) ta))
    (hq : ∀ h', But e s.heap h' → h'.get? e = some (excO C D #[.ref ta, .none, .ref hx, .none, .bool false, .none]) → E (.ref e) { s with heap := h' }) :
    wpAny (model PySem.Challenge.rw_no0239_01.row.prog w) A (raiseNew (.ref e) : Sem Flow) Q E s := by
  unfold raiseNew
  refine wpAny_bind (wpAny_handled ?_)
  rw [hh]
  show wpAny _ _ (if (Value.ref hx != Value.ref e) = true then _ else _) _ _ _
  rw [if_pos (by simp [hne])]
  refine wpAny_bind (wpAny_holding (wpAny_runValue (codeAny_builtin unchain_entry ?_)))
  unfold Builtin.«proto.unchain»
  refine wpAny_bind (wpAny_field hv rfl hc ?_)
  rw [if_pos (by decide)]
  refine wpAny_pure ?_
  have he' : (s.heap.update e (Obj.mapFields (·.setIfInBounds 2 (.ref hx)))).get? e = some (excO C D #[.ref ta, .none, .ref hx, .none, .bool false, .none]) := Heap.get?_update_self _ he rfl
  refine wpAny_bind (wpAny_setField he rfl (Nat.lt_of_sub_pos (by simp)) (wpAny_throw (hq _ (fun b o hb q => (Heap.get?_update_other _ _ hb.symm).trans q) he')))
end
end Mine
end
section
open PySem PySem.W PyProof.Rows PySem.Calls
open PySem.Sem (wp)
open PySem.Builtin PySem.Builtin.ObjectAttr
set_option Elab.async false
set_option maxRecDepth 100000
set_option maxHeartbeats 8000000
namespace Mine
theorem rulesExc8_0 : True := by
  w_top off
  k_with_none
  trivial
theorem fill8 {w : World} : PySem.Challenge.rw_no0239_01 = PySem.Challenge.rw_no0239_01 ∧ hd.heap_1 w.params = hd.heap_1 w.params := by k_fill; exact ⟨rfl, rfl⟩

theorem fr_grow {B h₀ h h' : Heap} {fs : List Addr} {L : Addr} {m : PySem.Str → Option Value} (F : Fr h₀ L h m) (k : Ext B h₀) (hs : B.objs.size ≤ h₀.objs.size) (hB : ∀ f ∈ fs, B.get? f = none) (g : Grow fs h h') : Fr B L h' m := by
  refine ⟨?_, fun b o q => (g b o (by simp) (F.keep b o (k b o q))).1 (fun z => by rw [hB b z] at q; cases q), Nat.le_trans hs F.above⟩
  obtain ⟨o, es, ep, a, c, r⟩ := F.ns
  obtain ⟨_, sl, q⟩ := g L o (by simp) a
  exact ⟨_, es, ep, q, c, r⟩

section
variable {w : World} {A : Around} {E : Value → Shared → Prop} {s : Shared} {mg mb : PySem.Str → Option Value} {p : Program} {loose : List PySem.Str} {B h₀ : Heap} {L a : Addr} {m : PySem.Str → Option Value} {name : PySem.Str} {scope : Scope} {cd : Value}

theorem Fly.obj {fs : List Addr} {C e : Addr} {P : List DictEntry → Value → Prop} {h : Heap} (f : Fly fs h₀ C e P h) : ∃ o, h.get? e = some o ∧ o.cls = .ref C := by
  obtain ⟨_, _, vs, D, es, k, T, oT, ts, he, _⟩ := f
  exact ⟨_, he, rfl⟩

theorem catch_plain {fs : List Addr} {C e : Addr} {P : List DictEntry → Value → Prop} {x : PySem.Str} {np pos : Pos} {b₀ : Stmt} {suite : List Stmt} {rest : List ExceptHandler} {Q : Flow → Shared → Prop}
    (F : Fr B L s.heap m) (X : (hd.heap_1 w.params).In B) (T : TopRead p loose mg mb B) (ex : nsIn (hd.heap_1 w.params) mainGlobals x = some (some (.ref C))) (EC : ExcC w C) (f : Fly fs h₀ C e P s.heap)
    (h : ∀ h', Fly fs h₀ C e P h' → wpAny (model PySem.Challenge.rw_no0239_01.row.prog w) (A.mark (some (.ref e))) (execs (b₀ :: suite) (envOf name scope L a cd)) Q (notedBy (model PySem.Challenge.rw_no0239_01.row.prog w) (A.mark (some (.ref e))) (envOf name scope L a cd) (cameBackBy (model PySem.Challenge.rw_no0239_01.row.prog w) A (envOf name scope L a cd) E)) { s with heap := h' })
    (hk : scope.kind = .function := by rfl) (hx : (envOf name scope L a cd).kindOf x = some .globalImplicit := by rfl) (hdb : (x == ("__debug__" : PySem.Str)) = false := by decide) :
    wpAny (model PySem.Challenge.rw_no0239_01.row.prog w) A (handleBy (.ref e) (envOf name scope L a cd) (.ExceptHandler (some (.Name x np)) none (b₀ :: suite) pos :: rest)) Q E s := by
  obtain ⟨nm, q, N, bs, bm, hdct, sn, sub, ab, col, dd, k0, k1, k2, k3, k5, e1, e2, e3, e4, hcB⟩ := EC.obj
  obtain ⟨o, he, hc⟩ := f.obj
  refine wpAny_handleBy_cons (codeAny_handlers_test (name_K F X T ex ?_ hk hx hdb)) (by intro q; cases q)
  refine wpAny_excMatches_sub_self ((F.keep _ _ (X _ _ e1))) he hc (by simpa using hcB) (codeAny_handlers_suite ?_)
  exact fly_flight f fun h' f' _ => h h' f'

end
/-- the heap below L -/
noncomputable def cut (h : Heap) (L : Addr) : Heap := { h with objs := h.objs.extract 0 L }
theorem cut_size (h : Heap) (L : Addr) : (cut h L).objs.size ≤ L := by simp [cut]; omega
theorem cut_ext (h : Heap) (L : Addr) : Ext (cut h L) h := fun b o q => by
  obtain ⟨a, c⟩ := Heap.get?_some_iff.mp q
  refine Heap.get?_some_iff.mpr ⟨?_, c⟩
  simp only [cut, Array.getElem?_extract] at a
  split at a
  · simpa using a
  · cases a
theorem cut_get {h : Heap} {L b : Addr} {o : Obj} (q : h.get? b = some o) (hb : b < L) : (cut h L).get? b = some o := by
  obtain ⟨a, c⟩ := Heap.get?_some_iff.mp q
  refine Heap.get?_some_iff.mpr ⟨?_, c⟩
  have := (Array.getElem?_eq_some_iff.mp a).1
  simp only [cut, Array.getElem?_extract]
  rw [if_pos (by rw [Nat.sub_zero]; exact Nat.lt_min.mpr ⟨hb, this⟩)]
  simpa using a
theorem cut_fr {B h : Heap} {L : Addr} {m : PySem.Str → Option Value} (F : Fr B L h m) : Fr (cut h L) L h m := ⟨F.ns, cut_ext h L, cut_size h L⟩
theorem cut_base {B h : Heap} {L : Addr} {m : PySem.Str → Option Value} (F : Fr B L h m) : Ext B (cut h L) := fun b o q => cut_get (F.keep b o q) (Nat.lt_of_lt_of_le (Heap.lt_size q) F.above)
theorem cut_grow {fs : List Addr} {h₀ h h' : Heap} {L : Addr} (g : Grow fs h₀ h) (hs : h₀.objs.size ≤ L) (k : Ext (cut h L) h') : Grow fs h₀ h' := fun b o hb q => by
  have hlt : b < L := Nat.lt_of_lt_of_le (Heap.lt_size q) hs
  obtain ⟨a, sl, c⟩ := g b o hb q
  exact ⟨fun z => k _ _ (cut_get (a z) hlt), sl, k _ _ (cut_get c hlt)⟩

theorem Fly.grow_out {fs fs' : List Addr} {h₀ h₁ h' : Heap} {C e : Addr} {P : List DictEntry → Value → Prop} (f : Fly fs h₁ C e P h') (g0 : Grow fs h₀ h₁) (hfs : ∀ b ∈ fs, h₀.get? b ≠ none → b ∈ fs') : Fly fs' h₀ C e P h' := by
  obtain ⟨g, n, vs, D, es, kk, T, oT, ts, he, hsz, h1, hD, hP, nD, nT, hTe, hT, hd, h3⟩ := f
  refine ⟨fun b o hb q => ?_, new_of g0 (by simp) n, vs, D, es, kk, T, oT, ts, he, hsz, h1, hD, hP, new_of g0 (by simp) nD, new_of g0 (by simp) nT, hTe, hT, hd, h3⟩
  obtain ⟨a, b'⟩ := (g0.trans g) b o hb q
  exact ⟨fun z => a fun y => z (hfs b y (by rw [q]; simp)), b'⟩

section
variable {w : World} {A : Around} {E : Value → Shared → Prop} {s : Shared} {mg mb : PySem.Str → Option Value} {p : Program} {loose : List PySem.Str} {B h₀ h₁ : Heap} {L a : Addr} {m : PySem.Str → Option Value} {name : PySem.Str} {scope : Scope} {cd : Value}
theorem catch_as {fs : List Addr} {C e : Addr} {P : List DictEntry → Value → Prop} {x n : PySem.Str} {np pos : Pos} {b₀ : Stmt} {suite : List Stmt} {rest : List ExceptHandler} {Q : Flow → Shared → Prop}
    (F : Fr B L s.heap m) (X : (hd.heap_1 w.params).In B) (T : TopRead p loose mg mb B) (ex : nsIn (hd.heap_1 w.params) mainGlobals x = some (some (.ref C))) (EC : ExcC w C) (f : Fly fs h₁ C e P s.heap)
    (hB : ∀ b ∈ fs, B.get? b = none) (hk0 : Ext B h₁) (hL : ∃ o, h₁.get? L = some o ∧ ∀ vs, o.data ≠ .fields vs)
    (h : ∀ h' tk, Fr B L h' (fun y => if y = n then some (.ref e) else m y) → (∃ h'', Fly fs h₁ C e P h'' ∧ Heap.SameBut L h'' h') → (∃ o D es k, h'.get? e = some o ∧ o.cls = .ref C ∧ o.dict = some D ∧ notCls o = true ∧ h'.get? D = some (dictOf es k) ∧ ∃ v, P es v) →
      wpAny (model PySem.Challenge.rw_no0239_01.row.prog w) (A.mark (some (.ref e))) (execs (b₀ :: suite) (envOf name scope L a cd))
        (fun f s₄ => wpAny (model PySem.Challenge.rw_no0239_01.row.prog w) A (do bindName (envOf name scope L a cd) n .none; unbindBehindTheSuite (envOf name scope L a cd) n pos) (fun _ s₅ => Q f s₅) E s₄) (fun _ _ => False) { s with heap := h', toks := tk })
    (hk : scope.kind = .function := by rfl) (hlo : (envOf name scope L a cd).kindOf n = some .local := by rfl) (hx : (envOf name scope L a cd).kindOf x = some .globalImplicit := by rfl) (hdb : (x == ("__debug__" : PySem.Str)) = false := by decide) :
    wpAny (model PySem.Challenge.rw_no0239_01.row.prog w) A (handleBy (.ref e) (envOf name scope L a cd) (.ExceptHandler (some (.Name x np)) (some n) (b₀ :: suite) pos :: rest)) Q E s := by
  obtain ⟨nm, q, N, bs, bm, hdct, sn, sub, ab, col, dd, k0, k1, k2, k3, k5, e1, e2, e3, e4, hcB⟩ := EC.obj
  obtain ⟨o, he, hc⟩ := f.obj
  refine wpAny_handleBy_cons (codeAny_handlers_test (name_K F X T ex ?_ hk hx hdb)) (by intro q; cases q)
  refine wpAny_excMatches_sub_self ((F.keep _ _ (X _ _ e1))) he hc (by simpa using hcB) (codeAny_handlers_suite_as ?_)
  obtain ⟨oL, hoL, nfL⟩ := hL
  refine fly_flight f fun h₂ f₂ u => ?_
  have F₂ : Fr B L h₂ m := ⟨u.ns F.ns, fun b o q => (f₂.grow b o (by simp) (hk0 b o q)).1 (fun z => by rw [hB b z] at q; cases q), F.above⟩
  refine wpAny_storeName_local hlo F₂.ns (fun h₃ hn hs => ?_) (by show (scope.kind == .class || (scope.kind == .module && L != mainGlobals)) = false; rw [hk]; rfl)
  have F₃ := F₂.set hn hs
  refine wpAny_mono (h h₃ _ F₃ ⟨h₂, f₂, hs⟩ ?_) (fun _ _ z => z) (fun _ _ z => z.elim)
  obtain ⟨g, nn, vs, D, es, kk, Tb, oT, ts, he2, hsz, h1, hD, hP, nD, nT, hTe, hT, hd, h3⟩ := f₂
  obtain ⟨_, sl, qL⟩ := g L oL (by simp) hoL
  have neL : e ≠ L := ne_data he2 qL (by intro z; exact nfL vs z.symm)
  have nDL : D ≠ L := by rintro rfl; rw [hoL] at nD; cases nD
  exact ⟨_, D, es, kk, (hs.2 e neL).trans he2, rfl, rfl, rfl, (hs.2 D nDL).trans hD, _, hP⟩
end
end Mine
end
section
open PySem PySem.W PyProof.Rows PySem.Calls
open PySem.Sem (wp)
open PySem.Builtin PySem.Builtin.ObjectAttr
set_option Elab.async false
set_option maxRecDepth 100000
set_option maxHeartbeats 8000000
namespace Mine
theorem rulesExc9_0 : True := by
  w_top off
  k_with_none
  trivial
theorem fill9 {w : World} : PySem.Challenge.rw_no0239_01 = PySem.Challenge.rw_no0239_01 ∧ hd.heap_1 w.params = hd.heap_1 w.params := by k_fill; exact ⟨rfl, rfl⟩

theorem slot_bga : Slot "Exception" "__getattribute__" "BaseException.__getattribute__" := .of (owner := "BaseException") (n := "__getattribute__") (by rw [typeLookup_type, builtinLookup_eq_fast]; kernel_rfl) (by decide +kernel) (by decide +kernel) (by decide +kernel)
    (by first | exact .inl (by decide +kernel) | exact .inr (by decide +kernel)) (by rw [isSubtype_type]; kernel_rfl)

theorem exc_getcode {w : World} {A : Around} {s : Shared} {Q : Value → Shared → Prop} {E : Value → Shared → Prop} {e : Addr} {oe od : Obj} {v : Value} {expr : Bool} (X : (hd.heap_1 w.params).In s.heap) (I : InstAt s.heap e oe 63 (some od))
    (hl : lookIn "code" od = some (some v)) (hv : handedIn v = true) (h : Q v { s with toks := s.toks + 1 }) :
    wpAny (model PySem.Challenge.rw_no0239_01.row.prog w) A (getAttr (.ref e) "code" expr) Q E s := by
  have hga : findIn (hd.heap_1 w.params) (.ref 63) "__getattribute__" = some (some (.builtin "BaseException.__getattribute__")) := by k_is
  have hgb : findIn (hd.heap_1 w.params) (.ref 63) "__getattr__" = some none := by k_is
  have hf : findObj (hd.heap_1 w.params) 63 (some od) "code" = some (.value v) := findObj_own (attr := none) (by k_is) (by k_is) (by k_is) hl
  have sub : Looks (model PySem.Challenge.rw_no0239_01.row.prog w) s.heap (isInstance (.ref e) (.type "BaseException")) true := I.type.andThen (looks_mroIn X (by kernel_rfl))
  obtain ⟨hh', g, d, t, os⟩ := s
  have L0 := I.type (M := model PySem.Challenge.rw_no0239_01.row.prog w)
  have L1 := looks_find (M := model PySem.Challenge.rw_no0239_01.row.prog w) X I hf
  refine wpAny_bind (wpAny_mkText (wpAny_holding (wpAny_bind (L0.at (wpAny_bind ((looks_findIn X hga).at ?_))))))
  show wpAny _ _ (getAttrByItsOwn _ _ _ _ _ _) _ _ _
  unfold getAttrByItsOwn
  refine wpAny_bind ((looks_findIn (t := .ref 63) X hgb).at ?_)
  refine wpAny_bind (wpAny_attempt (wpAny_holding ?_))
  have hx0 : (expr && onTheHeap (Value.builtin "BaseException.__getattribute__")) = false := by cases expr <;> rfl
  unfold callGetattribute
  rw [hx0, if_neg (by decide)]
  unfold boundAndCalled
  rw [slot_bga.bind]
  refine wpAny_bind (wpAny_pure (wpAny_call ?_))
  have k1 : builtinKind "BaseException.__getattribute__" = some .slot := by decide +kernel
  have k2 : splitId "BaseException.__getattribute__" = some ("BaseException", "__getattribute__") := by decide +kernel
  refine codeAny_call_builtin slot_bga.plain PySem.F.entry_bexc_ga (@check_slot (model PySem.Challenge.rw_no0239_01.row.prog w) _ _ ⟨hh', g, d, t + 1, os⟩ "BaseException.__getattribute__" "BaseException" "__getattribute__" (.ref e) [.str "code" t] [] _ k1 k2 sub (PySem.F.args_bexc_ga (.ref e) (.str "code" t)) ?_)
  refine wpAny_bind (wpAny_pure (wpAny_bind (wpAny_pure (wpAny_bind (L0.at (wpAny_bind (L1.at ?_)))))))
  refine wpAny_pure ?_
  show wpAny _ _ (handedOut v) _ _ _
  rw [handedOut_of hv]; exact wpAny_pure h
end Mine
end
section
open PySem PySem.W PyProof.Rows PySem.Calls
set_option Elab.async false
set_option maxRecDepth 100000
set_option maxHeartbeats 8000000
namespace Mine
structure Rn (A : Around) (n : Nat) : Prop extends Rm A n where
  h : A.handled = none
theorem Rn.deeper {A : Around} {n k : Nat} {env : Env} (r : Rn A k) (h : n + 1 ≤ k) : Rn (A.deeper env) n := ⟨Rm.deeper r.toRm h, r.h⟩
theorem Rn.in1 {A : Around} {n k : Nat} (r : Rn A k) (h : n + 1 ≤ k) : Rn A.in1 n := ⟨Rm.in1 r.toRm h, r.h⟩
theorem Rn.le {A : Around} {n k : Nat} (r : Rn A k) (h : n ≤ k) : Rn A n := ⟨Rm.le r.toRm h, r.h⟩
theorem news_ext {h₀ h h' : Heap} {L : Addr} {news : List (Addr × Obj)} (N : News h₀ L h news) (x : Ext h h') : News h₀ L h' news := fun p hp => ⟨x _ _ (N p hp).1, (N p hp).2⟩
abbrev tupO (vs : List Value) : Obj := { cls := .type "tuple", data := .seq vs.toArray }
theorem news_cons {h₀ h h' : Heap} {L a : Addr} {o : Obj} {m : PySem.Str → Option Value} {news : List (Addr × Obj)} (F : Fr h₀ L h m) (N : News h₀ L h news) (x : Ext h h') (ha : h'.get? a = some o) (hn : h.get? a = none) : News h₀ L h' ((a, o) :: news) := fun p hp => by
  rcases List.mem_cons.mp hp with rfl | hp
  · refine ⟨ha, ?_, none_of F.keep hn⟩
    rintro rfl
    obtain ⟨o', _, _, q, _⟩ := F.ns
    rw [hn] at q; cases q
  · exact news_ext N x p hp
def S (l : List Nat) : PySem.Str := ⟨l.toArray⟩
theorem S_cps (x : PySem.Str) : S x.cps.toList = x := by cases x; simp [S]
theorem S_len (l : List Nat) : (S l).length = l.length := by simp [S, PySem.Str.length]
theorem S_app (a b : List Nat) : S a ++ S b = S (a ++ b) := by
  show (⟨_ ++ _⟩ : PySem.Str) = _
  simp [S]
theorem S_lt {l : List Nat} {n : Nat} (h : l.length < n) : (S l).length < n := by rw [S_len]; exact h
theorem S_inj {a b : List Nat} (h : S a = S b) : a = b := by
  have := congrArg (fun x => x.cps.toList) h
  simpa [S] using this
theorem S_eq {a b : List Nat} : (S a = S b) ↔ a = b := ⟨S_inj, fun h => by rw [h]⟩
theorem q_bool {Q : Value → Shared → Prop} {b b' : Bool} {s : Shared} (h : Q (.bool b) s) (e : b' = b) : Q (.bool b') s := e ▸ h
theorem q_int {Q : Value → Shared → Prop} {b b' : Int} {t : Tok} {s : Shared} (h : Q (.int b t) s) (e : b' = b) : Q (.int b' t) s := e ▸ h
theorem q_str {Q : Value → Shared → Prop} {b b' : PySem.Str} {t : Tok} {s : Shared} (h : Q (.str b t) s) (e : b' = b) : Q (.str b' t) s := e ▸ h
end Mine
end
section
open PySem PySem.W PyProof.Rows PySem.Calls
set_option Elab.async false
set_option maxRecDepth 100000
set_option maxHeartbeats 8000000
namespace Mine
theorem fillF1 {w : World} : PySem.Challenge.rw_no0239_01 = PySem.Challenge.rw_no0239_01 ∧ hd.heap_1 w.params = hd.heap_1 w.params := by k_fill; exact ⟨rfl, rfl⟩
theorem rulesF1_1 : True := by
  w_top off
  k_with_none
  k_with "my:go" => repeat' ((fail_if_success (with_reducible show wpAny _ _ (exec (Stmt.While _ _ _ _) _) _ _ _)); (first | (k_unfold; (try dsimp only)) | walk1 | (dsimp only; walk1) | (leave1; walk_say "STEP leave1"; try dsimp only)))
  trivial

theorem cd_turn9 {n c k : Int} (h0 : 0 ≤ n) (h1 : c + nd n.toNat = k) (h : 1000000000 ≤ n) : 0 ≤ Int.fdiv n 1000000000 ∧ (c + 9) + nd (Int.fdiv n 1000000000).toNat = k := by
  obtain ⟨m, rfl⟩ := Int.eq_ofNat_of_zero_le h0
  have h' : 10 ^ 9 ≤ m := by lia
  have e := nd_big h'
  have e2 : Int.fdiv (m : Int) 1000000000 = ((m / 10 ^ 9 : Nat) : Int) := by
    rw [Int.fdiv_eq_ediv_of_nonneg _ (by lia)]; rfl
  rw [e2]
  simp only [Int.toNat_natCast] at *
  lia
theorem cd_turn1 {n c k : Int} (h0 : 0 ≤ n) (h1 : c + nd n.toNat = k) (h : 0 < n) : 0 ≤ Int.fdiv n 10 ∧ (c + 1) + nd (Int.fdiv n 10).toNat = k := by
  obtain ⟨m, rfl⟩ := Int.eq_ofNat_of_zero_le h0
  have e := nd_pos (n := m) (by lia)
  have e2 : Int.fdiv (m : Int) 10 = ((m / 10 : Nat) : Int) := by
    rw [Int.fdiv_eq_ediv_of_nonneg _ (by lia)]; rfl
  rw [e2]
  simp only [Int.toNat_natCast] at *
  lia
theorem cd_less9 {n : Int} (h0 : 0 ≤ n) (h : 1000000000 ≤ n) : (Int.fdiv n 1000000000).toNat < n.toNat := by
  rw [Int.fdiv_eq_ediv_of_nonneg _ (by lia)]; lia
theorem cd_less1 {n : Int} (h0 : 0 ≤ n) (h : 0 < n) : (Int.fdiv n 10).toNat < n.toNat := by
  rw [Int.fdiv_eq_ediv_of_nonneg _ (by lia)]; lia
theorem cd_end {n c k : Int} (h0 : 0 ≤ n) (h1 : c + nd n.toNat = k) (h : ¬ 0 < n) : c = k := by
  have : n.toNat = 0 := by lia
  rw [this] at h1; simp [nd] at h1; exact h1
theorem cd_start (x : Int) : 0 ≤ (if x < 0 then -x else x) ∧ (0 : Int) + nd (if x < 0 then -x else x).toNat = nd x.natAbs := by
  have : (if x < 0 then -x else x).toNat = x.natAbs := by split <;> lia
  rw [this]; refine ⟨by split <;> lia, by lia⟩

theorem count_digits_b {w : World} {mg mb : PySem.Str → Option Value} {mean : ExcName → Option Value} {pg : PySem.Program} {lse : List PySem.Str} {s : Shared} {A : Around} {Q E : Value → Shared → Prop} (x_n : Int) (t_n : Tok)
    (X : (hd.heap_1 w.params).In s.heap) (T : Top pg lse mean mg mb s.heap) (R : Rn A 1)
    (hq : ∀ t h' tk, Ext s.heap h' → Q (.int (nd x_n.natAbs) t) { s with heap := h', toks := tk }) :
    wpAny (model PySem.Challenge.rw_no0239_01.row.prog w) A (call (.ref 73) [.int x_n t_n]) Q E s := by
  refine wpAny_call ?_
  refine call_q [("n", .int x_n t_n)] (by have := R.d; lia) (X 73 _ (by k_is)) rfl T.nolimit (codeRec_of X (by k_is)) rfl (locs rfl) ?_ rfl rfl rfl (by decide)
  intro h₁ F
  have N : News s.heap s.heap.objs.size h₁ [] := News.nil
  (k_with "state" => first | exact cd_start _ | exact cd_turn9 (by assumption) (by assumption) (by assumption) | exact cd_turn1 (by assumption) (by assumption) (by assumption))
  (k_with "measure" => first | exact cd_less9 (by assumption) (by assumption) | exact cd_less1 (by assumption) (by assumption))
  walk_at "my:go"
  k_while (fun (_ : List Int) n c => 0 ≤ n ∧ c + nd n.toNat = nd x_n.natAbs) (fun (_ : List Int) n _ => n.toNat) "n" "count"
  walk_at "my:go"
  k_while (fun (_ : List Int) n c => 0 ≤ n ∧ c + nd n.toNat = nd x_n.natAbs) (fun (_ : List Int) n _ => n.toNat) "n" "count"
  walk_at "my:go"
  (rename ¬ 0 < _ => hz)
  have e := cd_end (by assumption) (by assumption) hz
  dsimp only
  rw [e]
  exact hq _ _ _ kFr.keep

theorem count_digits_k {w : World} {mg mb : PySem.Str → Option Value} {mean : ExcName → Option Value} {pg : PySem.Program} {lse : List PySem.Str} {s : Shared} {A : Around} {Q E : Value → Shared → Prop} {h₀ : Heap} {L : Addr} {m : PySem.Str → Option Value} {news : List (Addr × Obj)} {x_n : Int} {t_n : Tok}
    (F : Fr h₀ L s.heap m) (N : News h₀ L s.heap news) (X : (hd.heap_1 w.params).In h₀) (T : Top pg lse mean mg mb h₀) (R : Rn A 1)
    (hq : ∀ t h' tk, Fr h₀ L h' m → News h₀ L h' news → Q (.int (nd x_n.natAbs) t) { s with heap := h', toks := tk }) :
    wpAny (model PySem.Challenge.rw_no0239_01.row.prog w) A (call (.ref 73) [.int x_n t_n]) Q E s :=
  count_digits_b _ _ (X.keeps F.keep) (T.keeps F.keep) R fun t h' tk x => hq t h' tk (F.keeps x) (news_ext N x)
end Mine
end
section
open PySem PySem.W PyProof.Rows PySem.Calls
set_option Elab.async false
set_option maxRecDepth 100000
set_option maxHeartbeats 8000000
namespace Mine
theorem rulesF2_0 : True := by
  w_top off
  k_with_none
  trivial
theorem fillF2 {w : World} : PySem.Challenge.rw_no0239_01 = PySem.Challenge.rw_no0239_01 ∧ hd.heap_1 w.params = hd.heap_1 w.params := by k_fill; exact ⟨rfl, rfl⟩
theorem in_width_b {w : World} {mg mb : PySem.Str → Option Value} {mean : ExcName → Option Value} {pg : PySem.Program} {lse : List PySem.Str} {s : Shared} {A : Around} {Q E : Value → Shared → Prop} (x_number : Int) (t_number : Tok) (x_width : Int) (t_width : Tok)
    (X : (hd.heap_1 w.params).In s.heap) (T : Top pg lse mean mg mb s.heap) (R : Rn A 1) (hw : 2 ≤ x_width ∧ x_width ≤ 31)
    (hq : ∀ h' tk, Ext s.heap h' → Q (.bool (decide (-(2 ^ (x_width - 1).toNat : Int) ≤ x_number ∧ x_number < 2 ^ (x_width - 1).toNat))) { s with heap := h', toks := tk }) :
    wpAny (model PySem.Challenge.rw_no0239_01.row.prog w) A (call (.ref 122) [.int x_number t_number, .int x_width t_width]) Q E s := by
  obtain ⟨ah, ad, af, ag, au⟩ := A
  obtain rfl : ah = none := R.h
  refine wpAny_call ?_
  refine call_q [("number", .int x_number t_number), ("width", .int x_width t_width)] (by have := R.d; omega) (X 122 _ (by k_is)) rfl T.nolimit (codeRec_of X (by k_is)) rfl (locs rfl) ?_ rfl rfl rfl (by decide)
  intro h₁ F
  have N : News s.heap s.heap.objs.size h₁ [] := News.nil
  k_steps
  all_goals dsimp only
  all_goals (refine q_bool (hq _ _ (Fr.keep (by assumption))) ?_)
  all_goals (simp only [Int.one_mul] at *; rw [decide_eq_decide]; generalize (2 : Int) ^ (x_width - 1).toNat = p at *; omega)

theorem in_width_k {w : World} {mg mb : PySem.Str → Option Value} {mean : ExcName → Option Value} {pg : PySem.Program} {lse : List PySem.Str} {s : Shared} {A : Around} {Q E : Value → Shared → Prop} {h₀ : Heap} {L : Addr} {m : PySem.Str → Option Value} {news : List (Addr × Obj)} {x_number : Int} {t_number : Tok} {x_width : Int} {t_width : Tok}
    (F : Fr h₀ L s.heap m) (N : News h₀ L s.heap news) (X : (hd.heap_1 w.params).In h₀) (T : Top pg lse mean mg mb h₀) (R : Rn A 1) (hw : 2 ≤ x_width ∧ x_width ≤ 31)
    (hq : ∀ h' tk, Fr h₀ L h' m → News h₀ L h' news → Q (.bool (decide (-(2 ^ (x_width - 1).toNat : Int) ≤ x_number ∧ x_number < 2 ^ (x_width - 1).toNat))) { s with heap := h', toks := tk }) :
    wpAny (model PySem.Challenge.rw_no0239_01.row.prog w) A (call (.ref 122) [.int x_number t_number, .int x_width t_width]) Q E s :=
  in_width_b _ _ _ _ (X.keeps F.keep) (T.keeps F.keep) R hw fun h' tk x => hq h' tk (F.keeps x) (news_ext N x)

end Mine
end
section
open PySem PySem.W PyProof.Rows PySem.Calls PySem.Builtin PySem.Builtin.Str
set_option Elab.async false
namespace Mine
theorem rulesTxts_0 : True := by
  w_top off
  k_with_none
  trivial
noncomputable def clipN (i : Int) (n : Nat) : Nat := (max 0 (min (if i < 0 then i + n else i) n)).toNat
theorem idx_eq (lo hi : Option Int) (n : Nat) : strSliceIndices lo hi 1 n = (List.range ((hi.elim n (clipN · n)) - (lo.elim 0 (clipN · n)))).map fun k => lo.elim 0 (clipN · n) + k := by
  have h1 : ((1 : Int) > 0) = True := by simp
  unfold strSliceIndices sliceRange
  simp only [h1, if_true]
  have e : ∀ (a b : Int), 0 ≤ a → 0 ≤ b → (List.range (if a < b then (b - a + 1 - 1) / 1 else 0).toNat).map (fun k : Nat => (a + 1 * (k : Int)).toNat) = (List.range (b.toNat - a.toNat)).map fun k => a.toNat + k := by
    intro a b ha hb
    have : (if a < b then (b - a + 1 - 1) / 1 else 0).toNat = b.toNat - a.toNat := by
      split <;> (try rw [Int.ediv_one]) <;> lia
    rw [this]
    refine List.map_congr_left fun k _ => ?_
    lia
  cases lo <;> cases hi
  · exact e 0 n (by lia) (by lia)
  · rename_i i; exact e 0 (max 0 (min (if i < 0 then i + n else i) n)) (by lia) (by lia)
  · rename_i i; exact e (max 0 (min (if i < 0 then i + n else i) n)) n (by lia) (by lia)
  · rename_i i j; exact e (max 0 (min (if i < 0 then i + n else i) n)) (max 0 (min (if j < 0 then j + n else j) n)) (by lia) (by lia)
theorem slice_S (l : List Nat) (lo hi : Option Int) : Txt.slice (S l) lo hi = S ((l.drop (lo.elim 0 (clipN · l.length))).take ((hi.elim l.length (clipN · l.length)) - (lo.elim 0 (clipN · l.length)))) := by
  have hb : hi.elim l.length (clipN · l.length) ≤ l.length := by
    cases hi with
    | none => exact Nat.le_refl _
    | some i => show clipN i l.length ≤ _; unfold clipN; lia
  have hn : (S l).length = l.length := S_len l
  generalize ha : lo.elim 0 (clipN · l.length) = a
  generalize hbb : hi.elim l.length (clipN · l.length) = b at *
  have key : ((strSliceIndices lo hi 1 l.length).filterMap (l[·]?)) = (l.drop a).take (b - a) := by
    rw [idx_eq, ha, hbb]
    by_cases h : a ≤ b
    · exact StrLaws.picks l (b - a) a (by lia)
    · have : b - a = 0 := by lia
      rw [this]; simp
  unfold Txt.slice
  rw [hn]
  split
  · rename_i hh
    rw [idx_eq, ha, hbb] at hh
    simp at hh
    rcases Nat.eq_zero_or_pos l.length with h0 | h0
    · have : l = [] := List.length_eq_zero_iff.mp h0
      subst this; simp
    · have ha0 : a = 0 := by lia
      have hb0 : b = l.length := by lia
      subst ha0; subst hb0; simp
  · show (⟨_⟩ : PySem.Str) = ⟨_⟩
    congr 2
    simpa [S] using key
theorem slice_to (l : List Nat) (j : Int) (h : 0 ≤ j) : Txt.slice (S l) none (some j) = S (l.take j.toNat) := by
  rw [slice_S]; simp only [Option.elim, Nat.sub_zero, List.drop_zero]
  congr 1
  have : clipN j l.length = min j.toNat l.length := by unfold clipN; rw [if_neg (by lia)]; lia
  rw [this]
  by_cases hh : j.toNat ≤ l.length
  · rw [Nat.min_eq_left hh]
  · rw [Nat.min_eq_right (by lia), List.take_of_length_le (by lia), List.take_of_length_le (by lia)]
theorem slice_from (l : List Nat) (i : Int) (h : 0 ≤ i) : Txt.slice (S l) (some i) none = S (l.drop i.toNat) := by
  rw [slice_S]; simp only [Option.elim]
  congr 1
  have : clipN i l.length = min i.toNat l.length := by unfold clipN; rw [if_neg (by lia)]; lia
  rw [this]
  by_cases hh : i.toNat ≤ l.length
  · rw [Nat.min_eq_left hh, List.take_of_length_le (by simp)]
  · rw [Nat.min_eq_right (by lia), List.drop_of_length_le (Nat.le_refl _), List.drop_of_length_le (by lia)]; simp
theorem slice_mid (l : List Nat) (i j : Int) (h : 0 ≤ i) (h2 : 0 ≤ j) : Txt.slice (S l) (some i) (some j) = S ((l.drop i.toNat).take (j.toNat - i.toNat)) := by
  rw [slice_S]; simp only [Option.elim]
  congr 1
  have e1 : clipN i l.length = min i.toNat l.length := by unfold clipN; rw [if_neg (by lia)]; lia
  have e2 : clipN j l.length = min j.toNat l.length := by unfold clipN; rw [if_neg (by lia)]; lia
  rw [e1, e2]
  by_cases hh : i.toNat ≤ l.length
  · rw [Nat.min_eq_left hh]
    by_cases h3 : j.toNat ≤ l.length
    · rw [Nat.min_eq_left h3]
    · rw [Nat.min_eq_right (by lia), List.take_of_length_le (by simp), List.take_of_length_le (by simp; lia)]
  · rw [Nat.min_eq_right (a := i.toNat) (by lia), List.drop_of_length_le (Nat.le_refl _), List.drop_of_length_le (by lia)]; simp
theorem lit_minus : PySem.Str.ofString "-" = S [45] := by decide +kernel
theorem lit_plus : PySem.Str.ofString "+" = S [43] := by decide +kernel
theorem lit_blank : PySem.Str.ofString " " = S [32] := by decide +kernel
theorem lit_empty : PySem.Str.ofString "" = S [] := by decide +kernel
theorem lit_E : PySem.Str.ofString "E" = S [69] := by decide +kernel
theorem lit_D : PySem.Str.ofString "D" = S [68] := by decide +kernel
theorem lit_T : PySem.Str.ofString "T" = S [84] := by decide +kernel
theorem lit_F : PySem.Str.ofString "F" = S [70] := by decide +kernel
theorem lit_dot : PySem.Str.ofString "." = S [46] := by decide +kernel
theorem lit_0 : PySem.Str.ofString "0" = S [48] := by decide +kernel
theorem lit_5 : PySem.Str.ofString "5" = S [53] := by decide +kernel
theorem lit_fig : PySem.Str.ofString "0123456789" = S [48,49,50,51,52,53,54,55,56,57] := by decide +kernel
theorem lit_ED : PySem.Str.ofString "ED" = S [69, 68] := by decide +kernel
theorem S_beq (a b : List Nat) : (S a == S b) = (a == b) := by
  rw [Bool.eq_iff_iff, beq_iff_eq, beq_iff_eq, S_eq]

noncomputable def signF (l : List Nat) : Int × List Nat := if l.take 1 == [45] then (-1, l.drop 1) else if l.take 1 == [43] then (1, l.drop 1) else (1, l)
theorem signF_minus {l : List Nat} (h : (Txt.slice (S l) none (some 1) == PySem.Str.ofString "-") = true) : signF l = (-1, l.drop 1) ∧ Txt.slice (S l) (some 1) none = S (l.drop 1) := by
  rw [slice_to _ _ (by decide), lit_minus, S_beq] at h; change (l.take 1 == [45]) = _ at h
  refine ⟨?_, slice_from _ _ (by decide)⟩
  unfold signF; rw [if_pos h]
theorem signF_plus {l : List Nat} (h0 : (Txt.slice (S l) none (some 1) == PySem.Str.ofString "-") = false) (h : (Txt.slice (S l) none (some 1) == PySem.Str.ofString "+") = true) : signF l = (1, l.drop 1) ∧ Txt.slice (S l) (some 1) none = S (l.drop 1) := by
  rw [slice_to _ _ (by decide), lit_minus, S_beq] at h0; change (l.take 1 == [45]) = _ at h0
  rw [slice_to _ _ (by decide), lit_plus, S_beq] at h; change (l.take 1 == [43]) = _ at h
  refine ⟨?_, slice_from _ _ (by decide)⟩
  unfold signF; rw [if_neg (by simpa using h0), if_pos h]
theorem signF_none {l : List Nat} (h0 : (Txt.slice (S l) none (some 1) == PySem.Str.ofString "-") = false) (h : (Txt.slice (S l) none (some 1) == PySem.Str.ofString "+") = false) : signF l = (1, l) := by
  rw [slice_to _ _ (by decide), lit_minus, S_beq] at h0; change (l.take 1 == [45]) = _ at h0
  rw [slice_to _ _ (by decide), lit_plus, S_beq] at h; change (l.take 1 == [43]) = _ at h
  unfold signF; rw [if_neg (by simpa using h0), if_neg (by simpa using h)]
theorem signF_len (l : List Nat) : (signF l).2.length ≤ l.length := by unfold signF; split <;> (try split) <;> simp
end Mine
end
section
open PySem PySem.W PyProof.Rows PySem.Calls
set_option Elab.async false
set_option maxRecDepth 100000
set_option maxHeartbeats 8000000
namespace Mine
theorem rulesF3_0 : True := by
  w_top off
  k_with_none
  trivial
theorem fillF3 {w : World} : PySem.Challenge.rw_no0239_01 = PySem.Challenge.rw_no0239_01 ∧ hd.heap_1 w.params = hd.heap_1 w.params := by k_fill; exact ⟨rfl, rfl⟩
theorem cut_sign_b {w : World} {mg mb : PySem.Str → Option Value} {mean : ExcName → Option Value} {pg : PySem.Program} {lse : List PySem.Str} {s : Shared} {A : Around} {Q E : Value → Shared → Prop} (x_text : List Nat) (t_text : Tok)
    (X : (hd.heap_1 w.params).In s.heap) (T : Top pg lse mean mg mb s.heap) (R : Rn A 1) (hx : x_text.length < 200)
    (hq : ∀ D t0 t1 h' tk, Ext s.heap h' → h'.get? D = some (tupO [.int ((signF x_text).1) t0, .str (S (signF x_text).2) t1]) → s.heap.get? D = none → Q (.ref D) { s with heap := h', toks := tk }) :
    wpAny (model PySem.Challenge.rw_no0239_01.row.prog w) A (call (.ref 115) [.str (S x_text) t_text]) Q E s := by
  obtain ⟨ah, ad, af, ag, au⟩ := A
  obtain rfl : ah = none := R.h
  refine wpAny_call ?_
  refine call_q [("text", .str (S x_text) t_text)] (by have := R.d; omega) (X 115 _ (by k_is)) rfl T.nolimit (codeRec_of X (by k_is)) rfl (locs rfl) ?_ rfl rfl rfl (by decide)
  intro h₁ F
  have N : News s.heap s.heap.objs.size h₁ [] := News.nil
  have hxS : (S x_text).length < 200 := S_lt hx
  k_steps
  all_goals (rename News _ _ _ _ => nn; rename Fr _ _ _ _ => ff)
  · obtain ⟨e1, e2⟩ := signF_minus (by assumption)
    rw [e1] at hq
    rw [e2] at nn
    exact hq _ _ _ _ _ ff.keep (nn _ (.head _)).1 (nn _ (.head _)).2.2
  · obtain ⟨e1, e2⟩ := signF_plus (by assumption) (by assumption)
    rw [e1] at hq
    rw [e2] at nn
    exact hq _ _ _ _ _ ff.keep (nn _ (.head _)).1 (nn _ (.head _)).2.2
  · have e1 := signF_none (by assumption) (by assumption)
    rw [e1] at hq
    exact hq _ _ _ _ _ ff.keep (nn _ (.head _)).1 (nn _ (.head _)).2.2

theorem cut_sign_k {w : World} {mg mb : PySem.Str → Option Value} {mean : ExcName → Option Value} {pg : PySem.Program} {lse : List PySem.Str} {s : Shared} {A : Around} {Q E : Value → Shared → Prop} {h₀ : Heap} {L : Addr} {m : PySem.Str → Option Value} {news : List (Addr × Obj)} {x_text : List Nat} {t_text : Tok}
    (F : Fr h₀ L s.heap m) (N : News h₀ L s.heap news) (X : (hd.heap_1 w.params).In h₀) (T : Top pg lse mean mg mb h₀) (R : Rn A 1) (hx : x_text.length < 200)
    (hq : ∀ D t0 t1 h' tk, Fr h₀ L h' m → News h₀ L h' ((D, tupO [.int ((signF x_text).1) t0, .str (S (signF x_text).2) t1]) :: news) → Q (.ref D) { s with heap := h', toks := tk }) :
    wpAny (model PySem.Challenge.rw_no0239_01.row.prog w) A (call (.ref 115) [.str (S x_text) t_text]) Q E s :=
  cut_sign_b _ _ (X.keeps F.keep) (T.keeps F.keep) R hx fun D t0 t1 h' tk x y z => hq D t0 t1 h' tk (F.keeps x) (news_cons F N x y z)

end Mine
end
section
open PySem PySem.W PyProof.Rows PySem.Calls PySem.Builtin PySem.Builtin.Str
set_option Elab.async false
namespace Mine
theorem rulesTxt2_0 : True := by
  w_top off
  k_with_none
  trivial
theorem S1 (c : Nat) : (⟨#[c]⟩ : PySem.Str) = S [c] := rfl
theorem codes_S (l : List Nat) : (KStt.codes (S l)).map Int.toNat = l := by
  have : (Int.toNat ∘ fun (c : Nat) => (c : Int)) = _root_.id := by funext c; simp
  simp [KStt.codes, S, this]
theorem at_one (l : List Nat) (c i : Nat) : StrLaws.At (S l) (S [c]) (S l).length i ↔ l[i]? = some c := by
  have := StrLaws.subAt_one (S l) c i
  simpa [StrLaws.At, S] using this
noncomputable def findF (l : List Nat) (c : Nat) : Int := if c ∈ l then (l.idxOf c : Int) else -1
theorem idxOf_first {l : List Nat} {c i : Nat} (h : l[i]? = some c) (hn : ∀ k, k < i → l[k]? ≠ some c) : l.idxOf c = i := by
  induction l generalizing i with
  | nil => simp at h
  | cons a r ih =>
    cases i with
    | zero => simp at h; subst h; simp
    | succ j =>
      have ha : a ≠ c := fun z => hn 0 (by lia) (by simp [z])
      rw [List.idxOf_cons, beq_false_of_ne ha]
      simp only [cond_false, Nat.succ_eq_add_one]
      rw [ih (by simpa using h) fun k hk => by simpa using hn (k + 1) (by lia)]
theorem find_S (l : List Nat) (c : Nat) : Txt.find (S l) (S [c]) = findF l c := by
  unfold Txt.find findF
  rcases StrLaws.occ_head (S l) (S [c]) 1 (Nat.le_refl _) with ⟨h0, hn⟩ | ⟨i, r, h0, ha, hn⟩
  · rw [h0]
    have : c ∉ l := fun hm => by
      obtain ⟨i, hi, e⟩ := List.getElem_of_mem hm
      exact hn i ((at_one l c i).mpr (by rw [List.getElem?_eq_getElem hi, e]))
    rw [if_neg this]
  · rw [h0]
    have h1 := (at_one l c i).mp ha
    rw [if_pos (List.mem_of_getElem? h1), idxOf_first h1 fun k hk z => hn k hk ((at_one l c k).mpr z)]
noncomputable def isDig (c : Nat) : Bool := decide (48 ≤ c) && decide (c ≤ 57)
theorem find_fig (c : Nat) : findF [48,49,50,51,52,53,54,55,56,57] c = if isDig c then ((c - 48 : Nat) : Int) else -1 := by
  unfold findF isDig
  by_cases h : 48 ≤ c ∧ c ≤ 57
  · obtain ⟨h1, h2⟩ := h
    have : ∃ k, k < 10 ∧ c = 48 + k := ⟨c - 48, by lia, by lia⟩
    obtain ⟨k, hk, rfl⟩ := this
    have hall : ∀ k < 10, (if (48 + k) ∈ [48,49,50,51,52,53,54,55,56,57] then (([48,49,50,51,52,53,54,55,56,57].idxOf (48 + k) : Nat) : Int) else -1) = if (decide (48 ≤ 48 + k) && decide (48 + k ≤ 57)) = true then ((48 + k - 48 : Nat) : Int) else -1 := by decide
    exact hall k hk
  · have hm : c ∉ [48,49,50,51,52,53,54,55,56,57] := by simp; omega
    rw [if_neg hm, if_neg (by simp; omega)]
noncomputable def valN (l : List Nat) : Nat := l.foldl (fun n c => n * 10 + (c - 48)) 0
theorem valN_snoc (l : List Nat) (c : Nat) : valN (l ++ [c]) = valN l * 10 + (c - 48) := by simp [valN]
noncomputable def wholeF (l : List Nat) : Int := if l ≠ [] ∧ l.all isDig then (valN l : Int) else -1
theorem fig_pos {c : Nat} (h : ¬ Txt.find (PySem.Str.ofString "0123456789") { cps := #[c] } < 0) : isDig c = true ∧ Txt.find (PySem.Str.ofString "0123456789") { cps := #[c] } = ((c - 48 : Nat) : Int) := by
  rw [lit_fig, S1, find_S, find_fig] at *
  split at h
  · rename_i hd; exact ⟨hd, by rw [if_pos hd]⟩
  · lia
theorem fig_neg {c : Nat} (h : Txt.find (PySem.Str.ofString "0123456789") { cps := #[c] } < 0) : isDig c = false := by
  rw [lit_fig, S1, find_S, find_fig] at h
  split at h
  · lia
  · rename_i hd; simpa using hd
theorem wo_turn {n : Int} {pre : List Int} {k : Nat} (h1 : n = (valN (pre.map Int.toNat) : Int)) (h2 : ∀ c ∈ pre.map Int.toNat, isDig c = true) (hf : ¬ Txt.find (PySem.Str.ofString "0123456789") { cps := #[k] } < 0) :
    n * 10 + Txt.find (PySem.Str.ofString "0123456789") { cps := #[k] } = (valN ((pre ++ [(k : Int)]).map Int.toNat) : Int) ∧ ∀ c ∈ (pre ++ [(k : Int)]).map Int.toNat, isDig c = true := by
  obtain ⟨a, b⟩ := fig_pos hf
  rw [b, List.map_append, List.map_cons, List.map_nil, Int.toNat_natCast, valN_snoc, h1]
  refine ⟨by push_cast; rfl, fun c hc => ?_⟩
  rcases List.mem_append.mp hc with h | h
  · exact h2 c h
  · simp at h; rw [h]; exact a
theorem wo_bad {x : List Nat} {pre post : List Int} {k : Nat} (e : KStt.codes (S x) = pre ++ (k : Int) :: post) (hf : Txt.find (PySem.Str.ofString "0123456789") { cps := #[k] } < 0) : wholeF x = -1 := by
  have h := congrArg (List.map Int.toNat) e
  rw [codes_S] at h
  unfold wholeF
  rw [if_neg]
  rintro ⟨_, ha⟩
  have := List.all_eq_true.mp ha k (by rw [h]; simp)
  rw [fig_neg hf] at this; cases this
theorem wo_none {x : List Nat} (h : (S x == PySem.Str.ofString "") = true) : wholeF x = -1 := by
  rw [lit_empty, S_beq] at h
  have : x = [] := by simpa using h
  subst this; rfl
theorem wo_end {x : List Nat} {n : Int} (h : (S x == PySem.Str.ofString "") = false) (h1 : n = (valN ((KStt.codes (S x)).map Int.toNat) : Int)) (h2 : ∀ c ∈ (KStt.codes (S x)).map Int.toNat, isDig c = true) : n = wholeF x := by
  rw [lit_empty, S_beq] at h
  rw [codes_S] at h1 h2
  unfold wholeF
  rw [if_pos ⟨by simpa using h, List.all_eq_true.mpr h2⟩]; exact h1

noncomputable def solidStep (z : Bool) (out : List Nat) (c : Nat) : List Nat := if c != 32 then out ++ [c] else if z && out != [] && out.getLast? != some 69 && out.getLast? != some 68 then out ++ [48] else out
noncomputable def solidF (z : Bool) (l : List Nat) : List Nat := l.foldl (solidStep z) []
theorem solidF_snoc (z : Bool) (l : List Nat) (c : Nat) : solidF z (l ++ [c]) = solidStep z (solidF z l) c := by simp [solidF]
theorem solidStep_len (z : Bool) (l : List Nat) (c : Nat) : (solidStep z l c).length ≤ l.length + 1 := by
  unfold solidStep; split <;> (try split) <;> simp
theorem solidF_len (z : Bool) (l : List Nat) : (solidF z l).length ≤ l.length := by
  have : ∀ (l out : List Nat), (l.foldl (solidStep z) out).length ≤ out.length + l.length := by
    intro l
    induction l with
    | nil => intro out; simp
    | cons c r ih => intro out; rw [List.foldl_cons]; have := ih (solidStep z out c); have := solidStep_len z out c; simp; lia
  simpa [solidF] using this l []
theorem last_S (l : List Nat) (h : l ≠ []) : Txt.item (S l) (-1) = S [l.getLast h] := by
  have hn : 0 < l.length := List.length_pos_iff.mpr h
  unfold Txt.item Txt.charAt seqIndex?
  rw [S_len]
  have e1 : (0 ≤ (if (-1 : Int) < 0 then -1 + (l.length : Int) else -1) && (if (-1 : Int) < 0 then -1 + (l.length : Int) else -1) < l.length) = true := by simp; lia
  simp only [e1, if_true]
  have e2 : (if (-1 : Int) < 0 then -1 + (l.length : Int) else -1).toNat = l.length - 1 := by rw [if_pos (by decide)]; lia
  rw [e2]
  simp only [Option.bind_some, S, List.getElem?_toArray]
  rw [List.getElem?_eq_getElem (by lia), List.getLast_eq_getElem]
  rfl
theorem one_bne (c d : Nat) : ((⟨#[c]⟩ : PySem.Str) != S [d]) = (c != d) := by
  rw [S1]; show (!(S [c] == S [d])) = !(c == d)
  rw [S_beq]; congr 1; simp
theorem so_add {z : Bool} {out : PySem.Str} {pre : List Int} {k : Nat} (h1 : out = S (solidF z (pre.map Int.toNat))) (h2 : out.length ≤ pre.length) (hk : (({ cps := #[k] } : PySem.Str) != PySem.Str.ofString " ") = true) :
    out ++ { cps := #[k] } = S (solidF z ((pre ++ [(k : Int)]).map Int.toNat)) ∧ (out ++ { cps := #[k] }).length ≤ (pre ++ [(k : Int)]).length := by
  rw [lit_blank, one_bne] at hk
  have e : out ++ { cps := #[k] } = S (solidF z ((pre ++ [(k : Int)]).map Int.toNat)) := by
    rw [h1, S1, S_app, List.map_append, List.map_cons, List.map_nil, Int.toNat_natCast, solidF_snoc]
    unfold solidStep; rw [if_pos hk]
  refine ⟨e, ?_⟩
  rw [Str.length_append]; simp only [List.length_append, List.length_singleton]
  have : ({ cps := #[k] } : PySem.Str).length = 1 := rfl
  lia
theorem so_zero {z : Bool} {out : PySem.Str} {pre : List Int} {k : Nat} (h1 : out = S (solidF z (pre.map Int.toNat))) (h2 : out.length ≤ pre.length) (hk : (({ cps := #[k] } : PySem.Str) != PySem.Str.ofString " ") = false)
    (hz : z = true) (hn : (out != PySem.Str.ofString "") = true) (hE : (Txt.item out (-1) != PySem.Str.ofString "E") = true) (hD : (Txt.item out (-1) != PySem.Str.ofString "D") = true) :
    out ++ PySem.Str.ofString "0" = S (solidF z ((pre ++ [(k : Int)]).map Int.toNat)) ∧ (out ++ PySem.Str.ofString "0").length ≤ (pre ++ [(k : Int)]).length := by
  rw [lit_blank, one_bne] at hk
  have e : out ++ PySem.Str.ofString "0" = S (solidF z ((pre ++ [(k : Int)]).map Int.toNat)) := by
    subst h1
    rw [lit_empty, bne, S_beq] at hn
    have hne : solidF z (pre.map Int.toNat) ≠ [] := by simpa using hn
    rw [last_S _ hne, lit_E, bne, S_beq] at hE
    rw [last_S _ hne, lit_D, bne, S_beq] at hD
    rw [lit_0, S_app, List.map_append, List.map_cons, List.map_nil, Int.toNat_natCast, solidF_snoc]
    unfold solidStep
    rw [if_neg (by simpa using hk), if_pos]
    rw [List.getLast?_eq_some_getLast hne]
    simp at hE hD ⊢
    exact ⟨⟨⟨hz, hne⟩, hE⟩, hD⟩
  refine ⟨e, ?_⟩
  rw [Str.length_append, lit_0, S_len]; simp only [List.length_append, List.length_singleton]
  lia
theorem so_keep {z : Bool} {out : PySem.Str} {pre : List Int} {k : Nat} (h1 : out = S (solidF z (pre.map Int.toNat))) (h2 : out.length ≤ pre.length) (hk : (({ cps := #[k] } : PySem.Str) != PySem.Str.ofString " ") = false)
    (hz : z = false ∨ (out != PySem.Str.ofString "") = false ∨ (out != PySem.Str.ofString "") = true ∧ ((Txt.item out (-1) != PySem.Str.ofString "E") = false ∨ (Txt.item out (-1) != PySem.Str.ofString "D") = false)) :
    out = S (solidF z ((pre ++ [(k : Int)]).map Int.toNat)) ∧ out.length ≤ (pre ++ [(k : Int)]).length := by
  rw [lit_blank, one_bne] at hk
  refine ⟨?_, by simp only [List.length_append, List.length_singleton]; lia⟩
  subst h1
  rw [List.map_append, List.map_cons, List.map_nil, Int.toNat_natCast, solidF_snoc]
  unfold solidStep
  rw [if_neg (by simpa using hk), if_neg]
  intro hh
  simp only [Bool.and_eq_true, bne_iff_ne, ne_eq] at hh
  obtain ⟨⟨⟨q1, q2⟩, q3⟩, q4⟩ := hh
  rcases hz with h | h | ⟨_, h⟩
  · rw [q1] at h; cases h
  · rw [lit_empty, bne, S_beq] at h; simp at h; exact q2 h
  · rw [last_S _ q2, lit_E, lit_D, bne, bne, S_beq, S_beq] at h
    rw [List.getLast?_eq_some_getLast q2] at q3 q4
    simp at h q3 q4
    rcases h with h | h
    · exact q3 h
    · exact q4 h
end Mine
end
section
open PySem PySem.W PyProof.Rows PySem.Calls
set_option Elab.async false
set_option maxRecDepth 100000
set_option maxHeartbeats 8000000
namespace Mine
theorem gen_toks {M : Model} {A : Around} {α : Type} {a : Sem α} {Q : α → Shared → Prop} {E : Value → Shared → Prop} {h : Heap} {g : Array GenState} {d : Drawn} {t : Nat} {os : OsState} (H : ∀ t', wpAny M A a Q E ⟨h, g, d, t', os⟩) : wpAny M A a Q E ⟨h, g, d, t, os⟩ := H t
theorem rulesF4_0 : True := by
  w_top off
  k_with_none
  k_with "execs cons" => (k_here; (with_reducible show wpAny _ _ _ _ _ (Shared.mk _ _ _ (_ + _) _)); refine gen_toks ?_; intro _)
  k_with "execs nil" => (k_here; (with_reducible show wpAny _ _ _ _ _ (Shared.mk _ _ _ (_ + _) _)); refine gen_toks ?_; intro _)
  trivial
theorem fillF4 {w : World} : PySem.Challenge.rw_no0239_01 = PySem.Challenge.rw_no0239_01 ∧ hd.heap_1 w.params = hd.heap_1 w.params := by k_fill; exact ⟨rfl, rfl⟩
theorem whole_of_b {w : World} {mg mb : PySem.Str → Option Value} {mean : ExcName → Option Value} {pg : PySem.Program} {lse : List PySem.Str} {s : Shared} {A : Around} {Q E : Value → Shared → Prop} (x_figures : List Nat) (t_figures : Tok)
    (X : (hd.heap_1 w.params).In s.heap) (T : Top pg lse mean mg mb s.heap) (R : Rn A 1) (hx : x_figures.length < 200)
    (hq : ∀ t h' tk, Ext s.heap h' → Q (.int (wholeF x_figures) t) { s with heap := h', toks := tk }) :
    wpAny (model PySem.Challenge.rw_no0239_01.row.prog w) A (call (.ref 108) [.str (S x_figures) t_figures]) Q E s := by
  obtain ⟨ah, ad, af, ag, au⟩ := A
  obtain rfl : ah = none := R.h
  refine wpAny_call ?_
  refine call_q [("figures", .str (S x_figures) t_figures)] (by have := R.d; omega) (X 108 _ (by k_is)) rfl T.nolimit (codeRec_of X (by k_is)) rfl (locs rfl) ?_ rfl rfl rfl (by decide)
  intro h₁ F
  have N : News s.heap s.heap.objs.size h₁ [] := News.nil
  have hxS : (S x_figures).length < 200 := S_lt hx
  (k_with "pyIter str" => k_state (fun (pre : List Int) number => number = (valN (pre.map Int.toNat) : Int) ∧ (∀ c ∈ pre.map Int.toNat, isDig c = true)) "number")
  (k_with "state" => first | exact wo_turn (by with_reducible assumption) (by with_reducible assumption) (by with_reducible assumption) | (exact ⟨rfl, by simp⟩))
  k_steps
  · have e := wo_bad kEq (by assumption)
    exact q_int (hq _ _ _ (Fr.keep (by assumption))) e.symm
  · have e := wo_none (by assumption)
    exact q_int (hq _ _ _ kFr.keep) e.symm
  · have e := wo_end (by assumption) (by assumption) (by assumption)
    exact q_int (hq _ _ _ kFr.keep) e

theorem whole_of_k {w : World} {mg mb : PySem.Str → Option Value} {mean : ExcName → Option Value} {pg : PySem.Program} {lse : List PySem.Str} {s : Shared} {A : Around} {Q E : Value → Shared → Prop} {h₀ : Heap} {L : Addr} {m : PySem.Str → Option Value} {news : List (Addr × Obj)} {x_figures : List Nat} {t_figures : Tok}
    (F : Fr h₀ L s.heap m) (N : News h₀ L s.heap news) (X : (hd.heap_1 w.params).In h₀) (T : Top pg lse mean mg mb h₀) (R : Rn A 1) (hx : x_figures.length < 200)
    (hq : ∀ t h' tk, Fr h₀ L h' m → News h₀ L h' news → Q (.int (wholeF x_figures) t) { s with heap := h', toks := tk }) :
    wpAny (model PySem.Challenge.rw_no0239_01.row.prog w) A (call (.ref 108) [.str (S x_figures) t_figures]) Q E s :=
  whole_of_b _ _ (X.keeps F.keep) (T.keeps F.keep) R hx fun t h' tk x => hq t h' tk (F.keeps x) (news_ext N x)

theorem solid_field_b {w : World} {mg mb : PySem.Str → Option Value} {mean : ExcName → Option Value} {pg : PySem.Program} {lse : List PySem.Str} {s : Shared} {A : Around} {Q E : Value → Shared → Prop} (x_field : List Nat) (t_field : Tok) (x_is_zero : Bool)
    (X : (hd.heap_1 w.params).In s.heap) (T : Top pg lse mean mg mb s.heap) (R : Rn A 1) (hx : x_field.length < 200)
    (hq : ∀ t h' tk, Ext s.heap h' → Q (.str (S (solidF x_is_zero x_field)) t) { s with heap := h', toks := tk }) :
    wpAny (model PySem.Challenge.rw_no0239_01.row.prog w) A (call (.ref 101) [.str (S x_field) t_field, .bool x_is_zero]) Q E s := by
  obtain ⟨ah, ad, af, ag, au⟩ := A
  obtain rfl : ah = none := R.h
  refine wpAny_call ?_
  refine call_q [("field", .str (S x_field) t_field), ("is_zero", .bool x_is_zero)] (by have := R.d; omega) (X 101 _ (by k_is)) rfl T.nolimit (codeRec_of X (by k_is)) rfl (locs rfl) ?_ rfl rfl rfl (by decide)
  intro h₁ F
  have N : News s.heap s.heap.objs.size h₁ [] := News.nil
  have hxS : (S x_field).length < 200 := S_lt hx
  (k_with "pyIter str" => k_state (fun (pre : List Int) out => out = S (solidF x_is_zero (pre.map Int.toNat)) ∧ out.length ≤ pre.length) "out")
  (k_with "state" => first | exact so_add (by with_reducible assumption) (by with_reducible assumption) (by with_reducible assumption) | exact so_zero (by with_reducible assumption) (by with_reducible assumption) (by with_reducible assumption) (by with_reducible assumption) (by with_reducible assumption) (by with_reducible assumption) (by with_reducible assumption) | exact so_keep (by with_reducible assumption) (by with_reducible assumption) (by with_reducible assumption) (.inl (by with_reducible assumption)) | exact so_keep (by with_reducible assumption) (by with_reducible assumption) (by with_reducible assumption) (.inr (.inl (by with_reducible assumption))) | exact so_keep (by with_reducible assumption) (by with_reducible assumption) (by with_reducible assumption) (.inr (.inr ⟨by with_reducible assumption, .inl (by with_reducible assumption)⟩)) | exact so_keep (by with_reducible assumption) (by with_reducible assumption) (by with_reducible assumption) (.inr (.inr ⟨by with_reducible assumption, .inr (by with_reducible assumption)⟩)) | exact ⟨lit_empty, by decide⟩)
  k_steps
  (rename _ = S (solidF _ _) => e)
  rw [codes_S] at e
  exact q_str (hq _ _ _ kFr.keep) e

theorem solid_field_k {w : World} {mg mb : PySem.Str → Option Value} {mean : ExcName → Option Value} {pg : PySem.Program} {lse : List PySem.Str} {s : Shared} {A : Around} {Q E : Value → Shared → Prop} {h₀ : Heap} {L : Addr} {m : PySem.Str → Option Value} {news : List (Addr × Obj)} {x_field : List Nat} {t_field : Tok} {x_is_zero : Bool}
    (F : Fr h₀ L s.heap m) (N : News h₀ L s.heap news) (X : (hd.heap_1 w.params).In h₀) (T : Top pg lse mean mg mb h₀) (R : Rn A 1) (hx : x_field.length < 200)
    (hq : ∀ t h' tk, Fr h₀ L h' m → News h₀ L h' news → Q (.str (S (solidF x_is_zero x_field)) t) { s with heap := h', toks := tk }) :
    wpAny (model PySem.Challenge.rw_no0239_01.row.prog w) A (call (.ref 101) [.str (S x_field) t_field, .bool x_is_zero]) Q E s :=
  solid_field_b _ _ _ (X.keeps F.keep) (T.keeps F.keep) R hx fun t h' tk x => hq t h' tk (F.keeps x) (news_ext N x)

end Mine
end
section
open PySem PySem.W PyProof.Rows PySem.Calls
set_option Elab.async false
set_option maxRecDepth 100000
set_option maxHeartbeats 8000000
namespace Mine
theorem rulesRz_0 : True := by
  w_top off
  k_with_none
  trivial
theorem fillRz {w : World} : PySem.Challenge.rw_no0239_01 = PySem.Challenge.rw_no0239_01 ∧ hd.heap_1 w.params = hd.heap_1 w.params := by k_fill; exact ⟨rfl, rfl⟩
abbrev ioP (c : Value) : List DictEntry → Value → Prop := fun es _ => ∀ n, lookIn "code" (dictOf es n) = some (some c)
abbrev runP : List DictEntry → Value → Prop := fun _ ctx => ctx = .none
abbrev ioQ (c : Int) : List DictEntry → Value → Prop := fun es _ => ∃ t, ∀ n, lookIn "code" (dictOf es n) = some (some (.int c t))
theorem ioP_of {w : World} {v c : Value} {n k : Tok} : ioP c (ioEs w v c n k) .none := fun z => by kernel_rfl

section
variable {M : Model} {w : World} {mg mb : PySem.Str → Option Value} {B h₀ h : Heap} {A : Around} {l : List Env} {L a : Addr} {m : PySem.Str → Option Value} {name : PySem.Str} {scope : Scope} {cd : Value} {s : Shared} {E : Value → Shared → Prop}
  {C e D : Addr} {P : List DictEntry → Value → Prop} {Q : Unit → Shared → Prop}
theorem Cx.In {A : Around} (cx : Cx w mg mb B A l h) : (hd.heap_1 w.params).In h := cx.X.keeps cx.k
theorem Cx.Top {A : Around} (cx : Cx w mg mb B A l h) : ∃ pg lse mean, Top pg lse mean mg mb h := by
  obtain ⟨pg, lse, mean, T⟩ := cx.T
  exact ⟨pg, lse, mean, T.keeps cx.k⟩

theorem fly_pass (cx : Cx w mg mb B A l h₀) (F : Fr h₀ L h m) (f : Fly (fsOf (envOf name scope L a cd :: l)) h C e P s.heap)
    (hq : ∀ h', Fly (fsOf l) h₀ C e P h' → Q () { s with heap := h' }) (hk : scope.kind = .function := by rfl) :
    wpAny M (A.deeper (envOf name scope L a cd)) (leaving (envOf name scope L a cd) (.ref e)) Q E s :=
  leave_fly (cx.push F hk).fr rfl (ff_no (cx.push (a := a) (cd := cd) (name := name) F hk).ff) f (fun _ hb => hb) fun h' f' => hq h' (f'.out rfl F.keep (Heap.get?_none_of_le F.above))

theorem made_pass {vs : Array Value} {es : List DictEntry} {k : Nat} (cx : Cx w mg mb B A l h₀) (F : Fr h₀ L h m) (x1 : Ext h s.heap) (x2 : s.heap.get? e = some (excO C D vs)) (x3 : s.heap.get? D = some (dictOf es k)) (x4 : h.get? e = none) (x5 : h.get? D = none)
    (hsz : vs.size = 6) (h1 : vs[1]? = some .none) (hP : P es (vs.getD 2 .none))
    (hq : ∀ h', Fly (fsOf l) h₀ C e P h' → Q () { s with heap := h' }) (hk : scope.kind = .function := by rfl) :
    wpAny M (A.deeper (envOf name scope L a cd)) (leaving (envOf name scope L a cd) (.ref e)) Q E s :=
  leave_made (cx.push F hk).fr rfl (ff_no (cx.push (a := a) (cd := cd) (name := name) F hk).ff) (fs := fsOf (envOf name scope L a cd :: l)) ⟨Grow.of_ext x1, x4, vs, D, es, k, x2, hsz, h1, x3, hP, x5⟩ (fun _ hb => hb) fun h' f' => hq h' (f'.out rfl F.keep (Heap.get?_none_of_le F.above))

theorem io_pass {ta : Addr} {c : Int} {tc : Tok} {v : Value} {n k : Tok} {tk : Nat} {E₀ : Value → Shared → Prop} (cx : Cx w mg mb B A l h₀) (F : Fr h₀ L s.heap m) (x1 : Ext s.heap h) (x2 : h.get? e = some (excObj 63 (some D) ta)) (x3 : h.get? D = some (dictOf (ioEs w v (.int c tc) n k) 2)) (x4 : s.heap.get? e = none) (x5 : s.heap.get? D = none)
    (hq : ∀ e h' tk, Fly (fsOf l) h₀ 63 e (ioQ c) h' → E₀ (.ref e) { s with heap := h', toks := tk }) (hk : scope.kind = .function := by rfl) :
    ∃ e' D' ta', Value.ref e = .ref e' ∧ (hd.heap_1 w.params).In h ∧ h.get? e' = some (excObj 63 (some D') ta') ∧
      wpAny M (A.deeper (envOf name scope L a cd)) (leaving (envOf name scope L a cd) (.ref e')) (fun _ s'' => E₀ (.ref e') s'') E { s with heap := h, toks := tk } :=
  ⟨e, D, ta, rfl, (cx.In.keeps F.keep).keeps x1, x2, made_pass (s := { s with heap := h, toks := tk }) cx F x1 x2 x3 x4 x5 rfl rfl ⟨tc, ioP_of (v := v) (n := n) (k := k) (w := w)⟩ (fun h' f => hq e h' tk f) hk⟩
end

theorem run_make2 {w : World} {mg mb : PySem.Str → Option Value} {mean : ExcName → Option Value} {pg : PySem.Program} {lse : List PySem.Str} {s : Shared} {A : Around} {Q E : Value → Shared → Prop} {v : Value}
    (X : (hd.heap_1 w.params).In s.heap) (T : Top pg lse mean mg mb s.heap) (R : Rm A 3)
    (hq : ∀ h' tk e D ta n, Ext s.heap h' → h'.get? e = some (excObj 44 (some D) ta) → h'.get? D = some (dictOf [⟨PyData.keyHash w.params "text", .str "text" n, v⟩] 1) → s.heap.get? e = none → s.heap.get? D = none →
      Q (.ref e) { s with heap := h', toks := tk }) :
    wpAny (model PySem.Challenge.rw_no0239_01.row.prog w) A (call (.ref 44) [v]) Q E s := by
  have EC : ExcC w 44 := excC44
  obtain ⟨nm, q, N, bs, bm, hdct, sn, sub, ab, col, dd, k0, k1, k2, k3, k5, e1, e2, e3, e4, _⟩ := EC.obj
  obtain ⟨h, g, d, t, os⟩ := s
  have hk : Ext h ((h.push { cls := .type "tuple", data := .seq [v].toArray }).push (excObj 44 none h.objs.size)) := fun b o e => Heap.get?_push_of_some _ (Heap.get?_push_of_some _ e)
  have hn : h.get? (h.objs.size + 1) = none := Heap.get?_none_of_le (Nat.le_succ _)
  refine exc_call e2 e3 e4 (X _ _ e1) (looks_findIn X (r := some (.ref 28)) (by k_is)) (X 28 _ (by k_is)) rfl ?_ (by size_fits)
  refine f77_init (C := 44) (ta := h.objs.size) X T hk (by simp only [Heap.size_push]; omega) (Rm.type R (by decide)) EC hn (by heap_get) ?_
  intro h' tk D ta' n x1 x2 x3 x4 x5 x6
  exact ⟨rfl, hq h' tk _ D ta' n x1 x3 x4 hn (none_of hk x5)⟩

section
variable {w : World} {mg mb : PySem.Str → Option Value} {B h₀ : Heap} {A A' : Around} {l : List Env} {L a : Addr} {m : PySem.Str → Option Value} {name : PySem.Str} {scope : Scope} {cd : Value} {s : Shared} {E E₁ : Value → Shared → Prop}
theorem io_made {c : Int} {tc : Tok} {v : Value} (cx : Cx w mg mb B A l h₀) (F : Fr h₀ L s.heap m) (R : Rn (A.deeper (envOf name scope L a cd)) 3)
    (hq : ∀ e h' tk, Fly (fsOf l) h₀ 63 e (ioQ c) h' → E (.ref e) { s with heap := h', toks := tk }) (hk : scope.kind = .function := by rfl) :
    wpAny (model PySem.Challenge.rw_no0239_01.row.prog w) (A.deeper (envOf name scope L a cd)) (call (.ref 63) [.int c tc, v])
      (fun v s₁ => ∃ e D ta, v = .ref e ∧ (hd.heap_1 w.params).In s₁.heap ∧ s₁.heap.get? e = some (excObj 63 (some D) ta) ∧
        wpAny (model PySem.Challenge.rw_no0239_01.row.prog w) (A.deeper (envOf name scope L a cd)) (leaving (envOf name scope L a cd) (.ref e)) (fun _ s'' => E (.ref e) s'') (fun e' s'' => E e' s'') s₁) E₁ s := by
  obtain ⟨pg, lse, mean, T⟩ := cx.Top
  refine io_make (cx.In.keeps F.keep) (T.keeps F.keep) R.toRm fun h' tk e D ta n k x1 x2 x3 x4 x5 _ => ?_
  exact io_pass cx F x1 x2 x3 x4 x5 hq hk
theorem run_made {v : Value} (cx : Cx w mg mb B A l h₀) (F : Fr h₀ L s.heap m) (R : Rn (A.deeper (envOf name scope L a cd)) 3)
    (hq : ∀ e h' tk, Fly (fsOf l) h₀ 44 e runP h' → E (.ref e) { s with heap := h', toks := tk }) (hk : scope.kind = .function := by rfl) :
    wpAny (model PySem.Challenge.rw_no0239_01.row.prog w) (A.deeper (envOf name scope L a cd)) (call (.ref 44) [v])
      (fun v s₁ => ∃ e D ta, v = .ref e ∧ (hd.heap_1 w.params).In s₁.heap ∧ s₁.heap.get? e = some (excObj 44 (some D) ta) ∧
        wpAny (model PySem.Challenge.rw_no0239_01.row.prog w) (A.deeper (envOf name scope L a cd)) (leaving (envOf name scope L a cd) (.ref e)) (fun _ s'' => E (.ref e) s'') (fun e' s'' => E e' s'') s₁) E₁ s := by
  obtain ⟨pg, lse, mean, T⟩ := cx.Top
  refine run_make2 (cx.In.keeps F.keep) (T.keeps F.keep) R.toRm fun h' tk e D ta n x1 x2 x3 x4 x5 => ?_
  exact ⟨e, D, ta, rfl, (cx.In.keeps F.keep).keeps x1, x2, made_pass (s := { s with heap := h', toks := tk }) cx F x1 x2 x3 x4 x5 rfl rfl rfl (fun h' f => hq e h' tk f) hk⟩
end
end Mine
namespace Mine
theorem news_cons2 {h₀ h h' : Heap} {L a b : Addr} {o o' : Obj} {m : PySem.Str → Option Value} {news : List (Addr × Obj)} (F : Fr h₀ L h m) (N : News h₀ L h news) (x : Ext h h') (ha : h'.get? a = some o) (hb : h'.get? b = some o') (hn : h.get? a = none) (hn' : h.get? b = none) : News h₀ L h' ((a, o) :: (b, o') :: news) := fun p hp => by
  rcases List.mem_cons.mp hp with rfl | hp
  · exact news_cons F N x ha hn _ (.head _)
  · exact news_cons F N x hb hn' _ hp
end Mine
end
section
open PySem PySem.W PyProof.Rows PySem.Calls PySem.Builtin PySem.Builtin.Str
set_option Elab.async false
namespace Mine
theorem rulesTxt3_0 : True := by
  w_top off
  k_with_none
  trivial
noncomputable def stripZ (n : Nat) (e : Int) : Nat × Int := if h : n ≠ 0 ∧ n % 10 = 0 then stripZ (n / 10) (e + 1) else (n, e)
termination_by n
decreasing_by omega
noncomputable def stripI (m e : Int) : Int × Int := (m.sign * ((stripZ m.natAbs e).1 : Int), (stripZ m.natAbs e).2)
theorem stripI_turn {m e : Int} (h0 : m ≠ 0) (h : m % 10 = 0) : stripI (m / 10) (e + 1) = stripI m e ∧ m / 10 ≠ 0 := by
  have h2 : m / 10 ≠ 0 := by omega
  have h3 : (m / 10).natAbs = m.natAbs / 10 := by omega
  have h4 : (m / 10).sign = m.sign := by
    rcases Int.lt_trichotomy m 0 with h | h | h
    · rw [Int.sign_eq_neg_one_of_neg h, Int.sign_eq_neg_one_of_neg (by omega)]
    · exact absurd h h0
    · rw [Int.sign_eq_one_of_pos h, Int.sign_eq_one_of_pos (by omega)]
  have h5 : stripZ m.natAbs e = stripZ (m.natAbs / 10) (e + 1) := by
    rw [stripZ, dif_pos ⟨by omega, by omega⟩]
  refine ⟨?_, h2⟩
  unfold stripI
  rw [h3, h4, h5]
theorem stripI_end {m e : Int} (h : m % 10 ≠ 0) : stripI m e = (m, e) := by
  unfold stripI
  rw [stripZ, dif_neg (by omega), Int.sign_mul_natAbs]
theorem signF_rng (l : List Nat) : -1 ≤ (signF l).1 ∧ (signF l).1 ≤ 1 := by refine ⟨?_, ?_⟩ <;> (unfold signF; split <;> (try split) <;> simp)
theorem nilS {l : List Nat} (h : (S l == PySem.Str.ofString "") = true) : l = [] := by rw [lit_empty, S_beq] at h; simpa using h
theorem nonilS {l : List Nat} (h : (S l == PySem.Str.ofString "") = false) : l ≠ [] := by rw [lit_empty, S_beq] at h; simpa using h
end Mine
end
section
open PySem PySem.W PyProof.Rows PySem.Calls
set_option Elab.async false
set_option maxRecDepth 100000
set_option maxHeartbeats 8000000
namespace Mine
theorem fillF8 {w : World} : PySem.Challenge.rw_no0239_01 = PySem.Challenge.rw_no0239_01 ∧ hd.heap_1 w.params = hd.heap_1 w.params := by k_fill; exact ⟨rfl, rfl⟩
theorem rulesF8_1 : True := by
  w_top off
  k_with_none
  k_with "my:pre" => first | assumption | omega
  k_with "exec Raise some none" => (k_here; refine raise_none excC63 rfl ?_)
  k_with "call ref" => (k_here; (with_reducible show wpAny _ _ (call (.ref 63) _) _ _ _); refine' io_made ?w1qcx ?w1qF ?w1qR ?_; (case w1qcx => assumption); (case w1qF => k_asm); (case w1qR => first | exact Rn.deeper (by assumption) (by decide)); (intro _ _ _ _))
  k_with "call ref" => (k_here; refine' cut_sign_k ?w2qF ?w2qN ?w2qX ?w2qT ?w2qR ?w2qhx ?_; (case w2qF => k_asm); (case w2qN => k_asm); (case w2qX => k_asm); (case w2qT => k_asm); (case w2qR => first | assumption | exact Rn.deeper (by assumption) (by decide) | exact Rn.le (by assumption) (by decide)); (case w2qhx => walk_at "my:pre"); intro _ _ _ _ _ _ _; (try dsimp only))
  k_with "call ref" => (k_here; refine' whole_of_k ?w3qF ?w3qN ?w3qX ?w3qT ?w3qR ?w3qhx ?_; (case w3qF => k_asm); (case w3qN => k_asm); (case w3qX => k_asm); (case w3qT => k_asm); (case w3qR => first | assumption | exact Rn.deeper (by assumption) (by decide) | exact Rn.le (by assumption) (by decide)); (case w3qhx => walk_at "my:pre"); intro _ _ _ _ _; (try dsimp only))
  trivial
theorem field_exponent_b {w : World} {mg mb : PySem.Str → Option Value} {B : Heap} {l : List Env} {s : Shared} {A : Around} {Q E : Value → Shared → Prop} (x_text : List Nat) (t_text : Tok)
    (cx : Cx w mg mb B A l s.heap) (R : Rn A 4) (hx : x_text.length < 200)
    (hq : (0 ≤ wholeF (signF x_text).2) → ∀ t h' tk, Ext s.heap h' → Q (.int ((signF x_text).1 * wholeF (signF x_text).2) t) { s with heap := h', toks := tk })
    (he0 : (wholeF (signF x_text).2 < 0) → ∀ e h' tk, Fly (fsOf l) s.heap 63 e (ioQ 1) h' → E (.ref e) { s with heap := h', toks := tk }) :
    wpAny (model PySem.Challenge.rw_no0239_01.row.prog w) A (call (.ref 143) [.str (S x_text) t_text]) Q E s := by
  have X := cx.In
  obtain ⟨pg, lse, mean, T⟩ := cx.Top
  obtain ⟨ah, ad, af, ag, au⟩ := A
  obtain rfl : ah = none := R.h
  refine wpAny_call ?_
  refine call_q [("text", .str (S x_text) t_text)] (by have := R.d; omega) (X 143 _ (by k_is)) rfl T.nolimit (codeRec_of X (by k_is)) rfl (locs rfl) ?_ rfl rfl rfl (by decide)
  intro h₁ F
  have N : News s.heap s.heap.objs.size h₁ [] := News.nil
  have hxS : (S x_text).length < 200 := S_lt hx
  have l2 := signF_len x_text
  obtain ⟨ls1, ls2⟩ := signF_rng x_text
  k_steps
  · exact he0 (by assumption) _ _ _ (by assumption)
  · exact hq (by omega) _ _ _ (Fr.keep (by assumption))

theorem field_exponent_k {w : World} {mg mb : PySem.Str → Option Value} {B : Heap} {l : List Env} {s : Shared} {A : Around} {Q E : Value → Shared → Prop} {h₀ : Heap} {L : Addr} {m : PySem.Str → Option Value} {news : List (Addr × Obj)} {x_text : List Nat} {t_text : Tok}
    (F : Fr h₀ L s.heap m) (N : News h₀ L s.heap news) (cx : Cx w mg mb B A l s.heap) (R : Rn A 4) (hx : x_text.length < 200)
    (hq : (0 ≤ wholeF (signF x_text).2) → ∀ t h' tk, Fr h₀ L h' m → News h₀ L h' news → Q (.int ((signF x_text).1 * wholeF (signF x_text).2) t) { s with heap := h', toks := tk })
    (he0 : (wholeF (signF x_text).2 < 0) → ∀ e h' tk, Fly (fsOf l) s.heap 63 e (ioQ 1) h' → E (.ref e) { s with heap := h', toks := tk }) :
    wpAny (model PySem.Challenge.rw_no0239_01.row.prog w) A (call (.ref 143) [.str (S x_text) t_text]) Q E s :=
  field_exponent_b _ _ cx R hx (fun c t h' tk x => hq c t h' tk (F.keeps x) (news_ext N x)) he0

end Mine
end
section
open PySem PySem.W PyProof.Rows PySem.Calls
set_option Elab.async false
set_option maxRecDepth 100000
set_option maxHeartbeats 8000000
namespace Mine
theorem fillF9 {w : World} : PySem.Challenge.rw_no0239_01 = PySem.Challenge.rw_no0239_01 ∧ hd.heap_1 w.params = hd.heap_1 w.params := by k_fill; exact ⟨rfl, rfl⟩
theorem rulesF9_1 : True := by
  w_top off
  k_with_none
  k_with "my:pre" => first | assumption | omega
  k_with "exec Raise some none" => (k_here; refine raise_none excC63 rfl ?_)
  k_with "call ref" => (k_here; (with_reducible show wpAny _ _ (call (.ref 63) _) _ _ _); refine' io_made ?w1qcx ?w1qF ?w1qR ?_; (case w1qcx => assumption); (case w1qF => k_asm); (case w1qR => first | exact Rn.deeper (by assumption) (by decide)); (intro _ _ _ _))
  trivial

abbrev inW (n w : Int) : Prop := -(2 ^ (w - 1).toNat : Int) ≤ n ∧ n < 2 ^ (w - 1).toNat
noncomputable def numI (z : Bool) (l : List Nat) : Int := wholeF (signF (solidF z l)).2
noncomputable def intI (z : Bool) (l : List Nat) : Int := (signF (solidF z l)).1 * numI z l
theorem rulesF9_2 : True := by
  k_with "call ref" => (k_here; refine' cut_sign_k ?w2qF ?w2qN ?w2qX ?w2qT ?w2qR ?w2qhx ?_; (case w2qF => k_asm); (case w2qN => k_asm); (case w2qX => k_asm); (case w2qT => k_asm); (case w2qR => first | assumption | exact Rn.deeper (by assumption) (by decide) | exact Rn.le (by assumption) (by decide)); (case w2qhx => walk_at "my:pre"); intro _ _ _ _ _ _ _; (try dsimp only))
  k_with "call ref" => (k_here; refine' whole_of_k ?w3qF ?w3qN ?w3qX ?w3qT ?w3qR ?w3qhx ?_; (case w3qF => k_asm); (case w3qN => k_asm); (case w3qX => k_asm); (case w3qT => k_asm); (case w3qR => first | assumption | exact Rn.deeper (by assumption) (by decide) | exact Rn.le (by assumption) (by decide)); (case w3qhx => walk_at "my:pre"); intro _ _ _ _ _; (try dsimp only))
  k_with "call ref" => (k_here; refine' solid_field_k ?w4qF ?w4qN ?w4qX ?w4qT ?w4qR ?w4qhx ?_; (case w4qF => k_asm); (case w4qN => k_asm); (case w4qX => k_asm); (case w4qT => k_asm); (case w4qR => first | assumption | exact Rn.deeper (by assumption) (by decide) | exact Rn.le (by assumption) (by decide)); (case w4qhx => walk_at "my:pre"); intro _ _ _ _ _; (try dsimp only))
  k_with "call ref" => (k_here; refine' in_width_k ?w5qF ?w5qN ?w5qX ?w5qT ?w5qR ?w5qhw ?_; (case w5qF => k_asm); (case w5qN => k_asm); (case w5qX => k_asm); (case w5qT => k_asm); (case w5qR => first | assumption | exact Rn.deeper (by assumption) (by decide) | exact Rn.le (by assumption) (by decide)); (case w5qhw => walk_at "my:pre"); intro _ _ _ _; (try dsimp only))
  trivial
theorem read_int_b {w : World} {mg mb : PySem.Str → Option Value} {B : Heap} {l : List Env} {s : Shared} {A : Around} {Q E : Value → Shared → Prop} (x_field : List Nat) (t_field : Tok) (x_is_zero : Bool) (x_width : Int) (t_width : Tok)
    (cx : Cx w mg mb B A l s.heap) (R : Rn A 4) (hx : x_field.length < 200) (hw : 2 ≤ x_width ∧ x_width ≤ 31)
    (hq : (solidF x_is_zero x_field = [] ∨ 0 ≤ numI x_is_zero x_field ∧ inW (intI x_is_zero x_field) x_width) → ∀ t h' tk, Ext s.heap h' → Q (.int (if solidF x_is_zero x_field = [] then 0 else intI x_is_zero x_field) t) { s with heap := h', toks := tk })
    (he0 : (solidF x_is_zero x_field ≠ [] ∧ numI x_is_zero x_field < 0) → ∀ e h' tk, Fly (fsOf l) s.heap 63 e (ioQ 1) h' → E (.ref e) { s with heap := h', toks := tk })
    (he1 : (solidF x_is_zero x_field ≠ [] ∧ 0 ≤ numI x_is_zero x_field ∧ ¬ inW (intI x_is_zero x_field) x_width) → ∀ e h' tk, Fly (fsOf l) s.heap 63 e (ioQ 2) h' → E (.ref e) { s with heap := h', toks := tk }) :
    wpAny (model PySem.Challenge.rw_no0239_01.row.prog w) A (call (.ref 129) [.str (S x_field) t_field, .bool x_is_zero, .int x_width t_width]) Q E s := by
  have X := cx.In
  obtain ⟨pg, lse, mean, T⟩ := cx.Top
  obtain ⟨ah, ad, af, ag, au⟩ := A
  obtain rfl : ah = none := R.h
  refine wpAny_call ?_
  refine call_q [("field", .str (S x_field) t_field), ("is_zero", .bool x_is_zero), ("width", .int x_width t_width)] (by have := R.d; omega) (X 129 _ (by k_is)) rfl T.nolimit (codeRec_of X (by k_is)) rfl (locs rfl) ?_ rfl rfl rfl (by decide)
  intro h₁ F
  have N : News s.heap s.heap.objs.size h₁ [] := News.nil
  have hxS : (S x_field).length < 200 := S_lt hx
  have l1 := solidF_len x_is_zero x_field
  have l2 := signF_len (solidF x_is_zero x_field)
  obtain ⟨ls1, ls2⟩ := signF_rng (solidF x_is_zero x_field)
  k_steps
  · have e := nilS (by assumption)
    exact q_int (hq (.inl e) _ _ _ (Fr.keep (by assumption))) (if_pos e).symm
  · exact he0 ⟨nonilS (by assumption), by assumption⟩ _ _ _ (by assumption)
  · have e := nonilS (by assumption)
    exact q_int (hq (.inr ⟨Int.not_lt.mp (by assumption), by assumption⟩) _ _ _ (Fr.keep (by assumption))) (if_neg e).symm
  · exact he1 ⟨nonilS (by assumption), Int.not_lt.mp (by assumption), by assumption⟩ _ _ _ (by assumption)

theorem read_int_k {w : World} {mg mb : PySem.Str → Option Value} {B : Heap} {l : List Env} {s : Shared} {A : Around} {Q E : Value → Shared → Prop} {h₀ : Heap} {L : Addr} {m : PySem.Str → Option Value} {news : List (Addr × Obj)} {x_field : List Nat} {t_field : Tok} {x_is_zero : Bool} {x_width : Int} {t_width : Tok}
    (F : Fr h₀ L s.heap m) (N : News h₀ L s.heap news) (cx : Cx w mg mb B A l s.heap) (R : Rn A 4) (hx : x_field.length < 200) (hw : 2 ≤ x_width ∧ x_width ≤ 31)
    (hq : (solidF x_is_zero x_field = [] ∨ 0 ≤ numI x_is_zero x_field ∧ inW (intI x_is_zero x_field) x_width) → ∀ t h' tk, Fr h₀ L h' m → News h₀ L h' news → Q (.int (if solidF x_is_zero x_field = [] then 0 else intI x_is_zero x_field) t) { s with heap := h', toks := tk })
    (he0 : (solidF x_is_zero x_field ≠ [] ∧ numI x_is_zero x_field < 0) → ∀ e h' tk, Fly (fsOf l) s.heap 63 e (ioQ 1) h' → E (.ref e) { s with heap := h', toks := tk })
    (he1 : (solidF x_is_zero x_field ≠ [] ∧ 0 ≤ numI x_is_zero x_field ∧ ¬ inW (intI x_is_zero x_field) x_width) → ∀ e h' tk, Fly (fsOf l) s.heap 63 e (ioQ 2) h' → E (.ref e) { s with heap := h', toks := tk }) :
    wpAny (model PySem.Challenge.rw_no0239_01.row.prog w) A (call (.ref 129) [.str (S x_field) t_field, .bool x_is_zero, .int x_width t_width]) Q E s :=
  read_int_b _ _ _ _ _ cx R hx hw (fun c t h' tk x => hq c t h' tk (F.keeps x) (news_ext N x)) he0 he1

end Mine
end
section
open PySem PySem.W PyProof.Rows PySem.Calls PySem.Builtin PySem.Builtin.Str
set_option Elab.async false
namespace Mine
theorem rulesTxt4_0 : True := by
  w_top off
  k_with_none
  trivial
theorem item_S (l : List Nat) {n : Int} {k : Nat} (e : n = 0 + (k : Int)) (h : k < l.length) : Txt.item (S l) n = S [l[k]] := by
  subst e
  unfold Txt.item Txt.charAt seqIndex?
  rw [S_len]
  have e0 : (0 : Int) + (k : Int) = (k : Int) := by lia
  have e1 : (0 ≤ (if (0 + (k : Int)) < 0 then 0 + (k : Int) + (l.length : Int) else 0 + (k : Int)) && (if (0 + (k : Int)) < 0 then 0 + (k : Int) + (l.length : Int) else 0 + (k : Int)) < l.length) = true := by simp; lia
  simp only [e1, if_true]
  have e2 : (if (0 + (k : Int)) < 0 then 0 + (k : Int) + (l.length : Int) else 0 + (k : Int)).toNat = k := by rw [if_neg (by lia)]; lia
  rw [e2]
  simp only [Option.bind_some, S, List.getElem?_toArray]
  rw [List.getElem?_eq_getElem h]
  rfl
theorem one_beq (c d : Nat) : (S [c] == S [d]) = (c == d) := by rw [S_beq]; simp
abbrev isX (c : Nat) : Prop := c = 69 ∨ c = 68 ∨ c = 43 ∨ c = 45
noncomputable def cutF : List Nat → List Nat × List Nat × Bool
  | [] => ([], [], false)
  | c :: r => if c = 69 ∨ c = 68 then ([], r, true) else if c = 43 ∨ c = 45 then ([], c :: r, true) else (c :: (cutF r).1, (cutF r).2)
theorem cutF_none {l : List Nat} (h : ∀ c ∈ l, ¬ isX c) : cutF l = (l, [], false) := by
  induction l with
  | nil => rfl
  | cons c r ih =>
    have hc := h c (.head _)
    rw [cutF, if_neg (by lia), if_neg (by lia), ih fun x hx => h x (.tail _ hx)]
theorem cutF_E {l : List Nat} {k : Nat} (hk : k < l.length) (h : ∀ c ∈ l.take k, ¬ isX c) (e : l[k] = 69 ∨ l[k] = 68) : cutF l = (l.take k, l.drop (k + 1), true) := by
  induction l generalizing k with
  | nil => simp at hk
  | cons c r ih =>
    cases k with
    | zero => simp at e; rw [cutF, if_pos e]; rfl
    | succ k =>
      have hc := h c (by simp)
      simp at e
      rw [cutF, if_neg (by lia), if_neg (by lia), ih (by simpa using hk) (fun x hx => h x (by simp [hx])) e]; rfl
theorem cutF_S {l : List Nat} {k : Nat} (hk : k < l.length) (h : ∀ c ∈ l.take k, ¬ isX c) (e : l[k] = 43 ∨ l[k] = 45) : cutF l = (l.take k, l.drop k, true) := by
  induction l generalizing k with
  | nil => simp at hk
  | cons c r ih =>
    cases k with
    | zero => simp at e; rw [cutF, if_neg (by lia), if_pos e]; rfl
    | succ k =>
      have hc := h c (by simp)
      simp at e
      rw [cutF, if_neg (by lia), if_neg (by lia), ih (by simpa using hk) (fun x hx => h x (by simp [hx])) e]; rfl
section
variable {l : List Nat} {n : Int} {pre : List Int}
theorem kLt_S (h : pre.length < (((S l).length : Int) - 0).toNat) : pre.length < l.length := by rw [S_len] at h; lia
theorem cx_turn (e : n = 0 + (pre.length : Int)) (h : pre.length < (((S l).length : Int) - 0).toNat) (hi : ∀ c ∈ l.take pre.length, ¬ isX c)
    (h1 : (Txt.item (S l) n == PySem.Str.ofString "E") = false) (h2 : (Txt.item (S l) n == PySem.Str.ofString "D") = false) (h3 : (Txt.item (S l) n == PySem.Str.ofString "+") = false) (h4 : (Txt.item (S l) n == PySem.Str.ofString "-") = false) :
    ∀ c ∈ l.take (pre ++ [n]).length, ¬ isX c := by
  have hk := kLt_S h
  rw [item_S l e hk] at h1 h2 h3 h4
  rw [lit_E, one_beq] at h1; rw [lit_D, one_beq] at h2; rw [lit_plus, one_beq] at h3; rw [lit_minus, one_beq] at h4
  simp at h1 h2 h3 h4
  intro c hc
  rw [List.length_append, List.length_singleton, List.take_add_one, List.getElem?_eq_getElem hk, List.mem_append, Option.toList_some, List.mem_singleton] at hc
  rcases hc with hc | hc
  · exact hi c hc
  · unfold isX; rw [hc]; simp only [not_or]; exact ⟨h1, h2, h3, h4⟩
theorem cx_E (e : n = 0 + (pre.length : Int)) (h : pre.length < (((S l).length : Int) - 0).toNat) (hi : ∀ c ∈ l.take pre.length, ¬ isX c)
    (h1 : (Txt.item (S l) n == PySem.Str.ofString "E") = true ∨ (Txt.item (S l) n == PySem.Str.ofString "D") = true) :
    Txt.slice (S l) none (some n) = S (cutF l).1 ∧ Txt.slice (S l) (some (n + 1)) none = S (cutF l).2.1 ∧ (cutF l).2.2 = true := by
  have hk := kLt_S h
  rw [item_S l e hk, lit_E, one_beq, lit_D, one_beq] at h1
  rw [cutF_E hk hi (by simpa using h1), slice_to _ _ (by lia), slice_from _ _ (by lia)]
  have e1 : n.toNat = pre.length := by lia
  have e2 : (n + 1).toNat = pre.length + 1 := by lia
  rw [e1, e2]; exact ⟨rfl, rfl, rfl⟩
theorem cx_S (e : n = 0 + (pre.length : Int)) (h : pre.length < (((S l).length : Int) - 0).toNat) (hi : ∀ c ∈ l.take pre.length, ¬ isX c)
    (h1 : (Txt.item (S l) n == PySem.Str.ofString "+") = true ∨ (Txt.item (S l) n == PySem.Str.ofString "-") = true) :
    Txt.slice (S l) none (some n) = S (cutF l).1 ∧ Txt.slice (S l) (some n) none = S (cutF l).2.1 ∧ (cutF l).2.2 = true := by
  have hk := kLt_S h
  rw [item_S l e hk, lit_plus, one_beq, lit_minus, one_beq] at h1
  rw [cutF_S hk hi (by simpa using h1), slice_to _ _ (by lia), slice_from _ _ (by lia)]
  have e1 : n.toNat = pre.length := by lia
  rw [e1]; exact ⟨rfl, rfl, rfl⟩
theorem cx_none (hi : ∀ c ∈ l.take (rangeKs 0 (((S l).length : Int) - 0).toNat).length, ¬ isX c) : cutF l = (l, [], false) := by
  rw [S_len] at hi
  have : (rangeKs 0 ((l.length : Int) - 0).toNat).length = l.length := by simp [rangeKs]
  rw [this, List.take_length] at hi
  exact cutF_none hi
end
end Mine
end
section
open PySem PySem.W PyProof.Rows PySem.Calls PySem.Builtin PySem.Builtin.Str
set_option Elab.async false
namespace Mine
theorem rulesTxt5_0 : True := by
  w_top off
  k_with_none
  trivial
noncomputable def figF (l : List Nat) : List Nat := if 46 ∈ l then l.take (l.idxOf 46) ++ l.drop (l.idxOf 46 + 1) else l
noncomputable def plcF (l : List Nat) (d : Int) : Int := if 46 ∈ l then (l.length : Int) - l.idxOf 46 - 1 else d
theorem figF_len (l : List Nat) : (figF l).length ≤ l.length := by unfold figF; split <;> simp <;> omega
theorem fg_none {l : List Nat} {d : Int} (h : Txt.find (S l) (PySem.Str.ofString ".") < 0) : figF l = l ∧ plcF l d = d := by
  rw [lit_dot, find_S] at h
  unfold findF at h
  split at h
  · omega
  · rename_i hh
    exact ⟨by unfold figF; rw [if_neg hh], by unfold plcF; rw [if_neg hh]⟩
theorem fg_some {l : List Nat} {d : Int} (h : ¬ Txt.find (S l) (PySem.Str.ofString ".") < 0) :
    Txt.slice (S l) none (some (Txt.find (S l) (PySem.Str.ofString "."))) ++ Txt.slice (S l) (some (Txt.find (S l) (PySem.Str.ofString ".") + 1)) none = S (figF l) ∧ ((S l).length : Int) - Txt.find (S l) (PySem.Str.ofString ".") - 1 = plcF l d := by
  rw [lit_dot, find_S] at *
  unfold findF at *
  split at h
  · rename_i hh
    rw [if_pos hh, slice_to _ _ (by omega), slice_from _ _ (by omega), S_app, S_len]
    have e1 : ((l.idxOf 46 : Nat) : Int).toNat = l.idxOf 46 := by omega
    have e2 : (((l.idxOf 46 : Nat) : Int) + 1).toNat = l.idxOf 46 + 1 := by omega
    rw [e1, e2]
    exact ⟨by unfold figF; rw [if_pos hh], by unfold plcF; rw [if_pos hh]⟩
  · omega
theorem fg_some1 {l : List Nat} (h : ¬ Txt.find (S l) (PySem.Str.ofString ".") < 0) :
    Txt.slice (S l) none (some (Txt.find (S l) (PySem.Str.ofString "."))) ++ Txt.slice (S l) (some (Txt.find (S l) (PySem.Str.ofString ".") + 1)) none = S (figF l) := (fg_some (d := 0) h).1
end Mine
end
section
open PySem PySem.W PyProof.Rows PySem.Calls PySem.Builtin PySem.Builtin.Str
set_option Elab.async false
namespace Mine
theorem rulesTxt6_0 : True := by
  w_top off
  k_with_none
  trivial
noncomputable def bareF (l : List Nat) : List Nat := l.dropWhile (· == 32)
noncomputable def logF (l : List Nat) : Option Bool :=
  let b := if (bareF l).take 1 == [46] then (bareF l).drop 1 else bareF l
  if b.take 1 == [84] then some true else if b.take 1 == [70] then some false else none
noncomputable def textF (l : List Nat) (n : Int) : List Nat := if n ≤ l.length then l.drop (l.length - n.toNat) else l ++ List.replicate (n.toNat - l.length) 32
theorem item_at (l : List Nat) {n : Int} (h0 : 0 ≤ n) (h : n < ((S l).length : Int)) : ∃ hh : n.toNat < l.length, Txt.item (S l) n = S [l[n.toNat]] := by
  rw [S_len] at h
  have hh : n.toNat < l.length := by lia
  exact ⟨hh, item_S l (k := n.toNat) (by lia) hh⟩
section
variable {l : List Nat} {n : Int}
theorem lg_start : (0 : Int) ≤ 0 ∧ (0 : Int) ≤ ((S l).length : Int) ∧ (l.drop (0 : Int).toNat).dropWhile (· == 32) = bareF l := ⟨by lia, by lia, rfl⟩
theorem lg_turn (h0 : 0 ≤ n) (h2 : (l.drop n.toNat).dropWhile (· == 32) = bareF l) (h : n < ((S l).length : Int)) (hb : (Txt.item (S l) n == PySem.Str.ofString " ") = true) :
    0 ≤ n + 1 ∧ n + 1 ≤ ((S l).length : Int) ∧ (l.drop (n + 1).toNat).dropWhile (· == 32) = bareF l := by
  obtain ⟨hh, e⟩ := item_at l h0 h
  refine ⟨by lia, by lia, ?_⟩
  rw [e, lit_blank, one_beq] at hb
  rw [← h2, List.drop_eq_getElem_cons hh, List.dropWhile_cons, if_pos hb]
  congr 2; lia
theorem lg_less (h0 : 0 ≤ n) (h : n < ((S l).length : Int)) : (((S l).length : Int) - (n + 1)).toNat < (((S l).length : Int) - n).toNat := by lia
theorem lg_end1 (h1 : n ≤ ((S l).length : Int)) (h2 : (l.drop n.toNat).dropWhile (· == 32) = bareF l) (h : ¬ n < ((S l).length : Int)) : l.drop n.toNat = bareF l := by
  rw [S_len] at *
  have : l.drop n.toNat = [] := List.drop_of_length_le (by lia)
  rw [← h2, this]; rfl
theorem lg_end2 (h0 : 0 ≤ n) (h2 : (l.drop n.toNat).dropWhile (· == 32) = bareF l) (h : n < ((S l).length : Int)) (hb : (Txt.item (S l) n == PySem.Str.ofString " ") = false) : l.drop n.toNat = bareF l := by
  obtain ⟨hh, e⟩ := item_at l h0 h
  rw [e, lit_blank, one_beq] at hb
  rw [← h2, List.drop_eq_getElem_cons hh, List.dropWhile_cons, if_neg (by rw [hb]; decide)]
theorem lg_sl (h0 : 0 ≤ n) (h : l.drop n.toNat = bareF l) : Txt.slice (S l) (some n) (some (n + 1)) = S ((bareF l).take 1) := by
  rw [slice_mid _ _ _ h0 (by lia), h]; congr 2; lia
theorem lg_sl2 (h0 : 0 ≤ n) (h : l.drop n.toNat = bareF l) : Txt.slice (S l) (some (n + 1)) (some (n + 1 + 1)) = S (((bareF l).drop 1).take 1) := by
  rw [slice_mid _ _ _ (by lia) (by lia), ← h, List.drop_drop]
  have e1 : (n + 1).toNat = n.toNat + 1 := by lia
  have e2 : (n + 1 + 1).toNat - (n + 1).toNat = 1 := by lia
  rw [e1] at *; rw [e2]
theorem logF_dot {b : Bool} (h0 : 0 ≤ n) (h : l.drop n.toNat = bareF l) (h1 : (Txt.slice (S l) (some n) (some (n + 1)) == PySem.Str.ofString ".") = b) :
    logF l = if (Txt.slice (S l) (some (if b then n + 1 else n)) (some ((if b then n + 1 else n) + 1)) == PySem.Str.ofString "T") = true then some true else if (Txt.slice (S l) (some (if b then n + 1 else n)) (some ((if b then n + 1 else n) + 1)) == PySem.Str.ofString "F") = true then some false else none := by
  rw [lg_sl h0 h, lit_dot, S_beq] at h1
  unfold logF
  simp only [h1]
  cases b
  · simp only [Bool.false_eq_true, if_false]
    rw [lg_sl h0 h, lit_T, lit_F, S_beq, S_beq]
  · simp only [if_true]
    rw [lg_sl2 h0 h, lit_T, lit_F, S_beq, S_beq]
end
section
variable {l : List Nat} {n : Int}
theorem lg_trueT (h0 : 0 ≤ n) (h : l.drop n.toNat = bareF l) (h1 : (Txt.slice (S l) (some n) (some (n + 1)) == PySem.Str.ofString ".") = true) (h2 : (Txt.slice (S l) (some (n + 1)) (some (n + 1 + 1)) == PySem.Str.ofString "T") = true) : logF l = some true := by
  rw [logF_dot h0 h h1]; simp only [Bool.false_eq_true, if_true, if_false, h2]
theorem lg_trueF (h0 : 0 ≤ n) (h : l.drop n.toNat = bareF l) (h1 : (Txt.slice (S l) (some n) (some (n + 1)) == PySem.Str.ofString ".") = true) (h2 : (Txt.slice (S l) (some (n + 1)) (some (n + 1 + 1)) == PySem.Str.ofString "T") = false) (h3 : (Txt.slice (S l) (some (n + 1)) (some (n + 1 + 1)) == PySem.Str.ofString "F") = true) : logF l = some false := by
  rw [logF_dot h0 h h1]; simp only [Bool.false_eq_true, if_true, if_false, h2, h3]
theorem lg_trueN (h0 : 0 ≤ n) (h : l.drop n.toNat = bareF l) (h1 : (Txt.slice (S l) (some n) (some (n + 1)) == PySem.Str.ofString ".") = true) (h2 : (Txt.slice (S l) (some (n + 1)) (some (n + 1 + 1)) == PySem.Str.ofString "T") = false) (h3 : (Txt.slice (S l) (some (n + 1)) (some (n + 1 + 1)) == PySem.Str.ofString "F") = false) : logF l = none := by
  rw [logF_dot h0 h h1]; simp only [Bool.false_eq_true, if_true, if_false, h2, h3]
theorem lg_falseT (h0 : 0 ≤ n) (h : l.drop n.toNat = bareF l) (h1 : (Txt.slice (S l) (some n) (some (n + 1)) == PySem.Str.ofString ".") = false) (h2 : (Txt.slice (S l) (some (n)) (some (n + 1)) == PySem.Str.ofString "T") = true) : logF l = some true := by
  rw [logF_dot h0 h h1]; simp only [Bool.false_eq_true, if_true, if_false, h2]
theorem lg_falseF (h0 : 0 ≤ n) (h : l.drop n.toNat = bareF l) (h1 : (Txt.slice (S l) (some n) (some (n + 1)) == PySem.Str.ofString ".") = false) (h2 : (Txt.slice (S l) (some (n)) (some (n + 1)) == PySem.Str.ofString "T") = false) (h3 : (Txt.slice (S l) (some (n)) (some (n + 1)) == PySem.Str.ofString "F") = true) : logF l = some false := by
  rw [logF_dot h0 h h1]; simp only [Bool.false_eq_true, if_true, if_false, h2, h3]
theorem lg_falseN (h0 : 0 ≤ n) (h : l.drop n.toNat = bareF l) (h1 : (Txt.slice (S l) (some n) (some (n + 1)) == PySem.Str.ofString ".") = false) (h2 : (Txt.slice (S l) (some (n)) (some (n + 1)) == PySem.Str.ofString "T") = false) (h3 : (Txt.slice (S l) (some (n)) (some (n + 1)) == PySem.Str.ofString "F") = false) : logF l = none := by
  rw [logF_dot h0 h h1]; simp only [Bool.false_eq_true, if_true, if_false, h2, h3]
end
theorem mul_one (c : Nat) (n : Int) : Txt.mul (S [c]) n = S (List.replicate n.toNat c) := by
  unfold Txt.mul
  have key : ∀ (k : Nat) (a : List Nat), (List.replicate k (S [c]).cps).foldl (· ++ ·) a.toArray = (a ++ List.replicate k c).toArray := by
    intro k
    induction k with
    | zero => intro a; simp
    | succ k ih =>
      intro a
      have : a.toArray ++ (S [c]).cps = (a ++ [c]).toArray := by simp [S]
      rw [List.replicate_succ, List.foldl_cons, this, ih, List.append_assoc]; rfl
  split
  · have : n.toNat = 0 := by lia
    rw [this]; rfl
  · split
    · rename_i h
      have : n = 1 := by
        rw [S_len] at h; simpa using h
      subst this; rfl
    · have := key n.toNat []
      simp only [List.nil_append] at this
      show (⟨_⟩ : PySem.Str) = ⟨_⟩
      rw [← this]
theorem mul_blank (n : Int) : Txt.mul (PySem.Str.ofString " ") n = S (List.replicate n.toNat 32) := by rw [lit_blank, mul_one]
theorem tx_a {l : List Nat} {n : Int} (h : n ≤ ((S l).length : Int)) (h1 : 1 ≤ n) : Txt.slice (S l) (some (((S l).length : Int) - n)) none = S (textF l n) := by
  rw [S_len] at *
  rw [slice_from _ _ (by lia)]
  unfold textF; rw [if_pos h]
  congr 2; lia
theorem tx_b {l : List Nat} {n : Int} (h : ¬ n ≤ ((S l).length : Int)) : S l ++ Txt.mul (PySem.Str.ofString " ") (n - ((S l).length : Int)) = S (textF l n) := by
  rw [S_len] at *
  rw [mul_blank, S_app]
  unfold textF; rw [if_neg h]
  congr 3; lia
end Mine
end
section
open PySem PySem.W PyProof.Rows PySem.Calls
set_option Elab.async false
set_option maxRecDepth 100000
set_option maxHeartbeats 8000000
namespace Mine
theorem fillF12 {w : World} : PySem.Challenge.rw_no0239_01 = PySem.Challenge.rw_no0239_01 ∧ hd.heap_1 w.params = hd.heap_1 w.params := by k_fill; exact ⟨rfl, rfl⟩
theorem rulesF12_1 : True := by
  w_top off
  k_with_none
  k_with "my:pre" => first | assumption | omega
  k_with "exec Raise some none" => (k_here; refine raise_none excC63 rfl ?_)
  k_with "call ref" => (k_here; (with_reducible show wpAny _ _ (call (.ref 63) _) _ _ _); refine' io_made ?w1qcx ?w1qF ?w1qR ?_; (case w1qcx => assumption); (case w1qF => k_asm); (case w1qR => first | exact Rn.deeper (by assumption) (by decide)); (intro _ _ _ _))
  k_with "my:go" => repeat' ((fail_if_success (with_reducible show wpAny _ _ (exec (Stmt.While _ _ _ _) _) _ _ _)); (first | (k_unfold; (try dsimp only)) | walk1 | (dsimp only; walk1) | (leave1; walk_say "STEP leave1"; try dsimp only)))
  trivial
theorem read_logical_b {w : World} {mg mb : PySem.Str → Option Value} {B : Heap} {l : List Env} {s : Shared} {A : Around} {Q E : Value → Shared → Prop} (x_field : List Nat) (t_field : Tok)
    (cx : Cx w mg mb B A l s.heap) (R : Rn A 4) (hx : x_field.length < 200)
    (hq : (logF x_field ≠ none) → ∀ h' tk, Ext s.heap h' → Q (.bool (logF x_field = some true)) { s with heap := h', toks := tk })
    (he0 : (logF x_field = none) → ∀ e h' tk, Fly (fsOf l) s.heap 63 e (ioQ 1) h' → E (.ref e) { s with heap := h', toks := tk }) :
    wpAny (model PySem.Challenge.rw_no0239_01.row.prog w) A (call (.ref 164) [.str (S x_field) t_field]) Q E s := by
  have X := cx.In
  obtain ⟨pg, lse, mean, T⟩ := cx.Top
  obtain ⟨ah, ad, af, ag, au⟩ := A
  obtain rfl : ah = none := R.h
  refine wpAny_call ?_
  refine call_q [("field", .str (S x_field) t_field)] (by have := R.d; omega) (X 164 _ (by k_is)) rfl T.nolimit (codeRec_of X (by k_is)) rfl (locs rfl) ?_ rfl rfl rfl (by decide)
  intro h₁ F
  have N : News s.heap s.heap.objs.size h₁ [] := News.nil
  have hxS : (S x_field).length < 200 := S_lt hx
  (k_with "state" => first | exact lg_start | exact lg_turn (by assumption) (by assumption) (by assumption) (by assumption))
  (k_with "measure" => exact lg_less (by assumption) (by assumption))
  walk_at "my:go"
  k_while (fun (_ : List Int) at' => 0 ≤ at' ∧ at' ≤ ((S x_field).length : Int) ∧ (x_field.drop at'.toNat).dropWhile (· == 32) = bareF x_field) (fun (_ : List Int) at' => (((S x_field).length : Int) - at').toNat) "at"
  walk_at "my:go"
  all_goals first | (have eD := lg_end1 (l := x_field) (by with_reducible assumption) (by with_reducible assumption) (by with_reducible assumption)) | (have eD := lg_end2 (l := x_field) (by with_reducible assumption) (by with_reducible assumption) (by with_reducible assumption) (by with_reducible assumption))
  all_goals first
    | (have el := lg_trueT (by with_reducible assumption) eD (by with_reducible assumption) (by with_reducible assumption))
    | (have el := lg_trueF (by with_reducible assumption) eD (by with_reducible assumption) (by with_reducible assumption) (by with_reducible assumption))
    | (have el := lg_trueN (by with_reducible assumption) eD (by with_reducible assumption) (by with_reducible assumption) (by with_reducible assumption))
    | (have el := lg_falseT (by with_reducible assumption) eD (by with_reducible assumption) (by with_reducible assumption))
    | (have el := lg_falseF (by with_reducible assumption) eD (by with_reducible assumption) (by with_reducible assumption) (by with_reducible assumption))
    | (have el := lg_falseN (by with_reducible assumption) eD (by with_reducible assumption) (by with_reducible assumption) (by with_reducible assumption))
  all_goals rw [el] at hq he0
  all_goals first
    | exact he0 rfl _ _ _ (by with_reducible assumption)
    | exact q_bool (hq (by simp) _ _ (Fr.keep (by with_reducible assumption))) (by simp)

theorem read_logical_k {w : World} {mg mb : PySem.Str → Option Value} {B : Heap} {l : List Env} {s : Shared} {A : Around} {Q E : Value → Shared → Prop} {h₀ : Heap} {L : Addr} {m : PySem.Str → Option Value} {news : List (Addr × Obj)} {x_field : List Nat} {t_field : Tok}
    (F : Fr h₀ L s.heap m) (N : News h₀ L s.heap news) (cx : Cx w mg mb B A l s.heap) (R : Rn A 4) (hx : x_field.length < 200)
    (hq : (logF x_field ≠ none) → ∀ h' tk, Fr h₀ L h' m → News h₀ L h' news → Q (.bool (logF x_field = some true)) { s with heap := h', toks := tk })
    (he0 : (logF x_field = none) → ∀ e h' tk, Fly (fsOf l) s.heap 63 e (ioQ 1) h' → E (.ref e) { s with heap := h', toks := tk }) :
    wpAny (model PySem.Challenge.rw_no0239_01.row.prog w) A (call (.ref 164) [.str (S x_field) t_field]) Q E s :=
  read_logical_b _ _ cx R hx (fun c h' tk x => hq c h' tk (F.keeps x) (news_ext N x)) he0

end Mine
end
section
open PySem PySem.W PyProof.Rows PySem.Calls
set_option Elab.async false
set_option maxRecDepth 100000
set_option maxHeartbeats 8000000
namespace Mine
theorem fillF13 {w : World} : PySem.Challenge.rw_no0239_01 = PySem.Challenge.rw_no0239_01 ∧ hd.heap_1 w.params = hd.heap_1 w.params := by k_fill; exact ⟨rfl, rfl⟩
theorem rulesF13_1 : True := by
  w_top off
  k_with_none
  k_with "my:pre" => first | assumption | omega
  trivial
theorem read_text_b {w : World} {mg mb : PySem.Str → Option Value} {mean : ExcName → Option Value} {pg : PySem.Program} {lse : List PySem.Str} {s : Shared} {A : Around} {Q E : Value → Shared → Prop} (x_field : List Nat) (t_field : Tok) (x_length : Int) (t_length : Tok)
    (X : (hd.heap_1 w.params).In s.heap) (T : Top pg lse mean mg mb s.heap) (R : Rn A 1) (hx : x_field.length < 200) (hl : 1 ≤ x_length ∧ x_length ≤ 9)
    (hq : ∀ t h' tk, Ext s.heap h' → Q (.str (S (textF x_field x_length)) t) { s with heap := h', toks := tk }) :
    wpAny (model PySem.Challenge.rw_no0239_01.row.prog w) A (call (.ref 171) [.str (S x_field) t_field, .int x_length t_length]) Q E s := by
  obtain ⟨ah, ad, af, ag, au⟩ := A
  obtain rfl : ah = none := R.h
  refine wpAny_call ?_
  refine call_q [("field", .str (S x_field) t_field), ("length", .int x_length t_length)] (by have := R.d; omega) (X 171 _ (by k_is)) rfl T.nolimit (codeRec_of X (by k_is)) rfl (locs rfl) ?_ rfl rfl rfl (by decide)
  intro h₁ F
  have N : News s.heap s.heap.objs.size h₁ [] := News.nil
  have hxS : (S x_field).length < 200 := S_lt hx
  k_steps
  · exact q_str (hq _ _ _ (Fr.keep (by assumption))) (tx_a (by assumption) hl.1)
  · exact q_str (hq _ _ _ F.keep) (tx_b (by assumption))

theorem read_text_k {w : World} {mg mb : PySem.Str → Option Value} {mean : ExcName → Option Value} {pg : PySem.Program} {lse : List PySem.Str} {s : Shared} {A : Around} {Q E : Value → Shared → Prop} {h₀ : Heap} {L : Addr} {m : PySem.Str → Option Value} {news : List (Addr × Obj)} {x_field : List Nat} {t_field : Tok} {x_length : Int} {t_length : Tok}
    (F : Fr h₀ L s.heap m) (N : News h₀ L s.heap news) (X : (hd.heap_1 w.params).In h₀) (T : Top pg lse mean mg mb h₀) (R : Rn A 1) (hx : x_field.length < 200) (hl : 1 ≤ x_length ∧ x_length ≤ 9)
    (hq : ∀ t h' tk, Fr h₀ L h' m → News h₀ L h' news → Q (.str (S (textF x_field x_length)) t) { s with heap := h', toks := tk }) :
    wpAny (model PySem.Challenge.rw_no0239_01.row.prog w) A (call (.ref 171) [.str (S x_field) t_field, .int x_length t_length]) Q E s :=
  read_text_b _ _ _ _ (X.keeps F.keep) (T.keeps F.keep) R hx hl (fun t h' tk x => hq t h' tk (F.keeps x) (news_ext N x)) 

end Mine
end
section
open PySem PySem.W PyProof.Rows PySem.Calls
set_option Elab.async false
set_option maxRecDepth 100000
set_option maxHeartbeats 8000000
namespace Mine
theorem fillF5 {w : World} : PySem.Challenge.rw_no0239_01 = PySem.Challenge.rw_no0239_01 ∧ hd.heap_1 w.params = hd.heap_1 w.params := by k_fill; exact ⟨rfl, rfl⟩

theorem sz_turn {m e : Int} {k : Int × Int} (h : stripI m e = k) (h0 : m ≠ 0) (hm : Int.fmod m 10 = 0) : stripI (Int.fdiv m 10) (e + 1) = k ∧ Int.fdiv m 10 ≠ 0 := by
  rw [Int.fmod_eq_emod_of_nonneg _ (by decide)] at hm
  rw [Int.fdiv_eq_ediv_of_nonneg _ (by decide)]
  obtain ⟨a, b⟩ := stripI_turn h0 hm (e := e)
  exact ⟨a.trans h, b⟩
theorem sz_less {m : Int} (h0 : m ≠ 0) (hm : Int.fmod m 10 = 0) : (Int.fdiv m 10).natAbs < m.natAbs := by
  rw [Int.fmod_eq_emod_of_nonneg _ (by decide)] at hm
  rw [Int.fdiv_eq_ediv_of_nonneg _ (by decide)]; omega
theorem sz_end {m e : Int} {k : Int × Int} (h : stripI m e = k) (hm : ¬ Int.fmod m 10 = 0) : k = (m, e) := by
  rw [Int.fmod_eq_emod_of_nonneg _ (by decide)] at hm
  rw [← h, stripI_end hm]
theorem rulesF5_1 : True := by
  w_top off
  k_with_none
  k_with "my:go" => repeat' ((fail_if_success (with_reducible show wpAny _ _ (exec (Stmt.While _ _ _ _) _) _ _ _)); (first | (k_unfold; (try dsimp only)) | walk1 | (dsimp only; walk1) | (leave1; walk_say "STEP leave1"; try dsimp only)))
  trivial
theorem strip_zeros_b {w : World} {mg mb : PySem.Str → Option Value} {mean : ExcName → Option Value} {pg : PySem.Program} {lse : List PySem.Str} {s : Shared} {A : Around} {Q E : Value → Shared → Prop} (x_m : Int) (t_m : Tok) (x_e : Int) (t_e : Tok)
    (X : (hd.heap_1 w.params).In s.heap) (T : Top pg lse mean mg mb s.heap) (R : Rn A 1) 
    (hq0 : (x_m = 0) → ∀ h' tk, Ext s.heap h' → Q (.ref 66) { s with heap := h', toks := tk })
    (hq : ¬ (x_m = 0) → ∀ D t0 t1 h' tk, Ext s.heap h' → h'.get? D = some (tupO [.int ((stripI x_m x_e).1) t0, .int ((stripI x_m x_e).2) t1]) → s.heap.get? D = none → Q (.ref D) { s with heap := h', toks := tk }) :
    wpAny (model PySem.Challenge.rw_no0239_01.row.prog w) A (call (.ref 80) [.int x_m t_m, .int x_e t_e]) Q E s := by
  obtain ⟨ah, ad, af, ag, au⟩ := A
  obtain rfl : ah = none := R.h
  refine wpAny_call ?_
  refine call_q [("m", .int x_m t_m), ("e", .int x_e t_e)] (by have := R.d; omega) (X 80 _ (by k_is)) rfl T.nolimit (codeRec_of X (by k_is)) rfl (locs rfl) ?_ rfl rfl rfl (by decide)
  intro h₁ F
  have N : News s.heap s.heap.objs.size h₁ [] := News.nil
  (k_with "state" => first | exact ⟨rfl, by assumption⟩ | exact sz_turn (by assumption) (by assumption) (by assumption))
  (k_with "measure" => exact sz_less (by assumption) (by assumption))
  walk_at "my:go"
  · dsimp only
    exact hq0 (by assumption) _ _ (Fr.keep (by assumption))
  k_while (fun (_ : List Int) m e => stripI m e = stripI x_m x_e ∧ m ≠ 0) (fun (_ : List Int) m _ => m.natAbs) "m" "e"
  walk_at "my:go"
  have e := sz_end (by assumption) (by assumption)
  rw [e] at hq
  (rename News _ _ _ _ => nn; rename Fr _ _ _ _ => ff)
  exact hq (by assumption) _ _ _ _ _ ff.keep (nn _ (.head _)).1 (nn _ (.head _)).2.2

theorem strip_zeros_k {w : World} {mg mb : PySem.Str → Option Value} {mean : ExcName → Option Value} {pg : PySem.Program} {lse : List PySem.Str} {s : Shared} {A : Around} {Q E : Value → Shared → Prop} {h₀ : Heap} {L : Addr} {m : PySem.Str → Option Value} {news : List (Addr × Obj)} {x_m : Int} {t_m : Tok} {x_e : Int} {t_e : Tok}
    (F : Fr h₀ L s.heap m) (N : News h₀ L s.heap news) (X : (hd.heap_1 w.params).In h₀) (T : Top pg lse mean mg mb h₀) (R : Rn A 1) 
    (hq0 : (x_m = 0) → ∀ h' tk, Fr h₀ L h' m → News h₀ L h' news → Q (.ref 66) { s with heap := h', toks := tk })
    (hq : ¬ (x_m = 0) → ∀ D t0 t1 h' tk, Fr h₀ L h' m → News h₀ L h' ((D, tupO [.int ((stripI x_m x_e).1) t0, .int ((stripI x_m x_e).2) t1]) :: news) → Q (.ref D) { s with heap := h', toks := tk }) :
    wpAny (model PySem.Challenge.rw_no0239_01.row.prog w) A (call (.ref 80) [.int x_m t_m, .int x_e t_e]) Q E s :=
  strip_zeros_b _ _ _ _ (X.keeps F.keep) (T.keeps F.keep) R  (fun c h' tk x => hq0 c h' tk (F.keeps x) (news_ext N x)) (fun c D t0' t1' h' tk x y z => hq c D t0' t1' h' tk (F.keeps x) (news_cons F N x y z)) 

end Mine
end
section
open PySem PySem.W PyProof.Rows PySem.Calls
set_option Elab.async false
set_option maxRecDepth 100000
set_option maxHeartbeats 8000000
namespace Mine
theorem fillF6 {w : World} : PySem.Challenge.rw_no0239_01 = PySem.Challenge.rw_no0239_01 ∧ hd.heap_1 w.params = hd.heap_1 w.params := by k_fill; exact ⟨rfl, rfl⟩
theorem rulesF6_1 : True := by
  w_top off
  k_with_none
  k_with "my:pre" => first | assumption | omega
  trivial

noncomputable def keptI (a p : Int) : Int := if p < 2 * a.fmod p ∨ (2 * a.fmod p = p ∧ (a.fdiv p).fmod 2 = 1) then a.fdiv p + 1 else a.fdiv p
noncomputable def roundI (m e digits : Int) : Int × Int :=
  if 0 < (nd m.natAbs : Int) - digits then (if 0 < m then keptI (if m < 0 then -m else m) (10 ^ ((nd m.natAbs : Int) - digits).toNat) else -keptI (if m < 0 then -m else m) (10 ^ ((nd m.natAbs : Int) - digits).toNat), e + ((nd m.natAbs : Int) - digits)) else (m, e)
section
variable {m e d : Int}
theorem ke_up {a p : Int} (h : p < 2 * a.fmod p) : keptI a p = a.fdiv p + 1 := by unfold keptI; rw [if_pos (.inl h)]
theorem ke_up2 {a p : Int} (h : 2 * a.fmod p = p) (h2 : (a.fdiv p).fmod 2 = 1) : keptI a p = a.fdiv p + 1 := by unfold keptI; rw [if_pos (.inr ⟨h, h2⟩)]
theorem ke_no {a p : Int} (h : ¬ p < 2 * a.fmod p) (h2 : 2 * a.fmod p ≠ p) : keptI a p = a.fdiv p := by unfold keptI; rw [if_neg (fun z => z.elim h fun y => h2 y.1)]
theorem ke_no2 {a p : Int} (h : ¬ p < 2 * a.fmod p) (h2 : (a.fdiv p).fmod 2 ≠ 1) : keptI a p = a.fdiv p := by unfold keptI; rw [if_neg (fun z => z.elim h fun y => h2 y.2)]
theorem rd_no (h : ¬ 0 < (nd m.natAbs : Int) - d) : roundI m e d = (m, e) := by unfold roundI; rw [if_neg h]
theorem rd_pos {k : Int} (h : 0 < (nd m.natAbs : Int) - d) (hk : keptI (if m < 0 then -m else m) (10 ^ ((nd m.natAbs : Int) - d).toNat) = k) (hm : 0 < m) : roundI m e d = (k, e + ((nd m.natAbs : Int) - d)) := by unfold roundI; rw [if_pos h, if_pos hm, hk]
theorem rd_neg {k : Int} (h : 0 < (nd m.natAbs : Int) - d) (hk : keptI (if m < 0 then -m else m) (10 ^ ((nd m.natAbs : Int) - d).toNat) = k) (hm : ¬ 0 < m) : roundI m e d = (-k, e + ((nd m.natAbs : Int) - d)) := by unfold roundI; rw [if_pos h, if_neg hm, hk]
end
theorem pow10_ne (n : Nat) : (10 : Int) ^ n ≠ 0 := Int.ne_of_gt (Int.pow_pos (by decide))
theorem pow10_log {n : Nat} (h : n ≤ 40) : ((10 : Int) ^ n).natAbs.log2 < 9000 := by
  have h1 : (10 : Nat) ^ n ≤ 10 ^ 40 := Nat.pow_le_pow_right (by decide) h
  have h2 : ((10 : Int) ^ n).natAbs = 10 ^ n := by rw [Int.natAbs_pow]; rfl
  rw [h2]
  have h3 : (10 : Nat) ^ n ≠ 0 := Nat.ne_of_gt (Nat.pow_pos (by decide))
  have h4 : (10 : Nat) ^ 40 < 2 ^ 140 := by decide
  have h5 : ((10 : Nat) ^ n).log2 < 140 := (Nat.log2_lt h3).mpr (Nat.lt_of_le_of_lt h1 h4)
  omega
theorem rulesF6_2 : True := by
  k_with "call builtin:divmod" => (k_here; refine divmod_N (by assumption) (by assumption) (pow10_ne _) ?_ (Or.inl (PyProof.noPylong_of_log2 (pow10_log (by omega)))); intro _ _ _)
  k_with "call ref" => (k_here; refine' count_digits_k ?w1qF ?w1qN ?w1qX ?w1qT ?w1qR ?_; (case w1qF => k_asm); (case w1qN => k_asm); (case w1qX => k_asm); (case w1qT => k_asm); (case w1qR => first | assumption | exact Rn.deeper (by assumption) (by decide) | exact Rn.le (by assumption) (by decide)); intro _ _ _ _ _; (try dsimp only))
  k_with "call ref" => (k_here; refine' strip_zeros_k ?w2qF ?w2qN ?w2qX ?w2qT ?w2qR ?_ ?_; (case w2qF => k_asm); (case w2qN => k_asm); (case w2qX => k_asm); (case w2qT => k_asm); (case w2qR => first | assumption | exact Rn.deeper (by assumption) (by decide) | exact Rn.le (by assumption) (by decide)); all_goals (first | intro _ _ _ _ _ _ _ _ | intro _ _ _ _ _); all_goals (try dsimp only))
  trivial
theorem round_digits_b {w : World} {mg mb : PySem.Str → Option Value} {mean : ExcName → Option Value} {pg : PySem.Program} {lse : List PySem.Str} {s : Shared} {A : Around} {Q E : Value → Shared → Prop} (x_m : Int) (t_m : Tok) (x_e : Int) (t_e : Tok) (x_digits : Int) (t_digits : Tok)
    (X : (hd.heap_1 w.params).In s.heap) (T : Top pg lse mean mg mb s.heap) (R : Rn A 2) (hm : nd x_m.natAbs ≤ 40) (hdg : 1 ≤ x_digits ∧ x_digits ≤ 9)
    (hq0 : ((roundI x_m x_e x_digits).1 = 0) → ∀ h' tk, Ext s.heap h' → Q (.ref 66) { s with heap := h', toks := tk })
    (hq : ¬ ((roundI x_m x_e x_digits).1 = 0) → ∀ D t0 t1 h' tk, Ext s.heap h' → h'.get? D = some (tupO [.int ((stripI (roundI x_m x_e x_digits).1 (roundI x_m x_e x_digits).2).1) t0, .int ((stripI (roundI x_m x_e x_digits).1 (roundI x_m x_e x_digits).2).2) t1]) → s.heap.get? D = none → Q (.ref D) { s with heap := h', toks := tk }) :
    wpAny (model PySem.Challenge.rw_no0239_01.row.prog w) A (call (.ref 87) [.int x_m t_m, .int x_e t_e, .int x_digits t_digits]) Q E s := by
  obtain ⟨ah, ad, af, ag, au⟩ := A
  obtain rfl : ah = none := R.h
  refine wpAny_call ?_
  refine call_q [("m", .int x_m t_m), ("e", .int x_e t_e), ("digits", .int x_digits t_digits)] (by have := R.d; omega) (X 87 _ (by k_is)) rfl T.nolimit (codeRec_of X (by k_is)) rfl (locs rfl) ?_ rfl rfl rfl (by decide)
  intro h₁ F
  have N : News s.heap s.heap.objs.size h₁ [] := News.nil
  k_steps
  all_goals first
    | (have e := rd_no (m := x_m) (e := x_e) (d := x_digits) (by assumption); rw [e] at hq hq0)
    | (have e := rd_pos (m := x_m) (e := x_e) (d := x_digits) (by assumption) (ke_up (by assumption)) (by assumption); rw [e] at hq hq0)
    | (have e := rd_pos (m := x_m) (e := x_e) (d := x_digits) (by assumption) (ke_up2 (by assumption) (by assumption)) (by assumption); rw [e] at hq hq0)
    | (have e := rd_pos (m := x_m) (e := x_e) (d := x_digits) (by assumption) (ke_no (by assumption) (by assumption)) (by assumption); rw [e] at hq hq0)
    | (have e := rd_pos (m := x_m) (e := x_e) (d := x_digits) (by assumption) (ke_no2 (by assumption) (by assumption)) (by assumption); rw [e] at hq hq0)
    | (have e := rd_neg (m := x_m) (e := x_e) (d := x_digits) (by assumption) (ke_up (by assumption)) (by assumption); rw [e] at hq hq0)
    | (have e := rd_neg (m := x_m) (e := x_e) (d := x_digits) (by assumption) (ke_up2 (by assumption) (by assumption)) (by assumption); rw [e] at hq hq0)
    | (have e := rd_neg (m := x_m) (e := x_e) (d := x_digits) (by assumption) (ke_no (by assumption) (by assumption)) (by assumption); rw [e] at hq hq0)
    | (have e := rd_neg (m := x_m) (e := x_e) (d := x_digits) (by assumption) (ke_no2 (by assumption) (by assumption)) (by assumption); rw [e] at hq hq0)
  all_goals first
    | exact hq0 (by assumption) _ _ (Fr.keep (by assumption))
    | ((rename News _ _ _ _ => nn; rename Fr _ _ _ _ => ff); exact hq (by assumption) _ _ _ _ _ ff.keep (nn _ (.head _)).1 (nn _ (.head _)).2.2)

theorem round_digits_k {w : World} {mg mb : PySem.Str → Option Value} {mean : ExcName → Option Value} {pg : PySem.Program} {lse : List PySem.Str} {s : Shared} {A : Around} {Q E : Value → Shared → Prop} {h₀ : Heap} {L : Addr} {m : PySem.Str → Option Value} {news : List (Addr × Obj)} {x_m : Int} {t_m : Tok} {x_e : Int} {t_e : Tok} {x_digits : Int} {t_digits : Tok}
    (F : Fr h₀ L s.heap m) (N : News h₀ L s.heap news) (X : (hd.heap_1 w.params).In h₀) (T : Top pg lse mean mg mb h₀) (R : Rn A 2) (hm : nd x_m.natAbs ≤ 40) (hdg : 1 ≤ x_digits ∧ x_digits ≤ 9)
    (hq0 : ((roundI x_m x_e x_digits).1 = 0) → ∀ h' tk, Fr h₀ L h' m → News h₀ L h' news → Q (.ref 66) { s with heap := h', toks := tk })
    (hq : ¬ ((roundI x_m x_e x_digits).1 = 0) → ∀ D t0 t1 h' tk, Fr h₀ L h' m → News h₀ L h' ((D, tupO [.int ((stripI (roundI x_m x_e x_digits).1 (roundI x_m x_e x_digits).2).1) t0, .int ((stripI (roundI x_m x_e x_digits).1 (roundI x_m x_e x_digits).2).2) t1]) :: news) → Q (.ref D) { s with heap := h', toks := tk }) :
    wpAny (model PySem.Challenge.rw_no0239_01.row.prog w) A (call (.ref 87) [.int x_m t_m, .int x_e t_e, .int x_digits t_digits]) Q E s :=
  round_digits_b _ _ _ _ _ _ (X.keeps F.keep) (T.keeps F.keep) R hm hdg (fun c h' tk x => hq0 c h' tk (F.keeps x) (news_ext N x)) (fun c D t0' t1' h' tk x y z => hq c D t0' t1' h' tk (F.keeps x) (news_cons F N x y z)) 

end Mine
end
section
open PySem PySem.W PyProof.Rows PySem.Calls
set_option Elab.async false
set_option maxRecDepth 100000
set_option maxHeartbeats 8000000
namespace Mine
theorem fillF7 {w : World} : PySem.Challenge.rw_no0239_01 = PySem.Challenge.rw_no0239_01 ∧ hd.heap_1 w.params = hd.heap_1 w.params := by k_fill; exact ⟨rfl, rfl⟩
theorem rulesF7_1 : True := by
  w_top off
  k_with_none
  k_with "my:pre" => first | assumption | omega
  trivial

noncomputable def finI (m e d : Int) : Int × Int := if (roundI m e d).1 = 0 then (0, 0) else stripI (roundI m e d).1 (roundI m e d).2
noncomputable def leadI (m e d : Int) : Int := (finI m e d).2 + nd (finI m e d).1.natAbs - 1
theorem finI_0 {m e d : Int} (h : (roundI m e d).1 = 0) : finI m e d = (0, 0) := by unfold finI; rw [if_pos h]
theorem finI_1 {m e d : Int} (h : ¬ (roundI m e d).1 = 0) : finI m e d = stripI (roundI m e d).1 (roundI m e d).2 := by unfold finI; rw [if_neg h]
theorem rulesF7_2 : True := by
  k_with "call ref" => (k_here; refine' count_digits_k ?w1qF ?w1qN ?w1qX ?w1qT ?w1qR ?_; (case w1qF => k_asm); (case w1qN => k_asm); (case w1qX => k_asm); (case w1qT => k_asm); (case w1qR => first | assumption | exact Rn.deeper (by assumption) (by decide) | exact Rn.le (by assumption) (by decide)); intro _ _ _ _ _; (try dsimp only))
  k_with "call ref" => (k_here; refine' round_digits_k ?w2qF ?w2qN ?w2qX ?w2qT ?w2qR ?w2qhm ?w2qhdg ?_ ?_; (case w2qF => k_asm); (case w2qN => k_asm); (case w2qX => k_asm); (case w2qT => k_asm); (case w2qR => first | assumption | exact Rn.deeper (by assumption) (by decide) | exact Rn.le (by assumption) (by decide)); (case w2qhm => walk_at "my:pre"); (case w2qhdg => walk_at "my:pre"); all_goals (first | intro _ _ _ _ _ _ _ _ | intro _ _ _ _ _); all_goals (try dsimp only))
  k_with "exec Raise some none" => (k_here; refine raise_none excC44 rfl ?_)
  k_with "call ref" => (k_here; (with_reducible show wpAny _ _ (call (.ref 44) _) _ _ _); refine' run_made ?w3qcx ?w3qF ?w3qR ?_; (case w3qcx => assumption); (case w3qF => k_asm); (case w3qR => first | exact Rn.deeper (by assumption) (by decide)); (intro _ _ _ _))
  trivial
theorem round_real_b {w : World} {mg mb : PySem.Str → Option Value} {B : Heap} {l : List Env} {s : Shared} {A : Around} {Q E : Value → Shared → Prop} (x_m : Int) (t_m : Tok) (x_e : Int) (t_e : Tok) (x_digits : Int) (t_digits : Tok) (x_top : Int) (t_top : Tok)
    (cx : Cx w mg mb B A l s.heap) (R : Rn A 4) (hm : nd x_m.natAbs ≤ 40) (hdg : 1 ≤ x_digits ∧ x_digits ≤ 9)
    (hq0 : ((finI x_m x_e x_digits).1 = 0 ∨ leadI x_m x_e x_digits < -x_top) → ∀ h' tk, Ext s.heap h' → Q (.ref 66) { s with heap := h', toks := tk })
    (hq : (¬ ((finI x_m x_e x_digits).1 = 0 ∨ leadI x_m x_e x_digits < -x_top) ∧ ¬ leadI x_m x_e x_digits > x_top) → ∀ D t0 t1 h' tk, Ext s.heap h' → h'.get? D = some (tupO [.int ((finI x_m x_e x_digits).1) t0, .int ((finI x_m x_e x_digits).2) t1]) → s.heap.get? D = none → Q (.ref D) { s with heap := h', toks := tk })
    (he0 : (¬ ((finI x_m x_e x_digits).1 = 0 ∨ leadI x_m x_e x_digits < -x_top) ∧ leadI x_m x_e x_digits > x_top) → ∀ e h' tk, Fly (fsOf l) s.heap 44 e runP h' → E (.ref e) { s with heap := h', toks := tk }) :
    wpAny (model PySem.Challenge.rw_no0239_01.row.prog w) A (call (.ref 94) [.int x_m t_m, .int x_e t_e, .int x_digits t_digits, .int x_top t_top]) Q E s := by
  have X := cx.In
  obtain ⟨pg, lse, mean, T⟩ := cx.Top
  obtain ⟨ah, ad, af, ag, au⟩ := A
  obtain rfl : ah = none := R.h
  refine wpAny_call ?_
  refine call_q [("m", .int x_m t_m), ("e", .int x_e t_e), ("digits", .int x_digits t_digits), ("top", .int x_top t_top)] (by have := R.d; omega) (X 94 _ (by k_is)) rfl T.nolimit (codeRec_of X (by k_is)) rfl (locs rfl) ?_ rfl rfl rfl (by decide)
  intro h₁ F
  have N : News s.heap s.heap.objs.size h₁ [] := News.nil
  k_steps
  all_goals dsimp only
  all_goals first | (have ef := finI_0 (m := x_m) (e := x_e) (d := x_digits) (by assumption)) | (have ef := finI_1 (m := x_m) (e := x_e) (d := x_digits) (by assumption))
  all_goals simp only [leadI, ef] at hq hq0 he0
  all_goals first
    | exact hq0 (by first | exact .inl rfl | exact .inl trivial | exact .inl (by assumption) | exact .inr (by assumption)) _ _ (Fr.keep (by assumption))
    | ((rename News _ _ _ _ => nn; rename Fr _ _ _ _ => ff); exact hq ⟨fun z => z.elim (by assumption) (by assumption), by assumption⟩ _ _ _ _ _ ff.keep (nn _ (.head _)).1 (nn _ (.head _)).2.2)
    | exact he0 ⟨fun z => z.elim (by assumption) (by assumption), by assumption⟩ _ _ _ (by assumption)

theorem round_real_k {w : World} {mg mb : PySem.Str → Option Value} {B : Heap} {l : List Env} {s : Shared} {A : Around} {Q E : Value → Shared → Prop} {h₀ : Heap} {L : Addr} {m : PySem.Str → Option Value} {news : List (Addr × Obj)} {x_m : Int} {t_m : Tok} {x_e : Int} {t_e : Tok} {x_digits : Int} {t_digits : Tok} {x_top : Int} {t_top : Tok}
    (F : Fr h₀ L s.heap m) (N : News h₀ L s.heap news) (cx : Cx w mg mb B A l s.heap) (R : Rn A 4) (hm : nd x_m.natAbs ≤ 40) (hdg : 1 ≤ x_digits ∧ x_digits ≤ 9)
    (hq0 : ((finI x_m x_e x_digits).1 = 0 ∨ leadI x_m x_e x_digits < -x_top) → ∀ h' tk, Fr h₀ L h' m → News h₀ L h' news → Q (.ref 66) { s with heap := h', toks := tk })
    (hq : (¬ ((finI x_m x_e x_digits).1 = 0 ∨ leadI x_m x_e x_digits < -x_top) ∧ ¬ leadI x_m x_e x_digits > x_top) → ∀ D t0 t1 h' tk, Fr h₀ L h' m → News h₀ L h' ((D, tupO [.int ((finI x_m x_e x_digits).1) t0, .int ((finI x_m x_e x_digits).2) t1]) :: news) → Q (.ref D) { s with heap := h', toks := tk })
    (he0 : (¬ ((finI x_m x_e x_digits).1 = 0 ∨ leadI x_m x_e x_digits < -x_top) ∧ leadI x_m x_e x_digits > x_top) → ∀ e h' tk, Fly (fsOf l) s.heap 44 e runP h' → E (.ref e) { s with heap := h', toks := tk }) :
    wpAny (model PySem.Challenge.rw_no0239_01.row.prog w) A (call (.ref 94) [.int x_m t_m, .int x_e t_e, .int x_digits t_digits, .int x_top t_top]) Q E s :=
  round_real_b _ _ _ _ _ _ _ _ cx R hm hdg (fun c h' tk x => hq0 c h' tk (F.keeps x) (news_ext N x)) (fun c D t0' t1' h' tk x y z => hq c D t0' t1' h' tk (F.keeps x) (news_cons F N x y z)) he0

end Mine
end
section
open PySem PySem.W PyProof.Rows PySem.Calls
set_option Elab.async false
set_option maxRecDepth 100000
set_option maxHeartbeats 8000000
namespace Mine
theorem fillF10 {w : World} : PySem.Challenge.rw_no0239_01 = PySem.Challenge.rw_no0239_01 ∧ hd.heap_1 w.params = hd.heap_1 w.params := by k_fill; exact ⟨rfl, rfl⟩
theorem rulesF10_1 : True := by
  w_top off
  k_with_none
  k_with "my:pre" => first | assumption | omega
  trivial
theorem cut_exponent_b {w : World} {mg mb : PySem.Str → Option Value} {mean : ExcName → Option Value} {pg : PySem.Program} {lse : List PySem.Str} {s : Shared} {A : Around} {Q E : Value → Shared → Prop} (x_text : List Nat) (t_text : Tok)
    (X : (hd.heap_1 w.params).In s.heap) (T : Top pg lse mean mg mb s.heap) (R : Rn A 1) (hx : x_text.length < 200)
    (hq : ∀ D t0 t1 h' tk, Ext s.heap h' → h'.get? D = some (tupO [.str (S (cutF x_text).1) t0, .str (S (cutF x_text).2.1) t1, .bool ((cutF x_text).2.2)]) → s.heap.get? D = none → Q (.ref D) { s with heap := h', toks := tk }) :
    wpAny (model PySem.Challenge.rw_no0239_01.row.prog w) A (call (.ref 136) [.str (S x_text) t_text]) Q E s := by
  obtain ⟨ah, ad, af, ag, au⟩ := A
  obtain rfl : ah = none := R.h
  refine wpAny_call ?_
  refine call_q [("text", .str (S x_text) t_text)] (by have := R.d; omega) (X 136 _ (by k_is)) rfl T.nolimit (codeRec_of X (by k_is)) rfl (locs rfl) ?_ rfl rfl rfl (by decide)
  intro h₁ F
  have N : News s.heap s.heap.objs.size h₁ [] := News.nil
  have hxS : (S x_text).length < 200 := S_lt hx
  (k_with "pyIter ref" => k_search (fun (pre : List Int) => ∀ c ∈ x_text.take pre.length, ¬ isX c))
  (k_with "state" => first | exact cx_turn (by assumption) (by assumption) (by assumption) (by assumption) (by assumption) (by assumption) (by assumption) | (intro c hc; simp at hc))
  k_steps
  all_goals (rename News _ _ _ _ => nn; rename Fr _ _ _ _ => ff)
  all_goals first
    | (obtain ⟨e1, e2, e3⟩ := cx_E (by assumption) (by assumption) kInv (by first | exact .inl (by assumption) | exact .inr (by assumption)); rw [e1, e2, ← e3] at nn; exact hq _ _ _ _ _ ff.keep (nn _ (.head _)).1 (nn _ (.head _)).2.2)
    | (obtain ⟨e1, e2, e3⟩ := cx_S (by assumption) (by assumption) kInv (by first | exact .inl (by assumption) | exact .inr (by assumption)); rw [e1, e2, ← e3] at nn; exact hq _ _ _ _ _ ff.keep (nn _ (.head _)).1 (nn _ (.head _)).2.2)
    | (have e := cx_none kInv; rw [e] at hq; exact hq _ _ _ _ _ ff.keep (nn _ (.head _)).1 (nn _ (.head _)).2.2)

theorem cut_exponent_k {w : World} {mg mb : PySem.Str → Option Value} {mean : ExcName → Option Value} {pg : PySem.Program} {lse : List PySem.Str} {s : Shared} {A : Around} {Q E : Value → Shared → Prop} {h₀ : Heap} {L : Addr} {m : PySem.Str → Option Value} {news : List (Addr × Obj)} {x_text : List Nat} {t_text : Tok}
    (F : Fr h₀ L s.heap m) (N : News h₀ L s.heap news) (X : (hd.heap_1 w.params).In h₀) (T : Top pg lse mean mg mb h₀) (R : Rn A 1) (hx : x_text.length < 200)
    (hq : ∀ D t0 t1 h' tk, Fr h₀ L h' m → News h₀ L h' ((D, tupO [.str (S (cutF x_text).1) t0, .str (S (cutF x_text).2.1) t1, .bool ((cutF x_text).2.2)]) :: news) → Q (.ref D) { s with heap := h', toks := tk }) :
    wpAny (model PySem.Challenge.rw_no0239_01.row.prog w) A (call (.ref 136) [.str (S x_text) t_text]) Q E s :=
  cut_exponent_b _ _ (X.keeps F.keep) (T.keeps F.keep) R hx (fun D t0' t1' h' tk x y z => hq D t0' t1' h' tk (F.keeps x) (news_cons F N x y z)) 

end Mine
end
section
open PySem PySem.W PyProof.Rows PySem.Calls
set_option Elab.async false
set_option maxRecDepth 100000
set_option maxHeartbeats 8000000
namespace Mine
theorem fillF11 {w : World} : PySem.Challenge.rw_no0239_01 = PySem.Challenge.rw_no0239_01 ∧ hd.heap_1 w.params = hd.heap_1 w.params := by k_fill; exact ⟨rfl, rfl⟩
theorem rulesF11_1 : True := by
  w_top off
  k_with_none
  k_with "my:pre" => first | assumption | omega
  k_with "exec Raise some none" => (k_here; refine raise_none excC63 rfl ?_)
  k_with "call ref" => (k_here; (with_reducible show wpAny _ _ (call (.ref 63) _) _ _ _); refine' io_made ?w1qcx ?w1qF ?w1qR ?_; (case w1qcx => assumption); (case w1qF => k_asm); (case w1qR => first | exact Rn.deeper (by assumption) (by decide)); (intro _ _ _ _))
  k_with "call ref" => (k_here; refine' whole_of_k ?w2qF ?w2qN ?w2qX ?w2qT ?w2qR ?w2qhx ?_; (case w2qF => k_asm); (case w2qN => k_asm); (case w2qX => k_asm); (case w2qT => k_asm); (case w2qR => first | assumption | exact Rn.deeper (by assumption) (by decide) | exact Rn.le (by assumption) (by decide)); (case w2qhx => walk_at "my:pre"); intro _ _ _ _ _; (try dsimp only))
  k_with "call ref" => (k_here; rw [fg_some1 (by assumption)])
  trivial
theorem read_figures_b {w : World} {mg mb : PySem.Str → Option Value} {B : Heap} {l : List Env} {s : Shared} {A : Around} {Q E : Value → Shared → Prop} (x_text : List Nat) (t_text : Tok) (x_d : Int) (t_d : Tok)
    (cx : Cx w mg mb B A l s.heap) (R : Rn A 4) (hx : x_text.length < 200)
    (hq : (0 ≤ wholeF (figF x_text)) → ∀ D t0 t1 h' tk, Ext s.heap h' → h'.get? D = some (tupO [.int (wholeF (figF x_text)) t0, .int (plcF x_text x_d) t1]) → s.heap.get? D = none → Q (.ref D) { s with heap := h', toks := tk })
    (he0 : (wholeF (figF x_text) < 0) → ∀ e h' tk, Fly (fsOf l) s.heap 63 e (ioQ 1) h' → E (.ref e) { s with heap := h', toks := tk }) :
    wpAny (model PySem.Challenge.rw_no0239_01.row.prog w) A (call (.ref 150) [.str (S x_text) t_text, .int x_d t_d]) Q E s := by
  have X := cx.In
  obtain ⟨pg, lse, mean, T⟩ := cx.Top
  obtain ⟨ah, ad, af, ag, au⟩ := A
  obtain rfl : ah = none := R.h
  refine wpAny_call ?_
  refine call_q [("text", .str (S x_text) t_text), ("d", .int x_d t_d)] (by have := R.d; omega) (X 150 _ (by k_is)) rfl T.nolimit (codeRec_of X (by k_is)) rfl (locs rfl) ?_ rfl rfl rfl (by decide)
  intro h₁ F
  have N : News s.heap s.heap.objs.size h₁ [] := News.nil
  have hxS : (S x_text).length < 200 := S_lt hx
  have l1 := figF_len x_text
  k_steps
  · obtain ⟨e1, e2⟩ := fg_none (d := x_d) (by assumption)
    exact he0 (by rw [e1]; assumption) _ _ _ (by assumption)
  · obtain ⟨e1, e2⟩ := fg_none (d := x_d) (by assumption)
    (rename News _ _ _ _ => nn; rename Fr _ _ _ _ => ff)
    rw [e1, e2] at hq
    exact hq (by omega) _ _ _ _ _ ff.keep (nn _ (.head _)).1 (nn _ (.head _)).2.2
  · exact he0 (by assumption) _ _ _ (by assumption)
  · have e2 := (fg_some (d := x_d) (by assumption)).2
    (rename News _ _ _ _ => nn; rename Fr _ _ _ _ => ff)
    rw [e2] at nn
    exact hq (by omega) _ _ _ _ _ ff.keep (nn _ (.head _)).1 (nn _ (.head _)).2.2

theorem read_figures_k {w : World} {mg mb : PySem.Str → Option Value} {B : Heap} {l : List Env} {s : Shared} {A : Around} {Q E : Value → Shared → Prop} {h₀ : Heap} {L : Addr} {m : PySem.Str → Option Value} {news : List (Addr × Obj)} {x_text : List Nat} {t_text : Tok} {x_d : Int} {t_d : Tok}
    (F : Fr h₀ L s.heap m) (N : News h₀ L s.heap news) (cx : Cx w mg mb B A l s.heap) (R : Rn A 4) (hx : x_text.length < 200)
    (hq : (0 ≤ wholeF (figF x_text)) → ∀ D t0 t1 h' tk, Fr h₀ L h' m → News h₀ L h' ((D, tupO [.int (wholeF (figF x_text)) t0, .int (plcF x_text x_d) t1]) :: news) → Q (.ref D) { s with heap := h', toks := tk })
    (he0 : (wholeF (figF x_text) < 0) → ∀ e h' tk, Fly (fsOf l) s.heap 63 e (ioQ 1) h' → E (.ref e) { s with heap := h', toks := tk }) :
    wpAny (model PySem.Challenge.rw_no0239_01.row.prog w) A (call (.ref 150) [.str (S x_text) t_text, .int x_d t_d]) Q E s :=
  read_figures_b _ _ _ _ cx R hx (fun c D t0' t1' h' tk x y z => hq c D t0' t1' h' tk (F.keeps x) (news_cons F N x y z)) he0

end Mine
end
section
open PySem PySem.W PyProof.Rows PySem.Calls
set_option Elab.async false
set_option maxRecDepth 100000
set_option maxHeartbeats 8000000
namespace Mine
theorem rulesRz2_0 : True := by
  w_top off
  k_with_none
  trivial
theorem fillRz2 {w : World} : PySem.Challenge.rw_no0239_01 = PySem.Challenge.rw_no0239_01 ∧ hd.heap_1 w.params = hd.heap_1 w.params := by k_fill; exact ⟨rfl, rfl⟩
section
variable {M : Model} {A : Around} {E : Value → Shared → Prop} {s : Shared}
theorem made_caught {fs : List Addr} {env : Env} {outer : List Env} {L : Addr} {h₀ : Heap} {C e : Addr} {P : List DictEntry → Value → Prop} {Q : Value → Shared → Prop} {x : Option Value}
    (hfr : A.frames = some (env :: outer)) (hf : env.frame = some L) (ffb : FF h₀ (env :: outer)) (f : Made fs h₀ C e P s.heap) (hfs : ∀ b ∈ fs, b ∈ fsOf (env :: outer))
    (hq : ∀ h', Fly (fsOf (env :: outer)) h₀ C e P h' → Q (.ref e) { s with heap := h' }) :
    notedBy M (A.mark x) env (cameBackBy M A env (fun e' s' => wpAny M A (leaving env e') (fun _ s'' => Q e' s'') E s')) (.ref e) s := by
  obtain ⟨g, n, vs, D, es, k, he, hsz, h1, hD, hP, nD⟩ := f
  have ff := ffb.grow g (fun _ h => nomatch h)
  unfold notedBy noteFrame
  simp only [hf]
  refine wpAny_bind (wpAny_field he rfl h1 ?_)
  rw [if_neg (by decide)]
  refine entry_core (A := A.mark x) hfr ff hf he hsz fun h₁ T ts g1 e1 nT hTe hT h3 hfl => ?_
  have hvs : (vs.setIfInBounds 1 (.ref T))[1]? = some (.ref T) := by simp [hsz]
  unfold cameBackBy
  refine wpAny_bind (wpAny_field (s := { s with heap := h₁ }) e1 rfl hvs ?_)
  rw [if_neg (show ¬ ((Value.ref T == Value.none) = true) from by simp)]
  rw [hf]
  unfold setFlight
  refine wpAny_bind (wpAny_field (s := { s with heap := h₁ }) e1 rfl hvs ?_)
  rw [if_pos (show (Value.ref T != Value.none) = true from by simp)]
  refine wpAny_setField (s := { s with heap := h₁ }) hT rfl h3 ?_
  have other : ∀ b o, b ≠ T → h₁.get? b = some o → (h₁.update T (Obj.mapFields (·.setIfInBounds 3 (rawInt L)))).get? b = some o := fun b o hb q => (Heap.get?_update_other _ _ (Ne.symm hb)).trans q
  have eT : (h₁.update T (Obj.mapFields (·.setIfInBounds 3 (rawInt L)))).get? T = some { cls := .type "traceback", data := .fields (ts.setIfInBounds 3 (rawInt L)) } := Heap.get?_update_self _ hT rfl
  have e1' := other _ _ hTe.symm e1
  have g1' : GrowB (fsOf (env :: outer)) [e] s.heap (h₁.update T (Obj.mapFields (·.setIfInBounds 3 (rawInt L)))) := fun b o hb q => by
    have hbT : b ≠ T := by rintro rfl; rw [nT] at q; cases q
    obtain ⟨a, sl, c⟩ := g1 b o hb q
    exact ⟨fun z => other _ _ hbT (a z), sl, other _ _ hbT c⟩
  show wpAny M A (leaving env (.ref e)) (fun _ s'' => Q (.ref e) s'') E { s with heap := h₁.update T (Obj.mapFields (·.setIfInBounds 3 (rawInt L))) }
  unfold leaving noteFrame
  simp only [hf]
  refine wpAny_bind (wpAny_bind (wpAny_field (s := { s with heap := h₁.update T (Obj.mapFields (·.setIfInBounds 3 (rawInt L))) }) e1' rfl hvs ?_))
  rw [if_pos (show (Value.ref T != Value.none) = true from by simp)]
  refine wpAny_bind (wpAny_field (s := { s with heap := h₁.update T (Obj.mapFields (·.setIfInBounds 3 (rawInt L))) }) eT rfl (show (ts.setIfInBounds 3 (rawInt L))[3]? = some (rawInt L) from by simp [h3]) ?_)
  rw [if_pos (show (rawInt L == rawInt L) = true from by simp)]
  refine wpAny_pure ?_
  exact fly_entry ffb g hfs n he hsz hD hP nD g1' e1' nT hTe eT (by simpa using h3) fun h' f' _ => hq h' f'
end

section
variable {w : World} {mg mb : PySem.Str → Option Value} {B h₀ h : Heap} {A : Around} {l : List Env} {L a : Addr} {m : PySem.Str → Option Value} {name : PySem.Str} {scope : Scope} {cd : Value} {s : Shared} {E : Value → Shared → Prop} {e : Addr} {P : List DictEntry → Value → Prop} {C : Addr}
theorem Cx.hB (cx : Cx w mg mb B A l h) : ∀ f ∈ fsOf l, B.get? f = none := fun _ hf => (Heap.FunFrames.mem cx.ff hf).1
theorem fr_fly (cx : Cx w mg mb B A l h₀) (F : Fr h₀ L h m) {h' : Heap} (f : Fly (fsOf (envOf name scope L a cd :: l)) h C e P h') (hk : scope.kind = .function := by rfl) : Fr B L h' m :=
  fr_grow F cx.k cx.sz (cx.push (a := a) (cd := cd) (name := name) F hk).hB f.grow

theorem rr_open {x : PySem.Str} {np pos : Pos} {b₀ : Stmt} {suite : List Stmt} {rest : List ExceptHandler} {Q : Flow → Shared → Prop} (cx : Cx w mg mb B A l h₀) (F : Fr h₀ L h m) (ex : nsIn (hd.heap_1 w.params) mainGlobals x = some (some (.ref C))) (EC : ExcC w C)
    (f : Fly (fsOf (envOf name scope L a cd :: l)) h C e P s.heap)
    (hq : ∀ h', Fly (fsOf (envOf name scope L a cd :: l)) h C e P h' → Fr B L h' m → wpAny (model PySem.Challenge.rw_no0239_01.row.prog w) ((A.deeper (envOf name scope L a cd)).mark (some (.ref e))) (execs (b₀ :: suite) (envOf name scope L a cd)) Q
      (notedBy (model PySem.Challenge.rw_no0239_01.row.prog w) ((A.deeper (envOf name scope L a cd)).mark (some (.ref e))) (envOf name scope L a cd) (cameBackBy (model PySem.Challenge.rw_no0239_01.row.prog w) (A.deeper (envOf name scope L a cd)) (envOf name scope L a cd) E)) { s with heap := h' })
    (hk : scope.kind = .function := by rfl) (hx : (envOf name scope L a cd).kindOf x = some .globalImplicit := by rfl) (hdb : (x == ("__debug__" : PySem.Str)) = false := by decide) :
    wpAny (model PySem.Challenge.rw_no0239_01.row.prog w) (A.deeper (envOf name scope L a cd)) (noteFrame (.ref e) (envOf name scope L a cd)) (fun _ s₂ => wpAny (model PySem.Challenge.rw_no0239_01.row.prog w) (A.deeper (envOf name scope L a cd)) (setFlight (.ref e) none)
      (fun _ s₃ => wpAny (model PySem.Challenge.rw_no0239_01.row.prog w) (A.deeper (envOf name scope L a cd)) (handleBy (.ref e) (envOf name scope L a cd) (.ExceptHandler (some (.Name x np)) none (b₀ :: suite) pos :: rest)) Q E s₃) E s₂) E s := by
  obtain ⟨pg, lse, mean, T⟩ := cx.T
  refine look_fly (cx.push F hk).fr rfl (ff_no (cx.push (a := a) (cd := cd) (name := name) F hk).ff) f (fun _ hb => hb) fun h₁ f₁ _ => ?_
  refine catch_plain (fr_fly cx F f₁ hk) cx.X (topRead_of T) ex EC f₁ (fun h₂ f₂ => hq h₂ f₂ (fr_fly cx F f₂ hk)) hk hx hdb

theorem rr_made {Q : Flow → Shared → Prop} {E₀ E₁ E' : Value → Shared → Prop} {c : Int} {tc : Tok} {v : Value} (cx : Cx w mg mb B A l h₀) (F : Fr h₀ L h m) (f : Fly (fsOf (envOf name scope L a cd :: l)) h 44 e runP s.heap) (R : Rn (A.deeper (envOf name scope L a cd)) 3)
    (hq : ∀ e h' tk, Fly (fsOf l) h₀ 63 e (ioQ c) h' → E₀ (.ref e) { s with heap := h', toks := tk }) (hk : scope.kind = .function := by rfl) :
    wpAny (model PySem.Challenge.rw_no0239_01.row.prog w) ((A.deeper (envOf name scope L a cd)).mark (some (.ref e))) (call (.ref 63) [.int c tc, v])
      (fun v s₁ => ∃ e' D ta, v = .ref e' ∧ (hd.heap_1 w.params).In s₁.heap ∧ s₁.heap.get? e' = some (excObj 63 (some D) ta) ∧
        wpAny (model PySem.Challenge.rw_no0239_01.row.prog w) ((A.deeper (envOf name scope L a cd)).mark (some (.ref e))) (raiseNew (.ref e') : Sem Flow) Q
          (notedBy (model PySem.Challenge.rw_no0239_01.row.prog w) ((A.deeper (envOf name scope L a cd)).mark (some (.ref e))) (envOf name scope L a cd) (cameBackBy (model PySem.Challenge.rw_no0239_01.row.prog w) (A.deeper (envOf name scope L a cd)) (envOf name scope L a cd) (fun e' s' => wpAny (model PySem.Challenge.rw_no0239_01.row.prog w) (A.deeper (envOf name scope L a cd)) (leaving (envOf name scope L a cd) e') (fun _ s'' => E₀ e' s'') E' s'))) s₁) E₁ s := by
  obtain ⟨pg, lse, mean, T⟩ := cx.T
  have F₁ := fr_fly cx F f hk
  refine io_make (cx.X.keeps F₁.keep) (T.keeps F₁.keep) (Rm.mark R.toRm (Nat.le_refl _)) fun h' tk e' D ta n k x1 x2 x3 x4 x5 x6 => ?_
  refine ⟨e', D, ta, rfl, (cx.X.keeps F₁.keep).keeps x1, x2, ?_⟩
  obtain ⟨g, ne, vs, D₁, es, k₁, T₁, oT, ts, he, hsz, h1, hD, hP, nD, nT, hTe, hT, hd1, h3⟩ := f
  have hne : e ≠ e' := by rintro rfl; rw [x4] at he; cases he
  have h2 : vs[2]? = some .none := by
    have : vs.getD 2 .none = .none := hP
    rw [Array.getD_eq_getD_getElem?] at this
    have hl : 2 < vs.size := by omega
    rw [Array.getElem?_eq_getElem hl] at this ⊢
    exact congrArg some this
  refine raise_handled (s := { s with heap := h', toks := tk }) rfl hne (x1 _ _ he) h2 x2 fun h₃ but he₃ => ?_
  have cxp := cx.push (a := a) (cd := cd) (name := name) F hk
  have gr : Grow (fsOf (envOf name scope L a cd :: l)) h h₃ := GrowB.clean (es := [e']) (g.trans (Grow.of_ext x1)) (fun b o hb q => ⟨fun _ => but b o (by simpa using hb) q, o.slots, but b o (by simpa using hb) q⟩) (fun y hy => by simp at hy; rw [hy]; exact new_of g (by simp) x4)
  refine made_caught (A := A.deeper (envOf name scope L a cd)) (s := { s with heap := h₃, toks := tk }) (h₀ := h) (C := 63) (e := e') (P := ioQ c) (outer := l) (env := envOf name scope L a cd) (L := L) (fs := fsOf (envOf name scope L a cd :: l)) cxp.fr rfl (ff_no cxp.ff) ⟨gr, new_of g (by simp) x4, _, D, _, 2, he₃, rfl, rfl, but _ _ x6 x3, ⟨tc, ioP_of (v := v) (n := n) (k := k) (w := w)⟩, new_of g (by simp) x5⟩ (fun _ hb => hb) fun h₄ f₄ => ?_
  exact hq e' h₄ tk (f₄.out rfl F.keep (Heap.get?_none_of_le F.above))
end
end Mine
namespace Mine
theorem newsB {h₀ h : Heap} {L : Addr} {m : PySem.Str → Option Value} (_ : Fr h₀ L h m) : News h₀ L h [] := News.nil
end Mine
end
section
open PySem PySem.W PyProof.Rows PySem.Calls PySem.Builtin PySem.Builtin.Str
set_option Elab.async false
namespace Mine
theorem rulesTxt7_0 : True := by
  w_top off
  k_with_none
  trivial
theorem nd_le {n k : Nat} (h : n < 10 ^ k) : nd n ≤ k := by
  induction k generalizing n with
  | zero => have : n = 0 := by simpa using h
            subst this; simp [nd]
  | succ k ih =>
    cases n with
    | zero => simp [nd]
    | succ n =>
      rw [nd]
      have : (n + 1) / 10 < 10 ^ k := by rw [Nat.div_lt_iff_lt_mul (by decide), ← Nat.pow_succ]; exact h
      have := ih this
      lia
theorem valN_lt (l : List Nat) (h : ∀ c ∈ l, isDig c = true) : valN l < 10 ^ l.length := by
  have key : ∀ (l : List Nat) (n k : Nat), (∀ c ∈ l, isDig c = true) → n < 10 ^ k → l.foldl (fun n c => n * 10 + (c - 48)) n < 10 ^ (k + l.length) := by
    intro l
    induction l with
    | nil => intro n k _ h; simpa using h
    | cons c r ih =>
      intro n k hd h
      have hc := hd c (.head _)
      unfold isDig at hc; simp at hc
      have e : k + (c :: r).length = (k + 1) + r.length := by simp; lia
      rw [List.foldl_cons, e]
      refine ih _ _ (fun x hx => hd x (.tail _ hx)) ?_
      rw [Nat.pow_succ]; lia
  have := key l 0 0 h (by simp)
  rw [Nat.zero_add] at this; exact this
theorem wholeF_nd (l : List Nat) (h : 0 ≤ wholeF l) : nd (wholeF l).natAbs ≤ l.length := by
  unfold wholeF at *
  split at h
  · rename_i hh
    rw [if_pos hh]
    exact nd_le (by rw [Int.natAbs_natCast]; exact valN_lt l (List.all_eq_true.mp hh.2))
  · lia
theorem cutF_len (l : List Nat) : (cutF l).1.length ≤ l.length ∧ (cutF l).2.1.length ≤ l.length := by
  induction l with
  | nil => simp [cutF]
  | cons c r ih =>
    rw [cutF]
    split
    · simp
    · split
      · simp
      · simp; lia
theorem sgn_nd {s n : Int} {k : Nat} (h1 : -1 ≤ s) (h2 : s ≤ 1) (h : nd n.natAbs ≤ k) : nd (s * n).natAbs ≤ k := by
  have hs : s = -1 ∨ s = 0 ∨ s = 1 := by lia
  rcases hs with rfl | rfl | rfl
  · rw [Int.neg_mul, Int.one_mul, Int.natAbs_neg]; exact h
  · simp [nd]
  · rw [Int.one_mul]; exact h
section
variable (z : Bool) (x : List Nat) (d sc : Int)
noncomputable def rSg : Int := (signF (solidF z x)).1
noncomputable def rCut : List Nat × List Nat × Bool := cutF (signF (solidF z x)).2
noncomputable def rNum : Int := wholeF (figF (rCut z x).1)
noncomputable def rExp : Int := wholeF (signF (rCut z x).2.1).2
noncomputable def rPow : Int := if (rCut z x).2.2 = true then (signF (rCut z x).2.1).1 * rExp z x - plcF (rCut z x).1 d else -sc - plcF (rCut z x).1 d
abbrev rBad : Prop := rNum z x < 0 ∨ ((rCut z x).2.2 = true ∧ rExp z x < 0)
end
end Mine
namespace Mine
section
variable {z : Bool} {x : List Nat} {d sc : Int}
theorem rPow_t (h : (cutF (signF (solidF z x)).2).2.2 = true) : rPow z x d sc = (signF (cutF (signF (solidF z x)).2).2.1).1 * wholeF (signF (cutF (signF (solidF z x)).2).2.1).2 - plcF (cutF (signF (solidF z x)).2).1 d := by
  unfold rPow rExp rCut; rw [if_pos h]
theorem rPow_f (h : (cutF (signF (solidF z x)).2).2.2 = false) : rPow z x d sc = -sc - plcF (cutF (signF (solidF z x)).2).1 d := by
  unfold rPow rExp rCut; rw [h, if_neg (by decide)]
theorem nb_t (h1 : 0 ≤ wholeF (figF (cutF (signF (solidF z x)).2).1)) (h2 : 0 ≤ wholeF (signF (cutF (signF (solidF z x)).2).2.1).2) : ¬ rBad z x := by
  rintro (h | ⟨_, h⟩)
  · exact absurd h (Int.not_lt.mpr h1)
  · exact absurd h (Int.not_lt.mpr h2)
theorem nb_f (h1 : 0 ≤ wholeF (figF (cutF (signF (solidF z x)).2).1)) (h2 : (cutF (signF (solidF z x)).2).2.2 = false) : ¬ rBad z x := by
  rintro (h | ⟨h, _⟩)
  · exact absurd h (Int.not_lt.mpr h1)
  · exact absurd (h2.symm.trans h) (by decide)
end
end Mine
end
section
open PySem PySem.W PyProof.Rows PySem.Calls
set_option Elab.async false
set_option maxRecDepth 100000
set_option maxHeartbeats 8000000
namespace Mine
theorem fillF14 {w : World} : PySem.Challenge.rw_no0239_01 = PySem.Challenge.rw_no0239_01 ∧ hd.heap_1 w.params = hd.heap_1 w.params := by k_fill; exact ⟨rfl, rfl⟩
theorem rulesF14_1 : True := by
  w_top off
  k_with_none
  k_with "my:pre" => first | assumption | omega
  k_with "my:pre" => first | assumption | omega | exact sgn_nd (by assumption) (by assumption) (Nat.le_trans (wholeF_nd _ (by assumption)) (by omega))
  k_with "noteFrame ref" => (k_here; refine' rr_open ?w1qcx ?w1qF ?w1qex excC44 ?w1qf ?_; (case w1qf => assumption); (case w1qcx => assumption); (case w1qF => k_asm); (case w1qex => k_is); (intro _ _ F'; (have N' := newsB F'); revert F' N'; intro _ _))
  k_with "exec Raise some none" => (k_here; refine raise_start excC63 ?_)
  k_with "call ref" => (k_here; (with_reducible show wpAny _ _ (call (.ref 63) _) _ _ _); refine' rr_made ?w2qcx ?w2qF ?w2qf ?w2qR ?_; (case w2qf => assumption); (case w2qcx => assumption); (case w2qF => k_asm); (case w2qR => first | exact Rn.deeper (by assumption) (by decide)); (intro _ _ _ _))
  k_with "exec Raise some none" => (k_here; refine raise_none excC63 rfl ?_)
  k_with "call ref" => (k_here; (with_reducible show wpAny _ _ (call (.ref 63) _) _ _ _); refine' io_made ?w3qcx ?w3qF ?w3qR ?_; (case w3qcx => assumption); (case w3qF => k_asm); (case w3qR => first | exact Rn.deeper (by assumption) (by decide)); (intro _ _ _ _))
  k_with "leaving ref" => (k_here; refine' fly_pass ?w4qcx ?w4qF ?w4qf ?_; (case w4qf => assumption); (case w4qcx => assumption); (case w4qF => k_asm); (intro _ _))
  k_with "call ref" => (k_here; refine' solid_field_k ?w5qF ?w5qN ?w5qX ?w5qT ?w5qR ?w5qhx ?_; (case w5qF => k_asm); (case w5qN => k_asm); (case w5qX => k_asm); (case w5qT => k_asm); (case w5qR => first | assumption | exact Rn.deeper (by assumption) (by decide) | exact Rn.le (by assumption) (by decide)); (case w5qhx => walk_at "my:pre"); intro _ _ _ _ _; (try dsimp only))
  k_with "call ref" => (k_here; refine' cut_sign_k ?w6qF ?w6qN ?w6qX ?w6qT ?w6qR ?w6qhx ?_; (case w6qF => k_asm); (case w6qN => k_asm); (case w6qX => k_asm); (case w6qT => k_asm); (case w6qR => first | assumption | exact Rn.deeper (by assumption) (by decide) | exact Rn.le (by assumption) (by decide)); (case w6qhx => walk_at "my:pre"); intro _ _ _ _ _ _ _; (try dsimp only))
  k_with "call ref" => (k_here; refine' cut_exponent_k ?w7qF ?w7qN ?w7qX ?w7qT ?w7qR ?w7qhx ?_; (case w7qF => k_asm); (case w7qN => k_asm); (case w7qX => k_asm); (case w7qT => k_asm); (case w7qR => first | assumption | exact Rn.deeper (by assumption) (by decide) | exact Rn.le (by assumption) (by decide)); (case w7qhx => walk_at "my:pre"); intro _ _ _ _ _ _ _; (try dsimp only))
  k_with "call ref" => (k_here; refine' read_figures_k ?w8qF ?w8qN ?w8qcx ?w8qR ?w8qhx ?_ ?_; (case w8qF => k_asm); (case w8qN => k_asm); (case w8qcx => exact Cx.push (by assumption) (by assumption)); (case w8qR => first | assumption | exact Rn.deeper (by assumption) (by decide) | exact Rn.le (by assumption) (by decide)); (case w8qhx => walk_at "my:pre"); all_goals (first | intro _ _ _ _ _ _ _ _ | intro _ _ _ _ _); all_goals (try dsimp only))
  k_with "call ref" => (k_here; refine' field_exponent_k ?w9qF ?w9qN ?w9qcx ?w9qR ?w9qhx ?_ ?_; (case w9qF => k_asm); (case w9qN => k_asm); (case w9qcx => exact Cx.push (by assumption) (by assumption)); (case w9qR => first | assumption | exact Rn.deeper (by assumption) (by decide) | exact Rn.le (by assumption) (by decide)); (case w9qhx => walk_at "my:pre"); all_goals (first | intro _ _ _ _ _ _ | intro _ _ _ _ _); all_goals (try dsimp only))
  k_with "call ref" => (k_here; refine' round_real_k ?w10qF ?w10qN ?w10qcx ?w10qR ?w10qhm ?w10qhdg ?_ ?_ ?_; (case w10qF => k_asm); (case w10qN => k_asm); (case w10qcx => exact Cx.push (by assumption) (by assumption)); (case w10qR => first | assumption | exact Rn.deeper (by assumption) (by decide) | exact Rn.le (by assumption) (by decide)); (case w10qhm => walk_at "my:pre"); (case w10qhdg => walk_at "my:pre"); all_goals (first | intro _ _ _ _ _ _ _ _ | intro _ _ _ _ _ | intro _ _ _ _ _); all_goals (try dsimp only))
  trivial
theorem read_real_b {w : World} {mg mb : PySem.Str → Option Value} {B : Heap} {l : List Env} {s : Shared} {A : Around} {Q E : Value → Shared → Prop} (x_field : List Nat) (t_field : Tok) (x_d : Int) (t_d : Tok) (x_scale : Int) (t_scale : Tok) (x_is_zero : Bool) (x_digits : Int) (t_digits : Tok) (x_top : Int) (t_top : Tok)
    (cx : Cx w mg mb B A l s.heap) (R : Rn A 6) (hx : x_field.length ≤ 40) (hdg : 1 ≤ x_digits ∧ x_digits ≤ 9)
    (hq0 : (solidF x_is_zero x_field ≠ [] ∧ ¬ rBad x_is_zero x_field ∧ ((finI (rSg x_is_zero x_field * rNum x_is_zero x_field) (rPow x_is_zero x_field x_d x_scale) x_digits).1 = 0 ∨ leadI (rSg x_is_zero x_field * rNum x_is_zero x_field) (rPow x_is_zero x_field x_d x_scale) x_digits < -x_top)) → ∀ h' tk, Ext s.heap h' → Q (.ref 66) { s with heap := h', toks := tk })
    (hq : (solidF x_is_zero x_field = [] ∨ (solidF x_is_zero x_field ≠ [] ∧ ¬ rBad x_is_zero x_field ∧ ¬ ((finI (rSg x_is_zero x_field * rNum x_is_zero x_field) (rPow x_is_zero x_field x_d x_scale) x_digits).1 = 0 ∨ leadI (rSg x_is_zero x_field * rNum x_is_zero x_field) (rPow x_is_zero x_field x_d x_scale) x_digits < -x_top) ∧ ¬ leadI (rSg x_is_zero x_field * rNum x_is_zero x_field) (rPow x_is_zero x_field x_d x_scale) x_digits > x_top)) → ∀ D t0 t1 h' tk, Ext s.heap h' → h'.get? D = some (tupO [.int ((if solidF x_is_zero x_field = [] then (0, 0) else finI (rSg x_is_zero x_field * rNum x_is_zero x_field) (rPow x_is_zero x_field x_d x_scale) x_digits).1) t0, .int ((if solidF x_is_zero x_field = [] then (0, 0) else finI (rSg x_is_zero x_field * rNum x_is_zero x_field) (rPow x_is_zero x_field x_d x_scale) x_digits).2) t1]) → s.heap.get? D = none → Q (.ref D) { s with heap := h', toks := tk })
    (he0 : (solidF x_is_zero x_field ≠ [] ∧ rBad x_is_zero x_field) → ∀ e h' tk, Fly (fsOf l) s.heap 63 e (ioQ 1) h' → E (.ref e) { s with heap := h', toks := tk })
    (he1 : (solidF x_is_zero x_field ≠ [] ∧ ¬ rBad x_is_zero x_field ∧ ¬ ((finI (rSg x_is_zero x_field * rNum x_is_zero x_field) (rPow x_is_zero x_field x_d x_scale) x_digits).1 = 0 ∨ leadI (rSg x_is_zero x_field * rNum x_is_zero x_field) (rPow x_is_zero x_field x_d x_scale) x_digits < -x_top) ∧ leadI (rSg x_is_zero x_field * rNum x_is_zero x_field) (rPow x_is_zero x_field x_d x_scale) x_digits > x_top) → ∀ e h' tk, Fly (fsOf l) s.heap 63 e (ioQ 2) h' → E (.ref e) { s with heap := h', toks := tk }) :
    wpAny (model PySem.Challenge.rw_no0239_01.row.prog w) A (call (.ref 157) [.str (S x_field) t_field, .int x_d t_d, .int x_scale t_scale, .bool x_is_zero, .int x_digits t_digits, .int x_top t_top]) Q E s := by
  have X := cx.In
  obtain ⟨pg, lse, mean, T⟩ := cx.Top
  obtain ⟨ah, ad, af, ag, au⟩ := A
  obtain rfl : ah = none := R.h
  refine wpAny_call ?_
  refine call_q [("field", .str (S x_field) t_field), ("d", .int x_d t_d), ("scale", .int x_scale t_scale), ("is_zero", .bool x_is_zero), ("digits", .int x_digits t_digits), ("top", .int x_top t_top)] (by have := R.d; omega) (X 157 _ (by k_is)) rfl T.nolimit (codeRec_of X (by k_is)) rfl (locs rfl) ?_ rfl rfl rfl (by decide)
  intro h₁ F
  have N : News s.heap s.heap.objs.size h₁ [] := News.nil
  have l1 := solidF_len x_is_zero x_field
  have l2 := signF_len (solidF x_is_zero x_field)
  have l3 := cutF_len (signF (solidF x_is_zero x_field)).2
  have l4 := figF_len (cutF (signF (solidF x_is_zero x_field)).2).1
  obtain ⟨ls1, ls2⟩ := signF_rng (solidF x_is_zero x_field)
  have XB := cx.X
  obtain ⟨pgB, lseB, meanB, TB⟩ := cx.T
  k_steps
  all_goals first
    | (have e := nilS (by assumption); rw [if_pos e] at hq; (rename News _ _ _ _ => nn; rename Fr _ _ _ _ => ff); exact hq (.inl e) _ _ _ _ _ ff.keep (nn _ (.head _)).1 (nn _ (.head _)).2.2)
    | exact he0 ⟨nonilS (by assumption), .inl (by assumption)⟩ _ _ _ (by assumption)
    | exact he0 ⟨nonilS (by assumption), .inr ⟨by assumption, by assumption⟩⟩ _ _ _ (by assumption)
    | ((have ne := nonilS (l := solidF x_is_zero x_field) (by assumption));
       (first
        | ((have eP := rPow_t (d := x_d) (sc := x_scale) (z := x_is_zero) (x := x_field) (by assumption)); (have nb := nb_t (z := x_is_zero) (x := x_field) (by assumption) (by assumption)))
        | ((have eP := rPow_f (d := x_d) (sc := x_scale) (z := x_is_zero) (x := x_field) (by assumption)); (have nb := nb_f (z := x_is_zero) (x := x_field) (by assumption) (by assumption))));
       rw [eP] at hq0 hq he1; rw [if_neg ne] at hq;
       (first
        | exact hq0 ⟨ne, nb, by assumption⟩ _ _ (Fr.keep (by assumption))
        | ((rename News _ _ _ _ => nn; rename Fr _ _ _ _ => ff); exact hq (.inr ⟨ne, nb, by assumption⟩) _ _ _ _ _ ff.keep (nn _ (.head _)).1 (nn _ (.head _)).2.2)
        | exact he1 ⟨ne, nb, by assumption⟩ _ _ _ (by assumption)))

theorem read_real_k {w : World} {mg mb : PySem.Str → Option Value} {B : Heap} {l : List Env} {s : Shared} {A : Around} {Q E : Value → Shared → Prop} {h₀ : Heap} {L : Addr} {m : PySem.Str → Option Value} {news : List (Addr × Obj)} {x_field : List Nat} {t_field : Tok} {x_d : Int} {t_d : Tok} {x_scale : Int} {t_scale : Tok} {x_is_zero : Bool} {x_digits : Int} {t_digits : Tok} {x_top : Int} {t_top : Tok}
    (F : Fr h₀ L s.heap m) (N : News h₀ L s.heap news) (cx : Cx w mg mb B A l s.heap) (R : Rn A 6) (hx : x_field.length ≤ 40) (hdg : 1 ≤ x_digits ∧ x_digits ≤ 9)
    (hq0 : (solidF x_is_zero x_field ≠ [] ∧ ¬ rBad x_is_zero x_field ∧ ((finI (rSg x_is_zero x_field * rNum x_is_zero x_field) (rPow x_is_zero x_field x_d x_scale) x_digits).1 = 0 ∨ leadI (rSg x_is_zero x_field * rNum x_is_zero x_field) (rPow x_is_zero x_field x_d x_scale) x_digits < -x_top)) → ∀ h' tk, Fr h₀ L h' m → News h₀ L h' news → Q (.ref 66) { s with heap := h', toks := tk })
    (hq : (solidF x_is_zero x_field = [] ∨ (solidF x_is_zero x_field ≠ [] ∧ ¬ rBad x_is_zero x_field ∧ ¬ ((finI (rSg x_is_zero x_field * rNum x_is_zero x_field) (rPow x_is_zero x_field x_d x_scale) x_digits).1 = 0 ∨ leadI (rSg x_is_zero x_field * rNum x_is_zero x_field) (rPow x_is_zero x_field x_d x_scale) x_digits < -x_top) ∧ ¬ leadI (rSg x_is_zero x_field * rNum x_is_zero x_field) (rPow x_is_zero x_field x_d x_scale) x_digits > x_top)) → ∀ D t0 t1 h' tk, Fr h₀ L h' m → News h₀ L h' ((D, tupO [.int ((if solidF x_is_zero x_field = [] then (0, 0) else finI (rSg x_is_zero x_field * rNum x_is_zero x_field) (rPow x_is_zero x_field x_d x_scale) x_digits).1) t0, .int ((if solidF x_is_zero x_field = [] then (0, 0) else finI (rSg x_is_zero x_field * rNum x_is_zero x_field) (rPow x_is_zero x_field x_d x_scale) x_digits).2) t1]) :: news) → Q (.ref D) { s with heap := h', toks := tk })
    (he0 : (solidF x_is_zero x_field ≠ [] ∧ rBad x_is_zero x_field) → ∀ e h' tk, Fly (fsOf l) s.heap 63 e (ioQ 1) h' → E (.ref e) { s with heap := h', toks := tk })
    (he1 : (solidF x_is_zero x_field ≠ [] ∧ ¬ rBad x_is_zero x_field ∧ ¬ ((finI (rSg x_is_zero x_field * rNum x_is_zero x_field) (rPow x_is_zero x_field x_d x_scale) x_digits).1 = 0 ∨ leadI (rSg x_is_zero x_field * rNum x_is_zero x_field) (rPow x_is_zero x_field x_d x_scale) x_digits < -x_top) ∧ leadI (rSg x_is_zero x_field * rNum x_is_zero x_field) (rPow x_is_zero x_field x_d x_scale) x_digits > x_top) → ∀ e h' tk, Fly (fsOf l) s.heap 63 e (ioQ 2) h' → E (.ref e) { s with heap := h', toks := tk }) :
    wpAny (model PySem.Challenge.rw_no0239_01.row.prog w) A (call (.ref 157) [.str (S x_field) t_field, .int x_d t_d, .int x_scale t_scale, .bool x_is_zero, .int x_digits t_digits, .int x_top t_top]) Q E s :=
  read_real_b _ _ _ _ _ _ _ _ _ _ _ cx R hx hdg (fun c h' tk x => hq0 c h' tk (F.keeps x) (news_ext N x)) (fun c D t0' t1' h' tk x y z => hq c D t0' t1' h' tk (F.keeps x) (news_cons F N x y z)) he0 he1

end Mine
end
section
open PySem PySem.W PyProof.Rows PySem.Calls PySem.Builtin PySem.Builtin.Str
set_option Elab.async false
namespace Mine
theorem rulesTxt8_0 : True := by
  w_top off
  k_with_none
  trivial
theorem S_of (x : PySem.Str) : x = S x.cps.toList := (S_cps x).symm
section
variable {l : List Nat} {x : PySem.Str}
theorem lb_turn (h1 : x.length ≤ l.length) (h2 : bareF x.cps.toList = bareF l) (h : (Txt.slice x none (some 1) == PySem.Str.ofString " ") = true) :
    (Txt.slice x (some 1) none).length ≤ l.length ∧ bareF (Txt.slice x (some 1) none).cps.toList = bareF l := by
  rw [S_of x] at *
  generalize x.cps.toList = r at *
  rw [slice_to _ _ (by decide), lit_blank, S_beq] at h
  rw [slice_from _ _ (by decide), S_len]
  rw [S_len] at h1
  have e : (S r).cps.toList = r := by simp [S]
  have e' : (S (r.drop (1 : Int).toNat)).cps.toList = r.drop 1 := by simp [S]
  rw [e] at h2; rw [e']
  cases r with
  | nil => simp at h
  | cons c r =>
    have hc : c = 32 := by simpa using h
    subst hc
    refine ⟨by simp at h1 ⊢; omega, ?_⟩
    rw [← h2]; rfl
theorem lb_less (h : (Txt.slice x none (some 1) == PySem.Str.ofString " ") = true) : (Txt.slice x (some 1) none).length < x.length := by
  rw [S_of x] at *
  generalize x.cps.toList = r at *
  rw [slice_to _ _ (by decide), lit_blank, S_beq] at h
  rw [slice_from _ _ (by decide), S_len, S_len]
  cases r with
  | nil => simp at h
  | cons c r => simp
theorem lb_end (h2 : bareF x.cps.toList = bareF l) (h : (Txt.slice x none (some 1) == PySem.Str.ofString " ") = false) : x = S (bareF l) := by
  rw [S_of x] at h ⊢
  generalize x.cps.toList = r at *
  rw [slice_to _ _ (by decide), lit_blank, S_beq] at h
  rw [← h2]
  cases r with
  | nil => rfl
  | cons c r =>
    have hc : c ≠ 32 := by simpa using h
    unfold bareF
    rw [List.dropWhile_cons, if_neg (by simpa using hc)]
theorem lb_start : (S l).length ≤ l.length ∧ bareF (S l).cps.toList = bareF l := ⟨by rw [S_len]; exact Nat.le_refl _, by simp [S]⟩
end
end Mine
end
section
open PySem PySem.W PyProof.Rows PySem.Calls
set_option Elab.async false
set_option maxRecDepth 100000
set_option maxHeartbeats 8000000
namespace Mine
theorem fillF15 {w : World} : PySem.Challenge.rw_no0239_01 = PySem.Challenge.rw_no0239_01 ∧ hd.heap_1 w.params = hd.heap_1 w.params := by k_fill; exact ⟨rfl, rfl⟩
theorem rulesF15_1 : True := by
  w_top off
  k_with_none
  k_with "my:pre" => first | assumption | omega
  k_with "my:go" => repeat' ((fail_if_success (with_reducible show wpAny _ _ (exec (Stmt.While _ _ _ _) _) _ _ _)); (first | (k_unfold; (try dsimp only)) | walk1 | (dsimp only; walk1) | (leave1; walk_say "STEP leave1"; try dsimp only)))
  trivial
theorem law_bare_b {w : World} {mg mb : PySem.Str → Option Value} {mean : ExcName → Option Value} {pg : PySem.Program} {lse : List PySem.Str} {s : Shared} {A : Around} {Q E : Value → Shared → Prop} (x_sheet : List Nat) (t_sheet : Tok)
    (X : (hd.heap_1 w.params).In s.heap) (T : Top pg lse mean mg mb s.heap) (R : Rn A 1) (hx : x_sheet.length < 200)
    (hq : ∀ t h' tk, Ext s.heap h' → Q (.str (S (bareF x_sheet)) t) { s with heap := h', toks := tk }) :
    wpAny (model PySem.Challenge.rw_no0239_01.row.prog w) A (call (.ref 210) [.str (S x_sheet) t_sheet]) Q E s := by
  obtain ⟨ah, ad, af, ag, au⟩ := A
  obtain rfl : ah = none := R.h
  refine wpAny_call ?_
  refine call_q [("sheet", .str (S x_sheet) t_sheet)] (by have := R.d; omega) (X 210 _ (by k_is)) rfl T.nolimit (codeRec_of X (by k_is)) rfl (locs rfl) ?_ rfl rfl rfl (by decide)
  intro h₁ F
  have N : News s.heap s.heap.objs.size h₁ [] := News.nil
  have hxS : (S x_sheet).length < 200 := S_lt hx
  (k_with "state" => first | exact lb_start | exact lb_turn (by assumption) (by assumption) (by assumption))
  (k_with "measure" => exact lb_less (by assumption))
  walk_at "my:go"
  k_while (fun (_ : List Int) (sheet : PySem.Str) => sheet.length ≤ x_sheet.length ∧ bareF sheet.cps.toList = bareF x_sheet) (fun (_ : List Int) (sheet : PySem.Str) => sheet.length) "sheet"
  walk_at "my:go"
  exact q_str (hq _ _ _ (Fr.keep (by assumption))) (lb_end (by assumption) (by assumption))

theorem law_bare_k {w : World} {mg mb : PySem.Str → Option Value} {mean : ExcName → Option Value} {pg : PySem.Program} {lse : List PySem.Str} {s : Shared} {A : Around} {Q E : Value → Shared → Prop} {h₀ : Heap} {L : Addr} {m : PySem.Str → Option Value} {news : List (Addr × Obj)} {x_sheet : List Nat} {t_sheet : Tok}
    (F : Fr h₀ L s.heap m) (N : News h₀ L s.heap news) (X : (hd.heap_1 w.params).In h₀) (T : Top pg lse mean mg mb h₀) (R : Rn A 1) (hx : x_sheet.length < 200)
    (hq : ∀ t h' tk, Fr h₀ L h' m → News h₀ L h' news → Q (.str (S (bareF x_sheet)) t) { s with heap := h', toks := tk }) :
    wpAny (model PySem.Challenge.rw_no0239_01.row.prog w) A (call (.ref 210) [.str (S x_sheet) t_sheet]) Q E s :=
  law_bare_b _ _ (X.keeps F.keep) (T.keeps F.keep) R hx (fun t h' tk x => hq t h' tk (F.keeps x) (news_ext N x)) 

end Mine
end
section
open PySem PySem.W PyProof.Rows PySem.Calls PySem.Builtin PySem.Builtin.Str
set_option Elab.async false
namespace Mine
theorem rulesTxt9_0 : True := by
  w_top off
  k_with_none
  trivial
theorem carried_nil {ys : List Value} {ds : List PyData} (h : CarriedAll ys ds) : ys.isEmpty = ds.isEmpty := by cases h <;> rfl
section
variable {prog : Program} {w : World} {A : Around} {E : Value → Shared → Prop} {s : Shared} {Q : Value → Shared → Prop}
theorem ne_nil {D l' : Addr} {ys : List Value} {xs : List PySem.Str} (hl : s.heap.IsList D ys.toArray) (hy : CarriedAll ys (xs.map PyData.str)) (hb : s.heap.IsList l' #[]) (hu : A.units < cLine) (h : Q (.bool (!xs.isEmpty)) s) :
    wpAny (model prog w) A (compareOp .NotEq (.ref D) (.ref l')) Q E s := by
  have e := carried_nil hy
  have e2 : (xs.map PyData.str).isEmpty = xs.isEmpty := by cases xs <;> rfl
  rw [e2] at e
  rw [← e] at h
  refine cmp_ofNotEq ?_
  cases ys with
  | nil => exact SeqAt.RcNeAt.lists (e := fun _ => true) hl hb rfl hu (fun j h1 _ => absurd h1 (Nat.not_lt_zero j)) prog w E Q h
  | cons y ys => exact SeqAt.RcNeAt.lists_lengths hl hb rfl hu prog w E Q h
theorem int_S {l : List Nat} {t : Tok} (hl : l.length ≤ 640) (hne : l ≠ []) (hd : l.all isDig = true) (h : Q (.int (valN l) s.toks) { s with toks := s.toks + 1 }) :
    wpAny (model prog w) A (call (.type "int") [.str (S l) t]) Q E s := by
  have e : (S l).cps.toList = l := by simp [S]
  refine KIN.call_text (n := ((valN l : Nat) : Int)) ?_ (by rw [S_len]; exact hl) h
  have := PySem.intText_digits (x := S l) (by rw [e]; intro c hc; have := List.all_eq_true.mp hd c hc; unfold isDig at this; simpa using this) (by rw [e]; exact hne) (by rw [S_len]; omega)
  rw [e] at this
  exact this
end
theorem occ_one (l : List Nat) (c : Nat) : (occurrences (S l) (S [c]) 0 (S l).length 1).isEmpty = decide (c ∉ l) := by
  rcases StrLaws.occ_head (S l) (S [c]) 1 (Nat.le_refl _) with ⟨h0, hn⟩ | ⟨i, r, h0, ha, hn⟩
  · rw [h0]
    have : c ∉ l := fun hm => by
      obtain ⟨i, hi, e⟩ := List.getElem_of_mem hm
      exact hn i ((at_one l c i).mpr (by rw [List.getElem?_eq_getElem hi, e]))
    simp [this]
  · rw [h0]
    have h1 := (at_one l c i).mp ha
    simp [List.mem_of_getElem? h1]
theorem signs_S (l : List Nat) : signs (S l) = l.map fun c => S [c] := by simp [signs, S]
theorem notdig (c : Nat) : (!!(occurrences (PySem.Str.ofString "0123456789") (S [c]) 0 (PySem.Str.ofString "0123456789").length 1).isEmpty) = !isDig c := by
  rw [lit_fig, occ_one, Bool.not_not]
  have := find_fig c
  unfold findF at this
  by_cases h : c ∈ [48,49,50,51,52,53,54,55,56,57]
  · rw [if_pos h] at this
    cases hd : isDig c
    · rw [hd] at this; simp at this
    · simp [h]
  · rw [if_neg h] at this
    cases hd : isDig c
    · simp [h]
    · rw [hd] at this; simp at this
theorem filt_S (l : List Nat) : (List.filter (fun a => !!(occurrences (PySem.Str.ofString "0123456789") a 0 (PySem.Str.ofString "0123456789").length 1).isEmpty) (signs (S l))).isEmpty = l.all isDig := by
  rw [signs_S]
  induction l with
  | nil => rfl
  | cons c r ih =>
    rw [List.map_cons, List.filter_cons, notdig, List.all_cons]
    cases hd : isDig c
    · simp
    · simpa using ih
noncomputable def lawBody (l : List Nat) : List Nat := if l.take 1 == [43] || l.take 1 == [45] then l.drop 1 else l
noncomputable def lawWhole (l : List Nat) : Option Int := if lawBody l = [] ∨ (lawBody l).all isDig = false then none else some (if l.take 1 == [45] then -(valN (lawBody l) : Int) else valN (lawBody l))
end Mine
namespace Mine
theorem slice1 (l : List Nat) : Txt.slice (S l) (some 1) none = S (l.drop 1) := slice_from _ _ (by decide)
section
variable {prog : Program} {w : World} {A : Around} {E : Value → Shared → Prop} {s : Shared} {Q : Value → Shared → Prop}
theorem ne_dig {D l' : Addr} {ys : List Value} {X : PySem.Str} {l : List Nat} (hX : X = S l) (hl : s.heap.IsList D ys.toArray)
    (hy : CarriedAll ys ((List.filter (fun a => !!(occurrences (PySem.Str.ofString "0123456789") a 0 (PySem.Str.ofString "0123456789").length 1).isEmpty) (signs X)).map PyData.str)) (hb : s.heap.IsList l' #[]) (hu : A.units < cLine)
    (h : Q (.bool (!l.all isDig)) s) : wpAny (model prog w) A (compareOp .NotEq (.ref D) (.ref l')) Q E s := by
  subst hX
  refine ne_nil hl hy hb hu ?_
  rw [filt_S]; exact h
end
theorem Rn.units {A : Around} {n : Nat} {env : Env} (r : Rn A n) (h : 1 ≤ n) : (A.deeper env).units < cLine := by
  have := (Rn.deeper (env := env) (n := 0) r h).u; omega
theorem Rn.units0 {A : Around} {n : Nat} (r : Rn A n) : A.units < cLine := by have := r.u; omega
end Mine
namespace Mine
section
variable {l : List Nat} {b : Bool}
theorem any_sg (h : ([PySem.Str.ofString "+", PySem.Str.ofString "-"].any fun x => x == Txt.slice (S l) none (some 1)) = b) : (l.take 1 == [43] || l.take 1 == [45]) = b := by
  rw [← h, slice_to _ _ (by decide), lit_plus, lit_minus]
  simp only [List.any_cons, List.any_nil, S_beq, Bool.or_false]
  show (l.take 1 == [43] || l.take 1 == [45]) = ([43] == l.take 1 || [45] == l.take 1)
  rw [show ([43] == l.take 1) = (l.take 1 == [43]) from Bool.beq_comm, show ([45] == l.take 1) = (l.take 1 == [45]) from Bool.beq_comm]
theorem item0_minus (hne : l ≠ []) (h : (Txt.item (S l) 0 == PySem.Str.ofString "-") = b) : (l.take 1 == [45]) = b := by
  cases l with
  | nil => exact absurd rfl hne
  | cons c r =>
    have e := item_S (c :: r) (n := 0) (k := 0) rfl (by simp)
    rw [e, lit_minus, one_beq] at h
    simpa using h
theorem drop_ne (h : l.drop 1 ≠ []) : l ≠ [] := by rintro rfl; exact h rfl
theorem lw_body1 (h : (l.take 1 == [43] || l.take 1 == [45]) = true) : lawBody l = l.drop 1 := by unfold lawBody; rw [if_pos h]
theorem lw_body0 (h : (l.take 1 == [43] || l.take 1 == [45]) = false) : lawBody l = l := by unfold lawBody; rw [if_neg (by rw [h]; decide)]
theorem lw_nil (h : lawBody l = []) : lawWhole l = none := by unfold lawWhole; rw [if_pos (.inl h)]
theorem lw_bad (h : (lawBody l).all isDig = false) : lawWhole l = none := by unfold lawWhole; rw [if_pos (.inr h)]
theorem lw_ok (h1 : lawBody l ≠ []) (h : (lawBody l).all isDig = true) (h2 : (l.take 1 == [45]) = b) : lawWhole l = some (if b then -(valN (lawBody l) : Int) else valN (lawBody l)) := by
  unfold lawWhole; rw [if_neg (fun z => z.elim h1 fun y => by rw [h] at y; cases y), h2]
end
end Mine
end
section
open PySem PySem.W PyProof.Rows PySem.Calls
set_option Elab.async false
set_option maxRecDepth 100000
set_option maxHeartbeats 8000000
namespace Mine
theorem fillF16 {w : World} : PySem.Challenge.rw_no0239_01 = PySem.Challenge.rw_no0239_01 ∧ hd.heap_1 w.params = hd.heap_1 w.params := by k_fill; exact ⟨rfl, rfl⟩
theorem rulesF16_1 : True := by
  w_top off
  k_with_none
  k_with "my:pre" => first | assumption | omega
  k_with "compareOp NotEq ref ref" => (k_here; refine' ne_dig ?w1qX ?w1ql ?w1qy ?w1qb ?w1qu ?_; (case w1qy => assumption); (case w1qX => first | exact slice1 _ | rfl); (case w1ql => is_list); (case w1qb => is_list); (case w1qu => first | exact Rn.units (by assumption) (by decide) | exact Rn.units0 (by assumption)))
  k_with "call type:int" => (k_here; (try rw [slice1]); refine' int_S ?w2ql ?w2qne ?w2qd ?_; (case w2ql => first | omega | (simp; omega)); (case w2qne => first | exact nonilS (by assumption) | exact nonilS (by rw [← slice1]; assumption)); (case w2qd => first | assumption | (simpa using ‹(!List.all _ _) = false›)))
  trivial
theorem law_whole_b {w : World} {mg mb : PySem.Str → Option Value} {mean : ExcName → Option Value} {pg : PySem.Program} {lse : List PySem.Str} {s : Shared} {A : Around} {Q E : Value → Shared → Prop} (x_text : List Nat) (t_text : Tok)
    (X : (hd.heap_1 w.params).In s.heap) (T : Top pg lse mean mg mb s.heap) (R : Rn A 3) (hx : x_text.length < 200)
    (hq0 : (lawWhole x_text = none) → ∀ h' tk, Ext s.heap h' → Q (.none) { s with heap := h', toks := tk })
    (hq : ¬ (lawWhole x_text = none) → ∀ t h' tk, Ext s.heap h' → Q (.int ((lawWhole x_text).getD 0) t) { s with heap := h', toks := tk }) :
    wpAny (model PySem.Challenge.rw_no0239_01.row.prog w) A (call (.ref 215) [.str (S x_text) t_text]) Q E s := by
  obtain ⟨ah, ad, af, ag, au⟩ := A
  obtain rfl : ah = none := R.h
  refine wpAny_call ?_
  refine call_q [("text", .str (S x_text) t_text)] (by have := R.d; omega) (X 215 _ (by k_is)) rfl T.nolimit (codeRec_of X (by k_is)) rfl (locs rfl) ?_ rfl rfl rfl (by decide)
  intro h₁ F
  have N : News s.heap s.heap.objs.size h₁ [] := News.nil
  have hxS : (S x_text).length < 200 := S_lt hx
  k_steps
  all_goals (have ea := any_sg (l := x_text) (by assumption))
  all_goals first | (have eb := lw_body1 ea) | (have eb := lw_body0 ea)
  all_goals (try rw [slice1] at *)
  all_goals dsimp only
  all_goals first
    | ((have e := lw_nil (l := x_text) (by rw [eb]; exact nilS (by assumption))); exact hq0 e _ _ (Fr.keep (by assumption)))
    | ((have e := lw_bad (l := x_text) (by rw [eb]; assumption)); exact hq0 e _ _ (Fr.keep (by assumption)))
    | ((have ne := nonilS (by assumption)); (have n0 : x_text ≠ [] := by first | exact ne | exact drop_ne ne); (have e := lw_ok (l := x_text) (by rw [eb]; exact ne) (by rw [eb]; assumption) (item0_minus n0 (by assumption))); rw [e, eb] at hq; exact hq (by simp) _ _ _ (Fr.keep (by assumption)))

theorem law_whole_k {w : World} {mg mb : PySem.Str → Option Value} {mean : ExcName → Option Value} {pg : PySem.Program} {lse : List PySem.Str} {s : Shared} {A : Around} {Q E : Value → Shared → Prop} {h₀ : Heap} {L : Addr} {m : PySem.Str → Option Value} {news : List (Addr × Obj)} {x_text : List Nat} {t_text : Tok}
    (F : Fr h₀ L s.heap m) (N : News h₀ L s.heap news) (X : (hd.heap_1 w.params).In h₀) (T : Top pg lse mean mg mb h₀) (R : Rn A 3) (hx : x_text.length < 200)
    (hq0 : (lawWhole x_text = none) → ∀ h' tk, Fr h₀ L h' m → News h₀ L h' news → Q (.none) { s with heap := h', toks := tk })
    (hq : ¬ (lawWhole x_text = none) → ∀ t h' tk, Fr h₀ L h' m → News h₀ L h' news → Q (.int ((lawWhole x_text).getD 0) t) { s with heap := h', toks := tk }) :
    wpAny (model PySem.Challenge.rw_no0239_01.row.prog w) A (call (.ref 215) [.str (S x_text) t_text]) Q E s :=
  law_whole_b _ _ (X.keeps F.keep) (T.keeps F.keep) R hx (fun c h' tk x => hq0 c h' tk (F.keeps x) (news_ext N x)) (fun c t h' tk x => hq c t h' tk (F.keeps x) (news_ext N x)) 

end Mine
end
section
open PySem PySem.W PyProof.Rows PySem.Calls
set_option Elab.async false
namespace Mine
theorem rulesTokM_0 : True := by
  w_top off
  k_with_none
  trivial
theorem runs_toks {M : Model} {Γ : Ctx} {p : Pos} {t : Sem Fin} {fs : List Frame} {s : Shared} {e : End} {s' : Shared} (h : Runs M Γ p t fs s e s') : s.toks ≤ s'.toks := by
  induction h <;> (try dsimp only [Shared.setGen] at *) <;> first | exact Nat.le_refl _ | assumption | lia
theorem wakes_toks {M : Model} {Γ : Ctx} {p : Pos} {g : Nat} {r : Resume} {s : Shared} {res : GenResult} {s' : Shared} (h : Wakes M Γ p g r s res s') : s.toks ≤ s'.toks := by
  unfold Wakes at h
  split at h
  · exact h.elim
  · split at h
    · obtain ⟨e, s₁, hr, _, _, rfl⟩ := h
      have q := runs_toks hr
      exact q
    · rw [h.2]; exact Nat.le_refl _
    · rw [h.2]; exact Nat.le_refl _
  · obtain ⟨e, s₁, hr, _, _, rfl⟩ := h
    have q := runs_toks hr
    exact q
  all_goals first | (rw [h.2]; exact Nat.le_refl _) | exact h.elim
theorem wp_toks {α : Type} {M : Model} {Γ : Ctx} (t : Sem α) {n : Nat} {Q : α → Pos → Shared → Prop} {E : Value → Pos → Shared → Prop} : ∀ {p : Pos} {s : Shared}, n ≤ s.toks →
    Sem.wp M Γ t (fun a p s' => n ≤ s'.toks → Q a p s') (fun e p s' => n ≤ s'.toks → E e p s') p s → Sem.wp M Γ t Q E p s := by
  induction t with
  | pure a => intro p s hn h; simp only [Sem.wp] at *; exact h hn
  | raise e => intro p s hn h; simp only [Sem.wp] at *; exact h hn
  | unsupported w => intro p s hn h; simp only [Sem.wp] at *
  | finish e => intro p s hn h; simp only [Sem.wp] at *
  | rule tag k ih => intro p s hn h; simp only [Sem.wp] at *; exact ih _ hn h
  | «at» pos k ih => intro p s hn h; simp only [Sem.wp] at *; exact ih _ hn h
  | load a part k ih => intro p s hn h; simp only [Sem.wp] at *; obtain ⟨o, a, b⟩ := h; exact ⟨o, a, ih _ hn b⟩
  | update a part f k ih => intro p s hn h; simp only [Sem.wp] at *; exact ⟨h.1, ih () (s := { s with heap := s.heap.update a f }) hn h.2⟩
  | alloc o k ih => intro p s hn h; simp only [Sem.wp] at *; exact ih _ (s := { s with heap := s.heap.push o }) hn h
  | loadIfAlive a k ih => intro p s hn h; simp only [Sem.wp] at *; exact ih _ hn h
  | point l k ih => intro p s hn h; simp only [Sem.wp] at *; exact ih _ hn h
  | register a k ih => intro p s hn h; simp only [Sem.wp] at *
  | fresh k ih => intro p s hn h; simp only [Sem.wp] at *; exact ih _ (s := { s with toks := s.toks + 1 }) (Nat.le_succ_of_le hn) h
  | ask k ih => intro p s hn h; simp only [Sem.wp] at *; exact ih _ hn h
  | choose src m k ih => intro p s hn h; simp only [Sem.wp] at *; exact ⟨h.1, ih _ (s := { s with drawn := s.drawn.bump src }) hn h.2⟩
  | os q l k ih => intro p s hn h; simp only [Sem.wp] at *; exact ih _ (s := { s with os := (Os.step s.os q).1 }) hn h
  | call c hd g l k ih =>
    intro p s hn h; simp only [Sem.wp] at *
    obtain ⟨r, s', hr, h⟩ := h
    exact ⟨r, s', hr, ih _ (Nat.le_trans hn (runs_toks hr)) h⟩
  | handled own k ih => intro p s hn h; simp only [Sem.wp] at *; exact ih _ hn h
  | newGen c k ih => intro p s hn h; simp only [Sem.wp] at *; exact ih _ (s := { s with gens := s.gens.push (.fresh c) }) hn h
  | genState g k ih => intro p s hn h; simp only [Sem.wp] at *; obtain ⟨o, a, b⟩ := h; exact ⟨o, a, ih _ hn b⟩
  | resume g r l k ih =>
    intro p s hn h; simp only [Sem.wp] at *
    obtain ⟨r, s', hr, h⟩ := h
    exact ⟨r, s', hr, ih _ (Nat.le_trans hn (wakes_toks hr)) h⟩
  | «yield» v g l k ih => intro p s hn h; simp only [Sem.wp] at *
  | stack k ih => intro p s hn h; simp only [Sem.wp] at *; exact ih _ hn h
  | fork c k ih => intro p s hn h; simp only [Sem.wp] at *
  | thread k ih => intro p s hn h; simp only [Sem.wp] at *; exact ih _ hn h
  | await a t d l k ih => intro p s hn h; simp only [Sem.wp] at *
/-- what runs lowers no token -/
theorem wpAny_tok {α : Type} {M : Model} {A : Around} {t : Sem α} {Q : α → Shared → Prop} {E : Value → Shared → Prop} {s : Shared}
    (h : wpAny M A t (fun a s' => s.toks ≤ s'.toks → Q a s') (fun e s' => s.toks ≤ s'.toks → E e s') s) : wpAny M A t Q E s :=
  fun Γ p hΓ => wp_toks t (Nat.le_refl _) (h Γ p hΓ)
end Mine
end
section
open PySem PySem.W PyProof.Rows PySem.Calls PySem.Builtin PySem.Builtin.Str
set_option Elab.async false
namespace Mine
theorem rulesTxt10_0 : True := by
  w_top off
  k_with_none
  trivial
noncomputable def replF (f : List Nat) (l : List Nat) : List Nat := l.flatMap fun c => if c = 32 then f else [c]
theorem replF_app (f a b : List Nat) : replF f (a ++ b) = replF f a ++ replF f b := by simp [replF]
theorem replF_free (f : List Nat) {l : List Nat} (h : 32 ∉ l) : replF f l = l := by
  induction l with
  | nil => rfl
  | cons c r ih =>
    have h1 : ¬ c = 32 := fun e => h (by simp [e])
    show (if c = 32 then f else [c]) ++ replF f r = c :: r
    rw [if_neg h1, ih fun m => h (.tail _ m)]; rfl
theorem replF_join (z : PySem.Str) : ∀ parts : List PySem.Str, (∀ p ∈ parts, 32 ∉ p.cps.toList) → replF z.cps.toList (Str.join ⟨#[32]⟩ parts).cps.toList = (Str.join z parts).cps.toList
  | [], _ => rfl
  | [p], h => replF_free _ (h p (List.mem_singleton.mpr rfl))
  | p :: q :: r, h => by
    have ih := replF_join z (q :: r) fun a ha => h a (List.mem_cons_of_mem _ ha)
    show replF _ (p ++ ⟨#[32]⟩ ++ Str.join ⟨#[32]⟩ (q :: r)).cps.toList = (p ++ z ++ Str.join z (q :: r)).cps.toList
    simp only [Str.cps_append, Array.toList_append]
    rw [replF_app, replF_app, ih, replF_free _ (h p (List.mem_cons_self ..))]
    show p.cps.toList ++ replF _ [32] ++ _ = _
    have : replF z.cps.toList [32] = z.cps.toList := by simp [replF]
    rw [this]
theorem replace_S (l f : List Nat) : Txt.replace (S l) (S [32]) (S f) = S (replF f l) := by
  have e : Txt.replace (S l) ⟨#[32]⟩ (S f) = S (replF f l) := by
    have h1 : (Txt.replace (S l) ⟨#[32]⟩ (S f)).cps.toList = replF f l := by
      have := replF_join (S f) _ (StrLaws.split_free (S l) 32)
      rw [StrLaws.join_split] at this
      rw [StrLaws.replace_one, ← this]; simp [S]
    rw [S_of (Txt.replace (S l) ⟨#[32]⟩ (S f)), h1]
  exact e
theorem replF_len {f l : List Nat} (h : f.length ≤ 1) : (replF f l).length ≤ l.length := by
  induction l with
  | nil => simp [replF]
  | cons c r ih =>
    show ((if c = 32 then f else [c]) ++ replF f r).length ≤ _
    rw [List.length_append, List.length_cons]
    split <;> (try simp) <;> omega
theorem bareF_len (l : List Nat) : (bareF l).length ≤ l.length := by
  unfold bareF; exact (List.dropWhile_sublist _).length_le
noncomputable def fillF (z : Bool) : List Nat := if z then [48] else []
theorem fillF_len (z : Bool) : (fillF z).length ≤ 1 := by cases z <;> simp [fillF]
section
variable {prog : Program} {w : World} {A : Around} {E : Value → Shared → Prop} {s : Shared} {Q : Value → Shared → Prop}
theorem call_repl {l : List Nat} {z : Bool} {t u v : Tok} (hl : l.length < 200) (hv : 0 < v) (huv : v < u)
    (hq : ∀ t' k, Q (.str (S (replF (fillF z) l)) t') { s with toks := k }) : wpAny (model prog w) A (call (.builtin "str.replace") [.str (S l) t, .str (PySem.Str.ofString " ") u, .str (S (fillF z)) v]) Q E s := by
  refine SC.replaceW (Nat.ne_of_gt (Nat.lt_trans hv huv)) (Nat.ne_of_gt hv) (Nat.ne_of_gt huv) ?_ (by rw [S_len]; omega) (by rw [S_len]; have := fillF_len z; omega) fun t' k => ?_
  · rw [lit_blank, S_beq]; cases z <;> rfl
  · rw [lit_blank, replace_S]; exact hq t' k
end
end Mine
namespace Mine
theorem tok_lt {a s k t : Nat} (h : a < s) (h2 : s + k ≤ t) : a < t := Nat.lt_of_lt_of_le h (Nat.le_trans (Nat.le_add_right _ _) h2)
end Mine
end
section
open PySem PySem.W PyProof.Rows PySem.Calls PySem.Builtin PySem.Builtin.Str
set_option Elab.async false
namespace Mine
theorem rulesTxt11_0 : True := by
  w_top off
  k_with_none
  trivial
section
variable {prog : Program} {w : World} {A : Around} {E : Value → Shared → Prop} {s : Shared} {value slice : PySem.Expr} {t u : Tok} {Q : Value → Shared → Prop}
theorem item0_take (l : List Nat) (hne : l ≠ []) : Txt.item (S l) 0 = S (l.take 1) := by
  cases l with
  | nil => exact absurd rfl hne
  | cons c r => exact item_S (c :: r) (n := 0) (k := 0) rfl (by simp)
theorem item0_S {l : List Nat} (hne : l ≠ []) (hl : l.length < 200) (h : Q (.str (S (l.take 1)) s.toks) { s with toks := s.toks + 1 })
    (hs : subscripted slice false (.str (S l) t) (.int 0 u) = operate [.str (S l) t, .int 0 u] (getItem (.str (S l) t) (.int 0 u)) := by with_unfolding_all rfl)
    (ht : ∀ r, letTemporaryGo value (.str (S l) t) r = pure () := by intro _; with_unfolding_all rfl) :
    wpAny (model prog w) A (subscriptTail value slice (.str (S l) t) (.int 0 u)) Q E s := by
  have hp : 0 < l.length := List.length_pos_iff.mpr hne
  refine KXi.item (n := l.length) (S_len l) (by omega) (by omega) (by omega) (fun _ => ?_) hs ht
  rw [item0_take l hne]; exact h
end
theorem tf_any (X : List Nat) : ([PySem.Str.ofString "T", PySem.Str.ofString "F"].any fun x => x == Txt.slice (S X) none (some 1)) = (X.take 1 == [84] || X.take 1 == [70]) := by
  rw [slice_to _ _ (by decide), lit_T, lit_F]
  simp only [List.any_cons, List.any_nil, S_beq, Bool.or_false]
  rw [show ([84] == List.take (Int.toNat 1) X) = (X.take 1 == [84]) from Bool.beq_comm, show ([70] == List.take (Int.toNat 1) X) = (X.take 1 == [70]) from Bool.beq_comm]
theorem tf_ne {X : List Nat} (h : ([PySem.Str.ofString "T", PySem.Str.ofString "F"].any fun x => x == Txt.slice (S X) none (some 1)) = true) : X ≠ [] := by
  rw [tf_any] at h; rintro rfl; simp at h
theorem tf_ne1 {X : List Nat} (h : ([PySem.Str.ofString "T", PySem.Str.ofString "F"].any fun x => x == Txt.slice (Txt.slice (S X) (some 1) none) none (some 1)) = true) : X.drop 1 ≠ [] := by
  rw [slice1] at h; exact tf_ne h
section
variable {l X : List Nat}
theorem dot_t (h : (Txt.slice (S (bareF l)) none (some 1) == PySem.Str.ofString ".") = true) : (bareF l).drop 1 = if (bareF l).take 1 == [46] then (bareF l).drop 1 else bareF l := by
  rw [slice_to _ _ (by decide), lit_dot, S_beq] at h
  change ((bareF l).take 1 == [46]) = true at h
  rw [if_pos h]
theorem dot_f (h : (Txt.slice (S (bareF l)) none (some 1) == PySem.Str.ofString ".") = false) : bareF l = if (bareF l).take 1 == [46] then (bareF l).drop 1 else bareF l := by
  rw [slice_to _ _ (by decide), lit_dot, S_beq] at h
  change ((bareF l).take 1 == [46]) = false at h
  rw [if_neg (by rw [h]; decide)]
theorem lgl_t (hX : X = if (bareF l).take 1 == [46] then (bareF l).drop 1 else bareF l) (h : ([PySem.Str.ofString "T", PySem.Str.ofString "F"].any fun x => x == Txt.slice (S X) none (some 1)) = true) :
    ¬ logF l = none ∧ (S (X.take 1) == PySem.Str.ofString "T") = decide (logF l = some true) := by
  rw [tf_any] at h
  rw [lit_T, S_beq]
  unfold logF
  simp only [← hX]
  cases e : (X.take 1 == [84])
  · rw [e, Bool.false_or] at h
    rw [h]; simp
  · simp
theorem lgl_n (hX : X = if (bareF l).take 1 == [46] then (bareF l).drop 1 else bareF l) (h : ([PySem.Str.ofString "T", PySem.Str.ofString "F"].any fun x => x == Txt.slice (S X) none (some 1)) = false) : logF l = none := by
  rw [tf_any, Bool.or_eq_false_iff] at h
  unfold logF
  simp only [← hX]
  rw [h.1, h.2]; simp
end
end Mine
end
section
open PySem PySem.W PyProof.Rows PySem.Calls
set_option Elab.async false
set_option maxRecDepth 100000
set_option maxHeartbeats 8000000
namespace Mine
theorem fillF18 {w : World} : PySem.Challenge.rw_no0239_01 = PySem.Challenge.rw_no0239_01 ∧ hd.heap_1 w.params = hd.heap_1 w.params := by k_fill; exact ⟨rfl, rfl⟩
theorem rulesF18_1 : True := by
  w_top off
  k_with_none
  k_with "my:pre" => first | assumption | omega
  k_with "call ref" => (k_here; refine' law_bare_k ?w1qF ?w1qN ?w1qX ?w1qT ?w1qR ?w1qhx ?_; (case w1qF => k_asm); (case w1qN => k_asm); (case w1qX => k_asm); (case w1qT => k_asm); (case w1qR => first | assumption | exact Rn.deeper (by assumption) (by decide) | exact Rn.le (by assumption) (by decide)); (case w1qhx => walk_at "my:pre"); intro _ _ _ _ _; (try dsimp only))
  k_with "subscriptTail Name Constant str int" => (k_here; (with_reducible show wpAny _ _ (subscriptTail _ _ (Value.str _ _) (Value.int 0 _)) _ _ _); (try rw [slice1]); refine' item0_S ?w2qne ?w2ql ?_; (case w2qne => first | exact tf_ne (by assumption) | exact tf_ne1 (by assumption)); (case w2ql => first | omega | (simp; omega)))
  trivial
theorem law_logical_b {w : World} {mg mb : PySem.Str → Option Value} {mean : ExcName → Option Value} {pg : PySem.Program} {lse : List PySem.Str} {s : Shared} {A : Around} {Q E : Value → Shared → Prop} (x_sheet : List Nat) (t_sheet : Tok)
    (X : (hd.heap_1 w.params).In s.heap) (T : Top pg lse mean mg mb s.heap) (R : Rn A 3) (hx : x_sheet.length < 200)
    (hq0 : (logF x_sheet = none) → ∀ D t0 t1 h' tk, Ext s.heap h' → h'.get? D = some (tupO [.str (PySem.Str.ofString "fault") t0, .int (1) t1]) → s.heap.get? D = none → Q (.ref D) { s with heap := h', toks := tk })
    (hq : ¬ (logF x_sheet = none) → ∀ D t0 h' tk, Ext s.heap h' → h'.get? D = some (tupO [.str (PySem.Str.ofString "ok") t0, .bool (decide (logF x_sheet = some true))]) → s.heap.get? D = none → Q (.ref D) { s with heap := h', toks := tk }) :
    wpAny (model PySem.Challenge.rw_no0239_01.row.prog w) A (call (.ref 246) [.str (S x_sheet) t_sheet]) Q E s := by
  obtain ⟨ah, ad, af, ag, au⟩ := A
  obtain rfl : ah = none := R.h
  refine wpAny_call ?_
  refine call_q [("sheet", .str (S x_sheet) t_sheet)] (by have := R.d; omega) (X 246 _ (by k_is)) rfl T.nolimit (codeRec_of X (by k_is)) rfl (locs rfl) ?_ rfl rfl rfl (by decide)
  intro h₁ F
  have N : News s.heap s.heap.objs.size h₁ [] := News.nil
  have hxS : (S x_sheet).length < 200 := S_lt hx
  have lb := bareF_len x_sheet
  have lbS : (S (bareF x_sheet)).length < 200 := by rw [S_len]; omega
  k_steps
  all_goals (rename News _ _ _ _ => nn; rename Fr _ _ _ _ => ff)
  all_goals first
    | ((have eX := dot_t (l := x_sheet) (by with_reducible assumption)); rw [slice1] at *;
       first
       | (have en := lgl_n eX (by with_reducible assumption); exact hq0 en _ _ _ _ _ ff.keep (nn _ (.head _)).1 (nn _ (.head _)).2.2)
       | (obtain ⟨e1, e2⟩ := lgl_t eX (by with_reducible assumption); rw [e2] at nn; exact hq e1 _ _ _ _ ff.keep (nn _ (.head _)).1 (nn _ (.head _)).2.2))
    | ((have eX := dot_f (l := x_sheet) (by with_reducible assumption));
       first
       | (have en := lgl_n eX (by with_reducible assumption); exact hq0 en _ _ _ _ _ ff.keep (nn _ (.head _)).1 (nn _ (.head _)).2.2)
       | (obtain ⟨e1, e2⟩ := lgl_t eX (by with_reducible assumption); rw [e2] at nn; exact hq e1 _ _ _ _ ff.keep (nn _ (.head _)).1 (nn _ (.head _)).2.2))

theorem law_logical_k {w : World} {mg mb : PySem.Str → Option Value} {mean : ExcName → Option Value} {pg : PySem.Program} {lse : List PySem.Str} {s : Shared} {A : Around} {Q E : Value → Shared → Prop} {h₀ : Heap} {L : Addr} {m : PySem.Str → Option Value} {news : List (Addr × Obj)} {x_sheet : List Nat} {t_sheet : Tok}
    (F : Fr h₀ L s.heap m) (N : News h₀ L s.heap news) (X : (hd.heap_1 w.params).In h₀) (T : Top pg lse mean mg mb h₀) (R : Rn A 3) (hx : x_sheet.length < 200)
    (hq0 : (logF x_sheet = none) → ∀ D t0 t1 h' tk, Fr h₀ L h' m → News h₀ L h' ((D, tupO [.str (PySem.Str.ofString "fault") t0, .int (1) t1]) :: news) → Q (.ref D) { s with heap := h', toks := tk })
    (hq : ¬ (logF x_sheet = none) → ∀ D t0 h' tk, Fr h₀ L h' m → News h₀ L h' ((D, tupO [.str (PySem.Str.ofString "ok") t0, .bool (decide (logF x_sheet = some true))]) :: news) → Q (.ref D) { s with heap := h', toks := tk }) :
    wpAny (model PySem.Challenge.rw_no0239_01.row.prog w) A (call (.ref 246) [.str (S x_sheet) t_sheet]) Q E s :=
  law_logical_b _ _ (X.keeps F.keep) (T.keeps F.keep) R hx (fun c D t0' t1' h' tk x y z => hq0 c D t0' t1' h' tk (F.keeps x) (news_cons F N x y z)) (fun c D t0' h' tk x y z => hq c D t0' h' tk (F.keeps x) (news_cons F N x y z)) 

end Mine
end
section
open PySem PySem.W PyProof.Rows PySem.Calls
set_option Elab.async false
set_option maxRecDepth 100000
set_option maxHeartbeats 8000000
namespace Mine
theorem rulesPn_0 : True := by
  w_top off
  k_with_none
  trivial
theorem fillPn {w : World} : PySem.Challenge.rw_no0239_01 = PySem.Challenge.rw_no0239_01 ∧ hd.heap_1 w.params = hd.heap_1 w.params := by k_fill; exact ⟨rfl, rfl⟩
abbrev penO (a : Int) (ta : Tok) (b : Int) (tb : Tok) (n : Nat) : Obj := PySem.W.listOf #[.int a ta, .int b tb] n
section
variable {h₀ h h' : Heap} {p L : Addr} {m : PySem.Str → Option Value} {news : List (Addr × Obj)} {g : Obj → List (Addr × Obj)} {o o' : Obj}
theorem pen_stays (k : Ext h₀ h) (hp : h₀.get? p = none) : Ext h₀ (hideAll h [p]) := fun b o e => hideAll_get _ (k b o e) (by simp; rintro rfl; rw [hp] at e; cases e)
theorem pen_fr (F : Fr h h.objs.size h' m) : Fr (hideAll h [p]) h.objs.size h' m := ⟨F.ns, fun b o e => F.keep b o (of_hideAll _ e), Nat.le_of_eq (hideAll_size _ _)⟩
theorem pen_news (F : Fr h h.objs.size h' m) (hl : h.get? p = some o) : News (hideAll h [p]) h.objs.size h' [(p, o)] := fun q hq => by
  rw [List.mem_singleton.mp hq]
  exact ⟨F.keep _ _ hl, Nat.ne_of_lt (Heap.lt_size hl), hideAll_none _ (by simp)⟩
theorem pen_but (F : Fr (hideAll h [p]) L h' m) : But p h h' := fun b o hb e => F.keep b o (hideAll_get _ e (by simpa using hb))
theorem pen_in (N : News h₀ L h news) (U : UpdF p o news g) : h.get? p = some o ∧ p ≠ L ∧ h₀.get? p = none := by
  obtain ⟨own, rest, rfl, _⟩ := U.split
  exact N (p, o) (List.mem_append_right _ (.head _))
theorem pen_out (F : Fr h₀ L h m) (N : News h₀ L h news) (U : UpdF p o news g) (hb : But p h h') (ho : h'.get? p = some o') : Fr h₀ L h' m ∧ News h₀ L h' (g o') := by
  obtain ⟨e1, e2, e3⟩ := pen_in N U
  refine ⟨fr_but F e3 e2.symm hb, ?_⟩
  obtain ⟨own, rest, rfl, hg, h1, h2⟩ := U.split
  rw [hg]
  intro q hq
  rcases List.mem_append.mp hq with hq | hq
  · have n := N q (List.mem_append_left _ hq)
    exact ⟨hb _ _ (h1 q hq) n.1, n.2⟩
  · rcases List.mem_cons.mp hq with rfl | hq
    · exact ⟨ho, e2, e3⟩
    · have n := N q (List.mem_append_right _ (.tail _ hq))
      exact ⟨hb _ _ (h2 q hq) n.1, n.2⟩
end
end Mine
end
section
open PySem PySem.W PyProof.Rows PySem.Calls PySem.Builtin PySem.Builtin.Str
set_option Elab.async false
namespace Mine
theorem rulesTxt12_0 : True := by
  w_top off
  k_with_none
  trivial
noncomputable def bdF (l : List Nat) : List Nat := l.dropWhile (· == 48)
theorem drop_takeWhile (p : Nat → Bool) (l : List Nat) : l.drop (l.takeWhile p).length = l.dropWhile p := by
  induction l with
  | nil => rfl
  | cons c r ih => rw [List.takeWhile_cons, List.dropWhile_cons]; split <;> simp [ih]
theorem lstrip0 (l : List Nat) : Txt.lstripChars (S l) (PySem.Str.ofString "0") = S (bdF l) := by
  unfold Txt.lstripChars
  rw [PyProof.Rows.stripBy_eq]
  have e1 : stripLo (PySem.Str.ofString "0").cps.contains true (S l) = (l.takeWhile (· == 48)).length := by
    unfold stripLo
    rw [if_pos rfl]
    have : (S l).cps.toList = l := by simp [S]
    rw [this, lit_0]
    congr 2
    funext c
    show (S [48]).cps.contains c = _
    simp [S, Bool.beq_eq_decide_eq]; try rfl
  have e2 : ∀ n, stripHi (PySem.Str.ofString "0").cps.contains false (S l) n = l.length := fun n => by unfold stripHi; rw [if_neg (by decide), S_len]
  rw [e1, e2]
  have e3 := StrLaws.strSub_toList (S l) (l.takeWhile (· == 48)).length l.length
  have : (S l).cps.toList = l := by simp [S]
  rw [this, drop_takeWhile] at e3
  rw [S_of (strSub _ _ _), e3, List.take_of_length_le]
  · rfl
  · have := congrArg List.length (drop_takeWhile (· == 48) l)
    rw [List.length_drop] at this
    omega
section
variable {prog : Program} {w : World} {A : Around} {E : Value → Shared → Prop} {s : Shared} {Q : Value → Shared → Prop}
theorem call_lstrip {l : List Nat} {t u : Tok} (hl : l.length ≤ 200) (hq : ∀ t' k, Q (.str (S (bdF l)) t') { s with toks := k }) : wpAny (model prog w) A (call (.builtin "str.lstrip") [.str (S l) t, .str (PySem.Str.ofString "0") u]) Q E s := by
  refine SC.lstripChars (fun t' k => ?_) (by rw [sizeLine_eq, S_len]; omega)
  rw [lstrip0]; exact hq t' k
end
end Mine
end
section
open PySem PySem.W PyProof.Rows PySem.Calls PySem.Builtin PySem.Builtin.Str
set_option Elab.async false
namespace Mine
theorem rulesTxt13_0 : True := by
  w_top off
  k_with_none
  trivial
theorem valN_cons (c : Nat) (r : List Nat) : valN (c :: r) = (c - 48) * 10 ^ r.length + valN r := by
  have key : ∀ (r : List Nat) (n : Nat), r.foldl (fun n c => n * 10 + (c - 48)) n = n * 10 ^ r.length + valN r := by
    intro r
    induction r with
    | nil => intro n; simp [valN]
    | cons d r ih =>
      intro n
      have h1 : valN (d :: r) = r.foldl (fun n c => n * 10 + (c - 48)) (0 * 10 + (d - 48)) := rfl
      rw [List.foldl_cons, ih, h1, ih, List.length_cons, Nat.pow_succ, Nat.add_mul, Nat.zero_mul, Nat.zero_add, Nat.mul_assoc, Nat.mul_comm 10]
      lia
  have h1 : valN (c :: r) = r.foldl (fun n c => n * 10 + (c - 48)) (0 * 10 + (c - 48)) := rfl
  rw [h1, key, Nat.zero_mul, Nat.zero_add]
theorem valN_app (a b : List Nat) : valN (a ++ b) = valN a * 10 ^ b.length + valN b := by
  induction a with
  | nil => simp [valN]
  | cons c r ih => rw [List.cons_append, valN_cons, ih, valN_cons, List.length_append, Nat.pow_add, Nat.add_mul, Nat.mul_assoc]; lia
theorem valN_bd (l : List Nat) : valN (bdF l) = valN l := by
  induction l with
  | nil => rfl
  | cons c r ih =>
    unfold bdF at *
    rw [List.dropWhile_cons]
    split
    · rename_i h
      have : c = 48 := by simpa using h
      subst this
      rw [ih, valN_cons]; simp
    · rfl
theorem bdF_len (l : List Nat) : (bdF l).length ≤ l.length := (List.dropWhile_sublist _).length_le
theorem bdF_dig {l : List Nat} (h : l.all isDig = true) : (bdF l).all isDig = true := by
  rw [List.all_eq_true] at *
  exact fun c hc => h c ((List.dropWhile_sublist _).subset hc)
theorem isDig_iff {c : Nat} : isDig c = true ↔ 48 ≤ c ∧ c ≤ 57 := by unfold isDig; simp
theorem nd_zero : nd 0 = 0 := by simp [nd]
theorem nd_step {v k : Nat} (hk : k < 10) (h : 0 < v ∨ 0 < k) : nd (v * 10 + k) = nd v + 1 := by
  rw [nd_pos (by lia)]
  have : (v * 10 + k) / 10 = v := by lia
  rw [this]
theorem nd_pos_iff {n : Nat} : 0 < nd n ↔ 0 < n := by
  cases n with
  | zero => simp [nd]
  | succ n => simp [nd]
theorem snoc_ind {P : List Nat → Prop} (h0 : P []) (h1 : ∀ r c, P r → P (r ++ [c])) (l : List Nat) : P l := by
  have key : ∀ n (l : List Nat), l.length = n → P l := by
    intro n
    induction n with
    | zero => intro l h; rw [List.length_eq_zero_iff.mp h]; exact h0
    | succ n ih =>
      intro l h
      rcases List.eq_nil_or_concat l with rfl | ⟨r, c, rfl⟩
      · simp at h
      · rw [List.concat_eq_append]; exact h1 r c (ih r (by simpa using h))
  exact key _ l rfl
theorem nd_bd (l : List Nat) : l.all isDig = true → l.head? ≠ some 48 → nd (valN l) = l.length := by
  refine snoc_ind (P := fun l => l.all isDig = true → l.head? ≠ some 48 → nd (valN l) = l.length) (fun _ _ => by simp [valN, nd]) (fun r c ih hd hh => ?_) l
  rw [List.all_append, Bool.and_eq_true] at hd
  have hc : 48 ≤ c ∧ c ≤ 57 := isDig_iff.mp (by simpa using hd.2)
  rw [valN_snoc, List.length_append, List.length_singleton]
  cases r with
  | nil =>
    have : c ≠ 48 := by simpa using hh
    rw [nd_step (by lia) (.inr (by lia))]; simp [valN, nd]
  | cons a t =>
    have ih' := ih hd.1 (by simpa using hh)
    have : 0 < valN (a :: t) := nd_pos_iff.mp (by rw [ih']; simp)
    rw [nd_step (by lia) (.inl this), ih']
theorem bdF_head (l : List Nat) : (bdF l).head? ≠ some 48 := by
  unfold bdF
  intro h
  have := List.head?_dropWhile_not (fun x => x == 48) l
  rw [h] at this; simp at this
theorem nd_bdF {l : List Nat} (h : l.all isDig = true) : nd (valN l) = (bdF l).length := by rw [← valN_bd, nd_bd _ (bdF_dig h) (bdF_head l)]
theorem lex_val : ∀ {a b : List Nat}, a.all isDig = true → b.all isDig = true → a.length = b.length → (a < b ↔ valN a < valN b)
  | [], [], _, _, _ => by simp [valN]
  | [], _ :: _, _, _, h => by simp at h
  | _ :: _, [], _, _, h => by simp at h
  | c :: r, d :: t, ha, hb, h => by
    rw [List.all_cons, Bool.and_eq_true] at ha hb
    have hc := isDig_iff.mp ha.1
    have hd := isDig_iff.mp hb.1
    have hl : r.length = t.length := by simpa using h
    have ih := lex_val ha.2 hb.2 hl
    have h1 := valN_lt r (fun x hx => List.all_eq_true.mp ha.2 x hx)
    have h2 := valN_lt t (fun x hx => List.all_eq_true.mp hb.2 x hx)
    rw [List.cons_lt_cons_iff, ih, valN_cons, valN_cons, hl]
    rw [hl] at h1
    generalize 10 ^ t.length = p at *
    constructor
    · rintro (h | ⟨rfl, h⟩)
      · have : (c - 48 + 1) * p ≤ (d - 48) * p := Nat.mul_le_mul_right _ (by lia)
        rw [Nat.add_mul] at this; lia
      · lia
    · intro h
      rcases Nat.lt_trichotomy c d with q | q | q
      · exact .inl q
      · exact .inr ⟨q, by subst q; lia⟩
      · have : (d - 48 + 1) * p ≤ (c - 48) * p := Nat.mul_le_mul_right _ (by lia)
        rw [Nat.add_mul] at this; lia
theorem valN_inj {a b : List Nat} (ha : a.all isDig = true) (hb : b.all isDig = true) (h : a.length = b.length) (e : valN a = valN b) : a = b := by
  induction a generalizing b with
  | nil => cases b with
    | nil => rfl
    | cons _ _ => simp at h
  | cons c r ih =>
    cases b with
    | nil => simp at h
    | cons d t =>
      rw [List.all_cons, Bool.and_eq_true] at ha hb
      have hc := isDig_iff.mp ha.1
      have hd := isDig_iff.mp hb.1
      have hl : r.length = t.length := by simpa using h
      have h1 := valN_lt r (fun x hx => List.all_eq_true.mp ha.2 x hx)
      have h2 := valN_lt t (fun x hx => List.all_eq_true.mp hb.2 x hx)
      rw [valN_cons, valN_cons, hl] at e
      rw [hl] at h1
      have hcd : c = d := by
        generalize 10 ^ t.length = p at *
        rcases Nat.lt_trichotomy c d with q | q | q
        · have : (c - 48 + 1) * p ≤ (d - 48) * p := Nat.mul_le_mul_right _ (by lia)
          rw [Nat.add_mul] at this; lia
        · exact q
        · have : (d - 48 + 1) * p ≤ (c - 48) * p := Nat.mul_le_mul_right _ (by lia)
          rw [Nat.add_mul] at this; lia
      subst hcd
      rw [ih ha.2 hb.2 hl (by lia)]
noncomputable def halfF (k : Nat) : List Nat := 53 :: List.replicate (k - 1) 48
theorem valN_rep (k : Nat) : valN (List.replicate k 48) = 0 := by
  induction k with
  | zero => rfl
  | succ k ih => rw [List.replicate_succ, valN_cons, ih]; simp
theorem halfF_val {k : Nat} (h : 1 ≤ k) : 2 * valN (halfF k) = 10 ^ k := by
  unfold halfF
  rw [valN_cons, valN_rep, List.length_replicate]
  have : k = (k - 1) + 1 := by lia
  rw [this, Nat.pow_succ]
  simp; lia
theorem halfF_dig (k : Nat) : (halfF k).all isDig = true := by
  unfold halfF
  rw [List.all_eq_true]
  intro c hc
  rcases List.mem_cons.mp hc with rfl | hc
  · rfl
  · rw [(List.mem_replicate.mp hc).2]; rfl
theorem halfF_len {k : Nat} (h : 1 ≤ k) : (halfF k).length = k := by unfold halfF; simp; lia
end Mine
end
section
open PySem PySem.W PyProof.Rows PySem.Calls PySem.Builtin PySem.Builtin.Str
set_option Elab.async false
namespace Mine
theorem rulesTxt14_0 : True := by
  w_top off
  k_with_none
  trivial
noncomputable def dgF (n : Nat) : List Nat := (Nat.toDigits 10 n).map Char.toNat
theorem dgF_val (n : Nat) : valN (dgF n) = n := KIN.val_back n
theorem dgF_small {n : Nat} (h : n < 10) : dgF n = [48 + n] := by
  have : ∀ n < 10, (Nat.toDigits 10 n).map Char.toNat = [48 + n] := by decide
  exact this n h
theorem dgF_big {n : Nat} (h : ¬ n < 10) : dgF n = dgF (n / 10) ++ dgF (n % 10) := by
  have hm : n % 10 < 10 := Nat.mod_lt n (by decide)
  have t : Nat.toDigits 10 (n / 10) ++ Nat.toDigits 10 (n % 10) = Nat.toDigits 10 (10 * (n / 10) + n % 10) := Nat.toDigits_append_toDigits (by decide) (by lia) hm
  rw [Nat.div_add_mod] at t
  unfold dgF
  rw [← t, List.map_append]
theorem dgF_dig (n : Nat) : (dgF n).all isDig = true := by
  induction n using Nat.strongRecOn with
  | _ n ih =>
    by_cases h : n < 10
    · rw [dgF_small h]; simp [isDig]; lia
    · rw [dgF_big h, List.all_append, ih _ (by lia), ih _ (by lia)]; rfl
theorem dgF_nd {n : Nat} (h0 : 0 < n) : nd n = (dgF n).length := by
  induction n using Nat.strongRecOn with
  | _ n ih =>
    by_cases h : n < 10
    · rw [dgF_small h, nd_pos h0]
      have : n / 10 = 0 := by lia
      rw [this, nd_zero]; rfl
    · rw [dgF_big h, List.length_append, ← ih (n / 10) (by lia) (by lia), dgF_small (n := n % 10) (by lia), nd_pos h0]; rfl
section
variable {prog : Program} {w : World} {A : Around} {E : Value → Shared → Prop} {s : Shared} {Q : Value → Shared → Prop}
theorem call_str {K : Int} {t : Tok} (h0 : 0 ≤ K) (h1 : K < 10 ^ 10) (h : Q (.str (S (dgF K.toNat)) s.toks) { s with toks := s.toks + 1 }) : wpAny (model prog w) A (call (.type "str") [.int K t]) Q E s := by
  obtain ⟨m, rfl⟩ := Int.eq_ofNat_of_zero_le h0
  refine P.str_of_int ?_ ?_
  · by_cases hm : m = 0
    · subst hm; decide
    · have : m.log2 < 34 := (Nat.log2_lt hm).mpr (by lia)
      show m.log2 < 1920; lia
  · have e : PySem.Str.ofString (toString ((m : Nat) : Int)) = S (dgF m) := by
      rw [S_of (PySem.Str.ofString _), KIN.signs_num]; rfl
    rw [Int.toNat_natCast] at h
    rw [← e] at h
    exact h
theorem int_take {b : List Nat} {d : Int} {t : Tok} (h1 : 1 ≤ d) (hlen : d < ((S b).length : Int)) (hd : b.all isDig = true) (hl : b.length ≤ 200) (h : Q (.int (valN (b.take d.toNat)) s.toks) { s with toks := s.toks + 1 }) :
    wpAny (model prog w) A (call (.type "int") [.str (Txt.slice (S b) none (some d)) t]) Q E s := by
  rw [slice_to _ _ (by lia)]
  rw [S_len] at hlen
  refine int_S (by rw [List.length_take]; lia) ?_ ?_ h
  · intro e
    have : (b.take d.toNat).length = 0 := by rw [e]; rfl
    rw [List.length_take] at this; lia
  · rw [List.all_eq_true] at *
    exact fun c hc => hd c (List.mem_of_mem_take hc)
end
section
variable {fg : List Nat} {d : Int}
noncomputable abbrev hd10 (fg : List Nat) (d : Int) : List Nat := (bdF fg).take d.toNat
noncomputable abbrev tl10 (fg : List Nat) (d : Int) : List Nat := (bdF fg).drop d.toNat
theorem core (hdd : fg.all isDig = true) (h1 : 1 ≤ d) (hlen : d < ((S (bdF fg)).length : Int)) :
    (nd (valN fg) : Int) - d = ((tl10 fg d).length : Int) ∧ 1 ≤ (tl10 fg d).length ∧ valN fg = valN (hd10 fg d) * 10 ^ (tl10 fg d).length + valN (tl10 fg d) ∧ valN (tl10 fg d) < 10 ^ (tl10 fg d).length ∧
    (tl10 fg d).all isDig = true ∧ 0 < valN (hd10 fg d) ∧ valN (hd10 fg d) < 10 ^ d.toNat := by
  rw [S_len] at hlen
  have hb := bdF_dig hdd
  have hbl : (hd10 fg d) ++ (tl10 fg d) = bdF fg := List.take_append_drop _ _
  have ht : (tl10 fg d).all isDig = true := by rw [List.all_eq_true] at *; exact fun c hc => hb c (List.mem_of_mem_drop hc)
  have hh : (hd10 fg d).all isDig = true := by rw [List.all_eq_true] at *; exact fun c hc => hb c (List.mem_of_mem_take hc)
  have hln : (hd10 fg d).length = d.toNat := by rw [List.length_take]; lia
  refine ⟨by rw [nd_bdF hdd, List.length_drop]; lia, by rw [List.length_drop]; lia, by rw [← valN_bd, ← hbl, valN_app], valN_lt _ (List.all_eq_true.mp ht), ht, ?_, ?_⟩
  · have := nd_bd (hd10 fg d) hh (by
      have := bdF_head fg
      rw [← hbl] at this
      cases e : hd10 fg d with
      | nil => simp
      | cons a r => rw [e] at this; simpa using this)
    rw [hln] at this
    exact nd_pos_iff.mp (by lia)
  · have := valN_lt _ (List.all_eq_true.mp hh)
    rw [hln] at this; exact this
theorem half_S (X : PySem.Str) (k : Nat) (h : X.length = k) : PySem.Str.ofString "5" ++ Txt.mul (PySem.Str.ofString "0") ((X.length : Int) - 1) = S (halfF k) := by
  subst h
  rw [lit_5, lit_0, mul_one, S_app]
  unfold halfF
  congr 2
  have : ((X.length : Int) - 1).toNat = X.length - 1 := by lia
  rw [this]; rfl
theorem tail_S (h1 : 1 ≤ d) : Txt.slice (S (bdF fg)) (some d) none = S (tl10 fg d) := slice_from _ _ (by lia)
theorem fdm {N K R p : Nat} (h : N = K * p + R) (hR : R < p) : (N : Int).fdiv (p : Int) = K ∧ (N : Int).fmod (p : Int) = R := by
  have hp : 0 < p := by lia
  have e1 : N / p = K := by
    rw [h, Nat.mul_comm, Nat.mul_add_div hp, Nat.div_eq_of_lt hR]; rfl
  have e2 : N % p = R := by
    rw [h, Nat.mul_comm, Nat.mul_add_mod, Nat.mod_eq_of_lt hR]
  rw [Int.fdiv_eq_ediv_of_nonneg _ (by lia), Int.fmod_eq_emod_of_nonneg _ (by lia)]
  exact ⟨by rw [← e1]; rfl, by rw [← e2]; rfl⟩
section
variable (hdd : fg.all isDig = true) (h1 : 1 ≤ d) (hlen : d < ((S (bdF fg)).length : Int))
include hdd h1 hlen
theorem kp : (10 : Int) ^ ((nd (valN fg) : Int) - d).toNat = ((10 ^ (tl10 fg d).length : Nat) : Int) := by
  obtain ⟨c1, _⟩ := core hdd h1 hlen
  rw [c1, Int.toNat_natCast]; push_cast; rfl
theorem kdm : (valN fg : Int).fdiv (10 ^ ((nd (valN fg) : Int) - d).toNat) = (valN (hd10 fg d) : Int) ∧ (valN fg : Int).fmod (10 ^ ((nd (valN fg) : Int) - d).toNat) = (valN (tl10 fg d) : Int) := by
  obtain ⟨c1, c2, c3, c4, _⟩ := core hdd h1 hlen
  rw [kp hdd h1 hlen]
  exact fdm c3 c4
theorem hf_lt : (PySem.Str.ofString "5" ++ Txt.mul (PySem.Str.ofString "0") (((Txt.slice (S (bdF fg)) (some d) none).length : Int) - 1)).cps.toList < (Txt.slice (S (bdF fg)) (some d) none).cps.toList ↔
    (10 : Int) ^ ((nd (valN fg) : Int) - d).toNat < 2 * (valN fg : Int).fmod (10 ^ ((nd (valN fg) : Int) - d).toNat) := by
  obtain ⟨c1, c2, c3, c4, c5, c6, c7⟩ := core hdd h1 hlen
  rw [tail_S h1, half_S _ (tl10 fg d).length (S_len _), (kdm hdd h1 hlen).2, kp hdd h1 hlen]
  have e1 : ∀ l, (S l).cps.toList = l := fun l => by simp [S]
  rw [e1, e1, lex_val (halfF_dig _) c5 (halfF_len c2)]
  have := halfF_val c2
  lia
theorem hf_eq : (Txt.slice (S (bdF fg)) (some d) none == PySem.Str.ofString "5" ++ Txt.mul (PySem.Str.ofString "0") (((Txt.slice (S (bdF fg)) (some d) none).length : Int) - 1)) = true ↔
    2 * (valN fg : Int).fmod (10 ^ ((nd (valN fg) : Int) - d).toNat) = (10 : Int) ^ ((nd (valN fg) : Int) - d).toNat := by
  obtain ⟨c1, c2, c3, c4, c5, c6, c7⟩ := core hdd h1 hlen
  rw [tail_S h1, half_S _ (tl10 fg d).length (S_len _), (kdm hdd h1 hlen).2, kp hdd h1 hlen, S_beq, beq_iff_eq]
  have := halfF_val c2
  constructor
  · intro e; rw [← e] at this; lia
  · intro e
    exact valN_inj c5 (halfF_dig _) (halfF_len c2).symm (by lia)
end
end
end Mine
end
section
open PySem PySem.W PyProof.Rows PySem.Calls PySem.Builtin PySem.Builtin.Str
set_option Elab.async false
namespace Mine
theorem rulesTxt15_0 : True := by
  w_top off
  k_with_none
  trivial
noncomputable def sgnM (b : Bool) (n : Nat) : Int := if b then -(n : Int) else n
theorem sgnM_abs (b : Bool) (n : Nat) : (sgnM b n).natAbs = n := by unfold sgnM; split <;> lia
noncomputable def RI (b : List Nat) (pw : Int) (V : Nat) (P : Int) : Prop := b.all isDig = true ∧ nd (valN b) = b.length ∧ b.length ≤ 41 ∧ stripZ (valN b) pw = stripZ V P
section
variable {fg : List Nat} {d : Int}
section
variable (hdd : fg.all isDig = true) (h1 : 1 ≤ d) (hlen : d < ((S (bdF fg)).length : Int))
include hdd h1 hlen
theorem k_w1 (h : (PySem.Str.ofString "5" ++ Txt.mul (PySem.Str.ofString "0") (((Txt.slice (S (bdF fg)) (some d) none).length : Int) - 1)).cps.toList < (Txt.slice (S (bdF fg)) (some d) none).cps.toList) :
    keptI (valN fg) (10 ^ ((nd (valN fg) : Int) - d).toNat) = (valN (hd10 fg d) : Int) + 1 := by
  rw [ke_up ((hf_lt hdd h1 hlen).mp h), (kdm hdd h1 hlen).1]
theorem k_w2 (h2 : (Txt.slice (S (bdF fg)) (some d) none == PySem.Str.ofString "5" ++ Txt.mul (PySem.Str.ofString "0") (((Txt.slice (S (bdF fg)) (some d) none).length : Int) - 1)) = true) (h3 : (valN (hd10 fg d) : Int).fmod 2 = 1) :
    keptI (valN fg) (10 ^ ((nd (valN fg) : Int) - d).toNat) = (valN (hd10 fg d) : Int) + 1 := by
  rw [ke_up2 ((hf_eq hdd h1 hlen).mp h2) (by rw [(kdm hdd h1 hlen).1]; exact h3), (kdm hdd h1 hlen).1]
theorem k_w3 (h : ¬ (PySem.Str.ofString "5" ++ Txt.mul (PySem.Str.ofString "0") (((Txt.slice (S (bdF fg)) (some d) none).length : Int) - 1)).cps.toList < (Txt.slice (S (bdF fg)) (some d) none).cps.toList)
    (h3 : (valN (hd10 fg d) : Int).fmod 2 ≠ 1) : keptI (valN fg) (10 ^ ((nd (valN fg) : Int) - d).toNat) = (valN (hd10 fg d) : Int) := by
  rw [ke_no2 (fun z => h ((hf_lt hdd h1 hlen).mpr z)) (by rw [(kdm hdd h1 hlen).1]; exact h3), (kdm hdd h1 hlen).1]
theorem k_w4 (h : ¬ (PySem.Str.ofString "5" ++ Txt.mul (PySem.Str.ofString "0") (((Txt.slice (S (bdF fg)) (some d) none).length : Int) - 1)).cps.toList < (Txt.slice (S (bdF fg)) (some d) none).cps.toList)
    (h2 : (Txt.slice (S (bdF fg)) (some d) none == PySem.Str.ofString "5" ++ Txt.mul (PySem.Str.ofString "0") (((Txt.slice (S (bdF fg)) (some d) none).length : Int) - 1)) = false) : keptI (valN fg) (10 ^ ((nd (valN fg) : Int) - d).toNat) = (valN (hd10 fg d) : Int) := by
  rw [ke_no (fun z => h ((hf_lt hdd h1 hlen).mpr z)) (fun z => by have := (hf_eq hdd h1 hlen).mpr z; rw [h2] at this; cases this), (kdm hdd h1 hlen).1]
theorem hd_rng (h9 : d ≤ 9) : 0 < valN (hd10 fg d) ∧ valN (hd10 fg d) < 10 ^ 9 := by
  obtain ⟨c1, c2, c3, c4, c5, c6, c7⟩ := core hdd h1 hlen
  exact ⟨c6, Nat.lt_of_lt_of_le c7 (Nat.pow_le_pow_right (by decide) (by lia))⟩
theorem round_do {neg : Bool} {xp K : Int} (hk : keptI (valN fg) (10 ^ ((nd (valN fg) : Int) - d).toNat) = K) :
    roundI (sgnM neg (valN fg)) xp d = (if neg then -K else K, xp + ((tl10 fg d).length : Int)) := by
  obtain ⟨c1, c2, c3, c4, c5, c6, c7⟩ := core hdd h1 hlen
  have hN : 0 < valN fg := by
    have : 0 < valN (hd10 fg d) * 10 ^ (tl10 fg d).length := Nat.mul_pos c6 (Nat.pow_pos (by decide))
    lia
  unfold roundI
  rw [sgnM_abs, if_pos (by lia), ← c1]
  cases neg
  · have e : sgnM false (valN fg) = valN fg := rfl
    rw [e, if_pos (by lia), if_neg (by lia), hk]; rfl
  · have e : sgnM true (valN fg) = -(valN fg : Int) := rfl
    rw [e, if_neg (by lia), if_pos (by lia), Int.neg_neg, hk]; rfl
/-- the start of the loop, rounded -/
theorem rs_up (h9 : d ≤ 9) {neg : Bool} {xp K : Int} (hk : keptI (valN fg) (10 ^ ((nd (valN fg) : Int) - d).toNat) = K) (hK : K = (valN (hd10 fg d) : Int) + 1 ∨ K = (valN (hd10 fg d) : Int)) :
    RI (S (dgF K.toNat)).cps.toList (xp + ((Txt.slice (S (bdF fg)) (some d) none).length : Int)) (roundI (sgnM neg (valN fg)) xp d).1.natAbs (roundI (sgnM neg (valN fg)) xp d).2 := by
  obtain ⟨r1, r2⟩ := hd_rng hdd h1 hlen h9
  have e1 : (S (dgF K.toNat)).cps.toList = dgF K.toNat := by simp [S]
  have hpos : 0 < K.toNat := by lia
  have hlt : K.toNat < 10 ^ 10 := by lia
  rw [e1, tail_S h1, S_len, round_do hdd h1 hlen hk]
  refine ⟨dgF_dig _, by rw [dgF_val]; exact dgF_nd hpos, ?_, ?_⟩
  · rw [← dgF_nd hpos]; have := nd_le hlt; lia
  · rw [dgF_val]
    have : ((if neg = true then -K else K, xp + ((tl10 fg d).length : Int)) : Int × Int).1.natAbs = K.toNat := by
      show (if neg = true then -K else K).natAbs = _
      split <;> lia
    rw [this]
end
theorem rs_no (hdd : fg.all isDig = true) (hx : fg.length ≤ 40) (hlen : ¬ d < ((S (bdF fg)).length : Int)) {neg : Bool} {xp : Int} :
    RI (S (bdF fg)).cps.toList xp (roundI (sgnM neg (valN fg)) xp d).1.natAbs (roundI (sgnM neg (valN fg)) xp d).2 := by
  have e1 : (S (bdF fg)).cps.toList = bdF fg := by simp [S]
  rw [S_len] at hlen
  have e2 : roundI (sgnM neg (valN fg)) xp d = (sgnM neg (valN fg), xp) := by
    unfold roundI; rw [sgnM_abs, nd_bdF hdd, if_neg (by lia)]
  rw [e1, e2]
  have := bdF_len fg
  exact ⟨bdF_dig hdd, by rw [valN_bd, nd_bdF hdd], by lia, by rw [valN_bd, sgnM_abs]⟩
end
theorem slice_l1 (b : List Nat) : Txt.slice (S b) (some (-1)) none = S (b.drop (b.length - 1)) := by
  rw [slice_S]; simp only [Option.elim]
  have : clipN (-1) b.length = b.length - 1 := by unfold clipN; rw [if_pos (by decide)]; lia
  rw [this, List.take_of_length_le (by rw [List.length_drop]; lia)]
theorem slice_bl (b : List Nat) : Txt.slice (S b) none (some (-1)) = S (b.take (b.length - 1)) := by
  rw [slice_S]; simp only [Option.elim]
  have : clipN (-1) b.length = b.length - 1 := by unfold clipN; rw [if_pos (by decide)]; lia
  rw [this]; simp
theorem last_is {b : List Nat} (h : (Txt.slice (S b) (some (-1)) none == PySem.Str.ofString "0") = true) : ∃ r, b = r ++ [48] := by
  rw [slice_l1, lit_0, S_beq, beq_iff_eq] at h
  refine ⟨b.take (b.length - 1), ?_⟩
  rw [← h, List.take_append_drop]
theorem last_not {b : List Nat} (h : (Txt.slice (S b) (some (-1)) none == PySem.Str.ofString "0") = false) : b = [] ∨ ∃ r c, b = r ++ [c] ∧ c ≠ 48 := by
  rcases List.eq_nil_or_concat b with rfl | ⟨r, c, rfl⟩
  · exact .inl rfl
  · refine .inr ⟨r, c, List.concat_eq_append, ?_⟩
    rintro rfl
    rw [List.concat_eq_append, slice_l1, lit_0, S_beq] at h
    simp at h
theorem stripZ_0 (e : Int) : stripZ 0 e = (0, e) := by rw [stripZ, dif_neg (by simp)]
theorem stripZ_10 {v : Nat} (h : 0 < v) (e : Int) : stripZ (v * 10) e = stripZ v (e + 1) := by
  rw [stripZ, dif_pos ⟨by lia, by lia⟩]
  congr 1; lia
theorem stripZ_no {v : Nat} (h : v % 10 ≠ 0) (e : Int) : stripZ v e = (v, e) := by rw [stripZ, dif_neg (by lia)]
section
variable {x : PySem.Str} {pw : Int} {V : Nat} {P : Int}
theorem rl_turn (h : RI x.cps.toList pw V P) (hb : (Txt.slice x (some (-1)) none == PySem.Str.ofString "0") = true) : RI (Txt.slice x none (some (-1))).cps.toList (pw + 1) V P := by
  rw [S_of x] at hb ⊢
  generalize x.cps.toList = b at *
  obtain ⟨r, rfl⟩ := last_is hb
  obtain ⟨i1, i2, i3, i4⟩ := h
  have e1 : (Txt.slice (S (r ++ [48])) none (some (-1))).cps.toList = r := by rw [slice_bl]; simp [S]
  rw [e1]
  rw [valN_snoc] at i2 i4
  simp only [Nat.sub_self, Nat.add_zero] at i2 i4
  have hv : 0 < valN r := by
    have : 0 < nd (valN r * 10) := by rw [i2]; simp
    have := nd_pos_iff.mp this; lia
  have := nd_step (v := valN r) (k := 0) (by decide) (.inl hv)
  rw [Nat.add_zero, i2] at this
  simp at this
  rw [stripZ_10 hv] at i4
  rw [List.all_append, Bool.and_eq_true] at i1
  simp only [List.length_append, List.length_singleton] at i3
  exact ⟨i1.1, this.symm, by lia, i4⟩
theorem rl_less (hb : (Txt.slice x (some (-1)) none == PySem.Str.ofString "0") = true) : (Txt.slice x none (some (-1))).length < x.length := by
  rw [S_of x] at hb ⊢
  generalize x.cps.toList = b at *
  obtain ⟨r, rfl⟩ := last_is hb
  rw [slice_bl, S_len, S_len]; simp
theorem rl_end (h : RI x.cps.toList pw V P) (hb : (Txt.slice x (some (-1)) none == PySem.Str.ofString "0") = false) : (valN x.cps.toList, pw) = stripZ V P := by
  rw [S_of x] at hb
  generalize x.cps.toList = b at *
  obtain ⟨i1, i2, i3, i4⟩ := h
  rcases last_not hb with rfl | ⟨r, c, rfl, hc⟩
  · rw [← i4]; simp [valN, stripZ_0]
  · rw [List.all_append, Bool.and_eq_true] at i1
    have hd := isDig_iff.mp (show isDig c = true by simpa using i1.2)
    rw [← i4, stripZ_no (by rw [valN_snoc]; lia)]
end
end Mine
end
section
open PySem PySem.W PyProof.Rows PySem.Calls PySem.Builtin PySem.Builtin.Str
set_option Elab.async false
namespace Mine
theorem rulesTxt16_0 : True := by
  w_top off
  k_with_none
  trivial
theorem nilX {x : PySem.Str} (h : (x == PySem.Str.ofString "") = true) : x.cps.toList = [] := by
  rw [S_of x] at h
  exact nilS h
theorem nonilX {x : PySem.Str} (h : (x == PySem.Str.ofString "") = false) : x.cps.toList ≠ [] := by
  rw [S_of x] at h
  exact nonilS h
section
variable {prog : Program} {w : World} {A : Around} {E : Value → Shared → Prop} {s : Shared} {Q : Value → Shared → Prop}
theorem int_x {x : PySem.Str} {t : Tok} {pw P : Int} {V : Nat} (hr : RI x.cps.toList pw V P) (hne : (x == PySem.Str.ofString "") = false) (h : Q (.int (valN x.cps.toList) s.toks) { s with toks := s.toks + 1 }) :
    wpAny (model prog w) A (call (.type "int") [.str x t]) Q E s := by
  have hn := nonilX hne
  rw [S_of x]
  exact int_S (by have := hr.2.2.1; lia) hn hr.1 h
end
theorem keptI_nn {a p : Int} (ha : 0 ≤ a) (hp : 0 < p) : 0 ≤ keptI a p := by
  have : 0 ≤ a.fdiv p := by rw [Int.fdiv_eq_ediv_of_nonneg _ (by lia)]; exact Int.ediv_nonneg ha (by lia)
  unfold keptI; split <;> lia
theorem rs_sign {neg : Bool} {N : Nat} {xp d : Int} (h1 : 1 ≤ d) : (roundI (sgnM neg N) xp d).1 = sgnM neg (roundI (sgnM neg N) xp d).1.natAbs := by
  unfold roundI
  rw [sgnM_abs]
  split
  · rename_i hh
    have hN : 0 < N := nd_pos_iff.mp (by lia)
    have hk : ∀ q : Nat, 0 ≤ keptI (N : Int) (10 ^ q) := fun q => keptI_nn (by lia) (Int.pow_pos (by decide))
    cases neg
    · have e : sgnM false N = N := rfl
      rw [e, if_pos (by lia), if_neg (by lia)]
      have := hk ((nd N : Int) - d).toNat
      show keptI _ _ = ((keptI _ _).natAbs : Int)
      lia
    · have e : sgnM true N = -(N : Int) := rfl
      rw [e, if_neg (by lia), if_pos (by lia), Int.neg_neg]
      have := hk ((nd N : Int) - d).toNat
      show -keptI _ _ = -((-keptI _ _).natAbs : Int)
      lia
  · rw [sgnM_abs]
theorem stripZ_zero {n : Nat} {e : Int} (h : (stripZ n e).1 = 0) : n = 0 := by
  induction n using Nat.strongRecOn generalizing e with
  | _ n ih =>
    rw [stripZ] at h
    split at h
    · rename_i hh
      have := ih (n / 10) (by lia) h
      lia
    · exact h
section
variable {b : List Nat} {pw : Int} {neg : Bool} {N : Nat} {xp d : Int}
theorem fin_z (h1 : 1 ≤ d) (hs : (valN b, pw) = stripZ (roundI (sgnM neg N) xp d).1.natAbs (roundI (sgnM neg N) xp d).2) (hb : b = []) : (finI (sgnM neg N) xp d).1 = 0 := by
  subst hb
  have : (stripZ (roundI (sgnM neg N) xp d).1.natAbs (roundI (sgnM neg N) xp d).2).1 = 0 := by rw [← hs]; rfl
  have h0 := stripZ_zero this
  rw [finI_0 (by lia)]
theorem fin_nz (h1 : 1 ≤ d) {V : Nat} {P : Int} (hr : RI b pw V P) (hs : (valN b, pw) = stripZ (roundI (sgnM neg N) xp d).1.natAbs (roundI (sgnM neg N) xp d).2) (hb : b ≠ []) :
    finI (sgnM neg N) xp d = (sgnM neg (valN b), pw) ∧ (finI (sgnM neg N) xp d).1 ≠ 0 ∧ leadI (sgnM neg N) xp d = pw + (b.length : Int) - 1 := by
  obtain ⟨i1, i2, i3, i4⟩ := hr
  have hv : 0 < valN b := nd_pos_iff.mp (by rw [i2]; exact List.length_pos_iff.mpr hb)
  have hV : (roundI (sgnM neg N) xp d).1.natAbs ≠ 0 := by
    intro z
    rw [z, stripZ_0] at hs
    have := congrArg Prod.fst hs
    simp at this; lia
  have hn0 : ¬ (roundI (sgnM neg N) xp d).1 = 0 := by lia
  have e : finI (sgnM neg N) xp d = (sgnM neg (valN b), pw) := by
    rw [finI_1 hn0]
    unfold stripI
    rw [← hs]
    have hsg := rs_sign (neg := neg) (N := N) (xp := xp) h1
    generalize (roundI (sgnM neg N) xp d).1 = r at *
    have : r.sign * (valN b : Int) = sgnM neg (valN b) := by
      cases neg
      · have : r = (r.natAbs : Int) := hsg
        rw [Int.sign_eq_one_of_pos (by lia), Int.one_mul]; rfl
      · have : r = -(r.natAbs : Int) := hsg
        rw [Int.sign_eq_neg_one_of_neg (by lia), Int.neg_mul, Int.one_mul]; rfl
    rw [this]
  refine ⟨e, ?_, ?_⟩
  · rw [e]; unfold sgnM; dsimp only; split <;> lia
  · unfold leadI
    rw [e]; dsimp only
    rw [sgnM_abs, i2]
end
end Mine
namespace Mine
theorem RJ {x : PySem.Str} {pw P : Int} {V : Nat} (h : RI x.cps.toList pw V P) : x.length ≤ 41 ∧ RI x.cps.toList pw V P := ⟨h.2.2.1, h⟩
end Mine
end
section
open PySem PySem.W PyProof.Rows PySem.Calls
set_option Elab.async false
set_option maxRecDepth 100000
set_option maxHeartbeats 8000000
namespace Mine
theorem fillF20 {w : World} : PySem.Challenge.rw_no0239_01 = PySem.Challenge.rw_no0239_01 ∧ hd.heap_1 w.params = hd.heap_1 w.params := by k_fill; exact ⟨rfl, rfl⟩
theorem rulesF20_1 : True := by
  w_top off
  k_with_none
  k_with "my:pre" => first | assumption | omega
  trivial

theorem divmod_P {prog : Program} {w : World} {A : Around} {E : Value → Shared → Prop} {s : Shared} {Q : Value → Shared → Prop} {a b : Int} {t u : Tok} {h₀ : Heap} {L p : Addr} {o : Obj} {m : PySem.Str → Option Value} (F : Fr h₀ L s.heap m) (N : News h₀ L s.heap [(p, o)]) (hb : 1 ≤ b ∧ b ≤ 30)
    (h : ∀ D h', p < D → Fr h₀ L h' m → News h₀ L h' [(D, { cls := .type "tuple", data := .seq #[.int (a.fdiv b) s.toks, .int (a.fmod b) (s.toks + 1)] }), (p, o)] → Q (.ref D) { s with toks := s.toks + 1 + 1, heap := h' }) :
    wpAny (model prog w) A (call (.builtin "divmod") [.int a t, .int b u]) Q E s :=
  divmod_N F N (by omega) (fun h' F' N' => h _ h' (Heap.lt_size (N _ (.head _)).1) F' N') (Or.inl (PyProof.noPylong_small (by omega)))
theorem rulesF20_2 : True := by
  k_with "call builtin:divmod" => (k_here; refine divmod_P (by assumption) (by assumption) (by assumption) ?_; intro _ _ lt' F' N'; replace lt' := ltN lt'; revert lt' F' N'; intro _ _ _)
  trivial
theorem dr_end {a m : Int} (h : 0 ≤ a) (hm : 1 ≤ m) : 0 ≤ a.fmod m ∧ a.fmod m < m ∧ 0 ≤ a.fdiv m := by
  rw [Int.fmod_eq_emod_of_nonneg _ (by omega), Int.fdiv_eq_ediv_of_nonneg _ (by omega)]
  exact ⟨Int.emod_nonneg _ (by omega), Int.emod_lt_of_pos _ (by omega), Int.ediv_nonneg h (by omega)⟩
theorem law_draw_b {w : World} {mg mb : PySem.Str → Option Value} {mean : ExcName → Option Value} {pg : PySem.Program} {lse : List PySem.Str} {s : Shared} {A : Around} {Q E : Value → Shared → Prop} {h₀ : Heap} (p : Addr) (a b : Int) (ta tb : Tok) (n : Nat) (x_many : Int) (t_many : Tok)
    (X : (hd.heap_1 w.params).In h₀) (T : Top pg lse mean mg mb h₀) (k : Ext h₀ s.heap) (hp : h₀.get? p = none) (hl : s.heap.get? p = some (penO a ta b tb n)) (R : Rn A 1) (ha : 0 ≤ a) (hb : 0 ≤ b) (hm : 1 ≤ x_many ∧ x_many ≤ 30)
    (hq : ∀ v t a' ta' b' tb' n' h' tk, 0 ≤ v → v < x_many → 0 ≤ a' → 0 ≤ b' → But p s.heap h' → h'.get? p = some (penO a' ta' b' tb' n') → Q (.int v t) { s with heap := h', toks := tk }) :
    wpAny (model PySem.Challenge.rw_no0239_01.row.prog w) A (call (.ref 186) [.ref p, .int x_many t_many]) Q E s := by
  obtain ⟨ah, ad, af, ag, au⟩ := A
  obtain rfl : ah = none := R.h
  refine wpAny_call ?_
  refine call_q [("pen", .ref p), ("many", .int x_many t_many)] (by have := R.d; omega) ((X.keeps k) 186 _ (by k_is)) rfl (T.nolimit.keeps k) (codeRec_of (X.keeps k) (by k_is)) rfl (locs rfl) ?_ rfl rfl rfl (by decide)
  intro h₁ F0
  have X' := X.keeps (pen_stays k hp)
  have T' := T.keeps (pen_stays k hp)
  have F := pen_fr (p := p) F0
  have N := pen_news F0 hl
  clear F0 X T
  k_steps
  all_goals (rename News _ _ _ _ => nn; rename Fr _ _ _ _ => ff)
  · obtain ⟨e1, e2, e3⟩ := dr_end (a := 7919 * (b + 1) + 104729) (m := x_many) (by omega) hm.1
    exact hq _ _ _ _ (b + 1) _ _ _ _ e1 e2 e3 (by omega) (pen_but ff) (nn _ (.tail _ (.head _))).1
  · obtain ⟨e1, e2, e3⟩ := dr_end (a := a) (m := x_many) ha hm.1
    exact hq _ _ _ _ b _ _ _ _ e1 e2 e3 hb (pen_but ff) (nn _ (.tail _ (.head _))).1

theorem law_draw_k {w : World} {mg mb : PySem.Str → Option Value} {mean : ExcName → Option Value} {pg : PySem.Program} {lse : List PySem.Str} {s : Shared} {A : Around} {Q E : Value → Shared → Prop} {h₀ : Heap} {L : Addr} {m : PySem.Str → Option Value} {news : List (Addr × Obj)} {g : Obj → List (Addr × Obj)} {p : Addr} {a b : Int} {ta tb : Tok} {n : Nat} {x_many : Int} {t_many : Tok}
    (F : Fr h₀ L s.heap m) (N : News h₀ L s.heap news) (U : UpdF p (penO a ta b tb n) news g) (X : (hd.heap_1 w.params).In h₀) (T : Top pg lse mean mg mb h₀) (R : Rn A 1) (ha : 0 ≤ a) (hb : 0 ≤ b) (hm : 1 ≤ x_many ∧ x_many ≤ 30)
    (hq : ∀ v t a' ta' b' tb' n' h' tk, 0 ≤ v → v < x_many → 0 ≤ a' → 0 ≤ b' → Fr h₀ L h' m → News h₀ L h' (g (penO a' ta' b' tb' n')) → Q (.int v t) { s with heap := h', toks := tk }) :
    wpAny (model PySem.Challenge.rw_no0239_01.row.prog w) A (call (.ref 186) [.ref p, .int x_many t_many]) Q E s := by
  obtain ⟨e1, e2, e3⟩ := pen_in N U
  refine law_draw_b p a b ta tb n _ _ X T F.keep e3 e1 R ha hb hm fun v t a' ta' b' tb' n' h' tk v1 v2 a1 b1 hb ho => ?_
  obtain ⟨F', N'⟩ := pen_out F N U hb ho
  exact hq v t a' ta' b' tb' n' h' tk v1 v2 a1 b1 F' N'
end Mine
end
section
open PySem PySem.W PyProof.Rows PySem.Calls
set_option Elab.async false
set_option maxRecDepth 100000
set_option maxHeartbeats 8000000
namespace Mine
theorem fillF21 {w : World} : PySem.Challenge.rw_no0239_01 = PySem.Challenge.rw_no0239_01 ∧ hd.heap_1 w.params = hd.heap_1 w.params := by k_fill; exact ⟨rfl, rfl⟩
theorem rulesF21_1 : True := by
  w_top off
  k_with_none
  k_with "my:pre" => first | assumption | lia
  k_with "call ref" => (k_here; (with_reducible show wpAny _ _ (call (.ref 186) _) _ _ _); refine' law_draw_k ?w1qF ?w1qN ?w1qU ?w1qX ?w1qT ?w1qR ?w1qha ?w1qhb ?w1qhm ?_; (case w1qF => k_asm); (case w1qN => k_asm); (case w1qU => k_updF); (case w1qX => k_asm); (case w1qT => k_asm); (case w1qR => first | assumption | exact Rn.deeper (by assumption) (by decide) | exact Rn.le (by assumption) (by decide)); (case w1qha => assumption); (case w1qhb => assumption); (case w1qhm => first | assumption | lia); intro _ _ _ _ _ _ _ _ _ _ _ _ _ _ N'; (try dsimp only at N'); (try dsimp only); revert N'; intro _)
  trivial

theorem item_any {prog : Program} {w : World} {A : Around} {E : Value → Shared → Prop} {s : Shared} {value slice : PySem.Expr} {t u : Tok} {Q : Value → Shared → Prop} {l : List Nat} {v : Int} (h0 : 0 ≤ v) (h1 : v < ((S l).length : Int)) (hl : (S l).length ≤ 30) (h : ∀ c, c ∈ l → Q (.str (S [c]) s.toks) { s with toks := s.toks + 1 })
    (hs : subscripted slice false (.str (S l) t) (.int v u) = operate [.str (S l) t, .int v u] (getItem (.str (S l) t) (.int v u)) := by with_unfolding_all rfl)
    (ht : ∀ r, letTemporaryGo value (.str (S l) t) r = pure () := by intro _; with_unfolding_all rfl) :
    wpAny (model prog w) A (subscriptTail value slice (.str (S l) t) (.int v u)) Q E s := by
  have hh : v.toNat < l.length := by rw [S_len] at h1; lia
  refine KXi.item (n := (S l).length) rfl (by lia) h1 (by lia) (fun _ => ?_) hs ht
  rw [item_S l (k := v.toNat) (by lia) hh]
  exact h _ (List.getElem_mem hh)
theorem seq_ix {v : Int} {n : Nat} (h0 : 0 ≤ v) (h1 : v < (n : Int)) : seqIndex? v n = some v.toNat := by
  unfold seqIndex?
  have e1 : (if v < 0 then v + (n : Int) else v) = v := if_neg (by lia)
  have e2 : (decide (0 ≤ v) && decide (v < (n : Int))) = true := by simp; lia
  simp only [e1, e2, if_true]
theorem tup_any {prog : Program} {w : World} {A : Around} {E : Value → Shared → Prop} {s : Shared} {value slice : PySem.Expr} {u : Tok} {Q : Value → Shared → Prop} {h₀ : Heap} {L r : Addr} {m : PySem.Str → Option Value} {l : List Value} {v : Int} (F : Fr h₀ L s.heap m) (ht : IsTup h₀ r l.toArray) (h0 : 0 ≤ v) (h1 : v < (l.length : Int)) (hl : l.length ≤ 30) (h : ∀ x, x ∈ l → Q x s)
    (hs : subscripted slice false (.ref r) (.int v u) = operate [.ref r, .int v u] (getItem (.ref r) (.int v u)) := by with_unfolding_all rfl)
    (hg : ∀ x, letTemporaryGo value (.ref r) x = pure () := by intro _; with_unfolding_all rfl) :
    wpAny (model prog w) A (subscriptTail value slice (.ref r) (.int v u)) Q E s := by
  have hh : v.toNat < l.length := by lia
  exact item_tupleL (k := v) (ht.keeps F.keep) (Int.le_trans (by decide) h0) (Int.lt_trans (show v < 31 by lia) (by decide)) (j := v.toNat) (seq_ix h0 h1) (List.getElem?_eq_getElem hh) (h _ (List.getElem_mem hh)) hs hg
theorem tup_len {prog : Program} {w : World} {A : Around} {E : Value → Shared → Prop} {s : Shared} {Q : Value → Shared → Prop} {h₀ : Heap} {L r : Addr} {m : PySem.Str → Option Value} {l : List Value} (F : Fr h₀ L s.heap m) (ht : IsTup h₀ r l.toArray) (hl : l.length ≤ 30) (h : Q (.int l.length (s.toks + 1)) { s with toks := s.toks + 1 + 1 }) :
    wpAny (model prog w) A (call (.builtin "len") [.ref r]) Q E s :=
  len_tuple (ht.keeps F.keep) (by simp; lia) (by simpa using h)
theorem pen_tup {h : Heap} {p r : Addr} {vs : Array Value} {o : Obj} {its : Array Value} {n : Nat} (ht : IsTup h r vs) (hl : h.get? p = some o) (hc : o.cls = .type "list") : IsTup (hideAll h [p]) r vs := by
  obtain ⟨o', e, hcls, hd⟩ := ht
  refine ⟨o', hideAll_get _ e ?_, hcls, hd⟩
  simp only [List.mem_singleton]
  rintro rfl
  rw [hl] at e; cases e; rw [hc] at hcls; injection hcls with z; exact absurd z (by decide)
theorem rulesF21_2 : True := by
  k_with "subscriptTail" => (k_here; (with_reducible show wpAny _ _ (subscriptTail _ _ (Value.str (S _) _) (Value.int _ _)) _ _ _); refine' item_any ?w2qa ?w2qb ?w2qc ?_; (case w2qa => assumption); (case w2qb => assumption); (case w2qc => assumption); intro _ _)
  k_with "subscriptTail" => (k_here; (with_reducible show wpAny _ _ (subscriptTail _ _ (Value.ref _) (Value.int _ _)) _ _ _); refine' tup_any ?w3qF ?w3qt ?w3qa ?w3qb ?w3qc ?_; (case w3qF => k_asm); (case w3qt => assumption); (case w3qa => assumption); (case w3qb => assumption); (case w3qc => lia); intro _ _)
  k_with "call builtin:len" => (k_here; (with_reducible show wpAny _ _ (call (Value.builtin "len") [Value.ref _]) _ _ _); refine' tup_len ?w4qF ?w4qt ?w4qc ?_; (case w4qF => k_asm); (case w4qt => assumption); (case w4qc => lia))
  trivial

theorem pick_s_b {w : World} {mg mb : PySem.Str → Option Value} {mean : ExcName → Option Value} {pg : PySem.Program} {lse : List PySem.Str} {s : Shared} {A : Around} {Q E : Value → Shared → Prop} {h₀ : Heap} (p : Addr) (a b : Int) (ta tb : Tok) (n : Nat) (x_some : List Nat) (t_some : Tok)
    (X : (hd.heap_1 w.params).In h₀) (T : Top pg lse mean mg mb h₀) (k : Ext h₀ s.heap) (hp : h₀.get? p = none) (hl : s.heap.get? p = some (penO a ta b tb n)) (R : Rn A 2) (ha : 0 ≤ a) (hb : 0 ≤ b) (hs : 1 ≤ x_some.length ∧ x_some.length ≤ 30)
    (hq : ∀ c t a' ta' b' tb' n' h' tk, c ∈ x_some → 0 ≤ a' → 0 ≤ b' → But p s.heap h' → h'.get? p = some (penO a' ta' b' tb' n') → Q (.str (S [c]) t) { s with heap := h', toks := tk }) :
    wpAny (model PySem.Challenge.rw_no0239_01.row.prog w) A (call (.ref 193) [.ref p, .str (S x_some) t_some]) Q E s := by
  obtain ⟨ah, ad, af, ag, au⟩ := A
  obtain rfl : ah = none := R.h
  refine wpAny_call ?_
  refine call_q [("pen", .ref p), ("some", .str (S x_some) t_some)] (by have := R.d; lia) ((X.keeps k) 193 _ (by k_is)) rfl (T.nolimit.keeps k) (codeRec_of (X.keeps k) (by k_is)) rfl (locs rfl) ?_ rfl rfl rfl (by decide)
  intro h₁ F0
  have X' := X.keeps (pen_stays k hp)
  have T' := T.keeps (pen_stays k hp)
  have F := pen_fr (p := p) F0
  have N := pen_news F0 hl
  clear F0 X T
  have hsS : (S x_some).length ≤ 30 := by rw [S_len]; exact hs.2
  have hsL := S_len x_some
  k_steps
  (rename News _ _ _ _ => nn; rename Fr _ _ _ _ => ff)
  exact hq _ _ _ _ _ _ _ _ _ (by assumption) (by assumption) (by assumption) (pen_but ff) (nn _ (.head _)).1

theorem pick_t_b {w : World} {mg mb : PySem.Str → Option Value} {mean : ExcName → Option Value} {pg : PySem.Program} {lse : List PySem.Str} {s : Shared} {A : Around} {Q E : Value → Shared → Prop} {h₀ : Heap} (p : Addr) (a b : Int) (ta tb : Tok) (n : Nat) (r : Addr) (vs : List Value)
    (X : (hd.heap_1 w.params).In h₀) (T : Top pg lse mean mg mb h₀) (k : Ext h₀ s.heap) (hp : h₀.get? p = none) (hl : s.heap.get? p = some (penO a ta b tb n)) (R : Rn A 2) (ha : 0 ≤ a) (hb : 0 ≤ b) (ht : IsTup s.heap r vs.toArray) (hs : 1 ≤ vs.length ∧ vs.length ≤ 30)
    (hq : ∀ v a' ta' b' tb' n' h' tk, v ∈ vs → 0 ≤ a' → 0 ≤ b' → But p s.heap h' → h'.get? p = some (penO a' ta' b' tb' n') → Q v { s with heap := h', toks := tk }) :
    wpAny (model PySem.Challenge.rw_no0239_01.row.prog w) A (call (.ref 193) [.ref p, .ref r]) Q E s := by
  obtain ⟨ah, ad, af, ag, au⟩ := A
  obtain rfl : ah = none := R.h
  refine wpAny_call ?_
  refine call_q [("pen", .ref p), ("some", .ref r)] (by have := R.d; lia) ((X.keeps k) 193 _ (by k_is)) rfl (T.nolimit.keeps k) (codeRec_of (X.keeps k) (by k_is)) rfl (locs rfl) ?_ rfl rfl rfl (by decide)
  intro h₁ F0
  have X' := X.keeps (pen_stays k hp)
  have T' := T.keeps (pen_stays k hp)
  have F := pen_fr (p := p) F0
  have N := pen_news F0 hl
  clear F0 X T
  have ht' := pen_tup (its := #[]) (n := 0) ht hl rfl
  k_steps
  (rename News _ _ _ _ => nn; rename Fr _ _ _ _ => ff)
  exact hq _ _ _ _ _ _ _ _ (by assumption) (by assumption) (by assumption) (pen_but ff) (nn _ (.head _)).1
end Mine
end
section
open PySem PySem.W PyProof.Rows PySem.Calls PySem.Spec
set_option Elab.async false
set_option maxRecDepth 100000
set_option maxHeartbeats 8000000
namespace Mine
theorem rulesPc_0 : True := by
  w_top off
  k_with_none
  trivial
theorem fillPc {w : World} : PySem.Challenge.rw_no0239_01 = PySem.Challenge.rw_no0239_01 ∧ hd.heap_1 w.params = hd.heap_1 w.params := by k_fill; exact ⟨rfl, rfl⟩
theorem call_qC {prog : Program} {w : World} {A : Around} {R : Result → Shared → Prop} {s : Shared} {name qual : PySem.Str} {params : Arguments} {body : List Stmt} {scope : Scope}
    {dV kV doc pm cdv ct : Value} {an : Option Addr} {a : Addr} {o : Obj} {args : List Value} (binds : List (PySem.Str × Value))
    (hroom : A.depth < recursionLimit) (ho : s.heap.get? a = some o) (hdata : o.data = .func (fnOf name qual params body scope dV kV doc pm an cdv ct)) (hlim : s.heap.NoLimit) (hcd : s.heap.CodeRec cdv qual)
    (hbind : bindArgs (fnOf name qual params body scope dV kV doc pm an cdv ct) ⟨args, []⟩ = pure binds)
    (hkind : (binds.all fun y => scope.names.lookup y.1 == some .local || scope.names.lookup y.1 == some .cell) = true)
    (hnd : ((cellsFrom 0 scope.names []).map (·.1)).Nodup)
    (h : ∀ h₁ tk cells, Fr s.heap s.heap.objs.size h₁ (bindL (envOfC qual scope s.heap.objs.size a cdv).kindOf binds fun _ => none) → News s.heap s.heap.objs.size h₁ cells →
      CellsAre (bindC (envOfC qual scope s.heap.objs.size a cdv).kindOf binds fun _ => none) (cellsFrom (s.heap.objs.size + 1) scope.names []) cells →
      wpAny (model prog w) (A.deeper (envOfC qual scope s.heap.objs.size a cdv)) (execs body (envOfC qual scope s.heap.objs.size a cdv))
        (fun f s' => R (.ok (.ret (match f with | .ret v => v | _ => .none))) s')
        (fun e s' => wpAny (model prog w) (A.deeper (envOfC qual scope s.heap.objs.size a cdv)) (leaving (envOfC qual scope s.heap.objs.size a cdv) e)
          (fun _ s'' => R (.error e) s'') (fun e' s'' => R (.error e') s'') s')
        { s with heap := h₁, toks := tk })
    (hco : scope.isCoroutine = false := by rfl) (hgen : scope.isGenerator = false := by rfl) (hk : scope.kind = .function := by rfl) :
    codeAny (model prog w) A (.call (.ref a) ⟨args, []⟩) R s := by
  refine codeAny_call_function hroom ho hdata hco hgen rfl hcd ?_
  rw [hbind]
  refine wpAny_pure (wpAny_newFunctionEnv_cells hk (kindsX hkind _) fun env' he s' x => ?_)
  subst he
  refine ⟨hlim.keeps x.toInCall.keep, codeAny_func ?_⟩
  obtain ⟨h₁, tk, rfl, _⟩ := x.done
  obtain ⟨cells, NC, Y⟩ := Cl.news (h₀ := s.heap) (Nat.le_refl _) fun n c hm => ⟨x.cell n c (lookup_of_mem_nodup (cellsFrom_names scope.names 0 (s.heap.objs.size + 1) [] [] rfl ▸ hnd) hm), x.above n c hm⟩
  exact h h₁ tk cells ⟨x.toInCall.ns, x.toInCall.keep, Nat.le_refl _⟩ NC Y
theorem pen_newsC {h h' : Heap} {p L : Addr} {m : PySem.Str → Option Value} {news : List (Addr × Obj)} {o : Obj} (F : Fr h L h' m) (N : News h L h' news) (hl : h.get? p = some o) (hL : p ≠ L) : News (hideAll h [p]) L h' (news ++ [(p, o)]) := fun q hq => by
  rcases List.mem_append.mp hq with hq | hq
  · refine ⟨(N q hq).1, (N q hq).2.1, ?_⟩
    cases z : (hideAll h [p]).get? q.1 with
    | none => rfl
    | some o' => have := of_hideAll _ z; rw [(N q hq).2.2] at this; cases this
  · rw [List.mem_singleton.mp hq]
    exact ⟨F.keep _ _ hl, hL, hideAll_none _ (by simp)⟩
end Mine
end
section
open PySem PySem.W PyProof.Rows PySem.Calls
set_option Elab.async false
set_option maxRecDepth 100000
set_option maxHeartbeats 8000000
namespace Mine
theorem rulesPk_0 : True := by
  w_top off
  k_with_none
  trivial
noncomputable def StrLe (k : Nat) (v : Value) : Prop := ∃ l t, v = .str (S l) t ∧ l.length ≤ k
section
variable {w : World} {mg mb : PySem.Str → Option Value} {mean : ExcName → Option Value} {pg : PySem.Program} {lse : List PySem.Str} {s : Shared} {A : Around} {Q E : Value → Shared → Prop} {h₀ : Heap} {L : Addr} {m : PySem.Str → Option Value} {news : List (Addr × Obj)} {g : Obj → List (Addr × Obj)} {p : Addr} {a b : Int} {ta tb : Tok} {n : Nat}
theorem pick_s_k {x_some : List Nat} {t_some : Tok} (F : Fr h₀ L s.heap m) (N : News h₀ L s.heap news) (U : UpdF p (penO a ta b tb n) news g) (X : (hd.heap_1 w.params).In h₀) (T : Top pg lse mean mg mb h₀) (R : Rn A 2) (ha : 0 ≤ a) (hb : 0 ≤ b) (hs : 1 ≤ x_some.length ∧ x_some.length ≤ 30)
    (hq : ∀ c t a' ta' b' tb' n' h' tk, c ∈ x_some → 0 ≤ a' → 0 ≤ b' → Fr h₀ L h' m → News h₀ L h' (g (penO a' ta' b' tb' n')) → Q (.str (S [c]) t) { s with heap := h', toks := tk }) :
    wpAny (model PySem.Challenge.rw_no0239_01.row.prog w) A (call (.ref 193) [.ref p, .str (S x_some) t_some]) Q E s := by
  obtain ⟨e1, e2, e3⟩ := pen_in N U
  refine pick_s_b p a b ta tb n _ _ X T F.keep e3 e1 R ha hb hs fun v t a' ta' b' tb' n' h' tk v1 a1 b1 hb ho => ?_
  obtain ⟨F', N'⟩ := pen_out F N U hb ho
  exact hq v t a' ta' b' tb' n' h' tk v1 a1 b1 F' N'
theorem pick_t_k {r : Addr} {vs : List Value} (F : Fr h₀ L s.heap m) (N : News h₀ L s.heap news) (U : UpdF p (penO a ta b tb n) news g) (X : (hd.heap_1 w.params).In h₀) (T : Top pg lse mean mg mb h₀) (R : Rn A 2) (ht : IsTup s.heap r vs.toArray) (ha : 0 ≤ a) (hb : 0 ≤ b) (hs : 1 ≤ vs.length ∧ vs.length ≤ 30)
    (hq : ∀ v a' ta' b' tb' n' h' tk, v ∈ vs → 0 ≤ a' → 0 ≤ b' → Fr h₀ L h' m → News h₀ L h' (g (penO a' ta' b' tb' n')) → Q v { s with heap := h', toks := tk }) :
    wpAny (model PySem.Challenge.rw_no0239_01.row.prog w) A (call (.ref 193) [.ref p, .ref r]) Q E s := by
  obtain ⟨e1, e2, e3⟩ := pen_in N U
  refine pick_t_b p a b ta tb n r vs X T F.keep e3 e1 R ha hb ht hs fun v a' ta' b' tb' n' h' tk v1 a1 b1 hb ho => ?_
  obtain ⟨F', N'⟩ := pen_out F N U hb ho
  exact hq v a' ta' b' tb' n' h' tk v1 a1 b1 F' N'
theorem pick_ts_k {r : Addr} {vs : List Value} (F : Fr h₀ L s.heap m) (N : News h₀ L s.heap news) (U : UpdF p (penO a ta b tb n) news g) (X : (hd.heap_1 w.params).In h₀) (T : Top pg lse mean mg mb h₀) (R : Rn A 2) (ht : IsTup s.heap r vs.toArray) (ha : 0 ≤ a) (hb : 0 ≤ b) (hs : 1 ≤ vs.length ∧ vs.length ≤ 30)
    (hv : ∀ v ∈ vs, StrLe 5 v)
    (hq : ∀ l t a' ta' b' tb' n' h' tk, l.length ≤ 5 → 0 ≤ a' → 0 ≤ b' → Fr h₀ L h' m → News h₀ L h' (g (penO a' ta' b' tb' n')) → Q (.str (S l) t) { s with heap := h', toks := tk }) :
    wpAny (model PySem.Challenge.rw_no0239_01.row.prog w) A (call (.ref 193) [.ref p, .ref r]) Q E s :=
  pick_t_k F N U X T R ht ha hb hs fun v a' ta' b' tb' n' h' tk hm a1 b1 F' N' => by
    obtain ⟨l, t, rfl, hl⟩ := hv v hm
    exact hq l t a' ta' b' tb' n' h' tk hl a1 b1 F' N'
end
end Mine
end
section
open PySem PySem.W PyProof.Rows PySem.Calls PySem.Spec PySem.Builtin PySem.Builtin.Str
set_option Elab.async false
set_option maxRecDepth 100000
set_option maxHeartbeats 8000000
namespace Mine
theorem rulesCt_0 : True := by
  w_top off
  k_with_none
  trivial
theorem fillCt {w : World} : PySem.Challenge.rw_no0239_01 = PySem.Challenge.rw_no0239_01 ∧ hd.heap_1 w.params = hd.heap_1 w.params := by k_fill; exact ⟨rfl, rfl⟩
theorem CompEnd.mono {h₀ : Heap} {L I C D : Addr} {m : PySem.Str → Option Value} {s₁ s₂ : Shared} {oI oC oD : Obj} {S : List (Addr × Obj) → Prop} {rest rest' : Value → List (Addr × Obj) → Prop} {y : Value}
    (h : LCg.CompEnd h₀ L m s₁ I oI C oC D oD S rest y s₂) (hr : ∀ n', rest y n' → rest' y n') : LCg.CompEnd h₀ L m s₁ I oI C oC D oD S rest' y s₂ :=
  let ⟨h', tk, n', e, F, N, off, hS, r⟩ := h
  ⟨h', tk, n', e, F, N, off, hS, hr n' r⟩
theorem comp_turns {prog : Program} {w : World} {A : Around} {h₀ : Heap} {L : Addr} {m : PySem.Str → Option Value} {env : Env} {elt : Expr} {x : PySem.Str} {scope : Scope} {cl : List (PySem.Str × Addr)} {s : Shared} {S : List (Addr × Obj) → Prop} {P : Nat → Value → Prop}
    {Fin : List Value → List (Addr × Obj) → Prop} (Inv : List Value → List (Addr × Obj) → Prop)
    (hstep : ∀ i ys news, Inv ys news → ∀ v I oI C oC D m₂ h tk (E' : Value → Shared → Prop), P i v → LCg.NsObj oC m₂ → m₂ x = some v → Fr h₀ L h m → News h₀ L h ((I, oI) :: (C, oC) :: (D, LCg.lst ys) :: news) → LCg.Off3 I C D news → ((@Ne Nat I C) ∧ (@Ne Nat I D) ∧ (@Ne Nat C D)) →
      wpAny (model prog w) A (eval elt (compEnvC scope cl C env)) (LCg.CompEnd h₀ L m { s with heap := h, toks := tk } I oI C oC D (LCg.lst ys) S (fun y news' => Inv (ys ++ [y]) news')) E' { s with heap := h, toks := tk }) :
    ∀ n i ys news, Inv ys news → (∀ ys' news', Inv ys' news' → ys'.length = ys.length + n → Fin ys' news') → LCg.CompRest prog w A h₀ L m env elt x scope cl s S P Fin n i ys news
  | 0, i, ys, news, hi, hf => hf ys news hi (Nat.add_zero _).symm
  | n+1, i, ys, news, hi, hf => LCg.CompRest.succ fun v I oI C oC D m₂ h tk E' hv hC hx F N off ne =>
      wpAny_mono (hstep i ys news hi v I oI C oC D m₂ h tk E' hv hC hx F N off ne) (fun y s₄ h₄ => CompEnd.mono h₄ fun n' hn => comp_turns Inv hstep n (i+1) (ys ++ [y]) n' hn (fun ys' news' q e => hf ys' news' q (by rw [e, List.length_append, List.length_singleton]; omega))) (fun _ _ e => e)
/-- a list of texts of one sign each -/
noncomputable def Chars (ys : List Value) : Prop := ∃ l : List (Nat × Tok), ys = l.map fun c => .str (S [c.1]) c.2
theorem Chars.nil : Chars [] := ⟨[], rfl⟩
theorem Chars.snoc {ys : List Value} {c : Nat} {t : Tok} (h : Chars ys) : Chars (ys ++ [.str (S [c]) t]) := by
  obtain ⟨l, rfl⟩ := h
  exact ⟨l ++ [(c, t)], by simp⟩
theorem join_S (l : List (Nat × Tok)) : PySem.Txt.join (PySem.Str.ofString "") ((l.map fun c => (S [c.1], c.2)).map (·.1)) = S (l.map (·.1)) := by
  show PySem.Builtin.Str.glued _ _ = _
  rw [StrLaws.glued_eq_join]
  induction l with
  | nil => rfl
  | cons c r ih =>
    cases r with
    | nil => rfl
    | cons d r =>
      have e : Str.join (PySem.Str.ofString "") (((c :: d :: r).map fun c => (S [c.1], c.2)).map (·.1)) = S [c.1] ++ PySem.Str.ofString "" ++ Str.join (PySem.Str.ofString "") (((d :: r).map fun c => (S [c.1], c.2)).map (·.1)) := rfl
      rw [e, ih]
      have z : S [c.1] ++ PySem.Str.ofString "" = S [c.1] := by rw [lit_empty, S_app]; rfl
      rw [z, S_app]; rfl
theorem join_chars {prog : PySem.Program} {w : World} {A : Around} {E : Value → Shared → Prop} {s : Shared} {t : Tok} {Q : Value → Shared → Prop} {h₀ : Heap} {L D : Addr} {news : List (Addr × Obj)} {ys : List Value}
    (N : News h₀ L s.heap news) (hm : (D, LCg.lst ys) ∈ news) (hc : Chars ys) (hl : ys.length ≤ 30) (hq : ∀ l t' k, l.length = ys.length → Q (.str (S l) t') { s with toks := k }) :
    wpAny (model prog w) A (call (.builtin "str.join") [.str (PySem.Str.ofString "") t, .ref D]) Q E s := by
  obtain ⟨l, rfl⟩ := hc
  have e := (N _ hm).1
  have hz : l.length ≤ 30 := by simpa using hl
  refine SC.join (l := l.map fun c => (S [c.1], c.2)) ⟨_, e, rfl, (l.map fun c => Value.str (S [c.1]) c.2).length, ?_⟩ rfl (joinOk_of_weight ?_ (by decide)) fun t' k => ?_
  · show ({ cls := .type "list", data := .seq (l.map fun c => Value.str (S [c.1]) c.2).toArray (l.map fun c => Value.str (S [c.1]) c.2).length } : Obj).data = _
    simp [strValues, Function.comp_def]
  · have : (((l.map fun c => (S [c.1], c.2)).map (·.1)).map (·.length)).sum = l.length := by
      clear e hz hl hm N hq
      induction l with
      | nil => rfl
      | cons c r ih =>
        simp only [List.map_cons, List.sum_cons, List.length_cons, ih, S_len, List.length_nil]
        omega
    rw [this]; simp; omega
  · rw [join_S]
    exact hq _ _ _ (by simp)
end Mine
end
section
open PySem PySem.W PyProof.Rows PySem.Calls PySem.Spec
set_option Elab.async false
set_option maxRecDepth 100000
set_option maxHeartbeats 8000000
namespace Mine
theorem fillF22 {w : World} : PySem.Challenge.rw_no0239_01 = PySem.Challenge.rw_no0239_01 ∧ hd.heap_1 w.params = hd.heap_1 w.params := by k_fill; exact ⟨rfl, rfl⟩
theorem rulesF22_1 : True := by
  w_top off
  k_with_none
  k_with "my:pre" => first | assumption | omega
  k_with "call ref" => (k_here; (with_reducible show wpAny _ _ (call (.ref 186) _) _ _ _); refine' law_draw_k ?w1qF ?w1qN ?w1qU ?w1qX ?w1qT ?w1qR ?w1qha ?w1qhb ?w1qhm ?_; (case w1qF => k_asm); (case w1qN => k_asm); (case w1qU => k_updF); (case w1qX => k_asm); (case w1qT => k_asm); (case w1qR => first | assumption | exact Rn.deeper (by assumption) (by decide) | exact Rn.le (by assumption) (by decide)); (case w1qha => assumption); (case w1qhb => assumption); (case w1qhm => first | assumption | omega); intro _ _ _ _ _ _ _ _ _ _ _ _ _ _ N'; (try dsimp only at N'); (try dsimp only); revert N'; intro _)
  k_with "eval ListComp" => (k_here; k_dflt (refine LCg.ListComp_U (F₀ := by k_asm) (by rfl) (by decide) (by rfl) (by decide) (by rfl) ?_))
  trivial
noncomputable def Hold (P : Prop) : Prop := P
theorem Hold.mk {P : Prop} (h : Hold P) : P := h
theorem rulesF22_2 : True := by
  k_with "CompSrc" => (k_here; refine Hold.mk ?_)
  trivial
theorem lit_fg11 : PySem.Str.ofString "0123456789 " = S [48,49,50,51,52,53,54,55,56,57,32] := by decide +kernel
theorem law_figures_b {w : World} {mg mb : PySem.Str → Option Value} {mean : ExcName → Option Value} {pg : PySem.Program} {lse : List PySem.Str} {s : Shared} {A : Around} {Q E : Value → Shared → Prop} {h₀ : Heap} (p : Addr) (a b : Int) (ta tb : Tok) (n : Nat)
    (X : (hd.heap_1 w.params).In h₀) (T : Top pg lse mean mg mb h₀) (k : Ext h₀ s.heap) (hp : h₀.get? p = none) (hl : s.heap.get? p = some (penO a ta b tb n)) (R : Rn A 4) (ha : 0 ≤ a) (hb : 0 ≤ b)
    (hq : ∀ l t a' ta' b' tb' n' h' tk, l.length ≤ 6 → 0 ≤ a' → 0 ≤ b' → But p s.heap h' → h'.get? p = some (penO a' ta' b' tb' n') → Q (.str (S l) t) { s with heap := h', toks := tk }) :
    wpAny (model PySem.Challenge.rw_no0239_01.row.prog w) A (call (.ref 198) [.ref p]) Q E s := by
  obtain ⟨ah, ad, af, ag, au⟩ := A
  obtain rfl : ah = none := R.h
  refine wpAny_call ?_
  refine call_qC [("pen", .ref p)] (by have := R.d; omega) ((X.keeps k) 198 _ (by k_is)) rfl (T.nolimit.keeps k) (codeRec_of (X.keeps k) (by k_is)) rfl rfl (by decide +kernel) ?_
  intro h₁ tk cells F0 N0 Y
  have X' := X.keeps (pen_stays k hp)
  have T' := T.keeps (pen_stays k hp)
  have F := pen_fr (p := p) F0
  have N := pen_newsC F0 N0 hl (Nat.ne_of_lt (Heap.lt_size hl))
  have hlt := ltN (Heap.lt_size hl)
  clear F0 X T N0
  k_cells Y
  try simp only [List.cons_append, List.nil_append] at N
  k_steps
  unfold Hold
  refine LCg.CompSrc.range (by rfl) (by k_asm) (by k_asm) (by assumption) (small_one (by omega) (by omega) (by omega) (by omega)) (rangeSize_nat _ _) (by rw [PySem.sizeLine_eq]; omega) ?_
  intro g'
  refine comp_turns (fun ys news => Chars ys ∧ ∃ a ta b tb n, 0 ≤ a ∧ 0 ≤ b ∧ news = [(s.heap.objs.size + 1, _), (p, penO a ta b tb n)]) ?_ _ _ _ _ ⟨Chars.nil, _, _, _, _, _, by assumption, by assumption, rfl⟩ ?_
  · rintro i ys news ⟨hc, a, ta, b, tb, n, ha, hb, rfl⟩
    intro v I oI C oC D m₂ h tk E' hv hC hx F N off ne
    have off0 := off
    try simp only [LCg.Off3, and_true] at off
    k_steps
    rw [lit_fg11]
    refine' pick_s_k ?F ?N ?U ?X ?T ?R ?ha ?hb ?hm ?_
    (case F => k_asm); (case N => k_asm); (case U => k_updF); (case X => k_asm); (case T => k_asm); (case R => first | assumption | exact Rn.deeper (by assumption) (by decide) | exact Rn.le (by assumption) (by decide)); (case ha => assumption); (case hb => assumption); (case hm => decide)
    intro c' t' a' ta' b' tb' n' h' tk' v1' a1' b1' F' N'; (try dsimp only at N'); (try dsimp only)
    exact LCg.CompEnd.intro F' N' _ (fun p hp => hp) off0 trivial ⟨hc.snoc, _, _, _, _, _, a1', b1', rfl⟩
  · rintro ys news ⟨hc, a, ta, b, tb, n, ha, hb, rfl⟩ hl
    intro D h tk F N o1
    k_steps
    refine' join_chars ?N ?m ?c ?l ?h
    case N => exact N
    case m => exact .head _
    case c => exact hc
    case l => rw [hl]; simp; omega
    intro l t' k e
    k_steps
    dsimp only
    exact hq l _ a ta b tb n _ _ (by rw [e, hl]; simp; omega) ha hb (pen_but F) (N _ (.tail _ (.tail _ (.head _)))).1

theorem law_figures_k {w : World} {mg mb : PySem.Str → Option Value} {mean : ExcName → Option Value} {pg : PySem.Program} {lse : List PySem.Str} {s : Shared} {A : Around} {Q E : Value → Shared → Prop} {h₀ : Heap} {L : Addr} {m : PySem.Str → Option Value} {news : List (Addr × Obj)} {g : Obj → List (Addr × Obj)} {p : Addr} {a b : Int} {ta tb : Tok} {n : Nat}
    (F : Fr h₀ L s.heap m) (N : News h₀ L s.heap news) (U : UpdF p (penO a ta b tb n) news g) (X : (hd.heap_1 w.params).In h₀) (T : Top pg lse mean mg mb h₀) (R : Rn A 4) (ha : 0 ≤ a) (hb : 0 ≤ b)
    (hq : ∀ l t a' ta' b' tb' n' h' tk, l.length ≤ 6 → 0 ≤ a' → 0 ≤ b' → Fr h₀ L h' m → News h₀ L h' (g (penO a' ta' b' tb' n')) → Q (.str (S l) t) { s with heap := h', toks := tk }) :
    wpAny (model PySem.Challenge.rw_no0239_01.row.prog w) A (call (.ref 198) [.ref p]) Q E s := by
  obtain ⟨e1, e2, e3⟩ := pen_in N U
  refine law_figures_b p a b ta tb n X T F.keep e3 e1 R ha hb fun l t a' ta' b' tb' n' h' tk v1 a1 b1 hb ho => ?_
  obtain ⟨F', N'⟩ := pen_out F N U hb ho
  exact hq l t a' ta' b' tb' n' h' tk v1 a1 b1 F' N'
end Mine
end
section
open PySem PySem.W PyProof.Rows PySem.Calls PySem.Spec
set_option Elab.async false
set_option maxRecDepth 100000
set_option maxHeartbeats 8000000
namespace Mine
theorem fillF23 {w : World} : PySem.Challenge.rw_no0239_01 = PySem.Challenge.rw_no0239_01 ∧ hd.heap_1 w.params = hd.heap_1 w.params := by k_fill; exact ⟨rfl, rfl⟩
theorem rulesF23_1 : True := by
  w_top off
  k_with_none
  k_with "my:pre" => first | assumption | lia
  k_with "call ref" => (k_here; (with_reducible show wpAny _ _ (call (.ref 186) _) _ _ _); refine' law_draw_k ?w1qF ?w1qN ?w1qU ?w1qX ?w1qT ?w1qR ?w1qha ?w1qhb ?w1qhm ?_; (case w1qF => k_asm); (case w1qN => k_asm); (case w1qU => k_updF); (case w1qX => k_asm); (case w1qT => k_asm); (case w1qR => first | assumption | exact Rn.deeper (by assumption) (by decide) | exact Rn.le (by assumption) (by decide)); (case w1qha => assumption); (case w1qhb => assumption); (case w1qhm => first | assumption | lia); intro _ _ _ _ _ _ _ _ _ _ _ _ _ _ N'; (try dsimp only at N'); (try dsimp only); revert N'; intro _)
  trivial
noncomputable def Hold2 (P : Prop) : Prop := P
theorem Hold2.mk {P : Prop} (h : Hold2 P) : P := h
theorem rulesF23_2 : True := by
  k_with "eval ListComp" => (k_here; k_dflt (refine LCg.ListComp_U (F₀ := by k_asm) (by rfl) (by decide) (by rfl) (by decide) (by rfl) ?_))
  k_with "CompSrc" => (k_here; refine Hold2.mk ?_)
  trivial
theorem strle {x : PySem.Str} {t : Tok} {k : Nat} (h : x.length ≤ k) : StrLe k (.str x t) := ⟨x.cps.toList, t, by rw [← S_of], h⟩
theorem tup_led {h₀ h : Heap} {L D : Addr} {news : List (Addr × Obj)} {vs : List Value} (N : News h₀ L h news) (hm : (D, tupO vs) ∈ news) : IsTup h D vs.toArray := ⟨_, (N _ hm).1, rfl, _, rfl⟩
theorem tup_base {h₀ h : Heap} {L D : Addr} {m : PySem.Str → Option Value} {K : Frag} {vs : List Value} (F : Fr h₀ L h m) (X : K.In h₀) (e : K.lookup D = some (tupO vs)) : IsTup h D vs.toArray := ⟨_, F.keep _ _ (X D _ e), rfl, _, rfl⟩
theorem rulesF23_3 : True := by
  k_with "my:strs" => first | exact List.forall_mem_nil _ | (refine List.forall_mem_cons.mpr ⟨strle (by decide +kernel), ?_⟩; walk_at "my:strs")
  trivial
theorem sz_S {l : List Nat} {k : Nat} (h : l.length ≤ k) : (S l).length ≤ k := by rw [S_len]; exact h
theorem lit_field19 : PySem.Str.ofString " 0123456789.ED+-TFx" = S [32,48,49,50,51,52,53,54,55,56,57,46,69,68,43,45,84,70,120] := by decide +kernel
theorem rulesF23_4 : True := by
  k_with "call ref" => (k_here; (with_reducible show wpAny _ _ (call (.ref 198) _) _ _ _); refine' law_figures_k ?w2qF ?w2qN ?w2qU ?w2qX ?w2qT ?w2qR ?w2qha ?w2qhb ?_; (case w2qF => k_asm); (case w2qN => k_asm); (case w2qU => k_updF); (case w2qX => k_asm); (case w2qT => k_asm); (case w2qR => first | assumption | exact Rn.deeper (by assumption) (by decide) | exact Rn.le (by assumption) (by decide)); (case w2qha => assumption); (case w2qhb => assumption); intro _ _ _ _ _ _ _ _ _ v1' a1' b1' F' N'; (have v1S' := sz_S v1'); (try dsimp only at N'); (try dsimp only); revert v1' a1' b1' F' N' v1S'; intro _ _ _ _ _ _)
  k_with "call ref" => (k_here; (with_reducible show wpAny _ _ (call (.ref 193) [.ref _, .ref _]) _ _ _); refine' pick_ts_k ?w3qF ?w3qN ?w3qU ?w3qX ?w3qT ?w3qR ?w3qht ?w3qha ?w3qhb ?w3qhm ?w3qhv ?_; (case w3qF => k_asm); (case w3qN => k_asm); (case w3qU => k_updF); (case w3qX => k_asm); (case w3qT => k_asm); (case w3qR => first | assumption | exact Rn.deeper (by assumption) (by decide) | exact Rn.le (by assumption) (by decide)); (case w3qha => assumption); (case w3qhb => assumption); (case w3qht => first | exact tup_led (by assumption) (by k_mem) | exact tup_base (by assumption) (by k_asm) (by k_is)); (case w3qhm => exact ⟨Nat.le_of_ble_eq_true rfl, Nat.le_of_ble_eq_true rfl⟩); (case w3qhv => walk_at "my:strs"); intro _ _ _ _ _ _ _ _ _ v1' a1' b1' F' N'; (have v1S' := sz_S v1'); (try dsimp only at N'); (try dsimp only); revert v1' a1' b1' F' N' v1S'; intro _ _ _ _ _ _)
  trivial
theorem law_field_b {w : World} {mg mb : PySem.Str → Option Value} {mean : ExcName → Option Value} {pg : PySem.Program} {lse : List PySem.Str} {s : Shared} {A : Around} {Q E : Value → Shared → Prop} {h₀ : Heap} (p : Addr) (a b : Int) (ta tb : Tok) (n : Nat)
    (X : (hd.heap_1 w.params).In h₀) (T : Top pg lse mean mg mb h₀) (k : Ext h₀ s.heap) (hp : h₀.get? p = none) (hl : s.heap.get? p = some (penO a ta b tb n)) (R : Rn A 6) (ha : 0 ≤ a) (hb : 0 ≤ b)
    (hq : ∀ l t a' ta' b' tb' n' h' tk, l.length ≤ 40 → 0 ≤ a' → 0 ≤ b' → But p s.heap h' → h'.get? p = some (penO a' ta' b' tb' n') → Q (.str (S l) t) { s with heap := h', toks := tk }) :
    wpAny (model PySem.Challenge.rw_no0239_01.row.prog w) A (call (.ref 203) [.ref p]) Q E s := by
  obtain ⟨ah, ad, af, ag, au⟩ := A
  obtain rfl : ah = none := R.h
  refine wpAny_call ?_
  refine call_qC [("pen", .ref p)] (by have := R.d; lia) ((X.keeps k) 203 _ (by k_is)) rfl (T.nolimit.keeps k) (codeRec_of (X.keeps k) (by k_is)) rfl rfl (by decide +kernel) ?_
  intro h₁ tk cells F0 N0 Y
  have X' := X.keeps (pen_stays k hp)
  have T' := T.keeps (pen_stays k hp)
  have F := pen_fr (p := p) F0
  have N := pen_newsC F0 N0 hl (Nat.ne_of_lt (Heap.lt_size hl))
  have hlt := ltN (Heap.lt_size hl)
  clear F0 X T N0
  k_cells Y
  try simp only [List.cons_append, List.nil_append] at N
  k_steps
  · unfold Hold2
    refine LCg.CompSrc.range (by rfl) (by k_asm) (by k_asm) (by assumption) (small_one (by lia) (by lia) (by lia) (by lia)) (rangeSize_nat _ _) (by rw [PySem.sizeLine_eq]; lia) ?_
    intro g'
    refine comp_turns (fun ys news => Chars ys ∧ ∃ a ta b tb n, 0 ≤ a ∧ 0 ≤ b ∧ news = [(s.heap.objs.size + 1, _), (p, penO a ta b tb n)]) ?_ _ _ _ _ ⟨Chars.nil, _, _, _, _, _, by assumption, by assumption, rfl⟩ ?_
    · rintro i ys news ⟨hc, a, ta, b, tb, n, ha, hb, rfl⟩
      intro v I oI C oC D m₂ h tk E' hv hC hx F N off ne
      have off0 := off
      try simp only [LCg.Off3, and_true] at off
      k_steps
      rw [lit_field19]
      refine' pick_s_k ?F ?N ?U ?X ?T ?R ?ha ?hb ?hm ?_
      (case F => k_asm); (case N => k_asm); (case U => k_updF); (case X => k_asm); (case T => k_asm); (case R => first | assumption | exact Rn.deeper (by assumption) (by decide) | exact Rn.le (by assumption) (by decide)); (case ha => assumption); (case hb => assumption); (case hm => decide)
      intro c' t' a' ta' b' tb' n' h' tk' v1' a1' b1' F' N'; (try dsimp only at N'); (try dsimp only)
      exact LCg.CompEnd.intro F' N' _ (fun p hp => hp) off0 trivial ⟨hc.snoc, _, _, _, _, _, a1', b1', rfl⟩
    · rintro ys news ⟨hc, a, ta, b, tb, n, ha, hb, rfl⟩ hl
      intro D h tk F N o1
      k_steps
      refine' join_chars ?N ?m ?c ?l ?h
      case N => exact N
      case m => exact .head _
      case c => exact hc
      case l => rw [hl]; simp; lia
      intro l t' k e
      k_steps
      dsimp only
      exact hq l _ a ta b tb n _ _ (by rw [e, hl]; simp; lia) ha hb (pen_but F) (N _ (.tail _ (.tail _ (.head _)))).1
  · (rename News _ _ _ _ => nn; rename Fr _ _ _ _ => ff)
    simp only [S_app]
    have hp9 := (nn _ (.tail _ (.tail _ (.tail _ (.tail _ (.tail _ (.head _))))))).1
    refine hq _ _ _ _ _ _ _ _ _ ?_ ?_ ?_ (pen_but ff) hp9
    · simp only [List.length_append]; lia
    · assumption
    · assumption

theorem law_field_k {w : World} {mg mb : PySem.Str → Option Value} {mean : ExcName → Option Value} {pg : PySem.Program} {lse : List PySem.Str} {s : Shared} {A : Around} {Q E : Value → Shared → Prop} {h₀ : Heap} {L : Addr} {m : PySem.Str → Option Value} {news : List (Addr × Obj)} {g : Obj → List (Addr × Obj)} {p : Addr} {a b : Int} {ta tb : Tok} {n : Nat}
    (F : Fr h₀ L s.heap m) (N : News h₀ L s.heap news) (U : UpdF p (penO a ta b tb n) news g) (X : (hd.heap_1 w.params).In h₀) (T : Top pg lse mean mg mb h₀) (R : Rn A 6) (ha : 0 ≤ a) (hb : 0 ≤ b)
    (hq : ∀ l t a' ta' b' tb' n' h' tk, l.length ≤ 40 → 0 ≤ a' → 0 ≤ b' → Fr h₀ L h' m → News h₀ L h' (g (penO a' ta' b' tb' n')) → Q (.str (S l) t) { s with heap := h', toks := tk }) :
    wpAny (model PySem.Challenge.rw_no0239_01.row.prog w) A (call (.ref 203) [.ref p]) Q E s := by
  obtain ⟨e1, e2, e3⟩ := pen_in N U
  refine law_field_b p a b ta tb n X T F.keep e3 e1 R ha hb fun l t a' ta' b' tb' n' h' tk v1 a1 b1 hb ho => ?_
  obtain ⟨F', N'⟩ := pen_out F N U hb ho
  exact hq l t a' ta' b' tb' n' h' tk v1 a1 b1 F' N'
end Mine
end
section
open PySem PySem.W PyProof.Rows PySem.Calls
set_option Elab.async false
set_option maxRecDepth 100000
set_option maxHeartbeats 8000000
namespace Mine
theorem fillF17 {w : World} : PySem.Challenge.rw_no0239_01 = PySem.Challenge.rw_no0239_01 ∧ hd.heap_1 w.params = hd.heap_1 w.params := by k_fill; exact ⟨rfl, rfl⟩
theorem rulesF17_1 : True := by
  w_top off
  k_with_none
  k_with "my:pre" => first | assumption | omega
  k_with "call ref" => (k_here; refine wpAny_tok ?_; refine' law_bare_k ?w1qF ?w1qN ?w1qX ?w1qT ?w1qR ?w1qhx ?_; (case w1qF => k_asm); (case w1qN => k_asm); (case w1qX => k_asm); (case w1qT => k_asm); (case w1qR => first | assumption | exact Rn.deeper (by assumption) (by decide) | exact Rn.le (by assumption) (by decide)); (case w1qhx => walk_at "my:pre"); intro _ _ _ _ _ htk'; (try dsimp only at htk'); (try simp only [List.length_cons, List.length_nil] at htk'); (try dsimp only); revert htk'; intro _)
  k_with "call ref" => (k_here; refine wpAny_tok ?_; refine' law_whole_k ?w2qF ?w2qN ?w2qX ?w2qT ?w2qR ?w2qhx ?_ ?_; (case w2qF => k_asm); (case w2qN => k_asm); (case w2qX => k_asm); (case w2qT => k_asm); (case w2qR => first | assumption | exact Rn.deeper (by assumption) (by decide) | exact Rn.le (by assumption) (by decide)); (case w2qhx => walk_at "my:pre"); all_goals (first | (intro _ _ _ _ _ _ htk'; (try dsimp only at htk'); (try simp only [List.length_cons, List.length_nil] at htk'); revert htk'; intro _) | (intro _ _ _ _ _ htk'; (try dsimp only at htk'); (try simp only [List.length_cons, List.length_nil] at htk'); revert htk'; intro _)); all_goals (try dsimp only))
  k_with "call builtin:str.replace" => (k_here; refine' call_repl ?w3ql ?w3qv ?w3qu ?_; (case w3ql => omega); (case w3qv => assumption); (case w3qu => first | assumption | exact tok_lt (by assumption) (by assumption)); intro _ _)
  trivial
noncomputable def lawIntR (z : Bool) (x : List Nat) (w : Int) : Bool × Int :=
  match (if replF (fillF z) (bareF x) = [] then some 0 else lawWhole (replF (fillF z) (bareF x))) with
  | none => (false, 1)
  | some n => if -(2 ^ (w - 1).toNat : Int) ≤ n ∧ n ≤ 2 ^ (w - 1).toNat - 1 then (true, n) else (false, 2)
theorem li_none {z : Bool} {x : List Nat} {w : Int} (he : replF (fillF z) (bareF x) ≠ []) (h : lawWhole (replF (fillF z) (bareF x)) = none) : lawIntR z x w = (false, 1) := by
  unfold lawIntR; rw [if_neg he, h]
theorem li_src {z : Bool} {x : List Nat} {n : Int} (h : replF (fillF z) (bareF x) = [] ∧ n = 0 ∨ replF (fillF z) (bareF x) ≠ [] ∧ ¬ lawWhole (replF (fillF z) (bareF x)) = none ∧ n = (lawWhole (replF (fillF z) (bareF x))).getD 0) :
    (if replF (fillF z) (bareF x) = [] then some 0 else lawWhole (replF (fillF z) (bareF x))) = some n := by
  rcases h with ⟨h, rfl⟩ | ⟨h, h2, rfl⟩
  · rw [if_pos h]
  · rw [if_neg h]
    cases e : lawWhole (replF (fillF z) (bareF x)) with
    | none => exact absurd e h2
    | some n => rfl
theorem li_ok {z : Bool} {x : List Nat} {w n : Int} (h : (if replF (fillF z) (bareF x) = [] then some 0 else lawWhole (replF (fillF z) (bareF x))) = some n) (h1 : -(2 ^ (w - 1).toNat : Int) ≤ n) (h2 : n ≤ 2 ^ (w - 1).toNat - 1) : lawIntR z x w = (true, n) := by
  unfold lawIntR; rw [h]; dsimp only; rw [if_pos ⟨h1, h2⟩]
theorem li_f1 {z : Bool} {x : List Nat} {w n : Int} (h : (if replF (fillF z) (bareF x) = [] then some 0 else lawWhole (replF (fillF z) (bareF x))) = some n) (h1 : ¬ -(2 ^ (w - 1).toNat : Int) ≤ n) : lawIntR z x w = (false, 2) := by
  unfold lawIntR; rw [h]; dsimp only; rw [if_neg fun z => h1 z.1]
theorem li_f2 {z : Bool} {x : List Nat} {w n : Int} (h : (if replF (fillF z) (bareF x) = [] then some 0 else lawWhole (replF (fillF z) (bareF x))) = some n) (h1 : ¬ n ≤ 2 ^ (w - 1).toNat - 1) : lawIntR z x w = (false, 2) := by
  unfold lawIntR; rw [h]; dsimp only; rw [if_neg fun z => h1 z.2]
noncomputable def tagS (b : Bool) : PySem.Str := if b then PySem.Str.ofString "ok" else PySem.Str.ofString "fault"
theorem law_int_b {w : World} {mg mb : PySem.Str → Option Value} {mean : ExcName → Option Value} {pg : PySem.Program} {lse : List PySem.Str} {s : Shared} {A : Around} {Q E : Value → Shared → Prop} (x_sheet : List Nat) (t_sheet : Tok) (x_fill : Bool) (t_fill : Tok) (x_width : Int) (t_width : Tok)
    (X : (hd.heap_1 w.params).In s.heap) (T : Top pg lse mean mg mb s.heap) (R : Rn A 5) (hx : x_sheet.length < 200) (hv : 0 < t_fill) (hu : t_fill < s.toks) (hw : 2 ≤ x_width ∧ x_width ≤ 31)
    (hq : ∀ D t0 t1 h' tk, Ext s.heap h' → h'.get? D = some (tupO [.str (tagS (lawIntR x_fill x_sheet x_width).1) t0, .int ((lawIntR x_fill x_sheet x_width).2) t1]) → s.heap.get? D = none → Q (.ref D) { s with heap := h', toks := tk }) :
    wpAny (model PySem.Challenge.rw_no0239_01.row.prog w) A (call (.ref 222) [.str (S x_sheet) t_sheet, .str (S (fillF x_fill)) t_fill, .int x_width t_width]) Q E s := by
  obtain ⟨ah, ad, af, ag, au⟩ := A
  obtain rfl : ah = none := R.h
  refine wpAny_call ?_
  refine call_q [("sheet", .str (S x_sheet) t_sheet), ("fill", .str (S (fillF x_fill)) t_fill), ("width", .int x_width t_width)] (by have := R.d; omega) (X 222 _ (by k_is)) rfl T.nolimit (codeRec_of X (by k_is)) rfl (locs rfl) ?_ rfl rfl rfl (by decide)
  intro h₁ F
  have N : News s.heap s.heap.objs.size h₁ [] := News.nil
  have hxS : (S x_sheet).length < 200 := S_lt hx
  have lb := bareF_len x_sheet
  have lr := replF_len (l := bareF x_sheet) (fillF_len x_fill)
  k_steps
  all_goals (rename News _ _ _ _ => nn; rename Fr _ _ _ _ => ff)
  all_goals first
    | (have e := li_none (w := x_width) (nonilS (by assumption)) (by assumption); rw [e] at hq; exact hq _ _ _ _ _ ff.keep (nn _ (.head _)).1 (nn _ (.head _)).2.2)
    | ((first
        | (have e0 := li_src (z := x_fill) (x := x_sheet) (.inl ⟨nilS (by assumption), rfl⟩))
        | (have e0 := li_src (z := x_fill) (x := x_sheet) (.inr ⟨nonilS (by assumption), by assumption, rfl⟩)));
       (first
        | (have e := li_ok (w := x_width) e0 (by assumption) (by assumption))
        | (have e := li_f1 (w := x_width) e0 (by assumption))
        | (have e := li_f2 (w := x_width) e0 (by assumption)));
       rw [e] at hq; exact hq _ _ _ _ _ ff.keep (nn _ (.head _)).1 (nn _ (.head _)).2.2)

theorem law_int_k {w : World} {mg mb : PySem.Str → Option Value} {mean : ExcName → Option Value} {pg : PySem.Program} {lse : List PySem.Str} {s : Shared} {A : Around} {Q E : Value → Shared → Prop} {h₀ : Heap} {L : Addr} {m : PySem.Str → Option Value} {news : List (Addr × Obj)} {x_sheet : List Nat} {t_sheet : Tok} {x_fill : Bool} {t_fill : Tok} {x_width : Int} {t_width : Tok}
    (F : Fr h₀ L s.heap m) (N : News h₀ L s.heap news) (X : (hd.heap_1 w.params).In h₀) (T : Top pg lse mean mg mb h₀) (R : Rn A 5) (hx : x_sheet.length < 200) (hv : 0 < t_fill) (hu : t_fill < s.toks) (hw : 2 ≤ x_width ∧ x_width ≤ 31)
    (hq : ∀ D t0 t1 h' tk, Fr h₀ L h' m → News h₀ L h' ((D, tupO [.str (tagS (lawIntR x_fill x_sheet x_width).1) t0, .int ((lawIntR x_fill x_sheet x_width).2) t1]) :: news) → Q (.ref D) { s with heap := h', toks := tk }) :
    wpAny (model PySem.Challenge.rw_no0239_01.row.prog w) A (call (.ref 222) [.str (S x_sheet) t_sheet, .str (S (fillF x_fill)) t_fill, .int x_width t_width]) Q E s :=
  law_int_b _ _ _ _ _ _ (X.keeps F.keep) (T.keeps F.keep) R hx hv hu hw (fun D t0' t1' h' tk x y z => hq D t0' t1' h' tk (F.keeps x) (news_cons F N x y z)) 

end Mine
end
section
open PySem PySem.W PyProof.Rows PySem.Calls
set_option Elab.async false
set_option maxRecDepth 100000
set_option maxHeartbeats 8000000
namespace Mine
theorem rulesHr_0 : True := by
  w_top off
  k_with_none
  trivial
theorem fillHr {w : World} : PySem.Challenge.rw_no0239_01 = PySem.Challenge.rw_no0239_01 ∧ hd.heap_1 w.params = hd.heap_1 w.params := by k_fill; exact ⟨rfl, rfl⟩
section
variable {M : Model} {w : World} {mg mb : PySem.Str → Option Value} {B h₀ h : Heap} {A : Around} {l : List Env} {L a : Addr} {m : PySem.Str → Option Value} {name : PySem.Str} {scope : Scope} {cd : Value} {s : Shared} {E : Value → Shared → Prop} {e : Addr} {P : List DictEntry → Value → Prop} {C : Addr}
theorem Cx.pushX {env : Env} (cx : Cx w mg mb B A l h₀) (F : Fr h₀ L h m) (hf : env.frame = some L) (hke : env.scope.kind = .function) : Cx w mg mb B (A.deeper env) (env :: l) h := by
  obtain ⟨X, T, k, sz, fr, ff, hh⟩ := cx
  have K := PySem.W.pushX ⟨fr, k, ff⟩ F hf hke
  exact ⟨X, T, K.stays, Nat.le_trans (Nat.le_trans sz F.above) (Nat.le_of_lt F.ns.lt), K.stack, K.frames, hh⟩
theorem fly_passX {env : Env} (cx : Cx w mg mb B A l h₀) (F : Fr h₀ L h m) (hf : env.frame = some L) (hke : env.scope.kind = .function) (f : Fly (fsOf (env :: l)) h C e P s.heap)
    {Q : Unit → Shared → Prop} (hq : ∀ h', Fly (fsOf l) h₀ C e P h' → Q () { s with heap := h' }) :
    wpAny M (A.deeper env) (leaving env (.ref e)) Q E s :=
  leave_fly (cx.pushX F hf hke).fr hf (ff_no (cx.pushX F hf hke).ff) f (fun _ hb => hb) fun h' f' => hq h' (f'.out hf F.keep (Heap.get?_none_of_le F.above))
/-- what stands behind «except X as n», told against the cut heap -/
structure Hd (C e : Addr) (P : List DictEntry → Value → Prop) (h : Heap) : Prop where
  ok : ∃ o D es k, h.get? e = some o ∧ o.cls = .ref C ∧ o.dict = some D ∧ notCls o = true ∧ h.get? D = some (dictOf es k) ∧ ∃ v, P es v
theorem hd_open {x n : PySem.Str} {np pos : Pos} {b₀ : Stmt} {suite : List Stmt} {rest : List ExceptHandler} {Q : Flow → Shared → Prop} (cx : Cx w mg mb B A l h₀) (F : Fr h₀ L h m) (ex : nsIn (hd.heap_1 w.params) mainGlobals x = some (some (.ref C))) (EC : ExcC w C)
    (f : Fly (fsOf (envOf name scope L a cd :: l)) h C e P s.heap)
    (hq : ∀ h' tk, Fr (cut h' L) L h' (fun y => if y = n then some (.ref e) else m y) → News (cut h' L) L h' [] → (hd.heap_1 w.params).In (cut h' L) → (∃ pg lse mean, Top pg lse mean mg mb (cut h' L)) → Hd C e P h' → (∀ h'', Ext (cut h' L) h'' → Grow (fsOf l) h₀ h'') →
      wpAny (model PySem.Challenge.rw_no0239_01.row.prog w) ((A.deeper (envOf name scope L a cd)).mark (some (.ref e))) (execs (b₀ :: suite) (envOf name scope L a cd))
        (fun f s₄ => wpAny (model PySem.Challenge.rw_no0239_01.row.prog w) (A.deeper (envOf name scope L a cd)) (do bindName (envOf name scope L a cd) n .none; unbindBehindTheSuite (envOf name scope L a cd) n pos) (fun _ s₅ => Q f s₅) E s₄) (fun _ _ => False) { s with heap := h', toks := tk })
    (hk : scope.kind = .function := by rfl) (hlo : (envOf name scope L a cd).kindOf n = some .local := by rfl) (hx : (envOf name scope L a cd).kindOf x = some .globalImplicit := by rfl) (hdb : (x == ("__debug__" : PySem.Str)) = false := by decide) :
    wpAny (model PySem.Challenge.rw_no0239_01.row.prog w) (A.deeper (envOf name scope L a cd)) (noteFrame (.ref e) (envOf name scope L a cd)) (fun _ s₂ => wpAny (model PySem.Challenge.rw_no0239_01.row.prog w) (A.deeper (envOf name scope L a cd)) (setFlight (.ref e) none)
      (fun _ s₃ => wpAny (model PySem.Challenge.rw_no0239_01.row.prog w) (A.deeper (envOf name scope L a cd)) (handleBy (.ref e) (envOf name scope L a cd) (.ExceptHandler (some (.Name x np)) (some n) (b₀ :: suite) pos :: rest)) Q E s₃) E s₂) E s := by
  obtain ⟨pg, lse, mean, T⟩ := cx.T
  have cxp := cx.push (a := a) (cd := cd) (name := name) F hk
  refine look_fly cxp.fr rfl (ff_no cxp.ff) f (fun _ hb => hb) fun h₁ f₁ _ => ?_
  obtain ⟨oL, esL, epL, qL, cL, rL⟩ := F.ns
  have k0 : Ext B h := fun b o q => F.keep b o (cx.k b o q)
  refine catch_as (fr_fly cx F f₁ hk) cx.X (topRead_of T) ex EC f₁ cxp.hB k0 ⟨oL, qL, fun vs z => by rw [cL] at z; cases z⟩ (fun h' tk F' g hh => ?_) hk hlo hx hdb
  obtain ⟨h'', f'', sb⟩ := g
  have cb := cut_base F'
  refine hq h' tk (cut_fr F') News.nil (cx.X.keeps cb) ⟨_, _, _, T.keeps cb⟩ ⟨?_⟩ fun h3 x3 => ?_
  · obtain ⟨o, D, es, k, a1, a2, a3, a4, a5, a6⟩ := hh
    exact ⟨o, D, es, k, a1, a2, a3, a4, a5, a6⟩
  · -- from the frame's heap back to the caller's
    have hL0 : h₀.get? L = none := Heap.get?_none_of_le F.above
    have g1 : Grow (fsOf l) h₀ h' := fun b o hb q => by
      have hbL : b ≠ L := by rintro rfl; rw [hL0] at q; cases q
      obtain ⟨z, sl, c⟩ := f''.grow b o (by simp) (F.keep b o q)
      refine ⟨fun y => (sb.2 b hbL).trans (z fun y' => ?_), sl, (sb.2 b hbL).trans c⟩
      rcases List.mem_cons.mp (show b ∈ L :: fsOf l from y') with rfl | y'
      · exact hbL rfl
      · exact y y'
    exact cut_grow g1 F.above x3
end
end Mine
end
section
open PySem PySem.W PyProof.Rows PySem.Calls
set_option Elab.async false
set_option maxRecDepth 100000
set_option maxHeartbeats 8000000
namespace Mine
theorem fillF26 {w : World} : PySem.Challenge.rw_no0239_01 = PySem.Challenge.rw_no0239_01 ∧ hd.heap_1 w.params = hd.heap_1 w.params := by k_fill; exact ⟨rfl, rfl⟩
theorem hd_code {w : World} {A : Around} {s : Shared} {Q : Value → Shared → Prop} {E : Value → Shared → Prop} {e : Addr} {c : Int} {expr : Bool} (X : (hd.heap_1 w.params).In s.heap) (H : Hd 63 e (ioQ c) s.heap)
    (h : ∀ t, Q (.int c t) { s with toks := s.toks + 1 }) : wpAny (model PySem.Challenge.rw_no0239_01.row.prog w) A (getAttr (.ref e) "code" expr) Q E s := by
  obtain ⟨o, D, es, k, a1, a2, a3, a4, a5, ctx, t, a6⟩ := H.ok
  exact exc_getcode (od := dictOf es k) (oe := o) X ⟨a1, a2, a4, a3 ▸ a5⟩ (a6 k) rfl (h t)
noncomputable def HoldC (P : Prop) : Prop := P
theorem HoldC.mk {P : Prop} (h : HoldC P) : P := h
theorem rulesF26_1 : True := by
  w_top off
  k_with_none
  k_with "call ref" => (k_here; (with_reducible show wpAny _ _ (call (.ref _) []) _ _ _); refine HoldC.mk ?_)
  k_with "callWith ref" => (k_here; k_dflt (refine callWith_F0 (by assumption) ?_); (try dsimp only [List.nil_append, List.append_nil]))
  k_with "noteFrame ref" => (k_here; refine HoldC.mk ?_)
  k_with "getAttr ref" => (k_here; refine' hd_code ?w1qX ?w1qH ?_; (case w1qX => exact Frag.In.keeps (by assumption) (Fr.keep (by assumption))); (case w1qH => assumption); intro _)
  trivial
/-- own: objects of h' that h has not -/
noncomputable def Own (h h' : Heap) (own : List (Addr × Obj)) : Prop := ∀ p ∈ own, h'.get? p.1 = some p.2 ∧ h.get? p.1 = none
theorem Own.nil {h h' : Heap} : Own h h' [] := fun _ hp => nomatch hp
theorem Own.one {h h' : Heap} {D : Addr} {o : Obj} (a : h'.get? D = some o) (b : h.get? D = none) : Own h h' [(D, o)] := fun p hp => by rw [List.mem_singleton.mp hp]; exact ⟨a, b⟩
theorem Own.news {h₀ h h' : Heap} {L : Addr} {m : PySem.Str → Option Value} {own : List (Addr × Obj)} (F : Fr h₀ L h m) (O : Own h h' own) : News h₀ L h' own := fun p hp => by
  refine ⟨(O p hp).1, ?_, none_of F.keep (O p hp).2⟩
  intro e
  obtain ⟨o, _, _, q, _⟩ := F.ns
  have := (O p hp).2
  rw [e, q] at this; cases this
theorem Own.of {h₀ h' : Heap} {L : Addr} {own : List (Addr × Obj)} (N : News h₀ L h' own) : Own h₀ h' own := fun p hp => ⟨(N p hp).1, (N p hp).2.2⟩
theorem own_out {h₀ g h₁ : Heap} {L : Addr} {fs : List Addr} {news : List (Addr × Obj)} (N : News g L h₁ news) (gr : ∀ h'', Ext g h'' → Grow fs h₀ h'') : Own h₀ h₁ news := fun p hp => by
  refine ⟨(N p hp).1, ?_⟩
  cases q : h₀.get? p.1 with
  | none => rfl
  | some o =>
    obtain ⟨_, sl, c⟩ := gr g (fun _ _ q => q) p.1 o (by simp) q
    rw [(N p hp).2.2] at c; cases c
theorem heard_b {w : World} {mg mb : PySem.Str → Option Value} {B : Heap} {l : List Env} {s : Shared} {A : Around} {Q E : Value → Shared → Prop} (f : Addr) (cx : Cx w mg mb B A l s.heap) (hfn : FnAt f s.heap) (R : Rn A 9) (P : Value → List (Addr × Obj) → Prop) (Pf : Int → Prop)
    (hask : ∀ (A' : Around) (l' : List Env) (s' : Shared) (Q' E' : Value → Shared → Prop), Cx w mg mb B A' l' s'.heap → Rn A' 8 → Ext s.heap s'.heap →
      (∀ v own h' tk', Ext s'.heap h' → Own s'.heap h' own → P v own → Q' v { s' with heap := h', toks := tk' }) →
      (∀ c e h' tk', Pf c → Fly (fsOf l') s'.heap 63 e (ioQ c) h' → E' (.ref e) { s' with heap := h', toks := tk' }) →
      wpAny (model PySem.Challenge.rw_no0239_01.row.prog w) A' (call (.ref f) []) Q' E' s')
    (hq : ∀ v own D t h' tk, P v own → Ext s.heap h' → Own s.heap h' ((D, tupO [.str (PySem.Str.ofString "ok") t, v]) :: own) → Q (.ref D) { s with heap := h', toks := tk })
    (hf : ∀ c D t0 t1 h' tk, Pf c → Grow (fsOf l) s.heap h' → Own s.heap h' [(D, tupO [.str (PySem.Str.ofString "fault") t0, .int c t1])] → Q (.ref D) { s with heap := h', toks := tk }) :
    wpAny (model PySem.Challenge.rw_no0239_01.row.prog w) A (call (.ref 253) [.ref f]) Q E s := by
  have X := cx.In
  obtain ⟨pg, lse, mean, T⟩ := cx.Top
  obtain ⟨ah, ad, af, ag, au⟩ := A
  obtain rfl : ah = none := R.h
  refine wpAny_call ?_
  refine call_q [("ask", .ref f)] (by have := R.d; omega) (X 253 _ (by k_is)) rfl T.nolimit (codeRec_of X (by k_is)) rfl (locs rfl) ?_ rfl rfl rfl (by decide)
  intro h₁ F
  have N : News s.heap s.heap.objs.size h₁ [] := News.nil
  have hfn' : FnAt f h₁ := by obtain ⟨a, b, c, d, e⟩ := hfn; exact ⟨a, b, c, d, F.keep _ _ e⟩
  have XB := cx.X
  obtain ⟨pgB, lseB, meanB, TB⟩ := cx.T
  k_steps
  unfold HoldC
  refine hask _ (envOf _ _ _ _ _ :: l) _ _ _ (Cx.push cx F) (Rn.deeper R (by decide)) F.keep ?_ ?_
  · intro v own h' tk' x' o' p'
    have F' := F.keeps x'
    have N' := Own.news F o'
    clear N F
    k_steps
    rename News _ _ _ _ => nn; rename Fr _ _ _ _ => ff
    exact hq v own _ _ _ _ p' ff.keep (Own.of nn)
  · intro c e h' tk' pf f'
    have FL := F
    k_steps
    unfold HoldC
    refine' hd_open ?cx ?F ?ex excC63 ?f ?_
    case f => exact f'
    case cx => exact cx
    case F => exact FL
    case ex => k_is
    intro h2 tk2 F2 N2 X2 T2 H2 gr
    obtain ⟨_, _, _, T2⟩ := T2
    clear F N
    k_steps
    rename News _ _ _ _ => nn; rename Fr _ _ _ _ => ff
    exact hf c _ _ _ _ _ pf (gr _ ff.keep) (own_out nn gr)
end Mine
end
section
open PySem PySem.W PyProof.Rows PySem.Calls
set_option Elab.async false
namespace Mine
theorem rulesTw_0 : True := by
  w_top off
  k_with_none
  trivial
/-- behind a statement: the tokens have only risen from n -/
noncomputable def TokW {α : Type} (n : Nat) (Q : α → Shared → Prop) (a : α) (s : Shared) : Prop := n ≤ s.toks → Q a s
theorem wpAny_tokW {α : Type} {M : Model} {A : Around} {t : Sem α} {Q : α → Shared → Prop} {E : Value → Shared → Prop} {s : Shared} (h : wpAny M A t (TokW s.toks Q) E s) : wpAny M A t Q E s :=
  wpAny_tok (wpAny_mono h (fun _ _ z => z) (fun _ _ z _ => z))
theorem TokW.gen {α : Type} {n : Nat} {Q : α → Shared → Prop} {a : α} {h : Heap} {g : Array GenState} {d : Drawn} {t : Nat} {os : OsState} (H : ∀ t', n ≤ t' → Q a ⟨h, g, d, t', os⟩) : TokW n Q a ⟨h, g, d, t, os⟩ := fun z => H t z
end Mine
end
section
open PySem PySem.W PyProof.Rows PySem.Calls
set_option Elab.async false
set_option maxRecDepth 100000
set_option maxHeartbeats 8000000
namespace Mine
theorem rulesLr_0 : True := by
  w_top off
  k_with_none
  trivial
section
variable {prog : Program} {w : World} {A : Around} {E : Value → Shared → Prop} {s : Shared} {env : Env} {h₀ : Heap} {x : PySem.Str} {body : List Stmt} {Q : Flow → Shared → Prop}
theorem range_turns (Inv : Nat → (PySem.Str → Option Value) → List (Addr × Obj) → Prop) {I : Addr} {a : Int} {n : Nat}
    (hstep : ∀ i m news, i < n → Inv i m news → ∀ t h tk, Fr h₀ env.locals h (fun y => if y = x then some (.int (a + (i : Int)) t) else m y) → News h₀ env.locals h ((I, itR (a + ((i + 1 : Nat) : Int)) ((n : Int) - ((i + 1 : Nat) : Int))) :: news) →
      wpAny (model prog w) A (execs body env) (UnrPost h₀ env.locals { s with heap := h, toks := tk } I (itR (a + ((i + 1 : Nat) : Int)) ((n : Int) - ((i + 1 : Nat) : Int))) (Inv (i + 1)) Q) E { s with heap := h, toks := tk })
    (hend : ∀ m news, Inv n m news → ∀ h tk, Fr h₀ env.locals h m → News h₀ env.locals h news → Q .next { s with heap := h, toks := tk }) :
    ∀ k i m news, i + k = n → Inv i m news → RangeRest prog w A E h₀ env x body Q s I a n k i m news
  | 0, i, m, news, e, hi => by
    have e' : i = n := by lia
    rw [e'] at hi
    exact RangeRest.zero (hend m news hi)
  | k + 1, i, m, news, e, hi => RangeRest.succ fun t h tk F N => by
    refine wpAny_mono (hstep i m news (by lia) hi t h tk F N) (fun f s' p => ?_) fun _ _ z => z
    have up : UnrEnd h₀ env.locals { s with heap := h, toks := tk } I (itR (a + ((i + 1 : Nat) : Int)) ((n : Int) - ((i + 1 : Nat) : Int))) (Inv (i + 1)) s' → UnrEnd h₀ env.locals { s with heap := h, toks := tk } I (itR (a + ((i + 1 : Nat) : Int)) ((n : Int) - ((i + 1 : Nat) : Int))) (RangeRest prog w A E h₀ env x body Q s I a n k (i + 1)) s' := by
      rintro ⟨h', tk', m', news', e1, F', N', off, r⟩
      exact ⟨h', tk', m', news', e1, F', N', off, range_turns Inv hstep hend k (i + 1) m' news' (by lia) r⟩
    cases f with
    | ret v => exact p
    | brk => exact p
    | next => exact up p
    | cont => exact up p
/-- a statement by itself; then the rest -/
noncomputable def NextP (P : Shared → Prop) (f : Flow) (s : Shared) : Prop := f = .next ∧ P s
theorem NextP.mk {P : Shared → Prop} {s : Shared} (h : P s) : NextP P .next s := ⟨rfl, h⟩
theorem cutS {M : Model} {P : Shared → Prop} {st : Stmt} {rest : List Stmt} (h : wpAny M A (exec st env) (NextP P) E s) (k : ∀ s', s.toks ≤ s'.toks → P s' → wpAny M A (execs rest env) Q E s') : wpAny M A (execs (st :: rest) env) Q E s := by
  refine wpAny_execs_cons (wpAny_tok (wpAny_mono h (fun f s' z => ?_) fun _ _ z _ => z))
  obtain ⟨rfl, p⟩ := z
  exact fun e => k s' e p
/-- behind a part: one name is set, the ledger is one of Nw -/
noncomputable def PartE (base : Heap) (L : Addr) (m : PySem.Str → Option Value) (y : PySem.Str) (Vw : Value → Nat → Prop) (Nw : List (Addr × Obj) → Prop) (s s' : Shared) : Prop :=
  ∃ h' tk v news, s' = { s with heap := h', toks := tk } ∧ Vw v tk ∧ Nw news ∧ Fr base L h' (fun z => if z = y then some v else m z) ∧ News base L h' news
theorem PartE.intro {base : Heap} {L : Addr} {m : PySem.Str → Option Value} {y : PySem.Str} {Vw : Value → Nat → Prop} {Nw : List (Addr × Obj) → Prop} {s : Shared} {h' : Heap} {tk : Nat} {v : Value} {all : List (Addr × Obj)} (F : Fr base L h' (fun z => if z = y then some v else m z)) (N : News base L h' all) (hv : Vw v tk) (news : List (Addr × Obj)) (hn : Nw news) (sub : SubL news all) :
    PartE base L m y Vw Nw s { s with heap := h', toks := tk } := ⟨h', tk, v, news, rfl, hv, hn, F, fun p hp => N p (sub.mem p hp)⟩
theorem cut1N {M : Model} {base : Heap} {L : Addr} {m : PySem.Str → Option Value} {news : List (Addr × Obj)} {st : Stmt} {rest : List Stmt} (y : PySem.Str) (Vw : Value → Nat → Prop) (_ : Fr base L s.heap m) (_ : News base L s.heap news)
    (h : wpAny M A (exec st env) (NextP (PartE base L m y Vw (fun nn => nn = news) s)) E s)
    (k : ∀ h' tk v, s.toks ≤ tk → Vw v tk → Fr base L h' (fun z => if z = y then some v else m z) → News base L h' news → wpAny M A (execs rest env) Q E { s with heap := h', toks := tk }) : wpAny M A (execs (st :: rest) env) Q E s :=
  cutS h fun s' le ⟨h', tk, v, news, e, hv, hn, F, N⟩ => by subst e; exact k h' tk v le hv F (hn ▸ N)
theorem cut2 {M : Model} {base : Heap} {L : Addr} {m : PySem.Str → Option Value} {st st' : Stmt} {rest : List Stmt} (y : PySem.Str) (Nw : List (Addr × Obj) → Prop) (_ : Fr base L s.heap m)
    (h : wpAny M A (exec st env) (NextP fun s₁ => wpAny M A (exec st' env) (NextP (PartE base L m y (fun _ _ => True) Nw s)) E s₁) E s)
    (k : ∀ h' tk v news, s.toks ≤ tk → Nw news → Fr base L h' (fun z => if z = y then some v else m z) → News base L h' news → wpAny M A (execs rest env) Q E { s with heap := h', toks := tk }) : wpAny M A (execs (st :: st' :: rest) env) Q E s :=
  cutS h fun _ le1 z => cutS z fun s' le2 ⟨h', tk, v, news, e, _, hn, F, N⟩ => by subst e; exact k h' tk v news (Nat.le_trans le1 le2) hn F N
theorem News.sub {base h : Heap} {L : Addr} {news all : List (Addr × Obj)} (N : News base L h all) (sub : SubL news all) : News base L h news := fun p hp => N p (sub.mem p hp)
/-- statements one by one, then P -/
noncomputable def chain (M : Model) (A : Around) (env : Env) (E : Value → Shared → Prop) : List Stmt → (Shared → Prop) → Shared → Prop
  | [], P, s => P s
  | st :: r, P, s => wpAny M A (exec st env) (NextP (chain M A env E r P)) E s
theorem chain.done {M : Model} {P : Shared → Prop} (h : P s) : chain M A env E [] P s := h
theorem chain.step {M : Model} {P : Shared → Prop} {st : Stmt} {r : List Stmt} (h : wpAny M A (exec st env) (NextP (chain M A env E r P)) E s) : chain M A env E (st :: r) P s := h
theorem cutL {M : Model} {P : Shared → Prop} {rest : List Stmt} (k : ∀ s', P s' → wpAny M A (execs rest env) Q E s') : ∀ (l : List Stmt) {s : Shared}, chain M A env E l P s → wpAny M A (execs (l ++ rest) env) Q E s
  | [], _, h => k _ h
  | _ :: r, _, h => cutS h fun _ _ z => cutL k r z
theorem chain.cut1N {M : Model} {P : Shared → Prop} {base : Heap} {L : Addr} {m : PySem.Str → Option Value} {news : List (Addr × Obj)} {st : Stmt} {rest : List Stmt} (y : PySem.Str) (Vw : Value → Nat → Prop) (_ : Fr base L s.heap m) (_ : News base L s.heap news)
    (h : wpAny M A (exec st env) (NextP (PartE base L m y Vw (fun nn => nn = news) s)) E s)
    (k : ∀ h' tk v, Vw v tk → Fr base L h' (fun z => if z = y then some v else m z) → News base L h' news → chain M A env E rest P { s with heap := h', toks := tk }) : chain M A env E (st :: rest) P s := by
  refine chain.step (wpAny_mono h (fun f s' z => ?_) fun _ _ z => z)
  obtain ⟨rfl, h', tk, v, news', e, hv, hn, F, N⟩ := z
  subst e
  exact ⟨rfl, k h' tk v hv F (hn ▸ N)⟩
noncomputable def TokC (n : Nat) (P : Shared → Prop) (s : Shared) : Prop := n ≤ s.toks → P s
theorem TokC.gen {n : Nat} {P : Shared → Prop} {h : Heap} {g : Array GenState} {d : Drawn} {t : Nat} {os : OsState} (H : ∀ t', n ≤ t' → P ⟨h, g, d, t', os⟩) : TokC n P ⟨h, g, d, t, os⟩ := fun z => H t z
theorem chain.tok {M : Model} {P : Shared → Prop} {st : Stmt} {r : List Stmt} (h : wpAny M A (exec st env) (NextP (TokC s.toks (chain M A env E r P))) E s) : chain M A env E (st :: r) P s := by
  refine chain.step (wpAny_tok (wpAny_mono h (fun f s' z => ?_) fun _ _ z _ => z))
  exact fun e => ⟨z.1, z.2 e⟩
end
end Mine
end
section
open PySem PySem.W PyProof.Rows PySem.Calls
set_option Elab.async false
set_option maxRecDepth 100000
set_option maxHeartbeats 8000000
namespace Mine
theorem fillF19 {w : World} : PySem.Challenge.rw_no0239_01 = PySem.Challenge.rw_no0239_01 ∧ hd.heap_1 w.params = hd.heap_1 w.params := by k_fill; exact ⟨rfl, rfl⟩
theorem rulesF19_1 : True := by
  w_top off
  k_with_none
  k_with "my:pre" => first | assumption | omega
  k_with "my:go" => repeat' ((fail_if_success (with_reducible show wpAny _ _ (exec (Stmt.While _ _ _ _) _) _ _ _)); (first | (k_unfold; (try dsimp only)) | walk1 | (dsimp only; walk1) | (leave1; walk_say "STEP leave1"; try dsimp only)))
  k_with "NextP" => (refine NextP.mk ?_)
  k_with "chain" => first | (refine chain.done ?_) | (refine chain.step ?_)
  k_with "call type:int" => (k_here; first | (refine' int_take ?w1qa ?w1qb ?w1qc ?w1qd ?_; (case w1qa => omega); (case w1qb => assumption); (case w1qc => assumption); (case w1qd => omega)) | (refine' int_x ?w1qa ?w1qb ?_; (case w1qa => assumption); (case w1qb => assumption)))
  k_with "call type:str" => (k_here; refine' call_str ?w2qa ?w2qb ?_; (case w2qa => omega); (case w2qb => omega))
  k_with "call builtin:str.lstrip" => (k_here; refine' call_lstrip ?w3ql ?_; (case w3ql => omega); intro _ _)
  trivial
theorem fr_add {h₀ h : Heap} {L : Addr} {m : PySem.Str → Option Value} {n : PySem.Str} {u : Value} (F : Fr h₀ L h m) (hm : m n = some u) : Fr h₀ L h (fun y => if y = n then some u else m y) := by
  have e : (fun y => if y = n then some u else m y) = m := by
    funext y
    by_cases h2 : y = n
    · subst h2; rw [if_pos rfl, hm]
    · rw [if_neg h2]
  rw [e]; exact F
/-- before the loop: the figures and the power, rounded -/
inductive T19 (base : Heap) (L : Addr) (neg : Bool) (d : Int) (td : Tok) (tp : Int) (ttp : Tok) (V : Nat) (P0 : Int) (s s' : Shared) : Prop
  | mk (h : Heap) (tk : Nat) (B : PySem.Str) (tB : Tok) (P : Int) (tP : Tok) (M : PySem.Str → Option Value) (e : s' = { s with heap := h, toks := tk }) (fact : B.length ≤ 41 ∧ RI B.cps.toList P V P0)
    (F : Fr base L h (fun y => if y = PySem.Str.ofString "body" then some (.str B tB) else if y = PySem.Str.ofString "power" then some (.int P tP) else if y = PySem.Str.ofString "is_minus" then some (.bool neg)
      else if y = PySem.Str.ofString "digits" then some (.int d td) else if y = PySem.Str.ofString "top" then some (.int tp ttp) else M y))
    (N : News base L h []) : T19 base L neg d td tp ttp V P0 s s'
theorem law_rounded_b {w : World} {mg mb : PySem.Str → Option Value} {mean : ExcName → Option Value} {pg : PySem.Program} {lse : List PySem.Str} {s : Shared} {A : Around} {Q E : Value → Shared → Prop} (x_figures : List Nat) (t_figures : Tok) (x_power : Int) (t_power : Tok) (x_is_minus : Bool) (x_digits : Int) (t_digits : Tok) (x_top : Int) (t_top : Tok)
    (X : (hd.heap_1 w.params).In s.heap) (T : Top pg lse mean mg mb s.heap) (R : Rn A 3) (hx : x_figures.length ≤ 40) (hdd : x_figures.all isDig = true) (hdg : 1 ≤ x_digits ∧ x_digits ≤ 9)
    (hqF : (¬ ((finI (sgnM x_is_minus (valN x_figures)) x_power x_digits).1 = 0 ∨ leadI (sgnM x_is_minus (valN x_figures)) x_power x_digits < -x_top) ∧ leadI (sgnM x_is_minus (valN x_figures)) x_power x_digits > x_top) → ∀ D t0 t1 h' tk, Ext s.heap h' → h'.get? D = some (tupO [.str (PySem.Str.ofString "fault") t0, .int (2) t1]) → s.heap.get? D = none → Q (.ref D) { s with heap := h', toks := tk })
    (hq : (((finI (sgnM x_is_minus (valN x_figures)) x_power x_digits).1 = 0 ∨ leadI (sgnM x_is_minus (valN x_figures)) x_power x_digits < -x_top) ∨ ¬ leadI (sgnM x_is_minus (valN x_figures)) x_power x_digits > x_top) → ∀ D D2 t t0 t1 h' tk, Ext s.heap h' → h'.get? D = some (tupO [.str (PySem.Str.ofString "ok") t, .ref D2]) → h'.get? D2 = some (tupO [.int ((if (finI (sgnM x_is_minus (valN x_figures)) x_power x_digits).1 = 0 ∨ leadI (sgnM x_is_minus (valN x_figures)) x_power x_digits < -x_top then (0, 0) else finI (sgnM x_is_minus (valN x_figures)) x_power x_digits).1) t0, .int ((if (finI (sgnM x_is_minus (valN x_figures)) x_power x_digits).1 = 0 ∨ leadI (sgnM x_is_minus (valN x_figures)) x_power x_digits < -x_top then (0, 0) else finI (sgnM x_is_minus (valN x_figures)) x_power x_digits).2) t1]) → s.heap.get? D = none → s.heap.get? D2 = none → Q (.ref D) { s with heap := h', toks := tk }) :
    wpAny (model PySem.Challenge.rw_no0239_01.row.prog w) A (call (.ref 234) [.str (S x_figures) t_figures, .int x_power t_power, .bool x_is_minus, .int x_digits t_digits, .int x_top t_top]) Q E s := by
  obtain ⟨ah, ad, af, ag, au⟩ := A
  obtain rfl : ah = none := R.h
  refine wpAny_call ?_
  refine call_q [("figures", .str (S x_figures) t_figures), ("power", .int x_power t_power), ("is_minus", .bool x_is_minus), ("digits", .int x_digits t_digits), ("top", .int x_top t_top)] (by have := R.d; omega) (X 234 _ (by k_is)) rfl T.nolimit (codeRec_of X (by k_is)) rfl (locs rfl) ?_ rfl rfl rfl (by decide)
  intro h₁ F
  have N : News s.heap s.heap.objs.size h₁ [] := News.nil
  have hxS : (S x_figures).length ≤ 40 := by rw [S_len]; exact hx
  have lb := bdF_len x_figures
  have lbS : (S (bdF x_figures)).length ≤ 40 := by rw [S_len]; omega
  have ld : (bdF x_figures).all isDig = true := bdF_dig hdd
  obtain ⟨g1, g9⟩ := hdg
  (k_with "state" => first
    | assumption
    | exact RJ (rl_turn (by assumption) (by assumption)))
  (k_with "measure" => exact rl_less (by assumption))
  have lrg : ∀ h : x_digits < ((S (bdF x_figures)).length : Int), 0 < valN ((bdF x_figures).take x_digits.toNat) ∧ valN ((bdF x_figures).take x_digits.toNat) < 10 ^ 9 := fun h => hd_rng hdd g1 h g9
  refine cutL (l := [_, _]) (P := T19 s.heap s.heap.objs.size x_is_minus x_digits t_digits x_top t_top (roundI (sgnM x_is_minus (valN x_figures)) x_power x_digits).1.natAbs (roundI (sgnM x_is_minus (valN x_figures)) x_power x_digits).2 s) ?rest19 ?head19
  case head19 =>
    walk_at "my:go"
    all_goals (rename News _ _ _ _ => nn; rename Fr _ _ _ _ => ff)
    all_goals refine T19.mk _ _ _ _ _ _ _ rfl ?_ (fr_add (n := PySem.Str.ofString "body") (fr_add (n := PySem.Str.ofString "power") (fr_add (n := PySem.Str.ofString "is_minus") (fr_add (n := PySem.Str.ofString "digits") (fr_add (n := PySem.Str.ofString "top") ff rfl) rfl) rfl) rfl) rfl) (fun _ hp => nomatch hp)
    all_goals first
      | exact RJ (rs_no hdd hx (by assumption))
      | exact RJ (rs_up hdd g1 (by assumption) g9 (k_w1 hdd g1 (by assumption) (by assumption)) (.inl rfl))
      | exact RJ (rs_up hdd g1 (by assumption) g9 (k_w2 hdd g1 (by assumption) (by assumption) (by assumption)) (.inl rfl))
      | exact RJ (rs_up hdd g1 (by assumption) g9 (k_w3 hdd g1 (by assumption) (by assumption) (by assumption)) (.inr rfl))
      | exact RJ (rs_up hdd g1 (by assumption) g9 (k_w4 hdd g1 (by assumption) (by assumption) (by assumption)) (.inr rfl))
  rintro s' ⟨h2, tk2, B, tB, P, tP, M, rfl, fact, F2, N2⟩
  clear F N
  walk_at "my:go"
  all_goals k_while (fun (_ : List Int) (body : PySem.Str) (power : Int) => body.length ≤ 41 ∧ RI body.cps.toList power (roundI (sgnM x_is_minus (valN x_figures)) x_power x_digits).1.natAbs (roundI (sgnM x_is_minus (valN x_figures)) x_power x_digits).2) (fun (_ : List Int) (body : PySem.Str) (_ : Int) => body.length) "body" "power"
  all_goals walk_at "my:go"
  all_goals (have hs := rl_end (by assumption) (by assumption))
  all_goals (rename News _ _ _ _ => nn; rename Fr _ _ _ _ => ff)
  all_goals first
    | ((have e := fin_z g1 hs (nilX (by assumption))); rw [if_pos (.inl e)] at hq; exact hq (.inl (.inl e)) _ _ _ _ _ _ _ ff.keep (nn _ (.head _)).1 (nn _ (.tail _ (.head _))).1 (nn _ (.head _)).2.2 (nn _ (.tail _ (.head _))).2.2)
    | (obtain ⟨e1, e2, e3⟩ := fin_nz g1 (by assumption) hs (nonilX (by assumption));
       first
       | (have c : (finI (sgnM x_is_minus (valN x_figures)) x_power x_digits).1 = 0 ∨ leadI (sgnM x_is_minus (valN x_figures)) x_power x_digits < -x_top := .inr (by rw [e3]; assumption); rw [if_pos c] at hq; exact hq (.inl c) _ _ _ _ _ _ _ ff.keep (nn _ (.head _)).1 (nn _ (.tail _ (.head _))).1 (nn _ (.head _)).2.2 (nn _ (.tail _ (.head _))).2.2)
       | (have c : ¬ ((finI (sgnM x_is_minus (valN x_figures)) x_power x_digits).1 = 0 ∨ leadI (sgnM x_is_minus (valN x_figures)) x_power x_digits < -x_top) := fun z => z.elim e2 (by rw [e3]; assumption);
          first
          | exact hqF ⟨c, by rw [e3]; assumption⟩ _ _ _ _ _ ff.keep (nn _ (.head _)).1 (nn _ (.head _)).2.2
          | ((have en : x_is_minus = true := by assumption); rw [if_neg c, e1, en] at hq; exact hq (.inr (by rw [← en, e3]; assumption)) _ _ _ _ _ _ _ ff.keep (nn _ (.head _)).1 (nn _ (.tail _ (.head _))).1 (nn _ (.head _)).2.2 (nn _ (.tail _ (.head _))).2.2)
          | ((have en : x_is_minus = false := by assumption); rw [if_neg c, e1, en] at hq; exact hq (.inr (by rw [← en, e3]; assumption)) _ _ _ _ _ _ _ ff.keep (nn _ (.head _)).1 (nn _ (.tail _ (.head _))).1 (nn _ (.head _)).2.2 (nn _ (.tail _ (.head _))).2.2)))

theorem law_rounded_k {w : World} {mg mb : PySem.Str → Option Value} {mean : ExcName → Option Value} {pg : PySem.Program} {lse : List PySem.Str} {s : Shared} {A : Around} {Q E : Value → Shared → Prop} {h₀ : Heap} {L : Addr} {m : PySem.Str → Option Value} {news : List (Addr × Obj)} {x_figures : List Nat} {t_figures : Tok} {x_power : Int} {t_power : Tok} {x_is_minus : Bool} {x_digits : Int} {t_digits : Tok} {x_top : Int} {t_top : Tok}
    (F : Fr h₀ L s.heap m) (N : News h₀ L s.heap news) (X : (hd.heap_1 w.params).In h₀) (T : Top pg lse mean mg mb h₀) (R : Rn A 3) (hx : x_figures.length ≤ 40) (hdd : x_figures.all isDig = true) (hdg : 1 ≤ x_digits ∧ x_digits ≤ 9)
    (hqF : (¬ ((finI (sgnM x_is_minus (valN x_figures)) x_power x_digits).1 = 0 ∨ leadI (sgnM x_is_minus (valN x_figures)) x_power x_digits < -x_top) ∧ leadI (sgnM x_is_minus (valN x_figures)) x_power x_digits > x_top) → ∀ D t0 t1 h' tk, Fr h₀ L h' m → News h₀ L h' ((D, tupO [.str (PySem.Str.ofString "fault") t0, .int (2) t1]) :: news) → Q (.ref D) { s with heap := h', toks := tk })
    (hq : (((finI (sgnM x_is_minus (valN x_figures)) x_power x_digits).1 = 0 ∨ leadI (sgnM x_is_minus (valN x_figures)) x_power x_digits < -x_top) ∨ ¬ leadI (sgnM x_is_minus (valN x_figures)) x_power x_digits > x_top) → ∀ D D2 t t0 t1 h' tk, Fr h₀ L h' m → News h₀ L h' ((D, tupO [.str (PySem.Str.ofString "ok") t, .ref D2]) :: (D2, tupO [.int ((if (finI (sgnM x_is_minus (valN x_figures)) x_power x_digits).1 = 0 ∨ leadI (sgnM x_is_minus (valN x_figures)) x_power x_digits < -x_top then (0, 0) else finI (sgnM x_is_minus (valN x_figures)) x_power x_digits).1) t0, .int ((if (finI (sgnM x_is_minus (valN x_figures)) x_power x_digits).1 = 0 ∨ leadI (sgnM x_is_minus (valN x_figures)) x_power x_digits < -x_top then (0, 0) else finI (sgnM x_is_minus (valN x_figures)) x_power x_digits).2) t1]) :: news) → Q (.ref D) { s with heap := h', toks := tk }) :
    wpAny (model PySem.Challenge.rw_no0239_01.row.prog w) A (call (.ref 234) [.str (S x_figures) t_figures, .int x_power t_power, .bool x_is_minus, .int x_digits t_digits, .int x_top t_top]) Q E s :=
  law_rounded_b _ _ _ _ _ _ _ _ _ (X.keeps F.keep) (T.keeps F.keep) R hx hdd hdg (fun c D t0' t1' h' tk x y z => hqF c D t0' t1' h' tk (F.keeps x) (news_cons F N x y z)) (fun c D D2 t t0 t1 h' tk x y y2 z z2 => hq c D D2 t t0 t1 h' tk (F.keeps x) (news_cons2 F N x y y2 z z2)) 

end Mine
end
section
open PySem PySem.W PyProof.Rows PySem.Calls PySem.Spec
set_option Elab.async false
set_option maxRecDepth 100000
set_option maxHeartbeats 8000000
namespace Mine
theorem rulesCs_0 : True := by
  w_top off
  k_with_none
  trivial
section
variable {prog : PySem.Program} {w : World} {A : Around} {E : Value → Shared → Prop} {s : Shared} {h₀ : Heap} {L : Addr} {m : PySem.Str → Option Value} {env : Env}
noncomputable def SrcS (prog : PySem.Program) (w : World) (A : Around) (h₀ : Heap) (L : Addr) (m : PySem.Str → Option Value) (env : Env) (ct elt : PySem.Expr) (x : PySem.Str) (scope : Scope) (cl : List (PySem.Str × Addr)) (Fin : Shared → List Value → List (Addr × Obj) → Prop) (xv : Value) (s₁ : Shared) : Prop :=
  ∃ z u news, xv = .str z u ∧ A.handled = none ∧ Fr h₀ L s₁.heap m ∧ News h₀ L s₁.heap news ∧ z.cps.all (· < 128) = true ∧ z.cps.size ≤ sizeLine ∧
    ∀ s₂ : Shared, (∃ h, s₂ = { s₁ with heap := h }) → LCt.CompRestT prog w A h₀ L m env ct elt x scope cl s₂ (fun _ => True) (SignAt z) (Fin s₂) z.cps.size 0 [] news
theorem SrcS.intro {ct elt : PySem.Expr} {x : PySem.Str} {scope : Scope} {cl : List (PySem.Str × Addr)} {Fin : Shared → List Value → List (Addr × Obj) → Prop} {z : PySem.Str} {u : Tok} {news : List (Addr × Obj)} {s₁ : Shared}
    (hh : A.handled = none) (F : Fr h₀ L s₁.heap m) (N : News h₀ L s₁.heap news) (ha : z.cps.all (· < 128) = true) (hz : z.cps.size ≤ sizeLine)
    (h : ∀ g, LCt.CompRestT prog w A h₀ L m env ct elt x scope cl { s₁ with heap := g } (fun _ => True) (SignAt z) (Fin { s₁ with heap := g }) z.cps.size 0 [] news) :
    SrcS prog w A h₀ L m env ct elt x scope cl Fin (.str z u) s₁ := ⟨z, u, news, rfl, hh, F, N, ha, hz, fun _ ⟨g, e⟩ => e ▸ h g⟩
theorem assign_comp_str {ct elt iter : PySem.Expr} {x y : PySem.Str} {px py : Pos} {scope : Scope} {cl : List (PySem.Str × Addr)} {pos spos : Pos} {Q : Flow → Shared → Prop} (_ : Fr h₀ L s.heap m) (hLe : env.locals = L)
    (hsw : swapsWith (.ListComp elt [⟨.Name x px, iter, [ct], 0⟩] scope pos) (some (.Name y py)) spos.line env = pure true)
    (hclos : closureFor scope env = pure cl) (hcell : ∀ z ∈ scope.names, z.2 ≠ .cell) (hkind : scope.kind = .function)
    (hnames : ∀ z ∈ scope.names, z.2 = .local → scope.names.lookup z.1 = some .local) (hx : scope.names.lookup x = some .local)
    (hy : env.kindOf y = some .local) (hp : (env.scope.kind == .class || (env.scope.kind == .module && env.locals != env.globals)) = false)
    (h : wpAny (model prog w) A (eval iter env) (SrcS prog w A h₀ L m env ct elt x scope cl (fun s₂ => LCg.FinA h₀ L m s₂ y Q)) E s)
    (hs : ∀ x, foldedSetIterable iter env x = pure x := by intro _; rfl) :
    wpAny (model prog w) A (exec (.Assign [.Name y py] (.ListComp elt [⟨.Name x px, iter, [ct], 0⟩] scope pos) spos) env) Q E s := by
  subst hLe
  rw [exec_Assign_Name_used _ _ _ _ hsw]
  refine wpAny_bind (wpAny_standAt (wpAny_bind ?_))
  show wpAny _ A (do let _ ← comprehension (.ListComp elt [⟨.Name x px, iter, [ct], 0⟩] scope pos) scope env _ (newList []) false (eval iter env) (some (assign (.Name y py) env))) _ _ s
  refine wpAny_bind (wpAny_mono (wpAny_comprehension_free (use := some (assign (.Name y py) env)) (Q := fun _ s' => Q .next s') rfl hs hclos hkind hnames
    (wpAny_mono h (fun xv s₁ h₁ => ?_) fun _ _ e => e)) (fun _ s' hq => wpAny_pure (wpAny_pure hq)) fun _ _ e => e)
  obtain ⟨z, u, news, rfl, hh, F, N, ha, hz, rest⟩ := h₁
  refine wpAny_pyIter_ascii ha ?_
  refine LCt.block_T (S := fun _ => True) (Walks.strAscii hh s₁.heap.objs.size z u) hz (fun i h st => by obtain ⟨o, e, _⟩ := st; exact ⟨o, e⟩)
    (fun i h h' o nw st e e' _ _ _ => by obtain ⟨o', q, r⟩ := st; rw [e] at q; cases q; exact ⟨o, e', r⟩) hcell hkind hx ⟨_, Heap.get?_push_size _ rfl, rfl, rfl⟩ (fun b hb => ?_)
    (F.keeps fun _ _ e => Heap.get?_push_of_some _ e) (N.grown fun _ _ e => Heap.get?_push_of_some _ e) (Nat.ne_of_lt F.ns.lt) (next_is_new F) (fun p hp => Nat.ne_of_lt (Heap.lt_size (N p hp).1)) trivial (rest _ ⟨_, rfl⟩) ?_
  · rw [List.mem_singleton.mp hb]
    show s₁.heap.objs.size < (s₁.heap.push _).objs.size
    rw [Heap.size_push]; exact Nat.lt_succ_self _
  · intro D C h' tk m' ys news' F' N' o1 hn hC₀ hD₀ hCL hDL hCD offC fin
    show wpAny _ A (assign (.Name y py) env (.ref D)) _ _ _
    refine wpAny_assign_Name (wpAny_storeName_local hy F'.ns (fun h₂ hn₂ hs₂ => ?_) hp)
    have gone : h₀.get? env.locals = none := Heap.get?_none_of_le F'.above
    have F₂ : Fr h₀ env.locals h₂ (fun z => if z = y then some (.ref D) else m z) := ⟨hn₂, fun b o e => hs₂.extBut b o (fun q => by rw [q, gone] at e; cases e) (F'.keep b o e), F'.above⟩
    refine ⟨m', hn.sameBut hs₂ hCL, fun h'' hs'' => fin D h'' _ (F₂.change hs'' hCL hC₀) (fun p hp => ⟨hs''.extBut _ _ ?_ (hs₂.extBut _ _ (N' p hp).2.1 (N' p hp).1), (N' p hp).2⟩) o1⟩
    rcases List.mem_cons.mp hp with rfl | hp
    · exact Ne.symm hCD
    · exact offC p hp
end
end Mine
end
section
open PySem PySem.W PyProof.Rows PySem.Calls PySem.Builtin PySem.Builtin.Str
set_option Elab.async false
namespace Mine
theorem rulesJ1_0 : True := by
  w_top off
  k_with_none
  trivial
/-- no E, no D -/
noncomputable def NoED (l : List Nat) : Prop := ∀ c ∈ l, c ≠ 69 ∧ c ≠ 68
theorem NoED.tail {c : Nat} {r : List Nat} (h : NoED (c :: r)) : NoED r := fun x hx => h x (.tail _ hx)
theorem NoED.hd {c : Nat} {r : List Nat} (h : NoED (c :: r)) : c ≠ 69 ∧ c ≠ 68 := h c (.head _)
theorem replF_cons (f : List Nat) (c : Nat) (r : List Nat) : replF f (c :: r) = (if c = 32 then f else [c]) ++ replF f r := rfl
theorem bareF_blank (r : List Nat) : bareF (32 :: r) = bareF r := rfl
theorem bareF_sign {c : Nat} (r : List Nat) (h : c ≠ 32) : bareF (c :: r) = c :: r := by
  unfold bareF; rw [List.dropWhile_cons, if_neg (by simpa using h)]
noncomputable def foldS (z : Bool) (out l : List Nat) : List Nat := l.foldl (solidStep z) out
theorem foldS_cons (z : Bool) (out : List Nat) (c : Nat) (r : List Nat) : foldS z out (c :: r) = foldS z (solidStep z out c) r := rfl
theorem step_sign {z : Bool} {out : List Nat} {c : Nat} (h : c ≠ 32) : solidStep z out c = out ++ [c] := by unfold solidStep; rw [if_pos (by simpa using h)]
theorem step_blank {z : Bool} {o : List Nat} {e : Nat} (h : e ≠ 69 ∧ e ≠ 68) : solidStep z (o ++ [e]) 32 = o ++ [e] ++ fillF z := by
  unfold solidStep fillF
  rw [if_neg (by simp)]
  cases z <;> simp [h.1, h.2]
theorem step_keep {z : Bool} {o : List Nat} {e : Nat} (h : e = 69 ∨ e = 68) : solidStep z (o ++ [e]) 32 = o ++ [e] := by
  unfold solidStep
  rw [if_neg (by simp)]
  rcases h with rfl | rfl <;> simp
theorem step_nil {z : Bool} : solidStep z [] 32 = [] := by unfold solidStep; simp
/-- behind a sign that is no E and no D, without E and D: every blank is filled -/
theorem foldS_free {z : Bool} : ∀ {l o : List Nat} {e : Nat}, (e ≠ 69 ∧ e ≠ 68) → NoED l → foldS z (o ++ [e]) l = o ++ [e] ++ replF (fillF z) l
  | [], o, e, _, _ => by simp [foldS, replF]
  | c :: r, o, e, he, hl => by
    rw [foldS_cons, replF_cons]
    by_cases h : c = 32
    · subst h
      rw [step_blank he, if_pos rfl]
      cases z with
      | false => simp only [fillF, Bool.false_eq_true, if_false, List.append_nil, List.nil_append]; exact foldS_free he hl.tail
      | true =>
        have := foldS_free (z := true) (l := r) (o := o ++ [e]) (e := 48) (by decide) hl.tail
        simp only [fillF, if_true] at this ⊢
        rw [this]; simp
    · rw [step_sign h, if_neg h, foldS_free hl.hd hl.tail]; simp
theorem foldS_bare {z : Bool} (l : List Nat) : foldS z [] l = foldS z [] (bareF l) := by
  induction l with
  | nil => rfl
  | cons c r ih =>
    by_cases h : c = 32
    · subst h; rw [bareF_blank, foldS_cons, step_nil, ih]
    · rw [bareF_sign _ h]
theorem foldS_keep {z : Bool} {o : List Nat} {e : Nat} (he : e = 69 ∨ e = 68) (l : List Nat) : foldS z (o ++ [e]) l = foldS z (o ++ [e]) (bareF l) := by
  induction l with
  | nil => rfl
  | cons c r ih =>
    by_cases h : c = 32
    · subst h; rw [bareF_blank, foldS_cons, step_keep he, ih]
    · rw [bareF_sign _ h]
theorem bareF_NoED {l : List Nat} (h : NoED l) : NoED (bareF l) := fun c hc => h c ((List.dropWhile_sublist _).subset hc)
/-- in front of the first E or D -/
theorem foldS_start {z : Bool} {o : List Nat} {l : List Nat} (hl : NoED l) (hh : l.head? ≠ some 32) : foldS z o l = o ++ replF (fillF z) l := by
  cases l with
  | nil => simp [foldS, replF]
  | cons c r =>
    have h : c ≠ 32 := fun e => hh (by simp [e])
    rw [foldS_cons, step_sign h, foldS_free hl.hd hl.tail, replF_cons, if_neg h]; simp
theorem bareF_head (l : List Nat) : (bareF l).head? ≠ some 32 := by
  induction l with
  | nil => simp [bareF]
  | cons c r ih =>
    by_cases h : c = 32
    · subst h; rw [bareF_blank]; exact ih
    · rw [bareF_sign _ h]; simpa using h
theorem solid_free {z : Bool} {l : List Nat} (h : NoED (bareF l)) : solidF z l = replF (fillF z) (bareF l) := by
  show foldS z [] l = _
  rw [foldS_bare, foldS_start h (bareF_head l)]; rfl
theorem foldS_app (z : Bool) (o a b : List Nat) : foldS z o (a ++ b) = foldS z (foldS z o a) b := by simp [foldS]
theorem foldS_pre {z : Bool} : ∀ (l o : List Nat), ∃ q, foldS z o l = o ++ q
  | [], o => ⟨[], by simp [foldS]⟩
  | c :: r, o => by
    rw [foldS_cons]
    have : ∃ q, solidStep z o c = o ++ q := by
      unfold solidStep
      split
      · exact ⟨_, rfl⟩
      · split
        · exact ⟨_, rfl⟩
        · exact ⟨[], by simp⟩
    obtain ⟨q, e⟩ := this
    obtain ⟨q', e'⟩ := foldS_pre r (o ++ q)
    exact ⟨q ++ q', by rw [e, e']; simp⟩
/-- the signs that are no blank stay -/
theorem foldS_mem {z : Bool} {x : Nat} (hx : x ≠ 32) : ∀ (l o : List Nat), x ∈ o ∨ x ∈ l → x ∈ foldS z o l
  | [], o, h => by simpa [foldS] using h
  | c :: r, o, h => by
    rw [foldS_cons]
    refine foldS_mem hx r _ ?_
    rcases h with h | h
    · left
      unfold solidStep
      split
      · simp [h]
      · split <;> simp [h]
    · rcases List.mem_cons.mp h with rfl | h
      · left; rw [step_sign hx]; simp
      · exact .inr h
theorem solid_nil {z : Bool} {l : List Nat} : solidF z l = [] ↔ bareF l = [] := by
  constructor
  · intro h
    cases hb : bareF l with
    | nil => rfl
    | cons c r =>
      exfalso
      have e : solidF z l = foldS z [] (bareF l) := foldS_bare l
      have hc : c ≠ 32 := fun e => bareF_head l (by rw [hb, e]; rfl)
      have := foldS_mem (z := z) hc (bareF l) [] (.inr (by rw [hb]; exact .head _))
      rw [← e, h] at this; simp at this
  · intro h
    have e : solidF z l = foldS z [] (bareF l) := foldS_bare l
    rw [e, h]; rfl
/-- with an E or a D -/
theorem solid_split {z : Bool} {l a b : List Nat} {e : Nat} (he : e = 69 ∨ e = 68) (h : bareF l = a ++ e :: b) (ha : NoED a) :
    ∃ q, solidF z l = replF (fillF z) a ++ e :: q ∧ (NoED b → q = replF (fillF z) (bareF b)) ∧ (∀ x, x ≠ 32 → x ∈ b → x ∈ q) := by
  have e0 : solidF z l = foldS z (replF (fillF z) a ++ [e]) b := by
    show foldS z [] l = _
    rw [foldS_bare, h, foldS_app, foldS_start ha (by have := bareF_head l; rw [h] at this; cases a with | nil => simp | cons c r => simpa using this), foldS_cons, step_sign (by lia)]; simp
  rw [e0, foldS_keep he]
  obtain ⟨q, hq⟩ := foldS_pre (z := z) (bareF b) (replF (fillF z) a ++ [e])
  refine ⟨q, by rw [hq]; simp, fun hb => ?_, fun x hx hm => ?_⟩
  · rw [foldS_start (bareF_NoED hb) (bareF_head b)] at hq
    exact (List.append_cancel_left hq).symm
  · have hm' : x ∈ bareF b := by
      clear h ha e0 hq
      induction b with
      | nil => simp at hm
      | cons c r ih =>
        by_cases hc : c = 32
        · subst hc; rw [bareF_blank]; exact ih (by rcases List.mem_cons.mp hm with rfl | h; exact absurd rfl hx; exact h)
        · rw [bareF_sign _ hc]; exact hm
    -- the fold over what stands behind: it adds only
    have key : ∀ (l o q : List Nat), foldS z o l = o ++ q → x ∈ l → x ∈ q := by
      intro l
      induction l with
      | nil => intro o q _ h; simp at h
      | cons c r ih =>
        intro o q h hm
        rw [foldS_cons] at h
        rcases List.mem_cons.mp hm with rfl | hm
        · rw [step_sign hx] at h
          obtain ⟨q', e'⟩ := foldS_pre (z := z) r (o ++ [x])
          rw [e', List.append_assoc] at h
          rw [← List.append_cancel_left h]; simp
        · have : ∃ p, solidStep z o c = o ++ p := by
            obtain ⟨p, e⟩ := foldS_pre (z := z) [c] o
            exact ⟨p, e⟩
          obtain ⟨p, e⟩ := this
          rw [e] at h
          obtain ⟨q', e'⟩ := foldS_pre (z := z) r (o ++ p)
          have m := ih _ _ e' hm
          rw [e', List.append_assoc] at h
          rw [← List.append_cancel_left h]
          exact List.mem_append_right _ m
    exact key _ _ _ hq hm'
end Mine
end
section
open PySem PySem.W PyProof.Rows PySem.Calls PySem.Builtin PySem.Builtin.Str
set_option Elab.async false
namespace Mine
theorem rulesJ2_0 : True := by
  w_top off
  k_with_none
  trivial
theorem signF_body (l : List Nat) : signF l = (if l.take 1 == [45] then -1 else 1, lawBody l) := by
  unfold signF lawBody
  by_cases h : (l.take 1 == [45]) = true
  · rw [if_pos h, if_pos h, if_pos (by rw [h]; simp)]
  · rw [if_neg h, if_neg h]
    by_cases h2 : (l.take 1 == [43]) = true
    · rw [if_pos h2, if_pos (by rw [h2]; simp)]
    · rw [if_neg h2, if_neg]
      rw [Bool.not_eq_true] at h h2
      rw [h, h2]; decide
theorem signF_1 (l : List Nat) : (signF l).1 = if l.take 1 == [45] then -1 else 1 := by rw [signF_body]
theorem signF_2 (l : List Nat) : (signF l).2 = lawBody l := by rw [signF_body]
theorem wholeF_bad {l : List Nat} {c : Nat} (hm : c ∈ l) (hd : isDig c = false) : wholeF l < 0 := by
  unfold wholeF
  rw [if_neg]
  · lia
  · rintro ⟨_, h⟩
    have := List.all_eq_true.mp h c hm
    rw [hd] at this; cases this
theorem wholeF_nil : wholeF [] < 0 := by unfold wholeF; rw [if_neg (fun h => h.1 rfl)]; lia
theorem wholeF_neg {l : List Nat} : wholeF l < 0 ↔ l = [] ∨ l.all isDig = false := by
  unfold wholeF
  split
  · rename_i h
    constructor
    · intro z; lia
    · rintro (z | z)
      · exact absurd z h.1
      · rw [h.2] at z; cases z
  · rename_i h
    constructor
    · intro _
      by_cases z : l = []
      · exact .inl z
      · right
        cases y : l.all isDig with
        | false => rfl
        | true => exact absurd ⟨z, y⟩ h
    · intro _; lia
theorem wholeF_ok {l : List Nat} (h : 0 ≤ wholeF l) : l.all isDig = true ∧ l ≠ [] ∧ wholeF l = (valN l : Int) := by
  have : ¬ wholeF l < 0 := by lia
  rw [wholeF_neg] at this
  simp only [not_or, Bool.not_eq_false] at this
  refine ⟨this.2, this.1, ?_⟩
  unfold wholeF; rw [if_pos this]
theorem lawWhole_eq (l : List Nat) : lawWhole l = if wholeF (lawBody l) < 0 then none else some ((signF l).1 * wholeF (lawBody l)) := by
  unfold lawWhole
  by_cases h : lawBody l = [] ∨ (lawBody l).all isDig = false
  · rw [if_pos h, if_pos (wholeF_neg.mpr h)]
  · rw [if_neg h, if_neg (fun z => h (wholeF_neg.mp z)), signF_1]
    have e := (wholeF_ok (l := lawBody l) (by have := mt wholeF_neg.mp h; lia)).2.2
    rw [e]
    split <;> simp
theorem body_sign {g : Nat} (r : List Nat) (h : g = 43 ∨ g = 45) : lawBody (g :: r) = r := by
  unfold lawBody
  rw [if_pos]
  · rfl
  · rcases h with rfl | rfl <;> simp
theorem body_none {g : Nat} (r : List Nat) (h : g ≠ 43 ∧ g ≠ 45) : lawBody (g :: r) = g :: r := by
  unfold lawBody
  rw [if_neg]
  simp [h.1, h.2]
theorem body_mem {l : List Nat} {c : Nat} (hc : c ≠ 43 ∧ c ≠ 45) (h : c ∈ l) : c ∈ lawBody l := by
  cases l with
  | nil => simp at h
  | cons g r =>
    by_cases hg : g = 43 ∨ g = 45
    · rw [body_sign r hg]
      rcases List.mem_cons.mp h with rfl | h
      · lia
      · exact h
    · rw [body_none r (by lia)]; exact h
theorem body_sub {l : List Nat} {c : Nat} (h : c ∈ lawBody l) : c ∈ l := by
  unfold lawBody at h
  split at h
  · exact List.mem_of_mem_drop h
  · exact h
theorem body_app {H r : List Nat} {c : Nat} (h : H ≠ [] ∨ (c ≠ 43 ∧ c ≠ 45)) : lawBody (H ++ c :: r) = lawBody H ++ c :: r ∧ ((H ++ c :: r).take 1 == [45]) = (H.take 1 == [45]) := by
  cases H with
  | nil =>
    have hc := h.resolve_left (fun z => z rfl)
    refine ⟨?_, ?_⟩
    · rw [List.nil_append, body_none r hc]; rfl
    · simp [hc.2]
  | cons g H =>
    refine ⟨?_, by simp⟩
    by_cases hg : g = 43 ∨ g = 45
    · rw [List.cons_append, body_sign _ hg, body_sign _ hg]
    · rw [List.cons_append, body_none _ (by lia), body_none _ (by lia)]; rfl
theorem cut_at {P r : List Nat} {c : Nat} (hP : ∀ x ∈ P, ¬ isX x) (hc : isX c) : cutF (P ++ c :: r) = (P, if c = 69 ∨ c = 68 then r else c :: r, true) := by
  induction P with
  | nil =>
    rw [List.nil_append, cutF]
    by_cases h : c = 69 ∨ c = 68
    · rw [if_pos h, if_pos h]
    · rw [if_neg h, if_neg h, if_pos (by unfold isX at hc; lia)]
  | cons y P ih =>
    have hy := hP y (.head _)
    unfold isX at hy
    rw [List.cons_append, cutF, if_neg (by lia), if_neg (by lia), ih fun x hx => hP x (.tail _ hx)]
theorem isX_dig {c : Nat} (h : isX c) : isDig c = false := by
  rcases h with rfl | rfl | rfl | rfl <;> decide
theorem cut_bad {P r : List Nat} {c : Nat} (hP : NoED P) (hs : ∃ x ∈ P, x = 43 ∨ x = 45) (hc : isX c) : (cutF (P ++ c :: r)).2.2 = true ∧ wholeF (signF (cutF (P ++ c :: r)).2.1).2 < 0 := by
  induction P with
  | nil => obtain ⟨x, hx, _⟩ := hs; simp at hx
  | cons y P ih =>
    have hy := hP y (.head _)
    by_cases h : y = 43 ∨ y = 45
    · rw [List.cons_append, cutF, if_neg (by lia), if_pos h]
      refine ⟨rfl, ?_⟩
      rw [signF_2, body_sign _ h]
      exact wholeF_bad (c := c) (by simp) (isX_dig hc)
    · rw [List.cons_append, cutF, if_neg (by lia), if_neg h]
      refine ih hP.tail ?_
      obtain ⟨x, hx, hxx⟩ := hs
      rcases List.mem_cons.mp hx with rfl | hx
      · exact absurd hxx h
      · exact ⟨x, hx, hxx⟩
theorem fig_mem {l : List Nat} {c : Nat} (hc : c ≠ 46) (h : c ∈ l) : c ∈ figF l := by
  unfold figF
  split
  · rename_i hh
    have e : l = l.take (l.idxOf 46) ++ l.drop (l.idxOf 46) := (List.take_append_drop _ _).symm
    have hlt : l.idxOf 46 < l.length := List.idxOf_lt_length_iff.mpr hh
    rw [e, List.drop_eq_getElem_cons hlt, List.getElem_idxOf hlt] at h
    rcases List.mem_append.mp h with h | h
    · exact List.mem_append_left _ h
    · rcases List.mem_cons.mp h with h | h
      · exact absurd h hc
      · exact List.mem_append_right _ h
  · exact h
theorem fig_free {P : List Nat} (h : 0 ≤ wholeF (figF P)) : ∀ c ∈ P, ¬ isX c := fun c hc hx => by
  have := wholeF_bad (fig_mem (by unfold isX at hx; lia) hc) (isX_dig hx)
  lia
theorem replF_mem {f l : List Nat} {c : Nat} (h : c ∈ replF f l) : c ∈ l ∨ c ∈ f := by
  unfold replF at h
  obtain ⟨x, hx, h⟩ := List.mem_flatMap.mp h
  split at h
  · exact .inr h
  · rw [List.mem_singleton] at h; subst h; exact .inl hx
theorem replF_keep {f l : List Nat} {c : Nat} (hc : c ≠ 32) (h : c ∈ l) : c ∈ replF f l := by
  unfold replF
  exact List.mem_flatMap.mpr ⟨c, h, by rw [if_neg hc]; simp⟩
theorem fillF_mem {z : Bool} {c : Nat} (h : c ∈ fillF z) : c = 48 := by
  unfold fillF at h; split at h <;> simp at h; exact h
theorem replF_NoED {z : Bool} {l : List Nat} (h : NoED l) : NoED (replF (fillF z) l) := fun c hc => by
  rcases replF_mem hc with h1 | h1
  · exact h c h1
  · have := fillF_mem h1; lia
theorem bare_mem {l : List Nat} {c : Nat} (hc : c ≠ 32) (h : c ∈ l) : c ∈ bareF l := by
  induction l with
  | nil => simp at h
  | cons d r ih =>
    by_cases hd : d = 32
    · subst hd; rw [bareF_blank]
      rcases List.mem_cons.mp h with rfl | h
      · exact absurd rfl hc
      · exact ih h
    · rw [bareF_sign _ hd]; exact h
/-- the law's two halves of a text, filled -/
inductive Hv (z : Bool) (x : List Nat) : List Nat → Option (List Nat) → Prop
  | A (a : List Nat) (e : Nat) (b : List Nat) (h : bareF x = a ++ e :: b) (he : e = 69 ∨ e = 68) (ha : NoED a) : Hv z x (replF (fillF z) a) (some (replF (fillF z) (bareF b)))
  | B (a : List Nat) (g : Nat) (b : List Nat) (h : bareF x = a ++ g :: b) (hg : g = 43 ∨ g = 45) (ha : a ≠ []) (hn : NoED (bareF x)) : Hv z x (replF (fillF z) a) (some (replF (fillF z) (g :: b)))
  | C (hn : NoED (bareF x)) (h : ∀ c ∈ (bareF x).drop 1, c ≠ 43 ∧ c ≠ 45) : Hv z x (replF (fillF z) (bareF x)) none
/-- what the project's cut meets -/
inductive Ct (z : Bool) (x H : List Nat) : Option (List Nat) → Prop
  | E (e : Nat) (q : List Nat) (t : List Nat) (hs : solidF z x = H ++ e :: q) (he : e = 69 ∨ e = 68) (hH : NoED H) (h1 : wholeF (lawBody t) < 0 → wholeF (lawBody q) < 0) (h2 : 0 ≤ wholeF (lawBody t) → q = t) : Ct z x H (some t)
  | S (g : Nat) (q : List Nat) (hs : solidF z x = H ++ g :: q) (hg : g = 43 ∨ g = 45) (hH : NoED H) (hne : H ≠ []) : Ct z x H (some (g :: q))
  | N (hs : solidF z x = H) (hH : ∀ c ∈ lawBody H, ¬ isX c) : Ct z x H none
theorem Hv.ct {z : Bool} {x H : List Nat} {T : Option (List Nat)} (h : Hv z x H T) : Ct z x H T := by
  cases h with
  | A a e b h he ha =>
    obtain ⟨q, hs, hq, hm⟩ := solid_split (z := z) he h ha
    refine .E e q _ hs he (replF_NoED ha) (fun hb => ?_) (fun hb => ?_)
    · by_cases hn : NoED b
      · rw [hq hn]; exact hb
      · unfold NoED at hn
        have : ∃ c, c ∈ b ∧ (c = 69 ∨ c = 68) := by
          apply Classical.byContradiction
          intro hh
          exact hn fun c hc => ⟨fun e => hh ⟨c, hc, .inl e⟩, fun e => hh ⟨c, hc, .inr e⟩⟩
        obtain ⟨c, hc, hcc⟩ := this
        exact wholeF_bad (body_mem (by lia) (hm c (by lia) hc)) (isX_dig (by unfold isX; lia))
    · refine hq fun c hc => ?_
      apply Classical.byContradiction
      intro hcc
      have hcc : c = 69 ∨ c = 68 := by lia
      have := wholeF_bad (body_mem (by lia) (replF_keep (f := fillF z) (by lia) (bare_mem (by lia) hc))) (isX_dig (by unfold isX; lia))
      lia
  | B a g b h hg ha hn =>
    have e : replF (fillF z) (g :: b) = g :: replF (fillF z) b := by rw [replF_cons, if_neg (by lia)]; rfl
    rw [e]
    refine .S g _ ?_ hg (replF_NoED fun c hc => hn c (by rw [h]; simp [hc])) ?_
    · rw [solid_free hn, h, replF_app, e]
    · cases a with
      | nil => exact absurd rfl ha
      | cons c r =>
        have hc : c ≠ 32 := fun e => bareF_head x (by rw [h, e]; rfl)
        rw [replF_cons, if_neg hc]; simp
  | C hn h =>
    refine .N (solid_free hn) fun c hc hx => ?_
    have hED := replF_NoED (z := z) hn c (body_sub hc)
    cases hb : bareF x with
    | nil => rw [hb] at hc; simp [replF, lawBody] at hc
    | cons y r =>
      have hy : y ≠ 32 := fun e => bareF_head x (by rw [hb, e]; rfl)
      rw [hb, replF_cons, if_neg hy, List.singleton_append] at hc
      have hr : c ∈ replF (fillF z) r → False := fun hm => by
        rcases replF_mem hm with h1 | h1
        · have := h c (by rw [hb]; simpa using h1)
          unfold isX at hx; lia
        · have := fillF_mem h1; unfold isX at hx; lia
      by_cases hg : y = 43 ∨ y = 45
      · rw [body_sign _ hg] at hc; exact hr hc
      · rw [body_none _ (by lia)] at hc
        rcases List.mem_cons.mp hc with rfl | hc
        · unfold isX at hx; lia
        · exact hr hc
noncomputable def tailV (sc : Int) : Option (List Nat) → Int
  | none => -sc
  | some t => (signF t).1 * wholeF (lawBody t)
section
variable {z : Bool} {x H : List Nat} {T : Option (List Nat)}
theorem rCut_eq : rCut z x = cutF (lawBody (solidF z x)) := by unfold rCut; rw [signF_2]
theorem Ct.bad1 (h : Ct z x H T) (hn : wholeF (figF (lawBody H)) < 0) : rBad z x := by
  have key : ∀ (c : Nat) (q : List Nat), isX c → NoED H → (H ≠ [] ∨ (c ≠ 43 ∧ c ≠ 45)) → solidF z x = H ++ c :: q → rBad z x := by
    intro c q hc hH hne hs
    by_cases hp : ∃ y ∈ lawBody H, y = 43 ∨ y = 45
    · have := cut_bad (P := lawBody H) (r := q) (fun y hy => hH y (body_sub hy)) hp hc
      right
      unfold rExp
      rw [rCut_eq, hs, (body_app hne).1]; exact this
    · left
      unfold rNum
      rw [rCut_eq, hs, (body_app hne).1, cut_at ?_ hc]
      · exact hn
      · intro y hy hx
        have h1 := hH y (body_sub hy)
        exact hp ⟨y, hy, by unfold isX at hx; lia⟩
  cases h with
  | E e q t hs he hH _ _ => exact key e q (by unfold isX; lia) hH (.inr (by lia)) hs
  | S g q hs hg hH hne => exact key g q (by unfold isX; lia) hH (.inl hne) hs
  | N hs hH =>
    left
    unfold rNum
    rw [rCut_eq, hs, cutF_none hH]; exact hn
theorem Ct.bad2 {t : List Nat} (h : Ct z x H (some t)) (hn : wholeF (lawBody t) < 0) : rBad z x := by
  have key : ∀ (c : Nat) (q : List Nat), isX c → NoED H → (H ≠ [] ∨ (c ≠ 43 ∧ c ≠ 45)) → solidF z x = H ++ c :: q → wholeF (lawBody (if c = 69 ∨ c = 68 then q else c :: q)) < 0 → rBad z x := by
    intro c q hc hH hne hs hw
    right
    by_cases hp : ∃ y ∈ lawBody H, y = 43 ∨ y = 45
    · have := cut_bad (P := lawBody H) (r := q) (fun y hy => hH y (body_sub hy)) hp hc
      unfold rExp
      rw [rCut_eq, hs, (body_app hne).1]; exact this
    · unfold rExp
      rw [rCut_eq, hs, (body_app hne).1, cut_at ?_ hc, signF_2]
      · exact ⟨rfl, hw⟩
      · intro y hy hx
        have h1 := hH y (body_sub hy)
        exact hp ⟨y, hy, by unfold isX at hx; lia⟩
  cases h with
  | E e q t hs he hH h1 _ => exact key e q (by unfold isX; lia) hH (.inr (by lia)) hs (by rw [if_pos he]; exact h1 hn)
  | S g q hs hg hH hne => exact key g q (by unfold isX; lia) hH (.inl hne) hs (by rw [if_neg (by lia)]; exact hn)
theorem Ct.good {d sc : Int} (h : Ct z x H T) (hn : 0 ≤ wholeF (figF (lawBody H))) (ht : ∀ t, T = some t → 0 ≤ wholeF (lawBody t)) :
    ¬ rBad z x ∧ rSg z x = (if H.take 1 == [45] then -1 else 1) ∧ rNum z x = wholeF (figF (lawBody H)) ∧ rPow z x d sc = tailV sc T - plcF (lawBody H) d := by
  have key : ∀ (c : Nat) (q : List Nat), isX c → (H ≠ [] ∨ (c ≠ 43 ∧ c ≠ 45)) → solidF z x = H ++ c :: q → 0 ≤ wholeF (lawBody (if c = 69 ∨ c = 68 then q else c :: q)) →
      ¬ rBad z x ∧ rSg z x = (if H.take 1 == [45] then -1 else 1) ∧ rNum z x = wholeF (figF (lawBody H)) ∧ rPow z x d sc = tailV sc (some (if c = 69 ∨ c = 68 then q else c :: q)) - plcF (lawBody H) d := by
    intro c q hc hne hs hw
    have e : rCut z x = (lawBody H, if c = 69 ∨ c = 68 then q else c :: q, true) := by
      rw [rCut_eq, hs, (body_app hne).1, cut_at (fig_free hn) hc]
    have e1 : rNum z x = wholeF (figF (lawBody H)) := by unfold rNum; rw [e]
    have e2 : rExp z x = wholeF (lawBody (if c = 69 ∨ c = 68 then q else c :: q)) := by unfold rExp; rw [e, signF_2]
    refine ⟨?_, ?_, e1, ?_⟩
    · rintro (b | ⟨_, b⟩)
      · rw [e1] at b; lia
      · rw [e2] at b; lia
    · unfold rSg; rw [signF_1, hs, (body_app hne).2]
    · unfold rPow
      rw [e2, e, if_pos rfl]; rfl
  cases h with
  | E e q t hs he hH _ h2 =>
    have ht' := ht t rfl
    have := key e q (by unfold isX; lia) (.inr (by lia)) hs (by rw [if_pos he, h2 ht']; exact ht')
    rw [if_pos he, h2 ht'] at this; exact this
  | S g q hs hg hH hne =>
    have ht' := ht _ rfl
    have hg' : ¬ (g = 69 ∨ g = 68) := by lia
    have := key g q (by unfold isX; lia) (.inl hne) hs (by rw [if_neg hg']; exact ht')
    rw [if_neg hg'] at this; exact this
  | N hs hH =>
    have e : rCut z x = (lawBody H, [], false) := by rw [rCut_eq, hs, cutF_none hH]
    have e1 : rNum z x = wholeF (figF (lawBody H)) := by unfold rNum; rw [e]
    refine ⟨?_, ?_, e1, ?_⟩
    · rintro (b | ⟨b, _⟩)
      · rw [e1] at b; lia
      · rw [e] at b; cases b
    · unfold rSg; rw [signF_1, hs]
    · unfold rPow
      rw [e, if_neg (by simp)]; rfl
theorem sg_mul {b : Bool} {n : Nat} : (if b = true then -1 else 1) * (n : Int) = sgnM b n := by unfold sgnM; cases b <;> simp
end
end Mine
end
section
open PySem PySem.W PyProof.Rows PySem.Calls PySem.Builtin PySem.Builtin.Str
set_option Elab.async false
namespace Mine
theorem rulesHl_0 : True := by
  w_top off
  k_with_none
  trivial
/-- the law's two halves of a text, as they stand -/
inductive Hs (x : List Nat) : List Nat → Option (List Nat) → Prop
  | A (a : List Nat) (e : Nat) (b : List Nat) (h : x = a ++ e :: b) (he : e = 69 ∨ e = 68) (ha : NoED a) : Hs x a (some (bareF b))
  | B (a : List Nat) (g : Nat) (b : List Nat) (h : x = a ++ g :: b) (hg : g = 43 ∨ g = 45) (ha : a ≠ []) (hn : NoED x) : Hs x a (some (g :: b))
  | C (hn : NoED x) (h : ∀ c ∈ x.drop 1, c ≠ 43 ∧ c ≠ 45) : Hs x x none
theorem Hs.hv {z : Bool} {x a : List Nat} {T : Option (List Nat)} (h : Hs (bareF x) a T) : Hv z x (replF (fillF z) a) (T.map (replF (fillF z))) := by
  cases h with
  | A a e b h he ha => exact .A a e b h he ha
  | B a g b h hg ha hn => exact .B a g b h hg ha hn
  | C hn h => exact .C hn h
theorem Hs.len {x a : List Nat} {T : Option (List Nat)} (h : Hs x a T) : a.length ≤ x.length ∧ ∀ t, T = some t → t.length ≤ x.length := by
  cases h with
  | A _ e b h he ha =>
    have := bareF_len b
    refine ⟨by rw [h]; simp, fun t ht => ?_⟩
    cases ht; rw [h]; simp; lia
  | B _ g b h hg ha hn =>
    refine ⟨by rw [h]; simp, fun t ht => ?_⟩
    cases ht; rw [h]; simp
  | C hn h => exact ⟨Nat.le_refl _, fun t ht => by cases ht⟩
theorem Hs.lenA {x a b : List Nat} (h : Hs x a (some b)) : a.length ≤ x.length ∧ b.length ≤ x.length := ⟨h.len.1, h.len.2 _ rfl⟩
theorem rfind_S (l : List Nat) (c : Nat) : (Txt.rfind (S l) (S [c]) = -1 ∧ ∀ k : Nat, l[k]? ≠ some c) ∨ ∃ i : Nat, Txt.rfind (S l) (S [c]) = (i : Int) ∧ l[i]? = some c ∧ ∀ k : Nat, i < k → l[k]? ≠ some c := by
  unfold Txt.rfind
  rcases StrLaws.last_spec (S l) (S [c]) with ⟨h0, hn⟩ | ⟨i, h0, ha, hn⟩
  · rw [h0]; exact .inl ⟨rfl, fun k z => hn k ((at_one l c k).mpr z)⟩
  · rw [h0]; exact .inr ⟨i, rfl, (at_one l c i).mp ha, fun k hk z => hn k hk ((at_one l c k).mpr z)⟩
theorem split_at (l : List Nat) {i c : Nat} (h : l[i]? = some c) : l = l.take i ++ c :: l.drop (i + 1) := by
  obtain ⟨hi, e⟩ := List.getElem?_eq_some_iff.mp h
  have := (List.take_append_drop i l).symm
  rw [List.drop_eq_getElem_cons hi, e] at this
  exact this
section
variable {x : List Nat}
theorem occ_no {c : Nat} (h : (occurrences (S x) { cps := #[c] } 0 (S x).length 1).isEmpty = true) : c ∉ x := by
  rw [S1, occ_one] at h; simpa using h
theorem occ_yes {c : Nat} (h : (occurrences (S x) { cps := #[c] } 0 (S x).length 1).isEmpty = false) : c ∈ x := by
  rw [S1, occ_one] at h; simpa using h
theorem find_in {c : Nat} (h : c ∈ x) : Txt.find (S x) { cps := #[c] } = (x.idxOf c : Int) := by
  rw [S1, find_S]; unfold findF; rw [if_pos h]
theorem idx_free {c k : Nat} (h : k ≤ x.idxOf c) : c ∉ x.take k := fun hm => by
  obtain ⟨j, hj, e⟩ := List.getElem_of_mem hm
  rw [List.length_take] at hj
  rw [List.getElem_take] at e
  have h2 : x.idxOf c ≤ j := by
    rcases Nat.lt_or_ge j (x.idxOf c) with h | h
    · have := List.not_of_lt_findIdx (p := (· == c)) (xs := x) (i := j) (by unfold List.idxOf at h; exact h)
      simp [e] at this
    · exact h
  lia
theorem hs_at {e o : Nat} (h1 : e ∈ x) (h2 : o ∈ x → x.idxOf e ≤ x.idxOf o) (he : e = 69 ∧ o = 68 ∨ e = 68 ∧ o = 69) :
    Hs x (x.take (x.idxOf e)) (some (bareF (x.drop (x.idxOf e + 1)))) := by
  have hlt : x.idxOf e < x.length := List.idxOf_lt_length_iff.mpr h1
  refine .A _ e _ (split_at x (by rw [List.getElem?_eq_getElem hlt, List.getElem_idxOf hlt])) (by lia) fun c hc => ?_
  have a1 : e ∉ x.take (x.idxOf e) := idx_free (Nat.le_refl _)
  have a2 : o ∉ x.take (x.idxOf e) := by
    by_cases ho : o ∈ x
    · exact idx_free (h2 ho)
    · exact fun hm => ho (List.mem_of_mem_take hm)
  have h1' : c ≠ e := by rintro rfl; exact a1 hc
  have h2' : c ≠ o := by rintro rfl; exact a2 hc
  lia
theorem hl_cut {M1 M2 : Int} {e o : Nat} (h1 : e ∈ x) (h2 : o ∈ x → x.idxOf e ≤ x.idxOf o) (he : e = 69 ∧ o = 68 ∨ e = 68 ∧ o = 69) (m1 : M1 = x.idxOf e) (m2 : M2 = x.idxOf e) :
    ∃ a b, Hs x a (some b) ∧ Txt.slice (S x) none (some M1) = S a ∧ S (bareF (x.drop (M2 + 1).toNat)) = S b := by
  refine ⟨_, _, hs_at h1 h2 he, ?_, ?_⟩
  · rw [slice_to _ _ (by lia), m1]; rfl
  · rw [m2]; rfl
theorem hl_E {M1 M2 : Int} {h : Heap} {D : Addr} {t0 t1 : Tok} (hd : h.get? D = some (tupO [.str (Txt.slice (S x) none (some M1)) t0, .str (S (bareF (x.drop (M2 + 1).toNat))) t1])) (h1 : (occurrences (S x) { cps := #[69] } 0 (S x).length 1).isEmpty = false) (h2 : (occurrences (S x) { cps := #[68] } 0 (S x).length 1).isEmpty = true)
    (m1 : M1 = Txt.find (S x) { cps := #[69] }) (m2 : M2 = Txt.find (S x) { cps := #[69] }) :
    ∃ a b, Hs x a (some b) ∧ h.get? D = some (tupO [.str (S a) t0, .str (S b) t1]) := by
  have a1 := occ_yes h1
  have a2 := occ_no h2
  rw [find_in a1] at m1 m2
  obtain ⟨a, b, e0, e1, e2⟩ := hl_cut a1 (o := 68) (fun z => absurd z a2) (.inl ⟨rfl, rfl⟩) m1 m2
  rw [e1, e2] at hd; exact ⟨a, b, e0, hd⟩
theorem hl_D {M1 M2 : Int} {h : Heap} {D : Addr} {t0 t1 : Tok} (hd : h.get? D = some (tupO [.str (Txt.slice (S x) none (some M1)) t0, .str (S (bareF (x.drop (M2 + 1).toNat))) t1])) (h1 : (occurrences (S x) { cps := #[68] } 0 (S x).length 1).isEmpty = false) (h2 : (occurrences (S x) { cps := #[69] } 0 (S x).length 1).isEmpty = true)
    (m1 : M1 = Txt.find (S x) { cps := #[68] }) (m2 : M2 = Txt.find (S x) { cps := #[68] }) :
    ∃ a b, Hs x a (some b) ∧ h.get? D = some (tupO [.str (S a) t0, .str (S b) t1]) := by
  have a1 := occ_yes h1
  have a2 := occ_no h2
  rw [find_in a1] at m1 m2
  obtain ⟨a, b, e0, e1, e2⟩ := hl_cut a1 (o := 69) (fun z => absurd z a2) (.inr ⟨rfl, rfl⟩) m1 m2
  rw [e1, e2] at hd; exact ⟨a, b, e0, hd⟩
theorem hl_ED {M1 M2 : Int} {h : Heap} {D : Addr} {t0 t1 : Tok} (hd : h.get? D = some (tupO [.str (Txt.slice (S x) none (some M1)) t0, .str (S (bareF (x.drop (M2 + 1).toNat))) t1])) (h1 : (occurrences (S x) { cps := #[69] } 0 (S x).length 1).isEmpty = false) (h2 : (occurrences (S x) { cps := #[68] } 0 (S x).length 1).isEmpty = false)
    (m1 : M1 = Txt.find (S x) { cps := #[69] } ∨ M1 = Txt.find (S x) { cps := #[68] }) (n1 : M1 ≤ Txt.find (S x) { cps := #[69] } ∧ M1 ≤ Txt.find (S x) { cps := #[68] })
    (m2 : M2 = Txt.find (S x) { cps := #[69] } ∨ M2 = Txt.find (S x) { cps := #[68] }) (n2 : M2 ≤ Txt.find (S x) { cps := #[69] } ∧ M2 ≤ Txt.find (S x) { cps := #[68] }) :
    ∃ a b, Hs x a (some b) ∧ h.get? D = some (tupO [.str (S a) t0, .str (S b) t1]) := by
  have a1 := occ_yes h1
  have a2 := occ_yes h2
  rw [find_in a1, find_in a2] at m1 m2 n1 n2
  by_cases h : x.idxOf 69 ≤ x.idxOf 68
  · obtain ⟨a, b, e0, e1, e2⟩ := hl_cut a1 (o := 68) (fun _ => h) (.inl ⟨rfl, rfl⟩) (M1 := M1) (M2 := M2) (by lia) (by lia)
    rw [e1, e2] at hd; exact ⟨a, b, e0, hd⟩
  · obtain ⟨a, b, e0, e1, e2⟩ := hl_cut a2 (o := 69) (fun _ => by lia) (.inr ⟨rfl, rfl⟩) (M1 := M1) (M2 := M2) (by lia) (by lia)
    rw [e1, e2] at hd; exact ⟨a, b, e0, hd⟩
theorem noED_of (h1 : (occurrences (S x) { cps := #[69] } 0 (S x).length 1).isEmpty = true) (h2 : (occurrences (S x) { cps := #[68] } 0 (S x).length 1).isEmpty = true) : NoED x :=
  fun c hc => ⟨fun e => occ_no h1 (e ▸ hc), fun e => occ_no h2 (e ▸ hc)⟩
abbrev atI (x : List Nat) : Int := if Txt.rfind (S x) (PySem.Str.ofString "-") > Txt.rfind (S x) (PySem.Str.ofString "+") then Txt.rfind (S x) (PySem.Str.ofString "-") else Txt.rfind (S x) (PySem.Str.ofString "+")
theorem hl_B (h1 : (occurrences (S x) { cps := #[69] } 0 (S x).length 1).isEmpty = true) (h2 : (occurrences (S x) { cps := #[68] } 0 (S x).length 1).isEmpty = true) (h : 0 < atI x) :
    ∃ a b, Hs x a (some b) ∧ Txt.slice (S x) none (some (atI x)) = S a ∧ Txt.slice (S x) (some (atI x)) none = S b := by
  have key : ∃ i g : Nat, atI x = i ∧ x[i]? = some g ∧ (g = 43 ∨ g = 45) := by
    unfold atI at *
    rw [lit_minus, lit_plus] at *
    split at h
    · rename_i hh
      rw [if_pos hh]
      rcases rfind_S x 45 with ⟨e, _⟩ | ⟨i, e, e1, _⟩
      · lia
      · exact ⟨i, 45, e, e1, .inr rfl⟩
    · rename_i hh
      rw [if_neg hh]
      rcases rfind_S x 43 with ⟨e, _⟩ | ⟨i, e, e1, _⟩
      · lia
      · exact ⟨i, 43, e, e1, .inl rfl⟩
  obtain ⟨i, g, e, hg, gg⟩ := key
  rw [e] at h ⊢
  have hi : i < x.length := (List.getElem?_eq_some_iff.mp hg).1
  refine ⟨x.take i, g :: x.drop (i + 1), .B _ g _ (split_at x hg) gg (by intro z; rw [List.take_eq_nil_iff] at z; rcases z with z | z; lia; subst z; simp at hi) (noED_of h1 h2), ?_, ?_⟩
  · rw [slice_to _ _ (by lia)]; rfl
  · rw [slice_from _ _ (by lia)]
    have := (List.getElem?_eq_some_iff.mp hg).2
    rw [← this, ← List.drop_eq_getElem_cons hi]; rfl
theorem hl_C (h1 : (occurrences (S x) { cps := #[69] } 0 (S x).length 1).isEmpty = true) (h2 : (occurrences (S x) { cps := #[68] } 0 (S x).length 1).isEmpty = true) (h : ¬ 0 < atI x) : Hs x x none := by
  refine .C (noED_of h1 h2) fun c hc => ?_
  obtain ⟨j, hj, e⟩ := List.getElem_of_mem hc
  rw [List.getElem_drop] at e
  have hj' : 1 + j < x.length := by rw [List.length_drop] at hj; lia
  have e' : x[1 + j]? = some c := by rw [List.getElem?_eq_getElem hj', e]
  unfold atI at h
  rw [lit_minus, lit_plus] at h
  have key : ∀ g, c = g → Txt.rfind (S x) (S [g]) ≤ 0 → False := fun g hg hr => by
    subst hg
    rcases rfind_S x c with ⟨_, e1⟩ | ⟨i, e0, _, e1⟩
    · exact e1 _ e'
    · exact e1 (1 + j) (by lia) e'
  split at h
  · exact ⟨fun z => key _ z (by lia), fun z => key _ z (by lia)⟩
  · exact ⟨fun z => key _ z (by lia), fun z => key _ z (by lia)⟩
end
end Mine
end
section
open PySem PySem.W PyProof.Rows PySem.Calls PySem.Spec
set_option Elab.async false
set_option maxRecDepth 100000
set_option maxHeartbeats 8000000
namespace Mine
theorem fillF24 {w : World} : PySem.Challenge.rw_no0239_01 = PySem.Challenge.rw_no0239_01 ∧ hd.heap_1 w.params = hd.heap_1 w.params := by k_fill; exact ⟨rfl, rfl⟩
theorem rulesF24_1 : True := by
  w_top off
  k_with_none
  k_with "my:pre" => first | (rw [List.length_drop]; lia) | assumption | lia
  k_with "call ref" => (k_here; (with_reducible show wpAny _ _ (call (.ref 210) _) _ _ _); rw [slice_from _ _ (by lia)]; refine' law_bare_k ?w1qF ?w1qN ?w1qX ?w1qT ?w1qR ?w1qhx ?_; (case w1qF => k_asm); (case w1qN => k_asm); (case w1qX => k_asm); (case w1qT => k_asm); (case w1qR => first | assumption | exact Rn.deeper (by assumption) (by decide) | exact Rn.le (by assumption) (by decide)); (case w1qhx => walk_at "my:pre"); intro _ _ _ _ _; (try dsimp only))
  trivial
noncomputable def Hold3 (P : Prop) : Prop := P
theorem Hold3.mk {P : Prop} (h : Hold3 P) : P := h
theorem rulesF24_2 : True := by
  k_with "exec Assign cons ListComp" => (k_here; refine Hold3.mk ?_)
  k_with "SrcS" => (k_here; refine Hold3.mk ?_)
  trivial
section
variable {prog : PySem.Program} {w : World} {A : Around} {E : Value → Shared → Prop} {s : Shared} {Q : Value → Shared → Prop}
theorem ne_nil0 {D l' : Addr} (hl : s.heap.IsList D #[]) (hb : s.heap.IsList l' #[]) (hu : A.units < cLine) (h : Q (.bool false) s) : wpAny (model prog w) A (compareOp .NotEq (.ref D) (.ref l')) Q E s := by
  refine cmp_ofNotEq ?_
  exact SeqAt.RcNeAt.lists (e := fun _ => true) hl hb rfl hu (fun j h1 _ => absurd h1 (Nat.not_lt_zero j)) prog w E Q h
theorem ne_nil1 {D l' : Addr} {y : Value} {ys : List Value} (hl : s.heap.IsList D (y :: ys).toArray) (hb : s.heap.IsList l' #[]) (hu : A.units < cLine) (h : Q (.bool true) s) : wpAny (model prog w) A (compareOp .NotEq (.ref D) (.ref l')) Q E s := by
  refine cmp_ofNotEq ?_
  exact SeqAt.RcNeAt.lists_lengths hl hb rfl hu prog w E Q h
end
theorem rulesF24_3 : True := by
  k_with "compareOp NotEq ref ref" => (k_here; first | (refine' ne_nil1 ?w2qk1 ?w2qk2 ?w2qk3 ?_; (case w2qk1 => is_list); (case w2qk2 => is_list); (case w2qk3 => exact Rn.units (by assumption) (by decide))) | (refine' ne_nil0 ?w2qk1 ?w2qk2 ?w2qk3 ?_; (case w2qk1 => is_list); (case w2qk2 => is_list); (case w2qk3 => exact Rn.units (by assumption) (by decide))))
  trivial
theorem is_absurd {x y : PySem.Str} {n : Nat} {P : Prop} (h : (Builtin.Str.occurrences x y 0 n 1).isEmpty = true) (h' : (Builtin.Str.occurrences x y 0 n 1).isEmpty = false) : P := by rw [h] at h'; cases h'
theorem law_halves_b {w : World} {mg mb : PySem.Str → Option Value} {mean : ExcName → Option Value} {pg : PySem.Program} {lse : List PySem.Str} {s : Shared} {A : Around} {Q E : Value → Shared → Prop} (x : List Nat) (t : Tok)
    (X : (hd.heap_1 w.params).In s.heap) (T : Top pg lse mean mg mb s.heap) (R : Rn A 4) (hx : x.length ≤ 40)
    (hq0 : Hs x x none → ∀ D t0 h' tk, Ext s.heap h' → h'.get? D = some (tupO [.str (S x) t0, .none]) → s.heap.get? D = none → Q (.ref D) { s with heap := h', toks := tk })
    (hq : ∀ a b, Hs x a (some b) → ∀ D t0 t1 h' tk, Ext s.heap h' → h'.get? D = some (tupO [.str (S a) t0, .str (S b) t1]) → s.heap.get? D = none → Q (.ref D) { s with heap := h', toks := tk }) :
    wpAny (model PySem.Challenge.rw_no0239_01.row.prog w) A (call (.ref 227) [.str (S x) t]) Q E s := by
  obtain ⟨ah, ad, af, ag, au⟩ := A
  obtain rfl : ah = none := R.h
  refine wpAny_call ?_
  refine call_qC [("text", .str (S x) t)] (by have := R.d; lia) (X 227 _ (by k_is)) rfl T.nolimit (codeRec_of X (by k_is)) rfl rfl (by decide +kernel) ?_
  intro h₁ tk cells F N Y
  k_cells Y
  have hxS : (S x).length ≤ 40 := by rw [S_len]; exact hx
  try simp only [List.cons_append, List.nil_append] at N
  k_steps
  unfold Hold3
  refine assign_comp_str F (by rfl) (by rfl) (by rfl) (by decide) (by rfl) (by decide) (by rfl) (by rfl) (by rfl) ?_
  k_steps
  unfold Hold3
  refine SrcS.intro (by rfl) (by k_asm) (by k_asm) (by decide +kernel) (by decide +kernel) ?_
  intro g'
  refine LCt.CompRestT.succ (k := 1) ?_
  intro v I oI C oC D m₂ h tk E' hv hC hm F N off ne
  have off0 := off
  try simp only [LCg.Off3, and_true] at off
  obtain ⟨c, u, hc, rfl⟩ := hv
  obtain rfl : c = 69 := (Option.some.inj hc).symm
  k_steps
  all_goals try exact is_absurd (by assumption) (by assumption)
  all_goals (refine LCt.CompRestT.succ (k := 0) ?_; intro v2 I2 oI2 C2 oC2 D2 m₃ h₃ tk₃ E₃ hv2 hC2 hm2 F2 N2 off2 ne2)
  all_goals (have off02 := off2)
  all_goals (try simp only [LCg.Off3, and_true] at off2)
  all_goals (obtain ⟨c2, u2, hc2, rfl⟩ := hv2; obtain rfl : c2 = 68 := (Option.some.inj hc2).symm)
  all_goals k_steps
  all_goals try exact is_absurd (by assumption) (by assumption)
  all_goals (rename News _ _ _ _ => nn; rename Fr _ _ _ _ => ff)
  all_goals (have n1 := nn _ (.head _))
  all_goals first
    | exact hq0 (hl_C (by assumption) (by assumption) (by assumption)) _ _ _ _ ff.keep n1.1 n1.2.2
    | (obtain ⟨a, b, e0, e1, e2⟩ := hl_B (by assumption) (by assumption) (by assumption); simp only [e1, e2] at n1; exact hq a b e0 _ _ _ _ _ ff.keep n1.1 n1.2.2)
    | exact (hl_ED n1.1 (by assumption) (by assumption) (by assumption) (by assumption) (by assumption) (by assumption)).elim fun a z => z.elim fun b z => hq a b z.1 _ _ _ _ _ ff.keep z.2 n1.2.2
    | exact (hl_E n1.1 (by assumption) (by assumption) (by assumption) (by assumption)).elim fun a z => z.elim fun b z => hq a b z.1 _ _ _ _ _ ff.keep z.2 n1.2.2
    | exact (hl_D n1.1 (by assumption) (by assumption) (by assumption) (by assumption)).elim fun a z => z.elim fun b z => hq a b z.1 _ _ _ _ _ ff.keep z.2 n1.2.2

theorem law_halves_k {w : World} {mg mb : PySem.Str → Option Value} {mean : ExcName → Option Value} {pg : PySem.Program} {lse : List PySem.Str} {s : Shared} {A : Around} {Q E : Value → Shared → Prop} {h₀ : Heap} {L : Addr} {m : PySem.Str → Option Value} {news : List (Addr × Obj)} {x : List Nat} {t : Tok}
    (F : Fr h₀ L s.heap m) (N : News h₀ L s.heap news) (X : (hd.heap_1 w.params).In h₀) (T : Top pg lse mean mg mb h₀) (R : Rn A 4) (hx : x.length ≤ 40)
    (hq0 : Hs x x none → ∀ D t0 h' tk, Fr h₀ L h' m → News h₀ L h' ((D, tupO [.str (S x) t0, .none]) :: news) → Q (.ref D) { s with heap := h', toks := tk })
    (hq : ∀ a b, Hs x a (some b) → ∀ D t0 t1 h' tk, Fr h₀ L h' m → News h₀ L h' ((D, tupO [.str (S a) t0, .str (S b) t1]) :: news) → Q (.ref D) { s with heap := h', toks := tk }) :
    wpAny (model PySem.Challenge.rw_no0239_01.row.prog w) A (call (.ref 227) [.str (S x) t]) Q E s :=
  law_halves_b x t (X.keeps F.keep) (T.keeps F.keep) R hx (fun c D t0 h' tk x y z => hq0 c D t0 h' tk (F.keeps x) (news_cons F N x y z)) (fun a b c D t0 t1 h' tk x y z => hq a b c D t0 t1 h' tk (F.keeps x) (news_cons F N x y z))
end Mine
end
section
open PySem PySem.W PyProof.Rows PySem.Calls PySem.Builtin PySem.Builtin.Str
set_option Elab.async false
namespace Mine
theorem rulesJ3_0 : True := by
  w_top off
  k_with_none
  trivial
noncomputable def aheadF (l : List Nat) : List Nat := if 46 ∈ l then l.take (l.idxOf 46) else l
noncomputable def behF (l : List Nat) : List Nat := if 46 ∈ l then l.drop (l.idxOf 46 + 1) else []
noncomputable def pointF (l : List Nat) : List Nat := if 46 ∈ l then [46] else []
theorem part_S (l : List Nat) : Txt.partition (S l) (S [46]) = (S (aheadF l), S (pointF l), S (behF l)) := by
  unfold Txt.partition aheadF behF pointF
  rcases StrLaws.occ_head (S l) (S [46]) 1 (Nat.le_refl _) with ⟨h0, hn⟩ | ⟨i, r, h0, ha, hn⟩
  · rw [h0]
    have : 46 ∉ l := fun hm => by
      obtain ⟨i, hi, e⟩ := List.getElem_of_mem hm
      exact hn i ((at_one l 46 i).mpr (by rw [List.getElem?_eq_getElem hi, e]))
    rw [if_neg this, if_neg this, if_neg this]; rfl
  · rw [h0]
    have h1 := (at_one l 46 i).mp ha
    have hm := List.mem_of_getElem? h1
    have hi : l.idxOf 46 = i := idxOf_first h1 fun k hk z => hn k hk ((at_one l 46 k).mpr z)
    rw [if_pos hm, if_pos hm, if_pos hm, hi]
    have e1 : strSub (S l) 0 i = S (l.take i) := by
      rw [S_of (strSub (S l) 0 i), StrLaws.strSub_toList]; simp [S]
    have e2 : strSub (S l) (i + (S [46]).length) (S l).length = S (l.drop (i + 1)) := by
      rw [S_of (strSub (S l) _ _), StrLaws.strSub_toList, S_len, S_len]
      congr 1
      rw [List.take_of_length_le (by simp [S])]; simp [S]
    show (strSub (S l) 0 i, S [46], strSub (S l) (i + (S [46]).length) (S l).length) = _
    rw [e1, e2]
theorem fig_parts (l : List Nat) : aheadF l ++ behF l = figF l := by
  unfold aheadF behF figF; split <;> simp
theorem plc_t {l : List Nat} {d : Int} (h : (S (pointF l) == PySem.Str.ofString "") = true) : plcF l d = d := by
  have e := nilS h
  unfold pointF at e; unfold plcF
  split at e
  · cases e
  · rename_i hh; rw [if_neg hh]
theorem plc_f {l : List Nat} {d : Int} (h : (S (pointF l) == PySem.Str.ofString "") = false) : plcF l d = ((S (behF l)).length : Int) := by
  have e := nonilS h
  unfold pointF at e; unfold plcF behF
  split at e
  · rename_i hh
    rw [if_pos hh, if_pos hh, S_len, List.length_drop]
    have := List.idxOf_lt_length_iff.mpr hh
    omega
  · exact absurd rfl e
section
variable {prog : Program} {w : World} {A : Around} {E : Value → Shared → Prop} {s : Shared} {h₀ : Heap} {L : Addr} {m : PySem.Str → Option Value} {news : List (Addr × Obj)} {t u : Tok} {Q : Value → Shared → Prop}
theorem call_part {l : List Nat} (F : Fr h₀ L s.heap m) (N : News h₀ L s.heap news) (hl : l.length ≤ 200)
    (h : ∀ D ta tb tc h' k, Fr h₀ L h' m → News h₀ L h' ((D, tupO [.str (S (aheadF l)) ta, .str (S (pointF l)) tb, .str (S (behF l)) tc]) :: news) → (∀ a ∈ news, a.1 < D) → Q (.ref D) { s with heap := h', toks := k }) :
    wpAny (model prog w) A (call (.builtin "str.partition") [.str (S l) t, .str (PySem.Str.ofString ".") u]) Q E s := by
  have e := part_S l
  rw [← lit_dot] at e
  exact KXpa.partition F N (by decide +kernel) (by rw [e]) (by rw [e]) (by rw [e]) (by rw [S_len, sizeLine_eq]; omega) h
end
section
variable {z : Bool} {x a b : List Nat} {T : Option (List Nat)} {d sc : Int}
theorem real_ne (h : (S (bareF x) == PySem.Str.ofString "") = false) : solidF z x ≠ [] := fun e => nonilS h (solid_nil.mp e)
theorem real_e (h : (S (bareF x) == PySem.Str.ofString "") = true) : solidF z x = [] := solid_nil.mpr (nilS h)
theorem real_bad1 (h : Hs (bareF x) a T) (hn : figF (lawBody (replF (fillF z) a)) = [] ∨ (figF (lawBody (replF (fillF z) a))).all isDig = false) : rBad z x :=
  h.hv.ct.bad1 (wholeF_neg.mpr hn)
theorem real_bad2 (h : Hs (bareF x) a (some b)) (hn : lawWhole (replF (fillF z) b) = none) : rBad z x := by
  refine h.hv.ct.bad2 ?_
  rw [lawWhole_eq] at hn
  split at hn
  · assumption
  · cases hn
theorem real_good (h : Hs (bareF x) a T) {P : Int} (h1 : figF (lawBody (replF (fillF z) a)) ≠ []) (h2 : (figF (lawBody (replF (fillF z) a))).all isDig = true)
    (hP : T = none ∧ P = -sc ∨ ∃ b, T = some b ∧ ¬ lawWhole (replF (fillF z) b) = none ∧ P = (lawWhole (replF (fillF z) b)).getD 0) :
    ¬ rBad z x ∧ rSg z x * rNum z x = sgnM (Txt.slice (S (replF (fillF z) a)) none (some 1) == PySem.Str.ofString "-") (valN (figF (lawBody (replF (fillF z) a)))) ∧ rPow z x d sc = P - plcF (lawBody (replF (fillF z) a)) d := by
  have hw : 0 ≤ wholeF (figF (lawBody (replF (fillF z) a))) := by
    have := mt wholeF_neg.mp (show ¬ (_ ∨ _) from fun q => q.elim h1 (fun q => by rw [h2] at q; cases q))
    omega
  have key : ∀ t, T.map (replF (fillF z)) = some t → 0 ≤ wholeF (lawBody t) ∧ P = (signF t).1 * wholeF (lawBody t) := by
    intro t ht
    rcases hP with ⟨rfl, _⟩ | ⟨b, rfl, n1, e⟩
    · cases ht
    · cases ht
      rw [lawWhole_eq] at n1 e
      split at n1
      · exact absurd rfl n1
      · rename_i hh
        rw [if_neg hh] at e
        exact ⟨by omega, e⟩
  obtain ⟨g1, g2, g3, g4⟩ := h.hv.ct.good (d := d) (sc := sc) hw (fun t ht => (key t ht).1)
  refine ⟨g1, ?_, ?_⟩
  · rw [g2, g3, (wholeF_ok hw).2.2, slice_to _ _ (by decide), lit_minus, S_beq]
    exact sg_mul
  · rw [g4]
    congr 1
    rcases hP with ⟨rfl, e⟩ | ⟨b, rfl, _, _⟩
    · exact e.symm
    · exact (key _ rfl).2.symm
end
theorem lawBody_len (l : List Nat) : (lawBody l).length ≤ l.length := by unfold lawBody; split <;> simp
theorem figs_nil {l : List Nat} (h : (S (aheadF l) ++ S (behF l) == PySem.Str.ofString "") = true) : figF l = [] := by rw [S_app, fig_parts] at h; exact nilS h
theorem figs_ne {l : List Nat} (h : (S (aheadF l) ++ S (behF l) == PySem.Str.ofString "") = false) : figF l ≠ [] := by rw [S_app, fig_parts] at h; exact nonilS h
theorem figs_S (l : List Nat) : S (aheadF l) ++ S (behF l) = S (figF l) := by rw [S_app, fig_parts]
end Mine
end
section
open PySem PySem.W PyProof.Rows PySem.Calls
set_option Elab.async false
set_option maxRecDepth 100000
set_option maxHeartbeats 8000000
namespace Mine
theorem fillF25 {w : World} : PySem.Challenge.rw_no0239_01 = PySem.Challenge.rw_no0239_01 ∧ hd.heap_1 w.params = hd.heap_1 w.params := by k_fill; exact ⟨rfl, rfl⟩
theorem rulesF25_1 : True := by
  w_top off
  k_with_none
  k_with "my:pre" => first | assumption | lia
  trivial
theorem call_part2 {prog : PySem.Program} {w : World} {A : Around} {E : Value → Shared → Prop} {s : Shared} {Q : Value → Shared → Prop} {h₀ : Heap} {L : Addr} {m : PySem.Str → Option Value} {news : List (Addr × Obj)} {t u : Tok} {l : List Nat} (F : Fr h₀ L s.heap m) (N : News h₀ L s.heap news) (hl : l.length ≤ 40)
    (h : ∀ D ta tb tc h' k, Fr h₀ L h' m → News h₀ L h' ((D, tupO [.str (S (aheadF l)) ta, .str (S (pointF l)) tb, .str (S (behF l)) tc]) :: news) → (∀ a ∈ news, a.1 < D) → ((S (aheadF l)).length ≤ 40 ∧ (S (behF l)).length ≤ 40 ∧ (S (pointF l)).length ≤ 1 ∧ (figF l).length ≤ 40) → Q (.ref D) { s with heap := h', toks := k }) :
    wpAny (model prog w) A (call (.builtin "str.partition") [.str (S l) t, .str (PySem.Str.ofString ".") u]) Q E s :=
  call_part F N (by lia) fun D ta tb tc h' k F' N' lt => h D ta tb tc h' k F' N' lt (by
    have e := congrArg List.length (fig_parts l)
    have e2 := figF_len l
    rw [List.length_append] at e
    refine ⟨by rw [S_len]; lia, by rw [S_len]; lia, ?_, by lia⟩
    rw [S_len]; unfold pointF; split <;> simp)
theorem alld {l : List Nat} (h : (figF l).all isDig = true) : (figF l).all isDig = true := h
theorem tokN {a b : Tok} (h : @LT.lt Nat instLTNat a b) : a < b := h
theorem call_repl2 {prog : PySem.Program} {w : World} {A : Around} {E : Value → Shared → Prop} {s : Shared} {Q : Value → Shared → Prop} {l : List Nat} {z : Bool} {t u v : Tok} (hl : l.length < 200) (hv : 0 < v) (huv : v < u)
    (hq : ∀ t' k, (replF (fillF z) l).length ≤ l.length ∧ (S (replF (fillF z) l)).length < 200 → Q (.str (S (replF (fillF z) l)) t') { s with toks := k }) : wpAny (model prog w) A (call (.builtin "str.replace") [.str (S l) t, .str (PySem.Str.ofString " ") u, .str (S (fillF z)) v]) Q E s :=
  call_repl hl hv huv fun t' k => hq t' k ⟨replF_len (fillF_len z), by rw [S_len]; exact Nat.lt_of_le_of_lt (replF_len (fillF_len z)) hl⟩
noncomputable def HoldB (P : Prop) : Prop := P
theorem HoldB.mk {P : Prop} (h : HoldB P) : P := h
theorem cutB {M : Model} {A : Around} {env : Env} {E : Value → Shared → Prop} {s : Shared} {Q : Flow → Shared → Prop} {base : Heap} {L : Addr} {m : PySem.Str → Option Value} {news : List (Addr × Obj)} {st : Stmt} {rest : List Stmt} {b a : List Nat} {T : Option (List Nat)} (z : Bool) (_ : Hs b a T) (F : Fr base L s.heap m) (N : News base L s.heap news)
    (h : wpAny M A (exec st env) (NextP (PartE base L m (PySem.Str.ofString "body") (fun v _ => ∃ t : Tok, v = .str (S (lawBody (replF (fillF z) a))) t) (fun nn => nn = news) s)) E s)
    (k : ∀ h' tk t, s.toks ≤ tk → (lawBody (replF (fillF z) a)).length ≤ (replF (fillF z) a).length → Fr base L h' (fun y => if y = PySem.Str.ofString "body" then some (.str (S (lawBody (replF (fillF z) a))) t) else m y) → News base L h' news → wpAny M A (execs rest env) Q E { s with heap := h', toks := tk }) : wpAny M A (execs (st :: rest) env) Q E s :=
  cut1N (PySem.Str.ofString "body") _ F N h fun h' tk v le hv F' N' => by
    obtain ⟨t, rfl⟩ := hv
    exact k h' tk t le (lawBody_len _) F' N'
theorem body_val {l : List Nat} {v : Value} (h : (l.take 1 == [43] || l.take 1 == [45]) = true ∧ (∃ t, v = .str (Txt.slice (S l) (some 1) none) t) ∨ (l.take 1 == [43] || l.take 1 == [45]) = false ∧ (∃ t, v = .str (S l) t)) : ∃ t : Tok, v = .str (S (lawBody l)) t := by
  rcases h with ⟨h, t, e⟩ | ⟨h, t, e⟩
  · exact ⟨t, by rw [e, lw_body1 h, slice1]⟩
  · exact ⟨t, by rw [e, lw_body0 h]⟩
theorem rulesF25_2 : True := by
  k_with "call ref" => (k_here; refine' law_bare_k ?w1qF ?w1qN ?w1qX ?w1qT ?w1qR ?w1qhx ?_; (case w1qF => k_asm); (case w1qN => k_asm); (case w1qX => k_asm); (case w1qT => k_asm); (case w1qR => first | assumption | exact Rn.deeper (by assumption) (by decide) | exact Rn.le (by assumption) (by decide)); (case w1qhx => walk_at "my:pre"); intro _ _ _ _ _; (try dsimp only))
  k_with "call ref" => (k_here; refine' law_whole_k ?w2qF ?w2qN ?w2qX ?w2qT ?w2qR ?w2qhx ?_ ?_; (case w2qF => k_asm); (case w2qN => k_asm); (case w2qX => k_asm); (case w2qT => k_asm); (case w2qR => first | assumption | exact Rn.deeper (by assumption) (by decide) | exact Rn.le (by assumption) (by decide)); (case w2qhx => walk_at "my:pre"); all_goals (first | (intro _ _ _ _ _ _) | (intro _ _ _ _ _)); all_goals (try dsimp only))
  k_with "call ref" => (k_here; (with_reducible show wpAny _ _ (call (.ref 227) _) _ _ _); refine' law_halves_k ?w3qF ?w3qN ?w3qX ?w3qT ?w3qR ?w3qhx ?_ ?_; (case w3qF => k_asm); (case w3qN => k_asm); (case w3qX => k_asm); (case w3qT => k_asm); (case w3qR => first | assumption | exact Rn.deeper (by assumption) (by decide) | exact Rn.le (by assumption) (by decide)); (case w3qhx => lia); all_goals (first | (intro _ _ c' D' t0' t1' h' tk' F' N'; (obtain ⟨l1', l2'⟩ := Hs.lenA c'); revert c' D' t0' t1' h' tk' F' N' l1' l2'; intro _ _ _ _ _ _ _ _ _ _) | (intro _ _ _ _ _ _ _)); all_goals (try dsimp only))
  k_with "call ref" => (k_here; (with_reducible show wpAny _ _ (call (.ref 234) _) _ _ _); rw [figs_S]; refine' law_rounded_k ?w4qF ?w4qN ?w4qX ?w4qT ?w4qR ?w4qhx ?w4qhdd ?w4qhdg ?_ ?_; (case w4qF => k_asm); (case w4qN => k_asm); (case w4qX => k_asm); (case w4qT => k_asm); (case w4qR => first | assumption | exact Rn.deeper (by assumption) (by decide) | exact Rn.le (by assumption) (by decide)); (case w4qhx => walk_at "my:pre"); (case w4qhdd => first | assumption | (simpa using ‹(!List.all _ _) = false›)); (case w4qhdg => walk_at "my:pre"); all_goals (first | (intro _ _ _ _ _ _ _ _ _ _) | (intro _ _ _ _ _ _ _ _)); all_goals (try dsimp only))
  k_with "NextP" => (refine NextP.mk ?_)
  k_with "PartE" => (refine HoldB.mk ?_)
  k_with "execs cons" => (k_here; (with_reducible show wpAny _ _ (execs (Stmt.Assign [Expr.Name (PySem.Str.ofString "body") _] _ _ :: _) _) _ _ _); refine HoldB.mk ?_)
  k_with "exec Assign" => (k_here; (fail_if_success (with_reducible show wpAny _ _ _ (TokW _ _) _ _)); refine wpAny_tokW ?_; (try dsimp only))
  k_with "exec If" => (k_here; (fail_if_success (with_reducible show wpAny _ _ _ (TokW _ _) _ _)); refine wpAny_tokW ?_; (try dsimp only))
  k_with "TokW" => (refine TokW.gen ?_; intro _ htk'; (try dsimp only at htk'); (try dsimp only); revert htk'; intro _)
  k_with "call builtin:str.replace" => (k_here; refine' call_repl2 ?w5ql ?w5qv ?w5qu ?_; (case w5ql => lia); (case w5qv => assumption); (case w5qu => first | assumption | (refine tokN ?_; lia)); intro _ _ l'; (obtain ⟨l1', l2'⟩ := l'); revert l1' l2'; intro _ _)
  k_with "call builtin:str.partition" => (k_here; (try rw [slice1]); refine' call_part2 ?w6qF ?w6qN ?w6ql ?_; (case w6qF => k_asm); (case w6qN => k_asm); (case w6ql => first | lia | (simp; lia)); intro _ _ _ _ _ _ _ _ l1 l2'; (obtain ⟨l3', l4', l5', l6'⟩ := l2'); (try k_lt l1); revert l1 l3' l4' l5' l6'; intro _ _ _ _ _)
  k_with "compareOp NotEq ref ref" => (k_here; k_dflt (refine' ne_dig ?w7qndX ?w7qndl ?w7qndy ?w7qndb ?w7qndu ?_; (case w7qndy => assumption); (case w7qndX => exact figs_S _); (case w7qndl => is_list); (case w7qndb => is_list); (case w7qndu => first | exact Rn.units (by assumption) (by decide) | exact Rn.units0 (by assumption))))
  trivial
theorem law_real_b {w : World} {mg mb : PySem.Str → Option Value} {mean : ExcName → Option Value} {pg : PySem.Program} {lse : List PySem.Str} {s : Shared} {A : Around} {Q E : Value → Shared → Prop} (x_sheet : List Nat) (t_sheet : Tok) (x_d : Int) (t_d : Tok) (x_scale : Int) (t_scale : Tok) (x_fill : Bool) (t_fill : Tok) (x_digits : Int) (t_digits : Tok) (x_top : Int) (t_top : Tok)
    (X : (hd.heap_1 w.params).In s.heap) (T : Top pg lse mean mg mb s.heap) (R : Rn A 6) (hx : x_sheet.length ≤ 40) (hv : 0 < t_fill) (hu : t_fill < s.toks) (hdg : 1 ≤ x_digits ∧ x_digits ≤ 9)
    (hqB : (solidF x_fill x_sheet ≠ [] ∧ rBad x_fill x_sheet) → ∀ D t0 t1 h' tk, Ext s.heap h' → h'.get? D = some (tupO [.str (PySem.Str.ofString "fault") t0, .int (1) t1]) → s.heap.get? D = none → Q (.ref D) { s with heap := h', toks := tk })
    (hqF : (solidF x_fill x_sheet ≠ [] ∧ ¬ rBad x_fill x_sheet ∧ ¬ ((finI (rSg x_fill x_sheet * rNum x_fill x_sheet) (rPow x_fill x_sheet x_d x_scale) x_digits).1 = 0 ∨ leadI (rSg x_fill x_sheet * rNum x_fill x_sheet) (rPow x_fill x_sheet x_d x_scale) x_digits < -x_top) ∧ leadI (rSg x_fill x_sheet * rNum x_fill x_sheet) (rPow x_fill x_sheet x_d x_scale) x_digits > x_top) → ∀ D t0 t1 h' tk, Ext s.heap h' → h'.get? D = some (tupO [.str (PySem.Str.ofString "fault") t0, .int (2) t1]) → s.heap.get? D = none → Q (.ref D) { s with heap := h', toks := tk })
    (hq : (solidF x_fill x_sheet = [] ∨ solidF x_fill x_sheet ≠ [] ∧ ¬ rBad x_fill x_sheet ∧ (((finI (rSg x_fill x_sheet * rNum x_fill x_sheet) (rPow x_fill x_sheet x_d x_scale) x_digits).1 = 0 ∨ leadI (rSg x_fill x_sheet * rNum x_fill x_sheet) (rPow x_fill x_sheet x_d x_scale) x_digits < -x_top) ∨ ¬ leadI (rSg x_fill x_sheet * rNum x_fill x_sheet) (rPow x_fill x_sheet x_d x_scale) x_digits > x_top)) → ∀ D D2 t t0 t1 h' tk, Ext s.heap h' → h'.get? D = some (tupO [.str (PySem.Str.ofString "ok") t, .ref D2]) → h'.get? D2 = some (tupO [.int ((if solidF x_fill x_sheet = [] then (0, 0) else if (finI (rSg x_fill x_sheet * rNum x_fill x_sheet) (rPow x_fill x_sheet x_d x_scale) x_digits).1 = 0 ∨ leadI (rSg x_fill x_sheet * rNum x_fill x_sheet) (rPow x_fill x_sheet x_d x_scale) x_digits < -x_top then (0, 0) else finI (rSg x_fill x_sheet * rNum x_fill x_sheet) (rPow x_fill x_sheet x_d x_scale) x_digits).1) t0, .int ((if solidF x_fill x_sheet = [] then (0, 0) else if (finI (rSg x_fill x_sheet * rNum x_fill x_sheet) (rPow x_fill x_sheet x_d x_scale) x_digits).1 = 0 ∨ leadI (rSg x_fill x_sheet * rNum x_fill x_sheet) (rPow x_fill x_sheet x_d x_scale) x_digits < -x_top then (0, 0) else finI (rSg x_fill x_sheet * rNum x_fill x_sheet) (rPow x_fill x_sheet x_d x_scale) x_digits).2) t1]) → s.heap.get? D = none → s.heap.get? D2 = none → Q (.ref D) { s with heap := h', toks := tk }) :
    wpAny (model PySem.Challenge.rw_no0239_01.row.prog w) A (call (.ref 239) [.str (S x_sheet) t_sheet, .int x_d t_d, .int x_scale t_scale, .str (S (fillF x_fill)) t_fill, .int x_digits t_digits, .int x_top t_top]) Q E s := by
  obtain ⟨ah, ad, af, ag, au⟩ := A
  obtain rfl : ah = none := R.h
  refine wpAny_call ?_
  refine call_q [("sheet", .str (S x_sheet) t_sheet), ("d", .int x_d t_d), ("scale", .int x_scale t_scale), ("fill", .str (S (fillF x_fill)) t_fill), ("digits", .int x_digits t_digits), ("top", .int x_top t_top)] (by have := R.d; lia) (X 239 _ (by k_is)) rfl T.nolimit (codeRec_of X (by k_is)) rfl (locs rfl) ?_ rfl rfl rfl (by decide)
  intro h₁ F
  have N : News s.heap s.heap.objs.size h₁ [] := News.nil
  have hxS : (S x_sheet).length ≤ 40 := by rw [S_len]; exact hx
  have hu2 : @LT.lt Nat instLTNat t_fill s.toks := hu
  have lb := bareF_len x_sheet
  have lr := replF_len (l := bareF x_sheet) (fillF_len x_fill)
  k_steps
  all_goals first
    | (fail_if_success unfold HoldB)
    | (unfold HoldB
       rename Fr _ _ _ _ => F1
       rename News _ _ _ _ => N1
       refine cutB x_fill (by with_reducible assumption) F1 N1 ?_ ?_
       · k_steps
         all_goals unfold HoldB
         all_goals (have ea := any_sg (by with_reducible assumption))
         all_goals first
           | exact PartE.intro (by assumption) (by assumption) (body_val (.inl ⟨by with_reducible assumption, _, rfl⟩)) _ rfl (by k_subL)
           | exact PartE.intro (by assumption) (by assumption) (body_val (.inr ⟨by with_reducible assumption, _, rfl⟩)) _ rfl (by k_subL)
       intro h5 tk5 t5 le5 lb5 F5 N5
       clear F1 N1
       dsimp only at le5
       dsimp only
       k_steps)
  all_goals (rename News _ _ _ _ => nn; rename Fr _ _ _ _ => ff)
  all_goals (have n1 := nn _ (.head _))
  all_goals first
    | (have e := real_e (z := x_fill) (x := x_sheet) (by with_reducible assumption); have n2 := nn _ (.tail _ (.head _)); rw [if_pos e] at hq; exact hq (.inl e) _ _ _ _ _ _ _ ff.keep n1.1 n2.1 n1.2.2 n2.2.2)
    | ((have ne := real_ne (z := x_fill) (x := x_sheet) (by with_reducible assumption));
       first
       | exact hqB ⟨ne, real_bad2 (by with_reducible assumption) (by with_reducible assumption)⟩ _ _ _ _ _ ff.keep n1.1 n1.2.2
       | exact hqB ⟨ne, real_bad1 (by with_reducible assumption) (.inl (figs_nil (by with_reducible assumption)))⟩ _ _ _ _ _ ff.keep n1.1 n1.2.2
       | exact hqB ⟨ne, real_bad1 (by with_reducible assumption) (.inr (by with_reducible assumption))⟩ _ _ _ _ _ ff.keep n1.1 n1.2.2
       | ((have f1 := figs_ne (by with_reducible assumption)); (have f2 := alld (by with_reducible assumption));
          (first
           | (have g := real_good (z := x_fill) (x := x_sheet) (d := x_d) (sc := x_scale) (T := none) (by with_reducible assumption) f1 f2 (.inl ⟨rfl, rfl⟩))
           | (have g := real_good (z := x_fill) (x := x_sheet) (d := x_d) (sc := x_scale) (by with_reducible assumption) f1 f2 (.inr ⟨_, rfl, by with_reducible assumption, rfl⟩)));
          (obtain ⟨g1, g2, g3⟩ := g);
          (first | (rw [plc_t (by with_reducible assumption)] at g3) | (rw [plc_f (by with_reducible assumption)] at g3));
          (rw [g2, g3] at hqF hq);
          (rw [if_neg ne] at hq);
          first
          | exact hqF ⟨ne, g1, by with_reducible assumption⟩ _ _ _ _ _ ff.keep n1.1 n1.2.2
          | (have n2 := nn _ (.tail _ (.head _)); exact hq (.inr ⟨ne, g1, by with_reducible assumption⟩) _ _ _ _ _ _ _ ff.keep n1.1 n2.1 n1.2.2 n2.2.2)))

theorem law_real_k {w : World} {mg mb : PySem.Str → Option Value} {mean : ExcName → Option Value} {pg : PySem.Program} {lse : List PySem.Str} {s : Shared} {A : Around} {Q E : Value → Shared → Prop} {h₀ : Heap} {L : Addr} {m : PySem.Str → Option Value} {news : List (Addr × Obj)} {x_sheet : List Nat} {t_sheet : Tok} {x_d : Int} {t_d : Tok} {x_scale : Int} {t_scale : Tok} {x_fill : Bool} {t_fill : Tok} {x_digits : Int} {t_digits : Tok} {x_top : Int} {t_top : Tok}
    (F : Fr h₀ L s.heap m) (N : News h₀ L s.heap news) (X : (hd.heap_1 w.params).In h₀) (T : Top pg lse mean mg mb h₀) (R : Rn A 6) (hx : x_sheet.length ≤ 40) (hv : 0 < t_fill) (hu : t_fill < s.toks) (hdg : 1 ≤ x_digits ∧ x_digits ≤ 9)
    (hqB : (solidF x_fill x_sheet ≠ [] ∧ rBad x_fill x_sheet) → ∀ D t0 t1 h' tk, Fr h₀ L h' m → News h₀ L h' ((D, tupO [.str (PySem.Str.ofString "fault") t0, .int (1) t1]) :: news) → Q (.ref D) { s with heap := h', toks := tk })
    (hqF : (solidF x_fill x_sheet ≠ [] ∧ ¬ rBad x_fill x_sheet ∧ ¬ ((finI (rSg x_fill x_sheet * rNum x_fill x_sheet) (rPow x_fill x_sheet x_d x_scale) x_digits).1 = 0 ∨ leadI (rSg x_fill x_sheet * rNum x_fill x_sheet) (rPow x_fill x_sheet x_d x_scale) x_digits < -x_top) ∧ leadI (rSg x_fill x_sheet * rNum x_fill x_sheet) (rPow x_fill x_sheet x_d x_scale) x_digits > x_top) → ∀ D t0 t1 h' tk, Fr h₀ L h' m → News h₀ L h' ((D, tupO [.str (PySem.Str.ofString "fault") t0, .int (2) t1]) :: news) → Q (.ref D) { s with heap := h', toks := tk })
    (hq : (solidF x_fill x_sheet = [] ∨ solidF x_fill x_sheet ≠ [] ∧ ¬ rBad x_fill x_sheet ∧ (((finI (rSg x_fill x_sheet * rNum x_fill x_sheet) (rPow x_fill x_sheet x_d x_scale) x_digits).1 = 0 ∨ leadI (rSg x_fill x_sheet * rNum x_fill x_sheet) (rPow x_fill x_sheet x_d x_scale) x_digits < -x_top) ∨ ¬ leadI (rSg x_fill x_sheet * rNum x_fill x_sheet) (rPow x_fill x_sheet x_d x_scale) x_digits > x_top)) → ∀ D D2 t t0 t1 h' tk, Fr h₀ L h' m → News h₀ L h' ((D, tupO [.str (PySem.Str.ofString "ok") t, .ref D2]) :: (D2, tupO [.int ((if solidF x_fill x_sheet = [] then (0, 0) else if (finI (rSg x_fill x_sheet * rNum x_fill x_sheet) (rPow x_fill x_sheet x_d x_scale) x_digits).1 = 0 ∨ leadI (rSg x_fill x_sheet * rNum x_fill x_sheet) (rPow x_fill x_sheet x_d x_scale) x_digits < -x_top then (0, 0) else finI (rSg x_fill x_sheet * rNum x_fill x_sheet) (rPow x_fill x_sheet x_d x_scale) x_digits).1) t0, .int ((if solidF x_fill x_sheet = [] then (0, 0) else if (finI (rSg x_fill x_sheet * rNum x_fill x_sheet) (rPow x_fill x_sheet x_d x_scale) x_digits).1 = 0 ∨ leadI (rSg x_fill x_sheet * rNum x_fill x_sheet) (rPow x_fill x_sheet x_d x_scale) x_digits < -x_top then (0, 0) else finI (rSg x_fill x_sheet * rNum x_fill x_sheet) (rPow x_fill x_sheet x_d x_scale) x_digits).2) t1]) :: news) → Q (.ref D) { s with heap := h', toks := tk }) :
    wpAny (model PySem.Challenge.rw_no0239_01.row.prog w) A (call (.ref 239) [.str (S x_sheet) t_sheet, .int x_d t_d, .int x_scale t_scale, .str (S (fillF x_fill)) t_fill, .int x_digits t_digits, .int x_top t_top]) Q E s :=
  law_real_b _ _ _ _ _ _ _ _ _ _ _ _ (X.keeps F.keep) (T.keeps F.keep) R hx hv hu hdg (fun c D t0' t1' h' tk x y z => hqB c D t0' t1' h' tk (F.keeps x) (news_cons F N x y z)) (fun c D t0' t1' h' tk x y z => hqF c D t0' t1' h' tk (F.keeps x) (news_cons F N x y z)) (fun c D D2 t t0 t1 h' tk x y y2 z z2 => hq c D D2 t t0 t1 h' tk (F.keeps x) (news_cons2 F N x y y2 z z2)) 

end Mine
end
section
open PySem PySem.W PyProof.Rows PySem.Calls
set_option Elab.async false
set_option maxRecDepth 100000
set_option maxHeartbeats 8000000
namespace Mine
theorem rulesF27_0 : True := by
  w_top off
  k_with_none
  trivial
theorem fillF27 {w : World} : PySem.Challenge.rw_no0239_01 = PySem.Challenge.rw_no0239_01 ∧ hd.heap_1 w.params = hd.heap_1 w.params := by k_fill; exact ⟨rfl, rfl⟩
theorem law_pen_b {w : World} {mg mb : PySem.Str → Option Value} {mean : ExcName → Option Value} {pg : PySem.Program} {lse : List PySem.Str} {s : Shared} {A : Around} {Q E : Value → Shared → Prop} (a : Addr) (vs : List Value) (ns : List Int)
    (X : (hd.heap_1 w.params).In s.heap) (T : Top pg lse mean mg mb s.heap) (R : Rn A 1) (hl : s.heap.IsList a vs.toArray) (hi : IntsAre vs ns) (hn : ¬ (63 : Int) < (ns.length : Int))
    (hq : ∀ p a ta b tb n h' tk, 0 ≤ a → 0 ≤ b → Ext s.heap h' → h'.get? p = some (penO a ta b tb n) → s.heap.get? p = none → Q (.ref p) { s with heap := h', toks := tk }) :
    wpAny (model PySem.Challenge.rw_no0239_01.row.prog w) A (call (.ref 179) [.ref a]) Q E s := by
  obtain ⟨ah, ad, af, ag, au⟩ := A
  obtain rfl : ah = none := R.h
  refine wpAny_call ?_
  refine call_q [("script", .ref a)] (by have := R.d; omega) (X 179 _ (by k_is)) rfl T.nolimit (codeRec_of X (by k_is)) rfl (locs rfl) ?_ rfl rfl rfl (by decide)
  intro h₁ F
  have N : News s.heap s.heap.objs.size h₁ [] := News.nil
  (k_with "pyIter ref" => k_state (fun (pre : List Int) (number : Int) => 0 ≤ number) "number")
  k_steps
  rename News _ _ _ _ => nn; rename Fr _ _ _ _ => ff
  have n1 := nn _ (.head _)
  exact hq _ _ _ 0 _ _ _ _ (by assumption) (by decide) ff.keep n1.1 n1.2.2

theorem law_pen_k {w : World} {mg mb : PySem.Str → Option Value} {mean : ExcName → Option Value} {pg : PySem.Program} {lse : List PySem.Str} {s : Shared} {A : Around} {Q E : Value → Shared → Prop} {h₀ : Heap} {L : Addr} {m : PySem.Str → Option Value} {news : List (Addr × Obj)} {a : Addr} {vs : List Value} {ns : List Int}
    (F : Fr h₀ L s.heap m) (N : News h₀ L s.heap news) (X : (hd.heap_1 w.params).In h₀) (T : Top pg lse mean mg mb h₀) (R : Rn A 1) (hl : h₀.IsList a vs.toArray) (hi : IntsAre vs ns) (hn : ¬ (63 : Int) < (ns.length : Int))
    (hq : ∀ p a ta b tb n h' tk, 0 ≤ a → 0 ≤ b → (∀ q ∈ news, q.1 ≠ p) → Fr h₀ L h' m → News h₀ L h' ((p, penO a ta b tb n) :: news) → Q (.ref p) { s with heap := h', toks := tk }) :
    wpAny (model PySem.Challenge.rw_no0239_01.row.prog w) A (call (.ref 179) [.ref a]) Q E s :=
  law_pen_b a vs ns (X.keeps F.keep) (T.keeps F.keep) R (by obtain ⟨o, e, r⟩ := hl; exact ⟨o, F.keep _ _ e, r⟩) hi hn fun p a ta b tb n h' tk a1 b1 x y z => hq p a ta b tb n h' tk a1 b1 (fun q hq e => by have := (N q hq).1; rw [e, z] at this; cases this) (F.keeps x) (news_cons F N x y z)
end Mine
end
section
open PySem PySem.W PyProof.Rows PySem.Calls
set_option Elab.async false
set_option maxRecDepth 100000
set_option maxHeartbeats 8000000
namespace Mine
theorem rulesLa_0 : True := by
  w_top off
  k_with_none
  trivial
theorem call_lam {prog : Program} {w : World} {A : Around} {R : Result → Shared → Prop} {s : Shared} {name qual : PySem.Str} {params : Arguments} {body : Expr} {scope : Scope} {cl : List (PySem.Str × Addr)} {pm ctv : Value} {c' f : Addr}
    (hroom : A.depth < recursionLimit) (ho : s.heap.get? f = some (kla_obj name qual params body scope cl pm c' ctv)) (hlim : s.heap.NoLimit) (hcd : s.heap.CodeRec (.ref c') qual)
    (hbind : bindArgs (kla_fn name qual params body scope cl pm (.ref c') ctv) ⟨[], []⟩ = pure [])
    (h : ∀ h₁, Fr s.heap s.heap.objs.size h₁ (fun y => ([] : List (PySem.Str × Value)).reverse.lookup y) →
      wpAny (model prog w) (A.deeper (envX qual scope s.heap.objs.size f (.ref c') cl)) (eval body (envX qual scope s.heap.objs.size f (.ref c') cl))
        (fun v s' => R (.ok (.ret v)) s')
        (fun e s' => wpAny (model prog w) (A.deeper (envX qual scope s.heap.objs.size f (.ref c') cl)) (leaving (envX qual scope s.heap.objs.size f (.ref c') cl) e) (fun _ s'' => R (.error e) s'') (fun e' s'' => R (.error e') s'') s')
        { s with heap := h₁, toks := s.toks + ([] : List (PySem.Str × Value)).length })
    (hco : scope.isCoroutine = false) (hgen : scope.isGenerator = false) (hk : scope.kind = .function) (hcell : ∀ x ∈ scope.names, x.2 ≠ .cell) :
    codeAny (model prog w) A (.call (.ref f) ⟨[], []⟩) R s := by
  refine kla_callFunE hroom ho rfl hco hgen rfl hcd ?_
  rw [hbind]
  refine wpAny_pure (wpAny_newFunctionEnv hcell (fun y hy => nomatch hy) (fun h₁ hns hsb => ⟨hlim.fresh _ hsb, ?_⟩) hk)
  show codeAny _ _ (.expr body (envX qual scope s.heap.objs.size f (.ref c') cl)) _ _
  have hk₁ : ∀ b o, s.heap.get? b = some o → h₁.get? b = some o := fun b o e => hsb.extBut b o (Nat.ne_of_lt (Heap.lt_size e)) (Heap.get?_push_of_some _ e)
  exact kla_codeExpr (h h₁ ⟨hns, hk₁, Nat.le_refl _⟩)
theorem lam_frame {base h s' h₁ : Heap} {L L' : Addr} {m m' : PySem.Str → Option Value} {news cells : List (Addr × Obj)} (F : Fr base L h m) (N : News base L h news) (sub : SubL cells news) (x : Ext h s') (F1 : Fr s' L' h₁ m') (hl : L' = s'.objs.size) :
    Fr (hideAll s' (cells.map (·.1))) L' h₁ m' ∧ News (hideAll s' (cells.map (·.1))) L' h₁ cells ∧ Ext base (hideAll s' (cells.map (·.1))) := by
  subst hl
  refine ⟨⟨F1.ns, fun b o e => F1.keep b o (of_hideAll _ e), Nat.le_of_eq (hideAll_size _ _)⟩, fun p hp => ?_, fun b o e => ?_⟩
  · have n := (N p (sub.mem p hp)).1
    exact ⟨F1.keep _ _ (x _ _ n), Nat.ne_of_lt (Heap.lt_size (x _ _ n)), hideAll_none _ (List.mem_map_of_mem hp)⟩
  · refine hideAll_get _ (x _ _ (F.keep b o e)) fun hm => ?_
    obtain ⟨p, hp, rfl⟩ := List.mem_map.mp hm
    rw [(N p (sub.mem p hp)).2.2] at e; cases e
end Mine
end
section
open PySem PySem.W PyProof.Rows PySem.Calls PySem.SeqAt
set_option Elab.async false
set_option maxRecDepth 100000
set_option maxHeartbeats 8000000
namespace Mine
theorem rulesOr_0 : True := by
  w_top off
  k_with_none
  trivial
section
variable (z : Bool) (x : List Nat) (d sc dg tp : Int)
noncomputable abbrev fin2 : Int × Int := finI (rSg z x * rNum z x) (rPow z x d sc) dg
noncomputable abbrev lead2 : Int := leadI (rSg z x * rNum z x) (rPow z x d sc) dg
abbrev C0 : Prop := (fin2 z x d sc dg).1 = 0 ∨ lead2 z x d sc dg < -tp
noncomputable abbrev realV : Int × Int := if solidF z x = [] then (0, 0) else if C0 z x d sc dg tp then (0, 0) else fin2 z x d sc dg
noncomputable def outR : Nat := if solidF z x = [] then 0 else if rBad z x then 1 else if C0 z x d sc dg tp then 0 else if lead2 z x d sc dg > tp then 2 else 0
noncomputable def TR (v : Value) (own : List (Addr × Obj)) : Prop := outR z x d sc dg tp = 0 ∧ (v = .ref 66 ∧ own = [] ∧ realV z x d sc dg tp = (0, 0) ∨ ∃ D t0 t1, v = .ref D ∧ own = [(D, tupO [.int (realV z x d sc dg tp).1 t0, .int (realV z x d sc dg tp).2 t1])])
noncomputable def TfR (c : Int) : Prop := c = 1 ∧ outR z x d sc dg tp = 1 ∨ c = 2 ∧ outR z x d sc dg tp = 2
end
section
variable {z : Bool} {x : List Nat} {d sc dg tp : Int}
theorem out_B (h : solidF z x ≠ [] ∧ rBad z x) : outR z x d sc dg tp = 1 := by unfold outR; rw [if_neg h.1, if_pos h.2]
theorem out_F (h : solidF z x ≠ [] ∧ ¬ rBad z x ∧ ¬ C0 z x d sc dg tp ∧ lead2 z x d sc dg > tp) : outR z x d sc dg tp = 2 := by unfold outR; rw [if_neg h.1, if_neg h.2.1, if_neg h.2.2.1, if_pos h.2.2.2]
theorem out_O (h : solidF z x = [] ∨ solidF z x ≠ [] ∧ ¬ rBad z x ∧ (C0 z x d sc dg tp ∨ ¬ lead2 z x d sc dg > tp)) : outR z x d sc dg tp = 0 := by
  unfold outR
  rcases h with h | ⟨h1, h2, h3⟩
  · rw [if_pos h]
  · rw [if_neg h1, if_neg h2]
    by_cases c : C0 z x d sc dg tp
    · rw [if_pos c]
    · rw [if_neg c, if_neg (h3.resolve_left c)]
theorem TR_0 (h : solidF z x ≠ [] ∧ ¬ rBad z x ∧ C0 z x d sc dg tp) : TR z x d sc dg tp (.ref 66) [] :=
  ⟨out_O (.inr ⟨h.1, h.2.1, .inl h.2.2⟩), .inl ⟨rfl, rfl, by unfold realV; rw [if_neg h.1, if_pos h.2.2]⟩⟩
theorem TR_1 {D : Addr} {t0 t1 : Tok} (h : solidF z x = [] ∨ (solidF z x ≠ [] ∧ ¬ rBad z x ∧ ¬ C0 z x d sc dg tp ∧ ¬ lead2 z x d sc dg > tp)) :
    TR z x d sc dg tp (.ref D) [(D, tupO [.int (if solidF z x = [] then (0, 0) else fin2 z x d sc dg).1 t0, .int (if solidF z x = [] then (0, 0) else fin2 z x d sc dg).2 t1])] := by
  have e : (if solidF z x = [] then ((0 : Int), (0 : Int)) else fin2 z x d sc dg) = realV z x d sc dg tp := by
    unfold realV
    rcases h with h | ⟨h1, _, h3, _⟩
    · rw [if_pos h, if_pos h]
    · rw [if_neg h1, if_neg h1, if_neg h3]
  rw [e]
  exact ⟨out_O (h.imp id fun ⟨a, b, _, e⟩ => ⟨a, b, .inr e⟩), .inr ⟨D, t0, t1, rfl, rfl⟩⟩
theorem TfR_1 (h : solidF z x ≠ [] ∧ rBad z x) : TfR z x d sc dg tp 1 := .inl ⟨rfl, out_B h⟩
theorem TfR_2 (h : solidF z x ≠ [] ∧ ¬ rBad z x ∧ ¬ C0 z x d sc dg tp ∧ lead2 z x d sc dg > tp) : TfR z x d sc dg tp 2 := .inr ⟨rfl, out_F h⟩
end
section
variable {prog : PySem.Program} {w : World} {A : Around} {E : Value → Shared → Prop} {s : Shared} {Q : Value → Shared → Prop}
theorem ok_ok : PyData.strOk (PySem.Str.ofString "ok") = true := by decide +kernel
theorem ok_fault : PyData.strOk (PySem.Str.ofString "fault") = true := by decide +kernel
theorem ne_same {dt : PyData} {D D' : Addr} {as bs : List Addr} (ra : Reads s.heap (.ref D) dt as) (rb : Reads s.heap (.ref D') dt bs) (hs : shaped dt = true) (he : PyData.eqv dt dt = true) (hu : A.units + 64 < cLine) (h : Q (.bool false) s) :
    wpAny (model prog w) A (compareOp .NotEq (.ref D) (.ref D')) Q E s := ne_dataH ra rb hs hs hu (by rw [he]; exact h)
theorem reads_pair {h : Heap} {D : Addr} {u v : Value} {du dv : PyData} {as bs : List Addr} (e : h.get? D = some (tupO [u, v])) (ru : Reads h u du as) (rv : Reads h v dv bs) : Reads h (.ref D) (.tuple [du, dv]) (as ++ (bs ++ [])) :=
  reads_tuple_at e rfl rfl (.cons ru (.cons rv .nil))
/-- two told pairs of the same tag: a real -/
theorem ne_real {x : PySem.Str} {a b : Int} {t t' : Tok} {v v' : Value} {D D' : Addr} {as bs : List Addr} (e : s.heap.get? D = some (tupO [.str x t, v])) (e' : s.heap.get? D' = some (tupO [.str x t', v'])) (rv : Reads s.heap v (.tuple [.int a, .int b]) as) (rv' : Reads s.heap v' (.tuple [.int a, .int b]) bs)
    (hx : PyData.strOk x = true) (hu : A.units + 64 < cLine) (h : Q (.bool false) s) : wpAny (model prog w) A (compareOp .NotEq (.ref D) (.ref D')) Q E s :=
  ne_same (reads_pair e (.str _ _) rv) (reads_pair e' (.str _ _) rv') (by simp [shaped, PyData.canLay0, PyData.canLayAll0, PyData.depth, PyData.depthAll, hx]) (by simp [PyData.eqv, PyData.eqvAll]) hu h
theorem ne_int {x : PySem.Str} {a : Int} {t t' u u' : Tok} {D D' : Addr} (e : s.heap.get? D = some (tupO [.str x t, .int a u])) (e' : s.heap.get? D' = some (tupO [.str x t', .int a u'])) 
    (hx : PyData.strOk x = true) (hu : A.units + 64 < cLine) (h : Q (.bool false) s) : wpAny (model prog w) A (compareOp .NotEq (.ref D) (.ref D')) Q E s :=
  ne_same (reads_pair e (.str _ _) (.int _ _)) (reads_pair e' (.str _ _) (.int _ _)) (by simp [shaped, PyData.canLay0, PyData.canLayAll0, PyData.depth, PyData.depthAll, hx]) (by simp [PyData.eqv, PyData.eqvAll]) hu h
theorem ne_bool {x : PySem.Str} {a : Bool} {t t' : Tok} {D D' : Addr} (e : s.heap.get? D = some (tupO [.str x t, .bool a])) (e' : s.heap.get? D' = some (tupO [.str x t', .bool a])) 
    (hx : PyData.strOk x = true) (hu : A.units + 64 < cLine) (h : Q (.bool false) s) : wpAny (model prog w) A (compareOp .NotEq (.ref D) (.ref D')) Q E s :=
  ne_same (reads_pair e (.str _ _) (.bool _)) (reads_pair e' (.str _ _) (.bool _)) (by simp [shaped, PyData.canLay0, PyData.canLayAll0, PyData.depth, PyData.depthAll, hx]) (by simp [PyData.eqv, PyData.eqvAll]) hu h
end
theorem own_app {h₀ h h' : Heap} {L : Addr} {m : PySem.Str → Option Value} {own news : List (Addr × Obj)} (F : Fr h₀ L h m) (N : News h₀ L h news) (x : Ext h h') (O : Own h h' own) : News h₀ L h' (own ++ news) := fun p hp => by
  rcases List.mem_append.mp hp with hp | hp
  · exact Own.news F O p hp
  · exact news_ext N x p hp
theorem grow_app {h₀ h h' : Heap} {L : Addr} {fs : List Addr} {m : PySem.Str → Option Value} {own news : List (Addr × Obj)} (F : Fr h₀ L h m) (N : News h₀ L h news) (hfs : ∀ b ∈ fs, b = L) (g : Grow fs h h') (O : Own h h' own) : News h₀ L h' (own ++ news) := fun p hp => by
  rcases List.mem_append.mp hp with hp | hp
  · exact Own.news F O p hp
  · have n := N p hp
    exact ⟨(g p.1 p.2 (by simp) n.1).1 (fun z => n.2.1 (hfs _ z)), n.2⟩
theorem grow_fr {h₀ h h' : Heap} {L : Addr} {fs : List Addr} {m : PySem.Str → Option Value} (F : Fr h₀ L h m) (hfs : ∀ b ∈ fs, b = L) (g : Grow fs h h') : Fr h₀ L h' m :=
  fr_grow F (fun _ _ q => q) (Nat.le_refl _) (fun f hf => by rw [hfs f hf]; exact Heap.get?_none_of_le F.above) g
end Mine
end
section
open PySem PySem.W PyProof.Rows PySem.Calls PySem.SeqAt
set_option Elab.async false
set_option maxRecDepth 100000
set_option maxHeartbeats 8000000
namespace Mine
theorem rulesOi_0 : True := by
  w_top off
  k_with_none
  trivial
section
variable {z : Bool} {x : List Nat} {w : Int}
theorem replF_nil : replF (fillF z) (bareF x) = [] ↔ bareF x = [] := by
  constructor
  · intro h
    cases hb : bareF x with
    | nil => rfl
    | cons c r =>
      have hc : c ≠ 32 := fun e => bareF_head x (by rw [hb, e]; rfl)
      rw [hb, replF_cons, if_neg hc] at h; simp at h
  · intro h; rw [h]; rfl
theorem int_key (h : solidF z x ≠ []) : (numI z x < 0 ∧ lawWhole (replF (fillF z) (bareF x)) = none) ∨ solidF z x = replF (fillF z) (bareF x) := by
  by_cases hn : NoED (bareF x)
  · exact .inr (solid_free hn)
  · left
    have : ∃ c, c ∈ bareF x ∧ (c = 69 ∨ c = 68) := by
      apply Classical.byContradiction
      intro hh
      exact hn fun c hc => ⟨fun e => hh ⟨c, hc, .inl e⟩, fun e => hh ⟨c, hc, .inr e⟩⟩
    obtain ⟨c, hc, hcc⟩ := this
    have hd : isDig c = false := isX_dig (by unfold isX; lia)
    refine ⟨?_, ?_⟩
    · unfold numI
      rw [signF_2]
      refine wholeF_bad (body_mem (by lia) ?_) hd
      show c ∈ foldS z [] x
      rw [foldS_bare]
      exact foldS_mem (by lia) _ _ (.inr hc)
    · rw [lawWhole_eq, if_pos (wholeF_bad (body_mem (by lia) (replF_keep (by lia) hc)) hd)]
theorem int_src (h : solidF z x ≠ []) : lawIntR z x w = (if numI z x < 0 then (false, 1) else if inW (intI z x) w then (true, intI z x) else (false, 2)) := by
  have hr : replF (fillF z) (bareF x) ≠ [] := fun e => h (solid_nil.mpr (replF_nil.mp e))
  unfold lawIntR
  rw [if_neg hr]
  rcases int_key h with ⟨h1, h2⟩ | e
  · rw [h2, if_pos h1]
  · rw [← e, lawWhole_eq]
    have e1 : numI z x = wholeF (lawBody (solidF z x)) := by unfold numI; rw [signF_2]
    have e2 : intI z x = (signF (solidF z x)).1 * wholeF (lawBody (solidF z x)) := by unfold intI; rw [e1]
    rw [e1, e2]
    by_cases c : wholeF (lawBody (solidF z x)) < 0
    · rw [if_pos c, if_pos c]
    · rw [if_neg c, if_neg c]
      dsimp only
      unfold inW
      generalize (signF (solidF z x)).1 * wholeF (lawBody (solidF z x)) = n
      generalize (2 : Int) ^ (w - 1).toNat = q
      by_cases c2 : -q ≤ n ∧ n < q
      · rw [if_pos c2, if_pos (by lia)]
      · rw [if_neg c2, if_neg (by lia)]
theorem int_nil (h : solidF z x = []) (hw : 2 ≤ w) : lawIntR z x w = (true, 0) := by
  have hr : replF (fillF z) (bareF x) = [] := replF_nil.mpr (solid_nil.mp h)
  unfold lawIntR
  rw [if_pos hr]
  dsimp only
  have : (1 : Int) ≤ 2 ^ (w - 1).toNat := by
    have := Nat.one_le_two_pow (n := (w - 1).toNat)
    have e : ((2 ^ (w - 1).toNat : Nat) : Int) = (2 : Int) ^ (w - 1).toNat := by push_cast; rfl
    lia
  rw [if_pos (by lia)]
noncomputable def TI (z : Bool) (x : List Nat) (w : Int) (v : Value) (own : List (Addr × Obj)) : Prop := (lawIntR z x w).1 = true ∧ own = [] ∧ ∃ t, v = .int (lawIntR z x w).2 t
noncomputable def TfI (z : Bool) (x : List Nat) (w : Int) (c : Int) : Prop := (lawIntR z x w).1 = false ∧ c = (lawIntR z x w).2
theorem TI_ok {t : Tok} (hw : 2 ≤ w) (h : solidF z x = [] ∨ 0 ≤ numI z x ∧ inW (intI z x) w) : TI z x w (.int (if solidF z x = [] then 0 else intI z x) t) [] := by
  unfold TI
  by_cases e : solidF z x = []
  · rw [int_nil e hw, if_pos e]; exact ⟨rfl, rfl, t, rfl⟩
  · have h' := h.resolve_left e
    rw [int_src e, if_neg (by lia), if_pos h'.2, if_neg e]; exact ⟨rfl, rfl, t, rfl⟩
theorem TfI_1 (h : solidF z x ≠ [] ∧ numI z x < 0) : TfI z x w 1 := by unfold TfI; rw [int_src h.1, if_pos h.2]; exact ⟨rfl, rfl⟩
theorem TfI_2 (h : solidF z x ≠ [] ∧ 0 ≤ numI z x ∧ ¬ inW (intI z x) w) : TfI z x w 2 := by
  unfold TfI; rw [int_src h.1, if_neg (by lia), if_neg h.2.2]; exact ⟨rfl, rfl⟩
noncomputable def TL (x : List Nat) (v : Value) (own : List (Addr × Obj)) : Prop := logF x ≠ none ∧ own = [] ∧ v = .bool (decide (logF x = some true))
noncomputable def TfL (x : List Nat) (c : Int) : Prop := c = 1 ∧ logF x = none
end
section
variable {prog : PySem.Program} {w : World} {A : Around} {E : Value → Shared → Prop} {s : Shared} {Q : Value → Shared → Prop}
theorem ne_intR {r : Bool × Int} {t t' u u' : Tok} {D D' : Addr} (hr : r.1 = true) (e : s.heap.get? D = some (tupO [.str (PySem.Str.ofString "ok") t, .int r.2 u])) (e' : s.heap.get? D' = some (tupO [.str (tagS r.1) t', .int r.2 u']))
    (hu : A.units + 64 < cLine) (h : Q (.bool false) s) : wpAny (model prog w) A (compareOp .NotEq (.ref D) (.ref D')) Q E s := by
  rw [hr] at e'
  exact ne_int e e' ok_ok hu h
theorem ne_intF {r : Bool × Int} {c : Int} {t t' u u' : Tok} {D D' : Addr} (hr : r.1 = false) (hc : c = r.2) (e : s.heap.get? D = some (tupO [.str (PySem.Str.ofString "fault") t, .int c u])) (e' : s.heap.get? D' = some (tupO [.str (tagS r.1) t', .int r.2 u']))
    (hu : A.units + 64 < cLine) (h : Q (.bool false) s) : wpAny (model prog w) A (compareOp .NotEq (.ref D) (.ref D')) Q E s := by
  rw [hr] at e'
  subst hc
  exact ne_int e e' ok_fault hu h
end
theorem text_law {x : List Nat} {n : Int} (h1 : 1 ≤ n) : (S (textF x n) != Txt.slice (Txt.slice (S x ++ Txt.mul (PySem.Str.ofString " ") n) (some (max 0 ((S x).length - n))) none) none (some n)) = false := by
  have e : Txt.slice (Txt.slice (S x ++ Txt.mul (PySem.Str.ofString " ") n) (some (max 0 ((S x).length - n))) none) none (some n) = S (textF x n) := by
    rw [mul_blank, S_app, S_len, slice_from _ _ (by lia), slice_to _ _ (by lia)]
    congr 1
    unfold textF
    by_cases h : n ≤ x.length
    · rw [if_pos h]
      have a : (max 0 ((x.length : Int) - n)).toNat = x.length - n.toNat := by lia
      rw [a, List.drop_append_of_le_length (by lia), List.take_append_of_le_length (by rw [List.length_drop]; lia), List.take_of_length_le (by rw [List.length_drop]; lia)]
    · rw [if_neg h]
      have a : (max 0 ((x.length : Int) - n)).toNat = 0 := by lia
      rw [a, List.drop_zero, List.take_append, List.take_of_length_le (by lia), List.take_replicate]
      congr 2
      lia
  rw [e]; simp
theorem text_abs {x : List Nat} {n : Int} (h1 : 1 ≤ n) (h : (S (textF x n) != Txt.slice (Txt.slice (S x ++ Txt.mul (PySem.Str.ofString " ") n) (some (if ((S x).length : Int) - n > 0 then ((S x).length : Int) - n else 0)) none) none (some n)) = true) : False := by
  have e : (if ((S x).length : Int) - n > 0 then ((S x).length : Int) - n else 0) = max 0 ((S x).length - n) := by split <;> lia
  rw [e, text_law h1] at h; cases h
end Mine
end
section
open PySem PySem.W PyProof.Rows PySem.Calls PySem.Spec
set_option Elab.async false
set_option maxRecDepth 100000
set_option maxHeartbeats 8000000
namespace Mine
theorem fillF28 {w : World} : PySem.Challenge.rw_no0239_01 = PySem.Challenge.rw_no0239_01 ∧ hd.heap_1 w.params = hd.heap_1 w.params := by k_fill; exact ⟨rfl, rfl⟩
theorem ne_text {prog : PySem.Program} {w : World} {A : Around} {E : Value → Shared → Prop} {s : Shared} {Q : Value → Shared → Prop} {x : List Nat} {n : Int} {t u : Tok} (h1 : 1 ≤ n) (h : Q (.bool false) s) :
    wpAny (model prog w) A (compareOp .NotEq (.str (S (textF x n)) t) (.str (Txt.slice (Txt.slice (S x ++ Txt.mul (PySem.Str.ofString " ") n) (some (if ((S x).length : Int) - n > 0 then ((S x).length : Int) - n else 0)) none) none (some n)) u)) Q E s := by
  refine PyProof.Rows.ne_str ?_
  cases h2 : (S (textF x n) != Txt.slice (Txt.slice (S x ++ Txt.mul (PySem.Str.ofString " ") n) (some (if ((S x).length : Int) - n > 0 then ((S x).length : Int) - n else 0)) none) none (some n)) with
  | true => exact (text_abs h1 h2).elim
  | false => exact h
theorem rulesF28_1 : True := by
  w_top off
  k_with_none
  k_with "subscriptTail" => (k_here; (fail_if_success (with_reducible show wpAny _ _ (subscriptTail (PySem.Expr.Name _ _) _ _ _) _ _ _)); (with_reducible show wpAny _ _ (subscriptTail _ _ (Value.str _ _) (Value.ref _)) _ _ _); k_dflt (refine kba_turn (value' := PySem.Expr.Name (PySem.Str.ofString "_") ⟨0, 0, 0, 0⟩) (fun _ => rfl) ?_))
  k_with "compareOp NotEq str str" => (k_here; refine ne_text (by assumption) ?_)
  k_with "my:cl" => first | walk_at "my:cj" | lia
  k_with "my:pre" => first | assumption | lia
  k_with "call ref" => (k_here; (with_reducible show wpAny _ _ (call (.ref 186) _) _ _ _); k_dflt (refine' law_draw_k ?w1qF ?w1qN ?w1qU ?w1qX ?w1qT ?w1qR ?w1qha ?w1qhb ?w1qhm ?_; (case w1qF => k_asm); (case w1qN => k_asm); (case w1qU => k_updF); (case w1qX => k_asm); (case w1qT => k_asm); (case w1qR => first | assumption | exact Rn.deeper (by assumption) (by decide) | exact Rn.le (by assumption) (by decide)); (case w1qha => assumption); (case w1qhb => assumption); (case w1qhm => first | assumption | lia)); intro _ _ _ _ _ _ _ _ _ _ _ _ _ _ N'; (try dsimp only at N'); (try dsimp only); revert N'; intro _)
  k_with "call ref" => (k_here; (with_reducible show wpAny _ _ (call (.ref 203) _) _ _ _); k_dflt (refine' law_field_k ?w2qF ?w2qN ?w2qU ?w2qX ?w2qT ?w2qR ?w2qha ?w2qhb ?_; (case w2qF => k_asm); (case w2qN => k_asm); (case w2qU => k_updF); (case w2qX => k_asm); (case w2qT => k_asm); (case w2qR => first | assumption | exact Rn.deeper (by assumption) (by decide) | exact Rn.le (by assumption) (by decide)); (case w2qha => assumption); (case w2qhb => assumption)); intro _ _ _ _ _ _ _ _ _ v1' a1' b1' F' N'; (have v1S' := sz_S v1'); (try dsimp only at N'); (try dsimp only); revert v1' a1' b1' F' N' v1S'; intro _ _ _ _ _ _)
  trivial
theorem pick_ti_k {w : World} {mg mb : PySem.Str → Option Value} {mean : ExcName → Option Value} {pg : PySem.Program} {lse : List PySem.Str} {s : Shared} {A : Around} {Q E : Value → Shared → Prop} {h₀ : Heap} {L : Addr} {m : PySem.Str → Option Value} {news : List (Addr × Obj)} {g : Obj → List (Addr × Obj)} {p : Addr} {a b : Int} {ta tb : Tok} {n : Nat} {r : Addr} {vs : List Value} (F : Fr h₀ L s.heap m) (N : News h₀ L s.heap news) (U : UpdF p (penO a ta b tb n) news g) (X : (hd.heap_1 w.params).In h₀) (T : Top pg lse mean mg mb h₀) (R : Rn A 2) (ht : IsTup s.heap r vs.toArray) (ha : 0 ≤ a) (hb : 0 ≤ b) (hs : 1 ≤ vs.length ∧ vs.length ≤ 30)
    (hv : ∀ v ∈ vs, ∃ n t, v = .int n t ∧ 0 ≤ n ∧ n ≤ 99)
    (hq : ∀ k t a' ta' b' tb' n' h' tk, 0 ≤ k → k ≤ 99 → 0 ≤ a' → 0 ≤ b' → Fr h₀ L h' m → News h₀ L h' (g (penO a' ta' b' tb' n')) → Q (.int k t) { s with heap := h', toks := tk }) :
    wpAny (model PySem.Challenge.rw_no0239_01.row.prog w) A (call (.ref 193) [.ref p, .ref r]) Q E s :=
  pick_t_k F N U X T R ht ha hb hs fun v a' ta' b' tb' n' h' tk hm a1 b1 F' N' => by
    obtain ⟨k, t, rfl, h1, h2⟩ := hv v hm
    exact hq k t a' ta' b' tb' n' h' tk h1 h2 a1 b1 F' N'
theorem rulesF28_2 : True := by
  k_with "my:ints" => first | exact List.forall_mem_nil _ | (refine List.forall_mem_cons.mpr ⟨⟨_, _, rfl, by decide, by decide⟩, ?_⟩; walk_at "my:ints")
  k_with "call ref" => (k_here; (with_reducible show wpAny _ _ (call (.ref 193) [.ref _, .ref _]) _ _ _); k_dflt (refine' pick_ti_k ?w3qF ?w3qN ?w3qU ?w3qX ?w3qT ?w3qR ?w3qht ?w3qha ?w3qhb ?w3qhm ?w3qhv ?_; (case w3qF => k_asm); (case w3qN => k_asm); (case w3qU => k_updF); (case w3qX => k_asm); (case w3qT => k_asm); (case w3qR => first | assumption | exact Rn.deeper (by assumption) (by decide) | exact Rn.le (by assumption) (by decide)); (case w3qha => assumption); (case w3qhb => assumption); (case w3qht => exact tup_led (by assumption) (by k_mem)); (case w3qhm => exact ⟨Nat.le_of_ble_eq_true rfl, Nat.le_of_ble_eq_true rfl⟩); (case w3qhv => walk_at "my:ints")); intro _ _ _ _ _ _ _ _ _ _ _ _ _ _ N'; (try dsimp only at N'); (try dsimp only); revert N'; intro _)
  k_with "call ref" => (k_here; (with_reducible show wpAny _ _ (call (.ref 239) _) _ _ _); k_dflt (refine' law_real_k ?w4qF ?w4qN ?w4qX ?w4qT ?w4qR ?w4qhx ?w4qhv ?w4qhu ?w4qhdg ?_ ?_ ?_; (case w4qF => k_asm); (case w4qN => k_asm); (case w4qX => k_asm); (case w4qT => k_asm); (case w4qR => first | assumption | exact Rn.deeper (by assumption) (by decide) | exact Rn.le (by assumption) (by decide)); (case w4qhx => walk_at "my:pre"); (case w4qhv => walk_at "my:pre"); (case w4qhu => first | assumption | (refine tokN ?_; (try dsimp only); lia)); (case w4qhdg => walk_at "my:pre")); all_goals (first | (intro _ _ _ _ _ _ _ _ _ _) | (intro _ _ _ _ _ _ _ _)); all_goals (try dsimp only))
  k_with "call ref" => (k_here; (with_reducible show wpAny _ _ (call (.ref 222) _) _ _ _); k_dflt (refine' law_int_k ?w5qF ?w5qN ?w5qX ?w5qT ?w5qR ?w5qhx ?w5qhv ?w5qhu ?w5qhw ?_; (case w5qF => k_asm); (case w5qN => k_asm); (case w5qX => k_asm); (case w5qT => k_asm); (case w5qR => first | assumption | exact Rn.deeper (by assumption) (by decide) | exact Rn.le (by assumption) (by decide)); (case w5qhx => walk_at "my:pre"); (case w5qhv => walk_at "my:pre"); (case w5qhu => first | assumption | (refine tokN ?_; (try dsimp only); lia)); (case w5qhw => walk_at "my:pre")); intro _ _ _ _ _ _ _; (try dsimp only))
  k_with "call ref" => (k_here; (with_reducible show wpAny _ _ (call (.ref 246) _) _ _ _); k_dflt (refine' law_logical_k ?w6qF ?w6qN ?w6qX ?w6qT ?w6qR ?w6qhx ?_ ?_; (case w6qF => k_asm); (case w6qN => k_asm); (case w6qX => k_asm); (case w6qT => k_asm); (case w6qR => first | assumption | exact Rn.deeper (by assumption) (by decide) | exact Rn.le (by assumption) (by decide)); (case w6qhx => walk_at "my:pre")); all_goals (first | (intro _ _ _ _ _ _ _ _) | (intro _ _ _ _ _ _ _)); all_goals (try dsimp only))
  k_with "call ref" => (k_here; (with_reducible show wpAny _ _ (call (.ref 171) _) _ _ _); k_dflt (refine' read_text_k ?w7qF ?w7qN ?w7qX ?w7qT ?w7qR ?w7qhx ?w7qhl ?_; (case w7qF => k_asm); (case w7qN => k_asm); (case w7qX => k_asm); (case w7qT => k_asm); (case w7qR => first | assumption | exact Rn.deeper (by assumption) (by decide) | exact Rn.le (by assumption) (by decide)); (case w7qhx => walk_at "my:pre"); (case w7qhl => walk_at "my:pre")); intro _ _ _ _ _; (try dsimp only))
  trivial
noncomputable def HoldR (P : Prop) : Prop := P
theorem HoldR.mk {P : Prop} (h : HoldR P) : P := h
theorem rulesF28_3 : True := by
  k_with "pyIter ref" => (k_here; refine HoldR.mk ?_)
  k_with "call ref" => (k_here; (with_reducible show wpAny _ _ (call (.ref 179) _) _ _ _); refine HoldR.mk ?_)
  k_with "NextP" => (refine NextP.mk ?_)
  trivial
inductive TokMark : Prop
  | mk : TokMark
theorem rulesF28_4 : True := by
  k_with "chain" => first | (refine chain.done ?_) | ((have tm' : TokMark := by assumption); clear tm'; refine chain.tok ?_; (try dsimp only)) | (refine chain.step ?_)
  k_with "TokC" => (refine TokC.gen ?_; intro _ htk'; (try dsimp only at htk'); (try dsimp only); revert htk'; intro _)
  trivial
noncomputable def HoldP (P : Prop) : Prop := P
theorem HoldP.mk {P : Prop} (h : HoldP P) : P := h
theorem rulesF28_5 : True := by
  k_with "PartE" => (refine HoldP.mk ?_)
  k_with "call ref" => (k_here; (with_reducible show wpAny _ _ (call (.ref 253) _) _ _ _); refine HoldP.mk ?_)
  k_with "call ref" => (k_here; (with_reducible show wpAny _ _ (call (.ref 157) _) _ _ _); refine HoldP.mk ?_)
  k_with "call ref" => (k_here; (with_reducible show wpAny _ _ (call (.ref 129) _) _ _ _); refine HoldP.mk ?_)
  k_with "call ref" => (k_here; (with_reducible show wpAny _ _ (call (.ref 164) _) _ _ _); refine HoldP.mk ?_)
  k_with "UnrEnd" => (refine HoldP.mk ?_)
  k_with "compareOp NotEq ref ref" => (k_here; refine HoldP.mk ?_)
  k_with "eval Lambda" => (k_here; (fail_if_success (with_reducible show wpAny _ _ _ (TokW _ _) _ _)); refine wpAny_tokW ?_; (try dsimp only))
  k_with "TokW" => (refine TokW.gen ?_; intro _ htk'; (try dsimp only at htk'); (try dsimp only); revert htk'; intro _)
  k_with "callWith ref" => (k_here; k_dflt (refine' callWith_K ?w8qk1 ?w8qk2 ?_; (case w8qk1 => k_asm); (case w8qk2 => k_is); k_whole))
  trivial
noncomputable def HoldF (P : Prop) : Prop := P
theorem HoldF.mk {P : Prop} (h : HoldF P) : P := h
theorem rulesF28_6 : True := by
  k_with "chain" => ((with_reducible show chain _ _ _ _ (Stmt.Assign [Expr.Name (PySem.Str.ofString "fill") _] _ _ :: _) _ _); refine HoldF.mk ?_)
  k_with "T1" => (refine HoldF.mk ?_)
  trivial
theorem fr_pen {h₀ h : Heap} {L : Addr} {m : PySem.Str → Option Value} {x n : PySem.Str} {v : Option Value} {u : Value} (F : Fr h₀ L h (fun y => if y = x then v else m y)) (hm : m n = some u) : Fr h₀ L h (fun y => if y = x then v else if y = n then some u else m y) := by
  have e : (fun y => if y = x then v else if y = n then some u else m y) = fun y => if y = x then v else m y := by
    funext y
    by_cases h : y = x
    · simp [h]
    · by_cases h2 : y = n
      · subst h2; simp [h, hm]
      · simp [h, h2]
  rw [e]; exact F
/-- behind the draws of a turn -/
inductive T1 (base : Heap) (L I p : Addr) (it : Obj) (M0 : PySem.Str → Option Value) (tab : List (Addr × Obj)) (s s' : Shared) : Prop
  | mk (h : Heap) (tk : Nat) (x : List Nat) (tx : Tok) (z : Bool) (d : Int) (td : Tok) (sc : Int) (tsc : Tok) (dg : Int) (tdg : Tok) (tp : Int) (ttp : Tok) (wd : Int) (twd : Tok) (ln : Int) (tln : Tok) (tf : Nat) (a : Int) (ta : Tok) (b : Int) (tb : Tok) (n : Nat) (o1 o2 o3 o4 o5 o6 o7 : Obj)
    (e : s' = { s with heap := h, toks := tk }) (facts : x.length ≤ 40 ∧ (1 ≤ dg ∧ dg ≤ 9) ∧ (2 ≤ wd ∧ wd ≤ 31) ∧ (1 ≤ ln ∧ ln ≤ 9) ∧ 0 < tf ∧ tf < tk ∧ 0 ≤ a ∧ 0 ≤ b)
    (data : o1.data = Data.cell (some (.int d td)) ∧ o2.data = Data.cell (some (.int dg tdg)) ∧ o3.data = Data.cell (some (.bool z)) ∧ o4.data = Data.cell (some (.int sc tsc)) ∧ o5.data = Data.cell (some (.str (S x) tx)) ∧ o6.data = Data.cell (some (.int tp ttp)) ∧ o7.data = Data.cell (some (.int wd twd)))
    (F : Fr base L h (fun y => if y = PySem.Str.ofString "length" then some (.int ln tln) else if y = PySem.Str.ofString "fill" then some (.str (S (fillF z)) tf) else M0 y))
    (N : News base L h ((I, it) :: (p, penO a ta b tb n) :: (L + 1 + 1 + 1 + 1 + 1 + 1 + 1, o7) :: (L + 1 + 1 + 1 + 1 + 1 + 1, o6) :: (L + 1 + 1 + 1 + 1 + 1, o5) :: (L + 1 + 1 + 1 + 1, o4) :: (L + 1 + 1 + 1, o3) :: (L + 1 + 1, o2) :: (L + 1, o1) :: tab)) : T1 base L I p it M0 tab s s'
noncomputable def AllNe (p : Nat) : List (Addr × Obj) → Prop
  | [] => True
  | q :: r => @Ne Nat q.1 p ∧ AllNe p r
theorem allNe_of {p : Addr} : ∀ {l : List (Addr × Obj)}, (∀ q ∈ l, q.1 ≠ p) → AllNe p l
  | [], _ => trivial
  | _ :: _, h => ⟨h _ (.head _), allNe_of fun q hq => h q (.tail _ hq)⟩
theorem off_of {p : Addr} : ∀ {l : List (Addr × Obj)}, AllNe p l → ∀ q ∈ l, q.1 ≠ p
  | [], _, _, h => nomatch h
  | _ :: _, x, q, h => by
    rcases List.mem_cons.mp h with rfl | h
    · exact x.1
    · exact off_of x.2 q h
theorem bool_cell {o : Obj} {b : Bool} (h : o.data = Data.cell (some (.bool b))) : ∃ z, z = b ∧ o.data = Data.cell (some (.bool z)) := ⟨b, rfl, h⟩
theorem fill_t {z : Bool} (h : z = true) : PySem.Str.ofString "0" = S (fillF z) := by rw [h, lit_0]; rfl
theorem fill_f {z : Bool} (h : z = false) : PySem.Str.ofString "" = S (fillF z) := by rw [h, lit_empty]; rfl
theorem fill_val {z : Bool} {x : PySem.Str} {t : Nat} (h : x = S (fillF z)) (h0 : 0 < t) : ∃ t' : Nat, Value.str x t = .str (S (fillF z)) t' ∧ 0 < t' ∧ t' < t + 1 + 1 := ⟨t, by rw [h], h0, Nat.lt_succ_of_lt (Nat.lt_succ_self _)⟩
/-- a lambda's code object -/
noncomputable def LamC (L I p c : Nat) (oc : Obj) : Prop := (∃ vs t, oc.data = .fields vs ∧ vs[1]? = some (.str (PySem.Str.ofString "law" ++ ".<locals>." ++ "<lambda>") t)) ∧ 255 < c ∧ p < c ∧ (L + 1 + 1 + 1 + 1 + 1 + 1 + 1 < c ∧ L + 1 + 1 + 1 + 1 + 1 + 1 < c ∧ L + 1 + 1 + 1 + 1 + 1 < c ∧ L + 1 + 1 + 1 + 1 < c ∧ L + 1 + 1 + 1 < c ∧ L + 1 + 1 < c ∧ L + 1 < c ∧ True) ∧ I < c
theorem rn_units {A : Around} (R : Rn A 19) : A.units + 64 < cLine := by have := R.u; lia
theorem rn_caller : Rn callerA 20 := ⟨⟨by decide, by decide⟩, rfl⟩
/-- between the turns -/
theorem subL_of {all : List (Addr × Obj)} : ∀ {l : List (Addr × Obj)}, (∀ q ∈ l, q ∈ all) → SubL l all
  | [], _ => trivial
  | q :: r, h => ⟨h q (.head _), subL_of fun z hz => h z (.tail _ hz)⟩
inductive TabI (L I p : Addr) (i : Nat) (tab : List (Addr × Obj)) : Prop
  | fst (hi : i = 0) (e : tab = [(255, tabObj #[])]) : TabI L I p i tab
  | nxt (hi : 0 < i) (c1 : Nat) (oc1 : Obj) (c2 : Nat) (oc2 : Obj) (c3 : Nat) (oc3 : Obj) (l1 : LamC L I p c1 oc1) (l2 : LamC L I p c2 oc2) (l3 : LamC L I p c3 oc3) (e : tab = [(c3, oc3), (c2, oc2), (c1, oc1), (255, tabObj #[rawInt 242, rawInt 26, .ref c1, rawInt 245, rawInt 26, .ref c2, rawInt 248, rawInt 26, .ref c3])]) : TabI L I p i tab
theorem TabI.off {L I p x : Addr} {i : Nat} {tab : List (Addr × Obj)} (T : TabI L I p i tab) (h : @LT.lt Nat _ 255 x ∨ @Ne Nat 255 x) (hc : ∀ c oc, LamC L I p c oc → @LT.lt Nat _ x c) : ∀ q ∈ tab, q.1 ≠ x := by
  have h' : @Ne Nat 255 x := h.elim Nat.ne_of_lt id
  rcases T with ⟨-, rfl⟩ | ⟨-, c1, oc1, c2, oc2, c3, oc3, l1, l2, l3, rfl⟩
  · exact fun q hq => (List.mem_singleton.mp hq) ▸ h'
  · exact off_of ⟨Nat.ne_of_gt (hc _ _ l3), Nat.ne_of_gt (hc _ _ l2), Nat.ne_of_gt (hc _ _ l1), h', trivial⟩
inductive LInv (L I p : Addr) (i : Nat) (m : PySem.Str → Option Value) (news : List (Addr × Obj)) : Prop
  | mk (hm : m (PySem.Str.ofString "pen") = some (.ref p)) (a : Int) (ta : Tok) (b : Int) (tb : Tok) (n : Nat) (o1 o2 o3 o4 o5 o6 o7 : Obj) (v1 v2 v3 v4 v5 v6 v7 : Option Value) (ha : 0 ≤ a) (hb : 0 ≤ b) (d1 : o1.data = Data.cell v1) (d2 : o2.data = Data.cell v2) (d3 : o3.data = Data.cell v3) (d4 : o4.data = Data.cell v4) (d5 : o5.data = Data.cell v5) (d6 : o6.data = Data.cell v6) (d7 : o7.data = Data.cell v7)
    (tab : List (Addr × Obj)) (ht : TabI L I p i tab) (e : news = (p, penO a ta b tb n) :: (L + 1 + 1 + 1 + 1 + 1 + 1 + 1, o7) :: (L + 1 + 1 + 1 + 1 + 1 + 1, o6) :: (L + 1 + 1 + 1 + 1 + 1, o5) :: (L + 1 + 1 + 1 + 1, o4) :: (L + 1 + 1 + 1, o3) :: (L + 1 + 1, o2) :: (L + 1, o1) :: tab) : LInv L I p i m news
theorem offs {n : Nat} (h : 255 < n) : (255 < n + 1 ∧ True) ∧ (n + 1 < n + 1 + 1 ∧ 255 < n + 1 + 1 ∧ True) ∧ (n + 1 + 1 < n + 1 + 1 + 1 ∧ n + 1 < n + 1 + 1 + 1 ∧ 255 < n + 1 + 1 + 1 ∧ True) ∧ (n + 1 + 1 + 1 < n + 1 + 1 + 1 + 1 ∧ n + 1 + 1 < n + 1 + 1 + 1 + 1 ∧ n + 1 < n + 1 + 1 + 1 + 1 ∧ 255 < n + 1 + 1 + 1 + 1 ∧ True) ∧ (n + 1 + 1 + 1 + 1 < n + 1 + 1 + 1 + 1 + 1 ∧ n + 1 + 1 + 1 < n + 1 + 1 + 1 + 1 + 1 ∧ n + 1 + 1 < n + 1 + 1 + 1 + 1 + 1 ∧ n + 1 < n + 1 + 1 + 1 + 1 + 1 ∧ 255 < n + 1 + 1 + 1 + 1 + 1 ∧ True) ∧ (n + 1 + 1 + 1 + 1 + 1 < n + 1 + 1 + 1 + 1 + 1 + 1 ∧ n + 1 + 1 + 1 + 1 < n + 1 + 1 + 1 + 1 + 1 + 1 ∧ n + 1 + 1 + 1 < n + 1 + 1 + 1 + 1 + 1 + 1 ∧ n + 1 + 1 < n + 1 + 1 + 1 + 1 + 1 + 1 ∧ n + 1 < n + 1 + 1 + 1 + 1 + 1 + 1 ∧ 255 < n + 1 + 1 + 1 + 1 + 1 + 1 ∧ True) ∧ (n + 1 + 1 + 1 + 1 + 1 + 1 < n + 1 + 1 + 1 + 1 + 1 + 1 + 1 ∧ n + 1 + 1 + 1 + 1 + 1 < n + 1 + 1 + 1 + 1 + 1 + 1 + 1 ∧ n + 1 + 1 + 1 + 1 < n + 1 + 1 + 1 + 1 + 1 + 1 + 1 ∧ n + 1 + 1 + 1 < n + 1 + 1 + 1 + 1 + 1 + 1 + 1 ∧ n + 1 + 1 < n + 1 + 1 + 1 + 1 + 1 + 1 + 1 ∧ n + 1 < n + 1 + 1 + 1 + 1 + 1 + 1 + 1 ∧ 255 < n + 1 + 1 + 1 + 1 + 1 + 1 + 1 ∧ True) :=
  ⟨⟨by lia, trivial⟩, ⟨by lia, by lia, trivial⟩, ⟨by lia, by lia, by lia, trivial⟩, ⟨by lia, by lia, by lia, by lia, trivial⟩, ⟨by lia, by lia, by lia, by lia, by lia, trivial⟩, ⟨by lia, by lia, by lia, by lia, by lia, by lia, trivial⟩, ⟨by lia, by lia, by lia, by lia, by lia, by lia, by lia, trivial⟩⟩
local macro_rules | `(tactic| k_all) => `(tactic| with_reducible assumption)
theorem law_top : PySem.Challenge.rw_no0239_01.Holds := by
  refine hd ?_
  k_go0
  (all_goals try k_fold)
  have RC := rn_caller
  rename Shared => s1
  rename (Frag.In _ (ghostOf _ _)) => X0
  rename (Top _ _ _ _ _ (ghostOf _ _)) => T0
  have cx0 : Cx _ _ _ (ghostOf s1.heap [(259, 255)]) callerA [] (ghostOf s1.heap [(259, 255)]) := ⟨X0, ⟨_, _, _, T0⟩, fun _ _ e => e, Nat.le_refl _, rfl, trivial, rfl⟩
  have r66 : Reads (ghostOf s1.heap [(259, 255)]) (.ref 66) (.tuple [.int 0, .int 0]) [] := reads_tuple_at (X0 66 _ (by k_is)) rfl rfl (.cons (.int _ _) (.cons (.int _ _) .nil))
  k_steps
  unfold HoldR
  refine' law_pen_k ?F ?N ?X ?T ?R ?hl ?hi ?hn ?_
  case F => k_asm
  case N => k_asm
  case X => k_asm
  case T => k_asm
  case R => exact Rn.deeper (by assumption) (by decide)
  case hl => assumption
  case hi => assumption
  case hn => assumption
  rename Fr _ _ _ _ => F0
  rename News _ _ _ _ => N0
  intro p a ta b tb n h tk ha hb hne F' N'
  clear F0 N0
  dsimp only
  replace hne := allNe_of hne
  dsimp only [AllNe] at hne
  obtain ⟨hO1, hO2, hO3, hO4, hO5, hO6, hO7⟩ := offs (n := s1.heap.objs.size) (by first | assumption | lia)
  k_steps
  unfold HoldR
  refine PySem.W.iter_rangeUnr (by rfl) (by k_asm) (by rfl) (n := 4) (by rfl) (by k_asm) (by k_asm) ?_
  intro I hI
  k_lt hI
  refine range_turns (LInv s1.heap.objs.size I p) ?_ ?_ 4 0 _ _ rfl ?_
  · rintro i m news hlt ⟨hm, a, ta, b, tb, n, o1, o2, o3, o4, o5, o6, o7, v1, v2, v3, v4, v5, v6, v7, ha, hb, d1, d2, d3, d4, d5, d6, d7, tab, ht, rfl⟩
    have offp := ht.off (x := p) (.inr (by walk_at "my:cl")) fun _ _ l => l.2.2.1
    have off1 := ht.off (x := s1.heap.objs.size + 1) (.inl (by walk_at "my:cl")) fun _ _ l => l.2.2.2.1.2.2.2.2.2.2.1
    have off2 := ht.off (x := s1.heap.objs.size + 1 + 1) (.inl (by walk_at "my:cl")) fun _ _ l => l.2.2.2.1.2.2.2.2.2.1
    have off3 := ht.off (x := s1.heap.objs.size + 1 + 1 + 1) (.inl (by walk_at "my:cl")) fun _ _ l => l.2.2.2.1.2.2.2.2.1
    have off4 := ht.off (x := s1.heap.objs.size + 1 + 1 + 1 + 1) (.inl (by walk_at "my:cl")) fun _ _ l => l.2.2.2.1.2.2.2.1
    have off5 := ht.off (x := s1.heap.objs.size + 1 + 1 + 1 + 1 + 1) (.inl (by walk_at "my:cl")) fun _ _ l => l.2.2.2.1.2.2.1
    have off6 := ht.off (x := s1.heap.objs.size + 1 + 1 + 1 + 1 + 1 + 1) (.inl (by walk_at "my:cl")) fun _ _ l => l.2.2.2.1.2.1
    have off7 := ht.off (x := s1.heap.objs.size + 1 + 1 + 1 + 1 + 1 + 1 + 1) (.inl (by walk_at "my:cl")) fun _ _ l => l.2.2.2.1.1
    intro t h tk F N
    replace F := fr_pen F hm
    refine cutL (l := [_, _, _, _, _, _]) (P := T1 (ghostOf s1.heap [(259, 255)]) s1.heap.objs.size I p (itR (0 + ((i + 1 : Nat) : Int)) (((4 : Nat) : Int) - ((i + 1 : Nat) : Int))) (fun y => if y = PySem.Str.ofString "turn" then some (.int (0 + (i : Int)) t) else if y = PySem.Str.ofString "pen" then some (.ref p) else m y) tab { s1 with heap := h, toks := tk }) ?restN ?drawsN
    case drawsN =>
      k_steps
      unfold HoldF
      rename_i hfill
      obtain ⟨zF, hzF, hfill'⟩ := bool_cell hfill
      clear hfill hzF
      rename Fr _ _ _ _ => F1
      rename News _ _ _ _ => N1
      refine chain.cut1N (PySem.Str.ofString "fill") (fun v tk => ∃ t : Nat, v = .str (S (fillF zF)) t ∧ 0 < t ∧ t < tk) F1 N1 ?_ ?_
      · k_steps
        all_goals (unfold HoldP)
        all_goals (refine PartE.intro (by assumption) (by assumption) ?_ _ rfl (subL_of fun _ hz => hz))
        all_goals first | exact fill_val (fill_t (by assumption)) (Nat.succ_pos _) | exact fill_val (fill_f (by assumption)) (Nat.succ_pos _)
      · intro h2 tk2 v2 hv2 F2 N2
        obtain ⟨tf, rfl, hf0, hf1⟩ := hv2
        have tmk : TokMark := .mk
        clear F1 N1
        dsimp only
        k_steps
        unfold HoldF
        rename Fr _ _ _ _ => F3
        rename News _ _ _ _ => N3
        refine' ⟨_, _, _, _, zF, _, _, _, _, _, _, _, _, _, _, _, _, tf, _, _, _, _, _, _, _, _, _, _, _, _, rfl, ?factsN, ?dataN, F3, fun q hq => N3 q (.tail _ (.tail _ (.tail _ (.tail _ hq))))⟩
        case dataN => exact ⟨by assumption, by assumption, by assumption, by assumption, by assumption, by assumption, by assumption⟩
        case factsN => exact ⟨by assumption, ⟨by lia, by lia⟩, ⟨by lia, by lia⟩, ⟨by lia, by lia⟩, hf0, by lia, by assumption, by assumption⟩
    intro s2 h2
    obtain ⟨h, tk, x, tx, z, d, td, sc, tsc, dg, tdg, tp, ttp, wd, twd, ln, tln, tf, a, ta, b, tb, n, o1, o2, o3, o4, o5, o6, o7, rfl, ⟨hx, hdg, hwd, hln, hf0, hf1, ha, hb⟩, ⟨e1, e2, e3, e4, e5, e6, e7⟩, F, N⟩ := h2
    clear offp off1 off2 off3 off4 off5 off6 off7
    rcases ht with ⟨hi, rfl⟩ | ⟨hi, c1, oc1, c2, oc2, c3, oc3, lam1, lam2, lam3, rfl⟩
    · replace N := News.sub (news := [(I, itR (0 + ((i + 1 : Nat) : Int)) (((4 : Nat) : Int) - ((i + 1 : Nat) : Int))), (p, penO a ta b tb n), (s1.heap.objs.size + 1 + 1 + 1 + 1 + 1 + 1 + 1, o7), (s1.heap.objs.size + 1 + 1 + 1 + 1 + 1 + 1, o6), (s1.heap.objs.size + 1 + 1 + 1 + 1 + 1, o5), (s1.heap.objs.size + 1 + 1 + 1 + 1, o4), (s1.heap.objs.size + 1 + 1 + 1, o3), (s1.heap.objs.size + 1 + 1, o2), (s1.heap.objs.size + 1, o1), (255, tabObj #[])]) N ⟨.head _, .tail _ (.head _), .tail _ (.tail _ (.head _)), .tail _ (.tail _ (.tail _ (.head _))), .tail _ (.tail _ (.tail _ (.tail _ (.head _)))), .tail _ (.tail _ (.tail _ (.tail _ (.tail _ (.head _))))), .tail _ (.tail _ (.tail _ (.tail _ (.tail _ (.tail _ (.head _)))))), .tail _ (.tail _ (.tail _ (.tail _ (.tail _ (.tail _ (.tail _ (.head _))))))), .tail _ (.tail _ (.tail _ (.tail _ (.tail _ (.tail _ (.tail _ (.tail _ (.head _)))))))), .tail _ (.tail _ (.tail _ (.tail _ (.tail _ (.tail _ (.tail _ (.tail _ (.tail _ (.head _))))))))), trivial⟩
      refine cut2 (PySem.Str.ofString "told") (fun nn => ∃ c1 oc1, LamC s1.heap.objs.size I p c1 oc1 ∧ nn = [(c1, oc1), (I, itR (0 + ((i + 1 : Nat) : Int)) (((4 : Nat) : Int) - ((i + 1 : Nat) : Int))), (p, penO a ta b tb n), (s1.heap.objs.size + 1 + 1 + 1 + 1 + 1 + 1 + 1, o7), (s1.heap.objs.size + 1 + 1 + 1 + 1 + 1 + 1, o6), (s1.heap.objs.size + 1 + 1 + 1 + 1 + 1, o5), (s1.heap.objs.size + 1 + 1 + 1 + 1, o4), (s1.heap.objs.size + 1 + 1 + 1, o3), (s1.heap.objs.size + 1 + 1, o2), (s1.heap.objs.size + 1, o1), (255, tabObj #[rawInt 242, rawInt 26, .ref c1])]) F ?_ ?_
      · try dsimp only
        k_steps
        unfold HoldP
        rename_i f c1 oc1 vs tq ctv hA tkA FA NA dA1 dA2 lA1 lA2 tkB htkB
        refine wpAny_tok ?_
        refine heard_b _ (Cx.pushX cx0 FA (by rfl) (by rfl)) (FnAt.of NA (.head _)) (Rn.deeper RC (by decide)) (TR z x d sc dg tp) (TfR z x d sc dg tp) ?askN1 ?okN1 ?badN1
        case askN1 =>
          intro A' l' s' Q' E' cx' R' x' hv he
          refine wpAny_call ?_
          refine call_lam (by have := R'.d; lia) (x' _ _ (NA _ (.head _)).1) ?limN1 ⟨_, _, _, _, rfl, x' _ _ (NA _ (.tail _ (.head _))).1, dA1, dA2⟩ rfl ?_ rfl rfl rfl (by decide)
          case limN1 =>
            obtain ⟨_, _, _, Tn⟩ := cx'.Top
            exact Tn.nolimit
          intro h₁ F1
          obtain ⟨F', N', XE⟩ := lam_frame FA NA (cells := [(s1.heap.objs.size + 1 + 1 + 1 + 1 + 1 + 1 + 1, o7), (s1.heap.objs.size + 1 + 1 + 1 + 1 + 1 + 1, o6), (s1.heap.objs.size + 1 + 1 + 1 + 1 + 1, o5), (s1.heap.objs.size + 1 + 1 + 1 + 1, o4), (s1.heap.objs.size + 1 + 1 + 1, o3), (s1.heap.objs.size + 1 + 1, o2), (s1.heap.objs.size + 1, o1)]) ⟨.tail _ (.tail _ (.tail _ (.tail _ (.head _)))), .tail _ (.tail _ (.tail _ (.tail _ (.tail _ (.head _))))), .tail _ (.tail _ (.tail _ (.tail _ (.tail _ (.tail _ (.head _)))))), .tail _ (.tail _ (.tail _ (.tail _ (.tail _ (.tail _ (.tail _ (.head _))))))), .tail _ (.tail _ (.tail _ (.tail _ (.tail _ (.tail _ (.tail _ (.tail _ (.head _)))))))), .tail _ (.tail _ (.tail _ (.tail _ (.tail _ (.tail _ (.tail _ (.tail _ (.tail _ (.head _))))))))), .tail _ (.tail _ (.tail _ (.tail _ (.tail _ (.tail _ (.tail _ (.tail _ (.tail _ (.tail _ (.head _)))))))))), trivial⟩ x' F1 rfl
          have X' := X0.keeps XE
          have T' := T0.keeps XE
          have F1h : HoldF (Fr _ _ _ _) := F1
          clear F1 FA NA F N
          k_steps
          unfold HoldP
          refine read_real_b _ _ _ _ _ _ _ _ _ _ _ (Cx.pushX cx' F1h (by rfl) (by rfl)) (Rn.deeper R' (by decide)) hx hdg ?q0N1 ?q1N1 ?b0N1 ?b1N1
          case q0N1 => exact fun c h' tk x2 => hv _ [] _ _ (fun b o q => x2 b o (F1h.keep b o q)) Own.nil (TR_0 c)
          case q1N1 => exact fun c D t0 t1 h' tk x2 y zz => hv _ [(D, _)] _ _ (fun b o q => x2 b o (F1h.keep b o q)) (Own.one y (none_of F1h.keep zz)) (TR_1 c)
          case b0N1 => exact fun c e h' tk f => fly_passX cx' F1h (by rfl) (by rfl) f fun h2 f2 => he 1 e h2 tk (TfR_1 c) f2
          case b1N1 => exact fun c e h' tk f => fly_passX cx' F1h (by rfl) (by rfl) f fun h2 f2 => he 2 e h2 tk (TfR_2 c) f2
        case okN1 =>
          intro v own D t h' tk' hp xx oo le
          rcases hp with ⟨hout, ⟨rfl, rfl, hV⟩ | ⟨D2, t0, t1, rfl, rfl⟩⟩
          all_goals (have F5 := FA.keeps xx; have N5 := own_app FA NA xx oo; clear FA NA F N)
          all_goals dsimp only [List.cons_append, List.nil_append] at N5 le ⊢
          all_goals k_steps
          all_goals (unfold HoldP; rename News _ _ _ _ => nn; rename Fr _ _ _ _ => ff)
          all_goals first
            | (have e1 := out_B (z := z) (x := x) (d := d) (sc := sc) (dg := dg) (tp := tp) (by with_reducible assumption); lia)
            | (have e1 := out_F (z := z) (x := x) (d := d) (sc := sc) (dg := dg) (tp := tp) (by with_reducible assumption); lia)
            | refine ne_real (nn _ (.tail _ (.tail _ (.head _)))).1 (nn _ (.head _)).1 (a := (realV z x d sc dg tp).1) (b := (realV z x d sc dg tp).2) (by rw [hV]; exact Reads.keeps ff.keep r66) (reads_pair (nn _ (.tail _ (.head _))).1 (.int _ _) (.int _ _)) ok_ok (rn_units (Rn.deeper RC (by decide))) ?_
            | refine ne_real (nn _ (.tail _ (.tail _ (.head _)))).1 (nn _ (.head _)).1 (a := (realV z x d sc dg tp).1) (b := (realV z x d sc dg tp).2) (reads_pair (nn _ (.tail _ (.tail _ (.tail _ (.head _))))).1 (.int _ _) (.int _ _)) (reads_pair (nn _ (.tail _ (.head _))).1 (.int _ _) (.int _ _)) ok_ok (rn_units (Rn.deeper RC (by decide))) ?_
          all_goals k_steps
          all_goals unfold HoldP
          all_goals exact PartE.intro (by assumption) (by assumption) trivial _ ⟨c1, oc1, ⟨⟨_, _, dA1, dA2⟩, by walk_at "my:cl", by walk_at "my:cl", ⟨by walk_at "my:cl", by walk_at "my:cl", by walk_at "my:cl", by walk_at "my:cl", by walk_at "my:cl", by walk_at "my:cl", by walk_at "my:cl", trivial⟩, by walk_at "my:cl"⟩, rfl⟩ (by k_subL)
        case badN1 =>
          intro cc D t0 t1 h' tk' hp gr oo le
          have F5 := grow_fr FA (fun b hb => List.mem_singleton.mp hb) gr
          have N5 := grow_app FA NA (fun b hb => List.mem_singleton.mp hb) gr oo
          clear FA NA F N
          rcases hp with ⟨rfl, hout⟩ | ⟨rfl, hout⟩
          all_goals dsimp only [List.cons_append, List.nil_append] at N5 le ⊢
          all_goals k_steps
          all_goals (unfold HoldP; rename News _ _ _ _ => nn; rename Fr _ _ _ _ => ff)
          all_goals first
            | (have e1 := out_O (z := z) (x := x) (d := d) (sc := sc) (dg := dg) (tp := tp) (by with_reducible assumption); lia)
            | (have e1 := out_B (z := z) (x := x) (d := d) (sc := sc) (dg := dg) (tp := tp) (by with_reducible assumption); lia)
            | (have e1 := out_F (z := z) (x := x) (d := d) (sc := sc) (dg := dg) (tp := tp) (by with_reducible assumption); lia)
            | refine ne_int (nn _ (.tail _ (.head _))).1 (nn _ (.head _)).1 ok_fault (rn_units (Rn.deeper RC (by decide))) ?_
          all_goals k_steps
          all_goals unfold HoldP
          all_goals exact PartE.intro (by assumption) (by assumption) trivial _ ⟨c1, oc1, ⟨⟨_, _, dA1, dA2⟩, by walk_at "my:cl", by walk_at "my:cl", ⟨by walk_at "my:cl", by walk_at "my:cl", by walk_at "my:cl", by walk_at "my:cl", by walk_at "my:cl", by walk_at "my:cl", by walk_at "my:cl", trivial⟩, by walk_at "my:cl"⟩, rfl⟩ (by k_subL)
      · intro h1 tk1 v1 news1 le1 hn1 F N
        obtain ⟨c1, oc1, lam1, rfl⟩ := hn1
        obtain ⟨⟨vs1, tq1, dv1, dq1⟩, la1, lb1, lc1, ld1⟩ := lam1
        replace hf1 : tf < tk1 := Nat.lt_of_lt_of_le hf1 le1
        try dsimp only at F
        refine cut2 (PySem.Str.ofString "told") (fun nn => ∃ c2 oc2, LamC s1.heap.objs.size I p c2 oc2 ∧ nn = [(c2, oc2), (c1, oc1), (I, itR (0 + ((i + 1 : Nat) : Int)) (((4 : Nat) : Int) - ((i + 1 : Nat) : Int))), (p, penO a ta b tb n), (s1.heap.objs.size + 1 + 1 + 1 + 1 + 1 + 1 + 1, o7), (s1.heap.objs.size + 1 + 1 + 1 + 1 + 1 + 1, o6), (s1.heap.objs.size + 1 + 1 + 1 + 1 + 1, o5), (s1.heap.objs.size + 1 + 1 + 1 + 1, o4), (s1.heap.objs.size + 1 + 1 + 1, o3), (s1.heap.objs.size + 1 + 1, o2), (s1.heap.objs.size + 1, o1), (255, tabObj #[rawInt 242, rawInt 26, .ref c1, rawInt 245, rawInt 26, .ref c2])]) F ?_ ?_
        · try dsimp only
          k_steps
          unfold HoldP
          rename_i f c2 oc2 vs tq ctv hA tkA FA NA dA1 dA2 lA1 lA2 tkB htkB
          refine wpAny_tok ?_
          refine heard_b _ (Cx.pushX cx0 FA (by rfl) (by rfl)) (FnAt.of NA (.head _)) (Rn.deeper RC (by decide)) (TI z x wd) (TfI z x wd) ?askN2 ?okN2 ?badN2
          case askN2 =>
            intro A' l' s' Q' E' cx' R' x' hv he
            refine wpAny_call ?_
            refine call_lam (by have := R'.d; lia) (x' _ _ (NA _ (.head _)).1) ?limN2 ⟨_, _, _, _, rfl, x' _ _ (NA _ (.tail _ (.head _))).1, dA1, dA2⟩ rfl ?_ rfl rfl rfl (by decide)
            case limN2 =>
              obtain ⟨_, _, _, Tn⟩ := cx'.Top
              exact Tn.nolimit
            intro h₁ F1
            obtain ⟨F', N', XE⟩ := lam_frame FA NA (cells := [(s1.heap.objs.size + 1 + 1 + 1 + 1 + 1 + 1 + 1, o7), (s1.heap.objs.size + 1 + 1 + 1 + 1 + 1 + 1, o6), (s1.heap.objs.size + 1 + 1 + 1 + 1 + 1, o5), (s1.heap.objs.size + 1 + 1 + 1 + 1, o4), (s1.heap.objs.size + 1 + 1 + 1, o3), (s1.heap.objs.size + 1 + 1, o2), (s1.heap.objs.size + 1, o1)]) ⟨.tail _ (.tail _ (.tail _ (.tail _ (.tail _ (.head _))))), .tail _ (.tail _ (.tail _ (.tail _ (.tail _ (.tail _ (.head _)))))), .tail _ (.tail _ (.tail _ (.tail _ (.tail _ (.tail _ (.tail _ (.head _))))))), .tail _ (.tail _ (.tail _ (.tail _ (.tail _ (.tail _ (.tail _ (.tail _ (.head _)))))))), .tail _ (.tail _ (.tail _ (.tail _ (.tail _ (.tail _ (.tail _ (.tail _ (.tail _ (.head _))))))))), .tail _ (.tail _ (.tail _ (.tail _ (.tail _ (.tail _ (.tail _ (.tail _ (.tail _ (.tail _ (.head _)))))))))), .tail _ (.tail _ (.tail _ (.tail _ (.tail _ (.tail _ (.tail _ (.tail _ (.tail _ (.tail _ (.tail _ (.head _))))))))))), trivial⟩ x' F1 rfl
            have X' := X0.keeps XE
            have T' := T0.keeps XE
            have F1h : HoldF (Fr _ _ _ _) := F1
            clear F1 FA NA F N
            k_steps
            unfold HoldP
            refine read_int_b _ _ _ _ _ (Cx.pushX cx' F1h (by rfl) (by rfl)) (Rn.deeper R' (by decide)) (by lia) hwd ?q1N2 ?b0N2 ?b1N2
            case q1N2 => exact fun c t h' tk x2 => hv _ [] _ _ (fun b o q => x2 b o (F1h.keep b o q)) Own.nil (TI_ok hwd.1 c)
            case b0N2 => exact fun c e h' tk f => fly_passX cx' F1h (by rfl) (by rfl) f fun h2 f2 => he 1 e h2 tk (TfI_1 c) f2
            case b1N2 => exact fun c e h' tk f => fly_passX cx' F1h (by rfl) (by rfl) f fun h2 f2 => he 2 e h2 tk (TfI_2 c) f2
          case okN2 =>
            intro v own D t h' tk' hp xx oo le
            obtain ⟨hout, rfl, tv, rfl⟩ := hp
            all_goals (have F5 := FA.keeps xx; have N5 := own_app FA NA xx oo; clear FA NA F N)
            all_goals dsimp only [List.cons_append, List.nil_append] at N5 le ⊢
            all_goals k_steps
            all_goals (unfold HoldP; rename News _ _ _ _ => nn; rename Fr _ _ _ _ => ff)
            refine ne_intR hout (nn _ (.tail _ (.head _))).1 (nn _ (.head _)).1 (rn_units (Rn.deeper RC (by decide))) ?_
            all_goals k_steps
            all_goals unfold HoldP
            all_goals exact PartE.intro (by assumption) (by assumption) trivial _ ⟨c2, oc2, ⟨⟨_, _, dA1, dA2⟩, by walk_at "my:cl", by walk_at "my:cl", ⟨by walk_at "my:cl", by walk_at "my:cl", by walk_at "my:cl", by walk_at "my:cl", by walk_at "my:cl", by walk_at "my:cl", by walk_at "my:cl", trivial⟩, by walk_at "my:cl"⟩, rfl⟩ (by k_subL)
          case badN2 =>
            intro cc D t0 t1 h' tk' hp gr oo le
            have F5 := grow_fr FA (fun b hb => List.mem_singleton.mp hb) gr
            have N5 := grow_app FA NA (fun b hb => List.mem_singleton.mp hb) gr oo
            clear FA NA F N
            obtain ⟨hout, hcc⟩ := hp
            all_goals dsimp only [List.cons_append, List.nil_append] at N5 le ⊢
            all_goals k_steps
            all_goals (unfold HoldP; rename News _ _ _ _ => nn; rename Fr _ _ _ _ => ff)
            refine ne_intF hout hcc (nn _ (.tail _ (.head _))).1 (nn _ (.head _)).1 (rn_units (Rn.deeper RC (by decide))) ?_
            all_goals k_steps
            all_goals unfold HoldP
            all_goals exact PartE.intro (by assumption) (by assumption) trivial _ ⟨c2, oc2, ⟨⟨_, _, dA1, dA2⟩, by walk_at "my:cl", by walk_at "my:cl", ⟨by walk_at "my:cl", by walk_at "my:cl", by walk_at "my:cl", by walk_at "my:cl", by walk_at "my:cl", by walk_at "my:cl", by walk_at "my:cl", trivial⟩, by walk_at "my:cl"⟩, rfl⟩ (by k_subL)
        · intro h2 tk2 v2 news2 le2 hn2 F N
          obtain ⟨c2, oc2, lam2, rfl⟩ := hn2
          obtain ⟨⟨vs2, tq2, dv2, dq2⟩, la2, lb2, lc2, ld2⟩ := lam2
          replace hf1 : tf < tk2 := Nat.lt_of_lt_of_le hf1 le2
          try dsimp only at F
          refine cut2 (PySem.Str.ofString "told") (fun nn => ∃ c3 oc3, LamC s1.heap.objs.size I p c3 oc3 ∧ nn = [(c3, oc3), (c2, oc2), (c1, oc1), (I, itR (0 + ((i + 1 : Nat) : Int)) (((4 : Nat) : Int) - ((i + 1 : Nat) : Int))), (p, penO a ta b tb n), (s1.heap.objs.size + 1 + 1 + 1 + 1 + 1 + 1 + 1, o7), (s1.heap.objs.size + 1 + 1 + 1 + 1 + 1 + 1, o6), (s1.heap.objs.size + 1 + 1 + 1 + 1 + 1, o5), (s1.heap.objs.size + 1 + 1 + 1 + 1, o4), (s1.heap.objs.size + 1 + 1 + 1, o3), (s1.heap.objs.size + 1 + 1, o2), (s1.heap.objs.size + 1, o1), (255, tabObj #[rawInt 242, rawInt 26, .ref c1, rawInt 245, rawInt 26, .ref c2, rawInt 248, rawInt 26, .ref c3])]) F ?_ ?_
          · try dsimp only
            k_steps
            unfold HoldP
            rename_i f c3 oc3 vs tq ctv hA tkA FA NA dA1 dA2 lA1 lA2 tkB htkB
            refine wpAny_tok ?_
            refine heard_b _ (Cx.pushX cx0 FA (by rfl) (by rfl)) (FnAt.of NA (.head _)) (Rn.deeper RC (by decide)) (TL x) (TfL x) ?askN3 ?okN3 ?badN3
            case askN3 =>
              intro A' l' s' Q' E' cx' R' x' hv he
              refine wpAny_call ?_
              refine call_lam (by have := R'.d; lia) (x' _ _ (NA _ (.head _)).1) ?limN3 ⟨_, _, _, _, rfl, x' _ _ (NA _ (.tail _ (.head _))).1, dA1, dA2⟩ rfl ?_ rfl rfl rfl (by decide)
              case limN3 =>
                obtain ⟨_, _, _, Tn⟩ := cx'.Top
                exact Tn.nolimit
              intro h₁ F1
              obtain ⟨F', N', XE⟩ := lam_frame FA NA (cells := [(s1.heap.objs.size + 1 + 1 + 1 + 1 + 1 + 1 + 1, o7), (s1.heap.objs.size + 1 + 1 + 1 + 1 + 1 + 1, o6), (s1.heap.objs.size + 1 + 1 + 1 + 1 + 1, o5), (s1.heap.objs.size + 1 + 1 + 1 + 1, o4), (s1.heap.objs.size + 1 + 1 + 1, o3), (s1.heap.objs.size + 1 + 1, o2), (s1.heap.objs.size + 1, o1)]) ⟨.tail _ (.tail _ (.tail _ (.tail _ (.tail _ (.tail _ (.head _)))))), .tail _ (.tail _ (.tail _ (.tail _ (.tail _ (.tail _ (.tail _ (.head _))))))), .tail _ (.tail _ (.tail _ (.tail _ (.tail _ (.tail _ (.tail _ (.tail _ (.head _)))))))), .tail _ (.tail _ (.tail _ (.tail _ (.tail _ (.tail _ (.tail _ (.tail _ (.tail _ (.head _))))))))), .tail _ (.tail _ (.tail _ (.tail _ (.tail _ (.tail _ (.tail _ (.tail _ (.tail _ (.tail _ (.head _)))))))))), .tail _ (.tail _ (.tail _ (.tail _ (.tail _ (.tail _ (.tail _ (.tail _ (.tail _ (.tail _ (.tail _ (.head _))))))))))), .tail _ (.tail _ (.tail _ (.tail _ (.tail _ (.tail _ (.tail _ (.tail _ (.tail _ (.tail _ (.tail _ (.tail _ (.head _)))))))))))), trivial⟩ x' F1 rfl
              have X' := X0.keeps XE
              have T' := T0.keeps XE
              have F1h : HoldF (Fr _ _ _ _) := F1
              clear F1 FA NA F N
              k_steps
              unfold HoldP
              refine read_logical_b _ _ (Cx.pushX cx' F1h (by rfl) (by rfl)) (Rn.deeper R' (by decide)) (by lia) ?q1N3 ?b0N3
              case q1N3 => exact fun c h' tk x2 => hv _ [] _ _ (fun b o q => x2 b o (F1h.keep b o q)) Own.nil ⟨c, rfl, rfl⟩
              case b0N3 => exact fun c e h' tk f => fly_passX cx' F1h (by rfl) (by rfl) f fun h2 f2 => he 1 e h2 tk ⟨rfl, c⟩ f2
            case okN3 =>
              intro v own D t h' tk' hp xx oo le
              obtain ⟨hout, rfl, rfl⟩ := hp
              all_goals (have F5 := FA.keeps xx; have N5 := own_app FA NA xx oo; clear FA NA F N)
              all_goals dsimp only [List.cons_append, List.nil_append] at N5 le ⊢
              all_goals k_steps
              all_goals (unfold HoldP; rename News _ _ _ _ => nn; rename Fr _ _ _ _ => ff)
              all_goals first
                | exact absurd (by assumption) hout
                | refine ne_bool (nn _ (.tail _ (.head _))).1 (nn _ (.head _)).1 ok_ok (rn_units (Rn.deeper RC (by decide))) ?_
              all_goals k_steps
              all_goals unfold HoldP
              all_goals exact PartE.intro (by assumption) (by assumption) trivial _ ⟨c3, oc3, ⟨⟨_, _, dA1, dA2⟩, by walk_at "my:cl", by walk_at "my:cl", ⟨by walk_at "my:cl", by walk_at "my:cl", by walk_at "my:cl", by walk_at "my:cl", by walk_at "my:cl", by walk_at "my:cl", by walk_at "my:cl", trivial⟩, by walk_at "my:cl"⟩, rfl⟩ (by k_subL)
            case badN3 =>
              intro cc D t0 t1 h' tk' hp gr oo le
              have F5 := grow_fr FA (fun b hb => List.mem_singleton.mp hb) gr
              have N5 := grow_app FA NA (fun b hb => List.mem_singleton.mp hb) gr oo
              clear FA NA F N
              obtain ⟨rfl, hout⟩ := hp
              all_goals dsimp only [List.cons_append, List.nil_append] at N5 le ⊢
              all_goals k_steps
              all_goals (unfold HoldP; rename News _ _ _ _ => nn; rename Fr _ _ _ _ => ff)
              all_goals first
                | exact absurd hout (by assumption)
                | refine ne_int (nn _ (.tail _ (.head _))).1 (nn _ (.head _)).1 ok_fault (rn_units (Rn.deeper RC (by decide))) ?_
              all_goals k_steps
              all_goals unfold HoldP
              all_goals exact PartE.intro (by assumption) (by assumption) trivial _ ⟨c3, oc3, ⟨⟨_, _, dA1, dA2⟩, by walk_at "my:cl", by walk_at "my:cl", ⟨by walk_at "my:cl", by walk_at "my:cl", by walk_at "my:cl", by walk_at "my:cl", by walk_at "my:cl", by walk_at "my:cl", by walk_at "my:cl", trivial⟩, by walk_at "my:cl"⟩, rfl⟩ (by k_subL)
          · intro h3 tk3 v3 news3 le3 hn3 F N
            obtain ⟨c3, oc3, lam3, rfl⟩ := hn3
            obtain ⟨⟨vs3, tq3, dv3, dq3⟩, la3, lb3, lc3, ld3⟩ := lam3
            replace hf1 : tf < tk3 := Nat.lt_of_lt_of_le hf1 le3
            try dsimp only at F
            have hxS : (S x).length ≤ 40 := by rw [S_len]; exact hx
            obtain ⟨hln1, hln2⟩ := id hln
            k_steps
            all_goals first
              | exact (text_abs hln1 (by with_reducible assumption)).elim
              | (unfold HoldP
                 rename News _ _ _ _ => nn
                 rename Fr _ _ _ _ => ff
                 refine UnrEnd.intro ff nn ([(p, penO a ta b tb n), (s1.heap.objs.size + 1 + 1 + 1 + 1 + 1 + 1 + 1, o7), (s1.heap.objs.size + 1 + 1 + 1 + 1 + 1 + 1, o6), (s1.heap.objs.size + 1 + 1 + 1 + 1 + 1, o5), (s1.heap.objs.size + 1 + 1 + 1 + 1, o4), (s1.heap.objs.size + 1 + 1 + 1, o3), (s1.heap.objs.size + 1 + 1, o2), (s1.heap.objs.size + 1, o1), (c3, oc3), (c2, oc2), (c1, oc1), (255, tabObj #[rawInt 242, rawInt 26, .ref c1, rawInt 245, rawInt 26, .ref c2, rawInt 248, rawInt 26, .ref c3])]) (fun q hq => SubL.mem (l := (I, _) :: _) (by k_subL) q hq) (off_of ?_) (LInv.mk rfl a ta b tb n o1 o2 o3 o4 o5 o6 o7 _ _ _ _ _ _ _ ha hb e1 e2 e3 e4 e5 e6 e7 _ (TabI.nxt (Nat.succ_pos _) c1 oc1 c2 oc2 c3 oc3 ⟨⟨vs1, tq1, dv1, dq1⟩, la1, lb1, lc1, ld1⟩ ⟨⟨vs2, tq2, dv2, dq2⟩, la2, lb2, lc2, ld2⟩ ⟨⟨vs3, tq3, dv3, dq3⟩, la3, lb3, lc3, ld3⟩ rfl) rfl)
                 dsimp only [AllNe]
                 refine ⟨?_, ?_, ?_, ?_, ?_, ?_, ?_, ?_, ?_, ?_, ?_, ?_, trivial⟩ <;> k_ne)
    · obtain ⟨⟨vs1, tq1, dv1, dq1⟩, la1, lb1, lc1, ld1⟩ := lam1
      obtain ⟨⟨vs2, tq2, dv2, dq2⟩, la2, lb2, lc2, ld2⟩ := lam2
      obtain ⟨⟨vs3, tq3, dv3, dq3⟩, la3, lb3, lc3, ld3⟩ := lam3
      replace N := News.sub (news := [(c3, oc3), (c2, oc2), (c1, oc1), (I, itR (0 + ((i + 1 : Nat) : Int)) (((4 : Nat) : Int) - ((i + 1 : Nat) : Int))), (p, penO a ta b tb n), (s1.heap.objs.size + 1 + 1 + 1 + 1 + 1 + 1 + 1, o7), (s1.heap.objs.size + 1 + 1 + 1 + 1 + 1 + 1, o6), (s1.heap.objs.size + 1 + 1 + 1 + 1 + 1, o5), (s1.heap.objs.size + 1 + 1 + 1 + 1, o4), (s1.heap.objs.size + 1 + 1 + 1, o3), (s1.heap.objs.size + 1 + 1, o2), (s1.heap.objs.size + 1, o1), (255, tabObj #[rawInt 242, rawInt 26, .ref c1, rawInt 245, rawInt 26, .ref c2, rawInt 248, rawInt 26, .ref c3])]) N ⟨.tail _ (.tail _ (.tail _ (.tail _ (.tail _ (.tail _ (.tail _ (.tail _ (.tail _ (.head _))))))))), .tail _ (.tail _ (.tail _ (.tail _ (.tail _ (.tail _ (.tail _ (.tail _ (.tail _ (.tail _ (.head _)))))))))), .tail _ (.tail _ (.tail _ (.tail _ (.tail _ (.tail _ (.tail _ (.tail _ (.tail _ (.tail _ (.tail _ (.head _))))))))))), .head _, .tail _ (.head _), .tail _ (.tail _ (.head _)), .tail _ (.tail _ (.tail _ (.head _))), .tail _ (.tail _ (.tail _ (.tail _ (.head _)))), .tail _ (.tail _ (.tail _ (.tail _ (.tail _ (.head _))))), .tail _ (.tail _ (.tail _ (.tail _ (.tail _ (.tail _ (.head _)))))), .tail _ (.tail _ (.tail _ (.tail _ (.tail _ (.tail _ (.tail _ (.head _))))))), .tail _ (.tail _ (.tail _ (.tail _ (.tail _ (.tail _ (.tail _ (.tail _ (.head _)))))))), .tail _ (.tail _ (.tail _ (.tail _ (.tail _ (.tail _ (.tail _ (.tail _ (.tail _ (.tail _ (.tail _ (.tail _ (.head _)))))))))))), trivial⟩
      refine cut2 (PySem.Str.ofString "told") (fun nn => nn = [(c3, oc3), (c2, oc2), (c1, oc1), (I, itR (0 + ((i + 1 : Nat) : Int)) (((4 : Nat) : Int) - ((i + 1 : Nat) : Int))), (p, penO a ta b tb n), (s1.heap.objs.size + 1 + 1 + 1 + 1 + 1 + 1 + 1, o7), (s1.heap.objs.size + 1 + 1 + 1 + 1 + 1 + 1, o6), (s1.heap.objs.size + 1 + 1 + 1 + 1 + 1, o5), (s1.heap.objs.size + 1 + 1 + 1 + 1, o4), (s1.heap.objs.size + 1 + 1 + 1, o3), (s1.heap.objs.size + 1 + 1, o2), (s1.heap.objs.size + 1, o1), (255, tabObj #[rawInt 242, rawInt 26, .ref c1, rawInt 245, rawInt 26, .ref c2, rawInt 248, rawInt 26, .ref c3])]) F ?_ ?_
      · try dsimp only
        k_steps
        unfold HoldP
        rename_i f ctv hA tkA FA NA lA1 tkB htkB
        refine wpAny_tok ?_
        refine heard_b _ (Cx.pushX cx0 FA (by rfl) (by rfl)) (FnAt.of NA (.head _)) (Rn.deeper RC (by decide)) (TR z x d sc dg tp) (TfR z x d sc dg tp) ?askH1 ?okH1 ?badH1
        case askH1 =>
          intro A' l' s' Q' E' cx' R' x' hv he
          refine wpAny_call ?_
          refine call_lam (by have := R'.d; lia) (x' _ _ (NA _ (.head _)).1) ?limH1 ⟨_, _, _, _, rfl, x' _ _ (NA _ (.tail _ (.tail _ (.tail _ (.head _))))).1, dv1, dq1⟩ rfl ?_ rfl rfl rfl (by decide)
          case limH1 =>
            obtain ⟨_, _, _, Tn⟩ := cx'.Top
            exact Tn.nolimit
          intro h₁ F1
          obtain ⟨F', N', XE⟩ := lam_frame FA NA (cells := [(s1.heap.objs.size + 1 + 1 + 1 + 1 + 1 + 1 + 1, o7), (s1.heap.objs.size + 1 + 1 + 1 + 1 + 1 + 1, o6), (s1.heap.objs.size + 1 + 1 + 1 + 1 + 1, o5), (s1.heap.objs.size + 1 + 1 + 1 + 1, o4), (s1.heap.objs.size + 1 + 1 + 1, o3), (s1.heap.objs.size + 1 + 1, o2), (s1.heap.objs.size + 1, o1)]) ⟨.tail _ (.tail _ (.tail _ (.tail _ (.tail _ (.tail _ (.head _)))))), .tail _ (.tail _ (.tail _ (.tail _ (.tail _ (.tail _ (.tail _ (.head _))))))), .tail _ (.tail _ (.tail _ (.tail _ (.tail _ (.tail _ (.tail _ (.tail _ (.head _)))))))), .tail _ (.tail _ (.tail _ (.tail _ (.tail _ (.tail _ (.tail _ (.tail _ (.tail _ (.head _))))))))), .tail _ (.tail _ (.tail _ (.tail _ (.tail _ (.tail _ (.tail _ (.tail _ (.tail _ (.tail _ (.head _)))))))))), .tail _ (.tail _ (.tail _ (.tail _ (.tail _ (.tail _ (.tail _ (.tail _ (.tail _ (.tail _ (.tail _ (.head _))))))))))), .tail _ (.tail _ (.tail _ (.tail _ (.tail _ (.tail _ (.tail _ (.tail _ (.tail _ (.tail _ (.tail _ (.tail _ (.head _)))))))))))), trivial⟩ x' F1 rfl
          have X' := X0.keeps XE
          have T' := T0.keeps XE
          have F1h : HoldF (Fr _ _ _ _) := F1
          clear F1 FA NA F N
          k_steps
          unfold HoldP
          refine read_real_b _ _ _ _ _ _ _ _ _ _ _ (Cx.pushX cx' F1h (by rfl) (by rfl)) (Rn.deeper R' (by decide)) hx hdg ?q0H1 ?q1H1 ?b0H1 ?b1H1
          case q0H1 => exact fun c h' tk x2 => hv _ [] _ _ (fun b o q => x2 b o (F1h.keep b o q)) Own.nil (TR_0 c)
          case q1H1 => exact fun c D t0 t1 h' tk x2 y zz => hv _ [(D, _)] _ _ (fun b o q => x2 b o (F1h.keep b o q)) (Own.one y (none_of F1h.keep zz)) (TR_1 c)
          case b0H1 => exact fun c e h' tk f => fly_passX cx' F1h (by rfl) (by rfl) f fun h2 f2 => he 1 e h2 tk (TfR_1 c) f2
          case b1H1 => exact fun c e h' tk f => fly_passX cx' F1h (by rfl) (by rfl) f fun h2 f2 => he 2 e h2 tk (TfR_2 c) f2
        case okH1 =>
          intro v own D t h' tk' hp xx oo le
          rcases hp with ⟨hout, ⟨rfl, rfl, hV⟩ | ⟨D2, t0, t1, rfl, rfl⟩⟩
          all_goals (have F5 := FA.keeps xx; have N5 := own_app FA NA xx oo; clear FA NA F N)
          all_goals dsimp only [List.cons_append, List.nil_append] at N5 le ⊢
          all_goals k_steps
          all_goals (unfold HoldP; rename News _ _ _ _ => nn; rename Fr _ _ _ _ => ff)
          all_goals first
            | (have e1 := out_B (z := z) (x := x) (d := d) (sc := sc) (dg := dg) (tp := tp) (by with_reducible assumption); lia)
            | (have e1 := out_F (z := z) (x := x) (d := d) (sc := sc) (dg := dg) (tp := tp) (by with_reducible assumption); lia)
            | refine ne_real (nn _ (.tail _ (.tail _ (.head _)))).1 (nn _ (.head _)).1 (a := (realV z x d sc dg tp).1) (b := (realV z x d sc dg tp).2) (by rw [hV]; exact Reads.keeps ff.keep r66) (reads_pair (nn _ (.tail _ (.head _))).1 (.int _ _) (.int _ _)) ok_ok (rn_units (Rn.deeper RC (by decide))) ?_
            | refine ne_real (nn _ (.tail _ (.tail _ (.head _)))).1 (nn _ (.head _)).1 (a := (realV z x d sc dg tp).1) (b := (realV z x d sc dg tp).2) (reads_pair (nn _ (.tail _ (.tail _ (.tail _ (.head _))))).1 (.int _ _) (.int _ _)) (reads_pair (nn _ (.tail _ (.head _))).1 (.int _ _) (.int _ _)) ok_ok (rn_units (Rn.deeper RC (by decide))) ?_
          all_goals k_steps
          all_goals unfold HoldP
          all_goals exact PartE.intro (by assumption) (by assumption) trivial _ rfl (by k_subL)
        case badH1 =>
          intro cc D t0 t1 h' tk' hp gr oo le
          have F5 := grow_fr FA (fun b hb => List.mem_singleton.mp hb) gr
          have N5 := grow_app FA NA (fun b hb => List.mem_singleton.mp hb) gr oo
          clear FA NA F N
          rcases hp with ⟨rfl, hout⟩ | ⟨rfl, hout⟩
          all_goals dsimp only [List.cons_append, List.nil_append] at N5 le ⊢
          all_goals k_steps
          all_goals (unfold HoldP; rename News _ _ _ _ => nn; rename Fr _ _ _ _ => ff)
          all_goals first
            | (have e1 := out_O (z := z) (x := x) (d := d) (sc := sc) (dg := dg) (tp := tp) (by with_reducible assumption); lia)
            | (have e1 := out_B (z := z) (x := x) (d := d) (sc := sc) (dg := dg) (tp := tp) (by with_reducible assumption); lia)
            | (have e1 := out_F (z := z) (x := x) (d := d) (sc := sc) (dg := dg) (tp := tp) (by with_reducible assumption); lia)
            | refine ne_int (nn _ (.tail _ (.head _))).1 (nn _ (.head _)).1 ok_fault (rn_units (Rn.deeper RC (by decide))) ?_
          all_goals k_steps
          all_goals unfold HoldP
          all_goals exact PartE.intro (by assumption) (by assumption) trivial _ rfl (by k_subL)
      · intro h1 tk1 v1 news1 le1 hn1 F N
        obtain rfl := hn1
        replace hf1 : tf < tk1 := Nat.lt_of_lt_of_le hf1 le1
        try dsimp only at F
        refine cut2 (PySem.Str.ofString "told") (fun nn => nn = [(c3, oc3), (c2, oc2), (c1, oc1), (I, itR (0 + ((i + 1 : Nat) : Int)) (((4 : Nat) : Int) - ((i + 1 : Nat) : Int))), (p, penO a ta b tb n), (s1.heap.objs.size + 1 + 1 + 1 + 1 + 1 + 1 + 1, o7), (s1.heap.objs.size + 1 + 1 + 1 + 1 + 1 + 1, o6), (s1.heap.objs.size + 1 + 1 + 1 + 1 + 1, o5), (s1.heap.objs.size + 1 + 1 + 1 + 1, o4), (s1.heap.objs.size + 1 + 1 + 1, o3), (s1.heap.objs.size + 1 + 1, o2), (s1.heap.objs.size + 1, o1), (255, tabObj #[rawInt 242, rawInt 26, .ref c1, rawInt 245, rawInt 26, .ref c2, rawInt 248, rawInt 26, .ref c3])]) F ?_ ?_
        · try dsimp only
          k_steps
          unfold HoldP
          rename_i f ctv hA tkA FA NA lA1 tkB htkB
          refine wpAny_tok ?_
          refine heard_b _ (Cx.pushX cx0 FA (by rfl) (by rfl)) (FnAt.of NA (.head _)) (Rn.deeper RC (by decide)) (TI z x wd) (TfI z x wd) ?askH2 ?okH2 ?badH2
          case askH2 =>
            intro A' l' s' Q' E' cx' R' x' hv he
            refine wpAny_call ?_
            refine call_lam (by have := R'.d; lia) (x' _ _ (NA _ (.head _)).1) ?limH2 ⟨_, _, _, _, rfl, x' _ _ (NA _ (.tail _ (.tail _ (.head _)))).1, dv2, dq2⟩ rfl ?_ rfl rfl rfl (by decide)
            case limH2 =>
              obtain ⟨_, _, _, Tn⟩ := cx'.Top
              exact Tn.nolimit
            intro h₁ F1
            obtain ⟨F', N', XE⟩ := lam_frame FA NA (cells := [(s1.heap.objs.size + 1 + 1 + 1 + 1 + 1 + 1 + 1, o7), (s1.heap.objs.size + 1 + 1 + 1 + 1 + 1 + 1, o6), (s1.heap.objs.size + 1 + 1 + 1 + 1 + 1, o5), (s1.heap.objs.size + 1 + 1 + 1 + 1, o4), (s1.heap.objs.size + 1 + 1 + 1, o3), (s1.heap.objs.size + 1 + 1, o2), (s1.heap.objs.size + 1, o1)]) ⟨.tail _ (.tail _ (.tail _ (.tail _ (.tail _ (.tail _ (.head _)))))), .tail _ (.tail _ (.tail _ (.tail _ (.tail _ (.tail _ (.tail _ (.head _))))))), .tail _ (.tail _ (.tail _ (.tail _ (.tail _ (.tail _ (.tail _ (.tail _ (.head _)))))))), .tail _ (.tail _ (.tail _ (.tail _ (.tail _ (.tail _ (.tail _ (.tail _ (.tail _ (.head _))))))))), .tail _ (.tail _ (.tail _ (.tail _ (.tail _ (.tail _ (.tail _ (.tail _ (.tail _ (.tail _ (.head _)))))))))), .tail _ (.tail _ (.tail _ (.tail _ (.tail _ (.tail _ (.tail _ (.tail _ (.tail _ (.tail _ (.tail _ (.head _))))))))))), .tail _ (.tail _ (.tail _ (.tail _ (.tail _ (.tail _ (.tail _ (.tail _ (.tail _ (.tail _ (.tail _ (.tail _ (.head _)))))))))))), trivial⟩ x' F1 rfl
            have X' := X0.keeps XE
            have T' := T0.keeps XE
            have F1h : HoldF (Fr _ _ _ _) := F1
            clear F1 FA NA F N
            k_steps
            unfold HoldP
            refine read_int_b _ _ _ _ _ (Cx.pushX cx' F1h (by rfl) (by rfl)) (Rn.deeper R' (by decide)) (by lia) hwd ?q1H2 ?b0H2 ?b1H2
            case q1H2 => exact fun c t h' tk x2 => hv _ [] _ _ (fun b o q => x2 b o (F1h.keep b o q)) Own.nil (TI_ok hwd.1 c)
            case b0H2 => exact fun c e h' tk f => fly_passX cx' F1h (by rfl) (by rfl) f fun h2 f2 => he 1 e h2 tk (TfI_1 c) f2
            case b1H2 => exact fun c e h' tk f => fly_passX cx' F1h (by rfl) (by rfl) f fun h2 f2 => he 2 e h2 tk (TfI_2 c) f2
          case okH2 =>
            intro v own D t h' tk' hp xx oo le
            obtain ⟨hout, rfl, tv, rfl⟩ := hp
            all_goals (have F5 := FA.keeps xx; have N5 := own_app FA NA xx oo; clear FA NA F N)
            all_goals dsimp only [List.cons_append, List.nil_append] at N5 le ⊢
            all_goals k_steps
            all_goals (unfold HoldP; rename News _ _ _ _ => nn; rename Fr _ _ _ _ => ff)
            refine ne_intR hout (nn _ (.tail _ (.head _))).1 (nn _ (.head _)).1 (rn_units (Rn.deeper RC (by decide))) ?_
            all_goals k_steps
            all_goals unfold HoldP
            all_goals exact PartE.intro (by assumption) (by assumption) trivial _ rfl (by k_subL)
          case badH2 =>
            intro cc D t0 t1 h' tk' hp gr oo le
            have F5 := grow_fr FA (fun b hb => List.mem_singleton.mp hb) gr
            have N5 := grow_app FA NA (fun b hb => List.mem_singleton.mp hb) gr oo
            clear FA NA F N
            obtain ⟨hout, hcc⟩ := hp
            all_goals dsimp only [List.cons_append, List.nil_append] at N5 le ⊢
            all_goals k_steps
            all_goals (unfold HoldP; rename News _ _ _ _ => nn; rename Fr _ _ _ _ => ff)
            refine ne_intF hout hcc (nn _ (.tail _ (.head _))).1 (nn _ (.head _)).1 (rn_units (Rn.deeper RC (by decide))) ?_
            all_goals k_steps
            all_goals unfold HoldP
            all_goals exact PartE.intro (by assumption) (by assumption) trivial _ rfl (by k_subL)
        · intro h2 tk2 v2 news2 le2 hn2 F N
          obtain rfl := hn2
          replace hf1 : tf < tk2 := Nat.lt_of_lt_of_le hf1 le2
          try dsimp only at F
          refine cut2 (PySem.Str.ofString "told") (fun nn => nn = [(c3, oc3), (c2, oc2), (c1, oc1), (I, itR (0 + ((i + 1 : Nat) : Int)) (((4 : Nat) : Int) - ((i + 1 : Nat) : Int))), (p, penO a ta b tb n), (s1.heap.objs.size + 1 + 1 + 1 + 1 + 1 + 1 + 1, o7), (s1.heap.objs.size + 1 + 1 + 1 + 1 + 1 + 1, o6), (s1.heap.objs.size + 1 + 1 + 1 + 1 + 1, o5), (s1.heap.objs.size + 1 + 1 + 1 + 1, o4), (s1.heap.objs.size + 1 + 1 + 1, o3), (s1.heap.objs.size + 1 + 1, o2), (s1.heap.objs.size + 1, o1), (255, tabObj #[rawInt 242, rawInt 26, .ref c1, rawInt 245, rawInt 26, .ref c2, rawInt 248, rawInt 26, .ref c3])]) F ?_ ?_
          · try dsimp only
            k_steps
            unfold HoldP
            rename_i f ctv hA tkA FA NA lA1 tkB htkB
            refine wpAny_tok ?_
            refine heard_b _ (Cx.pushX cx0 FA (by rfl) (by rfl)) (FnAt.of NA (.head _)) (Rn.deeper RC (by decide)) (TL x) (TfL x) ?askH3 ?okH3 ?badH3
            case askH3 =>
              intro A' l' s' Q' E' cx' R' x' hv he
              refine wpAny_call ?_
              refine call_lam (by have := R'.d; lia) (x' _ _ (NA _ (.head _)).1) ?limH3 ⟨_, _, _, _, rfl, x' _ _ (NA _ (.tail _ (.head _))).1, dv3, dq3⟩ rfl ?_ rfl rfl rfl (by decide)
              case limH3 =>
                obtain ⟨_, _, _, Tn⟩ := cx'.Top
                exact Tn.nolimit
              intro h₁ F1
              obtain ⟨F', N', XE⟩ := lam_frame FA NA (cells := [(s1.heap.objs.size + 1 + 1 + 1 + 1 + 1 + 1 + 1, o7), (s1.heap.objs.size + 1 + 1 + 1 + 1 + 1 + 1, o6), (s1.heap.objs.size + 1 + 1 + 1 + 1 + 1, o5), (s1.heap.objs.size + 1 + 1 + 1 + 1, o4), (s1.heap.objs.size + 1 + 1 + 1, o3), (s1.heap.objs.size + 1 + 1, o2), (s1.heap.objs.size + 1, o1)]) ⟨.tail _ (.tail _ (.tail _ (.tail _ (.tail _ (.tail _ (.head _)))))), .tail _ (.tail _ (.tail _ (.tail _ (.tail _ (.tail _ (.tail _ (.head _))))))), .tail _ (.tail _ (.tail _ (.tail _ (.tail _ (.tail _ (.tail _ (.tail _ (.head _)))))))), .tail _ (.tail _ (.tail _ (.tail _ (.tail _ (.tail _ (.tail _ (.tail _ (.tail _ (.head _))))))))), .tail _ (.tail _ (.tail _ (.tail _ (.tail _ (.tail _ (.tail _ (.tail _ (.tail _ (.tail _ (.head _)))))))))), .tail _ (.tail _ (.tail _ (.tail _ (.tail _ (.tail _ (.tail _ (.tail _ (.tail _ (.tail _ (.tail _ (.head _))))))))))), .tail _ (.tail _ (.tail _ (.tail _ (.tail _ (.tail _ (.tail _ (.tail _ (.tail _ (.tail _ (.tail _ (.tail _ (.head _)))))))))))), trivial⟩ x' F1 rfl
              have X' := X0.keeps XE
              have T' := T0.keeps XE
              have F1h : HoldF (Fr _ _ _ _) := F1
              clear F1 FA NA F N
              k_steps
              unfold HoldP
              refine read_logical_b _ _ (Cx.pushX cx' F1h (by rfl) (by rfl)) (Rn.deeper R' (by decide)) (by lia) ?q1H3 ?b0H3
              case q1H3 => exact fun c h' tk x2 => hv _ [] _ _ (fun b o q => x2 b o (F1h.keep b o q)) Own.nil ⟨c, rfl, rfl⟩
              case b0H3 => exact fun c e h' tk f => fly_passX cx' F1h (by rfl) (by rfl) f fun h2 f2 => he 1 e h2 tk ⟨rfl, c⟩ f2
            case okH3 =>
              intro v own D t h' tk' hp xx oo le
              obtain ⟨hout, rfl, rfl⟩ := hp
              all_goals (have F5 := FA.keeps xx; have N5 := own_app FA NA xx oo; clear FA NA F N)
              all_goals dsimp only [List.cons_append, List.nil_append] at N5 le ⊢
              all_goals k_steps
              all_goals (unfold HoldP; rename News _ _ _ _ => nn; rename Fr _ _ _ _ => ff)
              all_goals first
                | exact absurd (by assumption) hout
                | refine ne_bool (nn _ (.tail _ (.head _))).1 (nn _ (.head _)).1 ok_ok (rn_units (Rn.deeper RC (by decide))) ?_
              all_goals k_steps
              all_goals unfold HoldP
              all_goals exact PartE.intro (by assumption) (by assumption) trivial _ rfl (by k_subL)
            case badH3 =>
              intro cc D t0 t1 h' tk' hp gr oo le
              have F5 := grow_fr FA (fun b hb => List.mem_singleton.mp hb) gr
              have N5 := grow_app FA NA (fun b hb => List.mem_singleton.mp hb) gr oo
              clear FA NA F N
              obtain ⟨rfl, hout⟩ := hp
              all_goals dsimp only [List.cons_append, List.nil_append] at N5 le ⊢
              all_goals k_steps
              all_goals (unfold HoldP; rename News _ _ _ _ => nn; rename Fr _ _ _ _ => ff)
              all_goals first
                | exact absurd hout (by assumption)
                | refine ne_int (nn _ (.tail _ (.head _))).1 (nn _ (.head _)).1 ok_fault (rn_units (Rn.deeper RC (by decide))) ?_
              all_goals k_steps
              all_goals unfold HoldP
              all_goals exact PartE.intro (by assumption) (by assumption) trivial _ rfl (by k_subL)
          · intro h3 tk3 v3 news3 le3 hn3 F N
            obtain rfl := hn3
            replace hf1 : tf < tk3 := Nat.lt_of_lt_of_le hf1 le3
            try dsimp only at F
            have hxS : (S x).length ≤ 40 := by rw [S_len]; exact hx
            obtain ⟨hln1, hln2⟩ := id hln
            k_steps
            all_goals first
              | exact (text_abs hln1 (by with_reducible assumption)).elim
              | (unfold HoldP
                 rename News _ _ _ _ => nn
                 rename Fr _ _ _ _ => ff
                 refine UnrEnd.intro ff nn ([(p, penO a ta b tb n), (s1.heap.objs.size + 1 + 1 + 1 + 1 + 1 + 1 + 1, o7), (s1.heap.objs.size + 1 + 1 + 1 + 1 + 1 + 1, o6), (s1.heap.objs.size + 1 + 1 + 1 + 1 + 1, o5), (s1.heap.objs.size + 1 + 1 + 1 + 1, o4), (s1.heap.objs.size + 1 + 1 + 1, o3), (s1.heap.objs.size + 1 + 1, o2), (s1.heap.objs.size + 1, o1), (c3, oc3), (c2, oc2), (c1, oc1), (255, tabObj #[rawInt 242, rawInt 26, .ref c1, rawInt 245, rawInt 26, .ref c2, rawInt 248, rawInt 26, .ref c3])]) (fun q hq => SubL.mem (l := (I, _) :: _) (by k_subL) q hq) (off_of ?_) (LInv.mk rfl a ta b tb n o1 o2 o3 o4 o5 o6 o7 _ _ _ _ _ _ _ ha hb e1 e2 e3 e4 e5 e6 e7 _ (TabI.nxt (Nat.succ_pos _) c1 oc1 c2 oc2 c3 oc3 ⟨⟨vs1, tq1, dv1, dq1⟩, la1, lb1, lc1, ld1⟩ ⟨⟨vs2, tq2, dv2, dq2⟩, la2, lb2, lc2, ld2⟩ ⟨⟨vs3, tq3, dv3, dq3⟩, la3, lb3, lc3, ld3⟩ rfl) rfl)
                 dsimp only [AllNe]
                 refine ⟨?_, ?_, ?_, ?_, ?_, ?_, ?_, ?_, ?_, ?_, ?_, ?_, trivial⟩ <;> k_ne)
  · rintro m news ⟨hm, a, ta, b, tb, n, o1, o2, o3, o4, o5, o6, o7, v1, v2, v3, v4, v5, v6, v7, ha, hb, d1, d2, d3, d4, d5, d6, d7, tab, ht, rfl⟩
    rcases ht with ⟨hi, rfl⟩ | ⟨hi, c1, oc1, c2, oc2, c3, oc3, lam1, lam2, lam3, rfl⟩
    · cases hi
    · intro h tk F N
      k_steps
  · exact LInv.mk rfl a ta b tb n _ _ _ _ _ _ _ _ _ _ _ _ _ _ ha hb (by assumption) (by assumption) (by assumption) (by assumption) (by assumption) (by assumption) (by assumption) _ (TabI.fst rfl rfl) rfl
end Mine
end
theorem PySem.Challenge.cw_no0239_01_holds : PySem.Challenge.rw_no0239_01.Holds :=
  Mine.law_top
